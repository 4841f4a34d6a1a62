import PyProof.Rows.All
import Wide.All
import OpenK.AllK
import Wide.FinOn
import HandS.ForMost
import HandS.HeadHook2
import PyProof.StrBlock2
import KE.SortData
import KE.SortKeyHeap
import HandS.Style
import HandS.TupAny
import HandS.Deep
import HandS.IsInst
import HandS.Flow
import HandS.CallSlots
import HandS.ExcOwn
import KE.GoesEnum
import HandS.Zip
import HandS.Comp
import HandS.Iter
import HandS.Small
import KE.KExcSuper
import HandS.ExcInit
import HandS.ExcSuper
import HandS.TryMany
import HandS.ExcField
import KE.KExcIs
import HandS.Head2
import HandS.HeadEnd
import KE.DataMinMax
import PyProof.InstNe
import KE.GoesRaise
import HandS.Exc
import PySem.Challenge.RW_pawnkept_k09_whole_sales
set_option Elab.async false
set_option linter.all false
set_option maxRecDepth 100000
/-! Eng 1: data, what represents it, what stays -/
namespace Eng
open PySem PySem.Spec PyProof.Rows L2

/-- plain data; obj n: the n-th object of the store (it may change); fn x: a def of the module -/
inductive D where
  | non | bl (b : Bool) | int (i : Int) | str (x : Str)
  | tup (ds : List D) | lst (ds : List D)
  | dic (ks : List Key) (ds : List D)
  | ins (c : Str) (ks : List Str) (ds : List D)
  | obj (n : Nat)
  | fn (x : Str)
  | scr (ns : List Int)
  deriving Inhabited
abbrev Store := List D

mutual
inductive Rep (K : PySem.W.Frag) (F : Hp) (T : List Addr) : V → D → Prop
  | non : Rep K F T .non .non
  | bl (b : Bool) : Rep K F T (.bl b) (.bl b)
  | int (i : Int) : Rep K F T (.int i) (.int i)
  | str (x : Str) : Rep K F T (.str x) (.str x)
  | tup {a : Addr} {xs : List V} {ds : List D} : SqT K F a xs → Reps K F T xs ds → Rep K F T (.ref a) (.tup ds)
  | lst {a : Addr} {xs : List V} {ds : List D} : F a = some (.lst xs) → Reps K F T xs ds → Rep K F T (.ref a) (.lst ds)
  | dic {a : Addr} {kvs : List (Key × V)} {ks : List Key} {ds : List D} : F a = some (.dK kvs) → kvs.map (·.1) = ks → Reps K F T (kvs.map (·.2)) ds → Rep K F T (.ref a) (.dic ks ds)
  | ins {a dx : Addr} {c : Str} {fs : List (Str × V)} {ks : List Str} {ds : List D} : F a = some (.ins (He.ga K c) dx fs) → fs.map (·.1) = ks → Reps K F T (fs.map (·.2)) ds → Rep K F T (.ref a) (.ins c ks ds)
  | obj {n : Nat} {a : Addr} : T[n]? = some a → Rep K F T (.ref a) (.obj n)
  | fn {x : Str} : Rep K F T (.ref (He.ga K x)) (.fn x)
  | scr {a : Addr} {ns : List Int} : SqL K F a (ns.map V.int) → Rep K F T (.ref a) (.scr ns)
inductive Reps (K : PySem.W.Frag) (F : Hp) (T : List Addr) : List V → List D → Prop
  | nil : Reps K F T [] []
  | cons {v : V} {vs : List V} {d : D} {ds : List D} : Rep K F T v d → Reps K F T vs ds → Reps K F T (v :: vs) (d :: ds)
end

def Pre (T T' : List Addr) : Prop := ∀ (n : Nat) (a : Addr), T[n]? = some a → T'[n]? = some a
theorem Pre.refl (T : List Addr) : Pre T T := fun _ _ h => h
theorem Pre.trans {A B C : List Addr} (h : Pre A B) (k : Pre B C) : Pre A C := fun n a e => k n a (h n a e)
theorem Pre.snoc (T : List Addr) (a : Addr) : Pre T (T ++ [a]) := fun n b e => by
  have h : n < T.length := (List.getElem?_eq_some_iff.mp e).1
  rw [List.getElem?_append_left h]; exact e
theorem Pre.mem {A B : List Addr} (h : Pre A B) {a : Addr} (m : a ∈ A) : a ∈ B := by
  obtain ⟨n, e⟩ := List.mem_iff_getElem?.mp m
  exact List.mem_iff_getElem?.mpr ⟨n, h n a e⟩
theorem Pre.len {A B : List Addr} (h : Pre A B) : A.length ≤ B.length := by
  by_cases q : A.length ≤ B.length
  · exact q
  · have e : A[B.length]? = some (A[B.length]'(by omega)) := by simp
    have := h _ _ e
    rw [List.getElem?_eq_none (Nat.le_refl _)] at this; cases this

theorem sqT_mono {K : PySem.W.Frag} {H H' : Hp} {a : Addr} {xs : List V} (e : Same H H') (h : SqT K H a xs) : SqT K H' a xs := by
  rcases h with (h | ⟨o, h⟩) | h
  · exact .inl (.inl (e _ _ h))
  · exact .inl (.inr ⟨o, e _ _ h⟩)
  · exact .inr h

mutual
theorem Rep.mono {K : PySem.W.Frag} {F F' : Hp} {T T' : List Addr} (hF : Same F F') (hT : Pre T T') : ∀ {v : V} {d : D}, Rep K F T v d → Rep K F' T' v d
  | _, .non, h => by cases h; exact .non
  | _, .bl _, h => by cases h; exact .bl _
  | _, .int _, h => by cases h; exact .int _
  | _, .str _, h => by cases h; exact .str _
  | _, .tup ds, h => by cases h with | tup q r => exact .tup (sqT_mono hF q) (Reps.mono hF hT r)
  | _, .lst ds, h => by cases h with | lst q r => exact .lst (hF _ _ q) (Reps.mono hF hT r)
  | _, .dic ks ds, h => by cases h with | dic q e r => exact .dic (hF _ _ q) e (Reps.mono hF hT r)
  | _, .ins c ks ds, h => by cases h with | ins q e r => exact .ins (hF _ _ q) e (Reps.mono hF hT r)
  | _, .obj n, h => by cases h with | obj q => exact .obj (hT _ _ q)
  | _, .fn x, h => by cases h; exact .fn
  | _, .scr ns, h => by cases h with | scr q => exact .scr (hF.seq q)
theorem Reps.mono {K : PySem.W.Frag} {F F' : Hp} {T T' : List Addr} (hF : Same F F') (hT : Pre T T') : ∀ {vs : List V} {ds : List D}, Reps K F T vs ds → Reps K F' T' vs ds
  | _, [], h => by cases h; exact .nil
  | _, d :: ds, h => by cases h with | cons a b => exact .cons (Rep.mono hF hT a) (Reps.mono hF hT b)
end

section
variable {K : PySem.W.Frag} {F : Hp} {T : List Addr}
theorem Reps.length : ∀ {vs : List V} {ds : List D}, Reps K F T vs ds → vs.length = ds.length
  | _, _, .nil => rfl
  | _, _, .cons _ r => congrArg Nat.succ r.length
theorem Reps.get : ∀ {vs : List V} {ds : List D} {i : Nat} {d : D}, Reps K F T vs ds → ds[i]? = some d → ∃ v, vs[i]? = some v ∧ Rep K F T v d
  | _, _, _, _, .nil, e => by simp at e
  | _, _, 0, _, .cons r _, e => by simp at e; subst e; exact ⟨_, rfl, r⟩
  | _, _, i + 1, d, .cons _ t, e => by
    obtain ⟨u, h1, h2⟩ := Reps.get (i := i) (d := d) t (by simpa using e)
    exact ⟨u, by simpa using h1, h2⟩
theorem Reps.get' : ∀ {vs : List V} {ds : List D} {i : Nat} {v : V}, Reps K F T vs ds → vs[i]? = some v → ∃ d, ds[i]? = some d ∧ Rep K F T v d
  | _, _, _, _, .nil, e => by simp at e
  | _, _, 0, _, .cons r _, e => by simp at e; subst e; exact ⟨_, rfl, r⟩
  | _, _, i + 1, d, .cons _ t, e => by
    obtain ⟨u, h1, h2⟩ := Reps.get' (i := i) (v := d) t (by simpa using e)
    exact ⟨u, by simpa using h1, h2⟩
theorem Reps.append : ∀ {vs ws : List V} {ds es : List D}, Reps K F T vs ds → Reps K F T ws es → Reps K F T (vs ++ ws) (ds ++ es)
  | _, _, _, _, .nil, s => s
  | _, _, _, _, .cons r t, s => .cons r (t.append s)
theorem Reps.take : ∀ {vs : List V} {ds : List D} (n : Nat), Reps K F T vs ds → Reps K F T (vs.take n) (ds.take n)
  | _, _, 0, _ => .nil
  | _, _, _ + 1, .nil => .nil
  | _, _, n + 1, .cons r t => .cons r (t.take n)
theorem Reps.drop : ∀ {vs : List V} {ds : List D} (n : Nat), Reps K F T vs ds → Reps K F T (vs.drop n) (ds.drop n)
  | _, _, 0, r => r
  | _, _, _ + 1, .nil => .nil
  | _, _, n + 1, .cons _ t => t.drop n
theorem Reps.set {v : V} {d : D} (r : Rep K F T v d) : ∀ {vs : List V} {ds : List D} (i : Nat), Reps K F T vs ds → Reps K F T (vs.set i v) (ds.set i d)
  | _, _, _, .nil => .nil
  | _, _, 0, .cons _ t => .cons r t
  | _, _, i + 1, .cons q t => .cons q (t.set r i)
theorem Reps.one {v : V} {d : D} (r : Rep K F T v d) : Reps K F T [v] [d] := .cons r .nil
theorem Reps.reverse : ∀ {vs : List V} {ds : List D}, Reps K F T vs ds → Reps K F T vs.reverse ds.reverse
  | _, _, .nil => .nil
  | _, _, .cons r t => by rw [List.reverse_cons, List.reverse_cons]; exact t.reverse.append (.one r)
theorem Reps.rep {vs : List V} {ds : List D} (h : Reps K F T vs ds) : ∀ k : Nat, Reps K F T (List.replicate k vs).flatten (List.replicate k ds).flatten
  | 0 => .nil
  | k + 1 => by rw [List.replicate_succ, List.replicate_succ, List.flatten_cons, List.flatten_cons]; exact h.append (h.rep k)
end

/-- an object that may change: at a stands d, its parts frozen -/
def RepTop (K : PySem.W.Frag) (F : Hp) (T : List Addr) (H : Hp) (a : Addr) : D → Prop
  | .lst ds => ∃ xs, H a = some (.lst xs) ∧ Reps K F T xs ds
  | .dic ks ds => ∃ kvs, H a = some (.dK kvs) ∧ kvs.map (·.1) = ks ∧ Reps K F T (kvs.map (·.2)) ds
  | .ins c ks ds => ∃ dx fs, H a = some (.ins (He.ga K c) dx fs) ∧ fs.map (·.1) = ks ∧ Reps K F T (fs.map (·.2)) ds
  | _ => False
theorem RepTop.there {K : PySem.W.Frag} {F : Hp} {T : List Addr} {H : Hp} {a : Addr} {d : D} (h : RepTop K F T H a d) : ∃ o, H a = some o := by
  cases d with
  | lst ds => obtain ⟨xs, e, _⟩ := h; exact ⟨_, e⟩
  | dic ks ds => obtain ⟨xs, e, _⟩ := h; exact ⟨_, e⟩
  | ins c ks ds => obtain ⟨dx, xs, e, _⟩ := h; exact ⟨_, e⟩
  | _ => exact h.elim
theorem RepTop.mono {K : PySem.W.Frag} {F F' : Hp} {T T' : List Addr} {H H' : Hp} {a : Addr} {d : D} (hF : Same F F') (hT : Pre T T') (hH : ∀ o, H a = some o → H' a = some o) (h : RepTop K F T H a d) : RepTop K F' T' H' a d := by
  cases d with
  | lst ds => obtain ⟨xs, e, r⟩ := h; exact ⟨xs, hH _ e, r.mono hF hT⟩
  | dic ks ds => obtain ⟨xs, e, k, r⟩ := h; exact ⟨xs, hH _ e, k, r.mono hF hT⟩
  | ins c ks ds => obtain ⟨dx, xs, e, k, r⟩ := h; exact ⟨dx, xs, hH _ e, k, r.mono hF hT⟩
  | _ => exact h.elim
/-- frozen now -/
theorem RepTop.rep {K : PySem.W.Frag} {F G : Hp} {T : List Addr} {H : Hp} {a : Addr} {d : D} (h : RepTop K F T H a d) (hF : Same F G) (hG : ∀ o, H a = some o → G a = some o) : Rep K G T (.ref a) d := by
  cases d with
  | lst ds => obtain ⟨xs, e, r⟩ := h; exact .lst (hG _ e) (r.mono hF (.refl _))
  | dic ks ds => obtain ⟨xs, e, k, r⟩ := h; exact .dic (hG _ e) k (r.mono hF (.refl _))
  | ins c ks ds => obtain ⟨dx, xs, e, k, r⟩ := h; exact .ins (hG _ e) k (r.mono hF (.refl _))
  | _ => exact h.elim

/-- the heap's ghost: F frozen, T the store's addresses -/
structure WF (K : PySem.W.Frag) (F : Hp) (T : List Addr) (st : Store) (H : Hp) : Prop where
  fr : Same F H
  len : st.length = T.length
  nd : T.Nodup
  nf : ∀ a ∈ T, F a = none
  at_ : ∀ (n : Nat) (d : D), st[n]? = some d → ∃ a, T[n]? = some a ∧ RepTop K F T H a d

/-- from (F, T, H) on -/
structure Ext (F : Hp) (T : List Addr) (H : Hp) (F' : Hp) (T' : List Addr) (H' : Hp) : Prop where
  fr : Same F F'
  pre : Pre T T'
  newF : ∀ b, F b = none → H b ≠ none → F' b = none
  newT : ∀ b ∈ T', b ∉ T → H b = none
  keep : ∀ b o, H b = some o → b ∉ T → H' b = some o
  there : ∀ b o, H b = some o → ∃ o', H' b = some o'
theorem Ext.refl (F : Hp) (T : List Addr) (H : Hp) : Ext F T H F T H := ⟨.refl _, .refl _, fun _ h _ => h, fun b h n => absurd h n, fun _ _ h _ => h, fun _ o h => ⟨o, h⟩⟩
theorem Ext.trans {F F1 F2 H H1 H2 : Hp} {T T1 T2 : List Addr} (a : Ext F T H F1 T1 H1) (b : Ext F1 T1 H1 F2 T2 H2) : Ext F T H F2 T2 H2 where
  fr := a.fr.trans b.fr
  pre := a.pre.trans b.pre
  newF := fun x h n => by
    obtain ⟨o, e⟩ := Option.ne_none_iff_exists'.mp n
    obtain ⟨o1, e1⟩ := a.there x o e
    exact b.newF x (a.newF x h n) (by rw [e1]; simp)
  newT := fun x h n => by
    by_cases h1 : x ∈ T1
    · exact a.newT x h1 n
    · have z := b.newT x h h1
      cases q : H x with
      | none => rfl
      | some o =>
        obtain ⟨o1, e1⟩ := a.there x o q
        rw [e1] at z; cases z
  keep := fun x o e n => by
    have e1 := a.keep x o e n
    refine b.keep x o e1 fun h1 => ?_
    have z := a.newT x h1 n
    rw [e] at z; cases z
  there := fun x o e => by
    obtain ⟨o1, e1⟩ := a.there x o e
    exact b.there x o1 e1

section
variable {K : PySem.W.Frag} {F F' H H' : Hp} {T T' : List Addr} {st : Store}
/-- a new object at p, frozen at once -/
theorem Ext.new (w : WF K F T st H) {p : Addr} {o : HO} (hp : H p = none) : Ext F T H (upd F p o) T (upd H p o) := by
  have fp : F p = none := by
    cases q : F p with
    | none => rfl
    | some u => rw [w.fr p u q] at hp; cases hp
  have np : ∀ {b : Addr} {u : HO}, H b = some u → b ≠ p := fun e => ne_of_none e hp
  exact ⟨fun b u e => by rw [upd_ne (ne_of_none e fp)]; exact e, .refl _, fun b e n => by
      by_cases q : b = p
      · subst q; exact absurd hp n
      · rw [upd_ne q]; exact e, fun b h n => absurd h n, fun b u e _ => by rw [upd_ne (np e)]; exact e, fun b u e => ⟨u, by rw [upd_ne (np e)]; exact e⟩⟩
theorem WF.new (w : WF K F T st H) {p : Addr} {o : HO} (hp : H p = none) : WF K (upd F p o) T st (upd H p o) := by
  have x := Ext.new w (o := o) hp
  have np : ∀ {b : Addr} {u : HO}, H b = some u → b ≠ p := fun e => ne_of_none e hp
  refine ⟨fun b u e => ?_, w.len, w.nd, fun a ha => ?_, fun n d e => ?_⟩
  · by_cases q : b = p
    · subst q; rw [upd_same] at e; rw [upd_same]; exact e
    · rw [upd_ne q] at e; rw [upd_ne q]; exact w.fr b u e
  · obtain ⟨n, hn⟩ := List.mem_iff_getElem?.mp ha
    have hl : n < T.length := (List.getElem?_eq_some_iff.mp hn).1
    obtain ⟨d, hd⟩ : ∃ d, st[n]? = some d := ⟨st[n]'(by rw [w.len]; exact hl), by simp [w.len, hl]⟩
    obtain ⟨a', h1, h2⟩ := w.at_ n d hd
    rw [hn] at h1; cases h1
    obtain ⟨o', ho⟩ := h2.there
    rw [upd_ne (np ho)]; exact w.nf a ha
  · obtain ⟨a, h1, h2⟩ := w.at_ n d e
    obtain ⟨o', ho⟩ := h2.there
    exact ⟨a, h1, h2.mono x.fr (.refl _) fun o'' e'' => by rw [upd_ne (np e'')]; exact e''⟩
/-- a new object at p that is not frozen -/
theorem Ext.newO {p : Addr} {o : HO} (hp : H p = none) : Ext F T H F T (upd H p o) := by
  have np : ∀ {b : Addr} {u : HO}, H b = some u → b ≠ p := fun e => ne_of_none e hp
  exact ⟨.refl _, .refl _, fun _ h _ => h, fun b h n => absurd h n, fun b u e _ => by rw [upd_ne (np e)]; exact e, fun b u e => ⟨u, by rw [upd_ne (np e)]; exact e⟩⟩
theorem WF.newO (w : WF K F T st H) {p : Addr} {o : HO} (hp : H p = none) : WF K F T st (upd H p o) := by
  have np : ∀ {b : Addr} {u : HO}, H b = some u → b ≠ p := fun e => ne_of_none e hp
  exact ⟨fun b u e => by rw [upd_ne (np (w.fr b u e))]; exact w.fr b u e, w.len, w.nd, w.nf, fun n d e => by
    obtain ⟨a, h1, h2⟩ := w.at_ n d e
    exact ⟨a, h1, h2.mono (.refl _) (.refl _) fun o'' e'' => by rw [upd_ne (np e'')]; exact e''⟩⟩
theorem WF.inT (w : WF K F T st H) {a : Addr} (h : a ∈ T) : ∃ o, H a = some o := by
  obtain ⟨n, hn⟩ := List.mem_iff_getElem?.mp h
  have hl : n < T.length := (List.getElem?_eq_some_iff.mp hn).1
  obtain ⟨d, hd⟩ : ∃ d, st[n]? = some d := ⟨st[n]'(by rw [w.len]; exact hl), by simp [w.len, hl]⟩
  obtain ⟨a', h1, h2⟩ := w.at_ n d hd
  rw [hn] at h1; cases h1
  exact h2.there
/-- an object that is tracked, not frozen, not of the store, is frozen -/
theorem Ext.freeze {p : Addr} {o : HO} (hp : H p = some o) (hF : F p = none) (hT : p ∉ T) {F0 H0 : Hp} {T0 : List Addr} (x : Ext F0 T0 H0 F T H) (h0 : H0 p = none) : Ext F0 T0 H0 (upd F p o) T H := by
  refine ⟨fun b u e => ?_, x.pre, fun b e n => ?_, x.newT, x.keep, x.there⟩
  · have := x.fr b u e
    rw [upd_ne (ne_of_none this hF)]; exact this
  · by_cases q : b = p
    · subst q; exact absurd h0 n
    · rw [upd_ne q]; exact x.newF b e n
theorem WF.freeze (w : WF K F T st H) {p : Addr} {o : HO} (hp : H p = some o) (hF : F p = none) (hT : p ∉ T) : WF K (upd F p o) T st H := by
  have sm : Same F (upd F p o) := fun b u e => by rw [upd_ne (ne_of_none e hF)]; exact e
  refine ⟨fun b u e => ?_, w.len, w.nd, fun a ha => ?_, fun n d e => ?_⟩
  · by_cases q : b = p
    · subst q; rw [upd_same] at e; rw [hp]; exact e
    · rw [upd_ne q] at e; exact w.fr b u e
  · rw [upd_ne (fun q : a = p => hT (by rw [← q]; exact ha))]; exact w.nf a ha
  · obtain ⟨a, h1, h2⟩ := w.at_ n d e
    exact ⟨a, h1, h2.mono sm (.refl _) fun _ z => z⟩
end
end Eng
set_option Elab.async false
set_option linter.all false
set_option maxRecDepth 100000
/-! Eng 2: the form of a program, and what it computes -/
namespace Eng
open PySem PySem.Spec PyProof.Rows L2

mutual
/-- an expression -/
inductive E where
  | var (i : Nat)
  | c (d : D)
  | gl (x : Str) (d : D)
  | fn (x : Str)
  | bin (op : Operator) (a b : E)
  | neg (a : E)
  | not (a : E)
  | cmp (op : CmpOp) (a b : E)
  | cmp2 (op op' : CmpOp) (a b c : E)
  | and (es : Es) | or (es : Es)
  | ife (c a b : E)
  | tup (es : Es) | lst (es : Es) | dnew
  | ix (a i : E)
  | sl (a : E) (lo hi : Op)
  | rev (a : E)
  | call (f : Nat) (es : Es)
  | callv (i : Nat) (fs : List (Str × Nat)) (es : Es)
  | attr (o : E) (c f : Str)
  | meth (o : E) (c m : Str) (f : Nat) (es : Es)
  | eqo (neg : Bool) (a : E) (c : Str) (f : Nat) (b : E)
  | xf (i : Nat) (al : List Str) (f : Str)
  | xkw (c : Str) (ks : List Str) (es : Es) (f : Str)
  | xis (i : Nat) (al cs : List Str)
  | bi (b : String) (es : Es)
  | sset (a : E)
  | isi (a : E) (ts : List String)
  | isc (a : E) (c : Str)
  | me (m : String) (o : E) (es : Es)
  | fmt (a : E)
  | lc (elt : E) (tg : Tg) (it : It) (ifs : Op) (ws : List Nat)
  | lcx (elt : E) (tg : Tg) (it : It) (ifs : Op) (ws : List Nat)
  | ssc (elt : E) (tg : Tg) (it : It) (ifs : Op) (ws : List Nat)
  | lset (a : E)
inductive Es where
  | nil | cons (e : E) (es : Es)
inductive Op where
  | no | so (e : E)
/-- what a for or a comprehension walks -/
inductive It where
  | seq (a : E)
  | rng (es : Es)
  | enum (a : E)
  | zip (a b : E)
  | keys (i : Nat)
inductive Tg where
  | v (i : Nat)
  | t (ts : Tgs)
inductive Tgs where
  | nil | cons (t : Tg) (ts : Tgs)
end

/-- parallel targets: fresh things of the frame's own, or values -/
inductive Ps where
  | nil | cons (own : Bool) (i : Nat) (e : E) (r : Ps)
mutual
inductive S where
  | asg (fz : List Nat) (tg : Tg) (e : E)
  | own (i : Nat) (e : E)
  | obj (i : Nat) (e : E)
  | par (fz : List Nat) (ps : Ps)
  | aug (i : Nat) (op : Operator) (e : E)
  | app (fz : List Nat) (i : Nat) (e : E)
  | setI (fz : List Nat) (i : Nat) (k e : E)
  | ex (e : E)
  | ret (fz : List Nat) (e : E)
  | ifs (c : E) (a b : Ss)
  | for_ (fz : List Nat) (tg : Tg) (it : It) (body : Ss)
  | whl (n : Nat) (c : E) (body : Ss)
  | fld (fz : List Nat) (i : Nat) (c f : Str) (e : E)
  | rais (c : Str) (ks : List Str) (es : Es)
  | try_ (ws : List Nat) (body : Ss) (hs : Hs)
  | pass | brk | cont
inductive Ss where
  | nil | cons (s : S) (ss : Ss)
/-- clauses: the classes that it takes, the slot of its name -/
inductive Hs where
  | nil | cons (al cs : List Str) (i : Option Nat) (suite : Ss) (hs : Hs)
end

/-! ### outcomes -/
inductive Out (α : Type) where
  | ok (a : α) (st : Store)
  | ex (c : Str) (ks : List Str) (ds : List D) (st : Store)
  | bad
  deriving Inhabited
def Out.bnd {α β : Type} (o : Out α) (f : α → Store → Out β) : Out β := match o with
  | .ok a st => f a st
  | .ex c ks ds st => .ex c ks ds st
  | .bad => .bad
@[simp] theorem Out.bnd_ok {α β : Type} (a : α) (st : Store) (f : α → Store → Out β) : (Out.ok a st).bnd f = f a st := rfl
@[simp] theorem Out.bnd_ex {α β : Type} (c : Str) (ks : List Str) (ds : List D) (st : Store) (f : α → Store → Out β) : (Out.ex c ks ds st).bnd f = .ex c ks ds st := rfl
@[simp] theorem Out.bnd_bad {α β : Type} (f : α → Store → Out β) : (Out.bad : Out α).bnd f = .bad := rfl
/-- a value that may fail -/
def ofO {α : Type} (o : Option α) (st : Store) : Out α := match o with
  | some a => .ok a st
  | none => .bad
@[simp] theorem ofO_some {α : Type} (a : α) (st : Store) : ofO (some a) st = .ok a st := rfl
@[simp] theorem ofO_none {α : Type} (st : Store) : ofO (none : Option α) st = .bad := rfl
/-- no exception may leave -/
def Out.nox {α : Type} (o : Out α) : Out α := match o with
  | .ex _ _ _ _ => .bad
  | o => o
def chkO {α : Type} (c : Bool) (o : Out α) : Out α := match c with
  | true => o
  | false => .bad
@[simp] theorem chkO_true {α : Type} (o : Out α) : chkO true o = o := rfl

inductive Sl where
  | no
  | val (d : D)
  | own (d : D)
  | xc (c : Str) (ks : List Str) (ds : List D)
  deriving Inhabited
abbrev Env := List Sl
/-- the defs by number -/
abbrev Calls := Nat → List D → Store → Out D

/-! ### operations on data -/
mutual
/-- data of depth below n -/
def dataD : Nat → D → Bool
  | _, .non => true
  | _, .bl _ => true
  | _, .int _ => true
  | _, .str x => PyData.strOk x
  | 0, .tup _ => false
  | 0, .lst _ => false
  | n + 1, .tup ds => dataDs n ds
  | n + 1, .lst ds => dataDs n ds
  | _, .dic _ _ => false
  | _, .ins _ _ _ => false
  | _, .obj _ => false
  | _, .fn _ => false
  | _, .scr _ => false
def dataDs : Nat → List D → Bool
  | _, [] => true
  | n, d :: ds => dataD n d && dataDs n ds
end
mutual
/-- data of depth below n, its texts of any signs -/
def dataF : Nat → D → Bool
  | _, .non => true
  | _, .bl _ => true
  | _, .int _ => true
  | _, .str _ => true
  | 0, .tup _ => false
  | 0, .lst _ => false
  | n + 1, .tup ds => dataFs n ds
  | n + 1, .lst ds => dataFs n ds
  | _, _ => false
def dataFs : Nat → List D → Bool
  | _, [] => true
  | n, d :: ds => dataF n d && dataFs n ds
end
mutual
def py : D → PyData
  | .non => .none
  | .bl b => .bool b
  | .int i => .int i
  | .str x => .str x
  | .tup ds => .tuple (pys ds)
  | .lst ds => .list (pys ds)
  | _ => .none
def pys : List D → List PyData
  | [] => []
  | d :: ds => py d :: pys ds
end
mutual
def eqD : D → D → Bool
  | .non, .non => true
  | .bl a, .bl b => a == b
  | .bl a, .int j => (if a then 1 else 0) == j
  | .int i, .bl b => i == (if b then 1 else 0)
  | .int i, .int j => decide (i = j)
  | .str x, .str y => decide (x = y)
  | .lst xs, .lst ys => eqDs xs ys
  | .tup xs, .tup ys => eqDs xs ys
  | _, _ => false
def eqDs : List D → List D → Bool
  | [], [] => true
  | x :: xs, y :: ys => eqD x y && eqDs xs ys
  | _, _ => false
end
def flatD : D → Bool
  | .non => true
  | .bl _ => true
  | .int _ => true
  | .str _ => true
  | _ => false
/-- the scalars that == tells apart -/
def scalD : D → D → Bool
  | .bl _, .int _ => false
  | .int _, .bl _ => false
  | x, y => flatD x && flatD y
def eqO : D → D → Option Bool
  | .lst xs, .lst [] => some xs.isEmpty
  | x, y => if scalD x y = true then some (eqD x y) else if (dataD 20 x && dataD 20 y) = true then some (eqD x y) else none
def lenD : D → Option Nat
  | .scr ns => some ns.length
  | .str x => if x.length ≤ sizeLine then some x.length else none
  | .tup ds => some ds.length
  | .lst ds => some ds.length
  | .dic ks _ => some ks.length
  | _ => none
def truthD : D → Option Bool
  | .non => some false
  | .bl b => some b
  | .int i => some (i != 0)
  | .str x => if x.length ≤ sizeLine then some (x.length != 0) else none
  | .tup ds => some (!ds.isEmpty)
  | .lst ds => some (!ds.isEmpty)
  | _ => none
/-- a key -/
def keyD : D → Option Key
  | .int i => some (.inl i)
  | .str x => some (.inr x)
  | _ => none
def dicGet (ks : List Key) (ds : List D) (k : Key) : Option D := ((ks.zip ds).find? fun kv => decide (kv.1 = k)).map (·.2)
def dicPut (ks : List Key) (ds : List D) (k : Key) (d : D) : List Key × List D :=
  if (ks.any fun q => decide (q = k)) = true then (ks, List.zipWith (fun q e => if q = k then d else e) ks ds) else (ks ++ [k], ds ++ [d])
def repStr (x : Str) (k : Nat) : Str := ⟨(List.replicate k x.cps.toList).flatten.toArray⟩
def binD : Operator → D → D → Option D
  | .Add, .int i, .int j => some (.int (i + j))
  | .Add, .str x, .str y => if x.length + y.length ≤ sizeLine then some (.str (x ++ y)) else none
  | .Add, .lst xs, .lst ys => if xs.length + ys.length ≤ sizeLine then some (.lst (xs ++ ys)) else none
  | .Add, .tup xs, .tup ys => if xs.length + ys.length ≤ sizeLine then some (.tup (xs ++ ys)) else none
  | .Sub, .int i, .int j => some (.int (i - j))
  | .Mult, .int i, .int j => if (-(2 ^ 64) < i ∧ i < 2 ^ 64) ∨ (-(2 ^ 64) < j ∧ j < 2 ^ 64) then some (.int (i * j)) else none
  | .Mult, .lst xs, .int k => if -(2 ^ 63) ≤ k ∧ k < 2 ^ 63 ∧ xs.length * k.toNat ≤ sizeLine then some (.lst (List.replicate k.toNat xs).flatten) else none
  | .Mult, .str x, .int k => if -(2 ^ 63) ≤ k ∧ k < 2 ^ 63 ∧ x.length * k.toNat ≤ sizeLine then some (.str (Txt.mul x k)) else none
  | .FloorDiv, .int i, .int j => if j ≠ 0 ∧ j.natAbs < 1073741824 then some (.int (i.fdiv j)) else none
  | .Mod, .int i, .int j => if j ≠ 0 then some (.int (i.fmod j)) else none
  | .Pow, .int i, .int j => if 0 ≤ j ∧ j ≤ 1000000 ∧ i.natAbs < 2 ^ 64 then some (.int (i ^ j.toNat)) else none
  | _, _, _ => none
def inD (x : D) : D → Option Bool
  | .str z => (match x with
    | .str y => (match y.cps.toList with
      | [c] => some (decide (c ∈ z.cps.toList))
      | _ => none)
    | _ => none)
  | .lst ds => if (flatD x && ds.all flatD) = true then some (ds.any fun z => eqD z x) else if (dataD 20 x && dataDs 20 ds) = true then some (ds.any fun z => eqD z x) else none
  | .tup ds => if (flatD x && ds.all flatD) = true then some (ds.any fun z => eqD z x) else none
  | .dic ks _ => (keyD x).map fun k => ks.any fun q => decide (q = k)
  | _ => none
def isNone : D → Bool
  | .non => true
  | _ => false
def cmpD : CmpOp → D → D → Option Bool
  | .Eq, x, y => eqO x y
  | .NotEq, x, y => (eqO x y).map (!·)
  | .Lt, .int i, .int j => some (decide (i < j))
  | .LtE, .int i, .int j => some (decide (i ≤ j))
  | .Gt, .int i, .int j => some (decide (j < i))
  | .GtE, .int i, .int j => some (decide (j ≤ i))
  | .In, x, y => inD x y
  | .NotIn, x, y => (inD x y).map (!·)
  | .Is, x, .non => some (isNone x)
  | .IsNot, x, .non => some (!isNone x)
  | .Is, .bl a, .bl b => some (decide (a = b))
  | .IsNot, .bl a, .bl b => some (!decide (a = b))
  | _, _, _ => none
/-- an index of any sign -/
def ixS (x : D) (i : D) : Option D := match i with
  | .int k => (match x with
    | .lst ds => atI ds k
    | .tup ds => atI ds k
    | .scr ns => (atI ns k).map .int
    | .str z => if z.length ≤ sizeLine then (atI z.cps.toList k).map fun c => .str ⟨#[c]⟩ else none
    | .dic ks ds => dicGet ks ds (.inl k)
    | _ => none)
  | .str z => (match x with
    | .dic ks ds => dicGet ks ds (.inr z)
    | _ => none)
  | _ => none
def cutD {α : Type} (xs : List α) (lo hi : Option Int) : List α := (xs.drop (HT.sIx xs.length 0 lo)).take (HT.sIx xs.length xs.length hi - HT.sIx xs.length 0 lo)
def slD (x : D) (lo hi : Option Int) : Option D := match x with
  | .lst ds => some (.lst (cutD ds lo hi))
  | .tup ds => some (.tup (cutD ds lo hi))
  | .str z => if z.length ≤ sizeLine then some (.str (cutS z lo hi)) else none
  | _ => none
def partD : D → Option Int
  | .int i => some i
  | _ => none
def revD : D → Option D
  | .lst ds => some (.lst ds.reverse)
  | .str z => if z.length ≤ sizeLine then some (.str ⟨z.cps.toList.reverse.toArray⟩) else none
  | _ => none
def intsD : List D → Option (List Int)
  | [] => some []
  | .int i :: ds => (intsD ds).map (i :: ·)
  | _ :: _ => none
def strsD : List D → Option (List Str)
  | [] => some []
  | .str i :: ds => (strsD ds).map (i :: ·)
  | _ :: _ => none
def blsD : List D → Option (List Bool)
  | [] => some []
  | .bl i :: ds => (blsD ds).map (i :: ·)
  | _ :: _ => none
def seqD : D → Option (List D)
  | .lst ds => some ds
  | .tup ds => some ds
  | _ => none
/-- the order of data of one kind -/
def leD : D → D → Bool := PySem.W.dataLe false py
def isCont : D → Bool
  | .lst _ => true
  | .dic _ _ => true
  | _ => false
def isTup1 : D → Bool
  | .tup (_ :: _) => true
  | _ => false
def isTupN : D → Bool
  | .tup _ => true
  | .non => true
  | _ => false
def sortOk (ds : List D) : Bool := ds.all (dataF 20) && (ds.all fun d => ds.all fun e => PySem.W.alike (py d) (py e)) && (ds.all isTup1 || ds.all fun d => !isTupN d)
def sortedD (ds : List D) : Option D := if sortOk ds = true then some (.lst (ds.mergeSort leD)) else none
def sortS (xs : List Str) : List Str := xs.mergeSort fun x y => decide (x.cps.toList ≤ y.cps.toList)
/-- the first of equal ones -/
def nubS (xs : List Str) : List Str := xs.eraseDups
/-- the first of the greatest, of the least -/
def topI (f : Int → Int → Int) : List Int → Option Int
  | [] => none
  | x :: xs => some (xs.foldl f x)
/-- data that max and min compare -/
def ordOk (ds : List D) : Bool := ds.all (dataF 20) && (ds.all fun d => ds.all fun e => PySem.W.alike (py d) (py e)) && ds.all fun d => !isNone d && !isCont d
def topD (f : D → D → Bool) : List D → Option D
  | [] => none
  | x :: xs => some (xs.foldl (fun a y => if f y a = true then y else a) x)
def ltD (x y : D) : Bool := PySem.W.dataLt (py x) (py y)
/-- sorted(set(..)) -/
def ssetD (ds : List D) : Option D := match intsD ds with
  | some ns => if ns.length < 64 then some (.lst ((ns.eraseDups.mergeSort fun x y => decide (x ≤ y)).map .int)) else none
  | none => none
def lsetD (ds : List D) : Option D := match intsD ds with
  | some ns => if ns.length < 4000 then some (.int (ns.eraseDups.length : Nat)) else none
  | none => none
/-- built-in functions of values -/
def biD (b : String) (ds : List D) : Option D := match b, ds with
  | "len", [x] => (lenD x).map fun (n : Nat) => .int (n : Int)
  | "sum", [.lst ds] => (intsD ds).map fun ns => .int ns.sum
  | "int", [.int i] => some (.int i)
  | "int", [.bl b] => some (.int (if b then 1 else 0))
  | "int", [.str x] => if x.length ≤ 640 then (PySem.intText? x).map .int else none
  | "str", [.int i] => if i.natAbs.log2 < 1920 then some (.str (toString i)) else none
  | "abs", [.int i] => some (.int (if i < 0 then -i else i))
  | "all", [.lst ds] => (blsD ds).map fun bs => .bl (bs.all id)
  | "any", [.lst ds] => (blsD ds).map fun bs => .bl (bs.any id)
  | "max2", [.int i, .int j] => some (.int (if j > i then j else i))
  | "min2", [.int i, .int j] => some (.int (if j < i then j else i))
  | "max", [.lst ds] => (match intsD ds with
    | some ns => (topI (fun x y => if x < y then y else x) ns).map .int
    | none => if ordOk ds = true then topD (fun x y => ltD y x) ds else none)
  | "min", [.lst ds] => (match intsD ds with
    | some ns => (topI (fun x y => if y < x then y else x) ns).map .int
    | none => if ordOk ds = true then topD ltD ds else none)
  | "list", [x] => (seqD x).map .lst
  | "tuple", [x] => (seqD x).map .tup
  | "sorted", [.lst ds] => sortedD ds
  | _, _ => none
/-- the type's name by which isinstance finds a value; a bool is an int -/
def tyN : D → Option String
  | .non => some "NoneType"
  | .bl _ => some "bool"
  | .int _ => some "int"
  | .str _ => some "str"
  | .tup _ => some "tuple"
  | .lst _ => some "list"
  | .dic _ _ => some "dict"
  | _ => none
def tyIs (a t : String) : Bool := a == t || (a == "bool" && t == "int")
def isTys (ts : List String) (d : D) : Option Bool := (tyN d).map fun a => ts.any (tyIs a)
def isCls (c : Str) : D → Option Bool
  | .ins c' _ _ => if c' = c then some true else none
  | .obj _ => none
  | .fn _ => none
  | .scr _ => none
  | _ => some false
def isMe (m : String) : D → Bool
  | .lst _ => m == "index"
  | .str _ => m == "join"
  | _ => false
def meD (m : String) (o : D) (ds : List D) : Option D := match m, o, ds with
  | "index", .lst xs, [.int i] => (intsD xs).bind fun ns => (ns.findIdx? fun n => decide (n = i)).map fun (k : Nat) => .int (k : Int)
  | "join", .str s, [.lst xs] => (strsD xs).bind fun ys => if (Txt.join s ys).length ≤ 16777216 then some (.str (Txt.join s ys)) else none
  | _, _, _ => none
/-- an int's eight figures -/
def fmt8 (i : Int) : Str := ⟨(List.replicate (8 - (toString i : String).toList.length) 48 ++ (toString i : String).toList.map Char.toNat).toArray⟩
def fmtD : D → Option D
  | .int i => if 0 ≤ i ∧ i < 10 ^ 8 then some (.str (fmt8 i)) else none
  | _ => none

/-! ### environments -/
def getV (env : Env) (i : Nat) : Option D := match env[i]? with
  | some (.val d) => some d
  | _ => none
/-- to be looked at for a moment -/
def getB (env : Env) (i : Nat) : Option D := match env[i]? with
  | some (.val d) => some d
  | some (.own d) => some d
  | _ => none
def deref (st : Store) : D → Option D
  | .obj n => st[n]?
  | d => some d
def freeze1 : Sl → Sl
  | .own d => .val d
  | s => s
def freeze (env : Env) : List Nat → Env
  | [] => env
  | i :: is => (freeze env is).modify i freeze1
def wipeE (env : Env) : List Nat → Env
  | [] => env
  | i :: is => (wipeE env is).set i .no
mutual
def bind1 : Tg → D → Env → Option Env
  | .v i, d, env => some (env.set i (.val d))
  | .t ts, .tup ds, env => binds ts ds env
  | .t _, _, _ => none
def binds : Tgs → List D → Env → Option Env
  | .nil, [], env => some env
  | .cons t ts, d :: ds, env => (bind1 t d env).bind fun env' => binds ts ds env'
  | _, _, _ => none
end
def rngD : List D → Option (List D)
  | [.int n] => if -(2 ^ 62) ≤ n ∧ n ≤ sizeLine then some ((List.range n.toNat).map fun (k : Nat) => D.int (0 + k)) else none
  | [.int a, .int b] => if -(2 ^ 62) ≤ a ∧ a < 2 ^ 62 ∧ b - a ≤ sizeLine ∧ -(2 ^ 62) ≤ b ∧ b < 2 ^ 62 then some ((List.range (b - a).toNat).map fun (k : Nat) => D.int (a + k)) else none
  | _ => none
def itemsD : D → Option (List D)
  | .lst ds => some ds
  | .tup ds => some ds
  | .str z => if z.length ≤ sizeLine then some (z.cps.toList.map fun c => D.str ⟨#[c]⟩) else none
  | _ => none
def enumD : D → Option (List D)
  | x => (itemsD x).map fun ds => (List.range ds.length).zipWith (fun (k : Nat) d => D.tup [.int k, d]) ds
def zipD : D → D → Option (List D)
  | .lst xs, .lst ys => some (List.zipWith (fun a b => D.tup [a, b]) xs ys)
  | .tup xs, .tup ys => some (List.zipWith (fun a b => D.tup [a, b]) xs ys)
  | _, _ => none

/-! ### expressions -/
/-- a comprehension's turns -/
def lcGo (step : D → Store → Out (Option D)) : List D → Store → Out (List D)
  | [], st => .ok [] st
  | d :: ds, st => ((step d st).nox).bnd fun r st1 => (lcGo step ds st1).bnd fun acc st2 => .ok (match r with | some y => y :: acc | none => acc) st2
/-- .. that may raise -/
def lcGoX (step : D → Store → Out (Option D)) : List D → Store → Out (List D)
  | [], st => .ok [] st
  | d :: ds, st => (step d st).bnd fun r st1 => (lcGoX step ds st1).bnd fun acc st2 => .ok (match r with | some y => y :: acc | none => acc) st2
def fnIx (fs : List (Str × Nat)) : D → Option Nat
  | .fn f => fs.lookup f
  | _ => none
/-- the attribute f of an instance of the class c -/
def fldD (f : Str) : List Str → List D → Option D
  | k :: ks, d :: ds => if k = f then some d else fldD f ks ds
  | _, _ => none
def attrD (c f : Str) : D → Option D
  | .ins c' ks ds => if c' = c then fldD f ks ds else none
  | _ => none
/-- an instance of c without an attribute m -/
def insIs (c m : Str) : D → Bool
  | .ins c' ks _ => decide (c' = c) && !ks.contains m
  | _ => false
/-- what may stand right of == of an instance of c -/
def eqR (c : Str) : D → Bool
  | .ins c' _ _ => decide (c' = c)
  | .non => true
  | .bl _ => true
  | .int _ => true
  | .str _ => true
  | .tup _ => true
  | .lst _ => true
  | _ => false
def putFld (f : Str) (d : D) : List Str → List D → List Str × List D
  | k :: ks, e :: es => if k = f then (k :: ks, d :: es) else (k :: (putFld f d ks es).1, e :: (putFld f d ks es).2)
  | _, _ => ([f], [d])
/-- an operand that is looked at only -/
def bor (env : Env) (e : E) (m : Store → Out D) : Store → Out D := fun st => match e with
  | .var i => ofO (getB env i) st
  | _ => m st
/-- as a test -/
def tst (m : Store → Out D) : Store → Out Bool := fun st => (m st).bnd fun d st => ofO (truthD d) st
abbrev Ev : Type := (Store → Out D) × (Store → Out Bool)
abbrev mkV (m : Store → Out D) : Ev := (m, tst m)
mutual
def evP (C : Calls) (env : Env) : E → Ev
  | .var i => mkV fun st => ofO (getV env i) st
  | .c d => mkV fun st => .ok d st
  | .gl _ d => mkV fun st => .ok d st
  | .fn x => mkV fun st => .ok (.fn x) st
  | .bin op a b => mkV fun st => (bor env a (evP C env a).1 st).bnd fun x st => (bor env b (evP C env b).1 st).bnd fun y st => ofO (binD op x y) st
  | .neg a => mkV fun st => ((evP C env a).1 st).bnd fun x st => (match x with | .int i => .ok (.int (-i)) st | _ => .bad)
  | .not a => (fun st => ((evP C env a).1 st).bnd fun d st => (ofO (truthD d) st).bnd fun b st => .ok (.bl (!b)) st, fun st => ((evP C env a).2 st).bnd fun b st => .ok (!b) st)
  | .cmp op a b => mkV fun st => (bor env a (evP C env a).1 st).bnd fun x st => (bor env b (evP C env b).1 st).bnd fun y st => ofO ((cmpD op x y).map .bl) st
  | .cmp2 op op' a b c => mkV fun st => ((evP C env a).1 st).bnd fun x st => ((evP C env b).1 st).bnd fun y st => (ofO (cmpD op x y) st).bnd fun r st => (match r with
    | true => ((evP C env c).1 st).bnd fun z st => ofO ((cmpD op' y z).map .bl) st
    | false => .ok (.bl false) st)
  | .and es => (evAnd C env es, evTAnd C env es)
  | .or es => (evOr C env es, evTOr C env es)
  | .ife c a b => mkV fun st => ((evP C env c).2 st).bnd fun r st => (match r with | true => (evP C env a).1 st | false => (evP C env b).1 st)
  | .tup es => mkV fun st => (evEs C env es st).bnd fun ds st => chkO (decide (ds.length ≤ sizeLine)) (.ok (.tup ds) st)
  | .lst es => mkV fun st => (evEs C env es st).bnd fun ds st => chkO (decide (ds.length ≤ sizeLine)) (.ok (.lst ds) st)
  | .dnew => mkV fun st => .ok (.dic [] []) st
  | .ix a i => mkV fun st => (bor env a (evP C env a).1 st).bnd fun x st => ((evP C env i).1 st).bnd fun k st => ofO ((deref st x).bind fun x => ixS x k) st
  | .sl a lo hi => mkV fun st => (bor env a (evP C env a).1 st).bnd fun x st => (evO C env lo st).bnd fun l st => (evO C env hi st).bnd fun h st => ofO (slD x l h) st
  | .rev a => mkV fun st => (bor env a (evP C env a).1 st).bnd fun x st => ofO (revD x) st
  | .call f es => mkV fun st => (evEs C env es st).bnd fun ds st => C f ds st
  | .callv i fs es => mkV fun st => (ofO ((getV env i).bind (fnIx fs)) st).bnd fun n st => (evEs C env es st).bnd fun ds st => C n ds st
  | .attr o c f => mkV fun st => (bor env o (evP C env o).1 st).bnd fun x st => ofO ((deref st x).bind (attrD c f)) st
  | .meth o c m f es => mkV fun st => ((evP C env o).1 st).bnd fun x st => (ofO (deref st x) st).bnd fun y st => chkO (insIs c m y) ((evEs C env es st).bnd fun ds st => C f (x :: ds) st)
  | .eqo neg a c f b => mkV fun st => ((evP C env a).1 st).bnd fun x st => ((evP C env b).1 st).bnd fun y st => chkO (insIs c "__eq__" x && eqR c y) (((C f [x, y] st).nox).bnd fun r st => (match r with | .bl k => .ok (.bl (if neg = true then !k else k)) st | _ => .bad))
  | .xf i al f => mkV fun st => (match env[i]? with | some (.xc c ks ds) => chkO (decide (c ∈ al)) (ofO (fldD f ks ds) st) | _ => .bad)
  | .xkw _ ks es f => mkV fun st => (evEs C env es st).bnd fun ds st => ofO (fldD f ks ds) st
  | .xis i al cs => mkV fun st => (match env[i]? with | some (.xc c _ _) => chkO (decide (c ∈ al)) (.ok (.bl (decide (c ∈ cs))) st) | _ => .bad)
  | .bi b es => mkV fun st => (evBs C env es st).bnd fun ds st => ofO (biD b ds) st
  | .sset a => mkV fun st => (bor env a (evP C env a).1 st).bnd fun x st => ofO ((seqD x).bind ssetD) st
  | .lset a => mkV fun st => (bor env a (evP C env a).1 st).bnd fun x st => ofO ((seqD x).bind lsetD) st
  | .isi a ts => mkV fun st => (bor env a (evP C env a).1 st).bnd fun x st => ofO ((isTys ts x).map .bl) st
  | .isc a c => mkV fun st => (bor env a (evP C env a).1 st).bnd fun x st => ofO ((isCls c x).map .bl) st
  | .me m o es => mkV fun st => (bor env o (evP C env o).1 st).bnd fun x st => chkO (isMe m x) ((evBs C env es st).bnd fun ds st => ofO (meD m x ds) st)
  | .fmt a => mkV fun st => ((evP C env a).1 st).bnd fun x st => ofO (fmtD x) st
  | .lc elt tg it ifs ws => mkV fun st => (evIt C env it st).bnd fun ds st => (lcGo (fun d st => (ofO (bind1 tg d (wipeE env ws)) st).bnd fun env' st => (evIf C env' ifs st).bnd fun r st => (match r with
      | true => ((evP C env' elt).1 st).bnd fun y st => .ok (some y) st
      | false => .ok none st)) ds st).bnd fun ys st => .ok (.lst ys) st
  | .lcx elt tg it ifs ws => mkV fun st => (evIt C env it st).bnd fun ds st => (lcGoX (fun d st => (ofO (bind1 tg d (wipeE env ws)) st).bnd fun env' st => (evIf C env' ifs st).bnd fun r st => (match r with
      | true => ((evP C env' elt).1 st).bnd fun y st => .ok (some y) st
      | false => .ok none st)) ds st).bnd fun ys st => .ok (.lst ys) st
  | .ssc elt tg it ifs ws => mkV fun st => (evIt C env it st).bnd fun ds st => (lcGo (fun d st => (ofO (bind1 tg d (wipeE env ws)) st).bnd fun env' st => (evIf C env' ifs st).bnd fun r st => (match r with
      | true => ((evP C env' elt).1 st).bnd fun y st => .ok (some y) st
      | false => .ok none st)) ds st).bnd fun ys st => ofO (ssetD ys) st
def evEs (C : Calls) (env : Env) : Es → Store → Out (List D)
  | .nil => fun st => .ok [] st
  | .cons e es => fun st => ((evP C env e).1 st).bnd fun d st => (evEs C env es st).bnd fun ds st => .ok (d :: ds) st
def evBs (C : Calls) (env : Env) : Es → Store → Out (List D)
  | .nil => fun st => .ok [] st
  | .cons e es => fun st => (bor env e (evP C env e).1 st).bnd fun d st => (evBs C env es st).bnd fun ds st => .ok (d :: ds) st
def evAnd (C : Calls) (env : Env) : Es → Store → Out D
  | .nil => fun _ => .bad
  | .cons e es => fun st => ((evP C env e).1 st).bnd fun d st => (match es with
    | .nil => .ok d st
    | .cons _ _ => (ofO (truthD d) st).bnd fun r st => (match r with | true => evAnd C env es st | false => .ok d st))
def evOr (C : Calls) (env : Env) : Es → Store → Out D
  | .nil => fun _ => .bad
  | .cons e es => fun st => ((evP C env e).1 st).bnd fun d st => (match es with
    | .nil => .ok d st
    | .cons _ _ => (ofO (truthD d) st).bnd fun r st => (match r with | true => .ok d st | false => evOr C env es st))
def evO (C : Calls) (env : Env) : Op → Store → Out (Option Int)
  | .no => fun st => .ok none st
  | .so e => fun st => ((evP C env e).1 st).bnd fun d st => (match d with | .int i => .ok (some i) st | _ => .bad)
def evIf (C : Calls) (env : Env) : Op → Store → Out Bool
  | .no => fun st => .ok true st
  | .so e => (evP C env e).2
def evIt (C : Calls) (env : Env) : It → Store → Out (List D)
  | .seq a => fun st => (bor env a (evP C env a).1 st).bnd fun x st => ofO (itemsD x) st
  | .rng es => fun st => (evEs C env es st).bnd fun ds st => ofO (rngD ds) st
  | .enum a => fun st => (bor env a (evP C env a).1 st).bnd fun x st => ofO (enumD x) st
  | .zip a b => fun st => (bor env a (evP C env a).1 st).bnd fun x st => (bor env b (evP C env b).1 st).bnd fun y st => ofO (zipD x y) st
  | .keys i => fun st => (match env[i]? with
    | some (.own (.dic ks _)) => .ok (ks.map fun k => match k with | .inl i => D.int i | .inr x => D.str x) st
    | _ => .bad)
def evTAnd (C : Calls) (env : Env) : Es → Store → Out Bool
  | .nil => fun _ => .bad
  | .cons e es => fun st => ((evP C env e).2 st).bnd fun r st => (match es with
    | .nil => .ok r st
    | .cons _ _ => (match r with | true => evTAnd C env es st | false => .ok false st))
def evTOr (C : Calls) (env : Env) : Es → Store → Out Bool
  | .nil => fun _ => .bad
  | .cons e es => fun st => ((evP C env e).2 st).bnd fun r st => (match es with
    | .nil => .ok r st
    | .cons _ _ => (match r with | true => .ok true st | false => evTOr C env es st))
end
abbrev evE (C : Calls) (env : Env) (e : E) : Store → Out D := (evP C env e).1
abbrev evT (C : Calls) (env : Env) (e : E) : Store → Out Bool := (evP C env e).2

/-- what a for goes through: things that stay -/
def evItV (C : Calls) (env : Env) : It → Store → Out (List D)
  | .seq a => fun st => (evE C env a st).bnd fun x st => ofO (itemsD x) st
  | .rng es => fun st => (evEs C env es st).bnd fun ds st => ofO (rngD ds) st
  | .enum a => fun st => (evE C env a st).bnd fun x st => ofO (enumD x) st
  | .zip a b => fun st => (evE C env a st).bnd fun x st => (evE C env b st).bnd fun y st => ofO (zipD x y) st
  | .keys _ => fun _ => .bad

/-! ### statements -/
inductive Fl where
  | nx (env : Env)
  | rt (d : D)
  | bk (env : Env)
  | ct (env : Env)
/-- the turns of a for -/
def forGo (turn : D → Env → Store → Out Fl) : List D → Env → Store → Out Fl
  | [], env, st => .ok (.nx env) st
  | d :: ds, env, st => (turn d env st).bnd fun f st1 => (match f with
    | .nx env1 => forGo turn ds env1 st1
    | .ct env1 => forGo turn ds env1 st1
    | .bk env1 => .ok (.nx env1) st1
    | .rt d => .ok (.rt d) st1)
/-- the turns of a while -/
def whlGo (c : Env → Store → Out Bool) (body : Env → Store → Out Fl) : Nat → Env → Store → Out Fl
  | 0, _, _ => .bad
  | n + 1, env, st => (c env st).bnd fun b st1 => (match b with
    | false => .ok (.nx env) st1
    | true => (body env st1).bnd fun f st2 => (match f with
      | .nx env1 => whlGo c body n env1 st2
      | .ct env1 => whlGo c body n env1 st2
      | .bk env1 => .ok (.nx env1) st2
      | .rt d => .ok (.rt d) st2))
/-- o[k] = v of a changeable thing -/
def putD (o k v : D) : Option D := match o with
  | .lst ds => (match k with
    | .int i => (ixN ds.length i).map fun j => .lst (ds.set j v)
    | _ => none)
  | .dic ks ds => (keyD k).bind fun k => if ks.length < sizeLine then some (.dic (dicPut ks ds k v).1 (dicPut ks ds k v).2) else none
  | _ => none
def setIx (env : Env) (i : Nat) (k v : D) (st : Store) : Out Env := match env[i]? with
  | some (.own d) => (ofO (putD d k v) st).bnd fun d' st => .ok (env.set i (.own d')) st
  | some (.val (.obj n)) => (match st[n]? with
    | some d => (ofO (putD d k v) st).bnd fun d' st => .ok env (st.set n d')
    | none => .bad)
  | _ => .bad
/-- a list of the frame's own -/
def ownL (env : Env) (i : Nat) : Option (List D) := match env[i]? with
  | some (.own (.lst ds)) => some ds
  | _ => none
/-- a thing that may be changed -/
def isPut (env : Env) (i : Nat) : Bool := match env[i]? with
  | some (.own _) => true
  | some (.val (.obj _)) => true
  | _ => false
def augD : Operator → D → D → Option D
  | .Add, .int i, .int j => some (.int (i + j))
  | .Sub, .int i, .int j => some (.int (i - j))
  | .Mult, .int i, .int j => if (-(2 ^ 64) < i ∧ i < 2 ^ 64) ∨ (-(2 ^ 64) < j ∧ j < 2 ^ 64) then some (.int (i * j)) else none
  | .Add, .str x, .str y => if x.length + y.length ≤ sizeLine then some (.str (x ++ y)) else none
  | _, _, _ => none
/-- self.f = v, of an instance of the class c -/
def fldPut (c f : Str) (v : D) : D → Option D
  | .ins c' ks ds => if c' = c ∧ ks.length < 1000 then some (.ins c' (putFld f v ks ds).1 (putFld f v ks ds).2) else none
  | _ => none
def setFld (env : Env) (i : Nat) (c f : Str) (v : D) (st : Store) : Out Env := match env[i]? with
  | some (.own d) => (ofO (fldPut c f v d) st).bnd fun d' st => .ok (env.set i (.own d')) st
  | some (.val (.obj n)) => (match st[n]? with
    | some d => (ofO (fldPut c f v d) st).bnd fun d' st => .ok env (st.set n d')
    | none => .bad)
  | _ => .bad
/-- the values of parallel targets -/
def evPs (C : Calls) (env : Env) : Ps → Store → Out (List D)
  | .nil => fun st => .ok [] st
  | .cons _ _ e r => fun st => (evE C env e st).bnd fun d st => (evPs C env r st).bnd fun ds st => .ok (d :: ds) st
def setPs : Ps → List D → Env → Option Env
  | .nil, [], env => some env
  | .cons own i _ r, d :: ds, env => (match own with
    | true => if isCont d = true then setPs r ds (env.set i (.own d)) else none
    | false => setPs r ds (env.set i (.val d)))
  | _, _, _ => none
/-- no exception is held any more -/
def dropX : Env → Env
  | [] => []
  | .xc _ _ _ :: r => .no :: dropX r
  | s :: r => s :: dropX r
mutual
def evS (C : Calls) : S → Env → Store → Out Fl
  | .asg fz tg e => fun env st => (evE C (freeze env fz) e st).bnd fun d st => (ofO (bind1 tg d (freeze env fz)) st).bnd fun env' st => .ok (.nx env') st
  | .own i e => fun env st => (evE C env e st).bnd fun d st => chkO (isCont d) (.ok (.nx (env.set i (.own d))) st)
  | .obj i e => fun env st => (evE C env e st).bnd fun d st => chkO (isCont d) (.ok (.nx (env.set i (.val (.obj st.length)))) (st ++ [d]))
  | .par fz ps => fun env st => (evPs C (freeze env fz) ps st).bnd fun ds st => (ofO (setPs ps ds (freeze env fz)) st).bnd fun env' st => .ok (.nx env') st
  | .aug i op e => fun env st => (ofO (getV env i) st).bnd fun x st => (evE C env e st).bnd fun y st => (ofO (augD op x y) st).bnd fun z st => .ok (.nx (env.set i (.val z))) st
  | .app fz i e => fun env st => (ofO (ownL (freeze env fz) i) st).bnd fun ds st => (evE C (freeze env fz) e st).bnd fun d st => chkO (decide (ds.length < sizeLine)) (.ok (.nx ((freeze env fz).set i (.own (.lst (ds ++ [d]))))) st)
  | .setI fz i k e => fun env st => (evE C (freeze env fz) e st).bnd fun d st => chkO (isPut (freeze env fz) i) ((evE C (freeze env fz) k st).bnd fun x st => (setIx (freeze env fz) i x d st).bnd fun env' st => .ok (.nx env') st)
  | .ex e => fun env st => (evE C env e st).bnd fun _ st => .ok (.nx env) st
  | .ret fz e => fun env st => (evE C (freeze env fz) e st).bnd fun d st => .ok (.rt d) st
  | .ifs c a b => fun env st => (evT C env c st).bnd fun r st => (match r with | true => evSs C a env st | false => evSs C b env st)
  | .for_ fz tg it body => fun env st => (evItV C (freeze env fz) it st).bnd fun ds st => forGo (fun d env st => (ofO (bind1 tg d env) st).bnd fun env' st => evSs C body env' st) ds (freeze env fz) st
  | .whl n c body => fun env st => whlGo (fun env st => evT C env c st) (evSs C body) n env st
  | .fld fz i c f e => fun env st => (evE C (freeze env fz) e st).bnd fun d st => (setFld (freeze env fz) i c f d st).bnd fun env' st => .ok (.nx env') st
  | .rais c ks es => fun env st => (evEs C env es st).bnd fun ds st => chkO (decide (ks.length = ds.length)) (.ex c ks ds.reverse st)
  | .try_ ws body hs => fun env st => (match evSs C body env st with
    | .ex c ks ds st1 => evHs C hs c ks ds (wipeE env ws) st1
    | o => o)
  | .pass => fun env st => .ok (.nx env) st
  | .brk => fun env st => .ok (.bk env) st
  | .cont => fun env st => .ok (.ct env) st
def evSs (C : Calls) : Ss → Env → Store → Out Fl
  | .nil => fun env st => .ok (.nx env) st
  | .cons s ss => fun env st => (evS C s env st).bnd fun f st => (match f with
    | .nx env' => evSs C ss env' st
    | .rt d => .ok (.rt d) st
    | .bk env => .ok (.bk env) st
    | .ct env => .ok (.ct env) st)
def evHs (C : Calls) : Hs → Str → List Str → List D → Env → Store → Out Fl
  | .nil => fun c ks ds _ st => .ex c ks ds st
  | .cons al cs i suite hs => fun c ks ds env st => chkO (decide (c ∈ al)) (match decide (c ∈ cs) with
    | false => evHs C hs c ks ds env st
    | true => (match i with
      | none => evSs C suite env st
      | some i => (evSs C suite (env.set i (.xc c ks ds)) st).bnd fun f st => (match f with
        | .nx env' => .ok (.nx ((dropX env').set i .no)) st
        | .rt d => .ok (.rt d) st
        | .bk env' => .ok (.bk ((dropX env').set i .no)) st
        | .ct env' => .ok (.ct ((dropX env').set i .no)) st)))
end
/-- a def: how many parameters, how many names, its body; the class whose instance it makes, whether it changes later -/
structure FnI where
  ps : Nat
  ns : Nat
  body : Ss
  ini : Option (Str × Bool) := none
def endD (o : Out Fl) : Out D := o.bnd fun f st => (match f with
  | .nx _ => .ok .non st
  | .rt d => .ok d st
  | _ => .bad)
def own0 : Env → Option D
  | .own (.ins c ks ds) :: _ => some (.ins c ks ds)
  | _ => none
def endI (m : Bool) (o : Out Fl) : Out D := o.bnd fun f st => (match f with
  | .nx env => (ofO (own0 env) st).bnd fun d st => (match m with
    | true => .ok (.obj st.length) (st ++ [d])
    | false => .ok d st)
  | _ => .bad)
def runF (C : Calls) (fi : FnI) (ds : List D) (st : Store) : Out D := match decide (ds.length = fi.ps) with
  | true => (match fi.ini with
    | none => endD (evSs C fi.body (ds.map .val ++ List.replicate (fi.ns - fi.ps) .no) st)
    | some (c, m) => endI m (evSs C fi.body (.own (.ins c [] []) :: (ds.map .val ++ List.replicate (fi.ns - fi.ps) .no)) st))
  | false => .bad
def callN (tab : List FnI) : Nat → Calls
  | 0 => fun _ _ _ => .bad
  | n + 1 => fun f ds st => (match tab[f]? with
    | some fi => runF (callN tab n) fi ds st
    | none => .bad)
end Eng
set_option Elab.async false
set_option linter.all false
set_option maxRecDepth 100000
/-! Eng 3: readings -/
namespace Eng
open PySem PySem.Spec PyProof.Rows L2

/-! ### a slot -/
/-- the exception that a suite holds: where it is, its class, its dict -/
structure XI where
  a : Addr
  cls : Value
  dx : Option Addr
/-- how a def was entered -/
structure Bs where
  F : Hp := fun _ => none
  T : List Addr := []
  H : Hp := fun _ => none
  me : Option Addr := none
/-- the exception that is held; the heap at the def's entry; the instance that is made -/
structure XB where
  x : Option XI
  H0 : Hp
  me : Option Addr
def isInsD : D → Bool
  | .ins _ _ _ => true
  | _ => false
/-- a thing of the frame's own, at a -/
structure OwnAt (H0 : Hp) (me : Option Addr) (a : Addr) (d : D) : Prop where
  h0 : H0 a = none
  me : isInsD d = true → me = some a
abbrev XB.At (xi : XB) (a : Addr) (d : D) : Prop := OwnAt xi.H0 xi.me a d
/-- what is wished of what is raised; the exception that is held; how the def was entered; whether a clause looks at the slots -/
structure WW where
  W : WX
  x : Option XI := none
  B : Bs := {}
  sv : Bool := false
abbrev WW.xi (W : WW) : XB := ⟨W.x, W.B.H, W.B.me⟩
instance : CoeFun WW (fun _ => WX) := ⟨WW.W⟩
/-- an exception's own dict -/
def XRep (K : PySem.W.Frag) (F : Hp) (T : List Addr) (H : Hp) (ks : List Str) (ds : List D) (dx : Option Addr) : Prop :=
  (ks = [] ∧ ds = [] ∧ dx = none) ∨ ∃ a fs, dx = some a ∧ H a = some (.xd fs) ∧ a ∉ T ∧ fs.map (·.1) = ks ∧ Reps K F T (fs.map (·.2)) ds
def SlOk (K : PySem.W.Frag) (xi : XB) (F : Hp) (T : List Addr) (H : Hp) (s : Sl) (o : Option (Option V)) : Prop := match s with
  | .no => True
  | .val d => ∃ v, o = some (some v) ∧ Rep K F T v d
  | .own d => ∃ a, o = some (some (.ref a)) ∧ RepTop K F T H a d ∧ F a = none ∧ a ∉ T ∧ xi.At a d
  | .xc c ks ds => ∃ x, xi.x = some x ∧ o = some (some (.ref x.a)) ∧ x.cls = .ref (He.ga K c) ∧ XRep K F T H ks ds x.dx
structure EnvOk (K : PySem.W.Frag) (xi : XB) (F : Hp) (T : List Addr) (H : Hp) (env : Env) (σ : L2.St) : Prop where
  at_ : ∀ (i : Nat) (s : Sl), env[i]? = some s → SlOk K xi F T H s σ[i]?
  len : env.length ≤ σ.length
  apart : ∀ (i j : Nat) (d d' : D) (a : Addr), i ≠ j → env[i]? = some (.own d) → env[j]? = some (.own d') → σ[i]? = some (some (.ref a)) → σ[j]? = some (some (.ref a)) → False
section
variable {K : PySem.W.Frag} {F F' H H' : Hp} {T T' : List Addr} {st : Store} {env : Env} {σ : L2.St}
theorem Ext.own (x : Ext F T H F' T' H') {a : Addr} {d : D} (h : RepTop K F T H a d) (f : F a = none) (n : a ∉ T) : RepTop K F' T' H' a d ∧ F' a = none ∧ a ∉ T' := by
  obtain ⟨o, ho⟩ := h.there
  refine ⟨h.mono x.fr x.pre fun o' e => x.keep a o' e n, x.newF a f (by rw [ho]; simp), fun m => ?_⟩
  rw [x.newT a m n] at ho; cases ho
theorem XRep.ext {ks : List Str} {ds : List D} {dx : Option Addr} (h : XRep K F T H ks ds dx) (x : Ext F T H F' T' H') : XRep K F' T' H' ks ds dx := by
  rcases h with h | ⟨a, fs, e, ha, n, k, r⟩
  · exact .inl h
  · refine .inr ⟨a, fs, e, x.keep a _ ha n, fun m => ?_, k, r.mono x.fr x.pre⟩
    have z := x.newT a m n
    rw [ha] at z; cases z
theorem SlOk.ext {s : Sl} {o : Option (Option V)} {xi : XB} (h : SlOk K xi F T H s o) (x : Ext F T H F' T' H') : SlOk K xi F' T' H' s o := by
  cases s with
  | no => trivial
  | val d => obtain ⟨v, e, r⟩ := h; exact ⟨v, e, r.mono x.fr x.pre⟩
  | own d => obtain ⟨a, e, r, f, n, z⟩ := h; obtain ⟨r', f', n'⟩ := x.own r f n; exact ⟨a, e, r', f', n', z⟩
  | xc c ks ds => obtain ⟨y, e1, e2, e3, r⟩ := h; exact ⟨y, e1, e2, e3, r.ext x⟩
theorem EnvOk.ext {xi : XB} (h : EnvOk K xi F T H env σ) (x : Ext F T H F' T' H') : EnvOk K xi F' T' H' env σ := ⟨fun i s e => (h.at_ i s e).ext x, h.len, h.apart⟩

/-- a value that is looked at: it is frozen, or an object of the frame's own -/
def Bor (K : PySem.W.Frag) (F : Hp) (T : List Addr) (H : Hp) (v : V) (d : D) : Prop := Rep K F T v d ∨ ∃ a, v = .ref a ∧ RepTop K F T H a d ∧ F a = none ∧ a ∉ T
theorem Bor.ext {v : V} {d : D} (h : Bor K F T H v d) (x : Ext F T H F' T' H') : Bor K F' T' H' v d := by
  rcases h with h | ⟨a, e, r, f, n⟩
  · exact .inl (h.mono x.fr x.pre)
  · obtain ⟨r', f', n'⟩ := x.own r f n
    exact .inr ⟨a, e, r', f', n'⟩
theorem Bor.lst (w : WF K F T st H) {v : V} {ds : List D} (h : Bor K F T H v (.lst ds)) : ∃ a xs, v = .ref a ∧ H a = some (.lst xs) ∧ Reps K F T xs ds := by
  rcases h with h | ⟨a, e, ⟨xs, e2, r⟩, _⟩
  · cases h with | lst q r => exact ⟨_, _, rfl, w.fr _ _ q, r⟩
  · exact ⟨a, xs, e, e2, r⟩
theorem Bor.tup (w : WF K F T st H) {v : V} {ds : List D} (h : Bor K F T H v (.tup ds)) : ∃ a xs, v = .ref a ∧ SqT K H a xs ∧ Reps K F T xs ds := by
  rcases h with h | ⟨a, e, r, _⟩
  · cases h with | tup q r => exact ⟨_, _, rfl, sqT_mono w.fr q, r⟩
  · exact r.elim
theorem Bor.dic (w : WF K F T st H) {v : V} {ks : List Key} {ds : List D} (h : Bor K F T H v (.dic ks ds)) : ∃ a kvs, v = .ref a ∧ H a = some (.dK kvs) ∧ kvs.map (·.1) = ks ∧ Reps K F T (kvs.map (·.2)) ds := by
  rcases h with h | ⟨a, e, ⟨kvs, e2, k, r⟩, _⟩
  · cases h with | dic q e r => exact ⟨_, _, rfl, w.fr _ _ q, e, r⟩
  · exact ⟨a, kvs, e, e2, k, r⟩
theorem Bor.scr (w : WF K F T st H) {v : V} {ns : List Int} (h : Bor K F T H v (.scr ns)) : ∃ a, v = .ref a ∧ SqL K H a (ns.map V.int) := by
  rcases h with h | ⟨a, e, r, _⟩
  · cases h with | scr q => exact ⟨_, rfl, w.fr.seq q⟩
  · exact r.elim
theorem Bor.non {v : V} (h : Bor K F T H v .non) : v = .non := by
  rcases h with h | ⟨a, e, r, _⟩
  · cases h; rfl
  · exact r.elim
theorem Bor.bl {v : V} {b : Bool} (h : Bor K F T H v (.bl b)) : v = .bl b := by
  rcases h with h | ⟨a, e, r, _⟩
  · cases h; rfl
  · exact r.elim
theorem Bor.int {v : V} {b : Int} (h : Bor K F T H v (.int b)) : v = .int b := by
  rcases h with h | ⟨a, e, r, _⟩
  · cases h; rfl
  · exact r.elim
theorem Bor.str {v : V} {b : Str} (h : Bor K F T H v (.str b)) : v = .str b := by
  rcases h with h | ⟨a, e, r, _⟩
  · cases h; rfl
  · exact r.elim
end

/-! ### what is behind an evaluation -/
/-- a result's relation: the heap ahead, the ghost and heap behind, the data, the thing -/
abbrev RR (α β : Type) := Hp → Hp → List Addr → Hp → α → β → Prop
def Sh {α β : Type} (R : RR α β) : Prop := ∀ (H H1 F : Hp) (T : List Addr) (H' : Hp) (a : α) (b : β), (∀ p, H1 p = none → H p = none) → R H1 F T H' a b → R H F T H' a b
def Post {α β : Type} (K : PySem.W.Frag) (W : WW) (σ : L2.St) (F : Hp) (T : List Addr) (H : Hp) (R : RR α β) (o : Out α) (Q : β → Hp → Prop) : Prop := match o with
  | .ok a st' => ∀ b F' T' H', Ext F T H F' T' H' → WF K F' T' st' H' → R H F' T' H' a b → Q b H'
  | .ex c ks ds st' => ∀ dx F' T' H', Ext F T H F' T' H' → WF K F' T' st' H' → XRep K F' T' H' ks ds dx → W (.ref (He.ga K c)) dx σ H'
  | .bad => False
section
variable {α β γ δ : Type} {K : PySem.W.Frag} {W : WW} {σ : L2.St} {F F1 H H1 : Hp} {T T1 : List Addr} {R : RR α β} {R1 : RR γ δ}
theorem Ext.none (x : Ext F T H F1 T1 H1) : ∀ p, H1 p = none → H p = none := fun p e => by
  cases q : H p with
  | none => rfl
  | some o => obtain ⟨o', e'⟩ := x.there p o q; rw [e] at e'; cases e'
theorem Post.shift {o : Out α} {Q : β → Hp → Prop} (sh : Sh R) (x : Ext F T H F1 T1 H1) (h : Post K W σ F T H R o Q) : Post K W σ F1 T1 H1 R o Q := by
  cases o with
  | bad => exact h
  | ok a st => exact fun b F' T' H' y w r => h b F' T' H' (x.trans y) w (sh _ _ _ _ _ _ _ x.none r)
  | ex c ks ds st => exact fun dx F' T' H' y w r => h dx F' T' H' (x.trans y) w r
theorem Post.mono {o : Out α} {Q Q' : β → Hp → Prop} (h : Post K W σ F T H R o Q) (q : ∀ b H', Q b H' → Q' b H') : Post K W σ F T H R o Q' := by
  cases o with
  | bad => exact h
  | ok a st => exact fun b F' T' H' y w r => q _ _ (h b F' T' H' y w r)
  | ex c ks ds st => exact h
theorem Post.bnd {o : Out γ} {f : γ → Store → Out α} {Q : β → Hp → Prop} (sh : Sh R) (h : Post K W σ F T H R (o.bnd f) Q) :
    Post K W σ F T H R1 o fun b H1 => ∃ F1 T1 st1 a, Ext F T H F1 T1 H1 ∧ WF K F1 T1 st1 H1 ∧ R1 H F1 T1 H1 a b ∧ Post K W σ F1 T1 H1 R (f a st1) Q := by
  cases o with
  | bad => exact h
  | ok a st => exact fun b F' T' H' y w r => ⟨F', T', st, a, y, w, r, Post.shift sh y h⟩
  | ex c ks ds st => exact h
end

/-! ### readings by an evaluator -/
def rV (K : PySem.W.Frag) : RR D V := fun _ F T _ d v => Rep K F T v d
def rVs (K : PySem.W.Frag) : RR (List D) (List V) := fun _ F T _ ds vs => Reps K F T vs ds
def rBo (K : PySem.W.Frag) : RR D V := fun _ F T H d v => Bor K F T H v d
inductive Bors (K : PySem.W.Frag) (F : Hp) (T : List Addr) (H : Hp) : List V → List D → Prop
  | nil : Bors K F T H [] []
  | cons {v : V} {vs : List V} {d : D} {ds : List D} : Bor K F T H v d → Bors K F T H vs ds → Bors K F T H (v :: vs) (d :: ds)
theorem Bors.ext {K : PySem.W.Frag} {F F' H H' : Hp} {T T' : List Addr} (x : Ext F T H F' T' H') : ∀ {vs : List V} {ds : List D}, Bors K F T H vs ds → Bors K F' T' H' vs ds
  | _, _, .nil => .nil
  | _, _, .cons a b => .cons (a.ext x) (b.ext x)
def rBs (K : PySem.W.Frag) : RR (List D) (List V) := fun _ F T H ds vs => Bors K F T H vs ds
def rEq {α : Type} : RR α α := fun _ _ _ _ a b => a = b
def Fresh (K : PySem.W.Frag) (H F : Hp) (T : List Addr) (H' : Hp) (d : D) (v : V) : Prop := ∃ a, v = .ref a ∧ RepTop K F T H' a d ∧ F a = none ∧ a ∉ T ∧ H a = none
/-- a container that is new, any other thing frozen -/
def rD (K : PySem.W.Frag) : RR D V := fun H F T H' d v => if isCont d = true then Fresh K H F T H' d v else Rep K F T v d
def rF (K : PySem.W.Frag) : RR D V := fun H F T H' d v => Fresh K H F T H' d v
theorem sh_V {K : PySem.W.Frag} : Sh (rV K) := fun _ _ _ _ _ _ _ _ h => h
theorem sh_Vs {K : PySem.W.Frag} : Sh (rVs K) := fun _ _ _ _ _ _ _ _ h => h
theorem sh_Bo {K : PySem.W.Frag} : Sh (rBo K) := fun _ _ _ _ _ _ _ _ h => h
theorem sh_Bs {K : PySem.W.Frag} : Sh (rBs K) := fun _ _ _ _ _ _ _ _ h => h
theorem sh_Eq {α : Type} : Sh (rEq (α := α)) := fun _ _ _ _ _ _ _ _ h => h
theorem Fresh.sh {K : PySem.W.Frag} {H H1 F H' : Hp} {T : List Addr} {d : D} {v : V} (h : ∀ p, H1 p = none → H p = none) (x : Fresh K H1 F T H' d v) : Fresh K H F T H' d v := by
  obtain ⟨a, e, r, f, n, z⟩ := x
  exact ⟨a, e, r, f, n, h a z⟩
theorem sh_F {K : PySem.W.Frag} : Sh (rF K) := fun _ _ _ _ _ _ _ h x => x.sh h
theorem sh_D {K : PySem.W.Frag} : Sh (rD K) := fun H H1 F T H' d v h x => by
  unfold rD at x ⊢
  split at x <;> rename_i c
  · rw [if_pos c]; exact x.sh h
  · rw [if_neg c]; exact x

/-- the reading of an evaluator m -/
def tX {α β : Type} (K : PySem.W.Frag) (W : WW) (R : RR α β) (m : Env → Store → Out α) : L2.St → Hp → (β → Hp → Prop) → Prop := fun σ H Q =>
  ∃ F T st env, WF K F T st H ∧ EnvOk K W.xi F T H env σ ∧ Post K W σ F T H R (m env st) Q
section
variable {α β γ δ : Type} {K : PySem.W.Frag} {W : WW} {σ : L2.St} {H : Hp} {R : RR α β} {R1 : RR γ δ}
theorem tX.bnd {m : Env → Store → Out γ} {f : Env → γ → Store → Out α} {Q : β → Hp → Prop} (sh : Sh R) (h : tX K W R (fun env st => (m env st).bnd (f env)) σ H Q) :
    tX K W R1 m σ H fun b H1 => ∃ F1 T1 st1 env a, (∀ p, H1 p = none → H p = none) ∧ WF K F1 T1 st1 H1 ∧ EnvOk K W.xi F1 T1 H1 env σ ∧ R1 H F1 T1 H1 a b ∧ Post K W σ F1 T1 H1 R (f env a st1) Q := by
  obtain ⟨F, T, st, env, w, eo, p⟩ := h
  refine ⟨F, T, st, env, w, eo, ?_⟩
  exact (p.bnd (R1 := R1) sh).mono fun b H1 ⟨F1, T1, st1, a, x, w1, r1, p1⟩ => ⟨F1, T1, st1, env, a, x.none, w1, eo.ext x, r1, p1⟩
end
abbrev tE (K : PySem.W.Frag) (W : WW) (C : Calls) (e : E) : TE := tX K W (rV K) fun env => evE C env e
abbrev tB (K : PySem.W.Frag) (W : WW) (C : Calls) (e : E) : TE := tX K W (rBo K) fun env => bor env e (evE C env e)
abbrev tDr (K : PySem.W.Frag) (W : WW) (C : Calls) (e : E) : TE := tX K W (rD K) fun env => evE C env e
abbrev tFr (K : PySem.W.Frag) (W : WW) (C : Calls) (e : E) : TE := tX K W (rF K) fun env st => (evE C env e st).bnd fun d st => chkO (isCont d) (.ok d st)
abbrev tT (K : PySem.W.Frag) (W : WW) (C : Calls) (e : E) : TT := tX K W rEq fun env => evT C env e
abbrev tEs (K : PySem.W.Frag) (W : WW) (C : Calls) (es : Es) : TA := tX K W (rVs K) fun env => evEs C env es
abbrev tBs (K : PySem.W.Frag) (W : WW) (C : Calls) (es : Es) : TA := tX K W (rBs K) fun env => evBs C env es
abbrev tOp (K : PySem.W.Frag) (W : WW) (C : Calls) (o : Op) : TO := tX K W rEq fun env => evO C env o

theorem impE {X : Cx} {e : Expr} {t t' : TE} (h : PE X e t) (i : ∀ σ H Q, t' σ H Q → t σ H Q) : PE X e t' := ⟨fun pins s σ H Q I q => h.run pins s σ H Q I (i σ H Q q)⟩
theorem impT {X : Cx} {e : Expr} {t t' : TT} (h : PT X e t) (i : ∀ σ H Q, t' σ H Q → t σ H Q) : PT X e t' := ⟨fun pins s σ H Q I q => h.run pins s σ H Q I (i σ H Q q)⟩
theorem impW {X : Cx} {e : Expr} {t t' : TT} (h : PW X e t) (i : ∀ σ H Q, t' σ H Q → t σ H Q) : PW X e t' := ⟨fun wh pins s σ H Q I q => h.run wh pins s σ H Q I (i σ H Q q)⟩
theorem impA {X : Cx} {e : List Expr} {t t' : TA} (h : PA X e t) (i : ∀ σ H Q, t' σ H Q → t σ H Q) : PA X e t' := ⟨fun pos pins s σ H Q I q => h.run pos pins s σ H Q I (i σ H Q q)⟩
theorem impO {X : Cx} {e : Option Expr} {t t' : TO} (h : PO X e t) (i : ∀ σ H Q, t' σ H Q → t σ H Q) : PO X e t' := ⟨fun pins s σ H Q I q => h.run pins s σ H Q I (i σ H Q q)⟩
theorem impS {X : Cx} {e : Stmt} {t t' : TS} (h : PS X e t) (i : ∀ D σ H, t' D σ H → t D σ H) : PS X e t' := ⟨fun pins s σ H D I q => h.run pins s σ H D I (i D σ H q)⟩
theorem impSs {X : Cx} {e : List Stmt} {t t' : TS} (h : PSs X e t) (i : ∀ D σ H, t' D σ H → t D σ H) : PSs X e t' := ⟨fun pins s σ H D I q => h.run pins s σ H D I (i D σ H q)⟩

section
variable {X : Cx} {W : WW} {C : Calls} {ast : Expr} {e : E}
/-- a fresh thing frozen -/
theorem rD_rV {K : PySem.W.Frag} {F F' H H' : Hp} {T T' : List Addr} {st' : Store} {d : D} {v : V} (x : Ext F T H F' T' H') (w : WF K F' T' st' H') (r : rD K H F' T' H' d v) :
    ∃ F2, Ext F T H F2 T' H' ∧ WF K F2 T' st' H' ∧ Rep K F2 T' v d := by
  unfold rD at r
  split at r <;> rename_i c
  · obtain ⟨a, e, rt, f, n, z⟩ := r
    subst e
    obtain ⟨o, ho⟩ := rt.there
    refine ⟨upd F' a o, Ext.freeze ho f n x z, w.freeze ho f n, rt.rep (fun b u e => by rw [upd_ne (ne_of_none e f)]; exact e) fun o' e' => ?_⟩
    rw [upd_same, ← e', ho]
  · exact ⟨F', x, w, r⟩
theorem pe_ofD (h : PE X ast (tDr X.K W C e)) : PE X ast (tE X.K W C e) := impE h fun σ H Q ⟨F, T, st, env, w, eo, p⟩ => by
  refine ⟨F, T, st, env, w, eo, ?_⟩
  have p : Post X.K W σ F T H (rV X.K) (evE C env e st) Q := p
  show Post X.K W σ F T H (rD X.K) (evE C env e st) Q
  revert p
  cases evE C env e st with
  | bad => exact id
  | ex c ks ds st => exact id
  | ok d st' =>
    intro p v F' T' H' x w' r
    obtain ⟨F2, x2, w2, r2⟩ := rD_rV x w' r
    exact p v F2 T' H' x2 w2 r2
theorem pe_frD (h : PE X ast (tDr X.K W C e)) : PE X ast (tFr X.K W C e) := impE h fun σ H Q ⟨F, T, st, env, w, eo, p⟩ => by
  refine ⟨F, T, st, env, w, eo, ?_⟩
  have p : Post X.K W σ F T H (rF X.K) ((evE C env e st).bnd fun d st => chkO (isCont d) (.ok d st)) Q := p
  show Post X.K W σ F T H (rD X.K) (evE C env e st) Q
  revert p
  cases evE C env e st with
  | bad => exact id
  | ex c ks ds st => exact id
  | ok d st' =>
    rw [Out.bnd_ok]
    cases c : isCont d with
    | false => exact fun p => p.elim
    | true =>
      intro p v F' T' H' x w' r
      unfold rD at r
      rw [if_pos c] at r
      exact p v F' T' H' x w' r
end
end Eng
set_option Elab.async false
set_option linter.all false
set_option maxRecDepth 100000
/-! Eng 4: operations of values -/
namespace Eng
open PySem PySem.Spec PyProof.Rows L2

section
variable {K : PySem.W.Frag} {F H : Hp} {T : List Addr} {st : Store}
theorem WF.free (w : WF K F T st H) {p : Addr} (h : H p = none) : F p = none ∧ p ∉ T := by
  refine ⟨?_, fun m => ?_⟩
  · cases q : F p with
    | none => rfl
    | some o => rw [w.fr p o q] at h; cases h
  · obtain ⟨o, e⟩ := w.inT m
    rw [h] at e; cases e
/-- what follows an operation -/
abbrev Cont (K : PySem.W.Frag) (F : Hp) (T : List Addr) (st : Store) (H : Hp) (R : RR D V) (d : D) (Q : VK) : Prop :=
  ∀ v F' T' H', Ext F T H F' T' H' → WF K F' T' st H' → R H F' T' H' d v → Q v H'
theorem rD_c {H F' H' : Hp} {T' : List Addr} {d : D} {v : V} (h : isCont d = true) (r : Fresh K H F' T' H' d v) : rD K H F' T' H' d v := by
  unfold rD; rw [if_pos h]; exact r
theorem rD_n {H F' H' : Hp} {T' : List Addr} {d : D} {v : V} (h : isCont d = false) (r : Rep K F' T' v d) : rD K H F' T' H' d v := by
  unfold rD; rw [if_neg (by rw [h]; exact Bool.false_ne_true)]; exact r
theorem Cont.flat (w : WF K F T st H) {d : D} {v : V} {Q : VK} (c : Cont K F T st H (rD K) d Q) (h : isCont d = false) (r : Rep K F T v d) : Q v H :=
  c v F T H (.refl _ _ _) w (rD_n h r)
theorem Cont.flatV (w : WF K F T st H) {d : D} {v : V} {Q : VK} (c : Cont K F T st H (rV K) d Q) (r : Rep K F T v d) : Q v H :=
  c v F T H (.refl _ _ _) w r
theorem Cont.lst (w : WF K F T st H) {ds : List D} {xs : List V} {Q : VK} (c : Cont K F T st H (rD K) (.lst ds) Q) (r : Reps K F T xs ds) {p : Addr} (hp : H p = none) : Q (.ref p) (upd H p (.lst xs)) := by
  obtain ⟨f, n⟩ := w.free hp
  refine c _ F T _ (Ext.newO hp) (w.newO hp) (rD_c rfl ?_)
  exact ⟨p, rfl, ⟨xs, upd_same, r⟩, f, n, hp⟩
theorem Cont.dic (w : WF K F T st H) {ks : List Key} {ds : List D} {kvs : List (Key × V)} {Q : VK} (c : Cont K F T st H (rD K) (.dic ks ds) Q) (e : kvs.map (·.1) = ks) (r : Reps K F T (kvs.map (·.2)) ds) {p : Addr} (hp : H p = none) : Q (.ref p) (upd H p (.dK kvs)) := by
  obtain ⟨f, n⟩ := w.free hp
  refine c _ F T _ (Ext.newO hp) (w.newO hp) (rD_c rfl ?_)
  exact ⟨p, rfl, ⟨kvs, upd_same, e, r⟩, f, n, hp⟩
theorem new_tup (w : WF K F T st H) {ds : List D} {xs : List V} (r : Reps K F T xs ds) {p : Addr} (hp : H p = none) : Rep K (upd F p (.tup xs)) T (.ref p) (.tup ds) :=
  .tup (.of upd_same) (r.mono (Ext.new w hp).fr (.refl _))
theorem Cont.tup (w : WF K F T st H) {ds : List D} {xs : List V} {Q : VK} (c : Cont K F T st H (rD K) (.tup ds) Q) (r : Reps K F T xs ds) {p : Addr} (hp : H p = none) : Q (.ref p) (upd H p (.tup xs)) := by
  exact c _ (upd F p (.tup xs)) T _ (Ext.new w hp) (w.new hp) (rD_n rfl (new_tup w r hp))
end

def rOp2 (K : PySem.W.Frag) (g : D → D → Option D) (R : RR D V) : R2 := fun x y H Q => ∃ F T st dx dy d, WF K F T st H ∧ Bor K F T H x dx ∧ Bor K F T H y dy ∧ g dx dy = some d ∧ Cont K F T st H R d Q
section
variable {X : Cx}
theorem mulok_str {x : Str} {k : Int} (h1 : -(2 ^ 63) ≤ k) (h2 : k < 2 ^ 63) (h3 : x.length * k.toNat ≤ sizeLine) : MulOk x k := by
  have sz := sizeLine_eq
  refine ⟨?_, fun h4 _ h5 => ?_, fun _ _ => ?_⟩
  · have a : ¬ k < -(2 ^ 63 : Int) := by omega
    have b : ¬ k ≥ 2 ^ 63 := by omega
    rw [decide_eq_false a, decide_eq_false b]; rfl
  · have hk : (0 : Int) < k := by omega
    have e : (x.length : Int) * k ≤ 16777216 := by
      have : ((x.length * k.toNat : Nat) : Int) ≤ (16777216 : Nat) := by exact_mod_cast (sz ▸ h3)
      rw [Int.natCast_mul, Int.toNat_of_nonneg (by omega)] at this
      exact this
    have q : (x.length : Int) ≤ (2 ^ 63 - 1) / k := (Int.le_ediv_iff_mul_le hk).mpr (by omega)
    omega
  · show Builtin.Str.tooLong _ = false
    unfold Builtin.Str.tooLong
    exact decide_eq_false (by omega)
theorem op_bin {op : Operator} : OpR X (binaryOp op) (rOp2 X.K (binD op) (rD X.K)) := by
  intro pins s σ H x y v u Q I rx ry h
  obtain ⟨F, T, st, dx, dy, d, w, bx, by_, e, c⟩ := h
  have stuck : (none : Option D) = some d → wpAny (model X.prog X.w) X.A (binaryOp op v u) (EP X pins σ Q) X.xe s := fun z => by cases z
  cases dx with
  | int i =>
    cases bx.int
    cases dy with
    | int j =>
      cases by_.int
      cases op with
      | Add => cases e; exact op_add pins s σ H _ _ v u Q I rx ry ⟨i, j, rfl, rfl, c.flat w rfl (.int _)⟩
      | Sub => cases e; exact op_sub pins s σ H _ _ v u Q I rx ry ⟨i, j, rfl, rfl, c.flat w rfl (.int _)⟩
      | Mult =>
        simp only [binD] at e
        split at e <;> rename_i q <;> cases e
        exact op_mul pins s σ H _ _ v u Q I rx ry ⟨i, j, rfl, rfl, q, c.flat w rfl (.int _)⟩
      | FloorDiv =>
        simp only [binD] at e
        split at e <;> rename_i q <;> cases e
        exact op_fdivN pins s σ H _ _ v u Q I rx ry ⟨i, j, rfl, rfl, q, c.flat w rfl (.int _)⟩
      | Mod =>
        simp only [binD] at e
        split at e <;> rename_i q <;> cases e
        exact op_modN pins s σ H _ _ v u Q I rx ry ⟨i, j, rfl, rfl, q, c.flat w rfl (.int _)⟩
      | Pow =>
        simp only [binD] at e
        split at e <;> rename_i q <;> cases e
        exact op_pow pins s σ H _ _ v u Q I rx ry ⟨i, j, rfl, rfl, q, c.flat w rfl (.int _)⟩
      | _ => exact stuck e
    | _ => cases op <;> exact stuck e
  | str i =>
    cases bx.str
    cases dy with
    | str j =>
      cases by_.str
      cases op with
      | Add =>
        simp only [binD] at e
        split at e <;> rename_i q <;> cases e
        exact op_add_str pins s σ H _ _ v u Q I rx ry ⟨i, j, rfl, rfl, q, c.flat w rfl (.str _)⟩
      | _ => exact stuck e
    | int k =>
      cases by_.int
      cases op with
      | Mult =>
        simp only [binD] at e
        split at e <;> rename_i q <;> cases e
        obtain ⟨t, rfl⟩ := rx
        obtain ⟨t', rfl⟩ := ry
        exact SB.mul (mulok_str q.1 q.2.1 q.2.2) fun t2 k2 => ⟨.str _, H, I.tok _, ⟨_, rfl⟩, c.flat w rfl (.str _)⟩
      | _ => exact stuck e
    | _ => cases op <;> exact stuck e
  | lst xs =>
    obtain ⟨a, vs, ea, ha, ra⟩ := bx.lst w
    subst ea
    cases dy with
    | lst ys =>
      obtain ⟨b, ws, eb, hb, rb⟩ := by_.lst w
      subst eb
      cases op with
      | Add =>
        simp only [binD] at e
        split at e <;> rename_i q <;> cases e
        exact op_cat pins s σ H _ _ v u Q I rx ry ⟨a, b, vs, ws, rfl, rfl, ha, hb, by rw [ra.length, rb.length]; exact q, fun p hp => c.lst w (ra.append rb) hp⟩
      | _ => exact stuck e
    | int k =>
      cases by_.int
      cases op with
      | Mult =>
        simp only [binD] at e
        split at e <;> rename_i q <;> cases e
        exact op_rep pins s σ H _ _ v u Q I rx ry ⟨a, k, vs, rfl, rfl, ha, q.1, q.2.1, by rw [ra.length]; exact q.2.2, fun p hp => c.lst w (ra.rep _) hp⟩
      | _ => exact stuck e
    | _ => cases op <;> exact stuck e
  | tup xs =>
    obtain ⟨a, vs, ea, ha, ra⟩ := bx.tup w
    subst ea
    cases dy with
    | tup ys =>
      obtain ⟨b, ws, eb, hb, rb⟩ := by_.tup w
      subst eb
      cases op with
      | Add =>
        simp only [binD] at e
        split at e <;> rename_i q <;> cases e
        refine op_catA pins s σ H _ _ v u Q I rx ry ⟨a, b, vs, ws, rfl, rfl, ha, hb, by rw [ra.length, rb.length]; exact q, fun z => ?_, fun z1 z2 => ?_, fun _ _ p hp => c.tup w (ra.append rb) hp⟩
        · subst z
          cases ra
          rcases by_ with k | ⟨_, _, k, _⟩
          · exact c.flat w rfl k
          · exact k.elim
        · subst z2
          cases rb
          rw [List.append_nil] at c
          rcases bx with k | ⟨_, _, k, _⟩
          · exact c.flat w rfl k
          · exact k.elim
      | _ => exact stuck e
    | _ => cases op <;> exact stuck e
  | _ => cases op <;> cases dy <;> exact stuck e

/-! ### comparisons -/
mutual
theorem eqv_py : ∀ (n : Nat) (d e : D), dataD n d = true → dataD n e = true → PyData.eqv (py d) (py e) = eqD d e
  | n, d, e, hd, he => by
    cases d with
    | non => cases e <;> first | rfl | (simp [py, PyData.eqv, eqD]; done) | (cases n <;> cases he)
    | bl b => cases e <;> first | rfl | (simp [py, PyData.eqv, eqD]; done) | (cases n <;> cases he)
    | int b => cases e <;> first | rfl | (simp [py, PyData.eqv, eqD]; done) | (cases n <;> cases he)
    | str b => cases e <;> first | rfl | (simp [py, PyData.eqv, eqD]; done) | (cases n <;> cases he)
    | lst xs =>
      cases n with
      | zero => cases hd
      | succ n =>
        cases e with
        | lst ys => rw [py, py, PyData.eqv, eqD]; exact eqv_pys n xs ys hd he
        | _ => first | rfl | (simp [py, PyData.eqv, eqD]; done) | cases he
    | tup xs =>
      cases n with
      | zero => cases hd
      | succ n =>
        cases e with
        | tup ys => rw [py, py, PyData.eqv, eqD]; exact eqv_pys n xs ys hd he
        | _ => first | rfl | (simp [py, PyData.eqv, eqD]; done) | cases he
    | _ => cases n <;> cases hd
theorem eqv_pys : ∀ (n : Nat) (ds es : List D), dataDs n ds = true → dataDs n es = true → PyData.eqvAll (pys ds) (pys es) = eqDs ds es
  | n, [], [], _, _ => rfl
  | n, [], _ :: _, _, _ => rfl
  | n, _ :: _, [], _, _ => rfl
  | n, d :: ds, e :: es, hd, he => by
    have a := He.ba (show (dataD n d && dataDs n ds) = true from hd)
    have b := He.ba (show (dataD n e && dataDs n es) = true from he)
    rw [pys, pys, PyData.eqvAll, eqDs, eqv_py n d e a.1 b.1, eqv_pys n ds es a.2 b.2]
end
mutual
theorem lay_py : ∀ (n : Nat) (d : D), dataD n d = true → (py d).canLay0 = true ∧ (py d).depth ≤ n + 1
  | n, d, hd => by
    cases d with
    | str x => exact ⟨by simp only [py, PyData.canLay0]; cases n <;> exact hd, by simp [py, PyData.depth]⟩
    | lst xs =>
      cases n with
      | zero => cases hd
      | succ n =>
        obtain ⟨a, b⟩ := lay_pys n xs hd
        exact ⟨by simpa [py, PyData.canLay0] using a, by simp only [py, PyData.depth]; omega⟩
    | tup xs =>
      cases n with
      | zero => cases hd
      | succ n =>
        obtain ⟨a, b⟩ := lay_pys n xs hd
        exact ⟨by simpa [py, PyData.canLay0] using a, by simp only [py, PyData.depth]; omega⟩
    | _ => exact ⟨by simp [py, PyData.canLay0], by simp [py, PyData.depth]⟩
theorem lay_pys : ∀ (n : Nat) (ds : List D), dataDs n ds = true → PyData.canLayAll0 (pys ds) = true ∧ PyData.depthAll (pys ds) ≤ n + 1
  | n, [], _ => ⟨by simp [pys, PyData.canLayAll0], by simp [pys, PyData.depthAll]⟩
  | n, d :: ds, hd => by
    have a := He.ba (show (dataD n d && dataDs n ds) = true from hd)
    obtain ⟨l1, p1⟩ := lay_py n d a.1
    obtain ⟨l2, p2⟩ := lay_pys n ds a.2
    exact ⟨by simp [pys, PyData.canLayAll0, l1, l2], by simp only [pys, PyData.depthAll]; omega⟩
end
theorem shaped_py {n : Nat} {d : D} (h : dataD n d = true) (hn : n ≤ 60 := by decide) : SeqAt.shaped (py d) = true := by
  obtain ⟨a, b⟩ := lay_py n d h
  unfold SeqAt.shaped
  rw [a, decide_eq_true (by omega)]; rfl
mutual
theorem dataD_F : ∀ (n : Nat) (d : D), dataD n d = true → dataF n d = true
  | n, d, h => by
    cases d with
    | lst xs =>
      cases n with
      | zero => cases h
      | succ n => exact dataDs_F n xs h
    | tup xs =>
      cases n with
      | zero => cases h
      | succ n => exact dataDs_F n xs h
    | _ => cases n <;> first | rfl | cases h
theorem dataDs_F : ∀ (n : Nat) (ds : List D), dataDs n ds = true → dataFs n ds = true
  | n, [], _ => by cases n <;> rfl
  | n, d :: ds, h => by
    have a := He.ba (show (dataD n d && dataDs n ds) = true from h)
    show (dataF n d && dataFs n ds) = true
    rw [dataD_F n d a.1, dataDs_F n ds a.2]; rfl
end
mutual
theorem dp_repF {K : PySem.W.Frag} {F H : Hp} {T : List Addr} (sm : Same F H) : ∀ (n : Nat) (d : D) (v : V), dataF n d = true → Rep K F T v d → Dp K H v (py d)
  | n, d, v, hd, r => by
    cases d with
    | non => cases r; exact .non
    | bl b => cases r; exact .bl b
    | int b => cases r; exact .int b
    | str b => cases r; exact .str b
    | lst xs =>
      cases n with
      | zero => cases hd
      | succ n => cases r with | lst q r => exact .lst (.of (sm _ _ q)) (dp_repsF sm n xs _ hd r)
    | tup xs =>
      cases n with
      | zero => cases hd
      | succ n => cases r with | tup q r => exact .tup (sqT_mono sm q) (dp_repsF sm n xs _ hd r)
    | _ => cases n <;> cases hd
theorem dp_repsF {K : PySem.W.Frag} {F H : Hp} {T : List Addr} (sm : Same F H) : ∀ (n : Nat) (ds : List D) (vs : List V), dataFs n ds = true → Reps K F T vs ds → DpAll K H vs (pys ds)
  | n, [], _, _, r => by cases r; exact .nil
  | n, d :: ds, _, hd, r => by
    have a := He.ba (show (dataF n d && dataFs n ds) = true from hd)
    cases r with | cons r1 r2 => exact .cons (dp_repF sm n d _ a.1 r1) (dp_repsF sm n ds _ a.2 r2)
end
theorem dp_rep {K : PySem.W.Frag} {F H : Hp} {T : List Addr} (sm : Same F H) (n : Nat) (d : D) (v : V) (h : dataD n d = true) (r : Rep K F T v d) : Dp K H v (py d) := dp_repF sm n d v (dataD_F n d h) r
theorem dp_reps {K : PySem.W.Frag} {F H : Hp} {T : List Addr} (sm : Same F H) (n : Nat) (ds : List D) (vs : List V) (h : dataDs n ds = true) (r : Reps K F T vs ds) : DpAll K H vs (pys ds) := dp_repsF sm n ds vs (dataDs_F n ds h) r
theorem depth_pyF : ∀ (n : Nat) (d : D), dataF n d = true → (py d).depth ≤ n + 1 := by
  intro n d
  induction n generalizing d with
  | zero =>
    intro h
    cases d <;> first | (simp [py, PyData.depth]; done) | cases h
  | succ n ih =>
    have all : ∀ ds : List D, dataFs n ds = true → PyData.depthAll (pys ds) ≤ n + 1 := by
      intro ds
      induction ds with
      | nil => intro _; simp [pys, PyData.depthAll]
      | cons d ds ih2 =>
        intro h
        have a := He.ba (show (dataF n d && dataFs n ds) = true from h)
        have := ih d a.1
        have := ih2 a.2
        simp only [pys, PyData.depthAll]; omega
    intro h
    cases d with
    | lst xs => have := all xs h; simp only [py, PyData.depth]; omega
    | tup xs => have := all xs h; simp only [py, PyData.depth]; omega
    | _ => simp [py, PyData.depth]
theorem dp_bor {K : PySem.W.Frag} {F H : Hp} {T : List Addr} {st : Store} (w : WF K F T st H) {n : Nat} {d : D} {v : V} (hd : dataD n d = true) (b : Bor K F T H v d) : Dp K H v (py d) := by
  rcases b with r | ⟨a, e, r, _⟩
  · exact dp_rep w.fr n d v hd r
  · subst e
    cases d with
    | lst xs =>
      obtain ⟨vs, e, r⟩ := r
      cases n with
      | zero => cases hd
      | succ n => exact .lst (.of e) (dp_reps w.fr n xs _ hd r)
    | dic _ _ => cases n <;> cases hd
    | ins _ _ _ => cases n <;> cases hd
    | _ => exact r.elim
end
end Eng
set_option Elab.async false
set_option linter.all false
set_option maxRecDepth 100000
/-! Eng 5: comparisons, items, slices, truth -/
namespace Eng
open PySem PySem.Spec PyProof.Rows L2
section
variable {X : Cx}
theorem bor_flat {K : PySem.W.Frag} {F H : Hp} {T : List Addr} {d : D} {v : V} (h : flatD d = true) (b : Bor K F T H v d) : flatV v = true ∧ (v = match d with | .non => .non | .bl b => .bl b | .int i => .int i | .str x => .str x | _ => .non) := by
  cases d with
  | non => cases b.non; exact ⟨rfl, rfl⟩
  | bl _ => cases b.bl; exact ⟨rfl, rfl⟩
  | int _ => cases b.int; exact ⟨rfl, rfl⟩
  | str _ => cases b.str; exact ⟨rfl, rfl⟩
  | _ => cases h
theorem scal_of {K : PySem.W.Frag} {F H : Hp} {T : List Addr} {d e : D} {v u : V} (h : scalD d e = true) (b : Bor K F T H v d) (c : Bor K F T H u e) : scal v u = true ∧ decide (v = u) = eqD d e := by
  cases d with
  | non => cases b.non; cases e with
    | non => cases c.non; exact ⟨rfl, rfl⟩
    | bl _ => cases c.bl; exact ⟨rfl, by simp [eqD]⟩
    | int _ => cases c.int; exact ⟨rfl, by simp [eqD]⟩
    | str _ => cases c.str; exact ⟨rfl, by simp [eqD]⟩
    | _ => cases h
  | bl _ => cases b.bl; cases e with
    | non => cases c.non; exact ⟨rfl, by simp [eqD]⟩
    | bl _ => cases c.bl; exact ⟨rfl, by simp only [eqD]; exact dec_bl⟩
    | str _ => cases c.str; exact ⟨rfl, by simp [eqD]⟩
    | _ => cases h
  | int _ => cases b.int; cases e with
    | non => cases c.non; exact ⟨rfl, by simp [eqD]⟩
    | int _ => cases c.int; exact ⟨rfl, by simp [eqD]⟩
    | str _ => cases c.str; exact ⟨rfl, by simp [eqD]⟩
    | _ => cases h
  | str _ => cases b.str; cases e with
    | non => cases c.non; exact ⟨rfl, by simp [eqD]⟩
    | bl _ => cases c.bl; exact ⟨rfl, by simp [eqD]⟩
    | int _ => cases c.int; exact ⟨rfl, by simp [eqD]⟩
    | str _ => cases c.str; exact ⟨rfl, by simp [eqD]⟩
    | _ => cases h
  | _ => cases e <;> cases h
/-- == of a list and an empty one -/
theorem eq_nil {pins : List (Addr × Obj)} {σ : L2.St} {H : Hp} {s : Shared} {a b : Addr} {xs : List V} {E Q : Value → Shared → Prop} (I : Inv X pins σ H s) (hu : X.A.units < cLine) (ha : H a = some (.lst xs)) (hb : H b = some (.lst [])) (h : Q (.bool xs.isEmpty) s) :
    wpAny (model X.prog X.w) X.A (compareOp .Eq (.ref a) (.ref b)) Q E s := by
  obtain ⟨its, r, p, _⟩ := I.list (.of ha)
  obtain ⟨its2, r2, p2, _⟩ := I.list (.of hb)
  cases r2
  have hl := r.length
  show wpAny (model X.prog X.w) X.A (richCompare .Eq (.ref a) (.ref b)) Q E s
  cases xs with
  | nil =>
    cases r
    exact SeqAt.RcAt.lists (e := fun _ => true) p.isList p2.isList rfl hu (fun j h1 _ => by simp at h1) X.prog X.w E Q h
  | cons x xs =>
    refine SeqAt.RcAt.lists_lengths p.isList p2.isList ?_ hu X.prog X.w E Q h
    simp only [List.size_toArray, ← hl]; simp
theorem ne_nil {pins : List (Addr × Obj)} {σ : L2.St} {H : Hp} {s : Shared} {a b : Addr} {xs : List V} {E Q : Value → Shared → Prop} (I : Inv X pins σ H s) (hu : X.A.units < cLine) (ha : H a = some (.lst xs)) (hb : H b = some (.lst [])) (h : Q (.bool (!xs.isEmpty)) s) :
    wpAny (model X.prog X.w) X.A (compareOp .NotEq (.ref a) (.ref b)) Q E s := by
  obtain ⟨its, r, p, _⟩ := I.list (.of ha)
  obtain ⟨its2, r2, p2, _⟩ := I.list (.of hb)
  cases r2
  have hl := r.length
  show wpAny (model X.prog X.w) X.A (richCompare .NotEq (.ref a) (.ref b)) Q E s
  cases xs with
  | nil =>
    cases r
    exact SeqAt.RcNeAt.lists (e := fun _ => true) p.isList p2.isList rfl hu (fun j h1 _ => by simp at h1) X.prog X.w E Q h
  | cons x xs =>
    refine SeqAt.RcNeAt.lists_lengths p.isList p2.isList ?_ hu X.prog X.w E Q h
    simp only [List.size_toArray, ← hl]; simp
theorem reps_empty {K : PySem.W.Frag} {F : Hp} {T : List Addr} {vs : List V} {ds : List D} (r : Reps K F T vs ds) : vs.isEmpty = ds.isEmpty := by cases r <;> rfl
theorem eqO_cases {x y : D} {b : Bool} (h : eqO x y = some b) : (∃ xs, x = .lst xs ∧ y = .lst [] ∧ b = xs.isEmpty) ∨ (scalD x y = true ∧ b = eqD x y) ∨ (dataD 20 x = true ∧ dataD 20 y = true ∧ b = eqD x y) := by
  unfold eqO at h
  split at h
  · cases h; exact .inl ⟨_, rfl, rfl, rfl⟩
  · split at h
    · rename_i c; cases h; exact .inr (.inl ⟨c, rfl⟩)
    · split at h
      · rename_i c; cases h
        obtain ⟨c1, c2⟩ := He.ba c
        exact .inr (.inr ⟨c1, c2, rfl⟩)
      · cases h
theorem op_eqG_ (hu : X.A.units + 64 < cLine) : OpR X (compareOp .Eq) (rOp2 X.K (fun x y => (eqO x y).map .bl) (rV X.K)) := by
  intro pins s σ H x y v u Q I rx ry h
  obtain ⟨F, T, st, dx, dy, d, w, bx, by_, e, c⟩ := h
  obtain ⟨b, e1, e2⟩ := Option.map_eq_some_iff.mp e
  subst e2
  rcases eqO_cases e1 with ⟨xs, rfl, rfl, rfl⟩ | ⟨k, rfl⟩ | ⟨k1, k2, rfl⟩
  · obtain ⟨a, vs, rfl, ha, ra⟩ := bx.lst w
    obtain ⟨b, ws, rfl, hb, rb⟩ := by_.lst w
    cases rb
    cases rx
    cases ry
    exact eq_nil I (by omega) ha hb ⟨.bl _, H, I, rfl, by rw [reps_empty ra]; exact c.flatV w (.bl _)⟩
  · obtain ⟨k1, k2⟩ := scal_of k bx by_
    exact op_eq pins s σ H x y v u Q I rx ry ⟨k1, by rw [k2]; exact c.flatV w (.bl _)⟩
  · exact op_eqD hu pins s σ H x y v u Q I rx ry ⟨py dx, py dy, dp_bor w k1 bx, dp_bor w k2 by_, shaped_py k1, shaped_py k2, by rw [eqv_py 20 dx dy k1 k2]; exact c.flatV w (.bl _)⟩
theorem op_neG (hu : X.A.units + 64 < cLine) : OpR X (compareOp .NotEq) (rOp2 X.K (fun x y => ((eqO x y).map (!·)).map .bl) (rV X.K)) := by
  intro pins s σ H x y v u Q I rx ry h
  obtain ⟨F, T, st, dx, dy, d, w, bx, by_, e, c⟩ := h
  obtain ⟨b', e1', e2'⟩ := Option.map_eq_some_iff.mp e
  obtain ⟨b, e1, rfl⟩ := Option.map_eq_some_iff.mp e1'
  subst e2'
  rcases eqO_cases e1 with ⟨xs, rfl, rfl, rfl⟩ | ⟨k, rfl⟩ | ⟨k1, k2, rfl⟩
  · obtain ⟨a, vs, rfl, ha, ra⟩ := bx.lst w
    obtain ⟨b, ws, rfl, hb, rb⟩ := by_.lst w
    cases rb
    cases rx
    cases ry
    exact ne_nil I (by omega) ha hb ⟨.bl _, H, I, rfl, by rw [reps_empty ra]; exact c.flatV w (.bl _)⟩
  · obtain ⟨k1, k2⟩ := scal_of k bx by_
    exact op_ne pins s σ H x y v u Q I rx ry ⟨k1, by rw [k2]; exact c.flatV w (.bl _)⟩
  · exact op_neD hu pins s σ H x y v u Q I rx ry ⟨py dx, py dy, dp_bor w k1 bx, dp_bor w k2 by_, shaped_py k1, shaped_py k2, by rw [eqv_py 20 dx dy k1 k2]; exact c.flatV w (.bl _)⟩

/-! ### in -/
theorem flat_eqV {K : PySem.W.Frag} {F H : Hp} {T : List Addr} {d e : D} {v u : V} (h1 : flatD d = true) (h2 : flatD e = true) (b : Bor K F T H v d) (c : Bor K F T H u e) : eqV v u = eqD d e := by
  cases d with
  | non => cases b.non; cases e with
    | non => cases c.non; rfl
    | bl _ => cases c.bl; rfl
    | int _ => cases c.int; rfl
    | str _ => cases c.str; rfl
    | _ => cases h2
  | bl _ => cases b.bl; cases e with
    | non => cases c.non; rfl
    | bl _ => cases c.bl; rfl
    | int _ => cases c.int; rfl
    | str _ => cases c.str; rfl
    | _ => cases h2
  | int _ => cases b.int; cases e with
    | non => cases c.non; rfl
    | bl _ => cases c.bl; rfl
    | int _ => cases c.int; exact Bool.beq_eq_decide_eq _ _
    | str _ => cases c.str; rfl
    | _ => cases h2
  | str _ => cases b.str; cases e with
    | non => cases c.non; rfl
    | bl _ => cases c.bl; rfl
    | int _ => cases c.int; rfl
    | str _ => cases c.str; exact Bool.beq_eq_decide_eq _ _
    | _ => cases h2
  | _ => cases h1
theorem in_flat {K : PySem.W.Frag} {F H : Hp} {T : List Addr} {d : D} {v : V} (h : flatD d = true) (b : Bor K F T H v d) : ∀ {vs : List V} {ds : List D}, Reps K F T vs ds → ds.all flatD = true → vs.all flatV = true ∧ inV v vs = ds.any fun z => eqD z d
  | _, _, .nil, _ => ⟨rfl, rfl⟩
  | _, _, .cons (v := u) (d := e) r rs, hs => by
    simp only [List.all_cons, Bool.and_eq_true] at hs
    obtain ⟨a1, a2⟩ := in_flat h b rs hs.2
    obtain ⟨f, _⟩ := bor_flat (H := H) hs.1 (.inl r)
    refine ⟨by simp only [List.all_cons, f, a1, Bool.and_self], ?_⟩
    unfold inV at a2 ⊢
    rw [List.any_cons, List.any_cons, a2, flat_eqV hs.1 h (H := H) (.inl r) b]
theorem any_py {x : D} (hx : dataD 20 x = true) : ∀ {ds : List D}, dataDs 20 ds = true → ((pys ds).any fun z => PyData.eqv z (py x)) = ds.any fun z => eqD z x
  | [], _ => rfl
  | d :: ds, h => by
    have a := He.ba (show (dataD 20 d && dataDs 20 ds) = true from h)
    rw [pys, List.any_cons, List.any_cons, any_py hx a.2, eqv_py 20 d x a.1 hx]
theorem one_sign {y : Str} {c : Nat} (h : y.cps.toList = [c]) : y = ⟨#[c]⟩ := by
  obtain ⟨a⟩ := y
  have : a = #[c] := by
    have := congrArg List.toArray h
    simpa using this
  rw [this]
theorem zip_find {k : Key} : ∀ {kvs : List (Key × V)} , ((kvs.find? fun kv => decide (kv.1 = k)).map (·.2)).isSome = (kvs.map (·.1)).any fun q => decide (q = k)
  | [] => rfl
  | kv :: kvs => by
    have ih := zip_find (k := k) (kvs := kvs)
    rw [List.find?_cons, List.map_cons, List.any_cons]
    by_cases h : kv.1 = k
    · simp [h]
    · simp only [h, decide_false, Bool.false_or]; exact ih
theorem inD_ok (hu : X.A.units + 65 < cLine) {neg : Bool} {op : CmpOp} (hop : op = if neg then .NotIn else .In) :
    OpR X (compareOp op) (rOp2 X.K (fun x y => ((inD x y).map fun b => if neg then !b else b).map .bl) (rV X.K)) := by
  intro pins s σ H x y v u Q I rx ry h
  obtain ⟨F, T, st, dx, dy, d, w, bx, by_, e, c⟩ := h
  obtain ⟨b', e1', e2'⟩ := Option.map_eq_some_iff.mp e
  obtain ⟨b, e1, e3⟩ := Option.map_eq_some_iff.mp e1'
  subst e2'
  have fin : Q (.bl (if neg then !b else b)) H := by rw [e3]; exact c.flatV w (.bl _)
  clear c e e1' e3
  cases dy with
  | str z =>
    cases by_.str
    cases dx with
    | str q =>
      cases bx.str
      simp only [inD] at e1
      split at e1
      · rename_i cc ec
        cases e1
        cases one_sign ec
        cases neg with
        | true => subst hop; exact op_notIn_sign pins s σ H _ _ v u Q I rx ry ⟨cc, z, rfl, rfl, fin⟩
        | false => subst hop; exact op_in_sign pins s σ H _ _ v u Q I rx ry ⟨cc, z, rfl, rfl, fin⟩
      · cases e1
    | _ => cases e1
  | lst ds =>
    obtain ⟨a, vs, ea, ha, ra⟩ := by_.lst w
    subst ea
    simp only [inD] at e1
    split at e1
    · rename_i q
      obtain ⟨q1, q2⟩ := He.ba q
      cases e1
      obtain ⟨f1, f2⟩ := in_flat q1 bx ra q2
      obtain ⟨f3, _⟩ := bor_flat q1 bx
      cases neg with
      | true => subst hop; exact op_notIn_seq pins s σ H _ _ v u Q I rx ry ⟨a, vs, rfl, .inl (.of ha), f3, f1, by rw [f2]; exact fin⟩
      | false => subst hop; exact op_in_seq pins s σ H _ _ v u Q I rx ry ⟨a, vs, rfl, .inl (.of ha), f3, f1, by rw [f2]; exact fin⟩
    · split at e1
      · rename_i q
        obtain ⟨q1, q2⟩ := He.ba q
        cases e1
        have dd : Dp X.K H (.ref a) (.list (pys ds)) := .lst (.of ha) (dp_reps w.fr 20 ds vs q2 ra)
        have sh : SeqAt.shaped (.list (pys ds)) = true := shaped_py (n := 21) (d := .lst ds) q2
        have d1 := dp_bor w q1 bx
        cases neg with
        | true => subst hop; exact op_notInD hu pins s σ H _ _ v u Q I rx ry ⟨py dx, pys ds, d1, dd, shaped_py q1, sh, by rw [any_py q1 q2]; exact fin⟩
        | false => subst hop; exact op_inD hu pins s σ H _ _ v u Q I rx ry ⟨py dx, pys ds, d1, dd, shaped_py q1, sh, by rw [any_py q1 q2]; exact fin⟩
      · cases e1
  | tup ds =>
    obtain ⟨a, vs, ea, ha, ra⟩ := by_.tup w
    subst ea
    simp only [inD] at e1
    split at e1
    · rename_i q
      obtain ⟨q1, q2⟩ := He.ba q
      cases e1
      obtain ⟨f1, f2⟩ := in_flat q1 bx ra q2
      obtain ⟨f3, _⟩ := bor_flat q1 bx
      cases neg with
      | true => subst hop; exact op_notIn_seq pins s σ H _ _ v u Q I rx ry ⟨a, vs, rfl, .inr ha, f3, f1, by rw [f2]; exact fin⟩
      | false => subst hop; exact op_in_seq pins s σ H _ _ v u Q I rx ry ⟨a, vs, rfl, .inr ha, f3, f1, by rw [f2]; exact fin⟩
    · cases e1
  | dic ks ds =>
    obtain ⟨a, kvs, ea, ha, hk, ra⟩ := by_.dic w
    subst ea
    simp only [inD] at e1
    obtain ⟨k, k1, rfl⟩ := Option.map_eq_some_iff.mp e1
    have ek : x = kV k := by
      cases dx with
      | int i => cases bx.int; cases k1; rfl
      | str i => cases bx.str; cases k1; rfl
      | _ => cases k1
    subst ek
    cases ry
    have g : DGet H a (kV k) (valV kvs k) := .k ha
    have es : (valV kvs k).isSome = ks.any fun q => decide (q = k) := by rw [← hk]; exact zip_find
    cases neg with
    | true => subst hop; exact d_notIn (by omega) I g rx fun s' I' => ⟨.bl _, H, I', rfl, by rw [es]; exact fin⟩
    | false => subst hop; exact d_in (by omega) I g rx fun s' I' => ⟨.bl _, H, I', rfl, by rw [es]; exact fin⟩
  | _ => cases e1

theorem isn {K : PySem.W.Frag} {F H : Hp} {T : List Addr} {d : D} {v : V} (b : Bor K F T H v d) : decide (v = .non) = isNone d := by
  rcases b with r | ⟨a, e, r, _⟩
  · cases r <;> rfl
  · subst e
    cases d <;> first | rfl | exact r.elim
theorem op_cmpD (hu : X.A.units + 65 < cLine) {op : CmpOp} : OpR X (compareOp op) (rOp2 X.K (fun x y => (cmpD op x y).map .bl) (rV X.K)) := by
  cases op with
  | Eq => exact op_eqG_ (by omega)
  | NotEq => exact op_neG (by omega)
  | In =>
    have h := inD_ok (X := X) hu (neg := false) rfl
    have e : (fun x y => (cmpD .In x y).map D.bl) = fun x y => ((inD x y).map fun b => if false then !b else b).map D.bl := by
      funext x y
      show (inD x y).map D.bl = _
      cases inD x y <;> rfl
    rw [e]; exact h
  | NotIn => exact inD_ok hu (neg := true) rfl
  | Lt =>
    intro pins s σ H x y v u Q I rx ry h
    obtain ⟨F, T, st, dx, dy, d, w, bx, by_, e, c⟩ := h
    cases dy with
    | int j =>
      cases dx with
      | int i =>
        cases bx.int; cases by_.int; cases e
        exact op_lt pins s σ H _ _ v u Q I rx ry ⟨i, j, rfl, rfl, c.flatV w (.bl _)⟩
      | _ => cases e
    | _ => cases dx <;> cases e
  | LtE =>
    intro pins s σ H x y v u Q I rx ry h
    obtain ⟨F, T, st, dx, dy, d, w, bx, by_, e, c⟩ := h
    cases dy with
    | int j =>
      cases dx with
      | int i =>
        cases bx.int; cases by_.int; cases e
        exact op_le pins s σ H _ _ v u Q I rx ry ⟨i, j, rfl, rfl, c.flatV w (.bl _)⟩
      | _ => cases e
    | _ => cases dx <;> cases e
  | Gt =>
    intro pins s σ H x y v u Q I rx ry h
    obtain ⟨F, T, st, dx, dy, d, w, bx, by_, e, c⟩ := h
    cases dy with
    | int j =>
      cases dx with
      | int i =>
        cases bx.int; cases by_.int; cases e
        exact op_gt pins s σ H _ _ v u Q I rx ry ⟨i, j, rfl, rfl, c.flatV w (.bl _)⟩
      | _ => cases e
    | _ => cases dx <;> cases e
  | GtE =>
    intro pins s σ H x y v u Q I rx ry h
    obtain ⟨F, T, st, dx, dy, d, w, bx, by_, e, c⟩ := h
    cases dy with
    | int j =>
      cases dx with
      | int i =>
        cases bx.int; cases by_.int; cases e
        exact op_ge pins s σ H _ _ v u Q I rx ry ⟨i, j, rfl, rfl, c.flatV w (.bl _)⟩
      | _ => cases e
    | _ => cases dx <;> cases e
  | Is =>
    intro pins s σ H x y v u Q I rx ry h
    obtain ⟨F, T, st, dx, dy, d, w, bx, by_, e, c⟩ := h
    cases dy with
    | non =>
      cases by_.non
      cases e
      exact op_isN pins s σ H _ _ v u Q I rx ry ⟨rfl, by rw [isn bx]; exact c.flatV w (.bl _)⟩
    | bl b =>
      cases by_.bl
      cases dx with
      | bl a =>
        cases bx.bl
        cases e; exact op_isBl pins s σ H _ _ v u Q I rx ry ⟨a, b, rfl, rfl, c.flatV w (.bl _)⟩
      | _ => cases e
    | _ => cases dx <;> cases e
  | IsNot =>
    intro pins s σ H x y v u Q I rx ry h
    obtain ⟨F, T, st, dx, dy, d, w, bx, by_, e, c⟩ := h
    cases dy with
    | non =>
      cases by_.non
      cases e
      exact op_notN pins s σ H _ _ v u Q I rx ry ⟨rfl, by rw [isn bx]; exact c.flatV w (.bl _)⟩
    | bl b =>
      cases by_.bl
      cases dx with
      | bl a =>
        cases bx.bl
        cases e; exact op_notBl pins s σ H _ _ v u Q I rx ry ⟨a, b, rfl, rfl, c.flatV w (.bl _)⟩
      | _ => cases e
    | _ => cases dx <;> cases e

/-! ### items -/
theorem reps_at {K : PySem.W.Frag} {F : Hp} {T : List Addr} {vs : List V} {ds : List D} (r : Reps K F T vs ds) {k : Int} {d : D} (h : atI ds k = some d) : ∃ v, atI vs k = some v ∧ Rep K F T v d := by
  unfold atI at h ⊢
  rw [r.length]
  cases e : ixN ds.length k with
  | none => rw [e] at h; cases h
  | some j => rw [e] at h; exact r.get h
theorem atI_map {α β : Type} (f : α → β) (xs : List α) (k : Int) : atI (xs.map f) k = (atI xs k).map f := by
  unfold atI
  rw [List.length_map]
  cases ixN xs.length k with
  | none => rfl
  | some j => simp
theorem find_kvs {K : PySem.W.Frag} {F : Hp} {T : List Addr} {k : Key} : ∀ {kvs : List (Key × V)} {ds : List D} {d : D}, Reps K F T (kvs.map (·.2)) ds → dicGet (kvs.map (·.1)) ds k = some d → ∃ v, valV kvs k = some v ∧ Rep K F T v d
  | [], _, _, _, h => by simp [dicGet] at h
  | kv :: kvs, _, d, .cons (d := e) r rs, h => by
    unfold dicGet at h
    rw [List.map_cons, List.zip_cons_cons, List.find?_cons] at h
    unfold valV
    rw [List.find?_cons]
    by_cases q : kv.1 = k
    · simp only [q, decide_true, Option.map_some] at h ⊢
      cases h
      exact ⟨_, rfl, r⟩
    · simp only [q, decide_false] at h ⊢
      exact find_kvs rs h
/-- x[k] by data, the store's objects behind their numbers -/
def rIxD (K : PySem.W.Frag) : R2 := fun x y H Q => ∃ F T st dx dx' dy d, WF K F T st H ∧ Bor K F T H x dx ∧ Bor K F T H y dy ∧ deref st dx = some dx' ∧ ixS dx' dy = some d ∧ Cont K F T st H (rV K) d Q
theorem bor_deref {K : PySem.W.Frag} {F H : Hp} {T : List Addr} {st : Store} (w : WF K F T st H) {v : V} {d d' : D} (b : Bor K F T H v d) (e : deref st d = some d') : Bor K F T H v d' ∨ ∃ a, v = .ref a ∧ RepTop K F T H a d' := by
  cases d with
  | obj n =>
    rcases b with r | ⟨_, _, r, _⟩
    · cases r with
      | obj q =>
        obtain ⟨a, h1, h2⟩ := w.at_ n d' e
        rw [q] at h1; cases h1
        exact .inr ⟨_, rfl, h2⟩
    · exact r.elim
  | _ => cases e; exact .inl b
theorem ix_D (hu : X.A.units + 1 < cLine) : IxR X (rIxD X.K) := by
  intro value slice pins s σ H x y v u Q I rx ry h hs
  obtain ⟨F, T, st, dx, dx', dy, d, w, bx, by_, e1, e2, c⟩ := h
  have bx' := bor_deref w bx e1
  cases dy with
  | int k =>
    cases by_.int
    cases dx' with
    | lst ds =>
      obtain ⟨a, vs, rfl, ha, ra⟩ : ∃ a xs, x = .ref a ∧ H a = some (.lst xs) ∧ Reps X.K F T xs ds := by
        rcases bx' with b | ⟨a, rfl, xs, e, r⟩
        · exact b.lst w
        · exact ⟨a, xs, rfl, e, r⟩
      obtain ⟨z, e3, r3⟩ := reps_at ra e2
      exact ix_list value slice pins s σ H _ _ v u Q I rx ry ⟨a, vs, k, z, rfl, rfl, .of ha, e3, c.flatV w r3⟩ hs
    | tup ds =>
      obtain ⟨a, vs, rfl, ha, ra⟩ : ∃ a xs, x = .ref a ∧ SqT X.K H a xs ∧ Reps X.K F T xs ds := by
        rcases bx' with b | ⟨a, rfl, r⟩
        · exact b.tup w
        · exact r.elim
      obtain ⟨z, e3, r3⟩ := reps_at ra e2
      exact ix_tup value slice pins s σ H _ _ v u Q I rx ry ⟨a, vs, k, z, rfl, rfl, ha, e3, c.flatV w r3⟩ hs
    | scr ns =>
      obtain ⟨a, rfl, ha⟩ : ∃ a, x = .ref a ∧ SqL X.K H a (ns.map V.int) := by
        rcases bx' with b | ⟨a, rfl, r⟩
        · exact b.scr w
        · exact r.elim
      obtain ⟨i, e3, rfl⟩ := Option.map_eq_some_iff.mp e2
      exact ix_list value slice pins s σ H _ _ v u Q I rx ry ⟨a, _, k, .int i, rfl, rfl, ha, by rw [atI_map, e3]; rfl, c.flatV w (.int _)⟩ hs
    | str z =>
      have ex : x = .str z := by
        rcases bx' with b | ⟨a, _, r⟩
        · exact b.str
        · exact r.elim
      subst ex
      simp only [ixS] at e2
      split at e2
      · rename_i q
        obtain ⟨cc, e3, rfl⟩ := Option.map_eq_some_iff.mp e2
        exact ix_str value slice pins s σ H _ _ v u Q I rx ry ⟨z, k, cc, rfl, rfl, q, e3, c.flatV w (.str _)⟩ hs
      · cases e2
    | dic ks ds =>
      obtain ⟨a, kvs, rfl, ha, hk, ra⟩ : ∃ a kvs, x = .ref a ∧ H a = some (.dK kvs) ∧ kvs.map (·.1) = ks ∧ Reps X.K F T (kvs.map (·.2)) ds := by
        rcases bx' with b | ⟨a, rfl, xs, e, k, r⟩
        · exact b.dic w
        · exact ⟨a, xs, rfl, e, k, r⟩
      subst hk
      obtain ⟨z, e3, r3⟩ := find_kvs ra e2
      cases rx
      have g : DGet H a (kV (.inl k)) (some z) := by rw [← e3]; exact .k ha
      exact tail_any (dict_typeIs I g) PySem.F.slot_dict_getitem.lookup (d_getItem hu I g ry fun w' s' I' rw' => ⟨z, H, I', rw', c.flatV w r3⟩) hs
    | _ => cases e2
  | str k =>
    cases by_.str
    cases dx' with
    | dic ks ds =>
      obtain ⟨a, kvs, rfl, ha, hk, ra⟩ : ∃ a kvs, x = .ref a ∧ H a = some (.dK kvs) ∧ kvs.map (·.1) = ks ∧ Reps X.K F T (kvs.map (·.2)) ds := by
        rcases bx' with b | ⟨a, rfl, xs, e, k, r⟩
        · exact b.dic w
        · exact ⟨a, xs, rfl, e, k, r⟩
      subst hk
      obtain ⟨z, e3, r3⟩ := find_kvs ra e2
      cases rx
      have g : DGet H a (kV (.inr k)) (some z) := by rw [← e3]; exact .k ha
      exact tail_any (dict_typeIs I g) PySem.F.slot_dict_getitem.lookup (d_getItem hu I g ry fun w' s' I' rw' => ⟨z, H, I', rw', c.flatV w r3⟩) hs
    | _ => cases e2
  | _ => cases dx' <;> cases e2

/-! ### slices -/
theorem cut_same {α β : Type} {xs : List α} {ys : List β} (h : xs.length = ys.length) {lo hi : Option Int} (c : HT.sIx xs.length 0 lo = 0 ∧ HT.sIx xs.length xs.length hi = xs.length) : cutD ys lo hi = ys := by
  unfold cutD
  rw [← h, c.1, c.2]
  simp [h]
theorem reps_cut {K : PySem.W.Frag} {F : Hp} {T : List Addr} {vs : List V} {ds : List D} (r : Reps K F T vs ds) (lo hi : Option Int) : Reps K F T (cutV vs lo hi) (cutD ds lo hi) := by
  unfold cutV cutD
  rw [r.length]
  exact (r.drop _).take _
def rSlD (K : PySem.W.Frag) : V → Option Int → Option Int → Hp → VK → Prop := fun x lo hi H Q => ∃ F T st dx d, WF K F T st H ∧ Bor K F T H x dx ∧ slD dx lo hi = some d ∧ Cont K F T st H (rD K) d Q
theorem sl_D : SlR X (rSlD X.K) := by
  intro pins s σ H x v vl vu lo hi sl Q I rx hs pl pu h
  obtain ⟨F, T, st, dx, d, w, bx, e, c⟩ := h
  cases dx with
  | lst ds =>
    obtain ⟨a, vs, rfl, ha, ra⟩ := bx.lst w
    cases e
    exact sl_list pins s σ H _ v vl vu lo hi sl Q I rx hs pl pu ⟨a, vs, rfl, .of ha, fun p hp => c.lst w (reps_cut ra lo hi) hp⟩
  | tup ds =>
    obtain ⟨a, vs, rfl, ha, ra⟩ := bx.tup w
    cases e
    refine sl_tupA pins s σ H _ v vl vu lo hi sl Q I rx hs pl pu ⟨a, vs, rfl, ha, fun z => ?_, fun _ p hp => c.tup w (reps_cut ra lo hi) hp⟩
    rw [cut_same ra.length z] at c
    rcases bx with k | ⟨_, _, k, _⟩
    · exact c.flat w rfl k
    · exact k.elim
  | str z =>
    cases bx.str
    simp only [slD] at e
    split at e
    · rename_i q
      cases e
      exact sl_str pins s σ H _ v vl vu lo hi sl Q I rx hs pl pu ⟨z, rfl, q, c.flat w rfl (.str _)⟩
    · cases e
  | _ => cases e

/-! ### truth -/
theorem tru_D {K : PySem.W.Frag} {F H : Hp} {T : List Addr} {st : Store} (w : WF K F T st H) {v : V} {d : D} {b : Bool} (r : Rep K F T v d) (h : truthD d = some b) : TruV K v H b := by
  cases r with
  | non => cases h; rfl
  | bl k => cases h; rfl
  | int i => cases h; rfl
  | str x =>
    simp only [truthD] at h
    split at h
    · rename_i q
      cases h
      refine ⟨q, ?_⟩
      rw [Bool.eq_iff_iff]; simp
    · cases h
  | tup q r => cases h; exact .inr (.inl ⟨_, sqT_mono w.fr q, by rw [reps_empty r]⟩)
  | lst q r => cases h; exact .inl ⟨_, .of (w.fr _ _ q), by rw [reps_empty r]⟩
  | _ => cases h
end
end Eng
set_option Elab.async false
set_option linter.all false
set_option maxRecDepth 100000
/-! Eng 6: built-in functions -/
namespace Eng
open PySem PySem.Spec PyProof.Rows L2

section
variable {K : PySem.W.Frag} {F H : Hp} {T : List Addr} {st : Store}
theorem bors1 {vs : List V} {d : D} (h : Bors K F T H vs [d]) : ∃ v, vs = [v] ∧ Bor K F T H v d := by
  cases h with | cons a b => cases b; exact ⟨_, rfl, a⟩
theorem bors2 {vs : List V} {d e : D} (h : Bors K F T H vs [d, e]) : ∃ v u, vs = [v, u] ∧ Bor K F T H v d ∧ Bor K F T H u e := by
  cases h with | cons a b => cases b with | cons c d => cases d; exact ⟨_, _, rfl, a, c⟩
theorem Bor.seq (w : WF K F T st H) {v : V} {d : D} {ds : List D} (h : Bor K F T H v d) (e : seqD d = some ds) : ∃ a xs, v = .ref a ∧ (SqL K H a xs ∨ SqT K H a xs) ∧ Reps K F T xs ds := by
  cases d with
  | lst xs => cases e; obtain ⟨a, vs, e, h, r⟩ := h.lst w; exact ⟨a, vs, e, .inl (.of h), r⟩
  | tup xs => cases e; obtain ⟨a, vs, e, h, r⟩ := h.tup w; exact ⟨a, vs, e, .inr h, r⟩
  | _ => cases e
theorem intsD_ok : ∀ {ds : List D} {ns : List Int}, intsD ds = some ns → ds = ns.map .int
  | [], _, h => by cases h; rfl
  | d :: ds, ns, h => by
    cases d with
    | int i =>
      obtain ⟨m, e, rfl⟩ := Option.map_eq_some_iff.mp (show (intsD ds).map (i :: ·) = some ns from h)
      rw [intsD_ok e]; rfl
    | _ => cases h
theorem strsD_ok : ∀ {ds : List D} {ns : List Str}, strsD ds = some ns → ds = ns.map .str
  | [], _, h => by cases h; rfl
  | d :: ds, ns, h => by
    cases d with
    | str i =>
      obtain ⟨m, e, rfl⟩ := Option.map_eq_some_iff.mp (show (strsD ds).map (i :: ·) = some ns from h)
      rw [strsD_ok e]; rfl
    | _ => cases h
theorem blsD_ok : ∀ {ds : List D} {ns : List Bool}, blsD ds = some ns → ds = ns.map .bl
  | [], _, h => by cases h; rfl
  | d :: ds, ns, h => by
    cases d with
    | bl i =>
      obtain ⟨m, e, rfl⟩ := Option.map_eq_some_iff.mp (show (blsD ds).map (i :: ·) = some ns from h)
      rw [blsD_ok e]; rfl
    | _ => cases h
theorem reps_ints : ∀ {ns : List Int} {vs : List V}, Reps K F T vs (ns.map .int) → vs = ns.map .int
  | [], _, h => by cases h; rfl
  | n :: ns, _, h => by cases h with | cons a b => cases a; rw [reps_ints b]; rfl
theorem reps_strs : ∀ {ns : List Str} {vs : List V}, Reps K F T vs (ns.map .str) → vs = ns.map .str
  | [], _, h => by cases h; rfl
  | n :: ns, _, h => by cases h with | cons a b => cases a; rw [reps_strs b]; rfl
theorem reps_bls : ∀ {ns : List Bool} {vs : List V}, Reps K F T vs (ns.map .bl) → vs = ns.map .bl
  | [], _, h => by cases h; rfl
  | n :: ns, _, h => by cases h with | cons a b => cases a; rw [reps_bls b]; rfl
theorem of_ints : ∀ (ns : List Int), Reps K F T (ns.map .int) (ns.map .int)
  | [] => .nil
  | _ :: ns => .cons (.int _) (of_ints ns)
theorem of_strs : ∀ (ns : List Str), Reps K F T (ns.map .str) (ns.map .str)
  | [] => .nil
  | _ :: ns => .cons (.str _) (of_strs ns)
end

/-- a built-in function by data -/
def rBi (K : PySem.W.Frag) (b : String) : List V → Hp → VK → Prop := fun vs H Q => ∃ F T st ds d, WF K F T st H ∧ Bors K F T H vs ds ∧ biD b ds = some d ∧ Cont K F T st H (rD K) d Q
section
variable {X : Cx}
theorem bi_len : CallR X (.builtin "len") (rBi X.K "len") := by
  intro pins s σ H vs us Q I r h
  obtain ⟨F, T, st, ds, d, w, bs, e, c⟩ := h
  match ds, bs, e with
  | [x], bs, e =>
    obtain ⟨v, rfl, b⟩ := bors1 bs
    obtain ⟨n, e1, rfl⟩ := Option.map_eq_some_iff.mp (show (lenD x).map (fun (n : Nat) => D.int (n : Int)) = some d from e)
    have fin : Q (.int (n : Nat)) H := c.flat w rfl (.int _)
    cases x with
    | str z =>
      cases b.str
      simp only [lenD] at e1
      split at e1
      · rename_i q; cases e1; exact call_len_str pins s σ H _ us Q I r ⟨z, rfl, q, fin⟩
      · cases e1
    | lst xs => cases e1; obtain ⟨a, ws, rfl, ha, ra⟩ := b.lst w; exact call_len_seq pins s σ H _ us Q I r ⟨a, ws, rfl, .inl (.of ha), by rw [ra.length]; exact fin⟩
    | tup xs => cases e1; obtain ⟨a, ws, rfl, ha, ra⟩ := b.tup w; exact call_len_seq pins s σ H _ us Q I r ⟨a, ws, rfl, .inr ha, by rw [ra.length]; exact fin⟩
    | scr ns => cases e1; obtain ⟨a, rfl, ha⟩ := b.scr w; exact call_len_seq pins s σ H _ us Q I r ⟨a, _, rfl, .inl ha, by rw [List.length_map]; exact fin⟩
    | dic ks xs =>
      cases e1
      obtain ⟨a, kvs, rfl, ha, hk, ra⟩ := b.dic w
      exact call_lenD pins s σ H _ us Q I r ⟨a, kvs, rfl, ha, by rw [← hk, List.length_map] at fin; exact fin⟩
    | _ => cases e1
theorem bi_sum (hc : X.calm = true) : CallR X (.builtin "sum") (rBi X.K "sum") := by
  intro pins s σ H vs us Q I r h
  obtain ⟨F, T, st, ds, d, w, bs, e, c⟩ := h
  match ds, bs, e with
  | [.lst xs], bs, e =>
    obtain ⟨v, rfl, b⟩ := bors1 bs
    obtain ⟨ns, e1, rfl⟩ := Option.map_eq_some_iff.mp (show (intsD xs).map (fun ns => D.int ns.sum) = some d from e)
    cases intsD_ok e1
    obtain ⟨a, ws, rfl, ha, ra⟩ := b.lst w
    cases reps_ints ra
    exact cr_sum hc pins s σ H _ us Q I r ⟨a, ns, rfl, .of ha, c.flat w rfl (.int _)⟩
theorem bi_int : CallR X (.type "int") (rBi X.K "int") := by
  intro pins s σ H vs us Q I r h
  obtain ⟨F, T, st, ds, d, w, bs, e, c⟩ := h
  match ds, bs, e with
  | [.int i], bs, e =>
    obtain ⟨v, rfl, b⟩ := bors1 bs
    cases b.int; cases e
    exact call_int1 pins s σ H _ us Q I r (.inl ⟨i, rfl, c.flat w rfl (.int _)⟩)
  | [.bl k], bs, e =>
    obtain ⟨v, rfl, b⟩ := bors1 bs
    cases b.bl; cases e
    exact call_int1 pins s σ H _ us Q I r (.inr ⟨k, rfl, c.flat w rfl (.int _)⟩)
  | [.str x], bs, e =>
    obtain ⟨v, rfl, b⟩ := bors1 bs
    cases b.str
    have e : (if x.length ≤ 640 then (PySem.intText? x).map D.int else none) = some d := e
    split at e
    · rename_i q
      obtain ⟨n, e1, rfl⟩ := Option.map_eq_some_iff.mp e
      exact call_int_str pins s σ H _ us Q I r ⟨x, n, rfl, e1, q, c.flat w rfl (.int _)⟩
    · cases e
theorem bi_str : CallR X (.type "str") (rBi X.K "str") := by
  intro pins s σ H vs us Q I r h
  obtain ⟨F, T, st, ds, d, w, bs, e, c⟩ := h
  match ds, bs, e with
  | [.int i], bs, e =>
    obtain ⟨v, rfl, b⟩ := bors1 bs
    cases b.int
    have e : (if i.natAbs.log2 < 1920 then some (D.str (toString i)) else none) = some d := e
    split at e
    · rename_i q
      cases e
      exact call_str_int pins s σ H _ us Q I r ⟨i, rfl, q, c.flat w rfl (.str _)⟩
    · cases e
theorem bi_abs : CallR X (.builtin "abs") (rBi X.K "abs") := by
  intro pins s σ H vs us Q I r h
  obtain ⟨F, T, st, ds, d, w, bs, e, c⟩ := h
  match ds, bs, e with
  | [.int i], bs, e =>
    obtain ⟨v, rfl, b⟩ := bors1 bs
    cases b.int; cases e
    exact call_abs pins s σ H _ us Q I r ⟨i, rfl, c.flat w rfl (.int _)⟩
theorem bi_all (hc : X.calm = true) : CallR X (.builtin "all") (rBi X.K "all") := by
  intro pins s σ H vs us Q I r h
  obtain ⟨F, T, st, ds, d, w, bs, e, c⟩ := h
  match ds, bs, e with
  | [.lst xs], bs, e =>
    obtain ⟨v, rfl, b⟩ := bors1 bs
    obtain ⟨ns, e1, rfl⟩ := Option.map_eq_some_iff.mp (show (blsD xs).map (fun bs => D.bl (bs.all id)) = some d from e)
    cases blsD_ok e1
    obtain ⟨a, ws, rfl, ha, ra⟩ := b.lst w
    cases reps_bls ra
    exact cr_all hc pins s σ H _ us Q I r ⟨a, ns, rfl, .of ha, c.flat w rfl (.bl _)⟩
theorem bi_any (hc : X.calm = true) : CallR X (.builtin "any") (rBi X.K "any") := by
  intro pins s σ H vs us Q I r h
  obtain ⟨F, T, st, ds, d, w, bs, e, c⟩ := h
  match ds, bs, e with
  | [.lst xs], bs, e =>
    obtain ⟨v, rfl, b⟩ := bors1 bs
    obtain ⟨ns, e1, rfl⟩ := Option.map_eq_some_iff.mp (show (blsD xs).map (fun bs => D.bl (bs.any id)) = some d from e)
    cases blsD_ok e1
    obtain ⟨a, ws, rfl, ha, ra⟩ := b.lst w
    cases reps_bls ra
    exact cr_any hc pins s σ H _ us Q I r ⟨a, ns, rfl, .of ha, c.flat w rfl (.bl _)⟩
theorem bi_max2 (hc : X.calm = true) : CallR X (.builtin "max") (rBi X.K "max2") := by
  intro pins s σ H vs us Q I r h
  obtain ⟨F, T, st, ds, d, w, bs, e, c⟩ := h
  match ds, bs, e with
  | [.int i, .int j], bs, e =>
    obtain ⟨v, u, rfl, b, b2⟩ := bors2 bs
    cases b.int; cases b2.int; cases e
    exact call_max2 hc pins s σ H _ us Q I r ⟨i, j, rfl, c.flat w rfl (.int _)⟩
theorem bi_min2 (hc : X.calm = true) : CallR X (.builtin "min") (rBi X.K "min2") := by
  intro pins s σ H vs us Q I r h
  obtain ⟨F, T, st, ds, d, w, bs, e, c⟩ := h
  match ds, bs, e with
  | [.int i, .int j], bs, e =>
    obtain ⟨v, u, rfl, b, b2⟩ := bors2 bs
    cases b.int; cases b2.int; cases e
    exact call_min2 hc pins s σ H _ us Q I r ⟨i, j, rfl, c.flat w rfl (.int _)⟩
theorem bi_list : CallR X (.type "list") (rBi X.K "list") := by
  intro pins s σ H vs us Q I r h
  obtain ⟨F, T, st, ds, d, w, bs, e, c⟩ := h
  match ds, bs, e with
  | [x], bs, e =>
    obtain ⟨v, rfl, b⟩ := bors1 bs
    obtain ⟨xs, e1, rfl⟩ := Option.map_eq_some_iff.mp (show (seqD x).map .lst = some d from e)
    obtain ⟨a, ws, rfl, ha, ra⟩ := b.seq w e1
    exact call_list_of pins s σ H _ us Q I r ⟨a, ws, rfl, ha, fun l hl => c.lst w ra hl⟩
theorem bi_tuple : CallR X (.type "tuple") (rBi X.K "tuple") := by
  intro pins s σ H vs us Q I r h
  obtain ⟨F, T, st, ds, d, w, bs, e, c⟩ := h
  match ds, bs, e with
  | [x], bs, e =>
    obtain ⟨v, rfl, b⟩ := bors1 bs
    obtain ⟨xs, e1, rfl⟩ := Option.map_eq_some_iff.mp (show (seqD x).map .tup = some d from e)
    cases x with
    | lst ys =>
      cases e1
      obtain ⟨a, ws, rfl, ha, ra⟩ := b.lst w
      exact call_tuple_of pins s σ H _ us Q I r ⟨a, ws, rfl, .inl ⟨.of ha, fun l hl => c.tup w ra hl⟩⟩
    | tup ys =>
      cases e1
      obtain ⟨a, ws, rfl, ha, ra⟩ := b.tup w
      refine call_tuple_of pins s σ H _ us Q I r ⟨a, ws, rfl, .inr ⟨ha, ?_⟩⟩
      rcases b with k | ⟨_, _, k, _⟩
      · exact c.flat w rfl k
      · exact k.elim
    | _ => cases e1

/-! ### sorted -/
/-- a value that stands for data -/
def Sees (K : PySem.W.Frag) (F : Hp) (T : List Addr) (u : Value) (d : D) : Prop := ∃ v, RelV v u ∧ Rep K F T v d
theorem sees_each {F : Hp} {T : List Addr} : ∀ {vs : List V} {us : List Value} {ds : List D}, Vals vs us → Reps X.K F T vs ds → PySem.W.EachIs (Sees X.K F T) us ds
  | _, _, _, .nil, .nil => .nil
  | _, _, _, .cons r rs, .cons p ps => .cons ⟨_, r, p⟩ (sees_each rs ps)
theorem each_sees {F : Hp} {T : List Addr} : ∀ {us : List Value} {ds : List D}, PySem.W.EachIs (Sees X.K F T) us ds → ∃ vs, Vals vs us ∧ Reps X.K F T vs ds
  | _, _, .nil => ⟨[], .nil, .nil⟩
  | _, _, .cons ⟨v, r, p⟩ e => by
    obtain ⟨vs, rs, ps⟩ := each_sees e
    exact ⟨v :: vs, .cons r rs, .cons p ps⟩
theorem sees_reads {pins : List (Addr × Obj)} {σ : L2.St} {H : Hp} {s : Shared} {F : Hp} {T : List Addr} (I : Inv X pins σ H s) (sm : Same F H) : ∀ {us : List Value} {ds : List D}, PySem.W.EachIs (Sees X.K F T) us ds → ds.all (dataF 20) = true →
    PySem.W.EachIs (fun v b => ∃ as, Reads s.heap v (py b) as) us ds
  | _, _, .nil, _ => .nil
  | _, _, .cons (b := d) ⟨v, r, p⟩ e, h => by
    simp only [List.all_cons, Bool.and_eq_true] at h
    exact .cons (Dp.reads I _ _ _ (dp_repF sm 20 d v h.1 p) r) (sees_reads I sm e h.2)
theorem bi_sorted (hu : X.A.units + 64 < cLine) : CallR X (.builtin "sorted") (rBi X.K "sorted") := by
  intro pins s σ H vs us Q I r h
  obtain ⟨F, T, st, ds, d, w, bs, e, c⟩ := h
  match ds, bs, e with
  | [.lst xs], bs, e =>
    obtain ⟨v, rfl, b⟩ := bors1 bs
    obtain ⟨a, ws, rfl, ha, ra⟩ := b.lst w
    have e : (if sortOk xs = true then some (D.lst (xs.mergeSort leD)) else none) = some d := e
    split at e
    · rename_i q
      cases e
      unfold sortOk at q
      simp only [Bool.and_eq_true, Bool.or_eq_true] at q
      obtain ⟨⟨q1, q2⟩, q3⟩ := q
      obtain ⟨its, rv, pl, hz⟩ := I.list (.of ha)
      rw [Vals.ref1 r]
      have es := sees_each rv ra
      have hl : xs.length ≤ sizeLine := by rw [← ra.length]; exact hz
      refine PySem.W.sorted_data (enc := py) (R := Sees X.K F T) pl.isList es (sees_reads I w.fr es q1) ?_ ?_ hl (fun b hb => ?_) fun out ho eo => ?_
      · intro d1 h1 d2 h2
        obtain ⟨a1, m1, rfl⟩ := List.mem_map.mp h1
        obtain ⟨a2, m2, rfl⟩ := List.mem_map.mp h2
        exact List.all_eq_true.mp (List.all_eq_true.mp q2 a1 m1) a2 m2
      · rcases q3 with q3 | q3
        · refine .inl fun d1 h1 => ?_
          obtain ⟨a1, m1, rfl⟩ := List.mem_map.mp h1
          have z := List.all_eq_true.mp q3 a1 m1
          cases a1 with
          | tup ys =>
            cases ys with
            | nil => cases z
            | cons y ys => exact ⟨py y, pys ys, by rw [py, pys]⟩
          | _ => cases z
        · refine .inr fun d1 h1 => ?_
          obtain ⟨a1, m1, rfl⟩ := List.mem_map.mp h1
          have z := List.all_eq_true.mp q3 a1 m1
          have z1 := List.all_eq_true.mp q1 a1 m1
          cases a1 <;> first | (simp [py]; done) | (cases z; done) | (cases z1; done)
      · have := depth_pyF 20 b (List.all_eq_true.mp q1 b hb); omega
      · obtain ⟨ws', rv', ra'⟩ := each_sees eo
        obtain ⟨ep, he'⟩ := PyProof.Rows.sortedAll_at s.heap its out.toArray
        have hlen : ws'.length ≤ sizeLine := by rw [rv'.length, ho]; exact hl
        exact ⟨.ref _, upd H (s.heap.objs.size + 1) (.lst ws'), I.laid (t' := s.toks) (fun _ _ => PyProof.Rows.sortedAll_old) (Nat.le_succ _) ⟨hlen, out, ep, rv', he'⟩, rfl, c.lst w ra' (I.hok.fresh (Nat.le_succ _))⟩
    · cases e
end
end Eng
set_option Elab.async false
set_option linter.all false
set_option maxRecDepth 100000
/-! Eng 7: expressions, one by one -/
namespace Eng
open PySem PySem.Spec PyProof.Rows L2

/-! ### the syntax's own conditions -/
/-- an ordinary operand -/
def okA : Expr → Bool
  | .Starred _ _ => false
  | .Set _ _ _ => false
  | .Slice _ _ _ _ => false
  | _ => true
/-- what stands ahead of a dot -/
def okB : Expr → Bool
  | .Call (.Name _ _) [] [] _ => false
  | e => okA e
/-- a test that is its value's truth -/
def okT : Expr → Bool
  | .UnaryOp .Not _ _ => false
  | .BoolOp _ _ _ => false
  | .IfExp _ _ _ _ => false
  | .Compare _ _ _ _ => false
  | _ => true
theorem okA_star {e : Expr} {es : List Expr} {env : PySem.Env} (h : okA e = true) : starEach (e :: es) env = (false, eval e env) :: starEach es env := by
  cases e <;> first | rfl | cases h
theorem okA_fold {e : Expr} {env : PySem.Env} (h : okA e = true) (x : Value) : foldedSetIterable e env x = pure x := by
  cases e <;> first | rfl | cases h
theorem okA_behind {e : Expr} {op : CmpOp} (h : okA e = true) : behindInMarks op e = false := by
  cases e <;> first | rfl | cases h
theorem okA_ix {e : Expr} (h : okA e = true) : PlainIx e := by
  intro o i
  cases e <;> first | rfl | cases h
theorem okB_base {e : Expr} {f : Str} {env : PySem.Env} (h : okB e = true) : attributeBase e f env (eval e env) = eval e env := by
  cases e with
  | Call func args kws pos =>
    cases func with
    | Name x p =>
      cases args with
      | nil =>
        cases kws with
        | nil => cases h
        | cons _ _ => rfl
      | cons _ _ => rfl
    | _ => rfl
  | _ => first | rfl | cases h
theorem okB_A {e : Expr} (h : okB e = true) : okA e = true := by
  cases e <;> first | rfl | cases h
theorem okT_plain {e : Expr} {env : PySem.Env} (h : okT e = true) (whole : Sem Value) : isTrue e env whole = (do let v ← whole; standAt e.pos; holding [v] (truthy v)) := by
  cases e with
  | UnaryOp op x p => cases op <;> first | rfl | cases h
  | _ => first | rfl | cases h
def okAs : List Expr → Bool
  | [] => true
  | e :: es => okA e && okAs es
theorem okAs_plain {env : PySem.Env} {pos : Pos} : ∀ {es : List Expr}, okAs es = true → (backTo pos (starEach es env)).any (·.1) = false
  | [], _ => rfl
  | e :: es, h => by
    obtain ⟨h1, h2⟩ := He.ba (show (okA e && okAs es) = true from h)
    rw [okA_star h1]
    show (false || (backTo pos (starEach es env)).any (·.1)) = false
    rw [okAs_plain h2]; rfl
theorem okAs_len {env : PySem.Env} : ∀ {es : List Expr}, okAs es = true → (starEach es env).length = es.length
  | [], _ => rfl
  | e :: es, h => by
    obtain ⟨h1, h2⟩ := He.ba (show (okA e && okAs es) = true from h)
    rw [okA_star h1, List.length_cons, List.length_cons, okAs_len h2]
theorem okAs_all {env : PySem.Env} {pos : Pos} : ∀ {es : List Expr}, okAs es = true → (backTo pos (starEach es env)).all (fun x => !x.1) = true
  | [], _ => rfl
  | e :: es, h => by
    obtain ⟨h1, h2⟩ := He.ba (show (okA e && okAs es) = true from h)
    rw [okA_star h1]
    show (true && (backTo pos (starEach es env)).all (fun x => !x.1)) = true
    rw [okAs_all h2]; rfl

/-! ### borrowed -/
theorem tX.imp {α β : Type} {K : PySem.W.Frag} {W : WW} {R R' : RR α β} {m : Env → Store → Out α} {σ : L2.St} {H : Hp} {Q : β → Hp → Prop} (h : tX K W R m σ H Q) (i : ∀ H F T H' a b, R' H F T H' a b → R H F T H' a b) : tX K W R' m σ H Q := by
  obtain ⟨F, T, st, env, w, eo, p⟩ := h
  refine ⟨F, T, st, env, w, eo, ?_⟩
  revert p
  cases m env st with
  | bad => exact id
  | ex c ks ds st => exact id
  | ok d st' => exact fun p b F' T' H' x w r => p b F' T' H' x w (i _ _ _ _ _ _ r)
section
variable {X : Cx} {W : WW} {C : Calls}
theorem bor_val {env : Env} {e : E} {m : Store → Out D} {st : Store} (h : ∀ i, e ≠ .var i) : bor env e m st = m st := by
  cases e <;> first | rfl | exact absurd rfl (h _)
/-- an operand of any kind that is no name -/
theorem s_bor {a : Expr} {e : E} (h : PE X a (tE X.K W C e)) (n : ∀ i, e ≠ .var i) : PE X a (tB X.K W C e) := impE h fun σ H Q ⟨F, T, st, env, w, eo, p⟩ => by
  refine ⟨F, T, st, env, w, eo, ?_⟩
  have p : Post X.K W σ F T H (rBo X.K) (bor env e (evE C env e) st) Q := p
  rw [bor_val n] at p
  show Post X.K W σ F T H (rV X.K) (evE C env e st) Q
  revert p
  cases evE C env e st with
  | bad => exact id
  | ex c ks ds st => exact id
  | ok d st' => exact fun p b F' T' H' x w r => p b F' T' H' x w (.inl r)

/-! ### names and constants -/
theorem getV_some {env : Env} {i : Nat} {d : D} (h : getV env i = some d) : env[i]? = some (.val d) := by
  unfold getV at h
  split at h
  · rename_i e; cases h; exact e
  · cases h
theorem s_var {i : Nat} {y : Str} {pos : Pos} (hN : X.N[i]? = some y) (hv : Vis X.env.scope y) (hd : (y == ("__debug__" : Str)) = false) (hcd : (y == ("__classdict__" : Str)) = false) : PE X (.Name y pos) (tE X.K W C (.var i)) :=
  impE (pe_var hN hv hd hcd) fun σ H Q ⟨F, T, st, env, w, eo, p⟩ => by
    have p : Post X.K W σ F T H (rV X.K) (ofO (getV env i) st) Q := p
    cases e : getV env i with
    | none => rw [e] at p; exact p.elim
    | some d =>
      rw [e] at p
      obtain ⟨v, e1, r⟩ := eo.at_ i _ (getV_some e)
      exact ⟨v, e1, p v F T H (.refl _ _ _) w r⟩
theorem s_varB {i : Nat} {y : Str} {pos : Pos} (hN : X.N[i]? = some y) (hv : Vis X.env.scope y) (hd : (y == ("__debug__" : Str)) = false) (hcd : (y == ("__classdict__" : Str)) = false) : PE X (.Name y pos) (tB X.K W C (.var i)) :=
  impE (pe_var hN hv hd hcd) fun σ H Q ⟨F, T, st, env, w, eo, p⟩ => by
    have p : Post X.K W σ F T H (rBo X.K) (ofO (getB env i) st) Q := p
    cases e : getB env i with
    | none => rw [e] at p; exact p.elim
    | some d =>
      rw [e] at p
      unfold getB at e
      split at e
      · rename_i q
        cases e
        obtain ⟨v, e1, r⟩ := eo.at_ i _ q
        exact ⟨v, e1, p v F T H (.refl _ _ _) w (.inl r)⟩
      · rename_i q
        cases e
        obtain ⟨a, e1, r, f, n, _⟩ := eo.at_ i _ q
        exact ⟨.ref a, e1, p _ F T H (.refl _ _ _) w (.inr ⟨a, rfl, r, f, n⟩)⟩
      · cases e
/-- a flat value as a V -/
def vOf : D → Option V
  | .non => some .non
  | .bl b => some (.bl b)
  | .int i => some (.int i)
  | .str x => some (.str x)
  | _ => none
theorem vOf_rep {K : PySem.W.Frag} {F : Hp} {T : List Addr} {d : D} {v : V} (h : vOf d = some v) : Rep K F T v d := by
  cases d <;> first | (cases h; constructor) | cases h
theorem s_const {e : Expr} {ir : E} {d : D} {v : V} (he : PE X e (tC v)) (h : vOf d = some v) (hi : ∀ env st, evE C env ir st = .ok d st) : PE X e (tE X.K W C ir) :=
  impE he fun σ H Q ⟨F, T, st, env, w, eo, p⟩ => by
    have p : Post X.K W σ F T H (rV X.K) (evE C env ir st) Q := p
    rw [hi] at p
    exact p v F T H (.refl _ _ _) w (vOf_rep h)
theorem s_fn {x : Str} {pos : Pos} (hg : Gl X x) (hm : X.mg x = some (.ref (He.ga X.K x))) (hd : (x == ("__debug__" : Str)) = false) : PE X (.Name x pos) (tE X.K W C (.fn x)) :=
  impE (pe_glob (v := .ref (He.ga X.K x)) hg hm rfl hd) fun σ H Q ⟨F, T, st, env, w, eo, p⟩ => p _ F T H (.refl _ _ _) w .fn

/-! ### operators -/
/-- behind two operands -/
theorem two {ea eb : E} {α β : Type} {R : RR α β} {f : Env → D → D → Store → Out α} {σ : L2.St} {H : Hp} {Q : β → Hp → Prop} (sh : Sh R)
    (h : tX X.K W R (fun env st => (bor env ea (evE C env ea) st).bnd fun x st => (bor env eb (evE C env eb) st).bnd fun y st => f env x y st) σ H Q) :
    tB X.K W C ea σ H fun x H1 => tB X.K W C eb σ H1 fun y H2 => ∃ F T st env dx dy, WF X.K F T st H2 ∧ EnvOk X.K W.xi F T H2 env σ ∧ Bor X.K F T H2 x dx ∧ Bor X.K F T H2 y dy ∧ Post X.K W σ F T H2 R (f env dx dy st) Q := by
  obtain ⟨F, T, st, env, w, eo, p⟩ := h
  refine ⟨F, T, st, env, w, eo, ?_⟩
  refine (Post.bnd (R1 := rBo X.K) sh p).mono fun x H1 ⟨F1, T1, st1, dx, x1, w1, r1, p1⟩ => ?_
  refine ⟨F1, T1, st1, env, w1, eo.ext x1, ?_⟩
  refine (Post.bnd (R1 := rBo X.K) sh p1).mono fun y H2 ⟨F2, T2, st2, dy, x2, w2, r2, p2⟩ => ?_
  exact ⟨F2, T2, st2, env, dx, dy, w2, (eo.ext x1).ext x2, Bor.ext r1 x2, r2, p2⟩
theorem cont_of {F H : Hp} {T : List Addr} {st : Store} {R : RR D V} {o : Option D} {σ : L2.St} {Q : VK} (p : Post X.K W σ F T H R (ofO o st) Q) : ∃ d, o = some d ∧ Cont X.K F T st H R d Q := by
  cases o with
  | none => exact p.elim
  | some d => exact ⟨d, rfl, p⟩
theorem s_bin {op : Operator} {a b : Expr} {ea eb : E} {pos : Pos} (ha : PE X a (tB X.K W C ea)) (hb : PE X b (tB X.K W C eb)) : PE X (.BinOp a op b pos) (tDr X.K W C (.bin op ea eb)) :=
  impE (pe_op op_bin ha hb) fun σ H Q h => by
    obtain ⟨F, T, st, env, w, eo, p⟩ := two (f := fun env x y st => ofO (binD op x y) st) sh_D h
    refine ⟨F, T, st, env, w, eo, p.mono fun x H1 ⟨F1, T1, st1, env1, w1, eo1, p1⟩ => ⟨F1, T1, st1, env1, w1, eo1, p1.mono fun y H2 ⟨F2, T2, st2, env2, dx, dy, w2, eo2, bx, by_, p2⟩ => ?_⟩⟩
    obtain ⟨d, e, c⟩ := cont_of p2
    exact ⟨F2, T2, st2, dx, dy, d, w2, bx, by_, e, c⟩
theorem two_r2 {ea eb : E} {g : D → D → Option D} {R : RR D V} (sh : Sh R) {σ : L2.St} {H : Hp} {Q : VK}
    (h : tX X.K W R (fun env st => (bor env ea (evE C env ea) st).bnd fun x st => (bor env eb (evE C env eb) st).bnd fun y st => ofO (g x y) st) σ H Q) : L2.tOp (rOp2 X.K g R) (tB X.K W C ea) (tB X.K W C eb) σ H Q := by
  obtain ⟨F, T, st, env, w, eo, p⟩ := two (f := fun env x y st => ofO (g x y) st) sh h
  refine ⟨F, T, st, env, w, eo, p.mono fun x H1 ⟨F1, T1, st1, env1, w1, eo1, p1⟩ => ⟨F1, T1, st1, env1, w1, eo1, p1.mono fun y H2 ⟨F2, T2, st2, env2, dx, dy, w2, eo2, bx, by_, p2⟩ => ?_⟩⟩
  obtain ⟨d, e, c⟩ := cont_of p2
  exact ⟨F2, T2, st2, dx, dy, d, w2, bx, by_, e, c⟩
theorem s_cmp (hu : X.A.units + 65 < cLine) {op : CmpOp} {a b : Expr} {ea eb : E} {pos : Pos} (ha : PE X a (tB X.K W C ea)) (hb : PE X b (tB X.K W C eb)) (ok : okA b = true) : PE X (.Compare a [op] [b] pos) (tE X.K W C (.cmp op ea eb)) :=
  impE (pe_cmpR (op_cmpD hu) ha hb (okA_behind ok)) fun σ H Q h => two_r2 sh_V h
theorem bl_of {x y : D} {op : CmpOp} {d : D} (h : (cmpD op x y).map D.bl = some d) : ∃ b, d = .bl b := by
  obtain ⟨b, _, rfl⟩ := Option.map_eq_some_iff.mp h
  exact ⟨b, rfl⟩
theorem s_cmpT (hu : X.A.units + 65 < cLine) {op : CmpOp} {a b : Expr} {ea eb : E} {pos : Pos} (ha : PE X a (tB X.K W C ea)) (hb : PE X b (tB X.K W C eb)) (ok : okA b = true) : PT X (.Compare a [op] [b] pos) (tT X.K W C (.cmp op ea eb)) :=
  impT (pt_cmpR (op_cmpD hu) ha hb (okA_behind ok)) fun σ H Q ⟨F, T, st, env, w, eo, p⟩ => by
    refine two_r2 (Q := fun x H' => ∃ k, x = .bl k ∧ Q k H') sh_V ⟨F, T, st, env, w, eo, ?_⟩
    have p : Post X.K W σ F T H rEq (((bor env ea (evE C env ea) st).bnd fun x st => (bor env eb (evE C env eb) st).bnd fun y st => ofO ((cmpD op x y).map .bl) st).bnd fun d st => ofO (truthD d) st) Q := p
    show Post X.K W σ F T H (rV X.K) ((bor env ea (evE C env ea) st).bnd fun x st => (bor env eb (evE C env eb) st).bnd fun y st => ofO ((cmpD op x y).map .bl) st) _
    revert p
    cases bor env ea (evE C env ea) st with
    | bad => exact id
    | ex c ks ds st => exact id
    | ok x st1 =>
      rw [Out.bnd_ok]
      cases bor env eb (evE C env eb) st1 with
      | bad => exact id
      | ex c ks ds st => exact id
      | ok y st2 =>
        rw [Out.bnd_ok]
        cases e : (cmpD op x y).map D.bl with
        | none => exact id
        | some d =>
          obtain ⟨b, rfl⟩ := bl_of e
          intro p v F' T' H' x w r
          cases r
          exact ⟨b, rfl, p b F' T' H' x w rfl⟩
end
end Eng
set_option Elab.async false
set_option linter.all false
set_option maxRecDepth 100000
/-! Eng 8: more expressions -/
namespace Eng
open PySem PySem.Spec PyProof.Rows L2
section
variable {X : Cx} {W : WW} {C : Calls}
/-- one step of an evaluation -/
theorem one {α β γ δ : Type} {R : RR α β} {R1 : RR γ δ} {m : Env → Store → Out γ} {f : Env → γ → Store → Out α} {σ : L2.St} {H : Hp} {Q : β → Hp → Prop} (sh : Sh R)
    (h : tX X.K W R (fun env st => (m env st).bnd fun x st => f env x st) σ H Q) :
    tX X.K W R1 m σ H fun b H1 => ∃ F T st env a, (∀ p, H1 p = none → H p = none) ∧ WF X.K F T st H1 ∧ EnvOk X.K W.xi F T H1 env σ ∧ R1 H F T H1 a b ∧ Post X.K W σ F T H1 R (f env a st) Q :=
  tX.bnd (f := f) sh h
theorem truth_of {F H : Hp} {T : List Addr} {st : Store} {d : D} {v : V} {σ : L2.St} {Q : Bool → Hp → Prop} (w : WF X.K F T st H) (r : Rep X.K F T v d) (p : Post X.K W σ F T H rEq (ofO (truthD d) st) Q) : ∃ k, TruV X.K v H k ∧ Q k H := by
  cases e : truthD d with
  | none => rw [e] at p; exact p.elim
  | some k => rw [e] at p; exact ⟨k, tru_D w r e, p k F T H (.refl _ _ _) w rfl⟩
theorem s_truth {a : Expr} {e : E} (h : PE X a (tE X.K W C e)) (ok : okT a = true) (he : ∀ env, evT C env e = tst (evE C env e)) : PT X a (tT X.K W C e) :=
  impT (pt_truth h (okT_plain ok)) fun σ H Q ⟨F, T, st, env, w, eo, p⟩ => by
    have p : Post X.K W σ F T H rEq (evT C env e st) Q := p
    rw [he] at p
    refine ⟨F, T, st, env, w, eo, (Post.bnd (R1 := rV X.K) sh_Eq p).mono fun x H1 ⟨F1, T1, st1, d, x1, w1, r1, p1⟩ => truth_of w1 r1 p1⟩
theorem s_not {a : Expr} {e : E} {pos : Pos} (h : PE X a (tE X.K W C e)) : PE X (.UnaryOp .Not a pos) (tE X.K W C (.not e)) :=
  impE (pe_notT h) fun σ H Q ⟨F, T, st, env, w, eo, p⟩ => by
    have p : Post X.K W σ F T H (rV X.K) ((evE C env e st).bnd fun d st => (ofO (truthD d) st).bnd fun b st => .ok (.bl (!b)) st) Q := p
    refine ⟨F, T, st, env, w, eo, (Post.bnd (R1 := rV X.K) sh_V p).mono fun x H1 ⟨F1, T1, st1, d, x1, w1, r1, p1⟩ => ?_⟩
    cases q : truthD d with
    | none => rw [q] at p1; exact p1.elim
    | some k => rw [q] at p1; exact ⟨k, tru_D w1 r1 q, p1 _ F1 T1 H1 (.refl _ _ _) w1 (.bl _)⟩
theorem s_notT {a : Expr} {e : E} {pos : Pos} (h : PT X a (tT X.K W C e)) : PT X (.UnaryOp .Not a pos) (tT X.K W C (.not e)) :=
  impT (pt_not h) fun σ H Q ⟨F, T, st, env, w, eo, p⟩ => by
    have p : Post X.K W σ F T H rEq ((evT C env e st).bnd fun b st => .ok (!b) st) Q := p
    refine ⟨F, T, st, env, w, eo, (Post.bnd (R1 := rEq) sh_Eq p).mono fun x H1 ⟨F1, T1, st1, d, x1, w1, r1, p1⟩ => ?_⟩
    have r1 : d = x := r1
    subst r1
    exact p1 _ F1 T1 H1 (.refl _ _ _) w1 rfl
theorem s_neg {a : Expr} {e : E} {pos : Pos} (h : PE X a (tE X.K W C e)) : PE X (.UnaryOp .USub a pos) (tE X.K W C (.neg e)) :=
  impE (pe_un un_neg h) fun σ H Q ⟨F, T, st, env, w, eo, p⟩ => by
    have p : Post X.K W σ F T H (rV X.K) ((evE C env e st).bnd fun x st => (match x with | .int i => .ok (.int (-i)) st | _ => .bad)) Q := p
    refine ⟨F, T, st, env, w, eo, (Post.bnd (R1 := rV X.K) sh_V p).mono fun x H1 ⟨F1, T1, st1, d, x1, w1, r1, p1⟩ => ?_⟩
    cases d with
    | int i => cases r1; exact ⟨i, rfl, p1 _ F1 T1 H1 (.refl _ _ _) w1 (.int _)⟩
    | _ => exact p1.elim
theorem s_ife {c a b : Expr} {ec ea eb : E} {pos : Pos} (hc : PT X c (tT X.K W C ec)) (ha : PE X a (tE X.K W C ea)) (hb : PE X b (tE X.K W C eb)) : PE X (.IfExp c a b pos) (tE X.K W C (.ife ec ea eb)) :=
  impE (pe_ifExp hc ha hb) fun σ H Q ⟨F, T, st, env, w, eo, p⟩ => by
    have p : Post X.K W σ F T H (rV X.K) ((evT C env ec st).bnd fun r st => (match r with | true => evE C env ea st | false => evE C env eb st)) Q := p
    refine ⟨F, T, st, env, w, eo, (Post.bnd (R1 := rEq) sh_V p).mono fun x H1 ⟨F1, T1, st1, d, x1, w1, r1, p1⟩ => ?_⟩
    have r1 : d = x := r1
    subst r1
    cases d with
    | true => exact iteT ⟨F1, T1, st1, env, w1, eo.ext x1, p1⟩
    | false => exact iteF ⟨F1, T1, st1, env, w1, eo.ext x1, p1⟩
theorem chain_rd {op op' : CmpOp} {ea eb ec : E} {σ : L2.St} {H : Hp} {Q : VK} (h : tE X.K W C (.cmp2 op op' ea eb ec) σ H Q) :
    tChain (rOp2 X.K (fun x y => (cmpD op x y).map .bl) (rV X.K)) (rOp2 X.K (fun x y => (cmpD op' x y).map .bl) (rV X.K)) (tE X.K W C ea) (tE X.K W C eb) (tE X.K W C ec) σ H Q := by
  obtain ⟨F, T, st, env, w, eo, p⟩ := h
  have p : Post X.K W σ F T H (rV X.K) ((evE C env ea st).bnd fun x st => (evE C env eb st).bnd fun y st => (ofO (cmpD op x y) st).bnd fun r st => (match r with
    | true => (evE C env ec st).bnd fun z st => ofO ((cmpD op' y z).map .bl) st
    | false => .ok (.bl false) st)) Q := p
  refine ⟨F, T, st, env, w, eo, (Post.bnd (R1 := rV X.K) sh_V p).mono fun x H1 ⟨F1, T1, st1, dx, x1, w1, r1, p1⟩ => ?_⟩
  refine ⟨F1, T1, st1, env, w1, eo.ext x1, (Post.bnd (R1 := rV X.K) sh_V p1).mono fun y H2 ⟨F2, T2, st2, dy, x2, w2, r2, p2⟩ => ?_⟩
  have r1' : Rep X.K F2 T2 x dx := Rep.mono x2.fr x2.pre r1
  cases q : cmpD op dx dy with
  | none => rw [q] at p2; exact p2.elim
  | some k =>
    rw [q] at p2
    refine ⟨F2, T2, st2, dx, dy, .bl k, w2, .inl r1', .inl r2, by show (cmpD op dx dy).map D.bl = some (D.bl k); rw [q]; rfl, fun v F' T' H' x' w' r' => ?_⟩
    have r' : Rep X.K F' T' v (.bl k) := r'
    cases r'
    refine ⟨k, rfl, ?_⟩
    have p3 := Post.shift sh_V x' p2
    cases k with
    | false => exact iteF (p3 _ _ _ _ (.refl _ _ _) w' (.bl _))
    | true =>
      refine iteT ?_
      refine ⟨F', T', st2, env, w', ((eo.ext x1).ext x2).ext x', (Post.bnd (R1 := rV X.K) sh_V p3).mono fun z H3 ⟨F3, T3, st3, dz, x3, w3, r3, p4⟩ => ?_⟩
      obtain ⟨d, e, c⟩ := cont_of p4
      exact ⟨F3, T3, st3, dy, dz, d, w3, .inl (Rep.mono (x'.fr.trans x3.fr) (x'.pre.trans x3.pre) r2), .inl r3, e, c⟩
theorem s_cmp2 (hu : X.A.units + 65 < cLine) {op op' : CmpOp} {a b c : Expr} {ea eb ec : E} {pos : Pos} (ha : PE X a (tE X.K W C ea)) (hb : PE X b (tE X.K W C eb)) (hc : PE X c (tE X.K W C ec)) (okc : okA c = true) :
    PE X (.Compare a [op, op'] [b, c] pos) (tE X.K W C (.cmp2 op op' ea eb ec)) :=
  impE (pe_chain (op_cmpD hu) (op_cmpD hu) ha hb hc (show lastMarks [op'] [c] = false from okA_behind okc)) fun σ H Q h => chain_rd h
theorem s_cmp2T (hu : X.A.units + 65 < cLine) {op op' : CmpOp} {a b c : Expr} {ea eb ec : E} {pos : Pos} (ha : PE X a (tE X.K W C ea)) (hb : PE X b (tE X.K W C eb)) (hc : PE X c (tE X.K W C ec)) (okc : okA c = true) :
    PT X (.Compare a [op, op'] [b, c] pos) (tT X.K W C (.cmp2 op op' ea eb ec)) :=
  impT (pt_chain (op_cmpD hu) (op_cmpD hu) ha hb hc (show lastMarks [op'] [c] = false from okA_behind okc)) fun σ H Q ⟨F, T, st, env, w, eo, p⟩ => by
    refine chain_rd ⟨F, T, st, env, w, eo, ?_⟩
    have p : Post X.K W σ F T H rEq ((evE C env (.cmp2 op op' ea eb ec) st).bnd fun d st => ofO (truthD d) st) Q := p
    have hb : ∀ d st', evE C env (.cmp2 op op' ea eb ec) st = .ok d st' → ∃ k, d = .bl k := by
      intro d st'
      show ((evE C env ea st).bnd fun x st => (evE C env eb st).bnd fun y st => (ofO (cmpD op x y) st).bnd fun r st => (match r with
        | true => (evE C env ec st).bnd fun z st => ofO ((cmpD op' y z).map .bl) st
        | false => .ok (.bl false) st)) = .ok d st' → _
      cases evE C env ea st with
      | bad => intro h; cases h
      | ex c ks ds st => intro h; cases h
      | ok x st1 =>
        rw [Out.bnd_ok]
        cases evE C env eb st1 with
        | bad => intro h; cases h
        | ex c ks ds st => intro h; cases h
        | ok y st2 =>
          rw [Out.bnd_ok]
          cases cmpD op x y with
          | none => intro h; cases h
          | some k =>
            cases k with
            | false => intro h; cases h; exact ⟨_, rfl⟩
            | true =>
              show ((evE C env ec st2).bnd fun z st => ofO ((cmpD op' y z).map .bl) st) = .ok d st' → _
              cases evE C env ec st2 with
              | bad => intro h; cases h
              | ex c ks ds st => intro h; cases h
              | ok z st3 =>
                rw [Out.bnd_ok]
                cases e : (cmpD op' y z).map D.bl with
                | none => intro h; cases h
                | some b => intro h; cases h; exact bl_of e
    show Post X.K W σ F T H (rV X.K) (evE C env (.cmp2 op op' ea eb ec) st) _
    revert p hb
    cases evE C env (.cmp2 op op' ea eb ec) st with
    | bad => exact fun p _ => p
    | ex c ks ds st => exact fun p _ => p
    | ok d st' =>
      intro p hb
      obtain ⟨k, rfl⟩ := hb d st' rfl
      intro v F' T' H' x w r
      cases r
      exact ⟨k, rfl, p k F' T' H' x w rfl⟩

/-! ### and, or -/
theorem s_one {op : BoolOp} {a : Expr} {e : E} {pos : Pos} (h : PE X a (tE X.K W C e)) (f : Es → E) (hf : ∀ env, evE C env (f (.cons e .nil)) = fun st => (evE C env e st).bnd fun d st => .ok d st) : PE X (.BoolOp op [a] pos) (tE X.K W C (f (.cons e .nil))) :=
  impE (pe_one h) fun σ H Q ⟨F, T, st, env, w, eo, p⟩ => by
    refine ⟨F, T, st, env, w, eo, ?_⟩
    have p : Post X.K W σ F T H (rV X.K) (evE C env (f (.cons e .nil)) st) Q := p
    rw [hf] at p
    show Post X.K W σ F T H (rV X.K) (evE C env e st) Q
    have p : Post X.K W σ F T H (rV X.K) ((evE C env e st).bnd fun d st => Out.ok d st) Q := p
    revert p
    cases evE C env e st <;> exact fun p => p
theorem s_and {a b : Expr} {rest : List Expr} {ea eb : E} {es : Es} {pos : Pos} (ha : PE X a (tE X.K W C ea)) (hb : PE X (.BoolOp .And (b :: rest) pos) (tE X.K W C (.and (.cons eb es)))) :
    PE X (.BoolOp .And (a :: b :: rest) pos) (tE X.K W C (.and (.cons ea (.cons eb es)))) :=
  impE (pe_andT ha hb) fun σ H Q ⟨F, T, st, env, w, eo, p⟩ => by
    have p : Post X.K W σ F T H (rV X.K) ((evE C env ea st).bnd fun d st => (ofO (truthD d) st).bnd fun r st => (match r with | true => evE C env (.and (.cons eb es)) st | false => .ok d st)) Q := p
    refine ⟨F, T, st, env, w, eo, (Post.bnd (R1 := rV X.K) sh_V p).mono fun x H1 ⟨F1, T1, st1, d, x1, w1, r1, p1⟩ => ?_⟩
    cases q : truthD d with
    | none => rw [q] at p1; exact p1.elim
    | some k =>
      rw [q] at p1
      refine ⟨k, tru_D w1 r1 q, ?_⟩
      cases k with
      | true => exact iteT ⟨F1, T1, st1, env, w1, eo.ext x1, p1⟩
      | false => exact iteF (p1 _ F1 T1 H1 (.refl _ _ _) w1 r1)
theorem s_or {a b : Expr} {rest : List Expr} {ea eb : E} {es : Es} {pos : Pos} (ha : PE X a (tE X.K W C ea)) (hb : PE X (.BoolOp .Or (b :: rest) pos) (tE X.K W C (.or (.cons eb es)))) :
    PE X (.BoolOp .Or (a :: b :: rest) pos) (tE X.K W C (.or (.cons ea (.cons eb es)))) :=
  impE (pe_orT ha hb) fun σ H Q ⟨F, T, st, env, w, eo, p⟩ => by
    have p : Post X.K W σ F T H (rV X.K) ((evE C env ea st).bnd fun d st => (ofO (truthD d) st).bnd fun r st => (match r with | true => .ok d st | false => evE C env (.or (.cons eb es)) st)) Q := p
    refine ⟨F, T, st, env, w, eo, (Post.bnd (R1 := rV X.K) sh_V p).mono fun x H1 ⟨F1, T1, st1, d, x1, w1, r1, p1⟩ => ?_⟩
    cases q : truthD d with
    | none => rw [q] at p1; exact p1.elim
    | some k =>
      rw [q] at p1
      refine ⟨k, tru_D w1 r1 q, ?_⟩
      cases k with
      | true => exact iteT (p1 _ F1 T1 H1 (.refl _ _ _) w1 r1)
      | false => exact iteF ⟨F1, T1, st1, env, w1, eo.ext x1, p1⟩
/-- as tests -/
theorem w_and1 {a : Expr} {e : E} {pos : Pos} (h : PT X a (tT X.K W C e)) : PW X (.BoolOp .And [a] pos) (tT X.K W C (.and (.cons e .nil))) :=
  impW (pw_and1 h) fun σ H Q ⟨F, T, st, env, w, eo, p⟩ => by
    refine ⟨F, T, st, env, w, eo, ?_⟩
    have p : Post X.K W σ F T H rEq ((evT C env e st).bnd fun r st => .ok r st) Q := p
    show Post X.K W σ F T H rEq (evT C env e st) Q
    revert p
    cases evT C env e st <;> exact id
theorem w_or1 {a : Expr} {e : E} {pos : Pos} (h : PT X a (tT X.K W C e)) : PW X (.BoolOp .Or [a] pos) (tT X.K W C (.or (.cons e .nil))) :=
  impW (pw_or1 h) fun σ H Q ⟨F, T, st, env, w, eo, p⟩ => by
    refine ⟨F, T, st, env, w, eo, ?_⟩
    have p : Post X.K W σ F T H rEq ((evT C env e st).bnd fun r st => .ok r st) Q := p
    show Post X.K W σ F T H rEq (evT C env e st) Q
    revert p
    cases evT C env e st <;> exact id
theorem w_and {a b : Expr} {rest : List Expr} {ea eb : E} {es : Es} {pos : Pos} (ha : PT X a (tT X.K W C ea)) (hb : PW X (.BoolOp .And (b :: rest) pos) (tT X.K W C (.and (.cons eb es)))) :
    PW X (.BoolOp .And (a :: b :: rest) pos) (tT X.K W C (.and (.cons ea (.cons eb es)))) :=
  impW (pw_and ha hb) fun σ H Q ⟨F, T, st, env, w, eo, p⟩ => by
    have p : Post X.K W σ F T H rEq ((evT C env ea st).bnd fun r st => (match r with | true => evT C env (.and (.cons eb es)) st | false => .ok false st)) Q := p
    refine ⟨F, T, st, env, w, eo, (Post.bnd (R1 := rEq) sh_Eq p).mono fun x H1 ⟨F1, T1, st1, d, x1, w1, r1, p1⟩ => ?_⟩
    have r1 : d = x := r1
    subst r1
    cases d with
    | true => exact iteT ⟨F1, T1, st1, env, w1, eo.ext x1, p1⟩
    | false => exact iteF (p1 _ F1 T1 H1 (.refl _ _ _) w1 rfl)
theorem w_or {a b : Expr} {rest : List Expr} {ea eb : E} {es : Es} {pos : Pos} (ha : PT X a (tT X.K W C ea)) (hb : PW X (.BoolOp .Or (b :: rest) pos) (tT X.K W C (.or (.cons eb es)))) :
    PW X (.BoolOp .Or (a :: b :: rest) pos) (tT X.K W C (.or (.cons ea (.cons eb es)))) :=
  impW (pw_or ha hb) fun σ H Q ⟨F, T, st, env, w, eo, p⟩ => by
    have p : Post X.K W σ F T H rEq ((evT C env ea st).bnd fun r st => (match r with | true => .ok true st | false => evT C env (.or (.cons eb es)) st)) Q := p
    refine ⟨F, T, st, env, w, eo, (Post.bnd (R1 := rEq) sh_Eq p).mono fun x H1 ⟨F1, T1, st1, d, x1, w1, r1, p1⟩ => ?_⟩
    have r1 : d = x := r1
    subst r1
    cases d with
    | true => exact iteT (p1 _ F1 T1 H1 (.refl _ _ _) w1 rfl)
    | false => exact iteF ⟨F1, T1, st1, env, w1, eo.ext x1, p1⟩

/-! ### argument lists, displays -/
theorem s_nil : PA X [] (tEs X.K W C .nil) := impA pa_nil fun σ H Q ⟨F, T, st, env, w, eo, p⟩ => p _ F T H (.refl _ _ _) w .nil
theorem s_cons {a : Expr} {as : List Expr} {e : E} {es : Es} (ha : PE X a (tE X.K W C e)) (hr : PA X as (tEs X.K W C es)) (ok : okA a = true) : PA X (a :: as) (tEs X.K W C (.cons e es)) :=
  impA (pa_cons ha hr (okA_star ok)) fun σ H Q ⟨F, T, st, env, w, eo, p⟩ => by
    have p : Post X.K W σ F T H (rVs X.K) ((evE C env e st).bnd fun d st => (evEs C env es st).bnd fun ds st => .ok (d :: ds) st) Q := p
    refine ⟨F, T, st, env, w, eo, (Post.bnd (R1 := rV X.K) sh_Vs p).mono fun x H1 ⟨F1, T1, st1, d, x1, w1, r1, p1⟩ => ?_⟩
    refine ⟨F1, T1, st1, env, w1, eo.ext x1, (Post.bnd (R1 := rVs X.K) sh_Vs p1).mono fun xs H2 ⟨F2, T2, st2, ds, x2, w2, r2, p2⟩ => ?_⟩
    exact p2 _ F2 T2 H2 (.refl _ _ _) w2 (.cons (Rep.mono x2.fr x2.pre r1) r2)
theorem b_nil : PA X [] (tBs X.K W C .nil) := impA pa_nil fun σ H Q ⟨F, T, st, env, w, eo, p⟩ => p _ F T H (.refl _ _ _) w .nil
theorem b_cons {a : Expr} {as : List Expr} {e : E} {es : Es} (ha : PE X a (tB X.K W C e)) (hr : PA X as (tBs X.K W C es)) (ok : okA a = true) : PA X (a :: as) (tBs X.K W C (.cons e es)) :=
  impA (pa_cons ha hr (okA_star ok)) fun σ H Q ⟨F, T, st, env, w, eo, p⟩ => by
    have p : Post X.K W σ F T H (rBs X.K) ((bor env e (evE C env e) st).bnd fun d st => (evBs C env es st).bnd fun ds st => .ok (d :: ds) st) Q := p
    refine ⟨F, T, st, env, w, eo, (Post.bnd (R1 := rBo X.K) sh_Bs p).mono fun x H1 ⟨F1, T1, st1, d, x1, w1, r1, p1⟩ => ?_⟩
    refine ⟨F1, T1, st1, env, w1, eo.ext x1, (Post.bnd (R1 := rBs X.K) sh_Bs p1).mono fun xs H2 ⟨F2, T2, st2, ds, x2, w2, r2, p2⟩ => ?_⟩
    exact p2 _ F2 T2 H2 (.refl _ _ _) w2 (.cons (Bor.ext r1 x2) r2)
theorem chk_ok {α : Type} {b : Bool} {a : α} {st : Store} {o : Out α} {β : Type} {R : RR α β} {F H : Hp} {T : List Addr} {σ : L2.St} {Q : β → Hp → Prop} (p : Post X.K W σ F T H R (chkO b o) Q) : b = true ∧ Post X.K W σ F T H R o Q := by
  cases b with
  | true => exact ⟨rfl, p⟩
  | false => exact p.elim
theorem s_tup {as : List Expr} {es : Es} {k : Nat} {pos : Pos} (ha : PA X as (tEs X.K W C es)) : PE X (.Tuple as k pos) (tE X.K W C (.tup es)) :=
  impE (pe_tup ha) fun σ H Q ⟨F, T, st, env, w, eo, p⟩ => by
    have p : Post X.K W σ F T H (rV X.K) ((evEs C env es st).bnd fun ds st => chkO (decide (ds.length ≤ sizeLine)) (.ok (.tup ds) st)) Q := p
    refine ⟨F, T, st, env, w, eo, (Post.bnd (R1 := rVs X.K) sh_V p).mono fun xs H1 ⟨F1, T1, st1, ds, x1, w1, r1, p1⟩ => ?_⟩
    obtain ⟨c, p1⟩ := chk_ok (a := D.non) (st := st) p1
    have r1 : Reps X.K F1 T1 xs ds := r1
    exact ⟨by rw [r1.length]; exact of_decide_eq_true c, fun q hq => p1 _ _ _ _ (Ext.new w1 hq) (w1.new hq) (new_tup w1 r1 hq)⟩
theorem s_lst {as : List Expr} {es : Es} {pos : Pos} (ha : PA X as (tEs X.K W C es)) : PE X (.List as pos) (tDr X.K W C (.lst es)) :=
  impE (pe_lst ha) fun σ H Q ⟨F, T, st, env, w, eo, p⟩ => by
    have p : Post X.K W σ F T H (rD X.K) ((evEs C env es st).bnd fun ds st => chkO (decide (ds.length ≤ sizeLine)) (.ok (.lst ds) st)) Q := p
    refine ⟨F, T, st, env, w, eo, (Post.bnd (R1 := rVs X.K) sh_D p).mono fun xs H1 ⟨F1, T1, st1, ds, x1, w1, r1, p1⟩ => ?_⟩
    obtain ⟨c, p1⟩ := chk_ok (a := D.non) (st := st) p1
    have r1 : Reps X.K F1 T1 xs ds := r1
    exact ⟨by rw [r1.length]; exact of_decide_eq_true c, fun q hq => Cont.lst w1 p1 r1 hq⟩

/-! ### items, slices -/
theorem s_ix (hu : X.A.units + 1 < cLine) {a i : Expr} {ea ei : E} {pos : Pos} (ha : PE X a (tB X.K W C ea)) (hi : PE X i (tE X.K W C ei)) (ok : okA i = true) : PE X (.Subscript a i pos) (tE X.K W C (.ix ea ei)) :=
  impE (pe_ix (ix_D hu) ha hi (okA_ix ok)) fun σ H Q ⟨F, T, st, env, w, eo, p⟩ => by
    have p : Post X.K W σ F T H (rV X.K) ((bor env ea (evE C env ea) st).bnd fun x st => (evE C env ei st).bnd fun k st => ofO ((deref st x).bind fun x => ixS x k) st) Q := p
    refine ⟨F, T, st, env, w, eo, (Post.bnd (R1 := rBo X.K) sh_V p).mono fun x H1 ⟨F1, T1, st1, dx, x1, w1, r1, p1⟩ => ?_⟩
    refine ⟨F1, T1, st1, env, w1, eo.ext x1, (Post.bnd (R1 := rV X.K) sh_V p1).mono fun y H2 ⟨F2, T2, st2, dy, x2, w2, r2, p2⟩ => ?_⟩
    obtain ⟨d, e, c⟩ := cont_of p2
    obtain ⟨dx', e1, e2⟩ := Option.bind_eq_some_iff.mp e
    exact ⟨F2, T2, st2, dx, dx', dy, d, w2, Bor.ext r1 x2, .inl r2, e1, e2, c⟩
theorem o_none : PO X none (tOp X.K W C .no) := impO po_none fun σ H Q ⟨F, T, st, env, w, eo, p⟩ => p _ F T H (.refl _ _ _) w rfl
theorem o_some {a : Expr} {e : E} (h : PE X a (tE X.K W C e)) : PO X (some a) (tOp X.K W C (.so e)) :=
  impO (po_some h) fun σ H Q ⟨F, T, st, env, w, eo, p⟩ => by
    have p : Post X.K W σ F T H rEq ((evE C env e st).bnd fun d st => (match d with | .int i => .ok (some i) st | _ => .bad)) Q := p
    refine ⟨F, T, st, env, w, eo, (Post.bnd (R1 := rV X.K) sh_Eq p).mono fun x H1 ⟨F1, T1, st1, d, x1, w1, r1, p1⟩ => ?_⟩
    cases d with
    | int i => cases r1; exact ⟨i, rfl, p1 _ F1 T1 H1 (.refl _ _ _) w1 rfl⟩
    | _ => exact p1.elim
theorem s_sl {a : Expr} {lo hi : Option Expr} {ea : E} {el eh : Op} {p2 pos : Pos} (ha : PE X a (tB X.K W C ea)) (hl : PO X lo (tOp X.K W C el)) (hh : PO X hi (tOp X.K W C eh)) : PE X (.Subscript a (.Slice lo hi none p2) pos) (tDr X.K W C (.sl ea el eh)) :=
  impE (pe_slice sl_D ha hl hh) fun σ H Q ⟨F, T, st, env, w, eo, p⟩ => by
    have p : Post X.K W σ F T H (rD X.K) ((bor env ea (evE C env ea) st).bnd fun x st => (evO C env el st).bnd fun l st => (evO C env eh st).bnd fun h st => ofO (slD x l h) st) Q := p
    refine ⟨F, T, st, env, w, eo, (Post.bnd (R1 := rBo X.K) sh_D p).mono fun x H1 ⟨F1, T1, st1, dx, x1, w1, r1, p1⟩ => ?_⟩
    refine ⟨F1, T1, st1, env, w1, eo.ext x1, (Post.bnd (R1 := rEq) sh_D p1).mono fun l H2 ⟨F2, T2, st2, l', x2, w2, r2, p2⟩ => ?_⟩
    have r2 : l' = l := r2
    subst r2
    refine ⟨F2, T2, st2, env, w2, (eo.ext x1).ext x2, (Post.bnd (R1 := rEq) sh_D p2).mono fun h H3 ⟨F3, T3, st3, h', x3, w3, r3, p3⟩ => ?_⟩
    have r3 : h' = h := r3
    subst r3
    obtain ⟨d, e, c⟩ := cont_of p3
    exact ⟨F3, T3, st3, dx, d, w3, (Bor.ext r1 x2).ext x3, e, c⟩

/-! ### calls of built-ins -/
theorem s_bi {b : String} {f : Str} {id : String} {a : Expr} {as : List Expr} {es : Es} {p pos : Pos} (hc : CallR X (.builtin id) (rBi X.K b)) (hg : Gl X f) (hm : X.mg f = none) (hv : bootBuiltins f = some (.builtin id)) (ha : PA X (a :: as) (tBs X.K W C es))
    (ok : okA a = true) (oks : okAs as = true) (hn : f ≠ "__name__") (hd : (f == ("__debug__" : Str)) = false) : PE X (.Call (.Name f p) (a :: as) [] pos) (tDr X.K W C (.bi b es)) :=
  impE (pe_callB hc hg hm hv ha hn hd (okA_star ok) (okAs_plain oks)) fun σ H Q ⟨F, T, st, env, w, eo, p⟩ => by
    have p : Post X.K W σ F T H (rD X.K) ((evBs C env es st).bnd fun ds st => ofO (biD b ds) st) Q := p
    refine ⟨F, T, st, env, w, eo, (Post.bnd (R1 := rBs X.K) sh_D p).mono fun vs H1 ⟨F1, T1, st1, ds, x1, w1, r1, p1⟩ => ?_⟩
    obtain ⟨d, e, c⟩ := cont_of p1
    exact ⟨F1, T1, st1, ds, d, w1, r1, e, c⟩
theorem s_biT {b : String} {f : Str} {id : String} {a : Expr} {as : List Expr} {es : Es} {p pos : Pos} (hc : CallR X (.type id) (rBi X.K b)) (hg : Gl X f) (hm : X.mg f = none) (hv : bootBuiltins f = some (.type id)) (ha : PA X (a :: as) (tBs X.K W C es))
    (ok : okA a = true) (oks : okAs as = true) (hn : f ≠ "__name__") (hd : (f == ("__debug__" : Str)) = false) : PE X (.Call (.Name f p) (a :: as) [] pos) (tDr X.K W C (.bi b es)) :=
  impE (pe_callTy hc hg hm hv ha hn hd (okA_star ok) (okAs_plain oks)) fun σ H Q ⟨F, T, st, env, w, eo, p⟩ => by
    have p : Post X.K W σ F T H (rD X.K) ((evBs C env es st).bnd fun ds st => ofO (biD b ds) st) Q := p
    refine ⟨F, T, st, env, w, eo, (Post.bnd (R1 := rBs X.K) sh_D p).mono fun vs H1 ⟨F1, T1, st1, ds, x1, w1, r1, p1⟩ => ?_⟩
    obtain ⟨d, e, c⟩ := cont_of p1
    exact ⟨F1, T1, st1, ds, d, w1, r1, e, c⟩
end
end Eng
set_option Elab.async false
set_option linter.all false
set_option maxRecDepth 100000
/-! Eng 9: what is gone through -/
namespace Eng
open PySem PySem.Spec PyProof.Rows L2

/-! ### a list, a tuple or a text, by what it is -/
def iAny (K : PySem.W.Frag) (te : TE) : TI := fun σ H R => te σ H fun x H1 =>
  (∃ a xs, x = .ref a ∧ SqL K H1 a xs ∧ (xs.length ≤ sizeLine → R (Itl K a) H1)) ∨ (∃ a xs, x = .ref a ∧ SqT K H1 a xs ∧ (xs.length ≤ sizeLine → R (Itt K a) H1)) ∨ ∃ z, x = .str z ∧ R (Its z) H1
section
variable {X : Cx} {tg : Expr}
theorem pi_any {e : Expr} {te : TE} (he : PE X e te) : PI X tg e (iAny X.K te) := by
  refine ⟨fun pins s σ H R I h => thn (he.run pins s σ H _ I h) fun u s1 ⟨x, H1, I1, rx, q⟩ => ?_⟩
  rcases q with ⟨a, xs, rfl, hq, q⟩ | ⟨a, xs, rfl, hq, q⟩ | ⟨z, rfl, q⟩
  · obtain rfl : u = Value.ref a := rx
    obtain ⟨its, _, pl, hz⟩ := I1.list hq
    exact wpAny_pyIter_list pl.isList (pi_one (tk := s1.toks) I1 _ (turn_list a _) ⟨_, Heap.get?_push_size _ rfl, rfl, rfl⟩ (q hz))
  · obtain rfl : u = Value.ref a := rx
    obtain ⟨its, _, pt, hz⟩ := I1.tuple hq
    have pt' : s1.heap.IsTuple a its.toArray := pt
    exact wpAny_pyIter_tuple pt' (pi_one (tk := s1.toks) I1 _ (turn_tuple a _) ⟨_, Heap.get?_push_size _ rfl, rfl, rfl⟩ (q hz))
  · obtain ⟨t, rfl⟩ : ∃ t, u = Value.str z t := rx
    by_cases low : z.cps.all (· < 128) = true
    · exact wpAny_pyIter_ascii low (pi_one (tk := s1.toks) I1 _ (turn_str _ z t _ (.inl rfl)) ⟨_, Heap.get?_push_size _ rfl, rfl, rfl⟩ q)
    · exact wpAny_pyIter_wide (by simpa using low) (pi_one (tk := s1.toks) I1 _ (turn_str _ z t _ (.inr rfl)) ⟨_, Heap.get?_push_size _ rfl, rfl, rfl⟩ q)
end

/-! ### enumerate of a tuple -/
section
set_option maxHeartbeats 1000000
theorem new_enum_of {v : Value} {o : Obj} {G : Heap → Prop} (B : Begins v o G) :
    Meets (Builtin.«enumerate.__new__» ⟨[.type "enumerate", v], []⟩) (fun _ R s => G s.heap ∧
      R (.ok (.ret (.ref (s.heap.push o).objs.size))) { s with heap := (s.heap.push o).push { cls := .type "enumerate", data := .fields #[.none, .bool false, .ref s.heap.objs.size, rawInt 0, .none, .none] } }) := by
  refine .of_wp fun prog w A R s hyp => ?_
  obtain ⟨hp, gs, dr, tk, os⟩ := s
  obtain ⟨g, hyp⟩ := hyp
  have sub := sub_enumerate
  have begin_ : ∀ {A' : Around} {E : Value → Shared → Prop} {Q : Value → Shared → Prop}, Q (.ref hp.objs.size) ⟨hp.push o, gs, dr, tk, os⟩ → wpAny (model prog w) A' (pyIter v) Q E ⟨hp, gs, dr, tk, os⟩ := fun q => B.iter prog w _ _ ⟨hp, gs, dr, tk, os⟩ _ g q
  wp_walk using begin_
  refine wpAny_stack_any fun st => wpAny_pure ?_
  split
  · rename_i cl _ _ _ _ _
    cases (cl == Value.type "enumerate") <;> (wp_walk using begin_; exact ⟨_, rfl, hyp⟩)
  · wp_walk using begin_
    exact ⟨_, rfl, hyp⟩
end
section
variable {prog : Program} {w : World} {A : Around} {E : Value → Shared → Prop} {s : Shared}
theorem call_enum_of {v : Value} {o : Obj} {G : Heap → Prop} {Q : Value → Shared → Prop} (B : Begins v o G) (g : G s.heap)
    (h : ∀ h', IsEnum h' (s.heap.objs.size + 1) s.heap.objs.size 0 .none → h'.get? s.heap.objs.size = some o → (∀ b u, s.heap.get? b = some u → h'.get? b = some u) → Q (.ref (s.heap.objs.size + 1)) { s with heap := h' }) :
    wpAny (model prog w) A (call (.type "enumerate") [v]) Q E s := by
  refine callType_new F.called_enumerate (by decide) (F.typeCall_enumerate_1 _) (F.newCall_enumerate_1 _) (fun ob => F.args_object_init_2 ob _) F.entry_enumerate_new (new_enum_of B) ⟨g, ?_⟩
  have hz : (s.heap.push o).objs.size = s.heap.objs.size + 1 := Heap.size_push ..
  have en : IsEnum ((s.heap.push o).push { cls := .type "enumerate", data := .fields #[.none, .bool false, .ref s.heap.objs.size, rawInt 0, .none, .none] }) (s.heap.objs.size + 1) s.heap.objs.size 0 .none := by
    unfold IsEnum
    rw [← hz]
    exact Heap.get?_push_size _ rfl
  show _ ∧ _
  rw [hz]
  exact ⟨⟨_, en, rfl⟩, h _ en (Heap.get?_push_of_some _ (Heap.get?_push_size _ B.free)) fun b u e => Heap.get?_push_of_some _ (Heap.get?_push_of_some _ e)⟩
end
/-- the tuple at a, each item in a new pair -/
def IteT (K : PySem.W.Frag) (a : Addr) : L2.It where
  go := fun i H => ∃ (xs : List V) (x : V), SqT K H a xs ∧ xs[i]? = some x
  yld := fun i H v H' => ∃ T x, v = .ref T ∧ H T = none ∧ H' = upd H T (.tup [.int (i : Nat), x]) ∧ ∀ xs, SqT K H a xs → xs[i]? = some x
  stop := fun i H => ∃ xs : List V, SqT K H a xs ∧ xs.length = i
/-- the text z, each sign in a new pair -/
def IteS (z : Str) : L2.It where
  go := fun i _ => i < z.cps.size
  yld := fun i H v H' => ∃ T c, v = .ref T ∧ H T = none ∧ H' = upd H T (.tup [.int (i : Nat), .str ⟨#[c]⟩]) ∧ z.cps[i]? = some c
  stop := fun i _ => z.cps.size = i
theorem apart_tup {h : Heap} {a it : Addr} {its : Array Value} {i : Nat} (p : h.IsTuple a its) (st : h.IsTupleIter it a i) : a ≠ it := by
  obtain ⟨o, e, c, _⟩ := p
  obtain ⟨o', e', c', _⟩ := st
  rintro rfl
  rw [e] at e'
  cases e'
  rw [c] at c'
  exact absurd c' (by decide)
section
variable {X : Cx} {pins : List (Addr × Obj)} {σ : L2.St} {H : Hp} {s : Shared}
/-- one turn of an enumerate -/
theorem enum_item {elts : List Expr} {kk : Nat} {tpos : Pos} {e it : Addr} {fp : List Addr} {n i : Nat} {P : Nat → Value → Prop} {St : Nat → Heap → Prop} {old : Value} {E : Value → Shared → Prop} {tn : Heap → Prop} {R : V → Hp → Prop}
    (I : Inv X pins σ H s) (hf : ∀ b ∈ [e, it], FpOk X pins H b) (D : Draws X.prog X.w X.A.in1 it fp n P St) (he : IsEnum s.heap e it ((i : Nat) : Int) old) (hst : St i s.heap) (hlt : i < n) (hne : e ≠ it) (hef : e ∉ fp)
    (q : ∀ u, P i u → ∃ x, RelV x u ∧ ∀ T, H T = none → R (.ref T) (upd H T (.tup [.int (i : Nat), x]))) (ht : ∀ h' old', IsEnum h' e it (((i + 1 : Nat)) : Int) old' → St (i + 1) h' → tn h') :
    wpAny (model X.prog X.w) X.A (pyNext (.ref e)) (fun r s1 => ∃ u, r = some u ∧
      wpAny (model X.prog X.w) X.A (letOwnedTupleGo (.Tuple elts kk tpos) (.ref e) u) (fun _ s2 => ∃ x H', Inv X pins σ H' s2 ∧ RelV x u ∧ R x H' ∧ tn s2.heap ∧ ∀ b ∈ [e, it], H' b = none) E s1) E s := by
  have eL : e < s.heap.objs.size := Heap.lt_size he
  have iL : it < s.heap.objs.size := by
    obtain ⟨_, y⟩ := D.live _ _ hst
    exact Heap.lt_size y
  refine wpAny_pyNext_enum_itemC D he hst hlt hne hef fun x h' tk px out st' hT sz kp => ⟨_, rfl, ?_⟩
  obtain ⟨xv, rx, qx⟩ := q x px
  refine wpAny_letOwnedTupleGo_enum (s := { s with heap := h', toks := tk + 1 }) out fun h2 en sb => ?_
  have hT2 : h2.get? s.heap.objs.size = some { cls := .type "tuple", data := .seq #[.int i tk, x] } := by
    rw [sb.2 _ (Nat.ne_of_gt eL)]
    exact hT
  have new : ObjOk X.prog X.w (upd H s.heap.objs.size (.tup [.int (i : Nat), xv])) h2 s.heap.objs.size (.tup [.int (i : Nat), xv]) := by
    refine ⟨?_, [.int i tk, x], ?_, _, hT2, rfl, _, rfl⟩
    · show 2 ≤ sizeLine
      rw [sizeLine_eq]
      omega
    · exact .cons ⟨_, rfl⟩ (.cons rx .nil)
  have hN : H s.heap.objs.size = none := I.hok.fresh (Nat.le_refl _)
  refine ⟨.ref s.heap.objs.size, _, I.turnedNew (ch := [e, it]) (fun b o hb y => ?_) hf (Nat.le_refl _) new, rfl, qx _ hN, ?_, fun b hb => ?_⟩
  · have b1 : b ≠ e := fun z => hb (by rw [z]; exact List.mem_cons_self)
    have b2 : b ≠ it := fun z => hb (by rw [z]; exact List.mem_cons_of_mem _ List.mem_cons_self)
    rw [sb.2 b b1]
    exact kp b o b1 b2 y
  · refine ht _ _ (by rw [show (((i + 1 : Nat)) : Int) = (i : Int) + 1 by omega]; exact en) (D.frame _ _ _ st' fun b hb o y => ?_)
    rw [sb.2 b (fun z => hef (z ▸ hb))]
    exact y
  · have lt : b < s.heap.objs.size := by
      rcases List.mem_cons.mp hb with z | z
      · rw [z]; exact eL
      · rw [List.mem_singleton.mp z]; exact iL
    rw [upd_ne (Nat.ne_of_lt lt)]
    exact (hf b hb).1
end
theorem mem2 {a b c : Addr} (h : c ∈ [a, b]) : c = a ∨ c = b := by simpa using h
theorem turn_enumT {P : Program} {w : World} {K : PySem.W.Frag} {elts : List Expr} {kk : Nat} {tpos : Pos} (a e it : Addr) :
    Turn P w K (.Tuple elts kk tpos) (IteT K a) [e, it] e (fun i h => (∃ old, IsEnum h e it ((i : Nat) : Int) old) ∧ h.IsTupleIter it a i ∧ e ≠ it) where
  mem := List.mem_cons_self
  obj := fun i h ⟨⟨old, en⟩, ⟨o, ho, _, hd⟩, _⟩ b hb => by
    rcases mem2 hb with rfl | rfl
    · exact ⟨_, en, fun v z => by cases (show Data.fields _ = Data.cell v from z)⟩
    · exact ⟨o, ho, fun v z => by rw [hd] at z; cases z⟩
  keep := fun i h h' ⟨⟨old, en⟩, ti, ne⟩ kp => ⟨⟨old, kp e List.mem_cons_self _ en⟩, ti.at fun o y => kp it (List.mem_cons_of_mem _ List.mem_cons_self) o y, ne⟩
  item := by
    intro X hP hw hK hc i pins s σ H E I hf st hg
    subst hP hw hK
    obtain ⟨⟨old, en⟩, ti, ne⟩ := st
    obtain ⟨xs, x, hq, hx⟩ := hg
    obtain ⟨its, rv, pt, _⟩ := I.tuple hq
    have pt' : s.heap.IsTuple a its.toArray := pt
    have hh : X.A.in1.handled = none := I.ok.hd hc
    have hz : i < its.toArray.size := by
      have := (List.getElem?_eq_some_iff.mp hx).1
      have := rv.length
      rw [List.size_toArray]
      omega
    have ea : e ≠ a := by
      rintro rfl
      obtain ⟨o, y, c, _⟩ := pt'
      rw [en] at y
      cases y
      exact absurd (show Value.type "enumerate" = Value.type "tuple" from c) (by decide)
    obtain ⟨u0, hu0, ru0⟩ := rv.get hx
    refine enum_item (R := (IteT X.K a).yld i H) (tn := fun h => (∃ old, IsEnum h e it (((i + 1 : Nat)) : Int) old) ∧ h.IsTupleIter it a (i + 1) ∧ e ≠ it) I hf (Draws.tuple hh it a (apart_tup pt' ti) its.toArray) en ⟨ti, pt'⟩ hz ne ?_ (fun u hu => ?_) fun h' old' en' st' => ⟨⟨_, en'⟩, st'.1, ne⟩
    · intro z
      rcases mem2 z with z | z
      · exact ne z
      · exact ea z
    · have e1 : u = u0 := by
        have hu : its.toArray[i]? = some u := hu
        rw [List.getElem?_toArray, hu0] at hu
        exact (Option.some.inj hu).symm
      subst e1
      exact ⟨x, ru0, fun T hT => ⟨T, x, rfl, hT, rfl, fun ys hy => by rw [I.tuple_inj hy hq]; exact hx⟩⟩
  done := by
    intro X hP hw hK hc i pins s σ H E I hf st hg
    subst hP hw hK
    obtain ⟨⟨old, en⟩, ti, ne⟩ := st
    obtain ⟨xs, hq, hx⟩ := hg
    obtain ⟨its, rv, pt, _⟩ := I.tuple hq
    have pt' : s.heap.IsTuple a its.toArray := pt
    have hh : X.A.in1.handled = none := I.ok.hd hc
    have hz : i = its.toArray.size := by
      have := rv.length
      rw [List.size_toArray]
      omega
    subst hz
    refine wpAny_pyNext_enum_endD (Draws.tuple hh it a (apart_tup pt' ti) its.toArray) en ⟨ti, pt'⟩ fun h' eb => ⟨rfl, ?_⟩
    obtain ⟨f0, f1, f2, f3, f4, f5⟩ := hf it (List.mem_cons_of_mem _ List.mem_cons_self)
    exact I.turned (t' := s.toks) (fun b o hb y => eb b o hb y) f0 f1 f3 f4 f5
  self := fun A i s Q E ⟨⟨_, en⟩, _⟩ h => wpAny_pyIter_enum en h
/-- enumerate of a text -/
theorem turn_enumS {P : Program} {w : World} {K : PySem.W.Frag} {elts : List Expr} {kk : Nat} {tpos : Pos} (z : Str) (t : Tok) (e it : Addr) :
    Turn P w K (.Tuple elts kk tpos) (IteS z) [e, it] e (fun i h => (∃ old, IsEnum h e it ((i : Nat) : Int) old) ∧ h.IsStrIter it (strIterType z) z t i ∧ e ≠ it) where
  mem := List.mem_cons_self
  obj := fun i h ⟨⟨old, en⟩, ⟨o, ho, _, hd⟩, _⟩ b hb => by
    rcases mem2 hb with rfl | rfl
    · exact ⟨_, en, fun v z => by cases (show Data.fields _ = Data.cell v from z)⟩
    · exact ⟨o, ho, fun v z => by rw [hd] at z; cases z⟩
  keep := fun i h h' ⟨⟨old, en⟩, ⟨o, ho, r⟩, ne⟩ kp => ⟨⟨old, kp e List.mem_cons_self _ en⟩, ⟨o, kp it (List.mem_cons_of_mem _ List.mem_cons_self) o ho, r⟩, ne⟩
  item := by
    intro X hP hw hK hc i pins s σ H E I hf st hg
    subst hP hw hK
    obtain ⟨⟨old, en⟩, ti, ne⟩ := st
    have hh : X.A.in1.handled = none := I.ok.hd hc
    have hz : i < z.cps.size := hg
    refine enum_item (R := (IteS z).yld i H) (tn := fun h => (∃ old, IsEnum h e it (((i + 1 : Nat)) : Int) old) ∧ h.IsStrIter it (strIterType z) z t (i + 1) ∧ e ≠ it) I hf (Draws.text hh it z t) en ti hz ne (fun q => ne (List.mem_singleton.mp q)) (fun u hu => ?_) fun h' old' en' st' => ⟨⟨_, en'⟩, st', ne⟩
    obtain ⟨c, tk, hc', rfl⟩ := hu
    exact ⟨.str ⟨#[c]⟩, ⟨tk, rfl⟩, fun T hT => ⟨T, c, rfl, hT, rfl, hc'⟩⟩
  done := by
    intro X hP hw hK hc i pins s σ H E I hf st hg
    subst hP hw hK
    obtain ⟨⟨old, en⟩, ti, ne⟩ := st
    have hh : X.A.in1.handled = none := I.ok.hd hc
    have hz : z.cps.size = i := hg
    subst hz
    refine wpAny_pyNext_enum_endD (Draws.text hh it z t) en ti fun h' eb => ⟨rfl, ?_⟩
    obtain ⟨f0, f1, f2, f3, f4, f5⟩ := hf it (List.mem_cons_of_mem _ List.mem_cons_self)
    exact I.turned (t' := s.toks) (fun b o hb y => eb b o hb y) f0 f1 f3 f4 f5
  self := fun A i s Q E ⟨⟨_, en⟩, _⟩ h => wpAny_pyIter_enum en h
def iEnumA (K : PySem.W.Frag) (ta : TA) : TI := fun σ H R => ta σ H fun vs H1 =>
  (∃ a xs, vs = [.ref a] ∧ SqL K H1 a xs ∧ (xs.length ≤ sizeLine → R (Ite K a) H1)) ∨ (∃ a xs, vs = [.ref a] ∧ SqT K H1 a xs ∧ (xs.length ≤ sizeLine → R (IteT K a) H1)) ∨ ∃ z, vs = [.str z] ∧ R (IteS z) H1
theorem fp_two {X : Cx} {pins : List (Addr × Obj)} {σ : L2.St} {H : Hp} {s : Shared} (I : Inv X pins σ H s) : ∀ b ∈ [s.heap.objs.size + 1, s.heap.objs.size], FpOk X pins H b := fun b hb => by
  have le : s.heap.objs.size ≤ b := by
    rcases mem2 hb with q | q
    · rw [q]; exact Nat.le_add_right _ _
    · rw [q]; exact Nat.le_refl _
  exact I.fpOk le (I.hok.fresh le)
theorem begins_text (z : Str) (t : Tok) : Begins (.str z t) { cls := .type (strIterType z), data := .fields #[.str z t, .int 0 0] } fun _ => True := ⟨fun _ _ _ _ _ _ _ q => wpAny_pyIter_strU q, fun _ _ _ _ => trivial, rfl⟩
theorem pi_enumA {X : Cx} {e : Expr} {ta : TA} {p pos tpos : Pos} {elts : List Expr} {kk : Nat} (hg : Gl X "enumerate") (hm : X.mg "enumerate" = none) (ha : PA X [e] ta) (hs : starEach [e] X.env = [(false, eval e X.env)]) :
    PI X (.Tuple elts kk tpos) (.Call (.Name "enumerate" p) [e] [] pos) (iEnumA X.K ta) := by
  refine ⟨fun pins s σ H R I h => Call_ (ld_blt I hg hm boot_enumerate (PyProof.Rows.callWith_type1 (thn (ha.run pos pins s σ H _ I h) fun us s1 ⟨vs, H1, I1, r1, q1⟩ => ?_) hs rfl))⟩
  rcases q1 with ⟨a, xs, rfl, hq, q⟩ | ⟨a, xs, rfl, hq, q⟩ | ⟨z, rfl, q⟩
  · obtain ⟨u, rfl, ru⟩ := vals1 r1
    obtain rfl : u = Value.ref a := ru
    obtain ⟨its, _, pl, hz⟩ := I1.list hq
    refine call_enumerate_list pl.isList fun h' en ti _ kp => wpAny_pyIter_enum en ?_
    exact ⟨s1.heap.objs.size + 1, _, _, Ite X.K a, H1, rfl, I1.kept (t' := s1.toks) kp, turn_enum a _ s1.heap.objs.size, ⟨⟨_, en⟩, ti, Nat.succ_ne_self _⟩, fp_two I1, q hz⟩
  · obtain ⟨u, rfl, ru⟩ := vals1 r1
    obtain rfl : u = Value.ref a := ru
    obtain ⟨its, _, pt, hz⟩ := I1.tuple hq
    have pt' : s1.heap.IsTuple a its.toArray := pt
    refine call_enum_of (begins_tuple a its.toArray) pt' fun h' en ti kp => wpAny_pyIter_enum en ?_
    exact ⟨s1.heap.objs.size + 1, _, _, IteT X.K a, H1, rfl, I1.kept (t' := s1.toks) kp, turn_enumT a _ s1.heap.objs.size, ⟨⟨_, en⟩, ⟨_, ti, rfl, rfl⟩, Nat.succ_ne_self _⟩, fp_two I1, q hz⟩
  · obtain ⟨u, rfl, ru⟩ := vals1 r1
    obtain ⟨t, rfl⟩ : ∃ t, u = Value.str z t := ru
    refine call_enum_of (begins_text z t) trivial fun h' en ti kp => wpAny_pyIter_enum en ?_
    exact ⟨s1.heap.objs.size + 1, _, _, IteS z, H1, rfl, I1.kept (t' := s1.toks) kp, turn_enumS z t _ s1.heap.objs.size, ⟨⟨_, en⟩, ⟨_, ti, rfl, rfl⟩, Nat.succ_ne_self _⟩, fp_two I1, q⟩

/-! ### what an iterator gives, as long as P stays -/
def Gives (K : PySem.W.Frag) (P : Hp → List Addr → Hp → Prop) (ds : List D) (J : L2.It) : Prop := ∀ F T st H, P F T H → WF K F T st H → ∀ i,
  (∀ d, ds[i]? = some d → J.go i H ∧ ∀ x H', J.yld i H x H' → ∃ F', Ext F T H F' T H' ∧ WF K F' T st H' ∧ Rep K F' T x d) ∧ (ds.length = i → J.stop i H)
def SrcL (K : PySem.W.Frag) (P : Hp → List Addr → Hp → Prop) (a : Addr) (ds : List D) : Prop := ∀ F T st H, P F T H → WF K F T st H → ∃ xs, SqL K H a xs ∧ Reps K F T xs ds
def SrcT (K : PySem.W.Frag) (P : Hp → List Addr → Hp → Prop) (a : Addr) (ds : List D) : Prop := ∀ F T st H, P F T H → WF K F T st H → ∃ xs, SqT K H a xs ∧ Reps K F T xs ds
section
variable {K : PySem.W.Frag} {P : Hp → List Addr → Hp → Prop} {a : Addr} {ds : List D}
theorem SrcL.gives (h : SrcL K P a ds) : Gives K P ds (Itl K a) := fun F T st H p w i => by
  obtain ⟨xs, hq, r⟩ := h F T st H p w
  refine ⟨fun d hd => ?_, fun hl => ⟨xs, hq, by rw [r.length]; omega⟩⟩
  obtain ⟨v, hv, rv⟩ := r.get hd
  refine ⟨⟨xs, v, hq, hv⟩, fun x H' ⟨e, hx⟩ => ?_⟩
  subst e
  have := hx xs hq
  rw [hv] at this
  cases this
  exact ⟨F, .refl _ _ _, w, rv⟩
theorem SrcT.gives (h : SrcT K P a ds) : Gives K P ds (Itt K a) := fun F T st H p w i => by
  obtain ⟨xs, hq, r⟩ := h F T st H p w
  refine ⟨fun d hd => ?_, fun hl => ⟨xs, hq, by rw [r.length]; omega⟩⟩
  obtain ⟨v, hv, rv⟩ := r.get hd
  refine ⟨⟨xs, v, hq, hv⟩, fun x H' ⟨e, hx⟩ => ?_⟩
  subst e
  have := hx xs hq
  rw [hv] at this
  cases this
  exact ⟨F, .refl _ _ _, w, rv⟩
theorem gives_str (z : Str) : Gives K P (z.cps.toList.map fun c => D.str ⟨#[c]⟩) (Its z) := fun F T st H p w i => by
  refine ⟨fun d hd => ?_, fun hl => ?_⟩
  · rw [List.getElem?_map] at hd
    obtain ⟨c, hc, rfl⟩ := Option.map_eq_some_iff.mp hd
    have hc' : z.cps[i]? = some c := by simpa using hc
    refine ⟨(Array.getElem?_eq_some_iff.mp hc').1, fun x H' ⟨e, c', h', hx⟩ => ?_⟩
    subst e hx
    rw [hc'] at h'
    cases h'
    exact ⟨F, .refl _ _ _, w, .str _⟩
  · show z.cps.size ≤ i
    rw [List.length_map, Array.length_toList] at hl
    omega
def numD (ds : List D) : List D := (List.range ds.length).zipWith (fun (k : Nat) d => D.tup [.int k, d]) ds
theorem numD_get {i : Nat} {d : D} (h : (numD ds)[i]? = some d) : ∃ d', ds[i]? = some d' ∧ d = .tup [.int (i : Nat), d'] := by
  unfold numD at h
  rw [List.getElem?_zipWith] at h
  cases e : ds[i]? with
  | none => rw [e] at h; cases h2 : (List.range ds.length)[i]? <;> rw [h2] at h <;> cases h
  | some d' =>
    have lt : i < ds.length := (List.getElem?_eq_some_iff.mp e).1
    rw [e, List.getElem?_range lt] at h
    cases h
    exact ⟨d', rfl, rfl⟩
theorem numD_length : (numD ds).length = ds.length := by
  unfold numD
  rw [List.length_zipWith, List.length_range, Nat.min_self]
theorem pair_new {F H : Hp} {T : List Addr} {st : Store} (w : WF K F T st H) {i : Nat} {v : V} {d : D} (r : Rep K F T v d) {p : Addr} (hp : H p = none) :
    ∃ F', Ext F T H F' T (upd H p (.tup [.int (i : Nat), v])) ∧ WF K F' T st (upd H p (.tup [.int (i : Nat), v])) ∧ Rep K F' T (.ref p) (.tup [.int (i : Nat), d]) :=
  ⟨_, Ext.new w hp, w.new hp, new_tup w (.cons (.int _) (.cons r .nil)) hp⟩
theorem SrcL.nums (h : SrcL K P a ds) : Gives K P (numD ds) (Ite K a) := fun F T st H p w i => by
  obtain ⟨xs, hq, r⟩ := h F T st H p w
  refine ⟨fun d hd => ?_, fun hl => ⟨xs, hq, by rw [r.length, ← hl, numD_length]; exact Nat.le_refl _⟩⟩
  obtain ⟨d', hd', rfl⟩ := numD_get hd
  obtain ⟨v, hv, rv⟩ := r.get hd'
  refine ⟨⟨xs, v, hq, hv⟩, fun x H' ⟨T', y, e1, e2, e3, hx⟩ => ?_⟩
  subst e1 e3
  have := hx xs hq
  rw [hv] at this
  cases this
  exact pair_new w rv e2
theorem SrcT.nums (h : SrcT K P a ds) : Gives K P (numD ds) (IteT K a) := fun F T st H p w i => by
  obtain ⟨xs, hq, r⟩ := h F T st H p w
  refine ⟨fun d hd => ?_, fun hl => ⟨xs, hq, by rw [r.length, ← hl, numD_length]⟩⟩
  obtain ⟨d', hd', rfl⟩ := numD_get hd
  obtain ⟨v, hv, rv⟩ := r.get hd'
  refine ⟨⟨xs, v, hq, hv⟩, fun x H' ⟨T', y, e1, e2, e3, hx⟩ => ?_⟩
  subst e1 e3
  have := hx xs hq
  rw [hv] at this
  cases this
  exact pair_new w rv e2
theorem nums_str (z : Str) : Gives K P (numD (z.cps.toList.map fun c => D.str ⟨#[c]⟩)) (IteS z) := fun F T st H p w i => by
  refine ⟨fun d hd => ?_, fun hl => ?_⟩
  · obtain ⟨d', hd', rfl⟩ := numD_get hd
    rw [List.getElem?_map] at hd'
    obtain ⟨c, hc, rfl⟩ := Option.map_eq_some_iff.mp hd'
    have hc' : z.cps[i]? = some c := by simpa using hc
    refine ⟨(Array.getElem?_eq_some_iff.mp hc').1, fun x H' ⟨T', c', e1, e2, e3, h'⟩ => ?_⟩
    subst e1 e3
    rw [hc'] at h'
    cases h'
    exact pair_new w (.str _) e2
  · rw [numD_length, List.length_map, Array.length_toList] at hl
    exact hl
theorem gives_rng (lo : Int) (n : Nat) : Gives K P ((List.range n).map fun (k : Nat) => D.int (lo + k)) (Itr lo n) := fun F T st H p w i => by
  refine ⟨fun d hd => ?_, fun hl => ?_⟩
  · rw [List.getElem?_map] at hd
    obtain ⟨k, hk, rfl⟩ := Option.map_eq_some_iff.mp hd
    obtain ⟨lt, e⟩ := List.getElem?_eq_some_iff.mp hk
    rw [List.getElem_range] at e
    subst e
    rw [List.length_range] at lt
    refine ⟨lt, fun x H' ⟨e, hx⟩ => ?_⟩
    subst e hx
    exact ⟨F, .refl _ _ _, w, .int _⟩
  · rw [List.length_map, List.length_range] at hl
    show n ≤ i
    omega
end
/-- frozen things -/
def PF (F0 : Hp) (T0 : List Addr) : Hp → List Addr → Hp → Prop := fun F T _ => Same F0 F ∧ Pre T0 T
def PX (F0 : Hp) (T0 : List Addr) (H0 : Hp) : Hp → List Addr → Hp → Prop := fun F T H => Ext F0 T0 H0 F T H
section
variable {K : PySem.W.Frag} {F H : Hp} {T : List Addr} {v : V} {ds : List D} {st : Store}
theorem srcL_rep (r : Rep K F T v (.lst ds)) : ∃ a, v = .ref a ∧ SrcL K (PF F T) a ds := by
  cases r with
  | lst q r => exact ⟨_, rfl, fun F' T' st H' ⟨sm, pr⟩ w => ⟨_, .inl (.inl (w.fr _ _ (sm _ _ q))), r.mono sm pr⟩⟩
theorem srcT_rep (r : Rep K F T v (.tup ds)) : ∃ a, v = .ref a ∧ SrcT K (PF F T) a ds := by
  cases r with
  | tup q r => exact ⟨_, rfl, fun F' T' st H' ⟨sm, pr⟩ w => ⟨_, sqT_mono w.fr (sqT_mono sm q), r.mono sm pr⟩⟩
theorem Gives.imp {P P' : Hp → List Addr → Hp → Prop} {J : L2.It} (h : Gives K P ds J) (i : ∀ F T H, P' F T H → P F T H) : Gives K P' ds J := fun F T st H p w => h F T st H (i _ _ _ p) w
theorem px_pf {F' H' : Hp} {T' : List Addr} (x : PX F T H F' T' H') : PF F T F' T' H' := ⟨x.fr, x.pre⟩
theorem srcL_bor (r : Bor K F T H v (.lst ds)) : ∃ a, v = .ref a ∧ SrcL K (PX F T H) a ds := by
  rcases r with r | ⟨a, e, ⟨xs, e2, r⟩, f, n⟩
  · obtain ⟨a, e, s⟩ := srcL_rep r
    exact ⟨a, e, fun F' T' st H' x w => s F' T' st H' (px_pf x) w⟩
  · exact ⟨a, e, fun F' T' st H' x w => ⟨xs, .inl (.inl (x.keep a _ e2 n)), r.mono x.fr x.pre⟩⟩
theorem srcT_bor (r : Bor K F T H v (.tup ds)) : ∃ a, v = .ref a ∧ SrcT K (PX F T H) a ds := by
  rcases r with r | ⟨a, e, r, f, n⟩
  · obtain ⟨a, e, s⟩ := srcT_rep r
    exact ⟨a, e, fun F' T' st H' x w => s F' T' st H' (px_pf x) w⟩
  · exact r.elim
end
end Eng
set_option Elab.async false
set_option linter.all false
set_option maxRecDepth 100000
/-! Eng 10: iterators as readings, targets, list comprehensions -/
namespace Eng
open PySem PySem.Spec PyProof.Rows L2

/-! ### iterators -/
/-- behind an iterator's making: what it gives, as long as nothing is changed -/
def rIt (K : PySem.W.Frag) : RR (List D) L2.It := fun _ F T H ds J => Gives K (PX F T H) ds J ∧ ds.length ≤ sizeLine
/-- the same of things that stay -/
def rItF (K : PySem.W.Frag) : RR (List D) L2.It := fun _ F T _ ds J => Gives K (PF F T) ds J ∧ ds.length ≤ sizeLine
theorem sh_It {K : PySem.W.Frag} : Sh (rIt K) := fun _ _ _ _ _ _ _ _ h => h
theorem sh_ItF {K : PySem.W.Frag} : Sh (rItF K) := fun _ _ _ _ _ _ _ _ h => h
abbrev tI (K : PySem.W.Frag) (W : WW) (C : Calls) (it : It) : TI := tX K W (rIt K) fun env => evIt C env it
abbrev tIF (K : PySem.W.Frag) (W : WW) (C : Calls) (it : It) : TI := tX K W (rItF K) fun env => evItV C env it
theorem impI {X : Cx} {tg e : Expr} {t t' : TI} (h : PI X tg e t) (i : ∀ σ H R, t' σ H R → t σ H R) : PI X tg e t' := ⟨fun pins s σ H R I q => h.run pins s σ H R I (i σ H R q)⟩
theorem items_str {z : Str} (c : z.length ≤ sizeLine) : itemsD (.str z) = some (z.cps.toList.map fun c => D.str ⟨#[c]⟩) := if_pos c
theorem items_str' {z : Str} (c : ¬ z.length ≤ sizeLine) : itemsD (.str z) = none := if_neg c
theorem len_str (z : Str) : (z.cps.toList.map fun c => D.str ⟨#[c]⟩).length = z.length := by rw [List.length_map, Array.length_toList]; rfl
section
variable {K : PySem.W.Frag} {W : WW} {σ : L2.St} {F H : Hp} {T : List Addr} {st : Store} {R : L2.It → Hp → Prop}
/-- what any sequence gives -/
theorem any_px (w : WF K F T st H) {v : V} {d : D} (b : Bor K F T H v d) (p : Post K W σ F T H (rIt K) (ofO (itemsD d) st) R) :
    (∃ a xs, v = .ref a ∧ SqL K H a xs ∧ (xs.length ≤ sizeLine → R (Itl K a) H)) ∨ (∃ a xs, v = .ref a ∧ SqT K H a xs ∧ (xs.length ≤ sizeLine → R (Itt K a) H)) ∨ ∃ z, v = .str z ∧ R (Its z) H := by
  cases d with
  | lst ds =>
    obtain ⟨a, rfl, s⟩ := srcL_bor b
    obtain ⟨xs, q, r⟩ := s _ _ _ _ (.refl _ _ _) w
    exact .inl ⟨a, xs, rfl, q, fun hz => p _ F T H (.refl _ _ _) w ⟨s.gives, by rw [← r.length]; exact hz⟩⟩
  | tup ds =>
    obtain ⟨a, rfl, s⟩ := srcT_bor b
    obtain ⟨xs, q, r⟩ := s _ _ _ _ (.refl _ _ _) w
    exact .inr (.inl ⟨a, xs, rfl, q, fun hz => p _ F T H (.refl _ _ _) w ⟨s.gives, by rw [← r.length]; exact hz⟩⟩)
  | str z =>
    have e := b.str
    subst e
    refine .inr (.inr ⟨z, rfl, ?_⟩)
    by_cases c : z.length ≤ sizeLine
    · rw [items_str c] at p
      exact p _ F T H (.refl _ _ _) w ⟨gives_str z, by rw [len_str]; exact c⟩
    · rw [items_str' c] at p
      exact p.elim
  | _ => exact p.elim
theorem any_pf (w : WF K F T st H) {v : V} {d : D} (b : Rep K F T v d) (p : Post K W σ F T H (rItF K) (ofO (itemsD d) st) R) :
    (∃ a xs, v = .ref a ∧ SqL K H a xs ∧ (xs.length ≤ sizeLine → R (Itl K a) H)) ∨ (∃ a xs, v = .ref a ∧ SqT K H a xs ∧ (xs.length ≤ sizeLine → R (Itt K a) H)) ∨ ∃ z, v = .str z ∧ R (Its z) H := by
  cases d with
  | lst ds =>
    obtain ⟨a, rfl, s⟩ := srcL_rep b
    obtain ⟨xs, q, r⟩ := s _ _ _ _ ⟨.refl _, .refl _⟩ w
    exact .inl ⟨a, xs, rfl, q, fun hz => p _ F T H (.refl _ _ _) w ⟨s.gives, by rw [← r.length]; exact hz⟩⟩
  | tup ds =>
    obtain ⟨a, rfl, s⟩ := srcT_rep b
    obtain ⟨xs, q, r⟩ := s _ _ _ _ ⟨.refl _, .refl _⟩ w
    exact .inr (.inl ⟨a, xs, rfl, q, fun hz => p _ F T H (.refl _ _ _) w ⟨s.gives, by rw [← r.length]; exact hz⟩⟩)
  | str z =>
    cases b
    refine .inr (.inr ⟨z, rfl, ?_⟩)
    by_cases c : z.length ≤ sizeLine
    · rw [items_str c] at p
      exact p _ F T H (.refl _ _ _) w ⟨gives_str z, by rw [len_str]; exact c⟩
    · rw [items_str' c] at p
      exact p.elim
  | _ => exact p.elim
theorem enum_items {d : D} : enumD d = (itemsD d).map numD := rfl
theorem enum_px (w : WF K F T st H) {v : V} {d : D} (b : Bor K F T H v d) (p : Post K W σ F T H (rIt K) (ofO (enumD d) st) R) :
    (∃ a xs, [v] = [.ref a] ∧ SqL K H a xs ∧ (xs.length ≤ sizeLine → R (Ite K a) H)) ∨ (∃ a xs, [v] = [.ref a] ∧ SqT K H a xs ∧ (xs.length ≤ sizeLine → R (IteT K a) H)) ∨ ∃ z, [v] = [.str z] ∧ R (IteS z) H := by
  rw [enum_items] at p
  cases d with
  | lst ds =>
    obtain ⟨a, rfl, s⟩ := srcL_bor b
    obtain ⟨xs, q, r⟩ := s _ _ _ _ (.refl _ _ _) w
    exact .inl ⟨a, xs, rfl, q, fun hz => p _ F T H (.refl _ _ _) w ⟨s.nums, by rw [numD_length, ← r.length]; exact hz⟩⟩
  | tup ds =>
    obtain ⟨a, rfl, s⟩ := srcT_bor b
    obtain ⟨xs, q, r⟩ := s _ _ _ _ (.refl _ _ _) w
    exact .inr (.inl ⟨a, xs, rfl, q, fun hz => p _ F T H (.refl _ _ _) w ⟨s.nums, by rw [numD_length, ← r.length]; exact hz⟩⟩)
  | str z =>
    have e := b.str
    subst e
    refine .inr (.inr ⟨z, rfl, ?_⟩)
    by_cases c : z.length ≤ sizeLine
    · rw [items_str c] at p
      exact p _ F T H (.refl _ _ _) w ⟨nums_str z, by rw [numD_length, len_str]; exact c⟩
    · rw [items_str' c] at p
      exact p.elim
  | _ => exact p.elim
theorem enum_pf (w : WF K F T st H) {v : V} {d : D} (b : Rep K F T v d) (p : Post K W σ F T H (rItF K) (ofO (enumD d) st) R) :
    (∃ a xs, [v] = [.ref a] ∧ SqL K H a xs ∧ (xs.length ≤ sizeLine → R (Ite K a) H)) ∨ (∃ a xs, [v] = [.ref a] ∧ SqT K H a xs ∧ (xs.length ≤ sizeLine → R (IteT K a) H)) ∨ ∃ z, [v] = [.str z] ∧ R (IteS z) H := by
  rw [enum_items] at p
  cases d with
  | lst ds =>
    obtain ⟨a, rfl, s⟩ := srcL_rep b
    obtain ⟨xs, q, r⟩ := s _ _ _ _ ⟨.refl _, .refl _⟩ w
    exact .inl ⟨a, xs, rfl, q, fun hz => p _ F T H (.refl _ _ _) w ⟨s.nums, by rw [numD_length, ← r.length]; exact hz⟩⟩
  | tup ds =>
    obtain ⟨a, rfl, s⟩ := srcT_rep b
    obtain ⟨xs, q, r⟩ := s _ _ _ _ ⟨.refl _, .refl _⟩ w
    exact .inr (.inl ⟨a, xs, rfl, q, fun hz => p _ F T H (.refl _ _ _) w ⟨s.nums, by rw [numD_length, ← r.length]; exact hz⟩⟩)
  | str z =>
    cases b
    refine .inr (.inr ⟨z, rfl, ?_⟩)
    by_cases c : z.length ≤ sizeLine
    · rw [items_str c] at p
      exact p _ F T H (.refl _ _ _) w ⟨nums_str z, by rw [numD_length, len_str]; exact c⟩
    · rw [items_str' c] at p
      exact p.elim
  | _ => exact p.elim
end
section
variable {X : Cx} {W : WW} {C : Calls} {tg : Expr}
theorem i_seq {a : Expr} {ea : E} (ha : PE X a (tB X.K W C ea)) : PI X tg a (tI X.K W C (.seq ea)) :=
  impI (pi_any ha) fun σ H R ⟨F, T, st, env, w, eo, p⟩ => by
    have p : Post X.K W σ F T H (rIt X.K) ((bor env ea (evE C env ea) st).bnd fun x st => ofO (itemsD x) st) R := p
    exact ⟨F, T, st, env, w, eo, (Post.bnd (R1 := rBo X.K) sh_It p).mono fun x H1 ⟨F1, T1, st1, dx, x1, w1, r1, p1⟩ => any_px w1 r1 p1⟩
theorem i_seqF {a : Expr} {ea : E} (ha : PE X a (tE X.K W C ea)) : PI X tg a (tIF X.K W C (.seq ea)) :=
  impI (pi_any ha) fun σ H R ⟨F, T, st, env, w, eo, p⟩ => by
    have p : Post X.K W σ F T H (rItF X.K) ((evE C env ea st).bnd fun x st => ofO (itemsD x) st) R := p
    exact ⟨F, T, st, env, w, eo, (Post.bnd (R1 := rV X.K) sh_ItF p).mono fun x H1 ⟨F1, T1, st1, dx, x1, w1, r1, p1⟩ => any_pf w1 r1 p1⟩
theorem i_enum {a : Expr} {ea : E} {p pos tpos : Pos} {elts : List Expr} {kk : Nat} (hg : Gl X "enumerate") (hm : X.mg "enumerate" = none) (ha : PE X a (tB X.K W C ea)) (ok : okA a = true) :
    PI X (.Tuple elts kk tpos) (.Call (.Name "enumerate" p) [a] [] pos) (tI X.K W C (.enum ea)) :=
  impI (pi_enumA hg hm (pa_cons ha pa_nil (okA_star ok)) (okA_star ok)) fun σ H R ⟨F, T, st, env, w, eo, p⟩ => by
    have p : Post X.K W σ F T H (rIt X.K) ((bor env ea (evE C env ea) st).bnd fun x st => ofO (enumD x) st) R := p
    exact ⟨F, T, st, env, w, eo, (Post.bnd (R1 := rBo X.K) sh_It p).mono fun x H1 ⟨F1, T1, st1, dx, x1, w1, r1, p1⟩ => enum_px w1 r1 p1⟩
theorem i_enumF {a : Expr} {ea : E} {p pos tpos : Pos} {elts : List Expr} {kk : Nat} (hg : Gl X "enumerate") (hm : X.mg "enumerate" = none) (ha : PE X a (tE X.K W C ea)) (ok : okA a = true) :
    PI X (.Tuple elts kk tpos) (.Call (.Name "enumerate" p) [a] [] pos) (tIF X.K W C (.enum ea)) :=
  impI (pi_enumA hg hm (pa_cons ha pa_nil (okA_star ok)) (okA_star ok)) fun σ H R ⟨F, T, st, env, w, eo, p⟩ => by
    have p : Post X.K W σ F T H (rItF X.K) ((evE C env ea st).bnd fun x st => ofO (enumD x) st) R := p
    exact ⟨F, T, st, env, w, eo, (Post.bnd (R1 := rV X.K) sh_ItF p).mono fun x H1 ⟨F1, T1, st1, dx, x1, w1, r1, p1⟩ => enum_pf w1 r1 p1⟩
theorem rng_cases {ds is : List D} (h : rngD ds = some is) : (∃ n : Int, ds = [.int n] ∧ -(2 ^ 62) ≤ n ∧ n < 2 ^ 62 ∧ is.length ≤ sizeLine ∧ is = (List.range n.toNat).map fun (k : Nat) => D.int (0 + k)) ∨
    ∃ a b : Int, ds = [.int a, .int b] ∧ (-(2 ^ 62) ≤ a ∧ a < 2 ^ 62 ∧ -(2 ^ 62) ≤ b ∧ b < 2 ^ 62) ∧ is.length ≤ sizeLine ∧ is = (List.range (b - a).toNat).map fun (k : Nat) => D.int (a + k) := by
  have sl := sizeLine_eq
  unfold rngD at h
  split at h
  · split at h <;> rename_i c
    · cases h
      refine .inl ⟨_, rfl, c.1, by omega, ?_, rfl⟩
      rw [List.length_map, List.length_range]
      omega
    · cases h
  · split at h <;> rename_i c
    · cases h
      refine .inr ⟨_, _, rfl, ⟨c.1, c.2.1, c.2.2.2⟩, ?_, rfl⟩
      rw [List.length_map, List.length_range]
      omega
    · cases h
  · cases h
theorem i_rng1 {a : Expr} {es : Es} {p pos : Pos} (hg : Gl X "range") (hm : X.mg "range" = none) (ha : PA X [a] (tEs X.K W C es)) (ok : okA a = true) (h1 : ∀ env st ds st', evEs C env es st = .ok ds st' → ds.length = 1) : PI X tg (.Call (.Name "range" p) [a] [] pos) (tX X.K W (rItF X.K) fun env st => (evEs C env es st).bnd fun ds st => ofO (rngD ds) st) :=
  impI (pi_range1 hg hm ha (okA_star ok)) fun σ H R ⟨F, T, st, env, w, eo, p⟩ => by
    refine ⟨F, T, st, env, w, eo, ?_⟩
    have p : Post X.K W σ F T H (rItF X.K) ((evEs C env es st).bnd fun ds st => ofO (rngD ds) st) R := p
    have l := h1 env st
    show Post X.K W σ F T H (rVs X.K) (evEs C env es st) _
    revert p l
    cases evEs C env es st with
    | bad => exact fun p _ => p
    | ex c ks ds st => exact fun p _ => p
    | ok ds st' =>
      intro p l vs F1 T1 H1 x1 w1 r1
      have l := l _ _ rfl
      rw [Out.bnd_ok] at p
      cases e : rngD ds with
      | none => rw [e] at p; exact p.elim
      | some is =>
        rw [e] at p
        rcases rng_cases e with ⟨n, e1, h1, h2, h3, e2⟩ | ⟨a, b, e1, _⟩
        · subst e1 e2
          cases r1 with
          | cons r rr =>
            cases rr
            cases r
            exact ⟨n, rfl, h1, h2, p _ F1 T1 H1 x1 w1 ⟨gives_rng 0 n.toNat, h3⟩⟩
        · rw [e1] at l
          exact absurd l (by simp)
theorem i_rng2 {a b : Expr} {es : Es} {p pos : Pos} (hg : Gl X "range") (hm : X.mg "range" = none) (ha : PA X [a, b] (tEs X.K W C es)) (ok : okA a = true) (ok2 : okA b = true) (h1 : ∀ env st ds st', evEs C env es st = .ok ds st' → ds.length = 2) :
    PI X tg (.Call (.Name "range" p) [a, b] [] pos) (tX X.K W (rItF X.K) fun env st => (evEs C env es st).bnd fun ds st => ofO (rngD ds) st) :=
  impI (pi_range2 hg hm ha (by rw [okA_star ok, okA_star ok2]; rfl) (okA_star ok2)) fun σ H R ⟨F, T, st, env, w, eo, p⟩ => by
    refine ⟨F, T, st, env, w, eo, ?_⟩
    have p : Post X.K W σ F T H (rItF X.K) ((evEs C env es st).bnd fun ds st => ofO (rngD ds) st) R := p
    have l := h1 env st
    show Post X.K W σ F T H (rVs X.K) (evEs C env es st) _
    revert p l
    cases evEs C env es st with
    | bad => exact fun p _ => p
    | ex c ks ds st => exact fun p _ => p
    | ok ds st' =>
      intro p l vs F1 T1 H1 x1 w1 r1
      have l := l _ _ rfl
      rw [Out.bnd_ok] at p
      cases e : rngD ds with
      | none => rw [e] at p; exact p.elim
      | some is =>
        rw [e] at p
        rcases rng_cases e with ⟨n, e1, _⟩ | ⟨a, b, e1, h1, h3, e2⟩
        · rw [e1] at l
          exact absurd l (by simp)
        · subst e1 e2
          cases r1 with
          | cons r rr =>
            cases rr with
            | cons r' rr =>
              cases rr
              cases r
              cases r'
              exact ⟨a, b, rfl, h1, p _ F1 T1 H1 x1 w1 ⟨gives_rng a _, h3⟩⟩
/-- what stays is also what stays while nothing is changed -/
theorem i_ofF {e : Expr} {m : Env → Store → Out (List D)} (h : PI X tg e (tX X.K W (rItF X.K) m)) : PI X tg e (tX X.K W (rIt X.K) m) :=
  impI h fun σ H R ⟨F, T, st, env, w, eo, p⟩ => by
    refine ⟨F, T, st, env, w, eo, ?_⟩
    have p : Post X.K W σ F T H (rIt X.K) (m env st) R := p
    show Post X.K W σ F T H (rItF X.K) (m env st) R
    revert p
    cases m env st with
    | bad => exact id
    | ex c ks ds st => exact id
    | ok ds st' => exact fun p J F1 T1 H1 x1 w1 ⟨g, l⟩ => p J F1 T1 H1 x1 w1 ⟨g.imp fun _ _ _ x => px_pf x, l⟩
end
def Es.len : Es → Nat
  | .nil => 0
  | .cons _ es => es.len + 1
theorem evEs_len {C : Calls} {env : Env} : ∀ (es : Es) {st : Store} {ds : List D} {st' : Store}, evEs C env es st = .ok ds st' → ds.length = es.len
  | .nil, st, ds, st', h => by
    have h : Out.ok [] st = Out.ok ds st' := h
    cases h
    rfl
  | .cons e es, st, ds, st', h => by
    have h : ((evE C env e st).bnd fun d st => (evEs C env es st).bnd fun ds st => .ok (d :: ds) st) = .ok ds st' := h
    cases q : evE C env e st with
    | bad => rw [q] at h; cases h
    | ex c ks ds st => rw [q] at h; cases h
    | ok d st1 =>
      rw [q, Out.bnd_ok] at h
      cases q2 : evEs C env es st1 with
      | bad => rw [q2] at h; cases h
      | ex c ks ds st => rw [q2] at h; cases h
      | ok ds2 st2 =>
        rw [q2, Out.bnd_ok] at h
        cases h
        rw [List.length_cons, evEs_len es q2]
        rfl
end Eng
set_option Elab.async false
set_option linter.all false
set_option maxRecDepth 100000
/-! Eng 11: targets, list comprehensions, calls of the module's own defs -/
namespace Eng
open PySem PySem.Spec PyProof.Rows L2

/-! ### targets -/
mutual
def gT (K : PySem.W.Frag) : Tg → TG
  | .v i => gName i
  | .t ts => gTup K (lenT ts) (gTs K ts)
def gTs (K : PySem.W.Frag) : Tgs → TGs
  | .nil => gNil
  | .cons t ts => gCons (gT K t) (gTs K ts)
def lenT : Tgs → Nat
  | .nil => 0
  | .cons _ ts => lenT ts + 1
end
mutual
def ixT : Tg → List Nat
  | .v i => [i]
  | .t ts => ixTs ts
def ixTs : Tgs → List Nat
  | .nil => []
  | .cons t ts => ixT t ++ ixTs ts
end
/-- alike but at is -/
def Agr (is : List Nat) (σ σ' : L2.St) : Prop := σ'.length = σ.length ∧ ∀ j, j ∉ is → σ'[j]? = σ[j]?
theorem Agr.refl (is : List Nat) (σ : L2.St) : Agr is σ σ := ⟨rfl, fun _ _ => rfl⟩
theorem Agr.trans {is : List Nat} {a b c : L2.St} (h : Agr is a b) (k : Agr is b c) : Agr is a c := ⟨k.1.trans h.1, fun j hj => (k.2 j hj).trans (h.2 j hj)⟩
theorem Agr.mono {is js : List Nat} {a b : L2.St} (h : Agr is a b) (k : ∀ i ∈ is, i ∈ js) : Agr js a b := ⟨h.1, fun j hj => h.2 j fun z => hj (k j z)⟩
theorem Agr.set (i : Nat) (o : Option V) (σ : L2.St) : Agr [i] σ (σ.set i o) := ⟨List.length_set, fun j hj => List.getElem?_set_ne (fun e => hj (by simp [e]))⟩
theorem Agr.wipe {is vs : List Nat} {σ σ' : L2.St} (h : Agr is σ σ') (k : ∀ i ∈ is, i ∈ vs) : L2.wipe σ' vs = L2.wipe σ vs := by
  apply List.ext_getElem?
  intro j
  have key : ∀ (vs : List Nat) (τ : L2.St), (L2.wipe τ vs)[j]? = if j ∈ vs ∧ j < τ.length then some none else τ[j]? := by
    intro vs
    induction vs with
    | nil => intro τ; simp [L2.wipe]
    | cons v vs ih =>
      intro τ
      unfold L2.wipe
      rw [List.getElem?_set, L2.wipe_length, ih τ]
      by_cases e : v = j
      · subst e
        by_cases l : v < τ.length
        · simp [l]
        · simp [l]
      · have e' : j ≠ v := fun z => e z.symm
        simp [e, e']
  rw [key, key, h.1]
  by_cases m : j ∈ vs ∧ j < σ.length
  · rw [if_pos m, if_pos m]
  · rw [if_neg m, if_neg m]
    by_cases hj : j ∈ is
    · have : ¬ j < σ.length := fun l => m ⟨k j hj, l⟩
      rw [List.getElem?_eq_none (by rw [h.1]; omega), List.getElem?_eq_none (by omega)]
    · exact h.2 j hj
theorem agr_wipe (σ : L2.St) : ∀ vs : List Nat, Agr vs σ (L2.wipe σ vs)
  | [] => .refl _ _
  | v :: vs => by
    unfold L2.wipe
    exact ((agr_wipe σ vs).mono fun i hi => List.mem_cons_of_mem _ hi).trans ((Agr.set v none _).mono fun i hi => by rw [List.mem_singleton.mp hi]; exact List.mem_cons_self)
section
variable {K : PySem.W.Frag} {xi : XB} {F H : Hp} {T : List Addr} {st : Store}
theorem EnvOk.set {env : Env} {σ : L2.St} (eo : EnvOk K xi F T H env σ) (i : Nat) {d : D} {v : V} (r : Rep K F T v d) : EnvOk K xi F T H (env.set i (.val d)) (σ.set i (some v)) := by
  refine ⟨fun j s hs => ?_, by rw [List.length_set, List.length_set]; exact eo.len, fun a b d1 d2 p ne h1 h2 h3 h4 => ?_⟩
  · rw [List.getElem?_set] at hs
    split at hs <;> rename_i c
    · subst c
      split at hs <;> rename_i l
      · cases hs
        rw [List.getElem?_set_self (Nat.lt_of_lt_of_le l eo.len)]
        exact ⟨v, rfl, r⟩
      · cases hs
    · rw [List.getElem?_set_ne c]
      exact eo.at_ j s hs
  · have ha : a ≠ i := by
      rintro rfl
      rw [List.getElem?_set] at h1
      simp only [if_true] at h1
      split at h1 <;> cases h1
    have hb : b ≠ i := by
      rintro rfl
      rw [List.getElem?_set] at h2
      simp only [if_true] at h2
      split at h2 <;> cases h2
    rw [List.getElem?_set_ne (fun z => ha z.symm)] at h1 h3
    rw [List.getElem?_set_ne (fun z => hb z.symm)] at h2 h4
    exact eo.apart a b d1 d2 p ne h1 h2 h3 h4
/-- forgotten slots -/
theorem EnvOk.wipe {env : Env} {σ : L2.St} (eo : EnvOk K xi F T H env σ) : ∀ vs : List Nat, EnvOk K xi F T H (wipeE env vs) (L2.wipe σ vs)
  | [] => eo
  | i :: vs => by
    have h := eo.wipe vs
    refine ⟨fun j s hs => ?_, ?_, fun a b d1 d2 p ne h1 h2 h3 h4 => ?_⟩
    · unfold wipeE at hs
      unfold L2.wipe
      rw [List.getElem?_set] at hs
      split at hs <;> rename_i c
      · split at hs
        · cases hs; trivial
        · cases hs
      · rw [List.getElem?_set_ne c]
        exact h.at_ j s hs
    · unfold wipeE L2.wipe
      rw [List.length_set, List.length_set]
      exact h.len
    · unfold wipeE at h1 h2
      unfold L2.wipe at h3 h4
      have ha : a ≠ i := by
        rintro rfl
        rw [List.getElem?_set] at h1
        simp only [if_true] at h1
        split at h1 <;> cases h1
      have hb : b ≠ i := by
        rintro rfl
        rw [List.getElem?_set] at h2
        simp only [if_true] at h2
        split at h2 <;> cases h2
      rw [List.getElem?_set_ne (fun z => ha z.symm)] at h1 h3
      rw [List.getElem?_set_ne (fun z => hb z.symm)] at h2 h4
      exact h.apart a b d1 d2 p ne h1 h2 h3 h4
theorem binds_len : ∀ {ts : Tgs} {ds : List D} {env env' : Env}, binds ts ds env = some env' → ds.length = lenT ts
  | .nil, [], _, _, _ => rfl
  | .nil, _ :: _, _, _, h => by cases h
  | .cons _ _, [], _, _, h => by cases h
  | .cons t ts, d :: ds, env, env', h => by
    obtain ⟨e1, _, h2⟩ := Option.bind_eq_some_iff.mp h
    rw [List.length_cons, binds_len h2]
    rfl
mutual
theorem bind_ok (w : WF K F T st H) : ∀ {t : Tg} {d : D} {x : V} {env env' : Env} {σ : L2.St} {k : L2.St → Hp → Prop}, Rep K F T x d → EnvOk K xi F T H env σ → bind1 t d env = some env' → (∀ σ', EnvOk K xi F T H env' σ' → Agr (ixT t) σ σ' → k σ' H) → gT K t x σ H k
  | .v i, d, x, env, env', σ, k, r, eo, e, h => by
    have e : some (env.set i (.val d)) = some env' := e
    cases e
    exact h _ (eo.set i r) (Agr.set i _ σ)
  | .t ts, .tup ds, x, env, env', σ, k, r, eo, e, h => by
    have e : binds ts ds env = some env' := e
    cases r with
    | @tup a xs _ q r => exact ⟨a, xs, rfl, sqT_mono w.fr q, by rw [r.length, binds_len e], binds_ok w r eo e h⟩
  | .t _, .non, _, _, _, _, _, _, _, e, _ => by cases e
  | .t _, .bl _, _, _, _, _, _, _, _, e, _ => by cases e
  | .t _, .int _, _, _, _, _, _, _, _, e, _ => by cases e
  | .t _, .str _, _, _, _, _, _, _, _, e, _ => by cases e
  | .t _, .lst _, _, _, _, _, _, _, _, e, _ => by cases e
  | .t _, .dic _ _, _, _, _, _, _, _, _, e, _ => by cases e
  | .t _, .ins _ _ _, _, _, _, _, _, _, _, e, _ => by cases e
  | .t _, .obj _, _, _, _, _, _, _, _, e, _ => by cases e
  | .t _, .fn _, _, _, _, _, _, _, _, e, _ => by cases e
  | .t _, .scr _, _, _, _, _, _, _, _, e, _ => by cases e
theorem binds_ok (w : WF K F T st H) : ∀ {ts : Tgs} {ds : List D} {xs : List V} {env env' : Env} {σ : L2.St} {k : L2.St → Hp → Prop}, Reps K F T xs ds → EnvOk K xi F T H env σ → binds ts ds env = some env' → (∀ σ', EnvOk K xi F T H env' σ' → Agr (ixTs ts) σ σ' → k σ' H) → gTs K ts xs σ H k
  | .nil, [], _, env, env', σ, k, r, eo, e, h => by
    have e : some env = some env' := e
    cases e
    cases r
    exact ⟨rfl, h _ eo (.refl _ _)⟩
  | .nil, _ :: _, _, _, _, _, _, _, _, e, _ => by cases e
  | .cons _ _, [], _, _, _, _, _, _, _, e, _ => by cases e
  | .cons t ts, d :: ds, _, env, env', σ, k, r, eo, e, h => by
    obtain ⟨e1, h1, h2⟩ := Option.bind_eq_some_iff.mp (show ((bind1 t d env).bind fun env' => binds ts ds env') = some env' from e)
    cases r with
    | cons r rs =>
      refine ⟨_, _, rfl, bind_ok w r eo h1 fun σ1 eo1 a1 => binds_ok w rs eo1 h2 fun σ2 eo2 a2 => h σ2 eo2 ?_⟩
      exact (a1.mono fun i hi => List.mem_append_left _ hi).trans (a2.mono fun i hi => List.mem_append_right _ hi)
end
end

/-! ### the heap with one thing of ours changed -/
section
variable {K : PySem.W.Frag} {F H F0 H0 : Hp} {T T0 : List Addr} {st : Store} {p : Addr} {o : HO}
theorem wf_upd (w : WF K F T st H) (hF : F p = none) (hT : p ∉ T) : WF K F T st (upd H p o) := by
  refine ⟨fun b u e => ?_, w.len, w.nd, w.nf, fun n d e => ?_⟩
  · rw [upd_ne (ne_of_none e hF)]
    exact w.fr b u e
  · obtain ⟨a, h1, h2⟩ := w.at_ n d e
    refine ⟨a, h1, h2.mono (.refl _) (.refl _) fun o' e' => ?_⟩
    rw [upd_ne (fun z : a = p => hT (z ▸ List.mem_iff_getElem?.mpr ⟨n, h1⟩))]
    exact e'
theorem ext_upd (x : Ext F0 T0 H0 F T H) (h0 : H0 p = none) : Ext F0 T0 H0 F T (upd H p o) := by
  refine ⟨x.fr, x.pre, x.newF, x.newT, fun b u e n => ?_, fun b u e => ?_⟩
  · rw [upd_ne (ne_of_none e h0)]
    exact x.keep b u e n
  · obtain ⟨u', e'⟩ := x.there b u e
    exact ⟨u', by rw [upd_ne (ne_of_none e h0)]; exact e'⟩
end

/-! ### list comprehensions -/
/-- nothing may be raised -/
def noW (W : WW) : WW := ⟨fun _ _ _ _ => False, W.x, W.B, false⟩
theorem Out.nox_bnd {α β : Type} {o : Out α} {f : α → Store → Out β} : (o.bnd f).nox = o.nox.bnd fun a st => (f a st).nox := by cases o <;> rfl
theorem Out.bnd_assoc {α β γ : Type} {o : Out α} {f : α → Store → Out β} {g : β → Store → Out γ} : (o.bnd f).bnd g = o.bnd fun a st => (f a st).bnd g := by cases o <;> rfl
section
variable {α β γ δ : Type} {K : PySem.W.Frag} {W : WW} {σ σ2 : L2.St} {F0 H0 F H : Hp} {T0 T : List Addr} {R : RR α β} {R1 : RR γ δ} {Q : β → Hp → Prop}
/-- the next step of an evaluation in which nothing may be raised; what is to come keeps its base -/
theorem Post.nox {o : Out γ} {f : γ → Store → Out α} (h : Post K W σ F0 T0 H0 R (o.nox.bnd f) Q) :
    Post K (noW W) σ2 F T H R1 o fun b H1 => ∃ F1 T1 st1 a, Ext F T H F1 T1 H1 ∧ WF K F1 T1 st1 H1 ∧ R1 H F1 T1 H1 a b ∧ Post K W σ F0 T0 H0 R (f a st1) Q := by
  cases o with
  | bad => exact h
  | ok a st => exact fun b F' T' H' y w r => ⟨F', T', st, a, y, w, r, h⟩
  | ex c ks ds st => exact h.elim
end
section
variable {X : Cx} {W : WW} {C : Calls}
/-- no test, or one -/
abbrev tIf (K : PySem.W.Frag) (W : WW) (C : Calls) (o : Op) : TT := tX K W rEq fun env => evIf C env o
theorem if_none : PTs X [] (tIf X.K W C .no) := ⟨fun pins s σ H Q I ⟨F, T, st, env, w, eo, p⟩ => pts_nil.run pins s σ H Q I (p true F T H (.refl _ _ _) w rfl)⟩
theorem if_one {c : Expr} {e : E} (h : PT X c (tT X.K W C e)) : PTs X [c] (tIf X.K W C (.so e)) := pts_one h
theorem lc_rd {elt : E} {tg : Tg} {it : It} {ifs : Op} {ws : List Nat} (hw : ∀ i ∈ ixT tg, i ∈ ws) {σ : L2.St} {H : Hp} {Q : VK} (h : tDr X.K W C (.lc elt tg it ifs ws) σ H Q) :
    tLc (tI X.K W C it) (gT X.K tg) (tIf X.K (noW W) C ifs) (tE X.K (noW W) C elt) ws σ H Q := by
  obtain ⟨F, T, st, env, w, eo, p⟩ := h
  have p : Post X.K W σ F T H (rD X.K) ((evIt C env it st).bnd fun ds st => (lcGo (fun d st => (ofO (bind1 tg d (wipeE env ws)) st).bnd fun env' st => (evIf C env' ifs st).bnd fun r st => (match r with
      | true => (evE C env' elt st).bnd fun y st => .ok (some y) st
      | false => .ok none st)) ds st).bnd fun ys st => .ok (.lst ys) st) Q := p
  refine ⟨F, T, st, env, w, eo, (Post.bnd (R1 := rIt X.K) sh_D p).mono fun J H1 ⟨F1, T1, st1, ds, x1, w1, ⟨gv, hlen⟩, p1⟩ => ?_⟩
  generalize hs : (fun d st => (ofO (bind1 tg d (wipeE env ws)) st).bnd fun env' st => (evIf C env' ifs st).bnd fun r st => (match r with
      | true => (evE C env' elt st).bnd fun y st => .ok (some y) st
      | false => .ok none st)) = step at p1
  have eo1 := eo.ext x1
  intro L hD
  obtain ⟨fD, tD⟩ := w1.free hD
  refine ⟨fun i m H2 => m = ds.length - i ∧ i ≤ ds.length ∧ ∃ F2 T2 st2 acc accD, Ext F1 T1 H1 F2 T2 H2 ∧ WF X.K F2 T2 st2 H2 ∧ H2 L = some (.lst acc) ∧ F2 L = none ∧ L ∉ T2 ∧ Reps X.K F2 T2 acc accD ∧ acc.length ≤ i ∧
      Post X.K W σ F1 T1 H1 (rD X.K) ((lcGo step (ds.drop i) st2).bnd fun ys st => .ok (.lst (accD ++ ys)) st) Q, ⟨ds.length, rfl, Nat.zero_le _, F1, T1, st1, [], [], Ext.newO hD, w1.newO hD, upd_same, fD, tD, .nil, Nat.le_refl _, ?_⟩, ?_⟩
  · exact p1
  · rintro i m H2 ⟨em, le, F2, T2, st2, acc, accD, x2, w2, h2, f2, t2, r2, l2, p2⟩
    have g := gv F2 T2 st2 H2 x2 w2 i
    by_cases e : i = ds.length
    · subst e
      rw [List.drop_length] at p2
      have p2 : Post X.K W σ F1 T1 H1 (rD X.K) (.ok (.lst (accD ++ [])) st2) Q := p2
      rw [List.append_nil] at p2
      exact .inl ⟨g.2 rfl, p2 _ F2 T2 H2 x2 w2 (rD_c rfl ⟨L, rfl, ⟨acc, h2, r2⟩, f2, t2, hD⟩)⟩
    · have lt : i < ds.length := by omega
      obtain ⟨d, hd⟩ : ∃ d, ds[i]? = some d := ⟨_, List.getElem?_eq_getElem lt⟩
      obtain ⟨go, yl⟩ := g.1 d hd
      have ed : ds.drop i = d :: ds.drop (i + 1) := by
        have := List.getElem?_eq_some_iff.mp hd
        obtain ⟨l, e⟩ := this
        rw [← e]
        exact List.drop_eq_getElem_cons l
      rw [ed] at p2
      have p2 : Post X.K W σ F1 T1 H1 (rD X.K) ((((step d st2).nox).bnd fun r st1 => (lcGo step (ds.drop (i + 1)) st1).bnd fun acc st2 => .ok (match r with | some y => y :: acc | none => acc) st2).bnd fun ys st => .ok (.lst (accD ++ ys)) st) Q := p2
      rw [Out.bnd_assoc, ← hs] at p2
      rw [hs] at p2
      refine .inr ⟨go, fun H' => ∃ m', m' < m ∧ (m' = ds.length - (i + 1) ∧ i + 1 ≤ ds.length ∧ ∃ F2 T2 st2 acc accD, Ext F1 T1 H1 F2 T2 H' ∧ WF X.K F2 T2 st2 H' ∧ H' L = some (.lst acc) ∧ F2 L = none ∧ L ∉ T2 ∧ Reps X.K F2 T2 acc accD ∧ acc.length ≤ i + 1 ∧
          Post X.K W σ F1 T1 H1 (rD X.K) ((lcGo step (ds.drop (i + 1)) st2).bnd fun ys st => .ok (.lst (accD ++ ys)) st) Q), fun H' h => h, fun x H3 hy => ?_⟩
      obtain ⟨F3, x3, w3, r3⟩ := yl x H3 hy
      have x13 := x2.trans x3
      have eo3 := (eo1.ext x13).wipe ws
      have p3 : Post X.K W σ F1 T1 H1 (rD X.K) (((ofO (bind1 tg d (wipeE env ws)) st2).nox.bnd fun env' st => ((evIf C env' ifs st).nox.bnd fun r st => ((match r with
          | true => (evE C env' elt st).bnd fun y st => .ok (some y) st
          | false => .ok none st) : Out (Option D)).nox)).bnd fun r st1 => ((lcGo step (ds.drop (i + 1)) st1).bnd fun acc st2 => .ok (match r with | some y => y :: acc | none => acc) st2).bnd fun ys st => .ok (.lst (accD ++ ys)) st) Q := by
        have e1 : (step d st2).nox = ((ofO (bind1 tg d (wipeE env ws)) st2).nox.bnd fun env' st => ((evIf C env' ifs st).nox.bnd fun r st => ((match r with
          | true => (evE C env' elt st).bnd fun y st => .ok (some y) st
          | false => .ok none st) : Out (Option D)).nox)) := by
          rw [← hs]
          show Out.nox (Out.bnd _ _) = _
          rw [Out.nox_bnd]
          congr 1
          funext env' st
          rw [Out.nox_bnd]
        rw [← e1]
        exact p2
      cases eb : bind1 tg d (wipeE env ws) with
      | none => rw [eb] at p3; exact p3.elim
      | some env' =>
        rw [eb] at p3
        have p3 : Post X.K W σ F1 T1 H1 (rD X.K) (((evIf C env' ifs st2).nox.bnd fun r st => ((match r with
          | true => (evE C env' elt st).bnd fun y st => .ok (some y) st
          | false => .ok none st) : Out (Option D)).nox).bnd fun r st1 => ((lcGo step (ds.drop (i + 1)) st1).bnd fun acc st2 => .ok (match r with | some y => y :: acc | none => acc) st2).bnd fun ys st => .ok (.lst (accD ++ ys)) st) Q := p3
        rw [Out.bnd_assoc] at p3
        refine bind_ok w3 r3 eo3 eb fun σ2 eo4 ag => ⟨(ag.wipe hw).trans ((agr_wipe σ ws).wipe fun _ h => h), ?_⟩
        refine ⟨F3, T2, st2, env', w3, eo4, (Post.nox (R1 := rEq) p3).mono fun b H4 ⟨F4, T4, st4, b', x4, w4, rb, p4⟩ => ?_⟩
        have rb : b' = b := rb
        subst rb
        have d4 : H4 L = some (.lst acc) := x4.keep L _ (x3.keep L _ h2 t2) (by exact t2)
        have o4 := (x3.trans x4).own (d := .lst accD) ⟨acc, h2, r2⟩ f2 t2
        cases b' with
        | false =>
          simp only [Bool.false_eq_true, if_false]
          refine ⟨ds.length - (i + 1), by omega, rfl, by omega, F4, T4, st4, acc, accD, x13.trans x4, w4, d4, o4.2.1, o4.2.2, r2.mono (x3.trans x4).fr (x3.trans x4).pre, by omega, ?_⟩
          have p4 : Post X.K W σ F1 T1 H1 (rD X.K) (((lcGo step (ds.drop (i + 1)) st4).bnd fun acc st2 => .ok acc st2).bnd fun ys st => .ok (.lst (accD ++ ys)) st) Q := p4
          rw [Out.bnd_assoc] at p4
          exact p4
        | true =>
          simp only [if_true]
          have p4 : Post X.K W σ F1 T1 H1 (rD X.K) (((evE C env' elt st4).bnd fun y st => .ok (some y) st).nox.bnd fun r st1 => ((lcGo step (ds.drop (i + 1)) st1).bnd fun acc st2 => .ok (match r with | some y => y :: acc | none => acc) st2).bnd fun ys st => .ok (.lst (accD ++ ys)) st) Q := p4
          rw [Out.nox_bnd, Out.bnd_assoc] at p4
          refine ⟨F4, T4, st4, env', w4, eo4.ext x4, (Post.nox (R1 := rV X.K) p4).mono fun y H5 ⟨F5, T5, st5, dy, x5, w5, ry, p5⟩ => ?_⟩
          have ry : Rep X.K F5 T5 y dy := ry
          have o5 := ((x3.trans x4).trans x5).own (d := .lst accD) ⟨acc, h2, r2⟩ f2 t2
          have d5 : H5 L = some (.lst acc) := x5.keep L _ d4 o4.2.2
          refine ⟨acc, d5, by omega, ds.length - (i + 1), by omega, rfl, by omega, F5, T5, st5, acc ++ [y], accD ++ [dy], ext_upd ((x13.trans x4).trans x5) hD, wf_upd w5 o5.2.1 o5.2.2, upd_same, o5.2.1, o5.2.2, (r2.mono ((x3.trans x4).trans x5).fr ((x3.trans x4).trans x5).pre).append (.one ry), by rw [List.length_append]; exact Nat.succ_le_succ l2, ?_⟩
          have p5 : Post X.K W σ F1 T1 H1 (rD X.K) (((lcGo step (ds.drop (i + 1)) st5).bnd fun acc st2 => .ok (dy :: acc) st2).bnd fun ys st => .ok (.lst (accD ++ ys)) st) Q := p5
          rw [Out.bnd_assoc] at p5
          have e5 : (fun (ys : List D) (st : Store) => (Out.ok (.lst ((accD ++ [dy]) ++ ys)) st : Out D)) = fun ys st => (Out.ok (dy :: ys) st).bnd fun ys st => .ok (.lst (accD ++ ys)) st := by
            funext ys st
            show Out.ok (D.lst ((accD ++ [dy]) ++ ys)) st = Out.ok (.lst (accD ++ (dy :: ys))) st
            rw [List.append_assoc]
            rfl
          rw [e5]
          exact p5
end
end Eng
set_option Elab.async false
set_option linter.all false
set_option maxRecDepth 100000
/-! Eng 12: calls, isinstance, attributes, methods, instances -/
namespace Eng
open PySem PySem.Spec PyProof.Rows L2

/-! ### the module's constants -/
section
variable {X : Cx} {W : WW} {C : Calls}
theorem s_gl {x : Str} {d : D} {v : V} {u : Value} {pos : Pos} (hg : Gl X x) (hm : X.mg x = some u) (r : RelV v u) (h : vOf d = some v) (hd : (x == ("__debug__" : Str)) = false) : PE X (.Name x pos) (tE X.K W C (.gl x d)) :=
  s_const (pe_glob hg hm r hd) h fun _ _ => rfl
theorem s_glI {x : Str} {i : Int} {pos : Pos} (hg : Gl X x) (hm : ∃ t, X.mg x = some (.int i t)) (hd : (x == ("__debug__" : Str)) = false) : PE X (.Name x pos) (tE X.K W C (.gl x (.int i))) := by
  obtain ⟨t, hm⟩ := hm
  exact s_gl (v := .int i) hg hm ⟨t, rfl⟩ rfl hd
theorem s_glS {x : Str} {z : Str} {pos : Pos} (hg : Gl X x) (hm : ∃ t, X.mg x = some (.str z t)) (hd : (x == ("__debug__" : Str)) = false) : PE X (.Name x pos) (tE X.K W C (.gl x (.str z))) := by
  obtain ⟨t, hm⟩ := hm
  exact s_gl (v := .str z) hg hm ⟨t, rfl⟩ rfl hd
/-- a def of the module as a value -/
theorem s_fnV {x : Str} {pos : Pos} (hg : Gl X x) (hm : X.mg x = some (.ref (He.ga X.K x))) (hd : (x == ("__debug__" : Str)) = false) : PE X (.Name x pos) (tE X.K W C (.fn x)) :=
  impE (pe_glob (v := .ref (He.ga X.K x)) hg hm rfl hd) fun σ H Q ⟨F, T, st, env, w, eo, p⟩ => p _ F T H (.refl _ _ _) w .fn

/-! ### isinstance -/
def tyNames : List String := ["NoneType", "bool", "int", "str", "tuple", "list", "dict"]
def tyAsk : List String := ["bool", "int", "str", "tuple", "list", "dict"]
theorem kit_tab : (tyNames.all fun a => tyAsk.all fun t => decide (kitB a t = some (tyIs a t))) = true := by decide +kernel
theorem kit_of_tab {K : PySem.W.Frag} {a t : String} (ha : a ∈ tyNames) (ht : t ∈ tyAsk) : PySem.W.kitOne K (.type a) (.type t) = some (tyIs a t) :=
  kit_ty (of_decide_eq_true (List.all_eq_true.mp (List.all_eq_true.mp kit_tab a ha) t ht))
theorem kitAny_tab {K : PySem.W.Frag} {a : String} (ha : a ∈ tyNames) : ∀ {ts : List String}, (∀ t ∈ ts, t ∈ tyAsk) → PySem.W.kitAny K (.type a) (ts.map .type) = some (ts.any (tyIs a))
  | [], _ => rfl
  | t :: ts, h => by
    refine kitAny_cons (kit_of_tab ha (h t List.mem_cons_self)) (fun e => ?_) fun e => ?_
    · rw [kitAny_tab ha fun t ht => h t (List.mem_cons_of_mem _ ht), List.any_cons, e]
      rfl
    · rw [List.any_cons, e]
      rfl
theorem tyx_bor {K : PySem.W.Frag} {F H : Hp} {T : List Addr} {st : Store} (w : WF K F T st H) {d : D} {v : V} {n : String} (h : tyN d = some n) (b : Bor K F T H v d) : n ∈ tyNames ∧ TyX K H v (.type n) := by
  cases d with
  | non => cases h; rw [b.non]; exact ⟨by decide, .base .non⟩
  | bl k => cases h; rw [b.bl]; exact ⟨by decide, .base (.bl _)⟩
  | int k => cases h; rw [b.int]; exact ⟨by decide, .base (.int _)⟩
  | str k => cases h; rw [b.str]; exact ⟨by decide, .base (.str _)⟩
  | tup ds =>
    cases h
    obtain ⟨a, xs, rfl, q, _⟩ := b.tup w
    rcases q with (q | ⟨o, q⟩) | ⟨o, its, n, hk, hc, _⟩
    · exact ⟨by decide, .base (.tup q)⟩
    · exact ⟨by decide, .fTuple q⟩
    · exact ⟨by decide, .kTuple hk hc⟩
  | lst ds =>
    cases h
    obtain ⟨a, xs, rfl, q, _⟩ := b.lst w
    exact ⟨by decide, .base (.lst q)⟩
  | dic ks ds =>
    cases h
    obtain ⟨a, xs, rfl, q, _⟩ := b.dic w
    exact ⟨by decide, .base (.dK q)⟩
  | _ => cases h
theorem isTys_of {ts : List String} {d : D} {r : Bool} (h : isTys ts d = some r) : ∃ n, tyN d = some n ∧ r = ts.any (tyIs n) := by
  obtain ⟨n, e, rfl⟩ := Option.map_eq_some_iff.mp h
  exact ⟨n, e, rfl⟩
theorem isi_post {K : PySem.W.Frag} {σ : L2.St} {F H : Hp} {T : List Addr} {st : Store} {o : Option Bool} {Q : VK} (p : Post K W σ F T H (rV K) (ofO (o.map .bl) st) Q) :
    ∃ b, o = some b ∧ ∀ F' T' H', Ext F T H F' T' H' → WF K F' T' st H' → Q (.bl b) H' := by
  cases o with
  | none => exact p.elim
  | some b => exact ⟨b, rfl, fun F' T' H' x w => p _ F' T' H' x w (.bl b)⟩
theorem boot_isi : bootBuiltins "isinstance" = some (.builtin "isinstance") := by decide +kernel
theorem s_isi {a b : Expr} {ea : E} {t : String} {p pos : Pos} (hg : Gl X "isinstance") (hm : X.mg "isinstance" = none) (ha : PE X a (tB X.K W C ea)) (ok : okA a = true) (hb : PE X b (tC (.ty t))) (ok2 : okA b = true) (ht : t ∈ tyAsk) :
    PE X (.Call (.Name "isinstance" p) [a, b] [] pos) (tE X.K W C (.isi ea [t])) :=
  impE (pe_callB call_isi hg hm boot_isi (pa_cons ha (pa_cons hb pa_nil (okA_star ok2)) (okA_star ok)) (by decide) (by decide) (okA_star ok) (by rw [okA_star ok2]; rfl)) fun σ H Q ⟨F, T, st, env, w, eo, p⟩ => by
    have p : Post X.K W σ F T H (rV X.K) ((bor env ea (evE C env ea) st).bnd fun x st => ofO ((isTys [t] x).map .bl) st) Q := p
    refine ⟨F, T, st, env, w, eo, (Post.bnd (R1 := rBo X.K) sh_V p).mono fun x H1 ⟨F1, T1, st1, d, x1, w1, r1, p1⟩ => ?_⟩
    obtain ⟨b, e, q⟩ := isi_post p1
    obtain ⟨n, en, er⟩ := isTys_of e
    obtain ⟨hn, ty⟩ := tyx_bor w1 en r1
    refine ⟨x, .ty t, .type n, .type t, b, rfl, .ty t, ty, ?_, q F1 T1 H1 (.refl _ _ _) w1⟩
    rw [er, kit_of_tab hn ht]
    simp
/-- names of types -/
inductive TyNs (X : Cx) : List Expr → List String → Prop
  | nil : TyNs X [] []
  | cons {e : Expr} {es : List Expr} {t : String} {ts : List String} : PE X e (tC (.ty t)) → okA e = true → TyNs X es ts → TyNs X (e :: es) (t :: ts)
theorem TyNs.pa : ∀ {es : List Expr} {ts : List String}, TyNs X es ts → PA X es (fun _ H Q => Q (ts.map .ty) H)
  | _, _, .nil => pa_nil
  | _, _, .cons h ok r => pa_cons h r.pa (okA_star ok)
theorem cls_tys : ∀ ts : List String, Paired ClsV (ts.map .ty) (ts.map .type)
  | [] => .nil
  | t :: ts => .cons (.ty t) (cls_tys ts)
theorem s_isiT {a : Expr} {es : List Expr} {k : Nat} {tpos : Pos} {ea : E} {ts : List String} {p pos : Pos} (hg : Gl X "isinstance") (hm : X.mg "isinstance" = none) (ha : PE X a (tB X.K W C ea)) (ok : okA a = true) (hb : TyNs X es ts) (ht : ∀ t ∈ ts, t ∈ tyAsk) (hl : ts.length ≤ sizeLine) :
    PE X (.Call (.Name "isinstance" p) [a, .Tuple es k tpos] [] pos) (tE X.K W C (.isi ea ts)) :=
  impE (pe_callB call_isiT hg hm boot_isi (pa_cons ha (pa_cons (pe_tup hb.pa) pa_nil rfl) (okA_star ok)) (by decide) (by decide) (okA_star ok) rfl) fun σ H Q ⟨F, T, st, env, w, eo, p⟩ => by
    have p : Post X.K W σ F T H (rV X.K) ((bor env ea (evE C env ea) st).bnd fun x st => ofO ((isTys ts x).map .bl) st) Q := p
    refine ⟨F, T, st, env, w, eo, (Post.bnd (R1 := rBo X.K) sh_V p).mono fun x H1 ⟨F1, T1, st1, d, x1, w1, r1, p1⟩ => ?_⟩
    obtain ⟨b, e, q⟩ := isi_post p1
    obtain ⟨n, en, er⟩ := isTys_of e
    refine ⟨by rw [List.length_map]; exact hl, fun L hL => ?_⟩
    have x2 : Ext F1 T1 H1 F1 T1 (L2.upd H1 L (.tup (ts.map .ty))) := Ext.newO hL
    have w2 : WF X.K F1 T1 st1 (L2.upd H1 L (.tup (ts.map .ty))) := w1.newO hL
    obtain ⟨hn, ty⟩ := tyx_bor w2 en (r1.ext x2)
    refine ⟨x, L, ts.map .ty, .type n, ts.map .type, b, rfl, upd_same, cls_tys ts, ty, ?_, q F1 T1 _ x2 w2⟩
    rw [er, kitAny_tab hn ht]

/-! ### own instances -/
/-- what isinstance asks of the class at C -/
structure IsC (K : PySem.W.Frag) (C : Addr) : Prop where
  cl : Cls K C
  ha : PySem.W.findIn K (.ref C) "__class__" = some (some (.builtin "object.__class__"))
  hn : PySem.W.specialIn K (.builtin "object.__class__") "__get__" = some (some (.builtin "getset_descriptor.__get__"))
  ht : PySem.W.takesIn K (.builtin "object.__class__") = some true
  hm : PySem.W.mroIn K C (.type "object") = some true
def isCB (K : PySem.W.Frag) (C : Addr) : Bool := decide (PySem.W.findIn K (.ref C) "__class__" = some (some (.builtin "object.__class__"))) && (decide (PySem.W.specialIn K (.builtin "object.__class__") "__get__" = some (some (.builtin "getset_descriptor.__get__"))) && (decide (PySem.W.takesIn K (.builtin "object.__class__") = some true) && decide (PySem.W.mroIn K C (.type "object") = some true)))
theorem isCB_ok {K : PySem.W.Frag} {C : Addr} (c : Cls K C) (h : isCB K C = true) : IsC K C := by
  obtain ⟨h1, h⟩ := He.ba h
  obtain ⟨h2, h⟩ := He.ba h
  obtain ⟨h3, h4⟩ := He.ba h
  exact ⟨c, of_decide_eq_true h1, of_decide_eq_true h2, of_decide_eq_true h3, of_decide_eq_true h4⟩
theorem lookup_fld {K : PySem.W.Frag} {F : Hp} {T : List Addr} {f : Str} : ∀ {fs : List (Str × V)} {ds : List D} {d : D}, Reps K F T (fs.map (·.2)) ds → fldD f (fs.map (·.1)) ds = some d → ∃ v, fs.lookup f = some v ∧ Rep K F T v d
  | [], _, _, r, h => by cases r; cases h
  | (k, v) :: fs, _, d, r, h => by
    cases r with
    | @cons _ _ e es r rs =>
      have h : (if k = f then some e else fldD f (fs.map (·.1)) es) = some d := h
      split at h <;> rename_i c
      · cases h
        subst c
        exact ⟨v, by simp [List.lookup], r⟩
      · obtain ⟨v', e1, r'⟩ := lookup_fld rs h
        refine ⟨v', ?_, r'⟩
        have : (f == k) = false := by
          rw [beq_eq_false_iff_ne]
          exact fun z => c z.symm
        show (match f == k with | true => some v | false => fs.lookup f) = some v'
        rw [this]
        exact e1
theorem lookup_no {f : Str} : ∀ {fs : List (Str × V)}, (fs.map (·.1)).contains f = false → fs.lookup f = none
  | [], _ => rfl
  | (k, v) :: fs, h => by
    have h : (f == k || (fs.map (·.1)).contains f) = false := h
    obtain ⟨h1, h2⟩ := Bool.or_eq_false_iff.mp h
    show (match f == k with | true => some v | false => fs.lookup f) = none
    rw [h1]
    exact lookup_no h2
/-- where an instance stands -/
theorem ins_at {K : PySem.W.Frag} {F H : Hp} {T : List Addr} {st : Store} (w : WF K F T st H) {v : V} {d : D} {c : Str} {ks : List Str} {ds : List D} (b : Bor K F T H v d) (e : deref st d = some (.ins c ks ds)) :
    ∃ a dx fs, v = .ref a ∧ H a = some (.ins (He.ga K c) dx fs) ∧ fs.map (·.1) = ks ∧ Reps K F T (fs.map (·.2)) ds := by
  rcases bor_deref w b e with (b | ⟨a, e, ⟨dx, fs, h1, h2, h3⟩, _⟩) | ⟨a, e, dx, fs, h1, h2, h3⟩
  · cases b with
    | ins q e r => exact ⟨_, _, _, rfl, w.fr _ _ q, e, r⟩
  · exact ⟨a, dx, fs, e, h1, h2, h3⟩
  · exact ⟨a, dx, fs, e, h1, h2, h3⟩
theorem s_attr {o : Expr} {eo : E} {c f : Str} {pos : Pos} (hc : Cls X.K (He.ga X.K c)) (hn : NoAttr X.K (He.ga X.K c) f) (ho : PE X o (tB X.K W C eo)) (ok : okB o = true) : PE X (.Attribute o f pos) (tE X.K W C (.attr eo c f)) :=
  impE (pe_fld ho (okB_base ok)) fun σ H Q ⟨F, T, st, env, w, eo', p⟩ => by
    have p : Post X.K W σ F T H (rV X.K) ((bor env eo (evE C env eo) st).bnd fun x st => ofO ((deref st x).bind (attrD c f)) st) Q := p
    refine ⟨F, T, st, env, w, eo', (Post.bnd (R1 := rBo X.K) sh_V p).mono fun x H1 ⟨F1, T1, st1, d, x1, w1, r1, p1⟩ => ?_⟩
    cases e : deref st1 d with
    | none => rw [e] at p1; exact p1.elim
    | some d' =>
      rw [e] at p1
      cases d' with
      | ins c' ks ds =>
        have p2 : Post X.K W σ F1 T1 H1 (rV X.K) (ofO (if c' = c then fldD f ks ds else none) st1) Q := p1
        by_cases hcc : c' = c
        · subst hcc
          rw [if_pos rfl] at p2
          cases q : fldD f ks ds with
          | none => rw [q] at p2; exact p2.elim
          | some y =>
            rw [q] at p2
            obtain ⟨a, dx, fs, ev, ha, hk, rs⟩ := ins_at w1 r1 e
            subst hk
            obtain ⟨v, l, rv⟩ := lookup_fld rs q
            exact ⟨a, _, dx, fs, v, ev, ha, hc, hn, l, p2 v F1 T1 H1 (.refl _ _ _) w1 rv⟩
        · rw [if_neg hcc] at p2
          exact p2.elim
      | _ => exact p1.elim

end

/-! ### calls of the module's own defs -/
/-- what a def promises, by the evaluator -/
def spN (K : PySem.W.Frag) (C : Calls) (n : Nat) : Sp := fun vs H Q E => ∃ F T st ds, WF K F T st H ∧ Reps K F T vs ds ∧ Post K ⟨fun c d _ H => E c d H, none, {}, false⟩ [] F T H (rV K) (C n ds st) Q
/-- what an __init__ promises: the new instance at x -/
def spI (K : PySem.W.Frag) (C : Calls) (n : Nat) (c : Str) : Sp := fun vs H Q E => ∃ F T st ds H1 x dx ws, vs = .ref x :: ws ∧ H1 x = none ∧ H1 dx = none ∧ dx ≠ x ∧ H = L2.upd (L2.upd H1 dx (.own x)) x (.ins (He.ga K c) dx []) ∧
  WF K F T st H1 ∧ Reps K F T ws ds ∧ Post (β := Unit) K ⟨fun c d _ H => E c d H, none, {}, false⟩ [] F T H1 (fun _ F' T' _ d _ => Rep K F' T' (.ref x) d) (C n ds st) fun _ H' => Q .non H'
structure DefOk (P : Program) (w : World) (K : PySem.W.Frag) (mg : Str → Option Value) (base : Heap) (k : Nat) (C : Calls) (f : Str) (n : Nat) : Prop where
  fn : ∃ fd ps, FnOk P w K mg base (L2.CX P w) k (He.ga K f) fd ps (spN K C n) ∧ Binds K fd ps []
  mg : mg f = some (.ref (He.ga K f))
  kp : PySem.W.keepIn K (.ref (He.ga K f)) = true
/-- the method m of the class c -/
structure MethOk (P : Program) (w : World) (K : PySem.W.Frag) (mg : Str → Option Value) (base : Heap) (k : Nat) (C : Calls) (c m : Str) (n : Nat) : Prop where
  fn : ∃ fd ps, FnOk P w K mg base (L2.CX P w) k (He.ma K (He.ga K c) m) fd ps (spN K C n) ∧ Binds K fd ps []
  cl : Cls K (He.ga K c)
  me : Meth K (He.ga K c) m (He.ma K (He.ga K c) m)
/-- the class c, made -/
structure MakeOk (P : Program) (w : World) (K : PySem.W.Frag) (mg : Str → Option Value) (base : Heap) (k : Nat) (C : Calls) (c : Str) (n : Nat) : Prop where
  fn : ∃ fd ps, FnOk P w K mg base (L2.CX P w) k (He.ma K (He.ga K c) "__init__") fd ps (spI K C n c) ∧ Binds K fd ps []
  mg : mg c = some (.ref (He.ga K c))
  mkr : Mk K (He.ga K c) (He.ma K (He.ga K c) "__init__")
section
variable {X : Cx} {W : WW} {C : Calls}
theorem post_call {K : PySem.W.Frag} {α β : Type} {R : RR α β} {σ : L2.St} {F H : Hp} {T : List Addr} {o : Out α} {Q : β → Hp → Prop} (p : Post K W σ F T H R o Q) : Post K ⟨fun c d _ H => WE W σ c d H, none, {}, false⟩ [] F T H R o Q := by
  cases o with
  | ok a st => exact p
  | ex c ks ds st => exact p
  | bad => exact p
theorem s_call {k n : Nat} {f : Str} {a : Expr} {as : List Expr} {es : Es} {p pos : Pos} (h : DefOk X.prog X.w X.K X.mg X.base k C f n) (hr : Room k X.A) (hg : Gl X f) (tk : Takes X W) (ha : PA X (a :: as) (tEs X.K W C es)) (ok : okA a = true) (oks : okAs as = true) (hd : (f == ("__debug__" : Str)) = false) :
    PE X (.Call (.Name f p) (a :: as) [] pos) (tE X.K W C (.call n es)) := by
  obtain ⟨fd, ps, F, b⟩ := h.fn
  refine impE (pe_callSD (E := fun σ => WE W σ) F hr hg h.mg h.kp b .nil (passAt tk) ha hd (okA_star ok) (okAs_plain oks)) fun σ H Q ⟨F, T, st, env, w, eo, p⟩ => ?_
  have p : Post X.K W σ F T H (rV X.K) ((evEs C env es st).bnd fun ds st => C n ds st) Q := p
  refine ⟨F, T, st, env, w, eo, (Post.bnd (R1 := rVs X.K) sh_V p).mono fun vs H1 ⟨F1, T1, st1, ds, x1, w1, r1, p1⟩ => ?_⟩
  exact ⟨F1, T1, st1, ds, w1, by rw [List.append_nil]; exact r1, post_call p1⟩
theorem s_call0 {k n : Nat} {f : Str} {p pos : Pos} (h : DefOk X.prog X.w X.K X.mg X.base k C f n) (hr : Room k X.A) (hg : Gl X f) (tk : Takes X W) (hd : (f == ("__debug__" : Str)) = false) :
    PE X (.Call (.Name f p) [] [] pos) (tE X.K W C (.call n .nil)) := by
  obtain ⟨fd, ps, F, b⟩ := h.fn
  refine ⟨fun pins s σ H Q I ⟨F0, T, st, env, w, eo, q⟩ => wpAny_Call_Name_kw (ld_glob I hg h.mg ?_ hd)⟩
  exact PySem.W.callWith_K0 I.kIn h.kp (run_fnSD (E := fun σ => WE W σ) (us := []) (vs := []) F hr b .nil (passAt tk σ) I .nil ⟨F0, T, st, [], w, .nil, post_call q⟩)
end
end Eng
set_option Elab.async false
set_option linter.all false
set_option maxRecDepth 100000
/-! Eng 13: statements -/
namespace Eng
open PySem PySem.Spec PyProof.Rows L2

/-- where a statement's flow is wished -/
def PostF (K : PySem.W.Frag) (xi : XB) (F : Hp) (T : List Addr) (H : Hp) (σ : L2.St) (D : Ends) : Fl → Prop
  | .nx e => EnvOk K xi F T H e σ → D.nx σ H
  | .bk e => EnvOk K xi F T H e σ → D.bk σ H
  | .ct e => EnvOk K xi F T H e σ → D.ct σ H
  | .rt d => ∀ v, Rep K F T v d → D.rt v H
/-- behind a statement: from the ghost (F, T) on; env is what a clause may look at -/
def PostS (K : PySem.W.Frag) (W : WW) (F : Hp) (T : List Addr) (env : Env) (o : Out Fl) (D : Ends) : Prop := match o with
  | .ok f st' => ∀ F' T' H' σ', Same F F' → Pre T T' → Ext W.B.F W.B.T W.B.H F' T' H' → WF K F' T' st' H' → PostF K W.xi F' T' H' σ' D f
  | .ex c ks ds st' => ∀ dx F' T' H' σ', Same F F' → Pre T T' → Ext W.B.F W.B.T W.B.H F' T' H' → WF K F' T' st' H' → XRep K F' T' H' ks ds dx → (W.sv = true → EnvOk K W.xi F' T' H' env σ') → W (.ref (He.ga K c)) dx σ' H'
  | .bad => False
/-- a statement's reading, by the evaluator -/
def tS (K : PySem.W.Frag) (W : WW) (m : Env → Store → Out Fl) : TS := fun D σ H => ∃ F T st env, Ext W.B.F W.B.T W.B.H F T H ∧ WF K F T st H ∧ EnvOk K W.xi F T H env σ ∧ PostS K W F T env (m env st) D
section
variable {α β : Type} {K : PySem.W.Frag} {W : WW} {F F1 H : Hp} {T T1 : List Addr} {st : Store} {env : Env} {σ : L2.St} {D : Ends}
theorem PostS.shift {o : Out Fl} (p : PostS K W F T env o D) (hF : Same F F1) (hT : Pre T T1) : PostS K W F1 T1 env o D := by
  cases o with
  | bad => exact p
  | ok f st => exact fun F' T' H' σ' a b => p F' T' H' σ' (hF.trans a) (hT.trans b)
  | ex c ks ds st => exact fun dx F' T' H' σ' a b => p dx F' T' H' σ' (hF.trans a) (hT.trans b)
/-- the first step of a statement is an evaluation -/
theorem PostS.step {R1 : RR α β} {o : Out α} {f : α → Store → Out Fl} (x : Ext W.B.F W.B.T W.B.H F T H) (eo : W.sv = true → EnvOk K W.xi F T H env σ) (p : PostS K W F T env (o.bnd f) D) :
    Post K W σ F T H R1 o fun b H1 => ∃ F1 T1 st1 a, Ext F T H F1 T1 H1 ∧ WF K F1 T1 st1 H1 ∧ R1 H F1 T1 H1 a b ∧ PostS K W F1 T1 env (f a st1) D := by
  cases o with
  | bad => exact p
  | ok a st => exact fun b F' T' H' y w r => ⟨F', T', st, a, y, w, r, p.shift y.fr y.pre⟩
  | ex c ks ds st => exact fun dx F' T' H' y w r => p dx F' T' H' σ y.fr y.pre (x.trans y) w r fun h => (eo h).ext y
/-- the first step of a statement is a statement -/
theorem PostS.bnd {o : Out Fl} {f : Fl → Store → Out Fl} {D' : Ends} (p : PostS K W F T env (o.bnd f) D)
    (h : ∀ F' T' H' σ' g st', Same F F' → Pre T T' → Ext W.B.F W.B.T W.B.H F' T' H' → WF K F' T' st' H' → o = .ok g st' → PostS K W F' T' env (f g st') D → PostF K W.xi F' T' H' σ' D' g) : PostS K W F T env o D' := by
  cases o with
  | bad => exact p
  | ok g st => exact fun F' T' H' σ' a b x w => h F' T' H' σ' g st a b x w rfl (p.shift a b)
  | ex c ks ds st => exact p
end

/-! ### things of the frame's own become frozen -/
theorem freeze_get {env : Env} {j : Nat} {s : Sl} : ∀ {fz : List Nat}, (freeze env fz)[j]? = some s → ∃ s0, env[j]? = some s0 ∧ (s = s0 ∨ s = freeze1 s0)
  | [], h => ⟨s, h, .inl rfl⟩
  | i :: fz, h => by
    unfold freeze at h
    rw [List.getElem?_modify] at h
    cases e : (freeze env fz)[j]? with
    | none => rw [e] at h; cases h
    | some s1 =>
      obtain ⟨s0, h0, h1⟩ := freeze_get e
      rw [e] at h
      have h : some (if i = j then freeze1 s1 else s1) = some s := h
      refine ⟨s0, h0, ?_⟩
      by_cases c : i = j
      · rw [if_pos c] at h
        cases h
        rcases h1 with h1 | h1
        · exact .inr (by rw [h1])
        · refine .inr ?_
          rw [h1]
          cases s0 <;> rfl
      · rw [if_neg c] at h
        cases h
        exact h1
section
variable {K : PySem.W.Frag} {xi : XB} {F H : Hp} {T : List Addr} {st : Store} {env : Env} {σ : L2.St} {F0 : Hp} {T0 : List Addr}
theorem freeze_one (i : Nat) (x : Ext F0 T0 xi.H0 F T H) (w : WF K F T st H) (eo : EnvOk K xi F T H env σ) : ∃ F1, Same F F1 ∧ Ext F0 T0 xi.H0 F1 T H ∧ WF K F1 T st H ∧ EnvOk K xi F1 T H (env.modify i freeze1) σ := by
  have same : (∀ d, env[i]? ≠ some (.own d)) → env.modify i freeze1 = env := fun h => by
    apply List.ext_getElem?
    intro j
    rw [List.getElem?_modify]
    cases e : env[j]? with
    | none => rfl
    | some s =>
      show some (if i = j then freeze1 s else s) = some s
      by_cases c : i = j
      · subst c
        rw [if_pos rfl]
        cases s with
        | own d => exact absurd e (h d)
        | _ => rfl
      · rw [if_neg c]
  by_cases hi : ∃ d, env[i]? = some (.own d)
  · obtain ⟨d, hd⟩ := hi
    obtain ⟨a, e1, r, f, n, z⟩ := eo.at_ i _ hd
    obtain ⟨o, ho⟩ := r.there
    have sm : Same F (L2.upd F a o) := fun b u e => by rw [upd_ne (ne_of_none e f)]; exact e
    refine ⟨L2.upd F a o, sm, Ext.freeze ho f n x z.h0, w.freeze ho f n, ⟨fun j s hs => ?_, by rw [List.length_modify]; exact eo.len, fun j l d1 d2 p ne h1 h2 h3 h4 => ?_⟩⟩
    · rw [List.getElem?_modify] at hs
      cases e : env[j]? with
      | none => rw [e] at hs; cases hs
      | some s0 =>
        rw [e] at hs
        have hs : some (if i = j then freeze1 s0 else s0) = some s := hs
        by_cases c : i = j
        · subst c
          rw [if_pos rfl] at hs
          rw [hd] at e
          cases e
          cases hs
          exact ⟨.ref a, e1, r.rep sm fun o' e' => by rw [upd_same, ← e', ho]⟩
        · rw [if_neg c] at hs
          cases hs
          have q := eo.at_ j s e
          cases s with
          | no => trivial
          | val d' => obtain ⟨v, h1, h2⟩ := q; exact ⟨v, h1, h2.mono sm (.refl _)⟩
          | own d' =>
            obtain ⟨b, h1, h2, h3, h4, h5⟩ := q
            have nb : b ≠ a := fun z => eo.apart i j d d' a c hd e e1 (by rw [← z]; exact h1)
            exact ⟨b, h1, h2.mono sm (.refl _) fun _ h => h, by rw [upd_ne nb]; exact h3, h4, h5⟩
          | xc c' ks ds =>
            obtain ⟨y, h1, h2, h3, h4⟩ := q
            refine ⟨y, h1, h2, h3, ?_⟩
            rcases h4 with h4 | ⟨b, fs, g1, g2, g3, g4, g5⟩
            · exact .inl h4
            · exact .inr ⟨b, fs, g1, g2, g3, g4, g5.mono sm (.refl _)⟩
    · have own_of : ∀ {j : Nat} {d1 : D}, (env.modify i freeze1)[j]? = some (.own d1) → env[j]? = some (.own d1) := fun {j d1} h => by
        rw [List.getElem?_modify] at h
        cases e : env[j]? with
        | none => rw [e] at h; cases h
        | some s0 =>
          rw [e] at h
          have h : some (if i = j then freeze1 s0 else s0) = some (Sl.own d1) := h
          by_cases c : i = j
          · rw [if_pos c] at h
            cases s0 <;> cases h
          · rw [if_neg c] at h
            exact h
      exact eo.apart j l d1 d2 p ne (own_of h1) (own_of h2) h3 h4
  · rw [same fun d h => hi ⟨d, h⟩]
    exact ⟨F, .refl _, x, w, eo⟩
theorem freeze_ok (x : Ext F0 T0 xi.H0 F T H) (w : WF K F T st H) (eo : EnvOk K xi F T H env σ) : ∀ fz : List Nat, ∃ F1, Same F F1 ∧ Ext F0 T0 xi.H0 F1 T H ∧ WF K F1 T st H ∧ EnvOk K xi F1 T H (freeze env fz) σ
  | [] => ⟨F, .refl _, x, w, eo⟩
  | i :: fz => by
    obtain ⟨F1, a1, x1, w1, e1⟩ := freeze_ok x w eo fz
    obtain ⟨F2, a2, x2, w2, e2⟩ := freeze_one i x1 w1 e1
    exact ⟨F2, a1.trans a2, x2, w2, e2⟩
end

/-! ### sequences -/
section
variable {X : Cx} {W : WW} {C : Calls}
abbrev tSt (K : PySem.W.Frag) (W : WW) (C : Calls) (s : S) : TS := tS K W (evS C s)
abbrev tSs (K : PySem.W.Frag) (W : WW) (C : Calls) (ss : Ss) : TS := tS K W (evSs C ss)
theorem ss_nil : PSs X [] (tSs X.K W C .nil) := impSs pss_nil fun D σ H ⟨F, T, st, env, x, w, eo, p⟩ => p F T H σ (.refl _) (.refl _) x w eo
theorem ss_rd {s : S} {ss : Ss} (hsv : W.sv = false ∨ ∀ env st env' st', evS C s env st = .ok (.nx env') st' → env' = env) {D : Ends} {σ : L2.St} {H : Hp} (h : tSs X.K W C (.cons s ss) D σ H) : tSeq (tSt X.K W C s) (tSs X.K W C ss) D σ H := by
  obtain ⟨F, T, st, env, x, w, eo, p⟩ := h
  have p : PostS X.K W F T env ((evS C s env st).bnd fun f st => (match f with
    | .nx env' => evSs C ss env' st
    | .rt d => .ok (.rt d) st
    | .bk env => .ok (.bk env) st
    | .ct env => .ok (.ct env) st)) D := p
  refine ⟨F, T, st, env, x, w, eo, p.bnd fun F' T' H' σ' g st' a b x' w' e p' => ?_⟩
  cases g with
  | nx env' =>
    intro eo'
    refine ⟨F', T', st', env', x', w', eo', ?_⟩
    have p' : PostS X.K W F' T' env (evSs C ss env' st') D := p'
    rcases hsv with hsv | hsv
    · revert p'
      cases evSs C ss env' st' with
      | bad => exact id
      | ok f st => exact id
      | ex c ks ds st => exact fun p' dx F' T' H' σ' a b x w r _ => p' dx F' T' H' σ' a b x w r fun h => by rw [hsv] at h; cases h
    · rw [hsv _ _ _ _ e]
      rw [hsv _ _ _ _ e] at p'
      exact p'
  | rt d => exact p' F' T' H' σ' (.refl _) (.refl _) x' w'
  | bk env' => exact p' F' T' H' σ' (.refl _) (.refl _) x' w'
  | ct env' => exact p' F' T' H' σ' (.refl _) (.refl _) x' w'
theorem ss_cons {a : Stmt} {as : List Stmt} {s : S} {ss : Ss} (hsv : W.sv = false ∨ ∀ env st env' st', evS C s env st = .ok (.nx env') st' → env' = env) (h : PS X a (tSt X.K W C s)) (hs : PSs X as (tSs X.K W C ss)) : PSs X (a :: as) (tSs X.K W C (.cons s ss)) :=
  impSs (pss_cons h hs) fun D σ H h => ss_rd hsv h

/-! ### the simple ones -/
theorem ss_pass {pos : Pos} : PS X (.Pass pos) (tSt X.K W C .pass) := impS ps_pass fun D σ H ⟨F, T, st, env, x, w, eo, p⟩ => p F T H σ (.refl _) (.refl _) x w eo
theorem ss_brk {pos : Pos} : PS X (.Break pos) (tSt X.K W C .brk) := impS ps_break fun D σ H ⟨F, T, st, env, x, w, eo, p⟩ => p F T H σ (.refl _) (.refl _) x w eo
theorem ss_cont {pos : Pos} : PS X (.Continue pos) (tSt X.K W C .cont) := impS ps_continue fun D σ H ⟨F, T, st, env, x, w, eo, p⟩ => p F T H σ (.refl _) (.refl _) x w eo
theorem ss_doc {x : Str} {j : Nat} {pos pos' : Pos} : PS X (.Expr (.Constant (.str x) j pos) pos') (tSt X.K W C .pass) := impS ps_doc fun D σ H ⟨F, T, st, env, x, w, eo, p⟩ => p F T H σ (.refl _) (.refl _) x w eo
/-- the ghost, after things have been frozen ahead of a statement -/
theorem fz_go {fz : List Nat} (hz : W.sv = false ∨ fz = []) {F H : Hp} {T : List Addr} {st : Store} {env : Env} {σ : L2.St} {o : Out Fl} {D : Ends} (x : Ext W.B.F W.B.T W.B.H F T H) (w : WF X.K F T st H) (eo : EnvOk X.K W.xi F T H env σ)
    (p : PostS X.K W F T env o D) : ∃ F1, Ext W.B.F W.B.T W.B.H F1 T H ∧ WF X.K F1 T st H ∧ EnvOk X.K W.xi F1 T H (freeze env fz) σ ∧ (W.sv = true → EnvOk X.K W.xi F1 T H env σ) ∧ PostS X.K W F1 T env o D := by
  obtain ⟨F1, a, x1, w1, e1⟩ := freeze_ok x w eo fz
  refine ⟨F1, x1, w1, e1, fun h => ?_, p.shift a (.refl _)⟩
  rcases hz with hz | hz
  · rw [hz] at h; cases h
  · subst hz
    exact e1
theorem ss_ret {e : Expr} {ir : E} {fz : List Nat} {pos : Pos} (hz : W.sv = false ∨ fz = []) (he : PE X e (tE X.K W C ir)) : PS X (.Return (some e) pos) (tSt X.K W C (.ret fz ir)) :=
  impS (ps_ret he) fun D σ H ⟨F, T, st, env, x, w, eo, p⟩ => by
    have p : PostS X.K W F T env ((evE C (freeze env fz) ir st).bnd fun d st => .ok (.rt d) st) D := p
    obtain ⟨F1, x1, w1, eo1, es1, p1⟩ := fz_go hz x w eo p
    refine ⟨F1, T, st, _, w1, eo1, (p1.step (R1 := rV X.K) x1 es1).mono fun v H2 ⟨F2, T2, st2, d, x2, w2, r2, p2⟩ => ?_⟩
    exact p2 F2 T2 H2 σ (.refl _) (.refl _) (x1.trans x2) w2 v r2
theorem ss_retN {pos : Pos} : PS X (.Return none pos) (tSt X.K W C (.ret [] (.c .non))) :=
  impS ps_retN fun D σ H ⟨F, T, st, env, x, w, eo, p⟩ => p F T H σ (.refl _) (.refl _) x w .non .non
theorem ss_ex {e : Expr} {ir : E} {pos : Pos} (he : PE X e (tE X.K W C ir)) (hs : swapsWith e none pos.line X.env = pure false) : PS X (.Expr e pos) (tSt X.K W C (.ex ir)) :=
  impS (ps_expr he hs) fun D σ H ⟨F, T, st, env, x, w, eo, p⟩ => by
    have p : PostS X.K W F T env ((evE C env ir st).bnd fun _ st => .ok (.nx env) st) D := p
    refine ⟨F, T, st, env, w, eo, (p.step (R1 := rV X.K) x fun _ => eo).mono fun v H2 ⟨F2, T2, st2, d, x2, w2, r2, p2⟩ => ?_⟩
    exact p2 F2 T2 H2 σ (.refl _) (.refl _) (x.trans x2) w2 (eo.ext x2)
theorem ss_if {c : Expr} {a b : List Stmt} {ic : E} {ia ib : Ss} {pos : Pos} (hc : PT X c (tT X.K W C ic)) (ha : PSs X a (tSs X.K W C ia)) (hb : PSs X b (tSs X.K W C ib)) : PS X (.If c a b pos) (tSt X.K W C (.ifs ic ia ib)) :=
  impS (ps_if hc ha hb) fun D σ H ⟨F, T, st, env, x, w, eo, p⟩ => by
    have p : PostS X.K W F T env ((evT C env ic st).bnd fun r st => (match r with | true => evSs C ia env st | false => evSs C ib env st)) D := p
    refine ⟨F, T, st, env, w, eo, (p.step (R1 := rEq) x fun _ => eo).mono fun r H2 ⟨F2, T2, st2, d, x2, w2, r2, p2⟩ => ?_⟩
    have r2 : d = r := r2
    subst r2
    cases d with
    | true => simp only [if_true]; exact ⟨F2, T2, st2, env, x.trans x2, w2, eo.ext x2, p2⟩
    | false => simp only [Bool.false_eq_true, if_false]; exact ⟨F2, T2, st2, env, x.trans x2, w2, eo.ext x2, p2⟩
theorem asg_rd {fz : List Nat} {tg : Tg} {ir : E} (hz : W.sv = false ∨ fz = []) {D : Ends} {σ : L2.St} {H : Hp} (h : tSt X.K W C (.asg fz tg ir) D σ H) : tAsg (tE X.K W C ir) (gT X.K tg) D σ H := by
  obtain ⟨F, T, st, env, x, w, eo, p⟩ := h
  have p : PostS X.K W F T env ((evE C (freeze env fz) ir st).bnd fun d st => (ofO (bind1 tg d (freeze env fz)) st).bnd fun env' st => .ok (.nx env') st) D := p
  obtain ⟨F1, x1, w1, eo1, es1, p1⟩ := fz_go hz x w eo p
  refine ⟨F1, T, st, _, w1, eo1, (p1.step (R1 := rV X.K) x1 es1).mono fun v H2 ⟨F2, T2, st2, d, x2, w2, r2, p2⟩ => ?_⟩
  cases e : bind1 tg d (freeze env fz) with
  | none => rw [e] at p2; exact p2.elim
  | some env' =>
    rw [e] at p2
    exact bind_ok w2 r2 (eo1.ext x2) e fun σ' eo' _ => p2 F2 T2 H2 σ' (.refl _) (.refl _) (x1.trans x2) w2 eo'
theorem ss_set {i : Nat} {y : Str} {e : Expr} {ir : E} {fz : List Nat} {pos pos' : Pos} (hz : W.sv = false ∨ fz = []) (hN : X.N.Nodup) (hi : X.N[i]? = some y) (hx : Loc X.env.scope y) (he : PE X e (tE X.K W C ir)) (hs : swapsWith e (some (.Name y pos')) pos.line X.env = pure false)
    (hf : X.fn y = true ∨ X.env.scope.names.lookup y = some .local) : PS X (.Assign [.Name y pos'] e pos) (tSt X.K W C (.asg fz (.v i) ir)) :=
  impS (ps_set hN hi hx he hs hf) fun D σ H h => asg_rd hz h
theorem ss_asg {tg e : Expr} {tgI : Tg} {ir : E} {fz : List Nat} {pos : Pos} (hz : W.sv = false ∨ fz = []) (he : PE X e (tE X.K W C ir)) (hg : PG X tg (gT X.K tgI)) (hs : swapsWithSole [tg] e pos.line X.env = pure false) (hw : swappedStores [tg] e X.env = pure none)
    (h1 : (assignEach [tg] X.env).map (·.2) = [assign tg X.env]) : PS X (.Assign [tg] e pos) (tSt X.K W C (.asg fz tgI ir)) :=
  impS (ps_asg he hg hs hw h1) fun D σ H h => asg_rd hz h
/-! ### targets -/
theorem g_v {i : Nat} {y : Str} {pos : Pos} (hN : X.N.Nodup) (hi : X.N[i]? = some y) (hx : Loc X.env.scope y) (hf : X.fn y = true ∨ X.env.scope.names.lookup y = some .local) : PG X (.Name y pos) (gT X.K (.v i)) := pg_name hN hi hx hf
theorem g_nil : PGs X [] (gTs X.K .nil) := pgs_nil
theorem g_cons {e : Expr} {es : List Expr} {t : Tg} {ts : Tgs} (h1 : PG X e (gT X.K t)) (h2 : PGs X es (gTs X.K ts)) (hs : (assignEach (e :: es) X.env).map (·.2) = assign e X.env :: (assignEach es X.env).map (·.2)) : PGs X (e :: es) (gTs X.K (.cons t ts)) := pgs_cons h1 h2 hs
theorem g_t {es : List Expr} {k : Nat} {ts : Tgs} {pos : Pos} (hc : X.calm = true) (h : PGs X es (gTs X.K ts)) (hn : (assignEach es X.env).length = lenT ts) (hst : (assignEach es X.env).findIdx? (·.1) = none) : PG X (.Tuple es k pos) (gT X.K (.t ts)) := pg_tup hc h hn hst

/-! ### fresh things -/
theorem fresh_of {K : PySem.W.Frag} {H F H' : Hp} {T : List Addr} {d : D} {v : V} (c : isCont d = true) (r : rD K H F T H' d v) : Fresh K H F T H' d v := by
  unfold rD at r
  rw [if_pos c] at r
  exact r
theorem EnvOk.setOwn {xi : XB} {K : PySem.W.Frag} {F H : Hp} {T : List Addr} {env : Env} {σ : L2.St} (eo : EnvOk K xi F T H env σ) (i : Nat) {d : D} {a : Addr} (r : RepTop K F T H a d) (f : F a = none) (n : a ∉ T) (z : xi.At a d)
    (ap : ∀ j d', env[j]? = some (.own d') → σ[j]? = some (some (.ref a)) → j = i) : EnvOk K xi F T H (env.set i (.own d)) (σ.set i (some (.ref a))) := by
  refine ⟨fun j s hs => ?_, by rw [List.length_set, List.length_set]; exact eo.len, fun j l d1 d2 p ne h1 h2 h3 h4 => ?_⟩
  · rw [List.getElem?_set] at hs
    split at hs <;> rename_i c
    · subst c
      split at hs <;> rename_i l
      · cases hs
        rw [List.getElem?_set_self (Nat.lt_of_lt_of_le l eo.len)]
        exact ⟨a, rfl, r, f, n, z⟩
      · cases hs
    · rw [List.getElem?_set_ne c]
      exact eo.at_ j s hs
  · by_cases c : i = j
    · subst c
      have c2 : i ≠ l := ne
      rw [List.getElem?_set_ne c2] at h2 h4
      have li : i < σ.length := by
        by_cases q : i < σ.length
        · exact q
        · rw [List.getElem?_eq_none (by rw [List.length_set]; omega)] at h3
          cases h3
      rw [List.getElem?_set_self li] at h3
      cases h3
      exact c2 (ap l d2 h2 h4).symm
    · rw [List.getElem?_set_ne c] at h1 h3
      by_cases c2 : i = l
      · subst c2
        have li : i < σ.length := by
          by_cases q : i < σ.length
          · exact q
          · rw [List.getElem?_eq_none (by rw [List.length_set]; omega)] at h4
            cases h4
        rw [List.getElem?_set_self li] at h4
        cases h4
        exact c (ap j d1 h1 h3).symm
      · rw [List.getElem?_set_ne c2] at h2 h4
        exact eo.apart j l d1 d2 p ne h1 h2 h3 h4
/-- nothing stands at a new address -/
theorem no_old {xi : XB} {K : PySem.W.Frag} {F H : Hp} {T : List Addr} {env : Env} {σ : L2.St} (eo : EnvOk K xi F T H env σ) {a : Addr} (h : H a = none) (i : Nat) : ∀ j d', env[j]? = some (.own d') → σ[j]? = some (some (.ref a)) → j = i := fun j d' h1 h2 => by
  obtain ⟨b, e1, r, _⟩ := eo.at_ j _ h1
  rw [h2] at e1
  cases e1
  obtain ⟨o, ho⟩ := r.there
  rw [h] at ho
  cases ho
theorem cont_noIns {d : D} (c : isCont d = true) : isInsD d = false := by
  cases d <;> first | rfl | cases c
theorem own_rd {i : Nat} {ir : E} {te : TE} (hte : ∀ σ H Q, tDr X.K W C ir σ H Q → te σ H Q) {D : Ends} {σ : L2.St} {H : Hp} (h : tSt X.K W C (.own i ir) D σ H) : tAsg te (gName i) D σ H := by
  obtain ⟨F, T, st, env, x, w, eo, p⟩ := h
  have p : PostS X.K W F T env ((evE C env ir st).bnd fun d st => chkO (isCont d) (.ok (.nx (env.set i (.own d))) st)) D := p
  refine hte σ H _ ⟨F, T, st, env, w, eo, (p.step (R1 := rD X.K) x fun _ => eo).mono fun v H2 ⟨F2, T2, st2, d, x2, w2, r2, p2⟩ => ?_⟩
  cases c : isCont d with
  | false => rw [c] at p2; exact p2.elim
  | true =>
    rw [c] at p2
    obtain ⟨a, e, rt, f, n, z⟩ := fresh_of c r2
    subst e
    exact p2 F2 T2 H2 _ (.refl _) (.refl _) (x.trans x2) w2 ((eo.ext x2).setOwn i rt f n ⟨x.none a z, fun h => by rw [cont_noIns c] at h; cases h⟩ fun j d' h1 h2 => no_old eo z i j d' h1 h2)
theorem ss_own {i : Nat} {y : Str} {e : Expr} {ir : E} {pos pos' : Pos} (hN : X.N.Nodup) (hi : X.N[i]? = some y) (hx : Loc X.env.scope y) (he : PE X e (tDr X.K W C ir)) (hs : swapsWith e (some (.Name y pos')) pos.line X.env = pure false)
    (hf : X.fn y = true ∨ X.env.scope.names.lookup y = some .local) : PS X (.Assign [.Name y pos'] e pos) (tSt X.K W C (.own i ir)) :=
  impS (ps_set hN hi hx he hs hf) fun D σ H h => own_rd (fun _ _ _ h => h) h
end
end Eng
set_option Elab.async false
set_option linter.all false
set_option maxRecDepth 100000
/-! Eng 14: statements that change things; loops -/
namespace Eng
open PySem PySem.Spec PyProof.Rows L2

theorem putD_noIns {o k v d' : D} (h : putD o k v = some d') : isInsD d' = false := by
  cases o with
  | lst ds =>
    cases k with
    | int i =>
      obtain ⟨j, _, e⟩ := Option.map_eq_some_iff.mp (show (ixN ds.length i).map (fun j => D.lst (ds.set j v)) = some d' from h)
      rw [← e]
      rfl
    | _ => cases h
  | dic ks ds =>
    obtain ⟨j, _, e⟩ := Option.bind_eq_some_iff.mp (show (keyD k).bind (fun k => if ks.length < sizeLine then some (D.dic (dicPut ks ds k v).1 (dicPut ks ds k v).2) else none) = some d' from h)
    split at e
    · cases e
      rfl
    · cases e
  | _ => cases h
section
variable {K : PySem.W.Frag} {xi : XB} {F H F0 : Hp} {T T0 : List Addr} {st : Store} {env : Env} {σ : L2.St} {a : Addr} {o : HO}
/-- a fresh thing comes into the store -/
theorem wf_track (w : WF K F T st H) {d : D} (r : RepTop K F T H a d) (f : F a = none) (n : a ∉ T) : WF K F (T ++ [a]) (st ++ [d]) H := by
  refine ⟨w.fr, by rw [List.length_append, List.length_append, w.len]; rfl, ?_, fun b hb => ?_, fun i d' e => ?_⟩
  · rw [List.nodup_append]
    refine ⟨w.nd, List.pairwise_singleton _ _, fun x hx y hy => ?_⟩
    rw [List.mem_singleton.mp hy]
    exact fun z => n (z ▸ hx)
  · rcases List.mem_append.mp hb with h | h
    · exact w.nf b h
    · rw [List.mem_singleton.mp h]
      exact f
  · by_cases c : i < st.length
    · rw [List.getElem?_append_left c] at e
      obtain ⟨b, h1, h2⟩ := w.at_ i d' e
      exact ⟨b, Pre.snoc T a i b h1, h2.mono (.refl _) (Pre.snoc T a) fun _ h => h⟩
    · rw [List.getElem?_append_right (by omega)] at e
      have ei : i = st.length := by
        by_cases q : i - st.length = 0
        · omega
        · rw [List.getElem?_eq_none (by simp; omega)] at e
          cases e
      subst ei
      rw [Nat.sub_self] at e
      cases e
      refine ⟨a, ?_, r.mono (.refl _) (Pre.snoc T a) fun _ h => h⟩
      rw [w.len, List.getElem?_append_right (Nat.le_refl _), Nat.sub_self]
      rfl
theorem ext_track {H0 : Hp} (x : Ext F0 T0 H0 F T H) (z : H0 a = none) : Ext F0 T0 H0 F (T ++ [a]) H := by
  refine ⟨x.fr, x.pre.trans (Pre.snoc T a), x.newF, fun b hb nb => ?_, x.keep, x.there⟩
  rcases List.mem_append.mp hb with h | h
  · exact x.newT b h nb
  · rw [List.mem_singleton.mp h]
    exact z
theorem env_track (eo : EnvOk K xi F T H env σ) (n : ∀ (j : Nat) (d' : D), env[j]? = some (Sl.own d') → σ[j]? ≠ some (some (V.ref a))) (nx : ∀ fs, H a ≠ some (.xd fs)) : EnvOk K xi F (T ++ [a]) H env σ := by
  refine ⟨fun j s e => ?_, eo.len, eo.apart⟩
  have q := eo.at_ j s e
  cases s with
  | no => trivial
  | val d => obtain ⟨v, h1, h2⟩ := q; exact ⟨v, h1, h2.mono (.refl _) (Pre.snoc T a)⟩
  | own d =>
    obtain ⟨b, h1, h2, h3, h4, h5⟩ := q
    refine ⟨b, h1, h2.mono (.refl _) (Pre.snoc T a) fun _ h => h, h3, fun m => ?_, h5⟩
    rcases List.mem_append.mp m with h | h
    · exact h4 h
    · rw [List.mem_singleton.mp h] at h1
      exact n j d e h1
  | xc c ks ds =>
    obtain ⟨y, h1, h2, h3, h4⟩ := q
    refine ⟨y, h1, h2, h3, ?_⟩
    rcases h4 with h4 | ⟨b, fs, g1, g2, g3, g4, g5⟩
    · exact .inl h4
    · refine .inr ⟨b, fs, g1, g2, fun m => ?_, g4, g5.mono (.refl _) (Pre.snoc T a)⟩
      rcases List.mem_append.mp m with h | h
      · exact g3 h
      · rw [List.mem_singleton.mp h] at g2
        exact nx fs g2
/-- a thing of the frame's own is changed -/
theorem env_updOwn (eo : EnvOk K xi F T H env σ) {i : Nat} {d d' : D} (hi : env[i]? = some (.own d)) (ha : σ[i]? = some (some (.ref a))) (r : RepTop K F T (L2.upd H a o) a d') (nx : ∀ fs, H a ≠ some (.xd fs)) (ii : isInsD d' = true → isInsD d = true) :
    EnvOk K xi F T (L2.upd H a o) (env.set i (.own d')) σ := by
  obtain ⟨a', e1, r0, f, n, z⟩ := eo.at_ i _ hi
  rw [ha] at e1
  cases e1
  refine ⟨fun j s e => ?_, by rw [List.length_set]; exact eo.len, fun j l d1 d2 p ne h1 h2 h3 h4 => ?_⟩
  · rw [List.getElem?_set] at e
    split at e <;> rename_i c
    · subst c
      split at e
      · cases e
        exact ⟨a, ha, r, f, n, z.h0, fun h => z.me (ii h)⟩
      · cases e
    · have q := eo.at_ j s e
      cases s with
      | no => trivial
      | val d => exact q
      | own d2 =>
        obtain ⟨b, h1, h2, h3, h4, h5⟩ := q
        have nb : b ≠ a := fun z => eo.apart i j _ _ a c hi e ha (by rw [← z]; exact h1)
        exact ⟨b, h1, h2.mono (.refl _) (.refl _) fun o' e' => by
          by_cases q : b = a
          · exact absurd q nb
          · rw [upd_ne q]; exact e', h3, h4, h5⟩
      | xc c ks ds =>
        obtain ⟨y, h1, h2, h3, h4⟩ := q
        refine ⟨y, h1, h2, h3, ?_⟩
        rcases h4 with h4 | ⟨b, fs, g1, g2, g3, g4, g5⟩
        · exact .inl h4
        · refine .inr ⟨b, fs, g1, ?_, g3, g4, g5⟩
          rw [upd_ne (fun z => nx fs (by rw [← z]; exact g2))]
          exact g2
  · have own_of : ∀ {k : Nat} {d3 : D}, (env.set i (.own d'))[k]? = some (.own d3) → ∃ d4, env[k]? = some (.own d4) := fun {k d3} h => by
      rw [List.getElem?_set] at h
      split at h <;> rename_i c
      · subst c
        exact ⟨d, hi⟩
      · exact ⟨d3, h⟩
    obtain ⟨d3, q1⟩ := own_of h1
    obtain ⟨d4, q2⟩ := own_of h2
    exact eo.apart j l d3 d4 p ne q1 q2 h3 h4
/-- a thing of the store is changed -/
theorem wf_updT (w : WF K F T st H) {n : Nat} {d' : D} (hn : T[n]? = some a) (r : RepTop K F T (L2.upd H a o) a d') : WF K F T (st.set n d') (L2.upd H a o) := by
  have mem : a ∈ T := List.mem_iff_getElem?.mpr ⟨n, hn⟩
  refine ⟨fun b u e => ?_, by rw [List.length_set]; exact w.len, w.nd, w.nf, fun i d e => ?_⟩
  · rw [upd_ne (ne_of_none e (w.nf a mem))]
    exact w.fr b u e
  · rw [List.getElem?_set] at e
    split at e <;> rename_i c
    · subst c
      split at e
      · cases e
        exact ⟨a, hn, r⟩
      · cases e
    · obtain ⟨b, h1, h2⟩ := w.at_ i d e
      have nb : b ≠ a := fun z => by
        subst z
        have l1 := List.getElem?_eq_some_iff.mp hn
        have l2 := List.getElem?_eq_some_iff.mp h1
        obtain ⟨l1, e1⟩ := l1
        obtain ⟨l2, e2⟩ := l2
        exact c ((List.getElem_inj w.nd).mp (e1.trans e2.symm))
      exact ⟨b, h1, h2.mono (.refl _) (.refl _) fun o' e' => by
          by_cases q : b = a
          · exact absurd q nb
          · rw [upd_ne q]; exact e'⟩
theorem ext_updT {H0 : Hp} (x : Ext F0 T0 H0 F T H) (m : a ∈ T) (h : H a ≠ none) : Ext F0 T0 H0 F T (L2.upd H a o) := by
  refine ⟨x.fr, x.pre, x.newF, x.newT, fun b u e n => ?_, fun b u e => ?_⟩
  · have nb : b ≠ a := fun z => by
      subst z
      have := x.newT b m n
      rw [e] at this
      cases this
    rw [upd_ne nb]
    exact x.keep b u e n
  · by_cases q : b = a
    · subst q
      exact ⟨o, upd_same⟩
    · obtain ⟨u', e'⟩ := x.there b u e
      exact ⟨u', by rw [upd_ne q]; exact e'⟩
theorem env_updT (eo : EnvOk K xi F T H env σ) (m : a ∈ T) : EnvOk K xi F T (L2.upd H a o) env σ := by
  refine ⟨fun j s e => ?_, eo.len, eo.apart⟩
  have q := eo.at_ j s e
  cases s with
  | no => trivial
  | val d => exact q
  | own d2 =>
    obtain ⟨b, h1, h2, h3, h4, h5⟩ := q
    have nb : b ≠ a := fun z => h4 (z ▸ m)
    exact ⟨b, h1, h2.mono (.refl _) (.refl _) fun o' e' => by rw [upd_ne nb]; exact e', h3, h4, h5⟩
  | xc c ks ds =>
    obtain ⟨y, h1, h2, h3, h4⟩ := q
    refine ⟨y, h1, h2, h3, ?_⟩
    rcases h4 with h4 | ⟨b, fs, g1, g2, g3, g4, g5⟩
    · exact .inl h4
    · refine .inr ⟨b, fs, g1, ?_, g3, g4, g5⟩
      have nb : b ≠ a := fun z => g3 (z ▸ m)
      rw [upd_ne nb]
      exact g2
theorem ext_own {H0 : Hp} (x : Ext F0 T0 H0 F T H) (z : H0 a = none) : Ext F0 T0 H0 F T (L2.upd H a o) := ext_upd x z
end

section
variable {X : Cx} {W : WW} {C : Calls}
theorem top_nx {K : PySem.W.Frag} {F H : Hp} {T : List Addr} {a : Addr} {d : D} (r : RepTop K F T H a d) : ∀ fs, H a ≠ some (.xd fs) := fun fs e => by
  cases d with
  | lst ds => obtain ⟨xs, h, _⟩ := r; rw [e] at h; cases h
  | dic ks ds => obtain ⟨xs, h, _⟩ := r; rw [e] at h; cases h
  | ins c ks ds => obtain ⟨dx, xs, h, _⟩ := r; rw [e] at h; cases h
  | _ => exact r.elim
/-! ### a fresh thing into the store -/
theorem ss_obj {i : Nat} {y : Str} {e : Expr} {ir : E} {pos pos' : Pos} (hN : X.N.Nodup) (hi : X.N[i]? = some y) (hx : Loc X.env.scope y) (he : PE X e (tDr X.K W C ir)) (hs : swapsWith e (some (.Name y pos')) pos.line X.env = pure false)
    (hf : X.fn y = true ∨ X.env.scope.names.lookup y = some .local) : PS X (.Assign [.Name y pos'] e pos) (tSt X.K W C (.obj i ir)) :=
  impS (ps_set hN hi hx he hs hf) fun D σ H ⟨F, T, st, env, x, w, eo, p⟩ => by
    have p : PostS X.K W F T env ((evE C env ir st).bnd fun d st => chkO (isCont d) (.ok (.nx (env.set i (.val (.obj st.length)))) (st ++ [d]))) D := p
    refine ⟨F, T, st, env, w, eo, (p.step (R1 := rD X.K) x fun _ => eo).mono fun v H2 ⟨F2, T2, st2, d, x2, w2, r2, p2⟩ => ?_⟩
    cases c : isCont d with
    | false => rw [c] at p2; exact p2.elim
    | true =>
      rw [c] at p2
      obtain ⟨a, e, rt, f, n, z⟩ := fresh_of c r2
      subst e
      have w3 := wf_track w2 rt f n
      have eo3 : EnvOk X.K W.xi F2 (T2 ++ [a]) H2 env σ := env_track (eo.ext x2) (fun j d' h1 h2 => by
        obtain ⟨b, e1, r, _⟩ := eo.at_ j _ h1
        rw [h2] at e1
        cases e1
        obtain ⟨o, ho⟩ := r.there
        rw [z] at ho
        cases ho) (top_nx rt)
      have ro : Rep X.K F2 (T2 ++ [a]) (.ref a) (.obj st2.length) := .obj (by
        rw [w2.len, List.getElem?_append_right (Nat.le_refl _), Nat.sub_self]
        rfl)
      exact p2 F2 (T2 ++ [a]) H2 _ (.refl _) (Pre.snoc T2 a) (ext_track (x.trans x2) (x.none a z)) w3 (eo3.set i ro)

/-! ### name op= e -/
def ipD (K : PySem.W.Frag) (op : Operator) : TIp := fun x y H Q => ∃ F T st dx dy d, WF K F T st H ∧ Rep K F T x dx ∧ Rep K F T y dy ∧ augD op dx dy = some d ∧ Cont K F T st H (rV K) d Q
theorem ip_aug {op : Operator} : PIp X op (ipD X.K op) := by
  intro pins s σ H x y v u Q I rx ry ⟨F, T, st, dx, dy, d, w, bx, by_, e, c⟩
  unfold augD at e
  split at e
  · cases e; cases bx; cases by_
    exact ip_add pins s σ H _ _ v u Q I rx ry ⟨_, _, rfl, rfl, c.flatV w (.int _)⟩
  · cases e; cases bx; cases by_
    exact ip_sub pins s σ H _ _ v u Q I rx ry ⟨_, _, rfl, rfl, c.flatV w (.int _)⟩
  · split at e <;> rename_i q
    · cases e; cases bx; cases by_
      obtain ⟨t, rfl⟩ := rx
      obtain ⟨t', rfl⟩ := ry
      exact imul_int ⟨.int _, H, I.tok _, ⟨_, rfl⟩, c.flatV w (.int _)⟩ (CMul.ok q)
    · cases e
  · split at e <;> rename_i q
    · cases e; cases bx; cases by_
      obtain ⟨t, rfl⟩ := rx
      obtain ⟨t', rfl⟩ := ry
      exact iadd_str (fun t' tk => ⟨.str _, H, I.tok _, ⟨_, rfl⟩, c.flatV w (.str _)⟩) q
    · cases e
  · cases e
theorem ss_aug {i : Nat} {y : Str} {e : Expr} {ir : E} {op : Operator} {pos pos' : Pos} (hN : X.N.Nodup) (hi : X.N[i]? = some y) (hx : Loc X.env.scope y) (he : PE X e (tE X.K W C ir)) (hf : X.fn y = true ∨ X.env.scope.names.lookup y = some .local) :
    PS X (.AugAssign (.Name y pos') op e pos) (tSt X.K W C (.aug i op ir)) :=
  impS (ps_aug hN hi hx he ip_aug hf) fun D σ H ⟨F, T, st, env, x, w, eo, p⟩ => by
    have p : PostS X.K W F T env ((ofO (getV env i) st).bnd fun x st => (evE C env ir st).bnd fun y st => (ofO (augD op x y) st).bnd fun z st => .ok (.nx (env.set i (.val z))) st) D := p
    cases eg : getV env i with
    | none => rw [eg] at p; exact p.elim
    | some d =>
      rw [eg] at p
      have p : PostS X.K W F T env ((evE C env ir st).bnd fun y st => (ofO (augD op d y) st).bnd fun z st => .ok (.nx (env.set i (.val z))) st) D := p
      obtain ⟨v, e1, r⟩ := eo.at_ i _ (getV_some eg)
      refine ⟨v, e1, F, T, st, env, w, eo, (p.step (R1 := rV X.K) x fun _ => eo).mono fun u H2 ⟨F2, T2, st2, dy, x2, w2, r2, p2⟩ => ?_⟩
      cases ea : augD op d dy with
      | none => rw [ea] at p2; exact p2.elim
      | some z =>
        rw [ea] at p2
        refine ⟨F2, T2, st2, d, dy, z, w2, r.mono x2.fr x2.pre, r2, ea, fun v3 F3 T3 H3 x3 w3 r3 => ?_⟩
        exact p2 F3 T3 H3 _ x3.fr x3.pre ((x.trans x2).trans x3) w3 (((eo.ext x2).ext x3).set i r3)

/-! ### own lists: append -/
theorem ownL_some {env : Env} {i : Nat} {ds : List D} (h : ownL env i = some ds) : env[i]? = some (.own (.lst ds)) := by
  unfold ownL at h
  split at h
  · rename_i e; cases h; exact e
  · cases h
theorem ss_app {i : Nat} {y : Str} {e : Expr} {ir : E} {fz : List Nat} {p1 apos cpos pos : Pos} (hz : W.sv = false) (hN : X.N[i]? = some y) (hv : Vis X.env.scope y) (hd : (y == ("__debug__" : Str)) = false) (hcd : (y == ("__classdict__" : Str)) = false) (he : PE X e (tE X.K W C ir)) (ok : okA e = true)
    (hline : (apos.endLine == cpos.line) = true) (hs : swapsWith (.Call (.Attribute (.Name y p1) "append" apos) [e] [] cpos) none pos.line X.env = pure false) :
    PS X (.Expr (.Call (.Attribute (.Name y p1) "append" apos) [e] [] cpos) pos) (tSt X.K W C (.app fz i ir)) :=
  impS (ps_expr (pe_bm PySem.F.plainAttrs_list PySem.F.slot_list_append PySem.F.type_list_append mt_append (pe_var hN hv hd hcd) (pa_cons he pa_nil (okA_star ok)) rfl (by rw [okA_star ok]; rfl) hline (okA_star ok) rfl) hs) fun D σ H ⟨F, T, st, env, x, w, eo, p⟩ => by
    have p : PostS X.K W F T env ((ofO (ownL (freeze env fz) i) st).bnd fun ds st => (evE C (freeze env fz) ir st).bnd fun d st => chkO (decide (ds.length < sizeLine)) (.ok (.nx ((freeze env fz).set i (.own (.lst (ds ++ [d]))))) st)) D := p
    obtain ⟨F1, x1, w1, eo1, _, p1⟩ := fz_go (.inl hz) x w eo p
    cases eg : ownL (freeze env fz) i with
    | none => rw [eg] at p1; exact p1.elim
    | some ds =>
      rw [eg] at p1
      have p1 : PostS X.K W F1 T env ((evE C (freeze env fz) ir st).bnd fun d st => chkO (decide (ds.length < sizeLine)) (.ok (.nx ((freeze env fz).set i (.own (.lst (ds ++ [d]))))) st)) D := p1
      have ei := ownL_some eg
      obtain ⟨a, e1, ⟨xs, hxs, rs⟩, f, n, z⟩ := eo1.at_ i _ ei
      refine ⟨.ref a, e1, .inl ⟨rfl, _, .inl (.inl hxs)⟩, F1, T, st, _, w1, eo1, (p1.step (R1 := rV X.K) x1 fun h => by rw [hz] at h; cases h).mono fun u H2 ⟨F2, T2, st2, dy, x2, w2, r2, p2⟩ => ?_⟩
      obtain ⟨o2, f2, n2⟩ := x2.own (d := .lst ds) ⟨xs, hxs, rs⟩ f n
      obtain ⟨xs', hxs', rs'⟩ := o2
      have p2 : PostS X.K W F2 T2 env (chkO (decide (ds.length < sizeLine)) (.ok (.nx ((freeze env fz).set i (.own (.lst (ds ++ [dy]))))) st2)) D := p2
      cases c : decide (ds.length < sizeLine) with
      | false => rw [c] at p2; exact p2.elim
      | true =>
        rw [c] at p2
        refine ⟨a, xs', u, rfl, rfl, hxs', by rw [rs'.length]; exact of_decide_eq_true c, ?_⟩
        have r3 : RepTop X.K F2 T2 (L2.upd H2 a (.lst (xs' ++ [u]))) a (.lst (ds ++ [dy])) := ⟨_, upd_same, rs'.append (.one r2)⟩
        exact p2 F2 T2 _ σ (.refl _) (.refl _) (ext_own (x1.trans x2) z.h0) (wf_upd w2 f2 n2) (env_updOwn (eo1.ext x2) ei e1 r3 (top_nx (d := .lst ds) ⟨xs', hxs', rs'⟩) (fun h => by cases h))

/-! ### o[k] = v -/
def rSetA (K : PySem.W.Frag) : TSet := fun o i v H Q => rSetL o i v H Q ∨ rSetD o i v H Q
theorem set_any (hu : X.A.units + 1 < cLine) : PSet X (rSetA X.K) := by
  intro pins s σ H o i v ov iv u Q I ro ri rv h
  rcases h with h | h
  · exact set_list pins s σ H o i v ov iv u Q I ro ri rv h
  · exact set_dict hu pins s σ H o i v ov iv u Q I ro ri rv h
end
end Eng
set_option Elab.async false
set_option linter.all false
set_option maxRecDepth 100000
/-! Eng 15: o[k] = v, self.f = v, parallel targets, loops -/
namespace Eng
open PySem PySem.Spec PyProof.Rows L2

section
variable {X : Cx} {W : WW} {C : Calls}
/-! ### o[k] = v -/
theorem isPut_cases {env : Env} {i : Nat} (h : isPut env i = true) : (∃ d, env[i]? = some (.own d)) ∨ ∃ n, env[i]? = some (.val (.obj n)) := by
  unfold isPut at h
  split at h
  · rename_i d e; exact .inl ⟨d, e⟩
  · rename_i n e; exact .inr ⟨n, e⟩
  · cases h
theorem putD_lst {o k v d' : D} {ds : List D} (eo : o = .lst ds) (h : putD o k v = some d') : ∃ i j, k = .int i ∧ ixN ds.length i = some j ∧ d' = .lst (ds.set j v) := by
  subst eo
  cases k with
  | int i =>
    have h : (ixN ds.length i).map (fun j => D.lst (ds.set j v)) = some d' := h
    obtain ⟨j, e, rfl⟩ := Option.map_eq_some_iff.mp h
    exact ⟨i, j, rfl, e, rfl⟩
  | _ => cases h
theorem dicPut_rep {K : PySem.W.Frag} {F : Hp} {T : List Addr} {k : Key} {v : V} {d : D} (r : Rep K F T v d) {kvs : List (Key × V)} {ds : List D} (rs : Reps K F T (kvs.map (·.2)) ds) :
    (putK kvs k v).map (·.1) = (dicPut (kvs.map (·.1)) ds k d).1 ∧ Reps K F T ((putK kvs k v).map (·.2)) (dicPut (kvs.map (·.1)) ds k d).2 := by
  have ea : (kvs.any fun kv => decide (kv.1 = k)) = ((kvs.map (·.1)).any fun q => decide (q = k)) := by rw [List.any_map]; rfl
  unfold putK dicPut
  rw [← ea]
  by_cases c : (kvs.any fun kv => decide (kv.1 = k)) = true
  · rw [if_pos c, if_pos c]
    refine ⟨?_, ?_⟩
    · show List.map (fun x => x.fst) (List.map (fun kv => if kv.fst = k then (kv.fst, v) else kv) kvs) = List.map (fun x => x.fst) kvs
      rw [List.map_map]
      apply List.map_congr_left
      intro kv _
      show (if kv.fst = k then (kv.fst, v) else kv).1 = kv.1
      split <;> rfl
    · show Reps K F T (List.map (fun x => x.snd) (List.map (fun kv => if kv.fst = k then (kv.fst, v) else kv) kvs)) (List.zipWith (fun q e => if q = k then d else e) (List.map (fun x => x.fst) kvs) ds)
      clear c ea
      induction kvs generalizing ds with
      | nil => cases rs; exact .nil
      | cons kv kvs ih =>
        cases rs with
        | cons r1 rs =>
          refine .cons ?_ (ih rs)
          show Rep K F T (if kv.fst = k then (kv.fst, v) else kv).2 (if kv.fst = k then d else _)
          by_cases q : kv.fst = k
          · rw [if_pos q, if_pos q]; exact r
          · rw [if_neg q, if_neg q]; exact r1
  · rw [if_neg c, if_neg c]
    refine ⟨by rw [List.map_append]; rfl, ?_⟩
    rw [List.map_append]
    exact rs.append (.one r)
/-- a container's part set, by the heap -/
theorem put_top {F T H} {a : Addr} {o k v d' : D} {x y : V} (rt : RepTop X.K F T H a o) (rk : Rep X.K F T x k) (rv : Rep X.K F T y v) (h : putD o k v = some d') {Q : Hp → Prop}
    (q : ∀ u, RepTop X.K F T (L2.upd H a u) a d' → Q (L2.upd H a u)) : rSetA X.K (.ref a) x y H Q := by
  cases o with
  | lst ds =>
    obtain ⟨i, j, rfl, hj, rfl⟩ := putD_lst rfl h
    obtain ⟨xs, hx, rs⟩ := rt
    cases rk
    exact .inl ⟨a, xs, i, j, rfl, rfl, hx, by rw [rs.length]; exact hj, q _ ⟨_, upd_same, rs.set rv j⟩⟩
  | dic ks ds =>
    have h : ((keyD k).bind fun k => if ks.length < sizeLine then some (D.dic (dicPut ks ds k v).1 (dicPut ks ds k v).2) else none) = some d' := h
    obtain ⟨kk, ek, h⟩ := Option.bind_eq_some_iff.mp h
    split at h <;> rename_i c
    · cases h
      obtain ⟨kvs, hk, e, rs⟩ := rt
      subst e
      have ex : x = kV kk := by
        cases k with
        | int i => cases ek; cases rk; rfl
        | str z => cases ek; cases rk; rfl
        | _ => cases ek
      subst ex
      obtain ⟨e1, e2⟩ := dicPut_rep rv (k := kk) rs
      exact .inr ⟨a, _, rfl, .inl ⟨kvs, kk, hk, rfl, by rw [List.length_map] at c; exact c, rfl⟩, q _ ⟨_, upd_same, e1, e2⟩⟩
    · cases h
  | _ => cases h
theorem ss_setI {i : Nat} {y : Str} {k e : Expr} {ik ir : E} {fz : List Nat} {p1 sp pos : Pos} (hu : X.A.units + 1 < cLine) (hz : W.sv = false) (hN : X.N[i]? = some y) (hv : Vis X.env.scope y) (hd : (y == ("__debug__" : Str)) = false) (hcd : (y == ("__classdict__" : Str)) = false)
    (hk : PE X k (tE X.K W C ik)) (he : PE X e (tE X.K W C ir)) (hs : swapsWithSole [.Subscript (.Name y p1) k sp] e pos.line X.env = pure false) (hw : swappedStores [.Subscript (.Name y p1) k sp] e X.env = pure none)
    (h1 : (assignEach [.Subscript (.Name y p1) k sp] X.env).map (·.2) = [assign (.Subscript (.Name y p1) k sp) X.env])
    (ha : ∀ v, assign (.Subscript (.Name y p1) k sp) X.env v = (do
      let ov ← holding [v] (eval (.Name y p1) X.env)
      let iv ← holding [v, ov] (eval k X.env)
      standAt sp
      holding [v, ov, iv] (setItem ov iv v)
      release [v, ov, iv] [])) :
    PS X (.Assign [.Subscript (.Name y p1) k sp] e pos) (tSt X.K W C (.setI fz i ik ir)) :=
  impS (ps_asg he (pg_sub (pe_var hN hv hd hcd) hk (set_any hu) ha) hs hw h1) fun D σ H ⟨F, T, st, env, x, w, eo, p⟩ => by
    have p : PostS X.K W F T env ((evE C (freeze env fz) ir st).bnd fun d st => chkO (isPut (freeze env fz) i) ((evE C (freeze env fz) ik st).bnd fun x st => (setIx (freeze env fz) i x d st).bnd fun env' st => .ok (.nx env') st)) D := p
    obtain ⟨F1, x1, w1, eo1, _, p1⟩ := fz_go (.inl hz) x w eo p
    have nosv : ∀ {P : Prop}, W.sv = true → P := fun h => by rw [hz] at h; cases h
    refine ⟨F1, T, st, _, w1, eo1, (p1.step (R1 := rV X.K) x1 nosv).mono fun u H2 ⟨F2, T2, st2, d, x2, w2, r2, p2⟩ => ?_⟩
    have r2 : Rep X.K F2 T2 u d := r2
    cases c : isPut (freeze env fz) i with
    | false => rw [c] at p2; exact p2.elim
    | true =>
      rw [c] at p2
      have p2 : PostS X.K W F2 T2 env ((evE C (freeze env fz) ik st2).bnd fun x st => (setIx (freeze env fz) i x d st).bnd fun env' st => .ok (.nx env') st) D := p2
      have eo2 := eo1.ext x2
      have x12 := x1.trans x2
      rcases isPut_cases c with ⟨o, ei⟩ | ⟨n, ei⟩
      · obtain ⟨a, e1, rt, f, nt, z⟩ := eo2.at_ i _ ei
        refine ⟨.ref a, e1, F2, T2, st2, _, w2, eo2, (p2.step (R1 := rV X.K) x12 nosv).mono fun kx H3 ⟨F3, T3, st3, dk, x3, w3, r3, p3⟩ => ?_⟩
        obtain ⟨rt3, f3, nt3⟩ := x3.own rt f nt
        have p3 : PostS X.K W F3 T3 env ((setIx (freeze env fz) i dk d st3).bnd fun env' st => .ok (.nx env') st) D := p3
        unfold setIx at p3
        rw [ei] at p3
        have p3 : PostS X.K W F3 T3 env (((ofO (putD o dk d) st3).bnd fun d' st => .ok ((freeze env fz).set i (.own d')) st).bnd fun env' st => .ok (.nx env') st) D := p3
        cases ep : putD o dk d with
        | none => rw [ep] at p3; exact p3.elim
        | some d' =>
          rw [ep] at p3
          refine put_top rt3 r3 (r2.mono x3.fr x3.pre) ep fun u rt4 => ?_
          exact p3 F3 T3 _ σ (.refl _) (.refl _) (ext_own (x12.trans x3) z.h0) (wf_upd w3 f3 nt3) (env_updOwn (eo2.ext x3) ei e1 rt4 (top_nx rt3) (fun h => by rw [putD_noIns ep] at h; cases h))
      · obtain ⟨v, e1, rv⟩ := eo2.at_ i _ ei
        cases rv with
        | @obj _ a ha =>
          refine ⟨.ref a, e1, F2, T2, st2, _, w2, eo2, (p2.step (R1 := rV X.K) x12 nosv).mono fun kx H3 ⟨F3, T3, st3, dk, x3, w3, r3, p3⟩ => ?_⟩
          have ha3 : T3[n]? = some a := x3.pre n a ha
          have p3 : PostS X.K W F3 T3 env ((setIx (freeze env fz) i dk d st3).bnd fun env' st => .ok (.nx env') st) D := p3
          unfold setIx at p3
          rw [ei] at p3
          have p3 : PostS X.K W F3 T3 env ((match st3[n]? with
            | some o => (ofO (putD o dk d) st3).bnd fun d' st => .ok (freeze env fz) (st.set n d')
            | none => Out.bad).bnd fun env' st => .ok (.nx env') st) D := p3
          cases es : st3[n]? with
          | none => rw [es] at p3; exact p3.elim
          | some o =>
            rw [es] at p3
            have p3 : PostS X.K W F3 T3 env (((ofO (putD o dk d) st3).bnd fun d' st => .ok (freeze env fz) (st.set n d')).bnd fun env' st => .ok (.nx env') st) D := p3
            obtain ⟨a', h1, rt3⟩ := w3.at_ n o es
            rw [ha3] at h1
            cases h1
            have mem : a ∈ T3 := List.mem_iff_getElem?.mpr ⟨n, ha3⟩
            cases ep : putD o dk d with
            | none => rw [ep] at p3; exact p3.elim
            | some d' =>
              rw [ep] at p3
              refine put_top rt3 r3 (r2.mono x3.fr x3.pre) ep fun u rt4 => ?_
              have hne : H3 a ≠ none := by
                obtain ⟨o', ho⟩ := rt3.there
                rw [ho]
                exact fun h => nomatch h
              exact p3 F3 T3 _ σ (.refl _) (.refl _) (ext_updT (x12.trans x3) mem hne) (wf_updT w3 ha3 rt4) (env_updT (eo2.ext x3) mem)

/-! ### self.f = v -/
theorem putF_rep {K : PySem.W.Frag} {F : Hp} {T : List Addr} {f : Str} {v : V} {d : D} (r : Rep K F T v d) : ∀ {fs : List (Str × V)} {ds : List D}, Reps K F T (fs.map (·.2)) ds →
    (putF f v fs).map (·.1) = (putFld f d (fs.map (·.1)) ds).1 ∧ Reps K F T ((putF f v fs).map (·.2)) (putFld f d (fs.map (·.1)) ds).2
  | [], _, rs => by cases rs; exact ⟨rfl, .one r⟩
  | (g, x) :: fs, _, rs => by
    cases rs with
    | @cons _ _ e es r1 rs =>
      obtain ⟨h1, h2⟩ := putF_rep (f := f) r rs
      show (if g = f then (g, v) :: fs else (g, x) :: putF f v fs).map (·.1) = (if g = f then (g :: fs.map (·.1), d :: es) else (g :: (putFld f d (fs.map (·.1)) es).1, e :: (putFld f d (fs.map (·.1)) es).2)).1 ∧
        Reps K F T ((if g = f then (g, v) :: fs else (g, x) :: putF f v fs).map (·.2)) (if g = f then (g :: fs.map (·.1), d :: es) else (g :: (putFld f d (fs.map (·.1)) es).1, e :: (putFld f d (fs.map (·.1)) es).2)).2
      by_cases c : g = f
      · rw [if_pos c, if_pos c]
        exact ⟨rfl, .cons r rs⟩
      · rw [if_neg c, if_neg c]
        exact ⟨by rw [List.map_cons, h1], .cons r1 h2⟩
theorem fldPut_some {c f : Str} {v o d' : D} (h : fldPut c f v o = some d') : ∃ ks ds, o = .ins c ks ds ∧ ks.length < 1000 ∧ d' = .ins c (putFld f v ks ds).1 (putFld f v ks ds).2 := by
  cases o with
  | ins c' ks ds =>
    have h : (if c' = c ∧ ks.length < 1000 then some (D.ins c' (putFld f v ks ds).1 (putFld f v ks ds).2) else none) = some d' := h
    split at h <;> rename_i q
    · cases h
      obtain ⟨rfl, l⟩ := q
      exact ⟨ks, ds, rfl, l, rfl⟩
    · cases h
  | _ => cases h
theorem ss_fld {i : Nat} {y c f : Str} {e : Expr} {ir : E} {fz : List Nat} {p1 p2' pos : Pos} (hz : W.sv = false) (hN : X.N[i]? = some y) (hv : Vis X.env.scope y) (hd : (y == ("__debug__" : Str)) = false) (hcd : (y == ("__classdict__" : Str)) = false)
    (cl : Cls X.K (He.ga X.K c)) (na : NoAttr X.K (He.ga X.K c) f) (he : PE X e (tE X.K W C ir)) (hs : swapsWith e (some (.Attribute (.Name y p1) f p2')) pos.line X.env = pure false) :
    PS X (.Assign [.Attribute (.Name y p1) f p2'] e pos) (tSt X.K W C (.fld fz i c f ir)) :=
  impS (ps_fld (pe_var hN hv hd hcd) he hs) fun D σ H ⟨F, T, st, env, x, w, eo, p⟩ => by
    have p : PostS X.K W F T env ((evE C (freeze env fz) ir st).bnd fun d st => (setFld (freeze env fz) i c f d st).bnd fun env' st => .ok (.nx env') st) D := p
    obtain ⟨F1, x1, w1, eo1, _, p1⟩ := fz_go (.inl hz) x w eo p
    have nosv : ∀ {P : Prop}, W.sv = true → P := fun h => by rw [hz] at h; cases h
    refine ⟨F1, T, st, _, w1, eo1, (p1.step (R1 := rV X.K) x1 nosv).mono fun u H2 ⟨F2, T2, st2, d, x2, w2, r2, p2⟩ => ?_⟩
    have r2 : Rep X.K F2 T2 u d := r2
    have eo2 := eo1.ext x2
    have x12 := x1.trans x2
    unfold setFld at p2
    cases ei : (freeze env fz)[i]? with
    | none => rw [ei] at p2; exact p2.elim
    | some s =>
      rw [ei] at p2
      cases s with
      | no => exact p2.elim
      | xc c ks ds => exact p2.elim
      | own o =>
        have p2 : PostS X.K W F2 T2 env (((ofO (fldPut c f d o) st2).bnd fun d' st => .ok ((freeze env fz).set i (.own d')) st).bnd fun env' st => .ok (.nx env') st) D := p2
        obtain ⟨a, e1, rt, fa, nt, z⟩ := eo2.at_ i _ ei
        cases ep : fldPut c f d o with
        | none => rw [ep] at p2; exact p2.elim
        | some d' =>
          rw [ep] at p2
          obtain ⟨ks, ds, rfl, l, rfl⟩ := fldPut_some ep
          obtain ⟨dx, fs, h1, h2, h3⟩ := id rt
          subst h2
          obtain ⟨q1, q2⟩ := putF_rep (f := f) r2 h3
          refine ⟨.ref a, e1, a, _, dx, fs, rfl, h1, cl, na, by rw [List.length_map] at l; exact l, ?_⟩
          have rt4 : RepTop X.K F2 T2 (L2.upd H2 a (.ins (He.ga X.K c) dx (putF f u fs))) a (.ins c (putFld f d (fs.map (·.1)) ds).1 (putFld f d (fs.map (·.1)) ds).2) := ⟨dx, _, upd_same, q1, q2⟩
          exact p2 F2 T2 _ σ (.refl _) (.refl _) (ext_own x12 z.h0) (wf_upd w2 fa nt) (env_updOwn eo2 ei e1 rt4 (top_nx rt) (fun _ => rfl))
      | val o =>
        cases o with
        | obj n =>
          obtain ⟨v, e1, rv⟩ := eo2.at_ i _ ei
          cases rv with
          | @obj _ a ha =>
            have p2 : PostS X.K W F2 T2 env ((match st2[n]? with
              | some o => (ofO (fldPut c f d o) st2).bnd fun d' st => .ok (freeze env fz) (st.set n d')
              | none => Out.bad).bnd fun env' st => .ok (.nx env') st) D := p2
            cases es : st2[n]? with
            | none => rw [es] at p2; exact p2.elim
            | some o =>
              rw [es] at p2
              have p2 : PostS X.K W F2 T2 env (((ofO (fldPut c f d o) st2).bnd fun d' st => .ok (freeze env fz) (st.set n d')).bnd fun env' st => .ok (.nx env') st) D := p2
              obtain ⟨a', ha', rt⟩ := w2.at_ n o es
              rw [ha] at ha'
              cases ha'
              have mem : a ∈ T2 := List.mem_iff_getElem?.mpr ⟨n, ha⟩
              cases ep : fldPut c f d o with
              | none => rw [ep] at p2; exact p2.elim
              | some d' =>
                rw [ep] at p2
                obtain ⟨ks, ds, rfl, l, rfl⟩ := fldPut_some ep
                obtain ⟨dx, fs, h1, h2, h3⟩ := id rt
                subst h2
                obtain ⟨q1, q2⟩ := putF_rep (f := f) r2 h3
                refine ⟨.ref a, e1, a, _, dx, fs, rfl, h1, cl, na, by rw [List.length_map] at l; exact l, ?_⟩
                have rt4 : RepTop X.K F2 T2 (L2.upd H2 a (.ins (He.ga X.K c) dx (putF f u fs))) a (.ins c (putFld f d (fs.map (·.1)) ds).1 (putFld f d (fs.map (·.1)) ds).2) := ⟨dx, _, upd_same, q1, q2⟩
                exact p2 F2 T2 _ σ (.refl _) (.refl _) (ext_updT x12 mem (by rw [h1]; exact fun h => nomatch h)) (wf_updT w2 ha rt4) (env_updT eo2 mem)
        | _ => exact p2.elim

/-! ### a comprehension bound to a name -/
theorem E_to_D {e : E} {σ : L2.St} {H : Hp} {Q : VK} (h : tE X.K W C e σ H Q) : tDr X.K W C e σ H Q := by
  obtain ⟨F, T, st, env, w, eo, p⟩ := h
  refine ⟨F, T, st, env, w, eo, ?_⟩
  have p : Post X.K W σ F T H (rV X.K) (evE C env e st) Q := p
  show Post X.K W σ F T H (rD X.K) (evE C env e st) Q
  revert p
  cases evE C env e st with
  | bad => exact id
  | ex c ks ds st => exact id
  | ok d st' =>
    intro p v F' T' H' x w' r
    obtain ⟨F2, x2, w2, r2⟩ := rD_rV x w' r
    exact p v F2 T' H' x2 w2 r2
/-- the parts of a comprehension's block -/
structure LcOk (X : Cx) (W : WW) (C : Calls) (tg : Expr) (ifs : List Expr) (elt : Expr) (scope : Scope) (tgI : Tg) (ifI : Op) (eI : E) : Prop where
  g : ∀ (s : Shared) (H : Hp) (c : Addr) (cl : List (Str × Addr)) (fp : List Addr), PG (X.blk s H scope (compEnvC scope cl c X.env) fp) tg (gT X.K tgI)
  t : ∀ (s : Shared) (H : Hp) (c : Addr) (cl : List (Str × Addr)) (fp : List Addr), PTs (X.blk s H scope (compEnvC scope cl c X.env) fp) ifs (tIf X.K (noW W) C ifI)
  e : ∀ (s : Shared) (H : Hp) (c : Addr) (cl : List (Str × Addr)) (fp : List Addr), PE (X.blk s H scope (compEnvC scope cl c X.env) fp) elt (tE X.K (noW W) C eI)
theorem s_lc {elt tg iter : Expr} {ifs : List Expr} {scope : Scope} {own : List (Str × Nat)} {pos : Pos} {tgI : Tg} {ifI : Op} {eI : E} {it : It} {ws : List Nat} (hc : X.calm = true) (hN : X.N.Nodup) (hi : PI X tg iter (tI X.K W C it)) (ok : blkC X.N X.env.scope scope own = true)
    (hw : own.map (·.2) = ws) (hws : ∀ i ∈ ixT tgI, i ∈ ws) (l : LcOk X W C tg ifs elt scope tgI ifI eI) (hs : ∀ x, foldedSetIterable iter X.env x = pure x) : PE X (.ListComp elt [⟨tg, iter, ifs, 0⟩] scope pos) (tDr X.K W C (.lc eI tgI it ifI ws)) := by
  subst hw
  exact impE (pe_lc hc hN hi (blkOk_by ok) l.g l.t l.e hs) fun σ H Q h => lc_rd hws h
theorem ss_setLc {fz : List Nat} {i : Nat} {y : Str} {py : Pos} {elt tg iter : Expr} {ifs : List Expr} {scope : Scope} {own : List (Str × Nat)} {pos spos : Pos} {tgI : Tg} {ifI : Op} {eI : E} {it : It} {ws : List Nat} (hz : W.sv = false ∨ fz = []) (hc : X.calm = true) (hN : X.N.Nodup) (hy : X.N[i]? = some y) (hyl : X.env.scope.names.lookup y = some .local)
    (hsw : swapsWith (.ListComp elt [⟨tg, iter, ifs, 0⟩] scope pos) (some (.Name y py)) spos.line X.env = pure true) (hi : PI X tg iter (tI X.K W C it)) (ok : blkC X.N X.env.scope scope own = true)
    (hw : own.map (·.2) = ws) (hws : ∀ i ∈ ixT tgI, i ∈ ws) (l : LcOk X W C tg ifs elt scope tgI ifI eI) (hs : ∀ x, foldedSetIterable iter X.env x = pure x) :
    PS X (.Assign [.Name y py] (.ListComp elt [⟨tg, iter, ifs, 0⟩] scope pos) spos) (tSt X.K W C (.asg fz (.v i) (.lc eI tgI it ifI ws))) := by
  subst hw
  refine impS (ps_setLc hc hN hy hyl hsw hi (blkOk_by ok) l.g l.t l.e hs) fun D σ H h => ?_
  exact lc_rd hws (E_to_D (asg_rd hz h))
theorem ss_ownLc {i : Nat} {y : Str} {py : Pos} {elt tg iter : Expr} {ifs : List Expr} {scope : Scope} {own : List (Str × Nat)} {pos spos : Pos} {tgI : Tg} {ifI : Op} {eI : E} {it : It} {ws : List Nat} (hc : X.calm = true) (hN : X.N.Nodup) (hy : X.N[i]? = some y) (hyl : X.env.scope.names.lookup y = some .local)
    (hsw : swapsWith (.ListComp elt [⟨tg, iter, ifs, 0⟩] scope pos) (some (.Name y py)) spos.line X.env = pure true) (hi : PI X tg iter (tI X.K W C it)) (ok : blkC X.N X.env.scope scope own = true)
    (hw : own.map (·.2) = ws) (hws : ∀ i ∈ ixT tgI, i ∈ ws) (l : LcOk X W C tg ifs elt scope tgI ifI eI) (hs : ∀ x, foldedSetIterable iter X.env x = pure x) :
    PS X (.Assign [.Name y py] (.ListComp elt [⟨tg, iter, ifs, 0⟩] scope pos) spos) (tSt X.K W C (.own i (.lc eI tgI it ifI ws))) := by
  subst hw
  refine impS (ps_setLc hc hN hy hyl hsw hi (blkOk_by ok) l.g l.t l.e hs) fun D σ H h => ?_
  exact own_rd (fun _ _ _ h => lc_rd hws h) h

/-! ### loops -/
theorem ss_for {tg iter : Expr} {body : List Stmt} {tgI : Tg} {it : It} {ib : Ss} {fz : List Nat} {pos : Pos} (hz : W.sv = false) (hp : PassesOwn (model X.prog X.w) X.A X.env X.xe) (hc : X.calm = true) (hi : PI X tg iter (tIF X.K W C it)) (hg : PG X tg (gT X.K tgI)) (hb : PSs X body (tSs X.K W C ib))
    (hs : ∀ x, foldedSetIterable iter X.env x = pure x) : PS X (.For tg iter body [] pos) (tSt X.K W C (.for_ fz tgI it ib)) :=
  impS (ps_for hp hc hi hg hb hs) fun D σ H ⟨F, T, st, env, x, w, eo, p⟩ => by
    have p : PostS X.K W F T env ((evItV C (freeze env fz) it st).bnd fun ds st => forGo (fun d env st => (ofO (bind1 tgI d env) st).bnd fun env' st => evSs C ib env' st) ds (freeze env fz) st) D := p
    have nosv : ∀ {P : Prop}, W.sv = true → P := fun h => by rw [hz] at h; cases h
    obtain ⟨F1, x1, w1, eo1, _, p1⟩ := fz_go (.inl hz) x w eo p
    refine ⟨F1, T, st, _, w1, eo1, (p1.step (R1 := rItF X.K) x1 nosv).mono fun J H2 ⟨F2, T2, st2, ds, x2, w2, ⟨gv, hlen⟩, p2⟩ => ?_⟩
    have eo2 := eo1.ext x2
    have x12 := x1.trans x2
    refine ⟨fun i m σ3 H3 => m = ds.length - i ∧ i ≤ ds.length ∧ ∃ F3 T3 st3 env3, Same F2 F3 ∧ Pre T2 T3 ∧ Ext W.B.F W.B.T W.B.H F3 T3 H3 ∧ WF X.K F3 T3 st3 H3 ∧ EnvOk X.K W.xi F3 T3 H3 env3 σ3 ∧
      PostS X.K W F3 T3 env (forGo (fun d env st => (ofO (bind1 tgI d env) st).bnd fun env' st => evSs C ib env' st) (ds.drop i) env3 st3) D, ⟨ds.length, rfl, Nat.zero_le _, F2, T2, st2, _, .refl _, .refl _, x12, w2, eo2, p2⟩, ?_⟩
    rintro i m σ3 H3 ⟨em, le, F3, T3, st3, env3, sm, pr, x3, w3, eo3, p3⟩
    have g := gv F3 T3 st3 H3 ⟨sm, pr⟩ w3 i
    by_cases e : i = ds.length
    · subst e
      rw [List.drop_length] at p3
      exact .inl ⟨g.2 rfl, p3 F3 T3 H3 σ3 (.refl _) (.refl _) x3 w3 eo3⟩
    · have lt : i < ds.length := by omega
      obtain ⟨d, hd⟩ : ∃ d, ds[i]? = some d := ⟨_, List.getElem?_eq_getElem lt⟩
      obtain ⟨go, yl⟩ := g.1 d hd
      have ed : ds.drop i = d :: ds.drop (i + 1) := by
        obtain ⟨l, e⟩ := List.getElem?_eq_some_iff.mp hd
        rw [← e]
        exact List.drop_eq_getElem_cons l
      rw [ed] at p3
      have p3 : PostS X.K W F3 T3 env (((ofO (bind1 tgI d env3) st3).bnd fun env' st => evSs C ib env' st).bnd fun f st1 => (match f with
        | .nx env1 => forGo (fun d env st => (ofO (bind1 tgI d env) st).bnd fun env' st => evSs C ib env' st) (ds.drop (i + 1)) env1 st1
        | .ct env1 => forGo (fun d env st => (ofO (bind1 tgI d env) st).bnd fun env' st => evSs C ib env' st) (ds.drop (i + 1)) env1 st1
        | .bk env1 => .ok (.nx env1) st1
        | .rt d => .ok (.rt d) st1)) D := p3
      refine .inr ⟨go, fun σ4 H4 => ∃ m', m' < m ∧ (m' = ds.length - (i + 1) ∧ i + 1 ≤ ds.length ∧ ∃ F3 T3 st3 env3, Same F2 F3 ∧ Pre T2 T3 ∧ Ext W.B.F W.B.T W.B.H F3 T3 H4 ∧ WF X.K F3 T3 st3 H4 ∧ EnvOk X.K W.xi F3 T3 H4 env3 σ4 ∧
        PostS X.K W F3 T3 env (forGo (fun d env st => (ofO (bind1 tgI d env) st).bnd fun env' st => evSs C ib env' st) (ds.drop (i + 1)) env3 st3) D), fun σ' H' h => h, fun y H4 hy => ?_⟩
      obtain ⟨F4, x4, w4, r4⟩ := yl y H4 hy
      cases eb : bind1 tgI d env3 with
      | none => rw [eb] at p3; exact p3.elim
      | some env4 =>
        rw [eb] at p3
        have p3 : PostS X.K W F3 T3 env ((evSs C ib env4 st3).bnd fun f st1 => (match f with
          | .nx env1 => forGo (fun d env st => (ofO (bind1 tgI d env) st).bnd fun env' st => evSs C ib env' st) (ds.drop (i + 1)) env1 st1
          | .ct env1 => forGo (fun d env st => (ofO (bind1 tgI d env) st).bnd fun env' st => evSs C ib env' st) (ds.drop (i + 1)) env1 st1
          | .bk env1 => .ok (.nx env1) st1
          | .rt d => .ok (.rt d) st1)) D := p3
        refine bind_ok w4 r4 (eo3.ext x4) eb fun σ5 eo5 _ => ⟨F4, T3, st3, env4, x3.trans x4, w4, eo5, ?_⟩
        have p4 := (p3.shift x4.fr x4.pre).bnd (D' := { D with nx := fun σ4 H4 => ∃ m', m' < m ∧ (m' = ds.length - (i + 1) ∧ i + 1 ≤ ds.length ∧ ∃ F3 T3 st3 env3, Same F2 F3 ∧ Pre T2 T3 ∧ Ext W.B.F W.B.T W.B.H F3 T3 H4 ∧ WF X.K F3 T3 st3 H4 ∧ EnvOk X.K W.xi F3 T3 H4 env3 σ4 ∧
          PostS X.K W F3 T3 env (forGo (fun d env st => (ofO (bind1 tgI d env) st).bnd fun env' st => evSs C ib env' st) (ds.drop (i + 1)) env3 st3) D), ct := fun σ4 H4 => ∃ m', m' < m ∧ (m' = ds.length - (i + 1) ∧ i + 1 ≤ ds.length ∧ ∃ F3 T3 st3 env3, Same F2 F3 ∧ Pre T2 T3 ∧ Ext W.B.F W.B.T W.B.H F3 T3 H4 ∧ WF X.K F3 T3 st3 H4 ∧ EnvOk X.K W.xi F3 T3 H4 env3 σ4 ∧
          PostS X.K W F3 T3 env (forGo (fun d env st => (ofO (bind1 tgI d env) st).bnd fun env' st => evSs C ib env' st) (ds.drop (i + 1)) env3 st3) D), bk := D.nx }) fun F6 T6 H6 σ6 f st6 a6 b6 x6 w6 e6 p6 => ?_
        · revert p4
          cases evSs C ib env4 st3 with
          | bad => exact id
          | ok f st => exact id
          | ex c ks ds st => exact fun p4 dx F' T' H' σ' a b x w r _ => p4 dx F' T' H' σ' a b x w r nosv
        · cases f with
          | nx env6 => exact fun eo6 => ⟨ds.length - (i + 1), by omega, rfl, by omega, F6, T6, st6, env6, sm.trans (x4.fr.trans a6), pr.trans (x4.pre.trans b6), x6, w6, eo6, p6⟩
          | ct env6 => exact fun eo6 => ⟨ds.length - (i + 1), by omega, rfl, by omega, F6, T6, st6, env6, sm.trans (x4.fr.trans a6), pr.trans (x4.pre.trans b6), x6, w6, eo6, p6⟩
          | bk env6 => exact p6 F6 T6 H6 σ6 (.refl _) (.refl _) x6 w6
          | rt d => exact p6 F6 T6 H6 σ6 (.refl _) (.refl _) x6 w6
theorem ss_whl {c : Expr} {body : List Stmt} {ic : E} {ib : Ss} {n : Nat} {pos : Pos} (hz : W.sv = false) (hp : PassesOwn (model X.prog X.w) X.A X.env X.xe) (hc : PT X c (tT X.K W C ic)) (hb : PSs X body (tSs X.K W C ib)) : PS X (.While c body [] pos) (tSt X.K W C (.whl n ic ib)) :=
  impS (ps_while hp hc hb) fun D σ H ⟨F, T, st, env, x, w, eo, p⟩ => by
    have p : PostS X.K W F T env (whlGo (fun env st => evT C env ic st) (evSs C ib) n env st) D := p
    have nosv : ∀ {P : Prop}, W.sv = true → P := fun h => by rw [hz] at h; cases h
    refine ⟨fun m σ3 H3 => ∃ F3 T3 st3 env3, Ext W.B.F W.B.T W.B.H F3 T3 H3 ∧ WF X.K F3 T3 st3 H3 ∧ EnvOk X.K W.xi F3 T3 H3 env3 σ3 ∧ PostS X.K W F3 T3 env (whlGo (fun env st => evT C env ic st) (evSs C ib) m env3 st3) D, ⟨n, F, T, st, env, x, w, eo, p⟩, ?_⟩
    rintro m σ3 H3 ⟨F3, T3, st3, env3, x3, w3, eo3, p3⟩
    cases m with
    | zero => exact p3.elim
    | succ m =>
      have p3 : PostS X.K W F3 T3 env ((evT C env3 ic st3).bnd fun b st1 => (match b with
        | false => .ok (.nx env3) st1
        | true => (evSs C ib env3 st1).bnd fun f st2 => (match f with
          | .nx env1 => whlGo (fun env st => evT C env ic st) (evSs C ib) m env1 st2
          | .ct env1 => whlGo (fun env st => evT C env ic st) (evSs C ib) m env1 st2
          | .bk env1 => .ok (.nx env1) st2
          | .rt d => .ok (.rt d) st2))) D := p3
      refine ⟨F3, T3, st3, env3, w3, eo3, (p3.step (R1 := rEq) x3 nosv).mono fun b H4 ⟨F4, T4, st4, b', x4, w4, rb, p4⟩ => ?_⟩
      have rb : b' = b := rb
      subst rb
      have x34 := x3.trans x4
      have eo4 := eo3.ext x4
      cases b' with
      | false =>
        simp only [Bool.false_eq_true, if_false]
        exact p4 F4 T4 H4 σ3 (.refl _) (.refl _) x34 w4 eo4
      | true =>
        simp only [if_true]
        refine ⟨fun σ5 H5 => ∃ m', m' < m + 1 ∧ ∃ F3 T3 st3 env3, Ext W.B.F W.B.T W.B.H F3 T3 H5 ∧ WF X.K F3 T3 st3 H5 ∧ EnvOk X.K W.xi F3 T3 H5 env3 σ5 ∧ PostS X.K W F3 T3 env (whlGo (fun env st => evT C env ic st) (evSs C ib) m' env3 st3) D, fun _ _ h => h, F4, T4, st4, env3, x34, w4, eo4, ?_⟩
        have p4 : PostS X.K W F4 T4 env ((evSs C ib env3 st4).bnd fun f st2 => (match f with
          | .nx env1 => whlGo (fun env st => evT C env ic st) (evSs C ib) m env1 st2
          | .ct env1 => whlGo (fun env st => evT C env ic st) (evSs C ib) m env1 st2
          | .bk env1 => .ok (.nx env1) st2
          | .rt d => .ok (.rt d) st2)) D := p4
        have p5 := p4.bnd (D' := { D with nx := fun σ5 H5 => ∃ m', m' < m + 1 ∧ ∃ F3 T3 st3 env3, Ext W.B.F W.B.T W.B.H F3 T3 H5 ∧ WF X.K F3 T3 st3 H5 ∧ EnvOk X.K W.xi F3 T3 H5 env3 σ5 ∧ PostS X.K W F3 T3 env (whlGo (fun env st => evT C env ic st) (evSs C ib) m' env3 st3) D, ct := fun σ5 H5 => ∃ m', m' < m + 1 ∧ ∃ F3 T3 st3 env3, Ext W.B.F W.B.T W.B.H F3 T3 H5 ∧ WF X.K F3 T3 st3 H5 ∧ EnvOk X.K W.xi F3 T3 H5 env3 σ5 ∧ PostS X.K W F3 T3 env (whlGo (fun env st => evT C env ic st) (evSs C ib) m' env3 st3) D, bk := D.nx }) fun F6 T6 H6 σ6 f st6 a6 b6 x6 w6 e6 p6 => ?_
        · revert p5
          cases evSs C ib env3 st4 with
          | bad => exact id
          | ok f st => exact id
          | ex c ks ds st => exact fun p4 dx F' T' H' σ' a b x w r _ => p4 dx F' T' H' σ' a b x w r nosv
        · cases f with
          | nx env6 => exact fun eo6 => ⟨m, Nat.lt_succ_self _, F6, T6, st6, env6, x6, w6, eo6, p6⟩
          | ct env6 => exact fun eo6 => ⟨m, Nat.lt_succ_self _, F6, T6, st6, env6, x6, w6, eo6, p6⟩
          | bk env6 => exact p6 F6 T6 H6 σ6 (.refl _) (.refl _) x6 w6
          | rt d => exact p6 F6 T6 H6 σ6 (.refl _) (.refl _) x6 w6
end
end Eng
set_option Elab.async false
set_option linter.all false
set_option maxRecDepth 100000
set_option maxHeartbeats 2000000
/-! Eng 16: the package's errors: super().__init__(p, ..), then self.p = p -/
namespace Eng
open PySem PySem.Spec PySem.W PySem.Calls PyProof.Rows PySem.HandSPX

/-- what the written part says of an error class at C; its __init__, at fI, is a def with the cell of its class -/
structure SupC (K : Frag) (file : Str) (C fI : Addr) (qual : Str) (params : Arguments) (body : List Stmt) (scope : Scope) : Prop where
  cls : ∃ nm q N bs bm sn sub ab col dd k0 k1 k2 k3 k5, K.lookup C = some (excClassObj nm q C N bs bm true sn sub ab col dd k0 k1 k2 k3 k5 "ValueError.__new__") ∧ refsVE bm = true ∧ alongIn K "__init__" bm = some (some (.builtin "ValueError.__init__"))
  sa : findIn K (.ref C) "__setattr__" = some (some (.builtin "object.__setattr__"))
  iC : findIn K (.ref C) "__init__" = some (some (.ref fI))
  tI : typeIn K (.ref fI) = some (.type "function")
  veC : subIn K (.ref C) (.type "ValueError") = some true
  self : mroIn K C (.ref C) = some true
  op : nsIn K cStatics "thirdparty.any" = some none
  fn : ∃ (oc : Value) (od : Option Addr) (doc pm : Value) (an : Option Addr) (cda : Addr) (ct : Value) (osl : Array (Option Value)) (cc : Addr) (ccl : Value) (cdd : Option Addr) (vs : Array Value) (ccs : Array (Option Value)) (tf : Tok) (cl : Value) (cld : Option Addr) (csl : Array (Option Value)),
    K.lookup fI = some ⟨oc, od, .func (ksFn "__init__" qual params body scope .none .none doc pm an (.ref cda) ct cc), osl⟩ ∧ codeIn K (.ref cda) qual = true ∧ K.lookup cda = some ⟨ccl, cdd, .fields vs, ccs⟩ ∧ vs[2]? = some (.str file tf) ∧
    K.lookup cc = some ⟨cl, cld, .cell (some (.ref C)), csl⟩
/-- what the module says of super -/
structure SupG (h : Heap) (mg mb : Str → Option Value) : Prop where
  g : h.Ns mainGlobals mg
  b : h.Ns builtinsNs mb
  mg : mg "super" = none
  mb : mb "super" = some (.type "super")
section
variable {prog : Program} {w : World} {A : Around} {E : Value → Shared → Prop} {K : Frag} {file : Str} {C fI : Addr} {qual : Str} {params : Arguments} {body : List Stmt} {scope : Scope} {mg mb : Str → Option Value}
/-- ValueError.__init__ bound to the exception, called -/
theorem bw_call {h : Heap} {g : Array GenState} {d : Drawn} {t : Nat} {os : OsState} {u x t0 : Addr} {rest : List Value} {Q : Value → Shared → Prop} {nm q : Str} {N : Addr} {bs bm : List Value} {hdct : Bool} {sn : List Str} {sub : List Value} {ab : Bool} {col : Option Bool} {dd : Option Addr} {k0 k1 k2 k3 k5 : Option Value}
    (hC : h.get? C = some (excClassObj nm q C N bs bm hdct sn sub ab col dd k0 k1 k2 k3 k5 "ValueError.__new__")) (he : h.get? x = some (excO C t0)) (hu : h.get? u = some (kxs_mw "ValueError.__init__" x)) (hz : rest.length ≤ sizeLine)
    (hq : ∀ h' t1, (∀ b o, b ≠ x → h.get? b = some o → h'.get? b = some o) → h'.get? x = some (excO C t1) → Q .none ⟨h', g, d, t, os⟩) :
    wpAny (model prog w) A (call (.ref u) rest) Q E ⟨h, g, d, t, os⟩ := by
  refine wpAny_call (codeAny_of_tree ?_)
  show wpAny _ A.in1 (callAny (.ref u) ⟨rest, []⟩) _ _ _
  simp only [callAny]
  refine wpAny_bind (wpAny_load hu ?_)
  simp only [kxs_mw, show (Value.type "method-wrapper" == Value.type "method" || Value.type "method-wrapper" == Value.type "builtin_function_or_method" || Value.type "method-wrapper" == Value.type "method-wrapper") = true by decide, if_true]
  refine KFB.if_so (by decide) ?_
  refine wpAny_bind (check_bound_init F.excBase_ValueError.toExcCallFacts hC he rfl ?_)
  refine wpAny_bind (wpAny_pure (wpAny_pure ?_))
  refine ⟨plainId_quiet F.excBase_ValueError.init.plain _, codeAny_builtin F.excBase_ValueError.initEntry ?_⟩
  exact exc_init_tree (cls := .ref C) (t0 := t0) (dv := none) (c2 := .none) (c3 := .none) (b4 := .bool false) he hz fun h' k e' _ => hq h' h.objs.size k e'

/-- super() and its __init__, as the frame of the class's own __init__ has them -/
theorem sup_expr {h : Heap} {g : Array GenState} {d : Drawn} {t : Nat} {os : OsState} {L x t0 cda cc : Addr} {m : Str → Option Value} {es : List Expr} {a1 a2 a3 a5 : Pos} {Q : Value → Shared → Prop} {ar : Arg} {oc : Value} {od : Option Addr} {doc pm : Value} {an : Option Addr} {ct : Value} {osl : Array (Option Value)} {pl : Sem Bool}
    {ccl : Value} {cdd : Option Addr} {vs : Array Value} {ccs : Array (Option Value)} {tf : Tok} {cl : Value} {cld : Option Addr} {csl : Array (Option Value)}
    (S : SupC K file C fI qual params body scope) (X : K.In h) (G : SupG h mg mb) (hx : h.get? x = some (excO C t0)) (hL : h.Ns L m)
    (hf : K.lookup fI = some ⟨oc, od, .func (ksFn "__init__" qual params body scope .none .none doc pm an (.ref cda) ct cc), osl⟩) (hcode : K.lookup cda = some ⟨ccl, cdd, .fields vs, ccs⟩) (hvs : vs[2]? = some (.str file tf)) (hcell : K.lookup cc = some ⟨cl, cld, .cell (some (.ref C)), csl⟩)
    (hfile : ((prog.main.file : Str) == file) = true) (htop : (prog.main.scope.names.lookup ("super" : Str)).isSome = false)
    (hp : (params.posonlyargs ++ params.args).head? = some ar) (hself : m ar.arg = some (.ref x)) (hks : scope.names.lookup ("super" : Str) = some .globalImplicit) (hkc : scope.names.lookup ("__class__" : Str) = some .free) (hka : scope.names.lookup ar.arg = some .local) (hk : scope.kind = .function)
    (h1 : ∀ u h1 t1, (∀ b o, h.get? b = some o → h1.get? b = some o) → h1.get? u = some (kxs_mw "ValueError.__init__" x) →
      wpAny (model prog w) A (callWith a5 (.ref u) [] (backTo a5 (starEach es (ksEnv qual scope L fI (.ref cda) cc))) []) Q E ⟨h1, g, d, t1, os⟩)
    (he : eval (.Call (.Attribute (.Call (.Name "super" a1) [] [] a2) "__init__" a3) es [] a5) (ksEnv qual scope L fI (.ref cda) cc) = (do
      let ov ← attributeBase (.Call (.Name "super" a1) [] [] a2) "__init__" (ksEnv qual scope L fI (.ref cda) cc) (eval (.Call (.Name "super" a1) [] [] a2) (ksEnv qual scope L fI (.ref cda) cc))
      standAt a3.atName
      let (f, first) ← holding [ov] (getMethod ov "__init__" pl)
      callWith a5 f first (backTo a5 (starEach es (ksEnv qual scope L fI (.ref cda) cc))) [])) :
    _root_.PySem.wpAt (model prog w) A (.func body (ksEnv qual scope L fI (.ref cda) cc)) (eval (.Call (.Attribute (.Call (.Name "super" a1) [] [] a2) "__init__" a3) es [] a5) (ksEnv qual scope L fI (.ref cda) cc)) Q E ⟨h, g, d, t, os⟩ := by
  obtain ⟨nm, q, N, bs, bm, sn, sub, ab, col, dd, k0, k1, k2, k3, k5, hC, hbm, hal⟩ := S.cls
  have hD1 := X _ _ hC
  refine ks_wpAt_MethodCall (pl := pl) ?_ he
  refine ks_wpAt_super_base (env := ksEnv qual scope L fI (.ref cda) cc) hks hkc (by decide) rfl (X _ _ hf) rfl hp rfl (X _ _ hcode) rfl hvs hfile htop ?_
  refine ks_loadName_global hk hks (loadGlobal_builtin (env := ksEnv qual scope L fI (.ref cda) cc) G.g G.mg G.b G.mb ⟨rfl, ?_⟩)
  refine wpAny_loadName_free hk hkc rfl ⟨_, X _ _ hcell, rfl⟩ ?_
  refine wpAny_loadName_local hk hka hL hself ?_
  refine ks_wpAny_isType_cls hD1 rfl ⟨rfl, ?_⟩
  refine ks_wpAny_call_super hD1 rfl hx rfl (fun c e => by cases (show Data.fields _ = Data.cls c from e)) (looks_mroIn X S.self) (fun h' e k => ?_)
  have X' : K.In h' := X.keeps k
  have hx' := k _ _ hx
  have I : InstAt h' x (excO C t0) C none := ⟨hx', rfl, rfl, trivial⟩
  have hcl : clsIn K C = some { name := nm, bases := bs, mro := .ref C :: bm, ns := N, qualname := q, hasDict := true, slotNames := sn, subclasses := sub, abstract := ab, collection := col, hasDel := false } := by unfold clsIn; rw [hC] <;> rfl
  have hmro : Looks (model prog w) h' (mroOf (.ref C)) (.ref C :: bm) := fun A Q E s k q => wpAny_bind ((looks_clsIn X' hcl) A _ E s k (wpAny_pure q))
  refine kxs_getMethod kxs_ValueError e (looks_opaque X' S.op) hmro (l := bm) (by simp [List.dropWhile_cons]) X' hal (I.type.andThen (looks_subIn X' S.veC)) (ks_ne X' I hcl) (by decide) ?_
  refine h1 _ _ _ (fun b o z => Heap.get?_push_of_some _ (k b o z)) (Heap.get?_push_at rfl rfl)
end
end Eng
set_option Elab.async false
set_option linter.all false
set_option maxRecDepth 100000
set_option maxHeartbeats 2000000
/-! Eng 17: an error class of the package, made -/
namespace Eng
open PySem PySem.Spec PySem.W PySem.Calls PyProof.Rows PySem.HandSPX

/-- an exception is made: at e, its dict at d -/
structure XMade (h h' : Heap) (e C d : Addr) (mA : Str → Option Value) : Prop where
  keep : ∀ b o, h.get? b = some o → h'.get? b = some o
  new : h.objs.size ≤ e
  obj : ∃ t1 : Addr, h'.get? e = some ({ cls := .ref C, dict := some d, data := .fields #[.ref t1, .none, .none, .none, .bool false, .none] } : Obj)
  dbig : h.objs.size ≤ d
  dne : d ≠ e
  ns : h'.Ns1 d mA
/-- what an __init__ leaves of a fresh exception at x -/
structure XInit (h h' : Heap) (x C dx : Addr) (mA : Str → Option Value) : Prop where
  keep : ∀ b o, b ≠ x → h.get? b = some o → h'.get? b = some o
  obj : ∃ t1 : Addr, h'.get? x = some ({ cls := .ref C, dict := some dx, data := .fields #[.ref t1, .none, .none, .none, .bool false, .none] } : Obj)
  dbig : h.objs.size ≤ dx
  dne : dx ≠ x
  ns : h'.Ns1 dx mA
section
variable {prog : Program} {w : World} {A : Around} {E : Value → Shared → Prop} {R : Result → Shared → Prop} {s : Shared} {K : Frag} {file : Str} {C fI : Addr} {qual : Str} {params : Arguments} {body : List Stmt} {scope : Scope} {mg mb : Str → Option Value}
/-- from its __init__ to the class called -/
theorem made_of (S : SupC K file C fI qual params body scope) {us : List Value} {mA : Str → Option Value} (X : K.In s.heap) (hlim : s.heap.NoLimit) (hz : us.length ≤ sizeLine)
    (hi : ∀ (A : Around) (R : Result → Shared → Prop) (s' : Shared) (x t0 : Addr), A.depth = A.depth → K.In s'.heap → s'.heap.NoLimit → s'.heap.get? x = some (excO C t0) → (∀ b o, s.heap.get? b = some o → s'.heap.get? b = some o) → s.heap.objs.size ≤ x →
      (∀ h' tk dx, XInit s'.heap h' x C dx mA → R (.ok (.ret .none)) { s' with heap := h', toks := tk }) → (A.depth < recursionLimit) → codeAny (model prog w) A (.call (.ref fI) ⟨.ref x :: us, []⟩) R s') (hroom : A.depth + 1 < recursionLimit)
    (hq : ∀ h' tk e d, XMade s.heap h' e C d mA → R (.ok (.ret (.ref e))) { s with heap := h', toks := tk }) : codeAny (model prog w) A (.call (.ref C) ⟨us, []⟩) R s := by
  obtain ⟨nm, q, N, bs, bm, sn, sub, ab, col, dd, k0, k1, k2, k3, k5, hC, hbm, hal⟩ := S.cls
  obtain ⟨hp, g, dr, tk, os⟩ := s
  have k : ∀ b o, hp.get? b = some o → ((hp.push (kdv_tup us)).push (excO C hp.objs.size)).get? b = some o := fun b o e => Heap.get?_push_of_some _ (Heap.get?_push_of_some _ e)
  have hget : ((hp.push (kdv_tup us)).push (excO C hp.objs.size)).get? (hp.objs.size + 1) = some (excO C hp.objs.size) := by heap_get
  refine call_own F.excBase_ValueError (fun Y => refsVE_contains Y bm hbm) (X _ _ hC) (looks_findIn X S.iC) (fun self => bind_fn X self S.tI) hz ?_
  refine hi _ _ ⟨(hp.push (kdv_tup us)).push (excO C hp.objs.size), g, dr, tk, os⟩ (hp.objs.size + 1) hp.objs.size rfl (X.keeps k) (hlim.keeps k) hget k (Nat.le_succ _) (fun h' tk' dx M => ?_) hroom
  have z : hp.objs.size + 1 + 1 ≤ dx := by
    have q := M.dbig
    rw [Heap.size_push, Heap.size_push] at q
    exact q
  exact ⟨rfl, hq h' tk' (hp.objs.size + 1) dx ⟨fun b o e => M.keep b o (Nat.ne_of_lt (Nat.lt_succ_of_lt (Heap.lt_size e))) (k b o e), Nat.le_succ _, M.obj, by show hp.objs.size ≤ dx; omega, M.dne, M.ns⟩⟩
/-- the statement super().__init__(p, ..) walked in the frame -/
theorem sup_stmt {h : Heap} {g : Array GenState} {d : Drawn} {t : Nat} {os : OsState} {L x t0 cda cc : Addr} {m : Str → Option Value} {es : List Expr} {a1 a2 a3 a5 a6 : Pos} {us : List Value} {rest : List Stmt} {Q : Flow → Shared → Prop} {ar : Arg} {oc : Value} {od : Option Addr} {doc pm : Value} {an : Option Addr} {ct : Value} {osl : Array (Option Value)}
    {ccl : Value} {cdd : Option Addr} {vs : Array Value} {ccs : Array (Option Value)} {tf : Tok} {cl : Value} {cld : Option Addr} {csl : Array (Option Value)} {pl : Sem Bool}
    (S : SupC K file C fI qual params body scope) (X : K.In h) (G : SupG h mg mb) (hx : h.get? x = some (excO C t0)) (hxL : L ≠ x) (hL : h.Ns L m)
    (hf : K.lookup fI = some ⟨oc, od, .func (ksFn "__init__" qual params body scope .none .none doc pm an (.ref cda) ct cc), osl⟩) (hcode : K.lookup cda = some ⟨ccl, cdd, .fields vs, ccs⟩) (hvs : vs[2]? = some (.str file tf)) (hcell : K.lookup cc = some ⟨cl, cld, .cell (some (.ref C)), csl⟩)
    (hfile : ((prog.main.file : Str) == file) = true) (htop : (prog.main.scope.names.lookup ("super" : Str)).isSome = false)
    (hp : (params.posonlyargs ++ params.args).head? = some ar) (hself : m ar.arg = some (.ref x)) (hks : scope.names.lookup ("super" : Str) = some .globalImplicit) (hkc : scope.names.lookup ("__class__" : Str) = some .free) (hka : scope.names.lookup ar.arg = some .local) (hk : scope.kind = .function)
    (he : eval (.Call (.Attribute (.Call (.Name "super" a1) [] [] a2) "__init__" a3) es [] a5) (ksEnv qual scope L fI (.ref cda) cc) = (do
      let ov ← attributeBase (.Call (.Name "super" a1) [] [] a2) "__init__" (ksEnv qual scope L fI (.ref cda) cc) (eval (.Call (.Name "super" a1) [] [] a2) (ksEnv qual scope L fI (.ref cda) cc))
      standAt a3.atName
      let (f, first) ← holding [ov] (getMethod ov "__init__" pl)
      callWith a5 f first (backTo a5 (starEach es (ksEnv qual scope L fI (.ref cda) cc))) []))
    (hpl : (backTo a5 (starEach es (ksEnv qual scope L fI (.ref cda) cc))).any (·.1) = false) (hz : us.length ≤ sizeLine)
    (ha : ∀ (s1 : Shared) (Q1 : Args → Shared → Prop) (E1 : Value → Shared → Prop) (u : Addr), s1.heap.Ns L m → Q1 ⟨us, []⟩ s1 → wpAny (model prog w) A (evalArgs (.ref u) true (backTo a5 (starEach es (ksEnv qual scope L fI (.ref cda) cc))) []) Q1 E1 s1)
    (hsw : swapsWith (.Call (.Attribute (.Call (.Name "super" a1) [] [] a2) "__init__" a3) es [] a5) none a6.line (ksEnv qual scope L fI (.ref cda) cc) = pure false) (hin : interactive (ksEnv qual scope L fI (.ref cda) cc) = false)
    (hq : ∀ h' t1 tk, (∀ b o, b ≠ x → h.get? b = some o → h'.get? b = some o) → h'.get? x = some (excO C t1) → h'.Ns L m →
      _root_.PySem.wpAt (model prog w) A (.func body (ksEnv qual scope L fI (.ref cda) cc)) (execs rest (ksEnv qual scope L fI (.ref cda) cc)) Q E ⟨h', g, d, tk, os⟩) :
    _root_.PySem.wpAt (model prog w) A (.func body (ksEnv qual scope L fI (.ref cda) cc)) (execs (.Expr (.Call (.Attribute (.Call (.Name "super" a1) [] [] a2) "__init__" a3) es [] a5) a6 :: rest) (ksEnv qual scope L fI (.ref cda) cc)) Q E ⟨h, g, d, t, os⟩ := by
  obtain ⟨nm, q, N, bs, bm, sn, sub, ab, col, dd, k0, k1, k2, k3, k5, hC, hbm, hal⟩ := S.cls
  refine ks_wpAt_execs_cons (ks_wpAt_Expr_any ?_ hin hsw)
  refine sup_expr S X G hx hL hf hcode hvs hcell hfile htop hp hself hks hkc hka hk (fun u h1 t1 k1 hu => ?_) he
  refine kxs_callWith (i := "ValueError.__init__") (x := x) hpl ?_
  refine ha _ _ _ u (hL.keeps k1) ⟨hu, ?_⟩
  rw [List.nil_append]
  refine bw_call (X.keeps k1 _ _ hC) (k1 _ _ hx) hu hz fun h2 t2 k2 hx2 => ?_
  refine hq h2 t2 _ (fun b o hb e => k2 b o hb (k1 b o e)) hx2 ?_
  obtain ⟨o, es', ep, ho, r⟩ := hL.keeps k1
  exact ⟨o, es', ep, k2 _ _ hxL ho, r⟩
/-- self.f = p, the first one -/
theorem sup_set {h : Heap} {g : Array GenState} {d : Drawn} {t : Nat} {os : OsState} {L x t0 cda cc : Addr} {m : Str → Option Value} {f p : Str} {v : Value} {b1 b2 b3 b4 : Pos} {rest : List Stmt} {Q : Flow → Shared → Prop}
    (S : SupC K file C fI qual params body scope) (X : K.In h) (hx : h.get? x = some (excO C t0)) (hxL : L ≠ x) (hL : h.Ns L m) (no : findIn K (.ref C) f = some none)
    (hself : m "self" = some (.ref x)) (hv : m p = some v) (hks : scope.names.lookup ("self" : Str) = some .local) (hkp : scope.names.lookup p = some .local) (hk : scope.kind = .function) (hpd : (p == ("__debug__" : Str)) = false)
    (hsw : swapsWith (.Name p b3) (some (.Attribute (.Name "self" b1) f b2)) b4.line (ksEnv qual scope L fI (.ref cda) cc) = pure false)
    (hq : ∀ h' dx tk, (∀ b o, b ≠ x → h.get? b = some o → h'.get? b = some o) → h.objs.size ≤ dx → dx ≠ x → h'.get? x = some ({ cls := .ref C, dict := some dx, data := .fields #[.ref t0, .none, .none, .none, .bool false, .none] } : Obj) → h'.Ns1 dx (fun y => if y = f then some v else none) → h'.Ns L m →
      _root_.PySem.wpAt (model prog w) A (.func body (ksEnv qual scope L fI (.ref cda) cc)) (execs rest (ksEnv qual scope L fI (.ref cda) cc)) Q E ⟨h', g, d, tk, os⟩) :
    _root_.PySem.wpAt (model prog w) A (.func body (ksEnv qual scope L fI (.ref cda) cc)) (execs (.Assign [.Attribute (.Name "self" b1) f b2] (.Name p b3) b4 :: rest) (ksEnv qual scope L fI (.ref cda) cc)) Q E ⟨h, g, d, t, os⟩ := by
  obtain ⟨nm, q, N, bs, bm, sn, sub, ab, col, dd, k0, k1, k2, k3, k5, hC, hbm, hal⟩ := S.cls
  have hcl : clsIn K C = some { name := nm, bases := bs, mro := .ref C :: bm, ns := N, qualname := q, hasDict := true, slotNames := sn, subclasses := sub, abstract := ab, collection := col, hasDel := false } := by unfold clsIn; rw [hC] <;> rfl
  refine ks_wpAt_execs_cons (ks_wpAt_Assign_Attr (wpAt_of_wpAny ?_) hsw)
  refine ESX.ldL (m := m) hL hv (ESX.ldL (m := m) hL hself ?_ hk hks (by decide)) hk hkp hpd
  refine set_plain X (ox := excO C t0) (od := none) ⟨hx, rfl, rfl, trivial⟩ S.sa ?_
  refine exc_osa X hx hcl (show refsVE (.ref C :: bm) = true from hbm) rfl no (fun h3 tk3 dx k dn dne hx3 hn3 => ?_)
  obtain ⟨o, es', ep, ho, r⟩ := id hL
  exact hq h3 dx _ k dn dne hx3 hn3 ⟨o, es', ep, k _ _ hxL ho, r⟩
/-- self.f = p, a further one -/
theorem sup_set2 {h : Heap} {g : Array GenState} {d : Drawn} {t : Nat} {os : OsState} {L x t0 cda cc dx : Addr} {m mA : Str → Option Value} {f p : Str} {v : Value} {b1 b2 b3 b4 : Pos} {rest : List Stmt} {Q : Flow → Shared → Prop} {nl : List Str}
    (S : SupC K file C fI qual params body scope) (X : K.In h) (hx : h.get? x = some ({ cls := .ref C, dict := some dx, data := .fields #[.ref t0, .none, .none, .none, .bool false, .none] } : Obj)) (hns : h.Ns1 dx mA) (hw : Within mA nl) (hz : nl.length ≤ 1000) (hdL : L ≠ dx) (hL : h.Ns L m) (no : findIn K (.ref C) f = some none)
    (hself : m "self" = some (.ref x)) (hv : m p = some v) (hks : scope.names.lookup ("self" : Str) = some .local) (hkp : scope.names.lookup p = some .local) (hk : scope.kind = .function) (hpd : (p == ("__debug__" : Str)) = false)
    (hsw : swapsWith (.Name p b3) (some (.Attribute (.Name "self" b1) f b2)) b4.line (ksEnv qual scope L fI (.ref cda) cc) = pure false)
    (hq : ∀ h' tk, (∀ b o, b ≠ dx → h.get? b = some o → h'.get? b = some o) → h'.Ns1 dx (fun y => if y = f then some v else mA y) → h'.Ns L m →
      _root_.PySem.wpAt (model prog w) A (.func body (ksEnv qual scope L fI (.ref cda) cc)) (execs rest (ksEnv qual scope L fI (.ref cda) cc)) Q E ⟨h', g, d, tk, os⟩) :
    _root_.PySem.wpAt (model prog w) A (.func body (ksEnv qual scope L fI (.ref cda) cc)) (execs (.Assign [.Attribute (.Name "self" b1) f b2] (.Name p b3) b4 :: rest) (ksEnv qual scope L fI (.ref cda) cc)) Q E ⟨h, g, d, t, os⟩ := by
  obtain ⟨nm, q, N, bs, bm, sn, sub, ab, col, dd, k0, k1, k2, k3, k5, hC, hbm, hal⟩ := S.cls
  have hcl : clsIn K C = some { name := nm, bases := bs, mro := .ref C :: bm, ns := N, qualname := q, hasDict := true, slotNames := sn, subclasses := sub, abstract := ab, collection := col, hasDel := false } := by unfold clsIn; rw [hC] <;> rfl
  obtain ⟨oD, _, _, hoD, _, _⟩ := hns.count hw
  refine ks_wpAt_execs_cons (ks_wpAt_Assign_Attr (wpAt_of_wpAny ?_) hsw)
  refine ESX.ldL (m := m) hL hv (ESX.ldL (m := m) hL hself ?_ hk hks (by decide)) hk hkp hpd
  refine set_plain X (ox := { cls := .ref C, dict := some dx, data := .fields #[.ref t0, .none, .none, .none, .bool false, .none] }) (od := some oD) ⟨hx, rfl, rfl, hoD⟩ S.sa ?_
  refine OEX.osa_old X hx hns hw hz hcl (show refsVE (.ref C :: bm) = true from hbm) rfl no (fun h3 tk3 k hn3 => ?_)
  obtain ⟨o, es', ep, ho, r⟩ := id hL
  exact hq h3 _ k hn3 ⟨o, es', ep, k _ _ hdL ho, r⟩
end
end Eng
set_option Elab.async false
set_option linter.all false
set_option maxRecDepth 100000
set_option maxHeartbeats 2000000
/-! Eng 18: an error of one field, of two fields; raise -/
namespace Eng
open PySem PySem.Spec PySem.W PySem.Calls PyProof.Rows PySem.HandSPX

/-- what the text of such an __init__ must say -/
structure SupT (qual : Str) (params : Arguments) (scope : Scope) : Prop where
  hp : ∃ ar, (params.posonlyargs ++ params.args).head? = some ar ∧ ar.arg = ("self" : Str)
  hks : scope.names.lookup ("super" : Str) = some .globalImplicit
  hkc : scope.names.lookup ("__class__" : Str) = some .free
  hse : scope.names.lookup ("self" : Str) = some .local
  hk : scope.kind = .function
  hco : scope.isCoroutine = false
  hgen : scope.isGenerator = false
  hcell : (scope.names.all fun y => decide (y.2 ≠ .cell)) = true
/-- what the statement super().__init__(es) must say -/
structure SupE (qual : Str) (scope : Scope) (a1 a2 a3 a5 a6 : Pos) (es : List Expr) : Prop where
  he : ∀ (L fI cda cc : Addr), ∃ pl, eval (.Call (.Attribute (.Call (.Name "super" a1) [] [] a2) "__init__" a3) es [] a5) (ksEnv qual scope L fI (.ref cda) cc) = (do
      let ov ← attributeBase (.Call (.Name "super" a1) [] [] a2) "__init__" (ksEnv qual scope L fI (.ref cda) cc) (eval (.Call (.Name "super" a1) [] [] a2) (ksEnv qual scope L fI (.ref cda) cc))
      standAt a3.atName
      let (f, first) ← holding [ov] (getMethod ov "__init__" pl)
      callWith a5 f first (backTo a5 (starEach es (ksEnv qual scope L fI (.ref cda) cc))) [])
  sw : ∀ (L fI cda cc : Addr), swapsWith (.Call (.Attribute (.Call (.Name "super" a1) [] [] a2) "__init__" a3) es [] a5) none a6.line (ksEnv qual scope L fI (.ref cda) cc) = pure false
  inn : ∀ (L fI cda cc : Addr), interactive (ksEnv qual scope L fI (.ref cda) cc) = false
theorem SupG.keeps {h h' : Heap} {mg mb : Str → Option Value} (G : SupG h mg mb) (k : ∀ b o, h.get? b = some o → h'.get? b = some o) : SupG h' mg mb := ⟨G.g.keeps k, G.b.keeps k, G.mg, G.mb⟩
theorem in_but {K : Frag} {h0 h h' : Heap} {x : Addr} (X0 : K.In h0) (hx : h0.objs.size ≤ x) (X : K.In h) (k : ∀ b o, b ≠ x → h.get? b = some o → h'.get? b = some o) : K.In h' := fun a o e =>
  k a o (Nat.ne_of_lt (Nat.lt_of_lt_of_le (Heap.lt_size (X0 a o e)) hx)) (X a o e)
section
variable {prog : Program} {w : World} {A : Around} {E : Value → Shared → Prop} {R : Result → Shared → Prop} {s : Shared} {K : Frag} {file : Str} {C fI : Addr} {qual : Str} {params : Arguments} {body : List Stmt} {scope : Scope} {mg mb : Str → Option Value}
/-- an error of one field -/
theorem made1 {p f : Str} {a1 a2 a3 a4 a5 a6 b1 b2 b3 b4 : Pos} {v : Value} (S : SupC K file C fI qual params body scope) (T : SupT qual params scope) (U : SupE qual scope a1 a2 a3 a5 a6 [.Name p a4])
    (hbody : body = [.Expr (.Call (.Attribute (.Call (.Name "super" a1) [] [] a2) "__init__" a3) [.Name p a4] [] a5) a6, .Assign [.Attribute (.Name "self" b1) f b2] (.Name p b3) b4])
    (hb : ∀ (doc pm : Value) (an : Option Addr) (cda : Addr) (ct : Value) (cc : Addr) (u v : Value), bindArgs (ksFn "__init__" qual params body scope .none .none doc pm an (.ref cda) ct cc) ⟨[u, v], []⟩ = pure [(("self" : Str), u), (p, v)])
    (hps : (("self" : Str) == p) = false) (hkp : scope.names.lookup p = some .local) (hpd : (p == ("__debug__" : Str)) = false) (no : findIn K (.ref C) f = some none)
    (hsw : ∀ L cda cc, swapsWith (.Name p b3) (some (.Attribute (.Name "self" b1) f b2)) b4.line (ksEnv qual scope L fI (.ref cda) cc) = pure false)
    (hfile : ((prog.main.file : Str) == file) = true) (htop : (prog.main.scope.names.lookup ("super" : Str)).isSome = false)
    (X : K.In s.heap) (G : SupG s.heap mg mb) (hlim : s.heap.NoLimit) (hroom : A.depth + 1 < recursionLimit)
    (hq : ∀ h' tk e d, XMade s.heap h' e C d (fun y => if y = f then some v else none) → R (.ok (.ret (.ref e))) { s with heap := h', toks := tk }) : codeAny (model prog w) A (.call (.ref C) ⟨[v], []⟩) R s := by
  obtain ⟨oc, od, doc, pm, an, cda, ct, osl, cc, ccl, cdd, vs, ccs, tf, cl, cld, csl, hf, hcd, hcode, hvs, hcel⟩ := S.fn
  obtain ⟨ar, har, hself⟩ := T.hp
  have one : [v].length ≤ sizeLine := by rw [sizeLine_eq]; exact (by decide : 1 ≤ 16777216)
  refine made_of S X hlim one (fun A R s' x t0 _ X' lim' hx' k' hle hq' hroom' => ?_) hroom hq
  obtain ⟨h0, g, d, t, os⟩ := s'
  have bnd := hb doc pm an cda ct cc (.ref x) v
  subst hbody
  refine ks_codeAny_call_defAt (fd := ksFn "__init__" qual params _ scope .none .none doc pm an (.ref cda) ct cc) (binds := [("self", .ref x), (p, v)]) hroom' (X' _ _ hf) rfl lim' (codeRec_of X' hcd) rfl (BindsTo.of_eq bnd)
    (fun y hy => of_decide_eq_true (List.all_eq_true.mp T.hcell y hy)) (fun y hy => ?_) (fun h1 hns k1 => ?_) T.hco T.hgen T.hk
  · rcases List.mem_cons.mp hy with rfl | hy
    · exact T.hse
    · rw [List.mem_singleton.mp hy]
      exact hkp
  · have hxL : h0.objs.size ≠ x := Nat.ne_of_gt (Heap.lt_size hx')
    have mself : ([("self", Value.ref x), (p, v)] : List (Str × Value)).reverse.lookup ("self" : Str) = some (Value.ref x) := by
      show (match ("self" : Str) == p with | true => some v | false => ([("self", Value.ref x)] : List (Str × Value)).lookup ("self" : Str)) = some (Value.ref x)
      rw [hps]
      rfl
    have mp : ([("self", Value.ref x), (p, v)] : List (Str × Value)).reverse.lookup p = some v := by
      show (match p == p with | true => some v | false => ([("self", Value.ref x)] : List (Str × Value)).lookup p) = some v
      rw [beq_self_eq_true]
    obtain ⟨pl, he⟩ := U.he h0.objs.size fI cda cc
    refine sup_stmt (us := [v]) (pl := pl) S (X'.keeps k1) ((G.keeps k').keeps k1) (k1 _ _ hx') hxL hns hf hcode hvs hcel hfile htop har (by rw [hself]; exact mself) T.hks T.hkc (by rw [hself]; exact T.hse) T.hk he rfl one (fun s1 Q1 E1 u hL q1 => ?_) (U.sw _ _ _ _) (U.inn _ _ _ _) fun h2 t1 tk2 k2 hx2 hL2 => ?_
    · refine Calls.evalArgs_plain (Calls.spliced_cons (ESX.ldL hL mp (Calls.spliced_nil q1) T.hk hkp hpd))
    · have X2 : K.In h2 := in_but X hle (X'.keeps k1) k2
      refine sup_set S X2 hx2 hxL hL2 no mself mp T.hse hkp T.hk hpd (hsw _ _ _) fun h3 dx tk3 k3 dn dne hx3 hn3 hL3 => ?_
      refine wpAt_of_wpAny (wpAny_execs_nil (hq' h3 tk3 dx ⟨fun b o hb e => k3 b o hb (k2 b o hb (k1 b o e)), ⟨t1, hx3⟩, ?_, dne, hn3⟩))
      have z : h0.objs.size < h2.objs.size := hL2.lt
      show h0.objs.size ≤ dx
      exact Nat.le_of_lt (Nat.lt_of_lt_of_le z dn)
/-- an error of two fields -/
theorem made2 {p q f f' : Str} {a1 a2 a3 a4 a4' a5 a6 b1 b2 b3 b4 c1 c2 c3 c4 : Pos} {v v' : Value} (S : SupC K file C fI qual params body scope) (T : SupT qual params scope) (U : SupE qual scope a1 a2 a3 a5 a6 [.Name p a4, .Name q a4'])
    (hbody : body = [.Expr (.Call (.Attribute (.Call (.Name "super" a1) [] [] a2) "__init__" a3) [.Name p a4, .Name q a4'] [] a5) a6, .Assign [.Attribute (.Name "self" b1) f b2] (.Name p b3) b4, .Assign [.Attribute (.Name "self" c1) f' c2] (.Name q c3) c4])
    (hb : ∀ (doc pm : Value) (an : Option Addr) (cda : Addr) (ct : Value) (cc : Addr) (u v v' : Value), bindArgs (ksFn "__init__" qual params body scope .none .none doc pm an (.ref cda) ct cc) ⟨[u, v, v'], []⟩ = pure [(("self" : Str), u), (p, v), (q, v')])
    (hps : (("self" : Str) == p) = false) (hqs : (("self" : Str) == q) = false) (hpq : (p == q) = false) (hkp : scope.names.lookup p = some .local) (hkq : scope.names.lookup q = some .local) (hpd : (p == ("__debug__" : Str)) = false) (hqd : (q == ("__debug__" : Str)) = false)
    (no : findIn K (.ref C) f = some none) (no' : findIn K (.ref C) f' = some none)
    (hsw : ∀ L cda cc, swapsWith (.Name p b3) (some (.Attribute (.Name "self" b1) f b2)) b4.line (ksEnv qual scope L fI (.ref cda) cc) = pure false)
    (hsw' : ∀ L cda cc, swapsWith (.Name q c3) (some (.Attribute (.Name "self" c1) f' c2)) c4.line (ksEnv qual scope L fI (.ref cda) cc) = pure false)
    (hfile : ((prog.main.file : Str) == file) = true) (htop : (prog.main.scope.names.lookup ("super" : Str)).isSome = false)
    (X : K.In s.heap) (G : SupG s.heap mg mb) (hlim : s.heap.NoLimit) (hroom : A.depth + 1 < recursionLimit)
    (hq : ∀ h' tk e d, XMade s.heap h' e C d (fun y => if y = f' then some v' else if y = f then some v else none) → R (.ok (.ret (.ref e))) { s with heap := h', toks := tk }) : codeAny (model prog w) A (.call (.ref C) ⟨[v, v'], []⟩) R s := by
  obtain ⟨oc, od, doc, pm, an, cda, ct, osl, cc, ccl, cdd, vs, ccs, tf, cl, cld, csl, hf, hcd, hcode, hvs, hcel⟩ := S.fn
  obtain ⟨ar, har, hself⟩ := T.hp
  have two : [v, v'].length ≤ sizeLine := by rw [sizeLine_eq]; exact (by decide : 2 ≤ 16777216)
  refine made_of S X hlim two (fun A R s' x t0 _ X' lim' hx' k' hle hq' hroom' => ?_) hroom hq
  obtain ⟨h0, g, d, t, os⟩ := s'
  have bnd := hb doc pm an cda ct cc (.ref x) v v'
  subst hbody
  refine ks_codeAny_call_defAt (fd := ksFn "__init__" qual params _ scope .none .none doc pm an (.ref cda) ct cc) (binds := [("self", .ref x), (p, v), (q, v')]) hroom' (X' _ _ hf) rfl lim' (codeRec_of X' hcd) rfl (BindsTo.of_eq bnd)
    (fun y hy => of_decide_eq_true (List.all_eq_true.mp T.hcell y hy)) (fun y hy => ?_) (fun h1 hns k1 => ?_) T.hco T.hgen T.hk
  · rcases List.mem_cons.mp hy with rfl | hy
    · exact T.hse
    · rcases List.mem_cons.mp hy with rfl | hy
      · exact hkp
      · rw [List.mem_singleton.mp hy]
        exact hkq
  · have hxL : h0.objs.size ≠ x := Nat.ne_of_gt (Heap.lt_size hx')
    have mself : ([("self", Value.ref x), (p, v), (q, v')] : List (Str × Value)).reverse.lookup ("self" : Str) = some (Value.ref x) := by
      show (match ("self" : Str) == q with | true => some v' | false => (match ("self" : Str) == p with | true => some v | false => ([("self", Value.ref x)] : List (Str × Value)).lookup ("self" : Str))) = some (Value.ref x)
      rw [hqs, hps]
      rfl
    have mp : ([("self", Value.ref x), (p, v), (q, v')] : List (Str × Value)).reverse.lookup p = some v := by
      show (match p == q with | true => some v' | false => (match p == p with | true => some v | false => ([("self", Value.ref x)] : List (Str × Value)).lookup p)) = some v
      rw [hpq, beq_self_eq_true]
    have mq : ([("self", Value.ref x), (p, v), (q, v')] : List (Str × Value)).reverse.lookup q = some v' := by
      show (match q == q with | true => some v' | false => (match q == p with | true => some v | false => ([("self", Value.ref x)] : List (Str × Value)).lookup q)) = some v'
      rw [beq_self_eq_true]
    obtain ⟨pl, he⟩ := U.he h0.objs.size fI cda cc
    refine sup_stmt (us := [v, v']) (pl := pl) S (X'.keeps k1) ((G.keeps k').keeps k1) (k1 _ _ hx') hxL hns hf hcode hvs hcel hfile htop har (by rw [hself]; exact mself) T.hks T.hkc (by rw [hself]; exact T.hse) T.hk he rfl two (fun s1 Q1 E1 u hL q1 => ?_) (U.sw _ _ _ _) (U.inn _ _ _ _) fun h2 t1 tk2 k2 hx2 hL2 => ?_
    · exact Calls.evalArgs_plain (Calls.spliced_cons (ESX.ldL hL mp (Calls.spliced_cons (ESX.ldL hL mq (Calls.spliced_nil q1) T.hk hkq hqd)) T.hk hkp hpd))
    · have X2 : K.In h2 := in_but X hle (X'.keeps k1) k2
      refine sup_set S X2 hx2 hxL hL2 no mself mp T.hse hkp T.hk hpd (hsw _ _ _) fun h3 dx tk3 k3 dn dne hx3 hn3 hL3 => ?_
      have X3 : K.In h3 := in_but X hle X2 k3
      have z : h0.objs.size < h2.objs.size := hL2.lt
      have hdL : h0.objs.size ≠ dx := Nat.ne_of_lt (Nat.lt_of_lt_of_le z dn)
      refine sup_set2 (nl := [f]) S X3 hx3 hn3 (fun y hy => ?_) (by simp) hdL hL3 no' mself mq T.hse hkq T.hk hqd (hsw' _ _ _) fun h4 tk4 k4 hn4 hL4 => ?_
      · by_cases e : y = f
        · rw [e]; exact List.mem_cons_self
        · exact absurd (if_neg e) hy
      · refine wpAt_of_wpAny (wpAny_execs_nil (hq' h4 tk4 dx ⟨fun b o hb e => ?_, ⟨t1, k4 _ _ dne.symm hx3⟩, ?_, dne, hn4⟩))
        · have e2 := k2 b o hb (k1 b o e)
          refine k4 b o (fun z => ?_) (k3 b o hb e2)
          rw [z] at e2
          exact absurd (Heap.lt_size e2) (Nat.not_lt_of_le dn)
        · show h0.objs.size ≤ dx
          exact Nat.le_of_lt (Nat.lt_of_lt_of_le z dn)
end
end Eng
set_option Elab.async false
set_option linter.all false
set_option maxRecDepth 100000
set_option maxHeartbeats 2000000
/-! Eng 19: raise C(..) -/
namespace Eng
open PySem PySem.Spec PyProof.Rows L2

/-- what the module has ready -/
structure Gnd (h : Heap) (mg : Str → Option Value) : Prop where
  g : h.Ns mainGlobals mg
  b : ∃ mb, h.Ns builtinsNs mb ∧ ∀ x : Str, x ≠ "__name__" → mb x = bootBuiltins x
  nolimit : h.NoLimit
/-- the error class x of the package, called with n values, is made with the fields fs -/
structure XcOk (P : Program) (w : World) (K : PySem.W.Frag) (mg : Str → Option Value) (x : Str) (n : Nat) (fs : List V → List (Str × V)) : Prop where
  made : ∀ (A : Around) (R : Result → Shared → Prop) (s : Shared) (us : List Value), us.length = n → K.In s.heap → Gnd s.heap mg → A.depth + 1 < recursionLimit →
    (∀ h' tk e d mA, XMade s.heap h' e (He.ga K x) d mA → (∀ vs, Vals vs us → ∀ f, RelO ((fs vs).lookup f) (mA f)) → R (.ok (.ret (.ref e))) { s with heap := h', toks := tk }) → codeAny (model P w) A (.call (.ref (He.ga K x)) ⟨us, []⟩) R s
  mg : mg x = some (.ref (He.ga K x))
  kp : PySem.W.keepIn K (.ref (He.ga K x)) = true
  exC : PySem.W.subIn K (.ref (He.ga K x)) (.type "BaseException") = some true
  tyC : PySem.W.typeIn K (.ref (He.ga K x)) = some (.type "type")
section
variable {X : Cx} {W : WW} {C : Calls}
theorem Inv.gnd {pins : List (Addr × Obj)} {σ : L2.St} {H : Hp} {s : Shared} (I : Inv X pins σ H s) : Gnd s.heap X.mg :=
  ⟨I.ok.mod.glob.keeps I.bk, let ⟨mb, h1, h2⟩ := I.ok.mod.blt; ⟨mb, h1.keeps I.bk, h2⟩, I.nolimit⟩
/-- the end of it: the exception is let go, its dict stands -/
theorem mk_made {pins : List (Addr × Obj)} {σ : L2.St} {H1 : Hp} {hp h' : Heap} {g : Array GenState} {dr : Drawn} {tk tk' : Nat} {os : OsState} {Cl e d : Addr} {mA : Str → Option Value} {fs : List (Str × V)} {Q : XK} (I1 : Inv X pins σ H1 ⟨hp, g, dr, tk, os⟩) (M : XMade hp h' e Cl d mA) (rel : ∀ f, RelO (fs.lookup f) (mA f))
    (hr : Raises X (.ref Cl)) (q : H1 d = none → Q (.ref Cl) (some d) (L2.upd H1 d (.xd fs))) : MkP X pins σ Q (.ref e) ⟨h', g, dr, tk', os⟩ := by
  obtain ⟨t1, hoe⟩ := M.obj
  have hns := M.ns
  obtain ⟨G', g1, g2⟩ := restrict h' fun b => decide (b ≠ e)
  have gk : ∀ b, b ≠ e → G'.get? b = h'.get? b := fun b hb => g1 b (decide_eq_true hb)
  have ge : G'.get? e = none := g2 e (by simp)
  have old : ∀ b o, hp.get? b = some o → G'.get? b = some o := fun b o z => (gk b (Nat.ne_of_lt (Nat.lt_of_lt_of_le (Heap.lt_size z) M.new))).trans (M.keep b o z)
  have ob : ObjOk X.prog X.w (L2.upd H1 d (.xd fs)) G' d (.xd fs) := ⟨mA, hns.at (fun o z => (gk d M.dne).trans z), rel⟩
  have J : Inv X pins σ (L2.upd H1 d (.xd fs)) ⟨G', g, dr, tk', os⟩ := I1.laid (t' := tk') old M.dbig ob
  refine ⟨e, _, _, ⟨G', g, dr, tk', os⟩, _, .ref Cl, some d, rfl, J, fun b o z => ?_, ge, hoe, ⟨rfl, rfl⟩, rfl, rfl, ?_, rfl, I1.bare, hr, q (I1.hok.fresh M.dbig)⟩
  · by_cases hb : b = e
    · rw [hb] at z
      rw [ge] at z
      cases z
    · exact (gk b hb).symm.trans z
  · rw [upd_ne (Ne.symm M.dne)]
    exact I1.hok.fresh M.new
def tMkX (c : Addr) (n : Nat) (fs : List V → List (Str × V)) (ta : TA) : L2.St → Hp → XK → Prop := fun σ H Q => ta σ H fun vs H1 => vs.length = n ∧ ∀ d, H1 d = none → Q (.ref c) (some d) (L2.upd H1 d (.xd (fs vs)))
theorem pmk_xc {k n : Nat} {x : Str} {fs : List V → List (Str × V)} {a : Expr} {as : List Expr} {ta : TA} {p pos : Pos} (h : XcOk X.prog X.w X.K X.mg x n fs) (hr : Room k X.A) (hg : Gl X x) (ha : PA X (a :: as) ta) (ok : okA a = true) (oks : okAs as = true) (hd : (x == ("__debug__" : Str)) = false) :
    PMk X (.Call (.Name x p) (a :: as) [] pos) (tMkX (He.ga X.K x) n fs ta) := by
  intro pins s σ H Q I hw
  refine wpAny_Call_Name_kw (ld_glob I hg h.mg ?_ hd)
  refine PySem.W.callWith_K (h₀ := X.base) I.ok.mod.kin h.kp (thn (ha.run pos pins s σ H _ I hw) fun us s1 ⟨vs, H1, I1, r1, hl, q1⟩ => ⟨I1.kIn, ?_⟩) (okA_star ok) (okAs_plain oks)
  have gnd := Inv.gnd I1
  obtain ⟨hp, g, dr, tk, os⟩ := s1
  refine wpAny_call (h.made _ _ ⟨hp, g, dr, tk, os⟩ us (by rw [← r1.length]; exact hl) I1.kIn gnd (by have := hr.dp; omega) fun h' tk' e d mA M rel => ?_)
  exact mk_made I1 M (rel vs r1) (raises_own h.exC h.tyC) (q1 d)
/-- an error class without an __init__ of its own, called with nothing -/
structure Xc0 (K : PySem.W.Frag) (mg : Str → Option Value) (x : Str) : Prop where
  ex : PySem.W.excIn K (He.ga K x) He.veBase "ValueError.__new__" = true
  mg : mg x = some (.ref (He.ga K x))
  kp : PySem.W.keepIn K (.ref (He.ga K x)) = true
  exC : PySem.W.subIn K (.ref (He.ga K x)) (.type "BaseException") = some true
  tyC : PySem.W.typeIn K (.ref (He.ga K x)) = some (.type "type")
theorem pmk_xc0 {x : Str} {p pos : Pos} (h : Xc0 X.K X.mg x) (hg : Gl X x) (hd : (x == ("__debug__" : Str)) = false) : PMk X (.Call (.Name x p) [] [] pos) (fun _ H Q => Q (.ref (He.ga X.K x)) none H) := by
  intro pins s σ H Q I hw
  refine wpAny_Call_Name_kw (ld_glob I hg h.mg ?_ hd)
  refine PySem.W.callWith_K0 I.kIn h.kp ?_
  obtain ⟨bm, N, nm, qn, bs, hdct, sn, sub, ab, col, dd, k0, k1, k2, k3, k5, mN, hC, hN, hni, T⟩ := exc_obj I.kIn h.ex
  refine wpAny_call_exc_subT F.excBase_ValueError T hC hN hni (fun h' e hm => ?_) (Nat.zero_le _)
  exact mk_of I hm (raises_own h.exC h.tyC) hw (I.hok.gone hm.new)
theorem reps_rev_zip {K : PySem.W.Frag} {F : Hp} {T : List Addr} {vs : List V} {ds : List D} (r : Reps K F T vs ds) {ks : List Str} (hl : ks.length = vs.length) : ((ks.zip vs.reverse).map (·.1) = ks) ∧ Reps K F T ((ks.zip vs.reverse).map (·.2)) ds.reverse := by
  have l2 : ks.length = vs.reverse.length := by rw [List.length_reverse]; exact hl
  constructor
  · exact List.map_fst_zip (Nat.le_of_eq l2)
  · rw [List.map_snd_zip (Nat.le_of_eq l2.symm)]
    exact r.reverse
theorem ss_rais {k : Nat} {x : Str} {ks : List Str} {a : Expr} {as : List Expr} {es : Es} {p pos pos2 : Pos} (hc : X.calm = true) (tk : Takes X W) (h : XcOk X.prog X.w X.K X.mg x ks.length (fun vs => ks.zip vs.reverse)) (hr : Room k X.A) (hg : Gl X x) (ha : PA X (a :: as) (tEs X.K W C es)) (ok : okA a = true) (oks : okAs as = true) (hd : (x == ("__debug__" : Str)) = false) :
    PS X (.Raise (some (.Call (.Name x p) (a :: as) [] pos)) none pos2) (tSt X.K W C (.rais x ks es)) :=
  impS (ps_raise hc tk (pmk_xc h hr hg ha ok oks hd)) fun D σ H ⟨F, T, st, env, xx, w, eo, p⟩ => by
    have p : PostS X.K W F T env ((evEs C env es st).bnd fun ds st => chkO (decide (ks.length = ds.length)) (.ex x ks ds.reverse st)) D := p
    refine ⟨F, T, st, env, w, eo, (p.step (R1 := rVs X.K) xx fun _ => eo).mono fun vs H1 ⟨F1, T1, st1, ds, x1, w1, r1, p1⟩ => ?_⟩
    have r1 : Reps X.K F1 T1 vs ds := r1
    cases c : decide (ks.length = ds.length) with
    | false => rw [c] at p1; exact p1.elim
    | true =>
      rw [c] at p1
      have hl : ks.length = vs.length := by rw [r1.length]; exact of_decide_eq_true c
      refine ⟨hl.symm, fun d hd => ?_⟩
      have p1 : PostS X.K W F1 T1 env (.ex x ks ds.reverse st1) D := p1
      obtain ⟨e1, e2⟩ := reps_rev_zip r1 hl
      have x2 : Ext F1 T1 H1 F1 T1 (L2.upd H1 d (.xd (ks.zip vs.reverse))) := Ext.newO hd
      exact p1 (some d) F1 T1 _ σ (.refl _) (.refl _) ((xx.trans x1).trans x2) (w1.newO hd) (.inr ⟨d, _, rfl, upd_same, (w1.free hd).2, e1, e2⟩) fun _ => (eo.ext x1).ext x2
theorem ss_rais0 {x : Str} {p pos pos2 : Pos} (hc : X.calm = true) (tk : Takes X W) (h : Xc0 X.K X.mg x) (hg : Gl X x) (hd : (x == ("__debug__" : Str)) = false) :
    PS X (.Raise (some (.Call (.Name x p) [] [] pos)) none pos2) (tSt X.K W C (.rais x [] .nil)) :=
  impS (ps_raise hc tk (pmk_xc0 h hg hd)) fun D σ H ⟨F, T, st, env, xx, w, eo, p⟩ => by
    have p : PostS X.K W F T env (.ex x [] [] st) D := p
    exact p none F T H σ (.refl _) (.refl _) xx w (.inl ⟨rfl, rfl, rfl⟩) fun _ => eo
end
end Eng
set_option Elab.async false
set_option linter.all false
set_option maxRecDepth 100000
set_option maxHeartbeats 2000000
/-! Eng 20: try, the exception that a clause holds -/
namespace Eng
open PySem PySem.Spec PyProof.Rows L2
section
variable {X : Cx} {W : WW} {C : Calls}
/-- within a try's body -/
def trW (W : WW) (W1 : WX) : WW := ⟨W1, W.x, W.B, true⟩
/-- within a clause -/
def suW (W : WW) (a : Addr) (cls : Value) (d : Option Addr) : WW := ⟨W.W, some ⟨a, cls, d⟩, W.B, false⟩
theorem env_hold {K : PySem.W.Frag} {W : WW} (hx : W.x = none) {a : Addr} {c : Str} {cls : Value} {dx : Option Addr} (ec : cls = .ref (He.ga K c)) {F H : Hp} {T : List Addr} {env : Env} {σ : L2.St} {i : Nat} {ks : List Str} {ds : List D} (eo : EnvOk K W.xi F T H env σ) (r : XRep K F T H ks ds dx) :
    EnvOk K (suW W a cls dx).xi F T H (env.set i (.xc c ks ds)) (σ.set i (some (.ref a))) := by
  refine ⟨fun j s hs => ?_, by rw [List.length_set, List.length_set]; exact eo.len, fun j l d1 d2 p ne h1 h2 h3 h4 => ?_⟩
  · rw [List.getElem?_set] at hs
    split at hs <;> rename_i q
    · subst q
      split at hs <;> rename_i l
      · cases hs
        exact ⟨⟨a, cls, dx⟩, rfl, List.getElem?_set_self (Nat.lt_of_lt_of_le l eo.len), ec, r⟩
      · cases hs
    · rw [List.getElem?_set_ne q]
      have z := eo.at_ j s hs
      cases s with
      | no => trivial
      | val d => exact z
      | own d => exact z
      | xc c ks ds =>
        obtain ⟨y, h1, _⟩ := z
        have h1 : W.x = some y := h1
        rw [hx] at h1
        cases h1
  · have own_of : ∀ {k : Nat} {d3 : D}, (env.set i (.xc c ks ds))[k]? = some (.own d3) → env[k]? = some (.own d3) ∧ i ≠ k := fun {k d3} h => by
      rw [List.getElem?_set] at h
      split at h <;> rename_i q
      · split at h <;> cases h
      · exact ⟨h, q⟩
    obtain ⟨e1, n1⟩ := own_of h1
    obtain ⟨e2, n2⟩ := own_of h2
    rw [List.getElem?_set_ne n1] at h3
    rw [List.getElem?_set_ne n2] at h4
    exact eo.apart j l d1 d2 p ne e1 e2 h3 h4
theorem dropX_get : ∀ {env : Env} {j : Nat} {s : Sl}, (dropX env)[j]? = some s → s = .no ∨ (env[j]? = some s ∧ ∀ c ks ds, s ≠ .xc c ks ds)
  | [], j, s, h => by cases h
  | t :: r, 0, s, h => by
    cases t with
    | xc c ks ds => cases h; exact .inl rfl
    | no => cases h; exact .inl rfl
    | val d => cases h; exact .inr ⟨rfl, fun _ _ _ z => nomatch z⟩
    | own d => cases h; exact .inr ⟨rfl, fun _ _ _ z => nomatch z⟩
  | t :: r, j + 1, s, h => by
    have h : (dropX r)[j]? = some s := by
      cases t <;> exact h
    rcases dropX_get h with e | ⟨e, n⟩
    · exact .inl e
    · exact .inr ⟨e, n⟩
theorem dropX_len : ∀ env : Env, (dropX env).length = env.length
  | [] => rfl
  | t :: r => by
    have := dropX_len r
    cases t <;> (show (dropX r).length + 1 = r.length + 1; rw [this])
theorem env_let {K : PySem.W.Frag} {W : WW} {a : Addr} {cls : Value} {dx : Option Addr} {F H : Hp} {T : List Addr} {env : Env} {σ : L2.St} {i : Nat} (eo : EnvOk K (suW W a cls dx).xi F T H env σ) : EnvOk K W.xi F T H ((dropX env).set i .no) (σ.set i none) := by
  refine ⟨fun j s hs => ?_, by rw [List.length_set, List.length_set, dropX_len]; exact eo.len, fun j l d1 d2 p ne h1 h2 h3 h4 => ?_⟩
  · rw [List.getElem?_set] at hs
    split at hs <;> rename_i q
    · split at hs
      · cases hs; trivial
      · cases hs
    · rw [List.getElem?_set_ne q]
      rcases dropX_get hs with e | ⟨e, n⟩
      · subst e; trivial
      · have z := eo.at_ j s e
        cases s with
        | no => trivial
        | val d => exact z
        | own d => exact z
        | xc c ks ds => exact absurd rfl (n c ks ds)
  · have own_of : ∀ {k : Nat} {d3 : D}, ((dropX env).set i .no)[k]? = some (.own d3) → env[k]? = some (.own d3) ∧ i ≠ k := fun {k d3} h => by
      rw [List.getElem?_set] at h
      split at h <;> rename_i q
      · split at h <;> cases h
      · rcases dropX_get h with e | ⟨e, _⟩
        · cases e
        · exact ⟨e, q⟩
    obtain ⟨e1, n1⟩ := own_of h1
    obtain ⟨e2, n2⟩ := own_of h2
    rw [List.getElem?_set_ne n1] at h3
    rw [List.getElem?_set_ne n2] at h4
    exact eo.apart j l d1 d2 p ne e1 e2 h3 h4

/-! ### e.f, isinstance(e, T) in a clause -/
theorem s_xf {a : Addr} {oe : Obj} {cls : Value} {d : Option Addr} {pn : List (Addr × Obj)} {W' : WX} {B : Bs} {sv : Bool} {i : Nat} {n f : Str} {al : List Str} {p1 pos : Pos} (hz : Zc cls d oe) (hf : ∃ vs, oe.data = .fields vs) (hN : X.N[i]? = some n) (hv : Vis X.env.scope n) (hd : (n == ("__debug__" : Str)) = false) (hcd : (n == ("__classdict__" : Str)) = false)
    (hx : ∀ c ∈ al, XfC X.K (He.ga X.K c) ∧ PySem.W.findIn X.K (.ref (He.ga X.K c)) f = some none) (hb : attributeBase (.Name n p1) f X.env (eval (.Name n p1) X.env) = eval (.Name n p1) X.env) :
    PE (X.suite a ((a, oe) :: pn)) (.Attribute (.Name n p1) f pos) (tE X.K ⟨W', some ⟨a, cls, d⟩, B, sv⟩ C (.xf i al f)) := by
  by_cases hc : ∃ c ∈ al, cls = .ref (He.ga X.K c)
  · obtain ⟨c0, m0, e0⟩ := hc
    have hN' : (X.suite a ((a, oe) :: pn)).N[i]? = some n := hN
    have hv' : Vis (X.suite a ((a, oe) :: pn)).env.scope n := hv
    refine impE (pe_xf (C := He.ga X.K c0) (hx c0 m0).1 (hx c0 m0).2 hz hf (pe_var hN' hv' hd hcd) hb) fun σ H Q ⟨F, T, st, env, w, eo, p⟩ => ?_
    have p : Post X.K ⟨W', some ⟨a, cls, d⟩, B, sv⟩ σ F T H (rV X.K) (match env[i]? with | some (.xc c ks ds) => chkO (decide (c ∈ al)) (ofO (fldD f ks ds) st) | _ => .bad) Q := p
    cases e : env[i]? with
    | none => rw [e] at p; exact p.elim
    | some s =>
      rw [e] at p
      cases s with
      | xc c ks ds =>
        have p : Post X.K ⟨W', some ⟨a, cls, d⟩, B, sv⟩ σ F T H (rV X.K) (chkO (decide (c ∈ al)) (ofO (fldD f ks ds) st)) Q := p
        obtain ⟨_, p2⟩ := chk_ok (a := D.non) (st := st) p
        obtain ⟨y, h1, h2, h3, h4⟩ := eo.at_ i _ e
        cases h1
        cases q : fldD f ks ds with
        | none => rw [q] at p2; exact p2.elim
        | some z =>
          rw [q] at p2
          rcases h4 with ⟨rfl, rfl, _⟩ | ⟨dd, fs, g1, g2, g3, g4, g5⟩
          · cases q
          · subst g4
            obtain ⟨v, l, rv⟩ := lookup_fld g5 q
            exact ⟨.ref a, h2, rfl, e0, dd, fs, v, g1, g2, l, p2 v F T H (.refl _ _ _) w rv⟩
      | _ => exact p.elim
  · refine ⟨fun pins s σ H Q I ⟨F, T, st, env, w, eo, p⟩ => ?_⟩
    have p : Post X.K ⟨W', some ⟨a, cls, d⟩, B, sv⟩ σ F T H (rV X.K) (match env[i]? with | some (.xc c ks ds) => chkO (decide (c ∈ al)) (ofO (fldD f ks ds) st) | _ => .bad) Q := p
    cases e : env[i]? with
    | none => rw [e] at p; exact p.elim
    | some s =>
      rw [e] at p
      cases s with
      | xc c ks ds =>
        have p : Post X.K ⟨W', some ⟨a, cls, d⟩, B, sv⟩ σ F T H (rV X.K) (chkO (decide (c ∈ al)) (ofO (fldD f ks ds) st)) Q := p
        obtain ⟨m, p⟩ := chk_ok (a := D.non) (st := st) p
        obtain ⟨y, h1, h2, h3, h4⟩ := eo.at_ i _ e
        cases h1
        exact absurd ⟨c, of_decide_eq_true m, h3⟩ hc
      | _ => exact p.elim
/-- what isinstance asks of an error class -/
structure XisC (K : PySem.W.Frag) (D : Addr) : Prop where
  cl : (PySem.W.clsIn K D).isSome = true
  ga : PySem.W.findIn K (.ref D) "__getattribute__" = some (some (.builtin "BaseException.__getattribute__"))
  gt : PySem.W.findIn K (.ref D) "__getattr__" = some none
  sub : PySem.W.subIn K (.ref D) (.type "BaseException") = some true
  ha : PySem.W.findIn K (.ref D) "__class__" = some (some (.builtin "object.__class__"))
  hn : PySem.W.specialIn K (.builtin "object.__class__") "__get__" = some (some (.builtin "getset_descriptor.__get__"))
  ht : PySem.W.takesIn K (.builtin "object.__class__") = some true
  hm : PySem.W.mroIn K D (.type "object") = some true
/-- isinstance(e, c), e the exception that the suite holds, its dict some or none -/
def rIsX (K : PySem.W.Frag) (D a : Addr) (d : Option Addr) : List V → Hp → VK → Prop := fun xs H Q => ∃ (c : V) (cv : Value) (b : Bool), xs = [.ref a, c] ∧ ClsV c cv ∧ PySem.W.kitOne K (.ref D) cv = some b ∧ (d = none ∨ ∃ dd fs, d = some dd ∧ H dd = some (.xd fs)) ∧ Q (.bl b) H
theorem call_isX {a D : Addr} {oe : Obj} {d : Option Addr} {pn : List (Addr × Obj)} (T : XisC X.K D) (hz : Zc (.ref D) d oe) (hf : ∃ vs, oe.data = .fields vs) : CallR (X.suite a ((a, oe) :: pn)) (.builtin "isinstance") (rIsX X.K D a d) := by
  intro pins s σ H xs us Q I r h
  obtain ⟨c, cv, b, rfl, hcv, e, hd, q⟩ := h
  obtain ⟨u1, u2, rfl, r1, r2⟩ := vals2 r
  obtain rfl : u1 = Value.ref a := r1
  have ec := hcv.eq r2
  subst ec
  obtain ⟨hget, _⟩ := I.pin (a, oe) (List.mem_append.mpr (.inl List.mem_cons_self))
  obtain ⟨vs, hv⟩ := hf
  have hno : PySem.W.notCls oe = true := by unfold PySem.W.notCls; rw [hv] <;> rfl
  obtain ⟨od, J⟩ : ∃ od, PySem.W.InstAt s.heap a oe D od := by
    rcases hd with hd | ⟨dd, fs, hd, hdd⟩
    · exact ⟨none, hget, hz.1, hno, by rw [hz.2, hd]; trivial⟩
    · have hx : ObjOk X.prog X.w H s.heap dd (.xd fs) := I.hok dd _ hdd
      obtain ⟨mA, ⟨o, es, ep, ho, _⟩, _⟩ := hx
      exact ⟨some o, hget, hz.1, hno, by rw [hz.2, hd]; exact ho⟩
  exact PySem.W.kia_one (PySem.W.kitx_exc T.cl T.ga T.gt T.sub T.ha T.hn T.ht T.hm) I.kIn J e (fun z => nomatch z) fun tk => ⟨.bl b, H, I.kept (t' := tk) fun _ _ z => z, rfl, q⟩
theorem s_xis {a : Addr} {oe : Obj} {cls : Value} {d : Option Addr} {pn : List (Addr × Obj)} {W' : WX} {B : Bs} {sv : Bool} {i : Nat} {n : Str} {al cs : List Str} {b : Expr} {cv : V} {cu : Value} {p p1 pos : Pos} (hz : Zc cls d oe) (hf : ∃ vs, oe.data = .fields vs) (hg : Gl X "isinstance") (hm : X.mg "isinstance" = none) (hN : X.N[i]? = some n) (hv : Vis X.env.scope n) (hd : (n == ("__debug__" : Str)) = false) (hcd : (n == ("__classdict__" : Str)) = false)
    (hb : PE (X.suite a ((a, oe) :: pn)) b (tC cv)) (ok2 : okA b = true) (hcv : ClsV cv cu) (hx : ∀ c ∈ al, XisC X.K (He.ga X.K c) ∧ PySem.W.kitOne X.K (.ref (He.ga X.K c)) cu = some (decide (c ∈ cs))) :
    PE (X.suite a ((a, oe) :: pn)) (.Call (.Name "isinstance" p) [.Name n p1, b] [] pos) (tE X.K ⟨W', some ⟨a, cls, d⟩, B, sv⟩ C (.xis i al cs)) := by
  by_cases hc : ∃ c ∈ al, cls = .ref (He.ga X.K c)
  · obtain ⟨c0, m0, e0⟩ := hc
    subst e0
    have hN' : (X.suite a ((a, oe) :: pn)).N[i]? = some n := hN
    have hv' : Vis (X.suite a ((a, oe) :: pn)).env.scope n := hv
    have hg' : Gl (X.suite a ((a, oe) :: pn)) "isinstance" := hg
    have hm' : (X.suite a ((a, oe) :: pn)).mg "isinstance" = none := hm
    refine impE (pe_callB (call_isX (hx c0 m0).1 hz hf) hg' hm' boot_isi (pa_cons (pe_var hN' hv' hd hcd) (pa_cons hb pa_nil (okA_star ok2)) rfl) (by decide) (by decide) rfl (by rw [okA_star ok2]; rfl)) fun σ H Q ⟨F, T, st, env, w, eo, p⟩ => ?_
    have p : Post X.K ⟨W', some ⟨a, .ref (He.ga X.K c0), d⟩, B, sv⟩ σ F T H (rV X.K) (match env[i]? with | some (.xc c _ _) => chkO (decide (c ∈ al)) (.ok (.bl (decide (c ∈ cs))) st) | _ => .bad) Q := p
    cases e : env[i]? with
    | none => rw [e] at p; exact p.elim
    | some s =>
      rw [e] at p
      cases s with
      | xc c ks ds =>
        have p : Post X.K ⟨W', some ⟨a, .ref (He.ga X.K c0), d⟩, B, sv⟩ σ F T H (rV X.K) (chkO (decide (c ∈ al)) (.ok (.bl (decide (c ∈ cs))) st)) Q := p
        obtain ⟨m, p⟩ := chk_ok (a := D.non) (st := st) p
        obtain ⟨y, h1, h2, h3, h4⟩ := eo.at_ i _ e
        cases h1
        have h3 : Value.ref (He.ga X.K c0) = .ref (He.ga X.K c) := h3
        refine ⟨.ref a, h2, cv, cu, _, rfl, hcv, (by rw [h3]; exact (hx c (of_decide_eq_true m)).2), ?_, p _ F T H (.refl _ _ _) w (.bl _)⟩
        rcases h4 with ⟨_, _, e⟩ | ⟨dd, fs, g1, g2, _⟩
        · exact .inl e
        · exact .inr ⟨dd, fs, g1, g2⟩
      | _ => exact p.elim
  · refine ⟨fun pins s σ H Q I ⟨F, T, st, env, w, eo, p⟩ => ?_⟩
    have p : Post X.K ⟨W', some ⟨a, cls, d⟩, B, sv⟩ σ F T H (rV X.K) (match env[i]? with | some (.xc c _ _) => chkO (decide (c ∈ al)) (.ok (.bl (decide (c ∈ cs))) st) | _ => .bad) Q := p
    cases e : env[i]? with
    | none => rw [e] at p; exact p.elim
    | some s =>
      rw [e] at p
      cases s with
      | xc c ks ds =>
        have p : Post X.K ⟨W', some ⟨a, cls, d⟩, B, sv⟩ σ F T H (rV X.K) (chkO (decide (c ∈ al)) (.ok (.bl (decide (c ∈ cs))) st)) Q := p
        obtain ⟨m, p⟩ := chk_ok (a := D.non) (st := st) p
        obtain ⟨y, h1, h2, h3, h4⟩ := eo.at_ i _ e
        cases h1
        exact absurd ⟨c, of_decide_eq_true m, h3⟩ hc
      | _ => exact p.elim
end
end Eng
set_option Elab.async false
set_option linter.all false
set_option maxRecDepth 100000
set_option maxHeartbeats 2000000
/-! Eng 21: try .. except C as e; methods, instances; a def's promise -/
namespace Eng
open PySem PySem.Spec PyProof.Rows L2
section
variable {X : Cx} {W : WW} {C : Calls}
theorem ss_try1 {body suite : List Stmt} {b₀ : Stmt} {x n : Str} {cv : Value} {np pos' pos : Pos} {i : Nat} {ib is : Ss} {al cs : List Str} (hx : W.x = none) (hz : W.sv = false) (hs : X.stack = X.env :: X.outer) (hf : X.env.frame = some X.env.locals) (hN : X.N.Nodup) (hi : X.N[i]? = some n) (hln : X.env.kindOf n = some .local) (hc : Names X x cv) (tk : Takes X W)
    (hex : ∀ c ∈ al, PySem.W.exmOne X.K (.ref (He.ga X.K c)) cv = some (decide (c ∈ cs)))
    (hb : ∀ (W1 : WX) (pn : List (Addr × Obj)) (xe : Value → Shared → Prop), Takes (X.tr pn xe) W1 → PassesOwn (model X.prog X.w) X.A X.env xe → PSs (X.tr pn xe) body (tSs X.K (trW W W1) C ib))
    (hsu : ∀ (a : Addr) (oe : Obj) (cls : Value) (d : Option Addr) (pn : List (Addr × Obj)), Zc cls d oe → (∃ vs, oe.data = .fields vs) → PSs (X.suite a ((a, oe) :: pn)) (b₀ :: suite) (tSs X.K (suW W a cls d) C is)) :
    PS X (.Try body [.ExceptHandler (some (.Name x np)) (some n) (b₀ :: suite) pos'] [] [] pos) (tSt X.K W C (.try_ [] ib (.cons al cs (some i) is .nil))) := by
  refine impS (ps_try_as (tb := fun W1 => tSs X.K (trW W W1) C ib) (ts := fun a cls d => tSs X.K (suW W a cls d) C is) hs hf hN hi hln hc tk hb hsu) fun D σ H ⟨F, T, st, env, xx, w, eo, p⟩ => ?_
  have p : PostS X.K W F T env (match evSs C ib env st with
    | .ex c ks ds st1 => evHs C (.cons al cs (some i) is .nil) c ks ds (wipeE env []) st1
    | o => o) D := p
  refine ⟨F, T, st, env, xx, w, eo, ?_⟩
  revert p
  cases evSs C ib env st with
  | bad => exact id
  | ok f st1 => exact id
  | ex c ks ds st1 =>
    intro p dx F' T' H' σ' sm pr x' w' r he
    have p : PostS X.K W F T env (chkO (decide (c ∈ al)) (match decide (c ∈ cs) with
      | false => .ex c ks ds st1
      | true => (evSs C is (env.set i (.xc c ks ds)) st1).bnd fun f st => (match f with
        | .nx env' => .ok (.nx ((dropX env').set i .no)) st
        | .rt d => .ok (.rt d) st
        | .bk env' => .ok (.bk ((dropX env').set i .no)) st
        | .ct env' => .ok (.ct ((dropX env').set i .no)) st))) D := p
    cases m : decide (c ∈ al) with
    | false => rw [m] at p; exact p.elim
    | true =>
      rw [m] at p
      have p : PostS X.K W F T env (match decide (c ∈ cs) with
        | false => .ex c ks ds st1
        | true => (evSs C is (env.set i (.xc c ks ds)) st1).bnd fun f st => (match f with
          | .nx env' => .ok (.nx ((dropX env').set i .no)) st
          | .rt d => .ok (.rt d) st
          | .bk env' => .ok (.bk ((dropX env').set i .no)) st
          | .ct env' => .ok (.ct ((dropX env').set i .no)) st)) D := p
      refine ⟨decide (c ∈ cs), hex c (of_decide_eq_true m), fun hb a ha => ?_, fun hb => ?_⟩
      · rw [hb] at p
        have eo' : EnvOk X.K W.xi F' T' H' env σ' := he rfl
        refine ⟨F', T', st1, _, x', w', env_hold hx rfl eo' r, ?_⟩
        have p : PostS X.K W F T env ((evSs C is (env.set i (.xc c ks ds)) st1).bnd fun f st => (match f with
          | .nx env' => .ok (.nx ((dropX env').set i .no)) st
          | .rt d => .ok (.rt d) st
          | .bk env' => .ok (.bk ((dropX env').set i .no)) st
          | .ct env' => .ok (.ct ((dropX env').set i .no)) st)) D := p
        have p := p.shift sm pr
        revert p
        cases evSs C is (env.set i (.xc c ks ds)) st1 with
        | bad => exact id
        | ex c2 ks2 ds2 st2 => exact fun p dx F' T' H' σ' a b x w r _ => p dx F' T' H' σ' a b x w r fun h => by rw [hz] at h; cases h
        | ok f st2 =>
          intro p F2 T2 H2 σ2 a2 b2 x2 w2
          cases f with
          | nx env' => exact fun eo2 => p F2 T2 H2 (σ2.set i none) a2 b2 x2 w2 (env_let eo2)
          | rt d => exact p F2 T2 H2 σ2 a2 b2 x2 w2
          | bk env' => exact fun eo2 => p F2 T2 H2 (σ2.set i none) a2 b2 x2 w2 (env_let eo2)
          | ct env' => exact fun eo2 => p F2 T2 H2 (σ2.set i none) a2 b2 x2 w2 (env_let eo2)
      · rw [hb] at p
        exact p dx F' T' H' σ' sm pr x' w' r fun h => by rw [hz] at h; cases h

/-! ### a def's promise -/
theorem start_ok {K : PySem.W.Frag} {xi : XB} {F H : Hp} {T : List Addr} {N : List Str} {vs : List V} {ds : List D} {k : Nat} (r : Reps K F T vs ds) (hk : ds.length + k = N.length) : EnvOk K xi F T H (ds.map .val ++ List.replicate k .no) (L2.start N vs) := by
  have hl : (L2.start N vs).length = N.length := by
    unfold L2.start
    rw [List.length_append, List.length_map, List.length_replicate, r.length]
    omega
  have at_ : ∀ (i : Nat) (s : Sl), (ds.map Sl.val ++ List.replicate k Sl.no)[i]? = some s → s = .no ∨ ∃ d v, s = .val d ∧ (L2.start N vs)[i]? = some (some v) ∧ Rep K F T v d := fun i s h => by
    by_cases c : i < ds.length
    · rw [List.getElem?_append_left (by rw [List.length_map]; exact c), List.getElem?_map] at h
      obtain ⟨d, hd, rfl⟩ := Option.map_eq_some_iff.mp h
      obtain ⟨v, hv, rv⟩ := r.get hd
      refine .inr ⟨d, v, rfl, ?_, rv⟩
      unfold L2.start
      rw [List.getElem?_append_left (by rw [List.length_map, r.length]; exact c), List.getElem?_map, hv]
      rfl
    · rw [List.getElem?_append_right (by rw [List.length_map]; omega)] at h
      exact .inl (List.eq_of_mem_replicate (List.mem_of_getElem? h))
  refine ⟨fun i s h => ?_, by rw [hl, List.length_append, List.length_map, List.length_replicate]; omega, fun i j d d' a ne h1 h2 h3 h4 => ?_⟩
  · rcases at_ i s h with rfl | ⟨d, v, rfl, e, rv⟩
    · trivial
    · exact ⟨v, e, rv⟩
  · rcases at_ i _ h1 with e | ⟨d, v, e, _⟩ <;> cases e
theorem fn_ok {P : Program} {w : World} {K : PySem.W.Frag} {mg : Str → Option Value} {base : Heap} {x qual : Str} {params : Arguments} {body : List Stmt} {scope : Scope} {dvs : List V} {kws : List (Str × V)} {f : Addr} {fd : FuncData} {N ps : List Str} {k n m : Nat} {tab : List FnI} {fi : FnI}
    (F : FunD K x qual params body scope dvs kws f fd) (S : FnScope N ps scope) (hi : tab[m]? = some fi) (h1 : fi.ini = none) (h2 : fi.ps = ps.length) (h3 : fi.ns = N.length) (h4 : ps.length ≤ N.length)
    (hb : ∀ (cdv : Value) (A : Around) (outer : List PySem.Env) (s : Shared) (H : Hp) (E : XK) (W : WW), W.sv = false → W.x = none → Takes (cxOf (L2.CX P w) P w K mg base N qual scope f cdv A outer s H E) W → Room k (A.deeper (envOfC qual scope s.heap.objs.size f cdv)) →
      PSs (cxOf (L2.CX P w) P w K mg base N qual scope f cdv A outer s H E) body (tSs K W (callN tab n) fi.body)) : FnOk P w K mg base (L2.CX P w) (k + 1) f fd ps (spN K (callN tab (n + 1)) m) := by
  have unf : ∀ ds st, callN tab (n + 1) m ds st = runF (callN tab n) fi ds st := fun ds st => by
    show (match tab[m]? with | some fi => runF (callN tab n) fi ds st | none => .bad) = _
    rw [hi]
  have lens : ∀ {K' : PySem.W.Frag} {W : WW} {σ : L2.St} {F0 H : Hp} {T0 : List Addr} {ds : List D} {st : Store} {Q : VK}, Post K' W σ F0 T0 H (rV K') (callN tab (n + 1) m ds st) Q → ds.length = ps.length := fun {K' W σ F0 H T0 ds st Q} p => by
    rw [unf] at p
    unfold runF at p
    cases c : decide (ds.length = fi.ps) with
    | false => rw [c] at p; exact p.elim
    | true => rw [← h2]; exact of_decide_eq_true c
  refine F.ok S (fun vs H Q E ⟨F0, T0, st, ds, w0, rs, p⟩ => by rw [rs.length]; exact lens p) fun cdv A outer s H vs Q E hr ⟨F0, T0, st, ds, w0, rs, p⟩ => ?_
  have hl := lens p
  refine ⟨_, hb cdv A outer s H E ⟨fun c d _ H' => E c d H', none, ⟨F0, T0, H, none⟩, false⟩ rfl rfl (takes_of rfl rfl rfl rfl) hr, F0, T0, st, ds.map .val ++ List.replicate (fi.ns - fi.ps) .no, .refl _ _ _, w0, start_ok rs (by rw [h2, h3, hl]; omega), ?_⟩
  rw [unf] at p
  unfold runF at p
  rw [show decide (ds.length = fi.ps) = true from decide_eq_true (by rw [h2]; exact hl), h1] at p
  have p : Post K ⟨fun c d _ H => E c d H, none, {}, false⟩ [] F0 T0 H (rV K) (endD (evSs (callN tab n) fi.body (ds.map .val ++ List.replicate (fi.ns - fi.ps) .no) st)) Q := p
  revert p
  cases evSs (callN tab n) fi.body (ds.map .val ++ List.replicate (fi.ns - fi.ps) .no) st with
  | bad => exact id
  | ex c ks ds st => exact fun p dx F' T' H' σ' _ _ x w r _ => p dx F' T' H' x w r
  | ok g st' =>
    intro p F' T' H' σ' _ _ x w
    cases g with
    | nx env' => exact fun _ => p .non F' T' H' x w .non
    | rt d => exact fun v r => p v F' T' H' x w r
    | bk env' => exact p.elim
    | ct env' => exact p.elim
end
end Eng
set_option Elab.async false
set_option linter.all false
set_option maxRecDepth 100000
set_option maxHeartbeats 2000000
/-! Eng 22: short names for a printed proof -/
namespace Eng
open PySem PySem.Spec PyProof.Rows L2
section
variable {X : Cx} {W : WW} {C : Calls}
theorem k_int {i : Int} {j : Nat} {pos : Pos} : PE X (.Constant (.int i) j pos) (tE X.K W C (.c (.int i))) := s_const pe_int rfl fun _ _ => rfl
theorem k_bl {b : Bool} {j : Nat} {pos : Pos} : PE X (.Constant (.bool b) j pos) (tE X.K W C (.c (.bl b))) := s_const pe_bl rfl fun _ _ => rfl
theorem k_non {j : Nat} {pos : Pos} : PE X (.Constant .none j pos) (tE X.K W C (.c .non)) := s_const pe_non rfl fun _ _ => rfl
theorem k_str {x : Str} {j : Nat} {pos : Pos} : PE X (.Constant (.str x) j pos) (tE X.K W C (.c (.str x))) := s_const pe_str rfl fun _ _ => rfl
theorem hu65 {k : Nat} {A : Around} (hr : Room k A) : A.units + 65 < cLine := by have := hr.un; omega
theorem hu64 {k : Nat} {A : Around} (hr : Room k A) : A.units + 64 < cLine := by have := hr.un; omega
theorem takes_no : Takes X (noW W) := fun _ _ ⟨_, _, _, _, _, _, _, _, _, _, _, _, _, _, _, _, w⟩ => w.elim
theorem hu1 {k : Nat} {A : Around} (hr : Room k A) : A.units + 1 < cLine := by have := hr.un; omega
theorem q_bor {a : Expr} {e : E} (h : PE X a (tE X.K W C e)) (n : (match e with | .var _ => false | _ => true) = true) : PE X a (tB X.K W C e) := s_bor h fun i z => by subst z; cases n
theorem q_D {a : Expr} {e : E} (h : PE X a (tDr X.K W C e)) : PE X a (tE X.K W C e) := pe_ofD h
theorem q_truth {a : Expr} {e : E} (h : PE X a (tE X.K W C e)) (ok : okT a = true) (he : ∀ env, evT C env e = tst (evE C env e)) : PT X a (tT X.K W C e) := s_truth h ok he
theorem q_rng1 {tg a : Expr} {ea : E} {p pos : Pos} (hg : Gl X "range") (hm : X.mg "range" = none) (ha : PE X a (tE X.K W C ea)) (ok : okA a = true) : PI X tg (.Call (.Name "range" p) [a] [] pos) (tIF X.K W C (.rng (.cons ea .nil))) :=
  i_rng1 hg hm (s_cons ha s_nil ok) ok fun env st ds st' h => by rw [evEs_len _ h]; rfl
theorem q_rng2 {tg a b : Expr} {ea eb : E} {p pos : Pos} (hg : Gl X "range") (hm : X.mg "range" = none) (ha : PE X a (tE X.K W C ea)) (hb : PE X b (tE X.K W C eb)) (ok : okA a = true) (ok2 : okA b = true) : PI X tg (.Call (.Name "range" p) [a, b] [] pos) (tIF X.K W C (.rng (.cons ea (.cons eb .nil)))) :=
  i_rng2 hg hm (s_cons ha (s_cons hb s_nil ok2) ok) ok ok2 fun env st ds st' h => by rw [evEs_len _ h]; rfl
theorem q_rngB {tg e : Expr} {es : Es} (h : PI X tg e (tIF X.K W C (.rng es))) : PI X tg e (tI X.K W C (.rng es)) := i_ofF h
theorem q_ty {x : Str} {t : String} {pos : Pos} (hg : Gl X x) (hm : X.mg x = none) (hv : bootBuiltins x = some (.type t)) (hn : x ≠ "__name__") (hd : (x == ("__debug__" : Str)) = false) : PE X (.Name x pos) (tC (.ty t)) := pe_bltn hg hm hv rfl hn hd
theorem q_gl {x : Str} {a : Addr} {pos : Pos} (hg : Gl X x) (hm : X.mg x = some (.ref a)) (hd : (x == ("__debug__" : Str)) = false) : PE X (.Name x pos) (tC (.ref a)) := pe_glob hg hm rfl hd
theorem q_and1 {a : Expr} {e : E} {pos : Pos} (h : PE X a (tE X.K W C e)) : PE X (.BoolOp .And [a] pos) (tE X.K W C (.and (.cons e .nil))) := s_one h .and fun _ => rfl
theorem q_or1 {a : Expr} {e : E} {pos : Pos} (h : PE X a (tE X.K W C e)) : PE X (.BoolOp .Or [a] pos) (tE X.K W C (.or (.cons e .nil))) := s_one h .or fun _ => rfl
mutual
def stillS : S → Bool
  | .ex _ => true
  | .ret _ _ => true
  | .rais _ _ _ => true
  | .pass => true
  | .ifs _ a b => stillSs a && stillSs b
  | _ => false
def stillSs : Ss → Bool
  | .nil => true
  | .cons s ss => stillS s && stillSs ss
end
mutual
theorem still_ok : ∀ (s : S), stillS s = true → ∀ (env : Env) (st : Store) (env' : Env) (st' : Store), evS C s env st = .ok (.nx env') st' → env' = env
  | .ex e, _, env, st, env', st', h => by
    have h : ((evE C env e st).bnd fun _ st => (Out.ok (Fl.nx env) st : Out Fl)) = .ok (.nx env') st' := h
    cases q : evE C env e st <;> rw [q] at h <;> cases h
    rfl
  | .ret fz e, _, env, st, env', st', h => by
    have h : ((evE C (freeze env fz) e st).bnd fun d st => (Out.ok (Fl.rt d) st : Out Fl)) = .ok (.nx env') st' := h
    cases q : evE C (freeze env fz) e st <;> rw [q] at h <;> cases h
  | .rais c ks es, _, env, st, env', st', h => by
    have h : ((evEs C env es st).bnd fun ds st => chkO (decide (ks.length = ds.length)) (Out.ex c ks ds.reverse st : Out Fl)) = .ok (.nx env') st' := h
    cases q : evEs C env es st with
    | bad => rw [q] at h; cases h
    | ex c ks ds st => rw [q] at h; cases h
    | ok ds st =>
      rw [q, Out.bnd_ok] at h
      cases z : decide (ks.length = ds.length) <;> rw [z] at h <;> cases h
  | .pass, _, env, st, env', st', h => by
    have h : (Out.ok (Fl.nx env) st : Out Fl) = .ok (.nx env') st' := h
    cases h
    rfl
  | .ifs c a b, hs, env, st, env', st', h => by
    obtain ⟨h1, h2⟩ := He.ba (show (stillSs a && stillSs b) = true from hs)
    have h : ((evT C env c st).bnd fun r st => (match r with | true => evSs C a env st | false => evSs C b env st)) = .ok (.nx env') st' := h
    cases q : evT C env c st with
    | bad => rw [q] at h; cases h
    | ex c ks ds st => rw [q] at h; cases h
    | ok r st =>
      rw [q, Out.bnd_ok] at h
      cases r with
      | true => exact stills_ok a h1 env st env' st' h
      | false => exact stills_ok b h2 env st env' st' h
theorem stills_ok : ∀ (ss : Ss), stillSs ss = true → ∀ (env : Env) (st : Store) (env' : Env) (st' : Store), evSs C ss env st = .ok (.nx env') st' → env' = env
  | .nil, _, env, st, env', st', h => by
    have h : (Out.ok (Fl.nx env) st : Out Fl) = .ok (.nx env') st' := h
    cases h
    rfl
  | .cons s ss, hs, env, st, env', st', h => by
    obtain ⟨h1, h2⟩ := He.ba (show (stillS s && stillSs ss) = true from hs)
    have h : ((evS C s env st).bnd fun f st => (match f with
      | .nx env' => evSs C ss env' st
      | .rt d => (Out.ok (Fl.rt d) st : Out Fl)
      | .bk env => .ok (.bk env) st
      | .ct env => .ok (.ct env) st)) = .ok (.nx env') st' := h
    cases q : evS C s env st with
    | bad => rw [q] at h; cases h
    | ex c ks ds st => rw [q] at h; cases h
    | ok f st1 =>
      rw [q, Out.bnd_ok] at h
      cases f with
      | nx env1 => exact (stills_ok ss h2 env1 st1 env' st' h).trans (still_ok s h1 env st env1 st1 q)
      | rt d => cases h
      | bk e => cases h
      | ct e => cases h
end
end
end Eng
set_option Elab.async false
set_option linter.all false
set_option maxRecDepth 100000
set_option maxHeartbeats 2000000
/-! Eng 23: a law's own Hook; the error classes by a look -/
namespace Eng
open PySem PySem.Spec PyProof.Rows L2
/-- a def with cells, by what it says -/
abbrev FnS : Type := Option (Str × Str × Arguments × FuncBody × Scope × Addr × Addr)
def fnS (K : PySem.W.Frag) (x : Str) : FnS := match K.lookup (He.ma K (He.ga K x) "__init__") with
  | some ⟨_, _, .func fd, _⟩ => some (fd.name, fd.qualname, fd.params, fd.body, fd.scope, fd.globals, fd.builtins)
  | _ => none
/-- an error class with its own __init__ -/
structure XcD where
  cls : Str
  qual : Str
  params : Arguments
  body : List Stmt
  scope : Scope
def XcD.val (d : XcD) : FnS := some ("__init__", d.qual, d.params, .stmts d.body, d.scope, mainGlobals, builtinsNs)
abbrev AlC : Type := Bool × List He.FnW × List FnS
def obsC (ck : PySem.W.Frag → Bool) (fn : List He.DefD) (xc : List XcD) (K : PySem.W.Frag) : AlC := (ck K && fn.all fun d => d.ok K, fn.map fun d => He.fnW K d.at_, xc.map fun d => fnS K d.cls)
def valC (fn : List He.DefD) (xc : List XcD) : AlC := (true, fn.map He.DefD.val, xc.map XcD.val)
def SaysC (ck : PySem.W.Frag → Bool) (fn : List He.DefD) (xc : List XcD) (K : PySem.W.Frag) : Prop := obsC ck fn xc K = valC fn xc
def obsCG (n : Nat) (ck : PySem.W.Frag → Bool) (fn : List He.DefD) (xc : List XcD) (g : Addr → Option Obj) : AlC := obsC ck fn xc (He.frG g (cStatics :: He.asD g n))
def hookC (n : Nat) (ck : PySem.W.Frag → Bool) (fn : List He.DefD) (xc : List XcD) : PySem.W.Hook where
  α := AlC
  obs := fun s => obsCG n ck fn xc s.heap.get?
  val := fun _ => valC fn xc
  says := fun _ h => ∃ K : PySem.W.Frag, K.In h ∧ SaysC ck fn xc K
  of := fun _ _ e => ⟨_, He.frG_in, e⟩
  keeps := fun _ _ _ ⟨K, hK, c⟩ k => ⟨K, PySem.W.Frag.In.keeps hK k, c⟩
theorem obsCG_eq {n : Nat} {ck : PySem.W.Frag → Bool} {fn : List He.DefD} {xc : List XcD} {g : Addr → Option Obj} {s : Shared} (h : ∀ a, g a = s.heap.get? a) : obsCG n ck fn xc g = (hookC n ck fn xc).obs s := by
  have e : g = s.heap.get? := funext h
  rw [e] <;> rfl
section
variable {ck : PySem.W.Frag → Bool} {fn : List He.DefD} {xc : List XcD} {K : PySem.W.Frag}
theorem SaysC.chk (c : SaysC ck fn xc K) : ck K = true := (He.ba (show (ck K && fn.all fun d => d.ok K) = true from congrArg (fun z : AlC => z.1) c)).1
theorem SaysC.def_ (c : SaysC ck fn xc K) (i : Nat) {d : He.DefD} (h : fn[i]? = some d) : ∃ fd, FunD K d.name d.qual d.params d.body d.scope (d.dvs K) (d.kws K) (He.fAd K d.at_) fd := by
  have c2 := (He.ba (show (ck K && fn.all fun d => d.ok K) = true from congrArg (fun z : AlC => z.1) c)).2
  have e : fn.map (fun d => He.fnW K d.at_) = fn.map He.DefD.val := congrArg (fun z : AlC => z.2.1) c
  have e2 : (fn.map fun d => He.fnW K d.at_)[i]? = (fn.map He.DefD.val)[i]? := by rw [e]
  rw [List.getElem?_map, List.getElem?_map, h] at e2
  exact He.DefD.funD (Option.some.inj e2) (List.all_eq_true.mp c2 d (List.mem_of_getElem? h))
theorem SaysC.xc_ (c : SaysC ck fn xc K) (i : Nat) {d : XcD} (h : xc[i]? = some d) : fnS K d.cls = d.val := by
  have e : xc.map (fun d => fnS K d.cls) = xc.map XcD.val := congrArg (fun z : AlC => z.2.2) c
  have e2 : (xc.map fun d => fnS K d.cls)[i]? = (xc.map XcD.val)[i]? := by rw [e]
  rw [List.getElem?_map, List.getElem?_map, h] at e2
  exact Option.some.inj e2
end
/-- the class's look -/
def supB1 (K : PySem.W.Frag) (C : Addr) : Bool := match K.lookup C with
  | some ⟨.type "type", _, .cls cd, sl⟩ => (match cd.mro, sl.toList with
    | .ref C' :: bm, [_, _, _, _, some (.builtin n), _] => decide (C' = C) && (n == "ValueError.__new__" && (cd.hasDict && (!cd.hasDel && (HandSPX.refsVE bm && decide (PySem.W.alongIn K "__init__" bm = some (some (.builtin "ValueError.__init__")))))))
    | _, _ => false)
  | _ => false
theorem supB1_ok {K : PySem.W.Frag} {C : Addr} (h : supB1 K C = true) : ∃ nm q N bs bm sn sub ab col dd k0 k1 k2 k3 k5, K.lookup C = some (excClassObj nm q C N bs bm true sn sub ab col dd k0 k1 k2 k3 k5 "ValueError.__new__") ∧ HandSPX.refsVE bm = true ∧ PySem.W.alongIn K "__init__" bm = some (some (.builtin "ValueError.__init__")) := by
  unfold supB1 at h
  split at h
  · rename_i dd cd sl ho
    split at h
    · rename_i C' bm k0 k1 k2 k3 n k5 hm hs
      obtain ⟨h1, h⟩ := He.ba h
      obtain ⟨h2, h⟩ := He.ba h
      obtain ⟨h3, h⟩ := He.ba h
      obtain ⟨h4, h⟩ := He.ba h
      obtain ⟨h5, h6⟩ := He.ba h
      have e1 : C' = C := of_decide_eq_true h1
      have e2 : n = "ValueError.__new__" := beq_iff_eq.mp h2
      subst e1 e2
      obtain ⟨nm, bs, mro, ns, qn, hd, sn, sub, ab, col, del⟩ := cd
      dsimp only at hm h3 h4
      have h4 : del = false := by simpa using h4
      subst hm h3 h4
      have hsl : sl = #[k0, k1, k2, k3, some (.builtin "ValueError.__new__"), k5] := by
        obtain ⟨l⟩ := sl
        simp only at hs
        rw [hs]
      subst hsl
      exact ⟨nm, qn, ns, bs, bm, sn, sub, ab, col, dd, k0, k1, k2, k3, k5, ho, h5, of_decide_eq_true h6⟩
    · cases h
  · cases h
/-- the def's cell, its code -/
def supB2 (K : PySem.W.Frag) (file qual : Str) (C fI : Addr) : Bool := match K.lookup fI with
  | some ⟨_, _, .func fd, _⟩ => (match fd.code, fd.closure, fd.defaults, fd.kwdefaults with
    | .ref cda, [(nm, cc)], .none, .none => decide (nm = ("__class__" : Str)) && (PySem.W.codeIn K (.ref cda) qual && ((match K.lookup cda with
        | some ⟨_, _, .fields vs, _⟩ => (match vs[2]? with
          | some (Value.str f _) => decide (f = file)
          | _ => false)
        | _ => false) && (match K.lookup cc with
        | some ⟨_, _, .cell (some (.ref D)), _⟩ => decide (D = C)
        | _ => false)))
    | _, _, _, _ => false)
  | _ => false
theorem supB2_ok {K : PySem.W.Frag} {file : Str} {C : Addr} {d : XcD} (h : supB2 K file d.qual C (He.ma K (He.ga K d.cls) "__init__") = true) (e : fnS K d.cls = d.val) :
    ∃ (oc : Value) (od : Option Addr) (doc pm : Value) (an : Option Addr) (cda : Addr) (ct : Value) (osl : Array (Option Value)) (cc : Addr) (ccl : Value) (cdd : Option Addr) (vs : Array Value) (ccs : Array (Option Value)) (tf : Tok) (cl : Value) (cld : Option Addr) (csl : Array (Option Value)),
    K.lookup (He.ma K (He.ga K d.cls) "__init__") = some ⟨oc, od, .func (PySem.W.ksFn "__init__" d.qual d.params d.body d.scope .none .none doc pm an (.ref cda) ct cc), osl⟩ ∧ PySem.W.codeIn K (.ref cda) d.qual = true ∧ K.lookup cda = some ⟨ccl, cdd, .fields vs, ccs⟩ ∧ vs[2]? = some (.str file tf) ∧
    K.lookup cc = some ⟨cl, cld, .cell (some (.ref C)), csl⟩ := by
  unfold supB2 at h
  unfold fnS at e
  split at h
  · rename_i oc od fd osl ho
    rw [ho] at e
    split at h
    · rename_i cda nm cc h1 h2 h3 h4
      obtain ⟨g1, h⟩ := He.ba h
      obtain ⟨g2, h⟩ := He.ba h
      obtain ⟨g3, g4⟩ := He.ba h
      have en : nm = ("__class__" : Str) := of_decide_eq_true g1
      subst en
      split at g3
      · rename_i ccl cdd vs ccs hc
        split at g3
        · rename_i f tf hv
          have ef : f = file := of_decide_eq_true g3
          subst ef
          split at g4
          · rename_i cl cld D csl hcc
            have eD : D = C := of_decide_eq_true g4
            subst eD
            obtain ⟨n1, n2, n3, n4, n5, n6, n7, n8, n9, n10, n11, n12, n13, n14, n15⟩ := fd
            dsimp only at h1 h2 h3 h4
            subst h1 h2 h3 h4
            have e2 : (some (n1, n2, n3, n4, n5, n6, n15) : FnS) = some (("__init__" : Str), d.qual, d.params, FuncBody.stmts d.body, d.scope, mainGlobals, builtinsNs) := e
            simp only [Option.some.injEq, Prod.mk.injEq] at e2
            obtain ⟨q1, q2, q3, q4, q5, q6, q7⟩ := e2
            subst q1 q2 q3 q4 q5 q6 q7
            exact ⟨oc, od, _, _, _, cda, _, osl, cc, ccl, cdd, vs, ccs, tf, cl, cld, csl, ho, g2, hc, hv, hcc⟩
          · cases g4
        · cases g3
      · cases g3
    · cases h
  · cases h
/-- the rest of the class's look -/
def supB (K : PySem.W.Frag) (file : Str) (x qual : Str) : Bool := supB1 K (He.ga K x) && (supB2 K file qual (He.ga K x) (He.ma K (He.ga K x) "__init__") && (decide (PySem.W.findIn K (.ref (He.ga K x)) "__setattr__" = some (some (.builtin "object.__setattr__"))) && (decide (PySem.W.findIn K (.ref (He.ga K x)) "__init__" = some (some (.ref (He.ma K (He.ga K x) "__init__")))) &&
  (decide (PySem.W.typeIn K (.ref (He.ma K (He.ga K x) "__init__")) = some (.type "function")) && (decide (PySem.W.subIn K (.ref (He.ga K x)) (.type "ValueError") = some true) && (decide (PySem.W.mroIn K (He.ga K x) (.ref (He.ga K x)) = some true) && decide (PySem.W.nsIn K cStatics "thirdparty.any" = some none)))))))
theorem supB_ok {K : PySem.W.Frag} {file : Str} {d : XcD} (h : supB K file d.cls d.qual = true) (e : fnS K d.cls = d.val) : SupC K file (He.ga K d.cls) (He.ma K (He.ga K d.cls) "__init__") d.qual d.params d.body d.scope := by
  obtain ⟨h1, h⟩ := He.ba h
  obtain ⟨h2, h⟩ := He.ba h
  obtain ⟨h3, h⟩ := He.ba h
  obtain ⟨h4, h⟩ := He.ba h
  obtain ⟨h5, h⟩ := He.ba h
  obtain ⟨h6, h⟩ := He.ba h
  obtain ⟨h7, h8⟩ := He.ba h
  exact ⟨supB1_ok h1, of_decide_eq_true h3, of_decide_eq_true h4, of_decide_eq_true h5, of_decide_eq_true h6, of_decide_eq_true h7, of_decide_eq_true h8, supB2_ok h2 e⟩
/-- what a raise asks of the class -/
def raiB (K : PySem.W.Frag) (x : Str) : Bool := (He.Fa.glo x).ok K && (PySem.W.keepIn K (.ref (He.ga K x)) && (decide (PySem.W.subIn K (.ref (He.ga K x)) (.type "BaseException") = some true) && decide (PySem.W.typeIn K (.ref (He.ga K x)) = some (.type "type"))))
/-- what isinstance asks of the class -/
def xisB (K : PySem.W.Frag) (D : Addr) : Bool := (PySem.W.clsIn K D).isSome && (decide (PySem.W.findIn K (.ref D) "__getattribute__" = some (some (.builtin "BaseException.__getattribute__"))) && (decide (PySem.W.findIn K (.ref D) "__getattr__" = some none) && (decide (PySem.W.subIn K (.ref D) (.type "BaseException") = some true) &&
  (decide (PySem.W.findIn K (.ref D) "__class__" = some (some (.builtin "object.__class__"))) && (decide (PySem.W.specialIn K (.builtin "object.__class__") "__get__" = some (some (.builtin "getset_descriptor.__get__"))) && (decide (PySem.W.takesIn K (.builtin "object.__class__") = some true) && decide (PySem.W.mroIn K D (.type "object") = some true)))))))
theorem xisB_ok {K : PySem.W.Frag} {D : Addr} (h : xisB K D = true) : XisC K D := by
  obtain ⟨h1, h⟩ := He.ba h
  obtain ⟨h2, h⟩ := He.ba h
  obtain ⟨h3, h⟩ := He.ba h
  obtain ⟨h4, h⟩ := He.ba h
  obtain ⟨h5, h⟩ := He.ba h
  obtain ⟨h6, h⟩ := He.ba h
  obtain ⟨h7, h8⟩ := He.ba h
  exact ⟨h1, of_decide_eq_true h2, of_decide_eq_true h3, of_decide_eq_true h4, of_decide_eq_true h5, of_decide_eq_true h6, of_decide_eq_true h7, of_decide_eq_true h8⟩
/-- from made1: a class of one field -/
theorem vals_one {f : Str} {v : V} {u : Value} (r : RelV v u) (g : Str) : RelO ((([f] : List Str).zip [v].reverse).lookup g) (if g = f then some u else none) := by
  show RelO ((match g == f with | true => some v | false => none)) _
  by_cases e : g = f
  · subst e
    rw [beq_self_eq_true, if_pos rfl]
    exact r
  · rw [beq_eq_false_iff_ne.mpr e, if_neg e]
    trivial
theorem vals_two {f f' : Str} {v v' : V} {u u' : Value} (r : RelV v u) (r' : RelV v' u') (g : Str) : RelO ((([f', f] : List Str).zip [v, v'].reverse).lookup g) (if g = f' then some u' else if g = f then some u else none) := by
  show RelO ((match g == f' with | true => some v' | false => (match g == f with | true => some v | false => none))) _
  by_cases e : g = f'
  · subst e
    rw [beq_self_eq_true, if_pos rfl]
    exact r'
  · rw [beq_eq_false_iff_ne.mpr e, if_neg e]
    by_cases e2 : g = f
    · subst e2
      rw [beq_self_eq_true, if_pos rfl]
      exact r
    · rw [beq_eq_false_iff_ne.mpr e2, if_neg e2]
      trivial
theorem sup_gnd {h : Heap} {mg : Str → Option Value} (G : Gnd h mg) (hs : mg "super" = none) : ∃ mb, SupG h mg mb := by
  obtain ⟨mb, h1, h2⟩ := G.b
  exact ⟨mb, G.g, h1, hs, (h2 "super" (by decide)).trans (by decide +kernel)⟩
end Eng
set_option Elab.async false
set_option linter.all false
set_option maxRecDepth 100000
set_option maxHeartbeats 2000000
/-! Eng 24: an error class called by keywords -/
namespace Eng
open PySem PySem.Spec PySem.W PySem.Calls PyProof.Rows PySem.HandSPX
section
variable {M : Model} {A : Around} {E : Value → Shared → Prop} {h : Heap} {g : Array GenState} {d : Drawn} {t : Nat} {os : OsState}
variable {nm q : Str} {C N : Addr} {bs bm bmB : List Value} {hdct : Bool} {sn : List Str} {sub : List Value} {ab : Bool} {col : Option Bool} {dd : Option Addr} {k0 k1 k2 k3 k5 : Option Value} {B newId initId : String}
theorem check_new_kw (F : ExcBaseFacts B newId initId bmB) (hT : ∀ X : String, bm.contains (.type X) = bmB.contains (.type X)) {kw : List (Str × Value)} {Q : Unit → Shared → Prop}
    (hC : h.get? C = some (excClassObj nm q C N bs bm hdct sn sub ab col dd k0 k1 k2 k3 k5 newId)) (hq : Q () ⟨h, g, d, t, os⟩) : wpAny M A (checkBuiltinCall newId ⟨[.ref C], kw⟩) Q E ⟨h, g, d, t, os⟩ := by
  have hcont : (Value.ref C :: bm).contains (.type B) = true := by rw [List.contains_cons, hT, F.hasB, Bool.or_true]
  have hstar := F.noStar
  simp only [checkBuiltinCall, F.newKind, F.newSplit, F.newRow]
  repeat (first | refine wpAny_loadPart_at hC ?_ | (refine wpAny_isSubtype_exc hC ?_; rw [hcont]) | refine wpAny_staticBase_exc hC ?_ | refine wpAny_madeBy_exc hC ?_ | simp only [bne_self_eq_false, Bool.false_eq_true, if_false] | wp_step)
  exact hq
theorem check_tc_kw {kw : List (Str × Value)} {Q : Unit → Shared → Prop} (hC : h.get? C = some (excClassObj nm q C N bs bm hdct sn sub ab col dd k0 k1 k2 k3 k5 newId))
    (hq : Q () ⟨h, g, d, t, os⟩) : wpAny M A (checkBuiltinCall "type.__call__" ⟨[.ref C], kw⟩) Q E ⟨h, g, d, t, os⟩ := by
  have f3 := tc_sub
  have hT : (⟨h, g, d, t, os⟩ : Shared).TypeIs (.ref C) "type" := ⟨_, hC, rfl⟩
  simp only [checkBuiltinCall, tc_kind, tc_split]
  repeat (any_goals (first | assumption | with_reducible refine wpAny_loadPart_at hC ?_ | with_reducible refine wpAny_onRaise ?_ | with_reducible refine wpAny_map ?_ | wp_step))
end
section
variable {prog : Program} {w : World} {A : Around} {E : Value → Shared → Prop} {R : Result → Shared → Prop} {h : Heap} {g : Array GenState} {d : Drawn} {t : Nat} {os : OsState}
variable {nm q : Str} {C N : Addr} {bs bm bmB : List Value} {hdct : Bool} {sn : List Str} {sub : List Value} {ab : Bool} {col : Option Bool} {dd : Option Addr} {k0 k1 k2 k3 k5 : Option Value} {B newId initId : String}
theorem new_kw (F : ExcBaseFacts B newId initId bmB) (hT : ∀ X : String, bm.contains (.type X) = bmB.contains (.type X)) {kw : List (Str × Value)}
    (hC : h.get? C = some (excClassObj nm q C N bs bm hdct sn sub ab col dd k0 k1 k2 k3 k5 newId))
    (hq : R (.ok (.ret (.ref (h.objs.size + 1)))) ⟨(h.push { cls := .type "tuple", data := .seq #[] }).push
      { cls := .ref C, data := .fields #[.ref h.objs.size, .none, .none, .none, .bool false, .none] }, g, d, t, os⟩) :
    codeAny (model prog w) A (.builtin newId ⟨[.ref C], kw⟩) R ⟨h, g, d, t, os⟩ := by
  have hends := F.ends
  have hcB : (Value.ref C :: bm).contains (.type B) = true := by rw [List.contains_cons, hT, F.hasB, Bool.or_true]
  have hcA : (Value.ref C :: bm).contains (.type "AttributeError") = false := by rw [List.contains_cons, hT, F.noAttr]; rfl
  have hcN : (Value.ref C :: bm).contains (.type "NameError") = false := by rw [List.contains_cons, hT, F.noName]; rfl
  have hrest : ([] : List Value).length ≤ sizeLine := Nat.zero_le _
  refine codeAny_builtinAt F.entry ?_
  unfold Builtin.«BaseException.__new__»
  refine _root_.PySem.wpAt_bind ?_
  show _root_.PySem.wpAt _ _ _ (stack >>= _) _ _ _
  refine _root_.PySem.wpAt_bind (_root_.PySem.wpAt_stack fun p below => _root_.PySem.wpAt_of_wpAny ?_)
  wp_walk
  refine wpAt_of_wpAny ?_
  rw [F.owner]
  repeat (first | with_reducible refine wpAny_madeHere_exc F.canon hC ?_ | with_reducible refine wpAny_loadPart_at hC ?_ | (with_reducible refine wpAny_isSubtype_exc hC ?_; first | rw [hcB] | rw [hcA] | rw [hcN]) | wp_step)
  show R _ _
  rw [Heap.size_push]
  exact hq
theorem type_call_kw (F : ExcBaseFacts B newId initId bmB) (hT : ∀ X : String, bm.contains (.type X) = bmB.contains (.type X)) {kw : List (Str × Value)} {fI : Addr} {Q : Fin → Shared → Prop}
    (hC : h.get? C = some (excClassObj nm q C N bs bm hdct sn sub ab col dd k0 k1 k2 k3 k5 newId))
    (hi : W.Looks (model prog w) h (typeLookup (.ref C) "__init__") (some (.ref fI))) (hb : ∀ self, W.Looks (model prog w) h (bindSpecial (.ref fI) self) (.ref fI, [self]))
    (hq : codeAny (model prog w) A (.call (.ref fI) ⟨[.ref (h.objs.size + 1)], kw⟩)
      (fun r s' => match r with | .ok (.ret v) => v = .none ∧ Q (.done (.ret (.ref (h.objs.size + 1)))) s' | .ok _ => False | .error e => E e s')
      ⟨(h.push (W.kdv_tup [])).push (excO C h.objs.size), g, d, t, os⟩) :
    wpAny (model prog w) A (Builtin.«type.__call__» ⟨[.ref C], kw⟩) Q E ⟨h, g, d, t, os⟩ := by
  repeat (first | with_reducible refine wpAny_loadPart_at hC ?_ | with_reducible refine wpAny_madeBy_exc hC ?_ | wp_step)
  refine codeAny_call_builtin_code (Code.quiet_builtin _ F.quiet) (check_new_kw F hT hC ?_)
  refine new_kw F hT hC ?_
  show wpAny _ _ _ _ _ _
  have k : ∀ b o, h.get? b = some o → ((h.push (W.kdv_tup [])).push (excO C h.objs.size)).get? b = some o := fun b o e => Heap.get?_push_of_some _ (Heap.get?_push_of_some _ e)
  have hC₁ := k _ _ hC
  have hget : ((h.push (W.kdv_tup [])).push (excO C h.objs.size)).get? (h.objs.size + 1) = some (excO C h.objs.size) := by heap_get
  have hcC : (Value.ref C :: bm).contains (.ref C) = true := by simp
  have i1 := hi.keeps k
  have b1 := (hb (.ref (h.objs.size + 1))).keeps k
  unfold isInstance
  repeat (first | with_reducible refine wpAny_loadPart_at hget ?_ | (with_reducible refine wpAny_isSubtype_exc hC₁ ?_; rw [hcC]) | wp_step)
  show wpAny _ _ (typeLookup (.ref C) _) _ _ _
  refine i1.at ?_
  refine wpAny_holding (wpAny_bind (b1.at ?_))
  refine wpAny_bind (wpAny_call (codeAny_mono hq fun r s' z => ?_))
  rcases r with e | (v | _ | _ | _) <;> first | exact z | exact z.elim | skip
  obtain ⟨rfl, z⟩ := z
  first
    | exact wpAny_pure (wpAny_pure z)
    | (wp_walk; exact z)
theorem call_kw (F : ExcBaseFacts B newId initId bmB) (hT : ∀ X : String, bm.contains (.type X) = bmB.contains (.type X)) {kw : List (Str × Value)} {fI : Addr}
    (hC : h.get? C = some (excClassObj nm q C N bs bm hdct sn sub ab col dd k0 k1 k2 k3 k5 newId))
    (hi : W.Looks (model prog w) h (typeLookup (.ref C) "__init__") (some (.ref fI))) (hb : ∀ self, W.Looks (model prog w) h (bindSpecial (.ref fI) self) (.ref fI, [self]))
    (hq : codeAny (model prog w) (A.under (.builtin "type.__call__" ⟨[.ref C], kw⟩)) (.call (.ref fI) ⟨[.ref (h.objs.size + 1)], kw⟩) (W.InitBack (h.objs.size + 1) R)
      ⟨(h.push (W.kdv_tup [])).push (excO C h.objs.size), g, d, t, os⟩) :
    codeAny (model prog w) A (.call (.ref C) ⟨[], kw⟩) R ⟨h, g, d, t, os⟩ := by
  have f1 := tc_lookup
  have f2 := tc_bind (.ref C)
  have hTy : (⟨h, g, d, t, os⟩ : Shared).TypeIs (.ref C) "type" := ⟨_, hC, rfl⟩
  refine codeAny_of_tree ?_
  show wpAny _ _ (callAny (.ref C) _) _ _ _
  repeat (any_goals (first | assumption | with_reducible refine wpAny_loadPart_at hC ?_ | wp_step))
  refine ⟨rfl, ?_⟩
  refine codeAny_call_builtin_at (Code.quiet_builtin _ (by decide +kernel)) entry_typeCall (check_tc_kw hC (type_call_kw F hT hC hi hb ?_))
  refine codeAny_mono hq fun r s' z => ?_
  rcases r with e | (v | _ | _ | _) <;> exact z
end
end Eng
set_option Elab.async false
set_option linter.all false
set_option maxRecDepth 100000
set_option maxHeartbeats 2000000
/-! Eng 25: errors of one field, of two, made by keywords -/
namespace Eng
open PySem PySem.Spec PySem.W PySem.Calls PyProof.Rows PySem.HandSPX
section
variable {prog : Program} {w : World} {A : Around} {E : Value → Shared → Prop} {R : Result → Shared → Prop} {s : Shared} {K : Frag} {file : Str} {C fI : Addr} {qual : Str} {params : Arguments} {body : List Stmt} {scope : Scope} {mg mb : Str → Option Value}
theorem made_ofK (S : SupC K file C fI qual params body scope) {kw : List (Str × Value)} {mA : Str → Option Value} (X : K.In s.heap) (hlim : s.heap.NoLimit)
    (hi : ∀ (A : Around) (R : Result → Shared → Prop) (s' : Shared) (x t0 : Addr), A.depth = A.depth → K.In s'.heap → s'.heap.NoLimit → s'.heap.get? x = some (excO C t0) → (∀ b o, s.heap.get? b = some o → s'.heap.get? b = some o) → s.heap.objs.size ≤ x →
      (∀ h' tk dx, XInit s'.heap h' x C dx mA → R (.ok (.ret .none)) { s' with heap := h', toks := tk }) → (A.depth < recursionLimit) → codeAny (model prog w) A (.call (.ref fI) ⟨[.ref x], kw⟩) R s') (hroom : A.depth + 1 < recursionLimit)
    (hq : ∀ h' tk e d, XMade s.heap h' e C d mA → R (.ok (.ret (.ref e))) { s with heap := h', toks := tk }) : codeAny (model prog w) A (.call (.ref C) ⟨[], kw⟩) R s := by
  obtain ⟨nm, q, N, bs, bm, sn, sub, ab, col, dd, k0, k1, k2, k3, k5, hC, hbm, hal⟩ := S.cls
  obtain ⟨hp, g, dr, tk, os⟩ := s
  have k : ∀ b o, hp.get? b = some o → ((hp.push (kdv_tup [])).push (excO C hp.objs.size)).get? b = some o := fun b o e => Heap.get?_push_of_some _ (Heap.get?_push_of_some _ e)
  have hget : ((hp.push (kdv_tup [])).push (excO C hp.objs.size)).get? (hp.objs.size + 1) = some (excO C hp.objs.size) := by heap_get
  refine call_kw F.excBase_ValueError (fun Y => refsVE_contains Y bm hbm) (X _ _ hC) (looks_findIn X S.iC) (fun self => bind_fn X self S.tI) ?_
  refine hi _ _ ⟨(hp.push (kdv_tup [])).push (excO C hp.objs.size), g, dr, tk, os⟩ (hp.objs.size + 1) hp.objs.size rfl (X.keeps k) (hlim.keeps k) hget k (Nat.le_succ _) (fun h' tk' dx M => ?_) hroom
  have z : hp.objs.size + 1 + 1 ≤ dx := by
    have q := M.dbig
    rw [Heap.size_push, Heap.size_push] at q
    exact q
  exact ⟨rfl, hq h' tk' (hp.objs.size + 1) dx ⟨fun b o e => M.keep b o (Nat.ne_of_lt (Nat.lt_succ_of_lt (Heap.lt_size e))) (k b o e), Nat.le_succ _, M.obj, by show hp.objs.size ≤ dx; omega, M.dne, M.ns⟩⟩
theorem made1K {p f : Str} {a1 a2 a3 a4 a5 a6 b1 b2 b3 b4 : Pos} {v : Value} (S : SupC K file C fI qual params body scope) (T : SupT qual params scope) (U : SupE qual scope a1 a2 a3 a5 a6 [.Name p a4])
    (hbody : body = [.Expr (.Call (.Attribute (.Call (.Name "super" a1) [] [] a2) "__init__" a3) [.Name p a4] [] a5) a6, .Assign [.Attribute (.Name "self" b1) f b2] (.Name p b3) b4])
    (hb : ∀ (doc pm : Value) (an : Option Addr) (cda : Addr) (ct : Value) (cc : Addr) (u : Value), bindArgs (ksFn "__init__" qual params body scope .none .none doc pm an (.ref cda) ct cc) ⟨[u], [(p, v)]⟩ = pure [(("self" : Str), u), (p, v)])
    (hps : (("self" : Str) == p) = false) (hkp : scope.names.lookup p = some .local) (hpd : (p == ("__debug__" : Str)) = false) (no : findIn K (.ref C) f = some none)
    (hsw : ∀ L cda cc, swapsWith (.Name p b3) (some (.Attribute (.Name "self" b1) f b2)) b4.line (ksEnv qual scope L fI (.ref cda) cc) = pure false)
    (hfile : ((prog.main.file : Str) == file) = true) (htop : (prog.main.scope.names.lookup ("super" : Str)).isSome = false)
    (X : K.In s.heap) (G : SupG s.heap mg mb) (hlim : s.heap.NoLimit) (hroom : A.depth + 1 < recursionLimit)
    (hq : ∀ h' tk e d, XMade s.heap h' e C d (fun y => if y = f then some v else none) → R (.ok (.ret (.ref e))) { s with heap := h', toks := tk }) : codeAny (model prog w) A (.call (.ref C) ⟨[], [(p, v)]⟩) R s := by
  obtain ⟨oc, od, doc, pm, an, cda, ct, osl, cc, ccl, cdd, vs, ccs, tf, cl, cld, csl, hf, hcd, hcode, hvs, hcel⟩ := S.fn
  obtain ⟨ar, har, hself⟩ := T.hp
  have one : [v].length ≤ sizeLine := by rw [sizeLine_eq]; exact (by decide : 1 ≤ 16777216)
  refine made_ofK S X hlim (fun A R s' x t0 _ X' lim' hx' k' hle hq' hroom' => ?_) hroom hq
  obtain ⟨h0, g, d, t, os⟩ := s'
  have bnd := hb doc pm an cda ct cc (.ref x)
  subst hbody
  refine ks_codeAny_call_defAt (fd := ksFn "__init__" qual params _ scope .none .none doc pm an (.ref cda) ct cc) (binds := [("self", .ref x), (p, v)]) hroom' (X' _ _ hf) rfl lim' (codeRec_of X' hcd) rfl (BindsTo.of_eq bnd)
    (fun y hy => of_decide_eq_true (List.all_eq_true.mp T.hcell y hy)) (fun y hy => ?_) (fun h1 hns k1 => ?_) T.hco T.hgen T.hk
  · rcases List.mem_cons.mp hy with rfl | hy
    · exact T.hse
    · rw [List.mem_singleton.mp hy]
      exact hkp
  · have hxL : h0.objs.size ≠ x := Nat.ne_of_gt (Heap.lt_size hx')
    have mself : ([("self", Value.ref x), (p, v)] : List (Str × Value)).reverse.lookup ("self" : Str) = some (Value.ref x) := by
      show (match ("self" : Str) == p with | true => some v | false => ([("self", Value.ref x)] : List (Str × Value)).lookup ("self" : Str)) = some (Value.ref x)
      rw [hps]
      rfl
    have mp : ([("self", Value.ref x), (p, v)] : List (Str × Value)).reverse.lookup p = some v := by
      show (match p == p with | true => some v | false => ([("self", Value.ref x)] : List (Str × Value)).lookup p) = some v
      rw [beq_self_eq_true]
    obtain ⟨pl, he⟩ := U.he h0.objs.size fI cda cc
    refine sup_stmt (us := [v]) (pl := pl) S (X'.keeps k1) ((G.keeps k').keeps k1) (k1 _ _ hx') hxL hns hf hcode hvs hcel hfile htop har (by rw [hself]; exact mself) T.hks T.hkc (by rw [hself]; exact T.hse) T.hk he rfl one (fun s1 Q1 E1 u hL q1 => ?_) (U.sw _ _ _ _) (U.inn _ _ _ _) fun h2 t1 tk2 k2 hx2 hL2 => ?_
    · refine Calls.evalArgs_plain (Calls.spliced_cons (ESX.ldL hL mp (Calls.spliced_nil q1) T.hk hkp hpd))
    · have X2 : K.In h2 := in_but X hle (X'.keeps k1) k2
      refine sup_set S X2 hx2 hxL hL2 no mself mp T.hse hkp T.hk hpd (hsw _ _ _) fun h3 dx tk3 k3 dn dne hx3 hn3 hL3 => ?_
      refine wpAt_of_wpAny (wpAny_execs_nil (hq' h3 tk3 dx ⟨fun b o hb e => k3 b o hb (k2 b o hb (k1 b o e)), ⟨t1, hx3⟩, ?_, dne, hn3⟩))
      have z : h0.objs.size < h2.objs.size := hL2.lt
      show h0.objs.size ≤ dx
      exact Nat.le_of_lt (Nat.lt_of_lt_of_le z dn)
theorem made2K {p q f f' : Str} {a1 a2 a3 a4 a4' a5 a6 b1 b2 b3 b4 c1 c2 c3 c4 : Pos} {v v' : Value} {kw : List (Str × Value)} (S : SupC K file C fI qual params body scope) (T : SupT qual params scope) (U : SupE qual scope a1 a2 a3 a5 a6 [.Name p a4, .Name q a4'])
    (hbody : body = [.Expr (.Call (.Attribute (.Call (.Name "super" a1) [] [] a2) "__init__" a3) [.Name p a4, .Name q a4'] [] a5) a6, .Assign [.Attribute (.Name "self" b1) f b2] (.Name p b3) b4, .Assign [.Attribute (.Name "self" c1) f' c2] (.Name q c3) c4])
    (hb : ∀ (doc pm : Value) (an : Option Addr) (cda : Addr) (ct : Value) (cc : Addr) (u : Value), bindArgs (ksFn "__init__" qual params body scope .none .none doc pm an (.ref cda) ct cc) ⟨[u], kw⟩ = pure [(("self" : Str), u), (p, v), (q, v')])
    (hps : (("self" : Str) == p) = false) (hqs : (("self" : Str) == q) = false) (hpq : (p == q) = false) (hkp : scope.names.lookup p = some .local) (hkq : scope.names.lookup q = some .local) (hpd : (p == ("__debug__" : Str)) = false) (hqd : (q == ("__debug__" : Str)) = false)
    (no : findIn K (.ref C) f = some none) (no' : findIn K (.ref C) f' = some none)
    (hsw : ∀ L cda cc, swapsWith (.Name p b3) (some (.Attribute (.Name "self" b1) f b2)) b4.line (ksEnv qual scope L fI (.ref cda) cc) = pure false)
    (hsw' : ∀ L cda cc, swapsWith (.Name q c3) (some (.Attribute (.Name "self" c1) f' c2)) c4.line (ksEnv qual scope L fI (.ref cda) cc) = pure false)
    (hfile : ((prog.main.file : Str) == file) = true) (htop : (prog.main.scope.names.lookup ("super" : Str)).isSome = false)
    (X : K.In s.heap) (G : SupG s.heap mg mb) (hlim : s.heap.NoLimit) (hroom : A.depth + 1 < recursionLimit)
    (hq : ∀ h' tk e d, XMade s.heap h' e C d (fun y => if y = f' then some v' else if y = f then some v else none) → R (.ok (.ret (.ref e))) { s with heap := h', toks := tk }) : codeAny (model prog w) A (.call (.ref C) ⟨[], kw⟩) R s := by
  obtain ⟨oc, od, doc, pm, an, cda, ct, osl, cc, ccl, cdd, vs, ccs, tf, cl, cld, csl, hf, hcd, hcode, hvs, hcel⟩ := S.fn
  obtain ⟨ar, har, hself⟩ := T.hp
  have two : [v, v'].length ≤ sizeLine := by rw [sizeLine_eq]; exact (by decide : 2 ≤ 16777216)
  refine made_ofK S X hlim (fun A R s' x t0 _ X' lim' hx' k' hle hq' hroom' => ?_) hroom hq
  obtain ⟨h0, g, d, t, os⟩ := s'
  have bnd := hb doc pm an cda ct cc (.ref x)
  subst hbody
  refine ks_codeAny_call_defAt (fd := ksFn "__init__" qual params _ scope .none .none doc pm an (.ref cda) ct cc) (binds := [("self", .ref x), (p, v), (q, v')]) hroom' (X' _ _ hf) rfl lim' (codeRec_of X' hcd) rfl (BindsTo.of_eq bnd)
    (fun y hy => of_decide_eq_true (List.all_eq_true.mp T.hcell y hy)) (fun y hy => ?_) (fun h1 hns k1 => ?_) T.hco T.hgen T.hk
  · rcases List.mem_cons.mp hy with rfl | hy
    · exact T.hse
    · rcases List.mem_cons.mp hy with rfl | hy
      · exact hkp
      · rw [List.mem_singleton.mp hy]
        exact hkq
  · have hxL : h0.objs.size ≠ x := Nat.ne_of_gt (Heap.lt_size hx')
    have mself : ([("self", Value.ref x), (p, v), (q, v')] : List (Str × Value)).reverse.lookup ("self" : Str) = some (Value.ref x) := by
      show (match ("self" : Str) == q with | true => some v' | false => (match ("self" : Str) == p with | true => some v | false => ([("self", Value.ref x)] : List (Str × Value)).lookup ("self" : Str))) = some (Value.ref x)
      rw [hqs, hps]
      rfl
    have mp : ([("self", Value.ref x), (p, v), (q, v')] : List (Str × Value)).reverse.lookup p = some v := by
      show (match p == q with | true => some v' | false => (match p == p with | true => some v | false => ([("self", Value.ref x)] : List (Str × Value)).lookup p)) = some v
      rw [hpq, beq_self_eq_true]
    have mq : ([("self", Value.ref x), (p, v), (q, v')] : List (Str × Value)).reverse.lookup q = some v' := by
      show (match q == q with | true => some v' | false => (match q == p with | true => some v | false => ([("self", Value.ref x)] : List (Str × Value)).lookup q)) = some v'
      rw [beq_self_eq_true]
    obtain ⟨pl, he⟩ := U.he h0.objs.size fI cda cc
    refine sup_stmt (us := [v, v']) (pl := pl) S (X'.keeps k1) ((G.keeps k').keeps k1) (k1 _ _ hx') hxL hns hf hcode hvs hcel hfile htop har (by rw [hself]; exact mself) T.hks T.hkc (by rw [hself]; exact T.hse) T.hk he rfl two (fun s1 Q1 E1 u hL q1 => ?_) (U.sw _ _ _ _) (U.inn _ _ _ _) fun h2 t1 tk2 k2 hx2 hL2 => ?_
    · exact Calls.evalArgs_plain (Calls.spliced_cons (ESX.ldL hL mp (Calls.spliced_cons (ESX.ldL hL mq (Calls.spliced_nil q1) T.hk hkq hqd)) T.hk hkp hpd))
    · have X2 : K.In h2 := in_but X hle (X'.keeps k1) k2
      refine sup_set S X2 hx2 hxL hL2 no mself mp T.hse hkp T.hk hpd (hsw _ _ _) fun h3 dx tk3 k3 dn dne hx3 hn3 hL3 => ?_
      have X3 : K.In h3 := in_but X hle X2 k3
      have z : h0.objs.size < h2.objs.size := hL2.lt
      have hdL : h0.objs.size ≠ dx := Nat.ne_of_lt (Nat.lt_of_lt_of_le z dn)
      refine sup_set2 (nl := [f]) S X3 hx3 hn3 (fun y hy => ?_) (by simp) hdL hL3 no' mself mq T.hse hkq T.hk hqd (hsw' _ _ _) fun h4 tk4 k4 hn4 hL4 => ?_
      · by_cases e : y = f
        · rw [e]; exact List.mem_cons_self
        · exact absurd (if_neg e) hy
      · refine wpAt_of_wpAny (wpAny_execs_nil (hq' h4 tk4 dx ⟨fun b o hb e => ?_, ⟨t1, k4 _ _ dne.symm hx3⟩, ?_, dne, hn4⟩))
        · have e2 := k2 b o hb (k1 b o e)
          refine k4 b o (fun z => ?_) (k3 b o hb e2)
          rw [z] at e2
          exact absurd (Heap.lt_size e2) (Nat.not_lt_of_le dn)
        · show h0.objs.size ≤ dx
          exact Nat.le_of_lt (Nat.lt_of_lt_of_le z dn)
end
end Eng
set_option Elab.async false
set_option linter.all false
set_option maxRecDepth 100000
set_option maxHeartbeats 2000000
/-! Eng 26: C(f=..).f, a field of an error made on the spot -/
namespace Eng
open PySem PySem.Spec PyProof.Rows L2

/-- keywords, from the left, n of them -/
def PKn (X : Cx) (kws : List Keyword) (n : Nat) (t : TA) : Prop := PK X kws fun σ H Q => t σ H fun vs H1 => vs.length = n → Q vs H1
/-- the error class x of the package, called with the keywords ks -/
structure XkOk (P : Program) (w : World) (K : PySem.W.Frag) (mg : Str → Option Value) (x : Str) (ks : List Str) : Prop where
  made : ∀ (A : Around) (R : Result → Shared → Prop) (s : Shared) (us : List Value), us.length = ks.length → K.In s.heap → Gnd s.heap mg → A.depth + 1 < recursionLimit →
    (∀ h' tk e d mA, XMade s.heap h' e (He.ga K x) d mA → (∀ f v, (ks.zip us).lookup f = some v → mA f = some v) → R (.ok (.ret (.ref e))) { s with heap := h', toks := tk }) → codeAny (model P w) A (.call (.ref (He.ga K x)) ⟨[], ks.zip us⟩) R s
  mg : mg x = some (.ref (He.ga K x))
  kp : PySem.W.keepIn K (.ref (He.ga K x)) = true
theorem zip_rel {f : Str} {v : V} : ∀ {ks : List Str} {vs : List V} {us : List Value}, Vals vs us → (ks.zip vs).lookup f = some v → ∃ u, (ks.zip us).lookup f = some u ∧ RelV v u
  | [], _, _, _, h => by cases h
  | _ :: _, _, _, .nil, h => by cases h
  | k :: ks, _, _, .cons (a := x) (b := u) r rs, h => by
    have h : (match f == k with | true => some x | false => (ks.zip _).lookup f) = some v := h
    show ∃ w, (match f == k with | true => some u | false => (ks.zip _).lookup f) = some w ∧ RelV v w
    cases e : f == k with
    | true =>
      rw [e] at h
      cases h
      exact ⟨_, rfl, r⟩
    | false =>
      rw [e] at h
      exact zip_rel rs h
section
variable {X : Cx} {W : WW} {C : Calls}
theorem k_nil : PKn X [] 0 (tEs X.K W C .nil) := ⟨fun pos pins s σ H Q I ⟨F, T, st, env, w, eo, p⟩ => pk_nil.run pos pins s σ H Q I (p _ F T H (.refl _ _ _) w .nil rfl)⟩
theorem k_cons {nm : Option Str} {kpos : Pos} {n : Nat} {a : Expr} {kws : List Keyword} {e : E} {es : Es} (ha : PE X a (tE X.K W C e)) (hr : PKn X kws n (tEs X.K W C es)) : PKn X (⟨nm, a, kpos⟩ :: kws) (n + 1) (tEs X.K W C (.cons e es)) :=
  ⟨fun pos pins s σ H Q I ⟨F, T, st, env, w, eo, p⟩ => (pk_cons ha hr).run pos pins s σ H Q I (by
    have p : Post X.K W σ F T H (rVs X.K) ((evE C env e st).bnd fun d st => (evEs C env es st).bnd fun ds st => .ok (d :: ds) st) (fun vs H1 => vs.length = n + 1 → Q vs H1) := p
    refine ⟨F, T, st, env, w, eo, (Post.bnd (R1 := rV X.K) sh_Vs p).mono fun x H1 ⟨F1, T1, st1, d, x1, w1, r1, p1⟩ => ?_⟩
    refine ⟨F1, T1, st1, env, w1, eo.ext x1, (Post.bnd (R1 := rVs X.K) sh_Vs p1).mono fun xs H2 ⟨F2, T2, st2, ds, x2, w2, r2, p2⟩ => fun hl => ?_⟩
    exact p2 _ F2 T2 H2 (.refl _ _ _) w2 (.cons (Rep.mono x2.fr x2.pre r1) r2) (by rw [List.length_cons, hl]))⟩
theorem s_xkw {k : Nat} {x f : Str} {ks : List Str} {kws : List Keyword} {es : Es} {p pos p2 : Pos} (h : XkOk X.prog X.w X.K X.mg x ks) (T : XfC X.K (He.ga X.K x) ∧ PySem.W.findIn X.K (.ref (He.ga X.K x)) f = some none) (hr : Room k X.A) (hg : Gl X x) (hk : PKn X kws ks.length (tEs X.K W C es)) (hd : (x == ("__debug__" : Str)) = false)
    (hall : (backToKw pos (keywordEach kws X.env)).all (·.1.isSome) = true) (hks : (backToKw pos (keywordEach kws X.env)).filterMap (·.1) = ks) (hpl : ((backTo pos (starEach [] X.env)).any (·.1) || (backToKw pos (keywordEach kws X.env)).any (·.1.isNone)) = false)
    (hb : attributeBase (.Call (.Name x p) [] kws pos) f X.env (eval (.Call (.Name x p) [] kws pos) X.env) = eval (.Call (.Name x p) [] kws pos) X.env) :
    PE X (.Attribute (.Call (.Name x p) [] kws pos) f p2) (tE X.K W C (.xkw x ks es f)) := by
  refine ⟨fun pins s σ H Q I ⟨F, T0, st, env, w, eo, q⟩ => ?_⟩
  have q : Post X.K W σ F T0 H (rV X.K) ((evEs C env es st).bnd fun ds st => ofO (fldD f ks ds) st) Q := q
  refine attr_of hb (wpAny_Call_Name_kw (ld_glob I hg h.mg ?_ hd))
  have run := hk.run pos pins s σ H (fun vs H1 => vs.length = ks.length ∧ ∃ F1 T1 st1 ds, Ext F T0 H F1 T1 H1 ∧ WF X.K F1 T1 st1 H1 ∧ Reps X.K F1 T1 vs ds ∧ Post X.K W σ F1 T1 H1 (rV X.K) (ofO (fldD f ks ds) st1) Q) I
    ⟨F, T0, st, env, w, eo, (Post.bnd (R1 := rVs X.K) sh_V q).mono fun _ _ z hl => ⟨hl, z⟩⟩
  refine PySem.W.callWith_KW0 (h₀ := X.base) I.ok.mod.kin h.kp hall (thn run fun us s1 ⟨vs, H1, I1, r1, hl, F1, T1, st1, ds, x1, w1, rr, p1⟩ => ⟨I1.kIn, ?_⟩) hpl
  have rr : Reps X.K F1 T1 vs ds := rr
  rw [hks]
  have gnd := Inv.gnd I1
  obtain ⟨hp, g, dr, tk, os⟩ := s1
  refine wpAny_call (h.made _ _ ⟨hp, g, dr, tk, os⟩ us (by rw [← r1.length]; exact hl) I1.kIn gnd (by have := hr.dp; omega) fun h' tk' e d mA M rel => ?_)
  cases c : fldD f ks ds with
  | none => rw [c] at p1; exact p1.elim
  | some z =>
    rw [c] at p1
    have e1 : (ks.zip vs).map (·.1) = ks := List.map_fst_zip (Nat.le_of_eq hl.symm)
    have e2 : (ks.zip vs).map (·.2) = vs := List.map_snd_zip (Nat.le_of_eq hl)
    obtain ⟨v, l, rv⟩ := lookup_fld (fs := ks.zip vs) (f := f) (by rw [e2]; exact rr) (by rw [e1]; exact c)
    obtain ⟨u, lu, ru⟩ := zip_rel r1 l
    have hm := rel f u lu
    obtain ⟨t1, hoe⟩ := M.obj
    obtain ⟨od, ho, hl'⟩ := lookIn_ns M.ns
    have J : PySem.W.InstAt h' e _ (He.ga X.K x) (some od) := ⟨hoe, rfl, rfl, ho⟩
    have I2 := I1.kept (h' := h') (t' := tk') M.keep
    exact HandSPX.exc_get I2.kIn J T.1.ga T.1.gg T.1.exC (PySem.W.findObj_own T.1.hdC T.2 rfl (by rw [hl', hm])) (handed_of ru) ⟨v, H1, I2.tok _, ru, p1 v F1 T1 H1 (.refl _ _ _) w1 rv⟩
end
theorem kw_one {p f : Str} {v u : Value} (l : (([p] : List Str).zip [v]).lookup f = some u) : (if f = p then some v else none) = some u := by
  have l : (match f == p with | true => some v | false => none) = some u := l
  by_cases e : f = p
  · rw [e, beq_self_eq_true] at l
    rw [if_pos e]
    exact l
  · rw [beq_eq_false_iff_ne.mpr e] at l
    cases l
theorem kw_two {p q f : Str} {v v' u : Value} (hpq : (p == q) = false) (l : (([p, q] : List Str).zip [v, v']).lookup f = some u) : (if f = q then some v' else if f = p then some v else none) = some u := by
  have l : (match f == p with | true => some v | false => match f == q with | true => some v' | false => none) = some u := l
  by_cases e : f = p
  · subst e
    rw [beq_self_eq_true] at l
    rw [if_neg (beq_eq_false_iff_ne.mp hpq), if_pos rfl]
    exact l
  · rw [beq_eq_false_iff_ne.mpr e] at l
    by_cases e' : f = q
    · subst e'
      rw [beq_self_eq_true] at l
      rw [if_pos rfl]
      exact l
    · rw [beq_eq_false_iff_ne.mpr e'] at l
      cases l
theorem kw_two' {p q f : Str} {v v' u : Value} (l : (([q, p] : List Str).zip [v', v]).lookup f = some u) : (if f = q then some v' else if f = p then some v else none) = some u := by
  have l : (match f == q with | true => some v' | false => match f == p with | true => some v | false => none) = some u := l
  by_cases e' : f = q
  · subst e'
    rw [beq_self_eq_true] at l
    rw [if_pos rfl]
    exact l
  · rw [beq_eq_false_iff_ne.mpr e'] at l
    rw [if_neg e']
    by_cases e : f = p
    · subst e
      rw [beq_self_eq_true] at l
      rw [if_pos rfl]
      exact l
    · rw [beq_eq_false_iff_ne.mpr e] at l
      cases l
end Eng
set_option Elab.async false
set_option linter.all false
set_option maxRecDepth 100000
set_option maxHeartbeats 2000000
/-! Eng 27: the law's end -/
namespace Eng
open PySem PySem.Spec PyProof.Rows L2
theorem walk_ofW {l : PySem.W.OpenLaw} {n k : Nat} {q : Program} {loose : List Str} {XP : (Str → Option Value) → Heap → Prop} {YP : World → Heap → Prop} {d : DefRec} {CX : World → CXT} {x : Str}
    (hn : l.most = some n) (hn2 : n ≤ sizeLine) (hdf : d.params.defaults = []) (hr : Room k callerA)
    (F : ∀ (w : World) (mg : Str → Option Value) (fa : Addr) (h : Heap), YP w h → h.Ns mainGlobals mg → mg d.name = some (.ref fa) →
      ∃ (K : PySem.W.Frag) (fd : FuncData) (sp : Sp), K.In h ∧ (∀ (s : Shared) (u : Value), BindsTo s fd ⟨[u], []⟩ [(x, u)]) ∧
        (∀ (H : Hp) (a : Addr) (ns : List Int), ns.length ≤ n → Only H → SqL K H a (ns.map V.int) → sp [.ref a] H (fun v _ => v = .bl true) fun _ _ _ => False) ∧
        ∀ base : Heap, K.In base → base.Ns mainGlobals mg → FnOk l.prog w K mg base (CX w) k fa fd [x] sp)
    (hCX : ∀ (w : World) (H : Hp) (s : Shared) (e : Value) (s' : Shared), CX w [] H s (fun _ _ _ => False) e s' → False) :
    PySem.W.WalkO q loose XP YP l.row.toRowW d [] (fun f vs => PySem.call f vs) := by
  refine Att.attach_call hn hdf fun w s₀ s₁ mg mb fa o pm cd doc a vs ns G Y ho hd hcd hmg hobj hints hlen hg => ?_
  obtain ⟨K, fd, sp, KX, hb, hsp, hF⟩ := F w mg fa _ Y G.T.g hmg
  exact law_call KX G.T.g G.T.b G.T.builtins G.T.nolimit hg hobj hints (Nat.le_trans hlen hn2) hr hF hb (fun H hO hS => hsp H a ns hlen hO hS) fun H e s' => hCX w H s₁ e s'
theorem law_sp {K : PySem.W.Frag} {C : Calls} {n : Nat} {ns : List Int} {H : Hp} {a : Addr} (h : SqL K H a (ns.map V.int)) (e : ∃ st, C n [.scr ns] [] = .ok (.bl true) st) : spN K C n [.ref a] H (fun v _ => v = .bl true) fun _ _ _ => False := by
  obtain ⟨st, e⟩ := e
  refine ⟨H, [], [], [.scr ns], ⟨.refl _, rfl, List.nodup_nil, (fun _ h => by cases h), (fun n d h => by cases h)⟩, .cons (.scr h) .nil, ?_⟩
  rw [e]
  intro v F' T' H' _ _ r
  have r : Rep K F' T' v (.bl true) := r
  cases r
  rfl
theorem cx_law {P : Program} {w : World} {H : Hp} {s : Shared} {e : Value} {s' : Shared} : L2.CX P w [] H s (fun _ _ _ => False) e s' → False := fun ⟨_, _, _, _, _, _, _, _, _, _, _, _, h⟩ => h
end Eng
set_option Elab.async false
set_option linter.all false
set_option maxRecDepth 100000
set_option maxHeartbeats 2000000
/-! Eng 28: methods, makes -/
namespace Eng
open PySem PySem.Spec PyProof.Rows L2
theorem lookup_gone {m : Str} : ∀ {fs : List (Str × V)}, (fs.map (·.1)).contains m = false → fs.lookup m = none
  | [], _ => rfl
  | (k, v) :: fs, h => by
    have h : ((k :: fs.map (·.1)).contains m) = false := h
    rw [List.contains_cons] at h
    obtain ⟨h1, h2⟩ := Bool.or_eq_false_iff.mp h
    show (match m == k with | true => some v | false => fs.lookup m) = none
    rw [h1]
    exact lookup_gone h2
section
variable {X : Cx} {W : WW} {C : Calls}
/-- o.m(..): behind the object -/
theorem meth_mid {k n : Nat} {c m : Str} {eo : E} {es : Es} {pins : List (Addr × Obj)} {σ : L2.St} {F0 H : Hp} {T : List Addr} {st : Store} {env : Env} {Q : VK} (w : WF X.K F0 T st H) (eo' : EnvOk X.K W.xi F0 T H env σ)
    (p : Post X.K W σ F0 T H (rV X.K) (evE C env (.meth eo c m n es) st) Q) :
    tE X.K W C eo σ H fun x H1 => ∃ ad dx fs F1 T1 st1 d, x = V.ref ad ∧ H1 ad = some (.ins (He.ga X.K c) dx fs) ∧ fs.lookup m = none ∧ Ext F0 T H F1 T1 H1 ∧ WF X.K F1 T1 st1 H1 ∧ Rep X.K F1 T1 (.ref ad) d ∧ Post X.K W σ F1 T1 H1 (rV X.K) ((evEs C env es st1).bnd fun ds st => C n (d :: ds) st) Q := by
  have p : Post X.K W σ F0 T H (rV X.K) ((evE C env eo st).bnd fun x st => (ofO (deref st x) st).bnd fun y st => chkO (insIs c m y) ((evEs C env es st).bnd fun ds st => C n (x :: ds) st)) Q := p
  refine ⟨F0, T, st, env, w, eo', (Post.bnd (R1 := rV X.K) sh_V p).mono fun x H1 ⟨F1, T1, st1, d, x1, w1, r1, p1⟩ => ?_⟩
  cases e : deref st1 d with
  | none => rw [e] at p1; exact p1.elim
  | some d' =>
    rw [e] at p1
    have p1 : Post X.K W σ F1 T1 H1 (rV X.K) (chkO (insIs c m d') ((evEs C env es st1).bnd fun ds st => C n (d :: ds) st)) Q := p1
    obtain ⟨hc, pz⟩ := chk_ok (a := D.non) (st := st1) p1
    cases d' with
    | ins c' ks ds =>
      have hc : (decide (c' = c) && !ks.contains m) = true := hc
      obtain ⟨h1, h2⟩ := Bool.and_eq_true_iff.mp hc
      obtain rfl := of_decide_eq_true h1
      obtain ⟨ad, dx, fs, ev, ha', hk, rs⟩ := ins_at w1 (.inl r1) e
      subst ev
      exact ⟨ad, dx, fs, F1, T1, st1, d, rfl, ha', lookup_gone (by rw [hk]; exact (Bool.not_eq_true' _).mp h2), x1, w1, r1, pz⟩
    | _ => exact absurd hc Bool.false_ne_true
theorem s_meth {k n : Nat} {c m : Str} {o a : Expr} {as : List Expr} {eo : E} {es : Es} {apos pos : Pos} {pl : Sem Bool} (h : MethOk X.prog X.w X.K X.mg X.base k C c m n) (hr : Room k X.A) (tk : Takes X W) (ho : PE X o (tE X.K W C eo)) (ha : PA X (a :: as) (tEs X.K W C es)) (ok : okA a = true) (oks : okAs as = true)
    (ht : eval (.Call (.Attribute o m apos) (a :: as) [] pos) X.env = (do
      let ov ← eval o X.env
      standAt apos.atName
      let (f, first) ← holding [ov] (getMethod ov m pl)
      callWith pos f first (backTo pos (starEach (a :: as) X.env)) (backToKw pos (keywordEach [] X.env)))) :
    PE X (.Call (.Attribute o m apos) (a :: as) [] pos) (tE X.K W C (.meth eo c m n es)) := by
  obtain ⟨fd, ps, F, b⟩ := h.fn
  refine ⟨fun pins s σ H Q I ⟨F0, T, st, env, w, eo', p⟩ => ?_⟩
  refine PySem.W.methodCall_KW (pl := pl) (thn (ho.run pins s σ H _ I (meth_mid (k := k) (pins := pins) w eo' p)) fun u s1 ⟨x, H1, I1, rx, ad, dx, fs, F1, T1, st1, d, ex, ha', l, x1, w1, r1, p1⟩ => ?_) ht
  subst ex
  obtain rfl : u = Value.ref ad := rx
  refine getmeth_ok I1 ha' h.cl h.me l ?_
  have run := ha.run pos pins s1 σ H1 (fun vs H2 => ∃ F2 T2 st2 ds, Ext F1 T1 H1 F2 T2 H2 ∧ WF X.K F2 T2 st2 H2 ∧ Reps X.K F2 T2 vs ds ∧ Post X.K W σ F2 T2 H2 (rV X.K) (C n (d :: ds) st2) Q) I1 ⟨F1, T1, st1, env, w1, eo'.ext x1, Post.bnd (R1 := rVs X.K) sh_V p1⟩
  refine PySem.W.callWith_K (first := [.ref ad]) (h₀ := X.base) I.ok.mod.kin h.me.kp (thn run fun us s2 ⟨vs, H2, I2, r, F2, T2, st2, ds2, x2, w2, r2, p2⟩ => ⟨I2.kIn, ?_⟩) (okA_star ok) (okAs_plain oks)
  exact run_fnSD (E := fun σ => WE W σ) (us := .ref ad :: us) (vs := .ref ad :: vs) F hr b .nil (passAt tk σ) I2 (.cons rfl r) ⟨F2, T2, st2, d :: ds2, w2, by rw [List.append_nil]; exact .cons (Rep.mono x2.fr x2.pre r1) r2, post_call p2⟩
theorem s_meth0 {k n : Nat} {c m : Str} {o : Expr} {eo : E} {apos pos : Pos} {pl : Sem Bool} (h : MethOk X.prog X.w X.K X.mg X.base k C c m n) (hr : Room k X.A) (tk : Takes X W) (ho : PE X o (tE X.K W C eo))
    (ht : eval (.Call (.Attribute o m apos) [] [] pos) X.env = (do
      let ov ← eval o X.env
      standAt apos.atName
      let (f, first) ← holding [ov] (getMethod ov m pl)
      callWith pos f first (backTo pos (starEach [] X.env)) (backToKw pos (keywordEach [] X.env)))) :
    PE X (.Call (.Attribute o m apos) [] [] pos) (tE X.K W C (.meth eo c m n .nil)) := by
  obtain ⟨fd, ps, F, b⟩ := h.fn
  refine ⟨fun pins s σ H Q I ⟨F0, T, st, env, w, eo', p⟩ => ?_⟩
  refine PySem.W.methodCall_KW (pl := pl) (thn (ho.run pins s σ H _ I (meth_mid (k := k) (pins := pins) w eo' p)) fun u s1 ⟨x, H1, I1, rx, ad, dx, fs, F1, T1, st1, d, ex, ha', l, x1, w1, r1, p1⟩ => ?_) ht
  subst ex
  obtain rfl : u = Value.ref ad := rx
  refine getmeth_ok I1 ha' h.cl h.me l ?_
  have p1 : Post X.K W σ F1 T1 H1 (rV X.K) (C n [d] st1) Q := p1
  exact PySem.W.callWith_K0 (first := [.ref ad]) I1.kIn h.me.kp (run_fnSD (E := fun σ => WE W σ) (us := [.ref ad]) (vs := [.ref ad]) F hr b .nil (passAt tk σ) I1 (.cons rfl .nil) ⟨F1, T1, st1, [d], w1, .cons r1 .nil, post_call p1⟩)
/-- C(..) where what is raised is wished for at the caller's slots -/
theorem run_makeSD {CX : CXT} {k : Nat} {Ca f : Addr} {fd : FuncData} {ps : List Str} {sp : Sp} {dvs : List V} {ds : List Value} {E : L2.St → XK} {pins : List (Addr × Obj)} {σ : L2.St} {H : Hp} {s : Shared} {Q : VK} {us : List Value} {vs : List V} (M : Mk X.K Ca f) (F : FnOk X.prog X.w X.K X.mg X.base CX k f fd ps sp) (hr : Room (k + 1) X.A) (hb : Binds X.K fd ps ds) (hd : Vals dvs ds)
    (hx : PassesAt CX X σ (E σ)) (I : Inv X pins σ H s) (r : Vals vs us)
    (h : ∀ x dx, H x = none → H dx = none → dx ≠ x → sp (.ref x :: (vs ++ dvs)) (upd (upd H dx (.own x)) x (.ins Ca dx [])) (fun v H2 => v = .non ∧ Q (.ref x) H2) (E σ)) :
    wpAny (model X.prog X.w) X.A (call (.ref Ca) us) (EP X pins σ Q) X.xe s := by
  have hq := h (s.heap.objs.size + 1) s.heap.objs.size (I.hok.fresh (Nat.le_succ _)) (I.hok.fresh (Nat.le_refl _)) (Nat.ne_of_lt (Nat.lt_succ_self _))
  have I2 := Inv.made (C := Ca) I
  have r2 : Vals (V.ref (s.heap.objs.size + 1) :: (vs ++ dvs)) (Value.ref (s.heap.objs.size + 1) :: (us ++ ds)) := .cons rfl (r.append hd)
  have hl : (Value.ref (s.heap.objs.size + 1) :: us ++ ds).length = ps.length := by
    have e := r2.length
    rw [F.len _ _ _ _ hq] at e
    exact e.symm
  refine wpAny_call (make_map (f := f) I.kIn M.makes M.init (beq_iff_eq.mp M.fn) (codeAny_mono (F.run _ X.stack _ _ ⟨Value.ref (s.heap.objs.size + 1) :: us, []⟩ (Value.ref (s.heap.objs.size + 1) :: (us ++ ds)) _ _ (E σ) (hr.make Ca us [])
    (I2.env0.make Ca us []) (hb _ (Value.ref (s.heap.objs.size + 1) :: us) I2.kIn hl) r2 hq) fun r s' hq' => ?_))
  cases r with
  | error e => exact hx pins _ _ e s' I2 hq'
  | ok fl =>
    cases fl with
    | ret u =>
      obtain ⟨v, H', I3, rv, ev, q3⟩ := I2.after hq'
      subst ev
      exact ⟨rv, ⟨V.ref (s.heap.objs.size + 1), H', I3, rfl, q3⟩⟩
    | next => exact False.elim hq'
    | brk => exact False.elim hq'
    | cont => exact False.elim hq'
theorem post_made {K : PySem.W.Frag} {σ : L2.St} {F H : Hp} {T : List Addr} {x : Addr} {o : Out D} {Q : VK} (p : Post K W σ F T H (rV K) o Q) :
    Post (β := Unit) K ⟨fun c d _ H => WE W σ c d H, none, {}, false⟩ [] F T H (fun _ F' T' _ d _ => Rep K F' T' (.ref x) d) o fun _ H' => V.non = V.non ∧ Q (.ref x) H' := by
  cases o with
  | ok a st => exact fun _ F' T' H' y w r => ⟨rfl, p (.ref x) F' T' H' y w r⟩
  | ex c ks ds st => exact p
  | bad => exact p
theorem s_mk {k n : Nat} {c : Str} {a : Expr} {as : List Expr} {es : Es} {p pos : Pos} (h : MakeOk X.prog X.w X.K X.mg X.base k C c n) (hr : Room (k + 1) X.A) (hg : Gl X c) (tk : Takes X W) (ha : PA X (a :: as) (tEs X.K W C es)) (ok : okA a = true) (oks : okAs as = true) (hd : (c == ("__debug__" : Str)) = false) :
    PE X (.Call (.Name c p) (a :: as) [] pos) (tE X.K W C (.call n es)) := by
  obtain ⟨fd, ps, F, b⟩ := h.fn
  refine ⟨fun pins s σ H Q I ⟨F0, T, st, env, w, eo, q⟩ => ?_⟩
  have q : Post X.K W σ F0 T H (rV X.K) ((evEs C env es st).bnd fun ds st => C n ds st) Q := q
  refine wpAny_Call_Name_kw (ld_glob I hg h.mg ?_ hd)
  have run := ha.run pos pins s σ H (fun vs H2 => ∃ F2 T2 st2 ds, Ext F0 T H F2 T2 H2 ∧ WF X.K F2 T2 st2 H2 ∧ Reps X.K F2 T2 vs ds ∧ Post X.K W σ F2 T2 H2 (rV X.K) (C n ds st2) Q) I ⟨F0, T, st, env, w, eo, Post.bnd (R1 := rVs X.K) sh_V q⟩
  refine PySem.W.callWith_K (h₀ := X.base) I.ok.mod.kin h.mkr.kp (thn run fun us s1 ⟨vs, H1, I1, r, F1, T1, st1, ds, x1, w1, r1, p1⟩ => ⟨I1.kIn, ?_⟩) (okA_star ok) (okAs_plain oks)
  refine run_makeSD (E := fun σ => WE W σ) h.mkr F hr b .nil (passAt tk σ) I1 r fun x dx hx hdx hne => ?_
  exact ⟨F1, T1, st1, ds, H1, x, dx, vs, by rw [List.append_nil], hx, hdx, hne, rfl, w1, r1, post_made p1⟩
end
end Eng
set_option Elab.async false
set_option linter.all false
set_option maxRecDepth 100000
set_option maxHeartbeats 2000000
/-! Eng 29: what an __init__ promises -/
namespace Eng
open PySem PySem.Spec PyProof.Rows L2
theorem start_noOwn {ds : List D} {k i : Nat} {d : D} (h : (ds.map Sl.val ++ List.replicate k Sl.no)[i]? = some (.own d)) : False := by
  rcases List.mem_append.mp (List.mem_of_getElem? h) with m | m
  · obtain ⟨x, _, e⟩ := List.mem_map.mp m
    cases e
  · cases List.eq_of_mem_replicate m
theorem start_cons {y : Str} {N : List Str} {v : V} {vs : List V} : L2.start (y :: N) (v :: vs) = some v :: L2.start N vs := by
  unfold L2.start
  rw [List.length_cons, List.length_cons, Nat.add_sub_add_right]
  rfl
theorem start_okI {K : PySem.W.Frag} {xi : XB} {F H : Hp} {T : List Addr} {y : Str} {N : List Str} {vs : List V} {ds : List D} {k : Nat} {a : Addr} {d : D} (r : Reps K F T vs ds) (hk : ds.length + k = N.length) (h : RepTop K F T H a d) (f : F a = none) (n : a ∉ T) (z : xi.At a d) :
    EnvOk K xi F T H (.own d :: (ds.map .val ++ List.replicate k .no)) (L2.start (y :: N) (.ref a :: vs)) := by
  rw [start_cons]
  have eo := start_ok (xi := xi) (H := H) r hk
  refine ⟨fun i s hs => ?_, by rw [List.length_cons, List.length_cons]; exact Nat.succ_le_succ eo.len, fun i j d1 d2 b ne h1 h2 h3 h4 => ?_⟩
  · cases i with
    | zero => cases hs; exact ⟨a, rfl, h, f, n, z⟩
    | succ i => exact eo.at_ i s hs
  · cases i with
    | succ i => exact start_noOwn (show (ds.map Sl.val ++ List.replicate k Sl.no)[i]? = some (.own d1) from h1)
    | zero =>
      cases j with
      | zero => exact ne rfl
      | succ j => exact start_noOwn (show (ds.map Sl.val ++ List.replicate k Sl.no)[j]? = some (.own d2) from h2)
theorem fn_okI {P : Program} {w : World} {K : PySem.W.Frag} {mg : Str → Option Value} {base : Heap} {x qual : Str} {params : Arguments} {body : List Stmt} {scope : Scope} {dvs : List V} {kws : List (Str × V)} {f : Addr} {fd : FuncData} {y : Str} {N ps : List Str} {k n m : Nat} {tab : List FnI} {fi : FnI} {c : Str} {mu : Bool}
    (F : FunD K x qual params body scope dvs kws f fd) (S : FnScope (y :: N) ps scope) (hi : tab[m]? = some fi) (h1 : fi.ini = some (c, mu)) (h2 : fi.ps + 1 = ps.length) (h3 : fi.ns = N.length) (h4 : fi.ps ≤ fi.ns)
    (hb : ∀ (cdv : Value) (A : Around) (outer : List PySem.Env) (s : Shared) (H : Hp) (E : XK) (W : WW), W.sv = false → W.x = none → Takes (cxOf (L2.CX P w) P w K mg base (y :: N) qual scope f cdv A outer s H E) W → Room k (A.deeper (envOfC qual scope s.heap.objs.size f cdv)) →
      PSs (cxOf (L2.CX P w) P w K mg base (y :: N) qual scope f cdv A outer s H E) body (tSs K W (callN tab n) fi.body)) : FnOk P w K mg base (L2.CX P w) (k + 1) f fd ps (spI K (callN tab (n + 1)) m c) := by
  have unf : ∀ ds st, callN tab (n + 1) m ds st = runF (callN tab n) fi ds st := fun ds st => by
    show (match tab[m]? with | some fi => runF (callN tab n) fi ds st | none => .bad) = _
    rw [hi]
  have lens : ∀ {W : WW} {σ : L2.St} {F0 H : Hp} {T0 : List Addr} {ds : List D} {st : Store} {R : RR D Unit} {Q : Unit → Hp → Prop}, Post K W σ F0 T0 H R (callN tab (n + 1) m ds st) Q → ds.length = fi.ps := fun {W σ F0 H T0 ds st R Q} p => by
    rw [unf] at p
    unfold runF at p
    cases c : decide (ds.length = fi.ps) with
    | false => rw [c] at p; exact p.elim
    | true => exact of_decide_eq_true c
  refine F.ok S (fun vs H Q E ⟨F0, T0, st, ds, H1, a, dx, ws, ev, _, _, _, _, _, rs, p⟩ => by rw [ev, List.length_cons, rs.length, lens p]; exact h2) fun cdv A outer s H vs Q E hr ⟨F0, T0, st, ds, H1, a, dx, ws, ev, ha, hdx, hne, hH, w0, rs, p⟩ => ?_
  have hl := lens p
  subst ev
  subst hH
  have hax : (L2.upd H1 dx (.own a)) a = none := by rw [upd_ne (Ne.symm hne)]; exact ha
  have w1 := (w0.newO (o := .own a) hdx).newO (o := .ins (He.ga K c) dx []) hax
  have x1 : Ext F0 T0 H1 F0 T0 (L2.upd (L2.upd H1 dx (.own a)) a (.ins (He.ga K c) dx [])) := (Ext.newO hdx).trans (Ext.newO hax)
  obtain ⟨fa, ta⟩ := w0.free ha
  have rt0 : RepTop K F0 T0 (L2.upd (L2.upd H1 dx (.own a)) a (.ins (He.ga K c) dx [])) a (.ins c [] []) := ⟨dx, [], upd_same, rfl, .nil⟩
  refine ⟨_, hb cdv A outer s _ E ⟨fun c d _ H' => E c d H', none, ⟨F0, T0, H1, some a⟩, false⟩ rfl rfl (takes_of rfl rfl rfl rfl) hr, F0, T0, st, .own (.ins c [] []) :: (ds.map .val ++ List.replicate (fi.ns - fi.ps) .no), x1, w1,
    start_okI rs (by rw [hl, ← h3]; omega) rt0 fa ta ⟨ha, fun _ => rfl⟩, ?_⟩
  rw [unf] at p
  unfold runF at p
  rw [show decide (ds.length = fi.ps) = true from decide_eq_true hl, h1] at p
  have p : Post (β := Unit) K ⟨fun c d _ H => E c d H, none, {}, false⟩ [] F0 T0 H1 (fun _ F' T' _ d _ => Rep K F' T' (.ref a) d) (endI mu (evSs (callN tab n) fi.body (.own (.ins c [] []) :: (ds.map .val ++ List.replicate (fi.ns - fi.ps) .no)) st)) fun _ H' => Q .non H' := p
  revert p
  cases evSs (callN tab n) fi.body (.own (.ins c [] []) :: (ds.map .val ++ List.replicate (fi.ns - fi.ps) .no)) st with
  | bad => exact id
  | ex c ks ds st => exact fun p dx F' T' H' σ' _ _ x w r _ => p dx F' T' H' x w r
  | ok g st' =>
    intro p F' T' H' σ' _ _ x w
    cases g with
    | rt d => exact p.elim
    | bk env' => exact p.elim
    | ct env' => exact p.elim
    | nx env' =>
      intro eo
      cases env' with
      | nil => exact False.elim p
      | cons s0 env' =>
        cases s0 with
        | own d =>
          cases d with
          | ins c' ks' ds' =>
            obtain ⟨b, e1, rt, fb, nb, z⟩ := eo.at_ 0 _ rfl
            have hb : some a = some b := z.me rfl
            cases hb
            cases mu with
            | true =>
              have p : ∀ (b : Unit) F' T' H', Ext F0 T0 H1 F' T' H' → WF K F' T' (st' ++ [.ins c' ks' ds']) H' → Rep K F' T' (.ref a) (.obj st'.length) → Q .non H' := p
              exact p () F' (T' ++ [a]) H' (ext_track x z.h0) (wf_track w rt fb nb) (.obj (by
                rw [w.len, List.getElem?_append_right (Nat.le_refl _), Nat.sub_self]
                rfl))
            | false =>
              have p : ∀ (b : Unit) F' T' H', Ext F0 T0 H1 F' T' H' → WF K F' T' st' H' → Rep K F' T' (.ref a) (.ins c' ks' ds') → Q .non H' := p
              obtain ⟨dx', fs, g1, g2, g3⟩ := rt
              have sm : Same F' (L2.upd F' a (.ins (He.ga K c') dx' fs)) := fun b u e => by rw [upd_ne (ne_of_none e fb)]; exact e
              exact p () _ T' H' (Ext.freeze g1 fb nb x z.h0) (w.freeze g1 fb nb) (.ins upd_same g2 (g3.mono sm (.refl _)))
          | _ => exact False.elim p
        | _ => exact False.elim p
end Eng
set_option Elab.async false
set_option linter.all false
set_option maxRecDepth 100000
set_option maxHeartbeats 2000000
/-! Eng 30: a call of a name that holds a def; assigns to several names -/
namespace Eng
open PySem PySem.Spec PyProof.Rows L2
section
variable {X : Cx} {W : WW} {C : Calls}
theorem s_callv {k i : Nat} {fs : List (Str × Nat)} {y : Str} {a : Expr} {as : List Expr} {es : Es} {p pos : Pos} (h : ∀ f n, fs.lookup f = some n → DefOk X.prog X.w X.K X.mg X.base k C f n) (hr : Room k X.A) (tk : Takes X W) (hN : X.N[i]? = some y) (hv : Vis X.env.scope y) (hd : (y == ("__debug__" : Str)) = false) (hcd : (y == ("__classdict__" : Str)) = false)
    (ha : PA X (a :: as) (tEs X.K W C es)) (ok : okA a = true) (oks : okAs as = true) :
    PE X (.Call (.Name y p) (a :: as) [] pos) (tE X.K W C (.callv i fs es)) := by
  refine ⟨fun pins s σ H Q I ⟨F0, T, st, env, w, eo, q⟩ => ?_⟩
  have q : Post X.K W σ F0 T H (rV X.K) ((ofO ((getV env i).bind (fnIx fs)) st).bnd fun n st => (evEs C env es st).bnd fun ds st => C n ds st) Q := q
  cases e : getV env i with
  | none => rw [e] at q; exact q.elim
  | some d =>
    rw [e] at q
    cases d with
    | fn f =>
      have q : Post X.K W σ F0 T H (rV X.K) ((ofO (fs.lookup f) st).bnd fun n st => (evEs C env es st).bnd fun ds st => C n ds st) Q := q
      cases el : fs.lookup f with
      | none => rw [el] at q; exact q.elim
      | some n =>
        rw [el] at q
        have q : Post X.K W σ F0 T H (rV X.K) ((evEs C env es st).bnd fun ds st => C n ds st) Q := q
        have D := h f n el
        obtain ⟨fd, ps, F, b⟩ := D.fn
        obtain ⟨v, e1, rv⟩ := eo.at_ i _ (getV_some e)
        cases rv
        refine wpAny_Call_Name_kw (thn ((pe_var (pos := p) hN hv hd hcd).run pins s σ H (fun v H1 => v = .ref (He.ga X.K f) ∧ H1 = H) I ⟨_, e1, rfl, rfl⟩) fun u s1 ⟨v, H1, I1, r1, q1⟩ => ?_)
        obtain ⟨rfl, rfl⟩ := q1
        cases r1
        have run := ha.run pos pins s1 σ H1 (fun vs H2 => ∃ F2 T2 st2 ds, Ext F0 T H1 F2 T2 H2 ∧ WF X.K F2 T2 st2 H2 ∧ Reps X.K F2 T2 vs ds ∧ Post X.K W σ F2 T2 H2 (rV X.K) (C n ds st2) Q) I1 ⟨F0, T, st, env, w, eo, Post.bnd (R1 := rVs X.K) sh_V q⟩
        refine PySem.W.callWith_K (h₀ := X.base) I.ok.mod.kin D.kp (thn run fun us s2 ⟨vs, H2, I2, r, F2, T2, st2, ds2, x2, w2, r2, p2⟩ => ⟨I2.kIn, ?_⟩) (okA_star ok) (okAs_plain oks)
        exact run_fnSD (E := fun σ => WE W σ) (us := us) (vs := vs) F hr b .nil (passAt tk σ) I2 r ⟨F2, T2, st2, ds2, w2, by rw [List.append_nil]; exact r2, post_call p2⟩
    | _ => exact q.elim
theorem fs1 {P : Program} {w : World} {K : PySem.W.Frag} {mg : Str → Option Value} {base : Heap} {k : Nat} {f : Str} {n : Nat} (h : DefOk P w K mg base k C f n) : ∀ g m, ([(f, n)] : List (Str × Nat)).lookup g = some m → DefOk P w K mg base k C g m := fun g m e => by
  have e : (match g == f with | true => some n | false => none) = some m := e
  by_cases c : g = f
  · subst c
    rw [beq_self_eq_true] at e
    cases e
    exact h
  · rw [beq_eq_false_iff_ne.mpr c] at e
    cases e
end
end Eng
set_option Elab.async false
set_option linter.all false
set_option maxRecDepth 100000
set_option maxHeartbeats 2000000
/-! Eng 31: assigns to several names at once -/
namespace Eng
open PySem PySem.Spec PyProof.Rows L2
/-- the values of parallel targets, read from H on -/
def PsR (K : PySem.W.Frag) (F : Hp) (T : List Addr) (H' : Hp) : Ps → Hp → List D → List V → Prop
  | .nil, _, [], [] => True
  | .cons own _ _ r, H, d :: ds, v :: vs => ∃ H1, (∀ p, H1 p = none → H p = none) ∧ PsR K F T H' r H1 ds vs ∧ (match own with
    | true => isCont d = true → ∃ a, v = .ref a ∧ RepTop K F T H' a d ∧ F a = none ∧ a ∉ T ∧ H a = none ∧ ∃ o, H1 a = some o
    | false => Rep K F T v d)
  | _, _, _, _ => False
def rPs (K : PySem.W.Frag) (ps : Ps) : RR (List D) (List V) := fun H F T H' ds vs => PsR K F T H' ps H ds vs
abbrev tPs (K : PySem.W.Frag) (W : WW) (C : Calls) (ps : Ps) : TA := tX K W (rPs K ps) fun env => evPs C env ps
section
variable {α β γ δ : Type} {K : PySem.W.Frag} {W : WW} {σ : L2.St} {F H : Hp} {T : List Addr} {R : RR α β} {R1 : RR γ δ}
/-- a first step; the start of the whole stays -/
theorem Post.bndK {o : Out γ} {f : γ → Store → Out α} {Q : β → Hp → Prop} (h : Post K W σ F T H R (o.bnd f) Q) :
    Post K W σ F T H R1 o fun b H1 => ∃ F1 T1 st1 a, Ext F T H F1 T1 H1 ∧ WF K F1 T1 st1 H1 ∧ R1 H F1 T1 H1 a b ∧ Post K W σ F1 T1 H1 (fun _ F' T' H' a b => R H F' T' H' a b) (f a st1) Q := by
  cases o with
  | bad => exact h
  | ex c ks ds st => exact h
  | ok a st =>
    intro b F' T' H' y w r
    refine ⟨F', T', st, a, y, w, r, ?_⟩
    have h : Post K W σ F T H R (f a st) Q := h
    revert h
    cases f a st with
    | bad => exact id
    | ok a2 st2 => exact fun h b F2 T2 H2 y2 w2 r2 => h b F2 T2 H2 (y.trans y2) w2 r2
    | ex c ks ds st2 => exact fun h dx F2 T2 H2 y2 w2 r2 => h dx F2 T2 H2 (y.trans y2) w2 r2
end
section
variable {X : Cx} {W : WW} {C : Calls}
theorem par_nil : PA X [] (tPs X.K W C .nil) := impA pa_nil fun σ H Q ⟨F, T, st, env, w, eo, p⟩ => p _ F T H (.refl _ _ _) w trivial
theorem par_val {i : Nat} {a : Expr} {as : List Expr} {e : E} {r : Ps} (ha : PE X a (tE X.K W C e)) (hr : PA X as (tPs X.K W C r)) (ok : okA a = true) : PA X (a :: as) (tPs X.K W C (.cons false i e r)) :=
  impA (pa_cons ha hr (okA_star ok)) fun σ H Q ⟨F, T, st, env, w, eo, p⟩ => by
    have p : Post X.K W σ F T H (rPs X.K (.cons false i e r)) ((evE C env e st).bnd fun d st => (evPs C env r st).bnd fun ds st => .ok (d :: ds) st) Q := p
    refine ⟨F, T, st, env, w, eo, (Post.bndK (R1 := rV X.K) p).mono fun x H1 ⟨F1, T1, st1, d, x1, w1, r1, p1⟩ => ?_⟩
    refine ⟨F1, T1, st1, env, w1, eo.ext x1, (Post.bndK (R1 := rPs X.K r) p1).mono fun xs H2 ⟨F2, T2, st2, ds, x2, w2, r2, p2⟩ => ?_⟩
    exact p2 _ F2 T2 H2 (.refl _ _ _) w2 ⟨H1, x1.none, r2, Rep.mono x2.fr x2.pre r1⟩
theorem par_own {i : Nat} {a : Expr} {as : List Expr} {e : E} {r : Ps} (ha : PE X a (tDr X.K W C e)) (hr : PA X as (tPs X.K W C r)) (ok : okA a = true) : PA X (a :: as) (tPs X.K W C (.cons true i e r)) :=
  impA (pa_cons ha hr (okA_star ok)) fun σ H Q ⟨F, T, st, env, w, eo, p⟩ => by
    have p : Post X.K W σ F T H (rPs X.K (.cons true i e r)) ((evE C env e st).bnd fun d st => (evPs C env r st).bnd fun ds st => .ok (d :: ds) st) Q := p
    refine ⟨F, T, st, env, w, eo, (Post.bndK (R1 := rD X.K) p).mono fun x H1 ⟨F1, T1, st1, d, x1, w1, r1, p1⟩ => ?_⟩
    refine ⟨F1, T1, st1, env, w1, eo.ext x1, (Post.bndK (R1 := rPs X.K r) p1).mono fun xs H2 ⟨F2, T2, st2, ds, x2, w2, r2, p2⟩ => ?_⟩
    refine p2 _ F2 T2 H2 (.refl _ _ _) w2 ⟨H1, x1.none, r2, fun c => ?_⟩
    obtain ⟨b, e, rt, f, n, z⟩ := fresh_of c r1
    obtain ⟨rt2, f2, n2⟩ := x2.own rt f n
    exact ⟨b, e, rt2, f2, n2, z, rt.there⟩
def setV : Ps → List V → L2.St → L2.St
  | .cons _ i _ r, v :: vs, σ => setV r vs (σ.set i (some v))
  | _, _, σ => σ
theorem set_ps {K : PySem.W.Frag} {xi : XB} {F H' : Hp} {T : List Addr} : ∀ {ps : Ps} {H : Hp} {ds : List D} {vs : List V} {env env' : Env} {σ : L2.St}, EnvOk K xi F T H' env σ → (∀ (j : Nat) (d : D) (c : Addr), env[j]? = some (Sl.own d) → σ[j]? = some (some (V.ref c)) → ∃ o, H c = some o) →
    PsR K F T H' ps H ds vs → (∀ a, H a = none → xi.H0 a = none) → setPs ps ds env = some env' → EnvOk K xi F T H' env' (setV ps vs σ)
  | .nil, _, [], [], env, env', σ, eo, _, _, _, e => by
    cases e
    exact eo
  | .cons own i ex r, H, d :: ds, v :: vs, env, env', σ, eo, J, h, h0, e => by
    obtain ⟨H1, hn, hr, hd⟩ := h
    have up : ∀ c o, H c = some o → ∃ o, H1 c = some o := fun c o hc => by
      cases q : H1 c with
      | none => rw [hn c q] at hc; cases hc
      | some o => exact ⟨o, rfl⟩
    cases own with
    | true =>
      have e : (if isCont d = true then setPs r ds (env.set i (.own d)) else none) = some env' := e
      split at e
      · rename_i c
        obtain ⟨a, ev, rt, f, n, z, o, ho⟩ := hd c
        subst ev
        have eo1 := eo.setOwn i rt f n (⟨h0 a z, fun h => by rw [cont_noIns c] at h; cases h⟩ : xi.At a d) fun j d' h1 h2 => by
          obtain ⟨o, ho⟩ := J j d' a h1 h2
          rw [z] at ho
          cases ho
        refine set_ps (ps := r) (vs := vs) (σ := σ.set i (some (V.ref a))) eo1 (fun j d' b h1 h2 => ?_) hr (fun b hb => h0 b (hn b hb)) e
        by_cases q : i = j
        · subst q
          rw [List.getElem?_set] at h2
          split at h2 <;> rename_i q2
          · split at h2
            · cases h2; exact ⟨o, ho⟩
            · cases h2
          · exact absurd rfl q2
        · rw [List.getElem?_set_ne q] at h1 h2
          obtain ⟨o2, ho2⟩ := J j d' b h1 h2
          exact up b o2 ho2
      · cases e
    | false =>
      have e : setPs r ds (env.set i (.val d)) = some env' := e
      have hd : Rep K F T v d := hd
      refine set_ps (ps := r) (vs := vs) (σ := σ.set i (some v)) (eo.set i hd) (fun j d' b h1 h2 => ?_) hr (fun b hb => h0 b (hn b hb)) e
      by_cases q : i = j
      · subst q
        rw [List.getElem?_set] at h1
        split at h1 <;> rename_i q2
        · split at h1
          · cases h1
          · cases h1
        · exact absurd rfl q2
      · rw [List.getElem?_set_ne q] at h1 h2
        obtain ⟨o2, ho2⟩ := J j d' b h1 h2
        exact up b o2 ho2
theorem par_rd {fz : List Nat} {ps : Ps} (hz : W.sv = false ∨ fz = []) {D : Ends} {σ : L2.St} {H : Hp} (h : tSt X.K W C (.par fz ps) D σ H) : tPs X.K W C ps σ H fun vs H1 => ∃ H2 F T ds, PsR X.K F T H1 ps H2 ds vs ∧ D.nx (setV ps vs σ) H1 := by
  obtain ⟨F, T, st, env, x, w, eo, p⟩ := h
  have p : PostS X.K W F T env ((evPs C (freeze env fz) ps st).bnd fun ds st => (ofO (setPs ps ds (freeze env fz)) st).bnd fun env' st => .ok (.nx env') st) D := p
  obtain ⟨F1, x1, w1, eo1, sv1, p1⟩ := fz_go hz x w eo p
  refine ⟨F1, T, st, _, w1, eo1, (p1.step (R1 := rPs X.K ps) x1 sv1).mono fun vs H2 ⟨F2, T2, st2, ds, x2, w2, r2, p2⟩ => ?_⟩
  cases e : setPs ps ds (freeze env fz) with
  | none => rw [e] at p2; exact p2.elim
  | some env' =>
    rw [e] at p2
    refine ⟨H, F2, T2, ds, r2, p2 F2 T2 H2 _ (.refl _) (.refl _) (x1.trans x2) w2 (set_ps (eo1.ext x2) (fun j d c h1 h2 => ?_) r2 (fun a ha => x1.none a ha) e)⟩
    obtain ⟨b, e1, rt, _⟩ := eo1.at_ j _ h1
    rw [h2] at e1
    cases e1
    exact rt.there
theorem PsR.nil_ {K : PySem.W.Frag} {F H' H : Hp} {T : List Addr} {ds : List D} {vs : List V} (h : PsR K F T H' .nil H ds vs) : vs = [] := by
  match ds, vs, h with
  | [], [], _ => rfl
  | [], _ :: _, h => exact False.elim h
  | _ :: _, [], h => exact False.elim h
  | _ :: _, _ :: _, h => exact False.elim h
theorem PsR.cons_ {K : PySem.W.Frag} {F H' H : Hp} {T : List Addr} {ds : List D} {vs : List V} {o : Bool} {i : Nat} {e : E} {r : Ps} (h : PsR K F T H' (.cons o i e r) H ds vs) : ∃ v us ds' H1, vs = v :: us ∧ PsR K F T H' r H1 ds' us := by
  match ds, vs, h with
  | [], [], h => exact False.elim h
  | [], _ :: _, h => exact False.elim h
  | _ :: _, [], h => exact False.elim h
  | _ :: ds', v :: us, ⟨H1, _, h, _⟩ => exact ⟨v, us, ds', H1, rfl, h⟩
theorem ss_par3 {i j l : Nat} {x y z : Str} {a b c : Expr} {o1 o2 o3 : Bool} {e1 e2 e3 : E} {fz : List Nat} {px py pz pt pos : Pos} {kt k2 pt2} (hz : W.sv = false ∨ fz = []) (hc : X.calm = true) (hN : X.N.Nodup) (hi : X.N[i]? = some x) (hj : X.N[j]? = some y) (hl : X.N[l]? = some z) (hij : i ≠ j) (hil : i ≠ l) (hjl : j ≠ l)
    (hx : X.env.scope.names.lookup x = some .local) (hy : X.env.scope.names.lookup y = some .local) (hzl : X.env.scope.names.lookup z = some .local) (ha : PA X [a, b, c] (tPs X.K W C (.cons o1 i e1 (.cons o2 j e2 (.cons o3 l e3 .nil)))))
    (hw : swappedStores [.Tuple [.Name x px, .Name y py, .Name z pz] kt pt] (.Tuple [a, b, c] k2 pt2) X.env = pure (some [x, y, z]))
    (hs : swapsWithSole [.Tuple [.Name x px, .Name y py, .Name z pz] kt pt] (.Tuple [a, b, c] k2 pt2) pos.line X.env = pure false) :
    PS X (.Assign [.Tuple [.Name x px, .Name y py, .Name z pz] kt pt] (.Tuple [a, b, c] k2 pt2) pos) (tSt X.K W C (.par fz (.cons o1 i e1 (.cons o2 j e2 (.cons o3 l e3 .nil))))) :=
  impS (ps_par3 hc hN hi hj hl hij hil hjl hx hy hzl ha hw hs) fun D σ H h => by
    obtain ⟨F, T, st, env, w, eo, p⟩ := par_rd hz h
    refine ⟨F, T, st, env, w, eo, p.mono fun vs H1 ⟨H2, F', T', ds, r, q⟩ => ?_⟩
    obtain ⟨u, us, _, _, e1, r1⟩ := r.cons_
    obtain ⟨v, us2, _, _, e2, r2⟩ := r1.cons_
    obtain ⟨v2, us3, _, _, e3, r3⟩ := r2.cons_
    have e4 := r3.nil_
    subst e4
    subst e3
    subst e2
    subst e1
    exact ⟨u, v, v2, rfl, q⟩
theorem ss_par2 {i j : Nat} {x y : Str} {a b : Expr} {o1 o2 : Bool} {e1 e2 : E} {fz : List Nat} {px py pt pos : Pos} {kt k2 pt2} (hz : W.sv = false ∨ fz = []) (hc : X.calm = true) (hN : X.N.Nodup) (hi : X.N[i]? = some x) (hj : X.N[j]? = some y) (hij : i ≠ j)
    (hx : X.env.scope.names.lookup x = some .local) (hy : X.env.scope.names.lookup y = some .local) (ha : PA X [a, b] (tPs X.K W C (.cons o1 i e1 (.cons o2 j e2 .nil))))
    (hw : swappedStores [.Tuple [.Name x px, .Name y py] kt pt] (.Tuple [a, b] k2 pt2) X.env = pure (some [x, y]))
    (hs : swapsWithSole [.Tuple [.Name x px, .Name y py] kt pt] (.Tuple [a, b] k2 pt2) pos.line X.env = pure false) :
    PS X (.Assign [.Tuple [.Name x px, .Name y py] kt pt] (.Tuple [a, b] k2 pt2) pos) (tSt X.K W C (.par fz (.cons o1 i e1 (.cons o2 j e2 .nil)))) :=
  impS (ps_par hc hN hi hj hij hx hy ha hw hs) fun D σ H h => by
    obtain ⟨F, T, st, env, w, eo, p⟩ := par_rd hz h
    refine ⟨F, T, st, env, w, eo, p.mono fun vs H1 ⟨H2, F', T', ds, r, q⟩ => ?_⟩
    match ds, vs, r with
    | [], [], r => exact False.elim r
    | [], _ :: _, r => exact False.elim r
    | _ :: _, [], r => exact False.elim r
    | _ :: ds, v :: vs, ⟨_, _, r, _⟩ =>
      match ds, vs, r with
      | [], [], r => exact False.elim r
      | [], _ :: _, r => exact False.elim r
      | _ :: _, [], r => exact False.elim r
      | _ :: ds, v' :: vs, ⟨_, _, r, _⟩ =>
        match ds, vs, r with
        | [], [], _ => exact ⟨v, v', rfl, q⟩
        | [], _ :: _, r => exact False.elim r
        | _ :: _, [], r => exact False.elim r
        | _ :: _, _ :: _, r => exact False.elim r
end
end Eng
set_option Elab.async false
set_option linter.all false
set_option maxRecDepth 100000
set_option maxHeartbeats 2000000
/-! Eng 32: several clauses, each with a name -/
namespace Eng
open PySem PySem.Spec PyProof.Rows L2
/-- the ends behind a clause whose name is slot i -/
def gone (D : Ends) (i : Nat) : Ends := { nx := fun σ' H' => D.nx (σ'.set i none) H', rt := D.rt, bk := fun σ' H' => D.bk (σ'.set i none) H', ct := fun σ' H' => D.ct (σ'.set i none) H' }
/-- a clause: its class, its name's slot, its suite's reading -/
structure Cl where
  c : Value
  i : Nat
  ts : Addr → Value → Option Addr → TS
def wNamed (K : PySem.W.Frag) (Wout : WX) (D : Ends) : List Cl → WX
  | [] => Wout
  | z :: r => fun cls d σ H => ∃ b, PySem.W.exmOne K cls z.c = some b ∧ (b = true → ∀ a, H a = none → z.ts a cls d (gone D z.i) (σ.set z.i (some (.ref a))) H) ∧ (b = false → wNamed K Wout D r cls d σ H)
inductive ClsOk (X : Cx) : List ExceptHandler → List Cl → Prop
  | nil : ClsOk X [] []
  | cons {x n : Str} {z : Cl} {b0 : Stmt} {suite : List Stmt} {np pos' : Pos} {hds : List ExceptHandler} {l : List Cl} (hc : Names X x z.c) (hN : X.N.Nodup) (hi : X.N[z.i]? = some n) (hln : X.env.kindOf n = some .local)
      (hsu : ∀ (a : Addr) (oe : Obj) (cls : Value) (d : Option Addr) (pn : List (Addr × Obj)), Zc cls d oe → (∃ vs, oe.data = .fields vs) → PSs (X.suite a ((a, oe) :: pn)) (b0 :: suite) (z.ts a cls d)) (r : ClsOk X hds l) :
      ClsOk X (.ExceptHandler (some (.Name x np)) (some n) (b0 :: suite) pos' :: hds) (z :: l)
section
variable {X : Cx} {body : List Stmt} {h0 : ExceptHandler} {hds : List ExceptHandler} {l : List Cl} {pos : Pos} {tb : WX → TS} {Wout : WX}
theorem ps_try_named (hs : X.stack = X.env :: X.outer) (hf : X.env.frame = some X.env.locals) (tk : Takes X Wout)
    (hb : ∀ (W : WX) (pn : List (Addr × Obj)) (xe : Value → Shared → Prop), Takes (X.tr pn xe) W → PassesOwn (model X.prog X.w) X.A X.env xe → PSs (X.tr pn xe) body (tb W))
    (hh : ClsOk X (h0 :: hds) l) : PS X (.Try body (h0 :: hds) [] [] pos) (fun D σ H => tb (wNamed X.K Wout D l) D σ H) := by
  refine ⟨fun pins s σ H D I h => ?_⟩
  have ok := I.ok
  have hfr : X.A.frames = some (X.env :: X.outer) := by rw [ok.frames, hs]
  refine wpAny_Try_except ?_
  refine wpAny_mono ((hb (wNamed X.K Wout D l) (X.pn ++ pins) (fun e s₁ => wpAny (model X.prog X.w) X.A (noteFrame e X.env) (fun _ s₂ => wpAny (model X.prog X.w) X.A (setFlight e none) (fun _ s₃ =>
    wpAny (model X.prog X.w) X.A (handleBy e X.env (h0 :: hds)) (SP X pins D) X.xe s₃) X.xe s₂) X.xe s₁) (fun u s' xx => ?_) PassesOwn.looking).run [] s σ H D (I.toTry _) h) (fun f s1 hsp => ?_) (fun e s1 he => he)
  · -- the catch
    obtain ⟨a, B, sI, pins', σ', H', cls, d, rfl, J', nb, up, sky, na, os, ag, w⟩ := xx
    have J : Inv X pins σ' H' sI := J'.ofTry ok
    have sky' : Sky B (X.env :: X.outer) a (Zc cls d) X.env.locals s'.heap := by rw [← hs]; exact sky
    show wpAny (model X.prog X.w) X.A (noteFrame (.ref a) X.env) _ _ _
    refine Sky.land Zc.steady hfr hf sky' fun h3 fl3 up3 => ?_
    have J3 : Inv X pins σ' H' { s' with heap := h3 } := J.landed nb fl3.1 (up.trans up3) os ag
    obtain ⟨oe3, vs3, he3, hz3, hd3⟩ := fl3.there
    have notFr : ∀ {h : Heap} {o : Obj} {vs : Array Value}, h.FunFrames B (X.env :: X.outer) → h.get? a = some o → o.data = .fields vs → a ∉ frs (X.env :: X.outer) := fun {h o vs} ff e dd hm => by
      obtain ⟨_, o', e', hnf⟩ := ff.mem hm
      rw [e] at e'; cases e'
      exact hnf _ dd
    have nfr := notFr fl3.2.2.1 he3 hd3
    have nL : a ≠ X.env.locals := fun z => nfr (List.mem_filterMap.mpr ⟨X.env, List.mem_cons_self, by rw [hf, z]⟩)
    have nF : a ∉ X.fs := fun hm => by
      obtain ⟨e, he, q⟩ := List.mem_filterMap.mp hm
      exact nfr (List.mem_filterMap.mpr ⟨e, List.mem_cons_of_mem _ he, q⟩)
    have S3 := J3.suite he3 hd3 na nL nF
    have go : ∀ {hds' : List ExceptHandler} {l' : List Cl}, ClsOk X hds' l' → wNamed X.K Wout D l' cls d σ' H' →
        wpAny (model X.prog X.w) X.A (handleBy (.ref a) X.env hds') (SP X pins D) X.xe { s' with heap := h3 } := by
      intro hds' l' hk
      induction hk with
      | nil =>
        intro w
        refine wpAny_handleBy_nil ?_
        obtain ⟨k1, k2, k3, oe, vs, T, oT, ts', he, hz, hd, h1, hr⟩ := id fl3
        unfold PySem.passOn
        refine wpAny_bind (wpAny_field he hd h1 ?_)
        rw [if_neg (show ¬ ((Value.ref T == Value.none) = true) from by simp)]
        have fin : wpAny (model X.prog X.w) X.A (setFlight (.ref a) X.env.frame) (fun _ s4 => wpAny (model X.prog X.w) X.A (throw (.ref a) : Sem Flow) (SP X pins D) X.xe s4) X.xe { s' with heap := h3 } := by
          rw [hf]
          refine HandSPX.setFlight_upZ fl3 fun h4 hh4 up4 => wpAny_throw (tk _ _ ?_)
          exact ⟨a, B, sI, pins, σ', H', cls, d, rfl, J, nb, (up.trans up3).trans up4, .inr (.inr (by rw [hs]; exact hh4)), na, os, ag, w⟩
        first
          | exact wpAny_bind (wpAny_pure (wpAny_bind fin))
          | exact wpAny_bind fin
      | @cons x n z b0 suite np pos' hds2 l2 hc hN hi hln hsu r ih =>
        have hloc : Loc X.env.scope n := .inl hln
        intro w
        obtain ⟨b, hb1, hyes, hno⟩ := w
        refine wpAny_handleBy_cons (codeAny_handlers_test ?_) (by intro q; cases q)
        have LT : PySem.W.Looks (model X.prog X.w) h3 (typeOf (.ref a)) cls := fun A Q E s k q => wpAny_typeOf_ref (k _ _ he3) (by rw [hz3.1]; exact q)
        have LM := PySem.W.exm_one (M := model X.prog X.w) (J3.kIn) LT hb1
        have test : ∀ {Q : Value → Shared → Prop} {E : Value → Shared → Prop}, Q z.c { s' with heap := h3 } → wpAny (model X.prog X.w) (X.A.mark (some (.ref a))) (eval (.Name x np) X.env) Q E { s' with heap := h3 } := fun {Q E} q => by
          obtain ⟨hg, hdbg, hm | ⟨hm, hv, hnn⟩⟩ := hc
          · exact ld_glob (X := X.suite a ((a, oe3) :: (X.pn ++ pins))) S3 hg hm q hdbg
          · exact ld_blt (X := X.suite a ((a, oe3) :: (X.pn ++ pins))) S3 hg hm hv q hnn hdbg
        refine test (LM.here ?_)
        cases b with
        | true =>
          refine codeAny_handlers_suite_as ?_
          refine HandSPX.lands_againZ fl3 fun h4 fl4 up4 => ?_
          have J4 : Inv X pins σ' H' { s' with heap := h4 } := J.landed nb fl4.1 ((up.trans up3).trans up4) os ag
          obtain ⟨oe4, vs4, he4, hz4, hd4⟩ := fl4.there
          have S4 := J4.suite he4 hd4 na nL nF
          refine store_ok (X := X.suite a ((a, oe4) :: (X.pn ++ pins))) (v := .ref a) S4 hN hi hloc rfl (fun s5 S5 => ?_) (.inr hln)
          refine wpAny_mono ((hsu a oe4 cls d (X.pn ++ pins) hz4 ⟨_, hd4⟩).run [] s5 _ H' _ S5 (hyes rfl a na)) (fun f s6 hsp => ?_) (fun _ _ q => False.elim q)
          have over : ∀ {σ6 : L2.St} {H6 : Hp} {Q : Shared → Prop}, Inv (X.suite a ((a, oe4) :: (X.pn ++ pins))) [] σ6 H6 s6 → (∀ s7, Inv X pins (σ6.set z.i none) H6 s7 → Q s7) →
              wpAny (model X.prog X.w) X.A (do bindName X.env n .none; unbindBehindTheSuite X.env n pos') (fun _ s7 => Q s7) X.xe s6 := fun {σ6 H6 Q} S6 hq => gone_ok (S6.unsuite ok) hN hi hln hq
          cases f with
          | next =>
            obtain ⟨σ6, H6, S6, q6⟩ := hsp
            exact over S6 fun s7 J7 => ⟨_, _, J7, q6⟩
          | brk =>
            obtain ⟨σ6, H6, S6, q6⟩ := hsp
            exact over S6 fun s7 J7 => ⟨_, _, J7, q6⟩
          | cont =>
            obtain ⟨σ6, H6, S6, q6⟩ := hsp
            exact over S6 fun s7 J7 => ⟨_, _, J7, q6⟩
          | ret u =>
            obtain ⟨v6, σ6, H6, S6, r6, q6⟩ := hsp
            exact over S6 fun s7 J7 => ⟨_, _, _, J7, r6, q6⟩
        | false =>
          show wpAny _ X.A (handleBy (.ref a) X.env hds2) _ _ _
          exact ih (hno rfl)
    exact go hh w
  · cases f with
    | next =>
      obtain ⟨σ', H', J', q⟩ := hsp
      exact wpAny_execs_nil ⟨σ', H', J'.ofTry ok, q⟩
    | brk =>
      obtain ⟨σ', H', J', q⟩ := hsp
      exact ⟨σ', H', J'.ofTry ok, q⟩
    | cont =>
      obtain ⟨σ', H', J', q⟩ := hsp
      exact ⟨σ', H', J'.ofTry ok, q⟩
    | ret u =>
      obtain ⟨v, σ', H', J', r, q⟩ := hsp
      exact ⟨v, σ', H', J'.ofTry ok, r, q⟩
end
theorem takes_none5 {X : Cx} : Takes X (fun _ _ _ _ => False) := fun _ _ ⟨_, _, _, _, _, _, _, _, _, _, _, _, _, _, _, _, w⟩ => w.elim
end Eng
set_option Elab.async false
set_option linter.all false
set_option maxRecDepth 100000
set_option maxHeartbeats 2000000
/-! Eng 33: try with several named clauses -/
namespace Eng
open PySem PySem.Spec PyProof.Rows L2
inductive HsOk (X : Cx) (W : WW) (C : Calls) : List ExceptHandler → List Cl → Hs → Prop
  | nil : HsOk X W C [] [] .nil
  | cons {x n : Str} {cv : Value} {i : Nat} {al cs : List Str} {is : Ss} {hs : Hs} {b0 : Stmt} {suite : List Stmt} {np pos' : Pos} {hds : List ExceptHandler} {l : List Cl} (hc : Names X x cv) (hN : X.N.Nodup) (hi : X.N[i]? = some n) (hln : X.env.kindOf n = some .local)
      (hex : ∀ c ∈ al, PySem.W.exmOne X.K (.ref (He.ga X.K c)) cv = some (decide (c ∈ cs)))
      (hsu : ∀ (a : Addr) (oe : Obj) (cls : Value) (d : Option Addr) (pn : List (Addr × Obj)), Zc cls d oe → (∃ vs, oe.data = .fields vs) → PSs (X.suite a ((a, oe) :: pn)) (b0 :: suite) (tSs X.K (suW W a cls d) C is)) (r : HsOk X W C hds l hs) :
      HsOk X W C (.ExceptHandler (some (.Name x np)) (some n) (b0 :: suite) pos' :: hds) (⟨cv, i, fun a cls d => tSs X.K (suW W a cls d) C is⟩ :: l) (.cons al cs (some i) is hs)
section
variable {X : Cx} {W : WW} {C : Calls}
theorem HsOk.cls {hds : List ExceptHandler} {l : List Cl} {hs : Hs} (h : HsOk X W C hds l hs) : ClsOk X hds l := by
  induction h with
  | nil => exact .nil
  | cons hc hN hi hln hex hsu r ih => exact .cons hc hN hi hln hsu ih
theorem HsOk.go {hds : List ExceptHandler} {l : List Cl} {hs : Hs} (h : HsOk X W C hds l hs) (hx : W.x = none) (hz : W.sv = false) {F F' H' : Hp} {T T' : List Addr} {env : Env} {c : Str} {ks : List Str} {ds : List D} {st1 : Store} {D : Ends} {dx : Option Addr} {σ' : L2.St} (sm : Same F F') (pr : Pre T T')
    (x' : Ext W.B.F W.B.T W.B.H F' T' H') (w' : WF X.K F' T' st1 H') (r : XRep X.K F' T' H' ks ds dx) (eo' : EnvOk X.K W.xi F' T' H' env σ') : PostS X.K W F T env (evHs C hs c ks ds env st1) D → wNamed X.K W D l (.ref (He.ga X.K c)) dx σ' H' := by
  induction h with
  | nil =>
    intro p
    have p : PostS X.K W F T env (.ex c ks ds st1) D := p
    exact p dx F' T' H' σ' sm pr x' w' r fun h => by rw [hz] at h; cases h
  | @cons x n cv i al cs is hs b0 suite np pos' hds l hc hN hi hln hex hsu r2 ih =>
    intro p
    have p : PostS X.K W F T env (chkO (decide (c ∈ al)) (match decide (c ∈ cs) with
      | false => evHs C hs c ks ds env st1
      | true => (evSs C is (env.set i (.xc c ks ds)) st1).bnd fun f st => (match f with
        | .nx env' => .ok (.nx ((dropX env').set i .no)) st
        | .rt d => .ok (.rt d) st
        | .bk env' => .ok (.bk ((dropX env').set i .no)) st
        | .ct env' => .ok (.ct ((dropX env').set i .no)) st))) D := p
    cases m : decide (c ∈ al) with
    | false => rw [m] at p; exact p.elim
    | true =>
      rw [m] at p
      have p : PostS X.K W F T env (match decide (c ∈ cs) with
        | false => evHs C hs c ks ds env st1
        | true => (evSs C is (env.set i (.xc c ks ds)) st1).bnd fun f st => (match f with
          | .nx env' => .ok (.nx ((dropX env').set i .no)) st
          | .rt d => .ok (.rt d) st
          | .bk env' => .ok (.bk ((dropX env').set i .no)) st
          | .ct env' => .ok (.ct ((dropX env').set i .no)) st)) D := p
      refine ⟨decide (c ∈ cs), hex c (of_decide_eq_true m), fun hb a ha => ?_, fun hb => ?_⟩
      · rw [hb] at p
        refine ⟨F', T', st1, _, x', w', env_hold hx rfl eo' r, ?_⟩
        have p : PostS X.K W F T env ((evSs C is (env.set i (.xc c ks ds)) st1).bnd fun f st => (match f with
          | .nx env' => .ok (.nx ((dropX env').set i .no)) st
          | .rt d => .ok (.rt d) st
          | .bk env' => .ok (.bk ((dropX env').set i .no)) st
          | .ct env' => .ok (.ct ((dropX env').set i .no)) st)) D := p
        have p := p.shift sm pr
        revert p
        cases evSs C is (env.set i (.xc c ks ds)) st1 with
        | bad => exact id
        | ex c2 ks2 ds2 st2 => exact fun p dx F' T' H' σ' a b x w r _ => p dx F' T' H' σ' a b x w r fun h => by rw [hz] at h; cases h
        | ok f st2 =>
          intro p F2 T2 H2 σ2 a2 b2 x2 w2
          cases f with
          | nx env' => exact fun eo2 => p F2 T2 H2 (σ2.set i none) a2 b2 x2 w2 (env_let eo2)
          | rt d => exact p F2 T2 H2 σ2 a2 b2 x2 w2
          | bk env' => exact fun eo2 => p F2 T2 H2 (σ2.set i none) a2 b2 x2 w2 (env_let eo2)
          | ct env' => exact fun eo2 => p F2 T2 H2 (σ2.set i none) a2 b2 x2 w2 (env_let eo2)
      · rw [hb] at p
        exact ih p
theorem ss_tryN {body : List Stmt} {h0 : ExceptHandler} {hds : List ExceptHandler} {l : List Cl} {hs : Hs} {pos : Pos} {ib : Ss} (hx : W.x = none) (hz : W.sv = false) (hst : X.stack = X.env :: X.outer) (hf : X.env.frame = some X.env.locals) (tk : Takes X W)
    (hb : ∀ (W1 : WX) (pn : List (Addr × Obj)) (xe : Value → Shared → Prop), Takes (X.tr pn xe) W1 → PassesOwn (model X.prog X.w) X.A X.env xe → PSs (X.tr pn xe) body (tSs X.K (trW W W1) C ib))
    (hh : HsOk X W C (h0 :: hds) l hs) : PS X (.Try body (h0 :: hds) [] [] pos) (tSt X.K W C (.try_ [] ib hs)) := by
  refine impS (ps_try_named (tb := fun W1 => tSs X.K (trW W W1) C ib) hst hf tk hb hh.cls) fun D σ H ⟨F, T, st, env, xx, w, eo, p⟩ => ?_
  have p : PostS X.K W F T env (match evSs C ib env st with
    | .ex c ks ds st1 => evHs C hs c ks ds (wipeE env []) st1
    | o => o) D := p
  refine ⟨F, T, st, env, xx, w, eo, ?_⟩
  revert p
  cases evSs C ib env st with
  | bad => exact id
  | ok f st1 => exact id
  | ex c ks ds st1 =>
    intro p dx F' T' H' σ' sm pr x' w' r he
    exact hh.go hx hz sm pr x' w' r (he rfl) p
end
end Eng
set_option Elab.async false
set_option linter.all false
set_option maxRecDepth 100000
set_option maxHeartbeats 2000000
/-! Eng 34: isinstance of an own class -/
namespace Eng
open PySem PySem.Spec PyProof.Rows L2
/-- what isinstance(x, c) asks, c a class of the package -/
structure IscC (K : PySem.W.Frag) (c : Str) : Prop where
  is : IsC K (He.ga K c)
  own : PySem.W.kitOne K (.ref (He.ga K c)) (.ref (He.ga K c)) = some true
  ty : ∀ n ∈ tyNames, PySem.W.kitOne K (.type n) (.ref (He.ga K c)) = some false
def iscB (K : PySem.W.Frag) (c : Str) : Bool := isCB K (He.ga K c) && (decide (PySem.W.kitOne K (.ref (He.ga K c)) (.ref (He.ga K c)) = some true) && tyNames.all fun n => decide (PySem.W.kitOne K (.type n) (.ref (He.ga K c)) = some false))
theorem iscB_ok {K : PySem.W.Frag} {c : Str} (cl : Cls K (He.ga K c)) (h : iscB K c = true) : IscC K c := by
  obtain ⟨h1, h⟩ := He.ba h
  obtain ⟨h2, h3⟩ := He.ba h
  exact ⟨isCB_ok cl h1, of_decide_eq_true h2, fun n hn => of_decide_eq_true (List.all_eq_true.mp h3 n hn)⟩
theorem isCls_of {c : Str} {d : D} {b : Bool} (h : isCls c d = some b) : (∃ ks ds, d = .ins c ks ds ∧ b = true) ∨ ((∃ n, tyN d = some n) ∧ b = false) := by
  cases d with
  | ins c' ks ds =>
    have h : (if c' = c then some true else none) = some b := h
    by_cases e : c' = c
    · rw [if_pos e] at h
      have hb := Option.some.inj h
      subst e
      exact .inl ⟨ks, ds, rfl, hb.symm⟩
    · rw [if_neg e] at h
      cases h
  | obj n => cases h
  | fn x => cases h
  | scr ns => cases h
  | _ => cases h; exact .inr ⟨⟨_, rfl⟩, rfl⟩
section
variable {X : Cx} {W : WW} {C : Calls}
theorem s_isc {a b : Expr} {ea : E} {c : Str} {p pos : Pos} (hg : Gl X "isinstance") (hm : X.mg "isinstance" = none) (hc : IscC X.K c) (ha : PE X a (tB X.K W C ea)) (ok : okA a = true) (hb : PE X b (tC (.ref (He.ga X.K c)))) (ok2 : okA b = true) :
    PE X (.Call (.Name "isinstance" p) [a, b] [] pos) (tE X.K W C (.isc ea c)) :=
  impE (pe_callB call_isi hg hm boot_isi (pa_cons ha (pa_cons hb pa_nil (okA_star ok2)) (okA_star ok)) (by decide) (by decide) (okA_star ok) (by rw [okA_star ok2]; rfl)) fun σ H Q ⟨F, T, st, env, w, eo, p⟩ => by
    have p : Post X.K W σ F T H (rV X.K) ((bor env ea (evE C env ea) st).bnd fun x st => ofO ((isCls c x).map .bl) st) Q := p
    refine ⟨F, T, st, env, w, eo, (Post.bnd (R1 := rBo X.K) sh_V p).mono fun x H1 ⟨F1, T1, st1, d, x1, w1, r1, p1⟩ => ?_⟩
    obtain ⟨b, e, q⟩ := isi_post p1
    rcases isCls_of e with ⟨ks, ds, rfl, rfl⟩ | ⟨⟨n, en⟩, rfl⟩
    · obtain ⟨ad, dx, fs, ev, h1, _, _⟩ := ins_at w1 r1 (show deref st1 (.ins c ks ds) = some (.ins c ks ds) from rfl)
      subst ev
      exact ⟨.ref ad, .ref (He.ga X.K c), .ref (He.ga X.K c), .ref (He.ga X.K c), true, rfl, .own _, .base (.ins h1 hc.is.cl hc.is.ha hc.is.hn hc.is.ht hc.is.hm), hc.own, q F1 T1 H1 (.refl _ _ _) w1⟩
    · obtain ⟨hn, ty⟩ := tyx_bor w1 en r1
      exact ⟨x, .ref (He.ga X.K c), .type n, .ref (He.ga X.K c), false, rfl, .own _, ty, hc.ty n hn, q F1 T1 H1 (.refl _ _ _) w1⟩
end
end Eng
set_option Elab.async false
set_option linter.all false
set_option maxRecDepth 100000
set_option maxHeartbeats 2000000
/-! Eng 35: max, min of a list of ints -/
namespace Eng
open PySem PySem.Spec PyProof.Rows L2
theorem top_max : ∀ (xs : List Int) (x : Int), xs.foldl (fun x y => if x < y then y else x) x ∈ x :: xs ∧ ∀ y ∈ x :: xs, y ≤ xs.foldl (fun x y => if x < y then y else x) x
  | [], x => ⟨List.mem_cons_self, fun y hy => by rw [List.mem_singleton.mp hy]; exact Int.le_refl _⟩
  | z :: xs, x => by
    obtain ⟨h1, h2⟩ := top_max xs (if x < z then z else x)
    show xs.foldl (fun x y => if x < y then y else x) (if x < z then z else x) ∈ x :: z :: xs ∧ ∀ y ∈ x :: z :: xs, y ≤ xs.foldl (fun x y => if x < y then y else x) (if x < z then z else x)
    refine ⟨?_, fun y hy => ?_⟩
    · rcases List.mem_cons.mp h1 with e | e
      · rw [e]
        split
        · exact List.mem_cons_of_mem _ List.mem_cons_self
        · exact List.mem_cons_self
      · exact List.mem_cons_of_mem _ (List.mem_cons_of_mem _ e)
    · have top := h2 _ List.mem_cons_self
      have le : x ≤ (if x < z then z else x) ∧ z ≤ (if x < z then z else x) := by split <;> omega
      rcases List.mem_cons.mp hy with e | hy
      · rw [e]
        exact Int.le_trans le.1 top
      · rcases List.mem_cons.mp hy with e | hy
        · rw [e]
          exact Int.le_trans le.2 top
        · exact h2 y (List.mem_cons_of_mem _ hy)
theorem top_min : ∀ (xs : List Int) (x : Int), xs.foldl (fun x y => if y < x then y else x) x ∈ x :: xs ∧ ∀ y ∈ x :: xs, xs.foldl (fun x y => if y < x then y else x) x ≤ y
  | [], x => ⟨List.mem_cons_self, fun y hy => by rw [List.mem_singleton.mp hy]; exact Int.le_refl _⟩
  | z :: xs, x => by
    obtain ⟨h1, h2⟩ := top_min xs (if z < x then z else x)
    show xs.foldl (fun x y => if y < x then y else x) (if z < x then z else x) ∈ x :: z :: xs ∧ ∀ y ∈ x :: z :: xs, xs.foldl (fun x y => if y < x then y else x) (if z < x then z else x) ≤ y
    refine ⟨?_, fun y hy => ?_⟩
    · rcases List.mem_cons.mp h1 with e | e
      · rw [e]
        split
        · exact List.mem_cons_of_mem _ List.mem_cons_self
        · exact List.mem_cons_self
      · exact List.mem_cons_of_mem _ (List.mem_cons_of_mem _ e)
    · have top := h2 _ List.mem_cons_self
      have le : (if z < x then z else x) ≤ x ∧ (if z < x then z else x) ≤ z := by split <;> omega
      rcases List.mem_cons.mp hy with e | hy
      · rw [e]
        exact Int.le_trans top le.1
      · rcases List.mem_cons.mp hy with e | hy
        · rw [e]
          exact Int.le_trans top le.2
        · exact h2 y (List.mem_cons_of_mem _ hy)
/-! ### data that can be compared -/
theorem all_reads {h : Heap} : ∀ {us : List Value} {ds : List D}, PySem.W.EachIs (fun v b => ∃ as, Reads h v (py b) as) us ds → ∃ as, ReadsAll h us (ds.map py) as
  | _, _, .nil => ⟨_, .nil⟩
  | _, _, .cons ⟨_, r⟩ e => by
    obtain ⟨bs, q⟩ := all_reads e
    exact ⟨_, .cons r q⟩
theorem ord_alike {ds : List D} (h : ordOk ds = true) : ds.all (dataF 20) = true ∧ PySem.W.AlikeAll (ds.map py) ∧ ∀ d ∈ ds, isCont d = false := by
  unfold ordOk at h
  simp only [Bool.and_eq_true] at h
  obtain ⟨⟨q1, q2⟩, q3⟩ := h
  refine ⟨q1, ⟨fun d1 h1 d2 h2 => ?_, fun d1 h1 => ?_⟩, fun d hd => ?_⟩
  · obtain ⟨a1, m1, rfl⟩ := List.mem_map.mp h1
    obtain ⟨a2, m2, rfl⟩ := List.mem_map.mp h2
    exact List.all_eq_true.mp (List.all_eq_true.mp q2 a1 m1) a2 m2
  · obtain ⟨a1, m1, rfl⟩ := List.mem_map.mp h1
    have z := List.all_eq_true.mp q3 a1 m1
    have z1 := List.all_eq_true.mp q1 a1 m1
    cases a1 <;> first | (simp [py]; done) | (cases z; done) | (cases z1; done)
  · have z := List.all_eq_true.mp q3 d hd
    simp only [Bool.and_eq_true, Bool.not_eq_true'] at z
    exact z.2
theorem depth_all : ∀ {ds : List D}, ds.all (dataF 20) = true → PyData.depthAll (ds.map py) ≤ 21
  | [], _ => by simp [PyData.depthAll]
  | d :: ds, h => by
    simp only [List.all_cons, Bool.and_eq_true] at h
    have a := depth_pyF 20 d h.1
    have b := depth_all h.2
    simp only [List.map_cons, PyData.depthAll]
    omega
theorem getD_py (ds : List D) (i : Nat) : (ds.map py).getD i .none = py (ds.getD i .non) := by
  rw [List.getD_eq_getElem?_getD, List.getD_eq_getElem?_getD, List.getElem?_map]
  cases ds[i]? <;> rfl
/-- the place of the best one, and what stands there -/
theorem best_at (f : D → D → Bool) (g : PyData → PyData → Bool) (e : ∀ a b, f a b = g (py a) (py b)) (x : D) (xs : List D) : ∃ i, i = PySem.argBest (fun i j => g (((x :: xs).map py).getD i .none) (((x :: xs).map py).getD j .none)) xs.length ∧
    (x :: xs)[i]? = some (xs.foldl (fun a y => if f y a = true then y else a) x) := by
  refine ⟨_, rfl, ?_⟩
  have k := PySem.W.argBest_fold f D.non x xs xs.length (Nat.le_refl _)
  have same : (fun i j => g (((x :: xs).map py).getD i .none) (((x :: xs).map py).getD j .none)) = fun i j => f ((x :: xs).getD i .non) ((x :: xs).getD j .non) := by
    funext i j
    rw [getD_py, getD_py, e]
  rw [same]
  obtain ⟨k1, k2⟩ := k
  rw [List.take_length] at k2
  have lt : PySem.argBest (fun i j => f ((x :: xs).getD i .non) ((x :: xs).getD j .non)) xs.length < (x :: xs).length := by
    rw [List.length_cons]
    omega
  rw [List.getElem?_eq_getElem lt, ← k2, List.getD_eq_getElem?_getD, List.getElem?_eq_getElem lt]
  rfl
section
variable {X : Cx}
theorem bi_max (hc : X.calm = true) (hu : X.A.units + 64 < cLine) : CallR X (.builtin "max") (rBi X.K "max") := by
  intro pins s σ H vs us Q I r h
  obtain ⟨F, T, st, ds, d, w, bs, e, c⟩ := h
  match ds, bs, e with
  | [.lst xs], bs, e =>
    obtain ⟨v, rfl, b⟩ := bors1 bs
    obtain ⟨a, ws, rfl, ha, ra⟩ := b.lst w
    have e : (match intsD xs with
      | some ns => (topI (fun x y => if x < y then y else x) ns).map D.int
      | none => if ordOk xs = true then topD (fun x y => ltD y x) xs else none) = some d := e
    cases ei : intsD xs with
    | some ns =>
      rw [ei] at e
      have e2 : (topI (fun x y => if x < y then y else x) ns).map D.int = some d := e
      cases intsD_ok ei
      cases reps_ints ra
      cases ns with
      | nil => cases e2
      | cons n ns =>
        have e3 : D.int (ns.foldl (fun x y => if x < y then y else x) n) = d := Option.some.inj e2
        subst e3
        obtain ⟨m1, m2⟩ := top_max ns n
        refine cr_max hc pins s σ H _ us Q I r ⟨a, n :: ns, rfl, .of ha, Nat.succ_pos _, fun m hm hy => ?_⟩
        have q : m = ns.foldl (fun x y => if x < y then y else x) n := Int.le_antisymm (m2 m hm) (hy _ m1)
        rw [q]
        exact c.flat w rfl (.int _)
    | none =>
      rw [ei] at e
      have e2 : (if ordOk xs = true then topD (fun x y => ltD y x) xs else none) = some d := e
      by_cases ok : ordOk xs = true
      · rw [if_pos ok] at e2
        obtain ⟨al, ak, nc⟩ := ord_alike ok
        cases xs with
        | nil => cases e2
        | cons x xs =>
          have e3 : xs.foldl (fun a y => if (fun x y => ltD y x) y a = true then y else a) x = d := Option.some.inj e2
          obtain ⟨its, rv, pl, hz⟩ := I.list (.of ha)
          rw [Vals.ref1 r]
          have es := sees_each rv ra
          obtain ⟨as, rd⟩ := all_reads (sees_reads I w.fr es al)
          have rd : ReadsAll s.heap its.toArray.toList ((x :: xs).map py) as := rd
          have hn : its.toArray.size = xs.length + 1 := by
            have z := PySem.W.readsAll_len rd
            rw [List.length_map] at z
            exact z
          refine PySem.call_max_walkH (PySem.W.iter_listW (A := X.A.in1) (I.ok.hd hc) pl.isList fun s2 es2 W hst hfp hw hk => ?_)
          refine ⟨_, _, _, _, _, _, _, s.heap, _, rfl, W, hst, hfp, by omega, hw, hk, PySem.W.cmpIn_gt (A := X.A.in1) rd ak (by have := depth_all al; show X.A.units + 1 + _ < _; omega), fun u s3 hP m => ?_⟩
          obtain ⟨h', tk, rfl, hk'⟩ := PySem.W.moved_old es2 rfl m
          obtain ⟨i, ei, at_⟩ := best_at (fun x y => ltD y x) (fun x y => PySem.W.dataLt y x) (fun _ _ => rfl) x xs
          have e1 : its.toArray.size - 1 = xs.length := by omega
          rw [e1] at hP
          have hP : its.toArray[i]? = some u := by rw [ei]; exact hP
          rw [e3] at at_
          obtain ⟨wv, hw2, rw2⟩ := ra.get at_
          obtain ⟨u', hu', ru⟩ := rv.get hw2
          have eu : u' = u := by
            rw [List.getElem?_toArray, hu'] at hP
            exact Option.some.inj hP
          subst eu
          exact ⟨wv, H, I.kept hk', ru, c.flat w (nc d (List.mem_of_getElem? at_)) rw2⟩
      · rw [if_neg ok] at e2
        cases e2
theorem bi_min (hc : X.calm = true) (hu : X.A.units + 64 < cLine) : CallR X (.builtin "min") (rBi X.K "min") := by
  intro pins s σ H vs us Q I r h
  obtain ⟨F, T, st, ds, d, w, bs, e, c⟩ := h
  match ds, bs, e with
  | [.lst xs], bs, e =>
    obtain ⟨v, rfl, b⟩ := bors1 bs
    obtain ⟨a, ws, rfl, ha, ra⟩ := b.lst w
    have e : (match intsD xs with
      | some ns => (topI (fun x y => if y < x then y else x) ns).map D.int
      | none => if ordOk xs = true then topD ltD xs else none) = some d := e
    cases ei : intsD xs with
    | some ns =>
      rw [ei] at e
      have e2 : (topI (fun x y => if y < x then y else x) ns).map D.int = some d := e
      cases intsD_ok ei
      cases reps_ints ra
      cases ns with
      | nil => cases e2
      | cons n ns =>
        have e3 : D.int (ns.foldl (fun x y => if y < x then y else x) n) = d := Option.some.inj e2
        subst e3
        obtain ⟨m1, m2⟩ := top_min ns n
        refine cr_min hc pins s σ H _ us Q I r ⟨a, n :: ns, rfl, .of ha, Nat.succ_pos _, fun m hm hy => ?_⟩
        have q : m = ns.foldl (fun x y => if y < x then y else x) n := Int.le_antisymm (hy _ m1) (m2 m hm)
        rw [q]
        exact c.flat w rfl (.int _)
    | none =>
      rw [ei] at e
      have e2 : (if ordOk xs = true then topD ltD xs else none) = some d := e
      by_cases ok : ordOk xs = true
      · rw [if_pos ok] at e2
        obtain ⟨al, ak, nc⟩ := ord_alike ok
        cases xs with
        | nil => cases e2
        | cons x xs =>
          have e3 : xs.foldl (fun a y => if ltD y a = true then y else a) x = d := Option.some.inj e2
          obtain ⟨its, rv, pl, hz⟩ := I.list (.of ha)
          rw [Vals.ref1 r]
          have es := sees_each rv ra
          obtain ⟨as, rd⟩ := all_reads (sees_reads I w.fr es al)
          have rd : ReadsAll s.heap its.toArray.toList ((x :: xs).map py) as := rd
          have hn : its.toArray.size = xs.length + 1 := by
            have z := PySem.W.readsAll_len rd
            rw [List.length_map] at z
            exact z
          refine PySem.call_min_walkH (PySem.W.iter_listW (A := X.A.in1) (I.ok.hd hc) pl.isList fun s2 es2 W hst hfp hw hk => ?_)
          refine ⟨_, _, _, _, _, _, _, s.heap, _, rfl, W, hst, hfp, by omega, hw, hk, PySem.W.cmpIn_lt (A := X.A.in1) rd ak (by have := depth_all al; show X.A.units + 1 + _ < _; omega), fun u s3 hP m => ?_⟩
          obtain ⟨h', tk, rfl, hk'⟩ := PySem.W.moved_old es2 rfl m
          obtain ⟨i, ei, at_⟩ := best_at ltD PySem.W.dataLt (fun _ _ => rfl) x xs
          have e1 : its.toArray.size - 1 = xs.length := by omega
          rw [e1] at hP
          have hP : its.toArray[i]? = some u := by rw [ei]; exact hP
          rw [e3] at at_
          obtain ⟨wv, hw2, rw2⟩ := ra.get at_
          obtain ⟨u', hu', ru⟩ := rv.get hw2
          have eu : u' = u := by
            rw [List.getElem?_toArray, hu'] at hP
            exact Option.some.inj hP
          subst eu
          exact ⟨wv, H, I.kept hk', ru, c.flat w (nc d (List.mem_of_getElem? at_)) rw2⟩
      · rw [if_neg ok] at e2
        cases e2
end
end Eng
set_option Elab.async false
set_option linter.all false
set_option maxRecDepth 100000
set_option maxHeartbeats 2000000
/-! Eng 36: == and != by an own __eq__ -/
namespace Eng
open PySem PySem.Spec PyProof.Rows L2
/-- what == and != ask of the class at C, whose __eq__ is at f -/
structure EqC (K : PySem.W.Frag) (C f : Addr) : Prop where
  eq : PySem.W.findIn K (.ref C) "__eq__" = some (some (.ref f))
  ne : PySem.W.findIn K (.ref C) "__ne__" = some (some (.builtin "object.__ne__"))
  fn : PySem.W.isFn K (.ref f) = true
  ob : PySem.W.subIn K (.ref C) (.type "object") = some true
  no : ∀ t ∈ ["NoneType", "bool", "int", "str", "tuple", "list"], PySem.W.subIn K (.type t) (.ref C) = some false
def eqcB (K : PySem.W.Frag) (C f : Addr) : Bool := decide (PySem.W.findIn K (.ref C) "__eq__" = some (some (.ref f))) && (decide (PySem.W.findIn K (.ref C) "__ne__" = some (some (.builtin "object.__ne__"))) && (PySem.W.isFn K (.ref f) && (decide (PySem.W.subIn K (.ref C) (.type "object") = some true) && ["NoneType", "bool", "int", "str", "tuple", "list"].all fun t => decide (PySem.W.subIn K (.type t) (.ref C) = some false))))
theorem eqcB_ok {K : PySem.W.Frag} {C f : Addr} (h : eqcB K C f = true) : EqC K C f := by
  obtain ⟨h1, h⟩ := He.ba h
  obtain ⟨h2, h⟩ := He.ba h
  obtain ⟨h3, h⟩ := He.ba h
  obtain ⟨h4, h5⟩ := He.ba h
  exact ⟨of_decide_eq_true h1, of_decide_eq_true h2, h3, of_decide_eq_true h4, fun t ht => of_decide_eq_true (List.all_eq_true.mp h5 t ht)⟩
section
variable {prog : Program} {w : World} {A : Around} {E : Value → Shared → Prop} {s : Shared} {K : PySem.W.Frag} {x C f : Addr} {ox : Obj} {od : Option Obj} {b tb : Value}
/-- the inherited != asks the own == -/
theorem ne_entry (X : K.In s.heap) (I : PySem.W.InstAt s.heap x ox C od) (e : EqC K C f) (hu : A.units < cLine) {Q : PySem.Fin → Shared → Prop}
    (h : wpAny (model prog w) A (call (.ref f) [.ref x, b]) (fun v s' => ∃ k, v = .bool k ∧ Q (.done (.ret (.bool (!k)))) s') E s) : wpAny (model prog w) A (Builtin.«object.__ne__» ⟨[.ref x, b], []⟩) Q E s := by
  unfold Builtin.«object.__ne__»
  refine wpAny_bind (wpAny_of_eq (a := ((Value.ref x : Value), [b])) (by first | rfl | (simp only [Builtin.slotArgs]; rfl)) ?_)
  dsimp only
  refine wpAny_bind (wpAny_cRoomFor hu ?_)
  refine wpAny_bind (PySem.W.ifBound_K X I e.eq e.fn (wpAny_mono h (fun v s' z => ?_) fun _ _ z => z))
  obtain ⟨k, rfl, q⟩ := z
  refine wpAny_bind (wpAny_truthy_bool ?_)
  exact wpAny_pure q
theorem ne_try (X : K.In s.heap) (I : PySem.W.InstAt s.heap x ox C od) (e : EqC K C f) (hu : A.units + 1 < cLine) {Q : Option Value → Shared → Prop}
    (h : wpAny (model prog w) A.in1 (call (.ref f) [.ref x, b]) (fun v s' => ∃ k, v = .bool k ∧ Q (some (.bool (!k))) s') E s) : wpAny (model prog w) A (tryCompare (.ref x) "__ne__" b) Q E s := by
  unfold tryCompare
  refine wpAny_bind ?_
  have sub : PySem.W.Looks (model prog w) s.heap (isInstance (.ref x) (.type "object")) true := I.type.andThen (PySem.W.looks_subIn X e.ob)
  have run : wpAny (model prog w) A (call (.builtin "object.__ne__") [.ref x, b]) (fun v s' => ∃ k, v = .bool k ∧ Q (some (.bool k)) s') E s := by
    refine wpAny_call (codeAny_call_builtin PySem.F.cmp_object.ne.plain PySem.F.cmpEntry_ne (PySem.W.check_slot PySem.F.cmpKind_ne PySem.F.cmpSplit_ne sub (PySem.F.cmpArgs_ne _ _) ?_))
    refine ne_entry X I e hu (wpAny_mono h (fun v s' z => ?_) fun _ _ z => z)
    obtain ⟨k, rfl, q⟩ := z
    exact ⟨k, rfl, !k, rfl, q⟩
  have sp : wpAny (model prog w) A (callSpecialIfBound? (.ref x) "__ne__" [b]) (fun r s' => ∃ k, r = some (.bool k) ∧ Q (some (.bool k)) s') E s := by
    simp only [callSpecialIfBound?, bindSpecialIfBound?]
    refine wpAny_holding (wpAny_bind (wpAny_bind (wpAny_bind (I.type.here ((PySem.W.looks_findIn X e.ne).here ?_)))))
    refine wpAny_bind (wpAny_askSetting (wpAny_ite ?_))
    have fin : wpAny (model prog w) A (call (.builtin "object.__ne__") ([.ref x] ++ [b]) >>= fun v => pure (some v)) (fun r s' => ∃ k, r = some (.bool k) ∧ Q (some (.bool k)) s') E s := wpAny_bind (wpAny_mono run (fun v s' z => by
      obtain ⟨k, rfl, q⟩ := z
      exact wpAny_pure ⟨k, rfl, q⟩) fun _ _ z => z)
    have bd := PySem.F.cmp_object.ne.bind (.ref x)
    split
    · rw [bd]
      exact wpAny_bind (wpAny_pure (wpAny_pure (by exact fin)))
    · rw [bd]
      exact wpAny_tryCatch (wpAny_bind (wpAny_pure (wpAny_pure (by exact fin))))
  refine wpAny_mono sp (fun r s' z => ?_) fun _ _ z => z
  obtain ⟨k, rfl, q⟩ := z
  exact wpAny_pure q
/-- x != b -/
theorem ne_own {Q : Value → Shared → Prop} (hu : A.units + 1 < cLine) (X : K.In s.heap) (I : PySem.W.InstAt s.heap x ox C od) (hb : PySem.W.Looks (model prog w) s.heap (typeOf b) tb) (hn : PySem.W.notFirst K C tb = true) (e : EqC K C f)
    (h : wpAny (model prog w) A.in1 (call (.ref f) [.ref x, b]) (fun v s' => ∃ k, v = .bool k ∧ Q (.bool (!k)) s') E s) : wpAny (model prog w) A (richCompare .NotEq (.ref x) b) Q E s := by
  have one : wpAny (model prog w) A (tryCompare (.ref x) "__ne__" b) (fun r s' => ∃ v, r = some v ∧ Q v s') E s := ne_try X I e hu (wpAny_mono h (fun v s' z => by
    obtain ⟨k, rfl, q⟩ := z
    exact ⟨k, rfl, _, rfl, q⟩) fun _ _ z => z)
  unfold richCompare
  simp only [oneThing_ref]
  refine wpAny_holding (wpAny_bind (wpAny_cRoomFor (by omega) ?_))
  refine wpAny_bind (I.type.here (wpAny_bind (hb.here ?_)))
  by_cases q : (Value.ref C != tb) = true
  · rw [if_pos q]
    have e0 : PySem.W.subIn K tb (.ref C) = some false := by
      rcases Bool.or_eq_true_iff.mp hn with e | e
      · rw [beq_iff_eq.mp e] at q
        simp at q
      · exact beq_iff_eq.mp e
    refine wpAny_bind ((PySem.W.looks_subIn X e0).here ?_)
    simp only [Bool.false_eq_true, if_false]
    refine wpAny_bind (wpAny_mono one (fun r s' z => ?_) fun _ _ e => e)
    obtain ⟨v, rfl, hq⟩ := z
    exact wpAny_pure hq
  · rw [if_neg q]
    refine wpAny_bind (wpAny_pure ?_)
    simp only [Bool.false_eq_true, if_false]
    refine wpAny_bind (wpAny_mono one (fun r s' z => ?_) fun _ _ e => e)
    obtain ⟨v, rfl, hq⟩ := z
    exact wpAny_pure hq
end
section
variable {X : Cx} {W : WW} {C : Calls}
theorem looks_obj {M : Model} {h : Heap} {a : Addr} {o : Obj} {c : Value} (e : h.get? a = some o) (hc : o.cls = c) : PySem.W.Looks M h (typeOf (.ref a)) c := fun A Q E s k q => wpAny_typeOf_ref (k _ _ e) (by rw [hc]; exact q)
/-- the right operand's type -/
theorem right_ty {K : PySem.W.Frag} {pins : List (Addr × Obj)} {σ : L2.St} {F H : Hp} {T : List Addr} {st : Store} {s : Shared} {y : V} {u : Value} {d : D} {c : Str} {f : Addr} (hK : X.K = K) (I : Inv X pins σ H s) (w : WF K F T st H) (q : EqC K (He.ga K c) f) (r : Rep K F T y d) (ry : RelV y u) (e : eqR c d = true) :
    ∃ tb, PySem.W.Looks (model X.prog X.w) s.heap (typeOf u) tb ∧ PySem.W.notFirst K (He.ga K c) tb = true := by
  subst hK
  have no : ∀ t ∈ ["NoneType", "bool", "int", "str", "tuple", "list"], PySem.W.notFirst X.K (He.ga X.K c) (.type t) = true := fun t ht => by
    unfold PySem.W.notFirst
    rw [q.no t ht]
    simp
  cases d with
  | non => cases r; obtain rfl : u = .none := ry; exact ⟨.type "NoneType", .of_pure (by first | rfl | kernel_rfl), no _ (by decide)⟩
  | bl b => cases r; obtain rfl : u = .bool b := ry; exact ⟨.type "bool", .of_pure (by first | rfl | kernel_rfl), no _ (by decide)⟩
  | int i => cases r; obtain ⟨t, rfl⟩ : ∃ t, u = .int i t := ry; exact ⟨.type "int", .of_pure (by first | rfl | kernel_rfl), no _ (by decide)⟩
  | str i => cases r; obtain ⟨t, rfl⟩ : ∃ t, u = .str i t := ry; exact ⟨.type "str", .of_pure (by first | rfl | kernel_rfl), no _ (by decide)⟩
  | tup ds =>
    cases r with
    | @tup a xs _ z _ =>
      obtain rfl : u = .ref a := ry
      obtain ⟨its, _, pl, _⟩ := I.tuple (sqT_mono w.fr z)
      obtain ⟨o, ho, hc, _⟩ := pl
      exact ⟨.type "tuple", looks_obj ho hc, no _ (by decide)⟩
  | lst ds =>
    cases r with
    | @lst a xs _ z _ =>
      obtain rfl : u = .ref a := ry
      obtain ⟨its, _, pl, _⟩ := I.list (.of (w.fr _ _ z))
      obtain ⟨o, ho, hc, _⟩ := pl.isList
      exact ⟨.type "list", looks_obj ho hc, no _ (by decide)⟩
  | ins c' ks ds =>
    have ec : c' = c := of_decide_eq_true e
    subst ec
    cases r with
    | @ins a dx _ fs _ _ z _ _ =>
      obtain rfl : u = .ref a := ry
      obtain ⟨mA, J, _⟩ := ins_get I.hok (w.fr _ _ z)
      obtain ⟨od, J, _⟩ := J.look
      exact ⟨.ref (He.ga X.K c'), J.type, by simp [PySem.W.notFirst]⟩
  | _ => cases e
theorem post_nox {K : PySem.W.Frag} {α β : Type} {R : RR α β} {σ τ : L2.St} {F H : Hp} {T : List Addr} {o : Out α} {g : α → Store → Out D} {Q : V → Hp → Prop} (p : Post K W σ F T H (rV K) ((o.nox).bnd g) Q) :
    Post K ⟨fun _ _ _ _ => False, none, {}, false⟩ τ F T H R o fun b H1 => ∃ F1 T1 st1 a, Ext F T H F1 T1 H1 ∧ WF K F1 T1 st1 H1 ∧ R H F1 T1 H1 a b ∧ Post K W σ F1 T1 H1 (rV K) (g a st1) Q := by
  cases o with
  | bad => exact p.elim
  | ex c ks ds st => exact p.elim
  | ok a st => exact fun b F' T' H' y w r => ⟨F', T', st, a, y, w, r, Post.shift sh_V y p⟩
theorem eqo_bl {env : Env} {neg : Bool} {c : Str} {n : Nat} {ea eb : E} {st st' : Store} {d : D} (h : evE C env (.eqo neg ea c n eb) st = .ok d st') : ∃ k, d = .bl k := by
  have h : ((evE C env ea st).bnd fun x st => (evE C env eb st).bnd fun y st => chkO (insIs c "__eq__" x && eqR c y) (((C n [x, y] st).nox).bnd fun r st => (match r with | .bl k => .ok (.bl (if neg = true then !k else k)) st | _ => .bad))) = .ok d st' := h
  revert h
  cases evE C env ea st with
  | bad => intro h; cases h
  | ex c ks ds st => intro h; cases h
  | ok x st1 =>
    rw [Out.bnd_ok]
    cases evE C env eb st1 with
    | bad => intro h; cases h
    | ex c ks ds st => intro h; cases h
    | ok y st2 =>
      rw [Out.bnd_ok]
      cases insIs c "__eq__" x && eqR c y with
      | false => intro h; cases h
      | true =>
        rw [chkO_true]
        cases C n [x, y] st2 with
        | bad => intro h; cases h
        | ex c ks ds st => intro h; cases h
        | ok r st3 =>
          cases r with
          | bl k => intro h; cases h; exact ⟨_, rfl⟩
          | _ => intro h; cases h
theorem eqo_run {k n : Nat} {c : Str} {op : CmpOp} {neg : Bool} {a b : Expr} {ea eb : E} (hop : (op = .Eq ∧ neg = false) ∨ (op = .NotEq ∧ neg = true)) (h : MethOk X.prog X.w X.K X.mg X.base k C c "__eq__" n) (q : EqC X.K (He.ga X.K c) (He.ma X.K (He.ga X.K c) "__eq__")) (hr : Room (k + 1) X.A)
    (ha : PE X a (tE X.K W C ea)) (hb : PE X b (tE X.K W C eb)) {pins : List (Addr × Obj)} {s : Shared} {σ : L2.St} {H : Hp} {Q : VK} (I : Inv X pins σ H s) (rd : tE X.K W C (.eqo neg ea c n eb) σ H Q) :
    wpAny (model X.prog X.w) X.A (eval a X.env) (fun v s1 => wpAny (model X.prog X.w) X.A (eval b X.env) (fun u s2 => wpAny (model X.prog X.w) X.A (compareOp op v u) (EP X pins σ Q) X.xe s2) X.xe s1) X.xe s := by
  obtain ⟨fd, ps, FN, bi⟩ := h.fn
  obtain ⟨F0, T, st, env, w, eo, p⟩ := rd
  have p : Post X.K W σ F0 T H (rV X.K) ((evE C env ea st).bnd fun x st => (evE C env eb st).bnd fun y st => chkO (insIs c "__eq__" x && eqR c y) (((C n [x, y] st).nox).bnd fun r st => (match r with | .bl k => .ok (.bl (if neg = true then !k else k)) st | _ => .bad))) Q := p
  refine thn (ha.run pins s σ H _ I ⟨F0, T, st, env, w, eo, Post.bnd (R1 := rV X.K) sh_V p⟩) fun v s1 ⟨x, H1, I1, rx, F1, T1, st1, d1, x1, w1, r1, p1⟩ => ?_
  refine thn (hb.run pins s1 σ H1 _ I1 ⟨F1, T1, st1, env, w1, eo.ext x1, Post.bnd (R1 := rV X.K) sh_V p1⟩) fun u s2 ⟨y, H2, I2, ry, F2, T2, st2, d2, x2, w2, r2, p2⟩ => ?_
  obtain ⟨hi, p3⟩ := chk_ok (a := D.non) (st := st2) p2
  obtain ⟨hi1, hi2⟩ := Bool.and_eq_true_iff.mp hi
  have r1' : Rep X.K F2 T2 x d1 := Rep.mono x2.fr x2.pre r1
  cases d1 with
  | ins c' ks ds =>
    have hi1 : (decide (c' = c) && !ks.contains "__eq__") = true := hi1
    obtain rfl := of_decide_eq_true (Bool.and_eq_true_iff.mp hi1).1
    cases r1' with
    | @ins ad dx _ fs _ _ hF hk rs =>
      obtain rfl : v = .ref ad := rx
      obtain ⟨tb, ty, nf⟩ := right_ty rfl I2 w2 q r2 ry hi2
      obtain ⟨mA, J, _⟩ := ins_get I2.hok (w2.fr _ _ hF)
      obtain ⟨od, J, _⟩ := J.look
      have hsp : spN X.K C n ([V.ref ad, y]) H2 (fun z H3 => ∃ k, z = .bl k ∧ Q (.bl (if neg = true then !k else k)) H3) (fun _ _ _ => False) :=
        ⟨F2, T2, st2, [.ins c' ks ds, d2], w2, .cons (.ins hF hk rs) (.cons r2 .nil), (post_nox (R := rV X.K) p3).mono fun z H3 ⟨F3, T3, st3, dz, x3, w3, rz, p4⟩ => by
          cases dz with
          | bl k =>
            have rz : Rep X.K F3 T3 z (.bl k) := rz
            cases rz
            exact ⟨k, rfl, p4 _ F3 T3 H3 (.refl _ _ _) w3 (.bl _)⟩
          | _ => exact p4.elim⟩
      have run : ∀ A, Room k A → Env0 X.prog X.w X.K X.mg X.base A X.stack s2 H2 → wpAny (model X.prog X.w) A (call (.ref (He.ma X.K (He.ga X.K c') "__eq__")) [.ref ad, u]) (fun z s3 => ∃ k, z = .bool k ∧ EP X pins σ Q (.bool (if neg = true then !k else k)) s3) X.xe s2 := fun A hrA e0 => by
        have hl := FN.len _ _ _ _ hsp
        have rr : Vals [V.ref ad, y] [Value.ref ad, u] := .cons rfl (.cons ry .nil)
        refine wpAny_call (codeAny_mono (FN.run A X.stack s2 H2 ⟨[.ref ad, u], []⟩ [.ref ad, u] [.ref ad, y] _ _ hrA e0 (by
          have z := bi s2 [.ref ad, u] I2.kIn (by simpa using hl)
          simpa using z) rr hsp) fun r s3 hq => ?_)
        cases r with
        | error e =>
          obtain ⟨_, _, _, _, _, _, _, _, _, _, _, _, hf⟩ := hq
          exact hf.elim
        | ok fl =>
          cases fl with
          | ret w =>
            obtain ⟨z, H3, I3, rz, k, ez, qz⟩ := I2.after hq
            subst ez
            obtain rfl : w = .bool k := rz
            exact ⟨k, rfl, .bl (if neg = true then !k else k), H3, I3, rfl, qz⟩
          | next => exact False.elim hq
          | brk => exact False.elim hq
          | cont => exact False.elim hq
      rcases hop with ⟨rfl, rfl⟩ | ⟨rfl, rfl⟩
      · obtain ⟨m, hF⟩ := I2.fr
        show wpAny _ _ (richCompare .Eq (.ref ad) u) _ _ _
        refine PySem.W.cmp_K (op := .Eq) (tb := tb) (hr.mono (Nat.le_succ _)).units0 hF I2.ok.mod.kin J ty nf q.eq q.fn (wpAny_mono (run X.A (hr.mono (Nat.le_succ _)) I2.env0) (fun z s3 hz => ?_) fun _ _ z => z)
        obtain ⟨k, rfl, qz⟩ := hz
        exact qz
      · show wpAny _ _ (richCompare .NotEq (.ref ad) u) _ _ _
        refine ne_own (hu1 hr) I2.kIn J ty nf q (wpAny_mono (run X.A.in1 hr.in1 I2.env0.in1) (fun z s3 hz => ?_) fun _ _ z => z)
        obtain ⟨k, rfl, qz⟩ := hz
        exact ⟨k, rfl, qz⟩
  | _ => exact absurd hi1 Bool.false_ne_true
theorem eqo_mark {op : CmpOp} {neg : Bool} (b : Expr) (hop : (op = .Eq ∧ neg = false) ∨ (op = .NotEq ∧ neg = true)) : behindInMarks op b = false := by
  rcases hop with ⟨rfl, _⟩ | ⟨rfl, _⟩
  · exact nomark b
  · exact nomark b
theorem s_eqo {k n : Nat} {c : Str} {op : CmpOp} {neg : Bool} {a b : Expr} {ea eb : E} {pos : Pos} (hop : (op = .Eq ∧ neg = false) ∨ (op = .NotEq ∧ neg = true)) (h : MethOk X.prog X.w X.K X.mg X.base k C c "__eq__" n) (q : EqC X.K (He.ga X.K c) (He.ma X.K (He.ga X.K c) "__eq__")) (hr : Room (k + 1) X.A)
    (ha : PE X a (tE X.K W C ea)) (hb : PE X b (tE X.K W C eb)) : PE X (.Compare a [op] [b] pos) (tE X.K W C (.eqo neg ea c n eb)) :=
  ⟨fun pins s σ H Q I rd => wpAny_Compare1 (eqo_run hop h q hr ha hb I rd) (eqo_mark b hop)⟩
theorem s_eqoT {k n : Nat} {c : Str} {op : CmpOp} {neg : Bool} {a b : Expr} {ea eb : E} {pos : Pos} (hop : (op = .Eq ∧ neg = false) ∨ (op = .NotEq ∧ neg = true)) (h : MethOk X.prog X.w X.K X.mg X.base k C c "__eq__" n) (q : EqC X.K (He.ga X.K c) (He.ma X.K (He.ga X.K c) "__eq__")) (hr : Room (k + 1) X.A)
    (ha : PE X a (tE X.K W C ea)) (hb : PE X b (tE X.K W C eb)) : PT X (.Compare a [op] [b] pos) (tT X.K W C (.eqo neg ea c n eb)) := by
  refine ⟨fun pins s σ H Q I ⟨F, T, st, env, w, eo, p⟩ => wpAny_isTrue_Compare1 ?_ (eqo_mark b hop)⟩
  have p : Post X.K W σ F T H rEq ((evE C env (.eqo neg ea c n eb) st).bnd fun d st => ofO (truthD d) st) Q := p
  have rd : tE X.K W C (.eqo neg ea c n eb) σ H fun x H' => ∃ k, x = .bl k ∧ Q k H' := by
    refine ⟨F, T, st, env, w, eo, ?_⟩
    show Post X.K W σ F T H (rV X.K) (evE C env (.eqo neg ea c n eb) st) _
    have z := fun d st' => eqo_bl (C := C) (env := env) (neg := neg) (c := c) (n := n) (ea := ea) (eb := eb) (st := st) (st' := st') (d := d)
    revert p z
    cases evE C env (.eqo neg ea c n eb) st with
    | bad => exact fun p _ => p
    | ex c ks ds st => exact fun p _ => p
    | ok d st1 =>
      intro p z
      obtain ⟨k, rfl⟩ := z d st1 rfl
      intro v F' T' H' x w r
      cases (show Rep X.K F' T' v (.bl k) from r)
      exact ⟨k, rfl, p k F' T' H' x w rfl⟩
  refine wpAny_mono (eqo_run hop h q hr ha hb I rd) (fun v s1 h1 => wpAny_mono h1 (fun u s2 h2 => wpAny_mono h2 (fun z s3 h3 => ?_) fun _ _ e => e) fun _ _ e => e) fun _ _ e => e
  obtain ⟨z', H3, I3, r3, k, e, q3⟩ := h3
  subst e
  obtain rfl : z = .bool k := r3
  exact wpAny_truthy_bool ⟨H3, I3, q3⟩
end
end Eng
set_option Elab.async false
set_option linter.all false
set_option maxRecDepth 100000
set_option maxHeartbeats 2000000
/-! Eng 37: methods of built-in things -/
namespace Eng
open PySem PySem.Spec PyProof.Rows L2
section
variable {X : Cx} {W : WW} {C : Calls}
/-- xs.index(i), a list of ints -/
theorem s_index {o e : Expr} {eo ee : E} {apos cpos : Pos} (ho : PE X o (tB X.K W C eo)) (he : PE X e (tB X.K W C ee)) (ok : okA e = true)
    (hbase : attributeBase o "index" X.env (eval o X.env) = eval o X.env) (hline : (apos.endLine == cpos.line) = true) : PE X (.Call (.Attribute o "index" apos) [e] [] cpos) (tE X.K W C (.me "index" eo (.cons ee .nil))) :=
  impE (pe_bm PySem.F.plainAttrs_list PySem.F.slot_list_index PySem.F.type_list_index mt_index ho (b_cons he b_nil ok) hbase (by rw [okA_star ok]; rfl) hline (okA_star ok) rfl) fun σ H Q ⟨F, T, st, env, w, eo', p⟩ => by
    have p : Post X.K W σ F T H (rV X.K) ((bor env eo (evE C env eo) st).bnd fun x st => chkO (isMe "index" x) ((evBs C env (.cons ee .nil) st).bnd fun ds st => ofO (meD "index" x ds) st)) Q := p
    refine ⟨F, T, st, env, w, eo', (Post.bnd (R1 := rBo X.K) sh_V p).mono fun x H1 ⟨F1, T1, st1, d, x1, w1, r1, p1⟩ => ?_⟩
    obtain ⟨hm, p1⟩ := chk_ok (a := D.non) (st := st1) p1
    cases d with
    | lst xs =>
      obtain ⟨a, ws, rfl, ha, ra⟩ := Bor.lst w1 r1
      refine ⟨.inl ⟨rfl, ws, .of ha⟩, F1, T1, st1, env, w1, eo'.ext x1, (Post.bnd (R1 := rBs X.K) sh_V p1).mono fun vs H2 ⟨F2, T2, st2, ds, x2, w2, r2, p2⟩ => ?_⟩
      have r1' : Bor X.K F2 T2 H2 (.ref a) (.lst xs) := Bor.ext r1 x2
      obtain ⟨a', ws', ea, ha', ra'⟩ := Bor.lst w2 r1'
      cases ea
      match ds, r2, p2 with
      | [], _, p2 => exact p2.elim
      | [.int i], r2, p2 =>
        obtain ⟨v, rfl, b⟩ := bors1 r2
        obtain rfl := b.int
        have p3 : Post X.K W σ F2 T2 H2 (rV X.K) (ofO ((intsD xs).bind fun ns => (ns.findIdx? fun n => decide (n = i)).map fun (k : Nat) => D.int (k : Int)) st2) Q := p2
        cases ei : intsD xs with
        | none => rw [ei] at p3; exact p3.elim
        | some ns =>
          rw [ei, Option.bind_some] at p3
          cases intsD_ok ei
          cases reps_ints ra'
          cases ef : ns.findIdx? (fun n => decide (n = i)) with
          | none => rw [ef] at p3; exact p3.elim
          | some j =>
            rw [ef] at p3
            obtain ⟨hj, h1, h2⟩ := List.findIdx?_eq_some_iff_getElem.mp ef
            have h1 : ns[j] = i := of_decide_eq_true h1
            refine ⟨a, ns.map V.int, .int i, j, .int i, rfl, rfl, .of ha', rfl, ?_, ?_, ?_, ?_, p3 (.int (j : Nat)) F2 T2 H2 (.refl _ _ _) w2 (.int _)⟩
            · rw [List.all_map]
              exact List.all_eq_true.mpr fun _ _ => rfl
            · rw [List.getElem?_map, List.getElem?_eq_getElem hj, h1]
              rfl
            · show (i == i) = true
              exact beq_self_eq_true i
            · intro m z hm hz
              have lt : m < ns.length := Nat.lt_trans hm hj
              rw [List.getElem?_map, List.getElem?_eq_getElem lt] at hz
              cases hz
              show (ns[m] == i) = false
              have := h2 m hm
              exact beq_eq_false_iff_ne.mpr fun e => by simp [e] at this
      | [.non], _, p2 => exact p2.elim
      | [.bl _], _, p2 => exact p2.elim
      | [.str _], _, p2 => exact p2.elim
      | [.tup _], _, p2 => exact p2.elim
      | [.lst _], _, p2 => exact p2.elim
      | [.dic _ _], _, p2 => exact p2.elim
      | [.ins _ _ _], _, p2 => exact p2.elim
      | [.obj _], _, p2 => exact p2.elim
      | [.fn _], _, p2 => exact p2.elim
      | [.scr _], _, p2 => exact p2.elim
      | _ :: _ :: _, _, p2 =>
        exfalso
        revert p2
        unfold meD
        split <;> first | (rename_i h1 h2 h3; simp at h3; done) | (intro p2; exact p2.elim) | (intro p2; rename_i h _; cases h)
    | str z => exact absurd (show (("index" : String) == "join") = true from hm) (by decide)
    | _ => exact absurd hm Bool.false_ne_true
end
end Eng
set_option Elab.async false
set_option linter.all false
set_option maxRecDepth 100000
set_option maxHeartbeats 2000000
/-! Eng 38: an exception that leaves a comprehension -/
namespace Eng
open PySem PySem.Spec PyProof.Rows L2
section
variable {M : Model} {A : Around} {E : Value → Shared → Prop} {s : Shared} {Z : Obj → Prop} {gr : Heap} {env : PySem.Env} {l outer : List PySem.Env} {L L2 a : Addr}
/-- it is noted here, though another address has held it -/
theorem look_other {Q : Unit → Shared → Prop} (hZ : HandSPX.Steady Z) (fr : A.frames = some (env :: outer)) (hf : env.frame = some L) (hh : HandSPX.HeldZ gr (env :: outer) a Z L2 s.heap) (ne : L2 ≠ L)
    (k : ∀ g, HandSPX.HeldZ gr (env :: outer) a Z L g → s.heap.UpToSlots g → Q () { s with heap := g }) : wpAny M A (noteFrame (.ref a) env) Q E s := by
  obtain ⟨st, na, ff, oa, fs, T, oT, ts, ha, hz, hda, f1, nT, ta, hT, hdT, t3⟩ := hh
  have nrec : ∀ c u, s.heap.get? c = some u → (∀ vs, u.data ≠ .fields vs) → c ≠ T := fun c u hc nf z => by
    subst z
    cases hT.symm.trans hc
    exact nf ts hdT
  have away : ∀ c, c ≠ T → (s.heap.update T (Obj.mapFields (·.setIfInBounds 3 Value.none))).get? c = s.heap.get? c := fun c hc => Heap.get?_update_other _ _ (fun z => hc z.symm)
  unfold noteFrame
  simp only [hf]
  refine wpAny_bind (wpAny_field ha hda f1 ?_)
  rw [if_pos (by simp : (Value.ref T != Value.none) = true)]
  refine wpAny_bind (wpAny_field hT hdT t3 ?_)
  have dif : (rawInt L2 == rawInt L) = false := by
    rw [beq_eq_false_iff_ne]
    intro z
    have z1 : (L2 : Int) = (L : Int) := by
      unfold rawInt at z
      injection z
    exact ne (Int.ofNat_inj.mp z1)
  rw [dif, if_neg Bool.false_ne_true]
  refine wpAny_bind (wpAny_setField hT hdT (Array.getElem?_eq_some_iff.mp t3).1 ?_)
  refine HandSPX.wpAny_entryZ hZ fr (ff.of_keeps fun c u hc nf => ⟨u, (away c (nrec c u hc nf)).trans hc, rfl⟩) hf ((away a (fun z => ta z.symm)).trans ha)
    (fun c u hc => (away c fun z => by subst z; rw [nT] at hc; cases hc).trans (st c u hc)) na hda (Array.getElem?_eq_some_iff.mp f1).1 hz fun g N => ?_
  obtain ⟨n1, n2, n3, n4⟩ := N
  exact k g ⟨n1, na, n2, n3⟩ fun c u hc nf => n4 c u ((away c (nrec c u hc nf)).trans hc) nf
end
section
variable {X : Cx} {W : WX} {pins : List (Addr × Obj)} {σ : L2.St}
/-- what a comprehension's block owes where its element raised -/
theorem blk_out {s3 : Shared} {H3 : Hp} {scope : Scope} {ce : PySem.Env} {fp : List Addr} (hs : X.stack = X.env :: X.outer) (hf : X.env.frame = some X.env.locals) (tk : Takes X W) (I3 : Inv X pins σ H3 s3) (cf : ce.frame = X.env.frame) (cL : ce.locals = s3.heap.objs.size) (hfp : ∀ b ∈ fp, FpOk X pins H3 b)
    {u : Value} {s5 : Shared} (x : XE (X.blk s3 H3 scope ce fp) (fun c d _ H => W c d σ H) u s5) : notedBy (model X.prog X.w) X.A ce (CompFails (model X.prog X.w) X.A X.xe ce) u s5 := by
  obtain ⟨a, B, sI, pins', σ', H', cls, d, rfl, J, nb, up, sky, na, os, ag, w⟩ := x
  have fr : X.A.frames = some (X.env :: X.outer) := by rw [I3.ok.frames, hs]
  have neC : X.env.locals ≠ ce.locals := by
    rw [cL]
    exact Nat.ne_of_lt I3.lt
  have sky' : Sky B (X.env :: X.outer) a (Zc cls d) ce.locals s5.heap := by
    rw [← hs]
    exact sky
  obtain ⟨m, hn, _⟩ := J.loc
  have hn : sI.heap.Ns ce.locals m := hn
  -- the exception is held by the frame
  have held : ∀ g, HandSPX.HeldZ B (X.env :: X.outer) a (Zc cls d) X.env.locals g → s5.heap.UpToSlots g → CompFails (model X.prog X.w) X.A X.xe ce (.ref a) { s5 with heap := g } := fun g hh upg => by
    refine ⟨m, hn.upToSlots (up.trans upg), fun g2 m2 hn2 sb => ?_⟩
    have hn1 : g.Ns ce.locals m := hn.upToSlots (up.trans upg)
    obtain ⟨st, nB, ff, oa, fs, T, oT, ts, ha, hz, hda, f1, nT, ta, hT, hdT, t3⟩ := hh
    obtain ⟨oL, es, ep, hoL, hdL, _⟩ := id hn1
    have recC : ∀ {b : Addr} {o : Obj} {vs : Array Value}, g.get? b = some o → o.data = .fields vs → b ≠ ce.locals := fun {b o vs} e q z => by
      subst z
      cases hoL.symm.trans e
      rw [hdL] at q
      cases q
    obtain ⟨B2, b1, b2⟩ := restrict B fun b => decide (b ≠ ce.locals)
    have inB : ∀ b o, B2.get? b = some o → b ≠ ce.locals ∧ B.get? b = some o := fun b o e => by
      by_cases q : b = ce.locals
      · rw [b2 b (by simp [q])] at e
        cases e
      · rw [b1 b (by simp [q])] at e
        exact ⟨q, e⟩
    have outB : ∀ b, B.get? b = none → B2.get? b = none := fun b e => by
      cases q : B2.get? b with
      | none => rfl
      | some o =>
        have z := (inB b o q).2
        rw [e] at z
        cases z
    have hh2 : HandSPX.HeldZ B2 (X.env :: X.outer) a (Zc cls d) X.env.locals g2 := by
      refine ⟨fun b o e => (sb.2 b (inB b o e).1).trans (st b o (inB b o e).2), outB a nB, ?_, oa, fs, T, oT, ts, (sb.2 a (recC ha hda)).trans ha, hz, hda, f1, outB T nT, ta, (sb.2 T (recC hT hdT)).trans hT, hdT, t3⟩
      refine funFrames_none (Heap.FunFrames.sameBut sb hn2 ff) fun b hb => ?_
      obtain ⟨hb1, _⟩ := ff.mem hb
      exact outB b hb1
    unfold PySem.passOn
    refine wpAny_bind (wpAny_field ((sb.2 a (recC ha hda)).trans ha) hda f1 ?_)
    rw [if_neg (by simp : ¬ (Value.ref T == Value.none) = true), cf, hf]
    refine wpAny_bind (HandSPX.setFlight_onZ hh2 fun g3 hh3 up3 => wpAny_throw ?_)
    obtain ⟨G, g1, gn⟩ := restrict sI.heap fun b => decide (b ≠ ce.locals)
    have inG : ∀ b o, G.get? b = some o → b ≠ ce.locals ∧ sI.heap.get? b = some o := fun b o e => by
      by_cases q : b = ce.locals
      · rw [gn b (by simp [q])] at e
        cases e
      · rw [g1 b (by simp [q])] at e
        exact ⟨q, e⟩
    have toG : ∀ b o, b ≠ ce.locals → sI.heap.get? b = some o → G.get? b = some o := fun b o q e => by
      rw [g1 b (by simp [q])]
      exact e
    have old : ∀ b o, s3.heap.get? b = some o → b ≠ ce.locals := fun b o e z => by
      have := Heap.lt_size e
      rw [z, cL] at this
      exact Nat.lt_irrefl _ this
    have un := J.base
    have freeC : H' ce.locals = none := J.free
    have JX : Inv X pins σ H' { sI with heap := G } := by
      refine I3.call' (ch := fp) J.os ⟨fun b o e n k1 k2 => toG b o (old b o e) (un.keep b o e n k1 k2), fun b o e n k1 k2 => ?_, un.free, fun b o e k2 => ?_, un.tups, un.frzs, un.tbls⟩ (fun b o q => ?_) J.bare fun b hb => ⟨(hfp b hb).2.2.2.1, (hfp b hb).2.1, (hfp b hb).2.2.2.2.1, (hfp b hb).2.2.2.2.2⟩
      · obtain ⟨sl, q⟩ := un.slot b o e n k1 k2
        exact ⟨sl, toG b _ (old b o e) q⟩
      · obtain ⟨o', q⟩ := un.there b o e k2
        exact ⟨o', toG b _ (old b o e) q⟩
      · refine (J.hok b o q).stay (fun c v hc r => toG c v (fun z => ?_) r) (fun _ r => r) fun _ _ r => r
        subst z
        rcases hc with hc | hc
        · rw [hc, q] at freeC
          cases freeC
        · rw [hc] at freeC
          cases freeC
    refine tk _ _ ⟨a, B2, { sI with heap := G }, pins, σ, H', cls, d, rfl, JX, fun b o e nf => ?_, fun b o e nf => ?_, .inr (.inr (by rw [hs]; exact hh3)), na, os, ag, w⟩
    · obtain ⟨q, e⟩ := inG b o e
      rw [b1 b (by simp [q])]
      exact nb b o e nf
    · obtain ⟨q, e⟩ := inG b o e
      obtain ⟨sl1, e1⟩ := (up.trans upg) b o e nf
      have e2 : g2.get? b = some { o with slots := sl1 } := (sb.2 b q).trans e1
      obtain ⟨sl2, e3⟩ := up3 b _ e2 nf
      exact ⟨sl2, e3⟩
  show wpAny _ _ (noteFrame (.ref a) ce) _ _ _
  rw [noteFrame_env (.ref a) cf]
  rcases sky' with ⟨q1, q2, q3, oe, vs, he, hz, hd, h1⟩ | fl | hh
  · exact HandSPX.look_newZ Zc.steady fr q3 hf he q1 q2 hd h1 hz held
  · exact HandSPX.looks_onZ Zc.steady fr hf fl held
  · exact look_other Zc.steady fr hf hh (fun z => neC z.symm) held
end
end Eng
set_option Elab.async false
set_option linter.all false
set_option maxRecDepth 100000
set_option maxHeartbeats 2000000
/-! Eng 39: list comprehensions whose element or test may raise -/
namespace Eng
open PySem PySem.Spec PyProof.Rows L2
section
variable {X : Cx}
/-- a block's context whose exceptions go to xe -/
abbrev outC (X : Cx) (s : Shared) (H : Hp) (scope : Scope) (C : Addr) (cl : List (Str × Addr)) (fp : List Addr) (pn : List (Addr × Obj)) (xe : Value → Shared → Prop) : Cx := (X.blk s H scope (compEnvC scope cl C X.env) fp).tr pn xe
abbrev xkW (E : XK) : WX := fun c d _ H => E c d H
def tLcE (W : WX) (wi : TI) (g : TG) (tt : XK → TT) (te : XK → TE) (vs : List Nat) : TE := fun σ H Q => tLc wi g (tt (WE W σ)) (te (WE W σ)) vs σ H Q
theorem lcE_core {W : WX} {pins : List (Addr × Obj)} {s : Shared} {σ : L2.St} {H : Hp} {Q : VK} {use : Option (Value → Sem Unit)} {Qf : Value → Shared → Prop} {pos2 : Pos} {elt tg iter : Expr} {ifs : List Expr} {scope : Scope} {own : List (Str × Nat)} {pos : Pos} {wi : TI} {g : TG} {tt : XK → TT} {te : XK → TE} (hc : X.calm = true) (hN : X.N.Nodup) (hs : X.stack = X.env :: X.outer) (hf : X.env.frame = some X.env.locals) (tk : Takes X W)
    (hi : PI X tg iter wi) (ok : BlkOk X.N X.env.scope scope own)
    (hg : ∀ s H C cl fp, PG (X.blk s H scope (compEnvC scope cl C X.env) fp) tg g)
    (ht : ∀ s H C cl fp pn xe E, Takes (outC X s H scope C cl fp pn xe) (xkW E) → PTs (outC X s H scope C cl fp pn xe) ifs (tt E))
    (he : ∀ s H C cl fp pn xe E, Takes (outC X s H scope C cl fp pn xe) (xkW E) → PE (outC X s H scope C cl fp pn xe) elt (te E))
    (hset : ∀ x, foldedSetIterable iter X.env x = pure x) (I : Inv X pins σ H s) (rd : tLcE W wi g tt te (own.map (·.2)) σ H Q)
    (done : ∀ L ce s' m H', Inv X pins σ H' s' → Q (.ref L) H' → s'.heap.Ns ce.locals m → FpOk X pins H' ce.locals → compEnds (model X.prog X.w) X.A X.xe use Qf (.ref L) ce (.ok .next) s') :
    wpAny (model X.prog X.w) X.A (comprehension (.ListComp elt [⟨tg, iter, ifs, 0⟩] scope pos) scope X.env pos2 (newList []) false (eval iter X.env) use) Qf X.xe s := by
  have fre : ∀ y ∈ scope.names, y.2 = .free → ∃ c, X.env.cells.lookup y.1 = some c := fun y hy e =>
    (ok.free y hy e).elim (fun k => I.ok.has _ (.inl k)) fun k => I.ok.has _ (.inr k)
  refine comprehension_at (use := use) rfl hset (closure_ok fre) ok.kind (fun y hy e => by rw [ok.uniq y hy, e]) ?_
  refine thn (hi.run pins s σ H _ I rd) fun xv s1 got => thn got fun itv s2 h2 => ?_
  obtain ⟨it, fp, tn, J, H2, rfl, I2, T, t2, f2, q⟩ := h2
  refine wpAny_newObj_type (newEnv_comp ?_) (by show 0 ≤ sizeLine; decide)
  obtain ⟨L, hL⟩ : ∃ L, L = s2.heap.objs.size := ⟨_, rfl⟩
  rw [← hL]
  have nL : H2 L = none := I2.hok.fresh (Nat.le_of_eq hL.symm)
  obtain ⟨V, ⟨m0, v0⟩, trn⟩ := q L nL
  obtain ⟨s3, hs3⟩ : ∃ s3 : Shared, s3 = { s2 with heap := s2.heap.push { cls := .type "list", data := .seq ([] : List Value).toArray } } := ⟨_, rfl⟩
  have hp3 : s3.heap = s2.heap.push { cls := .type "list", data := .seq ([] : List Value).toArray } := by rw [hs3]
  obtain ⟨H3, hH3⟩ : ∃ H3, H3 = upd H2 L (.lst []) := ⟨_, rfl⟩
  have I3 : Inv X pins σ H3 s3 := by
    rw [hs3, hH3]
    exact I2.laid (t' := s2.toks) (fun b o e => Heap.get?_push_of_some _ e) (Nat.le_of_eq hL.symm) ⟨Nat.zero_le _, [], 0, .nil, by rw [hL]; exact Heap.get?_push_size _ rfl⟩
  have f3 : ∀ b ∈ fp, FpOk X pins H3 b ∧ b < s3.heap.objs.size := fun b hb => by
    obtain ⟨o, e, _⟩ := T.obj _ _ t2 b hb
    have lt := Heap.lt_size e
    have ne : b ≠ L := fun z => by rw [z, hL] at lt; exact Nat.lt_irrefl _ lt
    refine ⟨⟨?_, (f2 b hb).2⟩, by rw [hp3, Heap.size_push]; exact Nat.lt_succ_of_lt lt⟩
    rw [hH3, upd_ne ne]
    exact (f2 b hb).1
  have t3 : tn 0 s3.heap := T.keep _ _ _ t2 fun b _ o e => by
    rw [hp3]
    exact Heap.get?_push_of_some _ e
  rw [← hH3] at v0
  rw [← hs3]
  have I4 := block_start I3 ok hN f3
  obtain ⟨cl, hcl⟩ : ∃ cl, cl = cellsFrom (s3.heap.objs.size + 1) scope.names (cloFrom X.env.cells scope.names []) := ⟨_, rfl⟩
  rw [← hcl] at I4
  obtain ⟨ce, hce⟩ : ∃ ce, ce = compEnvC scope cl s3.heap.objs.size X.env := ⟨_, rfl⟩
  have pg := hg s3 H3 s3.heap.objs.size cl fp
  have pt := ht s3 H3 s3.heap.objs.size cl fp
  have pe := he s3 H3 s3.heap.objs.size cl fp
  unfold outC at pt pe
  rw [← hce] at I4 pg pt pe
  obtain ⟨s4, hs4⟩ : ∃ s4 : Shared, s4 = { s3 with heap := pushCells (s3.heap.push { cls := .type "dict", data := .dict #[] }) scope.names } := ⟨_, rfl⟩
  rw [← hs4] at I4
  have cL : ce.locals = s3.heap.objs.size := by rw [hce]; rfl
  have cF : ce.frame = X.env.frame := by rw [hce]; rfl
  have goal' : codeAny (model X.prog X.w) X.A (.compStart (.ListComp elt [⟨tg, iter, ifs, 0⟩] scope pos) 0 (.ref it) (.ref L) ce) (compEnds (model X.prog X.w) X.A X.xe use Qf (.ref L) ce) s4 := by
    have t4 : tn 0 s4.heap := T.keep _ _ _ t3 fun b _ o e => by
      rw [hs4]
      exact pushCells_keeps _ _ _ _ (Heap.get?_push_of_some _ e)
    have stat : ∀ {τ : L2.St} {H' : Hp} {s' : Shared}, Inv (X.blk s3 H3 scope ce fp) [] τ H' s' → (∀ b ∈ fp, H' b = none) → ∀ b ∈ fp, FpOk (X.blk s3 H3 scope ce fp) [] H' b := fun {τ H' s'} I' hn b hb =>
      ⟨hn b hb, (I'.ok.exf b hb).1, I'.ok.exfs b hb, .inl hb, (I'.ok.exf b hb).2 |> fun z x c e => z x c e, fun p hp => by cases hp⟩
    have out : ∀ u s', XE (X.blk s3 H3 scope ce fp) (xkW (WE W σ)) u s' → notedBy (model X.prog X.w) X.A ce (fun e s'' => compEnds (model X.prog X.w) X.A X.xe use Qf (.ref L) ce (.error e) s'') u s' := fun u s' x => by
      cases use <;> exact blk_out (W := W) hs hf tk I3 cF cL (fun b hb => (f3 b hb).1) x
    have loop : codeAny (model X.prog X.w) X.A (.compLoop (.ListComp elt [⟨tg, iter, ifs, 0⟩] scope pos) 0 (.ref it) (.ref L) ce) (compEnds (model X.prog X.w) X.A X.xe use Qf (.ref L) ce) s4 := by
      refine compLoop_any (fun n s' => ∃ i H', Inv (X.blk s3 H3 scope ce fp) [] (L2.wipe σ (own.map (·.2))) H' s' ∧ tn i s'.heap ∧ (∀ b ∈ fp, H' b = none) ∧ V i n H') ?_ m0 ⟨0, H3, I4, t4, fun b hb => (f3 b hb).1.1, v0⟩
      rintro n s5 ⟨i, H5, I5, t5, n5, v5⟩
      rcases trn i n H5 v5 with ⟨stop, fin⟩ | ⟨go, Nx, hNx, step⟩
      · refine thnF (T.done (X.blk s3 H3 scope ce fp) rfl rfl rfl hc i [] s5 _ H5 (fun _ _ => False) I5 (stat I5 n5) t5 stop) fun r s6 ⟨hr, I6⟩ => ?_
        subst hr
        have I7 : Inv X pins σ H5 s6 := I3.call' (ch := fp) I6.os I6.base I6.hok I6.bare fun b hb =>
          ⟨(f3 b hb).1.2.2.2.1, (f3 b hb).1.2.1, (f3 b hb).1.2.2.2.2.1, (f3 b hb).1.2.2.2.2.2⟩
        have nC : H5 ce.locals = none := I6.free
        obtain ⟨m, hn, _⟩ := I6.loc
        have fo := I3.fpOk (b := ce.locals) (by rw [cL]; exact Nat.le_refl _) nC
        exact done L ce s6 m H5 I7 fin hn fo
      · refine thnF (T.item (X.blk s3 H3 scope ce fp) rfl rfl rfl hc i [] s5 _ H5 (fun _ _ => False) I5 (stat I5 n5) t5 go) fun r s6 ⟨u, hr, h6⟩ => ?_
        subst hr
        refine thnF h6 fun _ s7 ⟨x, H7, I7, r7, y7, t7, n7⟩ => ?_
        have P7 := I7.pinned (stat I7 n7) (T.obj _ _ t7)
        refine thnF (pg.run _ s7 _ H7 x u _ P7 r7 (step x H7 y7)) fun _ s8 ⟨τ, H8, I8, w8, q8⟩ => ?_
        have back : ∀ {s' : Shared} {H' : Hp}, Inv (X.blk s3 H3 scope ce fp) ([] ++ pinsAt fp s7.heap) τ H' s' → Nx H' → ∃ m, m < n ∧ ∃ i H', Inv (X.blk s3 H3 scope ce fp) [] (L2.wipe σ (own.map (·.2))) H' s' ∧ tn i s'.heap ∧ (∀ b ∈ fp, H' b = none) ∧ V i m H' := fun {s' H'} I' nx => by
          obtain ⟨m', lt, v'⟩ := hNx H' nx
          have pin : ∀ b ∈ fp, ∀ o, s7.heap.get? b = some o → s'.heap.get? b = some o ∧ H' b = none := fun b hb o e =>
            have z := I'.pin (b, o) (List.mem_append_right _ (List.mem_append_right _ (mem_pinsAt hb e)))
            ⟨z.1, z.2.1⟩
          refine ⟨m', lt, i + 1, H', (I'.unpinned (pins := [])).weak (by rw [← w8, L2.wipe_length]) (fun j v e => by rw [← w8] at e; exact (wipe_some e).1), T.keep _ _ _ t7 fun b hb o e => (pin b hb o e).1, fun b hb => ?_, v'⟩
          obtain ⟨o, e, _⟩ := T.obj _ _ t7 b hb
          exact (pin b hb o e).2
        have tko : ∀ pn xe, (∀ u s', XE (X.blk s3 H3 scope ce fp) (xkW (WE W σ)) u s' → xe u s') → Takes ((X.blk s3 H3 scope ce fp).tr (([] : List (Addr × Obj)) ++ pn) xe) (xkW (WE W σ)) := fun pn xe k u s' ⟨a, B, sI, pins', σ', H', cls, d, e, I', nb, up, sky, na, os, ag, w⟩ =>
          k u s' ⟨a, B, sI, pn, σ', H', cls, d, e, Inv.ofTry (X := X.blk s3 H3 scope ce fp) (pins := pn) I' I4.ok, nb, up, sky, na, os, ag, w⟩
        have run1 := (pt _ _ (WE W σ) (tko ([] ++ pinsAt fp s7.heap) _ out)).run [] s8 τ H8 _ (I8.toTry _) q8
        refine wpAny_mono run1 (fun b s9 ⟨H9, I9', q9⟩ => ?_) fun _ _ z => z
        have I9 : Inv (X.blk s3 H3 scope ce fp) ([] ++ pinsAt fp s7.heap) τ H9 s9 := Inv.ofTry (X := X.blk s3 H3 scope ce fp) (pins := [] ++ pinsAt fp s7.heap) I9' I4.ok
        cases b with
        | false =>
          simp only [Bool.false_eq_true, if_false] at q9 ⊢
          exact back I9 q9
        | true =>
          simp only [if_true] at q9 ⊢
          have run2 := (pe _ _ (WE W σ) (tko ([] ++ pinsAt fp s7.heap) _ out)).run [] s9 τ H9 _ (I9.toTry _) q9
          refine wpAny_mono run2 (fun z s10 ⟨yv, H10, I10', r10, acc, hD, hz, nx⟩ => ?_) fun _ _ z => z
          have I10 : Inv (X.blk s3 H3 scope ce fp) ([] ++ pinsAt fp s7.heap) τ H10 s10 := Inv.ofTry (X := X.blk s3 H3 scope ce fp) (pins := [] ++ pinsAt fp s7.heap) I10' I4.ok
          exact app_ok (X := X.blk s3 H3 scope ce fp) I10 hD hz r10 fun s11 I11 => back I11 nx
    exact codeAny_compStart_list loop (T.self X.A 0 _ _ _ t4 loop)
  rw [hs4, hce, hcl] at goal'
  rw [hce, hcl] at *
  exact goal'
theorem pe_lcE {W : WX} {elt tg iter : Expr} {ifs : List Expr} {scope : Scope} {own : List (Str × Nat)} {pos : Pos} {wi : TI} {g : TG} {tt : XK → TT} {te : XK → TE} (hc : X.calm = true) (hN : X.N.Nodup) (hs : X.stack = X.env :: X.outer) (hf : X.env.frame = some X.env.locals) (tk : Takes X W)
    (hi : PI X tg iter wi) (ok : BlkOk X.N X.env.scope scope own)
    (hg : ∀ s H C cl fp, PG (X.blk s H scope (compEnvC scope cl C X.env) fp) tg g)
    (ht : ∀ s H C cl fp pn xe E, Takes (outC X s H scope C cl fp pn xe) (xkW E) → PTs (outC X s H scope C cl fp pn xe) ifs (tt E))
    (he : ∀ s H C cl fp pn xe E, Takes (outC X s H scope C cl fp pn xe) (xkW E) → PE (outC X s H scope C cl fp pn xe) elt (te E))
    (hset : ∀ x, foldedSetIterable iter X.env x = pure x) : PE X (.ListComp elt [⟨tg, iter, ifs, 0⟩] scope pos) (tLcE W wi g tt te (own.map (·.2))) := by
  refine ⟨fun pins s σ H Q I rd => ?_⟩
  rw [eval_ListComp]
  refine lcE_core hc hN hs hf tk hi ok hg ht he hset I rd fun L ce s' m H' I' q hn f => ⟨m, hn, fun g sb => ⟨.ref L, H', ?_, rfl, q⟩⟩
  obtain ⟨k0, k1, k2, k3, k4, k5⟩ := f
  exact I'.turned (t' := s'.toks) (fun b o hb e => (sb.2 b hb).trans e) k0 k1 k3 k4 k5
/-- y = [..] on one line -/
theorem ps_setLcE {W : WX} {i : Nat} {y : Str} {py : Pos} {elt tg iter : Expr} {ifs : List Expr} {scope : Scope} {own : List (Str × Nat)} {pos spos : Pos} {wi : TI} {g : TG} {tt : XK → TT} {te : XK → TE} (hc : X.calm = true) (hN : X.N.Nodup) (hy : X.N[i]? = some y) (hyl : X.env.scope.names.lookup y = some .local)
    (hsw : swapsWith (.ListComp elt [⟨tg, iter, ifs, 0⟩] scope pos) (some (.Name y py)) spos.line X.env = pure true) (hs : X.stack = X.env :: X.outer) (hf : X.env.frame = some X.env.locals) (tk : Takes X W)
    (hi : PI X tg iter wi) (ok : BlkOk X.N X.env.scope scope own)
    (hg : ∀ s H C cl fp, PG (X.blk s H scope (compEnvC scope cl C X.env) fp) tg g)
    (ht : ∀ s H C cl fp pn xe E, Takes (outC X s H scope C cl fp pn xe) (xkW E) → PTs (outC X s H scope C cl fp pn xe) ifs (tt E))
    (he : ∀ s H C cl fp pn xe E, Takes (outC X s H scope C cl fp pn xe) (xkW E) → PE (outC X s H scope C cl fp pn xe) elt (te E))
    (hset : ∀ x, foldedSetIterable iter X.env x = pure x) : PS X (.Assign [.Name y py] (.ListComp elt [⟨tg, iter, ifs, 0⟩] scope pos) spos) (tAsg (tLcE W wi g tt te (own.map (·.2))) (gName i)) := by
  refine ⟨fun pins s σ H D I rd => ?_⟩
  have rd : tLcE W wi g tt te (own.map (·.2)) σ H (fun x H1 => gName i x σ H1 D.nx) := rd
  rw [exec_Assign_Name_used _ _ _ _ hsw]
  refine wpAny_bind (wpAny_standAt (wpAny_bind ?_))
  show wpAny _ X.A (comprehension (.ListComp elt [⟨tg, iter, ifs, 0⟩] scope pos) scope X.env (firstIterPos [⟨tg, iter, ifs, 0⟩] pos) (newList []) false (eval iter X.env) (some (assign (.Name y py) X.env)) >>= fun _ => pure ()) _ _ s
  refine wpAny_bind (thn (lcE_core (Qf := fun _ s' => SP X pins D .next s') hc hN hs hf tk hi ok hg ht he hset I rd fun L ce s' m H' I' q hn f => ?_) fun _ s' hq => wpAny_pure (wpAny_pure hq))
  show wpAny _ _ (assign (.Name y py) X.env (.ref L)) _ _ _
  obtain ⟨k0, k1, k2, k3, k4, k5⟩ := f
  refine wpAny_assign_Name (store_ok2 (v := V.ref L) I' hN hy (.inl hyl) rfl (fun s2 I2 ⟨a, sb, ha⟩ => ?_) (.inr hyl))
  have ne : ce.locals ≠ a := by
    rcases ha with z | z
    · rw [z]
      exact k1
    · exact fun e => k4 y a z e.symm
  refine ⟨m, hn.sameBut sb ne, fun g3 sb3 => ⟨_, H', ?_, q⟩⟩
  exact I2.turned (t' := s2.toks) (fun b o hb e => (sb3.2 b hb).trans e) k0 k1 k3 k4 k5
end
end Eng
set_option Elab.async false
set_option linter.all false
set_option maxRecDepth 100000
set_option maxHeartbeats 2000000
/-! Eng 40: such a comprehension by the evaluator; a call's value to several names -/
namespace Eng
open PySem PySem.Spec PyProof.Rows L2
/-- what is raised goes on as it would from the def's own slots -/
def eW (W : WW) (E : XK) : WW := ⟨xkW E, W.x, W.B, false⟩
section
variable {α β γ δ : Type} {K : PySem.W.Frag} {W : WW} {σ σ2 : L2.St} {F0 H0 F H : Hp} {T0 T : List Addr} {R : RR α β} {R1 : RR γ δ} {Q : β → Hp → Prop}
theorem Post.out {o : Out γ} {f : γ → Store → Out α} (x : Ext F0 T0 H0 F T H) (h : Post K W σ F0 T0 H0 R (o.bnd f) Q) :
    Post K (eW W (WE W σ)) σ2 F T H R1 o fun b H1 => ∃ F1 T1 st1 a, Ext F T H F1 T1 H1 ∧ WF K F1 T1 st1 H1 ∧ R1 H F1 T1 H1 a b ∧ Post K W σ F0 T0 H0 R (f a st1) Q := by
  cases o with
  | bad => exact h
  | ok a st => exact fun b F' T' H' y w r => ⟨F', T', st, a, y, w, r, h⟩
  | ex c ks ds st => exact fun dx F' T' H' y w r => h dx F' T' H' (x.trans y) w r
end
section
variable {X : Cx} {W : WW} {C : Calls}
theorem lcx_rd {elt : E} {tg : Tg} {it : It} {ifs : Op} {ws : List Nat} (hw : ∀ i ∈ ixT tg, i ∈ ws) {σ : L2.St} {H : Hp} {Q : VK} (h : tDr X.K W C (.lcx elt tg it ifs ws) σ H Q) :
    tLc (tI X.K W C it) (gT X.K tg) (tIf X.K (eW W (WE W σ)) C ifs) (tE X.K (eW W (WE W σ)) C elt) ws σ H Q := by
  obtain ⟨F, T, st, env, w, eo, p⟩ := h
  have p : Post X.K W σ F T H (rD X.K) ((evIt C env it st).bnd fun ds st => (lcGoX (fun d st => (ofO (bind1 tg d (wipeE env ws)) st).bnd fun env' st => (evIf C env' ifs st).bnd fun r st => (match r with
      | true => (evE C env' elt st).bnd fun y st => .ok (some y) st
      | false => .ok none st)) ds st).bnd fun ys st => .ok (.lst ys) st) Q := p
  refine ⟨F, T, st, env, w, eo, (Post.bnd (R1 := rIt X.K) sh_D p).mono fun J H1 ⟨F1, T1, st1, ds, x1, w1, ⟨gv, hlen⟩, p1⟩ => ?_⟩
  generalize hs : (fun d st => (ofO (bind1 tg d (wipeE env ws)) st).bnd fun env' st => (evIf C env' ifs st).bnd fun r st => (match r with
      | true => (evE C env' elt st).bnd fun y st => .ok (some y) st
      | false => .ok none st)) = step at p1
  have eo1 := eo.ext x1
  intro L hD
  obtain ⟨fD, tD⟩ := w1.free hD
  refine ⟨fun i m H2 => m = ds.length - i ∧ i ≤ ds.length ∧ ∃ F2 T2 st2 acc accD, Ext F1 T1 H1 F2 T2 H2 ∧ WF X.K F2 T2 st2 H2 ∧ H2 L = some (.lst acc) ∧ F2 L = none ∧ L ∉ T2 ∧ Reps X.K F2 T2 acc accD ∧ acc.length ≤ i ∧
      Post X.K W σ F1 T1 H1 (rD X.K) ((lcGoX step (ds.drop i) st2).bnd fun ys st => .ok (.lst (accD ++ ys)) st) Q, ⟨ds.length, rfl, Nat.zero_le _, F1, T1, st1, [], [], Ext.newO hD, w1.newO hD, upd_same, fD, tD, .nil, Nat.le_refl _, ?_⟩, ?_⟩
  · exact p1
  · rintro i m H2 ⟨em, le, F2, T2, st2, acc, accD, x2, w2, h2, f2, t2, r2, l2, p2⟩
    have g := gv F2 T2 st2 H2 x2 w2 i
    by_cases e : i = ds.length
    · subst e
      rw [List.drop_length] at p2
      have p2 : Post X.K W σ F1 T1 H1 (rD X.K) (.ok (.lst (accD ++ [])) st2) Q := p2
      rw [List.append_nil] at p2
      exact .inl ⟨g.2 rfl, p2 _ F2 T2 H2 x2 w2 (rD_c rfl ⟨L, rfl, ⟨acc, h2, r2⟩, f2, t2, hD⟩)⟩
    · have lt : i < ds.length := by omega
      obtain ⟨d, hd⟩ : ∃ d, ds[i]? = some d := ⟨_, List.getElem?_eq_getElem lt⟩
      obtain ⟨go, yl⟩ := g.1 d hd
      have ed : ds.drop i = d :: ds.drop (i + 1) := by
        have := List.getElem?_eq_some_iff.mp hd
        obtain ⟨l, e⟩ := this
        rw [← e]
        exact List.drop_eq_getElem_cons l
      rw [ed] at p2
      have p2 : Post X.K W σ F1 T1 H1 (rD X.K) (((step d st2).bnd fun r st1 => (lcGoX step (ds.drop (i + 1)) st1).bnd fun acc st2 => .ok (match r with | some y => y :: acc | none => acc) st2).bnd fun ys st => .ok (.lst (accD ++ ys)) st) Q := p2
      rw [Out.bnd_assoc] at p2
      refine .inr ⟨go, fun H' => ∃ m', m' < m ∧ (m' = ds.length - (i + 1) ∧ i + 1 ≤ ds.length ∧ ∃ F2 T2 st2 acc accD, Ext F1 T1 H1 F2 T2 H' ∧ WF X.K F2 T2 st2 H' ∧ H' L = some (.lst acc) ∧ F2 L = none ∧ L ∉ T2 ∧ Reps X.K F2 T2 acc accD ∧ acc.length ≤ i + 1 ∧
          Post X.K W σ F1 T1 H1 (rD X.K) ((lcGoX step (ds.drop (i + 1)) st2).bnd fun ys st => .ok (.lst (accD ++ ys)) st) Q), fun H' h => h, fun x H3 hy => ?_⟩
      obtain ⟨F3, x3, w3, r3⟩ := yl x H3 hy
      have x13 := x2.trans x3
      have eo3 := (eo1.ext x13).wipe ws
      have e1 : step d st2 = (ofO (bind1 tg d (wipeE env ws)) st2).bnd fun env' st => (evIf C env' ifs st).bnd fun r st => (match r with
          | true => (evE C env' elt st).bnd fun y st => .ok (some y) st
          | false => .ok none st) := by rw [← hs]
      rw [e1, Out.bnd_assoc] at p2
      have p3 := p2
      cases eb : bind1 tg d (wipeE env ws) with
      | none => rw [eb] at p3; exact p3.elim
      | some env' =>
        rw [eb] at p3
        have p3 : Post X.K W σ F1 T1 H1 (rD X.K) (((evIf C env' ifs st2).bnd fun r st => ((match r with
          | true => (evE C env' elt st).bnd fun y st => .ok (some y) st
          | false => .ok none st) : Out (Option D))).bnd fun r st1 => ((lcGoX step (ds.drop (i + 1)) st1).bnd fun acc st2 => .ok (match r with | some y => y :: acc | none => acc) st2).bnd fun ys st => .ok (.lst (accD ++ ys)) st) Q := p3
        rw [Out.bnd_assoc] at p3
        refine bind_ok w3 r3 eo3 eb fun σ2 eo4 ag => ⟨(ag.wipe hw).trans ((agr_wipe σ ws).wipe fun _ h => h), ?_⟩
        refine ⟨F3, T2, st2, env', w3, eo4, (Post.out (R1 := rEq) x13 p3).mono fun b H4 ⟨F4, T4, st4, b', x4, w4, rb, p4⟩ => ?_⟩
        have rb : b' = b := rb
        subst rb
        have d4 : H4 L = some (.lst acc) := x4.keep L _ (x3.keep L _ h2 t2) (by exact t2)
        have o4 := (x3.trans x4).own (d := .lst accD) ⟨acc, h2, r2⟩ f2 t2
        cases b' with
        | false =>
          simp only [Bool.false_eq_true, if_false]
          refine ⟨ds.length - (i + 1), by omega, rfl, by omega, F4, T4, st4, acc, accD, x13.trans x4, w4, d4, o4.2.1, o4.2.2, r2.mono (x3.trans x4).fr (x3.trans x4).pre, by omega, ?_⟩
          have p4 : Post X.K W σ F1 T1 H1 (rD X.K) (((lcGoX step (ds.drop (i + 1)) st4).bnd fun acc st2 => .ok acc st2).bnd fun ys st => .ok (.lst (accD ++ ys)) st) Q := p4
          rw [Out.bnd_assoc] at p4
          exact p4
        | true =>
          simp only [if_true]
          have p4 : Post X.K W σ F1 T1 H1 (rD X.K) (((evE C env' elt st4).bnd fun y st => (.ok (some y) st : Out (Option D))).bnd fun r st1 => ((lcGoX step (ds.drop (i + 1)) st1).bnd fun acc st2 => .ok (match r with | some y => y :: acc | none => acc) st2).bnd fun ys st => .ok (.lst (accD ++ ys)) st) Q := p4
          rw [Out.bnd_assoc] at p4
          refine ⟨F4, T4, st4, env', w4, eo4.ext x4, (Post.out (R1 := rV X.K) (x13.trans x4) p4).mono fun y H5 ⟨F5, T5, st5, dy, x5, w5, ry, p5⟩ => ?_⟩
          have ry : Rep X.K F5 T5 y dy := ry
          have o5 := ((x3.trans x4).trans x5).own (d := .lst accD) ⟨acc, h2, r2⟩ f2 t2
          have d5 : H5 L = some (.lst acc) := x5.keep L _ d4 o4.2.2
          refine ⟨acc, d5, by omega, ds.length - (i + 1), by omega, rfl, by omega, F5, T5, st5, acc ++ [y], accD ++ [dy], ext_upd ((x13.trans x4).trans x5) hD, wf_upd w5 o5.2.1 o5.2.2, upd_same, o5.2.1, o5.2.2, (r2.mono ((x3.trans x4).trans x5).fr ((x3.trans x4).trans x5).pre).append (.one ry), by rw [List.length_append]; exact Nat.succ_le_succ l2, ?_⟩
          have p5 : Post X.K W σ F1 T1 H1 (rD X.K) (((lcGoX step (ds.drop (i + 1)) st5).bnd fun acc st2 => .ok (dy :: acc) st2).bnd fun ys st => .ok (.lst (accD ++ ys)) st) Q := p5
          rw [Out.bnd_assoc] at p5
          have e5 : (fun (ys : List D) (st : Store) => (Out.ok (.lst ((accD ++ [dy]) ++ ys)) st : Out D)) = fun ys st => (Out.ok (dy :: ys) st).bnd fun ys st => .ok (.lst (accD ++ ys)) st := by
            funext ys st
            show Out.ok (D.lst ((accD ++ [dy]) ++ ys)) st = Out.ok (.lst (accD ++ (dy :: ys))) st
            rw [List.append_assoc]
            rfl
          rw [e5]
          exact p5
/-- the parts of its block -/
structure LcOkX (X : Cx) (W : WW) (C : Calls) (tg : Expr) (ifs : List Expr) (elt : Expr) (scope : Scope) (tgI : Tg) (ifI : Op) (eI : E) : Prop where
  g : ∀ (s : Shared) (H : Hp) (c : Addr) (cl : List (Str × Addr)) (fp : List Addr), PG (X.blk s H scope (compEnvC scope cl c X.env) fp) tg (gT X.K tgI)
  t : ∀ (s : Shared) (H : Hp) (c : Addr) (cl : List (Str × Addr)) (fp : List Addr) (pn : List (Addr × Obj)) (xe : Value → Shared → Prop) (E : XK), Takes (outC X s H scope c cl fp pn xe) (eW W E) → PTs (outC X s H scope c cl fp pn xe) ifs (tIf X.K (eW W E) C ifI)
  e : ∀ (s : Shared) (H : Hp) (c : Addr) (cl : List (Str × Addr)) (fp : List Addr) (pn : List (Addr × Obj)) (xe : Value → Shared → Prop) (E : XK), Takes (outC X s H scope c cl fp pn xe) (eW W E) → PE (outC X s H scope c cl fp pn xe) elt (tE X.K (eW W E) C eI)
theorem s_lcx {elt tg iter : Expr} {ifs : List Expr} {scope : Scope} {own : List (Str × Nat)} {pos : Pos} {tgI : Tg} {ifI : Op} {eI : E} {it : It} {ws : List Nat} (hc : X.calm = true) (hN : X.N.Nodup) (st : X.stack = X.env :: X.outer) (fr : X.env.frame = some X.env.locals) (tk : Takes X W)
    (hi : PI X tg iter (tI X.K W C it)) (ok : blkC X.N X.env.scope scope own = true) (hw : own.map (·.2) = ws) (hws : ∀ i ∈ ixT tgI, i ∈ ws) (l : LcOkX X W C tg ifs elt scope tgI ifI eI) (hs : ∀ x, foldedSetIterable iter X.env x = pure x) :
    PE X (.ListComp elt [⟨tg, iter, ifs, 0⟩] scope pos) (tDr X.K W C (.lcx eI tgI it ifI ws)) := by
  subst hw
  exact impE (pe_lcE (W := W) (tt := fun E => tIf X.K (eW W E) C ifI) (te := fun E => tE X.K (eW W E) C eI) hc hN st fr tk hi (blkOk_by ok) l.g l.t l.e hs) fun σ H Q h => lcx_rd hws h
theorem ss_setLcx {fz : List Nat} {i : Nat} {y : Str} {py : Pos} {elt tg iter : Expr} {ifs : List Expr} {scope : Scope} {own : List (Str × Nat)} {pos spos : Pos} {tgI : Tg} {ifI : Op} {eI : E} {it : It} {ws : List Nat} (hz : W.sv = false ∨ fz = []) (hc : X.calm = true) (hN : X.N.Nodup) (hy : X.N[i]? = some y) (hyl : X.env.scope.names.lookup y = some .local)
    (hsw : swapsWith (.ListComp elt [⟨tg, iter, ifs, 0⟩] scope pos) (some (.Name y py)) spos.line X.env = pure true) (st : X.stack = X.env :: X.outer) (fr : X.env.frame = some X.env.locals) (tk : Takes X W) (hi : PI X tg iter (tI X.K W C it)) (ok : blkC X.N X.env.scope scope own = true)
    (hw : own.map (·.2) = ws) (hws : ∀ i ∈ ixT tgI, i ∈ ws) (l : LcOkX X W C tg ifs elt scope tgI ifI eI) (hs : ∀ x, foldedSetIterable iter X.env x = pure x) :
    PS X (.Assign [.Name y py] (.ListComp elt [⟨tg, iter, ifs, 0⟩] scope pos) spos) (tSt X.K W C (.asg fz (.v i) (.lcx eI tgI it ifI ws))) := by
  subst hw
  refine impS (ps_setLcE (W := W) (tt := fun E => tIf X.K (eW W E) C ifI) (te := fun E => tE X.K (eW W E) C eI) hc hN hy hyl hsw st fr tk hi (blkOk_by ok) l.g l.t l.e hs) fun D σ H h => ?_
  exact lcx_rd hws (E_to_D (asg_rd hz h))
end
end Eng
set_option Elab.async false
set_option linter.all false
set_option maxRecDepth 100000
set_option maxHeartbeats 0
namespace Eng
open PySem PySem.Spec PyProof.Rows L2

def top (i : Nat) : Stmt := PySem.Challenge.pw_pawnkept_k09_whole_sales.main.body.getD i (.Pass ⟨0, 0, 0, 0⟩)
def sub (s : Stmt) (j : Nat) : Stmt := match s with | .ClassDef _ _ _ b _ _ _ _ _ _ _ => b.getD j (.Pass ⟨0, 0, 0, 0⟩) | s => s
abbrev st0 : Stmt := top 10
abbrev N0 : List Str := ["value"]
def ir0 : Ss := (.cons (.ret [] (.and (.cons (.isi (.var 0) ["int"]) (.cons (.not (.isi (.var 0) ["bool"])) .nil)))) .nil)
abbrev st1 : Stmt := top 11
abbrev N1 : List Str := ["value", "least", "most"]
def ir1 : Ss := (.cons (.ret [] (.and (.cons (.call 0 (.cons (.var 0) .nil)) (.cons (.cmp2 .LtE .LtE (.var 1) (.var 0) (.var 2)) .nil)))) .nil)
abbrev st2 : Stmt := top 12
abbrev N2 : List Str := ["value"]
def ir2 : Ss := (.cons (.ret [] (.isi (.var 0) ["list","tuple"])) .nil)
abbrev st3 : Stmt := top 13
abbrev N3 : List Str := ["value", "sign"]
def ir3 : Ss := (.cons (.ifs (.or (.cons (.not (.isi (.var 0) ["str"])) (.cons (.not (.cmp2 .LtE .LtE (.c (.int 1)) (.bi "len" (.cons (.var 0) .nil)) (.gl "LONGEST_NAME" (.int 12)))) (.cons (.cmp .NotIn (.ix (.var 0) (.c (.int 0))) (.gl "LETTERS" (.str "abcdefghijklmnopqrstuvwxyz"))) .nil)))) (.cons (.ret [] (.c (.bl false))) .nil) .nil) (.cons (.ret [] (.bi "all" (.cons (.lc (.or (.cons (.cmp .In (.var 1) (.gl "LETTERS" (.str "abcdefghijklmnopqrstuvwxyz"))) (.cons (.cmp .In (.var 1) (.gl "FIGURES" (.str "0123456789"))) .nil))) (.v 1) (.seq (.var 0)) .no [1]) .nil))) .nil))
abbrev st4 : Stmt := top 14
abbrev N4 : List Str := ["value", "part"]
def ir4 : Ss := (.cons (.ifs (.isi (.var 0) ["list","tuple"]) (.cons (.ret [] (.bi "tuple" (.cons (.lc (.call 4 (.cons (.var 1) .nil)) (.v 1) (.seq (.var 0)) .no [1]) .nil))) .nil) .nil) (.cons (.ret [] (.var 0)) .nil))
abbrev st5 : Stmt := top 15
abbrev N5 : List Str := ["value", "is_item", "most", "index", "item"]
def ir5 : Ss := (.cons (.ifs (.not (.call 2 (.cons (.var 0) .nil))) (.cons (.rais "BadItem" ["index"] (.cons (.c .non) .nil)) .nil) .nil) (.cons (.for_ [] (.t (.cons (.v 3) (.cons (.v 4) .nil))) (.enum (.var 0)) (.cons (.ifs (.not (.callv 1 [("is_bid",6)] (.cons (.var 4) .nil))) (.cons (.rais "BadItem" ["index"] (.cons (.var 3) .nil)) .nil) .nil) .nil)) (.cons (.ifs (.cmp .Gt (.bi "len" (.cons (.var 0) .nil)) (.var 2)) (.cons (.rais "TooMany" ["limit"] (.cons (.var 2) .nil)) .nil) .nil) (.cons (.ret [] (.call 4 (.cons (.var 0) .nil))) .nil))))
abbrev st6 : Stmt := top 19
abbrev N6 : List Str := ["value"]
def ir6 : Ss := (.cons (.ret [] (.and (.cons (.call 2 (.cons (.var 0) .nil)) (.cons (.cmp .Eq (.bi "len" (.cons (.var 0) .nil)) (.c (.int 2))) (.cons (.call 3 (.cons (.ix (.var 0) (.c (.int 0))) .nil)) (.cons (.call 1 (.cons (.ix (.var 0) (.c (.int 1))) (.cons (.c (.int 0)) (.cons (.gl "MOST_BID" (.int 9999)) .nil)))) .nil)))))) .nil)
abbrev st7 : Stmt := sub (top 20) 0
abbrev N7 : List Str := ["self", "bids", "least", "at", "bid", "other"]
def ir7 : Ss := (.cons (.fld [] 0 "Sale" "bids" (.call 5 (.cons (.var 1) (.cons (.fn "is_bid") (.cons (.gl "MOST_BIDS" (.int 20)) .nil))))) (.cons (.for_ [] (.t (.cons (.v 3) (.cons (.v 4) .nil))) (.enum (.attr (.var 0) "Sale" "bids")) (.cons (.ifs (.cmp .In (.ix (.var 4) (.c (.int 0))) (.lc (.ix (.var 5) (.c (.int 0))) (.v 5) (.seq (.sl (.attr (.var 0) "Sale" "bids") .no (.so (.var 3)))) .no [5])) (.cons (.rais "Taken" ["value"] (.cons (.ix (.var 4) (.c (.int 0))) .nil)) .nil) .nil) .nil)) (.cons (.fld [] 0 "Sale" "least" (.var 2)) .nil)))
abbrev st8 : Stmt := sub (top 20) 1
abbrev N8 : List Str := ["self", "other"]
def ir8 : Ss := (.cons (.ret [] (.and (.cons (.isc (.var 1) "Sale") (.cons (.cmp .Eq (.tup (.cons (.attr (.var 0) "Sale" "bids") (.cons (.attr (.var 0) "Sale" "least") .nil))) (.tup (.cons (.attr (.var 1) "Sale" "bids") (.cons (.attr (.var 1) "Sale" "least") .nil)))) .nil)))) .nil)
abbrev st9 : Stmt := sub (top 20) 2
abbrev N9 : List Str := ["self", "rows", "at", "name", "bid"]
def ir9 : Ss := (.cons (.asg [] (.v 1) (.lc (.tup (.cons (.neg (.var 4)) (.cons (.var 2) .nil))) (.t (.cons (.v 2) (.cons (.t (.cons (.v 3) (.cons (.v 4) .nil))) .nil))) (.enum (.attr (.var 0) "Sale" "bids")) (.so (.cmp .GtE (.var 4) (.attr (.var 0) "Sale" "least"))) [2,3,4])) (.cons (.ret [] (.ife (.cmp .Gt (.bi "len" (.cons (.var 1) .nil)) (.c (.int 0))) (.ix (.ix (.attr (.var 0) "Sale" "bids") (.ix (.bi "min" (.cons (.var 1) .nil)) (.c (.int 1)))) (.c (.int 0))) (.c .non))) .nil))
abbrev st10 : Stmt := sub (top 20) 3
abbrev N10 : List Str := ["self", "name", "other", "bid"]
def ir10 : Ss := (.cons (.asg [] (.v 1) (.meth (.var 0) "Sale" "winner" 9 .nil)) (.cons (.ifs (.cmp .Is (.var 1) (.c .non)) (.cons (.ret [] (.c .non)) .nil) .nil) (.cons (.ret [] (.bi "max" (.cons (.bin .Add (.lst (.cons (.attr (.var 0) "Sale" "least") .nil)) (.lc (.var 3) (.t (.cons (.v 2) (.cons (.v 3) .nil))) (.seq (.attr (.var 0) "Sale" "bids")) (.so (.cmp .NotEq (.var 2) (.var 1))) [2,3])) .nil))) .nil)))
abbrev st11 : Stmt := sub (top 20) 4
abbrev N11 : List Str := ["self", "name", "worth", "bid"]
def ir11 : Ss := (.cons (.ifs (.cmp .NotIn (.var 1) (.lc (.ix (.var 3) (.c (.int 0))) (.v 3) (.seq (.attr (.var 0) "Sale" "bids")) .no [3])) (.cons (.rais "Unknown" ["value"] (.cons (.var 1) .nil)) .nil) .nil) (.cons (.ret [] (.ife (.cmp .Eq (.meth (.var 0) "Sale" "winner" 9 .nil) (.var 1)) (.bin .Sub (.var 2) (.meth (.var 0) "Sale" "price" 10 .nil)) (.c (.int 0)))) .nil))
abbrev st12 : Stmt := sub (top 20) 5
abbrev N12 : List Str := ["self", "name", "bid", "other", "old"]
def ir12 : Ss := (.cons (.ifs (.cmp .NotIn (.var 1) (.lc (.ix (.var 3) (.c (.int 0))) (.v 3) (.seq (.attr (.var 0) "Sale" "bids")) .no [3])) (.cons (.rais "Unknown" ["value"] (.cons (.var 1) .nil)) .nil) .nil) (.cons (.ret [] (.call 7 (.cons (.lc (.tup (.cons (.var 3) (.cons (.ife (.cmp .Eq (.var 3) (.var 1)) (.var 2) (.var 4)) .nil))) (.t (.cons (.v 3) (.cons (.v 4) .nil))) (.seq (.attr (.var 0) "Sale" "bids")) .no [3,4]) (.cons (.attr (.var 0) "Sale" "least") .nil)))) .nil))
abbrev st13 : Stmt := sub (top 20) 6
abbrev N13 : List Str := ["self", "name", "worth", "others", "marks", "rows", "other", "bid"]
def ir13 : Ss := (.cons (.asg [] (.v 3) (.lc (.var 7) (.t (.cons (.v 6) (.cons (.v 7) .nil))) (.seq (.attr (.var 0) "Sale" "bids")) (.so (.cmp .NotEq (.var 6) (.var 1))) [6,7])) (.cons (.asg [] (.v 4) (.bin .Add (.bin .Add (.lst (.cons (.c (.int 0)) (.cons (.attr (.var 0) "Sale" "least") .nil))) (.var 3)) (.lc (.bin .Add (.var 7) (.c (.int 1))) (.v 7) (.seq (.var 3)) .no [7]))) (.cons (.asg [] (.v 5) (.lcx (.tup (.cons (.neg (.meth (.meth (.var 0) "Sale" "with_bid" 12 (.cons (.var 1) (.cons (.var 7) .nil))) "Sale" "gain" 11 (.cons (.var 1) (.cons (.var 2) .nil)))) (.cons (.var 7) .nil))) (.v 7) (.seq (.var 4)) (.so (.cmp .LtE (.var 7) (.gl "MOST_BID" (.int 9999)))) [7])) (.cons (.ret [] (.ix (.bi "min" (.cons (.var 5) .nil)) (.c (.int 1)))) .nil))))
abbrev st14 : Stmt := top 21
abbrev N14 : List Str := ["bids", "many", "least", "sale", "rows", "won", "others", "bid", "at", "name"]
def ir14 : Ss := (.cons (.asg [] (.v 3) (.call 7 (.cons (.var 0) (.cons (.var 2) .nil)))) (.cons (.asg [] (.v 4) (.bi "sorted" (.cons (.lc (.tup (.cons (.neg (.var 7)) (.cons (.var 8) .nil))) (.t (.cons (.v 8) (.cons (.t (.cons (.v 9) (.cons (.v 7) .nil))) .nil))) (.enum (.attr (.var 3) "Sale" "bids")) (.so (.cmp .GtE (.var 7) (.var 2))) [8,9,7]) .nil))) (.cons (.asg [] (.v 5) (.lc (.var 8) (.t (.cons (.v 7) (.cons (.v 8) .nil))) (.seq (.sl (.var 4) .no (.so (.var 1)))) .no [7,8])) (.cons (.asg [] (.v 6) (.lc (.var 7) (.t (.cons (.v 8) (.cons (.t (.cons (.v 9) (.cons (.v 7) .nil))) .nil))) (.enum (.attr (.var 3) "Sale" "bids")) (.so (.cmp .NotIn (.var 8) (.var 5))) [8,9,7])) (.cons (.ret [] (.tup (.cons (.bi "tuple" (.cons (.lc (.ix (.ix (.attr (.var 3) "Sale" "bids") (.var 8)) (.c (.int 0))) (.v 8) (.seq (.bi "sorted" (.cons (.var 5) .nil))) .no [8]) .nil)) (.cons (.bi "max" (.cons (.bin .Add (.lst (.cons (.var 2) .nil)) (.var 6)) .nil)) .nil)))) .nil)))))
abbrev st15 : Stmt := top 23
abbrev N15 : List Str := ["row", "many", "found", "cell"]
def ir15 : Ss := (.cons (.ifs (.cmp .Gt (.ix (.var 0) (.c (.int 3))) (.c (.int 0))) (.cons (.asg [] (.v 2) (.bin .Mod (.bi "int" (.cons (.ix (.var 0) (.c (.int 3))) .nil)) (.var 1))) (.cons (.setI [] 0 (.c (.int 3)) (.bin .FloorDiv (.ix (.var 0) (.c (.int 3))) (.var 1))) (.cons (.ret [] (.var 2)) .nil))) .nil) (.cons (.setI [] 0 (.c (.int 1)) (.bin .Add (.ix (.var 0) (.c (.int 1))) (.c (.int 1)))) (.cons (.ifs (.cmp .Gt (.ix (.var 0) (.c (.int 1))) (.bi "len" (.cons (.ix (.var 0) (.c (.int 0))) .nil))) (.cons (.setI [] 0 (.c (.int 2)) (.bin .Mod (.bi "int" (.cons (.bin .Add (.bin .Mult (.ix (.var 0) (.c (.int 2))) (.c (.int 48271))) (.c (.int 11))) .nil)) (.c (.int 2147483647)))) (.cons (.ret [] (.bin .Mod (.bi "int" (.cons (.bin .FloorDiv (.ix (.var 0) (.c (.int 2))) (.c (.int 7))) .nil)) (.var 1))) .nil)) .nil) (.cons (.asg [] (.v 3) (.ix (.ix (.var 0) (.c (.int 0))) (.bin .Sub (.ix (.var 0) (.c (.int 1))) (.c (.int 1))))) (.cons (.setI [] 0 (.c (.int 2)) (.bin .Mod (.bi "int" (.cons (.bin .Add (.bin .Add (.bin .Mult (.ix (.var 0) (.c (.int 2))) (.c (.int 48271))) (.var 3)) (.c (.int 11))) .nil)) (.c (.int 2147483647)))) (.cons (.ifs (.cmp .GtE (.var 3) (.bin .Pow (.c (.int 10)) (.c (.int 18)))) (.cons (.setI [] 0 (.c (.int 3)) (.bin .FloorDiv (.var 3) (.var 1))) .nil) .nil) (.cons (.ret [] (.bin .Mod (.bi "int" (.cons (.var 3) .nil)) (.var 1))) .nil)))))))
abbrev st16 : Stmt := top 24
abbrev N16 : List Str := ["row", "kinds"]
def ir16 : Ss := (.cons (.ret [] (.ix (.var 1) (.call 15 (.cons (.var 0) (.cons (.bi "len" (.cons (.var 1) .nil)) .nil))))) .nil)
abbrev st17 : Stmt := top 25
abbrev N17 : List Str := ["found", "due", "k"]
def ir17 : Ss := (.cons (.ifs (.isi (.var 1) ["tuple","list"]) (.cons (.ifs (.or (.cons (.not (.isi (.var 0) ["tuple","list"])) (.cons (.cmp .NotEq (.isi (.var 0) ["list"]) (.isi (.var 1) ["list"])) .nil))) (.cons (.ret [] (.c (.bl false))) .nil) .nil) (.cons (.ifs (.cmp .NotEq (.bi "len" (.cons (.var 0) .nil)) (.bi "len" (.cons (.var 1) .nil))) (.cons (.ret [] (.c (.bl false))) .nil) .nil) (.cons (.ret [] (.cmp .Eq (.lc (.var 2) (.v 2) (.rng (.cons (.bi "len" (.cons (.var 1) .nil)) .nil)) (.so (.not (.call 17 (.cons (.ix (.var 0) (.var 2)) (.cons (.ix (.var 1) (.var 2)) .nil))))) [2]) (.lst .nil))) .nil))) .nil) (.cons (.ifs (.or (.cons (.cmp .Is (.var 1) (.c .non)) (.cons (.isi (.var 1) ["str"]) .nil))) (.cons (.ret [] (.and (.cons (.cmp .Eq (.var 0) (.var 1)) (.cons (.cmp .Eq (.isi (.var 0) ["str"]) (.isi (.var 1) ["str"])) .nil)))) .nil) .nil) (.cons (.ret [] (.and (.cons (.isi (.var 0) ["int"]) (.cons (.cmp .Eq (.isi (.var 0) ["bool"]) (.isi (.var 1) ["bool"])) (.cons (.cmp .Eq (.var 0) (.var 1)) .nil))))) .nil)))
abbrev st18 : Stmt := top 26
abbrev N18 : List Str := ["row", "value"]
def ir18 : Ss := (.cons (.ifs (.cmp .Eq (.call 15 (.cons (.var 0) (.cons (.c (.int 2)) .nil))) (.c (.int 0))) (.cons (.ret [] (.bi "list" (.cons (.var 1) .nil))) .nil) .nil) (.cons (.ret [] (.bi "tuple" (.cons (.var 1) .nil))) .nil))
abbrev st19 : Stmt := top 27
abbrev N19 : List Str := ["row", "signs", "size", "found", "k"]
def ir19 : Ss := (.cons (.asg [] (.v 1) (.c (.str "abcdefghijklmnopqrstuvwxyz0123456789"))) (.cons (.asg [] (.v 2) (.call 16 (.cons (.var 0) (.cons (.lst (.cons (.c (.int 1)) (.cons (.c (.int 1)) (.cons (.c (.int 2)) (.cons (.c (.int 3)) (.cons (.c (.int 5)) (.cons (.c (.int 12)) .nil))))))) .nil)))) (.cons (.asg [] (.v 3) (.ix (.var 1) (.call 15 (.cons (.var 0) (.cons (.c (.int 26)) .nil))))) (.cons (.for_ [] (.v 4) (.rng (.cons (.bin .Sub (.var 2) (.c (.int 1))) .nil)) (.cons (.asg [] (.v 3) (.bin .Add (.var 3) (.ix (.var 1) (.call 15 (.cons (.var 0) (.cons (.c (.int 36)) .nil)))))) .nil)) (.cons (.ret [] (.var 3)) .nil)))))
abbrev st20 : Stmt := top 28
abbrev N20 : List Str := ["row", "many", "found", "k", "name", "spare", "turn", "one"]
def ir20 : Ss := (.cons (.own 2 (.lst .nil)) (.cons (.for_ [] (.v 3) (.rng (.cons (.var 1) .nil)) (.cons (.asg [] (.v 4) (.call 19 (.cons (.var 0) .nil))) (.cons (.asg [] (.v 5) (.bin .Add (.lst (.cons (.var 4) .nil)) (.lc (.bin .Add (.sl (.var 4) .no (.so (.c (.int 9)))) (.bi "str" (.cons (.var 6) .nil))) (.v 6) (.rng (.cons (.c (.int 100)) .nil)) .no [6]))) (.cons (.app [] 2 (.ix (.lc (.var 7) (.v 7) (.seq (.var 5)) (.so (.cmp .NotIn (.var 7) (.var 2))) [7]) (.c (.int 0)))) .nil)))) (.cons (.ret [2] (.var 2)) .nil)))
abbrev st21 : Stmt := top 29
abbrev N21 : List Str := ["value"]
def ir21 : Ss := (.cons (.ret [] (.and (.cons (.isi (.var 0) ["int"]) (.cons (.not (.isi (.var 0) ["bool"])) .nil)))) .nil)
abbrev st22 : Stmt := top 30
abbrev N22 : List Str := ["names", "name", "k"]
def ir22 : Ss := (.cons (.ret [] (.ix (.lc (.var 1) (.v 1) (.seq (.lc (.bin .Add (.c (.str "q")) (.bi "str" (.cons (.var 2) .nil))) (.v 2) (.rng (.cons (.c (.int 400)) .nil)) .no [2])) (.so (.cmp .NotIn (.var 1) (.var 0))) [1]) (.c (.int 0)))) .nil)
abbrev st23 : Stmt := top 31
abbrev N23 : List Str := ["call", "due"]
def ir23 : Ss := (.cons (.ret [] (.and (.cons (.cmp .Eq (.var 0) (.var 1)) (.cons (.cmp .Eq (.call 21 (.cons (.ix (.var 0) (.c (.int 1))) .nil)) (.call 21 (.cons (.ix (.var 1) (.c (.int 1))) .nil))) .nil)))) .nil)
abbrev st24 : Stmt := top 32
abbrev N24 : List Str := ["bids", "least", "rows", "name", "k", "other", "bid"]
def ir24 : Ss := (.cons (.asg [] (.v 2) (.bi "sorted" (.cons (.lc (.tup (.cons (.bin .Sub (.c (.int 0)) (.ix (.ix (.var 0) (.var 4)) (.c (.int 1)))) (.cons (.var 4) .nil))) (.v 4) (.rng (.cons (.bi "len" (.cons (.var 0) .nil)) .nil)) (.so (.cmp .GtE (.ix (.ix (.var 0) (.var 4)) (.c (.int 1))) (.var 1))) [4]) .nil))) (.cons (.ifs (.cmp .Eq (.var 2) (.lst .nil)) (.cons (.ret [] (.tup (.cons (.c .non) (.cons (.c .non) .nil)))) .nil) .nil) (.cons (.asg [] (.v 3) (.ix (.ix (.var 0) (.ix (.ix (.var 2) (.c (.int 0))) (.c (.int 1)))) (.c (.int 0)))) (.cons (.ret [] (.tup (.cons (.var 3) (.cons (.bi "max" (.cons (.bin .Add (.lst (.cons (.var 1) .nil)) (.lc (.var 6) (.t (.cons (.v 5) (.cons (.v 6) .nil))) (.seq (.var 0)) (.so (.cmp .NotEq (.var 5) (.var 3))) [5,6])) .nil)) .nil)))) .nil))))
abbrev st25 : Stmt := top 33
abbrev N25 : List Str := ["bids", "least", "name", "worth", "winner", "price"]
def ir25 : Ss := (.cons (.asg [] (.t (.cons (.v 4) (.cons (.v 5) .nil))) (.call 24 (.cons (.var 0) (.cons (.var 1) .nil)))) (.cons (.ifs (.cmp .NotEq (.var 4) (.var 2)) (.cons (.ret [] (.c (.int 0))) .nil) .nil) (.cons (.ret [] (.bin .Sub (.var 3) (.var 5))) .nil)))
abbrev st26 : Stmt := top 34
abbrev N26 : List Str := ["bids", "turn", "e"]
def ir26 : Ss := (.cons (.try_ [] (.cons (.ifs (.cmp .Eq (.var 1) (.c (.int 0))) (.cons (.ex (.call 7 (.cons (.var 0) (.cons (.c (.int 1)) .nil)))) .nil) (.cons (.ex (.call 14 (.cons (.var 0) (.cons (.c (.int 1)) (.cons (.c (.int 1)) .nil))))) .nil)) .nil) (.cons ["BadItem", "TooMany", "Unknown", "Taken"] ["BadItem"] (some 2) (.cons (.ret [] (.tup (.cons (.c (.str "item")) (.cons (.xf 2 ["BadItem", "TooMany", "Unknown", "Taken"] "index") .nil)))) .nil) (.cons ["BadItem", "TooMany", "Unknown", "Taken"] ["TooMany"] (some 2) (.cons (.ret [] (.tup (.cons (.c (.str "many")) (.cons (.xf 2 ["BadItem", "TooMany", "Unknown", "Taken"] "limit") .nil)))) .nil) (.cons ["BadItem", "TooMany", "Unknown", "Taken"] ["Taken"] (some 2) (.cons (.ret [] (.tup (.cons (.c (.str "taken")) (.cons (.xf 2 ["BadItem", "TooMany", "Unknown", "Taken"] "value") .nil)))) .nil) .nil)))) (.cons (.ret [] (.c .non)) .nil))
abbrev st27 : Stmt := top 35
abbrev N27 : List Str := ["script", "row", "names", "bids", "least", "made", "k", "name", "worth", "changed", "gains", "many", "order", "price", "fresh", "turn", "e", "bad", "value", "due", "bid", "some"]
def ir27 : Ss := (.cons (.obj 1 (.lst (.cons (.var 0) (.cons (.c (.int 0)) (.cons (.c (.int 53)) (.cons (.c (.int 0)) .nil)))))) (.cons (.asg [] (.v 2) (.call 20 (.cons (.var 1) (.cons (.call 15 (.cons (.var 1) (.cons (.c (.int 6)) .nil))) .nil)))) (.cons (.asg [] (.t (.cons (.v 3) (.cons (.v 4) .nil))) (.tup (.cons (.lc (.tup (.cons (.var 7) (.cons (.call 15 (.cons (.var 1) (.cons (.c (.int 13)) .nil))) .nil))) (.v 7) (.seq (.var 2)) .no [7]) (.cons (.call 15 (.cons (.var 1) (.cons (.c (.int 13)) .nil))) .nil)))) (.cons (.asg [] (.v 5) (.call 7 (.cons (.call 18 (.cons (.var 1) (.cons (.lc (.call 18 (.cons (.var 1) (.cons (.var 20) .nil))) (.v 20) (.seq (.var 3)) .no [20]) .nil))) (.cons (.var 4) .nil)))) (.cons (.ifs (.or (.cons (.not (.call 17 (.cons (.tup (.cons (.attr (.var 5) "Sale" "bids") (.cons (.attr (.var 5) "Sale" "least") .nil))) (.cons (.tup (.cons (.bi "tuple" (.cons (.var 3) .nil)) (.cons (.var 4) .nil))) .nil)))) (.cons (.eqo true (.var 5) "Sale" 8 (.call 7 (.cons (.var 3) (.cons (.var 4) .nil)))) (.cons (.eqo false (.var 5) "Sale" 8 (.call 7 (.cons (.var 3) (.cons (.bin .Add (.var 4) (.c (.int 1))) .nil)))) (.cons (.eqo false (.var 5) "Sale" 8 (.tup (.cons (.bi "tuple" (.cons (.var 3) .nil)) (.cons (.var 4) .nil)))) .nil))))) (.cons (.ret [] (.c (.bl false))) .nil) .nil) (.cons (.ifs (.not (.call 17 (.cons (.tup (.cons (.meth (.var 5) "Sale" "winner" 9 .nil) (.cons (.meth (.var 5) "Sale" "price" 10 .nil) .nil))) (.cons (.call 24 (.cons (.var 3) (.cons (.var 4) .nil))) .nil)))) (.cons (.ret [] (.c (.bl false))) .nil) .nil) (.cons (.for_ [] (.v 6) (.rng (.cons (.bi "len" (.cons (.var 2) .nil)) .nil)) (.cons (.asg [] (.t (.cons (.v 7) (.cons (.v 8) .nil))) (.tup (.cons (.ix (.var 2) (.var 6)) (.cons (.call 15 (.cons (.var 1) (.cons (.c (.int 14)) .nil))) .nil)))) (.cons (.asg [] (.v 9) (.lc (.bin .Add (.bin .Add (.sl (.var 3) .no (.so (.var 6))) (.lst (.cons (.tup (.cons (.var 7) (.cons (.var 20) .nil))) .nil))) (.sl (.var 3) (.so (.bin .Add (.var 6) (.c (.int 1)))) .no)) (.v 20) (.rng (.cons (.c (.int 16)) .nil)) .no [20])) (.cons (.asg [] (.v 10) (.lc (.call 25 (.cons (.var 21) (.cons (.var 4) (.cons (.var 7) (.cons (.var 8) .nil))))) (.v 21) (.seq (.var 9)) .no [21])) (.cons (.ifs (.or (.cons (.not (.call 17 (.cons (.meth (.var 5) "Sale" "gain" 11 (.cons (.var 7) (.cons (.var 8) .nil))) (.cons (.call 25 (.cons (.var 3) (.cons (.var 4) (.cons (.var 7) (.cons (.var 8) .nil))))) .nil)))) (.cons (.cmp .NotEq (.bi "max" (.cons (.var 10) .nil)) (.ix (.var 10) (.var 8))) .nil))) (.cons (.ret [] (.c (.bl false))) .nil) .nil) (.cons (.ifs (.not (.call 17 (.cons (.meth (.var 5) "Sale" "best_bid" 13 (.cons (.var 7) (.cons (.var 8) .nil))) (.cons (.me "index" (.var 10) (.cons (.bi "max" (.cons (.var 10) .nil)) .nil)) .nil)))) (.cons (.ret [] (.c (.bl false))) .nil) .nil) (.cons (.ifs (.eqo true (.meth (.var 5) "Sale" "with_bid" 12 (.cons (.var 7) (.cons (.c (.int 5)) .nil))) "Sale" 8 (.call 7 (.cons (.ix (.var 9) (.c (.int 5))) (.cons (.var 4) .nil)))) (.cons (.ret [] (.c (.bl false))) .nil) .nil) .nil))))))) (.cons (.asg [] (.v 11) (.call 15 (.cons (.var 1) (.cons (.c (.int 4)) .nil)))) (.cons (.asg [] (.v 12) (.sl (.lc (.var 6) (.t (.cons (.v 20) (.cons (.v 6) .nil))) (.seq (.bi "sorted" (.cons (.lc (.tup (.cons (.bin .Sub (.c (.int 0)) (.ix (.ix (.var 3) (.var 6)) (.c (.int 1)))) (.cons (.var 6) .nil))) (.v 6) (.rng (.cons (.bi "len" (.cons (.var 3) .nil)) .nil)) (.so (.cmp .GtE (.ix (.ix (.var 3) (.var 6)) (.c (.int 1))) (.var 4))) [6]) .nil))) .no [20,6]) .no (.so (.var 11)))) (.cons (.asg [] (.v 13) (.bi "max" (.cons (.bin .Add (.lst (.cons (.var 4) .nil)) (.lc (.ix (.ix (.var 3) (.var 6)) (.c (.int 1))) (.v 6) (.rng (.cons (.bi "len" (.cons (.var 3) .nil)) .nil)) (.so (.cmp .NotIn (.var 6) (.var 12))) [6])) .nil))) (.cons (.ifs (.not (.call 17 (.cons (.call 14 (.cons (.call 18 (.cons (.var 1) (.cons (.var 3) .nil))) (.cons (.var 11) (.cons (.var 4) .nil)))) (.cons (.tup (.cons (.bi "tuple" (.cons (.lc (.ix (.var 2) (.var 6)) (.v 6) (.seq (.bi "sorted" (.cons (.var 12) .nil))) .no [6]) .nil)) (.cons (.var 13) .nil))) .nil)))) (.cons (.ret [] (.c (.bl false))) .nil) .nil) (.cons (.asg [] (.v 14) (.call 22 (.cons (.var 2) .nil))) (.cons (.for_ [] (.v 15) (.rng (.cons (.c (.int 3)) .nil)) (.cons (.try_ [] (.cons (.ifs (.cmp .Eq (.var 15) (.c (.int 0))) (.cons (.ex (.meth (.var 5) "Sale" "gain" 11 (.cons (.var 14) (.cons (.c (.int 1)) .nil)))) .nil) (.cons (.ifs (.cmp .Eq (.var 15) (.c (.int 1))) (.cons (.ex (.meth (.var 5) "Sale" "with_bid" 12 (.cons (.var 14) (.cons (.c (.int 1)) .nil)))) .nil) (.cons (.ex (.meth (.var 5) "Sale" "best_bid" 13 (.cons (.var 14) (.cons (.c (.int 1)) .nil)))) .nil)) .nil)) (.cons (.ret [] (.c (.bl false))) .nil)) (.cons ["BadItem", "TooMany", "Unknown", "Taken"] ["Unknown"] (some 16) (.cons (.ifs (.cmp .NotEq (.xf 16 ["BadItem", "TooMany", "Unknown", "Taken"] "value") (.var 14)) (.cons (.ret [] (.c (.bl false))) .nil) .nil) .nil) .nil)) .nil)) (.cons (.asg [] (.v 17) (.call 16 (.cons (.var 1) (.cons (.lst (.cons (.tup (.cons (.c (.str "A")) (.cons (.c (.int 1)) .nil))) (.cons (.tup (.cons (.c (.str "a")) (.cons (.neg (.c (.int 1))) .nil))) (.cons (.tup (.cons (.c (.str "a")) (.cons (.c (.int 10000)) .nil))) (.cons (.tup (.cons (.c (.str "a")) (.cons (.c (.bl true)) .nil))) (.cons (.tup (.cons (.c (.str "a")) .nil)) (.cons (.c .non) .nil))))))) .nil)))) (.cons (.for_ [] (.t (.cons (.v 18) (.cons (.v 19) .nil))) (.seq (.lst (.cons (.tup (.cons (.bin .Add (.var 3) (.lst (.cons (.var 17) .nil))) (.cons (.tup (.cons (.c (.str "item")) (.cons (.bi "len" (.cons (.var 3) .nil)) .nil))) .nil))) (.cons (.tup (.cons (.c .non) (.cons (.tup (.cons (.c (.str "item")) (.cons (.c .non) .nil))) .nil))) (.cons (.tup (.cons (.lc (.tup (.cons (.bin .Add (.c (.str "x")) (.bi "str" (.cons (.var 6) .nil))) (.cons (.c (.int 1)) .nil))) (.v 6) (.rng (.cons (.c (.int 21)) .nil)) .no [6]) (.cons (.tup (.cons (.c (.str "many")) (.cons (.c (.int 20)) .nil))) .nil))) (.cons (.tup (.cons (.lst (.cons (.tup (.cons (.c (.str "a")) (.cons (.c (.int 1)) .nil))) (.cons (.tup (.cons (.c (.str "a")) (.cons (.c (.int 2)) .nil))) .nil))) (.cons (.tup (.cons (.c (.str "taken")) (.cons (.c (.str "a")) .nil))) .nil))) .nil)))))) (.cons (.ifs (.cmp .NotEq (.lc (.var 15) (.v 15) (.rng (.cons (.c (.int 2)) .nil)) (.so (.not (.call 23 (.cons (.call 26 (.cons (.var 18) (.cons (.var 15) .nil))) (.cons (.var 19) .nil))))) [15]) (.lst .nil)) (.cons (.ret [] (.c (.bl false))) .nil) .nil) .nil)) (.cons (.ret [] (.c (.bl true))) .nil))))))))))))))))
def tab : List FnI := [⟨1, 1, ir0, none⟩, ⟨3, 3, ir1, none⟩, ⟨1, 1, ir2, none⟩, ⟨1, 2, ir3, none⟩, ⟨1, 2, ir4, none⟩, ⟨3, 5, ir5, none⟩, ⟨1, 1, ir6, none⟩, ⟨2, 5, ir7, some ("Sale", false)⟩, ⟨2, 2, ir8, none⟩, ⟨1, 5, ir9, none⟩, ⟨1, 4, ir10, none⟩, ⟨3, 4, ir11, none⟩, ⟨3, 5, ir12, none⟩, ⟨3, 8, ir13, none⟩, ⟨3, 10, ir14, none⟩, ⟨2, 4, ir15, none⟩, ⟨2, 2, ir16, none⟩, ⟨2, 3, ir17, none⟩, ⟨2, 2, ir18, none⟩, ⟨1, 5, ir19, none⟩, ⟨2, 8, ir20, none⟩, ⟨1, 1, ir21, none⟩, ⟨1, 3, ir22, none⟩, ⟨2, 2, ir23, none⟩, ⟨2, 7, ir24, none⟩, ⟨4, 6, ir25, none⟩, ⟨2, 3, ir26, none⟩, ⟨1, 22, ir27, none⟩]
structure Facts (P : Program) (w : World) (K : PySem.W.Frag) (mg : Str → Option Value) : Prop where
  cls_Sale : Cls K (He.ga K "Sale")
  con_FIGURES : ∃ t, mg "FIGURES" = some (.str "0123456789" t)
  con_LETTERS : ∃ t, mg "LETTERS" = some (.str "abcdefghijklmnopqrstuvwxyz" t)
  con_LONGEST_NAME : ∃ t, mg "LONGEST_NAME" = some (.int 12 t)
  con_MOST_BID : ∃ t, mg "MOST_BID" = some (.int 9999 t)
  con_MOST_BIDS : ∃ t, mg "MOST_BIDS" = some (.int 20 t)
  eqc_Sale : EqC K (He.ga K "Sale") (He.ma K (He.ga K "Sale") "__eq__")
  exm_BadItem : ∀ c ∈ (["BadItem", "TooMany", "Unknown", "Taken"] : List Str), PySem.W.exmOne K (.ref (He.ga K c)) (.ref (He.ga K "BadItem")) = some (decide (c ∈ (["BadItem"] : List Str)))
  exm_Taken : ∀ c ∈ (["BadItem", "TooMany", "Unknown", "Taken"] : List Str), PySem.W.exmOne K (.ref (He.ga K c)) (.ref (He.ga K "Taken")) = some (decide (c ∈ (["Taken"] : List Str)))
  exm_TooMany : ∀ c ∈ (["BadItem", "TooMany", "Unknown", "Taken"] : List Str), PySem.W.exmOne K (.ref (He.ga K c)) (.ref (He.ga K "TooMany")) = some (decide (c ∈ (["TooMany"] : List Str)))
  exm_Unknown : ∀ c ∈ (["BadItem", "TooMany", "Unknown", "Taken"] : List Str), PySem.W.exmOne K (.ref (He.ga K c)) (.ref (He.ga K "Unknown")) = some (decide (c ∈ (["Unknown"] : List Str)))
  free_all : mg "all" = none
  free_bool : mg "bool" = none
  free_enumerate : mg "enumerate" = none
  free_int : mg "int" = none
  free_isinstance : mg "isinstance" = none
  free_len : mg "len" = none
  free_list : mg "list" = none
  free_max : mg "max" = none
  free_min : mg "min" = none
  free_range : mg "range" = none
  free_sorted : mg "sorted" = none
  free_str : mg "str" = none
  free_tuple : mg "tuple" = none
  glo_BadItem : mg "BadItem" = some (.ref (He.ga K "BadItem"))
  glo_Sale : mg "Sale" = some (.ref (He.ga K "Sale"))
  glo_Taken : mg "Taken" = some (.ref (He.ga K "Taken"))
  glo_TooMany : mg "TooMany" = some (.ref (He.ga K "TooMany"))
  glo_Unknown : mg "Unknown" = some (.ref (He.ga K "Unknown"))
  glo_is_bid : mg "is_bid" = some (.ref (He.ga K "is_bid"))
  isc_Sale : IscC K "Sale"
  na_Sale__bids : NoAttr K (He.ga K "Sale") "bids"
  na_Sale__least : NoAttr K (He.ga K "Sale") "least"
  x_BadItem : XcOk P w K mg "BadItem" 1 (fun vs => (["index"] : List Str).zip vs.reverse)
  x_Taken : XcOk P w K mg "Taken" 1 (fun vs => (["value"] : List Str).zip vs.reverse)
  x_TooMany : XcOk P w K mg "TooMany" 1 (fun vs => (["limit"] : List Str).zip vs.reverse)
  x_Unknown : XcOk P w K mg "Unknown" 1 (fun vs => (["value"] : List Str).zip vs.reverse)
  xf_index : ∀ c ∈ (["BadItem", "TooMany", "Unknown", "Taken"] : List Str), XfC K (He.ga K c) ∧ PySem.W.findIn K (.ref (He.ga K c)) "index" = some none
  xf_limit : ∀ c ∈ (["BadItem", "TooMany", "Unknown", "Taken"] : List Str), XfC K (He.ga K c) ∧ PySem.W.findIn K (.ref (He.ga K c)) "limit" = some none
  xf_value : ∀ c ∈ (["BadItem", "TooMany", "Unknown", "Taken"] : List Str), XfC K (He.ga K c) ∧ PySem.W.findIn K (.ref (He.ga K c)) "value" = some none
structure TabOk (P : Program) (w : World) (K : PySem.W.Frag) (mg : Str → Option Value) (base : Heap) (n : Nat) : Prop where
  d0 : DefOk P w K mg base (2 * n) (callN tab n) "is_whole" 0
  d1 : DefOk P w K mg base (2 * n) (callN tab n) "is_number" 1
  d2 : DefOk P w K mg base (2 * n) (callN tab n) "is_row" 2
  d3 : DefOk P w K mg base (2 * n) (callN tab n) "is_name" 3
  d4 : DefOk P w K mg base (2 * n) (callN tab n) "frozen" 4
  d5 : DefOk P w K mg base (2 * n) (callN tab n) "want_row" 5
  d6 : DefOk P w K mg base (2 * n) (callN tab n) "is_bid" 6
  d7 : MakeOk P w K mg base (2 * n) (callN tab n) "Sale" 7
  d8 : MethOk P w K mg base (2 * n) (callN tab n) "Sale" "__eq__" 8
  d9 : MethOk P w K mg base (2 * n) (callN tab n) "Sale" "winner" 9
  d10 : MethOk P w K mg base (2 * n) (callN tab n) "Sale" "price" 10
  d11 : MethOk P w K mg base (2 * n) (callN tab n) "Sale" "gain" 11
  d12 : MethOk P w K mg base (2 * n) (callN tab n) "Sale" "with_bid" 12
  d13 : MethOk P w K mg base (2 * n) (callN tab n) "Sale" "best_bid" 13
  d14 : DefOk P w K mg base (2 * n) (callN tab n) "lots" 14
  d15 : DefOk P w K mg base (2 * n) (callN tab n) "_law_taken" 15
  d16 : DefOk P w K mg base (2 * n) (callN tab n) "_law_pick" 16
  d17 : DefOk P w K mg base (2 * n) (callN tab n) "_law_alike" 17
  d18 : DefOk P w K mg base (2 * n) (callN tab n) "_law_mixed" 18
  d19 : DefOk P w K mg base (2 * n) (callN tab n) "_law_name" 19
  d20 : DefOk P w K mg base (2 * n) (callN tab n) "_law_names" 20
  d21 : DefOk P w K mg base (2 * n) (callN tab n) "_law_whole" 21
  d22 : DefOk P w K mg base (2 * n) (callN tab n) "_law_strange" 22
  d23 : DefOk P w K mg base (2 * n) (callN tab n) "_law_refused_row" 23
  d24 : DefOk P w K mg base (2 * n) (callN tab n) "_law_sold" 24
  d25 : DefOk P w K mg base (2 * n) (callN tab n) "_law_gain" 25
  d26 : DefOk P w K mg base (2 * n) (callN tab n) "_law_raised" 26
  d27 : DefOk P w K mg base (2 * n) (callN tab n) "law" 27
section
variable {P : Program} {w : World} {K : PySem.W.Frag} {mg : Str → Option Value} {base : Heap} {n : Nat}
theorem body0 (G : Facts P w K mg) (T : TabOk P w K mg base n) {qual : Str} {f : Addr} (cdv : Value) (A : Around) (outer : List PySem.Env) (s : Shared) (H : Hp) (E : XK) (W : WW) (hsv : W.sv = false) (hx : W.x = none) (tk : Takes (cxOf (L2.CX P w) P w K mg base N0 qual (defScope st0) f cdv A outer s H E) W) (hr : Room (2 * n + 1) (A.deeper (envOfC qual (defScope st0) s.heap.objs.size f cdv))) :
    PSs (cxOf (L2.CX P w) P w K mg base N0 qual (defScope st0) f cdv A outer s H E) (defBody st0) (tSs K W (callN tab n) ir0) := by
  have ND : List.Nodup (cxOf (L2.CX P w) P w K mg base N0 qual (defScope st0) f cdv A outer s H E).N := (by decide : List.Nodup N0)
  have hpo : PassesOwn (model P w) (cxOf (L2.CX P w) P w K mg base N0 qual (defScope st0) f cdv A outer s H E).A (cxOf (L2.CX P w) P w K mg base N0 qual (defScope st0) f cdv A outer s H E).env (cxOf (L2.CX P w) P w K mg base N0 qual (defScope st0) f cdv A outer s H E).xe := passes_of rfl
  have hu := hu65 hr
  have hu1q := hu1 hr
  have hu64q := hu64 hr
  exact (ss_cons (.inl hsv) (ss_ret (.inr rfl) (s_and (s_isi rfl G.free_isinstance (s_varB rfl (by first | exact .inl rfl | exact .inr (.inl rfl) | exact .inr (.inr rfl)) (by decide) (by decide)) rfl (q_ty rfl G.free_int (by decide +kernel) (by decide) (by decide)) rfl (by decide)) (q_and1 (s_not (s_isi rfl G.free_isinstance (s_varB rfl (by first | exact .inl rfl | exact .inr (.inl rfl) | exact .inr (.inr rfl)) (by decide) (by decide)) rfl (q_ty rfl G.free_bool (by decide +kernel) (by decide) (by decide)) rfl (by decide)))))) ss_nil)
theorem body1 (G : Facts P w K mg) (T : TabOk P w K mg base n) {qual : Str} {f : Addr} (cdv : Value) (A : Around) (outer : List PySem.Env) (s : Shared) (H : Hp) (E : XK) (W : WW) (hsv : W.sv = false) (hx : W.x = none) (tk : Takes (cxOf (L2.CX P w) P w K mg base N1 qual (defScope st1) f cdv A outer s H E) W) (hr : Room (2 * n + 1) (A.deeper (envOfC qual (defScope st1) s.heap.objs.size f cdv))) :
    PSs (cxOf (L2.CX P w) P w K mg base N1 qual (defScope st1) f cdv A outer s H E) (defBody st1) (tSs K W (callN tab n) ir1) := by
  have ND : List.Nodup (cxOf (L2.CX P w) P w K mg base N1 qual (defScope st1) f cdv A outer s H E).N := (by decide : List.Nodup N1)
  have hpo : PassesOwn (model P w) (cxOf (L2.CX P w) P w K mg base N1 qual (defScope st1) f cdv A outer s H E).A (cxOf (L2.CX P w) P w K mg base N1 qual (defScope st1) f cdv A outer s H E).env (cxOf (L2.CX P w) P w K mg base N1 qual (defScope st1) f cdv A outer s H E).xe := passes_of rfl
  have hu := hu65 hr
  have hu1q := hu1 hr
  have hu64q := hu64 hr
  exact (ss_cons (.inl hsv) (ss_ret (.inr rfl) (s_and (s_call T.d0 (hr.mono (Nat.le_succ _)) rfl tk (s_cons (s_var rfl (by first | exact .inl rfl | exact .inr (.inl rfl) | exact .inr (.inr rfl)) (by decide) (by decide)) s_nil rfl) rfl rfl (by decide)) (q_and1 (s_cmp2 hu (s_var rfl (by first | exact .inl rfl | exact .inr (.inl rfl) | exact .inr (.inr rfl)) (by decide) (by decide)) (s_var rfl (by first | exact .inl rfl | exact .inr (.inl rfl) | exact .inr (.inr rfl)) (by decide) (by decide)) (s_var rfl (by first | exact .inl rfl | exact .inr (.inl rfl) | exact .inr (.inr rfl)) (by decide) (by decide)) rfl)))) ss_nil)
theorem body2 (G : Facts P w K mg) (T : TabOk P w K mg base n) {qual : Str} {f : Addr} (cdv : Value) (A : Around) (outer : List PySem.Env) (s : Shared) (H : Hp) (E : XK) (W : WW) (hsv : W.sv = false) (hx : W.x = none) (tk : Takes (cxOf (L2.CX P w) P w K mg base N2 qual (defScope st2) f cdv A outer s H E) W) (hr : Room (2 * n + 1) (A.deeper (envOfC qual (defScope st2) s.heap.objs.size f cdv))) :
    PSs (cxOf (L2.CX P w) P w K mg base N2 qual (defScope st2) f cdv A outer s H E) (defBody st2) (tSs K W (callN tab n) ir2) := by
  have ND : List.Nodup (cxOf (L2.CX P w) P w K mg base N2 qual (defScope st2) f cdv A outer s H E).N := (by decide : List.Nodup N2)
  have hpo : PassesOwn (model P w) (cxOf (L2.CX P w) P w K mg base N2 qual (defScope st2) f cdv A outer s H E).A (cxOf (L2.CX P w) P w K mg base N2 qual (defScope st2) f cdv A outer s H E).env (cxOf (L2.CX P w) P w K mg base N2 qual (defScope st2) f cdv A outer s H E).xe := passes_of rfl
  have hu := hu65 hr
  have hu1q := hu1 hr
  have hu64q := hu64 hr
  exact (ss_cons (.inl hsv) (ss_ret (.inr rfl) (s_isiT rfl G.free_isinstance (s_varB rfl (by first | exact .inl rfl | exact .inr (.inl rfl) | exact .inr (.inr rfl)) (by decide) (by decide)) rfl (.cons (q_ty rfl G.free_list (by decide +kernel) (by decide) (by decide)) rfl (.cons (q_ty rfl G.free_tuple (by decide +kernel) (by decide) (by decide)) rfl .nil)) (by decide) (by decide))) ss_nil)
theorem body3 (G : Facts P w K mg) (T : TabOk P w K mg base n) {qual : Str} {f : Addr} (cdv : Value) (A : Around) (outer : List PySem.Env) (s : Shared) (H : Hp) (E : XK) (W : WW) (hsv : W.sv = false) (hx : W.x = none) (tk : Takes (cxOf (L2.CX P w) P w K mg base N3 qual (defScope st3) f cdv A outer s H E) W) (hr : Room (2 * n + 1) (A.deeper (envOfC qual (defScope st3) s.heap.objs.size f cdv))) :
    PSs (cxOf (L2.CX P w) P w K mg base N3 qual (defScope st3) f cdv A outer s H E) (defBody st3) (tSs K W (callN tab n) ir3) := by
  have ND : List.Nodup (cxOf (L2.CX P w) P w K mg base N3 qual (defScope st3) f cdv A outer s H E).N := (by decide : List.Nodup N3)
  have hpo : PassesOwn (model P w) (cxOf (L2.CX P w) P w K mg base N3 qual (defScope st3) f cdv A outer s H E).A (cxOf (L2.CX P w) P w K mg base N3 qual (defScope st3) f cdv A outer s H E).env (cxOf (L2.CX P w) P w K mg base N3 qual (defScope st3) f cdv A outer s H E).xe := passes_of rfl
  have hu := hu65 hr
  have hu1q := hu1 hr
  have hu64q := hu64 hr
  exact (ss_cons (.inl hsv) (ss_if (PW.pt (w_or (s_notT (q_truth (s_isi rfl G.free_isinstance (s_varB rfl (by first | exact .inl rfl | exact .inr (.inl rfl) | exact .inr (.inr rfl)) (by decide) (by decide)) rfl (q_ty rfl G.free_str (by decide +kernel) (by decide) (by decide)) rfl (by decide)) rfl fun _ => rfl)) (w_or (s_notT (s_cmp2T hu k_int (q_D (s_bi bi_len rfl G.free_len (by decide +kernel) (b_cons (s_varB rfl (by first | exact .inl rfl | exact .inr (.inl rfl) | exact .inr (.inr rfl)) (by decide) (by decide)) b_nil rfl) rfl rfl (by decide) (by decide))) (s_glI rfl G.con_LONGEST_NAME (by decide)) rfl)) (w_or1 (s_cmpT hu (q_bor (s_ix hu1q (s_varB rfl (by first | exact .inl rfl | exact .inr (.inl rfl) | exact .inr (.inr rfl)) (by decide) (by decide)) k_int rfl) rfl) (q_bor (s_glS rfl G.con_LETTERS (by decide)) rfl) rfl))))) (ss_cons (.inl hsv) (ss_ret (.inr rfl) k_bl) ss_nil) ss_nil) (ss_cons (.inl hsv) (ss_ret (.inr rfl) (q_D (s_bi (bi_all rfl) rfl G.free_all (by decide +kernel) (b_cons (q_bor (q_D (s_lc rfl ND (i_seq (s_varB rfl (by first | exact .inl rfl | exact .inr (.inl rfl) | exact .inr (.inr rfl)) (by decide) (by decide))) (own := [("sign",1)]) rfl rfl (by decide) ⟨fun s H c cl fp => (g_v ND rfl (by first | exact .inl rfl | exact .inr rfl) (by first | exact .inl rfl | exact .inr rfl)), (fun s H c cl fp => if_none), (fun s H c cl fp => (s_or (s_cmp hu (s_varB rfl (by first | exact .inl rfl | exact .inr (.inl rfl) | exact .inr (.inr rfl)) (by decide) (by decide)) (q_bor (s_glS rfl G.con_LETTERS (by decide)) rfl) rfl) (q_or1 (s_cmp hu (s_varB rfl (by first | exact .inl rfl | exact .inr (.inl rfl) | exact .inr (.inr rfl)) (by decide) (by decide)) (q_bor (s_glS rfl G.con_FIGURES (by decide)) rfl) rfl))))⟩ (fun _ => rfl))) rfl) b_nil rfl) rfl rfl (by decide) (by decide)))) ss_nil))
theorem body4 (G : Facts P w K mg) (T : TabOk P w K mg base n) {qual : Str} {f : Addr} (cdv : Value) (A : Around) (outer : List PySem.Env) (s : Shared) (H : Hp) (E : XK) (W : WW) (hsv : W.sv = false) (hx : W.x = none) (tk : Takes (cxOf (L2.CX P w) P w K mg base N4 qual (defScope st4) f cdv A outer s H E) W) (hr : Room (2 * n + 1) (A.deeper (envOfC qual (defScope st4) s.heap.objs.size f cdv))) :
    PSs (cxOf (L2.CX P w) P w K mg base N4 qual (defScope st4) f cdv A outer s H E) (defBody st4) (tSs K W (callN tab n) ir4) := by
  have ND : List.Nodup (cxOf (L2.CX P w) P w K mg base N4 qual (defScope st4) f cdv A outer s H E).N := (by decide : List.Nodup N4)
  have hpo : PassesOwn (model P w) (cxOf (L2.CX P w) P w K mg base N4 qual (defScope st4) f cdv A outer s H E).A (cxOf (L2.CX P w) P w K mg base N4 qual (defScope st4) f cdv A outer s H E).env (cxOf (L2.CX P w) P w K mg base N4 qual (defScope st4) f cdv A outer s H E).xe := passes_of rfl
  have hu := hu65 hr
  have hu1q := hu1 hr
  have hu64q := hu64 hr
  exact (ss_cons (.inl hsv) (ss_if (q_truth (s_isiT rfl G.free_isinstance (s_varB rfl (by first | exact .inl rfl | exact .inr (.inl rfl) | exact .inr (.inr rfl)) (by decide) (by decide)) rfl (.cons (q_ty rfl G.free_list (by decide +kernel) (by decide) (by decide)) rfl (.cons (q_ty rfl G.free_tuple (by decide +kernel) (by decide) (by decide)) rfl .nil)) (by decide) (by decide)) rfl fun _ => rfl) (ss_cons (.inl hsv) (ss_ret (.inr rfl) (q_D (s_biT bi_tuple rfl G.free_tuple (by decide +kernel) (b_cons (q_bor (q_D (s_lc rfl ND (i_seq (s_varB rfl (by first | exact .inl rfl | exact .inr (.inl rfl) | exact .inr (.inr rfl)) (by decide) (by decide))) (own := [("part",1)]) rfl rfl (by decide) ⟨fun s H c cl fp => (g_v ND rfl (by first | exact .inl rfl | exact .inr rfl) (by first | exact .inl rfl | exact .inr rfl)), (fun s H c cl fp => if_none), (fun s H c cl fp => (s_call T.d4 (hr.mono (Nat.le_succ _)) rfl takes_no (s_cons (s_var rfl (by first | exact .inl rfl | exact .inr (.inl rfl) | exact .inr (.inr rfl)) (by decide) (by decide)) s_nil rfl) rfl rfl (by decide)))⟩ (fun _ => rfl))) rfl) b_nil rfl) rfl rfl (by decide) (by decide)))) ss_nil) ss_nil) (ss_cons (.inl hsv) (ss_ret (.inr rfl) (s_var rfl (by first | exact .inl rfl | exact .inr (.inl rfl) | exact .inr (.inr rfl)) (by decide) (by decide))) ss_nil))
theorem body5 (G : Facts P w K mg) (T : TabOk P w K mg base n) {qual : Str} {f : Addr} (cdv : Value) (A : Around) (outer : List PySem.Env) (s : Shared) (H : Hp) (E : XK) (W : WW) (hsv : W.sv = false) (hx : W.x = none) (tk : Takes (cxOf (L2.CX P w) P w K mg base N5 qual (defScope st5) f cdv A outer s H E) W) (hr : Room (2 * n + 1) (A.deeper (envOfC qual (defScope st5) s.heap.objs.size f cdv))) :
    PSs (cxOf (L2.CX P w) P w K mg base N5 qual (defScope st5) f cdv A outer s H E) (defBody st5) (tSs K W (callN tab n) ir5) := by
  have ND : List.Nodup (cxOf (L2.CX P w) P w K mg base N5 qual (defScope st5) f cdv A outer s H E).N := (by decide : List.Nodup N5)
  have hpo : PassesOwn (model P w) (cxOf (L2.CX P w) P w K mg base N5 qual (defScope st5) f cdv A outer s H E).A (cxOf (L2.CX P w) P w K mg base N5 qual (defScope st5) f cdv A outer s H E).env (cxOf (L2.CX P w) P w K mg base N5 qual (defScope st5) f cdv A outer s H E).xe := passes_of rfl
  have hu := hu65 hr
  have hu1q := hu1 hr
  have hu64q := hu64 hr
  exact (ss_cons (.inl hsv) (ss_if (s_notT (q_truth (s_call T.d2 (hr.mono (Nat.le_succ _)) rfl tk (s_cons (s_var rfl (by first | exact .inl rfl | exact .inr (.inl rfl) | exact .inr (.inr rfl)) (by decide) (by decide)) s_nil rfl) rfl rfl (by decide)) rfl fun _ => rfl)) (ss_cons (.inl hsv) (ss_rais rfl tk G.x_BadItem hr rfl (s_cons k_non s_nil rfl) rfl rfl (by decide)) ss_nil) ss_nil) (ss_cons (.inl hsv) (ss_for hsv hpo rfl (i_enumF rfl G.free_enumerate (s_var rfl (by first | exact .inl rfl | exact .inr (.inl rfl) | exact .inr (.inr rfl)) (by decide) (by decide)) rfl) (g_t rfl (g_cons (g_v ND rfl (by first | exact .inl rfl | exact .inr rfl) (by first | exact .inl rfl | exact .inr rfl)) (g_cons (g_v ND rfl (by first | exact .inl rfl | exact .inr rfl) (by first | exact .inl rfl | exact .inr rfl)) g_nil rfl) rfl) rfl rfl) (ss_cons (.inl hsv) (ss_if (s_notT (q_truth (s_callv (fs1 T.d6) (hr.mono (Nat.le_succ _)) tk rfl (by first | exact .inl rfl | exact .inr (.inl rfl) | exact .inr (.inr rfl)) (by decide) (by decide) (s_cons (s_var rfl (by first | exact .inl rfl | exact .inr (.inl rfl) | exact .inr (.inr rfl)) (by decide) (by decide)) s_nil rfl) rfl rfl) rfl fun _ => rfl)) (ss_cons (.inl hsv) (ss_rais rfl tk G.x_BadItem hr rfl (s_cons (s_var rfl (by first | exact .inl rfl | exact .inr (.inl rfl) | exact .inr (.inr rfl)) (by decide) (by decide)) s_nil rfl) rfl rfl (by decide)) ss_nil) ss_nil) ss_nil) (fun _ => rfl)) (ss_cons (.inl hsv) (ss_if (s_cmpT hu (q_bor (q_D (s_bi bi_len rfl G.free_len (by decide +kernel) (b_cons (s_varB rfl (by first | exact .inl rfl | exact .inr (.inl rfl) | exact .inr (.inr rfl)) (by decide) (by decide)) b_nil rfl) rfl rfl (by decide) (by decide))) rfl) (s_varB rfl (by first | exact .inl rfl | exact .inr (.inl rfl) | exact .inr (.inr rfl)) (by decide) (by decide)) rfl) (ss_cons (.inl hsv) (ss_rais rfl tk G.x_TooMany hr rfl (s_cons (s_var rfl (by first | exact .inl rfl | exact .inr (.inl rfl) | exact .inr (.inr rfl)) (by decide) (by decide)) s_nil rfl) rfl rfl (by decide)) ss_nil) ss_nil) (ss_cons (.inl hsv) (ss_ret (.inr rfl) (s_call T.d4 (hr.mono (Nat.le_succ _)) rfl tk (s_cons (s_var rfl (by first | exact .inl rfl | exact .inr (.inl rfl) | exact .inr (.inr rfl)) (by decide) (by decide)) s_nil rfl) rfl rfl (by decide))) ss_nil))))
theorem body6 (G : Facts P w K mg) (T : TabOk P w K mg base n) {qual : Str} {f : Addr} (cdv : Value) (A : Around) (outer : List PySem.Env) (s : Shared) (H : Hp) (E : XK) (W : WW) (hsv : W.sv = false) (hx : W.x = none) (tk : Takes (cxOf (L2.CX P w) P w K mg base N6 qual (defScope st6) f cdv A outer s H E) W) (hr : Room (2 * n + 1) (A.deeper (envOfC qual (defScope st6) s.heap.objs.size f cdv))) :
    PSs (cxOf (L2.CX P w) P w K mg base N6 qual (defScope st6) f cdv A outer s H E) (defBody st6) (tSs K W (callN tab n) ir6) := by
  have ND : List.Nodup (cxOf (L2.CX P w) P w K mg base N6 qual (defScope st6) f cdv A outer s H E).N := (by decide : List.Nodup N6)
  have hpo : PassesOwn (model P w) (cxOf (L2.CX P w) P w K mg base N6 qual (defScope st6) f cdv A outer s H E).A (cxOf (L2.CX P w) P w K mg base N6 qual (defScope st6) f cdv A outer s H E).env (cxOf (L2.CX P w) P w K mg base N6 qual (defScope st6) f cdv A outer s H E).xe := passes_of rfl
  have hu := hu65 hr
  have hu1q := hu1 hr
  have hu64q := hu64 hr
  exact (ss_cons (.inl hsv) (ss_ret (.inr rfl) (s_and (s_call T.d2 (hr.mono (Nat.le_succ _)) rfl tk (s_cons (s_var rfl (by first | exact .inl rfl | exact .inr (.inl rfl) | exact .inr (.inr rfl)) (by decide) (by decide)) s_nil rfl) rfl rfl (by decide)) (s_and (s_cmp hu (q_bor (q_D (s_bi bi_len rfl G.free_len (by decide +kernel) (b_cons (s_varB rfl (by first | exact .inl rfl | exact .inr (.inl rfl) | exact .inr (.inr rfl)) (by decide) (by decide)) b_nil rfl) rfl rfl (by decide) (by decide))) rfl) (q_bor k_int rfl) rfl) (s_and (s_call T.d3 (hr.mono (Nat.le_succ _)) rfl tk (s_cons (s_ix hu1q (s_varB rfl (by first | exact .inl rfl | exact .inr (.inl rfl) | exact .inr (.inr rfl)) (by decide) (by decide)) k_int rfl) s_nil rfl) rfl rfl (by decide)) (q_and1 (s_call T.d1 (hr.mono (Nat.le_succ _)) rfl tk (s_cons (s_ix hu1q (s_varB rfl (by first | exact .inl rfl | exact .inr (.inl rfl) | exact .inr (.inr rfl)) (by decide) (by decide)) k_int rfl) (s_cons k_int (s_cons (s_glI rfl G.con_MOST_BID (by decide)) s_nil rfl) rfl) rfl) rfl rfl (by decide))))))) ss_nil)
theorem body7 (G : Facts P w K mg) (T : TabOk P w K mg base n) {qual : Str} {f : Addr} (cdv : Value) (A : Around) (outer : List PySem.Env) (s : Shared) (H : Hp) (E : XK) (W : WW) (hsv : W.sv = false) (hx : W.x = none) (tk : Takes (cxOf (L2.CX P w) P w K mg base N7 qual (defScope st7) f cdv A outer s H E) W) (hr : Room (2 * n + 1) (A.deeper (envOfC qual (defScope st7) s.heap.objs.size f cdv))) :
    PSs (cxOf (L2.CX P w) P w K mg base N7 qual (defScope st7) f cdv A outer s H E) (defBody st7) (tSs K W (callN tab n) ir7) := by
  have ND : List.Nodup (cxOf (L2.CX P w) P w K mg base N7 qual (defScope st7) f cdv A outer s H E).N := (by decide : List.Nodup N7)
  have hpo : PassesOwn (model P w) (cxOf (L2.CX P w) P w K mg base N7 qual (defScope st7) f cdv A outer s H E).A (cxOf (L2.CX P w) P w K mg base N7 qual (defScope st7) f cdv A outer s H E).env (cxOf (L2.CX P w) P w K mg base N7 qual (defScope st7) f cdv A outer s H E).xe := passes_of rfl
  have hu := hu65 hr
  have hu1q := hu1 hr
  have hu64q := hu64 hr
  exact (ss_cons (.inl hsv) (ss_fld hsv rfl (by first | exact .inl rfl | exact .inr (.inl rfl) | exact .inr (.inr rfl)) (by decide) (by decide) G.cls_Sale G.na_Sale__bids (s_call T.d5 (hr.mono (Nat.le_succ _)) rfl tk (s_cons (s_var rfl (by first | exact .inl rfl | exact .inr (.inl rfl) | exact .inr (.inr rfl)) (by decide) (by decide)) (s_cons (s_fn rfl G.glo_is_bid (by decide)) (s_cons (s_glI rfl G.con_MOST_BIDS (by decide)) s_nil rfl) rfl) rfl) rfl rfl (by decide)) rfl) (ss_cons (.inl hsv) (ss_for hsv hpo rfl (i_enumF rfl G.free_enumerate (s_attr G.cls_Sale G.na_Sale__bids (s_varB rfl (by first | exact .inl rfl | exact .inr (.inl rfl) | exact .inr (.inr rfl)) (by decide) (by decide)) rfl) rfl) (g_t rfl (g_cons (g_v ND rfl (by first | exact .inl rfl | exact .inr rfl) (by first | exact .inl rfl | exact .inr rfl)) (g_cons (g_v ND rfl (by first | exact .inl rfl | exact .inr rfl) (by first | exact .inl rfl | exact .inr rfl)) g_nil rfl) rfl) rfl rfl) (ss_cons (.inl hsv) (ss_if (s_cmpT hu (q_bor (s_ix hu1q (s_varB rfl (by first | exact .inl rfl | exact .inr (.inl rfl) | exact .inr (.inr rfl)) (by decide) (by decide)) k_int rfl) rfl) (q_bor (q_D (s_lc rfl ND (i_seq (q_bor (q_D (s_sl (q_bor (s_attr G.cls_Sale G.na_Sale__bids (s_varB rfl (by first | exact .inl rfl | exact .inr (.inl rfl) | exact .inr (.inr rfl)) (by decide) (by decide)) rfl) rfl) o_none (o_some (s_var rfl (by first | exact .inl rfl | exact .inr (.inl rfl) | exact .inr (.inr rfl)) (by decide) (by decide))))) rfl)) (own := [("other",5)]) rfl rfl (by decide) ⟨fun s H c cl fp => (g_v ND rfl (by first | exact .inl rfl | exact .inr rfl) (by first | exact .inl rfl | exact .inr rfl)), (fun s H c cl fp => if_none), (fun s H c cl fp => (s_ix hu1q (s_varB rfl (by first | exact .inl rfl | exact .inr (.inl rfl) | exact .inr (.inr rfl)) (by decide) (by decide)) k_int rfl))⟩ (fun _ => rfl))) rfl) rfl) (ss_cons (.inl hsv) (ss_rais rfl tk G.x_Taken hr rfl (s_cons (s_ix hu1q (s_varB rfl (by first | exact .inl rfl | exact .inr (.inl rfl) | exact .inr (.inr rfl)) (by decide) (by decide)) k_int rfl) s_nil rfl) rfl rfl (by decide)) ss_nil) ss_nil) ss_nil) (fun _ => rfl)) (ss_cons (.inl hsv) (ss_fld hsv rfl (by first | exact .inl rfl | exact .inr (.inl rfl) | exact .inr (.inr rfl)) (by decide) (by decide) G.cls_Sale G.na_Sale__least (s_var rfl (by first | exact .inl rfl | exact .inr (.inl rfl) | exact .inr (.inr rfl)) (by decide) (by decide)) rfl) ss_nil)))
theorem body8 (G : Facts P w K mg) (T : TabOk P w K mg base n) {qual : Str} {f : Addr} (cdv : Value) (A : Around) (outer : List PySem.Env) (s : Shared) (H : Hp) (E : XK) (W : WW) (hsv : W.sv = false) (hx : W.x = none) (tk : Takes (cxOf (L2.CX P w) P w K mg base N8 qual (defScope st8) f cdv A outer s H E) W) (hr : Room (2 * n + 1) (A.deeper (envOfC qual (defScope st8) s.heap.objs.size f cdv))) :
    PSs (cxOf (L2.CX P w) P w K mg base N8 qual (defScope st8) f cdv A outer s H E) (defBody st8) (tSs K W (callN tab n) ir8) := by
  have ND : List.Nodup (cxOf (L2.CX P w) P w K mg base N8 qual (defScope st8) f cdv A outer s H E).N := (by decide : List.Nodup N8)
  have hpo : PassesOwn (model P w) (cxOf (L2.CX P w) P w K mg base N8 qual (defScope st8) f cdv A outer s H E).A (cxOf (L2.CX P w) P w K mg base N8 qual (defScope st8) f cdv A outer s H E).env (cxOf (L2.CX P w) P w K mg base N8 qual (defScope st8) f cdv A outer s H E).xe := passes_of rfl
  have hu := hu65 hr
  have hu1q := hu1 hr
  have hu64q := hu64 hr
  exact (ss_cons (.inl hsv) (ss_ret (.inr rfl) (s_and (s_isc rfl G.free_isinstance G.isc_Sale (s_varB rfl (by first | exact .inl rfl | exact .inr (.inl rfl) | exact .inr (.inr rfl)) (by decide) (by decide)) rfl (q_gl rfl G.glo_Sale (by decide)) rfl) (q_and1 (s_cmp hu (q_bor (s_tup (s_cons (s_attr G.cls_Sale G.na_Sale__bids (s_varB rfl (by first | exact .inl rfl | exact .inr (.inl rfl) | exact .inr (.inr rfl)) (by decide) (by decide)) rfl) (s_cons (s_attr G.cls_Sale G.na_Sale__least (s_varB rfl (by first | exact .inl rfl | exact .inr (.inl rfl) | exact .inr (.inr rfl)) (by decide) (by decide)) rfl) s_nil rfl) rfl)) rfl) (q_bor (s_tup (s_cons (s_attr G.cls_Sale G.na_Sale__bids (s_varB rfl (by first | exact .inl rfl | exact .inr (.inl rfl) | exact .inr (.inr rfl)) (by decide) (by decide)) rfl) (s_cons (s_attr G.cls_Sale G.na_Sale__least (s_varB rfl (by first | exact .inl rfl | exact .inr (.inl rfl) | exact .inr (.inr rfl)) (by decide) (by decide)) rfl) s_nil rfl) rfl)) rfl) rfl)))) ss_nil)
theorem body9 (G : Facts P w K mg) (T : TabOk P w K mg base n) {qual : Str} {f : Addr} (cdv : Value) (A : Around) (outer : List PySem.Env) (s : Shared) (H : Hp) (E : XK) (W : WW) (hsv : W.sv = false) (hx : W.x = none) (tk : Takes (cxOf (L2.CX P w) P w K mg base N9 qual (defScope st9) f cdv A outer s H E) W) (hr : Room (2 * n + 1) (A.deeper (envOfC qual (defScope st9) s.heap.objs.size f cdv))) :
    PSs (cxOf (L2.CX P w) P w K mg base N9 qual (defScope st9) f cdv A outer s H E) (defBody st9) (tSs K W (callN tab n) ir9) := by
  have ND : List.Nodup (cxOf (L2.CX P w) P w K mg base N9 qual (defScope st9) f cdv A outer s H E).N := (by decide : List.Nodup N9)
  have hpo : PassesOwn (model P w) (cxOf (L2.CX P w) P w K mg base N9 qual (defScope st9) f cdv A outer s H E).A (cxOf (L2.CX P w) P w K mg base N9 qual (defScope st9) f cdv A outer s H E).env (cxOf (L2.CX P w) P w K mg base N9 qual (defScope st9) f cdv A outer s H E).xe := passes_of rfl
  have hu := hu65 hr
  have hu1q := hu1 hr
  have hu64q := hu64 hr
  exact (ss_cons (.inl hsv) (ss_setLc (.inr rfl) rfl ND rfl rfl rfl (i_enum rfl G.free_enumerate (q_bor (s_attr G.cls_Sale G.na_Sale__bids (s_varB rfl (by first | exact .inl rfl | exact .inr (.inl rfl) | exact .inr (.inr rfl)) (by decide) (by decide)) rfl) rfl) rfl) (own := [("at",2),("name",3),("bid",4)]) rfl rfl (by decide) ⟨fun s H c cl fp => (g_t rfl (g_cons (g_v ND rfl (by first | exact .inl rfl | exact .inr rfl) (by first | exact .inl rfl | exact .inr rfl)) (g_cons (g_t rfl (g_cons (g_v ND rfl (by first | exact .inl rfl | exact .inr rfl) (by first | exact .inl rfl | exact .inr rfl)) (g_cons (g_v ND rfl (by first | exact .inl rfl | exact .inr rfl) (by first | exact .inl rfl | exact .inr rfl)) g_nil rfl) rfl) rfl rfl) g_nil rfl) rfl) rfl rfl), (fun s H c cl fp => (if_one (s_cmpT hu (s_varB rfl (by first | exact .inl rfl | exact .inr (.inl rfl) | exact .inr (.inr rfl)) (by decide) (by decide)) (q_bor (s_attr G.cls_Sale G.na_Sale__least (s_varB rfl (by first | exact .inl rfl | exact .inr (.inl rfl) | exact .inr (.inr rfl)) (by decide) (by decide)) rfl) rfl) rfl))), (fun s H c cl fp => (s_tup (s_cons (s_neg (s_var rfl (by first | exact .inl rfl | exact .inr (.inl rfl) | exact .inr (.inr rfl)) (by decide) (by decide))) (s_cons (s_var rfl (by first | exact .inl rfl | exact .inr (.inl rfl) | exact .inr (.inr rfl)) (by decide) (by decide)) s_nil rfl) rfl)))⟩ (fun _ => rfl)) (ss_cons (.inl hsv) (ss_ret (.inr rfl) (s_ife (s_cmpT hu (q_bor (q_D (s_bi bi_len rfl G.free_len (by decide +kernel) (b_cons (s_varB rfl (by first | exact .inl rfl | exact .inr (.inl rfl) | exact .inr (.inr rfl)) (by decide) (by decide)) b_nil rfl) rfl rfl (by decide) (by decide))) rfl) (q_bor k_int rfl) rfl) (s_ix hu1q (q_bor (s_ix hu1q (q_bor (s_attr G.cls_Sale G.na_Sale__bids (s_varB rfl (by first | exact .inl rfl | exact .inr (.inl rfl) | exact .inr (.inr rfl)) (by decide) (by decide)) rfl) rfl) (s_ix hu1q (q_bor (q_D (s_bi (bi_min rfl hu64q) rfl G.free_min (by decide +kernel) (b_cons (s_varB rfl (by first | exact .inl rfl | exact .inr (.inl rfl) | exact .inr (.inr rfl)) (by decide) (by decide)) b_nil rfl) rfl rfl (by decide) (by decide))) rfl) k_int rfl) rfl) rfl) k_int rfl) k_non)) ss_nil))
theorem body10 (G : Facts P w K mg) (T : TabOk P w K mg base n) {qual : Str} {f : Addr} (cdv : Value) (A : Around) (outer : List PySem.Env) (s : Shared) (H : Hp) (E : XK) (W : WW) (hsv : W.sv = false) (hx : W.x = none) (tk : Takes (cxOf (L2.CX P w) P w K mg base N10 qual (defScope st10) f cdv A outer s H E) W) (hr : Room (2 * n + 1) (A.deeper (envOfC qual (defScope st10) s.heap.objs.size f cdv))) :
    PSs (cxOf (L2.CX P w) P w K mg base N10 qual (defScope st10) f cdv A outer s H E) (defBody st10) (tSs K W (callN tab n) ir10) := by
  have ND : List.Nodup (cxOf (L2.CX P w) P w K mg base N10 qual (defScope st10) f cdv A outer s H E).N := (by decide : List.Nodup N10)
  have hpo : PassesOwn (model P w) (cxOf (L2.CX P w) P w K mg base N10 qual (defScope st10) f cdv A outer s H E).A (cxOf (L2.CX P w) P w K mg base N10 qual (defScope st10) f cdv A outer s H E).env (cxOf (L2.CX P w) P w K mg base N10 qual (defScope st10) f cdv A outer s H E).xe := passes_of rfl
  have hu := hu65 hr
  have hu1q := hu1 hr
  have hu64q := hu64 hr
  exact (ss_cons (.inl hsv) (ss_set (.inr rfl) ND rfl (by first | exact .inl rfl | exact .inr rfl) (s_meth0 T.d9 (hr.mono (Nat.le_succ _)) tk (s_var rfl (by first | exact .inl rfl | exact .inr (.inl rfl) | exact .inr (.inr rfl)) (by decide) (by decide)) rfl) rfl (by first | exact .inl rfl | exact .inr rfl)) (ss_cons (.inl hsv) (ss_if (s_cmpT hu (s_varB rfl (by first | exact .inl rfl | exact .inr (.inl rfl) | exact .inr (.inr rfl)) (by decide) (by decide)) (q_bor k_non rfl) rfl) (ss_cons (.inl hsv) (ss_ret (.inr rfl) k_non) ss_nil) ss_nil) (ss_cons (.inl hsv) (ss_ret (.inr rfl) (q_D (s_bi (bi_max rfl hu64q) rfl G.free_max (by decide +kernel) (b_cons (q_bor (q_D (s_bin (q_bor (q_D (s_lst (s_cons (s_attr G.cls_Sale G.na_Sale__least (s_varB rfl (by first | exact .inl rfl | exact .inr (.inl rfl) | exact .inr (.inr rfl)) (by decide) (by decide)) rfl) s_nil rfl))) rfl) (q_bor (q_D (s_lc rfl ND (i_seq (q_bor (s_attr G.cls_Sale G.na_Sale__bids (s_varB rfl (by first | exact .inl rfl | exact .inr (.inl rfl) | exact .inr (.inr rfl)) (by decide) (by decide)) rfl) rfl)) (own := [("other",2),("bid",3)]) rfl rfl (by decide) ⟨fun s H c cl fp => (g_t rfl (g_cons (g_v ND rfl (by first | exact .inl rfl | exact .inr rfl) (by first | exact .inl rfl | exact .inr rfl)) (g_cons (g_v ND rfl (by first | exact .inl rfl | exact .inr rfl) (by first | exact .inl rfl | exact .inr rfl)) g_nil rfl) rfl) rfl rfl), (fun s H c cl fp => (if_one (s_cmpT hu (s_varB rfl (by first | exact .inl rfl | exact .inr (.inl rfl) | exact .inr (.inr rfl)) (by decide) (by decide)) (s_varB rfl (by first | exact .inl rfl | exact .inr (.inl rfl) | exact .inr (.inr rfl)) (by decide) (by decide)) rfl))), (fun s H c cl fp => (s_var rfl (by first | exact .inl rfl | exact .inr (.inl rfl) | exact .inr (.inr rfl)) (by decide) (by decide)))⟩ (fun _ => rfl))) rfl))) rfl) b_nil rfl) rfl rfl (by decide) (by decide)))) ss_nil)))
theorem body11 (G : Facts P w K mg) (T : TabOk P w K mg base n) {qual : Str} {f : Addr} (cdv : Value) (A : Around) (outer : List PySem.Env) (s : Shared) (H : Hp) (E : XK) (W : WW) (hsv : W.sv = false) (hx : W.x = none) (tk : Takes (cxOf (L2.CX P w) P w K mg base N11 qual (defScope st11) f cdv A outer s H E) W) (hr : Room (2 * n + 1) (A.deeper (envOfC qual (defScope st11) s.heap.objs.size f cdv))) :
    PSs (cxOf (L2.CX P w) P w K mg base N11 qual (defScope st11) f cdv A outer s H E) (defBody st11) (tSs K W (callN tab n) ir11) := by
  have ND : List.Nodup (cxOf (L2.CX P w) P w K mg base N11 qual (defScope st11) f cdv A outer s H E).N := (by decide : List.Nodup N11)
  have hpo : PassesOwn (model P w) (cxOf (L2.CX P w) P w K mg base N11 qual (defScope st11) f cdv A outer s H E).A (cxOf (L2.CX P w) P w K mg base N11 qual (defScope st11) f cdv A outer s H E).env (cxOf (L2.CX P w) P w K mg base N11 qual (defScope st11) f cdv A outer s H E).xe := passes_of rfl
  have hu := hu65 hr
  have hu1q := hu1 hr
  have hu64q := hu64 hr
  exact (ss_cons (.inl hsv) (ss_if (s_cmpT hu (s_varB rfl (by first | exact .inl rfl | exact .inr (.inl rfl) | exact .inr (.inr rfl)) (by decide) (by decide)) (q_bor (q_D (s_lc rfl ND (i_seq (q_bor (s_attr G.cls_Sale G.na_Sale__bids (s_varB rfl (by first | exact .inl rfl | exact .inr (.inl rfl) | exact .inr (.inr rfl)) (by decide) (by decide)) rfl) rfl)) (own := [("bid",3)]) rfl rfl (by decide) ⟨fun s H c cl fp => (g_v ND rfl (by first | exact .inl rfl | exact .inr rfl) (by first | exact .inl rfl | exact .inr rfl)), (fun s H c cl fp => if_none), (fun s H c cl fp => (s_ix hu1q (s_varB rfl (by first | exact .inl rfl | exact .inr (.inl rfl) | exact .inr (.inr rfl)) (by decide) (by decide)) k_int rfl))⟩ (fun _ => rfl))) rfl) rfl) (ss_cons (.inl hsv) (ss_rais rfl tk G.x_Unknown hr rfl (s_cons (s_var rfl (by first | exact .inl rfl | exact .inr (.inl rfl) | exact .inr (.inr rfl)) (by decide) (by decide)) s_nil rfl) rfl rfl (by decide)) ss_nil) ss_nil) (ss_cons (.inl hsv) (ss_ret (.inr rfl) (s_ife (s_cmpT hu (q_bor (s_meth0 T.d9 (hr.mono (Nat.le_succ _)) tk (s_var rfl (by first | exact .inl rfl | exact .inr (.inl rfl) | exact .inr (.inr rfl)) (by decide) (by decide)) rfl) rfl) (s_varB rfl (by first | exact .inl rfl | exact .inr (.inl rfl) | exact .inr (.inr rfl)) (by decide) (by decide)) rfl) (q_D (s_bin (s_varB rfl (by first | exact .inl rfl | exact .inr (.inl rfl) | exact .inr (.inr rfl)) (by decide) (by decide)) (q_bor (s_meth0 T.d10 (hr.mono (Nat.le_succ _)) tk (s_var rfl (by first | exact .inl rfl | exact .inr (.inl rfl) | exact .inr (.inr rfl)) (by decide) (by decide)) rfl) rfl))) k_int)) ss_nil))
theorem body12 (G : Facts P w K mg) (T : TabOk P w K mg base n) {qual : Str} {f : Addr} (cdv : Value) (A : Around) (outer : List PySem.Env) (s : Shared) (H : Hp) (E : XK) (W : WW) (hsv : W.sv = false) (hx : W.x = none) (tk : Takes (cxOf (L2.CX P w) P w K mg base N12 qual (defScope st12) f cdv A outer s H E) W) (hr : Room (2 * n + 1) (A.deeper (envOfC qual (defScope st12) s.heap.objs.size f cdv))) :
    PSs (cxOf (L2.CX P w) P w K mg base N12 qual (defScope st12) f cdv A outer s H E) (defBody st12) (tSs K W (callN tab n) ir12) := by
  have ND : List.Nodup (cxOf (L2.CX P w) P w K mg base N12 qual (defScope st12) f cdv A outer s H E).N := (by decide : List.Nodup N12)
  have hpo : PassesOwn (model P w) (cxOf (L2.CX P w) P w K mg base N12 qual (defScope st12) f cdv A outer s H E).A (cxOf (L2.CX P w) P w K mg base N12 qual (defScope st12) f cdv A outer s H E).env (cxOf (L2.CX P w) P w K mg base N12 qual (defScope st12) f cdv A outer s H E).xe := passes_of rfl
  have hu := hu65 hr
  have hu1q := hu1 hr
  have hu64q := hu64 hr
  exact (ss_cons (.inl hsv) (ss_if (s_cmpT hu (s_varB rfl (by first | exact .inl rfl | exact .inr (.inl rfl) | exact .inr (.inr rfl)) (by decide) (by decide)) (q_bor (q_D (s_lc rfl ND (i_seq (q_bor (s_attr G.cls_Sale G.na_Sale__bids (s_varB rfl (by first | exact .inl rfl | exact .inr (.inl rfl) | exact .inr (.inr rfl)) (by decide) (by decide)) rfl) rfl)) (own := [("other",3)]) rfl rfl (by decide) ⟨fun s H c cl fp => (g_v ND rfl (by first | exact .inl rfl | exact .inr rfl) (by first | exact .inl rfl | exact .inr rfl)), (fun s H c cl fp => if_none), (fun s H c cl fp => (s_ix hu1q (s_varB rfl (by first | exact .inl rfl | exact .inr (.inl rfl) | exact .inr (.inr rfl)) (by decide) (by decide)) k_int rfl))⟩ (fun _ => rfl))) rfl) rfl) (ss_cons (.inl hsv) (ss_rais rfl tk G.x_Unknown hr rfl (s_cons (s_var rfl (by first | exact .inl rfl | exact .inr (.inl rfl) | exact .inr (.inr rfl)) (by decide) (by decide)) s_nil rfl) rfl rfl (by decide)) ss_nil) ss_nil) (ss_cons (.inl hsv) (ss_ret (.inr rfl) (s_mk T.d7 hr rfl tk (s_cons (q_D (s_lc rfl ND (i_seq (q_bor (s_attr G.cls_Sale G.na_Sale__bids (s_varB rfl (by first | exact .inl rfl | exact .inr (.inl rfl) | exact .inr (.inr rfl)) (by decide) (by decide)) rfl) rfl)) (own := [("other",3),("old",4)]) rfl rfl (by decide) ⟨fun s H c cl fp => (g_t rfl (g_cons (g_v ND rfl (by first | exact .inl rfl | exact .inr rfl) (by first | exact .inl rfl | exact .inr rfl)) (g_cons (g_v ND rfl (by first | exact .inl rfl | exact .inr rfl) (by first | exact .inl rfl | exact .inr rfl)) g_nil rfl) rfl) rfl rfl), (fun s H c cl fp => if_none), (fun s H c cl fp => (s_tup (s_cons (s_var rfl (by first | exact .inl rfl | exact .inr (.inl rfl) | exact .inr (.inr rfl)) (by decide) (by decide)) (s_cons (s_ife (s_cmpT hu (s_varB rfl (by first | exact .inl rfl | exact .inr (.inl rfl) | exact .inr (.inr rfl)) (by decide) (by decide)) (s_varB rfl (by first | exact .inl rfl | exact .inr (.inl rfl) | exact .inr (.inr rfl)) (by decide) (by decide)) rfl) (s_var rfl (by first | exact .inl rfl | exact .inr (.inl rfl) | exact .inr (.inr rfl)) (by decide) (by decide)) (s_var rfl (by first | exact .inl rfl | exact .inr (.inl rfl) | exact .inr (.inr rfl)) (by decide) (by decide))) s_nil rfl) rfl)))⟩ (fun _ => rfl))) (s_cons (s_attr G.cls_Sale G.na_Sale__least (s_varB rfl (by first | exact .inl rfl | exact .inr (.inl rfl) | exact .inr (.inr rfl)) (by decide) (by decide)) rfl) s_nil rfl) rfl) rfl rfl (by decide))) ss_nil))
theorem body13 (G : Facts P w K mg) (T : TabOk P w K mg base n) {qual : Str} {f : Addr} (cdv : Value) (A : Around) (outer : List PySem.Env) (s : Shared) (H : Hp) (E : XK) (W : WW) (hsv : W.sv = false) (hx : W.x = none) (tk : Takes (cxOf (L2.CX P w) P w K mg base N13 qual (defScope st13) f cdv A outer s H E) W) (hr : Room (2 * n + 1) (A.deeper (envOfC qual (defScope st13) s.heap.objs.size f cdv))) :
    PSs (cxOf (L2.CX P w) P w K mg base N13 qual (defScope st13) f cdv A outer s H E) (defBody st13) (tSs K W (callN tab n) ir13) := by
  have ND : List.Nodup (cxOf (L2.CX P w) P w K mg base N13 qual (defScope st13) f cdv A outer s H E).N := (by decide : List.Nodup N13)
  have hpo : PassesOwn (model P w) (cxOf (L2.CX P w) P w K mg base N13 qual (defScope st13) f cdv A outer s H E).A (cxOf (L2.CX P w) P w K mg base N13 qual (defScope st13) f cdv A outer s H E).env (cxOf (L2.CX P w) P w K mg base N13 qual (defScope st13) f cdv A outer s H E).xe := passes_of rfl
  have hu := hu65 hr
  have hu1q := hu1 hr
  have hu64q := hu64 hr
  exact (ss_cons (.inl hsv) (ss_setLc (.inr rfl) rfl ND rfl rfl rfl (i_seq (q_bor (s_attr G.cls_Sale G.na_Sale__bids (s_varB rfl (by first | exact .inl rfl | exact .inr (.inl rfl) | exact .inr (.inr rfl)) (by decide) (by decide)) rfl) rfl)) (own := [("other",6),("bid",7)]) rfl rfl (by decide) ⟨fun s H c cl fp => (g_t rfl (g_cons (g_v ND rfl (by first | exact .inl rfl | exact .inr rfl) (by first | exact .inl rfl | exact .inr rfl)) (g_cons (g_v ND rfl (by first | exact .inl rfl | exact .inr rfl) (by first | exact .inl rfl | exact .inr rfl)) g_nil rfl) rfl) rfl rfl), (fun s H c cl fp => (if_one (s_cmpT hu (s_varB rfl (by first | exact .inl rfl | exact .inr (.inl rfl) | exact .inr (.inr rfl)) (by decide) (by decide)) (s_varB rfl (by first | exact .inl rfl | exact .inr (.inl rfl) | exact .inr (.inr rfl)) (by decide) (by decide)) rfl))), (fun s H c cl fp => (s_var rfl (by first | exact .inl rfl | exact .inr (.inl rfl) | exact .inr (.inr rfl)) (by decide) (by decide)))⟩ (fun _ => rfl)) (ss_cons (.inl hsv) (ss_set (.inr rfl) ND rfl (by first | exact .inl rfl | exact .inr rfl) (q_D (s_bin (q_bor (q_D (s_bin (q_bor (q_D (s_lst (s_cons k_int (s_cons (s_attr G.cls_Sale G.na_Sale__least (s_varB rfl (by first | exact .inl rfl | exact .inr (.inl rfl) | exact .inr (.inr rfl)) (by decide) (by decide)) rfl) s_nil rfl) rfl))) rfl) (s_varB rfl (by first | exact .inl rfl | exact .inr (.inl rfl) | exact .inr (.inr rfl)) (by decide) (by decide)))) rfl) (q_bor (q_D (s_lc rfl ND (i_seq (s_varB rfl (by first | exact .inl rfl | exact .inr (.inl rfl) | exact .inr (.inr rfl)) (by decide) (by decide))) (own := [("bid",7)]) rfl rfl (by decide) ⟨fun s H c cl fp => (g_v ND rfl (by first | exact .inl rfl | exact .inr rfl) (by first | exact .inl rfl | exact .inr rfl)), (fun s H c cl fp => if_none), (fun s H c cl fp => (q_D (s_bin (s_varB rfl (by first | exact .inl rfl | exact .inr (.inl rfl) | exact .inr (.inr rfl)) (by decide) (by decide)) (q_bor k_int rfl))))⟩ (fun _ => rfl))) rfl))) rfl (by first | exact .inl rfl | exact .inr rfl)) (ss_cons (.inl hsv) (ss_setLcx (.inr rfl) rfl ND rfl rfl rfl rfl rfl tk (i_seq (s_varB rfl (by first | exact .inl rfl | exact .inr (.inl rfl) | exact .inr (.inr rfl)) (by decide) (by decide))) (own := [("bid",7)]) rfl rfl (by decide) ⟨fun s H c cl fp => (g_v ND rfl (by first | exact .inl rfl | exact .inr rfl) (by first | exact .inl rfl | exact .inr rfl)), (fun s H c cl fp pn xe E tk => (if_one (s_cmpT hu (s_varB rfl (by first | exact .inl rfl | exact .inr (.inl rfl) | exact .inr (.inr rfl)) (by decide) (by decide)) (q_bor (s_glI rfl G.con_MOST_BID (by decide)) rfl) rfl))), (fun s H c cl fp pn xe E tk => (s_tup (s_cons (s_neg (s_meth T.d11 (hr.mono (Nat.le_succ _)) tk (s_meth T.d12 (hr.mono (Nat.le_succ _)) tk (s_var rfl (by first | exact .inl rfl | exact .inr (.inl rfl) | exact .inr (.inr rfl)) (by decide) (by decide)) (s_cons (s_var rfl (by first | exact .inl rfl | exact .inr (.inl rfl) | exact .inr (.inr rfl)) (by decide) (by decide)) (s_cons (s_var rfl (by first | exact .inl rfl | exact .inr (.inl rfl) | exact .inr (.inr rfl)) (by decide) (by decide)) s_nil rfl) rfl) rfl rfl rfl) (s_cons (s_var rfl (by first | exact .inl rfl | exact .inr (.inl rfl) | exact .inr (.inr rfl)) (by decide) (by decide)) (s_cons (s_var rfl (by first | exact .inl rfl | exact .inr (.inl rfl) | exact .inr (.inr rfl)) (by decide) (by decide)) s_nil rfl) rfl) rfl rfl rfl)) (s_cons (s_var rfl (by first | exact .inl rfl | exact .inr (.inl rfl) | exact .inr (.inr rfl)) (by decide) (by decide)) s_nil rfl) rfl)))⟩ (fun _ => rfl)) (ss_cons (.inl hsv) (ss_ret (.inr rfl) (s_ix hu1q (q_bor (q_D (s_bi (bi_min rfl hu64q) rfl G.free_min (by decide +kernel) (b_cons (s_varB rfl (by first | exact .inl rfl | exact .inr (.inl rfl) | exact .inr (.inr rfl)) (by decide) (by decide)) b_nil rfl) rfl rfl (by decide) (by decide))) rfl) k_int rfl)) ss_nil))))
theorem body14 (G : Facts P w K mg) (T : TabOk P w K mg base n) {qual : Str} {f : Addr} (cdv : Value) (A : Around) (outer : List PySem.Env) (s : Shared) (H : Hp) (E : XK) (W : WW) (hsv : W.sv = false) (hx : W.x = none) (tk : Takes (cxOf (L2.CX P w) P w K mg base N14 qual (defScope st14) f cdv A outer s H E) W) (hr : Room (2 * n + 1) (A.deeper (envOfC qual (defScope st14) s.heap.objs.size f cdv))) :
    PSs (cxOf (L2.CX P w) P w K mg base N14 qual (defScope st14) f cdv A outer s H E) (defBody st14) (tSs K W (callN tab n) ir14) := by
  have ND : List.Nodup (cxOf (L2.CX P w) P w K mg base N14 qual (defScope st14) f cdv A outer s H E).N := (by decide : List.Nodup N14)
  have hpo : PassesOwn (model P w) (cxOf (L2.CX P w) P w K mg base N14 qual (defScope st14) f cdv A outer s H E).A (cxOf (L2.CX P w) P w K mg base N14 qual (defScope st14) f cdv A outer s H E).env (cxOf (L2.CX P w) P w K mg base N14 qual (defScope st14) f cdv A outer s H E).xe := passes_of rfl
  have hu := hu65 hr
  have hu1q := hu1 hr
  have hu64q := hu64 hr
  exact (ss_cons (.inl hsv) (ss_set (.inr rfl) ND rfl (by first | exact .inl rfl | exact .inr rfl) (s_mk T.d7 hr rfl tk (s_cons (s_var rfl (by first | exact .inl rfl | exact .inr (.inl rfl) | exact .inr (.inr rfl)) (by decide) (by decide)) (s_cons (s_var rfl (by first | exact .inl rfl | exact .inr (.inl rfl) | exact .inr (.inr rfl)) (by decide) (by decide)) s_nil rfl) rfl) rfl rfl (by decide)) rfl (by first | exact .inl rfl | exact .inr rfl)) (ss_cons (.inl hsv) (ss_set (.inr rfl) ND rfl (by first | exact .inl rfl | exact .inr rfl) (q_D (s_bi (bi_sorted hu64q) rfl G.free_sorted (by decide +kernel) (b_cons (q_bor (q_D (s_lc rfl ND (i_enum rfl G.free_enumerate (q_bor (s_attr G.cls_Sale G.na_Sale__bids (s_varB rfl (by first | exact .inl rfl | exact .inr (.inl rfl) | exact .inr (.inr rfl)) (by decide) (by decide)) rfl) rfl) rfl) (own := [("at",8),("name",9),("bid",7)]) rfl rfl (by decide) ⟨fun s H c cl fp => (g_t rfl (g_cons (g_v ND rfl (by first | exact .inl rfl | exact .inr rfl) (by first | exact .inl rfl | exact .inr rfl)) (g_cons (g_t rfl (g_cons (g_v ND rfl (by first | exact .inl rfl | exact .inr rfl) (by first | exact .inl rfl | exact .inr rfl)) (g_cons (g_v ND rfl (by first | exact .inl rfl | exact .inr rfl) (by first | exact .inl rfl | exact .inr rfl)) g_nil rfl) rfl) rfl rfl) g_nil rfl) rfl) rfl rfl), (fun s H c cl fp => (if_one (s_cmpT hu (s_varB rfl (by first | exact .inl rfl | exact .inr (.inl rfl) | exact .inr (.inr rfl)) (by decide) (by decide)) (s_varB rfl (by first | exact .inl rfl | exact .inr (.inl rfl) | exact .inr (.inr rfl)) (by decide) (by decide)) rfl))), (fun s H c cl fp => (s_tup (s_cons (s_neg (s_var rfl (by first | exact .inl rfl | exact .inr (.inl rfl) | exact .inr (.inr rfl)) (by decide) (by decide))) (s_cons (s_var rfl (by first | exact .inl rfl | exact .inr (.inl rfl) | exact .inr (.inr rfl)) (by decide) (by decide)) s_nil rfl) rfl)))⟩ (fun _ => rfl))) rfl) b_nil rfl) rfl rfl (by decide) (by decide))) rfl (by first | exact .inl rfl | exact .inr rfl)) (ss_cons (.inl hsv) (ss_set (.inr rfl) ND rfl (by first | exact .inl rfl | exact .inr rfl) (q_D (s_lc rfl ND (i_seq (q_bor (q_D (s_sl (s_varB rfl (by first | exact .inl rfl | exact .inr (.inl rfl) | exact .inr (.inr rfl)) (by decide) (by decide)) o_none (o_some (s_var rfl (by first | exact .inl rfl | exact .inr (.inl rfl) | exact .inr (.inr rfl)) (by decide) (by decide))))) rfl)) (own := [("bid",7),("at",8)]) rfl rfl (by decide) ⟨fun s H c cl fp => (g_t rfl (g_cons (g_v ND rfl (by first | exact .inl rfl | exact .inr rfl) (by first | exact .inl rfl | exact .inr rfl)) (g_cons (g_v ND rfl (by first | exact .inl rfl | exact .inr rfl) (by first | exact .inl rfl | exact .inr rfl)) g_nil rfl) rfl) rfl rfl), (fun s H c cl fp => if_none), (fun s H c cl fp => (s_var rfl (by first | exact .inl rfl | exact .inr (.inl rfl) | exact .inr (.inr rfl)) (by decide) (by decide)))⟩ (fun _ => rfl))) rfl (by first | exact .inl rfl | exact .inr rfl)) (ss_cons (.inl hsv) (ss_setLc (.inr rfl) rfl ND rfl rfl rfl (i_enum rfl G.free_enumerate (q_bor (s_attr G.cls_Sale G.na_Sale__bids (s_varB rfl (by first | exact .inl rfl | exact .inr (.inl rfl) | exact .inr (.inr rfl)) (by decide) (by decide)) rfl) rfl) rfl) (own := [("at",8),("name",9),("bid",7)]) rfl rfl (by decide) ⟨fun s H c cl fp => (g_t rfl (g_cons (g_v ND rfl (by first | exact .inl rfl | exact .inr rfl) (by first | exact .inl rfl | exact .inr rfl)) (g_cons (g_t rfl (g_cons (g_v ND rfl (by first | exact .inl rfl | exact .inr rfl) (by first | exact .inl rfl | exact .inr rfl)) (g_cons (g_v ND rfl (by first | exact .inl rfl | exact .inr rfl) (by first | exact .inl rfl | exact .inr rfl)) g_nil rfl) rfl) rfl rfl) g_nil rfl) rfl) rfl rfl), (fun s H c cl fp => (if_one (s_cmpT hu (s_varB rfl (by first | exact .inl rfl | exact .inr (.inl rfl) | exact .inr (.inr rfl)) (by decide) (by decide)) (s_varB rfl (by first | exact .inl rfl | exact .inr (.inl rfl) | exact .inr (.inr rfl)) (by decide) (by decide)) rfl))), (fun s H c cl fp => (s_var rfl (by first | exact .inl rfl | exact .inr (.inl rfl) | exact .inr (.inr rfl)) (by decide) (by decide)))⟩ (fun _ => rfl)) (ss_cons (.inl hsv) (ss_ret (.inr rfl) (s_tup (s_cons (q_D (s_biT bi_tuple rfl G.free_tuple (by decide +kernel) (b_cons (q_bor (q_D (s_lc rfl ND (i_seq (q_bor (q_D (s_bi (bi_sorted hu64q) rfl G.free_sorted (by decide +kernel) (b_cons (s_varB rfl (by first | exact .inl rfl | exact .inr (.inl rfl) | exact .inr (.inr rfl)) (by decide) (by decide)) b_nil rfl) rfl rfl (by decide) (by decide))) rfl)) (own := [("at",8)]) rfl rfl (by decide) ⟨fun s H c cl fp => (g_v ND rfl (by first | exact .inl rfl | exact .inr rfl) (by first | exact .inl rfl | exact .inr rfl)), (fun s H c cl fp => if_none), (fun s H c cl fp => (s_ix hu1q (q_bor (s_ix hu1q (q_bor (s_attr G.cls_Sale G.na_Sale__bids (s_varB rfl (by first | exact .inl rfl | exact .inr (.inl rfl) | exact .inr (.inr rfl)) (by decide) (by decide)) rfl) rfl) (s_var rfl (by first | exact .inl rfl | exact .inr (.inl rfl) | exact .inr (.inr rfl)) (by decide) (by decide)) rfl) rfl) k_int rfl))⟩ (fun _ => rfl))) rfl) b_nil rfl) rfl rfl (by decide) (by decide))) (s_cons (q_D (s_bi (bi_max rfl hu64q) rfl G.free_max (by decide +kernel) (b_cons (q_bor (q_D (s_bin (q_bor (q_D (s_lst (s_cons (s_var rfl (by first | exact .inl rfl | exact .inr (.inl rfl) | exact .inr (.inr rfl)) (by decide) (by decide)) s_nil rfl))) rfl) (s_varB rfl (by first | exact .inl rfl | exact .inr (.inl rfl) | exact .inr (.inr rfl)) (by decide) (by decide)))) rfl) b_nil rfl) rfl rfl (by decide) (by decide))) s_nil rfl) rfl))) ss_nil)))))
theorem body15 (G : Facts P w K mg) (T : TabOk P w K mg base n) {qual : Str} {f : Addr} (cdv : Value) (A : Around) (outer : List PySem.Env) (s : Shared) (H : Hp) (E : XK) (W : WW) (hsv : W.sv = false) (hx : W.x = none) (tk : Takes (cxOf (L2.CX P w) P w K mg base N15 qual (defScope st15) f cdv A outer s H E) W) (hr : Room (2 * n + 1) (A.deeper (envOfC qual (defScope st15) s.heap.objs.size f cdv))) :
    PSs (cxOf (L2.CX P w) P w K mg base N15 qual (defScope st15) f cdv A outer s H E) (defBody st15) (tSs K W (callN tab n) ir15) := by
  have ND : List.Nodup (cxOf (L2.CX P w) P w K mg base N15 qual (defScope st15) f cdv A outer s H E).N := (by decide : List.Nodup N15)
  have hpo : PassesOwn (model P w) (cxOf (L2.CX P w) P w K mg base N15 qual (defScope st15) f cdv A outer s H E).A (cxOf (L2.CX P w) P w K mg base N15 qual (defScope st15) f cdv A outer s H E).env (cxOf (L2.CX P w) P w K mg base N15 qual (defScope st15) f cdv A outer s H E).xe := passes_of rfl
  have hu := hu65 hr
  have hu1q := hu1 hr
  have hu64q := hu64 hr
  exact (ss_cons (.inl hsv) (ss_if (s_cmpT hu (q_bor (s_ix hu1q (s_varB rfl (by first | exact .inl rfl | exact .inr (.inl rfl) | exact .inr (.inr rfl)) (by decide) (by decide)) k_int rfl) rfl) (q_bor k_int rfl) rfl) (ss_cons (.inl hsv) (ss_set (.inr rfl) ND rfl (by first | exact .inl rfl | exact .inr rfl) (q_D (s_bin (q_bor (q_D (s_biT bi_int rfl G.free_int (by decide +kernel) (b_cons (q_bor (s_ix hu1q (s_varB rfl (by first | exact .inl rfl | exact .inr (.inl rfl) | exact .inr (.inr rfl)) (by decide) (by decide)) k_int rfl) rfl) b_nil rfl) rfl rfl (by decide) (by decide))) rfl) (s_varB rfl (by first | exact .inl rfl | exact .inr (.inl rfl) | exact .inr (.inr rfl)) (by decide) (by decide)))) rfl (by first | exact .inl rfl | exact .inr rfl)) (ss_cons (.inl hsv) (ss_setI hu1q hsv rfl (by first | exact .inl rfl | exact .inr (.inl rfl) | exact .inr (.inr rfl)) (by decide) (by decide) k_int (q_D (s_bin (q_bor (s_ix hu1q (s_varB rfl (by first | exact .inl rfl | exact .inr (.inl rfl) | exact .inr (.inr rfl)) (by decide) (by decide)) k_int rfl) rfl) (s_varB rfl (by first | exact .inl rfl | exact .inr (.inl rfl) | exact .inr (.inr rfl)) (by decide) (by decide)))) rfl rfl rfl (fun _ => rfl)) (ss_cons (.inl hsv) (ss_ret (.inr rfl) (s_var rfl (by first | exact .inl rfl | exact .inr (.inl rfl) | exact .inr (.inr rfl)) (by decide) (by decide))) ss_nil))) ss_nil) (ss_cons (.inl hsv) (ss_setI hu1q hsv rfl (by first | exact .inl rfl | exact .inr (.inl rfl) | exact .inr (.inr rfl)) (by decide) (by decide) k_int (q_D (s_bin (q_bor (s_ix hu1q (s_varB rfl (by first | exact .inl rfl | exact .inr (.inl rfl) | exact .inr (.inr rfl)) (by decide) (by decide)) k_int rfl) rfl) (q_bor k_int rfl))) rfl rfl rfl (fun _ => rfl)) (ss_cons (.inl hsv) (ss_if (s_cmpT hu (q_bor (s_ix hu1q (s_varB rfl (by first | exact .inl rfl | exact .inr (.inl rfl) | exact .inr (.inr rfl)) (by decide) (by decide)) k_int rfl) rfl) (q_bor (q_D (s_bi bi_len rfl G.free_len (by decide +kernel) (b_cons (q_bor (s_ix hu1q (s_varB rfl (by first | exact .inl rfl | exact .inr (.inl rfl) | exact .inr (.inr rfl)) (by decide) (by decide)) k_int rfl) rfl) b_nil rfl) rfl rfl (by decide) (by decide))) rfl) rfl) (ss_cons (.inl hsv) (ss_setI hu1q hsv rfl (by first | exact .inl rfl | exact .inr (.inl rfl) | exact .inr (.inr rfl)) (by decide) (by decide) k_int (q_D (s_bin (q_bor (q_D (s_biT bi_int rfl G.free_int (by decide +kernel) (b_cons (q_bor (q_D (s_bin (q_bor (q_D (s_bin (q_bor (s_ix hu1q (s_varB rfl (by first | exact .inl rfl | exact .inr (.inl rfl) | exact .inr (.inr rfl)) (by decide) (by decide)) k_int rfl) rfl) (q_bor k_int rfl))) rfl) (q_bor k_int rfl))) rfl) b_nil rfl) rfl rfl (by decide) (by decide))) rfl) (q_bor k_int rfl))) rfl rfl rfl (fun _ => rfl)) (ss_cons (.inl hsv) (ss_ret (.inr rfl) (q_D (s_bin (q_bor (q_D (s_biT bi_int rfl G.free_int (by decide +kernel) (b_cons (q_bor (q_D (s_bin (q_bor (s_ix hu1q (s_varB rfl (by first | exact .inl rfl | exact .inr (.inl rfl) | exact .inr (.inr rfl)) (by decide) (by decide)) k_int rfl) rfl) (q_bor k_int rfl))) rfl) b_nil rfl) rfl rfl (by decide) (by decide))) rfl) (s_varB rfl (by first | exact .inl rfl | exact .inr (.inl rfl) | exact .inr (.inr rfl)) (by decide) (by decide))))) ss_nil)) ss_nil) (ss_cons (.inl hsv) (ss_set (.inr rfl) ND rfl (by first | exact .inl rfl | exact .inr rfl) (s_ix hu1q (q_bor (s_ix hu1q (s_varB rfl (by first | exact .inl rfl | exact .inr (.inl rfl) | exact .inr (.inr rfl)) (by decide) (by decide)) k_int rfl) rfl) (q_D (s_bin (q_bor (s_ix hu1q (s_varB rfl (by first | exact .inl rfl | exact .inr (.inl rfl) | exact .inr (.inr rfl)) (by decide) (by decide)) k_int rfl) rfl) (q_bor k_int rfl))) rfl) rfl (by first | exact .inl rfl | exact .inr rfl)) (ss_cons (.inl hsv) (ss_setI hu1q hsv rfl (by first | exact .inl rfl | exact .inr (.inl rfl) | exact .inr (.inr rfl)) (by decide) (by decide) k_int (q_D (s_bin (q_bor (q_D (s_biT bi_int rfl G.free_int (by decide +kernel) (b_cons (q_bor (q_D (s_bin (q_bor (q_D (s_bin (q_bor (q_D (s_bin (q_bor (s_ix hu1q (s_varB rfl (by first | exact .inl rfl | exact .inr (.inl rfl) | exact .inr (.inr rfl)) (by decide) (by decide)) k_int rfl) rfl) (q_bor k_int rfl))) rfl) (s_varB rfl (by first | exact .inl rfl | exact .inr (.inl rfl) | exact .inr (.inr rfl)) (by decide) (by decide)))) rfl) (q_bor k_int rfl))) rfl) b_nil rfl) rfl rfl (by decide) (by decide))) rfl) (q_bor k_int rfl))) rfl rfl rfl (fun _ => rfl)) (ss_cons (.inl hsv) (ss_if (s_cmpT hu (s_varB rfl (by first | exact .inl rfl | exact .inr (.inl rfl) | exact .inr (.inr rfl)) (by decide) (by decide)) (q_bor (q_D (s_bin (q_bor k_int rfl) (q_bor k_int rfl))) rfl) rfl) (ss_cons (.inl hsv) (ss_setI hu1q hsv rfl (by first | exact .inl rfl | exact .inr (.inl rfl) | exact .inr (.inr rfl)) (by decide) (by decide) k_int (q_D (s_bin (s_varB rfl (by first | exact .inl rfl | exact .inr (.inl rfl) | exact .inr (.inr rfl)) (by decide) (by decide)) (s_varB rfl (by first | exact .inl rfl | exact .inr (.inl rfl) | exact .inr (.inr rfl)) (by decide) (by decide)))) rfl rfl rfl (fun _ => rfl)) ss_nil) ss_nil) (ss_cons (.inl hsv) (ss_ret (.inr rfl) (q_D (s_bin (q_bor (q_D (s_biT bi_int rfl G.free_int (by decide +kernel) (b_cons (s_varB rfl (by first | exact .inl rfl | exact .inr (.inl rfl) | exact .inr (.inr rfl)) (by decide) (by decide)) b_nil rfl) rfl rfl (by decide) (by decide))) rfl) (s_varB rfl (by first | exact .inl rfl | exact .inr (.inl rfl) | exact .inr (.inr rfl)) (by decide) (by decide))))) ss_nil)))))))
theorem body16 (G : Facts P w K mg) (T : TabOk P w K mg base n) {qual : Str} {f : Addr} (cdv : Value) (A : Around) (outer : List PySem.Env) (s : Shared) (H : Hp) (E : XK) (W : WW) (hsv : W.sv = false) (hx : W.x = none) (tk : Takes (cxOf (L2.CX P w) P w K mg base N16 qual (defScope st16) f cdv A outer s H E) W) (hr : Room (2 * n + 1) (A.deeper (envOfC qual (defScope st16) s.heap.objs.size f cdv))) :
    PSs (cxOf (L2.CX P w) P w K mg base N16 qual (defScope st16) f cdv A outer s H E) (defBody st16) (tSs K W (callN tab n) ir16) := by
  have ND : List.Nodup (cxOf (L2.CX P w) P w K mg base N16 qual (defScope st16) f cdv A outer s H E).N := (by decide : List.Nodup N16)
  have hpo : PassesOwn (model P w) (cxOf (L2.CX P w) P w K mg base N16 qual (defScope st16) f cdv A outer s H E).A (cxOf (L2.CX P w) P w K mg base N16 qual (defScope st16) f cdv A outer s H E).env (cxOf (L2.CX P w) P w K mg base N16 qual (defScope st16) f cdv A outer s H E).xe := passes_of rfl
  have hu := hu65 hr
  have hu1q := hu1 hr
  have hu64q := hu64 hr
  exact (ss_cons (.inl hsv) (ss_ret (.inr rfl) (s_ix hu1q (s_varB rfl (by first | exact .inl rfl | exact .inr (.inl rfl) | exact .inr (.inr rfl)) (by decide) (by decide)) (s_call T.d15 (hr.mono (Nat.le_succ _)) rfl tk (s_cons (s_var rfl (by first | exact .inl rfl | exact .inr (.inl rfl) | exact .inr (.inr rfl)) (by decide) (by decide)) (s_cons (q_D (s_bi bi_len rfl G.free_len (by decide +kernel) (b_cons (s_varB rfl (by first | exact .inl rfl | exact .inr (.inl rfl) | exact .inr (.inr rfl)) (by decide) (by decide)) b_nil rfl) rfl rfl (by decide) (by decide))) s_nil rfl) rfl) rfl rfl (by decide)) rfl)) ss_nil)
theorem body17 (G : Facts P w K mg) (T : TabOk P w K mg base n) {qual : Str} {f : Addr} (cdv : Value) (A : Around) (outer : List PySem.Env) (s : Shared) (H : Hp) (E : XK) (W : WW) (hsv : W.sv = false) (hx : W.x = none) (tk : Takes (cxOf (L2.CX P w) P w K mg base N17 qual (defScope st17) f cdv A outer s H E) W) (hr : Room (2 * n + 1) (A.deeper (envOfC qual (defScope st17) s.heap.objs.size f cdv))) :
    PSs (cxOf (L2.CX P w) P w K mg base N17 qual (defScope st17) f cdv A outer s H E) (defBody st17) (tSs K W (callN tab n) ir17) := by
  have ND : List.Nodup (cxOf (L2.CX P w) P w K mg base N17 qual (defScope st17) f cdv A outer s H E).N := (by decide : List.Nodup N17)
  have hpo : PassesOwn (model P w) (cxOf (L2.CX P w) P w K mg base N17 qual (defScope st17) f cdv A outer s H E).A (cxOf (L2.CX P w) P w K mg base N17 qual (defScope st17) f cdv A outer s H E).env (cxOf (L2.CX P w) P w K mg base N17 qual (defScope st17) f cdv A outer s H E).xe := passes_of rfl
  have hu := hu65 hr
  have hu1q := hu1 hr
  have hu64q := hu64 hr
  exact (ss_cons (.inl hsv) (ss_if (q_truth (s_isiT rfl G.free_isinstance (s_varB rfl (by first | exact .inl rfl | exact .inr (.inl rfl) | exact .inr (.inr rfl)) (by decide) (by decide)) rfl (.cons (q_ty rfl G.free_tuple (by decide +kernel) (by decide) (by decide)) rfl (.cons (q_ty rfl G.free_list (by decide +kernel) (by decide) (by decide)) rfl .nil)) (by decide) (by decide)) rfl fun _ => rfl) (ss_cons (.inl hsv) (ss_if (PW.pt (w_or (s_notT (q_truth (s_isiT rfl G.free_isinstance (s_varB rfl (by first | exact .inl rfl | exact .inr (.inl rfl) | exact .inr (.inr rfl)) (by decide) (by decide)) rfl (.cons (q_ty rfl G.free_tuple (by decide +kernel) (by decide) (by decide)) rfl (.cons (q_ty rfl G.free_list (by decide +kernel) (by decide) (by decide)) rfl .nil)) (by decide) (by decide)) rfl fun _ => rfl)) (w_or1 (s_cmpT hu (q_bor (s_isi rfl G.free_isinstance (s_varB rfl (by first | exact .inl rfl | exact .inr (.inl rfl) | exact .inr (.inr rfl)) (by decide) (by decide)) rfl (q_ty rfl G.free_list (by decide +kernel) (by decide) (by decide)) rfl (by decide)) rfl) (q_bor (s_isi rfl G.free_isinstance (s_varB rfl (by first | exact .inl rfl | exact .inr (.inl rfl) | exact .inr (.inr rfl)) (by decide) (by decide)) rfl (q_ty rfl G.free_list (by decide +kernel) (by decide) (by decide)) rfl (by decide)) rfl) rfl)))) (ss_cons (.inl hsv) (ss_ret (.inr rfl) k_bl) ss_nil) ss_nil) (ss_cons (.inl hsv) (ss_if (s_cmpT hu (q_bor (q_D (s_bi bi_len rfl G.free_len (by decide +kernel) (b_cons (s_varB rfl (by first | exact .inl rfl | exact .inr (.inl rfl) | exact .inr (.inr rfl)) (by decide) (by decide)) b_nil rfl) rfl rfl (by decide) (by decide))) rfl) (q_bor (q_D (s_bi bi_len rfl G.free_len (by decide +kernel) (b_cons (s_varB rfl (by first | exact .inl rfl | exact .inr (.inl rfl) | exact .inr (.inr rfl)) (by decide) (by decide)) b_nil rfl) rfl rfl (by decide) (by decide))) rfl) rfl) (ss_cons (.inl hsv) (ss_ret (.inr rfl) k_bl) ss_nil) ss_nil) (ss_cons (.inl hsv) (ss_ret (.inr rfl) (s_cmp hu (q_bor (q_D (s_lc rfl ND (q_rngB (q_rng1 rfl G.free_range (q_D (s_bi bi_len rfl G.free_len (by decide +kernel) (b_cons (s_varB rfl (by first | exact .inl rfl | exact .inr (.inl rfl) | exact .inr (.inr rfl)) (by decide) (by decide)) b_nil rfl) rfl rfl (by decide) (by decide))) rfl)) (own := [("k",2)]) rfl rfl (by decide) ⟨fun s H c cl fp => (g_v ND rfl (by first | exact .inl rfl | exact .inr rfl) (by first | exact .inl rfl | exact .inr rfl)), (fun s H c cl fp => (if_one (s_notT (q_truth (s_call T.d17 (hr.mono (Nat.le_succ _)) rfl takes_no (s_cons (s_ix hu1q (s_varB rfl (by first | exact .inl rfl | exact .inr (.inl rfl) | exact .inr (.inr rfl)) (by decide) (by decide)) (s_var rfl (by first | exact .inl rfl | exact .inr (.inl rfl) | exact .inr (.inr rfl)) (by decide) (by decide)) rfl) (s_cons (s_ix hu1q (s_varB rfl (by first | exact .inl rfl | exact .inr (.inl rfl) | exact .inr (.inr rfl)) (by decide) (by decide)) (s_var rfl (by first | exact .inl rfl | exact .inr (.inl rfl) | exact .inr (.inr rfl)) (by decide) (by decide)) rfl) s_nil rfl) rfl) rfl rfl (by decide)) rfl fun _ => rfl)))), (fun s H c cl fp => (s_var rfl (by first | exact .inl rfl | exact .inr (.inl rfl) | exact .inr (.inr rfl)) (by decide) (by decide)))⟩ (fun _ => rfl))) rfl) (q_bor (q_D (s_lst s_nil)) rfl) rfl)) ss_nil))) ss_nil) (ss_cons (.inl hsv) (ss_if (PW.pt (w_or (s_cmpT hu (s_varB rfl (by first | exact .inl rfl | exact .inr (.inl rfl) | exact .inr (.inr rfl)) (by decide) (by decide)) (q_bor k_non rfl) rfl) (w_or1 (q_truth (s_isi rfl G.free_isinstance (s_varB rfl (by first | exact .inl rfl | exact .inr (.inl rfl) | exact .inr (.inr rfl)) (by decide) (by decide)) rfl (q_ty rfl G.free_str (by decide +kernel) (by decide) (by decide)) rfl (by decide)) rfl fun _ => rfl)))) (ss_cons (.inl hsv) (ss_ret (.inr rfl) (s_and (s_cmp hu (s_varB rfl (by first | exact .inl rfl | exact .inr (.inl rfl) | exact .inr (.inr rfl)) (by decide) (by decide)) (s_varB rfl (by first | exact .inl rfl | exact .inr (.inl rfl) | exact .inr (.inr rfl)) (by decide) (by decide)) rfl) (q_and1 (s_cmp hu (q_bor (s_isi rfl G.free_isinstance (s_varB rfl (by first | exact .inl rfl | exact .inr (.inl rfl) | exact .inr (.inr rfl)) (by decide) (by decide)) rfl (q_ty rfl G.free_str (by decide +kernel) (by decide) (by decide)) rfl (by decide)) rfl) (q_bor (s_isi rfl G.free_isinstance (s_varB rfl (by first | exact .inl rfl | exact .inr (.inl rfl) | exact .inr (.inr rfl)) (by decide) (by decide)) rfl (q_ty rfl G.free_str (by decide +kernel) (by decide) (by decide)) rfl (by decide)) rfl) rfl)))) ss_nil) ss_nil) (ss_cons (.inl hsv) (ss_ret (.inr rfl) (s_and (s_isi rfl G.free_isinstance (s_varB rfl (by first | exact .inl rfl | exact .inr (.inl rfl) | exact .inr (.inr rfl)) (by decide) (by decide)) rfl (q_ty rfl G.free_int (by decide +kernel) (by decide) (by decide)) rfl (by decide)) (s_and (s_cmp hu (q_bor (s_isi rfl G.free_isinstance (s_varB rfl (by first | exact .inl rfl | exact .inr (.inl rfl) | exact .inr (.inr rfl)) (by decide) (by decide)) rfl (q_ty rfl G.free_bool (by decide +kernel) (by decide) (by decide)) rfl (by decide)) rfl) (q_bor (s_isi rfl G.free_isinstance (s_varB rfl (by first | exact .inl rfl | exact .inr (.inl rfl) | exact .inr (.inr rfl)) (by decide) (by decide)) rfl (q_ty rfl G.free_bool (by decide +kernel) (by decide) (by decide)) rfl (by decide)) rfl) rfl) (q_and1 (s_cmp hu (s_varB rfl (by first | exact .inl rfl | exact .inr (.inl rfl) | exact .inr (.inr rfl)) (by decide) (by decide)) (s_varB rfl (by first | exact .inl rfl | exact .inr (.inl rfl) | exact .inr (.inr rfl)) (by decide) (by decide)) rfl))))) ss_nil)))
theorem body18 (G : Facts P w K mg) (T : TabOk P w K mg base n) {qual : Str} {f : Addr} (cdv : Value) (A : Around) (outer : List PySem.Env) (s : Shared) (H : Hp) (E : XK) (W : WW) (hsv : W.sv = false) (hx : W.x = none) (tk : Takes (cxOf (L2.CX P w) P w K mg base N18 qual (defScope st18) f cdv A outer s H E) W) (hr : Room (2 * n + 1) (A.deeper (envOfC qual (defScope st18) s.heap.objs.size f cdv))) :
    PSs (cxOf (L2.CX P w) P w K mg base N18 qual (defScope st18) f cdv A outer s H E) (defBody st18) (tSs K W (callN tab n) ir18) := by
  have ND : List.Nodup (cxOf (L2.CX P w) P w K mg base N18 qual (defScope st18) f cdv A outer s H E).N := (by decide : List.Nodup N18)
  have hpo : PassesOwn (model P w) (cxOf (L2.CX P w) P w K mg base N18 qual (defScope st18) f cdv A outer s H E).A (cxOf (L2.CX P w) P w K mg base N18 qual (defScope st18) f cdv A outer s H E).env (cxOf (L2.CX P w) P w K mg base N18 qual (defScope st18) f cdv A outer s H E).xe := passes_of rfl
  have hu := hu65 hr
  have hu1q := hu1 hr
  have hu64q := hu64 hr
  exact (ss_cons (.inl hsv) (ss_if (s_cmpT hu (q_bor (s_call T.d15 (hr.mono (Nat.le_succ _)) rfl tk (s_cons (s_var rfl (by first | exact .inl rfl | exact .inr (.inl rfl) | exact .inr (.inr rfl)) (by decide) (by decide)) (s_cons k_int s_nil rfl) rfl) rfl rfl (by decide)) rfl) (q_bor k_int rfl) rfl) (ss_cons (.inl hsv) (ss_ret (.inr rfl) (q_D (s_biT bi_list rfl G.free_list (by decide +kernel) (b_cons (s_varB rfl (by first | exact .inl rfl | exact .inr (.inl rfl) | exact .inr (.inr rfl)) (by decide) (by decide)) b_nil rfl) rfl rfl (by decide) (by decide)))) ss_nil) ss_nil) (ss_cons (.inl hsv) (ss_ret (.inr rfl) (q_D (s_biT bi_tuple rfl G.free_tuple (by decide +kernel) (b_cons (s_varB rfl (by first | exact .inl rfl | exact .inr (.inl rfl) | exact .inr (.inr rfl)) (by decide) (by decide)) b_nil rfl) rfl rfl (by decide) (by decide)))) ss_nil))
theorem body19 (G : Facts P w K mg) (T : TabOk P w K mg base n) {qual : Str} {f : Addr} (cdv : Value) (A : Around) (outer : List PySem.Env) (s : Shared) (H : Hp) (E : XK) (W : WW) (hsv : W.sv = false) (hx : W.x = none) (tk : Takes (cxOf (L2.CX P w) P w K mg base N19 qual (defScope st19) f cdv A outer s H E) W) (hr : Room (2 * n + 1) (A.deeper (envOfC qual (defScope st19) s.heap.objs.size f cdv))) :
    PSs (cxOf (L2.CX P w) P w K mg base N19 qual (defScope st19) f cdv A outer s H E) (defBody st19) (tSs K W (callN tab n) ir19) := by
  have ND : List.Nodup (cxOf (L2.CX P w) P w K mg base N19 qual (defScope st19) f cdv A outer s H E).N := (by decide : List.Nodup N19)
  have hpo : PassesOwn (model P w) (cxOf (L2.CX P w) P w K mg base N19 qual (defScope st19) f cdv A outer s H E).A (cxOf (L2.CX P w) P w K mg base N19 qual (defScope st19) f cdv A outer s H E).env (cxOf (L2.CX P w) P w K mg base N19 qual (defScope st19) f cdv A outer s H E).xe := passes_of rfl
  have hu := hu65 hr
  have hu1q := hu1 hr
  have hu64q := hu64 hr
  exact (ss_cons (.inl hsv) (ss_set (.inr rfl) ND rfl (by first | exact .inl rfl | exact .inr rfl) k_str rfl (by first | exact .inl rfl | exact .inr rfl)) (ss_cons (.inl hsv) (ss_set (.inr rfl) ND rfl (by first | exact .inl rfl | exact .inr rfl) (s_call T.d16 (hr.mono (Nat.le_succ _)) rfl tk (s_cons (s_var rfl (by first | exact .inl rfl | exact .inr (.inl rfl) | exact .inr (.inr rfl)) (by decide) (by decide)) (s_cons (q_D (s_lst (s_cons k_int (s_cons k_int (s_cons k_int (s_cons k_int (s_cons k_int (s_cons k_int s_nil rfl) rfl) rfl) rfl) rfl) rfl))) s_nil rfl) rfl) rfl rfl (by decide)) rfl (by first | exact .inl rfl | exact .inr rfl)) (ss_cons (.inl hsv) (ss_set (.inr rfl) ND rfl (by first | exact .inl rfl | exact .inr rfl) (s_ix hu1q (s_varB rfl (by first | exact .inl rfl | exact .inr (.inl rfl) | exact .inr (.inr rfl)) (by decide) (by decide)) (s_call T.d15 (hr.mono (Nat.le_succ _)) rfl tk (s_cons (s_var rfl (by first | exact .inl rfl | exact .inr (.inl rfl) | exact .inr (.inr rfl)) (by decide) (by decide)) (s_cons k_int s_nil rfl) rfl) rfl rfl (by decide)) rfl) rfl (by first | exact .inl rfl | exact .inr rfl)) (ss_cons (.inl hsv) (ss_for hsv hpo rfl (q_rng1 rfl G.free_range (q_D (s_bin (s_varB rfl (by first | exact .inl rfl | exact .inr (.inl rfl) | exact .inr (.inr rfl)) (by decide) (by decide)) (q_bor k_int rfl))) rfl) (g_v ND rfl (by first | exact .inl rfl | exact .inr rfl) (by first | exact .inl rfl | exact .inr rfl)) (ss_cons (.inl hsv) (ss_set (.inr rfl) ND rfl (by first | exact .inl rfl | exact .inr rfl) (q_D (s_bin (s_varB rfl (by first | exact .inl rfl | exact .inr (.inl rfl) | exact .inr (.inr rfl)) (by decide) (by decide)) (q_bor (s_ix hu1q (s_varB rfl (by first | exact .inl rfl | exact .inr (.inl rfl) | exact .inr (.inr rfl)) (by decide) (by decide)) (s_call T.d15 (hr.mono (Nat.le_succ _)) rfl tk (s_cons (s_var rfl (by first | exact .inl rfl | exact .inr (.inl rfl) | exact .inr (.inr rfl)) (by decide) (by decide)) (s_cons k_int s_nil rfl) rfl) rfl rfl (by decide)) rfl) rfl))) rfl (by first | exact .inl rfl | exact .inr rfl)) ss_nil) (fun _ => rfl)) (ss_cons (.inl hsv) (ss_ret (.inr rfl) (s_var rfl (by first | exact .inl rfl | exact .inr (.inl rfl) | exact .inr (.inr rfl)) (by decide) (by decide))) ss_nil)))))
theorem body20 (G : Facts P w K mg) (T : TabOk P w K mg base n) {qual : Str} {f : Addr} (cdv : Value) (A : Around) (outer : List PySem.Env) (s : Shared) (H : Hp) (E : XK) (W : WW) (hsv : W.sv = false) (hx : W.x = none) (tk : Takes (cxOf (L2.CX P w) P w K mg base N20 qual (defScope st20) f cdv A outer s H E) W) (hr : Room (2 * n + 1) (A.deeper (envOfC qual (defScope st20) s.heap.objs.size f cdv))) :
    PSs (cxOf (L2.CX P w) P w K mg base N20 qual (defScope st20) f cdv A outer s H E) (defBody st20) (tSs K W (callN tab n) ir20) := by
  have ND : List.Nodup (cxOf (L2.CX P w) P w K mg base N20 qual (defScope st20) f cdv A outer s H E).N := (by decide : List.Nodup N20)
  have hpo : PassesOwn (model P w) (cxOf (L2.CX P w) P w K mg base N20 qual (defScope st20) f cdv A outer s H E).A (cxOf (L2.CX P w) P w K mg base N20 qual (defScope st20) f cdv A outer s H E).env (cxOf (L2.CX P w) P w K mg base N20 qual (defScope st20) f cdv A outer s H E).xe := passes_of rfl
  have hu := hu65 hr
  have hu1q := hu1 hr
  have hu64q := hu64 hr
  exact (ss_cons (.inl hsv) (ss_own ND rfl (by first | exact .inl rfl | exact .inr rfl) (s_lst s_nil) rfl (by first | exact .inl rfl | exact .inr rfl)) (ss_cons (.inl hsv) (ss_for hsv hpo rfl (q_rng1 rfl G.free_range (s_var rfl (by first | exact .inl rfl | exact .inr (.inl rfl) | exact .inr (.inr rfl)) (by decide) (by decide)) rfl) (g_v ND rfl (by first | exact .inl rfl | exact .inr rfl) (by first | exact .inl rfl | exact .inr rfl)) (ss_cons (.inl hsv) (ss_set (.inr rfl) ND rfl (by first | exact .inl rfl | exact .inr rfl) (s_call T.d19 (hr.mono (Nat.le_succ _)) rfl tk (s_cons (s_var rfl (by first | exact .inl rfl | exact .inr (.inl rfl) | exact .inr (.inr rfl)) (by decide) (by decide)) s_nil rfl) rfl rfl (by decide)) rfl (by first | exact .inl rfl | exact .inr rfl)) (ss_cons (.inl hsv) (ss_set (.inr rfl) ND rfl (by first | exact .inl rfl | exact .inr rfl) (q_D (s_bin (q_bor (q_D (s_lst (s_cons (s_var rfl (by first | exact .inl rfl | exact .inr (.inl rfl) | exact .inr (.inr rfl)) (by decide) (by decide)) s_nil rfl))) rfl) (q_bor (q_D (s_lc rfl ND (q_rngB (q_rng1 rfl G.free_range k_int rfl)) (own := [("turn",6)]) rfl rfl (by decide) ⟨fun s H c cl fp => (g_v ND rfl (by first | exact .inl rfl | exact .inr rfl) (by first | exact .inl rfl | exact .inr rfl)), (fun s H c cl fp => if_none), (fun s H c cl fp => (q_D (s_bin (q_bor (q_D (s_sl (s_varB rfl (by first | exact .inl rfl | exact .inr (.inl rfl) | exact .inr (.inr rfl)) (by decide) (by decide)) o_none (o_some k_int))) rfl) (q_bor (q_D (s_biT bi_str rfl G.free_str (by decide +kernel) (b_cons (s_varB rfl (by first | exact .inl rfl | exact .inr (.inl rfl) | exact .inr (.inr rfl)) (by decide) (by decide)) b_nil rfl) rfl rfl (by decide) (by decide))) rfl))))⟩ (fun _ => rfl))) rfl))) rfl (by first | exact .inl rfl | exact .inr rfl)) (ss_cons (.inl hsv) (ss_app hsv rfl (by first | exact .inl rfl | exact .inr (.inl rfl) | exact .inr (.inr rfl)) (by decide) (by decide) (s_ix hu1q (q_bor (q_D (s_lc rfl ND (i_seq (s_varB rfl (by first | exact .inl rfl | exact .inr (.inl rfl) | exact .inr (.inr rfl)) (by decide) (by decide))) (own := [("one",7)]) rfl rfl (by decide) ⟨fun s H c cl fp => (g_v ND rfl (by first | exact .inl rfl | exact .inr rfl) (by first | exact .inl rfl | exact .inr rfl)), (fun s H c cl fp => (if_one (s_cmpT hu (s_varB rfl (by first | exact .inl rfl | exact .inr (.inl rfl) | exact .inr (.inr rfl)) (by decide) (by decide)) (s_varB rfl (by first | exact .inl rfl | exact .inr (.inl rfl) | exact .inr (.inr rfl)) (by decide) (by decide)) rfl))), (fun s H c cl fp => (s_var rfl (by first | exact .inl rfl | exact .inr (.inl rfl) | exact .inr (.inr rfl)) (by decide) (by decide)))⟩ (fun _ => rfl))) rfl) k_int rfl) rfl rfl rfl) ss_nil))) (fun _ => rfl)) (ss_cons (.inl hsv) (ss_ret (.inl hsv) (s_var rfl (by first | exact .inl rfl | exact .inr (.inl rfl) | exact .inr (.inr rfl)) (by decide) (by decide))) ss_nil)))
theorem body21 (G : Facts P w K mg) (T : TabOk P w K mg base n) {qual : Str} {f : Addr} (cdv : Value) (A : Around) (outer : List PySem.Env) (s : Shared) (H : Hp) (E : XK) (W : WW) (hsv : W.sv = false) (hx : W.x = none) (tk : Takes (cxOf (L2.CX P w) P w K mg base N21 qual (defScope st21) f cdv A outer s H E) W) (hr : Room (2 * n + 1) (A.deeper (envOfC qual (defScope st21) s.heap.objs.size f cdv))) :
    PSs (cxOf (L2.CX P w) P w K mg base N21 qual (defScope st21) f cdv A outer s H E) (defBody st21) (tSs K W (callN tab n) ir21) := by
  have ND : List.Nodup (cxOf (L2.CX P w) P w K mg base N21 qual (defScope st21) f cdv A outer s H E).N := (by decide : List.Nodup N21)
  have hpo : PassesOwn (model P w) (cxOf (L2.CX P w) P w K mg base N21 qual (defScope st21) f cdv A outer s H E).A (cxOf (L2.CX P w) P w K mg base N21 qual (defScope st21) f cdv A outer s H E).env (cxOf (L2.CX P w) P w K mg base N21 qual (defScope st21) f cdv A outer s H E).xe := passes_of rfl
  have hu := hu65 hr
  have hu1q := hu1 hr
  have hu64q := hu64 hr
  exact (ss_cons (.inl hsv) (ss_ret (.inr rfl) (s_and (s_isi rfl G.free_isinstance (s_varB rfl (by first | exact .inl rfl | exact .inr (.inl rfl) | exact .inr (.inr rfl)) (by decide) (by decide)) rfl (q_ty rfl G.free_int (by decide +kernel) (by decide) (by decide)) rfl (by decide)) (q_and1 (s_not (s_isi rfl G.free_isinstance (s_varB rfl (by first | exact .inl rfl | exact .inr (.inl rfl) | exact .inr (.inr rfl)) (by decide) (by decide)) rfl (q_ty rfl G.free_bool (by decide +kernel) (by decide) (by decide)) rfl (by decide)))))) ss_nil)
theorem body22 (G : Facts P w K mg) (T : TabOk P w K mg base n) {qual : Str} {f : Addr} (cdv : Value) (A : Around) (outer : List PySem.Env) (s : Shared) (H : Hp) (E : XK) (W : WW) (hsv : W.sv = false) (hx : W.x = none) (tk : Takes (cxOf (L2.CX P w) P w K mg base N22 qual (defScope st22) f cdv A outer s H E) W) (hr : Room (2 * n + 1) (A.deeper (envOfC qual (defScope st22) s.heap.objs.size f cdv))) :
    PSs (cxOf (L2.CX P w) P w K mg base N22 qual (defScope st22) f cdv A outer s H E) (defBody st22) (tSs K W (callN tab n) ir22) := by
  have ND : List.Nodup (cxOf (L2.CX P w) P w K mg base N22 qual (defScope st22) f cdv A outer s H E).N := (by decide : List.Nodup N22)
  have hpo : PassesOwn (model P w) (cxOf (L2.CX P w) P w K mg base N22 qual (defScope st22) f cdv A outer s H E).A (cxOf (L2.CX P w) P w K mg base N22 qual (defScope st22) f cdv A outer s H E).env (cxOf (L2.CX P w) P w K mg base N22 qual (defScope st22) f cdv A outer s H E).xe := passes_of rfl
  have hu := hu65 hr
  have hu1q := hu1 hr
  have hu64q := hu64 hr
  exact (ss_cons (.inl hsv) (ss_ret (.inr rfl) (s_ix hu1q (q_bor (q_D (s_lc rfl ND (i_seq (q_bor (q_D (s_lc rfl ND (q_rngB (q_rng1 rfl G.free_range k_int rfl)) (own := [("k",2)]) rfl rfl (by decide) ⟨fun s H c cl fp => (g_v ND rfl (by first | exact .inl rfl | exact .inr rfl) (by first | exact .inl rfl | exact .inr rfl)), (fun s H c cl fp => if_none), (fun s H c cl fp => (q_D (s_bin (q_bor k_str rfl) (q_bor (q_D (s_biT bi_str rfl G.free_str (by decide +kernel) (b_cons (s_varB rfl (by first | exact .inl rfl | exact .inr (.inl rfl) | exact .inr (.inr rfl)) (by decide) (by decide)) b_nil rfl) rfl rfl (by decide) (by decide))) rfl))))⟩ (fun _ => rfl))) rfl)) (own := [("name",1)]) rfl rfl (by decide) ⟨fun s H c cl fp => (g_v ND rfl (by first | exact .inl rfl | exact .inr rfl) (by first | exact .inl rfl | exact .inr rfl)), (fun s H c cl fp => (if_one (s_cmpT hu (s_varB rfl (by first | exact .inl rfl | exact .inr (.inl rfl) | exact .inr (.inr rfl)) (by decide) (by decide)) (s_varB rfl (by first | exact .inl rfl | exact .inr (.inl rfl) | exact .inr (.inr rfl)) (by decide) (by decide)) rfl))), (fun s H c cl fp => (s_var rfl (by first | exact .inl rfl | exact .inr (.inl rfl) | exact .inr (.inr rfl)) (by decide) (by decide)))⟩ (fun _ => rfl))) rfl) k_int rfl)) ss_nil)
theorem body23 (G : Facts P w K mg) (T : TabOk P w K mg base n) {qual : Str} {f : Addr} (cdv : Value) (A : Around) (outer : List PySem.Env) (s : Shared) (H : Hp) (E : XK) (W : WW) (hsv : W.sv = false) (hx : W.x = none) (tk : Takes (cxOf (L2.CX P w) P w K mg base N23 qual (defScope st23) f cdv A outer s H E) W) (hr : Room (2 * n + 1) (A.deeper (envOfC qual (defScope st23) s.heap.objs.size f cdv))) :
    PSs (cxOf (L2.CX P w) P w K mg base N23 qual (defScope st23) f cdv A outer s H E) (defBody st23) (tSs K W (callN tab n) ir23) := by
  have ND : List.Nodup (cxOf (L2.CX P w) P w K mg base N23 qual (defScope st23) f cdv A outer s H E).N := (by decide : List.Nodup N23)
  have hpo : PassesOwn (model P w) (cxOf (L2.CX P w) P w K mg base N23 qual (defScope st23) f cdv A outer s H E).A (cxOf (L2.CX P w) P w K mg base N23 qual (defScope st23) f cdv A outer s H E).env (cxOf (L2.CX P w) P w K mg base N23 qual (defScope st23) f cdv A outer s H E).xe := passes_of rfl
  have hu := hu65 hr
  have hu1q := hu1 hr
  have hu64q := hu64 hr
  exact (ss_cons (.inl hsv) (ss_ret (.inr rfl) (s_and (s_cmp hu (s_varB rfl (by first | exact .inl rfl | exact .inr (.inl rfl) | exact .inr (.inr rfl)) (by decide) (by decide)) (s_varB rfl (by first | exact .inl rfl | exact .inr (.inl rfl) | exact .inr (.inr rfl)) (by decide) (by decide)) rfl) (q_and1 (s_cmp hu (q_bor (s_call T.d21 (hr.mono (Nat.le_succ _)) rfl tk (s_cons (s_ix hu1q (s_varB rfl (by first | exact .inl rfl | exact .inr (.inl rfl) | exact .inr (.inr rfl)) (by decide) (by decide)) k_int rfl) s_nil rfl) rfl rfl (by decide)) rfl) (q_bor (s_call T.d21 (hr.mono (Nat.le_succ _)) rfl tk (s_cons (s_ix hu1q (s_varB rfl (by first | exact .inl rfl | exact .inr (.inl rfl) | exact .inr (.inr rfl)) (by decide) (by decide)) k_int rfl) s_nil rfl) rfl rfl (by decide)) rfl) rfl)))) ss_nil)
theorem body24 (G : Facts P w K mg) (T : TabOk P w K mg base n) {qual : Str} {f : Addr} (cdv : Value) (A : Around) (outer : List PySem.Env) (s : Shared) (H : Hp) (E : XK) (W : WW) (hsv : W.sv = false) (hx : W.x = none) (tk : Takes (cxOf (L2.CX P w) P w K mg base N24 qual (defScope st24) f cdv A outer s H E) W) (hr : Room (2 * n + 1) (A.deeper (envOfC qual (defScope st24) s.heap.objs.size f cdv))) :
    PSs (cxOf (L2.CX P w) P w K mg base N24 qual (defScope st24) f cdv A outer s H E) (defBody st24) (tSs K W (callN tab n) ir24) := by
  have ND : List.Nodup (cxOf (L2.CX P w) P w K mg base N24 qual (defScope st24) f cdv A outer s H E).N := (by decide : List.Nodup N24)
  have hpo : PassesOwn (model P w) (cxOf (L2.CX P w) P w K mg base N24 qual (defScope st24) f cdv A outer s H E).A (cxOf (L2.CX P w) P w K mg base N24 qual (defScope st24) f cdv A outer s H E).env (cxOf (L2.CX P w) P w K mg base N24 qual (defScope st24) f cdv A outer s H E).xe := passes_of rfl
  have hu := hu65 hr
  have hu1q := hu1 hr
  have hu64q := hu64 hr
  exact (ss_cons (.inl hsv) (ss_set (.inr rfl) ND rfl (by first | exact .inl rfl | exact .inr rfl) (q_D (s_bi (bi_sorted hu64q) rfl G.free_sorted (by decide +kernel) (b_cons (q_bor (q_D (s_lc rfl ND (q_rngB (q_rng1 rfl G.free_range (q_D (s_bi bi_len rfl G.free_len (by decide +kernel) (b_cons (s_varB rfl (by first | exact .inl rfl | exact .inr (.inl rfl) | exact .inr (.inr rfl)) (by decide) (by decide)) b_nil rfl) rfl rfl (by decide) (by decide))) rfl)) (own := [("k",4)]) rfl rfl (by decide) ⟨fun s H c cl fp => (g_v ND rfl (by first | exact .inl rfl | exact .inr rfl) (by first | exact .inl rfl | exact .inr rfl)), (fun s H c cl fp => (if_one (s_cmpT hu (q_bor (s_ix hu1q (q_bor (s_ix hu1q (s_varB rfl (by first | exact .inl rfl | exact .inr (.inl rfl) | exact .inr (.inr rfl)) (by decide) (by decide)) (s_var rfl (by first | exact .inl rfl | exact .inr (.inl rfl) | exact .inr (.inr rfl)) (by decide) (by decide)) rfl) rfl) k_int rfl) rfl) (s_varB rfl (by first | exact .inl rfl | exact .inr (.inl rfl) | exact .inr (.inr rfl)) (by decide) (by decide)) rfl))), (fun s H c cl fp => (s_tup (s_cons (q_D (s_bin (q_bor k_int rfl) (q_bor (s_ix hu1q (q_bor (s_ix hu1q (s_varB rfl (by first | exact .inl rfl | exact .inr (.inl rfl) | exact .inr (.inr rfl)) (by decide) (by decide)) (s_var rfl (by first | exact .inl rfl | exact .inr (.inl rfl) | exact .inr (.inr rfl)) (by decide) (by decide)) rfl) rfl) k_int rfl) rfl))) (s_cons (s_var rfl (by first | exact .inl rfl | exact .inr (.inl rfl) | exact .inr (.inr rfl)) (by decide) (by decide)) s_nil rfl) rfl)))⟩ (fun _ => rfl))) rfl) b_nil rfl) rfl rfl (by decide) (by decide))) rfl (by first | exact .inl rfl | exact .inr rfl)) (ss_cons (.inl hsv) (ss_if (s_cmpT hu (s_varB rfl (by first | exact .inl rfl | exact .inr (.inl rfl) | exact .inr (.inr rfl)) (by decide) (by decide)) (q_bor (q_D (s_lst s_nil)) rfl) rfl) (ss_cons (.inl hsv) (ss_ret (.inr rfl) (s_tup (s_cons k_non (s_cons k_non s_nil rfl) rfl))) ss_nil) ss_nil) (ss_cons (.inl hsv) (ss_set (.inr rfl) ND rfl (by first | exact .inl rfl | exact .inr rfl) (s_ix hu1q (q_bor (s_ix hu1q (s_varB rfl (by first | exact .inl rfl | exact .inr (.inl rfl) | exact .inr (.inr rfl)) (by decide) (by decide)) (s_ix hu1q (q_bor (s_ix hu1q (s_varB rfl (by first | exact .inl rfl | exact .inr (.inl rfl) | exact .inr (.inr rfl)) (by decide) (by decide)) k_int rfl) rfl) k_int rfl) rfl) rfl) k_int rfl) rfl (by first | exact .inl rfl | exact .inr rfl)) (ss_cons (.inl hsv) (ss_ret (.inr rfl) (s_tup (s_cons (s_var rfl (by first | exact .inl rfl | exact .inr (.inl rfl) | exact .inr (.inr rfl)) (by decide) (by decide)) (s_cons (q_D (s_bi (bi_max rfl hu64q) rfl G.free_max (by decide +kernel) (b_cons (q_bor (q_D (s_bin (q_bor (q_D (s_lst (s_cons (s_var rfl (by first | exact .inl rfl | exact .inr (.inl rfl) | exact .inr (.inr rfl)) (by decide) (by decide)) s_nil rfl))) rfl) (q_bor (q_D (s_lc rfl ND (i_seq (s_varB rfl (by first | exact .inl rfl | exact .inr (.inl rfl) | exact .inr (.inr rfl)) (by decide) (by decide))) (own := [("other",5),("bid",6)]) rfl rfl (by decide) ⟨fun s H c cl fp => (g_t rfl (g_cons (g_v ND rfl (by first | exact .inl rfl | exact .inr rfl) (by first | exact .inl rfl | exact .inr rfl)) (g_cons (g_v ND rfl (by first | exact .inl rfl | exact .inr rfl) (by first | exact .inl rfl | exact .inr rfl)) g_nil rfl) rfl) rfl rfl), (fun s H c cl fp => (if_one (s_cmpT hu (s_varB rfl (by first | exact .inl rfl | exact .inr (.inl rfl) | exact .inr (.inr rfl)) (by decide) (by decide)) (s_varB rfl (by first | exact .inl rfl | exact .inr (.inl rfl) | exact .inr (.inr rfl)) (by decide) (by decide)) rfl))), (fun s H c cl fp => (s_var rfl (by first | exact .inl rfl | exact .inr (.inl rfl) | exact .inr (.inr rfl)) (by decide) (by decide)))⟩ (fun _ => rfl))) rfl))) rfl) b_nil rfl) rfl rfl (by decide) (by decide))) s_nil rfl) rfl))) ss_nil))))
theorem body25 (G : Facts P w K mg) (T : TabOk P w K mg base n) {qual : Str} {f : Addr} (cdv : Value) (A : Around) (outer : List PySem.Env) (s : Shared) (H : Hp) (E : XK) (W : WW) (hsv : W.sv = false) (hx : W.x = none) (tk : Takes (cxOf (L2.CX P w) P w K mg base N25 qual (defScope st25) f cdv A outer s H E) W) (hr : Room (2 * n + 1) (A.deeper (envOfC qual (defScope st25) s.heap.objs.size f cdv))) :
    PSs (cxOf (L2.CX P w) P w K mg base N25 qual (defScope st25) f cdv A outer s H E) (defBody st25) (tSs K W (callN tab n) ir25) := by
  have ND : List.Nodup (cxOf (L2.CX P w) P w K mg base N25 qual (defScope st25) f cdv A outer s H E).N := (by decide : List.Nodup N25)
  have hpo : PassesOwn (model P w) (cxOf (L2.CX P w) P w K mg base N25 qual (defScope st25) f cdv A outer s H E).A (cxOf (L2.CX P w) P w K mg base N25 qual (defScope st25) f cdv A outer s H E).env (cxOf (L2.CX P w) P w K mg base N25 qual (defScope st25) f cdv A outer s H E).xe := passes_of rfl
  have hu := hu65 hr
  have hu1q := hu1 hr
  have hu64q := hu64 hr
  exact (ss_cons (.inl hsv) (ss_asg (.inr rfl) (s_call T.d24 (hr.mono (Nat.le_succ _)) rfl tk (s_cons (s_var rfl (by first | exact .inl rfl | exact .inr (.inl rfl) | exact .inr (.inr rfl)) (by decide) (by decide)) (s_cons (s_var rfl (by first | exact .inl rfl | exact .inr (.inl rfl) | exact .inr (.inr rfl)) (by decide) (by decide)) s_nil rfl) rfl) rfl rfl (by decide)) (g_t rfl (g_cons (g_v ND rfl (by first | exact .inl rfl | exact .inr rfl) (by first | exact .inl rfl | exact .inr rfl)) (g_cons (g_v ND rfl (by first | exact .inl rfl | exact .inr rfl) (by first | exact .inl rfl | exact .inr rfl)) g_nil rfl) rfl) rfl rfl) rfl rfl rfl) (ss_cons (.inl hsv) (ss_if (s_cmpT hu (s_varB rfl (by first | exact .inl rfl | exact .inr (.inl rfl) | exact .inr (.inr rfl)) (by decide) (by decide)) (s_varB rfl (by first | exact .inl rfl | exact .inr (.inl rfl) | exact .inr (.inr rfl)) (by decide) (by decide)) rfl) (ss_cons (.inl hsv) (ss_ret (.inr rfl) k_int) ss_nil) ss_nil) (ss_cons (.inl hsv) (ss_ret (.inr rfl) (q_D (s_bin (s_varB rfl (by first | exact .inl rfl | exact .inr (.inl rfl) | exact .inr (.inr rfl)) (by decide) (by decide)) (s_varB rfl (by first | exact .inl rfl | exact .inr (.inl rfl) | exact .inr (.inr rfl)) (by decide) (by decide))))) ss_nil)))
theorem body26 (G : Facts P w K mg) (T : TabOk P w K mg base n) {qual : Str} {f : Addr} (cdv : Value) (A : Around) (outer : List PySem.Env) (s : Shared) (H : Hp) (E : XK) (W : WW) (hsv : W.sv = false) (hx : W.x = none) (tk : Takes (cxOf (L2.CX P w) P w K mg base N26 qual (defScope st26) f cdv A outer s H E) W) (hr : Room (2 * n + 1) (A.deeper (envOfC qual (defScope st26) s.heap.objs.size f cdv))) :
    PSs (cxOf (L2.CX P w) P w K mg base N26 qual (defScope st26) f cdv A outer s H E) (defBody st26) (tSs K W (callN tab n) ir26) := by
  have ND : List.Nodup (cxOf (L2.CX P w) P w K mg base N26 qual (defScope st26) f cdv A outer s H E).N := (by decide : List.Nodup N26)
  have hpo : PassesOwn (model P w) (cxOf (L2.CX P w) P w K mg base N26 qual (defScope st26) f cdv A outer s H E).A (cxOf (L2.CX P w) P w K mg base N26 qual (defScope st26) f cdv A outer s H E).env (cxOf (L2.CX P w) P w K mg base N26 qual (defScope st26) f cdv A outer s H E).xe := passes_of rfl
  have hu := hu65 hr
  have hu1q := hu1 hr
  have hu64q := hu64 hr
  exact (ss_cons (.inl hsv) (ss_tryN hx hsv rfl rfl tk (fun W1 pn xe tk hpo => (ss_cons (.inr (still_ok _ rfl)) (ss_if (s_cmpT hu (s_varB rfl (by first | exact .inl rfl | exact .inr (.inl rfl) | exact .inr (.inr rfl)) (by decide) (by decide)) (q_bor k_int rfl) rfl) (ss_cons (.inr (still_ok _ rfl)) (ss_ex (s_mk T.d7 hr rfl tk (s_cons (s_var rfl (by first | exact .inl rfl | exact .inr (.inl rfl) | exact .inr (.inr rfl)) (by decide) (by decide)) (s_cons k_int s_nil rfl) rfl) rfl rfl (by decide)) rfl) ss_nil) (ss_cons (.inr (still_ok _ rfl)) (ss_ex (s_call T.d14 (hr.mono (Nat.le_succ _)) rfl tk (s_cons (s_var rfl (by first | exact .inl rfl | exact .inr (.inl rfl) | exact .inr (.inr rfl)) (by decide) (by decide)) (s_cons k_int (s_cons k_int s_nil rfl) rfl) rfl) rfl rfl (by decide)) rfl) ss_nil)) ss_nil)) (.cons ⟨rfl, rfl, .inl G.glo_BadItem⟩ ND rfl rfl G.exm_BadItem (fun a oe cls d pn hz hf => (ss_cons (.inl rfl) (ss_ret (.inr rfl) (s_tup (s_cons k_str (s_cons (s_xf hz hf rfl (by first | exact .inl rfl | exact .inr (.inl rfl) | exact .inr (.inr rfl)) (by decide) (by decide) G.xf_index rfl) s_nil rfl) rfl))) ss_nil)) (.cons ⟨rfl, rfl, .inl G.glo_TooMany⟩ ND rfl rfl G.exm_TooMany (fun a oe cls d pn hz hf => (ss_cons (.inl rfl) (ss_ret (.inr rfl) (s_tup (s_cons k_str (s_cons (s_xf hz hf rfl (by first | exact .inl rfl | exact .inr (.inl rfl) | exact .inr (.inr rfl)) (by decide) (by decide) G.xf_limit rfl) s_nil rfl) rfl))) ss_nil)) (.cons ⟨rfl, rfl, .inl G.glo_Taken⟩ ND rfl rfl G.exm_Taken (fun a oe cls d pn hz hf => (ss_cons (.inl rfl) (ss_ret (.inr rfl) (s_tup (s_cons k_str (s_cons (s_xf hz hf rfl (by first | exact .inl rfl | exact .inr (.inl rfl) | exact .inr (.inr rfl)) (by decide) (by decide) G.xf_value rfl) s_nil rfl) rfl))) ss_nil)) .nil)))) (ss_cons (.inl hsv) (ss_ret (.inr rfl) k_non) ss_nil))
theorem body27 (G : Facts P w K mg) (T : TabOk P w K mg base n) {qual : Str} {f : Addr} (cdv : Value) (A : Around) (outer : List PySem.Env) (s : Shared) (H : Hp) (E : XK) (W : WW) (hsv : W.sv = false) (hx : W.x = none) (tk : Takes (cxOf (L2.CX P w) P w K mg base N27 qual (defScope st27) f cdv A outer s H E) W) (hr : Room (2 * n + 1) (A.deeper (envOfC qual (defScope st27) s.heap.objs.size f cdv))) :
    PSs (cxOf (L2.CX P w) P w K mg base N27 qual (defScope st27) f cdv A outer s H E) (defBody st27) (tSs K W (callN tab n) ir27) := by
  have ND : List.Nodup (cxOf (L2.CX P w) P w K mg base N27 qual (defScope st27) f cdv A outer s H E).N := (by decide : List.Nodup N27)
  have hpo : PassesOwn (model P w) (cxOf (L2.CX P w) P w K mg base N27 qual (defScope st27) f cdv A outer s H E).A (cxOf (L2.CX P w) P w K mg base N27 qual (defScope st27) f cdv A outer s H E).env (cxOf (L2.CX P w) P w K mg base N27 qual (defScope st27) f cdv A outer s H E).xe := passes_of rfl
  have hu := hu65 hr
  have hu1q := hu1 hr
  have hu64q := hu64 hr
  exact (ss_cons (.inl hsv) (ss_obj ND rfl (by first | exact .inl rfl | exact .inr rfl) (s_lst (s_cons (s_var rfl (by first | exact .inl rfl | exact .inr (.inl rfl) | exact .inr (.inr rfl)) (by decide) (by decide)) (s_cons k_int (s_cons k_int (s_cons k_int s_nil rfl) rfl) rfl) rfl)) rfl (by first | exact .inl rfl | exact .inr rfl)) (ss_cons (.inl hsv) (ss_set (.inr rfl) ND rfl (by first | exact .inl rfl | exact .inr rfl) (s_call T.d20 (hr.mono (Nat.le_succ _)) rfl tk (s_cons (s_var rfl (by first | exact .inl rfl | exact .inr (.inl rfl) | exact .inr (.inr rfl)) (by decide) (by decide)) (s_cons (s_call T.d15 (hr.mono (Nat.le_succ _)) rfl tk (s_cons (s_var rfl (by first | exact .inl rfl | exact .inr (.inl rfl) | exact .inr (.inr rfl)) (by decide) (by decide)) (s_cons k_int s_nil rfl) rfl) rfl rfl (by decide)) s_nil rfl) rfl) rfl rfl (by decide)) rfl (by first | exact .inl rfl | exact .inr rfl)) (ss_cons (.inl hsv) (ss_asg (.inr rfl) (s_tup (s_cons (q_D (s_lc rfl ND (i_seq (s_varB rfl (by first | exact .inl rfl | exact .inr (.inl rfl) | exact .inr (.inr rfl)) (by decide) (by decide))) (own := [("name",7)]) rfl rfl (by decide) ⟨fun s H c cl fp => (g_v ND rfl (by first | exact .inl rfl | exact .inr rfl) (by first | exact .inl rfl | exact .inr rfl)), (fun s H c cl fp => if_none), (fun s H c cl fp => (s_tup (s_cons (s_var rfl (by first | exact .inl rfl | exact .inr (.inl rfl) | exact .inr (.inr rfl)) (by decide) (by decide)) (s_cons (s_call T.d15 (hr.mono (Nat.le_succ _)) rfl takes_no (s_cons (s_var rfl (by first | exact .inl rfl | exact .inr (.inl rfl) | exact .inr (.inr rfl)) (by decide) (by decide)) (s_cons k_int s_nil rfl) rfl) rfl rfl (by decide)) s_nil rfl) rfl)))⟩ (fun _ => rfl))) (s_cons (s_call T.d15 (hr.mono (Nat.le_succ _)) rfl tk (s_cons (s_var rfl (by first | exact .inl rfl | exact .inr (.inl rfl) | exact .inr (.inr rfl)) (by decide) (by decide)) (s_cons k_int s_nil rfl) rfl) rfl rfl (by decide)) s_nil rfl) rfl)) (g_t rfl (g_cons (g_v ND rfl (by first | exact .inl rfl | exact .inr rfl) (by first | exact .inl rfl | exact .inr rfl)) (g_cons (g_v ND rfl (by first | exact .inl rfl | exact .inr rfl) (by first | exact .inl rfl | exact .inr rfl)) g_nil rfl) rfl) rfl rfl) rfl rfl rfl) (ss_cons (.inl hsv) (ss_set (.inr rfl) ND rfl (by first | exact .inl rfl | exact .inr rfl) (s_mk T.d7 hr rfl tk (s_cons (s_call T.d18 (hr.mono (Nat.le_succ _)) rfl tk (s_cons (s_var rfl (by first | exact .inl rfl | exact .inr (.inl rfl) | exact .inr (.inr rfl)) (by decide) (by decide)) (s_cons (q_D (s_lc rfl ND (i_seq (s_varB rfl (by first | exact .inl rfl | exact .inr (.inl rfl) | exact .inr (.inr rfl)) (by decide) (by decide))) (own := [("bid",20)]) rfl rfl (by decide) ⟨fun s H c cl fp => (g_v ND rfl (by first | exact .inl rfl | exact .inr rfl) (by first | exact .inl rfl | exact .inr rfl)), (fun s H c cl fp => if_none), (fun s H c cl fp => (s_call T.d18 (hr.mono (Nat.le_succ _)) rfl takes_no (s_cons (s_var rfl (by first | exact .inl rfl | exact .inr (.inl rfl) | exact .inr (.inr rfl)) (by decide) (by decide)) (s_cons (s_var rfl (by first | exact .inl rfl | exact .inr (.inl rfl) | exact .inr (.inr rfl)) (by decide) (by decide)) s_nil rfl) rfl) rfl rfl (by decide)))⟩ (fun _ => rfl))) s_nil rfl) rfl) rfl rfl (by decide)) (s_cons (s_var rfl (by first | exact .inl rfl | exact .inr (.inl rfl) | exact .inr (.inr rfl)) (by decide) (by decide)) s_nil rfl) rfl) rfl rfl (by decide)) rfl (by first | exact .inl rfl | exact .inr rfl)) (ss_cons (.inl hsv) (ss_if (PW.pt (w_or (s_notT (q_truth (s_call T.d17 (hr.mono (Nat.le_succ _)) rfl tk (s_cons (s_tup (s_cons (s_attr G.cls_Sale G.na_Sale__bids (s_varB rfl (by first | exact .inl rfl | exact .inr (.inl rfl) | exact .inr (.inr rfl)) (by decide) (by decide)) rfl) (s_cons (s_attr G.cls_Sale G.na_Sale__least (s_varB rfl (by first | exact .inl rfl | exact .inr (.inl rfl) | exact .inr (.inr rfl)) (by decide) (by decide)) rfl) s_nil rfl) rfl)) (s_cons (s_tup (s_cons (q_D (s_biT bi_tuple rfl G.free_tuple (by decide +kernel) (b_cons (s_varB rfl (by first | exact .inl rfl | exact .inr (.inl rfl) | exact .inr (.inr rfl)) (by decide) (by decide)) b_nil rfl) rfl rfl (by decide) (by decide))) (s_cons (s_var rfl (by first | exact .inl rfl | exact .inr (.inl rfl) | exact .inr (.inr rfl)) (by decide) (by decide)) s_nil rfl) rfl)) s_nil rfl) rfl) rfl rfl (by decide)) rfl fun _ => rfl)) (w_or (s_eqoT (.inr ⟨rfl, rfl⟩) T.d8 G.eqc_Sale hr (s_var rfl (by first | exact .inl rfl | exact .inr (.inl rfl) | exact .inr (.inr rfl)) (by decide) (by decide)) (s_mk T.d7 hr rfl tk (s_cons (s_var rfl (by first | exact .inl rfl | exact .inr (.inl rfl) | exact .inr (.inr rfl)) (by decide) (by decide)) (s_cons (s_var rfl (by first | exact .inl rfl | exact .inr (.inl rfl) | exact .inr (.inr rfl)) (by decide) (by decide)) s_nil rfl) rfl) rfl rfl (by decide))) (w_or (s_eqoT (.inl ⟨rfl, rfl⟩) T.d8 G.eqc_Sale hr (s_var rfl (by first | exact .inl rfl | exact .inr (.inl rfl) | exact .inr (.inr rfl)) (by decide) (by decide)) (s_mk T.d7 hr rfl tk (s_cons (s_var rfl (by first | exact .inl rfl | exact .inr (.inl rfl) | exact .inr (.inr rfl)) (by decide) (by decide)) (s_cons (q_D (s_bin (s_varB rfl (by first | exact .inl rfl | exact .inr (.inl rfl) | exact .inr (.inr rfl)) (by decide) (by decide)) (q_bor k_int rfl))) s_nil rfl) rfl) rfl rfl (by decide))) (w_or1 (s_eqoT (.inl ⟨rfl, rfl⟩) T.d8 G.eqc_Sale hr (s_var rfl (by first | exact .inl rfl | exact .inr (.inl rfl) | exact .inr (.inr rfl)) (by decide) (by decide)) (s_tup (s_cons (q_D (s_biT bi_tuple rfl G.free_tuple (by decide +kernel) (b_cons (s_varB rfl (by first | exact .inl rfl | exact .inr (.inl rfl) | exact .inr (.inr rfl)) (by decide) (by decide)) b_nil rfl) rfl rfl (by decide) (by decide))) (s_cons (s_var rfl (by first | exact .inl rfl | exact .inr (.inl rfl) | exact .inr (.inr rfl)) (by decide) (by decide)) s_nil rfl) rfl)))))))) (ss_cons (.inl hsv) (ss_ret (.inr rfl) k_bl) ss_nil) ss_nil) (ss_cons (.inl hsv) (ss_if (s_notT (q_truth (s_call T.d17 (hr.mono (Nat.le_succ _)) rfl tk (s_cons (s_tup (s_cons (s_meth0 T.d9 (hr.mono (Nat.le_succ _)) tk (s_var rfl (by first | exact .inl rfl | exact .inr (.inl rfl) | exact .inr (.inr rfl)) (by decide) (by decide)) rfl) (s_cons (s_meth0 T.d10 (hr.mono (Nat.le_succ _)) tk (s_var rfl (by first | exact .inl rfl | exact .inr (.inl rfl) | exact .inr (.inr rfl)) (by decide) (by decide)) rfl) s_nil rfl) rfl)) (s_cons (s_call T.d24 (hr.mono (Nat.le_succ _)) rfl tk (s_cons (s_var rfl (by first | exact .inl rfl | exact .inr (.inl rfl) | exact .inr (.inr rfl)) (by decide) (by decide)) (s_cons (s_var rfl (by first | exact .inl rfl | exact .inr (.inl rfl) | exact .inr (.inr rfl)) (by decide) (by decide)) s_nil rfl) rfl) rfl rfl (by decide)) s_nil rfl) rfl) rfl rfl (by decide)) rfl fun _ => rfl)) (ss_cons (.inl hsv) (ss_ret (.inr rfl) k_bl) ss_nil) ss_nil) (ss_cons (.inl hsv) (ss_for hsv hpo rfl (q_rng1 rfl G.free_range (q_D (s_bi bi_len rfl G.free_len (by decide +kernel) (b_cons (s_varB rfl (by first | exact .inl rfl | exact .inr (.inl rfl) | exact .inr (.inr rfl)) (by decide) (by decide)) b_nil rfl) rfl rfl (by decide) (by decide))) rfl) (g_v ND rfl (by first | exact .inl rfl | exact .inr rfl) (by first | exact .inl rfl | exact .inr rfl)) (ss_cons (.inl hsv) (ss_asg (.inr rfl) (s_tup (s_cons (s_ix hu1q (s_varB rfl (by first | exact .inl rfl | exact .inr (.inl rfl) | exact .inr (.inr rfl)) (by decide) (by decide)) (s_var rfl (by first | exact .inl rfl | exact .inr (.inl rfl) | exact .inr (.inr rfl)) (by decide) (by decide)) rfl) (s_cons (s_call T.d15 (hr.mono (Nat.le_succ _)) rfl tk (s_cons (s_var rfl (by first | exact .inl rfl | exact .inr (.inl rfl) | exact .inr (.inr rfl)) (by decide) (by decide)) (s_cons k_int s_nil rfl) rfl) rfl rfl (by decide)) s_nil rfl) rfl)) (g_t rfl (g_cons (g_v ND rfl (by first | exact .inl rfl | exact .inr rfl) (by first | exact .inl rfl | exact .inr rfl)) (g_cons (g_v ND rfl (by first | exact .inl rfl | exact .inr rfl) (by first | exact .inl rfl | exact .inr rfl)) g_nil rfl) rfl) rfl rfl) rfl rfl rfl) (ss_cons (.inl hsv) (ss_setLc (.inr rfl) rfl ND rfl rfl rfl (q_rngB (q_rng1 rfl G.free_range k_int rfl)) (own := [("bid",20)]) rfl rfl (by decide) ⟨fun s H c cl fp => (g_v ND rfl (by first | exact .inl rfl | exact .inr rfl) (by first | exact .inl rfl | exact .inr rfl)), (fun s H c cl fp => if_none), (fun s H c cl fp => (q_D (s_bin (q_bor (q_D (s_bin (q_bor (q_D (s_sl (s_varB rfl (by first | exact .inl rfl | exact .inr (.inl rfl) | exact .inr (.inr rfl)) (by decide) (by decide)) o_none (o_some (s_var rfl (by first | exact .inl rfl | exact .inr (.inl rfl) | exact .inr (.inr rfl)) (by decide) (by decide))))) rfl) (q_bor (q_D (s_lst (s_cons (s_tup (s_cons (s_var rfl (by first | exact .inl rfl | exact .inr (.inl rfl) | exact .inr (.inr rfl)) (by decide) (by decide)) (s_cons (s_var rfl (by first | exact .inl rfl | exact .inr (.inl rfl) | exact .inr (.inr rfl)) (by decide) (by decide)) s_nil rfl) rfl)) s_nil rfl))) rfl))) rfl) (q_bor (q_D (s_sl (s_varB rfl (by first | exact .inl rfl | exact .inr (.inl rfl) | exact .inr (.inr rfl)) (by decide) (by decide)) (o_some (q_D (s_bin (s_varB rfl (by first | exact .inl rfl | exact .inr (.inl rfl) | exact .inr (.inr rfl)) (by decide) (by decide)) (q_bor k_int rfl)))) o_none)) rfl))))⟩ (fun _ => rfl)) (ss_cons (.inl hsv) (ss_setLc (.inr rfl) rfl ND rfl rfl rfl (i_seq (s_varB rfl (by first | exact .inl rfl | exact .inr (.inl rfl) | exact .inr (.inr rfl)) (by decide) (by decide))) (own := [("some",21)]) rfl rfl (by decide) ⟨fun s H c cl fp => (g_v ND rfl (by first | exact .inl rfl | exact .inr rfl) (by first | exact .inl rfl | exact .inr rfl)), (fun s H c cl fp => if_none), (fun s H c cl fp => (s_call T.d25 (hr.mono (Nat.le_succ _)) rfl takes_no (s_cons (s_var rfl (by first | exact .inl rfl | exact .inr (.inl rfl) | exact .inr (.inr rfl)) (by decide) (by decide)) (s_cons (s_var rfl (by first | exact .inl rfl | exact .inr (.inl rfl) | exact .inr (.inr rfl)) (by decide) (by decide)) (s_cons (s_var rfl (by first | exact .inl rfl | exact .inr (.inl rfl) | exact .inr (.inr rfl)) (by decide) (by decide)) (s_cons (s_var rfl (by first | exact .inl rfl | exact .inr (.inl rfl) | exact .inr (.inr rfl)) (by decide) (by decide)) s_nil rfl) rfl) rfl) rfl) rfl rfl (by decide)))⟩ (fun _ => rfl)) (ss_cons (.inl hsv) (ss_if (PW.pt (w_or (s_notT (q_truth (s_call T.d17 (hr.mono (Nat.le_succ _)) rfl tk (s_cons (s_meth T.d11 (hr.mono (Nat.le_succ _)) tk (s_var rfl (by first | exact .inl rfl | exact .inr (.inl rfl) | exact .inr (.inr rfl)) (by decide) (by decide)) (s_cons (s_var rfl (by first | exact .inl rfl | exact .inr (.inl rfl) | exact .inr (.inr rfl)) (by decide) (by decide)) (s_cons (s_var rfl (by first | exact .inl rfl | exact .inr (.inl rfl) | exact .inr (.inr rfl)) (by decide) (by decide)) s_nil rfl) rfl) rfl rfl rfl) (s_cons (s_call T.d25 (hr.mono (Nat.le_succ _)) rfl tk (s_cons (s_var rfl (by first | exact .inl rfl | exact .inr (.inl rfl) | exact .inr (.inr rfl)) (by decide) (by decide)) (s_cons (s_var rfl (by first | exact .inl rfl | exact .inr (.inl rfl) | exact .inr (.inr rfl)) (by decide) (by decide)) (s_cons (s_var rfl (by first | exact .inl rfl | exact .inr (.inl rfl) | exact .inr (.inr rfl)) (by decide) (by decide)) (s_cons (s_var rfl (by first | exact .inl rfl | exact .inr (.inl rfl) | exact .inr (.inr rfl)) (by decide) (by decide)) s_nil rfl) rfl) rfl) rfl) rfl rfl (by decide)) s_nil rfl) rfl) rfl rfl (by decide)) rfl fun _ => rfl)) (w_or1 (s_cmpT hu (q_bor (q_D (s_bi (bi_max rfl hu64q) rfl G.free_max (by decide +kernel) (b_cons (s_varB rfl (by first | exact .inl rfl | exact .inr (.inl rfl) | exact .inr (.inr rfl)) (by decide) (by decide)) b_nil rfl) rfl rfl (by decide) (by decide))) rfl) (q_bor (s_ix hu1q (s_varB rfl (by first | exact .inl rfl | exact .inr (.inl rfl) | exact .inr (.inr rfl)) (by decide) (by decide)) (s_var rfl (by first | exact .inl rfl | exact .inr (.inl rfl) | exact .inr (.inr rfl)) (by decide) (by decide)) rfl) rfl) rfl)))) (ss_cons (.inl hsv) (ss_ret (.inr rfl) k_bl) ss_nil) ss_nil) (ss_cons (.inl hsv) (ss_if (s_notT (q_truth (s_call T.d17 (hr.mono (Nat.le_succ _)) rfl tk (s_cons (s_meth T.d13 (hr.mono (Nat.le_succ _)) tk (s_var rfl (by first | exact .inl rfl | exact .inr (.inl rfl) | exact .inr (.inr rfl)) (by decide) (by decide)) (s_cons (s_var rfl (by first | exact .inl rfl | exact .inr (.inl rfl) | exact .inr (.inr rfl)) (by decide) (by decide)) (s_cons (s_var rfl (by first | exact .inl rfl | exact .inr (.inl rfl) | exact .inr (.inr rfl)) (by decide) (by decide)) s_nil rfl) rfl) rfl rfl rfl) (s_cons (s_index (s_varB rfl (by first | exact .inl rfl | exact .inr (.inl rfl) | exact .inr (.inr rfl)) (by decide) (by decide)) (q_bor (q_D (s_bi (bi_max rfl hu64q) rfl G.free_max (by decide +kernel) (b_cons (s_varB rfl (by first | exact .inl rfl | exact .inr (.inl rfl) | exact .inr (.inr rfl)) (by decide) (by decide)) b_nil rfl) rfl rfl (by decide) (by decide))) rfl) rfl rfl rfl) s_nil rfl) rfl) rfl rfl (by decide)) rfl fun _ => rfl)) (ss_cons (.inl hsv) (ss_ret (.inr rfl) k_bl) ss_nil) ss_nil) (ss_cons (.inl hsv) (ss_if (s_eqoT (.inr ⟨rfl, rfl⟩) T.d8 G.eqc_Sale hr (s_meth T.d12 (hr.mono (Nat.le_succ _)) tk (s_var rfl (by first | exact .inl rfl | exact .inr (.inl rfl) | exact .inr (.inr rfl)) (by decide) (by decide)) (s_cons (s_var rfl (by first | exact .inl rfl | exact .inr (.inl rfl) | exact .inr (.inr rfl)) (by decide) (by decide)) (s_cons k_int s_nil rfl) rfl) rfl rfl rfl) (s_mk T.d7 hr rfl tk (s_cons (s_ix hu1q (s_varB rfl (by first | exact .inl rfl | exact .inr (.inl rfl) | exact .inr (.inr rfl)) (by decide) (by decide)) k_int rfl) (s_cons (s_var rfl (by first | exact .inl rfl | exact .inr (.inl rfl) | exact .inr (.inr rfl)) (by decide) (by decide)) s_nil rfl) rfl) rfl rfl (by decide))) (ss_cons (.inl hsv) (ss_ret (.inr rfl) k_bl) ss_nil) ss_nil) ss_nil)))))) (fun _ => rfl)) (ss_cons (.inl hsv) (ss_set (.inr rfl) ND rfl (by first | exact .inl rfl | exact .inr rfl) (s_call T.d15 (hr.mono (Nat.le_succ _)) rfl tk (s_cons (s_var rfl (by first | exact .inl rfl | exact .inr (.inl rfl) | exact .inr (.inr rfl)) (by decide) (by decide)) (s_cons k_int s_nil rfl) rfl) rfl rfl (by decide)) rfl (by first | exact .inl rfl | exact .inr rfl)) (ss_cons (.inl hsv) (ss_set (.inr rfl) ND rfl (by first | exact .inl rfl | exact .inr rfl) (q_D (s_sl (q_bor (q_D (s_lc rfl ND (i_seq (q_bor (q_D (s_bi (bi_sorted hu64q) rfl G.free_sorted (by decide +kernel) (b_cons (q_bor (q_D (s_lc rfl ND (q_rngB (q_rng1 rfl G.free_range (q_D (s_bi bi_len rfl G.free_len (by decide +kernel) (b_cons (s_varB rfl (by first | exact .inl rfl | exact .inr (.inl rfl) | exact .inr (.inr rfl)) (by decide) (by decide)) b_nil rfl) rfl rfl (by decide) (by decide))) rfl)) (own := [("k",6)]) rfl rfl (by decide) ⟨fun s H c cl fp => (g_v ND rfl (by first | exact .inl rfl | exact .inr rfl) (by first | exact .inl rfl | exact .inr rfl)), (fun s H c cl fp => (if_one (s_cmpT hu (q_bor (s_ix hu1q (q_bor (s_ix hu1q (s_varB rfl (by first | exact .inl rfl | exact .inr (.inl rfl) | exact .inr (.inr rfl)) (by decide) (by decide)) (s_var rfl (by first | exact .inl rfl | exact .inr (.inl rfl) | exact .inr (.inr rfl)) (by decide) (by decide)) rfl) rfl) k_int rfl) rfl) (s_varB rfl (by first | exact .inl rfl | exact .inr (.inl rfl) | exact .inr (.inr rfl)) (by decide) (by decide)) rfl))), (fun s H c cl fp => (s_tup (s_cons (q_D (s_bin (q_bor k_int rfl) (q_bor (s_ix hu1q (q_bor (s_ix hu1q (s_varB rfl (by first | exact .inl rfl | exact .inr (.inl rfl) | exact .inr (.inr rfl)) (by decide) (by decide)) (s_var rfl (by first | exact .inl rfl | exact .inr (.inl rfl) | exact .inr (.inr rfl)) (by decide) (by decide)) rfl) rfl) k_int rfl) rfl))) (s_cons (s_var rfl (by first | exact .inl rfl | exact .inr (.inl rfl) | exact .inr (.inr rfl)) (by decide) (by decide)) s_nil rfl) rfl)))⟩ (fun _ => rfl))) rfl) b_nil rfl) rfl rfl (by decide) (by decide))) rfl)) (own := [("bid",20),("k",6)]) rfl rfl (by decide) ⟨fun s H c cl fp => (g_t rfl (g_cons (g_v ND rfl (by first | exact .inl rfl | exact .inr rfl) (by first | exact .inl rfl | exact .inr rfl)) (g_cons (g_v ND rfl (by first | exact .inl rfl | exact .inr rfl) (by first | exact .inl rfl | exact .inr rfl)) g_nil rfl) rfl) rfl rfl), (fun s H c cl fp => if_none), (fun s H c cl fp => (s_var rfl (by first | exact .inl rfl | exact .inr (.inl rfl) | exact .inr (.inr rfl)) (by decide) (by decide)))⟩ (fun _ => rfl))) rfl) o_none (o_some (s_var rfl (by first | exact .inl rfl | exact .inr (.inl rfl) | exact .inr (.inr rfl)) (by decide) (by decide))))) rfl (by first | exact .inl rfl | exact .inr rfl)) (ss_cons (.inl hsv) (ss_set (.inr rfl) ND rfl (by first | exact .inl rfl | exact .inr rfl) (q_D (s_bi (bi_max rfl hu64q) rfl G.free_max (by decide +kernel) (b_cons (q_bor (q_D (s_bin (q_bor (q_D (s_lst (s_cons (s_var rfl (by first | exact .inl rfl | exact .inr (.inl rfl) | exact .inr (.inr rfl)) (by decide) (by decide)) s_nil rfl))) rfl) (q_bor (q_D (s_lc rfl ND (q_rngB (q_rng1 rfl G.free_range (q_D (s_bi bi_len rfl G.free_len (by decide +kernel) (b_cons (s_varB rfl (by first | exact .inl rfl | exact .inr (.inl rfl) | exact .inr (.inr rfl)) (by decide) (by decide)) b_nil rfl) rfl rfl (by decide) (by decide))) rfl)) (own := [("k",6)]) rfl rfl (by decide) ⟨fun s H c cl fp => (g_v ND rfl (by first | exact .inl rfl | exact .inr rfl) (by first | exact .inl rfl | exact .inr rfl)), (fun s H c cl fp => (if_one (s_cmpT hu (s_varB rfl (by first | exact .inl rfl | exact .inr (.inl rfl) | exact .inr (.inr rfl)) (by decide) (by decide)) (s_varB rfl (by first | exact .inl rfl | exact .inr (.inl rfl) | exact .inr (.inr rfl)) (by decide) (by decide)) rfl))), (fun s H c cl fp => (s_ix hu1q (q_bor (s_ix hu1q (s_varB rfl (by first | exact .inl rfl | exact .inr (.inl rfl) | exact .inr (.inr rfl)) (by decide) (by decide)) (s_var rfl (by first | exact .inl rfl | exact .inr (.inl rfl) | exact .inr (.inr rfl)) (by decide) (by decide)) rfl) rfl) k_int rfl))⟩ (fun _ => rfl))) rfl))) rfl) b_nil rfl) rfl rfl (by decide) (by decide))) rfl (by first | exact .inl rfl | exact .inr rfl)) (ss_cons (.inl hsv) (ss_if (s_notT (q_truth (s_call T.d17 (hr.mono (Nat.le_succ _)) rfl tk (s_cons (s_call T.d14 (hr.mono (Nat.le_succ _)) rfl tk (s_cons (s_call T.d18 (hr.mono (Nat.le_succ _)) rfl tk (s_cons (s_var rfl (by first | exact .inl rfl | exact .inr (.inl rfl) | exact .inr (.inr rfl)) (by decide) (by decide)) (s_cons (s_var rfl (by first | exact .inl rfl | exact .inr (.inl rfl) | exact .inr (.inr rfl)) (by decide) (by decide)) s_nil rfl) rfl) rfl rfl (by decide)) (s_cons (s_var rfl (by first | exact .inl rfl | exact .inr (.inl rfl) | exact .inr (.inr rfl)) (by decide) (by decide)) (s_cons (s_var rfl (by first | exact .inl rfl | exact .inr (.inl rfl) | exact .inr (.inr rfl)) (by decide) (by decide)) s_nil rfl) rfl) rfl) rfl rfl (by decide)) (s_cons (s_tup (s_cons (q_D (s_biT bi_tuple rfl G.free_tuple (by decide +kernel) (b_cons (q_bor (q_D (s_lc rfl ND (i_seq (q_bor (q_D (s_bi (bi_sorted hu64q) rfl G.free_sorted (by decide +kernel) (b_cons (s_varB rfl (by first | exact .inl rfl | exact .inr (.inl rfl) | exact .inr (.inr rfl)) (by decide) (by decide)) b_nil rfl) rfl rfl (by decide) (by decide))) rfl)) (own := [("k",6)]) rfl rfl (by decide) ⟨fun s H c cl fp => (g_v ND rfl (by first | exact .inl rfl | exact .inr rfl) (by first | exact .inl rfl | exact .inr rfl)), (fun s H c cl fp => if_none), (fun s H c cl fp => (s_ix hu1q (s_varB rfl (by first | exact .inl rfl | exact .inr (.inl rfl) | exact .inr (.inr rfl)) (by decide) (by decide)) (s_var rfl (by first | exact .inl rfl | exact .inr (.inl rfl) | exact .inr (.inr rfl)) (by decide) (by decide)) rfl))⟩ (fun _ => rfl))) rfl) b_nil rfl) rfl rfl (by decide) (by decide))) (s_cons (s_var rfl (by first | exact .inl rfl | exact .inr (.inl rfl) | exact .inr (.inr rfl)) (by decide) (by decide)) s_nil rfl) rfl)) s_nil rfl) rfl) rfl rfl (by decide)) rfl fun _ => rfl)) (ss_cons (.inl hsv) (ss_ret (.inr rfl) k_bl) ss_nil) ss_nil) (ss_cons (.inl hsv) (ss_set (.inr rfl) ND rfl (by first | exact .inl rfl | exact .inr rfl) (s_call T.d22 (hr.mono (Nat.le_succ _)) rfl tk (s_cons (s_var rfl (by first | exact .inl rfl | exact .inr (.inl rfl) | exact .inr (.inr rfl)) (by decide) (by decide)) s_nil rfl) rfl rfl (by decide)) rfl (by first | exact .inl rfl | exact .inr rfl)) (ss_cons (.inl hsv) (ss_for hsv hpo rfl (q_rng1 rfl G.free_range k_int rfl) (g_v ND rfl (by first | exact .inl rfl | exact .inr rfl) (by first | exact .inl rfl | exact .inr rfl)) (ss_cons (.inl hsv) (ss_try1 hx hsv rfl rfl ND rfl rfl ⟨rfl, rfl, .inl G.glo_Unknown⟩ tk G.exm_Unknown (fun W1 pn xe tk hpo => (ss_cons (.inr (still_ok _ rfl)) (ss_if (s_cmpT hu (s_varB rfl (by first | exact .inl rfl | exact .inr (.inl rfl) | exact .inr (.inr rfl)) (by decide) (by decide)) (q_bor k_int rfl) rfl) (ss_cons (.inr (still_ok _ rfl)) (ss_ex (s_meth T.d11 (hr.mono (Nat.le_succ _)) tk (s_var rfl (by first | exact .inl rfl | exact .inr (.inl rfl) | exact .inr (.inr rfl)) (by decide) (by decide)) (s_cons (s_var rfl (by first | exact .inl rfl | exact .inr (.inl rfl) | exact .inr (.inr rfl)) (by decide) (by decide)) (s_cons k_int s_nil rfl) rfl) rfl rfl rfl) rfl) ss_nil) (ss_cons (.inr (still_ok _ rfl)) (ss_if (s_cmpT hu (s_varB rfl (by first | exact .inl rfl | exact .inr (.inl rfl) | exact .inr (.inr rfl)) (by decide) (by decide)) (q_bor k_int rfl) rfl) (ss_cons (.inr (still_ok _ rfl)) (ss_ex (s_meth T.d12 (hr.mono (Nat.le_succ _)) tk (s_var rfl (by first | exact .inl rfl | exact .inr (.inl rfl) | exact .inr (.inr rfl)) (by decide) (by decide)) (s_cons (s_var rfl (by first | exact .inl rfl | exact .inr (.inl rfl) | exact .inr (.inr rfl)) (by decide) (by decide)) (s_cons k_int s_nil rfl) rfl) rfl rfl rfl) rfl) ss_nil) (ss_cons (.inr (still_ok _ rfl)) (ss_ex (s_meth T.d13 (hr.mono (Nat.le_succ _)) tk (s_var rfl (by first | exact .inl rfl | exact .inr (.inl rfl) | exact .inr (.inr rfl)) (by decide) (by decide)) (s_cons (s_var rfl (by first | exact .inl rfl | exact .inr (.inl rfl) | exact .inr (.inr rfl)) (by decide) (by decide)) (s_cons k_int s_nil rfl) rfl) rfl rfl rfl) rfl) ss_nil)) ss_nil)) (ss_cons (.inr (still_ok _ rfl)) (ss_ret (.inr rfl) k_bl) ss_nil))) (fun a oe cls d pn hz hf => (ss_cons (.inl rfl) (ss_if (s_cmpT hu (q_bor (s_xf hz hf rfl (by first | exact .inl rfl | exact .inr (.inl rfl) | exact .inr (.inr rfl)) (by decide) (by decide) G.xf_value rfl) rfl) (s_varB rfl (by first | exact .inl rfl | exact .inr (.inl rfl) | exact .inr (.inr rfl)) (by decide) (by decide)) rfl) (ss_cons (.inl rfl) (ss_ret (.inr rfl) k_bl) ss_nil) ss_nil) ss_nil))) ss_nil) (fun _ => rfl)) (ss_cons (.inl hsv) (ss_set (.inr rfl) ND rfl (by first | exact .inl rfl | exact .inr rfl) (s_call T.d16 (hr.mono (Nat.le_succ _)) rfl tk (s_cons (s_var rfl (by first | exact .inl rfl | exact .inr (.inl rfl) | exact .inr (.inr rfl)) (by decide) (by decide)) (s_cons (q_D (s_lst (s_cons (s_tup (s_cons k_str (s_cons k_int s_nil rfl) rfl)) (s_cons (s_tup (s_cons k_str (s_cons (s_neg k_int) s_nil rfl) rfl)) (s_cons (s_tup (s_cons k_str (s_cons k_int s_nil rfl) rfl)) (s_cons (s_tup (s_cons k_str (s_cons k_bl s_nil rfl) rfl)) (s_cons (s_tup (s_cons k_str s_nil rfl)) (s_cons k_non s_nil rfl) rfl) rfl) rfl) rfl) rfl))) s_nil rfl) rfl) rfl rfl (by decide)) rfl (by first | exact .inl rfl | exact .inr rfl)) (ss_cons (.inl hsv) (ss_for hsv hpo rfl (i_seqF (q_D (s_lst (s_cons (s_tup (s_cons (q_D (s_bin (s_varB rfl (by first | exact .inl rfl | exact .inr (.inl rfl) | exact .inr (.inr rfl)) (by decide) (by decide)) (q_bor (q_D (s_lst (s_cons (s_var rfl (by first | exact .inl rfl | exact .inr (.inl rfl) | exact .inr (.inr rfl)) (by decide) (by decide)) s_nil rfl))) rfl))) (s_cons (s_tup (s_cons k_str (s_cons (q_D (s_bi bi_len rfl G.free_len (by decide +kernel) (b_cons (s_varB rfl (by first | exact .inl rfl | exact .inr (.inl rfl) | exact .inr (.inr rfl)) (by decide) (by decide)) b_nil rfl) rfl rfl (by decide) (by decide))) s_nil rfl) rfl)) s_nil rfl) rfl)) (s_cons (s_tup (s_cons k_non (s_cons (s_tup (s_cons k_str (s_cons k_non s_nil rfl) rfl)) s_nil rfl) rfl)) (s_cons (s_tup (s_cons (q_D (s_lc rfl ND (q_rngB (q_rng1 rfl G.free_range k_int rfl)) (own := [("k",6)]) rfl rfl (by decide) ⟨fun s H c cl fp => (g_v ND rfl (by first | exact .inl rfl | exact .inr rfl) (by first | exact .inl rfl | exact .inr rfl)), (fun s H c cl fp => if_none), (fun s H c cl fp => (s_tup (s_cons (q_D (s_bin (q_bor k_str rfl) (q_bor (q_D (s_biT bi_str rfl G.free_str (by decide +kernel) (b_cons (s_varB rfl (by first | exact .inl rfl | exact .inr (.inl rfl) | exact .inr (.inr rfl)) (by decide) (by decide)) b_nil rfl) rfl rfl (by decide) (by decide))) rfl))) (s_cons k_int s_nil rfl) rfl)))⟩ (fun _ => rfl))) (s_cons (s_tup (s_cons k_str (s_cons k_int s_nil rfl) rfl)) s_nil rfl) rfl)) (s_cons (s_tup (s_cons (q_D (s_lst (s_cons (s_tup (s_cons k_str (s_cons k_int s_nil rfl) rfl)) (s_cons (s_tup (s_cons k_str (s_cons k_int s_nil rfl) rfl)) s_nil rfl) rfl))) (s_cons (s_tup (s_cons k_str (s_cons k_str s_nil rfl) rfl)) s_nil rfl) rfl)) s_nil rfl) rfl) rfl) rfl)))) (g_t rfl (g_cons (g_v ND rfl (by first | exact .inl rfl | exact .inr rfl) (by first | exact .inl rfl | exact .inr rfl)) (g_cons (g_v ND rfl (by first | exact .inl rfl | exact .inr rfl) (by first | exact .inl rfl | exact .inr rfl)) g_nil rfl) rfl) rfl rfl) (ss_cons (.inl hsv) (ss_if (s_cmpT hu (q_bor (q_D (s_lc rfl ND (q_rngB (q_rng1 rfl G.free_range k_int rfl)) (own := [("turn",15)]) rfl rfl (by decide) ⟨fun s H c cl fp => (g_v ND rfl (by first | exact .inl rfl | exact .inr rfl) (by first | exact .inl rfl | exact .inr rfl)), (fun s H c cl fp => (if_one (s_notT (q_truth (s_call T.d23 (hr.mono (Nat.le_succ _)) rfl takes_no (s_cons (s_call T.d26 (hr.mono (Nat.le_succ _)) rfl takes_no (s_cons (s_var rfl (by first | exact .inl rfl | exact .inr (.inl rfl) | exact .inr (.inr rfl)) (by decide) (by decide)) (s_cons (s_var rfl (by first | exact .inl rfl | exact .inr (.inl rfl) | exact .inr (.inr rfl)) (by decide) (by decide)) s_nil rfl) rfl) rfl rfl (by decide)) (s_cons (s_var rfl (by first | exact .inl rfl | exact .inr (.inl rfl) | exact .inr (.inr rfl)) (by decide) (by decide)) s_nil rfl) rfl) rfl rfl (by decide)) rfl fun _ => rfl)))), (fun s H c cl fp => (s_var rfl (by first | exact .inl rfl | exact .inr (.inl rfl) | exact .inr (.inr rfl)) (by decide) (by decide)))⟩ (fun _ => rfl))) rfl) (q_bor (q_D (s_lst s_nil)) rfl) rfl) (ss_cons (.inl hsv) (ss_ret (.inr rfl) k_bl) ss_nil) ss_nil) ss_nil) (fun _ => rfl)) (ss_cons (.inl hsv) (ss_ret (.inr rfl) k_bl) ss_nil))))))))))))))))
end
end Eng
set_option Elab.async false
set_option linter.all false
set_option maxRecDepth 100000
set_option maxHeartbeats 2000000
/-! Law 1: what the evaluator says of the defs that the laws share -/
namespace Eng
open PySem PySem.Spec L2

/-! ### the evaluator's rows, one by one (a comprehension's are left out) -/
section
variable {C : Calls} {env : Env} {st : Store}
@[simp] theorem e_var (i : Nat) : (evP C env (.var i)).1 st = ofO (getV env i) st := rfl
@[simp] theorem e_c (d : D) : (evP C env (.c d)).1 st = .ok d st := rfl
@[simp] theorem e_gl (x : Str) (d : D) : (evP C env (.gl x d)).1 st = .ok d st := rfl
@[simp] theorem e_fn (x : Str) : (evP C env (.fn x)).1 st = .ok (.fn x) st := rfl
@[simp] theorem e_bin (op : Operator) (a b : E) : (evP C env (.bin op a b)).1 st = (bor env a (evP C env a).1 st).bnd fun x st => (bor env b (evP C env b).1 st).bnd fun y st => ofO (binD op x y) st := rfl
@[simp] theorem e_neg (a : E) : (evP C env (.neg a)).1 st = ((evP C env a).1 st).bnd fun x st => (match x with | .int i => .ok (.int (-i)) st | _ => .bad) := rfl
@[simp] theorem e_not (a : E) : (evP C env (.not a)).1 st = ((evP C env a).1 st).bnd fun d st => (ofO (truthD d) st).bnd fun b st => .ok (.bl (!b)) st := rfl
@[simp] theorem t_not (a : E) : (evP C env (.not a)).2 st = ((evP C env a).2 st).bnd fun b st => .ok (!b) st := rfl
@[simp] theorem e_cmp (op : CmpOp) (a b : E) : (evP C env (.cmp op a b)).1 st = (bor env a (evP C env a).1 st).bnd fun x st => (bor env b (evP C env b).1 st).bnd fun y st => ofO ((cmpD op x y).map .bl) st := rfl
@[simp] theorem t_cmp (op : CmpOp) (a b : E) : (evP C env (.cmp op a b)).2 st = ((evP C env (.cmp op a b)).1 st).bnd fun d st => ofO (truthD d) st := rfl
@[simp] theorem e_cmp2 (op op' : CmpOp) (a b c : E) : (evP C env (.cmp2 op op' a b c)).1 st = ((evP C env a).1 st).bnd fun x st => ((evP C env b).1 st).bnd fun y st => (ofO (cmpD op x y) st).bnd fun r st => (match r with
    | true => ((evP C env c).1 st).bnd fun z st => ofO ((cmpD op' y z).map .bl) st
    | false => .ok (.bl false) st) := rfl
@[simp] theorem t_cmp2 (op op' : CmpOp) (a b c : E) : (evP C env (.cmp2 op op' a b c)).2 st = ((evP C env (.cmp2 op op' a b c)).1 st).bnd fun d st => ofO (truthD d) st := rfl
@[simp] theorem e_and (es : Es) : (evP C env (.and es)).1 st = evAnd C env es st := rfl
@[simp] theorem t_and (es : Es) : (evP C env (.and es)).2 st = evTAnd C env es st := rfl
@[simp] theorem e_or (es : Es) : (evP C env (.or es)).1 st = evOr C env es st := rfl
@[simp] theorem t_or (es : Es) : (evP C env (.or es)).2 st = evTOr C env es st := rfl
@[simp] theorem e_ife (c a b : E) : (evP C env (.ife c a b)).1 st = ((evP C env c).2 st).bnd fun r st => (match r with | true => (evP C env a).1 st | false => (evP C env b).1 st) := rfl
@[simp] theorem e_tup (es : Es) : (evP C env (.tup es)).1 st = (evEs C env es st).bnd fun ds st => chkO (decide (ds.length ≤ sizeLine)) (.ok (.tup ds) st) := rfl
@[simp] theorem e_lst (es : Es) : (evP C env (.lst es)).1 st = (evEs C env es st).bnd fun ds st => chkO (decide (ds.length ≤ sizeLine)) (.ok (.lst ds) st) := rfl
@[simp] theorem e_ix (a i : E) : (evP C env (.ix a i)).1 st = (bor env a (evP C env a).1 st).bnd fun x st => ((evP C env i).1 st).bnd fun k st => ofO ((deref st x).bind fun x => ixS x k) st := rfl
@[simp] theorem e_sl (a : E) (lo hi : Op) : (evP C env (.sl a lo hi)).1 st = (bor env a (evP C env a).1 st).bnd fun x st => (evO C env lo st).bnd fun l st => (evO C env hi st).bnd fun h st => ofO (slD x l h) st := rfl
@[simp] theorem e_call (f : Nat) (es : Es) : (evP C env (.call f es)).1 st = (evEs C env es st).bnd fun ds st => C f ds st := rfl
@[simp] theorem t_call (f : Nat) (es : Es) : (evP C env (.call f es)).2 st = ((evP C env (.call f es)).1 st).bnd fun d st => ofO (truthD d) st := rfl
@[simp] theorem e_callv (i : Nat) (fs : List (Str × Nat)) (es : Es) : (evP C env (.callv i fs es)).1 st = (ofO ((getV env i).bind (fnIx fs)) st).bnd fun n st => (evEs C env es st).bnd fun ds st => C n ds st := rfl
@[simp] theorem t_callv (i : Nat) (fs : List (Str × Nat)) (es : Es) : (evP C env (.callv i fs es)).2 st = ((evP C env (.callv i fs es)).1 st).bnd fun d st => ofO (truthD d) st := rfl
@[simp] theorem e_attr (o : E) (c f : Str) : (evP C env (.attr o c f)).1 st = (bor env o (evP C env o).1 st).bnd fun x st => ofO ((deref st x).bind (attrD c f)) st := rfl
@[simp] theorem e_meth (o : E) (c m : Str) (f : Nat) (es : Es) : (evP C env (.meth o c m f es)).1 st = ((evP C env o).1 st).bnd fun x st => (ofO (deref st x) st).bnd fun y st => chkO (insIs c m y) ((evEs C env es st).bnd fun ds st => C f (x :: ds) st) := rfl
@[simp] theorem e_eqo (neg : Bool) (a : E) (c : Str) (f : Nat) (b : E) : (evP C env (.eqo neg a c f b)).1 st = ((evP C env a).1 st).bnd fun x st => ((evP C env b).1 st).bnd fun y st => chkO (insIs c "__eq__" x && eqR c y) (((C f [x, y] st).nox).bnd fun r st => (match r with | .bl k => .ok (.bl (if neg = true then !k else k)) st | _ => .bad)) := rfl
@[simp] theorem t_eqo (neg : Bool) (a : E) (c : Str) (f : Nat) (b : E) : (evP C env (.eqo neg a c f b)).2 st = ((evP C env (.eqo neg a c f b)).1 st).bnd fun d st => ofO (truthD d) st := rfl
@[simp] theorem e_xf (i : Nat) (al : List Str) (f : Str) : (evP C env (.xf i al f)).1 st = (match env[i]? with | some (.xc c ks ds) => chkO (decide (c ∈ al)) (ofO (fldD f ks ds) st) | _ => .bad) := rfl
@[simp] theorem e_bi (b : String) (es : Es) : (evP C env (.bi b es)).1 st = (evBs C env es st).bnd fun ds st => ofO (biD b ds) st := rfl
@[simp] theorem e_isi (a : E) (ts : List String) : (evP C env (.isi a ts)).1 st = (bor env a (evP C env a).1 st).bnd fun x st => ofO ((isTys ts x).map .bl) st := rfl
@[simp] theorem t_isi (a : E) (ts : List String) : (evP C env (.isi a ts)).2 st = ((evP C env (.isi a ts)).1 st).bnd fun d st => ofO (truthD d) st := rfl
@[simp] theorem e_isc (a : E) (c : Str) : (evP C env (.isc a c)).1 st = (bor env a (evP C env a).1 st).bnd fun x st => ofO ((isCls c x).map .bl) st := rfl
@[simp] theorem t_isc (a : E) (c : Str) : (evP C env (.isc a c)).2 st = ((evP C env (.isc a c)).1 st).bnd fun d st => ofO (truthD d) st := rfl
@[simp] theorem e_me (m : String) (o : E) (es : Es) : (evP C env (.me m o es)).1 st = (bor env o (evP C env o).1 st).bnd fun x st => chkO (isMe m x) ((evBs C env es st).bnd fun ds st => ofO (meD m x ds) st) := rfl
@[simp] theorem t_var (i : Nat) : (evP C env (.var i)).2 st = ((evP C env (.var i)).1 st).bnd fun d st => ofO (truthD d) st := rfl
end
/-! ### tools -/
theorem call_fn {tab : List FnI} {i ps ns : Nat} {body : Ss} (h : tab[i]? = some ⟨ps, ns, body, none⟩) (n : Nat) (ds : List D) (st : Store) (hl : ds.length = ps) : callN tab (n + 1) i ds st = endD (evSs (callN tab n) body (ds.map .val ++ List.replicate (ns - ps) .no) st) := by
  show (match tab[i]? with | some fi => runF (callN tab n) fi ds st | none => .bad) = _
  rw [h]
  show runF (callN tab n) _ ds st = _
  unfold runF
  rw [decide_eq_true hl]
theorem call_in {tab : List FnI} {i ps ns : Nat} {body : Ss} {c : Str} {m : Bool} (h : tab[i]? = some ⟨ps, ns, body, some (c, m)⟩) (n : Nat) (ds : List D) (st : Store) (hl : ds.length = ps) : callN tab (n + 1) i ds st = endI m (evSs (callN tab n) body (.own (.ins c [] []) :: (ds.map .val ++ List.replicate (ns - ps) .no)) st) := by
  show (match tab[i]? with | some fi => runF (callN tab n) fi ds st | none => .bad) = _
  rw [h]
  show runF (callN tab n) _ ds st = _
  unfold runF
  rw [decide_eq_true hl]
theorem evSs_next {C : Calls} {s : S} {ss : Ss} {env env' : Env} {st st' : Store} (h : evS C s env st = .ok (.nx env') st') : evSs C (.cons s ss) env st = evSs C ss env' st' := by
  show (evS C s env st).bnd _ = _
  rw [h]
  rfl
theorem evSs_ret {C : Calls} {s : S} {ss : Ss} {env : Env} {st st' : Store} {d : D} (h : evS C s env st = .ok (.rt d) st') : evSs C (.cons s ss) env st = .ok (.rt d) st' := by
  show (evS C s env st).bnd _ = _
  rw [h]
  rfl
theorem evSs_ex {C : Calls} {s : S} {ss : Ss} {env : Env} {st st' : Store} {c : Str} {ks : List Str} {ds : List D} (h : evS C s env st = .ex c ks ds st') : evSs C (.cons s ss) env st = .ex c ks ds st' := by
  show (evS C s env st).bnd _ = _
  rw [h]
  rfl
/-- a comprehension that draws nothing -/
theorem lcGo_pure {step : D → Store → Out (Option D)} {f : D → Option D} {st : Store} : ∀ {ds : List D}, (∀ d ∈ ds, step d st = .ok (f d) st) → lcGo step ds st = .ok (ds.filterMap f) st
  | [], _ => rfl
  | d :: ds, h => by
    show (((step d st).nox).bnd fun r st1 => (lcGo step ds st1).bnd fun acc st2 => .ok (match r with | some y => y :: acc | none => acc) st2) = _
    rw [h d List.mem_cons_self]
    show (lcGo step ds st).bnd _ = _
    rw [lcGo_pure fun d hd => h d (List.mem_cons_of_mem _ hd), List.filterMap_cons]
    cases f d <;> rfl
theorem lc_ok {C : Calls} {env : Env} {elt : E} {tg : Tg} {it : It} {ifs : Op} {ws : List Nat} {st : Store} {ds : List D} (f : D → Option D) (hit : evIt C env it st = .ok ds st)
    (h : ∀ d ∈ ds, ∃ env', bind1 tg d (wipeE env ws) = some env' ∧ ((f d = none ∧ evIf C env' ifs st = .ok false st) ∨ ∃ y, f d = some y ∧ evIf C env' ifs st = .ok true st ∧ (evP C env' elt).1 st = .ok y st)) :
    (evP C env (.lc elt tg it ifs ws)).1 st = .ok (.lst (ds.filterMap f)) st := by
  show (evIt C env it st).bnd _ = _
  rw [hit, Out.bnd_ok, lcGo_pure (f := f) fun d hd => ?_]
  · rfl
  · obtain ⟨env', e1, h1⟩ := h d hd
    rw [e1]
    show (evIf C env' ifs st).bnd _ = _
    rcases h1 with ⟨e2, e3⟩ | ⟨y, e2, e3, e4⟩
    · rw [e3, e2]
      rfl
    · rw [e3, e2]
      show ((evP C env' elt).1 st).bnd _ = _
      rw [e4]
      rfl
/-- one without a test -/
theorem lc_map {C : Calls} {env : Env} {elt : E} {tg : Tg} {it : It} {ws : List Nat} {st : Store} {ds : List D} (f : D → D) (hit : evIt C env it st = .ok ds st)
    (h : ∀ d ∈ ds, ∃ env', bind1 tg d (wipeE env ws) = some env' ∧ (evP C env' elt).1 st = .ok (f d) st) : (evP C env (.lc elt tg it .no ws)).1 st = .ok (.lst (ds.map f)) st := by
  have := lc_ok (C := C) (env := env) (elt := elt) (tg := tg) (it := it) (ifs := .no) (ws := ws) (st := st) (ds := ds) (fun d => some (f d)) hit fun d hd => by
    obtain ⟨env', e1, e2⟩ := h d hd
    exact ⟨env', e1, .inr ⟨_, rfl, rfl, e2⟩⟩
  rw [this]
  congr 2
  exact List.filterMap_eq_map' ▸ rfl
/-- with a test that keeps or drops -/
theorem lc_filter {C : Calls} {env : Env} {elt : E} {tg : Tg} {it : It} {c : E} {ws : List Nat} {st : Store} {ds : List D} (p : D → Bool) (f : D → D) (hit : evIt C env it st = .ok ds st)
    (h : ∀ d ∈ ds, ∃ env', bind1 tg d (wipeE env ws) = some env' ∧ (evP C env' c).2 st = .ok (p d) st ∧ (p d = true → (evP C env' elt).1 st = .ok (f d) st)) : (evP C env (.lc elt tg it (.so c) ws)).1 st = .ok (.lst ((ds.filter p).map f)) st := by
  have := lc_ok (C := C) (env := env) (elt := elt) (tg := tg) (it := it) (ifs := .so c) (ws := ws) (st := st) (ds := ds) (fun d => if p d = true then some (f d) else none) hit fun d hd => by
    obtain ⟨env', e1, e2, e3⟩ := h d hd
    refine ⟨env', e1, ?_⟩
    by_cases q : p d = true
    · exact .inr ⟨f d, by rw [if_pos q], by rw [← q]; exact e2, e3 q⟩
    · have q' : p d = false := by simpa using q
      exact .inl ⟨by rw [if_neg q], by rw [← q']; exact e2⟩
  rw [this]
  congr 2
  clear this h hit
  induction ds with
  | nil => rfl
  | cons d ds ih =>
    rw [List.filterMap_cons, List.filter_cons]
    by_cases q : p d = true
    · rw [if_pos q, if_pos q, List.map_cons, ih]
    · rw [if_neg q, if_neg q, ih]
/-- item by item -/
inductive All2 {α β : Type} (R : α → β → Prop) : List α → List β → Prop
  | nil : All2 R [] []
  | cons {a : α} {b : β} {as : List α} {bs : List β} : R a b → All2 R as bs → All2 R (a :: as) (b :: bs)
/-- a comprehension that draws -/
theorem lcGo_inv {step : D → Store → Out (Option D)} (I : Store → Prop) (R : D → D → Prop) : ∀ {ds : List D} {st : Store}, (∀ d ∈ ds, ∀ st, I st → ∃ y st', step d st = .ok (some y) st' ∧ I st' ∧ R d y) → I st → ∃ ys st', lcGo step ds st = .ok ys st' ∧ I st' ∧ All2 R ds ys
  | [], st, _, i => ⟨[], st, rfl, i, .nil⟩
  | d :: ds, st, h, i => by
    obtain ⟨y, st1, e1, i1, r1⟩ := h d List.mem_cons_self st i
    obtain ⟨ys, st2, e2, i2, r2⟩ := lcGo_inv I R (fun d hd => h d (List.mem_cons_of_mem _ hd)) i1
    refine ⟨y :: ys, st2, ?_, i2, .cons r1 r2⟩
    show (((step d st).nox).bnd fun r st1 => (lcGo step ds st1).bnd fun acc st2 => .ok (match r with | some y => y :: acc | none => acc) st2) = _
    rw [e1]
    show (lcGo step ds st1).bnd _ = _
    rw [e2]
    rfl
theorem lc_inv {C : Calls} {env : Env} {elt : E} {tg : Tg} {it : It} {ws : List Nat} {st : Store} {ds : List D} (I : Store → Prop) (R : D → D → Prop) (hit : evIt C env it st = .ok ds st)
    (h : ∀ d ∈ ds, ∀ st, I st → ∃ env' y st', bind1 tg d (wipeE env ws) = some env' ∧ (evP C env' elt).1 st = .ok y st' ∧ I st' ∧ R d y) (i : I st) :
    ∃ ys st', (evP C env (.lc elt tg it .no ws)).1 st = .ok (.lst ys) st' ∧ I st' ∧ All2 R ds ys := by
  have z := lcGo_inv (step := fun d st => (ofO (bind1 tg d (wipeE env ws)) st).bnd fun env' st => (evIf C env' .no st).bnd fun r st => (match r with
      | true => ((evP C env' elt).1 st).bnd fun y st => .ok (some y) st
      | false => .ok none st)) I R (ds := ds) (st := st) (fun d hd st i => by
    obtain ⟨env', y, st', e1, e2, i', r⟩ := h d hd st i
    refine ⟨y, st', ?_, i', r⟩
    rw [e1]
    show ((evP C env' elt).1 st).bnd _ = _
    rw [e2]
    rfl) i
  obtain ⟨ys, st', e, i', r⟩ := z
  refine ⟨ys, st', ?_, i', r⟩
  show (evIt C env it st).bnd _ = _
  rw [hit, Out.bnd_ok]
  exact congrArg (fun o => Out.bnd o fun ys st => (.ok (.lst ys) st : Out D)) e
theorem forGo_inv {turn : D → Env → Store → Out Fl} (I : Env → Store → Prop) : ∀ (ds : List D), (∀ d ∈ ds, ∀ env st, I env st → ∃ env' st', turn d env st = .ok (.nx env') st' ∧ I env' st') → ∀ env st, I env st → ∃ env' st', forGo turn ds env st = .ok (.nx env') st' ∧ I env' st'
  | [], _, env, st, i => ⟨env, st, rfl, i⟩
  | d :: ds, h, env, st, i => by
    obtain ⟨env1, st1, e1, i1⟩ := h d List.mem_cons_self env st i
    obtain ⟨env2, st2, e2, i2⟩ := forGo_inv I ds (fun d hd => h d (List.mem_cons_of_mem _ hd)) env1 st1 i1
    refine ⟨env2, st2, ?_, i2⟩
    show (turn d env st).bnd _ = _
    rw [e1]
    exact e2
/-- the invariant by the turns done -/
theorem forGo_nat {turn : D → Env → Store → Out Fl} (I : Nat → Env → Store → Prop) : ∀ (ds : List D) (k : Nat), (∀ i d, ds[i]? = some d → ∀ env st, I (k + i) env st → ∃ env' st', turn d env st = .ok (.nx env') st' ∧ I (k + i + 1) env' st') → ∀ env st, I k env st → ∃ env' st', forGo turn ds env st = .ok (.nx env') st' ∧ I (k + ds.length) env' st'
  | [], k, _, env, st, i => ⟨env, st, rfl, i⟩
  | d :: ds, k, h, env, st, i => by
    obtain ⟨env1, st1, e1, i1⟩ := h 0 d rfl env st i
    obtain ⟨env2, st2, e2, i2⟩ := forGo_nat I ds (k + 1) (fun j d hd env st i => by
      have z := h (j + 1) d (by simpa using hd) env st (by rw [show k + (j + 1) = k + 1 + j by omega]; exact i)
      rw [show k + (j + 1) + 1 = k + 1 + j + 1 by omega] at z
      exact z) env1 st1 i1
    refine ⟨env2, st2, ?_, by rw [List.length_cons, show k + (ds.length + 1) = k + 1 + ds.length by omega]; exact i2⟩
    show (turn d env st).bnd _ = _
    rw [e1]
    exact e2
/-- it raises at a turn, the turns before it go on -/
theorem forGo_ex {turn : D → Env → Store → Out Fl} (I : Env → Store → Prop) (J : Store → Prop) {x : D} {c : Str} {ks : List Str} {es : List D} : ∀ (ds : List D) (rest : List D), (∀ d ∈ ds, ∀ env st, I env st → ∃ env' st', turn d env st = .ok (.nx env') st' ∧ I env' st') → (∀ env st, I env st → ∃ st', turn x env st = .ex c ks es st' ∧ J st') → ∀ env st, I env st → ∃ st', forGo turn (ds ++ x :: rest) env st = .ex c ks es st' ∧ J st'
  | [], rest, _, hx, env, st, i => by
    obtain ⟨st', e, j⟩ := hx env st i
    refine ⟨st', ?_, j⟩
    show (turn x env st).bnd _ = _
    rw [e]
    rfl
  | d :: ds, rest, h, hx, env, st, i => by
    obtain ⟨env1, st1, e1, i1⟩ := h d List.mem_cons_self env st i
    obtain ⟨st', e, j⟩ := forGo_ex I J ds rest (fun d hd => h d (List.mem_cons_of_mem _ hd)) hx env1 st1 i1
    refine ⟨st', ?_, j⟩
    show (turn d env st).bnd _ = _
    rw [e1]
    exact e

/-! ### the defs that the laws share, by the numbers of those that they call -/
def iWhole : Ss := (.cons (.ret [] (.and (.cons (.isi (.var 0) ["int"]) (.cons (.not (.isi (.var 0) ["bool"])) .nil)))) .nil)
def iNumber (w : Nat) : Ss := (.cons (.ret [] (.and (.cons (.call w (.cons (.var 0) .nil)) (.cons (.cmp2 .LtE .LtE (.var 1) (.var 0) (.var 2)) .nil)))) .nil)
def iRow : Ss := (.cons (.ret [] (.isi (.var 0) ["list","tuple"])) .nil)
def iName : Ss := (.cons (.ifs (.or (.cons (.not (.isi (.var 0) ["str"])) (.cons (.not (.cmp2 .LtE .LtE (.c (.int 1)) (.bi "len" (.cons (.var 0) .nil)) (.gl "LONGEST_NAME" (.int 12)))) (.cons (.cmp .NotIn (.ix (.var 0) (.c (.int 0))) (.gl "LETTERS" (.str "abcdefghijklmnopqrstuvwxyz"))) .nil)))) (.cons (.ret [] (.c (.bl false))) .nil) .nil) (.cons (.ret [] (.bi "all" (.cons (.lc (.or (.cons (.cmp .In (.var 1) (.gl "LETTERS" (.str "abcdefghijklmnopqrstuvwxyz"))) (.cons (.cmp .In (.var 1) (.gl "FIGURES" (.str "0123456789"))) .nil))) (.v 1) (.seq (.var 0)) .no [1]) .nil))) .nil))
def iFrozen (f : Nat) : Ss := (.cons (.ifs (.isi (.var 0) ["list","tuple"]) (.cons (.ret [] (.bi "tuple" (.cons (.lc (.call f (.cons (.var 1) .nil)) (.v 1) (.seq (.var 0)) .no [1]) .nil))) .nil) .nil) (.cons (.ret [] (.var 0)) .nil))
def iWant (r f : Nat) (fs : List (Str × Nat)) : Ss := (.cons (.ifs (.not (.call r (.cons (.var 0) .nil))) (.cons (.rais "BadItem" ["index"] (.cons (.c .non) .nil)) .nil) .nil) (.cons (.for_ [] (.t (.cons (.v 3) (.cons (.v 4) .nil))) (.enum (.var 0)) (.cons (.ifs (.not (.callv 1 fs (.cons (.var 4) .nil))) (.cons (.rais "BadItem" ["index"] (.cons (.var 3) .nil)) .nil) .nil) .nil)) (.cons (.ifs (.cmp .Gt (.bi "len" (.cons (.var 0) .nil)) (.var 2)) (.cons (.rais "TooMany" ["limit"] (.cons (.var 2) .nil)) .nil) .nil) (.cons (.ret [] (.call f (.cons (.var 0) .nil))) .nil))))
def iTaken : Ss := (.cons (.ifs (.cmp .Gt (.ix (.var 0) (.c (.int 3))) (.c (.int 0))) (.cons (.asg [] (.v 2) (.bin .Mod (.bi "int" (.cons (.ix (.var 0) (.c (.int 3))) .nil)) (.var 1))) (.cons (.setI [] 0 (.c (.int 3)) (.bin .FloorDiv (.ix (.var 0) (.c (.int 3))) (.var 1))) (.cons (.ret [] (.var 2)) .nil))) .nil) (.cons (.setI [] 0 (.c (.int 1)) (.bin .Add (.ix (.var 0) (.c (.int 1))) (.c (.int 1)))) (.cons (.ifs (.cmp .Gt (.ix (.var 0) (.c (.int 1))) (.bi "len" (.cons (.ix (.var 0) (.c (.int 0))) .nil))) (.cons (.setI [] 0 (.c (.int 2)) (.bin .Mod (.bi "int" (.cons (.bin .Add (.bin .Mult (.ix (.var 0) (.c (.int 2))) (.c (.int 48271))) (.c (.int 11))) .nil)) (.c (.int 2147483647)))) (.cons (.ret [] (.bin .Mod (.bi "int" (.cons (.bin .FloorDiv (.ix (.var 0) (.c (.int 2))) (.c (.int 7))) .nil)) (.var 1))) .nil)) .nil) (.cons (.asg [] (.v 3) (.ix (.ix (.var 0) (.c (.int 0))) (.bin .Sub (.ix (.var 0) (.c (.int 1))) (.c (.int 1))))) (.cons (.setI [] 0 (.c (.int 2)) (.bin .Mod (.bi "int" (.cons (.bin .Add (.bin .Add (.bin .Mult (.ix (.var 0) (.c (.int 2))) (.c (.int 48271))) (.var 3)) (.c (.int 11))) .nil)) (.c (.int 2147483647)))) (.cons (.ifs (.cmp .GtE (.var 3) (.bin .Pow (.c (.int 10)) (.c (.int 18)))) (.cons (.setI [] 0 (.c (.int 3)) (.bin .FloorDiv (.var 3) (.var 1))) .nil) .nil) (.cons (.ret [] (.bin .Mod (.bi "int" (.cons (.var 3) .nil)) (.var 1))) .nil)))))))
def iPick (t : Nat) : Ss := (.cons (.ret [] (.ix (.var 1) (.call t (.cons (.var 0) (.cons (.bi "len" (.cons (.var 1) .nil)) .nil))))) .nil)
def iAlike (a : Nat) : Ss := (.cons (.ifs (.isi (.var 1) ["tuple","list"]) (.cons (.ifs (.or (.cons (.not (.isi (.var 0) ["tuple","list"])) (.cons (.cmp .NotEq (.isi (.var 0) ["list"]) (.isi (.var 1) ["list"])) .nil))) (.cons (.ret [] (.c (.bl false))) .nil) .nil) (.cons (.ifs (.cmp .NotEq (.bi "len" (.cons (.var 0) .nil)) (.bi "len" (.cons (.var 1) .nil))) (.cons (.ret [] (.c (.bl false))) .nil) .nil) (.cons (.ret [] (.cmp .Eq (.lc (.var 2) (.v 2) (.rng (.cons (.bi "len" (.cons (.var 1) .nil)) .nil)) (.so (.not (.call a (.cons (.ix (.var 0) (.var 2)) (.cons (.ix (.var 1) (.var 2)) .nil))))) [2]) (.lst .nil))) .nil))) .nil) (.cons (.ifs (.or (.cons (.cmp .Is (.var 1) (.c .non)) (.cons (.isi (.var 1) ["str"]) .nil))) (.cons (.ret [] (.and (.cons (.cmp .Eq (.var 0) (.var 1)) (.cons (.cmp .Eq (.isi (.var 0) ["str"]) (.isi (.var 1) ["str"])) .nil)))) .nil) .nil) (.cons (.ret [] (.and (.cons (.isi (.var 0) ["int"]) (.cons (.cmp .Eq (.isi (.var 0) ["bool"]) (.isi (.var 1) ["bool"])) (.cons (.cmp .Eq (.var 0) (.var 1)) .nil))))) .nil)))
def iMixed (t : Nat) : Ss := (.cons (.ifs (.cmp .Eq (.call t (.cons (.var 0) (.cons (.c (.int 2)) .nil))) (.c (.int 0))) (.cons (.ret [] (.bi "list" (.cons (.var 1) .nil))) .nil) .nil) (.cons (.ret [] (.bi "tuple" (.cons (.var 1) .nil))) .nil))
def iNm (t p : Nat) : Ss := (.cons (.asg [] (.v 1) (.c (.str "abcdefghijklmnopqrstuvwxyz0123456789"))) (.cons (.asg [] (.v 2) (.call p (.cons (.var 0) (.cons (.lst (.cons (.c (.int 1)) (.cons (.c (.int 1)) (.cons (.c (.int 2)) (.cons (.c (.int 3)) (.cons (.c (.int 5)) (.cons (.c (.int 12)) .nil))))))) .nil)))) (.cons (.asg [] (.v 3) (.ix (.var 1) (.call t (.cons (.var 0) (.cons (.c (.int 26)) .nil))))) (.cons (.for_ [] (.v 4) (.rng (.cons (.bin .Sub (.var 2) (.c (.int 1))) .nil)) (.cons (.asg [] (.v 3) (.bin .Add (.var 3) (.ix (.var 1) (.call t (.cons (.var 0) (.cons (.c (.int 36)) .nil)))))) .nil)) (.cons (.ret [] (.var 3)) .nil)))))
def iNms (m : Nat) : Ss := (.cons (.own 2 (.lst .nil)) (.cons (.for_ [] (.v 3) (.rng (.cons (.var 1) .nil)) (.cons (.asg [] (.v 4) (.call m (.cons (.var 0) .nil))) (.cons (.asg [] (.v 5) (.bin .Add (.lst (.cons (.var 4) .nil)) (.lc (.bin .Add (.sl (.var 4) .no (.so (.c (.int 9)))) (.bi "str" (.cons (.var 6) .nil))) (.v 6) (.rng (.cons (.c (.int 100)) .nil)) .no [6]))) (.cons (.app [] 2 (.ix (.lc (.var 7) (.v 7) (.seq (.var 5)) (.so (.cmp .NotIn (.var 7) (.var 2))) [7]) (.c (.int 0)))) .nil)))) (.cons (.ret [2] (.var 2)) .nil)))
/-- the law's row of draws -/
def Dr (ns : List Int) (st : Store) : Prop := ∃ a b c : Int, 0 ≤ a ∧ st = [.lst [.scr ns, .int a, .int b, .int c]]
theorem szl : sizeLine = 4611686018427387903 ∨ 100000 ≤ sizeLine := by
  right
  rw [sizeLine_eq]
  decide
section
variable {tab : List FnI} {ns : List Int} {st : Store}
theorem taken {t : Nat} (ht : tab[t]? = some ⟨2, 4, iTaken, none⟩) (h : Dr ns st) (n : Nat) (m : Int) (m0 : 0 < m) (m1 : m < 1073741824) : ∃ v st', callN tab (n + 1) t [.obj 0, .int m] st = .ok (.int v) st' ∧ Dr ns st' ∧ 0 ≤ v ∧ v < m := by
  obtain ⟨a, b, c, ha, rfl⟩ := h
  rw [call_fn ht n [.obj 0, .int m] _ rfl]
  show ∃ v st', endD (evSs (callN tab n) iTaken [.val (.obj 0), .val (.int m), .no, .no] [.lst [.scr ns, .int a, .int b, .int c]]) = .ok (.int v) st' ∧ _
  have hm : m ≠ 0 := by omega
  have hm2 : m.natAbs < 1073741824 := by omega
  by_cases hc : 0 < c
  · refine ⟨c.fmod m, [.lst [.scr ns, .int a, .int b, .int (c.fdiv m)]], ?_, ⟨a, b, _, ha, rfl⟩, ?_, ?_⟩
    · simp [evEs, evBs, evAnd, evOr, evTAnd, evTOr, evO, evIf, bor, getV, getB, truthD, freeze, freeze1, bind1, binds, endD, evSs, evS, evHs, isPut, setIx, wipeE, fnIx, Out.nox, deref, ixS, cmpD, putD, biD, lenD, tyN, isTys, tyIs, isNone, iTaken, atI, ixN, hc, binD, hm, hm2]
    · exact Int.fmod_nonneg_of_pos _ m0
    · exact Int.fmod_lt_of_pos _ m0
  · by_cases hl : (ns.length : Int) < a + 1
    · refine ⟨(((b * 48271 + 11).fmod 2147483647).fdiv 7).fmod m, [.lst [.scr ns, .int (a + 1), .int ((b * 48271 + 11).fmod 2147483647), .int c]], ?_, ⟨a + 1, _, c, by omega, rfl⟩, Int.fmod_nonneg_of_pos _ m0, Int.fmod_lt_of_pos _ m0⟩
      simp [evEs, evBs, evAnd, evOr, evTAnd, evTOr, evO, evIf, bor, getV, getB, truthD, freeze, freeze1, bind1, binds, endD, evSs, evS, evHs, isPut, setIx, wipeE, fnIx, Out.nox, deref, ixS, cmpD, putD, biD, lenD, tyN, isTys, tyIs, isNone, iTaken, atI, ixN, hc, hl, binD, hm]
    · have la : a.toNat < ns.length := by omega
      have ea : ns[a.toNat]? = some ns[a.toNat] := List.getElem?_eq_getElem la
      have h1 : a + 1 - 1 = a := by omega
      have h2 : a < ns.length := by omega
      by_cases hz : (1000000000000000000 : Int) ≤ ns[a.toNat]
      · refine ⟨(ns[a.toNat]).fmod m, [.lst [.scr ns, .int (a + 1), .int ((b * 48271 + ns[a.toNat] + 11).fmod 2147483647), .int ((ns[a.toNat]).fdiv m)]], ?_, ⟨a + 1, _, _, by omega, rfl⟩, Int.fmod_nonneg_of_pos _ m0, Int.fmod_lt_of_pos _ m0⟩
        simp [evEs, evBs, evAnd, evOr, evTAnd, evTOr, evO, evIf, bor, getV, getB, truthD, freeze, freeze1, bind1, binds, endD, evSs, evS, evHs, isPut, setIx, wipeE, fnIx, Out.nox, deref, ixS, cmpD, putD, biD, lenD, tyN, isTys, tyIs, isNone, iTaken, atI, ixN, hc, hl, ha, h1, h2, ea, hz, binD, hm, hm2]
      · refine ⟨(ns[a.toNat]).fmod m, [.lst [.scr ns, .int (a + 1), .int ((b * 48271 + ns[a.toNat] + 11).fmod 2147483647), .int c]], ?_, ⟨a + 1, _, _, by omega, rfl⟩, Int.fmod_nonneg_of_pos _ m0, Int.fmod_lt_of_pos _ m0⟩
        simp [evEs, evBs, evAnd, evOr, evTAnd, evTOr, evO, evIf, bor, getV, getB, truthD, freeze, freeze1, bind1, binds, endD, evSs, evS, evHs, isPut, setIx, wipeE, fnIx, Out.nox, deref, ixS, cmpD, putD, biD, lenD, tyN, isTys, tyIs, isNone, iTaken, atI, ixN, hc, hl, ha, h1, h2, ea, hz, binD, hm, hm2]
theorem pick {t p : Nat} (ht : tab[t]? = some ⟨2, 4, iTaken, none⟩) (hp : tab[p]? = some ⟨2, 2, iPick t, none⟩) (h : Dr ns st) (n : Nat) (ds : List D) (m0 : 0 < ds.length) (m1 : ds.length < 1073741824) : ∃ d st', callN tab (n + 2) p [.obj 0, .lst ds] st = .ok d st' ∧ Dr ns st' ∧ d ∈ ds := by
  obtain ⟨v, st', e, h', v0, v1⟩ := taken ht h n ds.length (by omega) (by omega)
  have lv : v.toNat < ds.length := by omega
  refine ⟨ds[v.toNat], st', ?_, h', List.getElem_mem lv⟩
  rw [call_fn hp (n + 1) _ _ rfl]
  show endD (evSs (callN tab (n + 1)) (iPick t) [.val (.obj 0), .val (.lst ds)] st) = _
  have hv : v < ds.length := v1
  simp [evEs, evBs, evAnd, evOr, evTAnd, evTOr, evO, evIf, bor, getV, getB, truthD, freeze, freeze1, bind1, binds, endD, evSs, evS, evHs, isPut, setIx, wipeE, fnIx, Out.nox, deref, ixS, cmpD, putD, biD, lenD, tyN, isTys, tyIs, isNone, iPick, atI, ixN, e, v0, hv, List.getElem?_eq_getElem lv]
/-- a sequence as a list or a tuple -/
theorem mixed {t m : Nat} (ht : tab[t]? = some ⟨2, 4, iTaken, none⟩) (hm : tab[m]? = some ⟨2, 2, iMixed t, none⟩) (h : Dr ns st) (n : Nat) (x : D) (ds : List D) (hx : seqD x = some ds) : ∃ d st', callN tab (n + 2) m [.obj 0, x] st = .ok d st' ∧ Dr ns st' ∧ (d = .lst ds ∨ d = .tup ds) := by
  obtain ⟨v, st', e, h', v0, v1⟩ := taken ht h n 2 (by omega) (by omega)
  rw [call_fn hm (n + 1) _ _ rfl]
  show ∃ d st', endD (evSs (callN tab (n + 1)) (iMixed t) [.val (.obj 0), .val x] st) = .ok d st' ∧ _
  by_cases hv : v = 0
  · subst hv
    exact ⟨.lst ds, st', by simp [evEs, evBs, evAnd, evOr, evTAnd, evTOr, evO, evIf, bor, getV, getB, truthD, freeze, freeze1, bind1, binds, endD, evSs, evS, evHs, isPut, setIx, wipeE, fnIx, Out.nox, deref, ixS, cmpD, putD, biD, lenD, tyN, isTys, tyIs, isNone, iMixed, e, eqO, scalD, flatD, eqD, hx], h', .inl rfl⟩
  · exact ⟨.tup ds, st', by simp [evEs, evBs, evAnd, evOr, evTAnd, evTOr, evO, evIf, bor, getV, getB, truthD, freeze, freeze1, bind1, binds, endD, evSs, evS, evHs, isPut, setIx, wipeE, fnIx, Out.nox, deref, ixS, cmpD, putD, biD, lenD, tyN, isTys, tyIs, isNone, iMixed, e, eqO, scalD, flatD, eqD, hx, hv], h', .inr rfl⟩
end
end Eng
set_option Elab.async false
set_option linter.all false
set_option maxRecDepth 100000
set_option maxHeartbeats 2000000
/-! Law 2: _law_alike, the checks -/
namespace Eng
open PySem PySem.Spec L2
theorem big : 100000 ≤ sizeLine := by
  rw [sizeLine_eq]
  decide
theorem atI_nat {α : Type} {xs : List α} {k : Nat} {x : α} (h : xs[k]? = some x) : atI xs (k : Int) = some x := by
  have lt := (List.getElem?_eq_some_iff.mp h).1
  have e : ixN xs.length (k : Int) = some k := by simp [ixN, lt]
  show (ixN xs.length (k : Int)).bind (fun j => xs[j]?) = some x
  rw [e]
  exact h
theorem rng_nat {n : Nat} (h : n ≤ 100000) : rngD [.int (n : Int)] = some ((List.range n).map fun (k : Nat) => D.int (k : Int)) := by
  have hb := big
  have c : -(2 ^ 62) ≤ (n : Int) ∧ (n : Int) ≤ sizeLine := by
    constructor
    · have : (0 : Int) ≤ (n : Int) := Int.natCast_nonneg n
      omega
    · omega
  show (if -(2 ^ 62) ≤ (n : Int) ∧ (n : Int) ≤ sizeLine then some ((List.range (n : Int).toNat).map fun (k : Nat) => D.int (0 + k)) else none) = _
  rw [if_pos c]
  simp
/-- what _law_alike finds alike to itself -/
def alk : Nat → D → Bool
  | _, .non => true
  | _, .bl _ => true
  | _, .int _ => true
  | _, .str _ => true
  | n + 1, .tup ds => ds.all (alk n) && decide (ds.length ≤ 1000)
  | n + 1, .lst ds => ds.all (alk n) && decide (ds.length ≤ 1000)
  | _, _ => false
section
variable {tab : List FnI} {st : Store}
theorem alike_seq {C : Calls} {a : Nat} {x : D} {ds : List D} (hd : deref st x = some x) (hx : ∀ k : Nat, k < ds.length → ixS x (.int k) = ds[k]?) (hl : lenD x = some ds.length) (hs : ds.length ≤ 1000) (h : ∀ d ∈ ds, C a [d, d] st = .ok (.bl true) st) (s2 : Sl) :
    (evP C [.val x, .val x, s2] (.lc (.var 2) (.v 2) (.rng (.cons (.bi "len" (.cons (.var 1) .nil)) .nil)) (.so (.not (.call a (.cons (.ix (.var 0) (.var 2)) (.cons (.ix (.var 1) (.var 2)) .nil))))) [2])).1 st = .ok (.lst []) st := by
  have z := lc_filter (C := C) (env := [.val x, .val x, s2]) (elt := .var 2) (tg := .v 2) (it := .rng (.cons (.bi "len" (.cons (.var 1) .nil)) .nil)) (c := .not (.call a (.cons (.ix (.var 0) (.var 2)) (.cons (.ix (.var 1) (.var 2)) .nil)))) (ws := [2]) (st := st)
    (ds := (List.range ds.length).map fun (k : Nat) => D.int (k : Int)) (fun _ => false) (fun d => d) (by
      show ((evEs C _ _ st).bnd fun ds st => ofO (rngD ds) st) = _
      simp [evEs, evBs, evAnd, evOr, evTAnd, evTOr, evO, evIf, bor, getV, getB, truthD, freeze, freeze1, bind1, binds, endD, evSs, evS, evHs, isPut, setIx, wipeE, fnIx, Out.nox, hl, biD, rng_nat (by omega : ds.length ≤ 100000)]) fun d hd' => by
    obtain ⟨k, hk, rfl⟩ := List.mem_map.mp hd'
    have hk := List.mem_range.mp hk
    have e : ixS x (.int (k : Int)) = some ds[k] := by rw [hx k hk, List.getElem?_eq_getElem hk]
    have e2 := h ds[k] (List.getElem_mem hk)
    refine ⟨[.val x, .val x, .val (.int (k : Int))], rfl, ?_, fun z => by cases z⟩
    simp [evEs, evBs, evAnd, evOr, evTAnd, evTOr, evO, evIf, bor, getV, getB, truthD, freeze, freeze1, bind1, binds, endD, evSs, evS, evHs, isPut, setIx, wipeE, fnIx, Out.nox, hd, e, e2]
  rw [z]
  simp
theorem alike {a : Nat} (ha : tab[a]? = some ⟨2, 3, iAlike a, none⟩) (m : Nat) : ∀ (n : Nat) (d : D), alk n d = true → callN tab (n + m + 1) a [d, d] st = .ok (.bl true) st := by
  intro n
  have nil : eqO (.lst []) (.lst []) = some true := by simp [eqO]
  induction n with
  | zero =>
    intro d h
    rw [call_fn ha (0 + m) _ _ rfl]
    show endD (evSs (callN tab (0 + m)) (iAlike a) [.val d, .val d, .no] st) = _
    cases d with
    | non => rfl
    | bl b => cases b <;> rfl
    | int i => simp [evEs, evBs, evAnd, evOr, evTAnd, evTOr, evO, evIf, bor, getV, getB, truthD, freeze, freeze1, bind1, binds, endD, evSs, evS, evHs, isPut, setIx, wipeE, fnIx, Out.nox, deref, ixS, cmpD, putD, biD, lenD, tyN, isTys, tyIs, isNone, iAlike, eqO, scalD, flatD, eqD]
    | str i => simp [evEs, evBs, evAnd, evOr, evTAnd, evTOr, evO, evIf, bor, getV, getB, truthD, freeze, freeze1, bind1, binds, endD, evSs, evS, evHs, isPut, setIx, wipeE, fnIx, Out.nox, deref, ixS, cmpD, putD, biD, lenD, tyN, isTys, tyIs, isNone, iAlike, eqO, scalD, flatD, eqD]
    | _ => cases h
  | succ n ih =>
    intro d h
    rw [call_fn ha (n + 1 + m) _ _ rfl]
    show endD (evSs (callN tab (n + 1 + m)) (iAlike a) [.val d, .val d, .no] st) = _
    have ih' : ∀ d, alk n d = true → callN tab (n + 1 + m) a [d, d] st = .ok (.bl true) st := fun d hd => by
      rw [show n + 1 + m = n + m + 1 by omega]
      exact ih d hd
    cases d with
    | non => rfl
    | bl b => cases b <;> rfl
    | int i => simp [evEs, evBs, evAnd, evOr, evTAnd, evTOr, evO, evIf, bor, getV, getB, truthD, freeze, freeze1, bind1, binds, endD, evSs, evS, evHs, isPut, setIx, wipeE, fnIx, Out.nox, deref, ixS, cmpD, putD, biD, lenD, tyN, isTys, tyIs, isNone, iAlike, eqO, scalD, flatD, eqD]
    | str i => simp [evEs, evBs, evAnd, evOr, evTAnd, evTOr, evO, evIf, bor, getV, getB, truthD, freeze, freeze1, bind1, binds, endD, evSs, evS, evHs, isPut, setIx, wipeE, fnIx, Out.nox, deref, ixS, cmpD, putD, biD, lenD, tyN, isTys, tyIs, isNone, iAlike, eqO, scalD, flatD, eqD]
    | tup ds =>
      have h : (ds.all (alk n) && decide (ds.length ≤ 1000)) = true := h
      obtain ⟨h1, h2⟩ := Bool.and_eq_true_iff.mp h
      have h2 := of_decide_eq_true h2
      have z := alike_seq (C := callN tab (n + 1 + m)) (a := a) (x := .tup ds) (ds := ds) (st := st) rfl (fun k hk => by rw [List.getElem?_eq_getElem hk]; exact atI_nat (List.getElem?_eq_getElem hk)) rfl h2 (fun d hd => ih' d (List.all_eq_true.mp h1 d hd)) .no
      simp [evEs, evBs, evAnd, evOr, evTAnd, evTOr, evO, evIf, bor, getV, getB, truthD, freeze, freeze1, bind1, binds, endD, evSs, evS, evHs, isPut, setIx, wipeE, fnIx, Out.nox, deref, ixS, cmpD, putD, biD, lenD, tyN, isTys, tyIs, isNone, iAlike, z, nil, eqO, scalD, flatD, eqD]
    | lst ds =>
      have h : (ds.all (alk n) && decide (ds.length ≤ 1000)) = true := h
      obtain ⟨h1, h2⟩ := Bool.and_eq_true_iff.mp h
      have h2 := of_decide_eq_true h2
      have z := alike_seq (C := callN tab (n + 1 + m)) (a := a) (x := .lst ds) (ds := ds) (st := st) rfl (fun k hk => by rw [List.getElem?_eq_getElem hk]; exact atI_nat (List.getElem?_eq_getElem hk)) rfl h2 (fun d hd => ih' d (List.all_eq_true.mp h1 d hd)) .no
      simp [evEs, evBs, evAnd, evOr, evTAnd, evTOr, evO, evIf, bor, getV, getB, truthD, freeze, freeze1, bind1, binds, endD, evSs, evS, evHs, isPut, setIx, wipeE, fnIx, Out.nox, deref, ixS, cmpD, putD, biD, lenD, tyN, isTys, tyIs, isNone, iAlike, z, nil, eqO, scalD, flatD, eqD]
    | _ => cases h
/-! ### is_whole, is_number, is_row -/
def wholeD : D → Bool
  | .int _ => true
  | _ => false
/-- plain data -/
def plainD : D → Bool
  | .non => true
  | .bl _ => true
  | .int _ => true
  | .str _ => true
  | .tup _ => true
  | .lst _ => true
  | _ => false
theorem whole {w : Nat} (hw : tab[w]? = some ⟨1, 1, iWhole, none⟩) (n : Nat) (d : D) (h : plainD d = true) : callN tab (n + 1) w [d] st = .ok (.bl (wholeD d)) st := by
  rw [call_fn hw n _ _ rfl]
  show endD (evSs (callN tab n) iWhole [.val d] st) = _
  cases d <;> first | rfl | cases h
theorem number {w p : Nat} (hw : tab[w]? = some ⟨1, 1, iWhole, none⟩) (hp : tab[p]? = some ⟨3, 3, iNumber w, none⟩) (n : Nat) (d : D) (a b : Int) (h : plainD d = true) :
    callN tab (n + 2) p [d, .int a, .int b] st = .ok (.bl (match d with | .int i => decide (a ≤ i ∧ i ≤ b) | _ => false)) st := by
  rw [call_fn hp (n + 1) _ _ rfl]
  show endD (evSs (callN tab (n + 1)) (iNumber w) [.val d, .val (.int a), .val (.int b)] st) = _
  have e := whole (st := st) hw n d h
  cases d with
  | int i =>
    by_cases h1 : a ≤ i
    · by_cases h2 : i ≤ b
      · simp [evEs, evBs, evAnd, evOr, evTAnd, evTOr, evO, evIf, bor, getV, getB, truthD, freeze, freeze1, bind1, binds, endD, evSs, evS, evHs, isPut, setIx, wipeE, fnIx, Out.nox, deref, ixS, cmpD, putD, biD, lenD, tyN, isTys, tyIs, isNone, iNumber, e, wholeD, h1, h2]
      · simp [evEs, evBs, evAnd, evOr, evTAnd, evTOr, evO, evIf, bor, getV, getB, truthD, freeze, freeze1, bind1, binds, endD, evSs, evS, evHs, isPut, setIx, wipeE, fnIx, Out.nox, deref, ixS, cmpD, putD, biD, lenD, tyN, isTys, tyIs, isNone, iNumber, e, wholeD, h1, h2]
    · simp [evEs, evBs, evAnd, evOr, evTAnd, evTOr, evO, evIf, bor, getV, getB, truthD, freeze, freeze1, bind1, binds, endD, evSs, evS, evHs, isPut, setIx, wipeE, fnIx, Out.nox, deref, ixS, cmpD, putD, biD, lenD, tyN, isTys, tyIs, isNone, iNumber, e, wholeD, h1]
  | non => simp [evEs, evBs, evAnd, evOr, evTAnd, evTOr, evO, evIf, bor, getV, getB, truthD, freeze, freeze1, bind1, binds, endD, evSs, evS, evHs, isPut, setIx, wipeE, fnIx, Out.nox, deref, ixS, cmpD, putD, biD, lenD, tyN, isTys, tyIs, isNone, iNumber, e, wholeD]
  | bl _ => simp [evEs, evBs, evAnd, evOr, evTAnd, evTOr, evO, evIf, bor, getV, getB, truthD, freeze, freeze1, bind1, binds, endD, evSs, evS, evHs, isPut, setIx, wipeE, fnIx, Out.nox, deref, ixS, cmpD, putD, biD, lenD, tyN, isTys, tyIs, isNone, iNumber, e, wholeD]
  | str _ => simp [evEs, evBs, evAnd, evOr, evTAnd, evTOr, evO, evIf, bor, getV, getB, truthD, freeze, freeze1, bind1, binds, endD, evSs, evS, evHs, isPut, setIx, wipeE, fnIx, Out.nox, deref, ixS, cmpD, putD, biD, lenD, tyN, isTys, tyIs, isNone, iNumber, e, wholeD]
  | tup _ => simp [evEs, evBs, evAnd, evOr, evTAnd, evTOr, evO, evIf, bor, getV, getB, truthD, freeze, freeze1, bind1, binds, endD, evSs, evS, evHs, isPut, setIx, wipeE, fnIx, Out.nox, deref, ixS, cmpD, putD, biD, lenD, tyN, isTys, tyIs, isNone, iNumber, e, wholeD]
  | lst _ => simp [evEs, evBs, evAnd, evOr, evTAnd, evTOr, evO, evIf, bor, getV, getB, truthD, freeze, freeze1, bind1, binds, endD, evSs, evS, evHs, isPut, setIx, wipeE, fnIx, Out.nox, deref, ixS, cmpD, putD, biD, lenD, tyN, isTys, tyIs, isNone, iNumber, e, wholeD]
  | _ => cases h
def rowD : D → Bool
  | .tup _ => true
  | .lst _ => true
  | _ => false
theorem isrow {r : Nat} (hr : tab[r]? = some ⟨1, 1, iRow, none⟩) (n : Nat) (d : D) (h : plainD d = true) : callN tab (n + 1) r [d] st = .ok (.bl (rowD d)) st := by
  rw [call_fn hr n _ _ rfl]
  show endD (evSs (callN tab n) iRow [.val d] st) = _
  cases d <;> first | rfl | cases h
end
end Eng
set_option Elab.async false
set_option linter.all false
set_option maxRecDepth 100000
set_option maxHeartbeats 2000000
/-! Law 3: is_name, frozen, want_row -/
namespace Eng
open PySem PySem.Spec L2
theorem intsD_map : ∀ ns : List Int, intsD (ns.map .int) = some ns
  | [] => rfl
  | n :: ns => by
    show (intsD (ns.map .int)).map (n :: ·) = _
    rw [intsD_map ns]
    rfl
theorem blsD_map : ∀ ns : List Bool, blsD (ns.map .bl) = some ns
  | [] => rfl
  | n :: ns => by
    show (blsD (ns.map .bl)).map (n :: ·) = _
    rw [blsD_map ns]
    rfl
def Lt : List Nat := ("abcdefghijklmnopqrstuvwxyz" : Str).cps.toList
def Fg : List Nat := ("0123456789" : Str).cps.toList
/-- a name's sign -/
def sgn (c : Nat) : Bool := decide (c ∈ Lt) || decide (c ∈ Fg)
def nameB (x : Str) : Bool := match x.cps.toList with
  | [] => false
  | c :: cs => decide (c ∈ Lt) && ((c :: cs).all sgn && decide (cs.length < 12))
section
variable {tab : List FnI} {st : Store}
theorem sign_lc {C : Calls} (x : Str) (hx : x.length ≤ 100000) : (evP C [.val (.str x), .no] (.lc (.or (.cons (.cmp .In (.var 1) (.gl "LETTERS" (.str "abcdefghijklmnopqrstuvwxyz"))) (.cons (.cmp .In (.var 1) (.gl "FIGURES" (.str "0123456789"))) .nil))) (.v 1) (.seq (.var 0)) .no [1])).1 st = .ok (.lst ((x.cps.toList.map sgn).map .bl)) st := by
  have hb := big
  have z := lc_map (C := C) (env := [.val (.str x), .no]) (elt := .or (.cons (.cmp .In (.var 1) (.gl "LETTERS" (.str "abcdefghijklmnopqrstuvwxyz"))) (.cons (.cmp .In (.var 1) (.gl "FIGURES" (.str "0123456789"))) .nil))) (tg := .v 1) (it := .seq (.var 0)) (ws := [1]) (st := st)
    (ds := x.cps.toList.map fun c => D.str ⟨#[c]⟩) (fun d => .bl (match d with | .str y => (match y.cps.toList with | [c] => sgn c | _ => false) | _ => false)) (by
      have e : itemsD (.str x) = some (x.cps.toList.map fun c => D.str ⟨#[c]⟩) := by
        show (if x.length ≤ sizeLine then _ else none) = _
        rw [if_pos (by omega)]
      show (ofO (getB [Sl.val (.str x), .no] 0) st).bnd (fun d st => ofO (itemsD d) st) = _
      show ofO (itemsD (.str x)) st = _
      rw [e]
      rfl) fun d hd => by
    obtain ⟨c, hc, rfl⟩ := List.mem_map.mp hd
    refine ⟨[.val (.str x), .val (.str ⟨#[c]⟩)], rfl, ?_⟩
    have e1 : inD (.str ⟨#[c]⟩) (.str "abcdefghijklmnopqrstuvwxyz") = some (decide (c ∈ Lt)) := rfl
    have e2 : inD (.str ⟨#[c]⟩) (.str "0123456789") = some (decide (c ∈ Fg)) := rfl
    by_cases h1 : c ∈ Lt
    · simp [evEs, evBs, evAnd, evOr, evTAnd, evTOr, evO, evIf, bor, getV, getB, truthD, freeze, freeze1, bind1, binds, endD, evSs, evS, evHs, isPut, setIx, wipeE, fnIx, Out.nox, deref, ixS, cmpD, putD, biD, lenD, tyN, isTys, tyIs, isNone, e1, e2, h1, sgn]
    · simp [evEs, evBs, evAnd, evOr, evTAnd, evTOr, evO, evIf, bor, getV, getB, truthD, freeze, freeze1, bind1, binds, endD, evSs, evS, evHs, isPut, setIx, wipeE, fnIx, Out.nox, deref, ixS, cmpD, putD, biD, lenD, tyN, isTys, tyIs, isNone, e1, e2, h1, sgn]
  rw [z]
  simp
theorem isname {m : Nat} (hm : tab[m]? = some ⟨1, 2, iName, none⟩) (n : Nat) (x : Str) (hx : x.length ≤ 100000) : callN tab (n + 1) m [.str x] st = .ok (.bl (nameB x)) st := by
  rw [call_fn hm n _ _ rfl]
  show endD (evSs (callN tab n) iName [.val (.str x), .no] st) = _
  have hb := big
  have hz : x.length ≤ sizeLine := by omega
  have lc := sign_lc (st := st) (C := callN tab n) x hx
  have len : x.length = x.cps.toList.length := by simp [Str.length]
  by_cases h1 : (1 : Int) ≤ (x.length : Int)
  · by_cases h2 : (x.length : Int) ≤ 12
    · obtain ⟨c, cs, e⟩ : ∃ c cs, x.cps.toList = c :: cs := by
        cases q : x.cps.toList with
        | nil => rw [len, q] at h1; simp at h1
        | cons c cs => exact ⟨c, cs, rfl⟩
      have i0 : ixS (.str x) (.int 0) = some (.str ⟨#[c]⟩) := by
        show (if x.length ≤ sizeLine then (atI x.cps.toList 0).map fun c => D.str ⟨#[c]⟩ else none) = _
        rw [if_pos hz, e, show (0 : Int) = ((0 : Nat) : Int) from rfl, atI_nat (x := c) rfl]
        rfl
      have bl : blsD (List.map (D.bl ∘ sgn) x.cps.toList) = some (x.cps.toList.map sgn) := by
        rw [← List.map_map]
        exact blsD_map _
      have e1 : inD (.str ⟨#[c]⟩) (.str "abcdefghijklmnopqrstuvwxyz") = some (decide (c ∈ Lt)) := rfl
      have l2 : cs.length < 12 := by
        have : x.length = cs.length + 1 := by rw [len, e]; rfl
        omega
      have nb : nameB x = (decide (c ∈ Lt) && (x.cps.toList.map sgn).all id) := by
        unfold nameB
        rw [e]
        simp [l2]
      by_cases h3 : c ∈ Lt
      · simp [evEs, evBs, evAnd, evOr, evTAnd, evTOr, evO, evIf, bor, getV, getB, truthD, freeze, freeze1, bind1, binds, endD, evSs, evS, evHs, isPut, setIx, wipeE, fnIx, Out.nox, iName, cmpD, biD, lenD, isTys, tyN, tyIs, hz, h1, h2, deref, i0, e1, h3, lc, bl, nb]
      · simp [evEs, evBs, evAnd, evOr, evTAnd, evTOr, evO, evIf, bor, getV, getB, truthD, freeze, freeze1, bind1, binds, endD, evSs, evS, evHs, isPut, setIx, wipeE, fnIx, Out.nox, iName, cmpD, biD, lenD, isTys, tyN, tyIs, hz, h1, h2, deref, i0, e1, h3, nb]
    · have nb : nameB x = false := by
        unfold nameB
        cases q : x.cps.toList with
        | nil => rfl
        | cons c cs =>
          have : x.length = cs.length + 1 := by rw [len, q]; rfl
          have l2 : ¬ cs.length < 12 := by omega
          simp [l2]
      simp [evEs, evBs, evAnd, evOr, evTAnd, evTOr, evO, evIf, bor, getV, getB, truthD, freeze, freeze1, bind1, binds, endD, evSs, evS, evHs, isPut, setIx, wipeE, fnIx, Out.nox, iName, cmpD, biD, lenD, isTys, tyN, tyIs, hz, h1, h2, nb]
  · have nb : nameB x = false := by
      unfold nameB
      cases q : x.cps.toList with
      | nil => rfl
      | cons c cs =>
        have : x.length = cs.length + 1 := by rw [len, q]; rfl
        omega
    simp [evEs, evBs, evAnd, evOr, evTAnd, evTOr, evO, evIf, bor, getV, getB, truthD, freeze, freeze1, bind1, binds, endD, evSs, evS, evHs, isPut, setIx, wipeE, fnIx, Out.nox, iName, cmpD, biD, lenD, isTys, tyN, tyIs, hz, h1, nb]
/-! ### frozen: every list a tuple -/
mutual
def frz : D → D
  | .tup ds => .tup (frzs ds)
  | .lst ds => .tup (frzs ds)
  | d => d
def frzs : List D → List D
  | [] => []
  | d :: ds => frz d :: frzs ds
end
theorem frzs_map : ∀ ds : List D, frzs ds = ds.map frz
  | [] => rfl
  | d :: ds => by rw [frzs, frzs_map ds]; rfl
/-- plain data of depth n -/
def plN : Nat → D → Bool
  | _, .non => true
  | _, .bl _ => true
  | _, .int _ => true
  | _, .str _ => true
  | n + 1, .tup ds => ds.all (plN n)
  | n + 1, .lst ds => ds.all (plN n)
  | _, _ => false
theorem froz {f : Nat} (hf : tab[f]? = some ⟨1, 2, iFrozen f, none⟩) (m : Nat) : ∀ (n : Nat) (d : D), plN n d = true → callN tab (n + m + 1) f [d] st = .ok (frz d) st := by
  intro n
  induction n with
  | zero =>
    intro d h
    rw [call_fn hf (0 + m) _ _ rfl]
    show endD (evSs (callN tab (0 + m)) (iFrozen f) [.val d, .no] st) = _
    cases d <;> first | rfl | cases h
  | succ n ih =>
    intro d h
    rw [call_fn hf (n + 1 + m) _ _ rfl]
    show endD (evSs (callN tab (n + 1 + m)) (iFrozen f) [.val d, .no] st) = _
    have ih' : ∀ d, plN n d = true → callN tab (n + 1 + m) f [d] st = .ok (frz d) st := fun d hd => by
      rw [show n + 1 + m = n + m + 1 by omega]
      exact ih d hd
    have lc : ∀ x ds, itemsD x = some ds → ds.all (plN n) = true → (evP (callN tab (n + 1 + m)) [.val x, .no] (.lc (.call f (.cons (.var 1) .nil)) (.v 1) (.seq (.var 0)) .no [1])).1 st = .ok (.lst (ds.map frz)) st := fun x ds hx hp =>
      lc_map frz (by
        show ofO (itemsD x) st = _
        rw [hx]
        rfl) fun d hd => ⟨[.val x, .val d], rfl, by
          have e := ih' d (List.all_eq_true.mp hp d hd)
          simp [evEs, evBs, evAnd, evOr, evTAnd, evTOr, evO, evIf, bor, getV, getB, truthD, freeze, freeze1, bind1, binds, endD, evSs, evS, evHs, isPut, setIx, wipeE, fnIx, Out.nox, e]⟩
    cases d with
    | tup ds =>
      have e := lc (.tup ds) ds rfl h
      simp [evEs, evBs, evAnd, evOr, evTAnd, evTOr, evO, evIf, bor, getV, getB, truthD, freeze, freeze1, bind1, binds, endD, evSs, evS, evHs, isPut, setIx, wipeE, fnIx, Out.nox, deref, ixS, cmpD, putD, biD, lenD, tyN, isTys, tyIs, isNone, iFrozen, e, seqD, frz, frzs_map]
    | lst ds =>
      have e := lc (.lst ds) ds rfl h
      simp [evEs, evBs, evAnd, evOr, evTAnd, evTOr, evO, evIf, bor, getV, getB, truthD, freeze, freeze1, bind1, binds, endD, evSs, evS, evHs, isPut, setIx, wipeE, fnIx, Out.nox, deref, ixS, cmpD, putD, biD, lenD, tyN, isTys, tyIs, isNone, iFrozen, e, seqD, frz, frzs_map]
    | _ => first | rfl | cases h
/-! ### want_row -/
theorem zw_split {g : Nat → D → D} (pre : List D) (x : D) (post : List D) : ∃ rest, (List.range (pre ++ x :: post).length).zipWith g (pre ++ x :: post) = (List.range pre.length).zipWith g pre ++ g pre.length x :: rest := by
  refine ⟨(List.range post.length).zipWith (fun k d => g (pre.length + 1 + k) d) post, ?_⟩
  have e : List.range (pre ++ x :: post).length = List.range pre.length ++ pre.length :: (List.range post.length).map (fun k => pre.length + 1 + k) := by
    rw [List.length_append, List.length_cons, List.range_add, List.range_succ_eq_map, List.map_cons, List.map_map]
    congr 2
    apply List.map_congr_left
    intro k _
    show pre.length + (k + 1) = pre.length + 1 + k
    omega
  rw [e, List.zipWith_append (by simp), List.zipWith_cons_cons]
  congr 2
  rw [List.zipWith_map_left]
theorem mem_zw {g : Nat → D → D} {d : D} : ∀ {ks : List Nat} {ds : List D}, d ∈ ks.zipWith g ds → ∃ k x, x ∈ ds ∧ d = g k x
  | [], _, h => by simp at h
  | _ :: _, [], h => by simp at h
  | k :: ks, x :: ds, h => by
    rw [List.zipWith_cons_cons] at h
    rcases List.mem_cons.mp h with h | h
    · exact ⟨k, x, List.mem_cons_self, h⟩
    · obtain ⟨k', x', h1, h2⟩ := mem_zw h
      exact ⟨k', x', List.mem_cons_of_mem _ h1, h2⟩
abbrev enD (k : Nat) (d : D) : D := .tup [.int k, d]
theorem enumD_eq {x : D} {ds : List D} (h : itemsD x = some ds) : enumD x = some ((List.range ds.length).zipWith enD ds) := by
  show (itemsD x).map _ = _
  rw [h]
  rfl
section
variable {w r f it : Nat} {fs : List (Str × Nat)} {fn : Str} {n : Nat} {x : D} {items : List D} {most : Int}
def wBody (fs : List (Str × Nat)) : Ss := .cons (.ifs (.not (.callv 1 fs (.cons (.var 4) .nil))) (.cons (.rais "BadItem" ["index"] (.cons (.var 3) .nil)) .nil) .nil) .nil
theorem want_turn {C : Calls} (hfs : fs.lookup fn = some it) {x : D} {most : Int} {k : Nat} {d : D} (h : C it [d] st = .ok (.bl true) st) {s3 s4 : Sl} :
    ((ofO (bind1 (.t (.cons (.v 3) (.cons (.v 4) .nil))) (enD k d) [.val x, .val (.fn fn), .val (.int most), s3, s4]) st).bnd fun env' st => evSs C (wBody fs) env' st) = .ok (.nx [.val x, .val (.fn fn), .val (.int most), .val (.int k), .val d]) st := by
  simp [evEs, evBs, evAnd, evOr, evTAnd, evTOr, evO, evIf, bor, getV, getB, truthD, freeze, freeze1, bind1, binds, endD, evSs, evS, evHs, isPut, setIx, wipeE, fnIx, Out.nox, wBody, hfs, h]
theorem want_bad {C : Calls} (hfs : fs.lookup fn = some it) {x : D} {most : Int} {k : Nat} {d : D} (h : C it [d] st = .ok (.bl false) st) {s3 s4 : Sl} :
    ((ofO (bind1 (.t (.cons (.v 3) (.cons (.v 4) .nil))) (enD k d) [.val x, .val (.fn fn), .val (.int most), s3, s4]) st).bnd fun env' st => evSs C (wBody fs) env' st) = .ex "BadItem" ["index"] [.int k] st := by
  simp [evEs, evBs, evAnd, evOr, evTAnd, evTOr, evO, evIf, bor, getV, getB, truthD, freeze, freeze1, bind1, binds, endD, evSs, evS, evHs, isPut, setIx, wipeE, fnIx, Out.nox, wBody, hfs, h]
/-- the loop when all items are good -/
theorem want_loop {C : Calls} (hfs : fs.lookup fn = some it) (hit : itemsD x = some items) (h : ∀ d ∈ items, C it [d] st = .ok (.bl true) st) : ∃ s3 s4, evS C (.for_ [] (.t (.cons (.v 3) (.cons (.v 4) .nil))) (.enum (.var 0)) (wBody fs)) [.val x, .val (.fn fn), .val (.int most), .no, .no] st = .ok (.nx [.val x, .val (.fn fn), .val (.int most), s3, s4]) st := by
  obtain ⟨env', st', e, s3, s4, rfl, rfl⟩ := forGo_inv (turn := fun d env st => (ofO (bind1 (.t (.cons (.v 3) (.cons (.v 4) .nil))) d env) st).bnd fun env' st => evSs C (wBody fs) env' st) (fun env st' => ∃ s3 s4, env = [.val x, .val (.fn fn), .val (.int most), s3, s4] ∧ st' = st) ((List.range items.length).zipWith enD items) (fun d hd env st' ⟨s3, s4, e1, e2⟩ => by
    subst e1 e2
    obtain ⟨k, y, hy, rfl⟩ := mem_zw hd
    exact ⟨_, _, want_turn hfs (h y hy), _, _, rfl, rfl⟩) [.val x, .val (.fn fn), .val (.int most), .no, .no] st ⟨_, _, rfl, rfl⟩
  refine ⟨s3, s4, ?_⟩
  show ((ofO (enumD x) _).bnd fun ds st => forGo _ ds _ st) = _
  rw [enumD_eq hit]
  exact e
theorem want_ok (hw : tab[w]? = some ⟨3, 5, iWant r f fs, none⟩) (hr : tab[r]? = some ⟨1, 1, iRow, none⟩) (hf : tab[f]? = some ⟨1, 2, iFrozen f, none⟩) (hfs : fs.lookup fn = some it) (hx : seqD x = some items) (h : ∀ d ∈ items, callN tab (n + 4) it [d] st = .ok (.bl true) st)
    (hl : (items.length : Int) ≤ most) (hp : plN 3 x = true) : callN tab (n + 5) w [x, .fn fn, .int most] st = .ok (frz x) st := by
  have px : plainD x = true := by cases x <;> first | rfl | cases hx
  have rx : rowD x = true := by cases x <;> first | rfl | cases hx
  have ix : itemsD x = some items := by cases x <;> first | exact hx | cases hx
  have lx : lenD x = some items.length := by cases x <;> first | (cases hx; rfl) | cases hx
  rw [call_fn hw (n + 4) _ _ rfl]
  show endD (evSs (callN tab (n + 4)) (iWant r f fs) [.val x, .val (.fn fn), .val (.int most), .no, .no] st) = _
  have e1 := isrow (st := st) hr (n + 3) x px
  rw [rx] at e1
  obtain ⟨s3, s4, e2⟩ := want_loop (most := most) hfs ix h
  have e3 : callN tab (n + 4) f [x] st = .ok (frz x) st := by
    rw [show n + 4 = 3 + n + 1 by omega]
    exact froz hf n 3 x hp
  have s1 : evS (callN tab (n + 4)) (.ifs (.not (.call r (.cons (.var 0) .nil))) (.cons (.rais "BadItem" ["index"] (.cons (.c .non) .nil)) .nil) .nil) [.val x, .val (.fn fn), .val (.int most), .no, .no] st = .ok (.nx [.val x, .val (.fn fn), .val (.int most), .no, .no]) st := by
    simp [evEs, evBs, evAnd, evOr, evTAnd, evTOr, evO, evIf, bor, getV, getB, truthD, freeze, freeze1, bind1, binds, endD, evSs, evS, evHs, isPut, setIx, wipeE, fnIx, Out.nox, e1]
  have nl : ¬ most < (items.length : Int) := by omega
  have s3' : evSs (callN tab (n + 4)) (.cons (.ifs (.cmp .Gt (.bi "len" (.cons (.var 0) .nil)) (.var 2)) (.cons (.rais "TooMany" ["limit"] (.cons (.var 2) .nil)) .nil) .nil) (.cons (.ret [] (.call f (.cons (.var 0) .nil))) .nil)) [.val x, .val (.fn fn), .val (.int most), s3, s4] st = .ok (.rt (frz x)) st := by
    simp [evEs, evBs, evAnd, evOr, evTAnd, evTOr, evO, evIf, bor, getV, getB, truthD, freeze, freeze1, bind1, binds, endD, evSs, evS, evHs, isPut, setIx, wipeE, fnIx, Out.nox, biD, lx, cmpD, nl, e3]
  have all : evSs (callN tab (n + 4)) (iWant r f fs) [.val x, .val (.fn fn), .val (.int most), .no, .no] st = .ok (.rt (frz x)) st :=
    (evSs_next s1).trans ((evSs_next e2).trans s3')
  rw [all]
  rfl
/-- an item that is none -/
theorem want_item (hw : tab[w]? = some ⟨3, 5, iWant r f fs, none⟩) (hr : tab[r]? = some ⟨1, 1, iRow, none⟩) (hfs : fs.lookup fn = some it) {pre post : List D} {b : D} (hx : seqD x = some (pre ++ b :: post)) (h : ∀ d ∈ pre, callN tab (n + 4) it [d] st = .ok (.bl true) st) (hb : callN tab (n + 4) it [b] st = .ok (.bl false) st) :
    callN tab (n + 5) w [x, .fn fn, .int most] st = .ex "BadItem" ["index"] [.int (pre.length : Nat)] st := by
  have px : plainD x = true := by cases x <;> first | rfl | cases hx
  have rx : rowD x = true := by cases x <;> first | rfl | cases hx
  have ix : itemsD x = some (pre ++ b :: post) := by cases x <;> first | exact hx | cases hx
  rw [call_fn hw (n + 4) _ _ rfl]
  show endD (evSs (callN tab (n + 4)) (iWant r f fs) [.val x, .val (.fn fn), .val (.int most), .no, .no] st) = _
  have e1 := isrow (st := st) hr (n + 3) x px
  rw [rx] at e1
  have s1 : evS (callN tab (n + 4)) (.ifs (.not (.call r (.cons (.var 0) .nil))) (.cons (.rais "BadItem" ["index"] (.cons (.c .non) .nil)) .nil) .nil) [.val x, .val (.fn fn), .val (.int most), .no, .no] st = .ok (.nx [.val x, .val (.fn fn), .val (.int most), .no, .no]) st := by
    simp [evEs, evBs, evAnd, evOr, evTAnd, evTOr, evO, evIf, bor, getV, getB, truthD, freeze, freeze1, bind1, binds, endD, evSs, evS, evHs, isPut, setIx, wipeE, fnIx, Out.nox, e1]
  obtain ⟨rest, er⟩ := zw_split (g := enD) pre b post
  have lp : evS (callN tab (n + 4)) (.for_ [] (.t (.cons (.v 3) (.cons (.v 4) .nil))) (.enum (.var 0)) (wBody fs)) [.val x, .val (.fn fn), .val (.int most), .no, .no] st = .ex "BadItem" ["index"] [.int (pre.length : Nat)] st := by
    obtain ⟨st', e, rfl⟩ := forGo_ex (turn := fun d env st => (ofO (bind1 (.t (.cons (.v 3) (.cons (.v 4) .nil))) d env) st).bnd fun env' st => evSs (callN tab (n + 4)) (wBody fs) env' st) (fun env st' => ∃ s3 s4, env = [.val x, .val (.fn fn), .val (.int most), s3, s4] ∧ st' = st) (fun st' => st' = st) (x := enD pre.length b) (c := "BadItem") (ks := ["index"]) (es := [.int (pre.length : Nat)]) ((List.range pre.length).zipWith enD pre) rest (fun d hd env st' ⟨s3, s4, e1, e2⟩ => by
      subst e1 e2
      obtain ⟨k, y, hy, rfl⟩ := mem_zw hd
      exact ⟨_, _, want_turn hfs (h y hy), _, _, rfl, rfl⟩) (fun env st' ⟨s3, s4, e1, e2⟩ => by
      subst e1 e2
      exact ⟨_, want_bad hfs hb, rfl⟩) [.val x, .val (.fn fn), .val (.int most), .no, .no] st ⟨_, _, rfl, rfl⟩
    show ((ofO (enumD x) st').bnd fun ds st => forGo _ ds _ st) = _
    rw [enumD_eq ix, er]
    exact e
  have all : evSs (callN tab (n + 4)) (iWant r f fs) [.val x, .val (.fn fn), .val (.int most), .no, .no] st = .ex "BadItem" ["index"] [.int (pre.length : Nat)] st :=
    (evSs_next s1).trans (evSs_ex lp)
  rw [all]
  rfl
end
end
end Eng
set_option Elab.async false
set_option linter.all false
set_option maxRecDepth 100000
set_option maxHeartbeats 2000000
/-! Law 4: the other ends of want_row; drawn names -/
namespace Eng
open PySem PySem.Spec L2
section
variable {tab : List FnI} {st : Store} {w r f it : Nat} {fs : List (Str × Nat)} {fn : Str} {n : Nat} {x : D} {items : List D} {most : Int}
theorem want_many (hw : tab[w]? = some ⟨3, 5, iWant r f fs, none⟩) (hr : tab[r]? = some ⟨1, 1, iRow, none⟩) (hfs : fs.lookup fn = some it) (hx : seqD x = some items) (h : ∀ d ∈ items, callN tab (n + 4) it [d] st = .ok (.bl true) st)
    (hl : most < (items.length : Int)) : callN tab (n + 5) w [x, .fn fn, .int most] st = .ex "TooMany" ["limit"] [.int most] st := by
  have px : plainD x = true := by cases x <;> first | rfl | cases hx
  have rx : rowD x = true := by cases x <;> first | rfl | cases hx
  have ix : itemsD x = some items := by cases x <;> first | exact hx | cases hx
  have lx : lenD x = some items.length := by cases x <;> first | (cases hx; rfl) | cases hx
  rw [call_fn hw (n + 4) _ _ rfl]
  show endD (evSs (callN tab (n + 4)) (iWant r f fs) [.val x, .val (.fn fn), .val (.int most), .no, .no] st) = _
  have e1 := isrow (st := st) hr (n + 3) x px
  rw [rx] at e1
  obtain ⟨s3, s4, e2⟩ := want_loop (most := most) hfs ix h
  have s1 : evS (callN tab (n + 4)) (.ifs (.not (.call r (.cons (.var 0) .nil))) (.cons (.rais "BadItem" ["index"] (.cons (.c .non) .nil)) .nil) .nil) [.val x, .val (.fn fn), .val (.int most), .no, .no] st = .ok (.nx [.val x, .val (.fn fn), .val (.int most), .no, .no]) st := by
    simp [evEs, evBs, evAnd, evOr, evTAnd, evTOr, evO, evIf, bor, getV, getB, truthD, freeze, freeze1, bind1, binds, endD, evSs, evS, evHs, isPut, setIx, wipeE, fnIx, Out.nox, e1]
  have s3' : evS (callN tab (n + 4)) (.ifs (.cmp .Gt (.bi "len" (.cons (.var 0) .nil)) (.var 2)) (.cons (.rais "TooMany" ["limit"] (.cons (.var 2) .nil)) .nil) .nil) [.val x, .val (.fn fn), .val (.int most), s3, s4] st = .ex "TooMany" ["limit"] [.int most] st := by
    simp [evEs, evBs, evAnd, evOr, evTAnd, evTOr, evO, evIf, bor, getV, getB, truthD, freeze, freeze1, bind1, binds, endD, evSs, evS, evHs, isPut, setIx, wipeE, fnIx, Out.nox, biD, lx, cmpD, hl]
  have all : evSs (callN tab (n + 4)) (iWant r f fs) [.val x, .val (.fn fn), .val (.int most), .no, .no] st = .ex "TooMany" ["limit"] [.int most] st :=
    (evSs_next s1).trans ((evSs_next e2).trans (evSs_ex s3'))
  rw [all]
  rfl
theorem want_none (hw : tab[w]? = some ⟨3, 5, iWant r f fs, none⟩) (hr : tab[r]? = some ⟨1, 1, iRow, none⟩) (n : Nat) : callN tab (n + 2) w [.non, .fn fn, .int most] st = .ex "BadItem" ["index"] [.non] st := by
  rw [call_fn hw (n + 1) _ _ rfl]
  show endD (evSs (callN tab (n + 1)) (iWant r f fs) [.val .non, .val (.fn fn), .val (.int most), .no, .no] st) = _
  have e1 := isrow (st := st) hr n .non rfl
  have s1 : evS (callN tab (n + 1)) (.ifs (.not (.call r (.cons (.var 0) .nil))) (.cons (.rais "BadItem" ["index"] (.cons (.c .non) .nil)) .nil) .nil) [.val .non, .val (.fn fn), .val (.int most), .no, .no] st = .ex "BadItem" ["index"] [.non] st := by
    simp [evEs, evBs, evAnd, evOr, evTAnd, evTOr, evO, evIf, bor, getV, getB, truthD, freeze, freeze1, bind1, binds, endD, evSs, evS, evHs, isPut, setIx, wipeE, fnIx, Out.nox, e1, rowD]
  have all : evSs (callN tab (n + 1)) (iWant r f fs) [.val .non, .val (.fn fn), .val (.int most), .no, .no] st = .ex "BadItem" ["index"] [.non] st := evSs_ex s1
  rw [all]
  rfl
end
theorem for_rng {C : Calls} {fz : List Nat} {tg : Tg} {es : Es} {body : Ss} {env : Env} {st st1 : Store} {ds xs : List D} (he : evEs C (freeze env fz) es st = .ok ds st1) (hr : rngD ds = some xs) :
    evS C (.for_ fz tg (.rng es) body) env st = forGo (fun d env st => (ofO (bind1 tg d env) st).bnd fun env' st => evSs C body env' st) xs (freeze env fz) st1 := by
  simp only [evS, evItV, he, Out.bnd_ok, hr, ofO_some]
/-! ### texts -/
theorem app_list (a b : Str) : (a ++ b).cps.toList = a.cps.toList ++ b.cps.toList := by
  show (a.cps ++ b.cps).toList = _
  simp
theorem len_list (a : Str) : a.length = a.cps.toList.length := by simp [Str.length]
def signs : Str := "abcdefghijklmnopqrstuvwxyz0123456789"
def Sg : List Nat := signs.cps.toList
theorem sg_len : Sg.length = 36 := by decide +kernel
theorem sg_lt : ∀ v < 26, Sg.getD v 0 ∈ Lt := by decide +kernel
theorem sg_sgn : ∀ v < 36, sgn (Sg.getD v 0) = true := by decide +kernel
/-- the sign at v -/
def sga (v : Int) : Nat := Sg.getD v.toNat 0
theorem sga_lt {v : Int} (h : v.toNat < 26) : sga v ∈ Lt := sg_lt _ h
theorem sga_sgn {v : Int} (h : v.toNat < 36) : sgn (sga v) = true := sg_sgn _ h
theorem sg_at {v : Int} (h0 : 0 ≤ v) (h1 : v < 36) : ixS (.str signs) (.int v) = some (.str ⟨#[sga v]⟩) := by
  have hb := big
  have l : signs.length = 36 := by rw [len_list]; exact sg_len
  have lt : v.toNat < Sg.length := by rw [sg_len]; omega
  have e : atI Sg v = some (sga v) := by
    show atI Sg v = some (Sg.getD v.toNat 0)
    have : v = ((v.toNat : Nat) : Int) := by omega
    rw [this]
    refine (atI_nat (List.getElem?_eq_getElem lt)).trans ?_
    rw [List.getD_eq_getElem?_getD, Int.toNat_natCast, List.getElem?_eq_getElem lt]
    rfl
  show (if signs.length ≤ sizeLine then (atI Sg v).map fun c => D.str ⟨#[c]⟩ else none) = _
  rw [if_pos (by omega), e]
  rfl
/-- a name of i + 1 signs -/
def NmI (i : Nat) (x : Str) : Prop := ∃ c cs, x.cps.toList = c :: cs ∧ c ∈ Lt ∧ (c :: cs).all sgn = true ∧ cs.length = i
theorem NmI.ok {i : Nat} {x : Str} (h : NmI i x) (hi : i < 12) : nameB x = true := by
  obtain ⟨c, cs, e, h1, h2, h3⟩ := h
  unfold nameB
  rw [e]
  simp only [h1, h2, h3, hi, decide_true, Bool.and_self]
theorem NmI.len {i : Nat} {x : Str} (h : NmI i x) : x.length = i + 1 := by
  obtain ⟨c, cs, e, h1, h2, h3⟩ := h
  rw [len_list, e, List.length_cons, h3]
section
variable {tab : List FnI} {ns : List Int} {st : Store}
theorem name_ok {t p m : Nat} (ht : tab[t]? = some ⟨2, 4, iTaken, none⟩) (hp : tab[p]? = some ⟨2, 2, iPick t, none⟩) (hm : tab[m]? = some ⟨1, 5, iNm t p, none⟩) (h : Dr ns st) (n : Nat) : ∃ x st', callN tab (n + 3) m [.obj 0] st = .ok (.str x) st' ∧ Dr ns st' ∧ nameB x = true := by
  have hb := big
  obtain ⟨d, st1, e1, h1, m1⟩ := pick ht hp h n [.int 1, .int 1, .int 2, .int 3, .int 5, .int 12] (by decide) (by decide)
  obtain ⟨size, ed, hs0, hs1⟩ : ∃ size : Int, d = .int size ∧ 1 ≤ size ∧ size ≤ 12 := by
    simp only [List.mem_cons, List.not_mem_nil, or_false] at m1
    rcases m1 with rfl | rfl | rfl | rfl | rfl | rfl
    · exact ⟨1, rfl, by decide, by decide⟩
    · exact ⟨1, rfl, by decide, by decide⟩
    · exact ⟨2, rfl, by decide, by decide⟩
    · exact ⟨3, rfl, by decide, by decide⟩
    · exact ⟨5, rfl, by decide, by decide⟩
    · exact ⟨12, rfl, by decide, by decide⟩
  subst ed
  obtain ⟨v, st2, e2, h2, v0, v1⟩ := taken ht h1 (n + 1) 26 (by decide) (by decide)
  have vn : v.toNat < 26 := by omega
  have lt26 := sga_lt vn
  have sg26 := sga_sgn (v := v) (by omega)
  have x0 : NmI 0 ⟨#[sga v]⟩ := ⟨_, [], rfl, lt26, by simp only [List.all_cons, List.all_nil, sg26, Bool.and_self], rfl⟩
  rw [call_fn hm (n + 2) _ _ rfl]
  show ∃ x st', endD (evSs (callN tab (n + 2)) (iNm t p) [.val (.obj 0), .no, .no, .no, .no] st) = .ok (.str x) st' ∧ _
  have z6 : (6 : Nat) ≤ sizeLine := by omega
  have s1 : evS (callN tab (n + 2)) (.asg [] (.v 1) (.c (.str signs))) [.val (.obj 0), .no, .no, .no, .no] st = .ok (.nx [.val (.obj 0), .val (.str signs), .no, .no, .no]) st := rfl
  have s2 : evS (callN tab (n + 2)) (.asg [] (.v 2) (.call p (.cons (.var 0) (.cons (.lst (.cons (.c (.int 1)) (.cons (.c (.int 1)) (.cons (.c (.int 2)) (.cons (.c (.int 3)) (.cons (.c (.int 5)) (.cons (.c (.int 12)) .nil))))))) .nil)))) [.val (.obj 0), .val (.str signs), .no, .no, .no] st = .ok (.nx [.val (.obj 0), .val (.str signs), .val (.int size), .no, .no]) st1 := by
    simp [evEs, evBs, evAnd, evOr, evTAnd, evTOr, evO, evIf, bor, getV, getB, truthD, freeze, freeze1, bind1, binds, endD, evSs, evS, evHs, isPut, setIx, wipeE, fnIx, Out.nox, z6, e1]
  have s3 : evS (callN tab (n + 2)) (.asg [] (.v 3) (.ix (.var 1) (.call t (.cons (.var 0) (.cons (.c (.int 26)) .nil))))) [.val (.obj 0), .val (.str signs), .val (.int size), .no, .no] st1 = .ok (.nx [.val (.obj 0), .val (.str signs), .val (.int size), .val (.str ⟨#[sga v]⟩), .no]) st2 := by
    simp [evEs, evBs, evAnd, evOr, evTAnd, evTOr, evO, evIf, bor, getV, getB, truthD, freeze, freeze1, bind1, binds, endD, evSs, evS, evHs, isPut, setIx, wipeE, fnIx, Out.nox, e2, deref, sg_at v0 (by omega : v < 36)]
  obtain ⟨env', st', e4, x, s4, hx, rfl, h4⟩ := forGo_nat (turn := fun d env st => (ofO (bind1 (.v 4) d env) st).bnd fun env' st => evSs (callN tab (n + 2)) (.cons (.asg [] (.v 3) (.bin .Add (.var 3) (.ix (.var 1) (.call t (.cons (.var 0) (.cons (.c (.int 36)) .nil)))))) .nil) env' st)
    (fun i env st => ∃ x s4, NmI i x ∧ env = [.val (.obj 0), .val (.str signs), .val (.int size), .val (.str x), s4] ∧ Dr ns st) ((List.range (size - 1).toNat).map fun (k : Nat) => D.int (k : Int)) 0 (fun i d hd env st ⟨x, s4, hx, ee, hst⟩ => by
      subst ee
      have li : i < (size - 1).toNat := by
        have := (List.getElem?_eq_some_iff.mp hd).1
        rw [List.length_map, List.length_range] at this
        exact this
      obtain ⟨u, st', eu, h', u0, u1⟩ := taken ht hst (n + 1) 36 (by decide) (by decide)
      have ln := hx.len
      have fit : x.length + (⟨#[sga u]⟩ : Str).length ≤ sizeLine := by
        show x.length + 1 ≤ sizeLine
        omega
      refine ⟨[.val (.obj 0), .val (.str signs), .val (.int size), .val (.str (x ++ ⟨#[sga u]⟩)), .val d], st', ?_, x ++ ⟨#[sga u]⟩, .val d, ?_, rfl, h'⟩
      · simp [evEs, evBs, evAnd, evOr, evTAnd, evTOr, evO, evIf, bor, getV, getB, truthD, freeze, freeze1, bind1, binds, endD, evSs, evS, evHs, isPut, setIx, wipeE, fnIx, Out.nox, eu, deref, sg_at u0 u1, binD, fit]
      · obtain ⟨c, cs, e, k1, k2, k3⟩ := hx
        refine ⟨c, cs ++ [sga u], by rw [app_list, e]; rfl, k1, ?_, by rw [List.length_append, k3, Nat.zero_add]; rfl⟩
        rw [← List.cons_append, List.all_append, k2]
        simp only [List.all_cons, List.all_nil, sga_sgn (v := u) (by omega), Bool.and_self]) [.val (.obj 0), .val (.str signs), .val (.int size), .val (.str ⟨#[sga v]⟩), .no] st2 ⟨_, _, x0, rfl, h2⟩
  have s4' : evS (callN tab (n + 2)) (.for_ [] (.v 4) (.rng (.cons (.bin .Sub (.var 2) (.c (.int 1))) .nil)) (.cons (.asg [] (.v 3) (.bin .Add (.var 3) (.ix (.var 1) (.call t (.cons (.var 0) (.cons (.c (.int 36)) .nil)))))) .nil)) [.val (.obj 0), .val (.str signs), .val (.int size), .val (.str ⟨#[sga v]⟩), .no] st2 = .ok (.nx [.val (.obj 0), .val (.str signs), .val (.int size), .val (.str x), s4]) st' := by
    have er : rngD [.int (size - 1)] = some ((List.range (size - 1).toNat).map fun (k : Nat) => D.int (k : Int)) := by
      have z := rng_nat (n := (size - 1).toNat) (by omega)
      rw [show (((size - 1).toNat : Nat) : Int) = size - 1 by omega] at z
      exact z
    have ev : evEs (callN tab (n + 2)) [.val (.obj 0), .val (.str signs), .val (.int size), .val (.str ⟨#[sga v]⟩), .no] (.cons (.bin .Sub (.var 2) (.c (.int 1))) .nil) st2 = .ok [.int (size - 1)] st2 := by
      simp [evEs, evBs, evAnd, evOr, evTAnd, evTOr, evO, evIf, bor, getV, getB, truthD, freeze, freeze1, bind1, binds, endD, evSs, evS, evHs, isPut, setIx, wipeE, fnIx, Out.nox, binD]
    exact (for_rng (fz := []) ev er).trans e4
  have all : evSs (callN tab (n + 2)) (iNm t p) [.val (.obj 0), .no, .no, .no, .no] st = .ok (.rt (.str x)) st' :=
    (evSs_next s1).trans ((evSs_next s2).trans ((evSs_next s3).trans ((evSs_next s4').trans rfl)))
  refine ⟨x, st', by rw [all]; rfl, h4, hx.ok ?_⟩
  rw [List.length_map, List.length_range]
  omega
end
end Eng
set_option Elab.async false
set_option linter.all false
set_option maxRecDepth 100000
set_option maxHeartbeats 2000000
/-! Law 5: so many different names -/
namespace Eng
open PySem PySem.Spec L2
theorem pigeon : ∀ (l found : List Str), l.Nodup → (∀ x ∈ l, x ∈ found) → l.length ≤ found.length
  | [], _, _, _ => Nat.zero_le _
  | x :: l, found, hn, h => by
    obtain ⟨h1, h2⟩ := List.nodup_cons.mp hn
    have hx := h x List.mem_cons_self
    have := pigeon l (found.erase x) h2 fun y hy => (List.mem_erase_of_ne (fun e => h1 (by rw [← e]; exact hy))).mpr (h y (List.mem_cons_of_mem _ hy))
    have e := List.length_erase_of_mem hx
    have : 0 < found.length := List.length_pos_of_mem hx
    rw [List.length_cons]
    omega
/-- the figures of a turn -/
def tkS (k : Nat) : Str := toString (k : Int)
theorem tk_fg : ∀ k < 100, ((tkS k).cps.toList.all fun c => decide (c ∈ Fg)) = true ∧ (tkS k).cps.toList.length ≤ 2 := by decide +kernel
theorem tk_nd : ((List.range 100).map fun k => (tkS k).cps.toList).Nodup := by decide +kernel
theorem tk_log : ∀ k < 100, ((k : Nat) : Int).natAbs.log2 < 1920 := by decide +kernel
theorem eq_of_list {a b : Str} (h : a.cps.toList = b.cps.toList) : a = b := by
  obtain ⟨⟨a⟩⟩ := a
  obtain ⟨⟨b⟩⟩ := b
  cases h
  rfl
/-- the first nine signs -/
def nine (x : Str) : Str := cutS x none (some 9)
theorem nine_list (x : Str) : (nine x).cps.toList = x.cps.toList.take (min 9 x.length) := by
  show (x.cps.toList.drop 0).take (min (9 : Int).toNat x.length - 0) = _
  rfl
theorem take_len {x : Str} : x.cps.toList.take (min 9 x.length) = x.cps.toList.take 9 := by
  rw [len_list]
  by_cases h : 9 ≤ x.cps.toList.length
  · rw [Nat.min_eq_left h]
  · rw [Nat.min_eq_right (by omega), List.take_length, List.take_of_length_le (by omega)]
/-- other names: nine signs and a turn's figures -/
def spares (x : Str) : List Str := x :: (List.range 100).map fun k => nine x ++ tkS k
theorem spare_ok {x y : Str} (h : nameB x = true) (hy : y ∈ spares x) : nameB y = true := by
  rcases List.mem_cons.mp hy with rfl | hy
  · exact h
  · obtain ⟨k, hk, rfl⟩ := List.mem_map.mp hy
    have hk := List.mem_range.mp hk
    obtain ⟨f1, f2⟩ := tk_fg k hk
    cases q : x.cps.toList with
    | nil =>
      unfold nameB at h
      rw [q] at h
      cases h
    | cons c cs =>
      unfold nameB at h
      rw [q] at h
      simp only [Bool.and_eq_true, decide_eq_true_eq] at h
      obtain ⟨h1, h2, h3⟩ := h
      have e : (nine x ++ tkS k).cps.toList = c :: (cs.take 8 ++ (tkS k).cps.toList) := by
        rw [app_list, nine_list, take_len, q]
        rfl
      have s2 : (tkS k).cps.toList.all sgn = true := List.all_eq_true.mpr fun c hc => by
        have := List.all_eq_true.mp f1 c hc
        unfold sgn
        rw [this, Bool.or_true]
      have s1 : (c :: cs.take 8).all sgn = true := List.all_eq_true.mpr fun d hd => List.all_eq_true.mp h2 d (by
        rcases List.mem_cons.mp hd with rfl | hd
        · exact List.mem_cons_self
        · exact List.mem_cons_of_mem _ (List.mem_of_mem_take hd))
      unfold nameB
      rw [e]
      simp only [Bool.and_eq_true, decide_eq_true_eq]
      refine ⟨h1, ?_, ?_⟩
      · rw [← List.cons_append, List.all_append, s1, s2]
        rfl
      · rw [List.length_append, List.length_take]
        omega
theorem spare_free (x : Str) (found : List Str) (h : found.length < 100) : ∃ y ∈ spares x, y ∉ found := by
  by_cases q : ∃ y ∈ spares x, y ∉ found
  · exact q
  · exfalso
    have al : ∀ y ∈ (List.range 100).map fun k => nine x ++ tkS k, y ∈ found := fun y hy => by
      by_cases z : y ∈ found
      · exact z
      · exact absurd ⟨y, List.mem_cons_of_mem _ hy, z⟩ q
    have nd : ((List.range 100).map fun k => nine x ++ tkS k).Nodup := by
      have t := tk_nd
      rw [List.nodup_iff_pairwise_ne, List.pairwise_map] at t ⊢
      refine t.imp fun {a b} ne e => ne ?_
      have e2 := congrArg (fun z : Str => z.cps.toList) e
      have e2 : (nine x ++ tkS a).cps.toList = (nine x ++ tkS b).cps.toList := e2
      rw [app_list, app_list] at e2
      exact List.append_cancel_left e2
    have := pigeon _ found nd al
    rw [List.length_map, List.length_range] at this
    omega
theorem any_mem (y : Str) : ∀ xs : List Str, ((xs.map D.str).any fun z => eqD z (.str y)) = decide (y ∈ xs)
  | [] => rfl
  | x :: xs => by
    rw [List.map_cons, List.any_cons, any_mem y xs]
    show (decide (x = y) || decide (y ∈ xs)) = _
    by_cases h : x = y
    · simp [h]
    · have h' : ¬ y = x := fun e => h e.symm
      simp [h, h']
theorem flat_map (xs : List Str) : (xs.map D.str).all flatD = true := by
  rw [List.all_map]
  exact List.all_eq_true.mpr fun _ _ => rfl
theorem in_strs (y : Str) (xs : List Str) : inD (.str y) (.lst (xs.map .str)) = some (decide (y ∈ xs)) := by
  show (if (flatD (.str y) && (xs.map D.str).all flatD) = true then some ((xs.map D.str).any fun z => eqD z (.str y)) else _) = _
  rw [flat_map, any_mem]
  rfl
section
variable {tab : List FnI} {ns : List Int} {st : Store}
theorem names_ok {t p m l : Nat} (ht : tab[t]? = some ⟨2, 4, iTaken, none⟩) (hp : tab[p]? = some ⟨2, 2, iPick t, none⟩) (hm : tab[m]? = some ⟨1, 5, iNm t p, none⟩) (hl : tab[l]? = some ⟨2, 8, iNms m, none⟩) (h : Dr ns st) (n : Nat) (many : Nat) (hmany : many ≤ 60) :
    ∃ (xs : List Str) (st' : Store), callN tab (n + 4) l [.obj 0, .int many] st = .ok (.lst (xs.map .str)) st' ∧ Dr ns st' ∧ xs.length = many ∧ xs.Nodup ∧ ∀ x ∈ xs, nameB x = true := by
  have hb := big
  rw [call_fn hl (n + 3) _ _ rfl]
  show ∃ (xs : List Str) (st' : Store), endD (evSs (callN tab (n + 3)) (iNms m) [.val (.obj 0), .val (.int many), .no, .no, .no, .no, .no, .no] st) = .ok (.lst (xs.map .str)) st' ∧ _
  have z0 : (0 : Nat) ≤ sizeLine := Nat.zero_le _
  have z1 : (1 : Nat) ≤ sizeLine := by omega
  have s1 : evS (callN tab (n + 3)) (.own 2 (.lst .nil)) [.val (.obj 0), .val (.int many), .no, .no, .no, .no, .no, .no] st = .ok (.nx [.val (.obj 0), .val (.int many), .own (.lst []), .no, .no, .no, .no, .no]) st := by
    simp [evEs, evBs, evAnd, evOr, evTAnd, evTOr, evO, evIf, bor, getV, getB, truthD, freeze, freeze1, bind1, binds, endD, evSs, evS, evHs, isPut, setIx, wipeE, fnIx, Out.nox, z0, isCont]
  obtain ⟨env', st', e4, xs, s3, s4, s5, rfl, hst, hlen, hnd, hok⟩ := forGo_nat (turn := fun d env st => (ofO (bind1 (.v 3) d env) st).bnd fun env' st => evSs (callN tab (n + 3)) (.cons (.asg [] (.v 4) (.call m (.cons (.var 0) .nil))) (.cons (.asg [] (.v 5) (.bin .Add (.lst (.cons (.var 4) .nil)) (.lc (.bin .Add (.sl (.var 4) .no (.so (.c (.int 9)))) (.bi "str" (.cons (.var 6) .nil))) (.v 6) (.rng (.cons (.c (.int 100)) .nil)) .no [6]))) (.cons (.app [] 2 (.ix (.lc (.var 7) (.v 7) (.seq (.var 5)) (.so (.cmp .NotIn (.var 7) (.var 2))) [7]) (.c (.int 0)))) .nil))) env' st)
    (fun i env st => ∃ (xs : List Str) (s3 s4 s5 : Sl), env = [.val (.obj 0), .val (.int many), .own (.lst (xs.map .str)), s3, s4, s5, .no, .no] ∧ Dr ns st ∧ xs.length = i ∧ xs.Nodup ∧ ∀ x ∈ xs, nameB x = true) ((List.range many).map fun (k : Nat) => D.int (k : Int)) 0 (fun i d hd env st ⟨xs, s3, s4, s5, ee, hst, hlen, hnd, hok⟩ => by
      subst ee
      have li : i < many := by
        have := (List.getElem?_eq_some_iff.mp hd).1
        rw [List.length_map, List.length_range] at this
        exact this
      obtain ⟨x, st', ex, h', hx⟩ := name_ok ht hp hm hst n
      have lx : x.length ≤ 12 := by
        rw [len_list]
        unfold nameB at hx
        cases q : x.cps.toList with
        | nil => simp
        | cons c cs =>
          rw [q] at hx
          simp only [Bool.and_eq_true, decide_eq_true_eq] at hx
          rw [List.length_cons]
          omega
      have l9 : (nine x).length ≤ 9 := by
        rw [len_list, nine_list, List.length_take]
        omega
      -- the spare names
      have sp : (evP (callN tab (n + 3)) [.val (.obj 0), .val (.int many), .own (.lst (xs.map .str)), .val d, .val (.str x), s5, .no, .no] (.lc (.bin .Add (.sl (.var 4) .no (.so (.c (.int 9)))) (.bi "str" (.cons (.var 6) .nil))) (.v 6) (.rng (.cons (.c (.int 100)) .nil)) .no [6])).1 st' = .ok (.lst (((List.range 100).map fun k => nine x ++ tkS k).map .str)) st' := by
        have z := lc_map (C := callN tab (n + 3)) (env := [.val (.obj 0), .val (.int many), .own (.lst (xs.map .str)), .val d, .val (.str x), s5, .no, .no]) (elt := .bin .Add (.sl (.var 4) .no (.so (.c (.int 9)))) (.bi "str" (.cons (.var 6) .nil))) (tg := .v 6) (it := .rng (.cons (.c (.int 100)) .nil)) (ws := [6]) (st := st')
          (ds := (List.range 100).map fun (k : Nat) => D.int (k : Int)) (fun d => match d with | .int k => .str (nine x ++ tkS k.toNat) | d => d) (by
            have e := rng_nat (n := 100) (by omega)
            have e : rngD [.int 100] = some ((List.range 100).map fun (k : Nat) => D.int (k : Int)) := e
            show (ofO (rngD [.int 100]) st') = _
            rw [e]
            rfl) fun d' hd' => by
          obtain ⟨k, hk, rfl⟩ := List.mem_map.mp hd'
          have hk := List.mem_range.mp hk
          refine ⟨[.val (.obj 0), .val (.int many), .own (.lst (xs.map .str)), .val d, .val (.str x), s5, .val (.int (k : Int)), .no], rfl, ?_⟩
          have c1 : slD (.str x) none (some 9) = some (.str (nine x)) := by
            show (if x.length ≤ sizeLine then some (D.str (cutS x none (some 9))) else none) = _
            rw [if_pos (by omega)]
            rfl
          have c2 : biD "str" [.int (k : Int)] = some (.str (tkS k)) := by
            show (if ((k : Nat) : Int).natAbs.log2 < 1920 then some (D.str (toString ((k : Nat) : Int))) else none) = _
            rw [if_pos (tk_log k hk)]
            rfl
          have lk : (tkS k).length ≤ 2 := by rw [len_list]; exact (tk_fg k hk).2
          have fit : (nine x).length + (tkS k).length ≤ sizeLine := by omega
          simp [evEs, evBs, evAnd, evOr, evTAnd, evTOr, evO, evIf, bor, getV, getB, truthD, freeze, freeze1, bind1, binds, endD, evSs, evS, evHs, isPut, setIx, wipeE, fnIx, Out.nox, c1, c2, binD, fit]
        rw [z, List.map_map, List.map_map]
        congr 2
      have s2' : evS (callN tab (n + 3)) (.asg [] (.v 5) (.bin .Add (.lst (.cons (.var 4) .nil)) (.lc (.bin .Add (.sl (.var 4) .no (.so (.c (.int 9)))) (.bi "str" (.cons (.var 6) .nil))) (.v 6) (.rng (.cons (.c (.int 100)) .nil)) .no [6]))) [.val (.obj 0), .val (.int many), .own (.lst (xs.map .str)), .val d, .val (.str x), s5, .no, .no] st' = .ok (.nx [.val (.obj 0), .val (.int many), .own (.lst (xs.map .str)), .val d, .val (.str x), .val (.lst ((spares x).map .str)), .no, .no]) st' := by
        have fit : 1 + 100 ≤ sizeLine := by omega
        have b1 : binD .Add (.lst [.str x]) (.lst (((List.range 100).map fun k => nine x ++ tkS k).map .str)) = some (.lst ((spares x).map .str)) := by
          show (if [D.str x].length + (((List.range 100).map fun k => nine x ++ tkS k).map D.str).length ≤ sizeLine then some (D.lst ([D.str x] ++ ((List.range 100).map fun k => nine x ++ tkS k).map .str)) else none) = _
          rw [List.length_map, List.length_map, List.length_range, if_pos (show [D.str x].length + 100 ≤ sizeLine from fit)]
          rfl
        show ((evP (callN tab (n + 3)) [.val (.obj 0), .val (.int many), .own (.lst (xs.map .str)), .val d, .val (.str x), s5, .no, .no] (.bin .Add (.lst (.cons (.var 4) .nil)) (.lc (.bin .Add (.sl (.var 4) .no (.so (.c (.int 9)))) (.bi "str" (.cons (.var 6) .nil))) (.v 6) (.rng (.cons (.c (.int 100)) .nil)) .no [6]))).1 st').bnd _ = _
        rw [e_bin]
        show (((evP (callN tab (n + 3)) _ (.lst (.cons (.var 4) .nil))).1 st').bnd fun x st => ((evP (callN tab (n + 3)) _ (.lc _ _ _ _ _)).1 st).bnd fun y st => ofO (binD .Add x y) st).bnd _ = _
        have l1 : (evP (callN tab (n + 3)) [.val (.obj 0), .val (.int many), .own (.lst (xs.map .str)), .val d, .val (.str x), s5, .no, .no] (.lst (.cons (.var 4) .nil))).1 st' = .ok (.lst [.str x]) st' := by
          simp [evEs, evBs, evAnd, evOr, evTAnd, evTOr, evO, evIf, bor, getV, getB, truthD, freeze, freeze1, bind1, binds, endD, evSs, evS, evHs, isPut, setIx, wipeE, fnIx, Out.nox, z1]
        rw [l1, Out.bnd_ok, sp, Out.bnd_ok, b1]
        rfl
      have fl : (evP (callN tab (n + 3)) [.val (.obj 0), .val (.int many), .own (.lst (xs.map .str)), .val d, .val (.str x), .val (.lst ((spares x).map .str)), .no, .no] (.lc (.var 7) (.v 7) (.seq (.var 5)) (.so (.cmp .NotIn (.var 7) (.var 2))) [7])).1 st' = .ok (.lst (((spares x).filter fun y => !decide (y ∈ xs)).map .str)) st' := by
        have z := lc_filter (C := callN tab (n + 3)) (env := [.val (.obj 0), .val (.int many), .own (.lst (xs.map .str)), .val d, .val (.str x), .val (.lst ((spares x).map .str)), .no, .no]) (elt := .var 7) (tg := .v 7) (it := .seq (.var 5)) (c := .cmp .NotIn (.var 7) (.var 2)) (ws := [7]) (st := st')
          (ds := (spares x).map .str) (fun d => match d with | .str y => !decide (y ∈ xs) | _ => false) (fun d => d) rfl fun d' hd' => by
          obtain ⟨y, hy, rfl⟩ := List.mem_map.mp hd'
          refine ⟨[.val (.obj 0), .val (.int many), .own (.lst (xs.map .str)), .val d, .val (.str x), .val (.lst ((spares x).map .str)), .no, .val (.str y)], rfl, ?_, fun _ => rfl⟩
          simp [evEs, evBs, evAnd, evOr, evTAnd, evTOr, evO, evIf, bor, getV, getB, truthD, freeze, freeze1, bind1, binds, endD, evSs, evS, evHs, isPut, setIx, wipeE, fnIx, Out.nox, cmpD, in_strs]
        rw [z, List.map_id', List.filter_map]
        rfl
      obtain ⟨y, ys, ey⟩ : ∃ y ys, ((spares x).filter fun y => !decide (y ∈ xs)) = y :: ys := by
        cases q : (spares x).filter fun y => !decide (y ∈ xs) with
        | cons y ys => exact ⟨y, ys, rfl⟩
        | nil =>
          obtain ⟨y, h1, h2⟩ := spare_free x xs (by omega)
          have := List.filter_eq_nil_iff.mp q y h1
          simp [h2] at this
      have hy : y ∈ (spares x).filter fun y => !decide (y ∈ xs) := by rw [ey]; exact List.mem_cons_self
      obtain ⟨hy1, hy2⟩ := List.mem_filter.mp hy
      have hy2 : y ∉ xs := by simpa using hy2
      have fitl : (xs.map D.str).length < sizeLine := by rw [List.length_map]; omega
      have s3' : evS (callN tab (n + 3)) (.app [] 2 (.ix (.lc (.var 7) (.v 7) (.seq (.var 5)) (.so (.cmp .NotIn (.var 7) (.var 2))) [7]) (.c (.int 0)))) [.val (.obj 0), .val (.int many), .own (.lst (xs.map .str)), .val d, .val (.str x), .val (.lst ((spares x).map .str)), .no, .no] st' = .ok (.nx [.val (.obj 0), .val (.int many), .own (.lst ((xs ++ [y]).map .str)), .val d, .val (.str x), .val (.lst ((spares x).map .str)), .no, .no]) st' := by
        have ix : (evP (callN tab (n + 3)) [.val (.obj 0), .val (.int many), .own (.lst (xs.map .str)), .val d, .val (.str x), .val (.lst ((spares x).map .str)), .no, .no] (.ix (.lc (.var 7) (.v 7) (.seq (.var 5)) (.so (.cmp .NotIn (.var 7) (.var 2))) [7]) (.c (.int 0)))).1 st' = .ok (.str y) st' := by
          rw [e_ix]
          show (((evP (callN tab (n + 3)) _ (.lc _ _ _ _ _)).1 st').bnd fun x st => ((evP (callN tab (n + 3)) _ (.c (.int 0))).1 st).bnd fun k st => ofO ((deref st x).bind fun x => ixS x k) st) = _
          have a0 : ixS (.lst (D.str y :: ys.map .str)) (.int 0) = some (.str y) := atI_nat (k := 0) rfl
          rw [fl, ey]
          simp only [Out.bnd_ok, e_c, deref, Option.bind_some, List.map_cons, a0, ofO_some]
        have own : ownL [.val (.obj 0), .val (.int many), .own (.lst (xs.map .str)), .val d, .val (.str x), .val (.lst ((spares x).map .str)), .no, .no] 2 = some (xs.map .str) := rfl
        simp only [evS, freeze, own, ofO_some, Out.bnd_ok, ix, decide_eq_true fitl, chkO_true, List.map_append]
        rfl
      refine ⟨_, st', ?_, xs ++ [y], .val d, .val (.str x), .val (.lst ((spares x).map .str)), rfl, h', by rw [List.length_append, hlen]; rfl, ?_, fun z hz => ?_⟩
      · have s1' : evS (callN tab (n + 3)) (.asg [] (.v 4) (.call m (.cons (.var 0) .nil))) [.val (.obj 0), .val (.int many), .own (.lst (xs.map .str)), .val d, s4, s5, .no, .no] st = .ok (.nx [.val (.obj 0), .val (.int many), .own (.lst (xs.map .str)), .val d, .val (.str x), s5, .no, .no]) st' := by
          simp [evEs, evBs, evAnd, evOr, evTAnd, evTOr, evO, evIf, bor, getV, getB, truthD, freeze, freeze1, bind1, binds, endD, evSs, evS, evHs, isPut, setIx, wipeE, fnIx, Out.nox, ex]
        show evSs (callN tab (n + 3)) _ [.val (.obj 0), .val (.int many), .own (.lst (xs.map .str)), .val d, s4, s5, .no, .no] st = _
        exact (evSs_next s1').trans ((evSs_next s2').trans ((evSs_next s3').trans rfl))
      · rw [List.nodup_append]
        exact ⟨hnd, List.pairwise_singleton _ _, fun a ha b hb e => by
          rw [List.mem_singleton.mp hb] at e
          exact hy2 (e ▸ ha)⟩
      · rcases List.mem_append.mp hz with hz | hz
        · exact hok z hz
        · rw [List.mem_singleton.mp hz]
          exact spare_ok hx hy1) [.val (.obj 0), .val (.int many), .own (.lst []), .no, .no, .no, .no, .no] st ⟨[], _, _, _, rfl, h, rfl, .nil, fun _ h => by cases h⟩
  have er : rngD [.int (many : Int)] = some ((List.range many).map fun (k : Nat) => D.int (k : Int)) := rng_nat (by omega)
  have s2 := (for_rng (C := callN tab (n + 3)) (fz := []) (tg := .v 3) (es := .cons (.var 1) .nil) (env := [.val (.obj 0), .val (.int many), .own (.lst []), .no, .no, .no, .no, .no]) (st := st) (body := .cons (.asg [] (.v 4) (.call m (.cons (.var 0) .nil))) (.cons (.asg [] (.v 5) (.bin .Add (.lst (.cons (.var 4) .nil)) (.lc (.bin .Add (.sl (.var 4) .no (.so (.c (.int 9)))) (.bi "str" (.cons (.var 6) .nil))) (.v 6) (.rng (.cons (.c (.int 100)) .nil)) .no [6]))) (.cons (.app [] 2 (.ix (.lc (.var 7) (.v 7) (.seq (.var 5)) (.so (.cmp .NotIn (.var 7) (.var 2))) [7]) (.c (.int 0)))) .nil))) rfl er).trans e4
  rw [List.length_map, List.length_range, Nat.zero_add] at hlen
  have s3 : evSs (callN tab (n + 3)) (.cons (.ret [2] (.var 2)) .nil) [.val (.obj 0), .val (.int many), .own (.lst (xs.map .str)), s3, s4, s5, .no, .no] st' = .ok (.rt (.lst (xs.map .str))) st' := rfl
  have all : evSs (callN tab (n + 3)) (iNms m) [.val (.obj 0), .val (.int many), .no, .no, .no, .no, .no, .no] st = .ok (.rt (.lst (xs.map .str))) st' := (evSs_next s1).trans ((evSs_next s2).trans s3)
  exact ⟨xs, st', by rw [all]; rfl, hst, hlen, hnd, hok⟩
end
end Eng
set_option Elab.async false
set_option linter.all false
set_option maxRecDepth 100000
set_option maxHeartbeats 2000000
/-! Law 6: pairs of ints in order; the greatest, the least -/
namespace Eng
open PySem PySem.Spec L2
abbrev P2 := Int × Int
def pD (x : P2) : D := .tup [.int x.1, .int x.2]
def leP (x y : P2) : Bool := decide (x.1 < y.1 ∨ (x.1 = y.1 ∧ x.2 ≤ y.2))
def ltP (x y : P2) : Bool := decide (x.1 < y.1 ∨ (x.1 = y.1 ∧ x.2 < y.2))
theorem leD_pD (x y : P2) : leD (pD x) (pD y) = leP x y := by
  have e : leD (pD x) (pD y) = PySem.W.dataLe false (fun p : P2 => PyData.tuple [.int p.1, .int p.2]) x y := rfl
  rw [e, PySem.W.dataLe_ii (β := P2) (fun p => p.1) (fun p => p.2)]
  rfl
theorem ltD_pD (x y : P2) : ltD (pD x) (pD y) = ltP x y := by
  have sw : ltD (pD x) (pD y) = !leD (pD y) (pD x) := by
    show PySem.W.dataLt _ _ = !(PySem.W.dataLe false py (pD y) (pD x))
    simp [PySem.W.dataLe, PySem.W.sortLe, PySem.W.dataLt]
    first | rfl | skip
  rw [sw, leD_pD]
  unfold leP ltP
  by_cases h : x.1 < y.1 ∨ (x.1 = y.1 ∧ x.2 < y.2)
  · have h' : ¬ (y.1 < x.1 ∨ (y.1 = x.1 ∧ y.2 ≤ x.2)) := by omega
    simp [h, h']
  · have h' : y.1 < x.1 ∨ (y.1 = x.1 ∧ y.2 ≤ x.2) := by omega
    simp [h, h']
theorem leP_refl (x : P2) : leP x x = true := by simp [leP]
theorem leP_trans (x y z : P2) (h : leP x y = true) (k : leP y z = true) : leP x z = true := by
  simp only [leP, decide_eq_true_eq] at *
  omega
theorem leP_total (x y : P2) : (leP x y || leP y x) = true := by
  simp only [leP, Bool.or_eq_true, decide_eq_true_eq]
  omega
theorem leP_anti {x y : P2} (h : leP x y = true) (k : leP y x = true) : x = y := by
  obtain ⟨a, b⟩ := x
  obtain ⟨c, d⟩ := y
  simp only [leP, decide_eq_true_eq] at h k
  have h1 : a = c := by omega
  have h2 : b = d := by omega
  rw [h1, h2]
theorem sort_ok (rows : List P2) : sortOk (rows.map pD) = true := by
  unfold sortOk
  have h1 : (rows.map pD).all (dataF 20) = true := List.all_eq_true.mpr fun d hd => by
    obtain ⟨x, _, rfl⟩ := List.mem_map.mp hd
    rfl
  have h2 : ((rows.map pD).all fun d => (rows.map pD).all fun e => PySem.W.alike (py d) (py e)) = true := List.all_eq_true.mpr fun d hd => List.all_eq_true.mpr fun e he => by
    obtain ⟨x, _, rfl⟩ := List.mem_map.mp hd
    obtain ⟨y, _, rfl⟩ := List.mem_map.mp he
    rfl
  have h3 : (rows.map pD).all isTup1 = true := List.all_eq_true.mpr fun d hd => by
    obtain ⟨x, _, rfl⟩ := List.mem_map.mp hd
    rfl
  rw [h1, h2, h3]
  rfl
theorem sort_pD (rows : List P2) : biD "sorted" [.lst (rows.map pD)] = some (.lst ((rows.mergeSort leP).map pD)) := by
  show (if sortOk (rows.map pD) = true then some (D.lst ((rows.map pD).mergeSort leD)) else none) = _
  rw [if_pos (sort_ok rows), List.map_mergeSort (s := leD) fun a _ b _ => (leD_pD a b).symm]
theorem ord_ok (rows : List P2) : ordOk (rows.map pD) = true := by
  unfold ordOk
  have h1 : (rows.map pD).all (dataF 20) = true := List.all_eq_true.mpr fun d hd => by
    obtain ⟨x, _, rfl⟩ := List.mem_map.mp hd
    rfl
  have h2 : ((rows.map pD).all fun d => (rows.map pD).all fun e => PySem.W.alike (py d) (py e)) = true := List.all_eq_true.mpr fun d hd => List.all_eq_true.mpr fun e he => by
    obtain ⟨x, _, rfl⟩ := List.mem_map.mp hd
    obtain ⟨y, _, rfl⟩ := List.mem_map.mp he
    rfl
  have h3 : ((rows.map pD).all fun d => !isNone d && !isCont d) = true := List.all_eq_true.mpr fun d hd => by
    obtain ⟨x, _, rfl⟩ := List.mem_map.mp hd
    rfl
  rw [h1, h2, h3]
  rfl
/-- the least pair -/
def minP (x : P2) (rows : List P2) : P2 := rows.foldl (fun a y => if ltP y a = true then y else a) x
theorem min_fold : ∀ (rows : List P2) (x : P2), (rows.map pD).foldl (fun a y => if ltD y a = true then y else a) (pD x) = pD (minP x rows)
  | [], _ => rfl
  | y :: rows, x => by
    rw [List.map_cons, List.foldl_cons, ltD_pD]
    show _ = pD (minP (if ltP y x = true then y else x) rows)
    rw [← min_fold rows]
    congr 1
    split <;> rfl
theorem min_pD (x : P2) (rows : List P2) : biD "min" [.lst ((x :: rows).map pD)] = some (pD (minP x rows)) := by
  show (if ordOk ((x :: rows).map pD) = true then topD ltD ((x :: rows).map pD) else none) = _
  rw [if_pos (ord_ok _)]
  show some ((rows.map pD).foldl _ (pD x)) = _
  rw [min_fold]
theorem minP_spec : ∀ (rows : List P2) (x : P2), minP x rows ∈ x :: rows ∧ ∀ y ∈ x :: rows, leP (minP x rows) y = true
  | [], x => ⟨List.mem_cons_self, fun y hy => by rw [List.mem_singleton.mp hy]; exact leP_refl x⟩
  | z :: rows, x => by
    obtain ⟨h1, h2⟩ := minP_spec rows (if ltP z x = true then z else x)
    have e : minP x (z :: rows) = minP (if ltP z x = true then z else x) rows := rfl
    rw [e]
    have top := h2 _ List.mem_cons_self
    have le1 : leP (if ltP z x = true then z else x) x = true ∧ leP (if ltP z x = true then z else x) z = true := by
      by_cases c : ltP z x = true
      · rw [if_pos c]
        refine ⟨?_, leP_refl z⟩
        simp only [ltP, leP, decide_eq_true_eq] at *
        omega
      · rw [if_neg c]
        refine ⟨leP_refl x, ?_⟩
        simp only [ltP, leP, decide_eq_true_eq] at *
        omega
    refine ⟨?_, fun y hy => ?_⟩
    · rcases List.mem_cons.mp h1 with h | h
      · rw [h]
        by_cases c : ltP z x = true
        · rw [if_pos c]
          exact List.mem_cons_of_mem _ List.mem_cons_self
        · rw [if_neg c]
          exact List.mem_cons_self
      · exact List.mem_cons_of_mem _ (List.mem_cons_of_mem _ h)
    · rcases List.mem_cons.mp hy with h | hy
      · rw [h]
        exact leP_trans _ _ _ top le1.1
      · rcases List.mem_cons.mp hy with h | hy
        · rw [h]
          exact leP_trans _ _ _ top le1.2
        · exact h2 y (List.mem_cons_of_mem _ hy)
theorem sort_head (x : P2) (rows : List P2) : ∃ rest, (x :: rows).mergeSort leP = minP x rows :: rest := by
  have pw := List.pairwise_mergeSort (le := leP) leP_trans (fun a b => leP_total a b) (x :: rows)
  have mem : ∀ y, y ∈ (x :: rows).mergeSort leP ↔ y ∈ x :: rows := fun y => List.mem_mergeSort
  cases q : (x :: rows).mergeSort leP with
  | nil =>
    have := (mem x).mpr List.mem_cons_self
    rw [q] at this
    cases this
  | cons h rest =>
    refine ⟨rest, ?_⟩
    rw [q] at pw mem
    obtain ⟨m1, m2⟩ := minP_spec rows x
    have hh : h ∈ x :: rows := (mem h).mp List.mem_cons_self
    have le1 := m2 h hh
    have le2 : leP h (minP x rows) = true := by
      rcases List.mem_cons.mp ((mem _).mpr m1) with e | e
      · rw [e]
        exact leP_refl h
      · exact (List.pairwise_cons.mp pw).1 _ e
    rw [leP_anti le1 le2]
/-- the greatest of ints -/
def mxI (x : Int) (xs : List Int) : Int := xs.foldl (fun x y => if x < y then y else x) x
theorem max_int (x : Int) (xs : List Int) : biD "max" [.lst ((x :: xs).map .int)] = some (.int (mxI x xs)) := by
  show (match intsD ((x :: xs).map .int) with
    | some ns => (topI (fun x y => if x < y then y else x) ns).map D.int
    | none => if ordOk ((x :: xs).map .int) = true then topD (fun x y => ltD y x) ((x :: xs).map .int) else none) = _
  rw [intsD_map]
  rfl
theorem mxI_spec (x : Int) (xs : List Int) : mxI x xs ∈ x :: xs ∧ ∀ y ∈ x :: xs, y ≤ mxI x xs := top_max xs x
end Eng
set_option Elab.async false
set_option linter.all false
set_option maxRecDepth 100000
set_option maxHeartbeats 4000000
/-! k09: what the program's defs compute -/
namespace Eng
open PySem PySem.Spec L2
abbrev Bids := List (Str × Int)
def bD (p : Str × Int) : D := .tup [.str p.1, .int p.2]
def bsD (bs : Bids) : D := .tup (bs.map bD)
def saleD (bs : Bids) (least : Int) : D := .ins "Sale" ["bids", "least"] [bsD bs, .int least]
theorem t0 : tab[0]? = some ⟨1, 1, iWhole, none⟩ := rfl
theorem t1 : tab[1]? = some ⟨3, 3, iNumber 0, none⟩ := rfl
theorem t2 : tab[2]? = some ⟨1, 1, iRow, none⟩ := rfl
theorem t3 : tab[3]? = some ⟨1, 2, iName, none⟩ := rfl
theorem t4 : tab[4]? = some ⟨1, 2, iFrozen 4, none⟩ := rfl
theorem t5 : tab[5]? = some ⟨3, 5, iWant 2 4 [("is_bid", 6)], none⟩ := rfl
theorem t6 : tab[6]? = some ⟨1, 1, ir6, none⟩ := rfl
theorem t7 : tab[7]? = some ⟨2, 5, ir7, some ("Sale", false)⟩ := rfl
theorem t8 : tab[8]? = some ⟨2, 2, ir8, none⟩ := rfl
theorem t9 : tab[9]? = some ⟨1, 5, ir9, none⟩ := rfl
theorem t10 : tab[10]? = some ⟨1, 4, ir10, none⟩ := rfl
theorem t11 : tab[11]? = some ⟨3, 4, ir11, none⟩ := rfl
theorem t12 : tab[12]? = some ⟨3, 5, ir12, none⟩ := rfl
theorem t13 : tab[13]? = some ⟨3, 8, ir13, none⟩ := rfl
theorem t14 : tab[14]? = some ⟨3, 10, ir14, none⟩ := rfl
theorem t15 : tab[15]? = some ⟨2, 4, iTaken, none⟩ := rfl
theorem t16 : tab[16]? = some ⟨2, 2, iPick 15, none⟩ := rfl
theorem t17 : tab[17]? = some ⟨2, 3, iAlike 17, none⟩ := rfl
theorem t18 : tab[18]? = some ⟨2, 2, iMixed 15, none⟩ := rfl
theorem t19 : tab[19]? = some ⟨1, 5, iNm 15 16, none⟩ := rfl
theorem t20 : tab[20]? = some ⟨2, 8, iNms 19, none⟩ := rfl
theorem t21 : tab[21]? = some ⟨1, 1, iWhole, none⟩ := rfl
theorem ne_bl : ¬ ("bids" : Str) = "least" := by decide +kernel
theorem at_bids (bs : Bids) (l : Int) : attrD "Sale" "bids" (saleD bs l) = some (bsD bs) := by simp [attrD, fldD, saleD]
theorem at_least (bs : Bids) (l : Int) : attrD "Sale" "least" (saleD bs l) = some (.int l) := by simp [attrD, fldD, saleD, ne_bl]
theorem ins_has {m : Str} (h : (["bids", "least"] : List Str).contains m = false) (bs : Bids) (l : Int) : insIs "Sale" m (saleD bs l) = true := by
  show (decide (("Sale" : Str) = "Sale") && !(["bids", "least"] : List Str).contains m) = true
  rw [h]
  simp
theorem i_win (bs : Bids) (l : Int) : insIs "Sale" "winner" (saleD bs l) = true := ins_has (by decide +kernel) bs l
theorem i_pri (bs : Bids) (l : Int) : insIs "Sale" "price" (saleD bs l) = true := ins_has (by decide +kernel) bs l
theorem i_gain (bs : Bids) (l : Int) : insIs "Sale" "gain" (saleD bs l) = true := ins_has (by decide +kernel) bs l
theorem i_with (bs : Bids) (l : Int) : insIs "Sale" "with_bid" (saleD bs l) = true := ins_has (by decide +kernel) bs l
theorem i_best (bs : Bids) (l : Int) : insIs "Sale" "best_bid" (saleD bs l) = true := ins_has (by decide +kernel) bs l
theorem i_eq (bs : Bids) (l : Int) : insIs "Sale" "__eq__" (saleD bs l) = true := ins_has (by decide +kernel) bs l
theorem de_sale (st : Store) (bs : Bids) (l : Int) : deref st (saleD bs l) = some (saleD bs l) := rfl
theorem de_bs (st : Store) (bs : Bids) : deref st (bsD bs) = some (bsD bs) := rfl
theorem de_b (st : Store) (p : Str × Int) : deref st (bD p) = some (bD p) := rfl
theorem b_0 (p : Str × Int) : ixS (bD p) (.int 0) = some (.str p.1) := rfl
theorem b_1 (p : Str × Int) : ixS (bD p) (.int 1) = some (.int p.2) := rfl
/-- the bids by their places -/
def enumB (bs : Bids) : List (Nat × Str × Int) := (List.range bs.length).zip bs
theorem enumB_items (bs : Bids) : (List.range (bs.map bD).length).zipWith enD (bs.map bD) = (enumB bs).map fun e => enD e.1 (bD e.2) := by
  rw [List.length_map, List.zipWith_map_right, enumB, List.zip_eq_zipWith, List.map_zipWith]
theorem enumD_bs (bs : Bids) : enumD (bsD bs) = some ((enumB bs).map fun e => enD e.1 (bD e.2)) := by
  rw [enumD_eq (x := bsD bs) (ds := bs.map bD) rfl, enumB_items]
theorem mem_enumB {bs : Bids} {e : Nat × Str × Int} (h : e ∈ enumB bs) : bs[e.1]? = some e.2 := by
  obtain ⟨i, hi⟩ := List.mem_iff_getElem?.mp h
  obtain ⟨h1, h2⟩ := List.getElem?_zip_eq_some.mp (show ((List.range bs.length).zip bs)[i]? = some e from hi)
  obtain ⟨l, h1⟩ := List.getElem?_eq_some_iff.mp h1
  rw [List.getElem_range] at h1
  rw [← h1]
  exact h2
section
variable {st : Store} {n : Nat}
/-! ### is_bid, Sale(..) -/
theorem is_bid {d : D} {x : Str} {b : Int} (h : seqD d = some [.str x, .int b]) (hx : x.length ≤ 100000) : callN tab (n + 3) 6 [d] st = .ok (.bl (nameB x && decide (0 ≤ b ∧ b ≤ 9999))) st := by
  rw [call_fn t6 (n + 2) _ _ rfl]
  show endD (evSs (callN tab (n + 2)) ir6 [.val d] st) = _
  have pd : plainD d = true := by cases d <;> first | rfl | cases h
  have rd : rowD d = true := by cases d <;> first | rfl | cases h
  have ld : lenD d = some 2 := by cases d <;> first | (cases h; rfl) | cases h
  have x0 : (deref st d).bind (fun x => ixS x (.int 0)) = some (.str x) := by cases d <;> first | (cases h; rfl) | cases h
  have x1 : (deref st d).bind (fun x => ixS x (.int 1)) = some (.int b) := by cases d <;> first | (cases h; rfl) | cases h
  have e1 : callN tab (n + 2) 2 [d] st = .ok (.bl true) st := by rw [← rd]; exact isrow t2 (n + 1) d pd
  have e2 : callN tab (n + 2) 3 [.str x] st = .ok (.bl (nameB x)) st := isname t3 (n + 1) x hx
  have e3 : callN tab (n + 2) 1 [.int b, .int 0, .int 9999] st = .ok (.bl (decide (0 ≤ b ∧ b ≤ 9999))) st := number t0 t1 n (.int b) 0 9999 rfl
  cases q : nameB x with
  | false =>
    rw [q] at e2
    simp [evEs, evBs, evAnd, evOr, evTAnd, evTOr, evO, evIf, bor, getV, getB, truthD, freeze, freeze1, bind1, binds, endD, evSs, evS, evHs, isPut, setIx, wipeE, fnIx, Out.nox, ir6, e1, ld, biD, cmpD, eqO, scalD, flatD, eqD, x0, e2]
  | true =>
    rw [q] at e2
    simp [evEs, evBs, evAnd, evOr, evTAnd, evTOr, evO, evIf, bor, getV, getB, truthD, freeze, freeze1, bind1, binds, endD, evSs, evS, evHs, isPut, setIx, wipeE, fnIx, Out.nox, ir6, e1, ld, biD, cmpD, eqO, scalD, flatD, eqD, x0, x1, e2, e3]
/-- a row that was handed in -/
def Hand (hv : D) (bs : Bids) : Prop := ∃ items, seqD hv = some items ∧ All2 (fun it (p : Str × Int) => seqD it = some [.str p.1, .int p.2]) items bs
structure Okb (bs : Bids) : Prop where
  nd : (bs.map (·.1)).Nodup
  ok : ∀ p ∈ bs, nameB p.1 = true ∧ 0 ≤ p.2 ∧ p.2 ≤ 9999
  len : bs.length ≤ 20
theorem name_short {x : Str} (h : nameB x = true) : x.length ≤ 12 := by
  rw [len_list]
  unfold nameB at h
  cases q : x.cps.toList with
  | nil => simp
  | cons c cs =>
    rw [q] at h
    simp only [Bool.and_eq_true, decide_eq_true_eq] at h
    rw [List.length_cons]
    omega
theorem seq_cases {d : D} {ds : List D} (h : seqD d = some ds) : d = .lst ds ∨ d = .tup ds := by
  cases d <;> first | (cases h; first | exact .inl rfl | exact .inr rfl) | cases h
theorem all2_frz : ∀ {items : List D} {bs : Bids}, All2 (fun it (p : Str × Int) => seqD it = some [.str p.1, .int p.2]) items bs → items.map frz = bs.map bD ∧ items.all (plN 2) = true ∧ items.length = bs.length
  | _, _, .nil => ⟨rfl, rfl, rfl⟩
  | _, _, .cons (a := it) (b := p) h t => by
    obtain ⟨h1, h2, h3⟩ := all2_frz t
    refine ⟨?_, ?_, by rw [List.length_cons, List.length_cons, h3]⟩
    · rw [List.map_cons, List.map_cons, h1]
      rcases seq_cases h with rfl | rfl <;> rfl
    · rw [List.all_cons, h2]
      rcases seq_cases h with rfl | rfl <;> rfl
theorem all2_bid : ∀ {items : List D} {bs : Bids}, All2 (fun it (p : Str × Int) => seqD it = some [.str p.1, .int p.2]) items bs → (∀ p ∈ bs, nameB p.1 = true ∧ 0 ≤ p.2 ∧ p.2 ≤ 9999) → ∀ d ∈ items, callN tab (n + 3) 6 [d] st = .ok (.bl true) st
  | _, _, .nil, _, d, hd => by cases hd
  | _, _, .cons (a := it) (b := p) h t, ok, d, hd => by
    rcases List.mem_cons.mp hd with rfl | hd
    · obtain ⟨k1, k2, k3⟩ := ok p List.mem_cons_self
      have e := is_bid (n := n) (st := st) h (by have := name_short k1; omega)
      rw [e, k1]
      simp [k2, k3]
    · exact all2_bid t (fun p hp => ok p (List.mem_cons_of_mem _ hp)) d hd
theorem want_sale {hv : D} {bs : Bids} (hh : Hand hv bs) (ok : Okb bs) : callN tab (n + 5) 5 [hv, .fn "is_bid", .int 20] st = .ok (bsD bs) st := by
  obtain ⟨items, hs, al⟩ := hh
  obtain ⟨f1, f2, f3⟩ := all2_frz al
  have fz : frz hv = bsD bs := by
    rcases seq_cases hs with rfl | rfl
    · show D.tup (frzs items) = _
      rw [frzs_map, f1]
      rfl
    · show D.tup (frzs items) = _
      rw [frzs_map, f1]
      rfl
  have pl : plN 3 hv = true := by
    rcases seq_cases hs with rfl | rfl <;> exact f2
  have l := ok.len
  rw [want_ok (n := n) (it := 6) t5 t2 t4 rfl hs (fun d hd => all2_bid (n := n + 1) al ok.ok d hd) (by rw [f3]; omega) pl, fz]
/-- the names ahead of a place -/
theorem names_lc {C : Calls} {env : Env} {e : E} {i : Nat} {bs : Bids} (x : D) (hx : itemsD x = some (bs.map bD)) (hi : i < env.length) (hit : evIt C env (.seq e) st = ofO (itemsD x) st) :
    (evP C env (.lc (.ix (.var i) (.c (.int 0))) (.v i) (.seq e) .no [i])).1 st = .ok (.lst ((bs.map (·.1)).map .str)) st := by
  have z := lc_map (C := C) (env := env) (elt := .ix (.var i) (.c (.int 0))) (tg := .v i) (it := .seq e) (ws := [i]) (st := st) (ds := bs.map bD) (fun d => match d with | .tup (a :: _) => a | d => d) (by rw [hit, hx]; rfl) fun d hd => by
    obtain ⟨p, hp, rfl⟩ := List.mem_map.mp hd
    refine ⟨_, rfl, ?_⟩
    have g : getB ((wipeE env [i]).set i (.val (bD p))) i = some (bD p) := by
      show (match ((env.set i Sl.no).set i (.val (bD p)))[i]? with | some (.val d) => some d | some (.own d) => some d | _ => none) = _
      rw [List.getElem?_set_self (by rw [List.length_set]; exact hi)]
    rw [e_ix]
    show ((ofO (getB ((wipeE env [i]).set i (.val (bD p))) i) st).bnd _) = _
    rw [g]
    rfl
  rw [z, List.map_map, List.map_map]
  congr 2
end
end Eng
set_option Elab.async false
set_option linter.all false
set_option maxRecDepth 100000
set_option maxHeartbeats 4000000
/-! k09: the class's defs -/
namespace Eng
open PySem PySem.Spec L2
theorem cut_take {α : Type} (xs : List α) (k : Nat) (h : k ≤ xs.length) : cutD xs none (some (k : Int)) = xs.take k := by
  unfold cutD
  rw [HT.sIx_none, HT.sIx_nat, Nat.min_eq_left h, Nat.sub_zero, List.drop_zero]
section
variable {st : Store} {n : Nat}
abbrev ini1 (bs : Bids) : D := .ins "Sale" ["bids"] [bsD bs]
theorem at_b1 (bs : Bids) : attrD "Sale" "bids" (ini1 bs) = some (bsD bs) := by simp [attrD, fldD]
abbrev iniTurn : Ss := .cons (.ifs (.cmp .In (.ix (.var 4) (.c (.int 0))) (.lc (.ix (.var 5) (.c (.int 0))) (.v 5) (.seq (.sl (.attr (.var 0) "Sale" "bids") .no (.so (.var 3)))) .no [5])) (.cons (.rais "Taken" ["value"] (.cons (.ix (.var 4) (.c (.int 0))) .nil)) .nil) .nil) .nil
theorem sale_ok {hv : D} {bs : Bids} {l : Int} (hh : Hand hv bs) (ok : Okb bs) : callN tab (n + 6) 7 [hv, .int l] st = .ok (saleD bs l) st := by
  rw [call_in t7 (n + 5) _ _ rfl]
  show endI false (evSs (callN tab (n + 5)) ir7 [.own (.ins "Sale" [] []), .val hv, .val (.int l), .no, .no, .no] st) = _
  have e1 := want_sale (n := n) (st := st) hh ok
  have s1 : evS (callN tab (n + 5)) (.fld [] 0 "Sale" "bids" (.call 5 (.cons (.var 1) (.cons (.fn "is_bid") (.cons (.gl "MOST_BIDS" (.int 20)) .nil))))) [.own (.ins "Sale" [] []), .val hv, .val (.int l), .no, .no, .no] st = .ok (.nx [.own (ini1 bs), .val hv, .val (.int l), .no, .no, .no]) st := by
    simp [evEs, evBs, evAnd, evOr, evTAnd, evTOr, evO, evIf, bor, getV, getB, truthD, freeze, freeze1, bind1, binds, endD, evSs, evS, evHs, isPut, setIx, wipeE, fnIx, Out.nox, e1, setFld, fldPut, putFld]
  obtain ⟨env', st', e2, s3, s4, s5, rfl, es⟩ := forGo_inv (turn := fun d env st => (ofO (bind1 (.t (.cons (.v 3) (.cons (.v 4) .nil))) d env) st).bnd fun env' st => evSs (callN tab (n + 5)) iniTurn env' st) (fun env st' => ∃ s3 s4 s5, env = [.own (ini1 bs), .val hv, .val (.int l), s3, s4, s5] ∧ st' = st) ((enumB bs).map fun e => enD e.1 (bD e.2)) (fun d hd env st' ⟨s3, s4, s5, e1, e2⟩ => by
    subst e1
    subst e2
    obtain ⟨e, he, rfl⟩ := List.mem_map.mp hd
    have at_ := mem_enumB he
    have lt := (List.getElem?_eq_some_iff.mp at_).1
    refine ⟨[.own (ini1 bs), .val hv, .val (.int l), .val (.int e.1), .val (bD e.2), s5], st', ?_, _, _, _, rfl, rfl⟩
    have lc := names_lc (C := callN tab (n + 5)) (env := [.own (ini1 bs), .val hv, .val (.int l), .val (.int e.1), .val (bD e.2), s5]) (e := .sl (.attr (.var 0) "Sale" "bids") .no (.so (.var 3))) (i := 5) (bs := bs.take e.1) (st := st') (.tup ((bs.take e.1).map bD)) rfl (by simp) (by
      have c : slD (bsD bs) none (some (e.1 : Int)) = some (.tup ((bs.take e.1).map bD)) := by
        show some (D.tup (cutD (bs.map bD) none (some (e.1 : Int)))) = _
        rw [cut_take _ _ (by rw [List.length_map]; omega), List.map_take]
      have v : (evP (callN tab (n + 5)) [.own (ini1 bs), .val hv, .val (.int l), .val (.int e.1), .val (bD e.2), s5] (.sl (.attr (.var 0) "Sale" "bids") .no (.so (.var 3)))).1 st' = .ok (.tup ((bs.take e.1).map bD)) st' := by
        have d1 : deref st' (ini1 bs) = some (ini1 bs) := rfl
        simp [evEs, evBs, evAnd, evOr, evTAnd, evTOr, evO, evIf, bor, getV, getB, truthD, freeze, freeze1, bind1, binds, endD, evSs, evS, evHs, isPut, setIx, wipeE, fnIx, Out.nox, d1, at_b1, c]
      simp [evEs, evBs, evAnd, evOr, evTAnd, evTOr, evO, evIf, bor, getV, getB, truthD, freeze, freeze1, bind1, binds, endD, evSs, evS, evHs, isPut, setIx, wipeE, fnIx, Out.nox, evIt, v])
    have no : e.2.1 ∉ (bs.take e.1).map (·.1) := fun h => by
      rw [List.map_take] at h
      have nd := ok.nd
      obtain ⟨j, hj, ej⟩ := List.getElem_of_mem h
      rw [List.length_take] at hj
      rw [List.getElem_take] at ej
      have h2 : (bs.map (·.1))[e.1]? = some e.2.1 := by rw [List.getElem?_map, at_]; rfl
      obtain ⟨l2, h2⟩ := List.getElem?_eq_some_iff.mp h2
      have := (List.pairwise_iff_getElem.mp (List.nodup_iff_pairwise_ne.mp nd)) j e.1 (by omega) l2 (by omega)
      exact this (ej.trans h2.symm)
    have c2 : inD (.str e.2.1) (.lst (((bs.take e.1).map (·.1)).map .str)) = some false := by rw [in_strs, decide_eq_false no]
    obtain ⟨xs, hxs⟩ : ∃ xs, xs = ((bs.take e.1).map (·.1)).map D.str := ⟨_, rfl⟩
    rw [← hxs] at lc c2
    simp [evEs, evBs, evAnd, evOr, evTAnd, evTOr, evO, evIf, bor, getV, getB, truthD, freeze, freeze1, bind1, binds, endD, evSs, evS, evHs, isPut, setIx, wipeE, fnIx, Out.nox, iniTurn, de_b, b_0, lc, cmpD, c2]) [.own (ini1 bs), .val hv, .val (.int l), .no, .no, .no] st ⟨_, _, _, rfl, rfl⟩
  subst es
  have s2 : evS (callN tab (n + 5)) (.for_ [] (.t (.cons (.v 3) (.cons (.v 4) .nil))) (.enum (.attr (.var 0) "Sale" "bids")) iniTurn) [.own (ini1 bs), .val hv, .val (.int l), .no, .no, .no] st' = .ok (.nx [.own (ini1 bs), .val hv, .val (.int l), s3, s4, s5]) st' := by
    have d1 : deref st' (ini1 bs) = some (ini1 bs) := rfl
    have ev : evItV (callN tab (n + 5)) [.own (ini1 bs), .val hv, .val (.int l), .no, .no, .no] (.enum (.attr (.var 0) "Sale" "bids")) st' = .ok ((enumB bs).map fun e => enD e.1 (bD e.2)) st' := by
      simp [evEs, evBs, evAnd, evOr, evTAnd, evTOr, evO, evIf, bor, getV, getB, truthD, freeze, freeze1, bind1, binds, endD, evSs, evS, evHs, isPut, setIx, wipeE, fnIx, Out.nox, evItV, d1, at_b1, enumD_bs]
    simp only [evS, freeze, ev, Out.bnd_ok]
    exact e2
  have s3' : evS (callN tab (n + 5)) (.fld [] 0 "Sale" "least" (.var 2)) [.own (ini1 bs), .val hv, .val (.int l), s3, s4, s5] st' = .ok (.nx [.own (saleD bs l), .val hv, .val (.int l), s3, s4, s5]) st' := by
    simp [evEs, evBs, evAnd, evOr, evTAnd, evTOr, evO, evIf, bor, getV, getB, truthD, freeze, freeze1, bind1, binds, endD, evSs, evS, evHs, isPut, setIx, wipeE, fnIx, Out.nox, setFld, fldPut, putFld, ne_bl, saleD]
  have all : evSs (callN tab (n + 5)) ir7 [.own (.ins "Sale" [] []), .val hv, .val (.int l), .no, .no, .no] st' = .ok (.nx [.own (saleD bs l), .val hv, .val (.int l), s3, s4, s5]) st' :=
    (evSs_next s1).trans ((evSs_next s2).trans ((evSs_next s3').trans rfl))
  rw [all]
  rfl
end
end Eng
set_option Elab.async false
set_option linter.all false
set_option maxRecDepth 100000
set_option maxHeartbeats 4000000
/-! k09: winner, price, gain, with_bid -/
namespace Eng
open PySem PySem.Spec L2
def rowsOf (bs : Bids) (least : Int) : List P2 := ((enumB bs).filter fun e => decide (least ≤ e.2.2)).map fun e => (-e.2.2, (e.1 : Int))
def winI (bs : Bids) (least : Int) : Option Nat := match rowsOf bs least with
  | [] => none
  | r :: rs => some (minP r rs).2.toNat
def winN (bs : Bids) (least : Int) : Option Str := (winI bs least).bind fun i => (bs[i]?).map (·.1)
def dN : Option Str → D
  | none => .non
  | some x => .str x
def others (nm : Str) (bs : Bids) : List Int := (bs.filter fun p => !decide (p.1 = nm)).map (·.2)
def priceB (nm : Str) (bs : Bids) (least : Int) : Int := mxI least (others nm bs)
theorem min_row {bs : Bids} {least : Int} {r : P2} {rs : List P2} (h : rowsOf bs least = r :: rs) : ∃ (i : Nat) (p : Str × Int), minP r rs = (-p.2, (i : Int)) ∧ bs[i]? = some p ∧ least ≤ p.2 ∧ winI bs least = some i ∧ winN bs least = some p.1 := by
  obtain ⟨m1, _⟩ := minP_spec rs r
  rw [← h] at m1
  obtain ⟨e, he, ee⟩ := List.mem_map.mp m1
  obtain ⟨h1, h2⟩ := List.mem_filter.mp he
  have at_ := mem_enumB h1
  have w : winI bs least = some e.1 := by
    unfold winI
    rw [h]
    show some (minP r rs).2.toNat = _
    rw [← ee]
    rfl
  refine ⟨e.1, e.2, ee.symm, at_, of_decide_eq_true h2, w, ?_⟩
  unfold winN
  rw [w]
  show (bs[e.1]?).map (·.1) = _
  rw [at_]
  rfl
theorem sz60 {bs : Bids} {least : Int} : (rowsOf bs least).length ≤ bs.length := by
  unfold rowsOf
  rw [List.length_map]
  refine Nat.le_trans (List.length_filter_le _ _) ?_
  unfold enumB
  rw [List.length_zip, List.length_range, Nat.min_self]
  exact Nat.le_refl _
section
variable {st : Store} {n : Nat}
theorem win_lc {C : Calls} {env : Env} {bs : Bids} {least : Int} (s1 s2 s3 s4 : Sl) : (evP C [.val (saleD bs least), s1, s2, s3, s4] (.lc (.tup (.cons (.neg (.var 4)) (.cons (.var 2) .nil))) (.t (.cons (.v 2) (.cons (.t (.cons (.v 3) (.cons (.v 4) .nil))) .nil))) (.enum (.attr (.var 0) "Sale" "bids")) (.so (.cmp .GtE (.var 4) (.attr (.var 0) "Sale" "least"))) [2,3,4])).1 st = .ok (.lst ((rowsOf bs least).map pD)) st := by
  have z2 : (2 : Nat) ≤ sizeLine := by have := big; omega
  have z := lc_filter (C := C) (env := [.val (saleD bs least), s1, s2, s3, s4]) (elt := .tup (.cons (.neg (.var 4)) (.cons (.var 2) .nil))) (tg := .t (.cons (.v 2) (.cons (.t (.cons (.v 3) (.cons (.v 4) .nil))) .nil))) (it := .enum (.attr (.var 0) "Sale" "bids")) (c := .cmp .GtE (.var 4) (.attr (.var 0) "Sale" "least")) (ws := [2,3,4]) (st := st)
    (ds := (enumB bs).map fun e => enD e.1 (bD e.2)) (fun d => match d with | .tup [_, .tup [_, .int b]] => decide (least ≤ b) | _ => false) (fun d => match d with | .tup [.int k, .tup [_, .int b]] => pD (-b, k) | d => d) (by
      simp [evEs, evBs, evAnd, evOr, evTAnd, evTOr, evO, evIf, bor, getV, getB, truthD, freeze, freeze1, bind1, binds, endD, evSs, evS, evHs, isPut, setIx, wipeE, fnIx, Out.nox, evIt, de_sale, at_bids, enumD_bs]) fun d hd => by
    obtain ⟨e, he, rfl⟩ := List.mem_map.mp hd
    refine ⟨[.val (saleD bs least), s1, .val (.int e.1), .val (.str e.2.1), .val (.int e.2.2)], rfl, ?_, fun _ => ?_⟩
    · simp [evEs, evBs, evAnd, evOr, evTAnd, evTOr, evO, evIf, bor, getV, getB, truthD, freeze, freeze1, bind1, binds, endD, evSs, evS, evHs, isPut, setIx, wipeE, fnIx, Out.nox, de_sale, at_least, cmpD, bD, enD]
    · simp [evEs, evBs, evAnd, evOr, evTAnd, evTOr, evO, evIf, bor, getV, getB, truthD, freeze, freeze1, bind1, binds, endD, evSs, evS, evHs, isPut, setIx, wipeE, fnIx, Out.nox, z2, bD, enD, pD]
  rw [z, List.filter_map, List.map_map]
  unfold rowsOf
  rw [List.map_map]
  rfl
theorem winner_ok {bs : Bids} {least : Int} (hl : bs.length ≤ 100) : callN tab (n + 1) 9 [saleD bs least] st = .ok (dN (winN bs least)) st := by
  rw [call_fn t9 n _ _ rfl]
  show endD (evSs (callN tab n) ir9 [.val (saleD bs least), .no, .no, .no, .no] st) = _
  have lc := win_lc (C := callN tab n) (env := []) (st := st) (bs := bs) (least := least) .no .no .no .no
  have s1 : evS (callN tab n) (.asg [] (.v 1) (.lc (.tup (.cons (.neg (.var 4)) (.cons (.var 2) .nil))) (.t (.cons (.v 2) (.cons (.t (.cons (.v 3) (.cons (.v 4) .nil))) .nil))) (.enum (.attr (.var 0) "Sale" "bids")) (.so (.cmp .GtE (.var 4) (.attr (.var 0) "Sale" "least"))) [2,3,4])) [.val (saleD bs least), .no, .no, .no, .no] st = .ok (.nx [.val (saleD bs least), .val (.lst ((rowsOf bs least).map pD)), .no, .no, .no]) st := by
    simp only [evS, freeze, lc, Out.bnd_ok, bind1, ofO_some]
    rfl
  have s2 : evSs (callN tab n) (.cons (.ret [] (.ife (.cmp .Gt (.bi "len" (.cons (.var 1) .nil)) (.c (.int 0))) (.ix (.ix (.attr (.var 0) "Sale" "bids") (.ix (.bi "min" (.cons (.var 1) .nil)) (.c (.int 1)))) (.c (.int 0))) (.c .non))) .nil) [.val (saleD bs least), .val (.lst ((rowsOf bs least).map pD)), .no, .no, .no] st = .ok (.rt (dN (winN bs least))) st := by
    cases q : rowsOf bs least with
    | nil =>
      have w : winN bs least = none := by
        unfold winN winI
        rw [q]
        rfl
      rw [w]
      rfl
    | cons r rs =>
      obtain ⟨i, p, h1, h2, h3, h4, h5⟩ := min_row q
      have mn : biD "min" [.lst (pD r :: rs.map pD)] = some (pD (-p.2, (i : Int))) := by
        rw [← h1]
        exact min_pD r rs
      have x1 : ixS (pD (-p.2, (i : Int))) (.int 1) = some (.int i) := rfl
      have dp : deref st (pD (-p.2, (i : Int))) = some (pD (-p.2, (i : Int))) := rfl
      have x2 : ixS (bsD bs) (.int (i : Int)) = some (bD p) := atI_nat (by rw [List.getElem?_map, h2]; rfl)
      have ln : lenD (.lst (pD r :: rs.map pD)) = some (rs.length + 1) := by
        show some (pD r :: rs.map pD).length = _
        rw [List.length_cons, List.length_map]
      have lb : biD "len" [.lst (pD r :: rs.map pD)] = some (.int ((rs.length + 1 : Nat) : Int)) := by
        show (lenD (.lst (pD r :: rs.map pD))).map (fun (n : Nat) => D.int (n : Int)) = _
        rw [ln]
        rfl
      have pos : (0 : Int) < ((rs.length + 1 : Nat) : Int) := by omega
      rw [h5, List.map_cons]
      generalize pD r :: rs.map pD = L at mn lb
      generalize ((rs.length + 1 : Nat) : Int) = N at lb pos
      simp [evEs, evBs, evAnd, evOr, evTAnd, evTOr, evO, evIf, bor, getV, getB, truthD, freeze, freeze1, bind1, binds, endD, evSs, evS, evHs, isPut, setIx, wipeE, fnIx, Out.nox, lb, cmpD, pos, mn, dp, x1, de_sale, at_bids, de_bs, x2, de_b, b_0, dN]
  have all : evSs (callN tab n) ir9 [.val (saleD bs least), .no, .no, .no, .no] st = .ok (.rt (dN (winN bs least))) st := (evSs_next s1).trans s2
  rw [all]
  rfl
/-- the others' bids -/
theorem others_lc {C : Calls} {env : Env} {e en : E} {nm : Str} {i j : Nat} {bs : Bids} (x : D) (hx : itemsD x = some (bs.map bD)) (hit : evIt C env (.seq e) st = ofO (itemsD x) st)
    (hb : ∀ p : Str × Int, bind1 (.t (.cons (.v i) (.cons (.v j) .nil))) (bD p) (wipeE env [i, j]) = some (((wipeE env [i, j]).set i (.val (.str p.1))).set j (.val (.int p.2))))
    (h1 : ∀ p : Str × Int, getB (((wipeE env [i, j]).set i (.val (.str p.1))).set j (.val (.int p.2))) i = some (.str p.1)) (h2 : ∀ p : Str × Int, (evP C (((wipeE env [i, j]).set i (.val (.str p.1))).set j (.val (.int p.2))) (.var j)).1 st = .ok (.int p.2) st)
    (h3 : ∀ p : Str × Int, bor (((wipeE env [i, j]).set i (.val (.str p.1))).set j (.val (.int p.2))) en (evP C (((wipeE env [i, j]).set i (.val (.str p.1))).set j (.val (.int p.2))) en).1 st = .ok (.str nm) st) :
    (evP C env (.lc (.var j) (.t (.cons (.v i) (.cons (.v j) .nil))) (.seq e) (.so (.cmp .NotEq (.var i) en)) [i, j])).1 st = .ok (.lst ((others nm bs).map .int)) st := by
  have z := lc_filter (C := C) (env := env) (elt := .var j) (tg := .t (.cons (.v i) (.cons (.v j) .nil))) (it := .seq e) (c := .cmp .NotEq (.var i) en) (ws := [i, j]) (st := st) (ds := bs.map bD)
    (fun d => match d with | .tup [.str x, _] => !decide (x = nm) | _ => false) (fun d => match d with | .tup [_, b] => b | d => d) (by rw [hit, hx]; rfl) fun d hd => by
    obtain ⟨p, hp, rfl⟩ := List.mem_map.mp hd
    refine ⟨_, hb p, ?_, fun _ => h2 p⟩
    rw [t_cmp, e_cmp]
    show (((ofO (getB _ i) st).bnd fun x st => (bor _ en _ st).bnd _).bnd _) = _
    rw [h1, ofO_some, Out.bnd_ok, h3, Out.bnd_ok]
    rfl
  rw [z, List.filter_map, List.map_map]
  unfold others
  rw [List.map_map]
  rfl
theorem price_ok {bs : Bids} {least : Int} (hl : bs.length ≤ 100) : callN tab (n + 2) 10 [saleD bs least] st = .ok (match winN bs least with | none => .non | some nm => .int (priceB nm bs least)) st := by
  rw [call_fn t10 (n + 1) _ _ rfl]
  show endD (evSs (callN tab (n + 1)) ir10 [.val (saleD bs least), .no, .no, .no] st) = _
  have e1 := winner_ok (n := n) (st := st) (bs := bs) (least := least) hl
  have s1 : evS (callN tab (n + 1)) (.asg [] (.v 1) (.meth (.var 0) "Sale" "winner" 9 .nil)) [.val (saleD bs least), .no, .no, .no] st = .ok (.nx [.val (saleD bs least), .val (dN (winN bs least)), .no, .no]) st := by
    simp [evEs, evBs, evAnd, evOr, evTAnd, evTOr, evO, evIf, bor, getV, getB, truthD, freeze, freeze1, bind1, binds, endD, evSs, evS, evHs, isPut, setIx, wipeE, fnIx, Out.nox, de_sale, i_win, e1]
  have s2 : evSs (callN tab (n + 1)) (.cons (.ifs (.cmp .Is (.var 1) (.c .non)) (.cons (.ret [] (.c .non)) .nil) .nil) (.cons (.ret [] (.bi "max" (.cons (.bin .Add (.lst (.cons (.attr (.var 0) "Sale" "least") .nil)) (.lc (.var 3) (.t (.cons (.v 2) (.cons (.v 3) .nil))) (.seq (.attr (.var 0) "Sale" "bids")) (.so (.cmp .NotEq (.var 2) (.var 1))) [2,3])) .nil))) .nil)) [.val (saleD bs least), .val (dN (winN bs least)), .no, .no] st = .ok (.rt (match winN bs least with | none => .non | some nm => .int (priceB nm bs least))) st := by
    cases q : winN bs least with
    | none => rfl
    | some nm =>
      have lc := others_lc (C := callN tab (n + 1)) (env := [.val (saleD bs least), .val (.str nm), .no, .no]) (e := .attr (.var 0) "Sale" "bids") (en := .var 1) (nm := nm) (i := 2) (j := 3) (bs := bs) (st := st) (bsD bs) rfl (by simp [evEs, evBs, evAnd, evOr, evTAnd, evTOr, evO, evIf, bor, getV, getB, truthD, freeze, freeze1, bind1, binds, endD, evSs, evS, evHs, isPut, setIx, wipeE, fnIx, Out.nox, evIt, de_sale, at_bids]) (fun p => rfl) (fun p => rfl) (fun p => rfl) (fun p => rfl)
      have hb := big
      have lo : (others nm bs).length ≤ 100 := by
        unfold others
        rw [List.length_map]
        exact Nat.le_trans (List.length_filter_le _ _) hl
      have z1 : (1 : Nat) ≤ sizeLine := by omega
      have ad : binD .Add (.lst [.int least]) (.lst ((others nm bs).map .int)) = some (.lst ((least :: others nm bs).map .int)) := by
        show (if [D.int least].length + ((others nm bs).map D.int).length ≤ sizeLine then some (D.lst ([D.int least] ++ (others nm bs).map .int)) else none) = _
        rw [List.length_map, if_pos (by show 1 + (others nm bs).length ≤ sizeLine; omega)]
        rfl
      have mx := max_int least (others nm bs)
      generalize (others nm bs).map D.int = O at lc ad
      generalize (least :: others nm bs).map D.int = O2 at mx ad
      simp [evEs, evBs, evAnd, evOr, evTAnd, evTOr, evO, evIf, bor, getV, getB, truthD, freeze, freeze1, bind1, binds, endD, evSs, evS, evHs, isPut, setIx, wipeE, fnIx, Out.nox, dN, cmpD, isNone, de_sale, at_least, z1, lc, ad, mx, priceB]
  have all : evSs (callN tab (n + 1)) ir10 [.val (saleD bs least), .no, .no, .no] st = .ok (.rt (match winN bs least with | none => .non | some nm => .int (priceB nm bs least))) st := (evSs_next s1).trans s2
  rw [all]
  rfl
end
end Eng
set_option Elab.async false
set_option linter.all false
set_option maxRecDepth 100000
set_option maxHeartbeats 4000000
/-! k09: gain, with_bid, ==, the law's own rule -/
namespace Eng
open PySem PySem.Spec L2
/-- one bid changed -/
def setB (nm : Str) (b : Int) (bs : Bids) : Bids := bs.map fun p => (p.1, if p.1 = nm then b else p.2)
def gainB (nm : Str) (w : Int) (bs : Bids) (least : Int) : Int := if winN bs least = some nm then w - priceB nm bs least else 0
theorem setB_names (nm : Str) (b : Int) (bs : Bids) : (setB nm b bs).map (·.1) = bs.map (·.1) := by
  unfold setB
  rw [List.map_map]
  rfl
theorem setB_ok {nm : Str} {b : Int} {bs : Bids} (h : Okb bs) (b0 : 0 ≤ b) (b1 : b ≤ 9999) : Okb (setB nm b bs) := by
  refine ⟨by rw [setB_names]; exact h.nd, fun p hp => ?_, by unfold setB; rw [List.length_map]; exact h.len⟩
  obtain ⟨q, hq, rfl⟩ := List.mem_map.mp hp
  obtain ⟨k1, k2, k3⟩ := h.ok q hq
  refine ⟨k1, ?_⟩
  show 0 ≤ (if q.1 = nm then b else q.2) ∧ (if q.1 = nm then b else q.2) ≤ 9999
  split
  · exact ⟨b0, b1⟩
  · exact ⟨k2, k3⟩
theorem hand_of (bs : Bids) : Hand (.lst (bs.map bD)) bs := by
  refine ⟨bs.map bD, rfl, ?_⟩
  induction bs with
  | nil => exact .nil
  | cons p bs ih => exact .cons rfl ih
theorem eq_dN (o : Option Str) (nm : Str) : eqO (dN o) (.str nm) = some (decide (o = some nm)) := by
  cases o with
  | none => simp [dN, eqO, scalD, flatD, eqD]
  | some x => simp [dN, eqO, scalD, flatD, eqD]
section
variable {st : Store} {n : Nat}
theorem self_names {C : Calls} {env : Env} {bs : Bids} {least : Int} {i : Nat} (hi : i < env.length) (h0 : ∀ s, env[0]? = some s → s = .val (saleD bs least)) (hn : env ≠ []) : (evP C env (.lc (.ix (.var i) (.c (.int 0))) (.v i) (.seq (.attr (.var 0) "Sale" "bids")) .no [i])).1 st = .ok (.lst ((bs.map (·.1)).map .str)) st := by
  refine names_lc (bsD bs) rfl hi ?_
  cases env with
  | nil => exact absurd rfl hn
  | cons s env =>
    cases h0 s rfl
    have g : getB (Sl.val (saleD bs least) :: env) 0 = some (saleD bs least) := rfl
    simp [evEs, evBs, evAnd, evOr, evTAnd, evTOr, evO, evIf, bor, getV, getB, truthD, freeze, freeze1, bind1, binds, endD, evSs, evS, evHs, isPut, setIx, wipeE, fnIx, Out.nox, evIt, de_sale, at_bids]
theorem gain_ok {bs : Bids} {least w : Int} {nm : Str} (hl : bs.length ≤ 100) (hm : nm ∈ bs.map (·.1)) : callN tab (n + 3) 11 [saleD bs least, .str nm, .int w] st = .ok (.int (gainB nm w bs least)) st := by
  rw [call_fn t11 (n + 2) _ _ rfl]
  show endD (evSs (callN tab (n + 2)) ir11 [.val (saleD bs least), .val (.str nm), .val (.int w), .no] st) = _
  have lc := self_names (C := callN tab (n + 2)) (env := [.val (saleD bs least), .val (.str nm), .val (.int w), .no]) (bs := bs) (least := least) (i := 3) (st := st) (by simp) (fun s h => by cases h; rfl) (by simp)
  have c2 : inD (.str nm) (.lst ((bs.map (·.1)).map .str)) = some true := by rw [in_strs, decide_eq_true hm]
  have e1 : callN tab (n + 2) 9 [saleD bs least] st = _ := winner_ok (n := n + 1) (st := st) (least := least) hl
  have e2 : callN tab (n + 2) 10 [saleD bs least] st = _ := price_ok (n := n) (st := st) (least := least) hl
  generalize (bs.map (·.1)).map D.str = xs at lc c2
  by_cases q : winN bs least = some nm
  · rw [q] at e1 e2
    have g : gainB nm w bs least = w - priceB nm bs least := if_pos q
    rw [g]
    simp [evEs, evBs, evAnd, evOr, evTAnd, evTOr, evO, evIf, bor, getV, getB, truthD, freeze, freeze1, bind1, binds, endD, evSs, evS, evHs, isPut, setIx, wipeE, fnIx, Out.nox, ir11, lc, cmpD, c2, de_sale, i_win, i_pri, e1, e2, dN, eqO, scalD, flatD, eqD, binD]
  · have g : gainB nm w bs least = 0 := if_neg q
    rw [g]
    have ne := eq_dN (winN bs least) nm
    rw [decide_eq_false q] at ne
    simp [evEs, evBs, evAnd, evOr, evTAnd, evTOr, evO, evIf, bor, getV, getB, truthD, freeze, freeze1, bind1, binds, endD, evSs, evS, evHs, isPut, setIx, wipeE, fnIx, Out.nox, ir11, lc, cmpD, c2, de_sale, i_win, e1, ne]
theorem gain_no {bs : Bids} {least w : Int} {nm : Str} (hm : nm ∉ bs.map (·.1)) : callN tab (n + 1) 11 [saleD bs least, .str nm, .int w] st = .ex "Unknown" ["value"] [.str nm] st := by
  rw [call_fn t11 n _ _ rfl]
  show endD (evSs (callN tab n) ir11 [.val (saleD bs least), .val (.str nm), .val (.int w), .no] st) = _
  have lc := self_names (C := callN tab n) (env := [.val (saleD bs least), .val (.str nm), .val (.int w), .no]) (bs := bs) (least := least) (i := 3) (st := st) (by simp) (fun s h => by cases h; rfl) (by simp)
  have c2 : inD (.str nm) (.lst ((bs.map (·.1)).map .str)) = some false := by rw [in_strs, decide_eq_false hm]
  generalize (bs.map (·.1)).map D.str = xs at lc c2
  simp [evEs, evBs, evAnd, evOr, evTAnd, evTOr, evO, evIf, bor, getV, getB, truthD, freeze, freeze1, bind1, binds, endD, evSs, evS, evHs, isPut, setIx, wipeE, fnIx, Out.nox, ir11, lc, cmpD, c2]
theorem with_no {bs : Bids} {least : Int} {w : D} {nm : Str} (hm : nm ∉ bs.map (·.1)) : callN tab (n + 1) 12 [saleD bs least, .str nm, w] st = .ex "Unknown" ["value"] [.str nm] st := by
  rw [call_fn t12 n _ _ rfl]
  show endD (evSs (callN tab n) ir12 [.val (saleD bs least), .val (.str nm), .val w, .no, .no] st) = _
  have lc := self_names (C := callN tab n) (env := [.val (saleD bs least), .val (.str nm), .val w, .no, .no]) (bs := bs) (least := least) (i := 3) (st := st) (by simp) (fun s h => by cases h; rfl) (by simp)
  have c2 : inD (.str nm) (.lst ((bs.map (·.1)).map .str)) = some false := by rw [in_strs, decide_eq_false hm]
  generalize (bs.map (·.1)).map D.str = xs at lc c2
  simp [evEs, evBs, evAnd, evOr, evTAnd, evTOr, evO, evIf, bor, getV, getB, truthD, freeze, freeze1, bind1, binds, endD, evSs, evS, evHs, isPut, setIx, wipeE, fnIx, Out.nox, ir12, lc, cmpD, c2]
theorem with_ok {bs : Bids} {least b : Int} {nm : Str} (ok : Okb bs) (hm : nm ∈ bs.map (·.1)) (b0 : 0 ≤ b) (b1 : b ≤ 9999) : callN tab (n + 7) 12 [saleD bs least, .str nm, .int b] st = .ok (saleD (setB nm b bs) least) st := by
  rw [call_fn t12 (n + 6) _ _ rfl]
  show endD (evSs (callN tab (n + 6)) ir12 [.val (saleD bs least), .val (.str nm), .val (.int b), .no, .no] st) = _
  have lc := self_names (C := callN tab (n + 6)) (env := [.val (saleD bs least), .val (.str nm), .val (.int b), .no, .no]) (bs := bs) (least := least) (i := 3) (st := st) (by simp) (fun s h => by cases h; rfl) (by simp)
  have c2 : inD (.str nm) (.lst ((bs.map (·.1)).map .str)) = some true := by rw [in_strs, decide_eq_true hm]
  have z2 : (2 : Nat) ≤ sizeLine := by have := big; omega
  have lc2 : (evP (callN tab (n + 6)) [.val (saleD bs least), .val (.str nm), .val (.int b), .no, .no] (.lc (.tup (.cons (.var 3) (.cons (.ife (.cmp .Eq (.var 3) (.var 1)) (.var 2) (.var 4)) .nil))) (.t (.cons (.v 3) (.cons (.v 4) .nil))) (.seq (.attr (.var 0) "Sale" "bids")) .no [3,4])).1 st = .ok (.lst ((setB nm b bs).map bD)) st := by
    have z := lc_map (C := callN tab (n + 6)) (env := [.val (saleD bs least), .val (.str nm), .val (.int b), .no, .no]) (elt := .tup (.cons (.var 3) (.cons (.ife (.cmp .Eq (.var 3) (.var 1)) (.var 2) (.var 4)) .nil))) (tg := .t (.cons (.v 3) (.cons (.v 4) .nil))) (it := .seq (.attr (.var 0) "Sale" "bids")) (ws := [3,4]) (st := st) (ds := bs.map bD)
      (fun d => match d with | .tup [.str x, .int o] => bD (x, if x = nm then b else o) | d => d) (by
        have i1 : itemsD (bsD bs) = some (bs.map bD) := rfl
        simp [evEs, evBs, evAnd, evOr, evTAnd, evTOr, evO, evIf, bor, getV, getB, truthD, freeze, freeze1, bind1, binds, endD, evSs, evS, evHs, isPut, setIx, wipeE, fnIx, Out.nox, evIt, de_sale, at_bids, i1]) fun d hd => by
      obtain ⟨p, hp, rfl⟩ := List.mem_map.mp hd
      refine ⟨[.val (saleD bs least), .val (.str nm), .val (.int b), .val (.str p.1), .val (.int p.2)], rfl, ?_⟩
      by_cases q : p.1 = nm
      · simp [evEs, evBs, evAnd, evOr, evTAnd, evTOr, evO, evIf, bor, getV, getB, truthD, freeze, freeze1, bind1, binds, endD, evSs, evS, evHs, isPut, setIx, wipeE, fnIx, Out.nox, z2, cmpD, eqO, scalD, flatD, eqD, q, bD]
      · simp [evEs, evBs, evAnd, evOr, evTAnd, evTOr, evO, evIf, bor, getV, getB, truthD, freeze, freeze1, bind1, binds, endD, evSs, evS, evHs, isPut, setIx, wipeE, fnIx, Out.nox, z2, cmpD, eqO, scalD, flatD, eqD, q, bD]
    rw [z, List.map_map]
    unfold setB
    rw [List.map_map]
    rfl
  have e1 : callN tab (n + 6) 7 [.lst ((setB nm b bs).map bD), .int least] st = .ok (saleD (setB nm b bs) least) st := sale_ok (n := n) (hand_of _) (setB_ok ok b0 b1)
  generalize (bs.map (·.1)).map D.str = xs at lc c2
  generalize (setB nm b bs).map bD = ys at lc2 e1
  simp [evEs, evBs, evAnd, evOr, evTAnd, evTOr, evO, evIf, bor, getV, getB, truthD, freeze, freeze1, bind1, binds, endD, evSs, evS, evHs, isPut, setIx, wipeE, fnIx, Out.nox, ir12, lc, cmpD, c2, lc2, de_sale, at_least, e1]
/-! ### == -/
theorem eqD_bs : ∀ bs : Bids, eqDs (bs.map bD) (bs.map bD) = true
  | [] => rfl
  | p :: bs => by
    show (eqD (bD p) (bD p) && eqDs (bs.map bD) (bs.map bD)) = true
    rw [eqD_bs bs]
    simp [bD, eqD, eqDs]
theorem data_bs {bs : Bids} (h : ∀ p ∈ bs, PyData.strOk p.1 = true) : dataDs 18 (bs.map bD) = true := by
  induction bs with
  | nil => rfl
  | cons p bs ih =>
    show (dataD 18 (bD p) && dataDs 18 (bs.map bD)) = true
    rw [ih fun q hq => h q (List.mem_cons_of_mem _ hq)]
    have := h p List.mem_cons_self
    simp [bD, dataD, dataDs, this]
theorem is_cls (bs : Bids) (l : Int) : isCls "Sale" (saleD bs l) = some true := by
  show (if ("Sale" : Str) = "Sale" then some true else none) = _
  rw [if_pos rfl]
theorem eq_ok {bs : Bids} {l m : Int} (h : ∀ p ∈ bs, PyData.strOk p.1 = true) : callN tab (n + 1) 8 [saleD bs l, saleD bs m] st = .ok (.bl (decide (l = m))) st := by
  rw [call_fn t8 n _ _ rfl]
  show endD (evSs (callN tab n) ir8 [.val (saleD bs l), .val (saleD bs m)] st) = _
  have z2 : (2 : Nat) ≤ sizeLine := by have := big; omega
  have q : eqO (.tup [bsD bs, .int l]) (.tup [bsD bs, .int m]) = some (decide (l = m)) := by
    have d1 : ∀ k : Int, dataD 20 (.tup [bsD bs, .int k]) = true := fun k => by
      show (dataDs 18 (bs.map bD) && true) = true
      rw [data_bs h]
      rfl
    have e1 : eqD (.tup [bsD bs, .int l]) (.tup [bsD bs, .int m]) = decide (l = m) := by
      show (eqDs (bs.map bD) (bs.map bD) && (decide (l = m) && true)) = _
      rw [eqD_bs]
      simp
    show (if scalD (.tup [bsD bs, .int l]) (.tup [bsD bs, .int m]) = true then some (eqD (.tup [bsD bs, .int l]) (.tup [bsD bs, .int m])) else if (dataD 20 (.tup [bsD bs, .int l]) && dataD 20 (.tup [bsD bs, .int m])) = true then some (eqD (.tup [bsD bs, .int l]) (.tup [bsD bs, .int m])) else none) = _
    rw [d1, d1, e1]
    rfl
  simp [evEs, evBs, evAnd, evOr, evTAnd, evTOr, evO, evIf, bor, getV, getB, truthD, freeze, freeze1, bind1, binds, endD, evSs, evS, evHs, isPut, setIx, wipeE, fnIx, Out.nox, ir8, is_cls, de_sale, at_bids, at_least, z2, cmpD, q]
theorem eq_no {bs : Bids} {l : Int} {ds : List D} : callN tab (n + 1) 8 [saleD bs l, .tup ds] st = .ok (.bl false) st := by
  rw [call_fn t8 n _ _ rfl]
  show endD (evSs (callN tab n) ir8 [.val (saleD bs l), .val (.tup ds)] st) = _
  have c : isCls "Sale" (.tup ds) = some false := rfl
  simp [evEs, evBs, evAnd, evOr, evTAnd, evTOr, evO, evIf, bor, getV, getB, truthD, freeze, freeze1, bind1, binds, endD, evSs, evS, evHs, isPut, setIx, wipeE, fnIx, Out.nox, ir8, c]
end
end Eng
set_option Elab.async false
set_option linter.all false
set_option maxRecDepth 100000
set_option maxHeartbeats 4000000
/-! k09: the law's rule, best_bid -/
namespace Eng
open PySem PySem.Spec L2
theorem enum_fst (bs : Bids) : (enumB bs).map (·.1) = List.range bs.length := by
  unfold enumB
  rw [List.map_fst_zip]
  rw [List.length_range]
  exact Nat.le_refl _
theorem rng_enum (bs : Bids) : (List.range bs.length).map (fun (k : Nat) => D.int (k : Int)) = (enumB bs).map fun e => D.int (e.1 : Int) := by
  rw [← enum_fst, List.map_map]
  rfl
/-- a law's row by a number -/
def keepK (bs : Bids) (least : Int) : D → Bool
  | .int k => (match bs[k.toNat]? with | some p => decide (least ≤ p.2) | none => false)
  | _ => false
def pairK (bs : Bids) : D → D
  | .int k => (match bs[k.toNat]? with | some p => pD (0 - p.2, k) | none => .int k)
  | d => d
theorem rows_K (bs : Bids) (least : Int) : ((((List.range bs.length).map fun (k : Nat) => D.int (k : Int)).filter (keepK bs least)).map (pairK bs)) = (rowsOf bs least).map pD := by
  rw [rng_enum, List.filter_map, List.map_map]
  unfold rowsOf
  rw [List.map_map]
  have c1 : (enumB bs).filter (keepK bs least ∘ fun e => D.int (e.1 : Int)) = (enumB bs).filter fun e => decide (least ≤ e.2.2) := List.filter_congr fun e he => by
    have at_ := mem_enumB he
    show (match bs[((e.1 : Nat) : Int).toNat]? with | some p => decide (least ≤ p.2) | none => false) = _
    rw [Int.toNat_natCast, at_]
  rw [c1]
  refine List.map_congr_left fun e he => ?_
  have at_ := mem_enumB (List.mem_filter.mp he).1
  show (match bs[((e.1 : Nat) : Int).toNat]? with | some p => pD (0 - p.2, ((e.1 : Nat) : Int)) | none => .int e.1) = pD (-e.2.2, (e.1 : Int))
  rw [Int.toNat_natCast, at_]
  show pD (0 - e.2.2, _) = _
  rw [Int.zero_sub]
section
variable {st : Store} {n : Nat}
theorem sold_lc {C : Calls} {env : Env} {bs : Bids} {least : Int} {i a b : Nat} (hl : bs.length ≤ 100) (he : evEs C env (.cons (.bi "len" (.cons (.var a) .nil)) .nil) st = .ok [.int (bs.length : Nat)] st)
    (g1 : ∀ k : Int, getB ((wipeE env [i]).set i (.val (.int k))) a = some (.lst (bs.map bD))) (g2 : ∀ k : Int, getV ((wipeE env [i]).set i (.val (.int k))) i = some (.int k)) (g3 : ∀ k : Int, getB ((wipeE env [i]).set i (.val (.int k))) b = some (.int least)) :
    (evP C env (.lc (.tup (.cons (.bin .Sub (.c (.int 0)) (.ix (.ix (.var a) (.var i)) (.c (.int 1)))) (.cons (.var i) .nil))) (.v i) (.rng (.cons (.bi "len" (.cons (.var a) .nil)) .nil)) (.so (.cmp .GtE (.ix (.ix (.var a) (.var i)) (.c (.int 1))) (.var b))) [i])).1 st = .ok (.lst ((rowsOf bs least).map pD)) st := by
  have z2 : (2 : Nat) ≤ sizeLine := by have := big; omega
  have z := lc_filter (C := C) (env := env) (elt := .tup (.cons (.bin .Sub (.c (.int 0)) (.ix (.ix (.var a) (.var i)) (.c (.int 1)))) (.cons (.var i) .nil))) (tg := .v i) (it := .rng (.cons (.bi "len" (.cons (.var a) .nil)) .nil)) (c := .cmp .GtE (.ix (.ix (.var a) (.var i)) (.c (.int 1))) (.var b)) (ws := [i]) (st := st)
    (ds := (List.range bs.length).map fun (k : Nat) => D.int (k : Int)) (keepK bs least) (pairK bs) (by
      show ((evEs C env _ st).bnd fun ds st => ofO (rngD ds) st) = _
      rw [he, Out.bnd_ok, rng_nat (by omega)]
      rfl) fun d hd => by
    obtain ⟨k, hk, rfl⟩ := List.mem_map.mp hd
    have hk := List.mem_range.mp hk
    have at_ : bs[k]? = some bs[k] := List.getElem?_eq_getElem hk
    have x1 : ixS (.lst (bs.map bD)) (.int (k : Int)) = some (bD bs[k]) := atI_nat (by rw [List.getElem?_map, at_]; rfl)
    have kk : keepK bs least (.int (k : Int)) = decide (least ≤ (bs[k]).2) := by
      show (match bs[((k : Nat) : Int).toNat]? with | some p => decide (least ≤ p.2) | none => false) = _
      rw [Int.toNat_natCast, at_]
    have pk : pairK bs (.int (k : Int)) = pD (0 - (bs[k]).2, (k : Int)) := by
      show (match bs[((k : Nat) : Int).toNat]? with | some p => pD (0 - p.2, ((k : Nat) : Int)) | none => .int k) = _
      rw [Int.toNat_natCast, at_]
    have ixx : (evP C ((wipeE env [i]).set i (.val (.int (k : Int)))) (.ix (.ix (.var a) (.var i)) (.c (.int 1)))).1 st = .ok (.int (bs[k]).2) st := by
      have g1 := g1 k
      have g2 := g2 k
      generalize (wipeE env [i]).set i (.val (.int (k : Int))) = e at g1 g2
      have dl : deref st (.lst (bs.map bD)) = some (.lst (bs.map bD)) := rfl
      simp only [e_ix, bor, g1, ofO_some, Out.bnd_ok, e_var, g2, dl, Option.bind_some, x1, e_c, de_b, b_1]
    refine ⟨_, rfl, ?_, fun _ => ?_⟩
    · have g3 := g3 k
      generalize (wipeE env [i]).set i (.val (.int (k : Int))) = e at g3 ixx
      simp only [t_cmp, e_cmp, bor, ixx, Out.bnd_ok, g3, ofO_some, cmpD, Option.map_some, truthD, kk]
    · have g2 := g2 k
      generalize (wipeE env [i]).set i (.val (.int (k : Int))) = e at g2 ixx
      have bs' : binD .Sub (.int 0) (.int (bs[k]).2) = some (.int (0 - (bs[k]).2)) := rfl
      have z2' : decide ([D.int (0 - (bs[k]).2), .int (k : Int)].length ≤ sizeLine) = true := decide_eq_true z2
      simp only [e_tup, evEs, e_bin, bor, e_c, ixx, Out.bnd_ok, bs', ofO_some, e_var, g2, z2', chkO_true, pk]
      rfl
  rw [z, rows_K]
theorem sold_ok {bs : Bids} {least : Int} (hl : bs.length ≤ 100) : callN tab (n + 1) 24 [.lst (bs.map bD), .int least] st = .ok (.tup [dN (winN bs least), match winN bs least with | none => .non | some nm => .int (priceB nm bs least)]) st := by
  rw [call_fn (show tab[24]? = some ⟨2, 7, ir24, none⟩ from rfl) n _ _ rfl]
  show endD (evSs (callN tab n) ir24 [.val (.lst (bs.map bD)), .val (.int least), .no, .no, .no, .no, .no] st) = _
  have z2 : (2 : Nat) ≤ sizeLine := by have := big; omega
  have z1 : (1 : Nat) ≤ sizeLine := by omega
  have z0 : (0 : Nat) ≤ sizeLine := Nat.zero_le _
  have lb : lenD (.lst (bs.map bD)) = some bs.length := by
    show some (bs.map bD).length = _
    rw [List.length_map]
  have lc := sold_lc (C := callN tab n) (env := [.val (.lst (bs.map bD)), .val (.int least), .no, .no, .no, .no, .no]) (bs := bs) (least := least) (i := 4) (a := 0) (b := 1) (st := st) hl (by
    simp [evEs, evBs, evAnd, evOr, evTAnd, evTOr, evO, evIf, bor, getV, getB, truthD, freeze, freeze1, bind1, binds, endD, evSs, evS, evHs, isPut, setIx, wipeE, fnIx, Out.nox, biD, lb]) (fun _ => rfl) (fun _ => rfl) (fun _ => rfl)
  have so := sort_pD (rowsOf bs least)
  have s1 : evS (callN tab n) (.asg [] (.v 2) (.bi "sorted" (.cons (.lc (.tup (.cons (.bin .Sub (.c (.int 0)) (.ix (.ix (.var 0) (.var 4)) (.c (.int 1)))) (.cons (.var 4) .nil))) (.v 4) (.rng (.cons (.bi "len" (.cons (.var 0) .nil)) .nil)) (.so (.cmp .GtE (.ix (.ix (.var 0) (.var 4)) (.c (.int 1))) (.var 1))) [4]) .nil))) [.val (.lst (bs.map bD)), .val (.int least), .no, .no, .no, .no, .no] st = .ok (.nx [.val (.lst (bs.map bD)), .val (.int least), .val (.lst (((rowsOf bs least).mergeSort leP).map pD)), .no, .no, .no, .no]) st := by
    generalize (rowsOf bs least).map pD = A at lc so
    generalize ((rowsOf bs least).mergeSort leP).map pD = B at so
    simp [evEs, evBs, evAnd, evOr, evTAnd, evTOr, evO, evIf, bor, getV, getB, truthD, freeze, freeze1, bind1, binds, endD, evSs, evS, evHs, isPut, setIx, wipeE, fnIx, Out.nox, lc, so]
  have all : evSs (callN tab n) ir24 [.val (.lst (bs.map bD)), .val (.int least), .no, .no, .no, .no, .no] st = .ok (.rt (.tup [dN (winN bs least), match winN bs least with | none => .non | some nm => .int (priceB nm bs least)])) st := by
    refine (evSs_next s1).trans ?_
    cases q : rowsOf bs least with
    | nil =>
      have w : winN bs least = none := by
        unfold winN winI
        rw [q]
        rfl
      rw [w, List.mergeSort_nil]
      have e0 : eqO (.lst []) (.lst []) = some true := by simp [eqO]
      simp [evEs, evBs, evAnd, evOr, evTAnd, evTOr, evO, evIf, bor, getV, getB, truthD, freeze, freeze1, bind1, binds, endD, evSs, evS, evHs, isPut, setIx, wipeE, fnIx, Out.nox, z0, cmpD, e0, z2, dN]
    | cons r rs =>
      obtain ⟨i, p, h1, h2, h3, h4, h5⟩ := min_row q
      obtain ⟨rest, er⟩ := sort_head r rs
      rw [er, h1, h5, List.map_cons]
      have x0 : ixS (.lst (pD (-p.2, (i : Int)) :: rest.map pD)) (.int 0) = some (pD (-p.2, (i : Int))) := atI_nat (k := 0) rfl
      have x1 : ixS (pD (-p.2, (i : Int))) (.int 1) = some (.int i) := rfl
      have dp : deref st (pD (-p.2, (i : Int))) = some (pD (-p.2, (i : Int))) := rfl
      have dr : deref st (.lst (pD (-p.2, (i : Int)) :: rest.map pD)) = some (.lst (pD (-p.2, (i : Int)) :: rest.map pD)) := rfl
      have x2 : ixS (.lst (bs.map bD)) (.int (i : Int)) = some (bD p) := atI_nat (by rw [List.getElem?_map, h2]; rfl)
      have dbs : deref st (.lst (bs.map bD)) = some (.lst (bs.map bD)) := rfl
      have ne : eqO (.lst (pD (-p.2, (i : Int)) :: rest.map pD)) (.lst []) = some false := by simp [eqO]
      have lc := others_lc (C := callN tab n) (env := [.val (.lst (bs.map bD)), .val (.int least), .val (.lst (pD (-p.2, (i : Int)) :: rest.map pD)), .val (.str p.1), .no, .no, .no]) (e := .var 0) (en := .var 3) (nm := p.1) (i := 5) (j := 6) (bs := bs) (st := st) (.lst (bs.map bD)) rfl (by simp [evEs, evBs, evAnd, evOr, evTAnd, evTOr, evO, evIf, bor, getV, getB, truthD, freeze, freeze1, bind1, binds, endD, evSs, evS, evHs, isPut, setIx, wipeE, fnIx, Out.nox, evIt]) (fun p => rfl) (fun p => rfl) (fun p => rfl) (fun p => rfl)
      have lo : (others p.1 bs).length ≤ 100 := by
        unfold others
        rw [List.length_map]
        exact Nat.le_trans (List.length_filter_le _ _) hl
      have hb := big
      have ad : binD .Add (.lst [.int least]) (.lst ((others p.1 bs).map .int)) = some (.lst ((least :: others p.1 bs).map .int)) := by
        show (if [D.int least].length + ((others p.1 bs).map D.int).length ≤ sizeLine then some (D.lst ([D.int least] ++ (others p.1 bs).map .int)) else none) = _
        rw [List.length_map, if_pos (by show 1 + (others p.1 bs).length ≤ sizeLine; omega)]
        rfl
      have mx := max_int least (others p.1 bs)
      generalize (others p.1 bs).map D.int = O at lc ad
      generalize (least :: others p.1 bs).map D.int = O2 at mx ad
      generalize D.lst (pD (-p.2, (i : Int)) :: rest.map pD) = R at x0 dr ne lc
      generalize D.lst (bs.map bD) = LL at x2 dbs lc
      simp [evEs, evBs, evAnd, evOr, evTAnd, evTOr, evO, evIf, bor, getV, getB, truthD, freeze, freeze1, bind1, binds, endD, evSs, evS, evHs, isPut, setIx, wipeE, fnIx, Out.nox, z0, cmpD, ne, x0, dr, dp, x1, dbs, x2, de_b, b_0, z1, z2, lc, ad, mx, dN, priceB]
  rw [all]
  rfl
theorem lgain_ok {bs : Bids} {least w : Int} {nm : Str} (hl : bs.length ≤ 100) : callN tab (n + 2) 25 [.lst (bs.map bD), .int least, .str nm, .int w] st = .ok (.int (gainB nm w bs least)) st := by
  rw [call_fn (show tab[25]? = some ⟨4, 6, ir25, none⟩ from rfl) (n + 1) _ _ rfl]
  show endD (evSs (callN tab (n + 1)) ir25 [.val (.lst (bs.map bD)), .val (.int least), .val (.str nm), .val (.int w), .no, .no] st) = _
  have e := sold_ok (n := n) (st := st) (least := least) hl
  obtain ⟨pr, hpr⟩ : ∃ pr, pr = (match winN bs least with | none => D.non | some nm => .int (priceB nm bs least)) := ⟨_, rfl⟩
  rw [← hpr] at e
  have c : (evP (callN tab (n + 1)) [.val (.lst (bs.map bD)), .val (.int least), .val (.str nm), .val (.int w), .no, .no] (.call 24 (.cons (.var 0) (.cons (.var 1) .nil)))).1 st = .ok (.tup [dN (winN bs least), pr]) st := by
    simp only [e_call, evEs, e_var, getV, List.getElem?_cons_zero, List.getElem?_cons_succ, ofO_some, Out.bnd_ok, e]
  have hb : bind1 (.t (.cons (.v 4) (.cons (.v 5) .nil))) (.tup [dN (winN bs least), pr]) [.val (.lst (bs.map bD)), .val (.int least), .val (.str nm), .val (.int w), .no, .no] = some [.val (.lst (bs.map bD)), .val (.int least), .val (.str nm), .val (.int w), .val (dN (winN bs least)), .val pr] := rfl
  have s1 : evS (callN tab (n + 1)) (.asg [] (.t (.cons (.v 4) (.cons (.v 5) .nil))) (.call 24 (.cons (.var 0) (.cons (.var 1) .nil)))) [.val (.lst (bs.map bD)), .val (.int least), .val (.str nm), .val (.int w), .no, .no] st = .ok (.nx [.val (.lst (bs.map bD)), .val (.int least), .val (.str nm), .val (.int w), .val (dN (winN bs least)), .val pr]) st := by
    simp only [evS, freeze, c, Out.bnd_ok, hb, ofO_some]
  have all : evSs (callN tab (n + 1)) ir25 [.val (.lst (bs.map bD)), .val (.int least), .val (.str nm), .val (.int w), .no, .no] st = .ok (.rt (.int (gainB nm w bs least))) st := by
    refine (evSs_next s1).trans ?_
    have ne := eq_dN (winN bs least) nm
    by_cases q : winN bs least = some nm
    · rw [decide_eq_true q] at ne
      have g : gainB nm w bs least = w - priceB nm bs least := if_pos q
      rw [q] at hpr ne
      subst hpr
      rw [g, q]
      simp [evEs, evBs, evAnd, evOr, evTAnd, evTOr, evO, evIf, bor, getV, getB, truthD, freeze, freeze1, bind1, binds, endD, evSs, evS, evHs, isPut, setIx, wipeE, fnIx, Out.nox, cmpD, ne, binD]
    · rw [decide_eq_false q] at ne
      have g : gainB nm w bs least = 0 := if_neg q
      rw [g]
      simp [evEs, evBs, evAnd, evOr, evTAnd, evTOr, evO, evIf, bor, getV, getB, truthD, freeze, freeze1, bind1, binds, endD, evSs, evS, evHs, isPut, setIx, wipeE, fnIx, Out.nox, cmpD, ne]
  rw [all]
  rfl
end
end Eng
set_option Elab.async false
set_option linter.all false
set_option maxRecDepth 100000
set_option maxHeartbeats 4000000
/-! k09: best_bid, lots -/
namespace Eng
open PySem PySem.Spec L2
theorem lcGoX_pure {step : D → Store → Out (Option D)} {f : D → Option D} {st : Store} : ∀ {ds : List D}, (∀ d ∈ ds, step d st = .ok (f d) st) → lcGoX step ds st = .ok (ds.filterMap f) st
  | [], _ => rfl
  | d :: ds, h => by
    show ((step d st).bnd fun r st1 => (lcGoX step ds st1).bnd fun acc st2 => .ok (match r with | some y => y :: acc | none => acc) st2) = _
    rw [h d List.mem_cons_self]
    show (lcGoX step ds st).bnd _ = _
    rw [lcGoX_pure fun d hd => h d (List.mem_cons_of_mem _ hd), List.filterMap_cons]
    cases f d <;> rfl
/-- one that keeps all -/
theorem lcx_all {C : Calls} {env : Env} {elt : E} {tg : Tg} {it : It} {c : E} {ws : List Nat} {st : Store} {ds : List D} (f : D → D) (hit : evIt C env it st = .ok ds st)
    (h : ∀ d ∈ ds, ∃ env', bind1 tg d (wipeE env ws) = some env' ∧ (evP C env' c).2 st = .ok true st ∧ (evP C env' elt).1 st = .ok (f d) st) : (evP C env (.lcx elt tg it (.so c) ws)).1 st = .ok (.lst (ds.map f)) st := by
  show (evIt C env it st).bnd _ = _
  rw [hit, Out.bnd_ok, lcGoX_pure (f := fun d => some (f d)) fun d hd => ?_]
  · show Out.ok (D.lst (ds.filterMap fun d => some (f d))) st = _
    congr 2
    exact List.filterMap_eq_map' ▸ rfl
  · obtain ⟨env', e1, e2, e3⟩ := h d hd
    rw [e1]
    show ((evP C env' c).2 st).bnd _ = _
    rw [e2]
    show ((evP C env' elt).1 st).bnd _ = _
    rw [e3]
    rfl
/-- one whose first item raises -/
theorem lcx_ex {C : Calls} {env env' : Env} {elt : E} {tg : Tg} {it : It} {c : E} {ws : List Nat} {st : Store} {d : D} {ds : List D} {x : Str} {ks : List Str} {es : List D} (hit : evIt C env it st = .ok (d :: ds) st)
    (h1 : bind1 tg d (wipeE env ws) = some env') (h2 : (evP C env' c).2 st = .ok true st) (h3 : (evP C env' elt).1 st = .ex x ks es st) : (evP C env (.lcx elt tg it (.so c) ws)).1 st = .ex x ks es st := by
  show (evIt C env it st).bnd _ = _
  rw [hit, Out.bnd_ok]
  show (((((ofO (bind1 tg d (wipeE env ws)) st).bnd fun env' st => (evIf C env' (.so c) st).bnd fun r st => _).bnd _).bnd _) : Out D) = _
  rw [h1]
  show ((((((evP C env' c).2 st).bnd fun r st => _).bnd _).bnd _) : Out D) = _
  rw [h2]
  show ((((((evP C env' elt).1 st).bnd _).bnd _).bnd _) : Out D) = _
  rw [h3]
  rfl
def marksB (nm : Str) (bs : Bids) (least : Int) : List Int := ([0, least] ++ others nm bs) ++ (others nm bs).map (· + 1)
/-- best_bid's rows -/
def bestR (nm : Str) (w : Int) (bs : Bids) (least : Int) (b : Int) : P2 := (-gainB nm w (setB nm b bs) least, b)
def bestB (nm : Str) (w : Int) (bs : Bids) (least : Int) : Int := (minP (bestR nm w bs least 0) (((least :: others nm bs) ++ (others nm bs).map (· + 1)).map (bestR nm w bs least))).2
section
variable {st : Store} {n : Nat}
abbrev env13 (bs : Bids) (least w : Int) (nm : Str) (a b c : Sl) : Env := [.val (saleD bs least), .val (.str nm), .val (.int w), a, b, c, .no, .no]
theorem best_head {C : Calls} {bs : Bids} {least w : Int} {nm : Str} (hl : bs.length ≤ 100) : ∃ O M, O = .lst ((others nm bs).map .int) ∧ M = .lst ((marksB nm bs least).map .int) ∧
    evS C (.asg [] (.v 3) (.lc (.var 7) (.t (.cons (.v 6) (.cons (.v 7) .nil))) (.seq (.attr (.var 0) "Sale" "bids")) (.so (.cmp .NotEq (.var 6) (.var 1))) [6,7])) (env13 bs least w nm .no .no .no) st = .ok (.nx (env13 bs least w nm (.val O) .no .no)) st ∧
    evS C (.asg [] (.v 4) (.bin .Add (.bin .Add (.lst (.cons (.c (.int 0)) (.cons (.attr (.var 0) "Sale" "least") .nil))) (.var 3)) (.lc (.bin .Add (.var 7) (.c (.int 1))) (.v 7) (.seq (.var 3)) .no [7]))) (env13 bs least w nm (.val O) .no .no) st = .ok (.nx (env13 bs least w nm (.val O) (.val M) .no)) st := by
  refine ⟨_, _, rfl, rfl, ?_, ?_⟩
  · have lc := others_lc (C := C) (env := env13 bs least w nm .no .no .no) (e := .attr (.var 0) "Sale" "bids") (en := .var 1) (nm := nm) (i := 6) (j := 7) (bs := bs) (st := st) (bsD bs) rfl (by simp [evEs, evBs, evAnd, evOr, evTAnd, evTOr, evO, evIf, bor, getV, getB, truthD, freeze, freeze1, bind1, binds, endD, evSs, evS, evHs, isPut, setIx, wipeE, fnIx, Out.nox, evIt, de_sale, at_bids]) (fun p => rfl) (fun p => rfl) (fun p => rfl) (fun p => rfl)
    generalize D.lst ((others nm bs).map D.int) = O at lc ⊢
    simp only [evS, freeze, lc, Out.bnd_ok, bind1, ofO_some]
    rfl
  · have hb := big
    have lo : (others nm bs).length ≤ 100 := by
      unfold others
      rw [List.length_map]
      exact Nat.le_trans (List.length_filter_le _ _) hl
    have z2 : (2 : Nat) ≤ sizeLine := by omega
    have lc : (evP C (env13 bs least w nm (.val (.lst ((others nm bs).map .int))) .no .no) (.lc (.bin .Add (.var 7) (.c (.int 1))) (.v 7) (.seq (.var 3)) .no [7])).1 st = .ok (.lst (((others nm bs).map (· + 1)).map .int)) st := by
      have z := lc_map (C := C) (env := env13 bs least w nm (.val (.lst ((others nm bs).map .int))) .no .no) (elt := .bin .Add (.var 7) (.c (.int 1))) (tg := .v 7) (it := .seq (.var 3)) (ws := [7]) (st := st) (ds := (others nm bs).map .int) (fun d => match d with | .int i => .int (i + 1) | d => d) rfl fun d hd => by
        obtain ⟨i, _, rfl⟩ := List.mem_map.mp hd
        exact ⟨_, rfl, rfl⟩
      rw [z, List.map_map, List.map_map]
      rfl
    have a1 : binD .Add (.lst [.int 0, .int least]) (.lst ((others nm bs).map .int)) = some (.lst (([0, least] ++ others nm bs).map .int)) := by
      show (if [D.int 0, .int least].length + ((others nm bs).map D.int).length ≤ sizeLine then some (D.lst ([D.int 0, .int least] ++ (others nm bs).map .int)) else none) = _
      rw [List.length_map, if_pos (by show 2 + (others nm bs).length ≤ sizeLine; omega)]
      rfl
    have a2 : binD .Add (.lst (([0, least] ++ others nm bs).map .int)) (.lst (((others nm bs).map (· + 1)).map .int)) = some (.lst ((marksB nm bs least).map .int)) := by
      show (if (([0, least] ++ others nm bs).map D.int).length + (((others nm bs).map (· + 1)).map D.int).length ≤ sizeLine then some (D.lst (([0, least] ++ others nm bs).map D.int ++ ((others nm bs).map (· + 1)).map D.int)) else none) = _
      rw [List.length_map, List.length_map, List.length_map, List.length_append, if_pos (by show (2 + (others nm bs).length) + (others nm bs).length ≤ sizeLine; omega), ← List.map_append]
      rfl
    generalize D.lst ((marksB nm bs least).map D.int) = M at a2 ⊢
    generalize D.lst (([0, least] ++ others nm bs).map D.int) = A at a1 a2
    generalize D.lst (((others nm bs).map (· + 1)).map D.int) = B at lc a2
    generalize D.lst ((others nm bs).map D.int) = O at lc a1 ⊢
    have v1 : (evP C (env13 bs least w nm (.val O) .no .no) (.lst (.cons (.c (.int 0)) (.cons (.attr (.var 0) "Sale" "least") .nil)))).1 st = .ok (.lst [.int 0, .int least]) st := by
      simp [evEs, evBs, evAnd, evOr, evTAnd, evTOr, evO, evIf, bor, getV, getB, truthD, freeze, freeze1, bind1, binds, endD, evSs, evS, evHs, isPut, setIx, wipeE, fnIx, Out.nox, de_sale, at_least, z2]
    have g : getB (env13 bs least w nm (.val O) .no .no) 3 = some O := rfl
    have v : (evP C (env13 bs least w nm (.val O) .no .no) (.bin .Add (.bin .Add (.lst (.cons (.c (.int 0)) (.cons (.attr (.var 0) "Sale" "least") .nil))) (.var 3)) (.lc (.bin .Add (.var 7) (.c (.int 1))) (.v 7) (.seq (.var 3)) .no [7]))).1 st = .ok M st := by
      rw [e_bin]
      show ((evP C _ (.bin .Add _ _)).1 st).bnd (fun x st => ((evP C _ (.lc _ _ _ _ _)).1 st).bnd fun y st => ofO (binD .Add x y) st) = _
      have v2 : (evP C (env13 bs least w nm (.val O) .no .no) (.bin .Add (.lst (.cons (.c (.int 0)) (.cons (.attr (.var 0) "Sale" "least") .nil))) (.var 3))).1 st = .ok A st := by
        rw [e_bin]
        show ((evP C _ (.lst _)).1 st).bnd (fun x st => (ofO (getB (env13 bs least w nm (.val O) .no .no) 3) st).bnd fun y st => ofO (binD .Add x y) st) = _
        rw [v1, Out.bnd_ok, g, ofO_some, Out.bnd_ok, a1]
        rfl
      rw [v2, Out.bnd_ok, lc, Out.bnd_ok, a2]
      rfl
    simp only [evS, freeze, v, Out.bnd_ok, bind1, ofO_some]
    rfl
abbrev gw : E := .neg (.meth (.meth (.var 0) "Sale" "with_bid" 12 (.cons (.var 1) (.cons (.var 7) .nil))) "Sale" "gain" 11 (.cons (.var 1) (.cons (.var 2) .nil)))
theorem best_ok {bs : Bids} {least w : Int} {nm : Str} (ok : Okb bs) (hm : nm ∈ bs.map (·.1)) (hmk : ∀ b ∈ marksB nm bs least, 0 ≤ b ∧ b ≤ 9999) : callN tab (n + 8) 13 [saleD bs least, .str nm, .int w] st = .ok (.int (bestB nm w bs least)) st := by
  have hl : bs.length ≤ 100 := by have := ok.len; omega
  rw [call_fn t13 (n + 7) _ _ rfl]
  show endD (evSs (callN tab (n + 7)) ir13 (env13 bs least w nm .no .no .no) st) = _
  obtain ⟨O, M, hO, hM, s1, s2⟩ := best_head (C := callN tab (n + 7)) (st := st) (bs := bs) (least := least) (w := w) (nm := nm) hl
  have z2 : (2 : Nat) ≤ sizeLine := by have := big; omega
  have lc : (evP (callN tab (n + 7)) (env13 bs least w nm (.val O) (.val M) .no) (.lcx (.tup (.cons gw (.cons (.var 7) .nil))) (.v 7) (.seq (.var 4)) (.so (.cmp .LtE (.var 7) (.gl "MOST_BID" (.int 9999)))) [7])).1 st = .ok (.lst (((marksB nm bs least).map (bestR nm w bs least)).map pD)) st := by
    have z := lcx_all (C := callN tab (n + 7)) (env := env13 bs least w nm (.val O) (.val M) .no) (elt := .tup (.cons gw (.cons (.var 7) .nil))) (tg := .v 7) (it := .seq (.var 4)) (c := .cmp .LtE (.var 7) (.gl "MOST_BID" (.int 9999))) (ws := [7]) (st := st) (ds := (marksB nm bs least).map .int)
      (fun d => match d with | .int b => pD (bestR nm w bs least b) | d => d) (by rw [hM]; rfl) fun d hd => by
      obtain ⟨b, hb, rfl⟩ := List.mem_map.mp hd
      obtain ⟨b0, b1⟩ := hmk b hb
      refine ⟨[.val (saleD bs least), .val (.str nm), .val (.int w), .val O, .val M, .no, .no, .val (.int b)], rfl, ?_, ?_⟩
      · simp [evEs, evBs, evAnd, evOr, evTAnd, evTOr, evO, evIf, bor, getV, getB, truthD, freeze, freeze1, bind1, binds, endD, evSs, evS, evHs, isPut, setIx, wipeE, fnIx, Out.nox, cmpD, b1]
      · have e1 : callN tab (n + 7) 12 [saleD bs least, .str nm, .int b] st = .ok (saleD (setB nm b bs) least) st := with_ok (n := n) ok hm b0 b1
        have l2 : (setB nm b bs).length ≤ 100 := by unfold setB; rw [List.length_map]; exact hl
        have e2 : callN tab (n + 7) 11 [saleD (setB nm b bs) least, .str nm, .int w] st = .ok (.int (gainB nm w (setB nm b bs) least)) st := gain_ok (n := n + 4) l2 (by rw [setB_names]; exact hm)
        simp [evEs, evBs, evAnd, evOr, evTAnd, evTOr, evO, evIf, bor, getV, getB, truthD, freeze, freeze1, bind1, binds, endD, evSs, evS, evHs, isPut, setIx, wipeE, fnIx, Out.nox, de_sale, i_with, e1, i_gain, e2, z2, pD, bestR]
    rw [z, List.map_map, List.map_map]
    rfl
  have mn : biD "min" [.lst (((marksB nm bs least).map (bestR nm w bs least)).map pD)] = some (pD (minP (bestR nm w bs least 0) (((least :: others nm bs) ++ (others nm bs).map (· + 1)).map (bestR nm w bs least)))) := min_pD _ _
  have x1 : ∀ p : P2, ixS (pD p) (.int 1) = some (.int p.2) := fun p => rfl
  have dp : ∀ p : P2, deref st (pD p) = some (pD p) := fun p => rfl
  have s3 : evSs (callN tab (n + 7)) (.cons (.asg [] (.v 5) (.lcx (.tup (.cons gw (.cons (.var 7) .nil))) (.v 7) (.seq (.var 4)) (.so (.cmp .LtE (.var 7) (.gl "MOST_BID" (.int 9999)))) [7])) (.cons (.ret [] (.ix (.bi "min" (.cons (.var 5) .nil)) (.c (.int 1)))) .nil)) (env13 bs least w nm (.val O) (.val M) .no) st = .ok (.rt (.int (bestB nm w bs least))) st := by
    generalize D.lst (((marksB nm bs least).map (bestR nm w bs least)).map pD) = R at lc mn
    have a : evS (callN tab (n + 7)) (.asg [] (.v 5) (.lcx (.tup (.cons gw (.cons (.var 7) .nil))) (.v 7) (.seq (.var 4)) (.so (.cmp .LtE (.var 7) (.gl "MOST_BID" (.int 9999)))) [7])) (env13 bs least w nm (.val O) (.val M) .no) st = .ok (.nx (env13 bs least w nm (.val O) (.val M) (.val R))) st := by
      simp only [evS, freeze, lc, Out.bnd_ok, bind1, ofO_some]
      rfl
    refine (evSs_next a).trans ?_
    simp [evEs, evBs, evAnd, evOr, evTAnd, evTOr, evO, evIf, bor, getV, getB, truthD, freeze, freeze1, bind1, binds, endD, evSs, evS, evHs, isPut, setIx, wipeE, fnIx, Out.nox, mn, dp, x1, bestB]
  have all : evSs (callN tab (n + 7)) ir13 (env13 bs least w nm .no .no .no) st = .ok (.rt (.int (bestB nm w bs least))) st := (evSs_next s1).trans ((evSs_next s2).trans s3)
  rw [all]
  rfl
theorem best_no {bs : Bids} {least w : Int} {nm : Str} (hl : bs.length ≤ 100) (hm : nm ∉ bs.map (·.1)) : callN tab (n + 8) 13 [saleD bs least, .str nm, .int w] st = .ex "Unknown" ["value"] [.str nm] st := by
  rw [call_fn t13 (n + 7) _ _ rfl]
  show endD (evSs (callN tab (n + 7)) ir13 (env13 bs least w nm .no .no .no) st) = _
  obtain ⟨O, M, hO, hM, s1, s2⟩ := best_head (C := callN tab (n + 7)) (st := st) (bs := bs) (least := least) (w := w) (nm := nm) hl
  have e1 : callN tab (n + 7) 12 [saleD bs least, .str nm, .int 0] st = .ex "Unknown" ["value"] [.str nm] st := with_no (n := n + 6) hm
  have lc : (evP (callN tab (n + 7)) (env13 bs least w nm (.val O) (.val M) .no) (.lcx (.tup (.cons gw (.cons (.var 7) .nil))) (.v 7) (.seq (.var 4)) (.so (.cmp .LtE (.var 7) (.gl "MOST_BID" (.int 9999)))) [7])).1 st = .ex "Unknown" ["value"] [.str nm] st :=
    lcx_ex (env' := [.val (saleD bs least), .val (.str nm), .val (.int w), .val O, .val M, .no, .no, .val (.int 0)]) (d := .int 0) (ds := (least :: (others nm bs ++ (others nm bs).map (· + 1))).map .int) (by
      rw [hM]
      rfl) rfl (by simp [evEs, evBs, evAnd, evOr, evTAnd, evTOr, evO, evIf, bor, getV, getB, truthD, freeze, freeze1, bind1, binds, endD, evSs, evS, evHs, isPut, setIx, wipeE, fnIx, Out.nox, cmpD]) (by simp [evEs, evBs, evAnd, evOr, evTAnd, evTOr, evO, evIf, bor, getV, getB, truthD, freeze, freeze1, bind1, binds, endD, evSs, evS, evHs, isPut, setIx, wipeE, fnIx, Out.nox, de_sale, i_with, e1])
  have s3 : evSs (callN tab (n + 7)) (.cons (.asg [] (.v 5) (.lcx (.tup (.cons gw (.cons (.var 7) .nil))) (.v 7) (.seq (.var 4)) (.so (.cmp .LtE (.var 7) (.gl "MOST_BID" (.int 9999)))) [7])) (.cons (.ret [] (.ix (.bi "min" (.cons (.var 5) .nil)) (.c (.int 1)))) .nil)) (env13 bs least w nm (.val O) (.val M) .no) st = .ex "Unknown" ["value"] [.str nm] st := by
    refine evSs_ex ?_
    simp only [evS, freeze, lc, Out.bnd_ex]
  have all : evSs (callN tab (n + 7)) ir13 (env13 bs least w nm .no .no .no) st = .ex "Unknown" ["value"] [.str nm] st := (evSs_next s1).trans ((evSs_next s2).trans s3)
  rw [all]
  rfl
end
end Eng
set_option Elab.async false
set_option linter.all false
set_option maxRecDepth 100000
set_option maxHeartbeats 4000000
/-! k09: no bid gains more than the worth: plain law -/
namespace Eng
open PySem PySem.Spec L2
theorem enumB_mem {bs : Bids} {j : Nat} {q : Str × Int} (h : bs[j]? = some q) : (j, q) ∈ enumB bs := by
  have lt := (List.getElem?_eq_some_iff.mp h).1
  refine List.mem_iff_getElem?.mpr ⟨j, ?_⟩
  show ((List.range bs.length).zip bs)[j]? = some (j, q)
  refine List.getElem?_zip_eq_some.mpr ⟨?_, h⟩
  rw [List.getElem?_range lt]
theorem row_mem {bs : Bids} {least : Int} {j : Nat} {q : Str × Int} (h : bs[j]? = some q) (hl : least ≤ q.2) : (-q.2, (j : Int)) ∈ rowsOf bs least :=
  List.mem_map.mpr ⟨(j, q), List.mem_filter.mpr ⟨enumB_mem h, decide_eq_true hl⟩, rfl⟩
theorem one_place {bs : Bids} (nd : (bs.map (·.1)).Nodup) {i j : Nat} {p q : Str × Int} (hi : bs[i]? = some p) (hj : bs[j]? = some q) (e : p.1 = q.1) : i = j := by
  have hi' : (bs.map (·.1))[i]? = some p.1 := by rw [List.getElem?_map, hi]; rfl
  have hj' : (bs.map (·.1))[j]? = some p.1 := by rw [List.getElem?_map, hj, e]; rfl
  obtain ⟨li, ei⟩ := List.getElem?_eq_some_iff.mp hi'
  obtain ⟨lj, ej⟩ := List.getElem?_eq_some_iff.mp hj'
  have pw := List.pairwise_iff_getElem.mp (List.nodup_iff_pairwise_ne.mp nd)
  rcases Nat.lt_trichotomy i j with h | h | h
  · exact absurd (ei.trans ej.symm) (pw i j li lj h)
  · exact h
  · exact absurd (ej.trans ei.symm) (pw j i lj li h)
section
variable {bs : Bids} {nm : Str} {k : Nat} {b0 : Int}
theorem set_at (b : Int) (h : bs[k]? = some (nm, b0)) : (setB nm b bs)[k]? = some (nm, b) := by
  unfold setB
  rw [List.getElem?_map, h]
  show some (nm, if nm = nm then b else b0) = _
  rw [if_pos rfl]
theorem set_off {b : Int} {j : Nat} {p : Str × Int} (nd : (bs.map (·.1)).Nodup) (h : bs[k]? = some (nm, b0)) (hj : bs[j]? = some p) (ne : j ≠ k) : (setB nm b bs)[j]? = some p := by
  unfold setB
  rw [List.getElem?_map, hj]
  show some (p.1, if p.1 = nm then b else p.2) = _
  rw [if_neg fun e => ne (one_place nd hj h e)]
theorem set_of {b : Int} {j : Nat} {p : Str × Int} (nd : (bs.map (·.1)).Nodup) (h : bs[k]? = some (nm, b0)) (hj : (setB nm b bs)[j]? = some p) (ne : j ≠ k) : bs[j]? = some p := by
  have lt : j < bs.length := by
    have := (List.getElem?_eq_some_iff.mp hj).1
    unfold setB at this
    rw [List.length_map] at this
    exact this
  have e := List.getElem?_eq_getElem lt
  have := set_off (b := b) nd h e ne
  rw [hj] at this
  rw [e, ← this]
/-- when the bid b wins -/
def Wins (bs : Bids) (k : Nat) (least b : Int) : Prop := least ≤ b ∧ ∀ (j : Nat) (p : Str × Int), bs[j]? = some p → j ≠ k → (j < k → p.2 < b) ∧ (k < j → p.2 ≤ b)
theorem win_iff {least b : Int} (nd : (bs.map (·.1)).Nodup) (h : bs[k]? = some (nm, b0)) : winN (setB nm b bs) least = some nm ↔ Wins bs k least b := by
  have hk := set_at b h
  have nd2 : ((setB nm b bs).map (·.1)).Nodup := by rw [setB_names]; exact nd
  constructor
  · intro w
    cases q : rowsOf (setB nm b bs) least with
    | nil =>
      have : winN (setB nm b bs) least = none := by
        unfold winN winI
        rw [q]
        rfl
      rw [this] at w
      cases w
    | cons r rs =>
      obtain ⟨i, p, h1, h2, h3, h4, h5⟩ := min_row q
      rw [h5] at w
      have en : p.1 = nm := Option.some.inj w
      have ik : i = k := one_place nd2 h2 hk en
      subst ik
      rw [hk] at h2
      cases h2
      obtain ⟨_, low⟩ := minP_spec rs r
      rw [← q, h1] at low
      refine ⟨h3, fun j p hj ne => ?_⟩
      have hj2 := set_off (b := b) nd h hj ne
      have h3' : least ≤ b := h3
      by_cases lp : least ≤ p.2
      · have := low _ (row_mem hj2 lp)
        simp only [leP, decide_eq_true_eq] at this
        constructor
        · intro; omega
        · intro; omega
      · constructor
        · intro; omega
        · intro; omega
  · intro ⟨hb, ho⟩
    have mem := row_mem (least := least) hk hb
    cases q : rowsOf (setB nm b bs) least with
    | nil =>
      rw [q] at mem
      cases mem
    | cons r rs =>
      obtain ⟨i, p, h1, h2, h3, h4, h5⟩ := min_row q
      obtain ⟨_, low⟩ := minP_spec rs r
      rw [← q, h1] at low
      have := low _ mem
      simp only [leP, decide_eq_true_eq] at this
      by_cases ik : i = k
      · subst ik
        rw [hk] at h2
        cases h2
        exact h5
      · exfalso
        have := ho i p (set_of nd h h2 ik) ik
        omega
/-- the least bid that wins -/
def thr (bs : Bids) (k : Nat) (least : Int) : Int := mxI least ((bs.take k).map (·.2 + 1) ++ (bs.drop (k + 1)).map (·.2))
theorem thr_iff {least b : Int} : Wins bs k least b ↔ thr bs k least ≤ b := by
  obtain ⟨m1, m2⟩ := mxI_spec least ((bs.take k).map (·.2 + 1) ++ (bs.drop (k + 1)).map (·.2))
  constructor
  · intro ⟨hb, ho⟩
    rcases List.mem_cons.mp m1 with e | e
    · show mxI _ _ ≤ b
      omega
    · rcases List.mem_append.mp e with e | e
      · obtain ⟨p, hp, ep⟩ := List.mem_map.mp e
        obtain ⟨j, hj⟩ := List.mem_iff_getElem?.mp hp
        rw [List.getElem?_take] at hj
        by_cases jk : j < k
        · rw [if_pos jk] at hj
          have := (ho j p hj (by omega)).1 jk
          show mxI _ _ ≤ b
          omega
        · rw [if_neg jk] at hj
          cases hj
      · obtain ⟨p, hp, ep⟩ := List.mem_map.mp e
        obtain ⟨j, hj⟩ := List.mem_iff_getElem?.mp hp
        rw [List.getElem?_drop] at hj
        have := (ho (k + 1 + j) p hj (by omega)).2 (by omega)
        show mxI _ _ ≤ b
        omega
  · intro ht
    have ht : mxI _ _ ≤ b := ht
    refine ⟨Int.le_trans (m2 _ List.mem_cons_self) ht, fun j p hj ne => ⟨fun jk => ?_, fun jk => ?_⟩⟩
    · have : p.2 + 1 ∈ least :: ((bs.take k).map (·.2 + 1) ++ (bs.drop (k + 1)).map (·.2)) := List.mem_cons_of_mem _ (List.mem_append_left _ (List.mem_map.mpr ⟨p, List.mem_iff_getElem?.mpr ⟨j, by rw [List.getElem?_take, if_pos jk]; exact hj⟩, rfl⟩))
      have := m2 _ this
      omega
    · have : p.2 ∈ least :: ((bs.take k).map (·.2 + 1) ++ (bs.drop (k + 1)).map (·.2)) := List.mem_cons_of_mem _ (List.mem_append_right _ (List.mem_map.mpr ⟨p, List.mem_iff_getElem?.mpr ⟨j - (k + 1), by rw [List.getElem?_drop, show k + 1 + (j - (k + 1)) = j by omega]; exact hj⟩, rfl⟩))
      have := m2 _ this
      omega
theorem others_set (b : Int) : others nm (setB nm b bs) = others nm bs := by
  unfold others setB
  induction bs with
  | nil => rfl
  | cons p bs ih =>
    rw [List.map_cons, List.filter_cons, List.filter_cons]
    by_cases e : p.1 = nm
    · simp only [e, decide_true, Bool.not_true, Bool.false_eq_true, if_false]
      exact ih
    · simp only [e, decide_false, Bool.not_false, if_true, if_false, List.map_cons]
      rw [ih]
theorem other_at {j : Nat} {p : Str × Int} (nd : (bs.map (·.1)).Nodup) (h : bs[k]? = some (nm, b0)) (hj : bs[j]? = some p) (ne : j ≠ k) : p.2 ∈ others nm bs :=
  List.mem_map.mpr ⟨p, List.mem_filter.mpr ⟨List.mem_of_getElem? hj, by
    have : ¬ p.1 = nm := fun e => ne (one_place nd hj h e)
    simp [this]⟩, rfl⟩
theorem thr_mark {least : Int} (nd : (bs.map (·.1)).Nodup) (h : bs[k]? = some (nm, b0)) : thr bs k least = least ∨ thr bs k least ∈ others nm bs ∨ thr bs k least ∈ (others nm bs).map (· + 1) := by
  obtain ⟨m1, _⟩ := mxI_spec least ((bs.take k).map (·.2 + 1) ++ (bs.drop (k + 1)).map (·.2))
  rcases List.mem_cons.mp m1 with e | e
  · exact .inl e
  · rcases List.mem_append.mp e with e | e
    · obtain ⟨p, hp, ep⟩ := List.mem_map.mp e
      obtain ⟨j, hj⟩ := List.mem_iff_getElem?.mp hp
      rw [List.getElem?_take] at hj
      by_cases jk : j < k
      · rw [if_pos jk] at hj
        exact .inr (.inr (List.mem_map.mpr ⟨p.2, other_at nd h hj (by omega), ep⟩))
      · rw [if_neg jk] at hj
        cases hj
    · obtain ⟨p, hp, ep⟩ := List.mem_map.mp e
      obtain ⟨j, hj⟩ := List.mem_iff_getElem?.mp hp
      rw [List.getElem?_drop] at hj
      refine .inr (.inl ?_)
      show mxI _ _ ∈ _
      rw [← ep]
      exact other_at nd h hj (by omega)
theorem thr_price {least : Int} (nd : (bs.map (·.1)).Nodup) (h : bs[k]? = some (nm, b0)) : priceB nm bs least ≤ thr bs k least ∧ thr bs k least ≤ priceB nm bs least + 1 := by
  obtain ⟨p1, p2⟩ := mxI_spec least (others nm bs)
  have t := thr_iff (bs := bs) (k := k) (least := least) (b := thr bs k least)
  obtain ⟨w1, w2⟩ := t.mpr (Int.le_refl _)
  constructor
  · rcases List.mem_cons.mp p1 with e | e
    · show mxI _ _ ≤ _
      omega
    · obtain ⟨p, hp, ep⟩ := List.mem_map.mp e
      obtain ⟨hp1, hp2⟩ := List.mem_filter.mp hp
      obtain ⟨j, hj⟩ := List.mem_iff_getElem?.mp hp1
      have ne : j ≠ k := fun e => by
        subst e
        rw [h] at hj
        cases hj
        simp at hp2
      have := w2 j p hj ne
      show mxI _ _ ≤ _
      omega
  · show _ ≤ mxI least (others nm bs) + 1
    rcases thr_mark (least := least) nd h with e | e | e
    · have := p2 _ List.mem_cons_self
      omega
    · have := p2 _ (List.mem_cons_of_mem _ e)
      omega
    · obtain ⟨q, hq, eq⟩ := List.mem_map.mp e
      have := p2 _ (List.mem_cons_of_mem _ hq)
      omega
/-- the gain by a bid -/
theorem gain_eq {least w b : Int} (nd : (bs.map (·.1)).Nodup) (h : bs[k]? = some (nm, b0)) : gainB nm w (setB nm b bs) least = if thr bs k least ≤ b then w - priceB nm bs least else 0 := by
  have pr : priceB nm (setB nm b bs) least = priceB nm bs least := by
    unfold priceB
    rw [others_set]
  unfold gainB
  rw [pr]
  by_cases c : thr bs k least ≤ b
  · rw [if_pos c, if_pos ((win_iff nd h).mpr (thr_iff.mpr c))]
  · rw [if_neg c, if_neg fun z => c (thr_iff.mp ((win_iff nd h).mp z))]
theorem take_set (b : Int) (nd : (bs.map (·.1)).Nodup) (h : bs[k]? = some (nm, b0)) : bs.take k ++ [(nm, b)] ++ bs.drop (k + 1) = setB nm b bs := by
  have lt := (List.getElem?_eq_some_iff.mp h).1
  apply List.ext_getElem?
  intro j
  rw [List.append_assoc]
  rcases Nat.lt_trichotomy j k with c | c | c
  · rw [List.getElem?_append_left (by rw [List.length_take]; omega), List.getElem?_take, if_pos c]
    have lj : j < bs.length := by omega
    rw [List.getElem?_eq_getElem lj, set_off nd h (List.getElem?_eq_getElem lj) (by omega)]
  · subst c
    rw [set_at b h, List.getElem?_append_right (by rw [List.length_take]; omega), List.length_take, Nat.min_eq_left (by omega), Nat.sub_self]
    rfl
  · rw [List.getElem?_append_right (by rw [List.length_take]; omega), List.length_take, Nat.min_eq_left (by omega), List.getElem?_append_right (by simp; omega), List.getElem?_drop]
    have e : k + 1 + (j - k - [(nm, b)].length) = j := by simp; omega
    rw [e]
    by_cases lj : j < bs.length
    · rw [List.getElem?_eq_getElem lj, set_off nd h (List.getElem?_eq_getElem lj) (by omega)]
    · rw [List.getElem?_eq_none (by omega), List.getElem?_eq_none (by unfold setB; rw [List.length_map]; omega)]
/-- the law's list of gains -/
def gains (nm : Str) (w : Int) (bs : Bids) (least : Int) : List Int := (List.range 16).map fun (b : Nat) => gainB nm w (setB nm (b : Int) bs) least
def gmax (nm : Str) (w : Int) (bs : Bids) (least : Int) : Int := mxI (gainB nm w (setB nm ((0 : Nat) : Int) bs) least) (((List.range 15).map Nat.succ).map fun (b : Nat) => gainB nm w (setB nm (b : Int) bs) least)
theorem gains_cons {w least : Int} : gains nm w bs least = gainB nm w (setB nm ((0 : Nat) : Int) bs) least :: ((List.range 15).map Nat.succ).map fun (b : Nat) => gainB nm w (setB nm (b : Int) bs) least := by
  unfold gains
  rw [List.range_succ_eq_map, List.map_cons]
theorem best_law {least w : Int} (nd : (bs.map (·.1)).Nodup) (h : bs[k]? = some (nm, b0)) (hb : ∀ p ∈ bs, 0 ≤ p.2 ∧ p.2 ≤ 12) (l0 : 0 ≤ least) (l1 : least ≤ 12) (w0 : 0 ≤ w) (w1 : w ≤ 13) :
    gainB nm w (setB nm w bs) least = gmax nm w bs least ∧ ∃ m : Nat, bestB nm w bs least = (m : Int) ∧ m < 16 ∧ gainB nm w (setB nm (m : Int) bs) least = gmax nm w bs least ∧ ∀ j : Nat, j < m → gainB nm w (setB nm (j : Int) bs) least ≠ gmax nm w bs least := by
  obtain ⟨g1, g2⟩ := mxI_spec (gainB nm w (setB nm ((0 : Nat) : Int) bs) least) (((List.range 15).map Nat.succ).map fun (b : Nat) => gainB nm w (setB nm (b : Int) bs) least)
  rw [← gains_cons] at g1 g2
  have gm : gmax nm w bs least ∈ gains nm w bs least := g1
  have gu : ∀ y ∈ gains nm w bs least, y ≤ gmax nm w bs least := g2
  have gat : ∀ j : Nat, j < 16 → gainB nm w (setB nm (j : Int) bs) least ≤ gmax nm w bs least := fun j hj => gu _ (List.mem_map.mpr ⟨j, List.mem_range.mpr hj, rfl⟩)
  obtain ⟨gj, hgj, egj⟩ := List.mem_map.mp gm
  have ge : ∀ b : Int, gainB nm w (setB nm b bs) least = if thr bs k least ≤ b then w - priceB nm bs least else 0 := fun b => gain_eq nd h
  obtain ⟨tp1, tp2⟩ := thr_price (least := least) nd h
  have oth : ∀ x ∈ others nm bs, 0 ≤ x ∧ x ≤ 12 := fun x hx => by
    obtain ⟨p, hp, rfl⟩ := List.mem_map.mp hx
    exact hb p (List.mem_filter.mp hp).1
  have pr : 0 ≤ priceB nm bs least ∧ priceB nm bs least ≤ 12 := by
    obtain ⟨p1, p2⟩ := mxI_spec least (others nm bs)
    rcases List.mem_cons.mp p1 with e | e
    · constructor
      · show 0 ≤ mxI _ _
        omega
      · show mxI _ _ ≤ 12
        omega
    · exact oth _ e
  -- the program's choice
  obtain ⟨m1, m2⟩ := minP_spec (((least :: others nm bs) ++ (others nm bs).map (· + 1)).map (bestR nm w bs least)) (bestR nm w bs least 0)
  have allm : bestR nm w bs least 0 :: ((least :: others nm bs) ++ (others nm bs).map (· + 1)).map (bestR nm w bs least) = (marksB nm bs least).map (bestR nm w bs least) := rfl
  rw [allm] at m1 m2
  obtain ⟨c, hc, ec⟩ := List.mem_map.mp m1
  have bb : bestB nm w bs least = c := by
    unfold bestB
    rw [← ec]
    rfl
  rw [← ec] at m2
  have c0 : 0 ≤ c ∧ c ≤ 13 := by
    rcases List.mem_append.mp hc with e | e
    · rcases List.mem_append.mp e with e | e
      · rcases List.mem_cons.mp e with rfl | e
        · omega
        · rw [List.mem_singleton.mp e]
          omega
      · have := oth c e
        omega
    · obtain ⟨q, hq, rfl⟩ := List.mem_map.mp e
      have := oth q hq
      show 0 ≤ q + 1 ∧ q + 1 ≤ 13
      omega
  have z0 : (0 : Int) ∈ marksB nm bs least := List.mem_append_left _ (List.mem_append_left _ List.mem_cons_self)
  have zt : thr bs k least ∈ marksB nm bs least := by
    rcases thr_mark (least := least) nd h with e | e | e
    · rw [e]
      exact List.mem_append_left _ (List.mem_append_left _ (List.mem_cons_of_mem _ List.mem_cons_self))
    · exact List.mem_append_left _ (List.mem_append_right _ e)
    · exact List.mem_append_right _ e
  have le0 : -gainB nm w (setB nm c bs) least < -gainB nm w (setB nm 0 bs) least ∨ (-gainB nm w (setB nm c bs) least = -gainB nm w (setB nm 0 bs) least ∧ c ≤ 0) := of_decide_eq_true (m2 _ (List.mem_map.mpr ⟨0, z0, rfl⟩))
  have let_ : -gainB nm w (setB nm c bs) least < -gainB nm w (setB nm (thr bs k least) bs) least ∨ (-gainB nm w (setB nm c bs) least = -gainB nm w (setB nm (thr bs k least) bs) least ∧ c ≤ thr bs k least) := of_decide_eq_true (m2 _ (List.mem_map.mpr ⟨_, zt, rfl⟩))
  rw [ge, ge] at le0 let_
  have gw := gat w.toNat (by omega)
  have g0 := gat 0 (by omega)
  have gt := gat (thr bs k least).toNat (by omega)
  have wn : ((w.toNat : Nat) : Int) = w := by omega
  have tn : (((thr bs k least).toNat : Nat) : Int) = thr bs k least := by omega
  rw [wn, ge] at gw
  rw [tn, ge] at gt
  rw [ge] at g0
  have egj : (if thr bs k least ≤ (gj : Int) then w - priceB nm bs least else 0) = gmax nm w bs least := by rw [← ge]; exact egj
  generalize gmax nm w bs least = G at *
  generalize priceB nm bs least = P at *
  generalize thr bs k least = t at *
  rw [if_pos (Int.le_refl t)] at gt
  have cn : ((c.toNat : Nat) : Int) = c := by omega
  refine ⟨?_, c.toNat, by rw [bb, cn], by omega, ?_, fun j hj => ?_⟩
  · rw [ge]
    split <;> rename_i q <;> repeat (split at le0 <;> try omega) 
    all_goals (repeat (split at let_ <;> try omega))
    all_goals (repeat (split at egj <;> try omega))
    all_goals (repeat (split at gw <;> try omega))
    all_goals (repeat (split at g0 <;> try omega))
  · rw [cn, ge]
    split <;> rename_i q
    all_goals (repeat (split at le0 <;> try omega))
    all_goals (repeat (split at let_ <;> try omega))
    all_goals (repeat (split at egj <;> try omega))
    all_goals (repeat (split at gw <;> try omega))
    all_goals (repeat (split at g0 <;> try omega))
  · rw [ge]
    split <;> rename_i q
    all_goals (repeat (split at le0 <;> try omega))
    all_goals (repeat (split at let_ <;> try omega))
    all_goals (repeat (split at egj <;> try omega))
    all_goals (repeat (split at gw <;> try omega))
    all_goals (repeat (split at g0 <;> try omega))
end
end Eng
set_option Elab.async false
set_option linter.all false
set_option maxRecDepth 100000
set_option maxHeartbeats 4000000
/-! k09: lots -/
namespace Eng
open PySem PySem.Spec L2
/-- the places that win -/
def wonB (bs : Bids) (least : Int) (many : Nat) : List Int := (((rowsOf bs least).mergeSort leP).take many).map (·.2)
def lostB (bs : Bids) (least : Int) (many : Nat) : List Int := ((enumB bs).filter fun e => !decide ((e.1 : Int) ∈ wonB bs least many)).map (·.2.2)
def nameK (bs : Bids) : D → D
  | .int k => (match bs[k.toNat]? with | some p => .str p.1 | none => .int k)
  | d => d
def srtI (ns : List Int) : List D := (ns.map D.int).mergeSort leD
def lotsD (bs : Bids) (least : Int) (many : Nat) : D := .tup [.tup ((srtI (wonB bs least many)).map (nameK bs)), .int (mxI least (lostB bs least many))]
theorem srt_int (ns : List Int) : biD "sorted" [.lst (ns.map .int)] = some (.lst (srtI ns)) := by
  have ok : sortOk (ns.map .int) = true := by
    unfold sortOk
    have h1 : (ns.map D.int).all (dataF 20) = true := List.all_eq_true.mpr fun d hd => by
      obtain ⟨x, _, rfl⟩ := List.mem_map.mp hd
      rfl
    have h2 : ((ns.map D.int).all fun d => (ns.map D.int).all fun e => PySem.W.alike (py d) (py e)) = true := List.all_eq_true.mpr fun d hd => List.all_eq_true.mpr fun e he => by
      obtain ⟨x, _, rfl⟩ := List.mem_map.mp hd
      obtain ⟨y, _, rfl⟩ := List.mem_map.mp he
      rfl
    have h3 : ((ns.map D.int).all fun d => !isTupN d) = true := List.all_eq_true.mpr fun d hd => by
      obtain ⟨x, _, rfl⟩ := List.mem_map.mp hd
      rfl
    rw [h1, h2, h3]
    simp
  show (if sortOk (ns.map .int) = true then some (D.lst ((ns.map .int).mergeSort leD)) else none) = _
  rw [if_pos ok]
  rfl
theorem srt_mem {ns : List Int} {d : D} (h : d ∈ srtI ns) : ∃ k ∈ ns, d = .int k := by
  have := List.mem_mergeSort.mp h
  obtain ⟨k, hk, rfl⟩ := List.mem_map.mp this
  exact ⟨k, hk, rfl⟩
theorem won_at {bs : Bids} {least : Int} {many : Nat} {k : Int} (h : k ∈ wonB bs least many) : ∃ (i : Nat) (p : Str × Int), k = (i : Int) ∧ bs[i]? = some p := by
  obtain ⟨r, hr, rfl⟩ := List.mem_map.mp h
  have := List.mem_mergeSort.mp (List.mem_of_mem_take hr)
  obtain ⟨e, he, rfl⟩ := List.mem_map.mp this
  exact ⟨e.1, e.2, rfl, mem_enumB (List.mem_filter.mp he).1⟩
theorem any_int (y : Int) : ∀ xs : List Int, ((xs.map D.int).any fun z => eqD z (.int y)) = decide (y ∈ xs)
  | [] => rfl
  | x :: xs => by
    rw [List.map_cons, List.any_cons, any_int y xs]
    show (decide (x = y) || decide (y ∈ xs)) = _
    by_cases h : x = y
    · simp [h]
    · have h' : ¬ y = x := fun e => h e.symm
      simp [h, h']
theorem in_ints (y : Int) (xs : List Int) : inD (.int y) (.lst (xs.map .int)) = some (decide (y ∈ xs)) := by
  have f : (xs.map D.int).all flatD = true := by
    rw [List.all_map]
    exact List.all_eq_true.mpr fun _ _ => rfl
  show (if (flatD (.int y) && (xs.map D.int).all flatD) = true then some ((xs.map D.int).any fun z => eqD z (.int y)) else _) = _
  rw [f, any_int]
  rfl
section
variable {st : Store} {n : Nat}
abbrev env14 (hv : D) (many : Nat) (l : Int) (a b c d : Sl) : Env := [.val hv, .val (.int many), .val (.int l), a, b, c, d, .no, .no, .no]
theorem lots_ok {hv : D} {bs : Bids} {l : Int} {many : Nat} (hh : Hand hv bs) (ok : Okb bs) : callN tab (n + 7) 14 [hv, .int many, .int l] st = .ok (lotsD bs l many) st := by
  have hb := big
  have hl := ok.len
  have z2 : (2 : Nat) ≤ sizeLine := by omega
  have z1 : (1 : Nat) ≤ sizeLine := by omega
  rw [call_fn t14 (n + 6) _ _ rfl]
  show endD (evSs (callN tab (n + 6)) ir14 (env14 hv many l .no .no .no .no) st) = _
  have e1 : callN tab (n + 6) 7 [hv, .int l] st = .ok (saleD bs l) st := sale_ok (n := n) hh ok
  have s1 : evS (callN tab (n + 6)) (.asg [] (.v 3) (.call 7 (.cons (.var 0) (.cons (.var 2) .nil)))) (env14 hv many l .no .no .no .no) st = .ok (.nx (env14 hv many l (.val (saleD bs l)) .no .no .no)) st := by
    simp [evEs, evBs, evAnd, evOr, evTAnd, evTOr, evO, evIf, bor, getV, getB, truthD, freeze, freeze1, bind1, binds, endD, evSs, evS, evHs, isPut, setIx, wipeE, fnIx, Out.nox, e1]
  have lc : (evP (callN tab (n + 6)) (env14 hv many l (.val (saleD bs l)) .no .no .no) (.lc (.tup (.cons (.neg (.var 7)) (.cons (.var 8) .nil))) (.t (.cons (.v 8) (.cons (.t (.cons (.v 9) (.cons (.v 7) .nil))) .nil))) (.enum (.attr (.var 3) "Sale" "bids")) (.so (.cmp .GtE (.var 7) (.var 2))) [8,9,7])).1 st = .ok (.lst ((rowsOf bs l).map pD)) st := by
    have z := lc_filter (C := callN tab (n + 6)) (env := env14 hv many l (.val (saleD bs l)) .no .no .no) (elt := .tup (.cons (.neg (.var 7)) (.cons (.var 8) .nil))) (tg := .t (.cons (.v 8) (.cons (.t (.cons (.v 9) (.cons (.v 7) .nil))) .nil))) (it := .enum (.attr (.var 3) "Sale" "bids")) (c := .cmp .GtE (.var 7) (.var 2)) (ws := [8,9,7]) (st := st)
      (ds := (enumB bs).map fun e => enD e.1 (bD e.2)) (fun d => match d with | .tup [_, .tup [_, .int b]] => decide (l ≤ b) | _ => false) (fun d => match d with | .tup [.int k, .tup [_, .int b]] => pD (-b, k) | d => d) (by
        simp [evEs, evBs, evAnd, evOr, evTAnd, evTOr, evO, evIf, bor, getV, getB, truthD, freeze, freeze1, bind1, binds, endD, evSs, evS, evHs, isPut, setIx, wipeE, fnIx, Out.nox, evIt, de_sale, at_bids, enumD_bs]) fun d hd => by
      obtain ⟨e, he, rfl⟩ := List.mem_map.mp hd
      refine ⟨[.val hv, .val (.int many), .val (.int l), .val (saleD bs l), .no, .no, .no, .val (.int e.2.2), .val (.int e.1), .val (.str e.2.1)], rfl, ?_, fun _ => ?_⟩
      · simp [evEs, evBs, evAnd, evOr, evTAnd, evTOr, evO, evIf, bor, getV, getB, truthD, freeze, freeze1, bind1, binds, endD, evSs, evS, evHs, isPut, setIx, wipeE, fnIx, Out.nox, cmpD, bD, enD]
      · simp [evEs, evBs, evAnd, evOr, evTAnd, evTOr, evO, evIf, bor, getV, getB, truthD, freeze, freeze1, bind1, binds, endD, evSs, evS, evHs, isPut, setIx, wipeE, fnIx, Out.nox, z2, bD, enD, pD]
    rw [z, List.filter_map, List.map_map]
    unfold rowsOf
    rw [List.map_map]
    rfl
  have so := sort_pD (rowsOf bs l)
  obtain ⟨S, hS⟩ : ∃ S, S = (rowsOf bs l).mergeSort leP := ⟨_, rfl⟩
  rw [← hS] at so
  have s2 : evS (callN tab (n + 6)) (.asg [] (.v 4) (.bi "sorted" (.cons (.lc (.tup (.cons (.neg (.var 7)) (.cons (.var 8) .nil))) (.t (.cons (.v 8) (.cons (.t (.cons (.v 9) (.cons (.v 7) .nil))) .nil))) (.enum (.attr (.var 3) "Sale" "bids")) (.so (.cmp .GtE (.var 7) (.var 2))) [8,9,7]) .nil))) (env14 hv many l (.val (saleD bs l)) .no .no .no) st = .ok (.nx (env14 hv many l (.val (saleD bs l)) (.val (.lst (S.map pD))) .no .no)) st := by
    generalize (rowsOf bs l).map pD = A at lc so
    generalize S.map pD = B at so ⊢
    have v : (evP (callN tab (n + 6)) (env14 hv many l (.val (saleD bs l)) .no .no .no) (.bi "sorted" (.cons (.lc (.tup (.cons (.neg (.var 7)) (.cons (.var 8) .nil))) (.t (.cons (.v 8) (.cons (.t (.cons (.v 9) (.cons (.v 7) .nil))) .nil))) (.enum (.attr (.var 3) "Sale" "bids")) (.so (.cmp .GtE (.var 7) (.var 2))) [8,9,7]) .nil))).1 st = .ok (.lst B) st := by
      simp only [e_bi, evBs, bor, lc, Out.bnd_ok, so, ofO_some]
    simp only [evS, freeze, v, Out.bnd_ok, bind1, ofO_some]
    rfl
  have wn : wonB bs l many = (S.take many).map (·.2) := by unfold wonB; rw [hS]
  have lc3 : (evP (callN tab (n + 6)) (env14 hv many l (.val (saleD bs l)) (.val (.lst (S.map pD))) .no .no) (.lc (.var 8) (.t (.cons (.v 7) (.cons (.v 8) .nil))) (.seq (.sl (.var 4) .no (.so (.var 1)))) .no [7,8])).1 st = .ok (.lst ((wonB bs l many).map .int)) st := by
    have z := lc_map (C := callN tab (n + 6)) (env := env14 hv many l (.val (saleD bs l)) (.val (.lst (S.map pD))) .no .no) (elt := .var 8) (tg := .t (.cons (.v 7) (.cons (.v 8) .nil))) (it := .seq (.sl (.var 4) .no (.so (.var 1)))) (ws := [7,8]) (st := st) (ds := (S.take many).map pD)
      (fun d => match d with | .tup [_, b] => b | d => d) (by
        have c : slD (.lst (S.map pD)) none (some (many : Int)) = some (.lst ((S.take many).map pD)) := by
          show some (D.lst (cutD (S.map pD) none (some (many : Int)))) = _
          unfold cutD
          rw [HT.sIx_none, HT.sIx_nat, Nat.sub_zero, List.drop_zero, List.map_take]
          congr 2
          by_cases q : many ≤ (S.map pD).length
          · rw [Nat.min_eq_left q]
          · rw [Nat.min_eq_right (by omega), List.take_length, List.take_of_length_le (by omega)]
        have g : getB (env14 hv many l (.val (saleD bs l)) (.val (.lst (S.map pD))) .no .no) 4 = some (.lst (S.map pD)) := rfl
        have i1 : itemsD (.lst ((S.take many).map pD)) = some ((S.take many).map pD) := rfl
        generalize D.lst (S.map pD) = LL at c g ⊢
        simp only [evIt, bor, e_sl, g, ofO_some, Out.bnd_ok, evO, e_var, getV, List.getElem?_cons_zero, List.getElem?_cons_succ, c, i1]) fun d hd => by
      obtain ⟨r, _, rfl⟩ := List.mem_map.mp hd
      exact ⟨_, rfl, rfl⟩
    rw [z, wn, List.map_map, List.map_map]
    rfl
  have s3 : evS (callN tab (n + 6)) (.asg [] (.v 5) (.lc (.var 8) (.t (.cons (.v 7) (.cons (.v 8) .nil))) (.seq (.sl (.var 4) .no (.so (.var 1)))) .no [7,8])) (env14 hv many l (.val (saleD bs l)) (.val (.lst (S.map pD))) .no .no) st = .ok (.nx (env14 hv many l (.val (saleD bs l)) (.val (.lst (S.map pD))) (.val (.lst ((wonB bs l many).map .int))) .no)) st := by
    simp only [evS, freeze, lc3, Out.bnd_ok, bind1, ofO_some]
    rfl
  obtain ⟨R, hR⟩ : ∃ R, R = D.lst (S.map pD) := ⟨_, rfl⟩
  rw [← hR] at s2 s3
  have lc4 : (evP (callN tab (n + 6)) (env14 hv many l (.val (saleD bs l)) (.val R) (.val (.lst ((wonB bs l many).map .int))) .no) (.lc (.var 7) (.t (.cons (.v 8) (.cons (.t (.cons (.v 9) (.cons (.v 7) .nil))) .nil))) (.enum (.attr (.var 3) "Sale" "bids")) (.so (.cmp .NotIn (.var 8) (.var 5))) [8,9,7])).1 st = .ok (.lst ((lostB bs l many).map .int)) st := by
    have z := lc_filter (C := callN tab (n + 6)) (env := env14 hv many l (.val (saleD bs l)) (.val R) (.val (.lst ((wonB bs l many).map .int))) .no) (elt := .var 7) (tg := .t (.cons (.v 8) (.cons (.t (.cons (.v 9) (.cons (.v 7) .nil))) .nil))) (it := .enum (.attr (.var 3) "Sale" "bids")) (c := .cmp .NotIn (.var 8) (.var 5)) (ws := [8,9,7]) (st := st)
      (ds := (enumB bs).map fun e => enD e.1 (bD e.2)) (fun d => match d with | .tup [.int k, _] => !decide (k ∈ wonB bs l many) | _ => false) (fun d => match d with | .tup [_, .tup [_, b]] => b | d => d) (by
        simp [evEs, evBs, evAnd, evOr, evTAnd, evTOr, evO, evIf, bor, getV, getB, truthD, freeze, freeze1, bind1, binds, endD, evSs, evS, evHs, isPut, setIx, wipeE, fnIx, Out.nox, evIt, de_sale, at_bids, enumD_bs]) fun d hd => by
      obtain ⟨e, he, rfl⟩ := List.mem_map.mp hd
      have ii := in_ints (e.1 : Int) (wonB bs l many)
      generalize D.lst ((wonB bs l many).map D.int) = WW at ii ⊢
      refine ⟨[.val hv, .val (.int many), .val (.int l), .val (saleD bs l), .val R, .val WW, .no, .val (.int e.2.2), .val (.int e.1), .val (.str e.2.1)], rfl, ?_, fun _ => rfl⟩
      simp [evEs, evBs, evAnd, evOr, evTAnd, evTOr, evO, evIf, bor, getV, getB, truthD, freeze, freeze1, bind1, binds, endD, evSs, evS, evHs, isPut, setIx, wipeE, fnIx, Out.nox, cmpD, ii]
    rw [z, List.filter_map, List.map_map]
    unfold lostB
    rw [List.map_map]
    rfl
  have s4 : evS (callN tab (n + 6)) (.asg [] (.v 6) (.lc (.var 7) (.t (.cons (.v 8) (.cons (.t (.cons (.v 9) (.cons (.v 7) .nil))) .nil))) (.enum (.attr (.var 3) "Sale" "bids")) (.so (.cmp .NotIn (.var 8) (.var 5))) [8,9,7])) (env14 hv many l (.val (saleD bs l)) (.val R) (.val (.lst ((wonB bs l many).map .int))) .no) st = .ok (.nx (env14 hv many l (.val (saleD bs l)) (.val R) (.val (.lst ((wonB bs l many).map .int))) (.val (.lst ((lostB bs l many).map .int))))) st := by
    simp only [evS, freeze, lc4, Out.bnd_ok, bind1, ofO_some]
    rfl
  have s5 : evSs (callN tab (n + 6)) (.cons (.ret [] (.tup (.cons (.bi "tuple" (.cons (.lc (.ix (.ix (.attr (.var 3) "Sale" "bids") (.var 8)) (.c (.int 0))) (.v 8) (.seq (.bi "sorted" (.cons (.var 5) .nil))) .no [8]) .nil)) (.cons (.bi "max" (.cons (.bin .Add (.lst (.cons (.var 2) .nil)) (.var 6)) .nil)) .nil)))) .nil) (env14 hv many l (.val (saleD bs l)) (.val R) (.val (.lst ((wonB bs l many).map .int))) (.val (.lst ((lostB bs l many).map .int)))) st = .ok (.rt (lotsD bs l many)) st := by
    have si := srt_int (wonB bs l many)
    have ll : (lostB bs l many).length ≤ 20 := by
      unfold lostB
      rw [List.length_map]
      refine Nat.le_trans (List.length_filter_le _ _) ?_
      unfold enumB
      rw [List.length_zip, List.length_range, Nat.min_self]
      exact hl
    have ad : binD .Add (.lst [.int l]) (.lst ((lostB bs l many).map .int)) = some (.lst ((l :: lostB bs l many).map .int)) := by
      show (if [D.int l].length + ((lostB bs l many).map D.int).length ≤ sizeLine then some (D.lst ([D.int l] ++ (lostB bs l many).map .int)) else none) = _
      rw [List.length_map, if_pos (by show 1 + (lostB bs l many).length ≤ sizeLine; omega)]
      rfl
    have mx := max_int l (lostB bs l many)
    have lc5 : (evP (callN tab (n + 6)) (env14 hv many l (.val (saleD bs l)) (.val R) (.val (.lst ((wonB bs l many).map .int))) (.val (.lst ((lostB bs l many).map .int)))) (.lc (.ix (.ix (.attr (.var 3) "Sale" "bids") (.var 8)) (.c (.int 0))) (.v 8) (.seq (.bi "sorted" (.cons (.var 5) .nil))) .no [8])).1 st = .ok (.lst ((srtI (wonB bs l many)).map (nameK bs))) st := by
      obtain ⟨LO, hLO⟩ : ∃ LO, LO = D.lst ((lostB bs l many).map D.int) := ⟨_, rfl⟩
      rw [← hLO]
      refine lc_map (nameK bs) (by
        generalize (wonB bs l many).map D.int = WW at si ⊢
        have i1 : itemsD (.lst (srtI (wonB bs l many))) = some (srtI (wonB bs l many)) := rfl
        simp [evEs, evBs, evAnd, evOr, evTAnd, evTOr, evO, evIf, bor, getV, getB, truthD, freeze, freeze1, bind1, binds, endD, evSs, evS, evHs, isPut, setIx, wipeE, fnIx, Out.nox, evIt, si, i1]) fun d hd => ?_
      obtain ⟨k, hk, rfl⟩ := srt_mem hd
      obtain ⟨i, p, rfl, hp⟩ := won_at hk
      refine ⟨_, rfl, ?_⟩
      have x : ixS (bsD bs) (.int (i : Int)) = some (bD p) := atI_nat (by rw [List.getElem?_map, hp]; rfl)
      have nk : nameK bs (.int (i : Int)) = .str p.1 := by
        show (match bs[((i : Nat) : Int).toNat]? with | some p => D.str p.1 | none => .int i) = _
        rw [Int.toNat_natCast, hp]
      rw [nk]
      simp [evEs, evBs, evAnd, evOr, evTAnd, evTOr, evO, evIf, bor, getV, getB, truthD, freeze, freeze1, bind1, binds, endD, evSs, evS, evHs, isPut, setIx, wipeE, fnIx, Out.nox, de_sale, at_bids, de_bs, x, de_b, b_0]
    have sq : biD "tuple" [.lst ((srtI (wonB bs l many)).map (nameK bs))] = some (.tup ((srtI (wonB bs l many)).map (nameK bs))) := rfl
    unfold lotsD
    generalize (srtI (wonB bs l many)).map (nameK bs) = NN at lc5 sq ⊢
    generalize (l :: lostB bs l many).map D.int = O2 at ad mx
    generalize (lostB bs l many).map D.int = O at ad lc5 ⊢
    generalize (wonB bs l many).map D.int = WW at lc5 ⊢
    simp [evEs, evBs, evAnd, evOr, evTAnd, evTOr, evO, evIf, bor, getV, getB, truthD, freeze, freeze1, bind1, binds, endD, evSs, evS, evHs, isPut, setIx, wipeE, fnIx, Out.nox, lc5, sq, z1, ad, mx, z2]
  have all : evSs (callN tab (n + 6)) ir14 (env14 hv many l .no .no .no .no) st = .ok (.rt (lotsD bs l many)) st :=
    (evSs_next s1).trans ((evSs_next s2).trans ((evSs_next s3).trans ((evSs_next s4).trans s5)))
  rw [all]
  rfl
end
end Eng
set_option Elab.async false
set_option linter.all false
set_option maxRecDepth 100000
set_option maxHeartbeats 4000000
/-! k09: the law's rows, to the end of its first loop -/
namespace Eng
open PySem PySem.Spec L2
theorem lt_ok : ∀ c ∈ Lt, c < 1114112 := by decide +kernel
theorem fg_ok : ∀ c ∈ Fg, c < 1114112 := by decide +kernel
theorem str_ok {x : Str} (h : nameB x = true) : PyData.strOk x = true := by
  unfold nameB at h
  have al : x.cps.toList.all sgn = true := by
    cases q : x.cps.toList with
    | nil => rfl
    | cons c cs =>
      rw [q] at h
      simp only [Bool.and_eq_true] at h
      exact h.2.1
  show x.cps.all (fun c => decide (c < 1114112)) = true
  rw [← Array.all_toList]
  refine List.all_eq_true.mpr fun c hc => decide_eq_true ?_
  have := List.all_eq_true.mp al c hc
  unfold sgn at this
  rcases Bool.or_eq_true_iff.mp this with q | q
  · exact lt_ok c (of_decide_eq_true q)
  · exact fg_ok c (of_decide_eq_true q)
/-- what was drawn -/
structure Drawn (bs : Bids) (least : Int) : Prop where
  nd : (bs.map (·.1)).Nodup
  nm : ∀ p ∈ bs, nameB p.1 = true
  bd : ∀ p ∈ bs, 0 ≤ p.2 ∧ p.2 ≤ 12
  len : bs.length ≤ 6
  l0 : 0 ≤ least
  l1 : least ≤ 12
theorem Drawn.ok {bs : Bids} {least : Int} (d : Drawn bs least) : Okb bs := ⟨d.nd, fun p hp => ⟨d.nm p hp, (d.bd p hp).1, by have := (d.bd p hp).2; omega⟩, by have := d.len; omega⟩
theorem Drawn.str {bs : Bids} {least : Int} (d : Drawn bs least) : ∀ p ∈ bs, PyData.strOk p.1 = true := fun p hp => str_ok (d.nm p hp)
theorem setB_str {bs : Bids} {nm : Str} {b : Int} (h : ∀ p ∈ bs, PyData.strOk p.1 = true) : ∀ p ∈ setB nm b bs, PyData.strOk p.1 = true := fun p hp => by
  obtain ⟨q, hq, rfl⟩ := List.mem_map.mp hp
  exact h q hq
theorem bids_of : ∀ {N : List Str} {ys : List D}, All2 (fun d y => ∃ x b, d = D.str x ∧ y = bD (x, b) ∧ 0 ≤ b ∧ b ≤ 12) (N.map .str) ys → ∃ bs : Bids, ys = bs.map bD ∧ bs.map (·.1) = N ∧ ∀ p ∈ bs, 0 ≤ p.2 ∧ p.2 ≤ 12
  | [], _, h => by
    cases h
    exact ⟨[], rfl, rfl, fun _ h => by cases h⟩
  | x :: N, _, h => by
    cases h with
    | cons r t =>
      obtain ⟨x', b, e1, e2, b0, b1⟩ := r
      cases e1
      obtain ⟨bs, h1, h2, h3⟩ := bids_of t
      refine ⟨(x, b) :: bs, by rw [e2, h1]; rfl, by rw [List.map_cons, h2], fun p hp => ?_⟩
      rcases List.mem_cons.mp hp with rfl | hp
      · exact ⟨b0, b1⟩
      · exact h3 p hp
theorem hand_items : ∀ {bs : Bids} {ys : List D}, All2 (fun d y => seqD y = seqD d) (bs.map bD) ys → All2 (fun it (p : Str × Int) => seqD it = some [.str p.1, .int p.2]) ys bs
  | [], _, h => by cases h; exact .nil
  | p :: bs, _, h => by
    cases h with
    | cons r t => exact .cons r (hand_items t)
section
variable {ns : List Int} {st : Store}
abbrev C8 : Calls := callN tab 8
abbrev env0 (ns : List Int) (a b c d : Sl) : Env := [.val (.scr ns), .val (.obj 0), a, b, c, d, .no, .no, .no, .no, .no, .no, .no, .no, .no, .no, .no, .no, .no, .no, .no, .no]
theorem draw {ns : List Int} {st : Store} (h : Dr ns st) (m : Int) (m0 : 0 < m) (m1 : m < 1073741824) : ∃ v st', C8 15 [.obj 0, .int m] st = .ok (.int v) st' ∧ Dr ns st' ∧ 0 ≤ v ∧ v < m := taken t15 h 7 m m0 m1
/-- the drawn bids -/
theorem head_ok (ns : List Int) : ∃ (bs : Bids) (least : Int) (st' : Store), Drawn bs least ∧ Dr ns st' ∧ ∀ rest : Ss,
    evSs C8 (.cons (.obj 1 (.lst (.cons (.var 0) (.cons (.c (.int 0)) (.cons (.c (.int 53)) (.cons (.c (.int 0)) .nil)))))) (.cons (.asg [] (.v 2) (.call 20 (.cons (.var 1) (.cons (.call 15 (.cons (.var 1) (.cons (.c (.int 6)) .nil))) .nil)))) (.cons (.asg [] (.t (.cons (.v 3) (.cons (.v 4) .nil))) (.tup (.cons (.lc (.tup (.cons (.var 7) (.cons (.call 15 (.cons (.var 1) (.cons (.c (.int 13)) .nil))) .nil))) (.v 7) (.seq (.var 2)) .no [7]) (.cons (.call 15 (.cons (.var 1) (.cons (.c (.int 13)) .nil))) .nil)))) (.cons (.asg [] (.v 5) (.call 7 (.cons (.call 18 (.cons (.var 1) (.cons (.lc (.call 18 (.cons (.var 1) (.cons (.var 20) .nil))) (.v 20) (.seq (.var 3)) .no [20]) .nil))) (.cons (.var 4) .nil)))) rest)))) (.val (.scr ns) :: List.replicate 21 .no) []
      = evSs C8 rest (env0 ns (.val (.lst ((bs.map (·.1)).map .str))) (.val (.lst (bs.map bD))) (.val (.int least)) (.val (saleD bs least))) st' := by
  have hb := big
  have z4 : (4 : Nat) ≤ sizeLine := by omega
  have z2 : (2 : Nat) ≤ sizeLine := by omega
  have h0 : Dr ns [.lst [.scr ns, .int 0, .int 53, .int 0]] := ⟨0, 53, 0, Int.le_refl _, rfl⟩
  have s0 : evS C8 (.obj 1 (.lst (.cons (.var 0) (.cons (.c (.int 0)) (.cons (.c (.int 53)) (.cons (.c (.int 0)) .nil)))))) (.val (.scr ns) :: List.replicate 21 .no) [] = .ok (.nx (env0 ns .no .no .no .no)) [.lst [.scr ns, .int 0, .int 53, .int 0]] := by
    simp [evEs, evBs, evAnd, evOr, evTAnd, evTOr, evO, evIf, bor, getV, getB, truthD, freeze, freeze1, bind1, binds, endD, evSs, evS, evHs, isPut, setIx, wipeE, fnIx, Out.nox, z4, isCont]
  obtain ⟨v, st1, e1, h1, v0, v1⟩ := draw h0 6 (by decide) (by decide)
  obtain ⟨N, st2, e2, h2, ln, nd, nms⟩ := names_ok t15 t16 t19 t20 h1 4 v.toNat (by omega)
  have vn : ((v.toNat : Nat) : Int) = v := by omega
  rw [vn] at e2
  have e2 : C8 20 [.obj 0, .int v] st1 = .ok (.lst (N.map .str)) st2 := e2
  have s1 : evS C8 (.asg [] (.v 2) (.call 20 (.cons (.var 1) (.cons (.call 15 (.cons (.var 1) (.cons (.c (.int 6)) .nil))) .nil)))) (env0 ns .no .no .no .no) [.lst [.scr ns, .int 0, .int 53, .int 0]] = .ok (.nx (env0 ns (.val (.lst (N.map .str))) .no .no .no)) st2 := by
    generalize D.lst (N.map D.str) = NL at e2 ⊢
    simp [evEs, evBs, evAnd, evOr, evTAnd, evTOr, evO, evIf, bor, getV, getB, truthD, freeze, freeze1, bind1, binds, endD, evSs, evS, evHs, isPut, setIx, wipeE, fnIx, Out.nox, e1, e2]
  obtain ⟨ys, st3, e3, h3, al⟩ := lc_inv (C := C8) (env := env0 ns (.val (.lst (N.map .str))) .no .no .no) (elt := .tup (.cons (.var 7) (.cons (.call 15 (.cons (.var 1) (.cons (.c (.int 13)) .nil))) .nil))) (tg := .v 7) (it := .seq (.var 2)) (ws := [7]) (st := st2) (ds := N.map .str) (Dr ns) (fun d y => ∃ x b, d = D.str x ∧ y = bD (x, b) ∧ 0 ≤ b ∧ b ≤ 12) rfl (fun d hd st hst => by
    obtain ⟨x, _, rfl⟩ := List.mem_map.mp hd
    obtain ⟨u, st', eu, h', u0, u1⟩ := draw hst 13 (by decide) (by decide)
    refine ⟨_, bD (x, u), st', rfl, ?_, h', x, u, rfl, rfl, u0, by omega⟩
    simp [evEs, evBs, evAnd, evOr, evTAnd, evTOr, evO, evIf, bor, getV, getB, truthD, freeze, freeze1, bind1, binds, endD, evSs, evS, evHs, isPut, setIx, wipeE, fnIx, Out.nox, eu, z2, bD]) h2
  obtain ⟨bs, rfl, eN, hbd⟩ := bids_of al
  obtain ⟨least, st4, e4, h4, l0, l1⟩ := draw h3 13 (by decide) (by decide)
  have len : bs.length = N.length := by rw [← eN, List.length_map]
  have dr : Drawn bs least := ⟨by rw [eN]; exact nd, fun p hp => nms p.1 (by rw [← eN]; exact List.mem_map.mpr ⟨p, hp, rfl⟩), hbd, by omega, l0, by omega⟩
  subst eN
  obtain ⟨NL, hNL⟩ : ∃ NL, NL = D.lst ((bs.map (·.1)).map D.str) := ⟨_, rfl⟩
  rw [← hNL] at s1 e3
  have s2 : evS C8 (.asg [] (.t (.cons (.v 3) (.cons (.v 4) .nil))) (.tup (.cons (.lc (.tup (.cons (.var 7) (.cons (.call 15 (.cons (.var 1) (.cons (.c (.int 13)) .nil))) .nil))) (.v 7) (.seq (.var 2)) .no [7]) (.cons (.call 15 (.cons (.var 1) (.cons (.c (.int 13)) .nil))) .nil)))) (env0 ns (.val NL) .no .no .no) st2 = .ok (.nx (env0 ns (.val NL) (.val (.lst (bs.map bD))) (.val (.int least)) .no)) st4 := by
    generalize D.lst (bs.map bD) = BL at e3 ⊢
    have v : (evP C8 (env0 ns (.val NL) .no .no .no) (.tup (.cons (.lc (.tup (.cons (.var 7) (.cons (.call 15 (.cons (.var 1) (.cons (.c (.int 13)) .nil))) .nil))) (.v 7) (.seq (.var 2)) .no [7]) (.cons (.call 15 (.cons (.var 1) (.cons (.c (.int 13)) .nil))) .nil)))).1 st2 = .ok (.tup [BL, .int least]) st4 := by
      simp [evEs, evBs, evAnd, evOr, evTAnd, evTOr, evO, evIf, bor, getV, getB, truthD, freeze, freeze1, bind1, binds, endD, evSs, evS, evHs, isPut, setIx, wipeE, fnIx, Out.nox, e3, e4, z2]
    have hb : bind1 (.t (.cons (.v 3) (.cons (.v 4) .nil))) (.tup [BL, .int least]) (env0 ns (.val NL) .no .no .no) = some (env0 ns (.val NL) (.val BL) (.val (.int least)) .no) := rfl
    simp only [evS, freeze, v, Out.bnd_ok, hb, ofO_some]
  obtain ⟨hs, st5, e5, h5, al5⟩ := lc_inv (C := C8) (env := env0 ns (.val NL) (.val (.lst (bs.map bD))) (.val (.int least)) .no) (elt := .call 18 (.cons (.var 1) (.cons (.var 20) .nil))) (tg := .v 20) (it := .seq (.var 3)) (ws := [20]) (st := st4) (ds := bs.map bD) (Dr ns) (fun d y => seqD y = seqD d) rfl (fun d hd st hst => by
    obtain ⟨p, _, rfl⟩ := List.mem_map.mp hd
    obtain ⟨y, st', ey, h', hy⟩ := mixed t15 t18 hst 6 (bD p) [.str p.1, .int p.2] rfl
    refine ⟨_, y, st', rfl, ?_, h', ?_⟩
    · have ey : C8 18 [.obj 0, bD p] st = .ok y st' := ey
      simp [evEs, evBs, evAnd, evOr, evTAnd, evTOr, evO, evIf, bor, getV, getB, truthD, freeze, freeze1, bind1, binds, endD, evSs, evS, evHs, isPut, setIx, wipeE, fnIx, Out.nox, ey]
    · rcases hy with rfl | rfl <;> rfl) h4
  obtain ⟨hv, st6, e6, h6, hhv⟩ := mixed t15 t18 h5 6 (.lst hs) hs rfl
  have e6 : C8 18 [.obj 0, .lst hs] st5 = .ok hv st6 := e6
  have hh : Hand hv bs := ⟨hs, by rcases hhv with rfl | rfl <;> rfl, hand_items al5⟩
  have e7 : C8 7 [hv, .int least] st6 = .ok (saleD bs least) st6 := sale_ok (n := 2) hh dr.ok
  have s3 : evS C8 (.asg [] (.v 5) (.call 7 (.cons (.call 18 (.cons (.var 1) (.cons (.lc (.call 18 (.cons (.var 1) (.cons (.var 20) .nil))) (.v 20) (.seq (.var 3)) .no [20]) .nil))) (.cons (.var 4) .nil)))) (env0 ns (.val NL) (.val (.lst (bs.map bD))) (.val (.int least)) .no) st4 = .ok (.nx (env0 ns (.val NL) (.val (.lst (bs.map bD))) (.val (.int least)) (.val (saleD bs least)))) st6 := by
    generalize D.lst (bs.map bD) = BL at e5 ⊢
    simp [evEs, evBs, evAnd, evOr, evTAnd, evTOr, evO, evIf, bor, getV, getB, truthD, freeze, freeze1, bind1, binds, endD, evSs, evS, evHs, isPut, setIx, wipeE, fnIx, Out.nox, e5, e6, e7]
  rw [hNL] at s1 s2 s3
  exact ⟨bs, least, st6, dr, h6, fun rest => (evSs_next s0).trans ((evSs_next s1).trans ((evSs_next s2).trans (evSs_next s3)))⟩
end
end Eng
set_option Elab.async false
set_option linter.all false
set_option maxRecDepth 100000
set_option maxHeartbeats 4000000
/-! k09: the law's first tests and its loop -/
namespace Eng
open PySem PySem.Spec L2
theorem alike8 {st : Store} {d : D} (h : alk 3 d = true) : C8 17 [d, d] st = .ok (.bl true) st := alike t17 4 3 d h
theorem alk_bs {bs : Bids} (h : bs.length ≤ 1000) : alk 2 (bsD bs) = true := by
  show ((bs.map bD).all (alk 1) && decide ((bs.map bD).length ≤ 1000)) = true
  have a : (bs.map bD).all (alk 1) = true := List.all_eq_true.mpr fun d hd => by
    obtain ⟨p, _, rfl⟩ := List.mem_map.mp hd
    rfl
  rw [a, List.length_map, decide_eq_true h]
  rfl
section
variable {ns : List Int} {st : Store}
/-- a turn's names: k, name, worth, changed, gains -/
abbrev envL (ns : List Int) (bs : Bids) (least : Int) (a b c d e : Sl) : Env := [.val (.scr ns), .val (.obj 0), .val (.lst ((bs.map (·.1)).map .str)), .val (.lst (bs.map bD)), .val (.int least), .val (saleD bs least), a, b, c, d, e, .no, .no, .no, .no, .no, .no, .no, .no, .no, .no, .no]
theorem test1 {bs : Bids} {least : Int} (dr : Drawn bs least) : evS C8 (.ifs (.or (.cons (.not (.call 17 (.cons (.tup (.cons (.attr (.var 5) "Sale" "bids") (.cons (.attr (.var 5) "Sale" "least") .nil))) (.cons (.tup (.cons (.bi "tuple" (.cons (.var 3) .nil)) (.cons (.var 4) .nil))) .nil)))) (.cons (.eqo true (.var 5) "Sale" 8 (.call 7 (.cons (.var 3) (.cons (.var 4) .nil)))) (.cons (.eqo false (.var 5) "Sale" 8 (.call 7 (.cons (.var 3) (.cons (.bin .Add (.var 4) (.c (.int 1))) .nil)))) (.cons (.eqo false (.var 5) "Sale" 8 (.tup (.cons (.bi "tuple" (.cons (.var 3) .nil)) (.cons (.var 4) .nil)))) .nil))))) (.cons (.ret [] (.c (.bl false))) .nil) .nil) (envL ns bs least .no .no .no .no .no) st = .ok (.nx (envL ns bs least .no .no .no .no .no)) st := by
  have z2 : (2 : Nat) ≤ sizeLine := by have := big; omega
  have e1 : C8 7 [.lst (bs.map bD), .int least] st = .ok (saleD bs least) st := sale_ok (n := 2) (hand_of _) dr.ok
  have e2 : C8 7 [.lst (bs.map bD), .int (least + 1)] st = .ok (saleD bs (least + 1)) st := sale_ok (n := 2) (hand_of _) dr.ok
  have a1 : C8 17 [.tup [bsD bs, .int least], .tup [bsD bs, .int least]] st = .ok (.bl true) st := alike8 (by
    show ((alk 2 (bsD bs) && (true && true)) && decide (2 ≤ 1000)) = true
    rw [alk_bs (by have := dr.len; omega)]
    rfl)
  have q1 : C8 8 [saleD bs least, saleD bs least] st = .ok (.bl true) st := by
    have z : C8 8 [saleD bs least, saleD bs least] st = _ := eq_ok (n := 7) (l := least) (m := least) dr.str
    rw [z, decide_eq_true rfl]
  have q2 : C8 8 [saleD bs least, saleD bs (least + 1)] st = .ok (.bl false) st := by
    have z : C8 8 [saleD bs least, saleD bs (least + 1)] st = _ := eq_ok (n := 7) (l := least) (m := least + 1) dr.str
    rw [z, decide_eq_false (by omega)]
  have q3 : C8 8 [saleD bs least, .tup [bsD bs, .int least]] st = .ok (.bl false) st := eq_no (n := 7)
  have r1 : eqR "Sale" (saleD bs least) = true := (decide_eq_true rfl : decide (("Sale" : Str) = "Sale") = true)
  have r2 : eqR "Sale" (saleD bs (least + 1)) = true := (decide_eq_true rfl : decide (("Sale" : Str) = "Sale") = true)
  have r3 : eqR "Sale" (.tup [bsD bs, .int least]) = true := rfl
  have tp : biD "tuple" [.lst (bs.map bD)] = some (bsD bs) := rfl
  simp [evEs, evBs, evAnd, evOr, evTAnd, evTOr, evO, evIf, bor, getV, getB, truthD, freeze, freeze1, bind1, binds, endD, evSs, evS, evHs, isPut, setIx, wipeE, fnIx, Out.nox, de_sale, at_bids, at_least, z2, tp, a1, e1, i_eq, r1, q1, binD, e2, r2, q2, r3, q3]
theorem test2 {bs : Bids} {least : Int} (dr : Drawn bs least) : evS C8 (.ifs (.not (.call 17 (.cons (.tup (.cons (.meth (.var 5) "Sale" "winner" 9 .nil) (.cons (.meth (.var 5) "Sale" "price" 10 .nil) .nil))) (.cons (.call 24 (.cons (.var 3) (.cons (.var 4) .nil))) .nil)))) (.cons (.ret [] (.c (.bl false))) .nil) .nil) (envL ns bs least .no .no .no .no .no) st = .ok (.nx (envL ns bs least .no .no .no .no .no)) st := by
  have z2 : (2 : Nat) ≤ sizeLine := by have := big; omega
  have l6 := dr.len
  have e1 : C8 9 [saleD bs least] st = _ := winner_ok (n := 7) (st := st) (least := least) (by omega : bs.length ≤ 100)
  have e2 : C8 10 [saleD bs least] st = _ := price_ok (n := 6) (st := st) (least := least) (by omega : bs.length ≤ 100)
  have e3 : C8 24 [.lst (bs.map bD), .int least] st = _ := sold_ok (n := 7) (st := st) (least := least) (by omega : bs.length ≤ 100)
  cases q : winN bs least with
  | none =>
    rw [q] at e1 e2 e3
    have a1 : C8 17 [.tup [dN none, .non], .tup [dN none, .non]] st = .ok (.bl true) st := alike8 rfl
    have e2 : C8 10 [saleD bs least] st = .ok .non st := e2
    have e3 : C8 24 [.lst (bs.map bD), .int least] st = .ok (.tup [dN none, .non]) st := e3
    simp [evEs, evBs, evAnd, evOr, evTAnd, evTOr, evO, evIf, bor, getV, getB, truthD, freeze, freeze1, bind1, binds, endD, evSs, evS, evHs, isPut, setIx, wipeE, fnIx, Out.nox, de_sale, i_win, i_pri, e1, e2, z2, e3, a1]
  | some nm =>
    rw [q] at e1 e2 e3
    have a1 : C8 17 [.tup [dN (some nm), .int (priceB nm bs least)], .tup [dN (some nm), .int (priceB nm bs least)]] st = .ok (.bl true) st := alike8 rfl
    have e2 : C8 10 [saleD bs least] st = .ok (.int (priceB nm bs least)) st := e2
    have e3 : C8 24 [.lst (bs.map bD), .int least] st = .ok (.tup [dN (some nm), .int (priceB nm bs least)]) st := e3
    simp [evEs, evBs, evAnd, evOr, evTAnd, evTOr, evO, evIf, bor, getV, getB, truthD, freeze, freeze1, bind1, binds, endD, evSs, evS, evHs, isPut, setIx, wipeE, fnIx, Out.nox, de_sale, i_win, i_pri, e1, e2, z2, e3, a1]
abbrev lBody : Ss := (.cons (.asg [] (.t (.cons (.v 7) (.cons (.v 8) .nil))) (.tup (.cons (.ix (.var 2) (.var 6)) (.cons (.call 15 (.cons (.var 1) (.cons (.c (.int 14)) .nil))) .nil)))) (.cons (.asg [] (.v 9) (.lc (.bin .Add (.bin .Add (.sl (.var 3) .no (.so (.var 6))) (.lst (.cons (.tup (.cons (.var 7) (.cons (.var 20) .nil))) .nil))) (.sl (.var 3) (.so (.bin .Add (.var 6) (.c (.int 1)))) .no)) (.v 20) (.rng (.cons (.c (.int 16)) .nil)) .no [20])) (.cons (.asg [] (.v 10) (.lc (.call 25 (.cons (.var 21) (.cons (.var 4) (.cons (.var 7) (.cons (.var 8) .nil))))) (.v 21) (.seq (.var 9)) .no [21])) (.cons (.ifs (.or (.cons (.not (.call 17 (.cons (.meth (.var 5) "Sale" "gain" 11 (.cons (.var 7) (.cons (.var 8) .nil))) (.cons (.call 25 (.cons (.var 3) (.cons (.var 4) (.cons (.var 7) (.cons (.var 8) .nil))))) .nil)))) (.cons (.cmp .NotEq (.bi "max" (.cons (.var 10) .nil)) (.ix (.var 10) (.var 8))) .nil))) (.cons (.ret [] (.c (.bl false))) .nil) .nil) (.cons (.ifs (.not (.call 17 (.cons (.meth (.var 5) "Sale" "best_bid" 13 (.cons (.var 7) (.cons (.var 8) .nil))) (.cons (.me "index" (.var 10) (.cons (.bi "max" (.cons (.var 10) .nil)) .nil)) .nil)))) (.cons (.ret [] (.c (.bl false))) .nil) .nil) (.cons (.ifs (.eqo true (.meth (.var 5) "Sale" "with_bid" 12 (.cons (.var 7) (.cons (.c (.int 5)) .nil))) "Sale" 8 (.call 7 (.cons (.ix (.var 9) (.c (.int 5))) (.cons (.var 4) .nil)))) (.cons (.ret [] (.c (.bl false))) .nil) .nil) .nil))))))
theorem chg_lc {bs : Bids} {least w b0 : Int} {nm : Str} {k : Nat} {s9 s10 : Sl} (dr : Drawn bs least) (h : bs[k]? = some (nm, b0)) : (evP C8 (envL ns bs least (.val (.int k)) (.val (.str nm)) (.val (.int w)) s9 s10) (.lc (.bin .Add (.bin .Add (.sl (.var 3) .no (.so (.var 6))) (.lst (.cons (.tup (.cons (.var 7) (.cons (.var 20) .nil))) .nil))) (.sl (.var 3) (.so (.bin .Add (.var 6) (.c (.int 1)))) .no)) (.v 20) (.rng (.cons (.c (.int 16)) .nil)) .no [20])).1 st = .ok (.lst ((List.range 16).map fun (b : Nat) => D.lst ((setB nm (b : Int) bs).map bD))) st := by
  have hb := big
  have l6 := dr.len
  have lt := (List.getElem?_eq_some_iff.mp h).1
  have z2 : (2 : Nat) ≤ sizeLine := by omega
  have z1 : (1 : Nat) ≤ sizeLine := by omega
  have z := lc_map (C := C8) (env := envL ns bs least (.val (.int k)) (.val (.str nm)) (.val (.int w)) s9 s10) (elt := .bin .Add (.bin .Add (.sl (.var 3) .no (.so (.var 6))) (.lst (.cons (.tup (.cons (.var 7) (.cons (.var 20) .nil))) .nil))) (.sl (.var 3) (.so (.bin .Add (.var 6) (.c (.int 1)))) .no)) (tg := .v 20) (it := .rng (.cons (.c (.int 16)) .nil)) (ws := [20]) (st := st)
    (ds := (List.range 16).map fun (b : Nat) => D.int (b : Int)) (fun d => match d with | .int b => .lst ((setB nm b bs).map bD) | d => d) (by
      have e : rngD [.int 16] = some ((List.range 16).map fun (k : Nat) => D.int (k : Int)) := rng_nat (n := 16) (by omega)
      show (ofO (rngD [.int 16]) st) = _
      rw [e]
      rfl) fun d hd => by
    obtain ⟨b, hb', rfl⟩ := List.mem_map.mp hd
    have c1 : slD (.lst (bs.map bD)) none (some (k : Int)) = some (.lst ((bs.take k).map bD)) := by
      show some (D.lst (cutD (bs.map bD) none (some (k : Int)))) = _
      rw [cut_take _ _ (by rw [List.length_map]; omega), List.map_take]
    have c2 : slD (.lst (bs.map bD)) (some ((k : Int) + 1)) none = some (.lst ((bs.drop (k + 1)).map bD)) := by
      show some (D.lst (cutD (bs.map bD) (some ((k : Int) + 1)) none)) = _
      unfold cutD
      have : ((k : Int) + 1) = ((k + 1 : Nat) : Int) := by omega
      rw [this, HT.sIx_none, HT.sIx_nat, List.length_map, Nat.min_eq_left (by omega), List.take_of_length_le (by rw [List.length_drop, List.length_map]; exact Nat.le_refl _), List.map_drop]
    have a1 : binD .Add (.lst ((bs.take k).map bD)) (.lst [.tup [.str nm, .int (b : Int)]]) = some (.lst ((bs.take k ++ [(nm, (b : Int))]).map bD)) := by
      show (if ((bs.take k).map bD).length + 1 ≤ sizeLine then some (D.lst ((bs.take k).map bD ++ [.tup [.str nm, .int (b : Int)]])) else none) = _
      rw [List.length_map, List.length_take, if_pos (by omega), List.map_append]
      rfl
    have a2 : binD .Add (.lst ((bs.take k ++ [(nm, (b : Int))]).map bD)) (.lst ((bs.drop (k + 1)).map bD)) = some (.lst ((setB nm (b : Int) bs).map bD)) := by
      show (if ((bs.take k ++ [(nm, (b : Int))]).map bD).length + ((bs.drop (k + 1)).map bD).length ≤ sizeLine then some (D.lst ((bs.take k ++ [(nm, (b : Int))]).map bD ++ (bs.drop (k + 1)).map bD)) else none) = _
      rw [List.length_map, List.length_map, List.length_append, List.length_take, List.length_drop, if_pos (by simp; omega), ← List.map_append, take_set (b : Int) dr.nd h]
    refine ⟨_, rfl, ?_⟩
    show _ = Out.ok (D.lst ((setB nm (b : Int) bs).map bD)) st
    generalize D.lst ((setB nm (b : Int) bs).map bD) = R at a2 ⊢
    generalize D.lst ((bs.take k ++ [(nm, (b : Int))]).map bD) = A at a1 a2
    generalize D.lst ((bs.drop (k + 1)).map bD) = B at c2 a2
    generalize D.lst ((bs.take k).map bD) = T at c1 a1
    have ad : binD .Add (.int (k : Int)) (.int 1) = some (.int ((k : Int) + 1)) := rfl
    simp [evEs, evBs, evAnd, evOr, evTAnd, evTOr, evO, evIf, bor, getV, getB, truthD, freeze, freeze1, bind1, binds, endD, evSs, evS, evHs, isPut, setIx, wipeE, fnIx, Out.nox, c1, z2, z1, a1, ad, c2, a2]
  rw [z, List.map_map]
  rfl
theorem gains_lc {bs : Bids} {least w b0 : Int} {nm : Str} {k : Nat} {s10 : Sl} (dr : Drawn bs least) : (evP C8 (envL ns bs least (.val (.int k)) (.val (.str nm)) (.val (.int w)) (.val (.lst ((List.range 16).map fun (b : Nat) => D.lst ((setB nm (b : Int) bs).map bD)))) s10) (.lc (.call 25 (.cons (.var 21) (.cons (.var 4) (.cons (.var 7) (.cons (.var 8) .nil))))) (.v 21) (.seq (.var 9)) .no [21])).1 st = .ok (.lst ((gains nm w bs least).map .int)) st := by
  have l6 := dr.len
  have z := lc_inv (C := C8) (env := envL ns bs least (.val (.int k)) (.val (.str nm)) (.val (.int w)) (.val (.lst ((List.range 16).map fun (b : Nat) => D.lst ((setB nm (b : Int) bs).map bD)))) s10) (elt := .call 25 (.cons (.var 21) (.cons (.var 4) (.cons (.var 7) (.cons (.var 8) .nil))))) (tg := .v 21) (it := .seq (.var 9)) (ws := [21]) (st := st)
    (ds := (List.range 16).map fun (b : Nat) => D.lst ((setB nm (b : Int) bs).map bD)) (fun st' => st' = st) (fun d y => ∃ b : Nat, d = D.lst ((setB nm (b : Int) bs).map bD) ∧ y = .int (gainB nm w (setB nm (b : Int) bs) least)) rfl (fun d hd st' es => by
    subst es
    obtain ⟨b, _, rfl⟩ := List.mem_map.mp hd
    have ls : (setB nm (b : Int) bs).length ≤ 100 := by unfold setB; rw [List.length_map]; omega
    have e : C8 25 [.lst ((setB nm (b : Int) bs).map bD), .int least, .str nm, .int w] st' = .ok (.int (gainB nm w (setB nm (b : Int) bs) least)) st' := lgain_ok (n := 6) ls
    refine ⟨_, _, st', rfl, ?_, rfl, b, rfl, rfl⟩
    generalize D.lst ((setB nm (b : Int) bs).map bD) = SB at e ⊢
    simp [evEs, evBs, evAnd, evOr, evTAnd, evTOr, evO, evIf, bor, getV, getB, truthD, freeze, freeze1, bind1, binds, endD, evSs, evS, evHs, isPut, setIx, wipeE, fnIx, Out.nox, e]) rfl
  obtain ⟨ys, st', e, es, al⟩ := z
  subst es
  rw [e]
  congr 2
  unfold gains
  rw [List.map_map]
  generalize List.range 16 = L at al
  clear e
  induction L generalizing ys with
  | nil => cases al; rfl
  | cons b L ih =>
    cases al with
    | cons r t =>
      obtain ⟨b', e1, e2⟩ := r
      rw [List.map_cons, ih _ t, e2]
      congr 1
      show D.int _ = D.int _
      congr 1
      have inj : (setB nm (b : Int) bs).map bD = (setB nm (b' : Int) bs).map bD := by injection e1
      have : setB nm (b : Int) bs = setB nm (b' : Int) bs := by
        refine List.map_inj_right (f := bD) (fun p q h => ?_) |>.mp inj
        obtain ⟨p1, p2⟩ := p
        obtain ⟨q1, q2⟩ := q
        unfold bD at h
        injection h with h
        injection h with h1 h
        injection h with h2 _
        injection h1 with h1
        injection h2 with h2
        exact Prod.ext h1 h2
      show gainB nm w (setB nm (b' : Int) bs) least = gainB nm w (setB nm (b : Int) bs) least
      rw [this]
end
end Eng
set_option Elab.async false
set_option linter.all false
set_option maxRecDepth 100000
set_option maxHeartbeats 4000000
/-! k09: the turns of the law's first loop -/
namespace Eng
open PySem PySem.Spec L2
theorem find_at {p : Int → Bool} : ∀ (xs : List Int) (m : Nat) (x : Int), xs[m]? = some x → p x = true → (∀ j y, j < m → xs[j]? = some y → p y = false) → xs.findIdx? p = some m := by
  intro xs m x h hp ho
  obtain ⟨lt, e⟩ := List.getElem?_eq_some_iff.mp h
  refine List.findIdx?_eq_some_iff_getElem.mpr ⟨lt, by rw [e]; exact hp, fun j hj => ?_⟩
  have lj : j < xs.length := Nat.lt_trans hj lt
  rw [ho j _ hj (List.getElem?_eq_getElem lj)]
  exact Bool.false_ne_true
section
variable {ns : List Int} {st : Store}
theorem gain_at {bs : Bids} {least w : Int} {nm : Str} {j : Nat} (hj : j < 16) : (gains nm w bs least)[j]? = some (gainB nm w (setB nm (j : Int) bs) least) := by
  unfold gains
  rw [List.getElem?_map, List.getElem?_range hj]
  rfl
theorem marks_ok {bs : Bids} {least : Int} {nm : Str} (dr : Drawn bs least) : ∀ b ∈ marksB nm bs least, 0 ≤ b ∧ b ≤ 9999 := fun b hb => by
  have l0 := dr.l0
  have l1 := dr.l1
  have oth : ∀ x ∈ others nm bs, 0 ≤ x ∧ x ≤ 12 := fun x hx => by
    obtain ⟨p, hp, rfl⟩ := List.mem_map.mp hx
    exact dr.bd p (List.mem_filter.mp hp).1
  rcases List.mem_append.mp hb with e | e
  · rcases List.mem_append.mp e with e | e
    · rcases List.mem_cons.mp e with rfl | e
      · omega
      · rw [List.mem_singleton.mp e]
        omega
    · have := oth b e
      omega
  · obtain ⟨q, hq, rfl⟩ := List.mem_map.mp e
    have := oth q hq
    show 0 ≤ q + 1 ∧ q + 1 ≤ 9999
    omega
theorem turn_ok {bs : Bids} {least b0 : Int} {nm : Str} {k : Nat} (dr : Drawn bs least) (h : bs[k]? = some (nm, b0)) (hs : Dr ns st) (a b c d e : Sl) : ∃ a' b' c' d' e' st', ((ofO (bind1 (.v 6) (.int (k : Int)) (envL ns bs least a b c d e)) st).bnd fun env' st => evSs C8 lBody env' st) = .ok (.nx (envL ns bs least a' b' c' d' e')) st' ∧ Dr ns st' := by
  have hb := big
  have l6 := dr.len
  have z2 : (2 : Nat) ≤ sizeLine := by omega
  obtain ⟨w, st1, e1, h1, w0, w1⟩ := draw hs 14 (by decide) (by decide)
  have hm : nm ∈ bs.map (·.1) := List.mem_map.mpr ⟨(nm, b0), List.mem_of_getElem? h, rfl⟩
  have nx : ixS (.lst ((bs.map (·.1)).map .str)) (.int (k : Int)) = some (.str nm) := atI_nat (by rw [List.getElem?_map, List.getElem?_map, h]; rfl)
  have s1 : evS C8 (.asg [] (.t (.cons (.v 7) (.cons (.v 8) .nil))) (.tup (.cons (.ix (.var 2) (.var 6)) (.cons (.call 15 (.cons (.var 1) (.cons (.c (.int 14)) .nil))) .nil)))) (envL ns bs least (.val (.int (k : Int))) b c d e) st = .ok (.nx (envL ns bs least (.val (.int (k : Int))) (.val (.str nm)) (.val (.int w)) d e)) st1 := by
    have dl : deref st (.lst ((bs.map (·.1)).map .str)) = some (.lst ((bs.map (·.1)).map .str)) := rfl
    have g : getB (envL ns bs least (.val (.int (k : Int))) b c d e) 2 = some (.lst ((bs.map (·.1)).map .str)) := rfl
    have g6 : getV (envL ns bs least (.val (.int (k : Int))) b c d e) 6 = some (.int (k : Int)) := rfl
    have g1 : getV (envL ns bs least (.val (.int (k : Int))) b c d e) 1 = some (.obj 0) := rfl
    have v : (evP C8 (envL ns bs least (.val (.int (k : Int))) b c d e) (.tup (.cons (.ix (.var 2) (.var 6)) (.cons (.call 15 (.cons (.var 1) (.cons (.c (.int 14)) .nil))) .nil)))).1 st = .ok (.tup [.str nm, .int w]) st1 := by
      have z2' : decide ([D.str nm, D.int w].length ≤ sizeLine) = true := decide_eq_true z2
      simp only [e_tup, evEs, e_ix, bor, g, ofO_some, Out.bnd_ok, e_var, g6, dl, Option.bind_some, nx, e_call, g1, e_c, e1, z2', chkO_true]
    have hb : bind1 (.t (.cons (.v 7) (.cons (.v 8) .nil))) (.tup [.str nm, .int w]) (envL ns bs least (.val (.int (k : Int))) b c d e) = some (envL ns bs least (.val (.int (k : Int))) (.val (.str nm)) (.val (.int w)) d e) := rfl
    simp only [evS, freeze, v, Out.bnd_ok, hb, ofO_some]
  obtain ⟨CH, hCH⟩ : ∃ CH, CH = D.lst ((List.range 16).map fun (b : Nat) => D.lst ((setB nm (b : Int) bs).map bD)) := ⟨_, rfl⟩
  obtain ⟨GA, hGA⟩ : ∃ GA, GA = D.lst ((gains nm w bs least).map .int) := ⟨_, rfl⟩
  have lc1 := chg_lc (st := st1) (ns := ns) (s9 := d) (s10 := e) (w := w) dr h
  have lc2 := gains_lc (st := st1) (ns := ns) (b0 := b0) (nm := nm) (k := k) (w := w) (s10 := e) dr
  rw [← hCH] at lc1 lc2
  rw [← hGA] at lc2
  have s2 : evS C8 (.asg [] (.v 9) (.lc (.bin .Add (.bin .Add (.sl (.var 3) .no (.so (.var 6))) (.lst (.cons (.tup (.cons (.var 7) (.cons (.var 20) .nil))) .nil))) (.sl (.var 3) (.so (.bin .Add (.var 6) (.c (.int 1)))) .no)) (.v 20) (.rng (.cons (.c (.int 16)) .nil)) .no [20])) (envL ns bs least (.val (.int (k : Int))) (.val (.str nm)) (.val (.int w)) d e) st1 = .ok (.nx (envL ns bs least (.val (.int (k : Int))) (.val (.str nm)) (.val (.int w)) (.val CH) e)) st1 := by
    simp only [evS, freeze, lc1, Out.bnd_ok, bind1, ofO_some]
    rfl
  have s3 : evS C8 (.asg [] (.v 10) (.lc (.call 25 (.cons (.var 21) (.cons (.var 4) (.cons (.var 7) (.cons (.var 8) .nil))))) (.v 21) (.seq (.var 9)) .no [21])) (envL ns bs least (.val (.int (k : Int))) (.val (.str nm)) (.val (.int w)) (.val CH) e) st1 = .ok (.nx (envL ns bs least (.val (.int (k : Int))) (.val (.str nm)) (.val (.int w)) (.val CH) (.val GA))) st1 := by
    simp only [evS, freeze, lc2, Out.bnd_ok, bind1, ofO_some]
    rfl
  obtain ⟨bw, m, bm, m16, gm, gn⟩ := best_law dr.nd h dr.bd dr.l0 dr.l1 w0 (by omega : w ≤ 13)
  have mx : biD "max" [GA] = some (.int (gmax nm w bs least)) := by
    rw [hGA, gains_cons]
    exact max_int _ _
  have gw : ixS GA (.int w) = some (.int (gmax nm w bs least)) := by
    rw [hGA]
    have e : (w.toNat : Int) = w := by omega
    have z := atI_nat (xs := (gains nm w bs least).map D.int) (k := w.toNat) (x := D.int (gainB nm w (setB nm (w.toNat : Int) bs) least)) (by rw [List.getElem?_map, gain_at (by omega)]; rfl)
    rw [e, bw] at z
    exact z
  have ix : meD "index" GA [.int (gmax nm w bs least)] = some (.int (m : Nat)) := by
    rw [hGA]
    show ((intsD ((gains nm w bs least).map .int)).bind fun ns => (ns.findIdx? fun n => decide (n = gmax nm w bs least)).map fun (k : Nat) => D.int (k : Int)) = _
    rw [intsD_map, Option.bind_some, find_at (gains nm w bs least) m _ (gain_at m16) (decide_eq_true gm) fun j y hj hy => by
      rw [gain_at (by omega)] at hy
      cases hy
      exact decide_eq_false (gn j hj)]
    rfl
  have im : isMe "index" GA = true := by rw [hGA]; rfl
  have dG : deref st1 GA = some GA := by rw [hGA]; rfl
  have c1 : C8 11 [saleD bs least, .str nm, .int w] st1 = .ok (.int (gainB nm w bs least)) st1 := gain_ok (n := 5) (by omega) hm
  have c2 : C8 25 [.lst (bs.map bD), .int least, .str nm, .int w] st1 = .ok (.int (gainB nm w bs least)) st1 := lgain_ok (n := 6) (by omega)
  have c3 : C8 13 [saleD bs least, .str nm, .int w] st1 = .ok (.int (m : Nat)) st1 := by rw [← bm]; exact best_ok (n := 0) dr.ok hm (marks_ok dr)
  have c4 : C8 12 [saleD bs least, .str nm, .int 5] st1 = .ok (saleD (setB nm 5 bs) least) st1 := with_ok (n := 1) dr.ok hm (by decide) (by decide)
  have c5 : C8 7 [.lst ((setB nm 5 bs).map bD), .int least] st1 = .ok (saleD (setB nm 5 bs) least) st1 := sale_ok (n := 2) (hand_of _) (setB_ok dr.ok (by decide) (by decide))
  have c6 : C8 8 [saleD (setB nm 5 bs) least, saleD (setB nm 5 bs) least] st1 = .ok (.bl true) st1 := by
    have z : C8 8 [saleD (setB nm 5 bs) least, saleD (setB nm 5 bs) least] st1 = _ := eq_ok (n := 7) (l := least) (m := least) (setB_str dr.str)
    rw [z, decide_eq_true rfl]
  have x5 : ixS CH (.int 5) = some (.lst ((setB nm 5 bs).map bD)) := by
    rw [hCH]
    exact atI_nat (k := 5) (by rw [List.getElem?_map, List.getElem?_range (by decide)]; rfl)
  have dC : deref st1 CH = some CH := by rw [hCH]; rfl
  have r1 : eqR "Sale" (saleD (setB nm 5 bs) least) = true := (decide_eq_true rfl : decide (("Sale" : Str) = "Sale") = true)
  have a1 : C8 17 [.int (gainB nm w bs least), .int (gainB nm w bs least)] st1 = .ok (.bl true) st1 := alike8 rfl
  have a2 : C8 17 [.int (m : Nat), .int (m : Nat)] st1 = .ok (.bl true) st1 := alike8 rfl
  have q1 : eqO (.int (gmax nm w bs least)) (.int (gmax nm w bs least)) = some true := by simp [eqO, scalD, flatD, eqD]
  have s4 : evS C8 (.ifs (.or (.cons (.not (.call 17 (.cons (.meth (.var 5) "Sale" "gain" 11 (.cons (.var 7) (.cons (.var 8) .nil))) (.cons (.call 25 (.cons (.var 3) (.cons (.var 4) (.cons (.var 7) (.cons (.var 8) .nil))))) .nil)))) (.cons (.cmp .NotEq (.bi "max" (.cons (.var 10) .nil)) (.ix (.var 10) (.var 8))) .nil))) (.cons (.ret [] (.c (.bl false))) .nil) .nil) (envL ns bs least (.val (.int (k : Int))) (.val (.str nm)) (.val (.int w)) (.val CH) (.val GA)) st1 = .ok (.nx (envL ns bs least (.val (.int (k : Int))) (.val (.str nm)) (.val (.int w)) (.val CH) (.val GA))) st1 := by
    simp [evEs, evBs, evAnd, evOr, evTAnd, evTOr, evO, evIf, bor, getV, getB, truthD, freeze, freeze1, bind1, binds, endD, evSs, evS, evHs, isPut, setIx, wipeE, fnIx, Out.nox, de_sale, i_gain, c1, c2, a1, mx, dG, gw, cmpD, q1]
  have s5 : evS C8 (.ifs (.not (.call 17 (.cons (.meth (.var 5) "Sale" "best_bid" 13 (.cons (.var 7) (.cons (.var 8) .nil))) (.cons (.me "index" (.var 10) (.cons (.bi "max" (.cons (.var 10) .nil)) .nil)) .nil)))) (.cons (.ret [] (.c (.bl false))) .nil) .nil) (envL ns bs least (.val (.int (k : Int))) (.val (.str nm)) (.val (.int w)) (.val CH) (.val GA)) st1 = .ok (.nx (envL ns bs least (.val (.int (k : Int))) (.val (.str nm)) (.val (.int w)) (.val CH) (.val GA))) st1 := by
    simp [evEs, evBs, evAnd, evOr, evTAnd, evTOr, evO, evIf, bor, getV, getB, truthD, freeze, freeze1, bind1, binds, endD, evSs, evS, evHs, isPut, setIx, wipeE, fnIx, Out.nox, de_sale, i_best, c3, im, mx, ix, a2]
  have s6 : evS C8 (.ifs (.eqo true (.meth (.var 5) "Sale" "with_bid" 12 (.cons (.var 7) (.cons (.c (.int 5)) .nil))) "Sale" 8 (.call 7 (.cons (.ix (.var 9) (.c (.int 5))) (.cons (.var 4) .nil)))) (.cons (.ret [] (.c (.bl false))) .nil) .nil) (envL ns bs least (.val (.int (k : Int))) (.val (.str nm)) (.val (.int w)) (.val CH) (.val GA)) st1 = .ok (.nx (envL ns bs least (.val (.int (k : Int))) (.val (.str nm)) (.val (.int w)) (.val CH) (.val GA))) st1 := by
    simp [evEs, evBs, evAnd, evOr, evTAnd, evTOr, evO, evIf, bor, getV, getB, truthD, freeze, freeze1, bind1, binds, endD, evSs, evS, evHs, isPut, setIx, wipeE, fnIx, Out.nox, de_sale, i_with, c4, dC, x5, c5, i_eq, r1, c6]
  refine ⟨.val (.int (k : Int)), .val (.str nm), .val (.int w), .val CH, .val GA, st1, ?_, h1⟩
  show evSs C8 lBody (envL ns bs least (.val (.int (k : Int))) b c d e) st = _
  exact (evSs_next s1).trans ((evSs_next s2).trans ((evSs_next s3).trans ((evSs_next s4).trans ((evSs_next s5).trans ((evSs_next s6).trans rfl)))))
/-- the loop -/
theorem loop_ok {bs : Bids} {least : Int} (dr : Drawn bs least) (hs : Dr ns st) : ∃ a b c d e st', evS C8 (.for_ [] (.v 6) (.rng (.cons (.bi "len" (.cons (.var 2) .nil)) .nil)) lBody) (envL ns bs least .no .no .no .no .no) st = .ok (.nx (envL ns bs least a b c d e)) st' ∧ Dr ns st' := by
  have l6 := dr.len
  obtain ⟨env', st', e, ⟨a, b, c, d, e', ee⟩, h'⟩ := forGo_inv (turn := fun d env st => (ofO (bind1 (.v 6) d env) st).bnd fun env' st => evSs C8 lBody env' st) (fun env st => (∃ a b c d e, env = envL ns bs least a b c d e) ∧ Dr ns st) ((List.range bs.length).map fun (k : Nat) => D.int (k : Int)) (fun d hd env st ⟨⟨a, b, c, d', e, ee⟩, hst⟩ => by
    subst ee
    obtain ⟨k, hk, rfl⟩ := List.mem_map.mp hd
    have hk := List.mem_range.mp hk
    obtain ⟨a', b', c', d'', e', st', e1, h1⟩ := turn_ok (b0 := (bs[k]).2) (nm := (bs[k]).1) dr (List.getElem?_eq_getElem hk) hst a b c d' e
    exact ⟨_, st', e1, ⟨_, _, _, _, _, rfl⟩, h1⟩) (envL ns bs least .no .no .no .no .no) st ⟨⟨_, _, _, _, _, rfl⟩, hs⟩
  subst ee
  refine ⟨a, b, c, d, e', st', ?_, h'⟩
  have er : rngD [.int (bs.length : Nat)] = some ((List.range bs.length).map fun (k : Nat) => D.int (k : Int)) := rng_nat (by omega)
  have ev : evEs C8 (envL ns bs least .no .no .no .no .no) (.cons (.bi "len" (.cons (.var 2) .nil)) .nil) st = .ok [.int (bs.length : Nat)] st := by
    have lb : biD "len" [.lst ((bs.map (·.1)).map .str)] = some (.int (bs.length : Nat)) := by
      show some (D.int (((bs.map (·.1)).map D.str).length : Nat)) = _
      rw [List.length_map, List.length_map]
    have g : getB (envL ns bs least .no .no .no .no .no) 2 = some (.lst ((bs.map (·.1)).map .str)) := rfl
    simp only [evEs, e_bi, evBs, bor, g, ofO_some, Out.bnd_ok, lb]
  exact (for_rng (fz := []) ev er).trans e
end
end Eng
set_option Elab.async false
set_option linter.all false
set_option maxRecDepth 100000
set_option maxHeartbeats 4000000
/-! k09: the law's lots -/
namespace Eng
open PySem PySem.Spec L2
section
variable {ns : List Int} {st : Store}
abbrev envM (ns : List Int) (bs : Bids) (least : Int) (a b c d e m o p f t bd v du : Sl) : Env := [.val (.scr ns), .val (.obj 0), .val (.lst ((bs.map (·.1)).map .str)), .val (.lst (bs.map bD)), .val (.int least), .val (saleD bs least), a, b, c, d, e, m, o, p, f, t, .no, bd, v, du, .no, .no]
theorem len_bids {bs : Bids} : biD "len" [.lst (bs.map bD)] = some (.int (bs.length : Nat)) := by
  show some (D.int ((bs.map bD).length : Nat)) = _
  rw [List.length_map]
theorem lots_law {bs : Bids} {least : Int} (dr : Drawn bs least) (hs : Dr ns st) (a b c d e : Sl) : ∃ m o p st', Dr ns st' ∧ ∀ rest : Ss,
    evSs C8 (.cons (.asg [] (.v 11) (.call 15 (.cons (.var 1) (.cons (.c (.int 4)) .nil)))) (.cons (.asg [] (.v 12) (.sl (.lc (.var 6) (.t (.cons (.v 20) (.cons (.v 6) .nil))) (.seq (.bi "sorted" (.cons (.lc (.tup (.cons (.bin .Sub (.c (.int 0)) (.ix (.ix (.var 3) (.var 6)) (.c (.int 1)))) (.cons (.var 6) .nil))) (.v 6) (.rng (.cons (.bi "len" (.cons (.var 3) .nil)) .nil)) (.so (.cmp .GtE (.ix (.ix (.var 3) (.var 6)) (.c (.int 1))) (.var 4))) [6]) .nil))) .no [20,6]) .no (.so (.var 11)))) (.cons (.asg [] (.v 13) (.bi "max" (.cons (.bin .Add (.lst (.cons (.var 4) .nil)) (.lc (.ix (.ix (.var 3) (.var 6)) (.c (.int 1))) (.v 6) (.rng (.cons (.bi "len" (.cons (.var 3) .nil)) .nil)) (.so (.cmp .NotIn (.var 6) (.var 12))) [6])) .nil))) (.cons (.ifs (.not (.call 17 (.cons (.call 14 (.cons (.call 18 (.cons (.var 1) (.cons (.var 3) .nil))) (.cons (.var 11) (.cons (.var 4) .nil)))) (.cons (.tup (.cons (.bi "tuple" (.cons (.lc (.ix (.var 2) (.var 6)) (.v 6) (.seq (.bi "sorted" (.cons (.var 12) .nil))) .no [6]) .nil)) (.cons (.var 13) .nil))) .nil)))) (.cons (.ret [] (.c (.bl false))) .nil) .nil) rest)))) (envM ns bs least a b c d e .no .no .no .no .no .no .no .no) st
      = evSs C8 rest (envM ns bs least a b c d e m o p .no .no .no .no .no) st' := by
  have hb := big
  have l6 := dr.len
  have z2 : (2 : Nat) ≤ sizeLine := by omega
  have z1 : (1 : Nat) ≤ sizeLine := by omega
  obtain ⟨v, st1, e1, h1, v0, v1⟩ := draw hs 4 (by decide) (by decide)
  obtain ⟨many, rfl⟩ : ∃ many : Nat, v = (many : Int) := ⟨v.toNat, by omega⟩
  have s1 : evS C8 (.asg [] (.v 11) (.call 15 (.cons (.var 1) (.cons (.c (.int 4)) .nil)))) (envM ns bs least a b c d e .no .no .no .no .no .no .no .no) st = .ok (.nx (envM ns bs least a b c d e (.val (.int (many : Int))) .no .no .no .no .no .no .no)) st1 := by
    have g1 : getV (envM ns bs least a b c d e .no .no .no .no .no .no .no .no) 1 = some (.obj 0) := rfl
    have v : (evP C8 (envM ns bs least a b c d e .no .no .no .no .no .no .no .no) (.call 15 (.cons (.var 1) (.cons (.c (.int 4)) .nil)))).1 st = .ok (.int (many : Int)) st1 := by
      simp only [e_call, evEs, e_var, g1, ofO_some, Out.bnd_ok, e_c, e1]
    simp only [evS, freeze, v, Out.bnd_ok, bind1, ofO_some]
    rfl
  -- the order
  have lcA := sold_lc (C := C8) (env := envM ns bs least a b c d e (.val (.int (many : Int))) .no .no .no .no .no .no .no) (bs := bs) (least := least) (i := 6) (a := 3) (b := 4) (st := st1) (by omega) (by
    have g : getB (envM ns bs least a b c d e (.val (.int (many : Int))) .no .no .no .no .no .no .no) 3 = some (.lst (bs.map bD)) := rfl
    simp only [evEs, e_bi, evBs, bor, g, ofO_some, Out.bnd_ok, len_bids]) (fun _ => rfl) (fun _ => rfl) (fun _ => rfl)
  have so := sort_pD (rowsOf bs least)
  obtain ⟨S, hS⟩ : ∃ S, S = (rowsOf bs least).mergeSort leP := ⟨_, rfl⟩
  rw [← hS] at so
  have wn : wonB bs least many = (S.take many).map (·.2) := by unfold wonB; rw [hS]
  have lcB : (evP C8 (envM ns bs least a b c d e (.val (.int (many : Int))) .no .no .no .no .no .no .no) (.lc (.var 6) (.t (.cons (.v 20) (.cons (.v 6) .nil))) (.seq (.bi "sorted" (.cons (.lc (.tup (.cons (.bin .Sub (.c (.int 0)) (.ix (.ix (.var 3) (.var 6)) (.c (.int 1)))) (.cons (.var 6) .nil))) (.v 6) (.rng (.cons (.bi "len" (.cons (.var 3) .nil)) .nil)) (.so (.cmp .GtE (.ix (.ix (.var 3) (.var 6)) (.c (.int 1))) (.var 4))) [6]) .nil))) .no [20,6])).1 st1 = .ok (.lst ((S.map (·.2)).map .int)) st1 := by
    have z := lc_map (C := C8) (env := envM ns bs least a b c d e (.val (.int (many : Int))) .no .no .no .no .no .no .no) (elt := .var 6) (tg := .t (.cons (.v 20) (.cons (.v 6) .nil))) (it := .seq (.bi "sorted" (.cons (.lc (.tup (.cons (.bin .Sub (.c (.int 0)) (.ix (.ix (.var 3) (.var 6)) (.c (.int 1)))) (.cons (.var 6) .nil))) (.v 6) (.rng (.cons (.bi "len" (.cons (.var 3) .nil)) .nil)) (.so (.cmp .GtE (.ix (.ix (.var 3) (.var 6)) (.c (.int 1))) (.var 4))) [6]) .nil))) (ws := [20,6]) (st := st1) (ds := S.map pD)
      (fun d => match d with | .tup [_, b] => b | d => d) (by
        have i1 : itemsD (.lst (S.map pD)) = some (S.map pD) := rfl
        simp only [evIt, bor, e_bi, evBs, lcA, Out.bnd_ok, so, ofO_some, i1]) fun d hd => by
      obtain ⟨r, _, rfl⟩ := List.mem_map.mp hd
      exact ⟨_, rfl, rfl⟩
    rw [z, List.map_map, List.map_map]
    rfl
  have s2 : evS C8 (.asg [] (.v 12) (.sl (.lc (.var 6) (.t (.cons (.v 20) (.cons (.v 6) .nil))) (.seq (.bi "sorted" (.cons (.lc (.tup (.cons (.bin .Sub (.c (.int 0)) (.ix (.ix (.var 3) (.var 6)) (.c (.int 1)))) (.cons (.var 6) .nil))) (.v 6) (.rng (.cons (.bi "len" (.cons (.var 3) .nil)) .nil)) (.so (.cmp .GtE (.ix (.ix (.var 3) (.var 6)) (.c (.int 1))) (.var 4))) [6]) .nil))) .no [20,6]) .no (.so (.var 11)))) (envM ns bs least a b c d e (.val (.int (many : Int))) .no .no .no .no .no .no .no) st1 = .ok (.nx (envM ns bs least a b c d e (.val (.int (many : Int))) (.val (.lst ((wonB bs least many).map .int))) .no .no .no .no .no .no)) st1 := by
    have sl : slD (.lst ((S.map (·.2)).map .int)) none (some (many : Int)) = some (.lst ((wonB bs least many).map .int)) := by
      show some (D.lst (cutD ((S.map (·.2)).map D.int) none (some (many : Int)))) = _
      unfold cutD
      rw [HT.sIx_none, HT.sIx_nat, Nat.sub_zero, List.drop_zero, wn, ← List.map_take, ← List.map_take]
      congr 3
      rw [List.length_map, List.length_map]
      by_cases q : many ≤ S.length
      · rw [Nat.min_eq_left q]
      · rw [Nat.min_eq_right (by omega), List.take_length, List.take_of_length_le (by omega)]
    have g : getV (envM ns bs least a b c d e (.val (.int (many : Int))) .no .no .no .no .no .no .no) 11 = some (.int (many : Int)) := rfl
    have v : (evP C8 (envM ns bs least a b c d e (.val (.int (many : Int))) .no .no .no .no .no .no .no) (.sl (.lc (.var 6) (.t (.cons (.v 20) (.cons (.v 6) .nil))) (.seq (.bi "sorted" (.cons (.lc (.tup (.cons (.bin .Sub (.c (.int 0)) (.ix (.ix (.var 3) (.var 6)) (.c (.int 1)))) (.cons (.var 6) .nil))) (.v 6) (.rng (.cons (.bi "len" (.cons (.var 3) .nil)) .nil)) (.so (.cmp .GtE (.ix (.ix (.var 3) (.var 6)) (.c (.int 1))) (.var 4))) [6]) .nil))) .no [20,6]) .no (.so (.var 11)))).1 st1 = .ok (.lst ((wonB bs least many).map .int)) st1 := by
      simp only [e_sl, bor, lcB, Out.bnd_ok, evO, e_var, g, ofO_some, sl]
    simp only [evS, freeze, v, Out.bnd_ok, bind1, ofO_some]
    rfl
  obtain ⟨W, hW⟩ : ∃ W, W = D.lst ((wonB bs least many).map .int) := ⟨_, rfl⟩
  rw [← hW] at s2
  -- the price
  have lcC : (evP C8 (envM ns bs least a b c d e (.val (.int (many : Int))) (.val W) .no .no .no .no .no .no) (.lc (.ix (.ix (.var 3) (.var 6)) (.c (.int 1))) (.v 6) (.rng (.cons (.bi "len" (.cons (.var 3) .nil)) .nil)) (.so (.cmp .NotIn (.var 6) (.var 12))) [6])).1 st1 = .ok (.lst ((lostB bs least many).map .int)) st1 := by
    have z := lc_filter (C := C8) (env := envM ns bs least a b c d e (.val (.int (many : Int))) (.val W) .no .no .no .no .no .no) (elt := .ix (.ix (.var 3) (.var 6)) (.c (.int 1))) (tg := .v 6) (it := .rng (.cons (.bi "len" (.cons (.var 3) .nil)) .nil)) (c := .cmp .NotIn (.var 6) (.var 12)) (ws := [6]) (st := st1)
      (ds := (List.range bs.length).map fun (k : Nat) => D.int (k : Int)) (fun d => match d with | .int k => !decide (k ∈ wonB bs least many) | _ => false) (fun d => match d with | .int k => (match bs[k.toNat]? with | some p => .int p.2 | none => .int k) | d => d) (by
        have g : getB (envM ns bs least a b c d e (.val (.int (many : Int))) (.val W) .no .no .no .no .no .no) 3 = some (.lst (bs.map bD)) := rfl
        simp only [evIt, evEs, e_bi, evBs, bor, g, ofO_some, Out.bnd_ok, len_bids, rng_nat (by omega : bs.length ≤ 100000)]) fun d' hd => by
      obtain ⟨k, hk, rfl⟩ := List.mem_map.mp hd
      have hk := List.mem_range.mp hk
      have at_ : bs[k]? = some bs[k] := List.getElem?_eq_getElem hk
      have x1 : ixS (.lst (bs.map bD)) (.int (k : Int)) = some (bD bs[k]) := atI_nat (by rw [List.getElem?_map, at_]; rfl)
      have dl : deref st1 (.lst (bs.map bD)) = some (.lst (bs.map bD)) := rfl
      have ii := in_ints (k : Int) (wonB bs least many)
      rw [← hW] at ii
      refine ⟨_, rfl, ?_, fun _ => ?_⟩
      · have g6 : getB ((wipeE (envM ns bs least a b c d e (.val (.int (many : Int))) (.val W) .no .no .no .no .no .no) [6]).set 6 (.val (.int (k : Int)))) 6 = some (.int (k : Int)) := rfl
        have g12 : getB ((wipeE (envM ns bs least a b c d e (.val (.int (many : Int))) (.val W) .no .no .no .no .no .no) [6]).set 6 (.val (.int (k : Int)))) 12 = some W := rfl
        simp only [t_cmp, e_cmp, bor, g6, ofO_some, Out.bnd_ok, g12, cmpD, ii, Option.map_some, truthD]
      · have g3 : getB ((wipeE (envM ns bs least a b c d e (.val (.int (many : Int))) (.val W) .no .no .no .no .no .no) [6]).set 6 (.val (.int (k : Int)))) 3 = some (.lst (bs.map bD)) := rfl
        have g6 : getV ((wipeE (envM ns bs least a b c d e (.val (.int (many : Int))) (.val W) .no .no .no .no .no .no) [6]).set 6 (.val (.int (k : Int)))) 6 = some (.int (k : Int)) := rfl
        have fk : (match bs[((k : Nat) : Int).toNat]? with | some p => D.int p.2 | none => .int k) = .int (bs[k]).2 := by rw [Int.toNat_natCast, at_]
        simp only [e_ix, bor, g3, ofO_some, Out.bnd_ok, e_var, g6, dl, Option.bind_some, x1, e_c, de_b, b_1]
        exact congrArg (fun d => Out.ok d st1) fk.symm
    rw [z, rng_enum, List.filter_map, List.map_map]
    unfold lostB
    rw [List.map_map]
    congr 2
    refine List.map_congr_left fun e he => ?_
    have at_ := mem_enumB (List.mem_filter.mp he).1
    show (match bs[((e.1 : Nat) : Int).toNat]? with | some p => D.int p.2 | none => .int e.1) = D.int e.2.2
    rw [Int.toNat_natCast, at_]
  have ll : (lostB bs least many).length ≤ 20 := by
    unfold lostB
    rw [List.length_map]
    refine Nat.le_trans (List.length_filter_le _ _) ?_
    unfold enumB
    rw [List.length_zip, List.length_range, Nat.min_self]
    omega
  have ad : binD .Add (.lst [.int least]) (.lst ((lostB bs least many).map .int)) = some (.lst ((least :: lostB bs least many).map .int)) := by
    show (if [D.int least].length + ((lostB bs least many).map D.int).length ≤ sizeLine then some (D.lst ([D.int least] ++ (lostB bs least many).map .int)) else none) = _
    rw [List.length_map, if_pos (by show 1 + (lostB bs least many).length ≤ sizeLine; omega)]
    rfl
  have mx := max_int least (lostB bs least many)
  obtain ⟨P, hP⟩ : ∃ P, P = mxI least (lostB bs least many) := ⟨_, rfl⟩
  have s3 : evS C8 (.asg [] (.v 13) (.bi "max" (.cons (.bin .Add (.lst (.cons (.var 4) .nil)) (.lc (.ix (.ix (.var 3) (.var 6)) (.c (.int 1))) (.v 6) (.rng (.cons (.bi "len" (.cons (.var 3) .nil)) .nil)) (.so (.cmp .NotIn (.var 6) (.var 12))) [6])) .nil))) (envM ns bs least a b c d e (.val (.int (many : Int))) (.val W) .no .no .no .no .no .no) st1 = .ok (.nx (envM ns bs least a b c d e (.val (.int (many : Int))) (.val W) (.val (.int P)) .no .no .no .no .no)) st1 := by
    have g4 : getV (envM ns bs least a b c d e (.val (.int (many : Int))) (.val W) .no .no .no .no .no .no) 4 = some (.int least) := rfl
    have z1' : decide ([D.int least].length ≤ sizeLine) = true := decide_eq_true z1
    have v : (evP C8 (envM ns bs least a b c d e (.val (.int (many : Int))) (.val W) .no .no .no .no .no .no) (.bi "max" (.cons (.bin .Add (.lst (.cons (.var 4) .nil)) (.lc (.ix (.ix (.var 3) (.var 6)) (.c (.int 1))) (.v 6) (.rng (.cons (.bi "len" (.cons (.var 3) .nil)) .nil)) (.so (.cmp .NotIn (.var 6) (.var 12))) [6])) .nil))).1 st1 = .ok (.int P) st1 := by
      simp only [e_bi, evBs, bor, e_bin, e_lst, evEs, e_var, g4, ofO_some, Out.bnd_ok, z1', chkO_true, lcC, ad, mx, hP]
    simp only [evS, freeze, v, Out.bnd_ok, bind1, ofO_some]
    rfl
  -- lots
  obtain ⟨hv, st2, e2, h2, hhv⟩ := mixed t15 t18 h1 6 (.lst (bs.map bD)) (bs.map bD) rfl
  have e2 : C8 18 [.obj 0, .lst (bs.map bD)] st1 = .ok hv st2 := e2
  have hh : Hand hv bs := by
    obtain ⟨items, k1, k2⟩ := hand_of bs
    cases k1
    exact ⟨bs.map bD, by rcases hhv with rfl | rfl <;> rfl, k2⟩
  have e3 : C8 14 [hv, .int (many : Int), .int least] st2 = .ok (lotsD bs least many) st2 := lots_ok (n := 1) hh dr.ok
  have lcD : (evP C8 (envM ns bs least a b c d e (.val (.int (many : Int))) (.val W) (.val (.int P)) .no .no .no .no .no) (.lc (.ix (.var 2) (.var 6)) (.v 6) (.seq (.bi "sorted" (.cons (.var 12) .nil))) .no [6])).1 st2 = .ok (.lst ((srtI (wonB bs least many)).map (nameK bs))) st2 := by
    refine lc_map (nameK bs) (by
      have g12 : getB (envM ns bs least a b c d e (.val (.int (many : Int))) (.val W) (.val (.int P)) .no .no .no .no .no) 12 = some W := rfl
      have si := srt_int (wonB bs least many)
      rw [← hW] at si
      have i1 : itemsD (.lst (srtI (wonB bs least many))) = some (srtI (wonB bs least many)) := rfl
      simp only [evIt, bor, e_bi, evBs, g12, ofO_some, Out.bnd_ok, si, i1]) fun d' hd => ?_
    obtain ⟨k, hk, rfl⟩ := srt_mem hd
    obtain ⟨i, p, rfl, hp⟩ := won_at hk
    refine ⟨_, rfl, ?_⟩
    have x : ixS (.lst ((bs.map (·.1)).map .str)) (.int (i : Int)) = some (.str p.1) := atI_nat (by rw [List.getElem?_map, List.getElem?_map, hp]; rfl)
    have nk : nameK bs (.int (i : Int)) = .str p.1 := by
      show (match bs[((i : Nat) : Int).toNat]? with | some p => D.str p.1 | none => .int i) = _
      rw [Int.toNat_natCast, hp]
    rw [nk]
    have g2 : getB ((wipeE (envM ns bs least a b c d e (.val (.int (many : Int))) (.val W) (.val (.int P)) .no .no .no .no .no) [6]).set 6 (.val (.int (i : Int)))) 2 = some (.lst ((bs.map (·.1)).map .str)) := rfl
    have g6 : getV ((wipeE (envM ns bs least a b c d e (.val (.int (many : Int))) (.val W) (.val (.int P)) .no .no .no .no .no) [6]).set 6 (.val (.int (i : Int)))) 6 = some (.int (i : Int)) := rfl
    have dl : deref st2 (.lst ((bs.map (·.1)).map .str)) = some (.lst ((bs.map (·.1)).map .str)) := rfl
    simp only [e_ix, bor, g2, ofO_some, Out.bnd_ok, e_var, g6, dl, Option.bind_some, x]
  have a1 : C8 17 [lotsD bs least many, lotsD bs least many] st2 = .ok (.bl true) st2 := alike8 (by
    have al : ((srtI (wonB bs least many)).map (nameK bs)).all (alk 1) = true := List.all_eq_true.mpr fun d' hd => by
      obtain ⟨x, hx, rfl⟩ := List.mem_map.mp hd
      obtain ⟨k, hk, rfl⟩ := srt_mem hx
      obtain ⟨i, p, rfl, hp⟩ := won_at hk
      have nk : nameK bs (.int (i : Int)) = .str p.1 := by
        show (match bs[((i : Nat) : Int).toNat]? with | some p => D.str p.1 | none => .int i) = _
        rw [Int.toNat_natCast, hp]
      rw [nk]
      rfl
    have ln : ((srtI (wonB bs least many)).map (nameK bs)).length ≤ 1000 := by
      rw [List.length_map]
      unfold srtI
      rw [List.length_mergeSort, List.length_map]
      unfold wonB
      rw [List.length_map, List.length_take]
      omega
    show (((((srtI (wonB bs least many)).map (nameK bs)).all (alk 1) && decide (((srtI (wonB bs least many)).map (nameK bs)).length ≤ 1000)) && (true && true)) && decide (2 ≤ 1000)) = true
    rw [al, decide_eq_true ln]
    rfl)
  have tp : biD "tuple" [.lst ((srtI (wonB bs least many)).map (nameK bs))] = some (.tup ((srtI (wonB bs least many)).map (nameK bs))) := rfl
  have s4 : evS C8 (.ifs (.not (.call 17 (.cons (.call 14 (.cons (.call 18 (.cons (.var 1) (.cons (.var 3) .nil))) (.cons (.var 11) (.cons (.var 4) .nil)))) (.cons (.tup (.cons (.bi "tuple" (.cons (.lc (.ix (.var 2) (.var 6)) (.v 6) (.seq (.bi "sorted" (.cons (.var 12) .nil))) .no [6]) .nil)) (.cons (.var 13) .nil))) .nil)))) (.cons (.ret [] (.c (.bl false))) .nil) .nil) (envM ns bs least a b c d e (.val (.int (many : Int))) (.val W) (.val (.int P)) .no .no .no .no .no) st1 = .ok (.nx (envM ns bs least a b c d e (.val (.int (many : Int))) (.val W) (.val (.int P)) .no .no .no .no .no)) st2 := by
    have g1 : getV (envM ns bs least a b c d e (.val (.int (many : Int))) (.val W) (.val (.int P)) .no .no .no .no .no) 1 = some (.obj 0) := rfl
    have g3 : getV (envM ns bs least a b c d e (.val (.int (many : Int))) (.val W) (.val (.int P)) .no .no .no .no .no) 3 = some (.lst (bs.map bD)) := rfl
    have g4 : getV (envM ns bs least a b c d e (.val (.int (many : Int))) (.val W) (.val (.int P)) .no .no .no .no .no) 4 = some (.int least) := rfl
    have g11 : getV (envM ns bs least a b c d e (.val (.int (many : Int))) (.val W) (.val (.int P)) .no .no .no .no .no) 11 = some (.int (many : Int)) := rfl
    have g13 : getV (envM ns bs least a b c d e (.val (.int (many : Int))) (.val W) (.val (.int P)) .no .no .no .no .no) 13 = some (.int P) := rfl
    have lt : D.tup [.tup ((srtI (wonB bs least many)).map (nameK bs)), .int P] = lotsD bs least many := by rw [hP]; rfl
    have z2' : decide ([D.tup ((srtI (wonB bs least many)).map (nameK bs)), D.int P].length ≤ sizeLine) = true := decide_eq_true z2
    have v : (evP C8 (envM ns bs least a b c d e (.val (.int (many : Int))) (.val W) (.val (.int P)) .no .no .no .no .no) (.not (.call 17 (.cons (.call 14 (.cons (.call 18 (.cons (.var 1) (.cons (.var 3) .nil))) (.cons (.var 11) (.cons (.var 4) .nil)))) (.cons (.tup (.cons (.bi "tuple" (.cons (.lc (.ix (.var 2) (.var 6)) (.v 6) (.seq (.bi "sorted" (.cons (.var 12) .nil))) .no [6]) .nil)) (.cons (.var 13) .nil))) .nil))))).2 st1 = .ok false st2 := by
      simp only [t_not, t_call, e_call, evEs, e_var, g1, g3, g4, g11, g13, ofO_some, Out.bnd_ok, e2, e3, e_tup, e_bi, evBs, bor, lcD, tp, z2', chkO_true, lt, a1, truthD, Bool.not_true]
    simp only [evS, v, Out.bnd_ok, evSs]
  exact ⟨_, _, _, st2, h2, fun rest => (evSs_next s1).trans ((evSs_next s2).trans ((evSs_next s3).trans (evSs_next s4)))⟩
end
end Eng
set_option Elab.async false
set_option linter.all false
set_option maxRecDepth 100000
set_option maxHeartbeats 4000000
/-! k09: refused values; the law's end -/
namespace Eng
open PySem PySem.Spec L2
def qk (k : Nat) : Str := ("q" : Str) ++ tkS k
theorem qk_log : ∀ k < 400, ((k : Nat) : Int).natAbs.log2 < 1920 := by decide +kernel
theorem qk_len : ∀ k < 400, (tkS k).length ≤ 3 := by decide +kernel
theorem q_free (found : List Str) (h : found.length < 100) : ∃ k < 400, qk k ∉ found := by
  by_cases q : ∃ k < 400, qk k ∉ found
  · exact q
  · exfalso
    have al : ∀ y ∈ (List.range 100).map qk, y ∈ found := fun y hy => by
      obtain ⟨k, hk, rfl⟩ := List.mem_map.mp hy
      have hk := List.mem_range.mp hk
      by_cases z : qk k ∈ found
      · exact z
      · exact absurd ⟨k, by omega, z⟩ q
    have nd : ((List.range 100).map qk).Nodup := by
      have t := tk_nd
      rw [List.nodup_iff_pairwise_ne, List.pairwise_map] at t ⊢
      refine t.imp fun {a b} ne e => ne ?_
      have e2 := congrArg (fun z : Str => z.cps.toList) e
      have e2 : (("q" : Str) ++ tkS a).cps.toList = (("q" : Str) ++ tkS b).cps.toList := e2
      rw [app_list, app_list] at e2
      exact List.append_cancel_left e2
    have := pigeon _ found nd al
    rw [List.length_map, List.length_range] at this
    omega
section
variable {ns : List Int} {st : Store}
theorem strange_ok {N : List Str} (hN : N.length < 100) : ∃ x, x ∉ N ∧ C8 22 [.lst (N.map .str)] st = .ok (.str x) st := by
  have hb := big
  have lcI : ∀ env : Env, env = [.val (.lst (N.map .str)), .no, .no] → (evP (callN tab 7) env (.lc (.bin .Add (.c (.str "q")) (.bi "str" (.cons (.var 2) .nil))) (.v 2) (.rng (.cons (.c (.int 400)) .nil)) .no [2])).1 st = .ok (.lst (((List.range 400).map qk).map .str)) st := fun env he => by
    subst he
    have z := lc_map (C := callN tab 7) (env := [.val (.lst (N.map .str)), .no, .no]) (elt := .bin .Add (.c (.str "q")) (.bi "str" (.cons (.var 2) .nil))) (tg := .v 2) (it := .rng (.cons (.c (.int 400)) .nil)) (ws := [2]) (st := st) (ds := (List.range 400).map fun (k : Nat) => D.int (k : Int))
      (fun d => match d with | .int k => .str (qk k.toNat) | d => d) (by
        have e : rngD [.int 400] = some ((List.range 400).map fun (k : Nat) => D.int (k : Int)) := rng_nat (n := 400) (by omega)
        show (ofO (rngD [.int 400]) st) = _
        rw [e]
        rfl) fun d hd => by
      obtain ⟨k, hk, rfl⟩ := List.mem_map.mp hd
      have hk := List.mem_range.mp hk
      have c2 : biD "str" [.int (k : Int)] = some (.str (tkS k)) := by
        show (if ((k : Nat) : Int).natAbs.log2 < 1920 then some (D.str (toString ((k : Nat) : Int))) else none) = _
        rw [if_pos (qk_log k hk)]
        rfl
      have l1 : ("q" : Str).length = 1 := by decide +kernel
      have ad : binD .Add (.str "q") (.str (tkS k)) = some (.str (qk k)) := by
        show (if ("q" : Str).length + (tkS k).length ≤ sizeLine then some (D.str (("q" : Str) ++ tkS k)) else none) = _
        have := qk_len k hk
        rw [l1, if_pos (by omega)]
        rfl
      refine ⟨_, rfl, ?_⟩
      have g : getB ((wipeE [.val (.lst (N.map .str)), .no, .no] [2]).set 2 (.val (.int (k : Int)))) 2 = some (.int (k : Int)) := rfl
      simp only [e_bin, bor, e_c, Out.bnd_ok, e_bi, evBs, g, ofO_some, c2, ad]
      rfl
    rw [z, List.map_map, List.map_map]
    rfl
  obtain ⟨Q, hQ⟩ : ∃ Q, Q = (List.range 400).map qk := ⟨_, rfl⟩
  have lcO : (evP (callN tab 7) [.val (.lst (N.map .str)), .no, .no] (.lc (.var 1) (.v 1) (.seq (.lc (.bin .Add (.c (.str "q")) (.bi "str" (.cons (.var 2) .nil))) (.v 2) (.rng (.cons (.c (.int 400)) .nil)) .no [2])) (.so (.cmp .NotIn (.var 1) (.var 0))) [1])).1 st = .ok (.lst ((Q.filter fun y => !decide (y ∈ N)).map .str)) st := by
    have z := lc_filter (C := callN tab 7) (env := [.val (.lst (N.map .str)), .no, .no]) (elt := .var 1) (tg := .v 1) (it := .seq (.lc (.bin .Add (.c (.str "q")) (.bi "str" (.cons (.var 2) .nil))) (.v 2) (.rng (.cons (.c (.int 400)) .nil)) .no [2])) (c := .cmp .NotIn (.var 1) (.var 0)) (ws := [1]) (st := st)
      (ds := Q.map .str) (fun d => match d with | .str y => !decide (y ∈ N) | _ => false) (fun d => d) (by
        have i1 : itemsD (.lst (Q.map .str)) = some (Q.map .str) := rfl
        have l := lcI _ rfl
        rw [← hQ] at l
        simp only [evIt, bor, l, Out.bnd_ok, i1, ofO_some]) fun d hd => by
      obtain ⟨y, hy, rfl⟩ := List.mem_map.mp hd
      refine ⟨_, rfl, ?_, fun _ => rfl⟩
      have g0 : getB ((wipeE [.val (.lst (N.map .str)), .no, .no] [1]).set 1 (.val (.str y))) 0 = some (.lst (N.map .str)) := rfl
      have g1 : getB ((wipeE [.val (.lst (N.map .str)), .no, .no] [1]).set 1 (.val (.str y))) 1 = some (.str y) := rfl
      simp only [t_cmp, e_cmp, bor, g0, g1, ofO_some, Out.bnd_ok, cmpD, in_strs, Option.map_some, truthD]
    rw [z, List.map_id', List.filter_map]
    rfl
  obtain ⟨y, ys, ey⟩ : ∃ y ys, (Q.filter fun y => !decide (y ∈ N)) = y :: ys := by
    cases q : Q.filter fun y => !decide (y ∈ N) with
    | cons y ys => exact ⟨y, ys, rfl⟩
    | nil =>
      obtain ⟨k, hk, h2⟩ := q_free N hN
      have := List.filter_eq_nil_iff.mp q (qk k) (by rw [hQ]; exact List.mem_map.mpr ⟨k, List.mem_range.mpr hk, rfl⟩)
      simp [h2] at this
  have hy : y ∈ Q.filter fun y => !decide (y ∈ N) := by rw [ey]; exact List.mem_cons_self
  obtain ⟨_, hy2⟩ := List.mem_filter.mp hy
  have hy2 : y ∉ N := by simpa using hy2
  refine ⟨y, hy2, ?_⟩
  show callN tab (7 + 1) 22 _ st = _
  rw [call_fn (show tab[22]? = some ⟨1, 3, ir22, none⟩ from rfl) 7 _ _ rfl]
  show endD (evSs (callN tab 7) ir22 [.val (.lst (N.map .str)), .no, .no] st) = _
  rw [ey] at lcO
  have a0 : ixS (.lst (D.str y :: ys.map .str)) (.int 0) = some (.str y) := atI_nat (k := 0) rfl
  have dl : deref st (.lst (D.str y :: ys.map .str)) = some (.lst (D.str y :: ys.map .str)) := rfl
  rw [List.map_cons] at lcO
  simp only [ir22, evSs, evS, freeze, e_ix, bor, lcO, Out.bnd_ok, e_c, dl, Option.bind_some, a0, ofO_some, endD]
/-! ### refused values -/
theorem sale_bad {n : Nat} {v : D} {l : Int} {c : Str} {ks : List Str} {ds : List D} (h : callN tab (n + 5) 5 [v, .fn "is_bid", .int 20] st = .ex c ks ds st) : callN tab (n + 6) 7 [v, .int l] st = .ex c ks ds st := by
  rw [call_in t7 (n + 5) _ _ rfl]
  show endI false (evSs (callN tab (n + 5)) ir7 [.own (.ins "Sale" [] []), .val v, .val (.int l), .no, .no, .no] st) = _
  have s1 : evS (callN tab (n + 5)) (.fld [] 0 "Sale" "bids" (.call 5 (.cons (.var 1) (.cons (.fn "is_bid") (.cons (.gl "MOST_BIDS" (.int 20)) .nil))))) [.own (.ins "Sale" [] []), .val v, .val (.int l), .no, .no, .no] st = .ex c ks ds st := by
    simp [evEs, evBs, evAnd, evOr, evTAnd, evTOr, evO, evIf, bor, getV, getB, truthD, freeze, freeze1, bind1, binds, endD, evSs, evS, evHs, isPut, setIx, wipeE, fnIx, Out.nox, h]
  have all : evSs (callN tab (n + 5)) ir7 [.own (.ins "Sale" [] []), .val v, .val (.int l), .no, .no, .no] st = .ex c ks ds st := evSs_ex s1
  rw [all]
  rfl
theorem lots_bad {n : Nat} {v : D} {l m : Int} {c : Str} {ks : List Str} {ds : List D} (h : callN tab (n + 6) 7 [v, .int l] st = .ex c ks ds st) : callN tab (n + 7) 14 [v, .int m, .int l] st = .ex c ks ds st := by
  rw [call_fn t14 (n + 6) _ _ rfl]
  show endD (evSs (callN tab (n + 6)) ir14 [.val v, .val (.int m), .val (.int l), .no, .no, .no, .no, .no, .no, .no] st) = _
  have s1 : evS (callN tab (n + 6)) (.asg [] (.v 3) (.call 7 (.cons (.var 0) (.cons (.var 2) .nil)))) [.val v, .val (.int m), .val (.int l), .no, .no, .no, .no, .no, .no, .no] st = .ex c ks ds st := by
    simp [evEs, evBs, evAnd, evOr, evTAnd, evTOr, evO, evIf, bor, getV, getB, truthD, freeze, freeze1, bind1, binds, endD, evSs, evS, evHs, isPut, setIx, wipeE, fnIx, Out.nox, h]
  have all : evSs (callN tab (n + 6)) ir14 [.val v, .val (.int m), .val (.int l), .no, .no, .no, .no, .no, .no, .no] st = .ex c ks ds st := evSs_ex s1
  rw [all]
  rfl
abbrev al4 : List Str := ["BadItem", "TooMany", "Unknown", "Taken"]
theorem item_in : ("BadItem" : Str) ∈ al4 := by decide +kernel
theorem item_yes : decide (("BadItem" : Str) ∈ (["BadItem"] : List Str)) = true := by decide +kernel
/-- what _law_raised says of a bad item -/
theorem raised_item {v x : D} (h1 : callN tab 7 7 [v, .int 1] st = .ex "BadItem" ["index"] [x] st) (h2 : callN tab 7 14 [v, .int 1, .int 1] st = .ex "BadItem" ["index"] [x] st) : ∀ k < 2, C8 26 [v, .int (k : Nat)] st = .ok (.tup [.str "item", x]) st := by
  intro k hk
  have z2 : (2 : Nat) ≤ sizeLine := by have := big; omega
  show callN tab (7 + 1) 26 _ st = _
  rw [call_fn (show tab[26]? = some ⟨2, 3, ir26, none⟩ from rfl) 7 _ _ rfl]
  show endD (evSs (callN tab 7) ir26 [.val v, .val (.int (k : Nat)), .no] st) = _
  have bd : evSs (callN tab 7) (.cons (.ifs (.cmp .Eq (.var 1) (.c (.int 0))) (.cons (.ex (.call 7 (.cons (.var 0) (.cons (.c (.int 1)) .nil)))) .nil) (.cons (.ex (.call 14 (.cons (.var 0) (.cons (.c (.int 1)) (.cons (.c (.int 1)) .nil))))) .nil)) .nil) [.val v, .val (.int (k : Nat)), .no] st = .ex "BadItem" ["index"] [x] st := by
    rcases k with _ | _ | k
    · simp [evEs, evBs, evAnd, evOr, evTAnd, evTOr, evO, evIf, bor, getV, getB, truthD, freeze, freeze1, bind1, binds, endD, evSs, evS, evHs, isPut, setIx, wipeE, fnIx, Out.nox, cmpD, eqO, scalD, flatD, eqD, h1]
    · simp [evEs, evBs, evAnd, evOr, evTAnd, evTOr, evO, evIf, bor, getV, getB, truthD, freeze, freeze1, bind1, binds, endD, evSs, evS, evHs, isPut, setIx, wipeE, fnIx, Out.nox, cmpD, eqO, scalD, flatD, eqD, h2]
    · omega
  have fx : fldD "index" ["index"] [x] = some x := by
    show (if ("index" : Str) = "index" then some x else _) = _
    rw [if_pos rfl]
  have hd : evSs (callN tab 7) (.cons (.ret [] (.tup (.cons (.c (.str "item")) (.cons (.xf 2 al4 "index") .nil)))) .nil) [.val v, .val (.int (k : Nat)), .xc "BadItem" ["index"] [x]] st = .ok (.rt (.tup [.str "item", x])) st := by
    have xf : (evP (callN tab 7) [.val v, .val (.int (k : Nat)), .xc "BadItem" ["index"] [x]] (.xf 2 al4 "index")).1 st = .ok x st := by
      show chkO (decide (("BadItem" : Str) ∈ al4)) (ofO (fldD "index" ["index"] [x]) st) = _
      rw [decide_eq_true item_in, fx]
      rfl
    have z2' : decide ([D.str "item", x].length ≤ sizeLine) = true := decide_eq_true z2
    simp only [evSs, evS, freeze, e_tup, evEs, e_c, xf, Out.bnd_ok, z2', chkO_true]
  have s1 : evS (callN tab 7) (.try_ [] (.cons (.ifs (.cmp .Eq (.var 1) (.c (.int 0))) (.cons (.ex (.call 7 (.cons (.var 0) (.cons (.c (.int 1)) .nil)))) .nil) (.cons (.ex (.call 14 (.cons (.var 0) (.cons (.c (.int 1)) (.cons (.c (.int 1)) .nil))))) .nil)) .nil) (.cons al4 ["BadItem"] (some 2) (.cons (.ret [] (.tup (.cons (.c (.str "item")) (.cons (.xf 2 al4 "index") .nil)))) .nil) (.cons al4 ["TooMany"] (some 2) (.cons (.ret [] (.tup (.cons (.c (.str "many")) (.cons (.xf 2 al4 "limit") .nil)))) .nil) (.cons al4 ["Taken"] (some 2) (.cons (.ret [] (.tup (.cons (.c (.str "taken")) (.cons (.xf 2 al4 "value") .nil)))) .nil) .nil)))) [.val v, .val (.int (k : Nat)), .no] st = .ok (.rt (.tup [.str "item", x])) st := by
    have e0 : ∀ env : Env, wipeE env [] = env := fun _ => rfl
    simp only [evS, bd, e0, evHs, decide_eq_true item_in, item_yes, chkO_true]
    have sx : ([.val v, .val (.int (k : Nat)), .no] : Env).set 2 (.xc "BadItem" ["index"] [x]) = [.val v, .val (.int (k : Nat)), .xc "BadItem" ["index"] [x]] := rfl
    rw [sx]
    simp only [hd, Out.bnd_ok]
  have all : evSs (callN tab 7) ir26 [.val v, .val (.int (k : Nat)), .no] st = .ok (.rt (.tup [.str "item", x])) st := evSs_ret s1
  rw [all]
  rfl
theorem raised_none (k : Nat) (hk : k < 2) : C8 26 [.non, .int (k : Nat)] st = .ok (.tup [.str "item", .non]) st := by
  rcases k with _ | _ | k
  · kernel_rfl
  · kernel_rfl
  · omega
theorem raised_many (k : Nat) (hk : k < 2) : C8 26 [.lst ((List.range 21).map fun k => D.tup [.str (("x" : Str) ++ tkS k), .int 1]), .int (k : Nat)] st = .ok (.tup [.str "many", .int 20]) st := by
  rcases k with _ | _ | k
  · kernel_rfl
  · kernel_rfl
  · omega
theorem raised_taken (k : Nat) (hk : k < 2) : C8 26 [.lst [.tup [.str "a", .int 1], .tup [.str "a", .int 2]], .int (k : Nat)] st = .ok (.tup [.str "taken", .str "a"]) st := by
  rcases k with _ | _ | k
  · kernel_rfl
  · kernel_rfl
  · omega
end
end Eng
set_option Elab.async false
set_option linter.all false
set_option maxRecDepth 100000
set_option maxHeartbeats 4000000
/-! k09: the law's end -/
namespace Eng
open PySem PySem.Spec L2
def dropS : Sl → Sl
  | .xc _ _ _ => .no
  | s => s
theorem dropX_cons (s : Sl) (r : Env) : dropX (s :: r) = dropS s :: dropX r := by cases s <;> rfl
section
variable {ns : List Int} {st : Store}
/-! ### a fresh name is refused -/
abbrev uBody : Ss := (.cons (.ifs (.cmp .Eq (.var 15) (.c (.int 0))) (.cons (.ex (.meth (.var 5) "Sale" "gain" 11 (.cons (.var 14) (.cons (.c (.int 1)) .nil)))) .nil) (.cons (.ifs (.cmp .Eq (.var 15) (.c (.int 1))) (.cons (.ex (.meth (.var 5) "Sale" "with_bid" 12 (.cons (.var 14) (.cons (.c (.int 1)) .nil)))) .nil) (.cons (.ex (.meth (.var 5) "Sale" "best_bid" 13 (.cons (.var 14) (.cons (.c (.int 1)) .nil)))) .nil)) .nil)) (.cons (.ret [] (.c (.bl false))) .nil))
abbrev uHand : Hs := (.cons al4 ["Unknown"] (some 16) (.cons (.ifs (.cmp .NotEq (.xf 16 al4 "value") (.var 14)) (.cons (.ret [] (.c (.bl false))) .nil) .nil) .nil) .nil)
abbrev tBody : Ss := .cons (.try_ [] uBody uHand) .nil
theorem unk_in : ("Unknown" : Str) ∈ al4 := by decide +kernel
theorem unk_yes : decide (("Unknown" : Str) ∈ (["Unknown"] : List Str)) = true := by decide +kernel
theorem fresh_turn {bs : Bids} {least : Int} (dr : Drawn bs least) {x : Str} (hx : x ∉ bs.map (·.1)) (k : Nat) (hk : k < 3) (a b c d e m o p t bd v du : Sl) :
    ∃ env', evSs C8 tBody (envM ns bs least a b c d e m o p (.val (.str x)) (.val (.int (k : Nat))) bd v du) st = .ok (.nx env') st ∧ ∃ a b c d e m o p t bd v du, env' = envM ns bs least a b c d e m o p (.val (.str x)) t bd v du := by
  have l6 := dr.len
  have e1 : C8 11 [saleD bs least, .str x, .int 1] st = .ex "Unknown" ["value"] [.str x] st := gain_no (n := 7) hx
  have e2 : C8 12 [saleD bs least, .str x, .int 1] st = .ex "Unknown" ["value"] [.str x] st := with_no (n := 7) hx
  have e3 : C8 13 [saleD bs least, .str x, .int 1] st = .ex "Unknown" ["value"] [.str x] st := best_no (n := 0) (by omega) hx
  have hbd : evSs C8 uBody (envM ns bs least a b c d e m o p (.val (.str x)) (.val (.int (k : Nat))) bd v du) st = .ex "Unknown" ["value"] [.str x] st := by
    rcases k with _ | _ | _ | k
    · simp [evEs, evBs, evAnd, evOr, evTAnd, evTOr, evO, evIf, bor, getV, getB, truthD, freeze, freeze1, bind1, binds, endD, evSs, evS, evHs, isPut, setIx, wipeE, fnIx, Out.nox, cmpD, eqO, scalD, flatD, eqD, e1, de_sale, i_gain]
    · simp [evEs, evBs, evAnd, evOr, evTAnd, evTOr, evO, evIf, bor, getV, getB, truthD, freeze, freeze1, bind1, binds, endD, evSs, evS, evHs, isPut, setIx, wipeE, fnIx, Out.nox, cmpD, eqO, scalD, flatD, eqD, e2, de_sale, i_with]
    · simp [evEs, evBs, evAnd, evOr, evTAnd, evTOr, evO, evIf, bor, getV, getB, truthD, freeze, freeze1, bind1, binds, endD, evSs, evS, evHs, isPut, setIx, wipeE, fnIx, Out.nox, cmpD, eqO, scalD, flatD, eqD, e3, de_sale, i_best]
    · omega
  have fx : fldD "value" ["value"] [D.str x] = some (.str x) := by
    show (if ("value" : Str) = "value" then some (D.str x) else _) = _
    rw [if_pos rfl]
  obtain ⟨X, hX⟩ : ∃ X : Env, X = (envM ns bs least a b c d e m o p (.val (.str x)) (.val (.int (k : Nat))) bd v du).set 16 (.xc "Unknown" ["value"] [.str x]) := ⟨_, rfl⟩
  have hd : evSs C8 (.cons (.ifs (.cmp .NotEq (.xf 16 al4 "value") (.var 14)) (.cons (.ret [] (.c (.bl false))) .nil) .nil) .nil) X st = .ok (.nx X) st := by
    have xf : (evP C8 X (.xf 16 al4 "value")).1 st = .ok (.str x) st := by
      rw [hX]
      show chkO (decide (("Unknown" : Str) ∈ al4)) (ofO (fldD "value" ["value"] [D.str x]) st) = _
      rw [decide_eq_true unk_in, fx]
      rfl
    have g : getB X 14 = some (.str x) := by rw [hX]; rfl
    have q : cmpD .NotEq (.str x) (.str x) = some false := by simp [cmpD, eqO, scalD, flatD, eqD]
    simp only [evSs, evS, t_cmp, e_cmp, bor, xf, g, ofO_some, Out.bnd_ok, q, Option.map_some, truthD]
  refine ⟨(dropX X).set 16 .no, ?_, dropS a, dropS b, dropS c, dropS d, dropS e, dropS m, dropS o, dropS p, .val (.int (k : Nat)), dropS bd, dropS v, dropS du, ?_⟩
  · have e0 : ∀ env : Env, wipeE env [] = env := fun _ => rfl
    refine (evSs_next (env' := (dropX X).set 16 .no) (st' := st) ?_).trans rfl
    simp only [evS, hbd, e0, evHs, decide_eq_true unk_in, unk_yes, chkO_true]
    rw [← hX]
    simp only [hd, Out.bnd_ok]
  · rw [hX]
    simp only [envM, List.set_cons_succ, List.set_cons_zero, dropX_cons]
    rfl
/-! ### refused rows -/
abbrev rBody : Ss := .cons (.ifs (.cmp .NotEq (.lc (.var 15) (.v 15) (.rng (.cons (.c (.int 2)) .nil)) (.so (.not (.call 23 (.cons (.call 26 (.cons (.var 18) (.cons (.var 15) .nil))) (.cons (.var 19) .nil))))) [15]) (.lst .nil)) (.cons (.ret [] (.c (.bl false))) .nil) .nil) .nil
theorem ref_ok {k x : D} (hx : plainD x = true) (q : eqO (.tup [k, x]) (.tup [k, x]) = some true) : C8 23 [.tup [k, x], .tup [k, x]] st = .ok (.bl true) st := by
  show callN tab (7 + 1) 23 _ st = _
  rw [call_fn (show tab[23]? = some ⟨2, 2, ir23, none⟩ from rfl) 7 _ _ rfl]
  show endD (evSs (callN tab 7) ir23 [.val (.tup [k, x]), .val (.tup [k, x])] st) = _
  have w := whole (st := st) t21 6 x hx
  have i : ixS (.tup [k, x]) (.int 1) = some x := rfl
  have dl : deref st (.tup [k, x]) = some (.tup [k, x]) := rfl
  have q2 : eqO (.bl (wholeD x)) (.bl (wholeD x)) = some true := by cases wholeD x <;> rfl
  simp [evEs, evBs, evAnd, evOr, evTAnd, evTOr, evO, evIf, bor, getV, getB, truthD, freeze, freeze1, bind1, binds, endD, evSs, evS, evHs, isPut, setIx, wipeE, fnIx, Out.nox, ir23, cmpD, q, dl, i, w, q2]
theorem row_turn {bs : Bids} {least : Int} {a b c d e m o p f t bd : Sl} {v due : D} (h1 : ∀ k < 2, C8 26 [v, .int (k : Nat)] st = .ok due st) (h2 : C8 23 [due, due] st = .ok (.bl true) st) :
    evSs C8 rBody (envM ns bs least a b c d e m o p f t bd (.val v) (.val due)) st = .ok (.nx (envM ns bs least a b c d e m o p f t bd (.val v) (.val due))) st := by
  have lc : (evP C8 (envM ns bs least a b c d e m o p f t bd (.val v) (.val due)) (.lc (.var 15) (.v 15) (.rng (.cons (.c (.int 2)) .nil)) (.so (.not (.call 23 (.cons (.call 26 (.cons (.var 18) (.cons (.var 15) .nil))) (.cons (.var 19) .nil))))) [15])).1 st = .ok (.lst []) st := by
    have z := lc_filter (C := C8) (env := envM ns bs least a b c d e m o p f t bd (.val v) (.val due)) (elt := .var 15) (tg := .v 15) (it := .rng (.cons (.c (.int 2)) .nil)) (c := .not (.call 23 (.cons (.call 26 (.cons (.var 18) (.cons (.var 15) .nil))) (.cons (.var 19) .nil)))) (ws := [15]) (st := st)
      (ds := (List.range 2).map fun (k : Nat) => D.int (k : Int)) (fun _ => false) (fun d => d) rfl fun d' hd => by
      obtain ⟨k, hk, rfl⟩ := List.mem_map.mp hd
      have hk := List.mem_range.mp hk
      refine ⟨_, rfl, ?_, fun h => by cases h⟩
      have g18 : getV ((wipeE (envM ns bs least a b c d e m o p f t bd (.val v) (.val due)) [15]).set 15 (.val (.int (k : Int)))) 18 = some v := rfl
      have g19 : getV ((wipeE (envM ns bs least a b c d e m o p f t bd (.val v) (.val due)) [15]).set 15 (.val (.int (k : Int)))) 19 = some due := rfl
      have g15 : getV ((wipeE (envM ns bs least a b c d e m o p f t bd (.val v) (.val due)) [15]).set 15 (.val (.int (k : Int)))) 15 = some (.int (k : Int)) := rfl
      simp only [t_not, t_call, e_call, evEs, e_var, g18, g19, g15, ofO_some, Out.bnd_ok, h1 k hk, h2, truthD, Bool.not_true]
    rw [z]
    rfl
  refine (evSs_next (env' := envM ns bs least a b c d e m o p f t bd (.val v) (.val due)) (st' := st) ?_).trans rfl
  have q : cmpD .NotEq (.lst []) (.lst []) = some false := rfl
  have z0 : decide (([] : List D).length ≤ sizeLine) = true := decide_eq_true (Nat.zero_le _)
  simp only [evS, t_cmp, e_cmp, bor, lc, Out.bnd_ok, e_lst, evEs, z0, chkO_true, q, Option.map_some, ofO_some, truthD, evSs]
abbrev bads : List D := [.tup [.str "A", .int 1], .tup [.str "a", .int (-1)], .tup [.str "a", .int 10000], .tup [.str "a", .bl true], .tup [.str "a"], .non]
theorem bad4 : ∀ x ∈ bads, callN tab 4 6 [x] st = .ok (.bl false) st := fun x hx => by
  simp only [List.mem_cons, List.not_mem_nil, or_false] at hx
  rcases hx with rfl | rfl | rfl | rfl | rfl | rfl <;> kernel_rfl
theorem bad5 : ∀ x ∈ bads, callN tab 5 6 [x] st = .ok (.bl false) st := fun x hx => by
  simp only [List.mem_cons, List.not_mem_nil, or_false] at hx
  rcases hx with rfl | rfl | rfl | rfl | rfl | rfl <;> kernel_rfl
theorem bids_bid {n : Nat} : ∀ {bs : Bids}, (∀ p ∈ bs, nameB p.1 = true ∧ 0 ≤ p.2 ∧ p.2 ≤ 9999) → ∀ d ∈ bs.map bD, callN tab (n + 3) 6 [d] st = .ok (.bl true) st := fun {bs} ok d hd => by
  obtain ⟨items, k1, k2⟩ := hand_of bs
  cases k1
  exact all2_bid k2 ok d hd
theorem raised_bid {bs : Bids} {least : Int} (dr : Drawn bs least) {x : D} (hx : x ∈ bads) : ∀ k < 2, C8 26 [.lst (bs.map bD ++ [x]), .int (k : Nat)] st = .ok (.tup [.str "item", .int (bs.length : Nat)]) st := by
  have ok := dr.ok.ok
  have w6 : callN tab 6 5 [.lst (bs.map bD ++ [x]), .fn "is_bid", .int 20] st = .ex "BadItem" ["index"] [.int ((bs.map bD).length : Nat)] st :=
    want_item (n := 1) t5 t2 (show ([("is_bid", 6)] : List (Str × Nat)).lookup ("is_bid" : Str) = some 6 by decide +kernel) rfl (bids_bid (n := 2) ok) (bad5 x hx)
  have w5 : callN tab 5 5 [.lst (bs.map bD ++ [x]), .fn "is_bid", .int 20] st = .ex "BadItem" ["index"] [.int ((bs.map bD).length : Nat)] st :=
    want_item (n := 0) t5 t2 (show ([("is_bid", 6)] : List (Str × Nat)).lookup ("is_bid" : Str) = some 6 by decide +kernel) rfl (bids_bid (n := 1) ok) (bad4 x hx)
  rw [List.length_map] at w6 w5
  exact raised_item (sale_bad (n := 1) w6) (lots_bad (n := 0) (sale_bad (n := 0) w5))
end
end Eng
set_option Elab.async false
set_option linter.all false
set_option maxRecDepth 100000
set_option maxHeartbeats 4000000
/-! k09: the law -/
namespace Eng
open PySem PySem.Spec L2
section
variable {ns : List Int} {st : Store}
theorem fresh_loop {bs : Bids} {least : Int} (dr : Drawn bs least) {x : Str} (hx : x ∉ bs.map (·.1)) (a b c d e m o p : Sl) :
    ∃ a' b' c' d' e' m' o' p' t bd v du, evS C8 (.for_ [] (.v 15) (.rng (.cons (.c (.int 3)) .nil)) tBody) (envM ns bs least a b c d e m o p (.val (.str x)) .no .no .no .no) st = .ok (.nx (envM ns bs least a' b' c' d' e' m' o' p' (.val (.str x)) t bd v du)) st := by
  obtain ⟨env', st', e1, ⟨a', b', c', d', e', m', o', p', t, bd, v, du, ee⟩, hst⟩ := forGo_inv (turn := fun d env st => (ofO (bind1 (.v 15) d env) st).bnd fun env' st => evSs C8 tBody env' st) (fun env st' => (∃ a b c d e m o p t bd v du, env = envM ns bs least a b c d e m o p (.val (.str x)) t bd v du) ∧ st' = st) ((List.range 3).map fun (k : Nat) => D.int (k : Int)) (fun d0 hd env st' ⟨⟨a, b, c, d, e, m, o, p, t, bd, v, du, ee⟩, hst⟩ => by
    subst ee hst
    obtain ⟨k, hk, rfl⟩ := List.mem_map.mp hd
    have hk := List.mem_range.mp hk
    obtain ⟨env', e1, r⟩ := fresh_turn (ns := ns) (st := st') dr hx k hk a b c d e m o p t bd v du
    exact ⟨env', st', e1, r, rfl⟩) (envM ns bs least a b c d e m o p (.val (.str x)) .no .no .no .no) st ⟨⟨_, _, _, _, _, _, _, _, _, _, _, _, rfl⟩, rfl⟩
  subst ee hst
  exact ⟨a', b', c', d', e', m', o', p', t, bd, v, du, e1⟩
theorem rows_loop {bs : Bids} {least : Int} (dr : Drawn bs least) {x : D} (hx : x ∈ bads) (a b c d e m o p f t v du : Sl) :
    ∃ env', evS C8 (.for_ [] (.t (.cons (.v 18) (.cons (.v 19) .nil))) (.seq (.lst (.cons (.tup (.cons (.bin .Add (.var 3) (.lst (.cons (.var 17) .nil))) (.cons (.tup (.cons (.c (.str "item")) (.cons (.bi "len" (.cons (.var 3) .nil)) .nil))) .nil))) (.cons (.tup (.cons (.c .non) (.cons (.tup (.cons (.c (.str "item")) (.cons (.c .non) .nil))) .nil))) (.cons (.tup (.cons (.lc (.tup (.cons (.bin .Add (.c (.str "x")) (.bi "str" (.cons (.var 6) .nil))) (.cons (.c (.int 1)) .nil))) (.v 6) (.rng (.cons (.c (.int 21)) .nil)) .no [6]) (.cons (.tup (.cons (.c (.str "many")) (.cons (.c (.int 20)) .nil))) .nil))) (.cons (.tup (.cons (.lst (.cons (.tup (.cons (.c (.str "a")) (.cons (.c (.int 1)) .nil))) (.cons (.tup (.cons (.c (.str "a")) (.cons (.c (.int 2)) .nil))) .nil))) (.cons (.tup (.cons (.c (.str "taken")) (.cons (.c (.str "a")) .nil))) .nil))) .nil)))))) rBody) (envM ns bs least a b c d e m o p f t (.val x) v du) st = .ok (.nx env') st := by
  have hb := big
  have l6 := dr.len
  have z2 : (2 : Nat) ≤ sizeLine := by omega
  have z4 : (4 : Nat) ≤ sizeLine := by omega
  have z1 : (1 : Nat) ≤ sizeLine := by omega
  obtain ⟨W, hW⟩ : ∃ W : List D, W = (List.range 21).map fun k => D.tup [.str (("x" : Str) ++ tkS k), .int 1] := ⟨_, rfl⟩
  have lcX : (evP C8 (envM ns bs least a b c d e m o p f t (.val x) v du) (.lc (.tup (.cons (.bin .Add (.c (.str "x")) (.bi "str" (.cons (.var 6) .nil))) (.cons (.c (.int 1)) .nil))) (.v 6) (.rng (.cons (.c (.int 21)) .nil)) .no [6])).1 st = .ok (.lst W) st := by
    have z := lc_map (C := C8) (env := envM ns bs least a b c d e m o p f t (.val x) v du) (elt := .tup (.cons (.bin .Add (.c (.str "x")) (.bi "str" (.cons (.var 6) .nil))) (.cons (.c (.int 1)) .nil))) (tg := .v 6) (it := .rng (.cons (.c (.int 21)) .nil)) (ws := [6]) (st := st) (ds := (List.range 21).map fun (k : Nat) => D.int (k : Int))
      (fun d => match d with | .int k => .tup [.str (("x" : Str) ++ tkS k.toNat), .int 1] | d => d) (by
        have e : rngD [.int 21] = some ((List.range 21).map fun (k : Nat) => D.int (k : Int)) := rng_nat (n := 21) (by omega)
        show (ofO (rngD [.int 21]) st) = _
        rw [e]
        rfl) fun d' hd => by
      obtain ⟨k, hk, rfl⟩ := List.mem_map.mp hd
      have hk := List.mem_range.mp hk
      have c2 : biD "str" [.int (k : Int)] = some (.str (tkS k)) := by
        show (if ((k : Nat) : Int).natAbs.log2 < 1920 then some (D.str (toString ((k : Nat) : Int))) else none) = _
        rw [if_pos (qk_log k (by omega))]
        rfl
      have l1 : ("x" : Str).length = 1 := by decide +kernel
      have ad : binD .Add (.str "x") (.str (tkS k)) = some (.str (("x" : Str) ++ tkS k)) := by
        show (if ("x" : Str).length + (tkS k).length ≤ sizeLine then some (D.str (("x" : Str) ++ tkS k)) else none) = _
        have := qk_len k (by omega)
        rw [l1, if_pos (by omega)]
      refine ⟨_, rfl, ?_⟩
      have g : getB ((wipeE (envM ns bs least a b c d e m o p f t (.val x) v du) [6]).set 6 (.val (.int (k : Int)))) 6 = some (.int (k : Int)) := rfl
      have z2' : decide ([D.str (("x" : Str) ++ tkS k), D.int 1].length ≤ sizeLine) = true := decide_eq_true z2
      simp only [e_tup, evEs, e_bin, bor, e_c, Out.bnd_ok, e_bi, evBs, g, ofO_some, c2, ad, z2', chkO_true]
      rfl
    rw [z, List.map_map, hW]
    rfl
  have rm : ∀ k < 2, C8 26 [.lst W, .int (k : Nat)] st = .ok (.tup [.str "many", .int 20]) st := by rw [hW]; exact fun k hk => raised_many k hk
  have rb := raised_bid (st := st) dr hx
  have ad : binD .Add (.lst (bs.map bD)) (.lst [x]) = some (.lst (bs.map bD ++ [x])) := by
    show (if (bs.map bD).length + [x].length ≤ sizeLine then some (D.lst (bs.map bD ++ [x])) else none) = _
    rw [List.length_map, if_pos (by show bs.length + 1 ≤ sizeLine; omega)]
  have lb := len_bids (bs := bs)
  obtain ⟨V, hV⟩ : ∃ V, V = D.lst (bs.map bD ++ [x]) := ⟨_, rfl⟩
  rw [← hV] at ad rb
  have lst : ∀ env, env = envM ns bs least a b c d e m o p f t (.val x) v du → (evP C8 env (.lst (.cons (.tup (.cons (.bin .Add (.var 3) (.lst (.cons (.var 17) .nil))) (.cons (.tup (.cons (.c (.str "item")) (.cons (.bi "len" (.cons (.var 3) .nil)) .nil))) .nil))) (.cons (.tup (.cons (.c .non) (.cons (.tup (.cons (.c (.str "item")) (.cons (.c .non) .nil))) .nil))) (.cons (.tup (.cons (.lc (.tup (.cons (.bin .Add (.c (.str "x")) (.bi "str" (.cons (.var 6) .nil))) (.cons (.c (.int 1)) .nil))) (.v 6) (.rng (.cons (.c (.int 21)) .nil)) .no [6]) (.cons (.tup (.cons (.c (.str "many")) (.cons (.c (.int 20)) .nil))) .nil))) (.cons (.tup (.cons (.lst (.cons (.tup (.cons (.c (.str "a")) (.cons (.c (.int 1)) .nil))) (.cons (.tup (.cons (.c (.str "a")) (.cons (.c (.int 2)) .nil))) .nil))) (.cons (.tup (.cons (.c (.str "taken")) (.cons (.c (.str "a")) .nil))) .nil))) .nil)))))).1 st
      = .ok (.lst [.tup [V, .tup [.str "item", .int (bs.length : Nat)]], .tup [.non, .tup [.str "item", .non]], .tup [.lst W, .tup [.str "many", .int 20]], .tup [.lst [.tup [.str "a", .int 1], .tup [.str "a", .int 2]], .tup [.str "taken", .str "a"]]]) st := by
    intro env he
    have g3 : getB env 3 = some (.lst (bs.map bD)) := by rw [he]; rfl
    have g17 : getV env 17 = some x := by rw [he]; rfl
    rw [← he] at lcX
    have d1 : ∀ x : D, decide ([x].length ≤ sizeLine) = true := fun _ => decide_eq_true z1
    have d2 : ∀ x y : D, decide ([x, y].length ≤ sizeLine) = true := fun _ _ => decide_eq_true z2
    have d4 : ∀ x y z w : D, decide ([x, y, z, w].length ≤ sizeLine) = true := fun _ _ _ _ => decide_eq_true z4
    simp only [e_lst, e_tup, evEs, e_bin, bor, g3, ofO_some, Out.bnd_ok, e_var, g17, d1, d2, d4, chkO_true, ad, e_c, e_bi, evBs, lb, lcX]
  have hlst := lst _ rfl
  have q1 : C8 23 [.tup [.str "item", .int (bs.length : Nat)], .tup [.str "item", .int (bs.length : Nat)]] st = .ok (.bl true) st := ref_ok rfl (by
    have dd : dataD 20 (.tup [.str "item", .int (bs.length : Nat)]) = true := by
      show (PyData.strOk ("item" : Str) && true) = true
      kernel_rfl
    obtain ⟨X, hX⟩ : ∃ X, X = D.int (bs.length : Nat) := ⟨_, rfl⟩
    have e : eqD X X = true := by rw [hX]; simp [eqD]
    rw [← hX] at dd ⊢
    show (if scalD (.tup [.str "item", X]) (.tup [.str "item", X]) = true then some (eqD (.tup [.str "item", X]) (.tup [.str "item", X])) else if (dataD 20 (.tup [.str "item", X]) && dataD 20 (.tup [.str "item", X])) = true then some (eqD (.tup [.str "item", X]) (.tup [.str "item", X])) else none) = some true
    rw [dd]
    simp [eqD, eqDs, scalD, flatD, e])
  have q2 : C8 23 [.tup [.str "item", .non], .tup [.str "item", .non]] st = .ok (.bl true) st := ref_ok rfl (by kernel_rfl)
  have q3 : C8 23 [.tup [.str "many", .int 20], .tup [.str "many", .int 20]] st = .ok (.bl true) st := ref_ok rfl (by kernel_rfl)
  have q4 : C8 23 [.tup [.str "taken", .str "a"], .tup [.str "taken", .str "a"]] st = .ok (.bl true) st := ref_ok rfl (by kernel_rfl)
  have t1 := row_turn (ns := ns) (bs := bs) (least := least) (a := a) (b := b) (c := c) (d := d) (e := e) (m := m) (o := o) (p := p) (f := f) (t := t) (bd := .val x) rb q1
  have t2 := row_turn (ns := ns) (bs := bs) (least := least) (a := a) (b := b) (c := c) (d := d) (e := e) (m := m) (o := o) (p := p) (f := f) (t := t) (bd := .val x) (v := .non) (fun k hk => raised_none (st := st) k hk) q2
  have t3 := row_turn (ns := ns) (bs := bs) (least := least) (a := a) (b := b) (c := c) (d := d) (e := e) (m := m) (o := o) (p := p) (f := f) (t := t) (bd := .val x) rm q3
  have t4 := row_turn (ns := ns) (bs := bs) (least := least) (a := a) (b := b) (c := c) (d := d) (e := e) (m := m) (o := o) (p := p) (f := f) (t := t) (bd := .val x) (fun k hk => raised_taken (st := st) k hk) q4
  refine ⟨envM ns bs least a b c d e m o p f t (.val x) (.val (.lst [.tup [.str "a", .int 1], .tup [.str "a", .int 2]])) (.val (.tup [.str "taken", .str "a"])), ?_⟩
  obtain ⟨turn, hturn⟩ : ∃ turn : D → Env → Store → Out Fl, turn = fun d env st => (ofO (bind1 (.t (.cons (.v 18) (.cons (.v 19) .nil))) d env) st).bnd fun env' st => evSs C8 rBody env' st := ⟨_, rfl⟩
  have go : ∀ v due v' du' : D, ∀ s1 s2, evSs C8 rBody (envM ns bs least a b c d e m o p f t (.val x) (.val v) (.val due)) st = .ok (.nx (envM ns bs least a b c d e m o p f t (.val x) (.val v) (.val due))) st → turn (.tup [v, due]) (envM ns bs least a b c d e m o p f t (.val x) s1 s2) st = .ok (.nx (envM ns bs least a b c d e m o p f t (.val x) (.val v) (.val due))) st := fun v due v' du' s1 s2 h => by
    rw [hturn]
    exact h
  have it : itemsD (.lst [.tup [V, .tup [.str "item", .int (bs.length : Nat)]], .tup [.non, .tup [.str "item", .non]], .tup [.lst W, .tup [.str "many", .int 20]], .tup [.lst [.tup [.str "a", .int 1], .tup [.str "a", .int 2]], .tup [.str "taken", .str "a"]]]) = some [.tup [V, .tup [.str "item", .int (bs.length : Nat)]], .tup [.non, .tup [.str "item", .non]], .tup [.lst W, .tup [.str "many", .int 20]], .tup [.lst [.tup [.str "a", .int 1], .tup [.str "a", .int 2]], .tup [.str "taken", .str "a"]]] := rfl
  have fr : ∀ env : Env, freeze env [] = env := fun _ => rfl
  simp only [evS, fr, evItV, e_var, hlst, Out.bnd_ok, it, ofO_some]
  rw [← hturn]
  simp only [forGo, go _ _ .non .non _ _ t1, go _ _ .non .non _ _ t2, go _ _ .non .non _ _ t3, go _ _ .non .non _ _ t4, Out.bnd_ok]
end
theorem law_true (ns : List Int) (n : Nat) : ∃ st, callN tab 9 27 [.scr ns] [] = .ok (.bl true) st := by
  obtain ⟨bs, least, st1, dr, h1, k1⟩ := head_ok ns
  obtain ⟨a, b, c, d, e, st2, k2, h2⟩ := loop_ok dr h1
  obtain ⟨m, o, p, st3, h3, k3⟩ := lots_law dr h2 a b c d e
  have l6 := dr.len
  obtain ⟨x, hx, k4⟩ := strange_ok (st := st3) (N := bs.map (·.1)) (by rw [List.length_map]; omega)
  obtain ⟨a', b', c', d', e', m', o', p', t, bd, v, du, k5⟩ := fresh_loop (ns := ns) (st := st3) dr hx a b c d e m o p
  obtain ⟨y, st4, k6, h4, hy⟩ := pick t15 t16 h3 6 bads (by decide) (by decide)
  have k6 : C8 16 [.obj 0, .lst bads] st3 = .ok y st4 := k6
  obtain ⟨env', k7⟩ := rows_loop (ns := ns) (st := st4) dr hy a' b' c' d' e' m' o' p' (.val (.str x)) t v du
  refine ⟨st4, ?_⟩
  show callN tab (8 + 1) 27 _ [] = _
  rw [call_fn (show tab[27]? = some ⟨1, 22, ir27, none⟩ from rfl) 8 _ _ rfl]
  show endD (evSs C8 ir27 (.val (.scr ns) :: List.replicate 21 .no) []) = _
  have j4 : evS C8 (.asg [] (.v 14) (.call 22 (.cons (.var 2) .nil))) (envM ns bs least a b c d e m o p .no .no .no .no .no) st3 = .ok (.nx (envM ns bs least a b c d e m o p (.val (.str x)) .no .no .no .no)) st3 := by
    have g : getV (envM ns bs least a b c d e m o p .no .no .no .no .no) 2 = some (.lst ((bs.map (·.1)).map .str)) := rfl
    simp only [evS, freeze, e_call, evEs, e_var, g, ofO_some, Out.bnd_ok, k4, bind1]
    rfl
  have j6 : evS C8 (.asg [] (.v 17) (.call 16 (.cons (.var 1) (.cons (.lst (.cons (.tup (.cons (.c (.str "A")) (.cons (.c (.int 1)) .nil))) (.cons (.tup (.cons (.c (.str "a")) (.cons (.neg (.c (.int 1))) .nil))) (.cons (.tup (.cons (.c (.str "a")) (.cons (.c (.int 10000)) .nil))) (.cons (.tup (.cons (.c (.str "a")) (.cons (.c (.bl true)) .nil))) (.cons (.tup (.cons (.c (.str "a")) .nil)) (.cons (.c .non) .nil))))))) .nil)))) (envM ns bs least a' b' c' d' e' m' o' p' (.val (.str x)) t bd v du) st3 = .ok (.nx (envM ns bs least a' b' c' d' e' m' o' p' (.val (.str x)) t (.val y) v du)) st4 := by
    have hb := big
    have z2 : (2 : Nat) ≤ sizeLine := by omega
    have z1 : (1 : Nat) ≤ sizeLine := by omega
    have z6 : (6 : Nat) ≤ sizeLine := by omega
    have d1 : ∀ x : D, decide ([x].length ≤ sizeLine) = true := fun _ => decide_eq_true z1
    have d2 : ∀ x y : D, decide ([x, y].length ≤ sizeLine) = true := fun _ _ => decide_eq_true z2
    have d6 : ∀ x y z w u v : D, decide ([x, y, z, w, u, v].length ≤ sizeLine) = true := fun _ _ _ _ _ _ => decide_eq_true z6
    have g1 : getV (envM ns bs least a' b' c' d' e' m' o' p' (.val (.str x)) t bd v du) 1 = some (.obj 0) := rfl
    have v : (evP C8 (envM ns bs least a' b' c' d' e' m' o' p' (.val (.str x)) t bd v du) (.call 16 (.cons (.var 1) (.cons (.lst (.cons (.tup (.cons (.c (.str "A")) (.cons (.c (.int 1)) .nil))) (.cons (.tup (.cons (.c (.str "a")) (.cons (.neg (.c (.int 1))) .nil))) (.cons (.tup (.cons (.c (.str "a")) (.cons (.c (.int 10000)) .nil))) (.cons (.tup (.cons (.c (.str "a")) (.cons (.c (.bl true)) .nil))) (.cons (.tup (.cons (.c (.str "a")) .nil)) (.cons (.c .non) .nil))))))) .nil)))).1 st3 = .ok y st4 := by
      simp only [e_call, evEs, e_var, g1, ofO_some, Out.bnd_ok, e_lst, e_tup, e_c, e_neg, d1, d2, d6, chkO_true, k6]
    simp only [evS, freeze, v, Out.bnd_ok, bind1, ofO_some]
    rfl
  have all : evSs C8 ir27 (.val (.scr ns) :: List.replicate 21 .no) [] = .ok (.rt (.bl true)) st4 :=
    (k1 _).trans ((evSs_next (test1 (ns := ns) (st := st1) dr)).trans ((evSs_next (test2 (ns := ns) (st := st1) dr)).trans ((evSs_next k2).trans ((k3 _).trans ((evSs_next j4).trans ((evSs_next k5).trans ((evSs_next j6).trans ((evSs_next k7).trans rfl))))))))
  rw [all]
  rfl
end Eng
set_option Elab.async false
set_option linter.all false
set_option maxRecDepth 100000
set_option maxHeartbeats 0
namespace Eng
open PySem PySem.Spec PyProof.Rows L2

def dd0 : He.DefD := ⟨("is_whole", none), "is_whole", "is_whole", defArgs st0, defBody st0, defScope st0, [], []⟩
def dd1 : He.DefD := ⟨("is_number", none), "is_number", "is_number", defArgs st1, defBody st1, defScope st1, [], []⟩
def dd2 : He.DefD := ⟨("is_row", none), "is_row", "is_row", defArgs st2, defBody st2, defScope st2, [], []⟩
def dd3 : He.DefD := ⟨("is_name", none), "is_name", "is_name", defArgs st3, defBody st3, defScope st3, [], []⟩
def dd4 : He.DefD := ⟨("frozen", none), "frozen", "frozen", defArgs st4, defBody st4, defScope st4, [], []⟩
def dd5 : He.DefD := ⟨("want_row", none), "want_row", "want_row", defArgs st5, defBody st5, defScope st5, [], []⟩
def dd6 : He.DefD := ⟨("is_bid", none), "is_bid", "is_bid", defArgs st6, defBody st6, defScope st6, [], []⟩
def dd7 : He.DefD := ⟨("Sale", some "__init__"), "__init__", "Sale.__init__", defArgs st7, defBody st7, defScope st7, [], []⟩
def dd8 : He.DefD := ⟨("Sale", some "__eq__"), "__eq__", "Sale.__eq__", defArgs st8, defBody st8, defScope st8, [], []⟩
def dd9 : He.DefD := ⟨("Sale", some "winner"), "winner", "Sale.winner", defArgs st9, defBody st9, defScope st9, [], []⟩
def dd10 : He.DefD := ⟨("Sale", some "price"), "price", "Sale.price", defArgs st10, defBody st10, defScope st10, [], []⟩
def dd11 : He.DefD := ⟨("Sale", some "gain"), "gain", "Sale.gain", defArgs st11, defBody st11, defScope st11, [], []⟩
def dd12 : He.DefD := ⟨("Sale", some "with_bid"), "with_bid", "Sale.with_bid", defArgs st12, defBody st12, defScope st12, [], []⟩
def dd13 : He.DefD := ⟨("Sale", some "best_bid"), "best_bid", "Sale.best_bid", defArgs st13, defBody st13, defScope st13, [], []⟩
def dd14 : He.DefD := ⟨("lots", none), "lots", "lots", defArgs st14, defBody st14, defScope st14, [], []⟩
def dd15 : He.DefD := ⟨("_law_taken", none), "_law_taken", "_law_taken", defArgs st15, defBody st15, defScope st15, [], []⟩
def dd16 : He.DefD := ⟨("_law_pick", none), "_law_pick", "_law_pick", defArgs st16, defBody st16, defScope st16, [], []⟩
def dd17 : He.DefD := ⟨("_law_alike", none), "_law_alike", "_law_alike", defArgs st17, defBody st17, defScope st17, [], []⟩
def dd18 : He.DefD := ⟨("_law_mixed", none), "_law_mixed", "_law_mixed", defArgs st18, defBody st18, defScope st18, [], []⟩
def dd19 : He.DefD := ⟨("_law_name", none), "_law_name", "_law_name", defArgs st19, defBody st19, defScope st19, [], []⟩
def dd20 : He.DefD := ⟨("_law_names", none), "_law_names", "_law_names", defArgs st20, defBody st20, defScope st20, [], []⟩
def dd21 : He.DefD := ⟨("_law_whole", none), "_law_whole", "_law_whole", defArgs st21, defBody st21, defScope st21, [], []⟩
def dd22 : He.DefD := ⟨("_law_strange", none), "_law_strange", "_law_strange", defArgs st22, defBody st22, defScope st22, [], []⟩
def dd23 : He.DefD := ⟨("_law_refused_row", none), "_law_refused_row", "_law_refused_row", defArgs st23, defBody st23, defScope st23, [], []⟩
def dd24 : He.DefD := ⟨("_law_sold", none), "_law_sold", "_law_sold", defArgs st24, defBody st24, defScope st24, [], []⟩
def dd25 : He.DefD := ⟨("_law_gain", none), "_law_gain", "_law_gain", defArgs st25, defBody st25, defScope st25, [], []⟩
def dd26 : He.DefD := ⟨("_law_raised", none), "_law_raised", "_law_raised", defArgs st26, defBody st26, defScope st26, [], []⟩
def dd27 : He.DefD := ⟨("law", none), "law", "law", defArgs st27, defBody st27, defScope st27, [], []⟩
def fns : List He.DefD := [dd0, dd1, dd2, dd3, dd4, dd5, dd6, dd7, dd8, dd9, dd10, dd11, dd12, dd13, dd14, dd15, dd16, dd17, dd18, dd19, dd20, dd21, dd22, dd23, dd24, dd25, dd26, dd27]
abbrev sx0 : Stmt := sub (top 2) 0
def xd0 : XcD := ⟨"BadItem", "BadItem.__init__", defArgs sx0, defBody sx0, defScope sx0⟩
abbrev sx1 : Stmt := sub (top 3) 0
def xd1 : XcD := ⟨"TooMany", "TooMany.__init__", defArgs sx1, defBody sx1, defScope sx1⟩
abbrev sx2 : Stmt := sub (top 4) 0
def xd2 : XcD := ⟨"Unknown", "Unknown.__init__", defArgs sx2, defBody sx2, defScope sx2⟩
abbrev sx3 : Stmt := sub (top 5) 0
def xd3 : XcD := ⟨"Taken", "Taken.__init__", defArgs sx3, defBody sx3, defScope sx3⟩
def xcs : List XcD := [xd0, xd1, xd2, xd3]
abbrev prog : Program := PySem.Challenge.pw_pawnkept_k09_whole_sales
theorem xk0 {w : World} {K : PySem.W.Frag} {h : Heap} {mg : Str → Option Value} (X : K.In h) (Gm : h.Ns mainGlobals mg) (h1 : raiB K "BadItem" = true) (h2 : supB K prog.main.file "BadItem" "BadItem.__init__" = true) (h3 : (He.Fa.free "super").ok K = true) (h4 : decide (PySem.W.findIn K (.ref (He.ga K "BadItem")) "index" = some none) = true) (e : fnS K "BadItem" = xd0.val) :
    XcOk prog w K mg "BadItem" 1 (fun vs => (["index"] : List Str).zip vs.reverse) := by
  obtain ⟨g1, h1⟩ := He.ba h1
  obtain ⟨g2, h1⟩ := He.ba h1
  obtain ⟨g3, g4⟩ := He.ba h1
  refine ⟨fun A R s us hl XK G hroom hq => ?_, He.glo_ok X Gm g1, g2, of_decide_eq_true g3, of_decide_eq_true g4⟩
  obtain ⟨v, rfl⟩ : ∃ v, us = [v] := by
    match us, hl with
    | [v], _ => exact ⟨v, rfl⟩
  obtain ⟨mb, SG⟩ := sup_gnd G (He.free_ok X Gm h3)
  refine made1 (p := "index") (f := "index") (supB_ok (d := xd0) h2 e) ⟨⟨_, rfl, rfl⟩, rfl, rfl, rfl, rfl, rfl, rfl, rfl⟩ ⟨fun L fI cda cc => ⟨_, rfl⟩, fun _ _ _ _ => rfl, fun _ _ _ _ => rfl⟩ rfl (fun _ _ _ _ _ _ _ _ => rfl) (by decide) rfl (by decide) (of_decide_eq_true h4) (fun _ _ _ => rfl) (by decide +kernel) (by decide +kernel) XK SG G.nolimit hroom fun h' tk e d M => hq h' tk e d _ M fun vs r g => ?_
  obtain ⟨x, rfl, rx⟩ : ∃ x, vs = [x] ∧ RelV x v := by
    cases r with
    | cons a b => cases b; exact ⟨_, rfl, a⟩
  exact vals_one rx g
theorem xk1 {w : World} {K : PySem.W.Frag} {h : Heap} {mg : Str → Option Value} (X : K.In h) (Gm : h.Ns mainGlobals mg) (h1 : raiB K "TooMany" = true) (h2 : supB K prog.main.file "TooMany" "TooMany.__init__" = true) (h3 : (He.Fa.free "super").ok K = true) (h4 : decide (PySem.W.findIn K (.ref (He.ga K "TooMany")) "limit" = some none) = true) (e : fnS K "TooMany" = xd1.val) :
    XcOk prog w K mg "TooMany" 1 (fun vs => (["limit"] : List Str).zip vs.reverse) := by
  obtain ⟨g1, h1⟩ := He.ba h1
  obtain ⟨g2, h1⟩ := He.ba h1
  obtain ⟨g3, g4⟩ := He.ba h1
  refine ⟨fun A R s us hl XK G hroom hq => ?_, He.glo_ok X Gm g1, g2, of_decide_eq_true g3, of_decide_eq_true g4⟩
  obtain ⟨v, rfl⟩ : ∃ v, us = [v] := by
    match us, hl with
    | [v], _ => exact ⟨v, rfl⟩
  obtain ⟨mb, SG⟩ := sup_gnd G (He.free_ok X Gm h3)
  refine made1 (p := "limit") (f := "limit") (supB_ok (d := xd1) h2 e) ⟨⟨_, rfl, rfl⟩, rfl, rfl, rfl, rfl, rfl, rfl, rfl⟩ ⟨fun L fI cda cc => ⟨_, rfl⟩, fun _ _ _ _ => rfl, fun _ _ _ _ => rfl⟩ rfl (fun _ _ _ _ _ _ _ _ => rfl) (by decide) rfl (by decide) (of_decide_eq_true h4) (fun _ _ _ => rfl) (by decide +kernel) (by decide +kernel) XK SG G.nolimit hroom fun h' tk e d M => hq h' tk e d _ M fun vs r g => ?_
  obtain ⟨x, rfl, rx⟩ : ∃ x, vs = [x] ∧ RelV x v := by
    cases r with
    | cons a b => cases b; exact ⟨_, rfl, a⟩
  exact vals_one rx g
theorem xk2 {w : World} {K : PySem.W.Frag} {h : Heap} {mg : Str → Option Value} (X : K.In h) (Gm : h.Ns mainGlobals mg) (h1 : raiB K "Unknown" = true) (h2 : supB K prog.main.file "Unknown" "Unknown.__init__" = true) (h3 : (He.Fa.free "super").ok K = true) (h4 : decide (PySem.W.findIn K (.ref (He.ga K "Unknown")) "value" = some none) = true) (e : fnS K "Unknown" = xd2.val) :
    XcOk prog w K mg "Unknown" 1 (fun vs => (["value"] : List Str).zip vs.reverse) := by
  obtain ⟨g1, h1⟩ := He.ba h1
  obtain ⟨g2, h1⟩ := He.ba h1
  obtain ⟨g3, g4⟩ := He.ba h1
  refine ⟨fun A R s us hl XK G hroom hq => ?_, He.glo_ok X Gm g1, g2, of_decide_eq_true g3, of_decide_eq_true g4⟩
  obtain ⟨v, rfl⟩ : ∃ v, us = [v] := by
    match us, hl with
    | [v], _ => exact ⟨v, rfl⟩
  obtain ⟨mb, SG⟩ := sup_gnd G (He.free_ok X Gm h3)
  refine made1 (p := "value") (f := "value") (supB_ok (d := xd2) h2 e) ⟨⟨_, rfl, rfl⟩, rfl, rfl, rfl, rfl, rfl, rfl, rfl⟩ ⟨fun L fI cda cc => ⟨_, rfl⟩, fun _ _ _ _ => rfl, fun _ _ _ _ => rfl⟩ rfl (fun _ _ _ _ _ _ _ _ => rfl) (by decide) rfl (by decide) (of_decide_eq_true h4) (fun _ _ _ => rfl) (by decide +kernel) (by decide +kernel) XK SG G.nolimit hroom fun h' tk e d M => hq h' tk e d _ M fun vs r g => ?_
  obtain ⟨x, rfl, rx⟩ : ∃ x, vs = [x] ∧ RelV x v := by
    cases r with
    | cons a b => cases b; exact ⟨_, rfl, a⟩
  exact vals_one rx g
theorem xk3 {w : World} {K : PySem.W.Frag} {h : Heap} {mg : Str → Option Value} (X : K.In h) (Gm : h.Ns mainGlobals mg) (h1 : raiB K "Taken" = true) (h2 : supB K prog.main.file "Taken" "Taken.__init__" = true) (h3 : (He.Fa.free "super").ok K = true) (h4 : decide (PySem.W.findIn K (.ref (He.ga K "Taken")) "value" = some none) = true) (e : fnS K "Taken" = xd3.val) :
    XcOk prog w K mg "Taken" 1 (fun vs => (["value"] : List Str).zip vs.reverse) := by
  obtain ⟨g1, h1⟩ := He.ba h1
  obtain ⟨g2, h1⟩ := He.ba h1
  obtain ⟨g3, g4⟩ := He.ba h1
  refine ⟨fun A R s us hl XK G hroom hq => ?_, He.glo_ok X Gm g1, g2, of_decide_eq_true g3, of_decide_eq_true g4⟩
  obtain ⟨v, rfl⟩ : ∃ v, us = [v] := by
    match us, hl with
    | [v], _ => exact ⟨v, rfl⟩
  obtain ⟨mb, SG⟩ := sup_gnd G (He.free_ok X Gm h3)
  refine made1 (p := "value") (f := "value") (supB_ok (d := xd3) h2 e) ⟨⟨_, rfl, rfl⟩, rfl, rfl, rfl, rfl, rfl, rfl, rfl⟩ ⟨fun L fI cda cc => ⟨_, rfl⟩, fun _ _ _ _ => rfl, fun _ _ _ _ => rfl⟩ rfl (fun _ _ _ _ _ _ _ _ => rfl) (by decide) rfl (by decide) (of_decide_eq_true h4) (fun _ _ _ => rfl) (by decide +kernel) (by decide +kernel) XK SG G.nolimit hroom fun h' tk e d M => hq h' tk e d _ M fun vs r g => ?_
  obtain ⟨x, rfl, rx⟩ : ∃ x, vs = [x] ∧ RelV x v := by
    cases r with
    | cons a b => cases b; exact ⟨_, rfl, a⟩
  exact vals_one rx g
def cks : List (PySem.W.Frag → Bool) := [
  fun K => (He.Fa.cls "Sale").ok K,
  fun K => (He.Fa.str "FIGURES" "0123456789").ok K,
  fun K => (He.Fa.str "LETTERS" "abcdefghijklmnopqrstuvwxyz").ok K,
  fun K => (He.Fa.int "LONGEST_NAME" 12).ok K,
  fun K => (He.Fa.int "MOST_BID" 9999).ok K,
  fun K => (He.Fa.int "MOST_BIDS" 20).ok K,
  fun K => eqcB K (He.ga K "Sale") (He.ma K (He.ga K "Sale") "__eq__"),
  fun K => (["BadItem", "TooMany", "Unknown", "Taken"] : List Str).all fun c => decide (PySem.W.exmOne K (.ref (He.ga K c)) (.ref (He.ga K "BadItem")) = some (decide (c ∈ (["BadItem"] : List Str)))),
  fun K => (["BadItem", "TooMany", "Unknown", "Taken"] : List Str).all fun c => decide (PySem.W.exmOne K (.ref (He.ga K c)) (.ref (He.ga K "Taken")) = some (decide (c ∈ (["Taken"] : List Str)))),
  fun K => (["BadItem", "TooMany", "Unknown", "Taken"] : List Str).all fun c => decide (PySem.W.exmOne K (.ref (He.ga K c)) (.ref (He.ga K "TooMany")) = some (decide (c ∈ (["TooMany"] : List Str)))),
  fun K => (["BadItem", "TooMany", "Unknown", "Taken"] : List Str).all fun c => decide (PySem.W.exmOne K (.ref (He.ga K c)) (.ref (He.ga K "Unknown")) = some (decide (c ∈ (["Unknown"] : List Str)))),
  fun K => (He.Fa.free "all").ok K,
  fun K => (He.Fa.free "bool").ok K,
  fun K => (He.Fa.free "enumerate").ok K,
  fun K => (He.Fa.free "int").ok K,
  fun K => (He.Fa.free "isinstance").ok K,
  fun K => (He.Fa.free "len").ok K,
  fun K => (He.Fa.free "list").ok K,
  fun K => (He.Fa.free "max").ok K,
  fun K => (He.Fa.free "min").ok K,
  fun K => (He.Fa.free "range").ok K,
  fun K => (He.Fa.free "sorted").ok K,
  fun K => (He.Fa.free "str").ok K,
  fun K => (He.Fa.free "tuple").ok K,
  fun K => (He.Fa.glo "BadItem").ok K,
  fun K => (He.Fa.glo "Sale").ok K,
  fun K => (He.Fa.glo "Taken").ok K,
  fun K => (He.Fa.glo "TooMany").ok K,
  fun K => (He.Fa.glo "Unknown").ok K,
  fun K => (He.Fa.glo "is_bid").ok K,
  fun K => iscB K "Sale",
  fun K => (He.Fa.noat "Sale" "bids").ok K,
  fun K => (He.Fa.noat "Sale" "least").ok K,
  fun K => raiB K "BadItem",
  fun K => supB K prog.main.file "BadItem" "BadItem.__init__",
  fun K => (He.Fa.free "super").ok K,
  fun K => decide (PySem.W.findIn K (.ref (He.ga K "BadItem")) "index" = some none),
  fun K => raiB K "Taken",
  fun K => supB K prog.main.file "Taken" "Taken.__init__",
  fun K => decide (PySem.W.findIn K (.ref (He.ga K "Taken")) "value" = some none),
  fun K => raiB K "TooMany",
  fun K => supB K prog.main.file "TooMany" "TooMany.__init__",
  fun K => decide (PySem.W.findIn K (.ref (He.ga K "TooMany")) "limit" = some none),
  fun K => raiB K "Unknown",
  fun K => supB K prog.main.file "Unknown" "Unknown.__init__",
  fun K => decide (PySem.W.findIn K (.ref (He.ga K "Unknown")) "value" = some none),
  fun K => (["BadItem", "TooMany", "Unknown", "Taken"] : List Str).all fun c => xfB K (He.ga K c) && decide (PySem.W.findIn K (.ref (He.ga K c)) "index" = some none),
  fun K => (["BadItem", "TooMany", "Unknown", "Taken"] : List Str).all fun c => xfB K (He.ga K c) && decide (PySem.W.findIn K (.ref (He.ga K c)) "limit" = some none),
  fun K => (["BadItem", "TooMany", "Unknown", "Taken"] : List Str).all fun c => xfB K (He.ga K c) && decide (PySem.W.findIn K (.ref (He.ga K c)) "value" = some none),
  fun K => (He.Fa.glo "is_whole").ok K,
  fun K => (He.Fa.glo "is_number").ok K,
  fun K => (He.Fa.glo "is_row").ok K,
  fun K => (He.Fa.glo "is_name").ok K,
  fun K => (He.Fa.glo "frozen").ok K,
  fun K => (He.Fa.glo "want_row").ok K,
  fun K => (He.Fa.mkr "Sale").ok K,
  fun K => (He.Fa.meth "Sale" "__eq__").ok K,
  fun K => (He.Fa.meth "Sale" "winner").ok K,
  fun K => (He.Fa.meth "Sale" "price").ok K,
  fun K => (He.Fa.meth "Sale" "gain").ok K,
  fun K => (He.Fa.meth "Sale" "with_bid").ok K,
  fun K => (He.Fa.meth "Sale" "best_bid").ok K,
  fun K => (He.Fa.glo "lots").ok K,
  fun K => (He.Fa.glo "_law_taken").ok K,
  fun K => (He.Fa.glo "_law_pick").ok K,
  fun K => (He.Fa.glo "_law_alike").ok K,
  fun K => (He.Fa.glo "_law_mixed").ok K,
  fun K => (He.Fa.glo "_law_name").ok K,
  fun K => (He.Fa.glo "_law_names").ok K,
  fun K => (He.Fa.glo "_law_whole").ok K,
  fun K => (He.Fa.glo "_law_strange").ok K,
  fun K => (He.Fa.glo "_law_refused_row").ok K,
  fun K => (He.Fa.glo "_law_sold").ok K,
  fun K => (He.Fa.glo "_law_gain").ok K,
  fun K => (He.Fa.glo "_law_raised").ok K,
  fun K => (He.Fa.glo "law").ok K]
def ck (K : PySem.W.Frag) : Bool := cks.all fun f => f K
theorem facts {w : World} {K : PySem.W.Frag} {h : Heap} {mg : Str → Option Value} (X : K.In h) (Gm : h.Ns mainGlobals mg) (c : SaysC ck fns xcs K) : Facts prog w K mg := by
  have get : ∀ (i : Nat) {f : PySem.W.Frag → Bool}, cks[i]? = some f → f K = true := fun i f e => List.all_eq_true.mp c.chk f (List.mem_of_getElem? e)
  exact {
    cls_Sale := He.cls_ok (get 0 rfl)
    con_FIGURES := He.str_ok X Gm (get 1 rfl)
    con_LETTERS := He.str_ok X Gm (get 2 rfl)
    con_LONGEST_NAME := He.int_ok X Gm (get 3 rfl)
    con_MOST_BID := He.int_ok X Gm (get 4 rfl)
    con_MOST_BIDS := He.int_ok X Gm (get 5 rfl)
    eqc_Sale := eqcB_ok (get 6 rfl)
    exm_BadItem := fun c hc => of_decide_eq_true (List.all_eq_true.mp (get 7 rfl) c hc)
    exm_Taken := fun c hc => of_decide_eq_true (List.all_eq_true.mp (get 8 rfl) c hc)
    exm_TooMany := fun c hc => of_decide_eq_true (List.all_eq_true.mp (get 9 rfl) c hc)
    exm_Unknown := fun c hc => of_decide_eq_true (List.all_eq_true.mp (get 10 rfl) c hc)
    free_all := He.free_ok X Gm (get 11 rfl)
    free_bool := He.free_ok X Gm (get 12 rfl)
    free_enumerate := He.free_ok X Gm (get 13 rfl)
    free_int := He.free_ok X Gm (get 14 rfl)
    free_isinstance := He.free_ok X Gm (get 15 rfl)
    free_len := He.free_ok X Gm (get 16 rfl)
    free_list := He.free_ok X Gm (get 17 rfl)
    free_max := He.free_ok X Gm (get 18 rfl)
    free_min := He.free_ok X Gm (get 19 rfl)
    free_range := He.free_ok X Gm (get 20 rfl)
    free_sorted := He.free_ok X Gm (get 21 rfl)
    free_str := He.free_ok X Gm (get 22 rfl)
    free_tuple := He.free_ok X Gm (get 23 rfl)
    glo_BadItem := He.glo_ok X Gm (get 24 rfl)
    glo_Sale := He.glo_ok X Gm (get 25 rfl)
    glo_Taken := He.glo_ok X Gm (get 26 rfl)
    glo_TooMany := He.glo_ok X Gm (get 27 rfl)
    glo_Unknown := He.glo_ok X Gm (get 28 rfl)
    glo_is_bid := He.glo_ok X Gm (get 29 rfl)
    isc_Sale := iscB_ok (He.cls_ok (get 0 rfl)) (get 30 rfl)
    na_Sale__bids := He.noat_ok (get 31 rfl)
    na_Sale__least := He.noat_ok (get 32 rfl)
    x_BadItem := xk0 X Gm (get 33 rfl) (get 34 rfl) (get 35 rfl) (get 36 rfl) (c.xc_ 0 rfl)
    x_Taken := xk3 X Gm (get 37 rfl) (get 38 rfl) (get 35 rfl) (get 39 rfl) (c.xc_ 3 rfl)
    x_TooMany := xk1 X Gm (get 40 rfl) (get 41 rfl) (get 35 rfl) (get 42 rfl) (c.xc_ 1 rfl)
    x_Unknown := xk2 X Gm (get 43 rfl) (get 44 rfl) (get 35 rfl) (get 45 rfl) (c.xc_ 2 rfl)
    xf_index := fun c hc => let ⟨a, b⟩ := He.ba (List.all_eq_true.mp (get 46 rfl) c hc); ⟨xfB_ok a, of_decide_eq_true b⟩
    xf_limit := fun c hc => let ⟨a, b⟩ := He.ba (List.all_eq_true.mp (get 47 rfl) c hc); ⟨xfB_ok a, of_decide_eq_true b⟩
    xf_value := fun c hc => let ⟨a, b⟩ := He.ba (List.all_eq_true.mp (get 48 rfl) c hc); ⟨xfB_ok a, of_decide_eq_true b⟩
  }
theorem fn0 {P : Program} {w : World} {K : PySem.W.Frag} {mg : Str → Option Value} {base : Heap} {CX : CXT} {k m : Nat} {f : Addr} {fd : FuncData} {ps : List Str} (h : ∀ vs H Q E, spN K (callN tab 0) m vs H Q E → False) : FnOk P w K mg base CX k f fd ps (spN K (callN tab 0) m) := ⟨fun vs H Q E q => (h vs H Q E q).elim, fun A outer s H args us vs Q E _ _ _ _ q => (h vs H Q E q).elim⟩
theorem fn0I {P : Program} {w : World} {K : PySem.W.Frag} {mg : Str → Option Value} {base : Heap} {CX : CXT} {k m : Nat} {f : Addr} {fd : FuncData} {ps : List Str} {c : Str} (h : ∀ vs H Q E, spI K (callN tab 0) m c vs H Q E → False) : FnOk P w K mg base CX k f fd ps (spI K (callN tab 0) m c) := ⟨fun vs H Q E q => (h vs H Q E q).elim, fun A outer s H args us vs Q E _ _ _ _ q => (h vs H Q E q).elim⟩
theorem spI0 {K : PySem.W.Frag} {m : Nat} {c : Str} (vs : List V) (H : Hp) (Q : VK) (E : XK) : spI K (callN tab 0) m c vs H Q E → False := fun ⟨_, _, _, _, _, _, _, _, _, _, _, _, _, _, _, p⟩ => p
theorem spN0 {K : PySem.W.Frag} {m : Nat} (vs : List V) (H : Hp) (Q : VK) (E : XK) : spN K (callN tab 0) m vs H Q E → False := fun ⟨_, _, _, _, _, _, p⟩ => p
theorem table {w : World} {K : PySem.W.Frag} {h : Heap} {mg : Str → Option Value} {base : Heap} (X : K.In h) (Gm : h.Ns mainGlobals mg) (c : SaysC ck fns xcs K) : ∀ n, TabOk prog w K mg base n := by
  have get : ∀ (i : Nat) {f : PySem.W.Frag → Bool}, cks[i]? = some f → f K = true := fun i f e => List.all_eq_true.mp c.chk f (List.mem_of_getElem? e)
  have G : Facts prog w K mg := facts X Gm c
  obtain ⟨fd0, F0⟩ := c.def_ 0 (d := dd0) rfl
  have b0 : Binds K fd0 ["value"] [] := FunD.bindsN F0 fun _ _ _ _ _ _ us hl => match us, hl with | [_], _ => rfl
  obtain ⟨fd1, F1⟩ := c.def_ 1 (d := dd1) rfl
  have b1 : Binds K fd1 ["value", "least", "most"] [] := FunD.bindsN F1 fun _ _ _ _ _ _ us hl => match us, hl with | [_, _, _], _ => rfl
  obtain ⟨fd2, F2⟩ := c.def_ 2 (d := dd2) rfl
  have b2 : Binds K fd2 ["value"] [] := FunD.bindsN F2 fun _ _ _ _ _ _ us hl => match us, hl with | [_], _ => rfl
  obtain ⟨fd3, F3⟩ := c.def_ 3 (d := dd3) rfl
  have b3 : Binds K fd3 ["value"] [] := FunD.bindsN F3 fun _ _ _ _ _ _ us hl => match us, hl with | [_], _ => rfl
  obtain ⟨fd4, F4⟩ := c.def_ 4 (d := dd4) rfl
  have b4 : Binds K fd4 ["value"] [] := FunD.bindsN F4 fun _ _ _ _ _ _ us hl => match us, hl with | [_], _ => rfl
  obtain ⟨fd5, F5⟩ := c.def_ 5 (d := dd5) rfl
  have b5 : Binds K fd5 ["value", "is_item", "most"] [] := FunD.bindsN F5 fun _ _ _ _ _ _ us hl => match us, hl with | [_, _, _], _ => rfl
  obtain ⟨fd6, F6⟩ := c.def_ 6 (d := dd6) rfl
  have b6 : Binds K fd6 ["value"] [] := FunD.bindsN F6 fun _ _ _ _ _ _ us hl => match us, hl with | [_], _ => rfl
  obtain ⟨fd7, F7⟩ := c.def_ 7 (d := dd7) rfl
  have b7 : Binds K fd7 ["self", "bids", "least"] [] := FunD.bindsN F7 fun _ _ _ _ _ _ us hl => match us, hl with | [_, _, _], _ => rfl
  obtain ⟨fd8, F8⟩ := c.def_ 8 (d := dd8) rfl
  have b8 : Binds K fd8 ["self", "other"] [] := FunD.bindsN F8 fun _ _ _ _ _ _ us hl => match us, hl with | [_, _], _ => rfl
  obtain ⟨fd9, F9⟩ := c.def_ 9 (d := dd9) rfl
  have b9 : Binds K fd9 ["self"] [] := FunD.bindsN F9 fun _ _ _ _ _ _ us hl => match us, hl with | [_], _ => rfl
  obtain ⟨fd10, F10⟩ := c.def_ 10 (d := dd10) rfl
  have b10 : Binds K fd10 ["self"] [] := FunD.bindsN F10 fun _ _ _ _ _ _ us hl => match us, hl with | [_], _ => rfl
  obtain ⟨fd11, F11⟩ := c.def_ 11 (d := dd11) rfl
  have b11 : Binds K fd11 ["self", "name", "worth"] [] := FunD.bindsN F11 fun _ _ _ _ _ _ us hl => match us, hl with | [_, _, _], _ => rfl
  obtain ⟨fd12, F12⟩ := c.def_ 12 (d := dd12) rfl
  have b12 : Binds K fd12 ["self", "name", "bid"] [] := FunD.bindsN F12 fun _ _ _ _ _ _ us hl => match us, hl with | [_, _, _], _ => rfl
  obtain ⟨fd13, F13⟩ := c.def_ 13 (d := dd13) rfl
  have b13 : Binds K fd13 ["self", "name", "worth"] [] := FunD.bindsN F13 fun _ _ _ _ _ _ us hl => match us, hl with | [_, _, _], _ => rfl
  obtain ⟨fd14, F14⟩ := c.def_ 14 (d := dd14) rfl
  have b14 : Binds K fd14 ["bids", "many", "least"] [] := FunD.bindsN F14 fun _ _ _ _ _ _ us hl => match us, hl with | [_, _, _], _ => rfl
  obtain ⟨fd15, F15⟩ := c.def_ 15 (d := dd15) rfl
  have b15 : Binds K fd15 ["row", "many"] [] := FunD.bindsN F15 fun _ _ _ _ _ _ us hl => match us, hl with | [_, _], _ => rfl
  obtain ⟨fd16, F16⟩ := c.def_ 16 (d := dd16) rfl
  have b16 : Binds K fd16 ["row", "kinds"] [] := FunD.bindsN F16 fun _ _ _ _ _ _ us hl => match us, hl with | [_, _], _ => rfl
  obtain ⟨fd17, F17⟩ := c.def_ 17 (d := dd17) rfl
  have b17 : Binds K fd17 ["found", "due"] [] := FunD.bindsN F17 fun _ _ _ _ _ _ us hl => match us, hl with | [_, _], _ => rfl
  obtain ⟨fd18, F18⟩ := c.def_ 18 (d := dd18) rfl
  have b18 : Binds K fd18 ["row", "value"] [] := FunD.bindsN F18 fun _ _ _ _ _ _ us hl => match us, hl with | [_, _], _ => rfl
  obtain ⟨fd19, F19⟩ := c.def_ 19 (d := dd19) rfl
  have b19 : Binds K fd19 ["row"] [] := FunD.bindsN F19 fun _ _ _ _ _ _ us hl => match us, hl with | [_], _ => rfl
  obtain ⟨fd20, F20⟩ := c.def_ 20 (d := dd20) rfl
  have b20 : Binds K fd20 ["row", "many"] [] := FunD.bindsN F20 fun _ _ _ _ _ _ us hl => match us, hl with | [_, _], _ => rfl
  obtain ⟨fd21, F21⟩ := c.def_ 21 (d := dd21) rfl
  have b21 : Binds K fd21 ["value"] [] := FunD.bindsN F21 fun _ _ _ _ _ _ us hl => match us, hl with | [_], _ => rfl
  obtain ⟨fd22, F22⟩ := c.def_ 22 (d := dd22) rfl
  have b22 : Binds K fd22 ["names"] [] := FunD.bindsN F22 fun _ _ _ _ _ _ us hl => match us, hl with | [_], _ => rfl
  obtain ⟨fd23, F23⟩ := c.def_ 23 (d := dd23) rfl
  have b23 : Binds K fd23 ["call", "due"] [] := FunD.bindsN F23 fun _ _ _ _ _ _ us hl => match us, hl with | [_, _], _ => rfl
  obtain ⟨fd24, F24⟩ := c.def_ 24 (d := dd24) rfl
  have b24 : Binds K fd24 ["bids", "least"] [] := FunD.bindsN F24 fun _ _ _ _ _ _ us hl => match us, hl with | [_, _], _ => rfl
  obtain ⟨fd25, F25⟩ := c.def_ 25 (d := dd25) rfl
  have b25 : Binds K fd25 ["bids", "least", "name", "worth"] [] := FunD.bindsN F25 fun _ _ _ _ _ _ us hl => match us, hl with | [_, _, _, _], _ => rfl
  obtain ⟨fd26, F26⟩ := c.def_ 26 (d := dd26) rfl
  have b26 : Binds K fd26 ["bids", "turn"] [] := FunD.bindsN F26 fun _ _ _ _ _ _ us hl => match us, hl with | [_, _], _ => rfl
  obtain ⟨fd27, F27⟩ := c.def_ 27 (d := dd27) rfl
  have b27 : Binds K fd27 ["script"] [] := FunD.bindsN F27 fun _ _ _ _ _ _ us hl => match us, hl with | [_], _ => rfl
  intro n
  induction n with
  | zero => exact ⟨⟨⟨fd0, ["value"], fn0 spN0, b0⟩, He.glo_ok X Gm (get 49 rfl), F0.kp⟩, ⟨⟨fd1, ["value", "least", "most"], fn0 spN0, b1⟩, He.glo_ok X Gm (get 50 rfl), F1.kp⟩, ⟨⟨fd2, ["value"], fn0 spN0, b2⟩, He.glo_ok X Gm (get 51 rfl), F2.kp⟩, ⟨⟨fd3, ["value"], fn0 spN0, b3⟩, He.glo_ok X Gm (get 52 rfl), F3.kp⟩, ⟨⟨fd4, ["value"], fn0 spN0, b4⟩, He.glo_ok X Gm (get 53 rfl), F4.kp⟩, ⟨⟨fd5, ["value", "is_item", "most"], fn0 spN0, b5⟩, He.glo_ok X Gm (get 54 rfl), F5.kp⟩, ⟨⟨fd6, ["value"], fn0 spN0, b6⟩, He.glo_ok X Gm (get 29 rfl), F6.kp⟩, ⟨⟨fd7, ["self", "bids", "least"], fn0I spI0, b7⟩, He.glo_ok X Gm (get 25 rfl), He.mkr_ok (get 55 rfl)⟩, ⟨⟨fd8, ["self", "other"], fn0 spN0, b8⟩, He.cls_ok (get 0 rfl), He.meth_ok (get 56 rfl)⟩, ⟨⟨fd9, ["self"], fn0 spN0, b9⟩, He.cls_ok (get 0 rfl), He.meth_ok (get 57 rfl)⟩, ⟨⟨fd10, ["self"], fn0 spN0, b10⟩, He.cls_ok (get 0 rfl), He.meth_ok (get 58 rfl)⟩, ⟨⟨fd11, ["self", "name", "worth"], fn0 spN0, b11⟩, He.cls_ok (get 0 rfl), He.meth_ok (get 59 rfl)⟩, ⟨⟨fd12, ["self", "name", "bid"], fn0 spN0, b12⟩, He.cls_ok (get 0 rfl), He.meth_ok (get 60 rfl)⟩, ⟨⟨fd13, ["self", "name", "worth"], fn0 spN0, b13⟩, He.cls_ok (get 0 rfl), He.meth_ok (get 61 rfl)⟩, ⟨⟨fd14, ["bids", "many", "least"], fn0 spN0, b14⟩, He.glo_ok X Gm (get 62 rfl), F14.kp⟩, ⟨⟨fd15, ["row", "many"], fn0 spN0, b15⟩, He.glo_ok X Gm (get 63 rfl), F15.kp⟩, ⟨⟨fd16, ["row", "kinds"], fn0 spN0, b16⟩, He.glo_ok X Gm (get 64 rfl), F16.kp⟩, ⟨⟨fd17, ["found", "due"], fn0 spN0, b17⟩, He.glo_ok X Gm (get 65 rfl), F17.kp⟩, ⟨⟨fd18, ["row", "value"], fn0 spN0, b18⟩, He.glo_ok X Gm (get 66 rfl), F18.kp⟩, ⟨⟨fd19, ["row"], fn0 spN0, b19⟩, He.glo_ok X Gm (get 67 rfl), F19.kp⟩, ⟨⟨fd20, ["row", "many"], fn0 spN0, b20⟩, He.glo_ok X Gm (get 68 rfl), F20.kp⟩, ⟨⟨fd21, ["value"], fn0 spN0, b21⟩, He.glo_ok X Gm (get 69 rfl), F21.kp⟩, ⟨⟨fd22, ["names"], fn0 spN0, b22⟩, He.glo_ok X Gm (get 70 rfl), F22.kp⟩, ⟨⟨fd23, ["call", "due"], fn0 spN0, b23⟩, He.glo_ok X Gm (get 71 rfl), F23.kp⟩, ⟨⟨fd24, ["bids", "least"], fn0 spN0, b24⟩, He.glo_ok X Gm (get 72 rfl), F24.kp⟩, ⟨⟨fd25, ["bids", "least", "name", "worth"], fn0 spN0, b25⟩, He.glo_ok X Gm (get 73 rfl), F25.kp⟩, ⟨⟨fd26, ["bids", "turn"], fn0 spN0, b26⟩, He.glo_ok X Gm (get 74 rfl), F26.kp⟩, ⟨⟨fd27, ["script"], fn0 spN0, b27⟩, He.glo_ok X Gm (get 75 rfl), F27.kp⟩⟩
  | succ n T => exact ⟨⟨⟨fd0, ["value"], fn_ok (N := N0) (n := n) (k := 2 * n + 1) (fi := ⟨1, 1, ir0, none⟩) F0 ⟨rfl, rfl, rfl, by decide, rfl, by decide +kernel, by decide +kernel⟩ rfl rfl rfl rfl (by decide) (fun cdv A outer s H E W hsv hx tk hr => body0 G T cdv A outer s H E W hsv hx tk hr), b0⟩, He.glo_ok X Gm (get 49 rfl), F0.kp⟩,
      ⟨⟨fd1, ["value", "least", "most"], fn_ok (N := N1) (n := n) (k := 2 * n + 1) (fi := ⟨3, 3, ir1, none⟩) F1 ⟨rfl, rfl, rfl, by decide, rfl, by decide +kernel, by decide +kernel⟩ rfl rfl rfl rfl (by decide) (fun cdv A outer s H E W hsv hx tk hr => body1 G T cdv A outer s H E W hsv hx tk hr), b1⟩, He.glo_ok X Gm (get 50 rfl), F1.kp⟩,
      ⟨⟨fd2, ["value"], fn_ok (N := N2) (n := n) (k := 2 * n + 1) (fi := ⟨1, 1, ir2, none⟩) F2 ⟨rfl, rfl, rfl, by decide, rfl, by decide +kernel, by decide +kernel⟩ rfl rfl rfl rfl (by decide) (fun cdv A outer s H E W hsv hx tk hr => body2 G T cdv A outer s H E W hsv hx tk hr), b2⟩, He.glo_ok X Gm (get 51 rfl), F2.kp⟩,
      ⟨⟨fd3, ["value"], fn_ok (N := N3) (n := n) (k := 2 * n + 1) (fi := ⟨1, 2, ir3, none⟩) F3 ⟨rfl, rfl, rfl, by decide, rfl, by decide +kernel, by decide +kernel⟩ rfl rfl rfl rfl (by decide) (fun cdv A outer s H E W hsv hx tk hr => body3 G T cdv A outer s H E W hsv hx tk hr), b3⟩, He.glo_ok X Gm (get 52 rfl), F3.kp⟩,
      ⟨⟨fd4, ["value"], fn_ok (N := N4) (n := n) (k := 2 * n + 1) (fi := ⟨1, 2, ir4, none⟩) F4 ⟨rfl, rfl, rfl, by decide, rfl, by decide +kernel, by decide +kernel⟩ rfl rfl rfl rfl (by decide) (fun cdv A outer s H E W hsv hx tk hr => body4 G T cdv A outer s H E W hsv hx tk hr), b4⟩, He.glo_ok X Gm (get 53 rfl), F4.kp⟩,
      ⟨⟨fd5, ["value", "is_item", "most"], fn_ok (N := N5) (n := n) (k := 2 * n + 1) (fi := ⟨3, 5, ir5, none⟩) F5 ⟨rfl, rfl, rfl, by decide, rfl, by decide +kernel, by decide +kernel⟩ rfl rfl rfl rfl (by decide) (fun cdv A outer s H E W hsv hx tk hr => body5 G T cdv A outer s H E W hsv hx tk hr), b5⟩, He.glo_ok X Gm (get 54 rfl), F5.kp⟩,
      ⟨⟨fd6, ["value"], fn_ok (N := N6) (n := n) (k := 2 * n + 1) (fi := ⟨1, 1, ir6, none⟩) F6 ⟨rfl, rfl, rfl, by decide, rfl, by decide +kernel, by decide +kernel⟩ rfl rfl rfl rfl (by decide) (fun cdv A outer s H E W hsv hx tk hr => body6 G T cdv A outer s H E W hsv hx tk hr), b6⟩, He.glo_ok X Gm (get 29 rfl), F6.kp⟩,
      ⟨⟨fd7, ["self", "bids", "least"], fn_okI (y := "self") (N := ["bids", "least", "at", "bid", "other"]) (n := n) (k := 2 * n + 1) (fi := ⟨2, 5, ir7, some ("Sale", false)⟩) F7 ⟨rfl, rfl, rfl, by decide, rfl, by decide +kernel, by decide +kernel⟩ rfl rfl rfl rfl (by decide) (fun cdv A outer s H E W hsv hx tk hr => body7 G T cdv A outer s H E W hsv hx tk hr), b7⟩, He.glo_ok X Gm (get 25 rfl), He.mkr_ok (get 55 rfl)⟩,
      ⟨⟨fd8, ["self", "other"], fn_ok (N := N8) (n := n) (k := 2 * n + 1) (fi := ⟨2, 2, ir8, none⟩) F8 ⟨rfl, rfl, rfl, by decide, rfl, by decide +kernel, by decide +kernel⟩ rfl rfl rfl rfl (by decide) (fun cdv A outer s H E W hsv hx tk hr => body8 G T cdv A outer s H E W hsv hx tk hr), b8⟩, He.cls_ok (get 0 rfl), He.meth_ok (get 56 rfl)⟩,
      ⟨⟨fd9, ["self"], fn_ok (N := N9) (n := n) (k := 2 * n + 1) (fi := ⟨1, 5, ir9, none⟩) F9 ⟨rfl, rfl, rfl, by decide, rfl, by decide +kernel, by decide +kernel⟩ rfl rfl rfl rfl (by decide) (fun cdv A outer s H E W hsv hx tk hr => body9 G T cdv A outer s H E W hsv hx tk hr), b9⟩, He.cls_ok (get 0 rfl), He.meth_ok (get 57 rfl)⟩,
      ⟨⟨fd10, ["self"], fn_ok (N := N10) (n := n) (k := 2 * n + 1) (fi := ⟨1, 4, ir10, none⟩) F10 ⟨rfl, rfl, rfl, by decide, rfl, by decide +kernel, by decide +kernel⟩ rfl rfl rfl rfl (by decide) (fun cdv A outer s H E W hsv hx tk hr => body10 G T cdv A outer s H E W hsv hx tk hr), b10⟩, He.cls_ok (get 0 rfl), He.meth_ok (get 58 rfl)⟩,
      ⟨⟨fd11, ["self", "name", "worth"], fn_ok (N := N11) (n := n) (k := 2 * n + 1) (fi := ⟨3, 4, ir11, none⟩) F11 ⟨rfl, rfl, rfl, by decide, rfl, by decide +kernel, by decide +kernel⟩ rfl rfl rfl rfl (by decide) (fun cdv A outer s H E W hsv hx tk hr => body11 G T cdv A outer s H E W hsv hx tk hr), b11⟩, He.cls_ok (get 0 rfl), He.meth_ok (get 59 rfl)⟩,
      ⟨⟨fd12, ["self", "name", "bid"], fn_ok (N := N12) (n := n) (k := 2 * n + 1) (fi := ⟨3, 5, ir12, none⟩) F12 ⟨rfl, rfl, rfl, by decide, rfl, by decide +kernel, by decide +kernel⟩ rfl rfl rfl rfl (by decide) (fun cdv A outer s H E W hsv hx tk hr => body12 G T cdv A outer s H E W hsv hx tk hr), b12⟩, He.cls_ok (get 0 rfl), He.meth_ok (get 60 rfl)⟩,
      ⟨⟨fd13, ["self", "name", "worth"], fn_ok (N := N13) (n := n) (k := 2 * n + 1) (fi := ⟨3, 8, ir13, none⟩) F13 ⟨rfl, rfl, rfl, by decide, rfl, by decide +kernel, by decide +kernel⟩ rfl rfl rfl rfl (by decide) (fun cdv A outer s H E W hsv hx tk hr => body13 G T cdv A outer s H E W hsv hx tk hr), b13⟩, He.cls_ok (get 0 rfl), He.meth_ok (get 61 rfl)⟩,
      ⟨⟨fd14, ["bids", "many", "least"], fn_ok (N := N14) (n := n) (k := 2 * n + 1) (fi := ⟨3, 10, ir14, none⟩) F14 ⟨rfl, rfl, rfl, by decide, rfl, by decide +kernel, by decide +kernel⟩ rfl rfl rfl rfl (by decide) (fun cdv A outer s H E W hsv hx tk hr => body14 G T cdv A outer s H E W hsv hx tk hr), b14⟩, He.glo_ok X Gm (get 62 rfl), F14.kp⟩,
      ⟨⟨fd15, ["row", "many"], fn_ok (N := N15) (n := n) (k := 2 * n + 1) (fi := ⟨2, 4, ir15, none⟩) F15 ⟨rfl, rfl, rfl, by decide, rfl, by decide +kernel, by decide +kernel⟩ rfl rfl rfl rfl (by decide) (fun cdv A outer s H E W hsv hx tk hr => body15 G T cdv A outer s H E W hsv hx tk hr), b15⟩, He.glo_ok X Gm (get 63 rfl), F15.kp⟩,
      ⟨⟨fd16, ["row", "kinds"], fn_ok (N := N16) (n := n) (k := 2 * n + 1) (fi := ⟨2, 2, ir16, none⟩) F16 ⟨rfl, rfl, rfl, by decide, rfl, by decide +kernel, by decide +kernel⟩ rfl rfl rfl rfl (by decide) (fun cdv A outer s H E W hsv hx tk hr => body16 G T cdv A outer s H E W hsv hx tk hr), b16⟩, He.glo_ok X Gm (get 64 rfl), F16.kp⟩,
      ⟨⟨fd17, ["found", "due"], fn_ok (N := N17) (n := n) (k := 2 * n + 1) (fi := ⟨2, 3, ir17, none⟩) F17 ⟨rfl, rfl, rfl, by decide, rfl, by decide +kernel, by decide +kernel⟩ rfl rfl rfl rfl (by decide) (fun cdv A outer s H E W hsv hx tk hr => body17 G T cdv A outer s H E W hsv hx tk hr), b17⟩, He.glo_ok X Gm (get 65 rfl), F17.kp⟩,
      ⟨⟨fd18, ["row", "value"], fn_ok (N := N18) (n := n) (k := 2 * n + 1) (fi := ⟨2, 2, ir18, none⟩) F18 ⟨rfl, rfl, rfl, by decide, rfl, by decide +kernel, by decide +kernel⟩ rfl rfl rfl rfl (by decide) (fun cdv A outer s H E W hsv hx tk hr => body18 G T cdv A outer s H E W hsv hx tk hr), b18⟩, He.glo_ok X Gm (get 66 rfl), F18.kp⟩,
      ⟨⟨fd19, ["row"], fn_ok (N := N19) (n := n) (k := 2 * n + 1) (fi := ⟨1, 5, ir19, none⟩) F19 ⟨rfl, rfl, rfl, by decide, rfl, by decide +kernel, by decide +kernel⟩ rfl rfl rfl rfl (by decide) (fun cdv A outer s H E W hsv hx tk hr => body19 G T cdv A outer s H E W hsv hx tk hr), b19⟩, He.glo_ok X Gm (get 67 rfl), F19.kp⟩,
      ⟨⟨fd20, ["row", "many"], fn_ok (N := N20) (n := n) (k := 2 * n + 1) (fi := ⟨2, 8, ir20, none⟩) F20 ⟨rfl, rfl, rfl, by decide, rfl, by decide +kernel, by decide +kernel⟩ rfl rfl rfl rfl (by decide) (fun cdv A outer s H E W hsv hx tk hr => body20 G T cdv A outer s H E W hsv hx tk hr), b20⟩, He.glo_ok X Gm (get 68 rfl), F20.kp⟩,
      ⟨⟨fd21, ["value"], fn_ok (N := N21) (n := n) (k := 2 * n + 1) (fi := ⟨1, 1, ir21, none⟩) F21 ⟨rfl, rfl, rfl, by decide, rfl, by decide +kernel, by decide +kernel⟩ rfl rfl rfl rfl (by decide) (fun cdv A outer s H E W hsv hx tk hr => body21 G T cdv A outer s H E W hsv hx tk hr), b21⟩, He.glo_ok X Gm (get 69 rfl), F21.kp⟩,
      ⟨⟨fd22, ["names"], fn_ok (N := N22) (n := n) (k := 2 * n + 1) (fi := ⟨1, 3, ir22, none⟩) F22 ⟨rfl, rfl, rfl, by decide, rfl, by decide +kernel, by decide +kernel⟩ rfl rfl rfl rfl (by decide) (fun cdv A outer s H E W hsv hx tk hr => body22 G T cdv A outer s H E W hsv hx tk hr), b22⟩, He.glo_ok X Gm (get 70 rfl), F22.kp⟩,
      ⟨⟨fd23, ["call", "due"], fn_ok (N := N23) (n := n) (k := 2 * n + 1) (fi := ⟨2, 2, ir23, none⟩) F23 ⟨rfl, rfl, rfl, by decide, rfl, by decide +kernel, by decide +kernel⟩ rfl rfl rfl rfl (by decide) (fun cdv A outer s H E W hsv hx tk hr => body23 G T cdv A outer s H E W hsv hx tk hr), b23⟩, He.glo_ok X Gm (get 71 rfl), F23.kp⟩,
      ⟨⟨fd24, ["bids", "least"], fn_ok (N := N24) (n := n) (k := 2 * n + 1) (fi := ⟨2, 7, ir24, none⟩) F24 ⟨rfl, rfl, rfl, by decide, rfl, by decide +kernel, by decide +kernel⟩ rfl rfl rfl rfl (by decide) (fun cdv A outer s H E W hsv hx tk hr => body24 G T cdv A outer s H E W hsv hx tk hr), b24⟩, He.glo_ok X Gm (get 72 rfl), F24.kp⟩,
      ⟨⟨fd25, ["bids", "least", "name", "worth"], fn_ok (N := N25) (n := n) (k := 2 * n + 1) (fi := ⟨4, 6, ir25, none⟩) F25 ⟨rfl, rfl, rfl, by decide, rfl, by decide +kernel, by decide +kernel⟩ rfl rfl rfl rfl (by decide) (fun cdv A outer s H E W hsv hx tk hr => body25 G T cdv A outer s H E W hsv hx tk hr), b25⟩, He.glo_ok X Gm (get 73 rfl), F25.kp⟩,
      ⟨⟨fd26, ["bids", "turn"], fn_ok (N := N26) (n := n) (k := 2 * n + 1) (fi := ⟨2, 3, ir26, none⟩) F26 ⟨rfl, rfl, rfl, by decide, rfl, by decide +kernel, by decide +kernel⟩ rfl rfl rfl rfl (by decide) (fun cdv A outer s H E W hsv hx tk hr => body26 G T cdv A outer s H E W hsv hx tk hr), b26⟩, He.glo_ok X Gm (get 74 rfl), F26.kp⟩,
      ⟨⟨fd27, ["script"], fn_ok (N := N27) (n := n) (k := 2 * n + 1) (fi := ⟨1, 22, ir27, none⟩) F27 ⟨rfl, rfl, rfl, by decide, rfl, by decide +kernel, by decide +kernel⟩ rfl rfl rfl rfl (by decide) (fun cdv A outer s H E W hsv hx tk hr => body27 G T cdv A outer s H E W hsv hx tk hr), b27⟩, He.glo_ok X Gm (get 75 rfl), F27.kp⟩⟩
abbrev rr : PySem.W.OpenRow := PySem.W.OpenLaw.row PySem.Challenge.rw_pawnkept_k09_whole_sales
abbrev hk : PySem.W.Hook := hookC 5 ck fns xcs
def ob (s : PySem.W.SharedT) : AlC := obsCG 5 ck fns xcs (HandSHeadRun.getT s)
theorem ob_eq (s : PySem.W.SharedT) : ob s = hk.obs s.abs := obsCG_eq (HandSHeadRun.getT_eq s)
theorem run (w : World) : HandSHeadRun.RunEq rr (PySem.W.view rr.prog [35]) hk ob 12000 ["PawnError", "BadItem", "TooMany", "Unknown", "Taken", "is_whole", "is_number", "is_row", "is_name", "frozen", "want_row", "is_bid", "Sale", "lots", "_law_taken", "_law_pick", "_law_alike", "_law_mixed", "_law_name", "_law_names", "_law_whole", "_law_strange", "_law_refused_row", "_law_sold", "_law_gain", "_law_raised", "LETTERS", "FIGURES", "LONGEST_NAME", "MOST_BIDS", "MOST_BID"] w := by
  intro os
  kernel_rfl
end Eng
set_option Elab.async false
set_option linter.all false
set_option maxRecDepth 100000
set_option maxHeartbeats 0
open PySem PySem.Spec PySem.W PySem.Calls PyProof.Rows L2 Eng
theorem PySem.Challenge.cw_pawnkept_k09_whole_sales_holds : PySem.Challenge.rw_pawnkept_k09_whole_sales.Holds := by
  w_on; o_law
  refine HandSHeadRun.head_any (r := Eng.rr) (q := PySem.W.view Eng.rr.prog [35]) (H := Eng.hk) (ob := Eng.ob) (M := 12000) (loose := ["PawnError", "BadItem", "TooMany", "Unknown", "Taken", "is_whole", "is_number", "is_row", "is_name", "frozen", "want_row", "is_bid", "Sale", "lots", "_law_taken", "_law_pick", "_law_alike", "_law_mixed", "_law_name", "_law_names", "_law_whole", "_law_strange", "_law_refused_row", "_law_sold", "_law_gain", "_law_raised", "LETTERS", "FIGURES", "LONGEST_NAME", "MOST_BIDS", "MOST_BID"]) (d := HandSHeadRun.topDef Eng.rr.prog 35) (kwd := []) Eng.ob_eq
    (by kernel_rfl) (fun s => by kernel_rfl) Eng.run (by kernel_rfl) (by kernel_rfl) (by kernel_rfl) (by rfl) (by first | assumption | decide +kernel) (by decide +kernel) ⟨rfl, rfl, rfl, rfl, rfl, by decide +kernel⟩ ?hw ?hc
  case hw => w_witness2
  case hc =>
    refine Eng.walk_ofW (l := PySem.Challenge.rw_pawnkept_k09_whole_sales) (n := 63) (k := 18) (x := "script") (CX := L2.CX (PySem.Challenge.rw_pawnkept_k09_whole_sales).prog) rfl (by decide) (by kernel_rfl) ⟨rfl, by decide, by decide⟩ ?F (fun _ _ _ _ _ z => Eng.cx_law z)
    intro w mg fa h Y G hmg0
    obtain ⟨K, KX, c⟩ := Y
    have hmg : mg ("law" : PySem.Str) = some (.ref fa) := by
      have e : (HandSHeadRun.topDef Eng.rr.prog 35).name = ("law" : PySem.Str) := by kernel_rfl
      rw [← e]
      exact hmg0
    have get : ∀ (i : Nat) {f : PySem.W.Frag → Bool}, Eng.cks[i]? = some f → f K = true := fun i f e => List.all_eq_true.mp c.chk f (List.mem_of_getElem? e)
    have e := hmg.symm.trans (He.glo_ok KX G (get 75 rfl))
    cases e
    obtain ⟨fd, F⟩ := c.def_ 27 (d := Eng.dd27) rfl
    have b := FunD.bindsA (ps := ["script"]) F fun _ _ _ _ _ _ us hl => match us, hl with | [_], _ => rfl
    exact ⟨K, fd, Eng.spN K (Eng.callN Eng.tab 9) 27, KX, fun s v => b s [v] rfl, fun H a ns hl _ hS => Eng.law_sp hS (Eng.law_true ns 0), fun base _ _ =>
      Eng.fn_ok (N := Eng.N27) (n := 8) (k := 2 * 8 + 1) (fi := ⟨1, 22, Eng.ir27, none⟩) F ⟨rfl, rfl, rfl, by decide, rfl, by decide +kernel, by decide +kernel⟩ rfl rfl rfl rfl (by decide) (fun cdv A outer s H E W hsv hx tk hr => Eng.body27 (Eng.facts KX G c) (Eng.table KX G c 8) cdv A outer s H E W hsv hx tk hr)⟩
