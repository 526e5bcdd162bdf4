import PyProof.Rows.All
import Wide.All
import OpenK.AllK
import Wide.FinOn
import HandS.ForMost
import HandS.ForExc
import HandS.Codes
import HandS.Deep
import HandS.IsInst
import HandS.Wide
import HandS.Flow
import HandS.RaiseMore
import HandS.Zip
import HandS.TupAny
import PyProof.ZipIter
import HandS.Zip0
import HandS.Iter
import KE.KUnpackStar
import HandS.Star
import HandS.More
import HandS.Style
import PySem.Challenge.RW_loggedruns_k86_questions_and_runs_writte
set_option Elab.async false
set_option linter.all false
set_option maxRecDepth 100000
/-! Dp, part A: value trees, the store of changing objects, their relation to the abstract heap of the hand layer. -/
namespace Dy
open PySem PySem.Spec L2
abbrev Frag := PySem.W.Frag
/-- a text by its code points -/
abbrev Text := List Nat
/-- values: trees; il: a list that is never changed again (own: a tracked one); loc: a changing object of the store -/
inductive Val where
  | non
  | bool (b : Bool)
  | int (i : Int)
  | str (s : Text)
  | tup (vs : List Val)
  | il (own : Bool) (vs : List Val)
  | loc (n : Nat)
inductive Ob where
  | list (vs : List Val)
abbrev Store := List Ob
/-- phi: where the store's objects lie; I: addresses of lists that are never changed -/
structure Wd where
  phi : List Addr
  I : Addr → Prop
mutual
inductive RV (K : Frag) (W : Wd) (H : Hp) : Val → V → Prop
  | non : RV K W H .non .non
  | bool (b : Bool) : RV K W H (.bool b) (.bl b)
  | int (i : Int) : RV K W H (.int i) (.int i)
  | str (s : Text) : RV K W H (.str s) (.str (SX.S s))
  | tup {a : Addr} {xs : List V} {vs : List Val} : SqT K H a xs → RVs K W H vs xs → RV K W H (.tup vs) (.ref a)
  | il1 {a : Addr} {xs : List V} {vs : List Val} : W.I a → H a = some (.lst xs) → RVs K W H vs xs → RV K W H (.il true vs) (.ref a)
  | il0 {a : Addr} {xs : List V} {vs : List Val} : W.I a → SqL K H a xs → RVs K W H vs xs → RV K W H (.il false vs) (.ref a)
  | ilk {a : Addr} {xs : List V} {vs : List Val} : SqL K (fun _ => none) a xs → RVs K W H vs xs → RV K W H (.il false vs) (.ref a)
  | loc {n : Nat} {a : Addr} : W.phi[n]? = some a → RV K W H (.loc n) (.ref a)
inductive RVs (K : Frag) (W : Wd) (H : Hp) : List Val → List V → Prop
  | nil : RVs K W H [] []
  | cons {v : Val} {vs : List Val} {x : V} {xs : List V} : RV K W H v x → RVs K W H vs xs → RVs K W H (v :: vs) (x :: xs)
end
def RO (K : Frag) (W : Wd) (H : Hp) : Ob → Addr → Prop
  | .list vs, a => ∃ xs, H a = some (.lst xs) ∧ RVs K W H vs xs
structure HR (K : Frag) (W : Wd) (m : Store) (H : Hp) : Prop where
  len : W.phi.length = m.length
  nd : W.phi.Nodup
  dis : ∀ a, a ∈ W.phi → ¬ W.I a
  inh : ∀ a, W.I a → H a ≠ none
  obj : ∀ (n : Nat) (o : Ob), m[n]? = some o → ∃ a, W.phi[n]? = some a ∧ RO K W H o a
/-- from one state to a later one: what the store does not hold is as it was -/
structure Ext (W : Wd) (H : Hp) (W' : Wd) (H' : Hp) : Prop where
  pre : ∃ more, W'.phi = W.phi ++ more ∧ ∀ a, a ∈ more → H a = none
  inc : ∀ a, W.I a → W'.I a
  new : ∀ a, W'.I a → W.I a ∨ H a = none
  fr : ∀ b o, H b = some o → b ∉ W.phi → H' b = some o
  al : ∀ a, a ∈ W.phi → H' a ≠ none
section
variable {K : Frag} {W W1 W2 : Wd} {H H1 H2 : Hp} {m m1 : Store}
theorem HR.at (h : HR K W m H) {a : Addr} (ha : a ∈ W.phi) : ∃ (n : Nat) (o : Ob), W.phi[n]? = some a ∧ m[n]? = some o ∧ RO K W H o a := by
  obtain ⟨n, hn, e⟩ := List.mem_iff_getElem.mp ha
  have hm : n < m.length := by rw [← h.len]; exact hn
  obtain ⟨a', e1, r⟩ := h.obj n (m[n]) (List.getElem?_eq_getElem hm)
  have e2 : W.phi[n]? = some a := by rw [List.getElem?_eq_getElem hn, e]
  rw [e2] at e1; cases e1
  exact ⟨n, _, e2, List.getElem?_eq_getElem hm, r⟩
theorem HR.lst_at (h : HR K W m H) {a : Addr} (ha : a ∈ W.phi) : ∃ xs, H a = some (.lst xs) := by
  obtain ⟨n, o, _, _, r⟩ := h.at ha
  cases o with
  | list vs => exact ⟨_, r.choose_spec.1⟩
theorem HR.notin (h : HR K W m H) {a : Addr} {o : HO} (e : H a = some o) (hn : ∀ xs, o ≠ .lst xs) : a ∉ W.phi := fun ha => by
  obtain ⟨xs, q⟩ := h.lst_at ha
  rw [e] at q; cases q
  exact hn xs rfl
theorem Ext.refl (h : HR K W m H) : Ext W H W H :=
  ⟨⟨[], by simp, fun a z => by cases z⟩, fun _ z => z, fun _ z => .inl z, fun _ _ e _ => e, fun a ha => by obtain ⟨xs, q⟩ := h.lst_at ha; rw [q]; simp⟩
theorem Ext.back (e : Ext W H W1 H1) {a : Addr} (h : H1 a = none) : H a = none := by
  cases q : H a with
  | none => rfl
  | some o =>
    by_cases ha : a ∈ W.phi
    · exact absurd h (e.al a ha)
    · rw [e.fr a o q ha] at h; cases h
theorem Ext.sub (e : Ext W H W1 H1) {a : Addr} (ha : a ∈ W.phi) : a ∈ W1.phi := by
  obtain ⟨more, e1, _⟩ := e.pre
  rw [e1]; exact List.mem_append_left _ ha
theorem Ext.stays (e : Ext W H W1 H1) {b : Addr} {o : HO} (q : H b = some o) (hb : b ∉ W.phi) : b ∉ W1.phi := fun z => by
  obtain ⟨more, e1, e2⟩ := e.pre
  rw [e1] at z
  rcases List.mem_append.mp z with z | z
  · exact hb z
  · rw [e2 b z] at q; cases q
theorem Ext.trans (e : Ext W H W1 H1) (f : Ext W1 H1 W2 H2) : Ext W H W2 H2 where
  pre := by
    obtain ⟨l1, e1, e2⟩ := e.pre
    obtain ⟨l2, f1, f2⟩ := f.pre
    refine ⟨l1 ++ l2, by rw [f1, e1, List.append_assoc], fun a ha => ?_⟩
    rcases List.mem_append.mp ha with z | z
    · exact e2 a z
    · exact e.back (f2 a z)
  inc := fun a z => f.inc a (e.inc a z)
  new := fun a z => by
    rcases f.new a z with z | z
    · exact e.new a z
    · exact .inr (e.back z)
  fr := fun b o q hb => f.fr b o (e.fr b o q hb) (e.stays q hb)
  al := fun a ha => f.al a (e.sub ha)
theorem sqT_keep (h : HR K W m H) (e : Ext W H W1 H1) {a : Addr} {xs : List V} (s : SqT K H a xs) : SqT K H1 a xs := by
  rcases s with s | s
  · refine .inl ?_
    rcases s with s | ⟨o, s⟩
    · exact .inl (e.fr _ _ s (h.notin s fun _ z => by cases z))
    · exact .inr ⟨o, e.fr _ _ s (h.notin s fun _ z => by cases z)⟩
  · exact .inr s
theorem sqL_k {a : Addr} {xs : List V} (s : SqL K (fun _ => none) a xs) : SqL K H a xs := by
  rcases s with (s | ⟨o, s⟩) | s
  · cases s
  · cases s
  · exact .inr s
theorem phi_keep (e : Ext W H W1 H1) {n : Nat} {a : Addr} (q : W.phi[n]? = some a) : W1.phi[n]? = some a := by
  obtain ⟨more, e1, _⟩ := e.pre
  rw [e1, List.getElem?_append_left (List.getElem?_eq_some_iff.mp q).1]
  exact q
mutual
theorem RV.mono (h : HR K W m H) (e : Ext W H W1 H1) : ∀ {v : Val} {x : V}, RV K W H v x → RV K W1 H1 v x
  | _, _, .non => .non
  | _, _, .bool b => .bool b
  | _, _, .int i => .int i
  | _, _, .str s => .str s
  | _, _, .tup s r => .tup (sqT_keep h e s) (RVs.mono h e r)
  | _, _, .il1 i q r => .il1 (e.inc _ i) (e.fr _ _ q fun z => h.dis _ z i) (RVs.mono h e r)
  | _, _, .il0 i q r => .il0 (e.inc _ i) (by
      rcases q with (q | ⟨o, q⟩) | q
      · exact .inl (.inl (e.fr _ _ q fun z => h.dis _ z i))
      · exact .inl (.inr ⟨o, e.fr _ _ q fun z => h.dis _ z i⟩)
      · exact .inr q) (RVs.mono h e r)
  | _, _, .ilk q r => .ilk q (RVs.mono h e r)
  | _, _, .loc q => .loc (phi_keep e q)
theorem RVs.mono (h : HR K W m H) (e : Ext W H W1 H1) : ∀ {vs : List Val} {xs : List V}, RVs K W H vs xs → RVs K W1 H1 vs xs
  | _, _, .nil => .nil
  | _, _, .cons r t => .cons (RV.mono h e r) (RVs.mono h e t)
end
end
end Dy

/-! Dp, part B: new objects, stores, slots; readings made of weakest preconditions. -/
namespace Dy
open PySem PySem.Spec L2
section
variable {K : Frag} {W W1 W2 : Wd} {H H1 H2 : Hp} {m m1 : Store}
theorem RVs.length : ∀ {vs : List Val} {xs : List V}, RVs K W H vs xs → vs.length = xs.length
  | _, _, .nil => rfl
  | _, _, .cons _ t => by simp [RVs.length t]
theorem RVs.get : ∀ {vs : List Val} {xs : List V} {i : Nat} {v : Val}, RVs K W H vs xs → vs[i]? = some v → ∃ x, xs[i]? = some x ∧ RV K W H v x
  | _, _, _, _, .nil, e => by simp at e
  | _, _, 0, _, .cons r _, e => by simp at e; subst e; exact ⟨_, rfl, r⟩
  | _, _, i + 1, _, .cons _ t, e => by
    obtain ⟨x, h1, h2⟩ := RVs.get (i := i) t (by simpa using e)
    exact ⟨x, by simpa using h1, h2⟩
theorem RVs.getV : ∀ {vs : List Val} {xs : List V} {i : Nat} {x : V}, RVs K W H vs xs → xs[i]? = some x → ∃ v, vs[i]? = some v ∧ RV K W H v x
  | _, _, _, _, .nil, e => by simp at e
  | _, _, 0, _, .cons r _, e => by simp at e; subst e; exact ⟨_, rfl, r⟩
  | _, _, i + 1, _, .cons _ t, e => by
    obtain ⟨x, h1, h2⟩ := RVs.getV (i := i) t (by simpa using e)
    exact ⟨x, by simpa using h1, h2⟩
theorem RVs.append : ∀ {vs us : List Val} {xs ys : List V}, RVs K W H vs xs → RVs K W H us ys → RVs K W H (vs ++ us) (xs ++ ys)
  | _, _, _, _, .nil, s => s
  | _, _, _, _, .cons r t, s => .cons r (RVs.append t s)
theorem RVs.take : ∀ {vs : List Val} {xs : List V} (n : Nat), RVs K W H vs xs → RVs K W H (vs.take n) (xs.take n)
  | _, _, 0, _ => .nil
  | _, _, _ + 1, .nil => .nil
  | _, _, n + 1, .cons r t => .cons r (RVs.take n t)
theorem RVs.drop : ∀ {vs : List Val} {xs : List V} (n : Nat), RVs K W H vs xs → RVs K W H (vs.drop n) (xs.drop n)
  | _, _, 0, r => r
  | _, _, _ + 1, .nil => .nil
  | _, _, n + 1, .cons _ t => RVs.drop n t
theorem RVs.set {v : Val} {x : V} (r : RV K W H v x) : ∀ {vs : List Val} {xs : List V} (i : Nat), RVs K W H vs xs → RVs K W H (vs.set i v) (xs.set i x)
  | _, _, _, .nil => .nil
  | _, _, 0, .cons _ t => .cons r t
  | _, _, i + 1, .cons q t => .cons q (RVs.set r i t)
theorem RVs.rep {vs : List Val} {xs : List V} (h : RVs K W H vs xs) : ∀ k : Nat, RVs K W H (List.replicate k vs).flatten (List.replicate k xs).flatten
  | 0 => .nil
  | k + 1 => by
    rw [List.replicate_succ, List.replicate_succ, List.flatten_cons, List.flatten_cons]
    exact h.append (RVs.rep h k)
/-- a list that will not be changed -/
def Wd.withI (W : Wd) (p : Addr) : Wd := ⟨W.phi, fun a => W.I a ∨ a = p⟩
/-- a list that may be changed -/
def Wd.withL (W : Wd) (p : Addr) : Wd := ⟨W.phi ++ [p], W.I⟩
theorem HR.nophi (h : HR K W m H) {p : Addr} (hp : H p = none) : p ∉ W.phi := fun z => by
  obtain ⟨xs, q⟩ := h.lst_at z
  rw [hp] at q; cases q
theorem RO.mono (h : HR K W m H) (e : Ext W H W1 H1) (hk : ∀ a, a ∈ W.phi → H1 a = H a) {o : Ob} {a : Addr} (ha : a ∈ W.phi) (r : RO K W H o a) : RO K W1 H1 o a := by
  cases o with
  | list vs =>
    obtain ⟨xs, q, r⟩ := r
    exact ⟨xs, by rw [hk a ha]; exact q, r.mono h e⟩
/-- nothing of the store is changed -/
theorem HR.grow (h : HR K W m H) (e : Ext W H W1 H1) (hphi : W1.phi = W.phi) (hd : ∀ a, a ∈ W.phi → ¬ W1.I a) (hi : ∀ a, W1.I a → W.I a ∨ H1 a ≠ none) (hk : ∀ a, a ∈ W.phi → H1 a = H a) : HR K W1 m H1 where
  len := by rw [hphi]; exact h.len
  nd := by rw [hphi]; exact h.nd
  dis := fun a ha => hd a (by rw [← hphi]; exact ha)
  inh := fun a ha => by
    rcases hi a ha with z | z
    · cases q : H a with
      | none => exact absurd q (h.inh a z)
      | some o => rw [e.fr a o q fun y => h.dis a y z]; simp
    · exact z
  obj := fun n o q => by
    obtain ⟨a, e1, r⟩ := h.obj n o q
    exact ⟨a, by rw [hphi]; exact e1, r.mono h e hk (List.mem_of_getElem? e1)⟩
theorem new_tup (h : HR K W m H) {p : Addr} (hp : H p = none) {vs : List Val} {xs : List V} (r : RVs K W H vs xs) :
    Ext W H W (upd H p (.tup xs)) ∧ HR K W m (upd H p (.tup xs)) ∧ RV K W (upd H p (.tup xs)) (.tup vs) (.ref p) := by
  have hk : ∀ a, a ∈ W.phi → upd H p (.tup xs) a = H a := fun a ha => upd_ne fun z => h.nophi hp (z ▸ ha)
  have e : Ext W H W (upd H p (.tup xs)) := ⟨⟨[], by simp, fun a z => by cases z⟩, fun _ z => z, fun _ z => .inl z, fun b o q _ => by rw [upd_ne (ne_of_none q hp)]; exact q,
    fun a ha => by rw [hk a ha]; obtain ⟨ys, q⟩ := h.lst_at ha; rw [q]; simp⟩
  exact ⟨e, h.grow e rfl h.dis (fun _ z => .inl z) hk, .tup (.of upd_same) (r.mono h e)⟩
theorem new_il (h : HR K W m H) {p : Addr} (hp : H p = none) {vs : List Val} {xs : List V} (r : RVs K W H vs xs) :
    Ext W H (W.withI p) (upd H p (.lst xs)) ∧ HR K (W.withI p) m (upd H p (.lst xs)) ∧ RV K (W.withI p) (upd H p (.lst xs)) (.il true vs) (.ref p) := by
  have hk : ∀ a, a ∈ W.phi → upd H p (.lst xs) a = H a := fun a ha => upd_ne fun z => h.nophi hp (z ▸ ha)
  have e : Ext W H (W.withI p) (upd H p (.lst xs)) := ⟨⟨[], by simp [Wd.withI], fun a z => by cases z⟩, fun _ z => .inl z, fun a z => z.elim .inl fun z => .inr (z ▸ hp), fun b o q _ => by rw [upd_ne (ne_of_none q hp)]; exact q,
    fun a ha => by rw [hk a ha]; obtain ⟨ys, q⟩ := h.lst_at ha; rw [q]; simp⟩
  exact ⟨e, h.grow e rfl (fun a ha z => z.elim (h.dis a ha) fun z => h.nophi hp (z ▸ ha)) (fun a z => z.imp (fun z => z) fun z => by subst z; rw [upd_same]; simp) hk, .il1 (.inr rfl) upd_same (r.mono h e)⟩
theorem new_loc (h : HR K W m H) {p : Addr} (hp : H p = none) {vs : List Val} {xs : List V} (r : RVs K W H vs xs) :
    Ext W H (W.withL p) (upd H p (.lst xs)) ∧ HR K (W.withL p) (m ++ [.list vs]) (upd H p (.lst xs)) ∧ RV K (W.withL p) (upd H p (.lst xs)) (.loc m.length) (.ref p) := by
  have hk : ∀ a, a ∈ W.phi → upd H p (.lst xs) a = H a := fun a ha => upd_ne fun z => h.nophi hp (z ▸ ha)
  have e : Ext W H (W.withL p) (upd H p (.lst xs)) := ⟨⟨[p], rfl, fun a z => by simp at z; subst z; exact hp⟩, fun _ z => z, fun a z => .inl z, fun b o q _ => by rw [upd_ne (ne_of_none q hp)]; exact q,
    fun a ha => by rw [hk a ha]; obtain ⟨ys, q⟩ := h.lst_at ha; rw [q]; simp⟩
  have el : (W.withL p).phi[m.length]? = some p := by show (W.phi ++ [p])[m.length]? = some p; rw [← h.len]; simp
  refine ⟨e, ⟨?_, ?_, ?_, ?_, ?_⟩, .loc el⟩
  · show (W.phi ++ [p]).length = (m ++ [Ob.list vs]).length
    simp [h.len]
  · show (W.phi ++ [p]).Nodup
    refine List.nodup_append.mpr ⟨h.nd, by simp, fun a ha b hb => ?_⟩
    simp at hb; subst hb
    exact fun z => h.nophi hp (z ▸ ha)
  · intro a ha
    rcases List.mem_append.mp (show a ∈ W.phi ++ [p] from ha) with z | z
    · exact h.dis a z
    · simp at z; subst z; exact fun z => h.inh _ z hp
  · intro a ha
    have z : a ≠ p := fun z => h.inh a ha (z ▸ hp)
    rw [upd_ne z]; exact h.inh a ha
  · intro n o q
    by_cases hn : n < m.length
    · rw [List.getElem?_append_left hn] at q
      obtain ⟨a, e1, r1⟩ := h.obj n o q
      exact ⟨a, phi_keep e e1, r1.mono h e hk (List.mem_of_getElem? e1)⟩
    · rw [List.getElem?_append_right (by omega)] at q
      have hz : n = m.length := by
        cases hh : n - m.length with
        | zero => omega
        | succ k => rw [hh] at q; simp at q
      subst hz
      simp at q; subst q
      exact ⟨p, el, xs, upd_same, r.mono h e⟩
theorem set_loc (h : HR K W m H) {n : Nat} {a : Addr} {ws : List Val} (hm : m[n]? = some (.list ws)) (ha : W.phi[n]? = some a) {vs : List Val} {xs : List V} (r : RVs K W H vs xs) :
    Ext W H W (upd H a (.lst xs)) ∧ HR K W (m.set n (.list vs)) (upd H a (.lst xs)) := by
  have ham : a ∈ W.phi := List.mem_of_getElem? ha
  have e : Ext W H W (upd H a (.lst xs)) := ⟨⟨[], by simp, fun a z => by cases z⟩, fun _ z => z, fun a z => .inl z, fun b o q hb => by rw [upd_ne (show b ≠ a from fun z => hb (z ▸ ham))]; exact q,
    fun b hb => by
      by_cases z : b = a
      · subst z; rw [upd_same]; simp
      · rw [upd_ne z]; obtain ⟨ys, q⟩ := h.lst_at hb; rw [q]; simp⟩
  refine ⟨e, ⟨by simpa using h.len, h.nd, h.dis, fun b hb => by rw [upd_ne (show b ≠ a from fun z => h.dis a ham (z ▸ hb))]; exact h.inh b hb, fun k o q => ?_⟩⟩
  by_cases hk : k = n
  · subst hk
    have hl : k < m.length := (List.getElem?_eq_some_iff.mp hm).1
    rw [List.getElem?_set_self hl] at q; cases q
    exact ⟨a, ha, xs, upd_same, r.mono h e⟩
  · rw [List.getElem?_set_ne (Ne.symm hk)] at q
    obtain ⟨b, e1, r1⟩ := h.obj k o q
    have hb : b ≠ a := fun z => hk (by
      subst z
      obtain ⟨h1, f1⟩ := List.getElem?_eq_some_iff.mp e1
      obtain ⟨h2, f2⟩ := List.getElem?_eq_some_iff.mp ha
      exact (List.getElem_inj h.nd).mp (f1.trans f2.symm))
    refine ⟨b, e1, ?_⟩
    cases o with
    | list us =>
      obtain ⟨ys, q1, r2⟩ := r1
      exact ⟨ys, by rw [upd_ne hb]; exact q1, r2.mono h e⟩
end
/-! ### slots -/
abbrev Env := List (Option Val)
structure SR (K : Frag) (W : Wd) (H : Hp) (r : Env) (σ : St) : Prop where
  len : r.length = σ.length
  get : ∀ (i : Nat) (v : Val), r[i]? = some (some v) → ∃ x, σ[i]? = some (some x) ∧ RV K W H v x
section
variable {K : Frag} {W W1 : Wd} {H H1 : Hp} {m : Store} {r : Env} {σ : St}
theorem SR.mono (s : SR K W H r σ) (h : HR K W m H) (e : Ext W H W1 H1) : SR K W1 H1 r σ :=
  ⟨s.len, fun i v q => let ⟨x, e1, r1⟩ := s.get i v q; ⟨x, e1, r1.mono h e⟩⟩
theorem SR.set (s : SR K W H r σ) {v : Val} {x : V} (rv : RV K W H v x) (i : Nat) : SR K W H (r.set i (some v)) (σ.set i (some x)) := by
  refine ⟨by simp [s.len], fun j u q => ?_⟩
  by_cases hj : j = i
  · subst hj
    by_cases hl : j < r.length
    · rw [List.getElem?_set_self hl] at q
      cases q
      exact ⟨x, by rw [List.getElem?_set_self (by rw [← s.len]; exact hl)], rv⟩
    · rw [List.getElem?_eq_none_iff.mpr (by simp; omega)] at q
      cases q
  · rw [List.getElem?_set_ne (Ne.symm hj)] at q ⊢
    exact s.get j u q
/-- slots forgotten -/
def wipeE (r : Env) : List Nat → Env
  | [] => r
  | v :: vs => (wipeE r vs).set v none
theorem SR.wipe (s : SR K W H r σ) : ∀ vs : List Nat, SR K W H (wipeE r vs) (L2.wipe σ vs)
  | [] => s
  | v :: vs => by
    have ih := SR.wipe s vs
    refine ⟨by simp [wipeE, L2.wipe, ih.len], fun j u q => ?_⟩
    simp only [wipeE, L2.wipe] at q ⊢
    by_cases hj : j = v
    · subst hj
      by_cases hl : j < (wipeE r vs).length
      · rw [List.getElem?_set_self hl] at q; cases q
      · rw [List.getElem?_eq_none_iff.mpr (by simp; omega)] at q; cases q
    · rw [List.getElem?_set_ne (Ne.symm hj)] at q ⊢
      exact ih.get j u q
end
/-! ### readings -/
/-- what is wanted of an error: its class (by number), its value, the store -/
abbrev Rq := Nat → Val → Store → Prop
abbrev WE0 := Env → Store → (Val → Store → Prop) → Rq → Prop
/-- the classes of errors by number -/
abbrev Cls := Nat → Addr
def Cont (K : Frag) (W : Wd) (H : Hp) (Qd : Val → Store → Prop) (Q : VK) : Prop :=
  ∀ (W' : Wd) (v : Val) (x : V) (m' : Store) (H' : Hp), Ext W H W' H' → RV K W' H' v x → HR K W' m' H' → Qd v m' → Q x H'
def ContX (K : Frag) (cl : Cls) (W : Wd) (H : Hp) (σ : St) (R : Rq) (Wx : WX) : Prop :=
  ∀ (W' : Wd) (c : Nat) (v : Val) (x : V) (d : Addr) (m' : Store) (H' : Hp), Ext W H W' H' → RV K W' H' v x → HR K W' m' H' → H' d = some (.xd [("value", x)]) → R c v m' → Wx (.ref (cl c)) (some d) σ H'
theorem ContX.mono {K : Frag} {cl : Cls} {W W1 : Wd} {H H1 : Hp} {σ : St} {R : Rq} {Wx : WX} (c : ContX K cl W H σ R Wx) (e : Ext W H W1 H1) : ContX K cl W1 H1 σ R Wx :=
  fun W' k v x d m' H' e' rv hr hd q => c W' k v x d m' H' (e.trans e') rv hr hd q
def TEof (K : Frag) (cl : Cls) (Wx : WX) (wp : WE0) : TE := fun σ H Q =>
  ∃ (W : Wd) (r : Env) (m : Store) (Qd : Val → Store → Prop) (R : Rq), SR K W H r σ ∧ HR K W m H ∧ wp r m Qd R ∧ Cont K W H Qd Q ∧ ContX K cl W H σ R Wx
/-- what is known behind a part -/
theorem TEof.bind {K : Frag} {cl : Cls} {Wx : WX} {wp : WE0} {σ : St} {H : Hp} {W : Wd} {r : Env} {m : Store} {Qd : Val → Store → Prop} {R : Rq} {Q : VK} (s : SR K W H r σ) (h : HR K W m H) (w : wp r m Qd R) (cx : ContX K cl W H σ R Wx)
    (k : ∀ (W1 : Wd) (v : Val) (x : V) (m1 : Store) (H1 : Hp), Ext W H W1 H1 → RV K W1 H1 v x → HR K W1 m1 H1 → SR K W1 H1 r σ → ContX K cl W1 H1 σ R Wx → Qd v m1 → Q x H1) : TEof K cl Wx wp σ H Q :=
  ⟨W, r, m, Qd, R, s, h, w, fun W1 v x m1 H1 e rv hr q => k W1 v x m1 H1 e rv hr (s.mono h e) (cx.mono e) q, cx⟩
abbrev WA0 := Env → Store → (List Val → Store → Prop) → Rq → Prop
def TAof (K : Frag) (cl : Cls) (Wx : WX) (wp : WA0) : TA := fun σ H Q =>
  ∃ (W : Wd) (r : Env) (m : Store) (Qd : List Val → Store → Prop) (R : Rq), SR K W H r σ ∧ HR K W m H ∧ wp r m Qd R ∧
    (∀ (W' : Wd) (vs : List Val) (xs : List V) (m' : Store) (H' : Hp), Ext W H W' H' → RVs K W' H' vs xs → HR K W' m' H' → Qd vs m' → Q xs H') ∧ ContX K cl W H σ R Wx
theorem TAof.bind {K : Frag} {cl : Cls} {Wx : WX} {wp : WA0} {σ : St} {H : Hp} {W : Wd} {r : Env} {m : Store} {Qd : List Val → Store → Prop} {R : Rq} {Q : List V → Hp → Prop} (s : SR K W H r σ) (h : HR K W m H) (w : wp r m Qd R) (cx : ContX K cl W H σ R Wx)
    (k : ∀ (W1 : Wd) (vs : List Val) (xs : List V) (m1 : Store) (H1 : Hp), Ext W H W1 H1 → RVs K W1 H1 vs xs → HR K W1 m1 H1 → SR K W1 H1 r σ → ContX K cl W1 H1 σ R Wx → Qd vs m1 → Q xs H1) : TAof K cl Wx wp σ H Q :=
  ⟨W, r, m, Qd, R, s, h, w, fun W1 v x m1 H1 e rv hr q => k W1 v x m1 H1 e rv hr (s.mono h e) (cx.mono e) q, cx⟩
abbrev WT0 := Env → Store → (Bool → Store → Prop) → Rq → Prop
def TTof (K : Frag) (cl : Cls) (Wx : WX) (wp : WT0) : TT := fun σ H Q =>
  ∃ (W : Wd) (r : Env) (m : Store) (Qd : Bool → Store → Prop) (R : Rq), SR K W H r σ ∧ HR K W m H ∧ wp r m Qd R ∧
    (∀ (W' : Wd) (b : Bool) (m' : Store) (H' : Hp), Ext W H W' H' → HR K W' m' H' → Qd b m' → Q b H') ∧ ContX K cl W H σ R Wx
theorem TTof.bind {K : Frag} {cl : Cls} {Wx : WX} {wp : WT0} {σ : St} {H : Hp} {W : Wd} {r : Env} {m : Store} {Qd : Bool → Store → Prop} {R : Rq} {Q : Bool → Hp → Prop} (s : SR K W H r σ) (h : HR K W m H) (w : wp r m Qd R) (cx : ContX K cl W H σ R Wx)
    (k : ∀ (W1 : Wd) (b : Bool) (m1 : Store) (H1 : Hp), Ext W H W1 H1 → HR K W1 m1 H1 → SR K W1 H1 r σ → ContX K cl W1 H1 σ R Wx → Qd b m1 → Q b H1) : TTof K cl Wx wp σ H Q :=
  ⟨W, r, m, Qd, R, s, h, w, fun W1 b m1 H1 e hr q => k W1 b m1 H1 e hr (s.mono h e) (cx.mono e) q, cx⟩
theorem pe_imp {X : Cx} {e : Expr} {t t' : TE} (h : PE X e t) (i : ∀ σ H Q, t' σ H Q → t σ H Q) : PE X e t' := ⟨fun pins s σ H Q I q => h.run pins s σ H Q I (i σ H Q q)⟩
theorem pt_imp {X : Cx} {e : Expr} {t t' : TT} (h : PT X e t) (i : ∀ σ H Q, t' σ H Q → t σ H Q) : PT X e t' := ⟨fun pins s σ H Q I q => h.run pins s σ H Q I (i σ H Q q)⟩
theorem pa_imp {X : Cx} {e : List Expr} {t t' : TA} (h : PA X e t) (i : ∀ σ H Q, t' σ H Q → t σ H Q) : PA X e t' := ⟨fun pos pins s σ H Q I q => h.run pos pins s σ H Q I (i σ H Q q)⟩
theorem ps_imp {X : Cx} {e : Stmt} {t t' : TS} (h : PS X e t) (i : ∀ D σ H, t' D σ H → t D σ H) : PS X e t' := ⟨fun pins s σ H D I q => h.run pins s σ H D I (i D σ H q)⟩
theorem pss_imp {X : Cx} {e : List Stmt} {t t' : TS} (h : PSs X e t) (i : ∀ D σ H, t' D σ H → t D σ H) : PSs X e t' := ⟨fun pins s σ H D I q => h.run pins s σ H D I (i D σ H q)⟩
end Dy

/-! Dp, part C: operations on values, each with the rule of the hand layer that it stands for. -/
namespace Dy
open PySem PySem.Spec L2
/-! ### plain data -/
mutual
def pd : Val → Option PyData
  | .non => some .none
  | .bool b => some (.bool b)
  | .int i => some (.int i)
  | .str s => some (.str (SX.S s))
  | .tup vs => (pds vs).map .tuple
  | .il _ vs => (pds vs).map .list
  | .loc _ => none
def pds : List Val → Option (List PyData)
  | [] => some []
  | v :: vs => (pd v).bind fun d => (pds vs).map fun ds => d :: ds
end
/-- a changing list of the store as data -/
def pdm (m : Store) : Val → Option PyData
  | .loc n => match m[n]? with | some (.list vs) => (pds vs).map .list | none => none
  | v => pd v
/-- the items of a list or tuple -/
def sq (m : Store) : Val → Option (List Val)
  | .tup vs => some vs
  | .il _ vs => some vs
  | .loc n => match m[n]? with | some (.list vs) => some vs | none => none
  | _ => none
section
variable {K : Frag} {W W1 : Wd} {H H1 : Hp} {m : Store}
mutual
theorem pd_dp : ∀ {v : Val} {x : V} {d : PyData}, RV K W H v x → pd v = some d → Dp K H x d
  | _, _, _, .non, e => by cases e; exact .non
  | _, _, _, .bool b, e => by cases e; exact .bl b
  | _, _, _, .int i, e => by cases e; exact .int i
  | _, _, _, .str s, e => by cases e; exact .str _
  | _, _, _, .tup s r, e => by
    simp only [pd, Option.map_eq_some_iff] at e
    obtain ⟨ds, e1, e2⟩ := e
    subst e2
    exact .tup s (pds_dp r e1)
  | _, _, _, .il1 _ q r, e => by
    simp only [pd, Option.map_eq_some_iff] at e
    obtain ⟨ds, e1, e2⟩ := e
    subst e2
    exact .lst (SqL.of q) (pds_dp r e1)
  | _, _, _, .il0 _ q r, e => by
    simp only [pd, Option.map_eq_some_iff] at e
    obtain ⟨ds, e1, e2⟩ := e
    subst e2
    exact .lst q (pds_dp r e1)
  | _, _, _, .ilk q r, e => by
    simp only [pd, Option.map_eq_some_iff] at e
    obtain ⟨ds, e1, e2⟩ := e
    subst e2
    exact .lst (sqL_k q) (pds_dp r e1)
  | _, _, _, .loc _, e => by cases e
theorem pds_dp : ∀ {vs : List Val} {xs : List V} {ds : List PyData}, RVs K W H vs xs → pds vs = some ds → DpAll K H xs ds
  | _, _, _, .nil, e => by cases e; exact .nil
  | _, _, _, .cons r t, e => by
    simp only [pds, Option.bind_eq_some_iff, Option.map_eq_some_iff] at e
    obtain ⟨d, e1, ds, e2, e3⟩ := e
    subst e3
    exact .cons (pd_dp r e1) (pds_dp t e2)
end
theorem loc_at (h : HR K W m H) {n : Nat} {a : Addr} {vs : List Val} (q : W.phi[n]? = some a) (e : m[n]? = some (.list vs)) : ∃ xs, H a = some (.lst xs) ∧ RVs K W H vs xs := by
  obtain ⟨b, e1, r⟩ := h.obj n _ e
  rw [q] at e1; cases e1
  exact r
theorem pdm_dp (h : HR K W m H) {v : Val} {x : V} {d : PyData} (r : RV K W H v x) (e : pdm m v = some d) : Dp K H x d := by
  cases r with
  | loc q =>
    rename_i n a
    simp only [pdm] at e
    cases hm : m[n]? with
    | none => rw [hm] at e; cases e
    | some o =>
      cases o with
      | list vs =>
        rw [hm] at e
        simp only [Option.map_eq_some_iff] at e
        obtain ⟨ds, e1, e2⟩ := e
        subst e2
        obtain ⟨xs, q1, r1⟩ := loc_at h q hm
        exact .lst (SqL.of q1) (pds_dp r1 e1)
  | non => exact pd_dp (W := W) .non e
  | bool b => exact pd_dp (W := W) (.bool b) e
  | int i => exact pd_dp (W := W) (.int i) e
  | str s => exact pd_dp (W := W) (.str s) e
  | tup s r => exact pd_dp (.tup s r) e
  | il1 i q r => exact pd_dp (.il1 i q r) e
  | il0 i q r => exact pd_dp (.il0 i q r) e
  | ilk q r => exact pd_dp (.ilk q r) e
theorem sq_at (h : HR K W m H) {v : Val} {x : V} {vs : List Val} (r : RV K W H v x) (e : sq m v = some vs) : ∃ a xs, x = .ref a ∧ (SqL K H a xs ∨ SqT K H a xs) ∧ RVs K W H vs xs := by
  cases r with
  | loc q =>
    rename_i n a
    simp only [sq] at e
    cases hm : m[n]? with
    | none => rw [hm] at e; cases e
    | some o =>
      cases o with
      | list us =>
        rw [hm] at e; cases e
        obtain ⟨xs, q1, r1⟩ := loc_at h q hm
        exact ⟨a, xs, rfl, .inl (SqL.of q1), r1⟩
  | non => cases e
  | bool b => cases e
  | int i => cases e
  | str s => cases e
  | tup s r => cases e; exact ⟨_, _, rfl, .inr s, r⟩
  | il1 i q r => cases e; exact ⟨_, _, rfl, .inl (SqL.of q), r⟩
  | il0 i q r => cases e; exact ⟨_, _, rfl, .inl q, r⟩
  | ilk q r => cases e; exact ⟨_, _, rfl, .inl (sqL_k q), r⟩
/-- a list (not a tuple) -/
def isL : Val → Bool
  | .il _ _ => true
  | .loc _ => true
  | _ => false
theorem sq_atL (h : HR K W m H) {v : Val} {x : V} {vs : List Val} (r : RV K W H v x) (e : sq m v = some vs) (hl : isL v = true) : ∃ a xs, x = .ref a ∧ SqL K H a xs ∧ RVs K W H vs xs := by
  cases r with
  | loc q =>
    rename_i n a
    simp only [sq] at e
    cases hm : m[n]? with
    | none => rw [hm] at e; cases e
    | some o =>
      cases o with
      | list us =>
        rw [hm] at e; cases e
        obtain ⟨xs, q1, r1⟩ := loc_at h q hm
        exact ⟨a, xs, rfl, SqL.of q1, r1⟩
  | non => cases e
  | bool b => cases e
  | int i => cases e
  | str s => cases e
  | tup s r => cases hl
  | il1 i q r => cases e; exact ⟨_, _, rfl, SqL.of q, r⟩
  | il0 i q r => cases e; exact ⟨_, _, rfl, q, r⟩
  | ilk q r => cases e; exact ⟨_, _, rfl, sqL_k q, r⟩
theorem RV.int_inv {i : Int} {x : V} (r : RV K W H (.int i) x) : x = .int i := by cases r; rfl
theorem RV.str_inv {s : Text} {x : V} (r : RV K W H (.str s) x) : x = .str (SX.S s) := by cases r; rfl
theorem RV.bool_inv {b : Bool} {x : V} (r : RV K W H (.bool b) x) : x = .bl b := by cases r; rfl
theorem RV.non_inv {x : V} (r : RV K W H .non x) : x = .non := by cases r; rfl
theorem RV.il_inv {vs : List Val} {x : V} (r : RV K W H (.il true vs) x) : ∃ a xs, x = .ref a ∧ H a = some (.lst xs) ∧ RVs K W H vs xs := by cases r; exact ⟨_, _, rfl, by assumption, by assumption⟩
theorem RV.tup_inv {vs : List Val} {x : V} (r : RV K W H (.tup vs) x) : ∃ a xs, x = .ref a ∧ SqT K H a xs ∧ RVs K W H vs xs := by cases r; exact ⟨_, _, rfl, by assumption, by assumption⟩
end
/-! ### binary operators -/
inductive BOp where
  | add | sub | mul | fdiv | mod | pow
  deriving DecidableEq
def BOp.op : BOp → Operator
  | .add => .Add
  | .sub => .Sub
  | .mul => .Mult
  | .fdiv => .FloorDiv
  | .mod => .Mod
  | .pow => .Pow
def mulOk (i j : Int) : Prop := CMul i j ∨ CMulW i j
def powOk (i n : Int) : Prop := 0 ≤ n ∧ (Builtin.Int.intBits i : Int) * n ≤ 2 ^ 27
def divOk (j : Int) : Prop := 0 < j ∧ j.natAbs.log2 < 9000
def binW : BOp → Val → Val → Store → (Val → Store → Prop) → Prop
  | .add, .int a, .int b, m, Q => Q (.int (a + b)) m
  | .add, .str a, .str b, m, Q => a.length + b.length ≤ sizeLine ∧ Q (.str (a ++ b)) m
  | .add, .il true a, .il true b, m, Q => a.length + b.length ≤ sizeLine ∧ Q (.il true (a ++ b)) m
  | .add, .tup a, .tup b, m, Q => a.length + b.length ≤ sizeLine ∧ Q (.tup (a ++ b)) m
  | .sub, .int a, .int b, m, Q => Q (.int (a - b)) m
  | .mul, .int a, .int b, m, Q => mulOk a b ∧ Q (.int (a * b)) m
  | .mul, .il true a, .int k, m, Q => (-(2 ^ 63) ≤ k ∧ k < 2 ^ 63 ∧ a.length * k.toNat ≤ sizeLine) ∧ Q (.il true (List.replicate k.toNat a).flatten) m
  | .fdiv, .int a, .int b, m, Q => divOk b ∧ Q (.int (a / b)) m
  | .mod, .int a, .int b, m, Q => 0 < b ∧ Q (.int (a % b)) m
  | .pow, .int a, .int b, m, Q => powOk a b ∧ Q (.int (a ^ b.toNat)) m
  | _, _, _, _, _ => False
def rAdd3 : R2 := fun x y H Q => (rI0 (fun i j => .int (i + j)) x y H Q ∨ ∃ i j, x = .str i ∧ y = .str j ∧ i.length + j.length ≤ sizeLine ∧ Q (.str (i ++ j)) H) ∨ rCat x y H Q
def rMul3 : R2 := fun x y H Q => (rI CMul (fun i j => .int (i * j)) x y H Q ∨ rI CMulW (fun i j => .int (i * j)) x y H Q) ∨ rRep x y H Q
def rBin (K : Frag) : BOp → R2
  | .add => fun x y H Q => rAdd3 x y H Q ∨ rCatA K x y H Q
  | .sub => rI0 fun i j => .int (i - j)
  | .mul => rMul3
  | .fdiv => rI CDivW fun i j => .int (i / j)
  | .mod => rI (fun _ j => 0 < j) fun i j => .int (i % j)
  | .pow => rI powOk fun i j => .int (i ^ j.toNat)
theorem op_bin {X : Cx} : ∀ op : BOp, OpR X (binaryOp op.op) (rBin X.K op)
  | .add => ((op_add.or op_add_str).or op_cat).or op_catA
  | .sub => op_sub
  | .mul => (op_mul.or op_mulW).or op_rep
  | .fdiv => op_fdivW
  | .mod => op_mod
  | .pow => opI fun _ _ _ _ _ _ _ hc q => PyProof.Rows.pow_int hc.1 hc.2 q
theorem Cont.here {K : Frag} {W : Wd} {H : Hp} {m : Store} {Qd : Val → Store → Prop} {Q : VK} (k : Cont K W H Qd Q) (h : HR K W m H) {v : Val} {x : V} (r : RV K W H v x) (q : Qd v m) : Q x H := k W v x m H (.refl h) r h q
theorem Cont.il {K : Frag} {W : Wd} {H : Hp} {m : Store} {Qd : Val → Store → Prop} {Q : VK} (k : Cont K W H Qd Q) (h : HR K W m H) {vs : List Val} {xs : List V} (r : RVs K W H vs xs) (q : Qd (.il true vs) m) {p : Addr} (hp : H p = none) : Q (.ref p) (upd H p (.lst xs)) := by
  obtain ⟨e, h1, rv⟩ := new_il h hp r
  exact k _ _ _ _ _ e rv h1 q
theorem Cont.tup {K : Frag} {W : Wd} {H : Hp} {m : Store} {Qd : Val → Store → Prop} {Q : VK} (k : Cont K W H Qd Q) (h : HR K W m H) {vs : List Val} {xs : List V} (r : RVs K W H vs xs) (q : Qd (.tup vs) m) {p : Addr} (hp : H p = none) : Q (.ref p) (upd H p (.tup xs)) := by
  obtain ⟨e, h1, rv⟩ := new_tup h hp r
  exact k _ _ _ _ _ e rv h1 q
theorem Cont.loc {K : Frag} {W : Wd} {H : Hp} {m : Store} {Qd : Val → Store → Prop} {Q : VK} (k : Cont K W H Qd Q) (h : HR K W m H) {vs : List Val} {xs : List V} (r : RVs K W H vs xs) (q : Qd (.loc m.length) (m ++ [.list vs])) {p : Addr} (hp : H p = none) : Q (.ref p) (upd H p (.lst xs)) := by
  obtain ⟨e, h1, rv⟩ := new_loc h hp r
  exact k _ _ _ _ _ e rv h1 q
theorem bin_ok {K : Frag} {W : Wd} {H : Hp} {m : Store} {Qd : Val → Store → Prop} {Q : VK} {op : BOp} {a b : Val} {x y : V} (ra : RV K W H a x) (rb : RV K W H b y) (h : HR K W m H) (hw : binW op a b m Qd) (k : Cont K W H Qd Q) : rBin K op x y H Q := by
  unfold binW at hw
  split at hw
  · rw [ra.int_inv, rb.int_inv]
    exact .inl (.inl (.inl ⟨_, _, rfl, rfl, k.here h (.int _) hw⟩))
  · rw [ra.str_inv, rb.str_inv]
    refine .inl (.inl (.inr ⟨_, _, rfl, rfl, ?_, ?_⟩))
    · rw [SX.S_len, SX.S_len]; exact hw.1
    · rw [SX.S_cat]; exact k.here h (.str _) hw.2
  · obtain ⟨p, xs, rfl, q1, r1⟩ := ra.il_inv
    obtain ⟨p', ys, rfl, q2, r2⟩ := rb.il_inv
    exact .inl (.inr ⟨p, p', xs, ys, rfl, rfl, q1, q2, by rw [← r1.length, ← r2.length]; exact hw.1, fun p hp => k.il h (r1.append r2) hw.2 hp⟩)
  · obtain ⟨p, xs, rfl, q1, r1⟩ := ra.tup_inv
    obtain ⟨p', ys, rfl, q2, r2⟩ := rb.tup_inv
    refine .inr ⟨p, p', xs, ys, rfl, rfl, q1, q2, by rw [← r1.length, ← r2.length]; exact hw.1, fun z => ?_, fun _ z => ?_, fun _ _ p hp => k.tup h (r1.append r2) hw.2 hp⟩
    · subst z
      cases r1
      exact k.here h (.tup q2 r2) hw.2
    · subst z
      cases r2
      exact k.here h (.tup q1 r1) (by simpa using hw.2)
  · rw [ra.int_inv, rb.int_inv]
    exact ⟨_, _, rfl, rfl, k.here h (.int _) hw⟩
  · rw [ra.int_inv, rb.int_inv]
    rcases hw.1 with c | c
    · exact .inl (.inl ⟨_, _, rfl, rfl, c, k.here h (.int _) hw.2⟩)
    · exact .inl (.inr ⟨_, _, rfl, rfl, c, k.here h (.int _) hw.2⟩)
  · obtain ⟨p, xs, rfl, q1, r1⟩ := ra.il_inv
    rw [rb.int_inv]
    obtain ⟨⟨h1, h2, h3⟩, q⟩ := hw
    exact .inr ⟨p, _, xs, rfl, rfl, q1, h1, h2, by rw [← r1.length]; exact h3, fun p hp => k.il h (r1.rep _) q hp⟩
  · rw [ra.int_inv, rb.int_inv]
    exact ⟨_, _, rfl, rfl, hw.1, k.here h (.int _) hw.2⟩
  · rw [ra.int_inv, rb.int_inv]
    exact ⟨_, _, rfl, rfl, hw.1, k.here h (.int _) hw.2⟩
  · rw [ra.int_inv, rb.int_inv]
    exact ⟨_, _, rfl, rfl, hw.1, k.here h (.int _) hw.2⟩
  · exact hw.elim
/-! ### comparisons -/
inductive COp where
  | eq | ne | lt | le | gt | ge | isin | notin
  deriving DecidableEq
def COp.op : COp → CmpOp
  | .eq => .Eq
  | .ne => .NotEq
  | .lt => .Lt
  | .le => .LtE
  | .gt => .Gt
  | .ge => .GtE
  | .isin => .In
  | .notin => .NotIn
def scalP : PyData → PyData → Bool
  | .none, .none => true | .none, .int _ => true | .int _, .none => true | .none, .bool _ => true | .bool _, .none => true | .none, .str _ => true | .str _, .none => true
  | .int _, .int _ => true | .bool _, .bool _ => true | .str _, .str _ => true
  | .int _, .str _ => true | .str _, .int _ => true | .bool _, .str _ => true | .str _, .bool _ => true
  | _, _ => false
def eqOk (x y : PyData) : Bool := scalP x y || (SeqAt.shaped x && SeqAt.shaped y)
def flatP : PyData → Bool
  | .none => true | .bool _ => true | .int _ => true | .str _ => true
  | _ => false
/-- what «in» looks through: the items of a list (data), of a tuple (plain ones) -/
def inOk (d : PyData) : PyData → Bool
  | .list ds => SeqAt.shaped d && SeqAt.shaped (.list ds)
  | .tuple ds => flatP d && ds.all flatP
  | _ => false
def itemsP : PyData → List PyData
  | .list ds => ds
  | .tuple ds => ds
  | _ => []
def inW (neg : Bool) (a b : Val) (m : Store) (Q : Bool → Prop) : Prop :=
  match a, b with
  | .str [c], .str z => Q (neg != decide (c ∈ z))
  | a, b => ∃ d e, pdm m a = some d ∧ pdm m b = some e ∧ inOk d e = true ∧ Q (neg != (itemsP e).any fun z => PyData.eqv z d)
def cmpW : COp → Val → Val → Store → (Bool → Prop) → Prop
  | .eq, a, b, m, Q => ∃ d e, pdm m a = some d ∧ pdm m b = some e ∧ eqOk d e = true ∧ Q (PyData.eqv d e)
  | .ne, a, b, m, Q => ∃ d e, pdm m a = some d ∧ pdm m b = some e ∧ eqOk d e = true ∧ Q (!PyData.eqv d e)
  | .lt, .int a, .int b, _, Q => Q (decide (a < b))
  | .le, .int a, .int b, _, Q => Q (decide (a ≤ b))
  | .gt, .int a, .int b, _, Q => Q (decide (b < a))
  | .ge, .int a, .int b, _, Q => Q (decide (b ≤ a))
  | .isin, a, b, m, Q => inW false a b m Q
  | .notin, a, b, m, Q => inW true a b m Q
  | _, _, _, _, _ => False
def rCmp (K : Frag) : COp → R2
  | .eq => fun x y H Q => rEq x y H Q ∨ rEqD K x y H Q
  | .ne => fun x y H Q => rNe x y H Q ∨ rNeD K x y H Q
  | .lt => rI0 fun i j => .bl (decide (i < j))
  | .le => rI0 fun i j => .bl (decide (i ≤ j))
  | .gt => rI0 fun i j => .bl (decide (j < i))
  | .ge => rI0 fun i j => .bl (decide (j ≤ i))
  | .isin => fun x y H Q => ((∃ (c : Nat) (z : Str), x = .str ⟨#[c]⟩ ∧ y = .str z ∧ Q (.bl (decide (c ∈ z.cps.toList))) H) ∨ rInD K x y H Q) ∨ rIn K false x y H Q
  | .notin => fun x y H Q => ((∃ (c : Nat) (z : Str), x = .str ⟨#[c]⟩ ∧ y = .str z ∧ Q (.bl (!decide (c ∈ z.cps.toList))) H) ∨ rNotInD K x y H Q) ∨ rIn K true x y H Q
theorem op_cmp {X : Cx} (hu : X.A.units + 65 < cLine) : ∀ op : COp, OpR X (compareOp op.op) (rCmp X.K op)
  | .eq => op_eq.or (op_eqD (by omega))
  | .ne => op_ne.or (op_neD (by omega))
  | .lt => op_lt
  | .le => op_le
  | .gt => op_gt
  | .ge => op_ge
  | .isin => (op_in_sign.or (op_inD hu)).or op_in_seq
  | .notin => (op_notIn_sign.or (op_notInD hu)).or op_notIn_seq
theorem scal_of {K : Frag} {H : Hp} {x y : V} {d e : PyData} (a : Dp K H x d) (b : Dp K H y e) (h : scalP d e = true) : scal x y = true ∧ decide (x = y) = PyData.eqv d e := by
  cases a <;> cases b <;> first | exact (Bool.false_ne_true h).elim | (refine ⟨rfl, ?_⟩; first | exact dec_int | exact dec_bl | exact dec_str | (simp [PyData.eqv]))
theorem flat_of {K : Frag} {H : Hp} {x : V} {d : PyData} (a : Dp K H x d) (h : flatP d = true) : flatV x = true := by
  cases a <;> first | rfl | exact (Bool.false_ne_true h).elim
theorem eqV_of {K : Frag} {H : Hp} {x y : V} {d e : PyData} (a : Dp K H x d) (b : Dp K H y e) (h : flatP d = true) (h' : flatP e = true) : eqV x y = PyData.eqv d e := by
  cases a <;> cases b <;> first | exact (Bool.false_ne_true h).elim | exact (Bool.false_ne_true h').elim | (simp [PyData.eqv, eqV])
theorem flats_of {K : Frag} {H : Hp} {x : V} {d : PyData} (a : Dp K H x d) (hd : flatP d = true) : ∀ {xs : List V} {ds : List PyData}, DpAll K H xs ds → ds.all flatP = true → xs.all flatV = true ∧ inV x xs = ds.any fun z => PyData.eqv z d
  | _, _, .nil, _ => ⟨rfl, rfl⟩
  | _, _, .cons r t, h => by
    rw [List.all_cons, Bool.and_eq_true] at h
    obtain ⟨h1, h2⟩ := flats_of a hd t h.2
    refine ⟨by rw [List.all_cons, flat_of r h.1, h1]; rfl, ?_⟩
    unfold inV at h2 ⊢
    rw [List.any_cons, List.any_cons, h2, eqV_of r a h.1 hd]
theorem in_data {K : Frag} {H : Hp} {x y : V} {d e : PyData} {Q : VK} {neg : Bool} (a : Dp K H x d) (b : Dp K H y e) (h : inOk d e = true) (q : Q (.bl (neg != (itemsP e).any fun z => PyData.eqv z d)) H) :
    (neg = false → rInD K x y H Q ∨ rIn K false x y H Q) ∧ (neg = true → rNotInD K x y H Q ∨ rIn K true x y H Q) := by
  cases b with
  | lst s r =>
    have h' := Bool.and_eq_true_iff.mp h
    constructor
    · intro z; subst z
      exact .inl ⟨_, _, a, .lst s r, h'.1, h'.2, by simpa [itemsP] using q⟩
    · intro z; subst z
      exact .inl ⟨_, _, a, .lst s r, h'.1, h'.2, by simpa [itemsP] using q⟩
  | tup s r =>
    have h' := Bool.and_eq_true_iff.mp h
    obtain ⟨f1, f2⟩ := flats_of a h'.1 r h'.2
    constructor
    · intro z; subst z
      exact .inr ⟨_, _, rfl, .inr s, flat_of a h'.1, f1, by rw [f2]; simpa [itemsP] using q⟩
    · intro z; subst z
      exact .inr ⟨_, _, rfl, .inr s, flat_of a h'.1, f1, by rw [f2]; simpa [itemsP] using q⟩
  | non => exact (Bool.false_ne_true h).elim
  | bl b => exact (Bool.false_ne_true h).elim
  | int i => exact (Bool.false_ne_true h).elim
  | str s => exact (Bool.false_ne_true h).elim
theorem cmp_ok {K : Frag} {W : Wd} {H : Hp} {m : Store} {Qd : Bool → Prop} {Q : VK} {op : COp} {a b : Val} {x y : V} (ra : RV K W H a x) (rb : RV K W H b y) (h : HR K W m H) (hw : cmpW op a b m Qd) (k : ∀ c, Qd c → Q (.bl c) H) : rCmp K op x y H Q := by
  have eqn : ∀ (neg : Bool) (d e : PyData), pdm m a = some d → pdm m b = some e → eqOk d e = true → Q (.bl (neg != PyData.eqv d e)) H →
      (neg = false → rEq x y H Q ∨ rEqD K x y H Q) ∧ (neg = true → rNe x y H Q ∨ rNeD K x y H Q) := by
    intro neg d e h1 h2 h3 q
    have pa := pdm_dp h ra h1
    have pb := pdm_dp h rb h2
    rcases Bool.or_eq_true_iff.mp h3 with c | c
    · obtain ⟨c1, c2⟩ := scal_of pa pb c
      constructor
      · intro z; subst z
        exact .inl ⟨c1, by rw [c2]; simpa using q⟩
      · intro z; subst z
        exact .inl ⟨c1, by rw [c2]; simpa using q⟩
    · have c' := Bool.and_eq_true_iff.mp c
      constructor
      · intro z; subst z
        exact .inr ⟨d, e, pa, pb, c'.1, c'.2, by simpa using q⟩
      · intro z; subst z
        exact .inr ⟨d, e, pa, pb, c'.1, c'.2, by simpa using q⟩
  have inn : ∀ (neg : Bool), inW neg a b m Qd → 
      (neg = false → rCmp K .isin x y H Q) ∧ (neg = true → rCmp K .notin x y H Q) := by
    intro neg hw
    unfold inW at hw
    split at hw
    · skip
      rw [ra.str_inv, rb.str_inv]
      constructor
      · intro e; subst e
        exact .inl (.inl ⟨_, _, rfl, rfl, by simpa using k _ hw⟩)
      · intro e; subst e
        exact .inl (.inl ⟨_, _, rfl, rfl, by simpa using k _ hw⟩)
    · obtain ⟨d, e, h1, h2, h3, q⟩ := hw
      have pa := pdm_dp h ra h1
      have pb := pdm_dp h rb h2
      obtain ⟨i1, i2⟩ := in_data pa pb h3 (k _ q)
      exact ⟨fun z => (i1 z).elim (fun z => .inl (.inr z)) .inr, fun z => (i2 z).elim (fun z => .inl (.inr z)) .inr⟩
  cases op with
  | eq =>
    obtain ⟨d, e, h1, h2, h3, q⟩ := hw
    exact (eqn false d e h1 h2 h3 (by simpa using k _ q)).1 rfl
  | ne =>
    obtain ⟨d, e, h1, h2, h3, q⟩ := hw
    exact (eqn true d e h1 h2 h3 (by simpa using k _ q)).2 rfl
  | isin => exact (inn false hw).1 rfl
  | notin => exact (inn true hw).2 rfl
  | _ =>
    cases a <;> cases b <;> first | exact False.elim hw | (rw [ra.int_inv, rb.int_inv]; exact ⟨_, _, rfl, rfl, k _ hw⟩)
/-! ### truth -/
def tru (m : Store) : Val → Option Bool
  | .non => some false
  | .bool b => some b
  | .int i => some (i != 0)
  | .str s => if s.length ≤ sizeLine then some ((s.length : Int) != 0) else none
  | .tup vs => some (!vs.isEmpty)
  | .il _ vs => some (!vs.isEmpty)
  | .loc n => match m[n]? with | some (.list vs) => some (!vs.isEmpty) | none => none
theorem RVs.emp {K : Frag} {W : Wd} {H : Hp} {vs : List Val} {xs : List V} (r : RVs K W H vs xs) : (!vs.isEmpty) = !xs.isEmpty := by cases r <;> rfl
theorem tru_at {K : Frag} {W : Wd} {H : Hp} {m : Store} {v : Val} {x : V} {k : Bool} (r : RV K W H v x) (h : HR K W m H) (hw : tru m v = some k) : TruV K x H k := by
  cases r with
  | non => cases hw; rfl
  | bool b => cases hw; rfl
  | int i => cases hw; rfl
  | str s =>
    simp only [tru] at hw
    split at hw
    · cases hw
      exact ⟨by rw [SX.S_len]; assumption, by rw [SX.S_len]⟩
    · cases hw
  | tup s r => cases hw; exact .inr (.inl ⟨_, s, r.emp⟩)
  | il1 i q r => cases hw; exact .inl ⟨_, SqL.of q, r.emp⟩
  | il0 i q r => cases hw; exact .inl ⟨_, q, r.emp⟩
  | ilk q r => cases hw; exact .inl ⟨_, sqL_k q, r.emp⟩
  | loc q =>
    rename_i n a
    simp only [tru] at hw
    cases hm : m[n]? with
    | none => rw [hm] at hw; cases hw
    | some o =>
      cases o with
      | list vs =>
        rw [hm] at hw; cases hw
        obtain ⟨xs, q1, r1⟩ := loc_at h q hm
        exact .inl ⟨_, SqL.of q1, r1.emp⟩
end Dy

/-! Dp, part D: built-in functions, methods, places, what is walked. -/
namespace Dy
open PySem PySem.Spec L2
/-- str of an int -/
def numT (i : Int) : Text := (Str.ofString (toString i)).cps.toList
theorem S_numT (i : Int) : SX.S (numT i) = Str.ofString (toString i) := SX.S_tl _
inductive Bi where
  | len | abs | int | str | tuple | list | all | any | max | min | repr
  deriving DecidableEq
def Bi.val : Bi → Value
  | .len => .builtin "len"
  | .abs => .builtin "abs"
  | .int => .type "int"
  | .str => .type "str"
  | .tuple => .type "tuple"
  | .list => .type "list"
  | .all => .builtin "all"
  | .any => .builtin "any"
  | .max => .builtin "max"
  | .min => .builtin "min"
  | .repr => .builtin "repr"
def Bi.name : Bi → Str
  | .len => "len"
  | .abs => "abs"
  | .int => "int"
  | .str => "str"
  | .tuple => "tuple"
  | .list => "list"
  | .all => "all"
  | .any => "any"
  | .max => "max"
  | .min => "min"
  | .repr => "repr"
def boolsOf : List Val → Option (List Bool)
  | [] => some []
  | .bool b :: r => (boolsOf r).map fun bs => b :: bs
  | _ :: _ => none
def reprOk (d : PyData) : Prop := d.showable = true ∧ d.hasDict = false ∧ d.depth ≤ 60 ∧ d.shown.length ≤ sizeLine
def biW : Bi → List Val → Store → (Val → Store → Prop) → Prop
  | .len, [.str s], m, Q => s.length ≤ sizeLine ∧ Q (.int s.length) m
  | .len, [v], m, Q => ∃ vs, sq m v = some vs ∧ Q (.int vs.length) m
  | .abs, [.int i], m, Q => Q (.int (if i < 0 then -i else i)) m
  | .int, [.int i], m, Q => Q (.int i) m
  | .int, [.bool b], m, Q => Q (.int (if b then 1 else 0)) m
  | .int, [.str s], m, Q => ∃ n, PySem.intText? (SX.S s) = some n ∧ s.length ≤ 640 ∧ Q (.int n) m
  | .str, [.int i], m, Q => i.natAbs.log2 < 1920 ∧ Q (.str (numT i)) m
  | .str, [.str s], m, Q => Q (.str s) m
  | .tuple, [v], m, Q => ∃ vs, sq m v = some vs ∧ Q (.tup vs) m
  | .list, [v], m, Q => ∃ vs, sq m v = some vs ∧ Q (.il true vs) m
  | .all, [v], m, Q => isL v = true ∧ ∃ vs bs, sq m v = some vs ∧ boolsOf vs = some bs ∧ Q (.bool (bs.all id)) m
  | .any, [v], m, Q => isL v = true ∧ ∃ vs bs, sq m v = some vs ∧ boolsOf vs = some bs ∧ Q (.bool (bs.any id)) m
  | .max, [.int i, .int j], m, Q => Q (.int (if j > i then j else i)) m
  | .min, [.int i, .int j], m, Q => Q (.int (if j < i then j else i)) m
  | .repr, [v], m, Q => ∃ d, pdm m v = some d ∧ reprOk d ∧ Q (.str d.shown.cps.toList) m
  | _, _, _, _ => False
def rBi (K : Frag) : Bi → List V → Hp → VK → Prop
  | .len => fun xs H Q => ∃ x n, xs = [x] ∧ LenV K x H n ∧ Q (.int n) H
  | .abs => fun xs H Q => ∃ i, xs = [.int i] ∧ Q (.int (if i < 0 then -i else i)) H
  | .int => fun xs H Q => ((∃ i, xs = [.int i] ∧ Q (.int i) H) ∨ ∃ k, xs = [.bl k] ∧ Q (.int (if k then 1 else 0)) H) ∨ ∃ a n, xs = [.str a] ∧ PySem.intText? a = some n ∧ a.length ≤ 640 ∧ Q (.int n) H
  | .str => fun xs H Q => (∃ i, xs = [.int i] ∧ i.natAbs.log2 < 1920 ∧ Q (.str (toString i)) H) ∨ ∃ a, xs = [.str a] ∧ Q (.str a) H
  | .tuple => fun xs H Q => ∃ p ys, xs = [.ref p] ∧ ((SqL K H p ys ∧ ∀ l, H l = none → Q (.ref l) (upd H l (.tup ys))) ∨ (SqT K H p ys ∧ Q (.ref p) H))
  | .list => fun xs H Q => ∃ p ys, xs = [.ref p] ∧ (SqL K H p ys ∨ SqT K H p ys) ∧ ∀ l, H l = none → Q (.ref l) (upd H l (.lst ys))
  | .all => rAll K
  | .any => rAny K
  | .max => fun xs H Q => ∃ i j, xs = [.int i, .int j] ∧ Q (.int (if j > i then j else i)) H
  | .min => fun xs H Q => ∃ i j, xs = [.int i, .int j] ∧ Q (.int (if j < i then j else i)) H
  | .repr => fun xs H Q => ∃ x d, xs = [x] ∧ Dp K H x d ∧ reprOk d ∧ Q (.str d.shown) H
theorem call_reprD {X : Cx} (hg : X.A.guards = some []) (hu : X.A.units + 64 < cLine) : CallR X (.builtin "repr") (rBi X.K .repr) := by
  intro pins s σ H xs us Q I r ⟨x, d, e, hd, ⟨h1, h2, h3, h4⟩, q⟩
  subst e
  obtain ⟨u, e, ru⟩ := vals1 r
  subst e
  have hd' := hd
  cases hd with
  | non => cases ru; exact PySem.P.repr_of_none ⟨.str _, _, I.tok _, ⟨_, rfl⟩, q⟩
  | bl b => cases ru; exact PySem.P.repr_of_bool ⟨.str _, _, I.tok _, ⟨_, rfl⟩, by cases b <;> exact q⟩
  | int i =>
    obtain ⟨t, rfl⟩ := ru
    exact PySem.P.repr_of_int (by simpa [PyData.showable] using h1) ⟨.str _, _, I.tok _, ⟨_, rfl⟩, q⟩
  | str z =>
    obtain ⟨t, rfl⟩ := ru
    exact PySem.P.repr_of_str ⟨.str _, _, I.tok _, ⟨_, rfl⟩, q⟩ h4
  | lst s' r' =>
    obtain ⟨as, hr⟩ := Dp.reads I _ _ _ hd' ru
    cases ru
    exact repr_of_reads' hr h1 (PyData.noDict_hsm h2) hg (by omega) (fun _ _ e => e) (fun h' u tk hk => ⟨.str _, _, I.kept hk, ⟨_, rfl⟩, q⟩) h4
  | tup s' r' =>
    obtain ⟨as, hr⟩ := Dp.reads I _ _ _ hd' ru
    cases ru
    exact repr_of_reads' hr h1 (PyData.noDict_hsm h2) hg (by omega) (fun _ _ e => e) (fun h' u tk hk => ⟨.str _, _, I.kept hk, ⟨_, rfl⟩, q⟩) h4
theorem call_bi {X : Cx} (hc : X.calm = true) (hg : X.A.guards = some []) (hu : X.A.units + 64 < cLine) : ∀ b : Bi, CallR X b.val (rBi X.K b)
  | .len => call_len
  | .abs => call_abs
  | .int => call_int1.or call_int_str
  | .str => call_str_int.or SkE.call_str_str
  | .tuple => call_tuple_of
  | .list => call_list_of
  | .all => cr_all hc
  | .any => cr_any hc
  | .max => call_max2 hc
  | .min => call_min2 hc
  | .repr => call_reprD hg hu
section
variable {K : Frag} {W : Wd} {H : Hp} {m : Store}
theorem bools_of : ∀ {vs : List Val} {xs : List V} {bs : List Bool}, RVs K W H vs xs → boolsOf vs = some bs → xs = bs.map V.bl
  | _, _, _, .nil, e => by cases e; rfl
  | _, _, _, .cons (v := v) r t, e => by
    cases v with
    | bool b =>
      simp only [boolsOf, Option.map_eq_some_iff] at e
      obtain ⟨bs, e1, e2⟩ := e
      subst e2
      rw [r.bool_inv, bools_of t e1]
      rfl
    | _ => cases e
theorem RVs.one_inv {v : Val} {xs : List V} (r : RVs K W H [v] xs) : ∃ x, xs = [x] ∧ RV K W H v x := by cases r with | cons a t => cases t; exact ⟨_, rfl, a⟩
theorem RVs.two_inv {v w : Val} {xs : List V} (r : RVs K W H [v, w] xs) : ∃ x y, xs = [x, y] ∧ RV K W H v x ∧ RV K W H w y := by cases r with | cons a t => cases t with | cons b t => cases t; exact ⟨_, _, rfl, a, b⟩
theorem bi_ok {Qd : Val → Store → Prop} {Q : VK} {b : Bi} {vs : List Val} {xs : List V} (r : RVs K W H vs xs) (h : HR K W m H) (hw : biW b vs m Qd) (k : Cont K W H Qd Q) : rBi K b xs H Q := by
  unfold biW at hw
  split at hw
  · obtain ⟨x, rfl, r0⟩ := r.one_inv
    rw [r0.str_inv]
    exact ⟨_, _, rfl, ⟨by rw [SX.S_len]; exact hw.1, rfl⟩, by rw [SX.S_len]; exact k.here h (.int _) hw.2⟩
  · obtain ⟨us, e, q⟩ := hw
    obtain ⟨x, rfl, r0⟩ := r.one_inv
    obtain ⟨a, ys, rfl, sl, r1⟩ := sq_at h r0 e
    refine ⟨_, us.length, rfl, ?_, k.here h (.int _) q⟩
    rcases sl with sl | sl
    · exact .inl ⟨_, sl, r1.length⟩
    · exact .inr ⟨_, sl, r1.length⟩
  · obtain ⟨x, rfl, r0⟩ := r.one_inv
    rw [r0.int_inv]
    exact ⟨_, rfl, k.here h (.int _) hw⟩
  · obtain ⟨x, rfl, r0⟩ := r.one_inv
    rw [r0.int_inv]
    exact .inl (.inl ⟨_, rfl, k.here h (.int _) hw⟩)
  · obtain ⟨x, rfl, r0⟩ := r.one_inv
    rw [r0.bool_inv]
    exact .inl (.inr ⟨_, rfl, k.here h (.int _) hw⟩)
  · obtain ⟨n, h1, h2, q⟩ := hw
    obtain ⟨x, rfl, r0⟩ := r.one_inv
    rw [r0.str_inv]
    exact .inr ⟨_, n, rfl, h1, by rw [SX.S_len]; exact h2, k.here h (.int _) q⟩
  · obtain ⟨x, rfl, r0⟩ := r.one_inv
    rw [r0.int_inv]
    exact .inl ⟨_, rfl, hw.1, by rw [← S_numT]; exact k.here h (.str _) hw.2⟩
  · obtain ⟨x, rfl, r0⟩ := r.one_inv
    rw [r0.str_inv]
    exact .inr ⟨_, rfl, k.here h (.str _) hw⟩
  · obtain ⟨us, e, q⟩ := hw
    obtain ⟨x, rfl, r0⟩ := r.one_inv
    obtain ⟨a, ys, rfl, sl, r1⟩ := sq_at h r0 e
    refine ⟨_, ys, rfl, ?_⟩
    rcases sl with sl | sl
    · exact .inl ⟨sl, fun l hl => k.tup h r1 q hl⟩
    · exact .inr ⟨sl, k.here h (.tup sl r1) q⟩
  · obtain ⟨us, e, q⟩ := hw
    obtain ⟨x, rfl, r0⟩ := r.one_inv
    obtain ⟨a, ys, rfl, sl, r1⟩ := sq_at h r0 e
    exact ⟨_, _, rfl, sl, fun l hl => k.il h r1 q hl⟩
  · obtain ⟨hl, us, bs, e, e2, q⟩ := hw
    obtain ⟨x, rfl, r0⟩ := r.one_inv
    obtain ⟨a, ys, rfl, sl, r1⟩ := sq_atL h r0 e hl
    exact ⟨_, bs, rfl, by rw [← bools_of r1 e2]; exact sl, k.here h (.bool _) q⟩
  · obtain ⟨hl, us, bs, e, e2, q⟩ := hw
    obtain ⟨x, rfl, r0⟩ := r.one_inv
    obtain ⟨a, ys, rfl, sl, r1⟩ := sq_atL h r0 e hl
    exact ⟨_, bs, rfl, by rw [← bools_of r1 e2]; exact sl, k.here h (.bool _) q⟩
  · obtain ⟨x, y, rfl, r0, r2⟩ := r.two_inv
    rw [r0.int_inv, r2.int_inv]
    exact ⟨_, _, rfl, k.here h (.int _) hw⟩
  · obtain ⟨x, y, rfl, r0, r2⟩ := r.two_inv
    rw [r0.int_inv, r2.int_inv]
    exact ⟨_, _, rfl, k.here h (.int _) hw⟩
  · obtain ⟨d, e, ok, q⟩ := hw
    obtain ⟨x, rfl, r0⟩ := r.one_inv
    exact ⟨_, d, rfl, pdm_dp h r0 e, ok, by rw [← SX.S_tl d.shown]; exact k.here h (.str _) q⟩
  · exact hw.elim
end
/-! ### isinstance -/
inductive Ty where
  | int | bool | str | tuple | list | dict
  deriving DecidableEq
def Ty.name : Ty → String
  | .int => "int"
  | .bool => "bool"
  | .str => "str"
  | .tuple => "tuple"
  | .list => "list"
  | .dict => "dict"
/-- the kinds of values -/
inductive Kd where
  | non | bool | int | str | tuple | list
def Kd.name : Kd → String
  | .non => "NoneType"
  | .bool => "bool"
  | .int => "int"
  | .str => "str"
  | .tuple => "tuple"
  | .list => "list"
def kd : Val → Kd
  | .non => .non
  | .bool _ => .bool
  | .int _ => .int
  | .str _ => .str
  | .tup _ => .tuple
  | .il _ _ => .list
  | .loc _ => .list
def isK : Ty → Kd → Bool
  | .int, .int => true
  | .int, .bool => true
  | .bool, .bool => true
  | .str, .str => true
  | .tuple, .tuple => true
  | .list, .list => true
  | _, _ => false
def isT (t : Ty) (v : Val) : Bool := isK t (kd v)
theorem kit_tab (t : Ty) (k : Kd) : kitB k.name t.name = some (isK t k) := by
  cases t <;> cases k <;> decide +kernel
theorem kit_isT {K : Frag} (t : Ty) (v : Val) : PySem.W.kitOne K (.type (kd v).name) (.type t.name) = some (isT t v) := kit_ty (kit_tab t (kd v))
theorem tyX_of {K : Frag} {W : Wd} {H : Hp} {m : Store} {v : Val} {x : V} (h : HR K W m H) (r : RV K W H v x) : TyX K H x (.type (kd v).name) := by
  cases r with
  | non => exact .base .non
  | bool b => exact .base (.bl b)
  | int i => exact .base (.int i)
  | str s => exact .base (.str _)
  | tup s r =>
    rcases s with (s | ⟨o, s⟩) | ⟨o, its, n, s, c, _⟩
    · exact .base (.tup s)
    · exact .fTuple s
    · exact .kTuple s c
  | il1 i q r => exact .base (.lst q)
  | il0 i s r =>
    rcases s with (s | ⟨o, s⟩) | ⟨o, its, n, s, c, _⟩
    · exact .base (.lst s)
    · exact .base (.frz s)
    · exact .kList s c
  | ilk s r =>
    rcases s with (s | ⟨o, s⟩) | ⟨o, its, n, s, c, _⟩
    · cases s
    · cases s
    · exact .kList s c
  | loc q =>
    obtain ⟨xs, q1⟩ := h.lst_at (List.mem_of_getElem? q)
    exact .base (.lst q1)
/-! ### methods -/
inductive Mt where
  | append | split | join
  deriving DecidableEq
def mtW : Mt → Val → List Val → Store → (Val → Store → Prop) → Prop
  | .append, .loc n, [v], m, Q => ∃ vs, m[n]? = some (.list vs) ∧ vs.length < sizeLine ∧ Q .non (m.set n (.list (vs ++ [v])))
  | .split, .str a, [.str b], m, Q => (b ≠ [] ∧ b.all (· < 256) = true ∧ a.length + 2 ≤ sizeLine) ∧ Q (.il true ((TL.spl b 0 [] a).map .str)) m
  | .join, .str a, [v], m, Q => ∃ vs ts, sq m v = some vs ∧ vs = ts.map .str ∧ (ts.map (·.length)).sum + ts.length * a.length ≤ 16777216 ∧ Q (.str (TL.joinL a ts)) m
  | _, _, _, _, _ => False
/-- the receiver's kind -/
def mtT : Mt → Val → Prop
  | .append, .loc _ => True
  | .split, .str _ => True
  | .join, .str _ => True
  | _, _ => False
def Mt.ty : Mt → String
  | .append => "list"
  | _ => "str"
def Mt.name : Mt → Str
  | .append => "append"
  | .split => "split"
  | .join => "join"
def Mt.id : Mt → String
  | .append => "list.append"
  | .split => "str.split"
  | .join => "str.join"
def rMt (K : Frag) : Mt → V → List V → Hp → VK → Prop
  | .append => rAppend
  | .split => fun x xs H Q => ∃ a b, x = .str a ∧ xs = [.str b] ∧ (b.length == 0) = false ∧ a.length + 2 ≤ sizeLine ∧ rNewStrs (Txt.split a b) H Q
  | .join => fun x xs H Q => ∃ a p, ∃ ys : List Str, x = .str a ∧ xs = [.ref p] ∧ (SqL K H p (ys.map V.str) ∨ SqT K H p (ys.map V.str)) ∧ (ys.map (·.length)).sum + ys.length * a.length ≤ 16777216 ∧ Q (.str (Txt.join a ys)) H
theorem mt_all {X : Cx} : ∀ t : Mt, MtR X t.id (rMt X.K t)
  | .append => mt_append
  | .split => mt_split
  | .join => mt_join
section
variable {K : Frag} {W : Wd} {H : Hp} {m : Store}
theorem mtT_ok {t : Mt} {v : Val} {x : V} (r : RV K W H v x) (h : HR K W m H) (hw : mtT t v) : tyV K t.ty x H := by
  cases t <;> cases v <;> first | exact hw.elim | skip
  · cases r with
    | loc q =>
      obtain ⟨xs, q1⟩ := h.lst_at (List.mem_of_getElem? q)
      exact .inl ⟨rfl, xs, SqL.of q1⟩
  · rw [r.str_inv]; rfl
  · rw [r.str_inv]; rfl
theorem RVs.strs : ∀ (ts : List Text), RVs K W H (ts.map .str) (ts.map fun t => V.str (SX.S t))
  | [] => .nil
  | t :: r => .cons (.str t) (RVs.strs r)
theorem strs_inv : ∀ {ts : List Text} {xs : List V}, RVs K W H (ts.map .str) xs → xs = (ts.map SX.S).map V.str
  | [], _, .nil => rfl
  | t :: r, _, .cons a b => by rw [a.str_inv, strs_inv b]; rfl
theorem mt_ok {Qd : Val → Store → Prop} {Q : VK} {t : Mt} {v : Val} {x : V} {vs : List Val} {xs : List V} (rv : RV K W H v x) (r : RVs K W H vs xs) (h : HR K W m H) (hw : mtW t v vs m Qd) (k : Cont K W H Qd Q) : rMt K t x xs H Q := by
  unfold mtW at hw
  split at hw
  · obtain ⟨us, e, hl, q⟩ := hw
    obtain ⟨y, rfl, r0⟩ := r.one_inv
    cases rv with
    | loc q0 =>
      obtain ⟨ys, q1, r1⟩ := loc_at h q0 e
      obtain ⟨ex, h1⟩ := set_loc h e q0 (r1.append (.cons r0 .nil))
      exact ⟨_, ys, y, rfl, rfl, q1, by rw [← r1.length]; exact hl, k _ _ _ _ _ ex .non h1 q⟩
  · obtain ⟨⟨h1, h2, h3⟩, q⟩ := hw
    obtain ⟨y, rfl, r0⟩ := r.one_inv
    rw [rv.str_inv, r0.str_inv]
    refine ⟨_, _, rfl, rfl, ?_, by rw [SX.S_len]; exact h3, fun p hp => ?_⟩
    · rw [SX.S_len]
      simpa using h1
    · rw [SX.split_S h1 h2, List.map_map]
      exact k.il h (RVs.strs _) q hp
  · obtain ⟨us, ts, e, e2, hl, q⟩ := hw
    obtain ⟨y, rfl, r0⟩ := r.one_inv
    rw [rv.str_inv]
    subst e2
    obtain ⟨a, ys, rfl, sl, r1⟩ := sq_at h r0 e
    rw [strs_inv r1] at sl
    refine ⟨_, a, ts.map SX.S, rfl, rfl, sl, ?_, ?_⟩
    · rw [SX.lens, List.length_map, SX.S_len]; exact hl
    · rw [SX.join_S]; exact k.here h (.str _) q
  · exact hw.elim
end
end Dy

set_option maxHeartbeats 1000000
/-! Dp, part Z: zip of a list or tuple with a list or tuple. -/
namespace DyZ
open PySem PySem.Spec PyProof.Rows L2
open PySem.Sem (wp)
/-- k: a tuple (else a list) -/
def SIt (k : Bool) (h : Heap) (it l : Addr) (i : Nat) : Prop := match k with | true => h.IsTupleIter it l i | false => h.IsListIter it l i
def SSq (k : Bool) (h : Heap) (l : Addr) (xs : Array Value) : Prop := match k with | true => h.IsTuple l xs | false => h.IsList l xs
def icl : Bool → String | true => "tuple_iterator" | false => "list_iterator"
theorem SIt.out {k : Bool} {h : Heap} {a l : Addr} {i : Nat} (x : SIt k h a l i) : ∃ o, h.get? a = some o ∧ o.data = .fields #[.ref l, .int i 0] := by
  cases k <;> (obtain ⟨o, h1, _, h2⟩ := x; exact ⟨o, h1, h2⟩)
theorem SIt.ext {k : Bool} {h h' : Heap} {a b l : Addr} {i : Nat} (x : SIt k h a l i) (e : Heap.ExtBut b h h') (n : a ≠ b) : SIt k h' a l i := by
  cases k
  · exact Heap.IsListIter.extBut x e n
  · exact Heap.IsTupleIter.extBut x e n
theorem SIt.see {k : Bool} {h h' : Heap} {a l : Addr} {i : Nat} (x : SIt k h a l i) (e : ∀ o, h.get? a = some o → h'.get? a = some o) : SIt k h' a l i := by
  cases k
  · exact Heap.IsListIter.at x e
  · exact Heap.IsTupleIter.at x e
theorem SSq.ext {k : Bool} {h h' : Heap} {a b : Addr} {xs : Array Value} (x : SSq k h a xs) (e : Heap.ExtBut b h h') (n : a ≠ b) : SSq k h' a xs := by
  cases k
  · exact Heap.IsList.extBut x e n
  · exact Heap.IsTuple.extBut x e n
section
variable {prog : Program} {w : World} {A : Around} {E : Value → Shared → Prop} {s : Shared} {k1 k2 : Bool}
theorem nxt_item {k : Bool} {it l : Addr} {i : Nat} {xs : Array Value} {x : Value} {Q : Value → Shared → Prop} (ht : SIt k s.heap it l i) (hl : SSq k s.heap l xs) (hx : xs[i]? = some x)
    (q : ∀ h', SIt k h' it l (i + 1) → Heap.SameBut it s.heap h' → Q x { s with heap := h' }) : wpAny (model prog w) A (Builtin.SmallTypes.nextOf (.ref it)) Q E s := by
  cases k
  · exact wpAny_nextOf_list_item ht hl hx q
  · exact RZ.nextOf_tuple_item ht hl hx q
theorem nxt_end {k : Bool} {it l : Addr} {i : Nat} {xs : Array Value} {Q : Value → Shared → Prop} (hh : A.handled = none) (ht : SIt k s.heap it l i) (hl : SSq k s.heap l xs) (hx : xs[i]? = none)
    (q : ∀ h' e, Heap.ExtBut it s.heap h' → (∃ o, h'.get? e = some o ∧ o.cls = .type "StopIteration") → E (.ref e) { s with heap := h' }) : wpAny (model prog w) A (Builtin.SmallTypes.nextOf (.ref it)) Q E s := by
  cases k
  · exact wpAny_nextOf_list_end hh ht hl hx q
  · exact RZ.nextOf_tuple_end hh ht hl hx q
theorem zm_item {z TI TO i1 i2 l1 l2 : Addr} {n1 n2 : Nat} {xs ys : Array Value} {x y a b : Value} {Q : Value → Shared → Prop} (D : ZipApart z TI TO i1 i2 l1 l2)
    (gz : IsZip s.heap z TI TO .none) (gI : IsPair s.heap TI (.ref i1) (.ref i2)) (gO : IsPair s.heap TO a b)
    (g1 : SIt k1 s.heap i1 l1 n1) (g2 : SIt k2 s.heap i2 l2 n2) (m1 : SSq k1 s.heap l1 xs) (m2 : SSq k2 s.heap l2 ys) (hx : xs[n1]? = some x) (hy : ys[n2]? = some y)
    (q : ∀ h', IsZip h' z TI TO (rawInt s.heap.objs.size) → IsPair h' TO x y → SIt k1 h' i1 l1 (n1 + 1) → SIt k2 h' i2 l2 (n2 + 1) → IsPair h' s.heap.objs.size x y → h'.objs.size = s.heap.objs.size + 1 →
      (∀ c o, c ≠ z → c ≠ TO → c ≠ i1 → c ≠ i2 → s.heap.get? c = some o → h'.get? c = some o) → Q (.ref s.heap.objs.size) { s with heap := h' }) :
    wpAny (model prog w) A (Builtin.«zip.__next__» ⟨[.ref z], []⟩) (fun fin s' => ∃ v, fin = .done (.ret v) ∧ Q v s') E s := by
  show wpAny _ _ (field (.ref z) 2 >>= _) _ _ _; refine wpAny_bind (wpAny_field gz rfl (x := .bool false) rfl ?_)
  show wpAny _ _ (field (.ref z) 3 >>= _) _ _ _; refine wpAny_bind (wpAny_field gz rfl (x := .ref TI) rfl ?_)
  refine wpAny_bind (wpAny_seqItems gI rfl ?_); refine wpAny_bind ?_
  unfold Builtin.SmallTypes.ownedTupleIsFree; refine wpAny_bind (wpAny_field gz rfl (x := .none) rfl (wpAny_pure ?_))
  simp only [if_true]; refine wpAny_bind (wpAny_rule ?_)
  refine wpAny_bind (wpAny_field gz rfl (x := .ref TO) rfl ?_); refine wpAny_bind (wpAny_setField_rec gz (by simp) fun a1 gz1 c1 => ?_)
  replace gz1 : IsZip a1 z TI TO .ellipsis := gz1
  refine wpAny_bind ?_; simp only [List.zipIdx_cons, List.zipIdx_nil, List.forIn_cons, List.forIn_nil]
  refine wpAny_bind (wpAny_bind (wpAny_onRaise ?_)); refine wpAny_bind (nxt_item (g1.ext c1.extBut D.i1z) (m1.ext c1.extBut D.l1z) hx fun a2 g1b c2 => wpAny_pure ?_)
  have gO2 : IsPair a2 TO a b := c2.extBut _ _ D.TOi1 (c1.extBut _ _ D.TOz gO)
  refine wpAny_bind (wpAny_seqItems gO2 rfl ?_); refine wpAny_bind (wpAny_updateSeq_pair gO2 fun a3 gO3 c3 => ?_)
  replace gO3 : IsPair a3 TO x b := gO3
  refine wpAny_bind (wpAny_letGo (wpAny_pure ?_)); refine wpAny_bind (wpAny_bind (wpAny_onRaise ?_))
  refine wpAny_bind (nxt_item (((g2.ext c1.extBut D.i2z).ext c2.extBut D.i12.symm).ext c3.extBut D.TOi2.symm) (((m2.ext c1.extBut D.l2z).ext c2.extBut D.l2i1).ext c3.extBut D.l2TO) hy fun a4 g2b c4 => wpAny_pure ?_)
  have gO4 : IsPair a4 TO x b := c4.extBut _ _ D.TOi2 gO3
  refine wpAny_bind (wpAny_seqItems gO4 rfl ?_); refine wpAny_bind (wpAny_updateSeq_pair gO4 fun a5 gO5 c5 => ?_)
  replace gO5 : IsPair a5 TO x y := gO5
  refine wpAny_bind (wpAny_letGo (wpAny_pure (wpAny_pure ?_))); refine wpAny_bind (wpAny_seqItems gO5 rfl ?_); refine wpAny_bind (wpAny_newTuple ?_)
  have ez : a5.objs.size = s.heap.objs.size := by rw [c5.1, c4.1, c3.1, c2.1, c1.1]
  have gz5 : IsZip a5 z TI TO .ellipsis := c5.extBut _ _ D.TOz.symm (c4.extBut _ _ D.i2z.symm (c3.extBut _ _ D.TOz.symm (c2.extBut _ _ D.i1z.symm gz1)))
  have kp : ∀ c o, c ≠ z → c ≠ TO → c ≠ i1 → c ≠ i2 → s.heap.get? c = some o → a5.get? c = some o := fun c o p1 p2 p3 p4 e =>
    c5.extBut _ _ p2 (c4.extBut _ _ p4 (c3.extBut _ _ p2 (c2.extBut _ _ p3 (c1.extBut _ _ p1 e))))
  have g15 : SIt k1 a5 i1 l1 (n1 + 1) := ((g1b.ext c3.extBut D.TOi1.symm).ext c4.extBut D.i12).ext c5.extBut D.TOi1.symm
  have g25 : SIt k2 a5 i2 l2 (n2 + 1) := g2b.ext c5.extBut D.TOi2.symm
  have lz : z < a5.objs.size := Heap.lt_size gz5
  refine wpAny_bind ?_
  unfold Builtin.SmallTypes.ownedTupleHandOut
  have gz6 : IsZip (a5.push { cls := .type "tuple", data := .seq #[x, y] }) z TI TO .ellipsis := Heap.get?_push_of_some _ gz5
  refine wpAny_bind (wpAny_setField_rec gz6 (by simp) fun a7 gz7 c7 => ?_)
  replace gz7 : IsZip a7 z TI TO (rawInt a5.objs.size) := gz7
  refine wpAny_setField_rec gz7 (by simp) fun a8 gz8 c8 => ?_
  replace gz8 : IsZip a8 z TI TO (rawInt a5.objs.size) := gz8
  have up : ∀ c o, c ≠ z → a5.get? c = some o → a8.get? c = some o := fun c o p1 e => c8.extBut _ _ p1 (c7.extBut _ _ p1 (Heap.get?_push_of_some _ e))
  have gT : IsPair a8 a5.objs.size x y := c8.extBut _ _ (Nat.ne_of_gt lz) (c7.extBut _ _ (Nat.ne_of_gt lz) (Heap.get?_push_size _ rfl))
  have e8 : a8.objs.size = a5.objs.size + 1 := by rw [c8.1, c7.1, Heap.size_push]
  rw [ez] at gz8 gT e8
  refine wpAny_pure ⟨_, rfl, ?_⟩; show Q (.ref a5.objs.size) _; rw [ez]
  exact q a8 gz8 (up _ _ D.TOz gO5) (g15.see fun o e => up _ o D.i1z e) (g25.see fun o e => up _ o D.i2z e) gT e8 fun c o p1 p2 p3 p4 e => up c o p1 (kp c o p1 p2 p3 p4 e)
theorem zm_end {z TI TO i1 i2 l1 l2 : Addr} {n1 n2 : Nat} {xs ys : Array Value} {a b : Value} {Q : Fin → Shared → Prop} (hh : A.handled = none) (D : ZipApart z TI TO i1 i2 l1 l2)
    (gz : IsZip s.heap z TI TO .none) (gI : IsPair s.heap TI (.ref i1) (.ref i2)) (gO : IsPair s.heap TO a b)
    (g1 : SIt k1 s.heap i1 l1 n1) (g2 : SIt k2 s.heap i2 l2 n2) (m1 : SSq k1 s.heap l1 xs) (m2 : SSq k2 s.heap l2 ys) (he : xs[n1]? = none ∨ ys[n2]? = none)
    (q : ∀ h' e, (∀ c o, c ≠ z → c ≠ TO → c ≠ i1 → c ≠ i2 → s.heap.get? c = some o → h'.get? c = some o) → (∃ o, h'.get? e = some o ∧ o.cls = .type "StopIteration") → E (.ref e) { s with heap := h' }) :
    wpAny (model prog w) A (Builtin.«zip.__next__» ⟨[.ref z], []⟩) Q E s := by
  show wpAny _ _ (field (.ref z) 2 >>= _) _ _ _; refine wpAny_bind (wpAny_field gz rfl (x := .bool false) rfl ?_)
  show wpAny _ _ (field (.ref z) 3 >>= _) _ _ _; refine wpAny_bind (wpAny_field gz rfl (x := .ref TI) rfl ?_)
  refine wpAny_bind (wpAny_seqItems gI rfl ?_); refine wpAny_bind ?_
  unfold Builtin.SmallTypes.ownedTupleIsFree; refine wpAny_bind (wpAny_field gz rfl (x := .none) rfl (wpAny_pure ?_))
  simp only [if_true]; refine wpAny_bind (wpAny_rule ?_)
  refine wpAny_bind (wpAny_field gz rfl (x := .ref TO) rfl ?_); refine wpAny_bind (wpAny_setField_rec gz (by simp) fun a1 gz1 c1 => ?_)
  replace gz1 : IsZip a1 z TI TO .ellipsis := gz1
  refine wpAny_bind ?_; simp only [List.zipIdx_cons, List.zipIdx_nil, List.forIn_cons, List.forIn_nil]
  refine wpAny_bind (wpAny_bind (wpAny_onRaise ?_))
  cases hx : xs[n1]? with
  | none =>
    refine wpAny_bind (nxt_end hh (g1.ext c1.extBut D.i1z) (m1.ext c1.extBut D.l1z) hx fun a2 e c2 ⟨oe, h1, h2⟩ => ?_)
    have gz2 : IsZip a2 z TI TO .ellipsis := c2 _ _ D.i1z.symm gz1
    have ne : e ≠ z := fun x => by subst x; rw [gz2] at h1; cases h1; simp at h2
    exact wpAny_setField_rec gz2 (by simp) fun a3 _ c3 => q a3 e (fun c o p1 _ p3 _ x => c3.extBut _ _ p1 (c2 _ _ p3 (c1.extBut _ _ p1 x))) ⟨oe, c3.extBut _ _ ne h1, h2⟩
  | some x =>
    have hy : ys[n2]? = none := he.elim (fun h => by rw [hx] at h; cases h) id
    refine wpAny_bind (nxt_item (g1.ext c1.extBut D.i1z) (m1.ext c1.extBut D.l1z) hx fun a2 g1b c2 => wpAny_pure ?_)
    have gO2 : IsPair a2 TO a b := c2.extBut _ _ D.TOi1 (c1.extBut _ _ D.TOz gO)
    refine wpAny_bind (wpAny_seqItems gO2 rfl ?_); refine wpAny_bind (wpAny_updateSeq_pair gO2 fun a3 gO3 c3 => ?_)
    refine wpAny_bind (wpAny_letGo (wpAny_pure ?_)); refine wpAny_bind (wpAny_bind (wpAny_onRaise ?_))
    refine wpAny_bind (nxt_end hh (((g2.ext c1.extBut D.i2z).ext c2.extBut D.i12.symm).ext c3.extBut D.TOi2.symm) (((m2.ext c1.extBut D.l2z).ext c2.extBut D.l2i1).ext c3.extBut D.l2TO) hy fun a4 e c4 ⟨oe, h1, h2⟩ => ?_)
    have gz4 : IsZip a4 z TI TO .ellipsis := c4 _ _ D.i2z.symm (c3.extBut _ _ D.TOz.symm (c2.extBut _ _ D.i1z.symm gz1))
    have ne : e ≠ z := fun x => by subst x; rw [gz4] at h1; cases h1; simp at h2
    exact wpAny_setField_rec gz4 (by simp) fun a5 _ c5 => q a5 e (fun c o p1 p2 p3 p4 x => c5.extBut _ _ p1 (c4 _ _ p4 (c3.extBut _ _ p2 (c2.extBut _ _ p3 (c1.extBut _ _ p1 x))))) ⟨oe, c5.extBut _ _ ne h1, h2⟩
theorem zm_pyItem {z TI TO i1 i2 l1 l2 : Addr} {n1 n2 : Nat} {xs ys : Array Value} {x y a b : Value} {Q : Option Value → Shared → Prop} (D : ZipApart z TI TO i1 i2 l1 l2)
    (gz : IsZip s.heap z TI TO .none) (gI : IsPair s.heap TI (.ref i1) (.ref i2)) (gO : IsPair s.heap TO a b)
    (g1 : SIt k1 s.heap i1 l1 n1) (g2 : SIt k2 s.heap i2 l2 n2) (m1 : SSq k1 s.heap l1 xs) (m2 : SSq k2 s.heap l2 ys) (hx : xs[n1]? = some x) (hy : ys[n2]? = some y)
    (q : ∀ h', IsZip h' z TI TO (rawInt s.heap.objs.size) → IsPair h' TO x y → SIt k1 h' i1 l1 (n1 + 1) → SIt k2 h' i2 l2 (n2 + 1) → IsPair h' s.heap.objs.size x y → h'.objs.size = s.heap.objs.size + 1 →
      (∀ c o, c ≠ z → c ≠ TO → c ≠ i1 → c ≠ i2 → s.heap.get? c = some o → h'.get? c = some o) → Q (some (.ref s.heap.objs.size)) { s with heap := h' }) :
    wpAny (model prog w) A (pyNext (.ref z)) Q E s := by
  have ty : s.TypeIs (.ref z) "zip" := ⟨_, gz, rfl⟩
  unfold pyNext
  exact wpAny_bind (wpAny_attempt (wpAny_callSpecial?_slot (name := Str.ofString "__next__") ty F.slot_zip_next (wpAny_call_entry F.slot_zip_next ty F.entry_zip_next
      (zm_item D gz gI gO g1 g2 m1 m2 hx hy fun h' b1 b2 b3 b4 b5 b6 b7 => wpAny_pure (q h' b1 b2 b3 b4 b5 b6 b7)) (F.args_zip_next_1 _))))
theorem zm_pyEnd {z TI TO i1 i2 l1 l2 : Addr} {n1 n2 : Nat} {xs ys : Array Value} {a b : Value} {Q : Option Value → Shared → Prop} (hh : A.handled = none) (D : ZipApart z TI TO i1 i2 l1 l2)
    (gz : IsZip s.heap z TI TO .none) (gI : IsPair s.heap TI (.ref i1) (.ref i2)) (gO : IsPair s.heap TO a b)
    (g1 : SIt k1 s.heap i1 l1 n1) (g2 : SIt k2 s.heap i2 l2 n2) (m1 : SSq k1 s.heap l1 xs) (m2 : SSq k2 s.heap l2 ys) (he : xs[n1]? = none ∨ ys[n2]? = none)
    (q : ∀ h', (∀ c o, c ≠ z → c ≠ TO → c ≠ i1 → c ≠ i2 → s.heap.get? c = some o → h'.get? c = some o) → Q none { s with heap := h' }) : wpAny (model prog w) A (pyNext (.ref z)) Q E s := by
  have ty : s.TypeIs (.ref z) "zip" := ⟨_, gz, rfl⟩
  unfold pyNext
  refine wpAny_bind (wpAny_attempt (wpAny_callSpecial?_slot (name := Str.ofString "__next__") ty F.slot_zip_next (wpAny_call_entry F.slot_zip_next ty F.entry_zip_next (zm_end hh D gz gI gO g1 g2 m1 m2 he fun h' e kp ⟨o, h1, h2⟩ => ?_) (F.args_zip_next_1 _))))
  exact wpAny_bind (wpAny_isInstance (T := "StopIteration") (b := true) ⟨o, h1, h2⟩ isSubtype_stop (wpAny_pure (q _ kp)))
end
abbrev zm1 (k1 : Bool) (h : Heap) (l1 : Addr) : Heap := h.push { cls := .type (icl k1), data := .fields #[.ref l1, .int 0 0] }
abbrev zm2 (k1 k2 : Bool) (h : Heap) (l1 l2 : Addr) : Heap := (zm1 k1 h l1).push { cls := .type (icl k2), data := .fields #[.ref l2, .int 0 0] }
abbrev zm3 (k1 k2 : Bool) (h : Heap) (l1 l2 : Addr) : Heap := (zm2 k1 k2 h l1 l2).push { cls := .type "tuple", data := .seq #[.ref h.objs.size, .ref (zm1 k1 h l1).objs.size] }
abbrev zm4 (k1 k2 : Bool) (h : Heap) (l1 l2 : Addr) : Heap := (zm3 k1 k2 h l1 l2).push { cls := .type "tuple", data := .seq #[.none, .none] }
abbrev zm5 (k1 k2 : Bool) (h : Heap) (l1 l2 : Addr) : Heap := (zm4 k1 k2 h l1 l2).push { cls := .type "zip", data := .fields #[.none, .bool false, .bool false, .ref (zm2 k1 k2 h l1 l2).objs.size, .ref (zm3 k1 k2 h l1 l2).objs.size] }
theorem zm_new (k1 k2 : Bool) (l1 l2 : Addr) (xs ys : Array Value) :
    Meets (Builtin.«zip.__new__» ⟨[.type "zip", .ref l1, .ref l2], []⟩) (fun _ R s => SSq k1 s.heap l1 xs ∧ SSq k2 s.heap l2 ys ∧
      R (.ok (.ret (.ref (zm4 k1 k2 s.heap l1 l2).objs.size))) { s with heap := zm5 k1 k2 s.heap l1 l2 }) :=
  .of_wp fun prog w A R s h => by
    obtain ⟨hp, g, d, tk, os⟩ := s; obtain ⟨m1, m2, h⟩ := h
    have hsub := sub_zip
    cases k1 <;> cases k2
    · have L1 : Heap.IsList (Shared.heap ⟨hp, g, d, tk, os⟩) l1 xs := m1
      have L2 : Heap.IsList (Shared.heap ⟨hp.push { cls := .type "list_iterator", data := .fields #[.ref l1, .int 0 0] }, g, d, tk, os⟩) l2 ys := Heap.IsList.push m2 _
      wp_walk using wpAny_pyIter_list L1, wpAny_pyIter_list L2
      exact ⟨_, rfl, h⟩
    · have L1 : Heap.IsList (Shared.heap ⟨hp, g, d, tk, os⟩) l1 xs := m1
      have L2 : Heap.IsTuple (Shared.heap ⟨hp.push { cls := .type "list_iterator", data := .fields #[.ref l1, .int 0 0] }, g, d, tk, os⟩) l2 ys := Heap.IsTuple.push m2 _
      wp_walk using wpAny_pyIter_list L1, wpAny_pyIter_tuple L2
      exact ⟨_, rfl, h⟩
    · have L1 : Heap.IsTuple (Shared.heap ⟨hp, g, d, tk, os⟩) l1 xs := m1
      have L2 : Heap.IsList (Shared.heap ⟨hp.push { cls := .type "tuple_iterator", data := .fields #[.ref l1, .int 0 0] }, g, d, tk, os⟩) l2 ys := Heap.IsList.push m2 _
      wp_walk using wpAny_pyIter_tuple L1, wpAny_pyIter_list L2
      exact ⟨_, rfl, h⟩
    · have L1 : Heap.IsTuple (Shared.heap ⟨hp, g, d, tk, os⟩) l1 xs := m1
      have L2 : Heap.IsTuple (Shared.heap ⟨hp.push { cls := .type "tuple_iterator", data := .fields #[.ref l1, .int 0 0] }, g, d, tk, os⟩) l2 ys := Heap.IsTuple.push m2 _
      wp_walk using wpAny_pyIter_tuple L1, wpAny_pyIter_tuple L2
      exact ⟨_, rfl, h⟩
end DyZ

set_option maxHeartbeats 1000000
/-! Dp, part Y: zip of any two sequences as something that is walked. -/
namespace DyZ
open PySem PySem.Spec PyProof.Rows L2
section
variable {prog : Program} {w : World} {A : Around} {E : Value → Shared → Prop} {s : Shared}
theorem zm_call {k1 k2 : Bool} {l1 l2 : Addr} {xs ys : Array Value} {Q : Value → Shared → Prop} (m1 : SSq k1 s.heap l1 xs) (m2 : SSq k2 s.heap l2 ys)
    (q : ∀ h' n, n = s.heap.objs.size → IsZip h' (n + 4) (n + 2) (n + 3) .none → IsPair h' (n + 2) (.ref n) (.ref (n + 1)) → IsPair h' (n + 3) .none .none → SIt k1 h' n l1 0 → SIt k2 h' (n + 1) l2 0 →
      (∀ c o, s.heap.get? c = some o → h'.get? c = some o) → Q (.ref (n + 4)) { s with heap := h' }) : wpAny (model prog w) A (call (.type "zip") [.ref l1, .ref l2]) Q E s := by
  refine callType_new F.called_zip (by decide) (F.typeCall_zip_2 _ _) (F.newCall_zip_2 _ _) (fun ob => F.args_object_init_3 ob _ _) F.entry_zip_new (zm_new k1 k2 l1 l2 xs ys) ⟨m1, m2, ?_⟩
  generalize hn : s.heap.objs.size = n
  have a1 : (zm1 k1 s.heap l1).objs.size = n + 1 := by rw [← hn]; exact Heap.size_push ..
  have a2 : (zm2 k1 k2 s.heap l1 l2).objs.size = n + 2 := by rw [show (zm2 k1 k2 s.heap l1 l2).objs.size = _ from Heap.size_push .., a1]
  have a3 : (zm3 k1 k2 s.heap l1 l2).objs.size = n + 3 := by rw [show (zm3 k1 k2 s.heap l1 l2).objs.size = _ from Heap.size_push .., a2]
  have a4 : (zm4 k1 k2 s.heap l1 l2).objs.size = n + 4 := by rw [show (zm4 k1 k2 s.heap l1 l2).objs.size = _ from Heap.size_push .., a3]
  have b5 : (zm5 k1 k2 s.heap l1 l2).get? (zm4 k1 k2 s.heap l1 l2).objs.size = some { cls := .type "zip", data := .fields #[.none, .bool false, .bool false, .ref (zm2 k1 k2 s.heap l1 l2).objs.size, .ref (zm3 k1 k2 s.heap l1 l2).objs.size] } := Heap.get?_push_size _ rfl
  have b4 : (zm5 k1 k2 s.heap l1 l2).get? (zm3 k1 k2 s.heap l1 l2).objs.size = some { cls := .type "tuple", data := .seq #[.none, .none] } := Heap.get?_push_of_some _ (Heap.get?_push_size _ rfl)
  have b3 : (zm5 k1 k2 s.heap l1 l2).get? (zm2 k1 k2 s.heap l1 l2).objs.size = some { cls := .type "tuple", data := .seq #[.ref s.heap.objs.size, .ref (zm1 k1 s.heap l1).objs.size] } := Heap.get?_push_of_some _ (Heap.get?_push_of_some _ (Heap.get?_push_size _ rfl))
  have b2 : (zm5 k1 k2 s.heap l1 l2).get? (zm1 k1 s.heap l1).objs.size = some { cls := .type (icl k2), data := .fields #[.ref l2, .int 0 0] } := Heap.get?_push_of_some _ (Heap.get?_push_of_some _ (Heap.get?_push_of_some _ (Heap.get?_push_size _ rfl)))
  have b1 : (zm5 k1 k2 s.heap l1 l2).get? s.heap.objs.size = some { cls := .type (icl k1), data := .fields #[.ref l1, .int 0 0] } := Heap.get?_push_of_some _ (Heap.get?_push_of_some _ (Heap.get?_push_of_some _ (Heap.get?_push_of_some _ (Heap.get?_push_size _ rfl))))
  rw [a4, a2, a3] at b5
  rw [a3] at b4
  rw [a2, a1, hn] at b3
  rw [a1] at b2
  rw [hn] at b1
  have kp : ∀ c o, s.heap.get? c = some o → (zm5 k1 k2 s.heap l1 l2).get? c = some o := fun c o z => Heap.get?_push_of_some _ (Heap.get?_push_of_some _ (Heap.get?_push_of_some _ (Heap.get?_push_of_some _ (Heap.get?_push_of_some _ z))))
  have c1 : SIt k1 (zm5 k1 k2 s.heap l1 l2) n l1 0 := by cases k1 <;> exact ⟨_, b1, rfl, rfl⟩
  have c2 : SIt k2 (zm5 k1 k2 s.heap l1 l2) (n + 1) l2 0 := by cases k2 <;> exact ⟨_, b2, rfl, rfl⟩
  show _ ∧ _
  rw [a4]
  exact ⟨⟨_, b5, by first | rfl | decide⟩, q _ n hn.symm b5 b3 b4 c1 c2 kp⟩
end
/-- a tuple (true) or a list -/
def SqG (k : Bool) (K : PySem.W.Frag) (H : Hp) (a : Addr) (xs : List V) : Prop := match k with | true => SqT K H a xs | false => SqL K H a xs
section
variable {X : Cx} {pins : List (Addr × Obj)} {σ : L2.St} {H : Hp} {s : Shared}
theorem sqG_at {k : Bool} {a : Addr} {xs : List V} (I : Inv X pins σ H s) (h : SqG k X.K H a xs) : ∃ its : List Value, Vals xs its ∧ SSq k s.heap a its.toArray ∧ a < s.heap.objs.size := by
  cases k
  · obtain ⟨its, rv, p, _⟩ := I.list h
    exact ⟨its, rv, p.isList, p.lt⟩
  · obtain ⟨its, rv, p, _⟩ := I.tuple h
    obtain ⟨o, ho, _⟩ := id p
    exact ⟨its, rv, p, Heap.lt_size ho⟩
theorem sqG_inj {k : Bool} {a : Addr} {xs ys : List V} (I : Inv X pins σ H s) (h : SqG k X.K H a xs) (h' : SqG k X.K H a ys) : xs = ys := by
  cases k
  · exact I.list_inj h h'
  · exact I.tuple_inj h h'
end
/-- both as they stand at each turn, their items in new pairs -/
def Itg (K : PySem.W.Frag) (k1 k2 : Bool) (a b : Addr) : It where
  go := fun i H => ∃ (us vs : List V) (u v : V), SqG k1 K H a us ∧ SqG k2 K H b vs ∧ us[i]? = some u ∧ vs[i]? = some v
  yld := fun i H p H' => ∃ (n : Addr) (u v : V), p = .ref n ∧ H n = none ∧ H' = upd H n (.tup [u, v]) ∧ (∀ us, SqG k1 K H a us → us[i]? = some u) ∧ (∀ vs, SqG k2 K H b vs → vs[i]? = some v)
  stop := fun i H => ∃ us vs : List V, SqG k1 K H a us ∧ SqG k2 K H b vs ∧ (us.length ≤ i ∨ vs.length ≤ i)
/-- the zip object and its parts -/
def ZAt (k1 k2 : Bool) (a b z ti to i1 i2 : Addr) (i : Nat) (h : Heap) : Prop :=
  IsZip h z ti to .none ∧ IsPair h ti (.ref i1) (.ref i2) ∧ (∃ p q, IsPair h to p q) ∧ SIt k1 h i1 a i ∧ SIt k2 h i2 b i
theorem mem5 {c z ti to i1 i2 : Addr} (h : c ∈ [z, ti, to, i1, i2]) : c = z ∨ c = ti ∨ c = to ∨ c = i1 ∨ c = i2 := by simpa using h
theorem turn_g {P : Program} {w : World} {K : PySem.W.Frag} {elts : List Expr} {kk : Nat} {tpos : Pos} {k1 k2 : Bool} {a b z ti to i1 i2 : Addr} (D : ZipApart z ti to i1 i2 a b) :
    Turn P w K (.Tuple elts kk tpos) (Itg K k1 k2 a b) [z, ti, to, i1, i2] z (ZAt k1 k2 a b z ti to i1 i2) where
  mem := by simp
  obj := by
    rintro i h ⟨g1, g2, ⟨p, q, g3⟩, g4, g5⟩ c hc
    obtain ⟨o4, e4, d4⟩ := g4.out
    obtain ⟨o5, e5, d5⟩ := g5.out
    rcases mem5 hc with rfl | rfl | rfl | rfl | rfl
    · exact ⟨_, g1, fun v y => by cases y⟩
    · exact ⟨_, g2, fun v y => by cases y⟩
    · exact ⟨_, g3, fun v y => by cases y⟩
    · exact ⟨o4, e4, fun v y => by rw [d4] at y; cases y⟩
    · exact ⟨o5, e5, fun v y => by rw [d5] at y; cases y⟩
  keep := by
    rintro i h h' ⟨g1, g2, ⟨p, q, g3⟩, g4, g5⟩ kp
    exact ⟨kp z (by simp) _ g1, kp ti (by simp) _ g2, ⟨p, q, kp to (by simp) _ g3⟩, g4.see fun o y => kp i1 (by simp) o y, g5.see fun o y => kp i2 (by simp) o y⟩
  item := by
    rintro X rfl rfl rfl hc i pins s σ H E I hf ⟨g1, g2, ⟨p0, q0, g3⟩, g4, g5⟩ ⟨us, vs, u, v, su, sv, eu, ev⟩
    obtain ⟨lu, ru, mu, _⟩ := sqG_at I su
    obtain ⟨lv, rv, mv, _⟩ := sqG_at I sv
    obtain ⟨u', fu, ru'⟩ := ru.get eu
    obtain ⟨v', fv, rv'⟩ := rv.get ev
    have zlt : z < s.heap.objs.size := Heap.lt_size g1
    refine zm_pyItem D g1 g2 g3 g4 g5 mu mv (x := u') (y := v') (by simpa using fu) (by simpa using fv) fun h1 j1 j2 j3 j4 j5 j6 j7 => ?_
    refine ⟨_, rfl, wpAny_letOwnedTupleGo_zip (s := { s with heap := h1 }) j1 fun h2 j8 j9 => ?_⟩
    have at2 : h2.get? s.heap.objs.size = some { cls := .type "tuple", data := .seq #[u', v'] } := (j9.2 _ (Nat.ne_of_gt zlt)).trans j5
    have okT : ObjOk X.prog X.w (upd H s.heap.objs.size (.tup [u, v])) h2 s.heap.objs.size (.tup [u, v]) := ⟨by show 2 ≤ sizeLine; decide, [u', v'], .cons ru' (.cons rv' .nil), ⟨_, at2, rfl, _, rfl⟩⟩
    have keepAll : ∀ c o, c ∉ [z, ti, to, i1, i2] → s.heap.get? c = some o → h2.get? c = some o := fun c o nc y => by
      simp only [List.mem_cons, List.not_mem_nil, or_false, not_or] at nc
      exact (j9.2 c nc.1).trans (j7 c o nc.1 nc.2.2.1 nc.2.2.2.1 nc.2.2.2.2 y)
    have I2 : Inv X pins σ (upd H s.heap.objs.size (.tup [u, v])) { s with heap := h2 } := I.turnedNew (t' := s.toks) (ch := [z, ti, to, i1, i2]) keepAll hf (Nat.le_refl _) okT
    refine ⟨.ref s.heap.objs.size, _, I2, rfl, ⟨_, u, v, rfl, I.hok.fresh (Nat.le_refl _), rfl, fun l hl => by rw [sqG_inj I hl su]; exact eu, fun l hl => by rw [sqG_inj I hl sv]; exact ev⟩, ⟨j8, ?_, ⟨u', v', ?_⟩, ?_, ?_⟩, fun c hcm => ?_⟩
    · exact (j9.2 _ D.TIz).trans (j7 _ _ D.TIz D.TITO D.TIi1 D.TIi2 g2)
    · exact (j9.2 _ D.TOz).trans j2
    · exact j3.see fun o y => (j9.2 _ D.i1z).trans y
    · exact j4.see fun o y => (j9.2 _ D.i2z).trans y
    · have lt : c < s.heap.objs.size := by
        obtain ⟨o4, e4, _⟩ := g4.out
        obtain ⟨o5, e5, _⟩ := g5.out
        rcases mem5 hcm with rfl | rfl | rfl | rfl | rfl
        · exact zlt
        · exact Heap.lt_size g2
        · exact Heap.lt_size g3
        · exact Heap.lt_size e4
        · exact Heap.lt_size e5
      rw [upd_ne (Nat.ne_of_lt lt)]
      exact (hf c hcm).1
  done := by
    rintro X rfl rfl rfl hc i pins s σ H E I hf ⟨g1, g2, ⟨p0, q0, g3⟩, g4, g5⟩ ⟨us, vs, su, sv, he⟩
    obtain ⟨lu, ru, mu, _⟩ := sqG_at I su
    obtain ⟨lv, rv, mv, _⟩ := sqG_at I sv
    have n1 := ru.length
    have n2 := rv.length
    refine zm_pyEnd (I.ok.hd hc) D g1 g2 g3 g4 g5 mu mv ?_ fun h1 j7 => ⟨rfl, I.turnedL (t' := s.toks) (ch := [z, ti, to, i1, i2]) (fun c o nc y => ?_) hf⟩
    · rcases he with he | he
      · exact .inl (by simp; omega)
      · exact .inr (by simp; omega)
    · simp only [List.mem_cons, List.not_mem_nil, or_false, not_or] at nc
      exact j7 c o nc.1 nc.2.2.1 nc.2.2.2.1 nc.2.2.2.2 y
  self := fun A i s Q E st h => wpAny_pyIter_zip st.1 h
def iZipG (K : PySem.W.Frag) (ta : TA) : TI := fun σ H R => ta σ H fun vs H1 => ∃ (k1 k2 : Bool) (a b : Addr) (us ws : List V), vs = [.ref a, .ref b] ∧ SqG k1 K H1 a us ∧ SqG k2 K H1 b ws ∧ R (Itg K k1 k2 a b) H1
theorem pi_zipG {X : Cx} {e e2 : Expr} {ta : TA} {p pos tpos : Pos} {elts : List Expr} {kk : Nat} (hg : Gl X "zip") (hm : X.mg "zip" = none) (ha : PA X [e, e2] ta)
    (hs : starEach [e, e2] X.env = (false, eval e X.env) :: starEach [e2] X.env) (hpl : (backTo pos (starEach [e2] X.env)).any (·.1) = false) :
    PI X (.Tuple elts kk tpos) (.Call (.Name "zip" p) [e, e2] [] pos) (iZipG X.K ta) := by
  constructor
  intro pins s σ H R I h
  refine Call_ (ld_blt I hg hm PyProof.Rows.boot_zip (PyProof.Rows.callWith_type1 (thn (ha.run pos pins s σ H _ I h) ?_) hs hpl))
  rintro us1 s1 ⟨vs, H1, I1, r1, k1, k2, a, b, us, ws, rfl, su, sw, q⟩
  cases r1 with
  | cons ra rr => cases rr with
    | cons rb rr =>
      cases rr
      cases ra
      cases rb
      obtain ⟨lu, ru, mu, ltu⟩ := sqG_at I1 su
      obtain ⟨lw, rw', mw, ltw⟩ := sqG_at I1 sw
      refine zm_call mu mw fun h' n hn b1 b2 b3 b4 b5 b6 => wpAny_pyIter_zip b1 ?_
      subst hn
      have I2 : Inv X pins σ H1 { s1 with heap := h' } := I1.kept (t' := s1.toks) b6
      refine ⟨_, [s1.heap.objs.size + 4, s1.heap.objs.size + 2, s1.heap.objs.size + 3, s1.heap.objs.size, s1.heap.objs.size + 1], _, _, H1, rfl, I2, turn_g (PySem.W.ktu_apart s1.heap.objs.size a b ltu ltw), ⟨b1, b2, ⟨_, _, b3⟩, b4, b5⟩, fun c hc => ?_, q⟩
      have le : s1.heap.objs.size ≤ c := by
        rcases mem5 hc with rfl | rfl | rfl | rfl | rfl <;> first | exact Nat.le_add_right _ _ | exact Nat.le_refl _
      exact I1.fpOk le (I1.hok.fresh le)
end DyZ

set_option maxHeartbeats 1000000
/-! Dp, part X: a, b, *c = a sequence. -/
namespace DyZ
open PySem PySem.Spec PyProof.Rows L2
section
variable {prog : Program} {w : World} {A : Around} {E : Value → Shared → Prop} {s : Shared}
theorem some_draw {k : Bool} {it l : Addr} {items : Array Value} (ne : l ≠ it) {n : Nat} {Q : List Value → Shared → Prop} (g : SIt k s.heap it l 0) (m : SSq k s.heap l items) (hn : n ≤ items.size)
    (q : ∀ h', SIt k h' it l n → Heap.SameBut it s.heap h' → Q (items.toList.take n) { s with heap := h' }) : wpAny (model prog w) A (draw (.ref it) n) Q E s := by
  cases k
  · exact PySem.W.kun_draw ne n 0 s Q g m (by omega) fun h' a b => by rw [Nat.zero_add] at a; rw [List.drop_zero]; exact q h' a b
  · exact draw_tuple ne n 0 s Q g m (by omega) fun h' a b => by rw [Nat.zero_add] at a; rw [List.drop_zero]; exact q h' a b
theorem rest_of {k : Bool} {it l : Addr} {items : Array Value} {n : Nat} {Q : List Value → Shared → Prop} (hh : A.handled = none) (ne : l ≠ it) (g : SIt k s.heap it l n) (m : SSq k s.heap l items) (lt : l < s.heap.objs.size) (hn : n ≤ items.size) (hz : items.size ≤ sizeLine)
    (q : ∀ h' tk, (∀ b o, b ≠ it → s.heap.get? b = some o → h'.get? b = some o) → Q (items.toList.drop n) { s with heap := h', toks := tk }) : wpAny (model prog w) A (collect (.ref it)) Q E s := by
  obtain ⟨o, ho, _⟩ := g.out
  cases k
  · exact PySem.W.kun_collect (T := "list_iterator") (.inr (.inr (.inl rfl))) (Walks.list (A := A.in1) hh it l ne items) (fun j u st => st.1.typeIs) hn ⟨g, m⟩ (Heap.lt_size ho) lt q hz
  · exact PySem.W.kun_collect (T := "tuple_iterator") (.inr (.inr (.inr rfl))) (Walks.tuple (A := A.in1) hh it l ne items) (fun j u st => st.1.typeIs) hn ⟨g, m⟩ (Heap.lt_size ho) lt q hz
theorem iter_any {k : Bool} {l : Addr} {items : Array Value} {Q : Value → Shared → Prop} (m : SSq k s.heap l items)
    (q : Q (.ref s.heap.objs.size) { s with heap := s.heap.push { cls := .type (icl k), data := .fields #[.ref l, .int 0 0] } }) : wpAny (model prog w) A (pyIter (.ref l)) Q E s := by
  cases k
  · exact wpAny_pyIter_list m q
  · exact iter_tuple m q
theorem can_iter {k : Bool} {l : Addr} {items : Array Value} {Q : Bool → Shared → Prop} (m : SSq k s.heap l items) (q : Q false s) : wpAny (model prog w) A (notIterableAtAll (.ref l)) Q E s := by
  unfold notIterableAtAll
  cases k
  · exact wpAny_bind (wpAny_specialOf (Heap.IsList.typeIs m) slot_list_iter.lookup (wpAny_pure q))
  · exact wpAny_bind (wpAny_specialOf (IsTup.typeIs m) slot_tuple_iter.lookup (wpAny_pure q))
theorem SSq.push {k : Bool} {h : Heap} {l : Addr} {items : Array Value} (m : SSq k h l items) (o : Obj) : SSq k (h.push o) l items := by
  cases k
  · exact Heap.IsList.push m o
  · exact Heap.IsTuple.push m o
/-- the first i items, the others in a new list -/
theorem star_unpack {k : Bool} {l : Addr} {items : Array Value} {i : Nat} {Q : List Value → Shared → Prop} (hh : A.handled = none) (m : SSq k s.heap l items) (lt : l < s.heap.objs.size) (hi : i ≤ items.size) (hz : items.size ≤ sizeLine)
    (q : ∀ (h1 : Heap) (tk : Nat), (∀ b o, s.heap.get? b = some o → h1.get? b = some o) → Q (items.toList.take i ++ [.ref h1.objs.size]) { s with heap := h1.push { cls := .type "list", data := .seq (items.toList.drop i).toArray }, toks := tk }) :
    wpAny (model prog w) A (unpackItems (.ref l) (i + 1) (some i)) Q E s := by
  have ne : l ≠ s.heap.objs.size := Nat.ne_of_lt lt
  unfold unpackItems
  refine wpAny_bind (can_iter m ?_)
  simp only [Bool.false_eq_true, if_false]
  refine wpAny_bind (wpAny_holding (iter_any m ?_))
  have g0 : SIt k (s.heap.push { cls := .type (icl k), data := .fields #[.ref l, .int 0 0] }) s.heap.objs.size l 0 := by cases k <;> exact ⟨_, Heap.get?_push_size _ rfl, rfl, rfl⟩
  refine wpAny_bind (wpAny_holding (some_draw ne g0 (m.push _) hi fun h1 g1 c1 => ?_))
  have tl : (items.toList.take i).length = i := by rw [List.length_take, Array.length_toList]; omega
  rw [if_neg (by rw [tl]; omega)]
  have m1 : SSq k h1 l items := (m.push _).ext c1.extBut ne
  have lt1 : l < h1.objs.size := by
    cases k
    · obtain ⟨o, ho, _⟩ := m1; exact Heap.lt_size ho
    · obtain ⟨o, ho, _⟩ := m1; exact Heap.lt_size ho
  refine wpAny_bind (wpAny_holding (rest_of (s := { s with heap := h1 }) hh ne g1 m1 lt1 hi hz fun h2 tk c2 => ?_))
  have dl : (items.toList.drop i).length = items.size - i := by rw [List.length_drop, Array.length_toList]
  have z0 : i + 1 - 1 - i = 0 := by omega
  simp only [z0]
  rw [if_neg (Nat.not_lt_zero _), Nat.sub_zero, List.take_length, List.drop_length]
  simp only [newList]
  refine wpAny_bind (wpAny_newObj_type ?_ (by show (items.toList.drop i).length ≤ _; rw [dl]; omega))
  refine wpAny_pure ?_
  rw [List.append_nil]
  exact q h2 tk fun b o hb => c2 b o (Nat.ne_of_lt (Heap.lt_size hb)) (c1.extBut b o (Nat.ne_of_lt (Heap.lt_size hb)) (Heap.get?_push_of_some _ hb))
end
end DyZ

/-! Dp, part E: places, slices, what is walked; the expressions and their weakest preconditions. -/
namespace Dy
open PySem PySem.Spec L2
/-! ### places and slices -/
def idxF (m : Store) : Val → Val → Option Val
  | .str s, .int i => if s.length ≤ sizeLine then (atI s i).map fun c => .str [c] else none
  | v, .int i => (sq m v).bind fun vs => atI vs i
  | _, _ => none
def partF (has : Bool) (v : Val) : Option (Option Int) :=
  if has = true then (match v with | .int i => some (some i) | _ => none) else some none
def cutL {α : Type} (xs : List α) (lo hi : Option Int) : List α := (xs.drop (HT.sIx xs.length 0 lo)).take (HT.sIx xs.length xs.length hi - HT.sIx xs.length 0 lo)
def sliceF (m : Store) : Val → Option Int → Option Int → Option Val
  | .tup vs, lo, hi => some (.tup (cutL vs lo hi))
  | .str s, lo, hi => if s.length ≤ sizeLine then some (.str (cutL s lo hi)) else none
  | v, lo, hi => if isL v then (sq m v).map fun vs => .il true (cutL vs lo hi) else none
/-- what a slice asks -/
def rSlG (K : Frag) : V → Option Int → Option Int → Hp → VK → Prop := fun x lo hi H Q => (rSlL K x lo hi H Q ∨ rSlA K x lo hi H Q) ∨ rSlS x lo hi H Q
theorem sl_G {X : Cx} : SlR X (rSlG X.K) := (sl_list.or sl_tupA).or sl_str
section
variable {K : Frag} {W : Wd} {H : Hp} {m : Store}
theorem atI_rel {vs : List Val} {xs : List V} (r : RVs K W H vs xs) {i : Int} {v : Val} (e : atI vs i = some v) : ∃ x, atI xs i = some x ∧ RV K W H v x := by
  unfold atI at e ⊢
  rw [← r.length]
  cases hn : ixN vs.length i with
  | none => rw [hn] at e; cases e
  | some j =>
    rw [hn] at e
    exact r.get e
theorem idx_ok {Qd : Val → Store → Prop} {Q : VK} {a i w : Val} {x y : V} (ra : RV K W H a x) (ri : RV K W H i y) (h : HR K W m H) (hw : idxF m a i = some w) (q : Qd w m) (k : Cont K W H Qd Q) : rIx K x y H Q := by
  unfold idxF at hw
  split at hw
  · split at hw
    · simp only [Option.map_eq_some_iff] at hw
      obtain ⟨c, e1, e2⟩ := hw
      subst e2
      rw [ra.str_inv, ri.int_inv]
      exact .inr (.inr ⟨_, _, c, rfl, rfl, by rw [SX.S_len]; assumption, e1, k.here h (.str [c]) q⟩)
    · cases hw
  · simp only [Option.bind_eq_some_iff] at hw
    obtain ⟨vs, e1, e2⟩ := hw
    rw [ri.int_inv]
    obtain ⟨p, xs, rfl, sl, r1⟩ := sq_at h ra e1
    obtain ⟨z, e3, r2⟩ := atI_rel r1 e2
    rcases sl with sl | sl
    · exact .inl ⟨p, xs, _, z, rfl, rfl, sl, e3, k.here h r2 q⟩
    · exact .inr (.inl ⟨p, xs, _, z, rfl, rfl, sl, e3, k.here h r2 q⟩)
  · cases hw
theorem cut_rel {vs : List Val} {xs : List V} (r : RVs K W H vs xs) (lo hi : Option Int) : RVs K W H (cutL vs lo hi) (cutV xs lo hi) := by
  unfold cutL cutV
  rw [← r.length]
  exact (r.drop _).take _
theorem slice_ok {Qd : Val → Store → Prop} {Q : VK} {a w : Val} {x : V} {lo hi : Option Int} (ra : RV K W H a x) (h : HR K W m H) (hw : sliceF m a lo hi = some w) (q : Qd w m) (k : Cont K W H Qd Q) : rSlG K x lo hi H Q := by
  unfold sliceF at hw
  split at hw
  · cases hw
    obtain ⟨p, xs, rfl, sl, r1⟩ := ra.tup_inv
    refine .inl (.inr ⟨p, xs, rfl, sl, fun hz => ?_, fun _ p hp => k.tup h (cut_rel r1 _ _) q hp⟩)
    refine k.here h (.tup sl ?_) q
    have hl := r1.length
    unfold cutL
    rw [hl, hz.1, hz.2, List.drop_zero, Nat.sub_zero, List.take_of_length_le (by omega)]
    exact r1
  · split at hw
    · cases hw
      rw [ra.str_inv]
      refine .inr ⟨_, rfl, by rw [SX.S_len]; assumption, ?_⟩
      have e : ∀ (s : Text) (lo hi : Option Int), cutS (SX.S s) lo hi = SX.S (cutL s lo hi) := fun s lo hi => by
        unfold cutS cutL
        rw [SX.S_len]
      rw [e]
      exact k.here h (.str _) q
    · cases hw
  · split at hw
    · simp only [Option.map_eq_some_iff] at hw
      obtain ⟨vs, e1, e2⟩ := hw
      subst e2
      obtain ⟨p, xs, rfl, sl, r1⟩ := sq_atL h ra e1 (by assumption)
      exact .inl (.inl ⟨p, xs, rfl, sl, fun p hp => k.il h (cut_rel r1 _ _) q hp⟩)
    · cases hw
end
/-! ### what is walked -/
inductive IK where
  | seq | rng1 | rng2 | zip
  deriving DecidableEq
def intsUp (lo : Int) (n : Nat) : List Val := (List.range n).map fun i => .int (lo + (i : Nat))
def itF : IK → Store → Val → Val → Option (List Val)
  | .seq, _, .str s, _ => some (s.map fun c => .str [c])
  | .seq, m, v, _ => sq m v
  | .rng1, _, .int n, _ => if -(2 ^ 62) ≤ n ∧ n < 2 ^ 62 then some (intsUp 0 n.toNat) else none
  | .rng2, _, .int a, .int b => if -(2 ^ 62) ≤ a ∧ a < 2 ^ 62 ∧ -(2 ^ 62) ≤ b ∧ b < 2 ^ 62 then some (intsUp a (b - a).toNat) else none
  | .zip, m, a, b => (sq m a).bind fun us => (sq m b).map fun vs => (us.zip vs).map fun p => .tup [p.1, p.2]
  | _, _, _, _ => none
/-- J walks the items as long as the store lets it -/
def Walk (K : Frag) (J : It) (items : List Val) (live : Store → Prop) (W0 : Wd) (H0 : Hp) : Prop :=
  ∀ (W : Wd) (m : Store) (H : Hp), Ext W0 H0 W H → HR K W m H → live m →
    (∀ i, items.length ≤ i → J.stop i H) ∧ ∀ (i : Nat) (v : Val), items[i]? = some v → J.go i H ∧ ∀ x H', J.yld i H x H' → ∃ W', Ext W H W' H' ∧ HR K W' m H' ∧ RV K W' H' v x
section
variable {K : Frag} {W : Wd} {H : Hp} {m : Store}
theorem walk_rng {lo : Int} {n : Nat} {live : Store → Prop} : Walk K (Itr lo n) (intsUp lo n) live W H := by
  intro W1 m1 H1 e h _
  refine ⟨fun i hi => by simpa [intsUp, Itr] using hi, fun i v hv => ?_⟩
  have hi : i < n := by
    have := (List.getElem?_eq_some_iff.mp hv).1
    simpa [intsUp] using this
  have ev : v = .int (lo + (i : Nat)) := by
    simp [intsUp, hi] at hv
    exact hv.symm
  subst ev
  refine ⟨hi, fun x H' y => ?_⟩
  obtain ⟨e1, e2⟩ := y
  subst e1 e2
  exact ⟨W1, .refl h, h, .int _⟩
theorem walk_str {s : Text} {live : Store → Prop} : Walk K (Its (SX.S s)) (s.map fun c => Val.str [c]) live W H := by
  intro W1 m1 H1 e h _
  refine ⟨fun i hi => by simpa [Its] using hi, fun i v hv => ?_⟩
  rw [List.getElem?_map, Option.map_eq_some_iff] at hv
  obtain ⟨c, e1, e2⟩ := hv
  subst e2
  have hi : i < s.length := (List.getElem?_eq_some_iff.mp e1).1
  refine ⟨by simpa [Its] using hi, fun x H' y => ?_⟩
  obtain ⟨f1, c', f2, f3⟩ := y
  subst f1 f3
  have f4 : (SX.S s).cps[i]? = some c := by simpa using e1
  rw [f4] at f2; cases f2
  exact ⟨W1, .refl h, h, .str _⟩
theorem walk_L {v : Val} {x : V} {vs : List Val} (h0 : HR K W m H) (r : RV K W H v x) (e : sq m v = some vs) (hl : isL v = true) : ∃ a xs, x = .ref a ∧ SqL K H a xs ∧ Walk K (Itl K a) vs (fun m => sq m v = some vs) W H := by
  obtain ⟨a, xs, rfl, sl, r1⟩ := sq_atL h0 r e hl
  refine ⟨a, xs, rfl, sl, fun W1 m1 H1 ex h1 lv => ?_⟩
  obtain ⟨b, ys, eb, sl1, r2⟩ := sq_atL h1 (r.mono h0 ex) lv hl
  cases eb
  refine ⟨fun i hi => ⟨ys, sl1, by rw [← r2.length]; exact hi⟩, fun i v hv => ?_⟩
  obtain ⟨y, ey, ry⟩ := r2.get hv
  refine ⟨⟨ys, y, sl1, ey⟩, fun z H' hz => ?_⟩
  obtain ⟨e1, e2⟩ := hz
  subst e1
  have e3 := e2 ys sl1
  rw [ey] at e3; cases e3
  exact ⟨W1, .refl h1, h1, ry⟩
theorem sq_G (h : HR K W m H) {v : Val} {x : V} {vs : List Val} (r : RV K W H v x) (e : sq m v = some vs) : ∃ (k : Bool) (a : Addr) (xs : List V), x = .ref a ∧ DyZ.SqG k K H a xs ∧ RVs K W H vs xs ∧
    ∀ (W1 : Wd) (m1 : Store) (H1 : Hp) (us : List Val), Ext W H W1 H1 → HR K W1 m1 H1 → sq m1 v = some us → ∃ ys, DyZ.SqG k K H1 a ys ∧ RVs K W1 H1 us ys := by
  by_cases hl : isL v = true
  · obtain ⟨a, xs, rfl, sl, r1⟩ := sq_atL h r e hl
    refine ⟨false, a, xs, rfl, sl, r1, fun W1 m1 H1 us ex h1 e1 => ?_⟩
    obtain ⟨b, ys, eb, sl1, r2⟩ := sq_atL h1 (r.mono h ex) e1 hl
    cases eb
    exact ⟨ys, sl1, r2⟩
  · cases v with
    | tup us =>
      cases e
      obtain ⟨a, xs, rfl, sl, r1⟩ := r.tup_inv
      refine ⟨true, a, xs, rfl, sl, r1, fun W1 m1 H1 us2 ex h1 e1 => ?_⟩
      cases e1
      obtain ⟨b, ys, eb, sl1, r2⟩ := (r.mono h ex).tup_inv
      cases eb
      exact ⟨ys, sl1, r2⟩
    | il o us => exact absurd rfl hl
    | loc n => exact absurd rfl hl
    | _ => cases e
theorem zip_at {us vs : List Val} {i : Nat} {p : Val} (h : ((us.zip vs).map fun p => Val.tup [p.1, p.2])[i]? = some p) : ∃ u v, us[i]? = some u ∧ vs[i]? = some v ∧ p = .tup [u, v] := by
  rw [List.getElem?_map, Option.map_eq_some_iff] at h
  obtain ⟨⟨u, v⟩, e, rfl⟩ := h
  rw [List.getElem?_zip_eq_some] at e
  exact ⟨u, v, e.1, e.2, rfl⟩
theorem walk_zip {a b : Val} {x y : V} {us vs : List Val} {live : Store → Prop} (h0 : HR K W m H) (ra : RV K W H a x) (rb : RV K W H b y) (ea : sq m a = some us) (eb : sq m b = some vs) (hl : ∀ m, live m → ∃ us' vs', sq m a = some us' ∧ sq m b = some vs' ∧ us'.zip vs' = us.zip vs) :
    ∃ (k1 k2 : Bool) (p q : Addr) (xs ys : List V), x = .ref p ∧ y = .ref q ∧ DyZ.SqG k1 K H p xs ∧ DyZ.SqG k2 K H q ys ∧ Walk K (DyZ.Itg K k1 k2 p q) ((us.zip vs).map fun p => Val.tup [p.1, p.2]) live W H := by
  obtain ⟨k1, p, xs, rfl, s1, r1, c1⟩ := sq_G h0 ra ea
  obtain ⟨k2, q, ys, rfl, s2, r2, c2⟩ := sq_G h0 rb eb
  refine ⟨k1, k2, p, q, xs, ys, rfl, rfl, s1, s2, fun W1 m1 H1 ex h1 lv => ?_⟩
  obtain ⟨us', vs', l1, l2, ez⟩ := hl m1 lv
  rw [← ez]
  obtain ⟨xs1, t1, q1⟩ := c1 W1 m1 H1 us' ex h1 l1
  obtain ⟨ys1, t2, q2⟩ := c2 W1 m1 H1 vs' ex h1 l2
  refine ⟨fun i hi => ⟨xs1, ys1, t1, t2, ?_⟩, fun i v hv => ?_⟩
  · simp only [List.length_map, List.length_zip] at hi
    rw [← q1.length, ← q2.length]
    omega
  · obtain ⟨u, w, eu, ew, rfl⟩ := zip_at hv
    obtain ⟨u', fu, ru⟩ := q1.get eu
    obtain ⟨w', fw, rw'⟩ := q2.get ew
    refine ⟨⟨xs1, ys1, u', w', t1, t2, fu, fw⟩, fun z H' hz => ?_⟩
    obtain ⟨n, u2, w2, rfl, hn, rfl, g1, g2⟩ := hz
    have e1 := g1 xs1 t1
    have e2 := g2 ys1 t2
    rw [fu] at e1; cases e1
    rw [fw] at e2; cases e2
    obtain ⟨e3, h3, r3⟩ := new_tup h1 hn (vs := [u, w]) (.cons ru (.cons rw' .nil))
    exact ⟨W1, e3, h3, r3⟩
theorem walk_T {x : V} {vs : List Val} {live : Store → Prop} (h0 : HR K W m H) (r : RV K W H (.tup vs) x) : ∃ a xs, x = .ref a ∧ SqT K H a xs ∧ Walk K (Itt K a) vs live W H := by
  obtain ⟨a, xs, rfl, sl, r1⟩ := r.tup_inv
  refine ⟨a, xs, rfl, sl, fun W1 m1 H1 ex h1 lv => ?_⟩
  obtain ⟨b, ys, eb, sl1, r2⟩ := (r.mono h0 ex).tup_inv
  cases eb
  refine ⟨fun i hi => ⟨ys, sl1, by rw [← r2.length]; exact hi⟩, fun i v hv => ?_⟩
  obtain ⟨y, ey, ry⟩ := r2.get hv
  refine ⟨⟨ys, y, sl1, ey⟩, fun z H' hz => ?_⟩
  obtain ⟨e1, e2⟩ := hz
  subst e1
  have e3 := e2 ys sl1
  rw [ey] at e3; cases e3
  exact ⟨W1, .refl h1, h1, ry⟩
end
/-! ### targets -/
inductive Tg where
  | name (i : Nat)
  | tup (is : List Nat)
def setAll : List Nat → List Val → Env → Option Env
  | [], [], r => some r
  | i :: is, v :: vs, r => setAll is vs (r.set i (some v))
  | _, _, _ => none
def tgF : Tg → Val → Env → Option Env
  | .name i, v, r => some (r.set i (some v))
  | .tup is, .tup vs, r => setAll is vs r
  | _, _, _ => none
/-! ### expressions -/
/-- what is asked of a table of the module -/
inductive KOp where
  | get1 | get2 | idx | isin | notin
  deriving DecidableEq
def kdW (op : KOp) (kvs : List (Text × Val)) (k d : Val) (Q : Val → Prop) : Prop :=
  match op, k with
  | .get1, .str t => Q ((kvs.lookup t).getD .non)
  | .get2, .str t => Q ((kvs.lookup t).getD d)
  | .idx, .str t => ∃ v, kvs.lookup t = some v ∧ Q v
  | .isin, .str t => Q (.bool (kvs.lookup t).isSome)
  | .notin, .str t => Q (.bool (!(kvs.lookup t).isSome))
  | _, _ => False
inductive E where
  | var (i : Nat)
  | cst (v : Val)
  | nil
  | cons (a b : E)
  | tup (es : E)
  | lst (mu : Bool) (es : E)
  | bin (op : BOp) (a b : E)
  | neg (a : E)
  | cmp (op : COp) (a b : E)
  | chain (o1 o2 : COp) (a b c : E)
  | isN (neg : Bool) (a : E)
  | one (a : E)
  | and (a b : E)
  | or (a b : E)
  | not (a : E)
  | ite (c a b : E)
  | call (f : Nat) (args : E)
  | bi (b : Bi) (args : E)
  | isI (t : Ty) (a : E)
  | meth (t : Mt) (o args : E)
  | idx (a i : E)
  | sl (hl hh : Bool) (a lo hi : E)
  | lc (mu : Bool) (own : List Nat) (tg : Tg) (ik : IK) (e1 e2 cond elt : E)
  | scons (a b : E)
  | kd (op : KOp) (kvs : List (Text × Val)) (k d : E)
/-- what a def is worth -/
abbrev FS := List Val → Store → (Val → Store → Prop) → Rq → Prop
def isNon : Val → Bool
  | .non => true
  | _ => false
/-- a list comprehension's turns -/
def lcW (live : Store → Prop) (body : Val → Store → (Option Val → Store → Prop) → Prop) : List Val → List Val → Store → (List Val → Store → Prop) → Prop
  | [], acc, m, Q => live m ∧ Q acc m
  | x :: xs, acc, m, Q => live m ∧ body x m fun o m1 => match o with
    | some v => acc.length < sizeLine ∧ lcW live body xs (acc ++ [v]) m1 Q
    | none => lcW live body xs acc m1 Q
/-- the end of a list that is new -/
def newL (mu : Bool) (vs : List Val) (m : Store) (Q : Val → Store → Prop) : Prop :=
  if mu = true then Q (.loc m.length) (m ++ [.list vs]) else Q (.il true vs) m
def noR : Rq := fun _ _ _ => False
/-- as a value, and as a test -/
abbrev WB := WE0 × WT0
def prT (w : WE0) : WB := (w, fun r m Q R => w r m (fun v m1 => ∃ t, tru m1 v = some t ∧ Q t m1) R)
def wpB (F : Nat → FS) : E → WB
  | .var i => prT fun r m Q _ => ∃ v, r[i]? = some (some v) ∧ Q v m
  | .cst v => prT fun _ m Q _ => Q v m
  | .nil => prT fun _ m Q _ => Q (.tup []) m
  | .cons a b => prT fun r m Q R => (wpB F a).1 r m (fun v m1 => (wpB F b).1 r m1 (fun w m2 => ∃ vs, w = .tup vs ∧ Q (.tup (v :: vs)) m2) R) R
  | .tup es => prT fun r m Q R => (wpB F es).1 r m (fun v m1 => ∃ vs, v = .tup vs ∧ vs.length ≤ sizeLine ∧ Q (.tup vs) m1) R
  | .lst mu es => prT fun r m Q R => (wpB F es).1 r m (fun v m1 => ∃ vs, v = .tup vs ∧ vs.length ≤ sizeLine ∧ newL mu vs m1 Q) R
  | .bin op a b => prT fun r m Q R => (wpB F a).1 r m (fun v m1 => (wpB F b).1 r m1 (fun w m2 => binW op v w m2 Q) R) R
  | .neg a => prT fun r m Q R => (wpB F a).1 r m (fun v m1 => ∃ i, v = .int i ∧ Q (.int (-i)) m1) R
  | .cmp op a b => prT fun r m Q R => (wpB F a).1 r m (fun v m1 => (wpB F b).1 r m1 (fun w m2 => cmpW op v w m2 fun t => Q (.bool t) m2) R) R
  | .chain o1 o2 a b c => prT fun r m Q R => (wpB F a).1 r m (fun v m1 => (wpB F b).1 r m1 (fun w m2 => cmpW o1 v w m2 fun t =>
      if t = true then (wpB F c).1 r m2 (fun u m3 => cmpW o2 w u m3 fun t => Q (.bool t) m3) R else Q (.bool false) m2) R) R
  | .isN neg a => prT fun r m Q R => (wpB F a).1 r m (fun v m1 => Q (.bool (neg != isNon v)) m1) R
  | .one a => wpB F a
  | .and a b => (fun r m Q R => (wpB F a).1 r m (fun v m1 => ∃ t, tru m1 v = some t ∧ if t = true then (wpB F b).1 r m1 Q R else Q v m1) R,
      fun r m Q R => (wpB F a).2 r m (fun t m1 => if t = true then (wpB F b).2 r m1 Q R else Q false m1) R)
  | .or a b => (fun r m Q R => (wpB F a).1 r m (fun v m1 => ∃ t, tru m1 v = some t ∧ if t = true then Q v m1 else (wpB F b).1 r m1 Q R) R,
      fun r m Q R => (wpB F a).2 r m (fun t m1 => if t = true then Q true m1 else (wpB F b).2 r m1 Q R) R)
  | .not a => (fun r m Q R => (wpB F a).1 r m (fun v m1 => ∃ t, tru m1 v = some t ∧ Q (.bool (!t)) m1) R, fun r m Q R => (wpB F a).2 r m (fun t m1 => Q (!t) m1) R)
  | .ite c a b => (fun r m Q R => (wpB F c).2 r m (fun t m1 => if t = true then (wpB F a).1 r m1 Q R else (wpB F b).1 r m1 Q R) R,
      fun r m Q R => (wpB F c).2 r m (fun t m1 => if t = true then (wpB F a).2 r m1 Q R else (wpB F b).2 r m1 Q R) R)
  | .call f args => prT fun r m Q R => (wpB F args).1 r m (fun v m1 => ∃ vs, v = .tup vs ∧ F f vs m1 Q R) R
  | .bi b args => prT fun r m Q R => (wpB F args).1 r m (fun v m1 => ∃ vs, v = .tup vs ∧ biW b vs m1 Q) R
  | .isI t a => prT fun r m Q R => (wpB F a).1 r m (fun v m1 => Q (.bool (isT t v)) m1) R
  | .meth t o args => prT fun r m Q R => (wpB F o).1 r m (fun v m1 => mtT t v ∧ (wpB F args).1 r m1 (fun w m2 => ∃ vs, w = .tup vs ∧ mtW t v vs m2 Q) R) R
  | .idx a i => prT fun r m Q R => (wpB F a).1 r m (fun v m1 => (wpB F i).1 r m1 (fun w m2 => ∃ u, idxF m2 v w = some u ∧ Q u m2) R) R
  | .sl hl hh a lo hi => prT fun r m Q R => (wpB F a).1 r m (fun v m1 => (wpB F lo).1 r m1 (fun l m2 => ∃ i, partF hl l = some i ∧ (wpB F hi).1 r m2 (fun u m3 => ∃ j, partF hh u = some j ∧ ∃ z, sliceF m3 v i j = some z ∧ Q z m3) R) R) R
  | .lc mu own tg ik e1 e2 cond elt => prT fun r m Q R => (wpB F e1).1 r m (fun v1 m1 => (wpB F e2).1 r m1 (fun v2 m2 => ∃ items, itF ik m2 v1 v2 = some items ∧
      lcW (fun m => itF ik m v1 v2 = some items) (fun x m P => ∃ r2, tgF tg x (wipeE r own) = some r2 ∧ (wpB F cond).2 r2 m (fun t m1 =>
        if t = true then (wpB F elt).1 r2 m1 (fun y m2 => P (some y) m2) noR else P none m1) noR) items [] m2 fun acc m3 => newL mu acc m3 Q) R) R
  | .scons a b => prT fun r m Q R => (wpB F a).1 r m (fun v m1 => ∃ us, sq m1 v = some us ∧ (wpB F b).1 r m1 (fun w m2 => ∃ vs, w = .tup vs ∧ Q (.tup (us ++ vs)) m2) R) R
  | .kd op kvs k d => prT fun r m Q R => (wpB F k).1 r m (fun kv m1 => (wpB F d).1 r m1 (fun dv m2 => kdW op kvs kv dv fun v => Q v m2) R) R
def wpE (F : Nat → FS) (e : E) : WE0 := (wpB F e).1
def wpT (F : Nat → FS) (e : E) : WT0 := (wpB F e).2
def wpA (F : Nat → FS) (e : E) : WA0 := fun r m Q R => wpE F e r m (fun v m1 => ∃ vs, v = .tup vs ∧ Q vs m1) R
end Dy

/-! Dp, part F: defs by what they are worth; which text an expression stands for. -/
namespace Dy
open PySem PySem.Spec L2
/-! ### equal values -/
mutual
def veq : Val → Val → Bool
  | .non, .non => true
  | .bool a, .bool b => a == b
  | .int a, .int b => a == b
  | .str a, .str b => a == b
  | .tup a, .tup b => veqs a b
  | .il o a, .il p b => (o == p) && veqs a b
  | .loc a, .loc b => a == b
  | _, _ => false
def veqs : List Val → List Val → Bool
  | [], [] => true
  | a :: r, b :: s => veq a b && veqs r s
  | _, _ => false
end
mutual
theorem veq_eq : ∀ {a b : Val}, veq a b = true → a = b
  | .non, b, h => by cases b <;> simp [veq] at h; rfl
  | .bool a, b, h => by cases b <;> simp [veq] at h; rw [h]
  | .int a, b, h => by cases b <;> simp [veq] at h; rw [h]
  | .str a, b, h => by cases b <;> simp [veq] at h; rw [h]
  | .tup a, b, h => by cases b <;> simp [veq] at h; rw [veqs_eq h]
  | .il o a, b, h => by cases b <;> simp [veq] at h; rw [h.1, veqs_eq h.2]
  | .loc a, b, h => by cases b <;> simp [veq] at h; rw [h]
theorem veqs_eq : ∀ {a b : List Val}, veqs a b = true → a = b
  | [], [], _ => rfl
  | [], _ :: _, h => by simp [veqs] at h
  | _ :: _, [], h => by simp [veqs] at h
  | a :: r, b :: s, h => by
    simp [veqs] at h
    rw [veq_eq h.1, veqs_eq h.2]
end
/-! ### a def's promise, where no repr is under way -/
structure FnG (P : Program) (w : World) (K : Frag) (mg : Str → Option Value) (base : Heap) (k : Nat) (f : Addr) (fd : FuncData) (ps : List Str) (sp : Sp) : Prop where
  len : ∀ vs H Q E, sp vs H Q E → vs.length = ps.length
  run : ∀ (A : Around) (outer : List PySem.Env) (s : Shared) (H : Hp) (args : Args) (us : List Value) (vs : List V) (Q : VK) (E : XK), Room k A → A.guards = some [] → Env0 P w K mg base A outer s H →
    BindsTo s fd args (ps.zip us) → Vals vs us → sp vs H Q E → codeAny (model P w) A (.call (.ref f) args) (CR (L2.CX P w) outer P w H s Q E) s
def ContE (K : Frag) (cl : Cls) (W : Wd) (H : Hp) (R : Rq) (E : XK) : Prop :=
  ∀ (W' : Wd) (c : Nat) (v : Val) (x : V) (d : Addr) (m' : Store) (H' : Hp), Ext W H W' H' → RV K W' H' v x → HR K W' m' H' → H' d = some (.xd [("value", x)]) → R c v m' → E (.ref (cl c)) (some d) H'
/-- the promise of a def of n parameters -/
def spG (K : Frag) (cl : Cls) (n : Nat) (fs : FS) : Sp := fun vs H Q E =>
  ∃ (W : Wd) (args : List Val) (m : Store) (Qd : Val → Store → Prop) (R : Rq), vs.length = n ∧ RVs K W H args vs ∧ HR K W m H ∧ fs args m Qd R ∧ Cont K W H Qd Q ∧ ContE K cl W H R E
section
variable {X : Cx} {k : Nat} {f : Addr} {fd : FuncData} {ps : List Str} {sp : Sp} {x : Str} {p pos : Pos} {e : Expr} {es : List Expr} {t : TA} {Wx : WX}
theorem run_fnG {pins : List (Addr × Obj)} {σ : St} {H : Hp} {s : Shared} {Q : VK} {us : List Value} {vs : List V} (F : FnG X.prog X.w X.K X.mg X.base k f fd ps sp) (hr : Room k X.A) (hg : X.A.guards = some []) (hb : Binds X.K fd ps []) (tk : Takes X Wx)
    (I : Inv X pins σ H s) (r : Vals vs us) (h : sp vs H Q fun c d H' => Wx c d σ H') : wpAny (model X.prog X.w) X.A (call (.ref f) us) (EP X pins σ Q) X.xe s := by
  have hl : us.length = ps.length := r.length ▸ F.len _ _ _ _ h
  have b : BindsTo s fd ⟨us, []⟩ (ps.zip us) := by
    have b := hb s us I.kIn (by rw [List.append_nil]; exact hl)
    rw [List.append_nil] at b
    exact b
  refine wpAny_call (codeAny_mono (F.run X.A X.stack s H ⟨us, []⟩ us vs Q _ hr hg I.env0 b r h) fun z s' hq => ?_)
  match z, hq with
  | .error e, hq => exact tk e s' (XE.of_call I (fun _ _ _ q => q) hq)
  | .ok (.ret u), hq => exact I.after hq
theorem pe_callG (F : FnG X.prog X.w X.K X.mg X.base k f fd ps sp) (hr : Room k X.A) (hgu : X.A.guards = some []) (hg : Gl X x) (hm : X.mg x = some (.ref f)) (hk : PySem.W.keepIn X.K (.ref f) = true) (hb : Binds X.K fd ps []) (tk : Takes X Wx) (ha : PA X (e :: es) t)
    (hdb : (x == ("__debug__" : Str)) = false) (he : starEach (e :: es) X.env = (false, eval e X.env) :: starEach es X.env) (hpl : (backTo pos (starEach es X.env)).any (·.1) = false) :
    PE X (.Call (.Name x p) (e :: es) [] pos) (fun σ H Q => t σ H fun vs H1 => sp vs H1 Q fun c d H' => Wx c d σ H') := by
  constructor
  intro pins s σ H Q I h
  refine wpAny_Call_Name_kw (ld_glob I hg hm ?_ hdb)
  refine PySem.W.callWith_K (h₀ := X.base) I.ok.mod.kin hk (thn (ha.run pos pins s σ H _ I h) ?_) he hpl
  rintro us s1 ⟨vs, H1, I1, r, q⟩
  exact ⟨I1.kIn, run_fnG F hr hgu hb tk I1 r q⟩
end
/-! ### the text -/
structure Cc where
  N : List Str
  names : List (Str × NameKind)
  top : Bool
  gl : List (Str × Val)
  bl : List Str
  fns : List (Str × Nat)
  kd : List (Str × List (Text × Val))
def noStar : Expr → Bool
  | .Starred _ _ => false
  | _ => true
def isGl (c : Cc) (x : Str) : Bool := decide (c.names.lookup x = some .globalImplicit) && !(x == ("__debug__" : Str))
def isVis (c : Cc) (x : Str) : Bool := decide (c.names.lookup x = some .local) || decide (c.names.lookup x = some .cell) || decide (c.names.lookup x = some .free)
def plainName (x : Str) : Bool := !(x == ("__debug__" : Str)) && !(x == ("__classdict__" : Str))
def canSet (c : Cc) (i : Nat) (x : Str) : Bool := decide (c.N[i]? = some x) && (decide (c.names.lookup x = some .local) || (c.top && decide (c.names.lookup x = some .cell)))
def chkNames (c : Cc) : List Expr → List Nat → Bool
  | [], [] => true
  | .Name x _ :: r, i :: is => canSet c i x && chkNames c r is
  | _, _ => false
def chkTg (c : Cc) (e : Expr) : Tg → Bool
  | .name i => match e with
    | .Name x _ => canSet c i x
    | _ => false
  | .tup is => match e with
    | .Tuple es _ _ => chkNames c es is
    | _ => false
/-- no call that takes nothing -/
def baseOk : Expr → Bool
  | .Call (.Name _ _) [] [] _ => false
  | _ => true
def notSlice : Expr → Bool
  | .Slice _ _ _ _ => false
  | _ => true
def notSet : Expr → Bool
  | .Set _ _ _ => false
  | _ => true
def blkNames (c : Cc) (scope : Scope) : List (Str × NameKind) :=
  scope.names.map fun (n, k) => if (k == .free && decide (c.names.lookup n = some .cell)) then (n, .cell) else (n, k)
def ownOf (c : Cc) : List Nat → List (Str × Nat)
  | [] => []
  | i :: is => ((c.N[i]?).getD "", i) :: ownOf c is
def tgIn (own : List Nat) : Tg → Bool
  | .name i => own.contains i
  | .tup is => is.all own.contains
def Cc.blk (c : Cc) (scope : Scope) : Cc := { c with names := blkNames c scope, top := false }
def isCst : E → Bool
  | .cst .non => true
  | _ => false
def isYes : E → Bool
  | .cst (.bool true) => true
  | _ => false
/-- a part of a slice -/
def chkO (has no : Bool) (o : Option Expr) (f : Expr → Bool) : Bool :=
  match o with
  | none => !has && no
  | some x => has && f x
/-- the tests of a comprehension -/
def chkC (ifs : List Expr) (yes : Bool) (f : Expr → Bool) : Bool :=
  match ifs with
  | [] => yes
  | [x] => f x
  | _ => false
def isTupT : Expr → Bool
  | .Tuple _ _ _ => true
  | _ => false
/-- equal tables -/
def kvsEq : List (Text × Val) → List (Text × Val) → Bool
  | [], [] => true
  | (s, a) :: r, (t, b) :: u => (s == t) && veq a b && kvsEq r u
  | _, _ => false
theorem kvs_eq : ∀ {a b : List (Text × Val)}, kvsEq a b = true → a = b
  | [], [], _ => rfl
  | [], _ :: _, h => by simp [kvsEq] at h
  | _ :: _, [], h => by simp [kvsEq] at h
  | (s, a) :: r, (t, b) :: u, h => by
    simp only [kvsEq, Bool.and_eq_true, beq_iff_eq] at h
    rw [h.1.1, veq_eq h.1.2, kvs_eq h.2]
/-- the table that a name of the module holds -/
def kdOk (c : Cc) (x : Str) (kvs : List (Text × Val)) : Bool := isGl c x && (match c.kd.lookup x with | some u => kvsEq kvs u | none => false)
theorem kdOk_of {c : Cc} {x : Str} {kvs : List (Text × Val)} (h : kdOk c x kvs = true) : isGl c x = true ∧ c.kd.lookup x = some kvs := by
  unfold kdOk at h
  rw [Bool.and_eq_true] at h
  refine ⟨h.1, ?_⟩
  have h2 := h.2
  cases e : c.kd.lookup x with
  | none => rw [e] at h2; cases h2
  | some u => rw [e] at h2; rw [kvs_eq h2]
/-- what is walked -/
def chkIt (c : Cc) (t it : Expr) (ik : IK) (no2 : Bool) (f1 f2 : Expr → Bool) : Bool :=
  match ik with
  | .seq => no2 && f1 it
  | .rng1 => match it with
    | .Call (.Name x _) [y] [] _ => isGl c x && (x == ("range" : Str)) && c.bl.contains x && noStar y && no2 && f1 y
    | _ => false
  | .rng2 => match it with
    | .Call (.Name x _) [y, z] [] _ => isGl c x && (x == ("range" : Str)) && c.bl.contains x && noStar y && noStar z && f1 y && f2 z
    | _ => false
  | .zip => match it with
    | .Call (.Name x _) [y, z] [] _ => isTupT t && isGl c x && (x == ("zip" : Str)) && c.bl.contains x && noStar y && noStar z && f1 y && f2 z
    | _ => false
mutual
def chk (c : Cc) (e : Expr) : E → Bool
  | .var i => match e with
    | .Name x _ => decide (c.N[i]? = some x) && isVis c x && plainName x
    | _ => false
  | .cst v => match e with
    | .Constant .none _ _ => veq v .non
    | .Constant (.bool b) _ _ => veq v (.bool b)
    | .Constant (.int i) _ _ => veq v (.int i)
    | .Constant (.str s) _ _ => veq v (.str s.cps.toList)
    | .Name x _ => isGl c x && (match c.gl.lookup x with | some u => veq v u | none => false)
    | _ => false
  | .nil => false
  | .cons _ _ => false
  | .tup es => match e with
    | .Tuple xs _ _ => chkD c xs es
    | _ => false
  | .lst _ es => match e with
    | .List xs _ => chkD c xs es
    | _ => false
  | .bin o a b => match e with
    | .BinOp l op r _ => decide (o.op = op) && chk c l a && chk c r b
    | _ => false
  | .neg a => match e with
    | .UnaryOp .USub x _ => chk c x a
    | _ => false
  | .cmp o a b => match e with
    | .Compare l [op] [r] _ => decide (o.op = op) && notSet r && chk c l a && chk c r b
    | _ => false
  | .chain o1 o2 a b d => match e with
    | .Compare l [p1, p2] [r, s] _ => decide (o1.op = p1) && decide (o2.op = p2) && notSet s && chk c l a && chk c r b && chk c s d
    | _ => false
  | .one _ => false
  | .isN neg a => match e with
    | .Compare l [op] [.Constant .none _ _] _ => decide (op = if neg then .IsNot else .Is) && chk c l a
    | _ => false
  | .and a b => match e with
    | .BoolOp .And (x :: y :: r) p => chk c x a && chkB c .And (y :: r) b
    | _ => false
  | .or a b => match e with
    | .BoolOp .Or (x :: y :: r) p => chk c x a && chkB c .Or (y :: r) b
    | _ => false
  | .not a => match e with
    | .UnaryOp .Not x _ => chk c x a
    | _ => false
  | .ite t a b => match e with
    | .IfExp z x y _ => chk c z t && chk c x a && chk c y b
    | _ => false
  | .call f args => match e with
    | .Call (.Name x _) (y :: ys) [] _ => isGl c x && decide (c.fns.lookup x = some f) && chkL c (y :: ys) args
    | _ => false
  | .bi b args => match e with
    | .Call (.Name x _) (y :: ys) [] _ => isGl c x && (x == b.name) && c.bl.contains x && chkL c (y :: ys) args
    | _ => false
  | .isI t a => match e with
    | .Call (.Name x _) [y, .Name z _] [] _ => isGl c x && (x == ("isinstance" : Str)) && c.bl.contains x && isGl c z && (z == Str.ofString t.name) && c.bl.contains z && noStar y && chk c y a
    | _ => false
  | .meth t o args => match e with
    | .Call (.Attribute y name ap) (z :: zs) [] p => (name == t.name) && (ap.endLine == p.line) && baseOk y && decide ((z :: zs).length < 20) && chk c y o && chkL c (z :: zs) args
    | _ => false
  | .idx a i => match e with
    | .Subscript x y _ => notSlice y && chk c x a && chk c y i
    | _ => false
  | .sl hl hh a lo hi => match e with
    | .Subscript x (.Slice l h none _) _ => chk c x a && chkO hl (isCst lo) l (fun y => chk c y lo) && chkO hh (isCst hi) h (fun y => chk c y hi)
    | _ => false
  | .lc _ own tg ik e1 e2 cond elt => match e with
    | .ListComp y [⟨t, it, ifs, as⟩] scope _ => decide (as = 0) && blkC c.N { kind := .function, names := c.names, isGenerator := false, isCoroutine := false } scope (ownOf c own) && tgIn own tg && chkTg (c.blk scope) t tg &&
        chkIt c t it ik (isCst e2) (fun z => chk c z e1) (fun z => chk c z e2) && notSet it && chkC ifs (isYes cond) (fun z => chk (c.blk scope) z cond) && chk (c.blk scope) y elt
    | _ => false
  | .scons _ _ => false
  | .kd op kvs k d => match op with
    | .get1 => match e with
      | .Call (.Attribute (.Name x _) name ap) [y] [] p => kdOk c x kvs && (name == ("get" : Str)) && (ap.endLine == p.line) && noStar y && isCst d && chk c y k
      | _ => false
    | .get2 => match e with
      | .Call (.Attribute (.Name x _) name ap) [y, z] [] p => kdOk c x kvs && (name == ("get" : Str)) && (ap.endLine == p.line) && noStar y && noStar z && chk c y k && chk c z d
      | _ => false
    | .idx => match e with
      | .Subscript (.Name x _) y _ => kdOk c x kvs && notSlice y && isCst d && chk c y k
      | _ => false
    | .isin => match e with
      | .Compare l [op] [.Name x _] _ => decide (op = .In) && kdOk c x kvs && isCst d && chk c l k
      | _ => false
    | .notin => match e with
      | .Compare l [op] [.Name x _] _ => decide (op = .NotIn) && kdOk c x kvs && isCst d && chk c l k
      | _ => false
/-- what stands in a display -/
def chkD (c : Cc) (es : List Expr) : E → Bool
  | .nil => match es with
    | [] => true
    | _ => false
  | .cons a b => match es with
    | x :: r => noStar x && chk c x a && chkD c r b
    | _ => false
  | .scons a b => match es with
    | .Starred x _ :: r => chk c x a && chkD c r b
    | _ => false
  | _ => false
/-- lists of expressions -/
def chkL (c : Cc) (es : List Expr) : E → Bool
  | .nil => match es with
    | [] => true
    | _ => false
  | .cons a b => match es with
    | x :: r => noStar x && chk c x a && chkL c r b
    | _ => false
  | _ => false
/-- what stands behind the first part of and, or -/
def chkB (c : Cc) (op : BoolOp) (es : List Expr) : E → Bool
  | .one a => match es with
    | [x] => chk c x a
    | _ => false
  | .and a b => match es with
    | x :: y :: r => decide (op = .And) && chk c x a && chkB c .And (y :: r) b
    | _ => false
  | .or a b => match es with
    | x :: y :: r => decide (op = .Or) && chk c x a && chkB c .Or (y :: r) b
    | _ => false
  | _ => false
end
end Dy

set_option maxHeartbeats 1000000
/-! Dp, part W: tables of the module, stars in displays and targets, by the hand layer's judgements. -/
namespace Dy
open PySem PySem.Spec PyProof.Rows L2
/-- the entries of a written dict -/
def KRel (K : Frag) : List DictEntry → List (Text × Val) → Prop
  | [], [] => True
  | e :: es, p :: kvs => (∃ t, e.key = .str (SX.S p.1) t) ∧ (∃ xv, RelV xv e.val ∧ ∀ W H, RV K W H p.2 xv) ∧ KRel K es kvs
  | _, _ => False
/-- a written dict and what it holds -/
def KdAt (K : Frag) (w : World) (a : Addr) (kvs : List (Text × Val)) : Prop := ∃ es n, KDict K w a es n ∧ KRel K es.toList kvs
theorem krel_find {K : Frag} (t : Text) : ∀ {es : List DictEntry} {kvs : List (Text × Val)}, KRel K es kvs → (match kvs.lookup t with
    | none => es.find? (·.key.isStr (SX.S t)) = none
    | some v => ∃ e, es.find? (·.key.isStr (SX.S t)) = some e ∧ ∃ xv, RelV xv e.val ∧ ∀ W H, RV K W H v xv) ∧ es.any (·.refKey) = false
  | [], [], _ => ⟨rfl, rfl⟩
  | e :: es, (s, v) :: kvs, ⟨⟨tk, hk⟩, hv, hr⟩ => by
    obtain ⟨h1, h2⟩ := krel_find t hr
    have eb : e.key.isStr (SX.S t) = (s == t) := by
      rw [hk]
      show (SX.S s == SX.S t) = _
      exact SX.S_beq s t
    refine ⟨?_, by rw [List.any_cons, h2]; unfold DictEntry.refKey; rw [hk]; rfl⟩
    rw [List.find?_cons, eb]
    simp only [List.lookup]
    rw [show (t == s) = (s == t) from Bool.eq_iff_iff.mpr ⟨fun h => by simpa using (eq_of_beq h).symm, fun h => by simpa using (eq_of_beq h).symm⟩]
    cases hst : (s == t) with
    | true => exact ⟨e, rfl, hv⟩
    | false => exact h1
  | [], _ :: _, h => h.elim
  | _ :: _, [], h => h.elim
/-- what is found at a key -/
theorem kd_ns {K : Frag} {w : World} {a : Addr} {kvs : List (Text × Val)} {es : Array DictEntry} {n : Nat} (D : KDict K w a es n) (R : KRel K es.toList kvs) (t : Text) : ∃ r, PySem.W.nsIn K a (SX.S t) = some r ∧ (match kvs.lookup t with
    | none => r = none
    | some v => ∃ u xv, r = some u ∧ RelV xv u ∧ ∀ W H, RV K W H v xv) := by
  obtain ⟨h1, h2⟩ := krel_find t R
  unfold PySem.W.nsIn
  rw [D.at_]
  dsimp only
  cases hl : kvs.lookup t with
  | none =>
    rw [hl] at h1
    rw [h1, h2]
    exact ⟨none, rfl, rfl⟩
  | some v =>
    rw [hl] at h1
    obtain ⟨e, he, xv, rv, q⟩ := h1
    rw [he]
    exact ⟨some e.val, rfl, _, xv, rfl, rv, q⟩
section
variable {X : Cx} {a : Addr} {es : Array DictEntry} {n : Nat} {o e f : Expr} {ty tx : TE} {apos cpos : Pos}
/-- T.get(k, x) of a written dict -/
theorem pe_kget2 (D : KDict X.K X.w a es n) (ho : PE X o (tC (.ref a))) (he : PE X e ty) (hf : PE X f tx) (m : M2 X o "get" apos e f cpos) :
    PE X (.Call (.Attribute o "get" apos) [e, f] [] cpos) (fun σ H Q => ty σ H fun y H2 => tx σ H2 fun z H3 => ∃ t r, y = .str t ∧ PySem.W.nsIn X.K a t = some r ∧ (r = none → Q z H3) ∧ ∀ u, r = some u → ∃ v, RelV v u ∧ Q v H3) := by
  constructor
  intro pins s σ H Q I h
  refine wpAny_Call_method m.base m.few m.line PySem.F.plainAttrs_dict PySem.F.slot_dict_get PySem.F.type_dict_get (thn (ho.run pins s σ H (fun x H1 => x = .ref a ∧ H1 = H) I ⟨rfl, rfl⟩) ?_)
  rintro u s1 ⟨x, H1, I1, rx, rfl, rfl⟩
  obtain rfl : u = Value.ref a := rx
  refine ⟨kd_type D I1, fun b q => ?_, ?_⟩
  · cases q
    exact ⟨_, I1.kIn _ _ D.at_, rfl⟩
  rw [m.trees]
  refine Calls.callWith_builtin rfl (Calls.evalArgs_plain (Calls.spliced_cons (thn (he.run pins s1 σ H1 _ I1 h) ?_)))
  rintro iv s2 ⟨y, H2, I2, ry, q2⟩
  refine Calls.spliced_cons (thn (hf.run pins s2 σ H2 _ I2 q2) ?_)
  rintro fv s3 ⟨z, H3, I3, rz, t, r, rfl, ns, q3, q4⟩
  refine Calls.spliced_nil ?_
  obtain ⟨tk, rfl⟩ := ry
  refine call_meetsIn PySem.F.slot_dict_get (kd_type D I3) PySem.F.entry_dict_get (PySem.F.args_dict_get_3 _ _ _) (meets_dict_get_default (strKind X.prog X.w) a (strKind_is X.prog X.w t tk) D.low fv) ⟨_, PySem.W.mapOf_K (prog := X.prog) I3.kIn D.at_ D.lit, ?_⟩
  rw [PySem.W.find_K D.at_ ns]
  cases r with
  | none => exact ⟨z, H3, I3.tok _, rz, q3 rfl⟩
  | some u =>
    obtain ⟨v, rv, q⟩ := q4 u rfl
    exact ⟨v, H3, I3.tok _, rv, q⟩
theorem pe_kget1 (D : KDict X.K X.w a es n) (ho : PE X o (tC (.ref a))) (he : PE X e ty) (m : M1 X o "get" apos e cpos) :
    PE X (.Call (.Attribute o "get" apos) [e] [] cpos) (fun σ H Q => ty σ H fun y H2 => ∃ t r, y = .str t ∧ PySem.W.nsIn X.K a t = some r ∧ (r = none → Q .non H2) ∧ ∀ u, r = some u → ∃ v, RelV v u ∧ Q v H2) := by
  constructor
  intro pins s σ H Q I h
  refine wpAny_Call_method m.base m.few m.line PySem.F.plainAttrs_dict PySem.F.slot_dict_get PySem.F.type_dict_get (thn (ho.run pins s σ H (fun x H1 => x = .ref a ∧ H1 = H) I ⟨rfl, rfl⟩) ?_)
  rintro u s1 ⟨x, H1, I1, rx, rfl, rfl⟩
  obtain rfl : u = Value.ref a := rx
  refine ⟨kd_type D I1, fun b q => ?_, ?_⟩
  · cases q
    exact ⟨_, I1.kIn _ _ D.at_, rfl⟩
  rw [m.trees]
  refine Calls.callWith_builtin rfl (Calls.evalArgs_plain (Calls.spliced_cons (thn (he.run pins s1 σ H1 _ I1 h) ?_)))
  rintro iv s2 ⟨y, H2, I2, ry, t, r, rfl, ns, q3, q4⟩
  refine Calls.spliced_nil ?_
  obtain ⟨tk, rfl⟩ := ry
  refine call_meetsIn PySem.F.slot_dict_get (kd_type D I2) PySem.F.entry_dict_get (PySem.F.args_dict_get_2 _ _) (meets_dict_get (strKind X.prog X.w) a (strKind_is X.prog X.w t tk) D.low) ⟨_, PySem.W.mapOf_K (prog := X.prog) I2.kIn D.at_ D.lit, ?_⟩
  rw [PySem.W.find_K D.at_ ns]
  cases r with
  | none => exact ⟨.non, H2, I2.tok _, rfl, q3 rfl⟩
  | some u =>
    obtain ⟨v, rv, q⟩ := q4 u rfl
    exact ⟨v, H2, I2.tok _, rv, q⟩
end
/-! ### a, b, *c = .. -/
section
variable {X : Cx}
def gStar (K : Frag) (i : Nat) (t : TGs) : TG := fun v σ H Q => ∃ (k : Bool) (a : Addr) (xs : List V), v = .ref a ∧ DyZ.SqG k K H a xs ∧ i ≤ xs.length ∧ ∀ p, H p = none → t (xs.take i ++ [.ref p]) σ (upd H p (.lst (xs.drop i))) Q
theorem vals_take {xs : List V} {us : List Value} (r : Vals xs us) : ∀ n, Vals (xs.take n) (us.take n) := by
  induction r with
  | nil => intro n; simp; exact .nil
  | cons a b ih =>
    intro n
    cases n with
    | zero => exact .nil
    | succ n => exact .cons a (ih n)
theorem vals_drop {xs : List V} {us : List Value} (r : Vals xs us) : ∀ n, Vals (xs.drop n) (us.drop n) := by
  induction r with
  | nil => intro n; simp; exact .nil
  | cons a b ih =>
    intro n
    cases n with
    | zero => exact .cons a b
    | succ n => exact ih n
theorem pg_star {es : List Expr} {kk i : Nat} {t : TGs} {pos : Pos} (hc : X.calm = true) (h : PGs X es t) (hn : (assignEach es X.env).length = i + 1) (hst : (assignEach es X.env).findIdx? (·.1) = some i) : PG X (.Tuple es kk pos) (gStar X.K i t) := by
  constructor
  rintro pins s σ H v u Q I r ⟨k, a, xs, rfl, sq, hi, q⟩
  obtain rfl : u = Value.ref a := r
  obtain ⟨its, rv, m, lt⟩ := DyZ.sqG_at I sq
  have hz : its.length ≤ sizeLine := by
    cases k
    · obtain ⟨its', rv', _, hz⟩ := I.list sq
      have := rv.length; have := rv'.length
      omega
    · obtain ⟨its', rv', _, hz⟩ := I.tuple sq
      have := rv.length; have := rv'.length
      omega
  have hl := rv.length
  rw [assign_Tuple]
  refine wpAny_bind (wpAny_standAt ?_)
  unfold unpack
  rw [hn, hst]
  refine wpAny_bind (wpAny_holding (DyZ.star_unpack (I.ok.hd hc) m lt (by simp; omega) (by simpa using hz) fun h1 tk kp => ?_))
  have I1 : Inv X pins σ H { s with heap := h1, toks := tk } := I.kept kp
  have hf : H h1.objs.size = none := I1.hok.fresh (Nat.le_refl _)
  have rd := vals_drop rv i
  have I2 : Inv X pins σ (upd H h1.objs.size (.lst (xs.drop i))) { s with heap := h1.push { cls := .type "list", data := .seq (its.drop i).toArray }, toks := tk } :=
    I1.laid (t' := tk) (fun b u e => Heap.get?_push_of_some _ e) (Nat.le_refl _) ⟨by have := rd.length; simp at this ⊢; omega, its.drop i, 0, rd, Heap.get?_push_size _ rfl⟩
  exact h.run pins _ σ _ _ _ Q I2 ((vals_take rv i).append (.cons (show L2.RelV (V.ref h1.objs.size) (Value.ref h1.objs.size) from rfl) .nil)) (q _ hf)
theorem pgs_last {x : Str} {p p2 : Pos} {t : TG} (h : PG X (.Name x p) t) : PGs X [.Starred (.Name x p) p2] (gCons t gNil) :=
  ⟨fun pins s σ H vs us Q I r hq => (pgs_cons h pgs_nil).run pins s σ H vs us Q I r hq⟩
end
end Dy

/-! Dp, part G: an expression that was checked does what its weakest precondition says. -/
namespace Dy
open PySem PySem.Spec L2
structure Good (F : Nat → FS) (cl : Cls) (c : Cc) (X : Cx) : Prop where
  hN : X.N = c.N
  nd : c.N.Nodup
  kind : X.env.scope.kind = .function
  names : X.env.scope.names = c.names
  top : c.top = true → ∀ x, X.fn x = true
  calm : X.calm = true
  guards : X.A.guards = some []
  room : Room 1 X.A
  gl : ∀ x v, c.gl.lookup x = some v → ∃ u xv, X.mg x = some u ∧ RelV xv u ∧ ∀ W H, RV X.K W H v xv
  bl : ∀ x, c.bl.contains x = true → X.mg x = none
  fns : ∀ x f, c.fns.lookup x = some f → ∃ (a : Addr) (fd : FuncData) (ps : List Str) (k : Nat), X.mg x = some (.ref a) ∧ PySem.W.keepIn X.K (.ref a) = true ∧ Binds X.K fd ps [] ∧
    FnG X.prog X.w X.K X.mg X.base k a fd ps (spG X.K cl ps.length (F f)) ∧ Room k X.A ∧ ∀ vs m Q R, F f vs m Q R → vs.length = ps.length
  kd : ∀ x kvs, c.kd.lookup x = some kvs → ∃ a, X.mg x = some (.ref a) ∧ KdAt X.K X.w a kvs
section
variable {F : Nat → FS} {cl : Cls} {c : Cc} {X : Cx} {Wx : WX}
theorem Good.gl_of (G : Good F cl c X) {x : Str} (h : isGl c x = true) : Gl X x ∧ (x == ("__debug__" : Str)) = false := by
  unfold isGl at h
  simp only [Bool.and_eq_true, decide_eq_true_eq, Bool.not_eq_true'] at h
  refine ⟨?_, h.2⟩
  show X.env.scope.names.lookup x = some .globalImplicit
  rw [G.names]; exact h.1
theorem Good.vis (G : Good F cl c X) {x : Str} (h : isVis c x = true) : Vis X.env.scope x := by
  unfold isVis at h
  simp only [Bool.or_eq_true, decide_eq_true_eq] at h
  unfold Vis
  rw [G.names]
  rcases h with (h | h) | h
  · exact .inl h
  · exact .inr (.inl h)
  · exact .inr (.inr h)
theorem Good.blk (G : Good F cl c X) (scope : Scope) (hk : scope.kind = .function) (s : Shared) (H : Hp) (C : Addr) (cls : List (Str × Addr)) (fp : List Addr) : Good F cl (c.blk scope) (X.blk s H scope (compEnvC scope cls C X.env) fp) := by
  refine ⟨G.hN, G.nd, hk, ?_, (fun z => Bool.noConfusion z), G.calm, G.guards, G.room, G.gl, G.bl, G.fns, G.kd⟩
  show (scope.names.map fun (n, k) => if (k == .free && X.env.scope.kind == .function && X.env.kindOf n == some .cell) then (n, .cell) else (n, k)) = blkNames c scope
  unfold blkNames
  have e : ∀ n : Str, X.env.kindOf n = c.names.lookup n := fun n => by show X.env.scope.names.lookup n = _; rw [G.names]
  congr 1
  funext ⟨n, k⟩
  simp [e, G.kind]
theorem takes_blk {s : Shared} {H : Hp} {scope : Scope} {cenv : PySem.Env} {fp : List Addr} : Takes (X.blk s H scope cenv fp) (fun _ _ _ _ => False) := by
  rintro u s' ⟨_, _, _, _, _, _, _, _, _, _, _, _, _, _, _, _, z⟩
  exact z.elim
def plainT : Expr → Bool
  | .UnaryOp .Not _ _ => false
  | .BoolOp _ _ _ => false
  | .IfExp _ _ _ _ => false
  | .Compare _ _ _ _ => false
  | _ => true
theorem isTrue_plain {e : Expr} (h : plainT e = true) (env : PySem.Env) (whole : Sem Value) : isTrue e env whole = (do let v ← whole; standAt e.pos; holding [v] (truthy v)) := by
  cases e <;> first | rfl | cases h | skip
  rename_i op x p
  cases op <;> first | rfl | cases h
/-- no test of its own -/
def plainE : E → Bool
  | .one _ => false
  | .and _ _ => false
  | .or _ _ => false
  | .not _ => false
  | .ite _ _ _ => false
  | _ => true
theorem wpT_plain {a : E} (h : plainE a = true) : wpT F a = fun r m Q R => wpE F a r m (fun v m1 => ∃ t, tru m1 v = some t ∧ Q t m1) R := by
  cases a <;> first | rfl | cases h
theorem pt_of {e : Expr} {a : E} (ha : plainE a = true) (h : PE X e (TEof X.K cl Wx (wpE F a))) (hp : plainT e = true) : PT X e (TTof X.K cl Wx (wpT F a)) := by
  refine pt_imp (pt_truth h (isTrue_plain hp X.env)) ?_
  rw [wpT_plain ha]
  rintro σ H Q ⟨W, r, m, Qd, R, hs, hr, hw, hc, hx⟩
  refine TEof.bind hs hr hw hx ?_
  rintro W1 v x m1 H1 e rv hr1 hs1 hx1 ⟨t, ht, q⟩
  exact ⟨t, tru_at rv hr1 ht, hc W1 t m1 H1 e hr1 q⟩
/-- arguments -/
theorem pa_nilE : PA X [] (TAof X.K cl Wx (wpA F .nil)) := by
  refine pa_imp pa_nil ?_
  rintro σ H Q ⟨W, r, m, Qd, R, hs, hr, ⟨vs, e, q⟩, hc, hx⟩
  cases e
  exact hc W _ _ m H (.refl hr) .nil hr q
theorem star_of {e : Expr} {es : List Expr} {env : PySem.Env} (h : noStar e = true) : starEach (e :: es) env = (false, eval e env) :: starEach es env := by
  cases e <;> first | rfl | cases h
theorem pa_consE {e : Expr} {es : List Expr} {a b : E} (hn : noStar e = true) (ha : PE X e (TEof X.K cl Wx (wpE F a))) (hb : PA X es (TAof X.K cl Wx (wpA F b))) : PA X (e :: es) (TAof X.K cl Wx (wpA F (.cons a b))) := by
  refine pa_imp (pa_cons ha hb (star_of hn)) ?_
  rintro σ H Q ⟨W, r, m, Qd, R, hs, hr, hw, hc, hx⟩
  refine TEof.bind hs hr hw hx ?_
  rintro W1 v x m1 H1 e1 rv hr1 hs1 hx1 hw1
  refine TAof.bind (Qd := fun vs m2 => ∃ vs', Val.tup (v :: vs) = .tup vs' ∧ Qd vs' m2) hs1 hr1 hw1 hx1 ?_
  rintro W2 vs xs m2 H2 e2 rvs hr2 hs2 hx2 ⟨vs', ev, q⟩
  cases ev
  exact hc W2 _ _ m2 H2 (e1.trans e2) (.cons (rv.mono hr1 e2) rvs) hr2 q
/-- *a among the parts of a display -/
theorem pa_sconsE {e : Expr} {es : List Expr} {p : Pos} {a b : E} (ha : PE X e (TEof X.K cl Wx (wpE F a))) (hb : PA X es (TAof X.K cl Wx (wpA F b))) : PA X (.Starred e p :: es) (TAof X.K cl Wx (wpA F (.scons a b))) := by
  refine pa_imp (StX.pa_star ha hb) ?_
  rintro σ H Q ⟨W, r, m, Qd, R, hs, hr, hw, hc, hx⟩
  refine TEof.bind hs hr hw hx ?_
  rintro W1 v x m1 H1 e1 rv hr1 hs1 hx1 ⟨us, hu, hw1⟩
  obtain ⟨a, xs, rfl, sl, r1⟩ := sq_at hr1 rv hu
  refine ⟨a, xs, rfl, sl.symm, ?_⟩
  refine TAof.bind (Qd := fun vs m2 => ∃ vs', Val.tup (us ++ vs) = .tup vs' ∧ Qd vs' m2) hs1 hr1 hw1 hx1 ?_
  rintro W2 vs ys m2 H2 e2 rvs hr2 hs2 hx2 ⟨vs', ev, q⟩
  cases ev
  exact hc W2 _ _ m2 H2 (e1.trans e2) ((r1.mono hr1 e2).append rvs) hr2 q
theorem any_back (pos : Pos) (l : List (Bool × Sem Value)) : (backTo pos l).any (·.1) = l.any (·.1) := by
  unfold backTo
  induction l with
  | nil => rfl
  | cons a r ih => rw [List.map_cons, List.any_cons, List.any_cons, ih]
theorem chkL_any {env : PySem.Env} : ∀ {a : E} {es : List Expr}, chkL c es a = true → (starEach es env).any (·.1) = false
  | .cons a b, x :: r, h => by
    simp only [chkL, Bool.and_eq_true] at h
    rw [star_of h.1.1, List.any_cons, chkL_any h.2]
    rfl
  | .nil, [], _ => rfl
  | .nil, _ :: _, h => by simp [chkL] at h
  | .cons _ _, [], h => by simp [chkL] at h
  | .var _, _, h => by simp [chkL] at h
  | .cst _, _, h => by simp [chkL] at h
  | .tup _, _, h => by simp [chkL] at h
  | .lst _ _, _, h => by simp [chkL] at h
  | .bin _ _ _, _, h => by simp [chkL] at h
  | .neg _, _, h => by simp [chkL] at h
  | .cmp _ _ _, _, h => by simp [chkL] at h
  | .chain _ _ _ _ _, _, h => by simp [chkL] at h
  | .isN _ _, _, h => by simp [chkL] at h
  | .one _, _, h => by simp [chkL] at h
  | .and _ _, _, h => by simp [chkL] at h
  | .or _ _, _, h => by simp [chkL] at h
  | .not _, _, h => by simp [chkL] at h
  | .ite _ _ _, _, h => by simp [chkL] at h
  | .call _ _, _, h => by simp [chkL] at h
  | .bi _ _, _, h => by simp [chkL] at h
  | .isI _ _, _, h => by simp [chkL] at h
  | .meth _ _ _, _, h => by simp [chkL] at h
  | .idx _ _, _, h => by simp [chkL] at h
  | .sl _ _ _ _ _, _, h => by simp [chkL] at h
  | .lc _ _ _ _ _ _ _ _, _, h => by simp [chkL] at h
  | .scons _ _, _, h => by simp [chkL] at h
  | .kd _ _ _ _, _, h => by simp [chkL] at h
theorem chkL_head {a : E} {x : Expr} {es : List Expr} (h : chkL c (x :: es) a = true) : noStar x = true ∧ ∀ env, (starEach es env).any (·.1) = false := by
  cases a <;> simp only [chkL, Bool.and_eq_true] at h <;> first | exact ⟨h.1.1, fun env => chkL_any h.2⟩ | cases h
/-! ### the parts of the proof -/
abbrev PEs (F : Nat → FS) (cl : Cls) (X : Cx) (Wx : WX) (e : Expr) (a : E) : Prop := PE X e (TEof X.K cl Wx (wpE F a))
abbrev PTs' (F : Nat → FS) (cl : Cls) (X : Cx) (Wx : WX) (e : Expr) (a : E) : Prop := PT X e (TTof X.K cl Wx (wpT F a))
abbrev PAs (F : Nat → FS) (cl : Cls) (X : Cx) (Wx : WX) (es : List Expr) (a : E) : Prop := PA X es (TAof X.K cl Wx (wpA F a))
theorem s_var (G : Good F cl c X) {x : Str} {p : Pos} {i : Nat} (h1 : c.N[i]? = some x) (h2 : isVis c x = true) (h3 : plainName x = true) : PEs F cl X Wx (.Name x p) (.var i) := by
  unfold plainName at h3
  simp only [Bool.and_eq_true, Bool.not_eq_true'] at h3
  refine pe_imp (pe_var (i := i) (by rw [G.hN]; exact h1) (G.vis h2) h3.1 h3.2) ?_
  rintro σ H Q ⟨W, r, m, Qd, R, hs, hr, ⟨v, e, q⟩, hc, hx⟩
  obtain ⟨y, e1, rv⟩ := hs.get _ _ e
  exact ⟨y, e1, hc.here hr rv q⟩
theorem s_cst {e : Expr} {v : Val} {x : V} (h : PE X e (tC x)) (rv : ∀ W H, RV X.K W H v x) : PEs F cl X Wx e (.cst v) := by
  refine pe_imp h ?_
  rintro σ H Q ⟨W, r, m, Qd, R, hs, hr, q, hc, hx⟩
  exact hc.here hr (rv W H) q
theorem s_tup {xs : List Expr} {a : E} {k : Nat} {p : Pos} (h : PAs F cl X Wx xs a) : PEs F cl X Wx (.Tuple xs k p) (.tup a) := by
  refine pe_imp (pe_tup h) ?_
  rintro σ H Q ⟨W, r, m, Qd, R, hs, hr, hw, hc, hx⟩
  refine TAof.bind (Qd := fun vs m1 => vs.length ≤ sizeLine ∧ Qd (.tup vs) m1) hs hr hw hx ?_
  rintro W1 vs xs m1 H1 e1 rvs hr1 hs1 hx1 ⟨hl, q⟩
  refine ⟨by rw [← rvs.length]; exact hl, fun p hp => ?_⟩
  obtain ⟨e2, hr2, rv⟩ := new_tup hr1 hp rvs
  exact hc _ _ _ _ _ (e1.trans e2) rv hr2 q
theorem newL_ok {K : Frag} {W W1 : Wd} {H H1 : Hp} {m : Store} {mu : Bool} {vs : List Val} {xs : List V} {Qd : Val → Store → Prop} {Q : VK} (hr : HR K W1 m H1) (e1 : Ext W H W1 H1) (rvs : RVs K W1 H1 vs xs) (q : newL mu vs m Qd) (hc : Cont K W H Qd Q) {p : Addr} (hp : H1 p = none) : Q (.ref p) (upd H1 p (.lst xs)) := by
  unfold newL at q
  split at q
  · obtain ⟨e2, hr2, rv⟩ := new_loc hr hp rvs
    exact hc _ _ _ _ _ (e1.trans e2) rv hr2 q
  · obtain ⟨e2, hr2, rv⟩ := new_il hr hp rvs
    exact hc _ _ _ _ _ (e1.trans e2) rv hr2 q
theorem s_lst {xs : List Expr} {a : E} {mu : Bool} {p : Pos} (h : PAs F cl X Wx xs a) : PEs F cl X Wx (.List xs p) (.lst mu a) := by
  refine pe_imp (pe_lst h) ?_
  rintro σ H Q ⟨W, r, m, Qd, R, hs, hr, hw, hc, hx⟩
  refine TAof.bind (Qd := fun vs m1 => vs.length ≤ sizeLine ∧ newL mu vs m1 Qd) hs hr hw hx ?_
  rintro W1 vs xs m1 H1 e1 rvs hr1 hs1 hx1 ⟨hl, q⟩
  exact ⟨by rw [← rvs.length]; exact hl, fun p hp => newL_ok hr1 e1 rvs q hc hp⟩
theorem Cont.mono {K : Frag} {W W1 : Wd} {H H1 : Hp} {Qd : Val → Store → Prop} {Q : VK} (k : Cont K W H Qd Q) (e : Ext W H W1 H1) : Cont K W1 H1 Qd Q := fun W' v x m' H' e' rv hr q => k W' v x m' H' (e.trans e') rv hr q
theorem s_bin {l r : Expr} {a b : E} {o : BOp} {p : Pos} (ha : PEs F cl X Wx l a) (hb : PEs F cl X Wx r b) : PEs F cl X Wx (.BinOp l o.op r p) (.bin o a b) := by
  refine pe_imp (pe_op (op_bin o) ha hb) ?_
  rintro σ H Q ⟨W, r, m, Qd, R, hs, hr, hw, hc, hx⟩
  refine TEof.bind hs hr hw hx ?_
  rintro W1 v x m1 H1 e1 rv hr1 hs1 hx1 hw1
  refine TEof.bind hs1 hr1 hw1 hx1 ?_
  rintro W2 u y m2 H2 e2 ru hr2 hs2 hx2 q
  exact bin_ok (rv.mono hr1 e2) ru hr2 q (hc.mono (e1.trans e2))
theorem s_neg {l : Expr} {a : E} {p : Pos} (ha : PEs F cl X Wx l a) : PEs F cl X Wx (.UnaryOp .USub l p) (.neg a) := by
  refine pe_imp (pe_un un_neg ha) ?_
  rintro σ H Q ⟨W, r, m, Qd, R, hs, hr, hw, hc, hx⟩
  refine TEof.bind hs hr hw hx ?_
  rintro W1 v x m1 H1 e1 rv hr1 hs1 hx1 ⟨i, rfl, q⟩
  exact ⟨i, rv.int_inv, hc _ _ _ _ _ e1 (.int _) hr1 q⟩
theorem mark_of {op : CmpOp} {r : Expr} (h : notSet r = true) : behindInMarks op r = false := by
  cases r <;> first | rfl | cases h
theorem cmp_bind {l r : Expr} {a b : E} {o : COp} {σ : St} {H : Hp} {Q : VK} (h : TEof X.K cl Wx (wpE F (.cmp o a b)) σ H Q) : tOp (rCmp X.K o) (TEof X.K cl Wx (wpE F a)) (TEof X.K cl Wx (wpE F b)) σ H Q := by
  obtain ⟨W, r, m, Qd, R, hs, hr, hw, hc, hx⟩ := h
  refine TEof.bind hs hr hw hx ?_
  rintro W1 v x m1 H1 e1 rv hr1 hs1 hx1 hw1
  refine TEof.bind hs1 hr1 hw1 hx1 ?_
  rintro W2 u y m2 H2 e2 ru hr2 hs2 hx2 q
  exact cmp_ok (rv.mono hr1 e2) ru hr2 q fun t q => hc _ _ _ _ _ (e1.trans e2) (.bool t) hr2 q
theorem Good.units (G : Good F cl c X) : X.A.units + 65 < cLine := by
  have := G.room.un
  omega
theorem s_cmp (G : Good F cl c X) {l r : Expr} {a b : E} {o : COp} {p : Pos} (hn : notSet r = true) (ha : PEs F cl X Wx l a) (hb : PEs F cl X Wx r b) : PEs F cl X Wx (.Compare l [o.op] [r] p) (.cmp o a b) := by
  refine pe_imp (pe_cmpR (op_cmp G.units o) ha hb (mark_of hn)) ?_
  intro σ H Q h
  exact cmp_bind (l := l) (r := r) h
theorem t_cmp (G : Good F cl c X) {l r : Expr} {a b : E} {o : COp} {p : Pos} (hn : notSet r = true) (ha : PEs F cl X Wx l a) (hb : PEs F cl X Wx r b) : PTs' F cl X Wx (.Compare l [o.op] [r] p) (.cmp o a b) := by
  refine pt_imp (pt_cmpR (op_cmp G.units o) ha hb (mark_of hn)) ?_
  rintro σ H Q ⟨W, r', m, Qd, R, hs, hr, hw, hc, hx⟩
  refine TEof.bind hs hr hw hx ?_
  rintro W1 v x m1 H1 e1 rv hr1 hs1 hx1 hw1
  refine TEof.bind hs1 hr1 hw1 hx1 ?_
  rintro W2 u y m2 H2 e2 ru hr2 hs2 hx2 q
  refine cmp_ok (rv.mono hr1 e2) ru hr2 q ?_
  rintro t ⟨t', ht, q⟩
  cases ht
  exact ⟨t, rfl, hc _ _ _ _ (e1.trans e2) hr2 q⟩
theorem s_chain (G : Good F cl c X) {l r z : Expr} {a b d : E} {o1 o2 : COp} {p : Pos} (hn : notSet z = true) (ha : PEs F cl X Wx l a) (hb : PEs F cl X Wx r b) (hd : PEs F cl X Wx z d) : PEs F cl X Wx (.Compare l [o1.op, o2.op] [r, z] p) (.chain o1 o2 a b d) := by
  refine pe_imp (pe_chain (op_cmp G.units o1) (op_cmp G.units o2) ha hb hd (mark_of hn)) ?_
  rintro σ H Q ⟨W, r', m, Qd, R, hs, hr, hw, hc, hx⟩
  refine TEof.bind hs hr hw hx ?_
  rintro W1 v x m1 H1 e1 rv hr1 hs1 hx1 hw1
  refine TEof.bind hs1 hr1 hw1 hx1 ?_
  rintro W2 u y m2 H2 e2 ru hr2 hs2 hx2 q
  refine cmp_ok (rv.mono hr1 e2) ru hr2 q ?_
  intro t q
  refine ⟨t, rfl, ?_⟩
  cases t with
  | false => exact hc _ _ _ _ _ (e1.trans e2) (.bool false) hr2 (by simpa using q)
  | true =>
    have q' := q
    rw [if_pos rfl] at q'
    refine TEof.bind hs2 hr2 q' hx2 ?_
    rintro W3 w' y' m3 H3 e3 rw' hr3 hs3 hx3 q
    exact cmp_ok (ru.mono hr2 e3) rw' hr3 q fun t q => hc _ _ _ _ _ ((e1.trans e2).trans e3) (.bool t) hr3 q
theorem t_chain (G : Good F cl c X) {l r z : Expr} {a b d : E} {o1 o2 : COp} {p : Pos} (hn : notSet z = true) (ha : PEs F cl X Wx l a) (hb : PEs F cl X Wx r b) (hd : PEs F cl X Wx z d) : PTs' F cl X Wx (.Compare l [o1.op, o2.op] [r, z] p) (.chain o1 o2 a b d) := by
  refine pt_imp (pt_chain (op_cmp G.units o1) (op_cmp G.units o2) ha hb hd (mark_of hn)) ?_
  rintro σ H Q ⟨W, r', m, Qd, R, hs, hr, hw, hc, hx⟩
  refine TEof.bind hs hr hw hx ?_
  rintro W1 v x m1 H1 e1 rv hr1 hs1 hx1 hw1
  refine TEof.bind hs1 hr1 hw1 hx1 ?_
  rintro W2 u y m2 H2 e2 ru hr2 hs2 hx2 q
  refine cmp_ok (rv.mono hr1 e2) ru hr2 q ?_
  intro t q
  refine ⟨t, rfl, ?_⟩
  cases t with
  | false =>
    obtain ⟨t', ht, q⟩ : ∃ t', tru m2 (.bool false) = some t' ∧ Qd t' m2 := by simpa using q
    cases ht
    exact ⟨false, rfl, hc _ _ _ _ (e1.trans e2) hr2 q⟩
  | true =>
    have q' := q
    rw [if_pos rfl] at q'
    refine TEof.bind hs2 hr2 q' hx2 ?_
    rintro W3 w' y' m3 H3 e3 rw' hr3 hs3 hx3 q
    refine cmp_ok (ru.mono hr2 e3) rw' hr3 q ?_
    rintro t ⟨t', ht, q⟩
    cases ht
    exact ⟨t, rfl, hc _ _ _ _ ((e1.trans e2).trans e3) hr3 q⟩
theorem isNon_of {K : Frag} {W : Wd} {H : Hp} {v : Val} {x : V} (r : RV K W H v x) : decide (x = .non) = isNon v := by
  cases r <;> simp [isNon]
theorem s_isN {l : Expr} {a : E} {neg : Bool} {p : Pos} {j p'} (ha : PEs F cl X Wx l a) : PEs F cl X Wx (.Compare l [if neg then .IsNot else .Is] [.Constant .none j p'] p) (.isN neg a) := by
  cases neg with
  | false =>
    refine pe_imp (pe_cmp (pc_isN ha) rfl) ?_
    rintro σ H Q ⟨W, r', m, Qd, R, hs, hr, hw, hc, hx⟩
    refine TEof.bind hs hr hw hx ?_
    rintro W1 v x m1 H1 e1 rv hr1 hs1 hx1 q
    rw [isNon_of rv]
    exact hc _ _ _ _ _ e1 (.bool _) hr1 (by simpa using q)
  | true =>
    refine pe_imp (pe_cmp (pc_notN ha) rfl) ?_
    rintro σ H Q ⟨W, r', m, Qd, R, hs, hr, hw, hc, hx⟩
    refine TEof.bind hs hr hw hx ?_
    rintro W1 v x m1 H1 e1 rv hr1 hs1 hx1 q
    rw [isNon_of rv]
    exact hc _ _ _ _ _ e1 (.bool _) hr1 (by simpa using q)
theorem t_isN {l : Expr} {a : E} {neg : Bool} {p : Pos} {j p'} (ha : PEs F cl X Wx l a) : PTs' F cl X Wx (.Compare l [if neg then .IsNot else .Is] [.Constant .none j p'] p) (.isN neg a) := by
  cases neg with
  | false =>
    refine pt_imp (pt_cmp (pc_isN ha) rfl) ?_
    rintro σ H Q ⟨W, r', m, Qd, R, hs, hr, hw, hc, hx⟩
    refine TEof.bind hs hr hw hx ?_
    rintro W1 v x m1 H1 e1 rv hr1 hs1 hx1 ⟨t, ht, q⟩
    cases ht
    rw [isNon_of rv]
    exact ⟨_, rfl, hc _ _ _ _ e1 hr1 (by simpa using q)⟩
  | true =>
    refine pt_imp (pt_cmp (pc_notN ha) rfl) ?_
    rintro σ H Q ⟨W, r', m, Qd, R, hs, hr, hw, hc, hx⟩
    refine TEof.bind hs hr hw hx ?_
    rintro W1 v x m1 H1 e1 rv hr1 hs1 hx1 ⟨t, ht, q⟩
    cases ht
    rw [isNon_of rv]
    exact ⟨_, rfl, hc _ _ _ _ e1 hr1 (by simpa using q)⟩
/-! ### and, or, not, if -/
theorem s_and {x y : Expr} {r : List Expr} {a b : E} {p : Pos} (ha : PEs F cl X Wx x a) (hb : PEs F cl X Wx (.BoolOp .And (y :: r) p) b) : PEs F cl X Wx (.BoolOp .And (x :: y :: r) p) (.and a b) := by
  refine pe_imp (pe_andT ha hb) ?_
  rintro σ H Q ⟨W, r', m, Qd, R, hs, hr, hw, hc, hx⟩
  refine TEof.bind hs hr hw hx ?_
  rintro W1 v x m1 H1 e1 rv hr1 hs1 hx1 ⟨t, ht, q⟩
  refine ⟨t, tru_at rv hr1 ht, ?_⟩
  cases t with
  | false => exact hc _ _ _ _ _ e1 rv hr1 (by simpa using q)
  | true =>
    have q' := q
    rw [if_pos rfl] at q'
    exact TEof.bind hs1 hr1 q' hx1 fun W2 u y m2 H2 e2 ru hr2 hs2 hx2 q => hc _ _ _ _ _ (e1.trans e2) ru hr2 q
theorem s_or {x y : Expr} {r : List Expr} {a b : E} {p : Pos} (ha : PEs F cl X Wx x a) (hb : PEs F cl X Wx (.BoolOp .Or (y :: r) p) b) : PEs F cl X Wx (.BoolOp .Or (x :: y :: r) p) (.or a b) := by
  refine pe_imp (pe_orT ha hb) ?_
  rintro σ H Q ⟨W, r', m, Qd, R, hs, hr, hw, hc, hx⟩
  refine TEof.bind hs hr hw hx ?_
  rintro W1 v x m1 H1 e1 rv hr1 hs1 hx1 ⟨t, ht, q⟩
  refine ⟨t, tru_at rv hr1 ht, ?_⟩
  cases t with
  | true => exact hc _ _ _ _ _ e1 rv hr1 (by simpa using q)
  | false =>
    have q' := q
    rw [if_neg Bool.false_ne_true] at q'
    exact TEof.bind hs1 hr1 q' hx1 fun W2 u y m2 H2 e2 ru hr2 hs2 hx2 q => hc _ _ _ _ _ (e1.trans e2) ru hr2 q
theorem s_one {x : Expr} {op : BoolOp} {a : E} {p : Pos} (ha : PEs F cl X Wx x a) : PEs F cl X Wx (.BoolOp op [x] p) (.one a) := pe_one ha
theorem s_not {x : Expr} {a : E} {p : Pos} (ha : PEs F cl X Wx x a) : PEs F cl X Wx (.UnaryOp .Not x p) (.not a) := by
  refine pe_imp (pe_notT ha) ?_
  rintro σ H Q ⟨W, r', m, Qd, R, hs, hr, hw, hc, hx⟩
  refine TEof.bind hs hr hw hx ?_
  rintro W1 v x m1 H1 e1 rv hr1 hs1 hx1 ⟨t, ht, q⟩
  exact ⟨t, tru_at rv hr1 ht, hc _ _ _ _ _ e1 (.bool _) hr1 q⟩
abbrev PWs (F : Nat → FS) (cl : Cls) (X : Cx) (Wx : WX) (e : Expr) (a : E) : Prop := PW X e (TTof X.K cl Wx (wpT F a))
theorem pw_imp {e : Expr} {t t' : TT} (h : PW X e t) (i : ∀ σ H Q, t' σ H Q → t σ H Q) : PW X e t' := ⟨fun wh pins s σ H Q I q => h.run wh pins s σ H Q I (i σ H Q q)⟩
theorem t_one {x : Expr} {op : BoolOp} {a : E} {p : Pos} (ha : PTs' F cl X Wx x a) : PWs F cl X Wx (.BoolOp op [x] p) (.one a) := by
  cases op
  · exact pw_and1 ha
  · exact pw_or1 ha
theorem t_and {x y : Expr} {r : List Expr} {a b : E} {p : Pos} (ha : PTs' F cl X Wx x a) (hb : PWs F cl X Wx (.BoolOp .And (y :: r) p) b) : PWs F cl X Wx (.BoolOp .And (x :: y :: r) p) (.and a b) := by
  refine pw_imp (pw_and ha hb) ?_
  rintro σ H Q ⟨W, r', m, Qd, R, hs, hr, hw, hc, hx⟩
  refine TTof.bind hs hr hw hx ?_
  rintro W1 t m1 H1 e1 hr1 hs1 hx1 q
  cases t with
  | false => rw [if_neg Bool.false_ne_true] at q ⊢; exact hc _ _ _ _ e1 hr1 q
  | true =>
    rw [if_pos rfl] at q ⊢
    exact TTof.bind hs1 hr1 q hx1 fun W2 t m2 H2 e2 hr2 hs2 hx2 q => hc _ _ _ _ (e1.trans e2) hr2 q
theorem t_or {x y : Expr} {r : List Expr} {a b : E} {p : Pos} (ha : PTs' F cl X Wx x a) (hb : PWs F cl X Wx (.BoolOp .Or (y :: r) p) b) : PWs F cl X Wx (.BoolOp .Or (x :: y :: r) p) (.or a b) := by
  refine pw_imp (pw_or ha hb) ?_
  rintro σ H Q ⟨W, r', m, Qd, R, hs, hr, hw, hc, hx⟩
  refine TTof.bind hs hr hw hx ?_
  rintro W1 t m1 H1 e1 hr1 hs1 hx1 q
  cases t with
  | true => rw [if_pos rfl] at q ⊢; exact hc _ _ _ _ e1 hr1 q
  | false =>
    rw [if_neg Bool.false_ne_true] at q ⊢
    exact TTof.bind hs1 hr1 q hx1 fun W2 t m2 H2 e2 hr2 hs2 hx2 q => hc _ _ _ _ (e1.trans e2) hr2 q
theorem t_not {x : Expr} {a : E} {p : Pos} (ha : PTs' F cl X Wx x a) : PTs' F cl X Wx (.UnaryOp .Not x p) (.not a) := by
  refine pt_imp (pt_not ha) ?_
  rintro σ H Q ⟨W, r', m, Qd, R, hs, hr, hw, hc, hx⟩
  exact TTof.bind hs hr hw hx fun W1 t m1 H1 e1 hr1 hs1 hx1 q => hc _ _ _ _ e1 hr1 q
theorem s_ite {z x y : Expr} {t a b : E} {p : Pos} (ht : PTs' F cl X Wx z t) (ha : PEs F cl X Wx x a) (hb : PEs F cl X Wx y b) : PEs F cl X Wx (.IfExp z x y p) (.ite t a b) := by
  refine pe_imp (pe_ifExp ht ha hb) ?_
  rintro σ H Q ⟨W, r', m, Qd, R, hs, hr, hw, hc, hx⟩
  refine TTof.bind hs hr hw hx ?_
  rintro W1 t m1 H1 e1 hr1 hs1 hx1 q
  cases t with
  | true =>
    rw [if_pos rfl] at q ⊢
    exact TEof.bind hs1 hr1 q hx1 fun W2 u y m2 H2 e2 ru hr2 hs2 hx2 q => hc _ _ _ _ _ (e1.trans e2) ru hr2 q
  | false =>
    rw [if_neg Bool.false_ne_true] at q ⊢
    exact TEof.bind hs1 hr1 q hx1 fun W2 u y m2 H2 e2 ru hr2 hs2 hx2 q => hc _ _ _ _ _ (e1.trans e2) ru hr2 q
theorem pt_ifE {z x y : Expr} {tz tx ty : TT} {p : Pos} (hz : PT X z tz) (hx : PT X x tx) (hy : PT X y ty) : PT X (.IfExp z x y p) (fun σ H Q => tz σ H fun c H1 => if c = true then tx σ H1 Q else ty σ H1 Q) := by
  constructor
  intro pins s σ H Q I h
  show wpAny _ _ (do if ← isTrue z X.env (eval z X.env) then isTrue x X.env (eval x X.env) else isTrue y X.env (eval y X.env)) _ _ _
  refine wpAny_bind (thn (hz.run pins s σ H _ I h) ?_)
  rintro b s1 ⟨H1, I1, q⟩
  cases b with
  | true => exact hx.run pins s1 σ H1 Q I1 (by simpa using q)
  | false => exact hy.run pins s1 σ H1 Q I1 (by simpa using q)
theorem t_ite {z x y : Expr} {t a b : E} {p : Pos} (ht : PTs' F cl X Wx z t) (ha : PTs' F cl X Wx x a) (hb : PTs' F cl X Wx y b) : PTs' F cl X Wx (.IfExp z x y p) (.ite t a b) := by
  refine pt_imp (pt_ifE ht ha hb) ?_
  rintro σ H Q ⟨W, r', m, Qd, R, hs, hr, hw, hc, hx⟩
  refine TTof.bind hs hr hw hx ?_
  rintro W1 t m1 H1 e1 hr1 hs1 hx1 q
  cases t with
  | true =>
    rw [if_pos rfl] at q ⊢
    exact TTof.bind hs1 hr1 q hx1 fun W2 u m2 H2 e2 hr2 hs2 hx2 q => hc _ _ _ _ (e1.trans e2) hr2 q
  | false =>
    rw [if_neg Bool.false_ne_true] at q ⊢
    exact TTof.bind hs1 hr1 q hx1 fun W2 u m2 H2 e2 hr2 hs2 hx2 q => hc _ _ _ _ (e1.trans e2) hr2 q
/-! ### calls -/
theorem s_call (G : Good F cl c X) (tk : Takes X Wx) {x : Str} {y : Expr} {ys : List Expr} {f : Nat} {args : E} {p p' : Pos} (h1 : isGl c x = true) (h2 : c.fns.lookup x = some f) (h3 : chkL c (y :: ys) args = true) (ha : PAs F cl X Wx (y :: ys) args) : PEs F cl X Wx (.Call (.Name x p) (y :: ys) [] p') (.call f args) := by
  obtain ⟨a, fd, ps, k, m1, m2, m3, m4, m5, m6⟩ := G.fns x f h2
  obtain ⟨g1, g2⟩ := G.gl_of h1
  obtain ⟨n1, n2⟩ := chkL_head h3
  refine pe_imp (pe_callG m4 m5 G.guards g1 m1 m2 m3 tk ha g2 (star_of n1) (by rw [any_back]; exact n2 _)) ?_
  rintro σ H Q ⟨W, r', m, Qd, R, hs, hr, hw, hc, hx⟩
  refine TAof.bind (Qd := fun vs m1 => F f vs m1 Qd R) hs hr hw hx ?_
  rintro W1 vs xs m1 H1 e1 rvs hr1 hs1 hx1 q
  exact ⟨W1, vs, m1, Qd, R, by rw [← rvs.length]; exact m6 _ _ _ _ q, rvs, hr1, q, hc.mono e1, fun W' k v x d m' H' e' rv hr' hd q => hx1 W' k v x d m' H' e' rv hr' hd q⟩
theorem s_bi (G : Good F cl c X) {x : Str} {y : Expr} {ys : List Expr} {b : Bi} {args : E} {p p' : Pos} (h1 : isGl c x = true) (hx : x = b.name) (h2 : c.bl.contains x = true) (h3 : chkL c (y :: ys) args = true) (ha : PAs F cl X Wx (y :: ys) args) : PEs F cl X Wx (.Call (.Name x p) (y :: ys) [] p') (.bi b args) := by
  obtain ⟨g1, g2⟩ := G.gl_of h1
  obtain ⟨n1, n2⟩ := chkL_head h3
  have hm := G.bl x h2
  have key : PE X (.Call (.Name x p) (y :: ys) [] p') (tCB (rBi X.K b) (TAof X.K cl Wx (wpA F args))) := by
    have hc := call_bi (X := X) G.calm G.guards (by have := G.units; omega) b
    have hpl : (backTo p' (starEach ys X.env)).any (·.1) = false := by rw [any_back]; exact n2 _
    subst hx
    cases b <;> first
      | exact pe_callB hc g1 hm (by decide +kernel) ha (by decide) (by decide) (star_of n1) hpl
      | exact pe_callTy hc g1 hm (by decide +kernel) ha (by decide) (by decide) (star_of n1) hpl
  refine pe_imp key ?_
  rintro σ H Q ⟨W, r', m, Qd, R, hs, hr, hw, hc, hx⟩
  refine TAof.bind (Qd := fun vs m1 => biW b vs m1 Qd) hs hr hw hx ?_
  rintro W1 vs xs m1 H1 e1 rvs hr1 hs1 hx1 q
  exact bi_ok rvs hr1 q (hc.mono e1)
theorem s_isI (G : Good F cl c X) {y : Expr} {t : Ty} {a : E} {p p1 p2 : Pos} (h1 : isGl c "isinstance" = true) (h2 : c.bl.contains "isinstance" = true) (h3 : isGl c (Str.ofString t.name) = true) (h4 : c.bl.contains (Str.ofString t.name) = true) (hn : noStar y = true) (ha : PEs F cl X Wx y a) :
    PEs F cl X Wx (.Call (.Name "isinstance" p) [y, .Name (Str.ofString t.name) p1] [] p2) (.isI t a) := by
  obtain ⟨g1, _⟩ := G.gl_of h1
  obtain ⟨g3, g4⟩ := G.gl_of h3
  have hT : PE X (.Name (Str.ofString t.name) p1) (tC (.ty t.name)) := by
    cases t <;> exact pe_bltn (v := .ty _) g3 (G.bl _ h4) (by decide +kernel) rfl (by decide) g4
  refine pe_imp (pe_callB call_isi g1 (G.bl _ h2) (by decide +kernel) (pa_cons ha (pa_cons hT pa_nil (by rfl)) (star_of hn)) (by decide) (by decide) (star_of hn) (by rfl)) ?_
  rintro σ H Q ⟨W, r', m, Qd, R, hs, hr, hw, hc, hx⟩
  refine TEof.bind hs hr hw hx ?_
  rintro W1 v x m1 H1 e1 rv hr1 hs1 hx1 q
  exact ⟨x, .ty t.name, _, _, _, rfl, .ty _, tyX_of hr1 rv, kit_isT t v, hc _ _ _ _ _ e1 (.bool _) hr1 q⟩
theorem base_of {y : Expr} {name : Str} {env : PySem.Env} (h : baseOk y = true) : attributeBase y name env (eval y env) = eval y env := by
  cases y <;> first | rfl | skip
  rename_i fn args kws p
  cases fn <;> first | rfl | skip
  cases args <;> first | rfl | skip
  cases kws <;> first | rfl | cases h
theorem few_of {env : PySem.Env} {p : Pos} {z : Expr} {zs : List Expr} (hl : (z :: zs).length < 20) (h : (starEach (z :: zs) env).any (·.1) = false) : ((backTo p (starEach (z :: zs) env)).all (fun x => !x.1) && (backToKw p (keywordEach [] env)).all (fun x => x.1.isSome) && decide ((z :: zs).length + ([] : List Keyword).length + (if ([] : List Keyword).isEmpty then 0 else 1) < 30)) = true := by
  have h1 : (backTo p (starEach (z :: zs) env)).all (fun x => !x.1) = true := by
    rw [← any_back p] at h
    rw [List.all_eq_not_any_not]
    simpa using h
  rw [h1]
  simp [keywordEach, backToKw]
  simp at hl
  omega
theorem s_meth (G : Good F cl c X) {y z : Expr} {zs : List Expr} {t : Mt} {o args : E} {ap p : Pos} (h1 : (ap.endLine == p.line) = true) (h2 : baseOk y = true) (h3 : (z :: zs).length < 20) (ho : PEs F cl X Wx y o) (h4 : chkL c (z :: zs) args = true) (ha : PAs F cl X Wx (z :: zs) args) :
    PEs F cl X Wx (.Call (.Attribute y t.name ap) (z :: zs) [] p) (.meth t o args) := by
  obtain ⟨n1, n2⟩ := chkL_head h4
  have hpl : (backTo p (starEach zs X.env)).any (·.1) = false := by rw [any_back]; exact n2 _
  have key : PE X (.Call (.Attribute y t.name ap) (z :: zs) [] p) (tBM X.K t.ty (rMt X.K t) (TEof X.K cl Wx (wpE F o)) (TAof X.K cl Wx (wpA F args))) := by
    have hm := mt_all (X := X) t
    cases t with
    | append => exact pe_bm PySem.F.plainAttrs_list PySem.F.slot_list_append PySem.F.type_list_append hm ho ha (base_of h2) (few_of h3 (chkL_any h4)) h1 (star_of n1) hpl
    | split => exact pe_bm PySem.F.plainAttrs_str PySem.F.slot_str_split PySem.F.type_str_split hm ho ha (base_of h2) (few_of h3 (chkL_any h4)) h1 (star_of n1) hpl
    | join => exact pe_bm PySem.F.plainAttrs_str PySem.F.slot_str_join PySem.F.type_str_join hm ho ha (base_of h2) (few_of h3 (chkL_any h4)) h1 (star_of n1) hpl
  refine pe_imp key ?_
  rintro σ H Q ⟨W, r', m, Qd, R, hs, hr, hw, hc, hx⟩
  refine TEof.bind hs hr hw hx ?_
  rintro W1 v x m1 H1 e1 rv hr1 hs1 hx1 ⟨ht, hw1⟩
  refine ⟨mtT_ok rv hr1 ht, ?_⟩
  refine TAof.bind (Qd := fun vs m2 => mtW t v vs m2 Qd) hs1 hr1 hw1 hx1 ?_
  rintro W2 vs xs m2 H2 e2 rvs hr2 hs2 hx2 q
  exact mt_ok (rv.mono hr1 e2) rvs hr2 q (hc.mono (e1.trans e2))
/-! ### tables of the module -/
theorem kd_bind {op : KOp} {kvs : List (Text × Val)} {k d : E} {σ : St} {H : Hp} {Q : VK} (h : TEof X.K cl Wx (wpE F (.kd op kvs k d)) σ H Q) (hd : d = .cst .non) :
    TEof X.K cl Wx (wpE F k) σ H fun y H1 => ∃ (W1 : Wd) (kv : Val) (m1 : Store) (Qd : Val → Store → Prop), RV X.K W1 H1 kv y ∧ HR X.K W1 m1 H1 ∧ kdW op kvs kv .non (fun v => Qd v m1) ∧ Cont X.K W1 H1 Qd Q := by
  obtain ⟨W, r, m, Qd, R, hs, hr, hw, hc, hx⟩ := h
  subst hd
  refine TEof.bind hs hr hw hx ?_
  rintro W1 v x m1 H1 e1 rv hr1 hs1 hx1 q
  exact ⟨W1, v, m1, Qd, rv, hr1, q, hc.mono e1⟩
theorem s_kget1 (G : Good F cl c X) {x : Str} {y : Expr} {kvs : List (Text × Val)} {k d : E} {xp ap p : Pos} (h1 : kdOk c x kvs = true) (h2 : (ap.endLine == p.line) = true) (hn : noStar y = true) (hd : d = .cst .non) (hk : PEs F cl X Wx y k) :
    PEs F cl X Wx (.Call (.Attribute (.Name x xp) "get" ap) [y] [] p) (.kd .get1 kvs k d) := by
  obtain ⟨g, l⟩ := kdOk_of h1
  obtain ⟨g1, g2⟩ := G.gl_of g
  obtain ⟨a, hm, es, n, D, KR⟩ := G.kd _ _ l
  have hs : starEach [y] X.env = [(false, eval y X.env)] := star_of hn
  refine pe_imp (pe_kget1 D (pe_glob g1 hm rfl g2) hk ⟨rfl, by rw [hs]; rfl, h2, by rw [hs]; rfl⟩) ?_
  intro σ H Q h
  obtain ⟨W, r, m, Qd, R, a1, a2, a3, a4, a5⟩ := kd_bind h hd
  refine ⟨W, r, m, Qd, R, a1, a2, a3, ?_, a5⟩
  intro W1 v x m1 H1 e1 rv hr1 q
  obtain ⟨W2, kv, m2, Q2, rv2, hr2, w2, c2⟩ := a4 W1 v x m1 H1 e1 rv hr1 q
  cases kv with
  | str t =>
    obtain ⟨r', ns, hr'⟩ := kd_ns D KR t
    refine ⟨_, r', rv2.str_inv, ns, fun z => ?_, fun u z => ?_⟩
    · have w3 : Q2 ((kvs.lookup t).getD .non) m2 := w2
      cases hl : kvs.lookup t with
      | none => rw [hl] at w3; exact c2.here hr2 .non w3
      | some v => rw [hl] at hr'; obtain ⟨u, xv, e, _⟩ := hr'; rw [z] at e; cases e
    · have w3 : Q2 ((kvs.lookup t).getD .non) m2 := w2
      cases hl : kvs.lookup t with
      | none => rw [hl] at hr'; rw [hr'] at z; cases z
      | some v => rw [hl] at hr' w3; obtain ⟨u', xv, e, rx, rall⟩ := hr'; rw [z] at e; cases e; exact ⟨xv, rx, c2.here hr2 (rall _ _) w3⟩
  | _ => exact w2.elim
theorem s_kget2 (G : Good F cl c X) {x : Str} {y z : Expr} {kvs : List (Text × Val)} {k d : E} {xp ap p : Pos} (h1 : kdOk c x kvs = true) (h2 : (ap.endLine == p.line) = true) (hn : noStar y = true) (hn2 : noStar z = true) (hk : PEs F cl X Wx y k) (hd : PEs F cl X Wx z d) :
    PEs F cl X Wx (.Call (.Attribute (.Name x xp) "get" ap) [y, z] [] p) (.kd .get2 kvs k d) := by
  obtain ⟨g, l⟩ := kdOk_of h1
  obtain ⟨g1, g2⟩ := G.gl_of g
  obtain ⟨a, hm, es, n, D, KR⟩ := G.kd _ _ l
  have hs : starEach [y, z] X.env = [(false, eval y X.env), (false, eval z X.env)] := by rw [star_of hn, star_of hn2]; rfl
  refine pe_imp (pe_kget2 D (pe_glob g1 hm rfl g2) hk hd ⟨rfl, by rw [hs]; rfl, h2, by rw [hs]; rfl⟩) ?_
  rintro σ H Q ⟨W, r, m, Qd, R, hs, hr, hw, hc, hx⟩
  refine TEof.bind hs hr hw hx ?_
  rintro W1 kv x m1 H1 e1 rv hr1 hs1 hx1 hw1
  refine TEof.bind hs1 hr1 hw1 hx1 ?_
  rintro W2 dv x2 m2 H2 e2 rd hr2 hs2 hx2 w2
  cases kv with
  | str t =>
    obtain ⟨r', ns, hr'⟩ := kd_ns D KR t
    refine ⟨_, r', rv.str_inv, ns, fun z => ?_, fun u z => ?_⟩
    · have w3 : Qd ((kvs.lookup t).getD dv) m2 := w2
      cases hl : kvs.lookup t with
      | none => rw [hl] at w3; exact hc _ _ _ _ _ (e1.trans e2) rd hr2 w3
      | some v => rw [hl] at hr'; obtain ⟨u, xv, e, _⟩ := hr'; rw [z] at e; cases e
    · have w3 : Qd ((kvs.lookup t).getD dv) m2 := w2
      cases hl : kvs.lookup t with
      | none => rw [hl] at hr'; rw [hr'] at z; cases z
      | some v => rw [hl] at hr' w3; obtain ⟨u', xv, e, rx, rall⟩ := hr'; rw [z] at e; cases e; exact ⟨xv, rx, hc _ _ _ _ _ (e1.trans e2) (rall _ _) hr2 w3⟩
  | _ => exact w2.elim
theorem s_kidx (G : Good F cl c X) {x : Str} {y : Expr} {kvs : List (Text × Val)} {k d : E} {xp p : Pos} (h1 : kdOk c x kvs = true) (h2 : PlainIx y) (hd : d = .cst .non) (hk : PEs F cl X Wx y k) :
    PEs F cl X Wx (.Subscript (.Name x xp) y p) (.kd .idx kvs k d) := by
  obtain ⟨g, l⟩ := kdOk_of h1
  obtain ⟨g1, g2⟩ := G.gl_of g
  obtain ⟨a, hm, es, n, D, KR⟩ := G.kd _ _ l
  refine pe_imp (pe_ix ix_kdict (pe_glob (v := .ref a) g1 hm rfl g2) hk h2) ?_
  intro σ H Q h
  obtain ⟨W, r, m, Qd, R, a1, a2, a3, a4, a5⟩ := kd_bind h hd
  refine ⟨W, r, m, Qd, R, a1, a2, a3, ?_, a5⟩
  intro W1 v x m1 H1 e1 rv hr1 q
  obtain ⟨W2, kv, m2, Q2, rv2, hr2, w2, c2⟩ := a4 W1 v x m1 H1 e1 rv hr1 q
  cases kv with
  | str t =>
    obtain ⟨r', ns, hr'⟩ := kd_ns D KR t
    obtain ⟨v, hl, w3⟩ : ∃ v, kvs.lookup t = some v ∧ Q2 v m2 := w2
    rw [hl] at hr'
    obtain ⟨u, xv, rfl, rx, rall⟩ := hr'
    exact ⟨a, _, xv, rfl, rv2.str_inv, ⟨es, n, u, D.at_, D.lit, ns, rx⟩, c2.here hr2 (rall _ _) w3⟩
  | _ => exact w2.elim
theorem s_kin (G : Good F cl c X) {x : Str} {l : Expr} {kvs : List (Text × Val)} {k d : E} {xp p : Pos} (h1 : kdOk c x kvs = true) (hd : d = .cst .non) (hk : PEs F cl X Wx l k) :
    PEs F cl X Wx (.Compare l [.In] [.Name x xp] p) (.kd .isin kvs k d) ∧ PTs' F cl X Wx (.Compare l [.In] [.Name x xp] p) (.kd .isin kvs k d) := by
  obtain ⟨g, lk⟩ := kdOk_of h1
  obtain ⟨g1, g2⟩ := G.gl_of g
  obtain ⟨a, hm, es, n, D, KR⟩ := G.kd _ _ lk
  have key : ∀ (kv : Val) (y : V) (W2 : Wd) (m2 : Store) (H1 : Hp) (Q2 : Val → Prop) (P : V → Hp → Prop), RV X.K W2 H1 kv y → kdW .isin kvs kv .non Q2 → (∀ b, Q2 (.bool b) → P (.bl b) H1) →
      ∃ (z : Str) (r : Option Value), y = .str z ∧ V.ref a = .ref a ∧ PySem.W.nsIn X.K a z = some r ∧ P (.bl r.isSome) H1 := by
    intro kv y W2 m2 H1 Q2 P rv2 w2 hP
    cases kv with
    | str t =>
      obtain ⟨r', ns, hr'⟩ := kd_ns D KR t
      refine ⟨_, r', rv2.str_inv, rfl, ns, hP _ ?_⟩
      have w3 : Q2 (.bool (kvs.lookup t).isSome) := w2
      cases hl : kvs.lookup t with
      | none => rw [hl] at hr' w3; rw [hr']; exact w3
      | some v => rw [hl] at hr' w3; obtain ⟨u', xv, e, rx, rall⟩ := hr'; rw [e]; exact w3
    | _ => exact w2.elim
  constructor
  · refine pe_imp (pe_cmpR (op_in_kd D) hk (pe_glob (v := .ref a) g1 hm rfl g2) rfl) ?_
    intro σ H Q h
    obtain ⟨W, r, m, Qd, R, a1, a2, a3, a4, a5⟩ := kd_bind h hd
    refine ⟨W, r, m, Qd, R, a1, a2, a3, ?_, a5⟩
    intro W1 v x m1 H1 e1 rv hr1 q
    obtain ⟨W2, kv, m2, Q2, rv2, hr2, w2, c2⟩ := a4 W1 v x m1 H1 e1 rv hr1 q
    exact key kv x W2 m2 H1 _ Q rv2 w2 fun b q => c2.here hr2 (.bool b) q
  · refine pt_imp (pt_cmpR (op_in_kd D) hk (pe_glob (v := .ref a) g1 hm rfl g2) rfl) ?_
    rintro σ H Q ⟨W, r, m, Qd, R, hs, hr, hw, hc, hx⟩
    subst hd
    refine TEof.bind hs hr hw hx ?_
    rintro W1 kv x m1 H1 e1 rv hr1 hs1 hx1 w2
    refine key kv x W1 m1 H1 (fun v => ∃ t, tru m1 v = some t ∧ Qd t m1) (fun x H' => ∃ k, x = V.bl k ∧ Q k H') rv w2 ?_
    rintro b ⟨t, ht, q⟩
    cases ht
    exact ⟨b, rfl, hc _ _ _ _ e1 hr1 q⟩
theorem s_knot (G : Good F cl c X) {x : Str} {l : Expr} {kvs : List (Text × Val)} {k d : E} {xp p : Pos} (h1 : kdOk c x kvs = true) (hd : d = .cst .non) (hk : PEs F cl X Wx l k) :
    PEs F cl X Wx (.Compare l [.NotIn] [.Name x xp] p) (.kd .notin kvs k d) ∧ PTs' F cl X Wx (.Compare l [.NotIn] [.Name x xp] p) (.kd .notin kvs k d) := by
  obtain ⟨g, lk⟩ := kdOk_of h1
  obtain ⟨g1, g2⟩ := G.gl_of g
  obtain ⟨a, hm, es, n, D, KR⟩ := G.kd _ _ lk
  have key : ∀ (kv : Val) (y : V) (W2 : Wd) (m2 : Store) (H1 : Hp) (Q2 : Val → Prop) (P : V → Hp → Prop), RV X.K W2 H1 kv y → kdW .notin kvs kv .non Q2 → (∀ b, Q2 (.bool b) → P (.bl b) H1) →
      ∃ (z : Str) (r : Option Value), y = .str z ∧ V.ref a = .ref a ∧ PySem.W.nsIn X.K a z = some r ∧ P (.bl (!r.isSome)) H1 := by
    intro kv y W2 m2 H1 Q2 P rv2 w2 hP
    cases kv with
    | str t =>
      obtain ⟨r', ns, hr'⟩ := kd_ns D KR t
      refine ⟨_, r', rv2.str_inv, rfl, ns, hP _ ?_⟩
      have w3 : Q2 (.bool (!(kvs.lookup t).isSome)) := w2
      cases hl : kvs.lookup t with
      | none => rw [hl] at hr' w3; rw [hr']; exact w3
      | some v => rw [hl] at hr' w3; obtain ⟨u', xv, e, rx, rall⟩ := hr'; rw [e]; exact w3
    | _ => exact w2.elim
  constructor
  · refine pe_imp (pe_cmpR (op_notIn_kd D) hk (pe_glob (v := .ref a) g1 hm rfl g2) rfl) ?_
    intro σ H Q h
    obtain ⟨W, r, m, Qd, R, a1, a2, a3, a4, a5⟩ := kd_bind h hd
    refine ⟨W, r, m, Qd, R, a1, a2, a3, ?_, a5⟩
    intro W1 v x m1 H1 e1 rv hr1 q
    obtain ⟨W2, kv, m2, Q2, rv2, hr2, w2, c2⟩ := a4 W1 v x m1 H1 e1 rv hr1 q
    exact key kv x W2 m2 H1 _ Q rv2 w2 fun b q => c2.here hr2 (.bool b) q
  · refine pt_imp (pt_cmpR (op_notIn_kd D) hk (pe_glob (v := .ref a) g1 hm rfl g2) rfl) ?_
    rintro σ H Q ⟨W, r, m, Qd, R, hs, hr, hw, hc, hx⟩
    subst hd
    refine TEof.bind hs hr hw hx ?_
    rintro W1 kv x m1 H1 e1 rv hr1 hs1 hx1 w2
    refine key kv x W1 m1 H1 (fun v => ∃ t, tru m1 v = some t ∧ Qd t m1) (fun x H' => ∃ k, x = V.bl k ∧ Q k H') rv w2 ?_
    rintro b ⟨t, ht, q⟩
    cases ht
    exact ⟨b, rfl, hc _ _ _ _ e1 hr1 q⟩
theorem ix_plain {y : Expr} (h : notSlice y = true) : PlainIx y := by
  intro o i
  cases y <;> first | rfl | cases h
theorem s_idx {x y : Expr} {a i : E} {p : Pos} (h : notSlice y = true) (ha : PEs F cl X Wx x a) (hi : PEs F cl X Wx y i) : PEs F cl X Wx (.Subscript x y p) (.idx a i) := by
  refine pe_imp (pe_ix ix_seq ha hi (ix_plain h)) ?_
  rintro σ H Q ⟨W, r', m, Qd, R, hs, hr, hw, hc, hx⟩
  refine TEof.bind hs hr hw hx ?_
  rintro W1 v x m1 H1 e1 rv hr1 hs1 hx1 hw1
  refine TEof.bind hs1 hr1 hw1 hx1 ?_
  rintro W2 u y m2 H2 e2 ru hr2 hs2 hx2 ⟨w, hq, q⟩
  exact idx_ok (rv.mono hr1 e2) ru hr2 hq q (hc.mono (e1.trans e2))
/-- a part of a slice: what it is worth -/
def TOof (K : Frag) (cl : Cls) (Wx : WX) (has : Bool) (wp : WE0) : TO := fun σ H Q =>
  ∃ (W : Wd) (r : Env) (m : Store) (Qd : Val → Store → Prop) (R : Rq), SR K W H r σ ∧ HR K W m H ∧ wp r m Qd R ∧
    (∀ (W' : Wd) (v : Val) (m' : Store) (H' : Hp), Ext W H W' H' → HR K W' m' H' → Qd v m' → ∃ i, partF has v = some i ∧ Q i H') ∧ ContX K cl W H σ R Wx
theorem po_of {lo : Option Expr} {l : E} {has : Bool} (h : (has = false ∧ lo = none ∧ l = .cst .non) ∨ ∃ y, has = true ∧ lo = some y ∧ PEs F cl X Wx y l) : PO X lo (TOof X.K cl Wx has (wpE F l)) := by
  rcases h with ⟨rfl, rfl, rfl⟩ | ⟨y, rfl, rfl, h⟩
  · refine ⟨fun pins s σ H Q I q => po_none.run pins s σ H Q I ?_⟩
    obtain ⟨W, r', m, Qd, R, hs, hr, hw, hc, hx⟩ := q
    obtain ⟨i, e, q⟩ := hc W _ m H (.refl hr) hr hw
    cases e
    exact q
  · refine ⟨fun pins s σ H Q I q => (po_some h).run pins s σ H Q I ?_⟩
    obtain ⟨W, r', m, Qd, R, hs, hr, hw, hc, hx⟩ := q
    refine TEof.bind hs hr hw hx ?_
    rintro W1 v x m1 H1 e1 rv hr1 hs1 hx1 q
    obtain ⟨i, e, q⟩ := hc W1 v m1 H1 e1 hr1 q
    cases v <;> first | (cases e; exact ⟨_, rv.int_inv, q⟩) | cases e
theorem TOof.bind {K : Frag} {has : Bool} {wp : WE0} {σ : St} {H : Hp} {W : Wd} {r : Env} {m : Store} {Qd : Val → Store → Prop} {R : Rq} {Q : Option Int → Hp → Prop} (s : SR K W H r σ) (h : HR K W m H) (w : wp r m Qd R) (cx : ContX K cl W H σ R Wx)
    (k : ∀ (W1 : Wd) (v : Val) (m1 : Store) (H1 : Hp), Ext W H W1 H1 → HR K W1 m1 H1 → SR K W1 H1 r σ → ContX K cl W1 H1 σ R Wx → Qd v m1 → ∃ i, partF has v = some i ∧ Q i H1) : TOof K cl Wx has wp σ H Q :=
  ⟨W, r, m, Qd, R, s, h, w, fun W1 v m1 H1 e hr q => k W1 v m1 H1 e hr (s.mono h e) (cx.mono e) q, cx⟩
theorem s_sl {x : Expr} {lo hi : Option Expr} {a l h : E} {hl hh : Bool} {p p2 : Pos} (ha : PEs F cl X Wx x a) (h1 : (hl = false ∧ lo = none ∧ l = .cst .non) ∨ ∃ y, hl = true ∧ lo = some y ∧ PEs F cl X Wx y l)
    (h2 : (hh = false ∧ hi = none ∧ h = .cst .non) ∨ ∃ y, hh = true ∧ hi = some y ∧ PEs F cl X Wx y h) : PEs F cl X Wx (.Subscript x (.Slice lo hi none p2) p) (.sl hl hh a l h) := by
  refine pe_imp (pe_slice sl_G ha (po_of h1) (po_of h2)) ?_
  rintro σ H Q ⟨W, r', m, Qd, R, hs, hr, hw, hc, hx⟩
  refine TEof.bind hs hr hw hx ?_
  rintro W1 v x m1 H1 e1 rv hr1 hs1 hx1 hw1
  refine TOof.bind hs1 hr1 hw1 hx1 ?_
  rintro W2 l' m2 H2 e2 hr2 hs2 hx2 ⟨i, hi', hw2⟩
  refine ⟨i, hi', TOof.bind hs2 hr2 hw2 hx2 ?_⟩
  rintro W3 u' m3 H3 e3 hr3 hs3 hx3 ⟨j, hj, z, hz, q⟩
  exact ⟨j, hj, slice_ok ((rv.mono hr1 e2).mono hr2 e3) hr3 hz q (hc.mono ((e1.trans e2).trans e3))⟩
/-! ### what is walked -/
def TIof (K : Frag) (cl : Cls) (Wx : WX) (wp : Env → Store → (List Val → (Store → Prop) → Store → Prop) → Rq → Prop) : TI := fun σ H Q =>
  ∃ (W : Wd) (r : Env) (m : Store) (P : List Val → (Store → Prop) → Store → Prop) (R : Rq), SR K W H r σ ∧ HR K W m H ∧ wp r m P R ∧
    (∀ (W' : Wd) (items : List Val) (live : Store → Prop) (m' : Store) (H' : Hp) (J : It), Ext W H W' H' → HR K W' m' H' → SR K W' H' r σ → ContX K cl W' H' σ R Wx → Walk K J items live W' H' → P items live m' → Q J H') ∧ ContX K cl W H σ R Wx
def wpI (F : Nat → FS) (ik : IK) (e1 e2 : E) : Env → Store → (List Val → (Store → Prop) → Store → Prop) → Rq → Prop := fun r m P R =>
  wpE F e1 r m (fun v1 m1 => wpE F e2 r m1 (fun v2 m2 => ∃ items, itF ik m2 v1 v2 = some items ∧ P items (fun m => itF ik m v1 v2 = some items) m2) R) R
theorem pi_imp {tg it : Expr} {t t' : TI} (h : PI X tg it t) (i : ∀ σ H R, t' σ H R → t σ H R) : PI X tg it t' := ⟨fun pins s σ H R I q => h.run pins s σ H R I (i σ H R q)⟩
/-- a list, a tuple or a text -/
def iAny (K : Frag) (te : TE) : TI := fun σ H R => te σ H fun x H1 => (∃ a xs, x = .ref a ∧ SqL K H1 a xs ∧ R (Itl K a) H1) ∨ (∃ a xs, x = .ref a ∧ SqT K H1 a xs ∧ R (Itt K a) H1) ∨ ∃ z, x = .str z ∧ R (Its z) H1
theorem pi_any {tg it : Expr} {te : TE} (h : PE X it te) : PI X tg it (iAny X.K te) := by
  constructor
  intro pins s σ H R I q
  refine thn (h.run pins s σ H _ I q) ?_
  rintro v s1 ⟨x, H1, I1, rx, q | q | q⟩
  · obtain ⟨a, xs, rfl, sl, q⟩ := q
    obtain rfl : v = .ref a := rx
    obtain ⟨its, rv, pl, hz⟩ := I1.list sl
    exact wpAny_pyIter_list pl.isList (pi_one (tk := s1.toks) I1 _ (turn_list a _) ⟨_, Heap.get?_push_size _ rfl, rfl, rfl⟩ q)
  · obtain ⟨a, xs, rfl, sl, q⟩ := q
    obtain rfl : v = .ref a := rx
    obtain ⟨its, rv, pl, hz⟩ := I1.tuple sl
    exact wpAny_pyIter_tuple pl (pi_one (tk := s1.toks) I1 _ (turn_tuple a _) ⟨_, Heap.get?_push_size _ rfl, rfl, rfl⟩ q)
  · obtain ⟨z, rfl, q⟩ := q
    obtain ⟨t, rfl⟩ := rx
    cases ha : z.cps.all (· < 128)
    · exact wpAny_pyIter_wide ha (pi_one (tk := s1.toks) I1 _ (turn_str _ z t "str_iterator" (.inr rfl)) ⟨_, Heap.get?_push_size _ rfl, rfl, rfl⟩ q)
    · exact wpAny_pyIter_ascii ha (pi_one (tk := s1.toks) I1 _ (turn_str _ z t "str_ascii_iterator" (.inl rfl)) ⟨_, Heap.get?_push_size _ rfl, rfl, rfl⟩ q)
theorem s_seq {tg it : Expr} {a : E} (h : PEs F cl X Wx it a) : PI X tg it (TIof X.K cl Wx (wpI F .seq a (.cst .non))) := by
  refine pi_imp (pi_any h) ?_
  rintro σ H Q ⟨W, r', m, P, R, hs, hr, hw, hc, hx⟩
  refine TEof.bind hs hr hw hx ?_
  rintro W1 v x m1 H1 e1 rv hr1 hs1 hx1 ⟨items, hi, q⟩
  cases v with
  | str s =>
    rw [rv.str_inv]
    cases hi
    exact .inr (.inr ⟨_, rfl, hc _ _ _ _ _ _ e1 hr1 hs1 hx1 walk_str q⟩)
  | tup vs =>
    obtain ⟨a, xs, rfl, sl, w⟩ := walk_T (live := fun m => itF .seq m (.tup vs) .non = some items) hr1 rv
    cases hi
    exact .inr (.inl ⟨a, xs, rfl, sl, hc _ _ _ _ _ _ e1 hr1 hs1 hx1 w q⟩)
  | il o vs =>
    obtain ⟨a, xs, rfl, sl, w⟩ := walk_L hr1 rv hi rfl
    exact .inl ⟨a, xs, rfl, sl, hc _ _ _ _ _ _ e1 hr1 hs1 hx1 w q⟩
  | loc n =>
    obtain ⟨a, xs, rfl, sl, w⟩ := walk_L hr1 rv hi rfl
    exact .inl ⟨a, xs, rfl, sl, hc _ _ _ _ _ _ e1 hr1 hs1 hx1 w q⟩
  | _ => cases hi
theorem s_rng1 (G : Good F cl c X) {tg y : Expr} {a : E} {p p2 : Pos} (h1 : isGl c "range" = true) (h2 : c.bl.contains "range" = true) (hn : noStar y = true) (h : PEs F cl X Wx y a) : PI X tg (.Call (.Name "range" p) [y] [] p2) (TIof X.K cl Wx (wpI F .rng1 a (.cst .non))) := by
  refine pi_imp (pi_range1 (G.gl_of h1).1 (G.bl _ h2) (pa_cons h pa_nil (star_of hn)) (star_of hn)) ?_
  rintro σ H Q ⟨W, r', m, P, R, hs, hr, hw, hc, hx⟩
  refine TEof.bind hs hr hw hx ?_
  rintro W1 v x m1 H1 e1 rv hr1 hs1 hx1 ⟨items, hi, q⟩
  cases v with
  | int n =>
    rw [rv.int_inv]
    have hi' := hi
    simp only [itF] at hi
    split at hi
    · rename_i hb
      cases hi
      exact ⟨n, rfl, hb.1, hb.2, hc _ _ _ _ _ _ e1 hr1 hs1 hx1 walk_rng q⟩
    · cases hi
  | _ => cases hi
theorem s_rng2 (G : Good F cl c X) {tg y z : Expr} {a b : E} {p p2 : Pos} (h1 : isGl c "range" = true) (h2 : c.bl.contains "range" = true) (hn : noStar y = true) (hn2 : noStar z = true) (h : PEs F cl X Wx y a) (hb : PEs F cl X Wx z b) : PI X tg (.Call (.Name "range" p) [y, z] [] p2) (TIof X.K cl Wx (wpI F .rng2 a b)) := by
  refine pi_imp (pi_range2 (G.gl_of h1).1 (G.bl _ h2) (pa_cons h (pa_cons hb pa_nil (star_of hn2)) (star_of hn)) (by rw [star_of hn, star_of hn2]; rfl) (star_of hn2)) ?_
  rintro σ H Q ⟨W, r', m, P, R, hs, hr, hw, hc, hx⟩
  refine TEof.bind hs hr hw hx ?_
  rintro W1 v x m1 H1 e1 rv hr1 hs1 hx1 hw1
  refine TEof.bind hs1 hr1 hw1 hx1 ?_
  rintro W2 u y m2 H2 e2 ru hr2 hs2 hx2 ⟨items, hi, q⟩
  cases v with
  | int n =>
    cases u with
    | int k =>
      rw [rv.int_inv, ru.int_inv]
      simp only [itF] at hi
      split at hi
      · rename_i hb
        cases hi
        exact ⟨n, k, rfl, hb, hc _ _ _ _ _ _ (e1.trans e2) hr2 hs2 hx2 walk_rng q⟩
      · cases hi
    | _ => cases hi
  | _ => cases hi
theorem s_zip (G : Good F cl c X) {t y z : Expr} {a b : E} {p p2 : Pos} (ht : isTupT t = true) (h1 : isGl c "zip" = true) (h2 : c.bl.contains "zip" = true) (hn : noStar y = true) (hn2 : noStar z = true) (h : PEs F cl X Wx y a) (hb : PEs F cl X Wx z b) : PI X t (.Call (.Name "zip" p) [y, z] [] p2) (TIof X.K cl Wx (wpI F .zip a b)) := by
  cases t <;> first | cases ht | skip
  refine pi_imp (DyZ.pi_zipG (G.gl_of h1).1 (G.bl _ h2) (pa_cons h (pa_cons hb pa_nil (star_of hn2)) (star_of hn)) (star_of hn) (by rw [any_back, star_of hn2]; rfl)) ?_
  rintro σ H Q ⟨W, r', m, P, R, hs, hr, hw, hc, hx⟩
  refine TEof.bind hs hr hw hx ?_
  rintro W1 v x m1 H1 e1 rv hr1 hs1 hx1 hw1
  refine TEof.bind hs1 hr1 hw1 hx1 ?_
  rintro W2 u y m2 H2 e2 ru hr2 hs2 hx2 ⟨items, hi, q⟩
  have hi' := hi
  simp only [itF, Option.bind_eq_some_iff, Option.map_eq_some_iff] at hi
  obtain ⟨us, eu, vs, ev, rfl⟩ := hi
  have inj : ∀ {a b : List (Val × Val)}, (a.map fun p => Val.tup [p.1, p.2]) = (b.map fun p => Val.tup [p.1, p.2]) → a = b := by
    intro a
    induction a with
    | nil => intro b h; cases b with
      | nil => rfl
      | cons _ _ => simp at h
    | cons p a ih => intro b h; cases b with
      | nil => simp at h
      | cons q b =>
        simp only [List.map_cons, List.cons.injEq, Val.tup.injEq] at h
        obtain ⟨⟨e1, e2, _⟩, e3⟩ := h
        rw [ih e3, show p = q from Prod.ext e1 e2]
  have lv : ∀ m3, itF .zip m3 v u = some ((us.zip vs).map fun p => Val.tup [p.1, p.2]) → ∃ us' vs', sq m3 v = some us' ∧ sq m3 u = some vs' ∧ us'.zip vs' = us.zip vs := by
    intro m3 h3
    simp only [itF, Option.bind_eq_some_iff, Option.map_eq_some_iff] at h3
    obtain ⟨us', eu', vs', ev', e⟩ := h3
    exact ⟨us', vs', eu', ev', inj e⟩
  obtain ⟨k1, k2, p, q', xs, ys, rfl, rfl, g1, g2, wk⟩ := walk_zip hr2 (rv.mono hr1 e2) ru eu ev lv
  exact ⟨k1, k2, p, q', xs, ys, rfl, g1, g2, hc _ _ _ _ _ _ (e1.trans e2) hr2 hs2 hx2 wk q⟩
end
end Dy

/-! Dp, part H: targets, list comprehensions, all expressions at once. -/
namespace Dy
open PySem PySem.Spec L2
section
variable {K : Frag} {W W1 : Wd} {H H1 : Hp} {m : Store}
/-- a list that is tracked beside the store -/
structure Side (W : Wd) (H : Hp) (D : Addr) (xs : List V) : Prop where
  at_ : H D = some (.lst xs)
  np : D ∉ W.phi
  ni : ¬ W.I D
theorem Side.mono {D : Addr} {xs : List V} (s : Side W H D xs) (e : Ext W H W1 H1) : Side W1 H1 D xs where
  at_ := e.fr _ _ s.at_ s.np
  np := e.stays s.at_ s.np
  ni := fun z => by
    rcases e.new _ z with z | z
    · exact s.ni z
    · rw [s.at_] at z; cases z
theorem sqT_upd {D : Addr} {xs ys : List V} {o : HO} {a : Addr} (h : H D = some (.lst xs)) (s : SqT K H a ys) : SqT K (upd H D o) a ys := by
  have ne : ∀ z, H a = some z → (∀ l, z ≠ .lst l) → a ≠ D := fun z e n q => by subst q; rw [h] at e; cases e; exact n _ rfl
  rcases s with (s | ⟨b, s⟩) | s
  · exact .inl (.inl (by rw [upd_ne (ne _ s fun _ z => by cases z)]; exact s))
  · exact .inl (.inr ⟨b, by rw [upd_ne (ne _ s fun _ z => by cases z)]; exact s⟩)
  · exact .inr s
theorem sqL_upd {D : Addr} {ys : List V} {o : HO} {a : Addr} (ne : a ≠ D) (s : SqL K H a ys) : SqL K (upd H D o) a ys := by
  rcases s with (s | ⟨b, s⟩) | s
  · exact .inl (.inl (by rw [upd_ne ne]; exact s))
  · exact .inl (.inr ⟨b, by rw [upd_ne ne]; exact s⟩)
  · exact .inr s
mutual
theorem RV.side {D : Addr} {xs : List V} {o : HO} (s : Side W H D xs) : ∀ {v : Val} {x : V}, RV K W H v x → RV K W (upd H D o) v x
  | _, _, .non => .non
  | _, _, .bool b => .bool b
  | _, _, .int i => .int i
  | _, _, .str t => .str t
  | _, _, .tup q r => .tup (sqT_upd s.at_ q) (RVs.side s r)
  | _, _, .il1 (a := a) i q r => .il1 i (by rw [upd_ne (show a ≠ D from fun z => s.ni (z ▸ i))]; exact q) (RVs.side s r)
  | _, _, .il0 (a := a) i q r => .il0 i (sqL_upd (fun z => s.ni (z ▸ i)) q) (RVs.side s r)
  | _, _, .ilk q r => .ilk q (RVs.side s r)
  | _, _, .loc q => .loc q
theorem RVs.side {D : Addr} {xs : List V} {o : HO} (s : Side W H D xs) : ∀ {vs : List Val} {ys : List V}, RVs K W H vs ys → RVs K W (upd H D o) vs ys
  | _, _, .nil => .nil
  | _, _, .cons r t => .cons (RV.side s r) (RVs.side s t)
end
theorem HR.side {D : Addr} {xs ys : List V} (h : HR K W m H) (s : Side W H D xs) : HR K W m (upd H D (.lst ys)) where
  len := h.len
  nd := h.nd
  dis := h.dis
  inh := fun a ha => by rw [upd_ne (show a ≠ D from fun z => s.ni (z ▸ ha))]; exact h.inh a ha
  obj := fun n o q => by
    obtain ⟨a, e1, r⟩ := h.obj n o q
    have ne : a ≠ D := fun z => s.np (z ▸ List.mem_of_getElem? e1)
    refine ⟨a, e1, ?_⟩
    cases o with
    | list us =>
      obtain ⟨zs, q1, r1⟩ := r
      exact ⟨zs, by rw [upd_ne ne]; exact q1, r1.side s⟩
theorem Ext.side {D : Addr} {ys : List V} (e : Ext W H W1 H1) (hD : H D = none) : Ext W H W1 (upd H1 D (.lst ys)) where
  pre := e.pre
  inc := e.inc
  new := e.new
  fr := fun b o q hb => by rw [upd_ne (ne_of_none q hD)]; exact e.fr b o q hb
  al := fun a ha => by
    by_cases z : a = D
    · subst z; rw [upd_same]; simp
    · rw [upd_ne z]; exact e.al a ha
mutual
theorem RV.addI {D : Addr} : ∀ {v : Val} {x : V}, RV K W H v x → RV K (W.withI D) H v x
  | _, _, .non => .non
  | _, _, .bool b => .bool b
  | _, _, .int i => .int i
  | _, _, .str t => .str t
  | _, _, .tup q r => .tup q (RVs.addI r)
  | _, _, .il1 i q r => .il1 (.inl i) q (RVs.addI r)
  | _, _, .il0 i q r => .il0 (.inl i) q (RVs.addI r)
  | _, _, .ilk q r => .ilk q (RVs.addI r)
  | _, _, .loc q => .loc q
theorem RVs.addI {D : Addr} : ∀ {vs : List Val} {ys : List V}, RVs K W H vs ys → RVs K (W.withI D) H vs ys
  | _, _, .nil => .nil
  | _, _, .cons r t => .cons (RV.addI r) (RVs.addI t)
end
mutual
theorem RV.addL {D : Addr} : ∀ {v : Val} {x : V}, RV K W H v x → RV K (W.withL D) H v x
  | _, _, .non => .non
  | _, _, .bool b => .bool b
  | _, _, .int i => .int i
  | _, _, .str t => .str t
  | _, _, .tup q r => .tup q (RVs.addL r)
  | _, _, .il1 i q r => .il1 i q (RVs.addL r)
  | _, _, .il0 i q r => .il0 i q (RVs.addL r)
  | _, _, .ilk q r => .ilk q (RVs.addL r)
  | _, _, .loc (n := n) q => .loc (by show (W.phi ++ [D])[n]? = _; rw [List.getElem?_append_left (List.getElem?_eq_some_iff.mp q).1]; exact q)
theorem RVs.addL {D : Addr} : ∀ {vs : List Val} {ys : List V}, RVs K W H vs ys → RVs K (W.withL D) H vs ys
  | _, _, .nil => .nil
  | _, _, .cons r t => .cons (RV.addL r) (RVs.addL t)
end
/-- the list at D goes into the world -/
theorem side_end {W0 : Wd} {H0 : Hp} {D : Addr} {xs : List V} {acc : List Val} {mu : Bool} {Qd : Val → Store → Prop} {Q : VK} (h : HR K W m H) (s : Side W H D xs) (r : RVs K W H acc xs) (e : Ext W0 H0 W H) (hD : H0 D = none) (q : newL mu acc m Qd) (hc : Cont K W0 H0 Qd Q) : Q (.ref D) H := by
  unfold newL at q
  split at q
  · have el : (W.withL D).phi[m.length]? = some D := by show (W.phi ++ [D])[m.length]? = some D; rw [← h.len]; simp
    refine hc (W.withL D) _ _ _ H ⟨?_, e.inc, e.new, e.fr, e.al⟩ (.loc el) ⟨?_, ?_, ?_, h.inh, ?_⟩ q
    · obtain ⟨more, e1, e2⟩ := e.pre
      refine ⟨more ++ [D], by show W.phi ++ [D] = _; rw [e1, List.append_assoc], fun a ha => ?_⟩
      rcases List.mem_append.mp ha with z | z
      · exact e2 a z
      · simp at z; subst z; exact hD
    · show (W.phi ++ [D]).length = (m ++ [Ob.list acc]).length
      simp [h.len]
    · show (W.phi ++ [D]).Nodup
      refine List.nodup_append.mpr ⟨h.nd, by simp, fun a ha b hb => ?_⟩
      simp at hb; subst hb
      exact fun z => s.np (z ▸ ha)
    · intro a ha
      rcases List.mem_append.mp (show a ∈ W.phi ++ [D] from ha) with z | z
      · exact h.dis a z
      · simp at z; subst z; exact s.ni
    · intro n o q
      by_cases hn : n < m.length
      · rw [List.getElem?_append_left hn] at q
        obtain ⟨a, e1, r1⟩ := h.obj n o q
        refine ⟨a, by show (W.phi ++ [D])[n]? = _; rw [List.getElem?_append_left (by rw [h.len]; exact hn)]; exact e1, ?_⟩
        cases o with
        | list us =>
          obtain ⟨zs, q1, r2⟩ := r1
          exact ⟨zs, q1, r2.addL⟩
      · rw [List.getElem?_append_right (by omega)] at q
        have hz : n = m.length := by
          cases hh : n - m.length with
          | zero => omega
          | succ k => rw [hh] at q; simp at q
        subst hz
        simp at q; subst q
        exact ⟨D, el, xs, s.at_, r.addL⟩
  · refine hc (W.withI D) _ _ _ H ⟨e.pre, fun a z => .inl (e.inc a z), fun a z => z.elim (e.new a) fun z => .inr (z ▸ hD), e.fr, e.al⟩ (.il1 (.inr rfl) s.at_ r.addI) ⟨h.len, h.nd, fun a ha z => z.elim (h.dis a ha) fun z => s.np (z ▸ ha), ?_, ?_⟩ q
    · intro a z
      rcases z with z | z
      · exact h.inh a z
      · subst z; rw [s.at_]; simp
    · intro n o q
      obtain ⟨a, e1, r1⟩ := h.obj n o q
      refine ⟨a, e1, ?_⟩
      cases o with
      | list us =>
        obtain ⟨zs, q1, r2⟩ := r1
        exact ⟨zs, q1, r2.addI⟩
end
/-! ### targets -/
theorem wipe_set (σ : St) (i : Nat) (y : Option V) : ∀ vs : List Nat, L2.wipe (σ.set i y) vs = if i ∈ vs then L2.wipe σ vs else (L2.wipe σ vs).set i y
  | [] => rfl
  | v :: vs => by
    simp only [L2.wipe, wipe_set σ i y vs]
    by_cases h : i ∈ vs
    · rw [if_pos h, if_pos (List.mem_cons_of_mem _ h)]
    · rw [if_neg h]
      by_cases hv : i = v
      · subst hv
        rw [if_pos List.mem_cons_self, List.set_set]
      · rw [if_neg (by simp [h, hv]), List.set_comm _ _ hv]
theorem wipe_in {σ : St} {i : Nat} {y : Option V} {vs : List Nat} (h : i ∈ vs) : L2.wipe (σ.set i y) vs = L2.wipe σ vs := by rw [wipe_set, if_pos h]
theorem wipe_wipe (σ : St) : ∀ vs ws : List Nat, (∀ v ∈ vs, v ∈ ws) → L2.wipe (L2.wipe σ vs) ws = L2.wipe σ ws
  | [], _, _ => rfl
  | v :: vs, ws, h => by
    simp only [L2.wipe]
    rw [wipe_in (h v List.mem_cons_self)]
    exact wipe_wipe σ vs ws fun z hz => h z (List.mem_cons_of_mem _ hz)
section
variable {F : Nat → FS} {cl : Cls} {c : Cc} {X : Cx} {Wx : WX}
def TGof (K : Frag) (tg : Tg) : TG := fun x σ H Q => ∃ (W : Wd) (r : Env) (m : Store) (v : Val) (r' : Env), SR K W H r σ ∧ HR K W m H ∧ RV K W H v x ∧ tgF tg v r = some r' ∧
  ∀ σ', SR K W H r' σ' → (∀ own : List Nat, tgIn own tg = true → L2.wipe σ' own = L2.wipe σ own) → Q σ' H
theorem Good.set (G : Good F cl c X) {i : Nat} {x : Str} (h : canSet c i x = true) : X.N[i]? = some x ∧ L2.Loc X.env.scope x ∧ (X.fn x = true ∨ X.env.scope.names.lookup x = some .local) := by
  unfold canSet at h
  simp only [Bool.and_eq_true, Bool.or_eq_true, decide_eq_true_eq] at h
  refine ⟨by rw [G.hN]; exact h.1, ?_, ?_⟩
  · unfold L2.Loc
    rw [G.names]
    exact h.2.imp (fun z => z) fun z => z.2
  · rw [G.names]
    rcases h.2 with z | z
    · exact .inr z
    · exact .inl (G.top z.1 x)
theorem Good.pg (G : Good F cl c X) {i : Nat} {x : Str} {p : Pos} (h : canSet c i x = true) : PG X (.Name x p) (gName i) := by
  obtain ⟨h1, h2, h3⟩ := G.set h
  exact pg_name (by rw [G.hN]; exact G.nd) h1 h2 h3
def gsOf : List Nat → TGs
  | [] => gNil
  | i :: is => gCons (gName i) (gsOf is)
theorem pgs_of (G : Good F cl c X) : ∀ {es : List Expr} {is : List Nat}, chkNames c es is = true → PGs X es (gsOf is) ∧ (assignEach es X.env).length = is.length ∧ (assignEach es X.env).findIdx? (·.1) = none
  | [], [], _ => ⟨pgs_nil, rfl, rfl⟩
  | .Name x p :: r, i :: is, h => by
    simp only [chkNames, Bool.and_eq_true] at h
    obtain ⟨h1, h2, h3⟩ := pgs_of G h.2
    refine ⟨pgs_cons (G.pg h.1) h1 rfl, ?_, ?_⟩
    · show (assignEach r X.env).length + 1 = is.length + 1
      rw [h2]
    · show ((false, assign (.Name x p) X.env) :: assignEach r X.env).findIdx? (·.1) = none
      rw [List.findIdx?_cons]
      simp [h3]
  | [], _ :: _, h => by simp [chkNames] at h
  | e :: r, [], h => by cases e <;> simp [chkNames] at h
  | e :: r, i :: is, h => by
    cases e with
    | Name x p =>
      simp only [chkNames, Bool.and_eq_true] at h
      obtain ⟨h1, h2, h3⟩ := pgs_of G h.2
      refine ⟨pgs_cons (G.pg h.1) h1 rfl, ?_, ?_⟩
      · show (assignEach r X.env).length + 1 = is.length + 1
        rw [h2]
      · show ((false, assign (.Name x p) X.env) :: assignEach r X.env).findIdx? (·.1) = none
        rw [List.findIdx?_cons]
        simp [h3]
    | _ => simp [chkNames] at h
theorem setAll_ok {K : Frag} {W : Wd} {H : Hp} : ∀ {is : List Nat} {vs : List Val} {xs : List V} {r r' : Env} {σ : St} {Q : St → Hp → Prop}, SR K W H r σ → RVs K W H vs xs → setAll is vs r = some r' →
    (∀ σ', SR K W H r' σ' → (∀ own : List Nat, (is.all own.contains) = true → L2.wipe σ' own = L2.wipe σ own) → Q σ' H) → gsOf is xs σ H Q
  | [], [], _, r, r', σ, Q, hs, .nil, e, k => by
    cases e
    exact ⟨rfl, k σ hs fun _ _ => rfl⟩
  | i :: is, v :: vs, _, r, r', σ, Q, hs, .cons a b, e, k => by
    refine ⟨_, _, rfl, ?_⟩
    refine setAll_ok (hs.set a i) b e fun σ' h' hw => k σ' h' fun own ho => ?_
    simp only [List.all_cons, Bool.and_eq_true] at ho
    rw [hw own ho.2, wipe_in (by simpa using ho.1)]
  | [], _ :: _, _, _, _, _, _, _, _, e, _ => by simp [setAll] at e
  | _ :: _, [], _, _, _, _, _, _, _, e, _ => by simp [setAll] at e
theorem g_of (G : Good F cl c X) {t : Expr} {tg : Tg} (h : chkTg c t tg = true) : PG X t (TGof X.K tg) := by
  cases tg with
  | name i =>
    simp only [chkTg] at h
    split at h
    · refine ⟨fun pins s σ H v u Q I rv q => (G.pg h).run pins s σ H v u Q I rv ?_⟩
      obtain ⟨W, r, m, w', r', hs, hr, rv', e, k⟩ := q
      cases e
      exact k _ (hs.set rv' i) fun own ho => wipe_in (by simpa [tgIn] using ho)
    · cases h
  | tup is =>
    simp only [chkTg] at h
    split at h
    · obtain ⟨h1, h2, h3⟩ := pgs_of G h
      refine ⟨fun pins s σ H v u Q I rv q => (pg_tup G.calm h1 h2 h3).run pins s σ H v u Q I rv ?_⟩
      obtain ⟨W, r, m, w', r', hs, hr, rv', e, k⟩ := q
      cases w' with
      | tup vs =>
        obtain ⟨a, xs, rfl, sl, r1⟩ := rv'.tup_inv
        refine ⟨a, xs, rfl, sl, ?_, setAll_ok hs r1 e k⟩
        have hl : ∀ {is : List Nat} {vs : List Val} {r r' : Env}, setAll is vs r = some r' → is.length = vs.length := by
          intro is
          induction is with
          | nil => intro vs r r' e; cases vs <;> simp [setAll] at e; rfl
          | cons i is ih => intro vs r r' e; cases vs with
            | nil => simp [setAll] at e
            | cons v vs => simp only [setAll] at e; simp [ih e]
        rw [← r1.length, hl e]
      | _ => cases e
    · cases h
/-! ### list comprehensions -/
theorem ownOf_map (c : Cc) : ∀ is : List Nat, (ownOf c is).map (·.2) = is
  | [] => rfl
  | i :: is => by simp [ownOf, ownOf_map c is]
theorem blk_of (G : Good F cl c X) {scope : Scope} {own : List (Str × Nat)} (h : blkC c.N { kind := .function, names := c.names, isGenerator := false, isCoroutine := false } scope own = true) : BlkOk X.N X.env.scope scope own := by
  have k := blkOk_by h
  refine ⟨k.kind, k.uniq, fun p hp => by rw [G.hN]; exact k.ix p hp, fun y hy hf => by rw [G.names]; exact k.free y hy hf, fun y hy ho => by rw [G.hN]; exact k.own y hy ho⟩
theorem noR_contX {K : Frag} {W : Wd} {H : Hp} {σ : St} {Wx : WX} : ContX K cl W H σ noR Wx := fun _ _ _ _ _ _ _ _ _ _ _ z => z.elim
theorem pts_imp {X : Cx} {ifs : List Expr} {t t' : TT} (h : PTs X ifs t) (i : ∀ σ H Q, t' σ H Q → t σ H Q) : PTs X ifs t' := ⟨fun pins s σ H Q I q => h.run pins s σ H Q I (i σ H Q q)⟩
theorem fold_of {it : Expr} (h : notSet it = true) (env : PySem.Env) (x : Value) : foldedSetIterable it env x = pure x := by
  cases it <;> first | rfl | cases h
theorem lc_imp {mu : Bool} {own : List Nat} {tg : Tg} {ik : IK} {e1 e2 cond elt : E} (ht : tgIn own tg = true) : ∀ (σ : St) (H : Hp) (Q : VK), TEof X.K cl Wx (wpE F (.lc mu own tg ik e1 e2 cond elt)) σ H Q →
    tLc (TIof X.K cl Wx (wpI F ik e1 e2)) (TGof X.K tg) (TTof X.K cl (fun _ _ _ _ => False) (wpT F cond)) (TEof X.K cl (fun _ _ _ _ => False) (wpE F elt)) own σ H Q := by
  rintro σ H Q ⟨W, r, m, Qd, R, hs, hr, hw, hc, hx⟩
  let body : Val → Store → (Option Val → Store → Prop) → Prop := fun x m P => ∃ r2, tgF tg x (wipeE r own) = some r2 ∧ (wpB F cond).2 r2 m (fun t m1 => if t = true then (wpB F elt).1 r2 m1 (fun y m2 => P (some y) m2) noR else P none m1) noR
  let fin : List Val → Store → Prop := fun acc m3 => newL mu acc m3 Qd
  refine ⟨W, r, m, fun items live m2 => lcW live body items [] m2 fin, R, hs, hr, hw, ?_, hx⟩
  intro W1 items live m1 H1 J x1 hr1 hs1 hx1 wk hl D hD
  -- between two turns
  let Nv : Nat → Hp → Prop := fun i H' => i ≤ items.length ∧ ∃ (W' : Wd) (m' : Store) (acc : List Val) (xs : List V), Ext W1 H1 W' H' ∧ HR X.K W' m' H' ∧ Side W' H' D xs ∧ RVs X.K W' H' acc xs ∧ lcW live body (items.drop i) acc m' fin
  have np1 : D ∉ W1.phi := hr1.nophi hD
  have ni1 : ¬ W1.I D := fun z => hr1.inh D z hD
  refine ⟨fun i n H' => n = items.length - i ∧ Nv i H', ⟨items.length, rfl, Nat.zero_le _, ?_⟩, ?_⟩
  · obtain ⟨a, b, c'⟩ := new_il hr1 hD (vs := []) (xs := []) .nil
    refine ⟨W1, m1, [], [], (Ext.refl hr1).side hD, ?_, ⟨upd_same, np1, ni1⟩, .nil, hl⟩
    have hk : ∀ a, a ∈ W1.phi → upd H1 D (.lst []) a = H1 a := fun a ha => upd_ne fun z => np1 (z ▸ ha)
    exact hr1.grow ((Ext.refl hr1).side hD) rfl hr1.dis (fun _ z => .inl z) hk
  · rintro i n H' ⟨rfl, hi, W', m', acc, xs, x2, hr2, sd, ra, hl2⟩
    by_cases hil : i < items.length
    · refine .inr ?_
      have ed : items.drop i = items[i] :: items.drop (i + 1) := List.drop_eq_getElem_cons hil
      rw [ed] at hl2
      obtain ⟨lv, r2, et, hw2⟩ := hl2
      obtain ⟨_, wg⟩ := wk W' m' H' x2 hr2 lv
      obtain ⟨go, yl⟩ := wg i items[i] (List.getElem?_eq_getElem hil)
      refine ⟨go, Nv (i + 1), fun H'' q => ⟨_, by omega, rfl, q⟩, ?_⟩
      intro x H3 hy
      obtain ⟨W3, x3, hr3, rv3⟩ := yl x H3 hy
      have hs3 : SR X.K W3 H3 (wipeE r own) (L2.wipe σ own) := ((hs1.mono hr1 x2).mono hr2 x3).wipe own
      have sd3 := sd.mono x3
      refine ⟨W3, wipeE r own, m', items[i], r2, hs3, hr3, rv3, et, fun σ2 hs4 hw4 => ⟨?_, ?_⟩⟩
      · rw [hw4 own ht]
        exact wipe_wipe σ own own fun _ z => z
      · refine TTof.bind (wp := wpT F cond) hs4 hr3 hw2 noR_contX ?_
        rintro W5 b m5 H5 x5 hr5 hs5 hx5 q
        cases b with
        | false =>
          rw [if_neg Bool.false_ne_true] at q ⊢
          exact ⟨hil, W5, m5, acc, xs, (x2.trans x3).trans x5, hr5, sd3.mono x5, (ra.mono hr2 x3).mono hr3 x5, q⟩
        | true =>
          rw [if_pos rfl] at q ⊢
          refine TEof.bind (wp := wpE F elt) hs5 hr5 q noR_contX ?_
          rintro W6 v6 y6 m6 H6 x6 rv6 hr6 hs6 hx6 ⟨hl6, q⟩
          have sd6 := (sd3.mono x5).mono x6
          have ra6 := ((ra.mono hr2 x3).mono hr3 x5).mono hr5 x6
          refine ⟨xs, sd6.at_, by rw [← ra.length]; exact hl6, hil, W6, m6, acc ++ [v6], xs ++ [y6], (((x2.trans x3).trans x5).trans x6).side hD, hr6.side sd6, ⟨upd_same, sd6.np, sd6.ni⟩, (ra6.side sd6).append (.cons (rv6.side sd6) .nil), q⟩
    · refine .inl ?_
      have ed : items.drop i = [] := List.drop_eq_nil_of_le (by omega)
      rw [ed] at hl2
      obtain ⟨lv, q⟩ := hl2
      obtain ⟨ws, _⟩ := wk W' m' H' x2 hr2 lv
      exact ⟨ws i (by omega), side_end hr2 sd ra (x1.trans x2) (x1.back hD) q hc⟩
theorem s_lc (G : Good F cl c X) {y t it : Expr} {ifs : List Expr} {scope : Scope} {p : Pos} {mu : Bool} {own : List Nat} {tg : Tg} {ik : IK} {e1 e2 cond elt : E}
    (hb : blkC c.N { kind := .function, names := c.names, isGenerator := false, isCoroutine := false } scope (ownOf c own) = true) (ht : tgIn own tg = true) (htg : chkTg (c.blk scope) t tg = true) (hn : notSet it = true)
    (hi : PI X t it (TIof X.K cl Wx (wpI F ik e1 e2)))
    (hcond : ∀ (X' : Cx), X'.K = X.K → Good F cl (c.blk scope) X' → Takes X' (fun _ _ _ _ => False) → PTs X' ifs (TTof X'.K cl (fun _ _ _ _ => False) (wpT F cond)))
    (helt : ∀ (X' : Cx), X'.K = X.K → Good F cl (c.blk scope) X' → Takes X' (fun _ _ _ _ => False) → PEs F cl X' (fun _ _ _ _ => False) y elt) :
    PEs F cl X Wx (.ListComp y [⟨t, it, ifs, 0⟩] scope p) (.lc mu own tg ik e1 e2 cond elt) := by
  have ok := blk_of G hb
  have Gb : ∀ (s : Shared) (H : Hp) (C : Addr) (cls : List (Str × Addr)) (fp : List Addr), Good F cl (c.blk scope) (X.blk s H scope (compEnvC scope cls C X.env) fp) := fun s H C cls fp => G.blk scope ok.kind s H C cls fp
  refine pe_imp (pe_lc (g := TGof X.K tg) (tt := TTof X.K cl (fun _ _ _ _ => False) (wpT F cond)) (te := TEof X.K cl (fun _ _ _ _ => False) (wpE F elt)) G.calm (by rw [G.hN]; exact G.nd) hi ok (fun s H C cls fp => g_of (Gb s H C cls fp) htg) (fun s H C cls fp => hcond (X.blk s H scope (compEnvC scope cls C X.env) fp) rfl (Gb s H C cls fp) takes_blk) (fun s H C cls fp => helt (X.blk s H scope (compEnvC scope cls C X.env) fp) rfl (Gb s H C cls fp) takes_blk) (fold_of hn X.env)) ?_
  rw [ownOf_map]
  exact lc_imp ht
end
end Dy

/-! Dp, part I: all expressions at once. -/
namespace Dy
open PySem PySem.Spec L2
section
variable {F : Nat → FS} {cl : Cls}
structure SoundE (F : Nat → FS) (cl : Cls) (a : E) : Prop where
  e : ∀ (c : Cc) (X : Cx) (Wx : WX) (e : Expr), Good F cl c X → Takes X Wx → chk c e a = true → PEs F cl X Wx e a ∧ PTs' F cl X Wx e a
  l : ∀ (c : Cc) (X : Cx) (Wx : WX) (es : List Expr), Good F cl c X → Takes X Wx → chkL c es a = true → PAs F cl X Wx es a
  d : ∀ (c : Cc) (X : Cx) (Wx : WX) (es : List Expr), Good F cl c X → Takes X Wx → chkD c es a = true → PAs F cl X Wx es a
  b : ∀ (c : Cc) (X : Cx) (Wx : WX) (op : BoolOp) (es : List Expr) (p : Pos), Good F cl c X → Takes X Wx → chkB c op es a = true → PEs F cl X Wx (.BoolOp op es p) a ∧ PWs F cl X Wx (.BoolOp op es p) a
/-- a test by its value -/
theorem both {c : Cc} {X : Cx} {Wx : WX} {e : Expr} {a : E} (h : PEs F cl X Wx e a) (ha : plainE a = true) (he : plainT e = true) : PEs F cl X Wx e a ∧ PTs' F cl X Wx e a := ⟨h, pt_of ha h he⟩
theorem SoundE.only {a : E} (e : ∀ (c : Cc) (X : Cx) (Wx : WX) (e : Expr), Good F cl c X → Takes X Wx → chk c e a = true → PEs F cl X Wx e a ∧ PTs' F cl X Wx e a)
    (hl : ∀ c es, chkL c es a = false ∧ chkD c es a = false) (hb : ∀ c op es, chkB c op es a = false) : SoundE F cl a :=
  ⟨e, fun c X Wx es _ _ h => absurd h (by rw [(hl c es).1]; decide), fun c X Wx es _ _ h => absurd h (by rw [(hl c es).2]; decide), fun c X Wx op es p _ _ h => absurd h (by rw [hb]; decide)⟩
theorem so_of {x : Bool} {o : Option Expr} {no : Bool} {f : Expr → Bool} (h : chkO x no o f = true) : (x = false ∧ o = none ∧ no = true) ∨ ∃ y, x = true ∧ o = some y ∧ f y = true := by
  unfold chkO at h
  cases o with
  | none => simp at h; exact .inl ⟨h.1, rfl, h.2⟩
  | some y => simp at h; exact .inr ⟨y, h.1, rfl, h.2⟩
theorem cst_of {a : E} (h : isCst a = true) : a = .cst .non := by
  unfold isCst at h
  split at h
  · rfl
  · cases h
theorem yes_of {a : E} (h : isYes a = true) : a = .cst (.bool true) := by
  unfold isYes at h
  split at h
  · rfl
  · cases h
theorem it_of {c : Cc} {X : Cx} {Wx : WX} (G : Good F cl c X) (tk : Takes X Wx) {t it : Expr} {ik : IK} {e1 e2 : E} (s1 : SoundE F cl e1) (s2 : SoundE F cl e2) (h : chkIt c t it ik (isCst e2) (fun z => chk c z e1) (fun z => chk c z e2) = true) :
    PI X t it (TIof X.K cl Wx (wpI F ik e1 e2)) := by
  unfold chkIt at h
  cases ik with
  | seq =>
    simp only [Bool.and_eq_true] at h
    rw [cst_of h.1]
    exact s_seq (s1.e c X Wx it G tk h.2).1
  | rng1 =>
    simp only at h
    split at h
    · simp only [Bool.and_eq_true, beq_iff_eq] at h
      obtain ⟨⟨⟨⟨⟨h1, h2⟩, h3⟩, h4⟩, h5⟩, h6⟩ := h
      subst h2
      rw [cst_of h5]
      exact s_rng1 G h1 h3 h4 (s1.e c X Wx _ G tk h6).1
    · cases h
  | rng2 =>
    simp only at h
    split at h
    · simp only [Bool.and_eq_true, beq_iff_eq] at h
      obtain ⟨⟨⟨⟨⟨⟨h1, h2⟩, h3⟩, h4⟩, h5⟩, h6⟩, h7⟩ := h
      subst h2
      exact s_rng2 G h1 h3 h4 h5 (s1.e c X Wx _ G tk h6).1 (s2.e c X Wx _ G tk h7).1
    · cases h
  | zip =>
    simp only at h
    split at h
    · simp only [Bool.and_eq_true, beq_iff_eq] at h
      obtain ⟨⟨⟨⟨⟨⟨⟨h0, h1⟩, h2⟩, h3⟩, h4⟩, h5⟩, h6⟩, h7⟩ := h
      subst h2
      exact s_zip G h0 h1 h3 h4 h5 (s1.e c X Wx _ G tk h6).1 (s2.e c X Wx _ G tk h7).1
    · cases h
theorem sound : ∀ a : E, SoundE F cl a := by
  intro a
  induction a with
  | var i =>
    refine .only (fun c X Wx e G tk h => ?_) (fun _ _ => ⟨rfl, rfl⟩) (fun _ _ _ => rfl)
    simp only [chk] at h
    split at h
    · simp only [Bool.and_eq_true, decide_eq_true_eq] at h
      exact both (c := c) (s_var G h.1.1 h.1.2 h.2) rfl rfl
    · cases h
  | cst v =>
    refine .only (fun c X Wx e G tk h => ?_) (fun _ _ => ⟨rfl, rfl⟩) (fun _ _ _ => rfl)
    simp only [chk] at h
    split at h
    · rw [veq_eq h]; exact both (c := c) (s_cst pe_non fun _ _ => .non) rfl rfl
    · rw [veq_eq h]; exact both (c := c) (s_cst pe_bl fun _ _ => .bool _) rfl rfl
    · rw [veq_eq h]; exact both (c := c) (s_cst pe_int fun _ _ => .int _) rfl rfl
    · rw [veq_eq h]; exact both (c := c) (s_cst pe_str fun _ _ => by rename_i s _ _ _ _; have := RV.str (K := X.K) (W := ‹Wd›) (H := ‹Hp›) s.cps.toList; rw [SX.S_tl] at this; exact this) rfl rfl
    · simp only [Bool.and_eq_true] at h
      obtain ⟨h1, h2⟩ := h
      split at h2
      · rename_i u hu
        rw [veq_eq h2]
        obtain ⟨w, xv, m1, m2, m3⟩ := G.gl _ _ hu
        obtain ⟨g1, g2⟩ := G.gl_of h1
        exact both (c := c) (s_cst (pe_glob g1 m1 m2 g2) m3) rfl rfl
      · cases h2
    · cases h
  | nil =>
    refine ⟨fun c X Wx e G tk h => by simp [chk] at h, fun c X Wx es G tk h => ?_, fun c X Wx es G tk h => ?_, fun c X Wx op es p G tk h => by simp [chkB] at h⟩
    · cases es with
      | nil => exact pa_nilE
      | cons _ _ => simp [chkL] at h
    · cases es with
      | nil => exact pa_nilE
      | cons _ _ => simp [chkD] at h
  | cons a b ia ib =>
    refine ⟨fun c X Wx e G tk h => by simp [chk] at h, fun c X Wx es G tk h => ?_, fun c X Wx es G tk h => ?_, fun c X Wx op es p G tk h => by simp [chkB] at h⟩
    · cases es with
      | nil => simp [chkL] at h
      | cons x r =>
        simp only [chkL, Bool.and_eq_true] at h
        exact pa_consE h.1.1 (ia.e c X Wx x G tk h.1.2).1 (ib.l c X Wx r G tk h.2)
    · cases es with
      | nil => simp [chkD] at h
      | cons x r =>
        simp only [chkD, Bool.and_eq_true] at h
        exact pa_consE h.1.1 (ia.e c X Wx x G tk h.1.2).1 (ib.d c X Wx r G tk h.2)
  | scons a b ia ib =>
    refine ⟨fun c X Wx e G tk h => by simp [chk] at h, fun c X Wx es G tk h => by simp [chkL] at h, fun c X Wx es G tk h => ?_, fun c X Wx op es p G tk h => by simp [chkB] at h⟩
    simp only [chkD] at h
    split at h
    · simp only [Bool.and_eq_true] at h
      exact pa_sconsE (ia.e c X Wx _ G tk h.1).1 (ib.d c X Wx _ G tk h.2)
    · cases h
  | kd op kvs k d ik id =>
    refine .only (fun c X Wx e G tk h => ?_) (fun _ _ => ⟨rfl, rfl⟩) (fun _ _ _ => rfl)
    cases op with
    | get1 =>
      simp only [chk] at h
      split at h
      · simp only [Bool.and_eq_true, beq_iff_eq] at h
        obtain ⟨⟨⟨⟨⟨h1, h2⟩, h3⟩, h4⟩, h5⟩, h6⟩ := h
        subst h2
        exact both (c := c) (s_kget1 G h1 (by rw [h3]; simp) h4 (cst_of h5) (ik.e c X Wx _ G tk h6).1) rfl rfl
      · cases h
    | get2 =>
      simp only [chk] at h
      split at h
      · simp only [Bool.and_eq_true, beq_iff_eq] at h
        obtain ⟨⟨⟨⟨⟨⟨h1, h2⟩, h3⟩, h4⟩, h5⟩, h6⟩, h7⟩ := h
        subst h2
        exact both (c := c) (s_kget2 G h1 (by rw [h3]; simp) h4 h5 (ik.e c X Wx _ G tk h6).1 (id.e c X Wx _ G tk h7).1) rfl rfl
      · cases h
    | idx =>
      simp only [chk] at h
      split at h
      · simp only [Bool.and_eq_true] at h
        obtain ⟨⟨⟨h1, h2⟩, h3⟩, h4⟩ := h
        exact both (c := c) (s_kidx G h1 (ix_plain h2) (cst_of h3) (ik.e c X Wx _ G tk h4).1) rfl rfl
      · cases h
    | isin =>
      simp only [chk] at h
      split at h
      · simp only [Bool.and_eq_true, decide_eq_true_eq] at h
        obtain ⟨⟨⟨h1, h2⟩, h3⟩, h4⟩ := h
        subst h1
        exact s_kin G h2 (cst_of h3) (ik.e c X Wx _ G tk h4).1
      · cases h
    | notin =>
      simp only [chk] at h
      split at h
      · simp only [Bool.and_eq_true, decide_eq_true_eq] at h
        obtain ⟨⟨⟨h1, h2⟩, h3⟩, h4⟩ := h
        subst h1
        exact s_knot G h2 (cst_of h3) (ik.e c X Wx _ G tk h4).1
      · cases h
  | tup es ih =>
    refine .only (fun c X Wx e G tk h => ?_) (fun _ _ => ⟨rfl, rfl⟩) (fun _ _ _ => rfl)
    simp only [chk] at h
    split at h
    · exact both (c := c) (s_tup (ih.d c X Wx _ G tk h)) rfl rfl
    · cases h
  | lst mu es ih =>
    refine .only (fun c X Wx e G tk h => ?_) (fun _ _ => ⟨rfl, rfl⟩) (fun _ _ _ => rfl)
    simp only [chk] at h
    split at h
    · exact both (c := c) (s_lst (ih.d c X Wx _ G tk h)) rfl rfl
    · cases h
  | bin o a b ia ib =>
    refine .only (fun c X Wx e G tk h => ?_) (fun _ _ => ⟨rfl, rfl⟩) (fun _ _ _ => rfl)
    simp only [chk] at h
    split at h
    · simp only [Bool.and_eq_true, decide_eq_true_eq] at h
      obtain ⟨⟨h1, h2⟩, h3⟩ := h
      subst h1
      exact both (c := c) (s_bin (ia.e c X Wx _ G tk h2).1 (ib.e c X Wx _ G tk h3).1) rfl rfl
    · cases h
  | neg a ia =>
    refine .only (fun c X Wx e G tk h => ?_) (fun _ _ => ⟨rfl, rfl⟩) (fun _ _ _ => rfl)
    simp only [chk] at h
    split at h
    · exact both (c := c) (s_neg (ia.e c X Wx _ G tk h).1) rfl rfl
    · cases h
  | cmp o a b ia ib =>
    refine .only (fun c X Wx e G tk h => ?_) (fun _ _ => ⟨rfl, rfl⟩) (fun _ _ _ => rfl)
    simp only [chk] at h
    split at h
    · simp only [Bool.and_eq_true, decide_eq_true_eq] at h
      obtain ⟨⟨⟨h1, h2⟩, h3⟩, h4⟩ := h
      subst h1
      exact ⟨s_cmp G h2 (ia.e c X Wx _ G tk h3).1 (ib.e c X Wx _ G tk h4).1, t_cmp G h2 (ia.e c X Wx _ G tk h3).1 (ib.e c X Wx _ G tk h4).1⟩
    · cases h
  | chain o1 o2 a b d ia ib id =>
    refine .only (fun c X Wx e G tk h => ?_) (fun _ _ => ⟨rfl, rfl⟩) (fun _ _ _ => rfl)
    simp only [chk] at h
    split at h
    · simp only [Bool.and_eq_true, decide_eq_true_eq] at h
      obtain ⟨⟨⟨⟨⟨h1, h2⟩, h3⟩, h4⟩, h5⟩, h6⟩ := h
      subst h1 h2
      exact ⟨s_chain G h3 (ia.e c X Wx _ G tk h4).1 (ib.e c X Wx _ G tk h5).1 (id.e c X Wx _ G tk h6).1, t_chain G h3 (ia.e c X Wx _ G tk h4).1 (ib.e c X Wx _ G tk h5).1 (id.e c X Wx _ G tk h6).1⟩
    · cases h
  | isN neg a ia =>
    refine .only (fun c X Wx e G tk h => ?_) (fun _ _ => ⟨rfl, rfl⟩) (fun _ _ _ => rfl)
    simp only [chk] at h
    split at h
    · simp only [Bool.and_eq_true, decide_eq_true_eq] at h
      obtain ⟨h1, h2⟩ := h
      subst h1
      exact ⟨s_isN (ia.e c X Wx _ G tk h2).1, t_isN (ia.e c X Wx _ G tk h2).1⟩
    · cases h
  | one a ia =>
    refine ⟨fun c X Wx e G tk h => by simp [chk] at h, fun c X Wx es G tk h => by simp [chkL] at h, fun c X Wx es G tk h => by simp [chkD] at h, fun c X Wx op es p G tk h => ?_⟩
    simp only [chkB] at h
    split at h
    · exact ⟨s_one (ia.e c X Wx _ G tk h).1, t_one (ia.e c X Wx _ G tk h).2⟩
    · cases h
  | and a b ia ib =>
    refine ⟨fun c X Wx e G tk h => ?_, fun c X Wx es G tk h => by simp [chkL] at h, fun c X Wx es G tk h => by simp [chkD] at h, fun c X Wx op es p G tk h => ?_⟩
    · simp only [chk] at h
      split at h
      · simp only [Bool.and_eq_true] at h
        exact ⟨s_and (ia.e c X Wx _ G tk h.1).1 (ib.b c X Wx _ _ _ G tk h.2).1, (t_and (ia.e c X Wx _ G tk h.1).2 (ib.b c X Wx _ _ _ G tk h.2).2).pt⟩
      · cases h
    · simp only [chkB] at h
      split at h
      · simp only [Bool.and_eq_true, decide_eq_true_eq] at h
        obtain ⟨⟨h1, h2⟩, h3⟩ := h
        subst h1
        exact ⟨s_and (ia.e c X Wx _ G tk h2).1 (ib.b c X Wx _ _ _ G tk h3).1, t_and (ia.e c X Wx _ G tk h2).2 (ib.b c X Wx _ _ _ G tk h3).2⟩
      · cases h
  | or a b ia ib =>
    refine ⟨fun c X Wx e G tk h => ?_, fun c X Wx es G tk h => by simp [chkL] at h, fun c X Wx es G tk h => by simp [chkD] at h, fun c X Wx op es p G tk h => ?_⟩
    · simp only [chk] at h
      split at h
      · simp only [Bool.and_eq_true] at h
        exact ⟨s_or (ia.e c X Wx _ G tk h.1).1 (ib.b c X Wx _ _ _ G tk h.2).1, (t_or (ia.e c X Wx _ G tk h.1).2 (ib.b c X Wx _ _ _ G tk h.2).2).pt⟩
      · cases h
    · simp only [chkB] at h
      split at h
      · simp only [Bool.and_eq_true, decide_eq_true_eq] at h
        obtain ⟨⟨h1, h2⟩, h3⟩ := h
        subst h1
        exact ⟨s_or (ia.e c X Wx _ G tk h2).1 (ib.b c X Wx _ _ _ G tk h3).1, t_or (ia.e c X Wx _ G tk h2).2 (ib.b c X Wx _ _ _ G tk h3).2⟩
      · cases h
  | not a ia =>
    refine .only (fun c X Wx e G tk h => ?_) (fun _ _ => ⟨rfl, rfl⟩) (fun _ _ _ => rfl)
    simp only [chk] at h
    split at h
    · exact ⟨s_not (ia.e c X Wx _ G tk h).1, t_not (ia.e c X Wx _ G tk h).2⟩
    · cases h
  | ite t a b it ia ib =>
    refine .only (fun c X Wx e G tk h => ?_) (fun _ _ => ⟨rfl, rfl⟩) (fun _ _ _ => rfl)
    simp only [chk] at h
    split at h
    · simp only [Bool.and_eq_true] at h
      obtain ⟨⟨h1, h2⟩, h3⟩ := h
      exact ⟨s_ite (it.e c X Wx _ G tk h1).2 (ia.e c X Wx _ G tk h2).1 (ib.e c X Wx _ G tk h3).1, t_ite (it.e c X Wx _ G tk h1).2 (ia.e c X Wx _ G tk h2).2 (ib.e c X Wx _ G tk h3).2⟩
    · cases h
  | call f args ih =>
    refine .only (fun c X Wx e G tk h => ?_) (fun _ _ => ⟨rfl, rfl⟩) (fun _ _ _ => rfl)
    simp only [chk] at h
    split at h
    · simp only [Bool.and_eq_true, decide_eq_true_eq] at h
      obtain ⟨⟨h1, h2⟩, h3⟩ := h
      exact both (c := c) (s_call G tk h1 h2 h3 (ih.l c X Wx _ G tk h3)) rfl rfl
    · cases h
  | bi b args ih =>
    refine .only (fun c X Wx e G tk h => ?_) (fun _ _ => ⟨rfl, rfl⟩) (fun _ _ _ => rfl)
    simp only [chk] at h
    split at h
    · simp only [Bool.and_eq_true, beq_iff_eq] at h
      obtain ⟨⟨⟨h1, h2⟩, h3⟩, h4⟩ := h
      exact both (c := c) (s_bi G h1 h2 h3 h4 (ih.l c X Wx _ G tk h4)) rfl rfl
    · cases h
  | isI t a ia =>
    refine .only (fun c X Wx e G tk h => ?_) (fun _ _ => ⟨rfl, rfl⟩) (fun _ _ _ => rfl)
    simp only [chk] at h
    split at h
    · simp only [Bool.and_eq_true, beq_iff_eq] at h
      obtain ⟨⟨⟨⟨⟨⟨⟨h1, h2⟩, h3⟩, h4⟩, h5⟩, h6⟩, h7⟩, h8⟩ := h
      subst h2 h5
      exact both (c := c) (s_isI G h1 h3 h4 h6 h7 (ia.e c X Wx _ G tk h8).1) rfl rfl
    · cases h
  | meth t o args io ih =>
    refine .only (fun c X Wx e G tk h => ?_) (fun _ _ => ⟨rfl, rfl⟩) (fun _ _ _ => rfl)
    simp only [chk] at h
    split at h
    · simp only [Bool.and_eq_true, beq_iff_eq, decide_eq_true_eq] at h
      obtain ⟨⟨⟨⟨⟨h1, h2⟩, h3⟩, h4⟩, h5⟩, h6⟩ := h
      subst h1
      exact both (c := c) (s_meth G (by rw [h2]; simp) h3 h4 (io.e c X Wx _ G tk h5).1 h6 (ih.l c X Wx _ G tk h6)) rfl rfl
    · cases h
  | idx a i ia ii =>
    refine .only (fun c X Wx e G tk h => ?_) (fun _ _ => ⟨rfl, rfl⟩) (fun _ _ _ => rfl)
    simp only [chk] at h
    split at h
    · simp only [Bool.and_eq_true] at h
      obtain ⟨⟨h1, h2⟩, h3⟩ := h
      exact both (c := c) (s_idx h1 (ia.e c X Wx _ G tk h2).1 (ii.e c X Wx _ G tk h3).1) rfl rfl
    · cases h
  | sl hl hh a lo hi ia il ih =>
    refine .only (fun c X Wx e G tk h => ?_) (fun _ _ => ⟨rfl, rfl⟩) (fun _ _ _ => rfl)
    simp only [chk] at h
    split at h
    · simp only [Bool.and_eq_true] at h
      obtain ⟨⟨h1, h2⟩, h3⟩ := h
      refine both (c := c) (s_sl (ia.e c X Wx _ G tk h1).1 ?_ ?_) rfl rfl
      · rcases so_of h2 with ⟨z1, z2, z3⟩ | ⟨y, z1, z2, z3⟩
        · exact .inl ⟨z1, z2, cst_of z3⟩
        · exact .inr ⟨y, z1, z2, (il.e c X Wx _ G tk z3).1⟩
      · rcases so_of h3 with ⟨z1, z2, z3⟩ | ⟨y, z1, z2, z3⟩
        · exact .inl ⟨z1, z2, cst_of z3⟩
        · exact .inr ⟨y, z1, z2, (ih.e c X Wx _ G tk z3).1⟩
    · cases h
  | lc mu own tg ik e1 e2 cond elt i1 i2 ic ie =>
    refine .only (fun c X Wx e G tk h => ?_) (fun _ _ => ⟨rfl, rfl⟩) (fun _ _ _ => rfl)
    simp only [chk] at h
    split at h
    · simp only [Bool.and_eq_true, decide_eq_true_eq] at h
      obtain ⟨⟨⟨⟨⟨⟨⟨h0, h1⟩, h2⟩, h3⟩, h4⟩, h5⟩, h6⟩, h7⟩ := h
      subst h0
      refine both (c := c) (s_lc G h1 h2 h3 h5 (it_of G tk i1 i2 h4) (fun X' _ G' tk' => ?_) fun X' _ G' tk' => (ie.e _ X' _ _ G' tk' h7).1) rfl rfl
      unfold chkC at h6
      split at h6
      · rw [yes_of h6]
        refine pts_imp pts_nil ?_
        rintro σ H Q ⟨W, r', m, Qd, R, hs, hr, ⟨t, et, q⟩, hc, hx⟩
        cases et
        exact hc W true m H (.refl hr) hr q
      · exact pts_one (ic.e _ X' _ _ G' tk' h6).2
      · cases h6
    · cases h
end
end Dy

/-! Dp, part J: statements. -/
namespace Dy
open PySem PySem.Spec L2
inductive S where
  | nil
  | cons (a b : S)
  | expr (e : E)
  | ret (e : E)
  | retN
  | asg (tg : Tg) (e : E)
  | par (is : List Nat) (es : E)
  | asgStar (is : List Nat) (j : Nat) (e : E)
  | setIx (o i e : E)
  | ite (c : E) (a b : S)
  | loop (tg : Tg) (ik : IK) (e1 e2 : E) (body : S)
  | whil (c : E) (body : S)
  | raise (k : Nat) (e : E)
  | pass
  | brk
  | cont
  | never
structure En where
  nx : Env → Store → Prop
  rt : Val → Store → Prop
  bk : Env → Store → Prop
  ct : Env → Store → Prop
  rx : Env → Rq
/-- o[i] = v -/
def setW (o i v : Val) (m : Store) (Q : Store → Prop) : Prop :=
  match o, i with
  | .loc n, .int k => ∃ vs j, m[n]? = some (.list vs) ∧ ixN vs.length k = some j ∧ Q (m.set n (.list (vs.set j v)))
  | _, _ => False
/-- the turns of a for -/
def forW (live : Store → Prop) (step : Val → Env → Store → (Env → Store → Prop) → Prop) (k : Env → Store → Prop) : List Val → Env → Store → Prop
  | [], r, m => live m ∧ k r m
  | x :: xs, r, m => live m ∧ step x r m fun r1 m1 => forW live step k xs r1 m1
def wpS (F : Nat → FS) : S → Env → Store → En → Prop
  | .nil, r, m, D => D.nx r m
  | .cons a b, r, m, D => wpS F a r m { D with nx := fun r m => wpS F b r m D }
  | .expr e, r, m, D => wpE F e r m (fun _ m1 => D.nx r m1) (D.rx r)
  | .ret e, r, m, D => wpE F e r m D.rt (D.rx r)
  | .retN, _, m, D => D.rt .non m
  | .asg tg e, r, m, D => wpE F e r m (fun v m1 => ∃ r1, tgF tg v r = some r1 ∧ D.nx r1 m1) (D.rx r)
  | .par is es, r, m, D => wpA F es r m (fun vs m1 => ∃ r1, setAll is vs r = some r1 ∧ D.nx r1 m1) (D.rx r)
  | .asgStar is j e, r, m, D => wpE F e r m (fun v m1 => ∃ vs, sq m1 v = some vs ∧ is.length ≤ vs.length ∧ ∃ r1, setAll (is ++ [j]) (vs.take is.length ++ [.il true (vs.drop is.length)]) r = some r1 ∧ D.nx r1 m1) (D.rx r)
  | .setIx o i e, r, m, D => wpE F e r m (fun v m1 => wpE F o r m1 (fun ov m2 => wpE F i r m2 (fun iv m3 => setW ov iv v m3 fun m4 => D.nx r m4) (D.rx r)) (D.rx r)) (D.rx r)
  | .ite c a b, r, m, D => wpT F c r m (fun t m1 => if t = true then wpS F a r m1 D else wpS F b r m1 D) (D.rx r)
  | .loop tg ik e1 e2 body, r, m, D => wpI F ik e1 e2 r m (fun items live m1 => forW live (fun x r m nx => ∃ r1, tgF tg x r = some r1 ∧ wpS F body r1 m { D with nx := nx, ct := nx, bk := D.nx }) D.nx items r m1) (D.rx r)
  | .whil c body, r, m, D => ∃ I : Nat → Env → Store → Prop, (∃ n, I n r m) ∧ ∀ n r m, I n r m → wpT F c r m (fun t m1 => if t = true then wpS F body r m1 { D with nx := fun r m => ∃ k, k < n ∧ I k r m, ct := fun r m => ∃ k, k < n ∧ I k r m, bk := D.nx } else D.nx r m1) (D.rx r)
  | .raise k e, r, m, D => wpE F e r m (fun v m1 => D.rx r k v m1) (D.rx r)
  | .pass, r, m, D => D.nx r m
  | .brk, r, m, D => D.bk r m
  | .cont, r, m, D => D.ct r m
  | .never, _, _, _ => False
/-! ### the text -/
def notComp : Expr → Bool
  | .ListComp _ _ _ _ => false
  | .SetComp _ _ _ _ => false
  | .DictComp _ _ _ _ _ => false
  | _ => true
def notTup : Expr → Bool
  | .Tuple _ _ _ => false
  | _ => true
def isTup : Expr → Bool
  | .Tuple _ _ _ => true
  | .List _ _ => true
  | _ => false
def compLine (y : Str) (py : Pos) (c : Cc) : Expr → Bool
  | .ListComp _ _ scope pos => decide (c.names.lookup y = some .local) && (py.line == pos.line) && !(scope.names.any fun (n, k) => n == y && (k == .local || k == .cell))
  | _ => false
/-- both sides written: the stores are exchanged -/
def parOk (c : Cc) (ts vs : List Expr) (is : List Nat) : Bool :=
  (ts.length == vs.length) && (match ts, is with
    | [.Name x px, .Name y py], [i, j] => decide (c.N[i]? = some x) && decide (c.N[j]? = some y) && decide (c.names.lookup x = some .local) && decide (c.names.lookup y = some .local) && (py.line == px.line) && !(i == j)
    | [.Name x px, .Name y py, .Name z pz], [i, j, l] => decide (c.N[i]? = some x) && decide (c.N[j]? = some y) && decide (c.N[l]? = some z) && decide (c.names.lookup x = some .local) && decide (c.names.lookup y = some .local) && decide (c.names.lookup z = some .local)
        && (py.line == px.line) && (pz.line == px.line) && !(i == j) && !(i == l) && !(j == l)
    | _, _ => false) && !vs.all (foldedForSure 8) && !vs.all (constantsAlone 8)
/-- names, the last one with a star -/
def chkStar (c : Cc) : List Expr → List Nat → Nat → Bool
  | [.Starred (.Name x _) _], [], j => canSet c j x
  | .Name x _ :: r, i :: is, j => canSet c i x && chkStar c r is j
  | _, _, _ => false
mutual
def chkS (c : Cc) (st : Stmt) : S → Bool
  | .nil => false
  | .cons _ _ => false
  | .expr e => match st with
    | .Expr x _ => notComp x && chk c x e
    | _ => false
  | .ret e => match st with
    | .Return (some x) _ => chk c x e
    | _ => false
  | .retN => match st with
    | .Return none _ => true
    | _ => false
  | .asg tg e => match st with
    | .Assign [t] x _ => chkTg c t tg && chk c x e && ((notComp x && (notTup x || !isTup t)) || (match t with | .Name y py => compLine y py c x | _ => false))
    | _ => false
  | .par is es => match st with
    | .Assign [.Tuple ts _ _] (.Tuple vs _ _) _ => parOk c ts vs is && chkL c vs es
    | _ => false
  | .asgStar is j e => match st with
    | .Assign [.Tuple ts _ _] x _ => chkStar c ts is j && notComp x && notTup x && chk c x e
    | _ => false
  | .setIx o i e => match st with
    | .Assign [.Subscript x y _] z _ => notSlice y && notComp z && chk c x o && chk c y i && chk c z e
    | _ => false
  | .ite t a b => match st with
    | .If x y z _ => chk c x t && chkSs c y a && chkSs c z b
    | _ => false
  | .loop tg ik e1 e2 body => match st with
    | .For t it bd [] _ => chkTg c t tg && notSet it && chkIt c t it ik (isCst e2) (fun z => chk c z e1) (fun z => chk c z e2) && chkSs c bd body
    | _ => false
  | .whil t body => match st with
    | .While x bd [] _ => chk c x t && chkSs c bd body
    | _ => false
  | .raise _ _ => false
  | .pass => match st with
    | .Pass _ => true
    | _ => false
  | .brk => match st with
    | .Break _ => true
    | _ => false
  | .cont => match st with
    | .Continue _ => true
    | _ => false
  | .never => true
def chkSs (c : Cc) (sts : List Stmt) : S → Bool
  | .nil => match sts with
    | [] => true
    | _ => false
  | .cons a b => match sts with
    | st :: r => chkS c st a && chkSs c r b
    | _ => false
  | .never => true
  | _ => false
end
/-! ### readings -/
structure EnOk (K : Frag) (cl : Cls) (Wx : WX) (W : Wd) (H : Hp) (D : Ends) (d : En) : Prop where
  nx : ∀ W' r' m' σ' H', Ext W H W' H' → SR K W' H' r' σ' → HR K W' m' H' → d.nx r' m' → D.nx σ' H'
  rt : Cont K W H d.rt D.rt
  bk : ∀ W' r' m' σ' H', Ext W H W' H' → SR K W' H' r' σ' → HR K W' m' H' → d.bk r' m' → D.bk σ' H'
  ct : ∀ W' r' m' σ' H', Ext W H W' H' → SR K W' H' r' σ' → HR K W' m' H' → d.ct r' m' → D.ct σ' H'
  rx : ∀ W' r' σ' H', Ext W H W' H' → SR K W' H' r' σ' → ContX K cl W' H' σ' (d.rx r') Wx
theorem EnOk.mono {K : Frag} {cl : Cls} {Wx : WX} {W W1 : Wd} {H H1 : Hp} {D : Ends} {d : En} (k : EnOk K cl Wx W H D d) (e : Ext W H W1 H1) : EnOk K cl Wx W1 H1 D d where
  nx := fun W' r' m' σ' H' e' => k.nx W' r' m' σ' H' (e.trans e')
  rt := k.rt.mono e
  bk := fun W' r' m' σ' H' e' => k.bk W' r' m' σ' H' (e.trans e')
  ct := fun W' r' m' σ' H' e' => k.ct W' r' m' σ' H' (e.trans e')
  rx := fun W' r' σ' H' e' => k.rx W' r' σ' H' (e.trans e')
def TSof (K : Frag) (cl : Cls) (Wx : WX) (wp : Env → Store → En → Prop) : TS := fun D σ H =>
  ∃ (W : Wd) (r : Env) (m : Store) (d : En), SR K W H r σ ∧ HR K W m H ∧ wp r m d ∧ EnOk K cl Wx W H D d
structure GoodS (F : Nat → FS) (cl : Cls) (c : Cc) (X : Cx) : Prop extends Good F cl c X where
  po : PassesOwn (model X.prog X.w) X.A X.env X.xe
section
variable {F : Nat → FS} {cl : Cls} {c : Cc} {X : Cx} {Wx : WX}
abbrev PSt (F : Nat → FS) (cl : Cls) (X : Cx) (Wx : WX) (st : Stmt) (a : S) : Prop := PS X st (TSof X.K cl Wx (wpS F a))
abbrev PSts (F : Nat → FS) (cl : Cls) (X : Cx) (Wx : WX) (st : List Stmt) (a : S) : Prop := PSs X st (TSof X.K cl Wx (wpS F a))
theorem EnOk.x0 {K : Frag} {W : Wd} {H : Hp} {D : Ends} {d : En} {r : Env} {σ : St} {m : Store} (k : EnOk K cl Wx W H D d) (hs : SR K W H r σ) (hr : HR K W m H) : ContX K cl W H σ (d.rx r) Wx := k.rx W r σ H (.refl hr) hs
theorem swap_no {e : Expr} (h : notComp e = true) (t : Option Expr) (l : Nat) (env : PySem.Env) : swapsWith e t l env = pure false := by
  cases e <;> first | rfl | cases h
theorem st_expr {x : Expr} {e : E} {p : Pos} (h : notComp x = true) (he : PEs F cl X Wx x e) : PSt F cl X Wx (.Expr x p) (.expr e) := by
  refine ps_imp (ps_expr he (swap_no h _ _ _)) ?_
  rintro D σ H ⟨W, r, m, d, hs, hr, hw, k⟩
  refine TEof.bind hs hr hw (k.x0 hs hr) ?_
  rintro W1 v x m1 H1 e1 rv hr1 hs1 hx1 q
  exact k.nx _ _ _ _ _ e1 hs1 hr1 q
theorem st_ret {x : Expr} {e : E} {p : Pos} (he : PEs F cl X Wx x e) : PSt F cl X Wx (.Return (some x) p) (.ret e) := by
  refine ps_imp (ps_ret he) ?_
  rintro D σ H ⟨W, r, m, d, hs, hr, hw, k⟩
  refine TEof.bind hs hr hw (k.x0 hs hr) ?_
  rintro W1 v x m1 H1 e1 rv hr1 hs1 hx1 q
  exact k.rt _ _ _ _ _ e1 rv hr1 q
theorem st_retN {p : Pos} : PSt F cl X Wx (.Return none p) .retN := by
  refine ps_imp ps_retN ?_
  rintro D σ H ⟨W, r, m, d, hs, hr, hw, k⟩
  exact k.rt.here hr .non hw
/-- an assignment by the target's reading -/
theorem asg_bind {tg : Tg} {e : E} {D : Ends} {σ : St} {H : Hp} (h : TSof X.K cl Wx (wpS F (.asg tg e)) D σ H) : tAsg (TEof X.K cl Wx (wpE F e)) (TGof X.K tg) D σ H := by
  obtain ⟨W, r, m, d, hs, hr, hw, k⟩ := h
  refine TEof.bind hs hr hw (k.x0 hs hr) ?_
  rintro W1 v x m1 H1 e1 rv hr1 hs1 hx1 ⟨r1, et, q⟩
  exact ⟨W1, r, m1, v, r1, hs1, hr1, rv, et, fun σ' hs' _ => k.nx _ _ _ _ _ e1 hs' hr1 q⟩
theorem tg_one {t : Expr} {tg : Tg} (h : chkTg c t tg = true) (env : PySem.Env) : (assignEach [t] env).map (·.2) = [assign t env] := by
  cases tg <;> simp only [chkTg] at h <;> split at h <;> first | rfl | cases h
theorem st_asg (G : Good F cl c X) {t x : Expr} {tg : Tg} {e : E} {p : Pos} (h1 : chkTg c t tg = true) (h2 : notComp x = true) (h3 : (notTup x || !isTup t) = true) (he : PEs F cl X Wx x e) : PSt F cl X Wx (.Assign [t] x p) (.asg tg e) := by
  refine ps_imp (ps_asg he (g_of G h1) (swap_no h2 _ _ _) ?_ (tg_one h1 _)) fun D σ H h => asg_bind h
  cases tg with
  | name i =>
    simp only [chkTg] at h1
    split at h1
    · rfl
    · cases h1
  | tup is =>
    simp only [chkTg] at h1
    split at h1
    · simp only [isTup, Bool.or_eq_true, Bool.not_true, Bool.false_eq_true, or_false] at h3
      cases x <;> first | rfl | cases h3
    · cases h1
/-- a comprehension that is stored within its own frame -/
theorem st_asgLc (G : Good F cl c X) {x : Str} {px : Pos} {i : Nat} {y t it : Expr} {ifs : List Expr} {scope : Scope} {p sp : Pos} {mu : Bool} {own : List Nat} {tg : Tg} {ik : IK} {e1 e2 cond elt : E}
    (hset : canSet c i x = true) (hcl : compLine x px c (.ListComp y [⟨t, it, ifs, 0⟩] scope p) = true)
    (hb : blkC c.N { kind := .function, names := c.names, isGenerator := false, isCoroutine := false } scope (ownOf c own) = true) (ht : tgIn own tg = true) (htg : chkTg (c.blk scope) t tg = true) (hn : notSet it = true)
    (hi : PI X t it (TIof X.K cl Wx (wpI F ik e1 e2)))
    (hcond : ∀ (X' : Cx), X'.K = X.K → Good F cl (c.blk scope) X' → Takes X' (fun _ _ _ _ => False) → PTs X' ifs (TTof X'.K cl (fun _ _ _ _ => False) (wpT F cond)))
    (helt : ∀ (X' : Cx), X'.K = X.K → Good F cl (c.blk scope) X' → Takes X' (fun _ _ _ _ => False) → PEs F cl X' (fun _ _ _ _ => False) y elt) :
    PSt F cl X Wx (.Assign [.Name x px] (.ListComp y [⟨t, it, ifs, 0⟩] scope p) sp) (.asg (.name i) (.lc mu own tg ik e1 e2 cond elt)) := by
  have ok := blk_of G hb
  have Gb : ∀ (s : Shared) (H : Hp) (C : Addr) (cls : List (Str × Addr)) (fp : List Addr), Good F cl (c.blk scope) (X.blk s H scope (compEnvC scope cls C X.env) fp) := fun s H C cls fp => G.blk scope ok.kind s H C cls fp
  unfold compLine at hcl
  simp only [Bool.and_eq_true, decide_eq_true_eq] at hcl
  obtain ⟨⟨l1, l2⟩, l3⟩ := hcl
  have hloc : X.env.scope.names.lookup x = some .local := by rw [G.names]; exact l1
  obtain ⟨n1, n2, n3⟩ := G.set hset
  refine ps_imp (ps_setLc (g := TGof X.K tg) (tt := TTof X.K cl (fun _ _ _ _ => False) (wpT F cond)) (te := TEof X.K cl (fun _ _ _ _ => False) (wpE F elt)) G.calm (by rw [G.hN]; exact G.nd) n1 hloc (sw_true G.kind hloc l2 (by simpa using l3)) hi ok (fun s H C cls fp => g_of (Gb s H C cls fp) htg)
    (fun s H C cls fp => hcond (X.blk s H scope (compEnvC scope cls C X.env) fp) rfl (Gb s H C cls fp) takes_blk) (fun s H C cls fp => helt (X.blk s H scope (compEnvC scope cls C X.env) fp) rfl (Gb s H C cls fp) takes_blk) (fold_of hn X.env)) ?_
  rw [ownOf_map]
  rintro D σ H ⟨W, r, m, d, hs, hr, hw, k⟩
  refine lc_imp ht σ H _ (TEof.bind hs hr hw (k.x0 hs hr) ?_)
  rintro W1 v z m1 H1 x1 rv hr1 hs1 hx1 ⟨r1, et, q⟩
  cases et
  exact k.nx _ _ _ _ _ x1 (hs1.set rv i) hr1 q
theorem nd_dups2 {x y : Str} (h : x ≠ y) : ([x, y] : List Str).eraseDups.length = 2 := by
  have : (y == x) = false := by simpa using fun z => h z.symm
  simp [List.eraseDups, List.eraseDupsBy, List.eraseDupsBy.loop, this]
theorem nd_dups3 {x y z : Str} (h : x ≠ y) (h2 : x ≠ z) (h3 : y ≠ z) : ([x, y, z] : List Str).eraseDups.length = 3 := by
  have a : (y == x) = false := by simpa using fun q => h q.symm
  have b : (z == x) = false := by simpa using fun q => h2 q.symm
  have d : (z == y) = false := by simpa using fun q => h3 q.symm
  simp [List.eraseDups, List.eraseDupsBy, List.eraseDupsBy.loop, a, b, d]
theorem swapped2 {env : PySem.Env} {x y : Str} {px py pt pv : Pos} {a b : Expr} {kt kv : Nat} (hk : env.blockKind = .function) (kx : env.kindOf x = some .local) (ky : env.kindOf y = some .local) (hl : py.line = px.line) (hxy : x ≠ y) (na : noStar a = true) (nb : noStar b = true)
    (h3 : [a, b].all (foldedForSure 8) = false) (h4 : [a, b].all (constantsAlone 8) = false) : swappedStores [.Tuple [.Name x px, .Name y py] kt pt] (.Tuple [a, b] kv pv) env = pure (some [x, y]) := by
  have hd := nd_dups2 hxy
  have sa : ∀ v p, a ≠ .Starred v p := fun v p z => by subst z; cases na
  have sb : ∀ v p, b ≠ .Starred v p := fun v p z => by subst z; cases nb
  unfold swappedStores
  simp only [hk, kx, ky, hl, h3, h4, hd, Expr.pos, List.head?_cons, Option.map_some, Option.getD_some, List.filterMap_cons, List.filterMap_nil, BEq.rfl, Bool.and_self, if_true, List.any_cons, List.any_nil]
  simp
theorem swapped3 {env : PySem.Env} {x y z : Str} {px py pz pt pv : Pos} {a b d : Expr} {kt kv : Nat} (hk : env.blockKind = .function) (kx : env.kindOf x = some .local) (ky : env.kindOf y = some .local) (kz : env.kindOf z = some .local) (hl : py.line = px.line) (hl2 : pz.line = px.line) (hxy : x ≠ y) (hxz : x ≠ z) (hyz : y ≠ z)
    (na : noStar a = true) (nb : noStar b = true) (nd : noStar d = true) (h3 : [a, b, d].all (foldedForSure 8) = false) (h4 : [a, b, d].all (constantsAlone 8) = false) : swappedStores [.Tuple [.Name x px, .Name y py, .Name z pz] kt pt] (.Tuple [a, b, d] kv pv) env = pure (some [x, y, z]) := by
  have hd := nd_dups3 hxy hxz hyz
  have sa : ∀ v p, a ≠ .Starred v p := fun v p z => by subst z; cases na
  have sb : ∀ v p, b ≠ .Starred v p := fun v p z => by subst z; cases nb
  have sd : ∀ v p, d ≠ .Starred v p := fun v p z => by subst z; cases nd
  unfold swappedStores
  simp only [hk, kx, ky, kz, hl, hl2, h3, h4, hd, Expr.pos, List.head?_cons, Option.map_some, Option.getD_some, List.filterMap_cons, List.filterMap_nil, BEq.rfl, Bool.and_self, if_true, List.any_cons, List.any_nil]
  simp
theorem chkL_ns {c : Cc} : ∀ {a : E} {x : Expr} {r : List Expr}, chkL c (x :: r) a = true → noStar x = true ∧ ∃ b, chkL c r b = true
  | .cons a b, x, r, h => by
    simp only [chkL, Bool.and_eq_true] at h
    exact ⟨h.1.1, b, h.2⟩
  | .nil, _, _, h => by simp [chkL] at h
  | .var _, _, _, h => by simp [chkL] at h
  | .cst _, _, _, h => by simp [chkL] at h
  | .tup _, _, _, h => by simp [chkL] at h
  | .lst _ _, _, _, h => by simp [chkL] at h
  | .bin _ _ _, _, _, h => by simp [chkL] at h
  | .neg _, _, _, h => by simp [chkL] at h
  | .cmp _ _ _, _, _, h => by simp [chkL] at h
  | .chain _ _ _ _ _, _, _, h => by simp [chkL] at h
  | .isN _ _, _, _, h => by simp [chkL] at h
  | .one _, _, _, h => by simp [chkL] at h
  | .and _ _, _, _, h => by simp [chkL] at h
  | .or _ _, _, _, h => by simp [chkL] at h
  | .not _, _, _, h => by simp [chkL] at h
  | .ite _ _ _, _, _, h => by simp [chkL] at h
  | .call _ _, _, _, h => by simp [chkL] at h
  | .bi _ _, _, _, h => by simp [chkL] at h
  | .isI _ _, _, _, h => by simp [chkL] at h
  | .meth _ _ _, _, _, h => by simp [chkL] at h
  | .idx _ _, _, _, h => by simp [chkL] at h
  | .sl _ _ _ _ _, _, _, h => by simp [chkL] at h
  | .lc _ _ _ _ _ _ _ _, _, _, h => by simp [chkL] at h
  | .scons _ _, _, _, h => by simp [chkL] at h
  | .kd _ _ _ _, _, _, h => by simp [chkL] at h
theorem st_par (G : Good F cl c X) {ts vs : List Expr} {is : List Nat} {es : E} {kt kv : Nat} {pt pv p : Pos} (h : parOk c ts vs is = true) (hL : chkL c vs es = true) (ha : PAs F cl X Wx vs es) : PSt F cl X Wx (.Assign [.Tuple ts kt pt] (.Tuple vs kv pv) p) (.par is es) := by
  have hh := h
  unfold parOk at h
  simp only [Bool.and_eq_true] at h
  obtain ⟨⟨⟨h1, h2⟩, h3⟩, h4⟩ := h
  simp only [Bool.not_eq_true'] at h3 h4
  have hbk : X.env.blockKind = .function := by unfold PySem.Env.blockKind; rw [G.kind]; rfl
  have hlen : ts.length = vs.length := by simpa using h1
  have ndN : X.N.Nodup := by rw [G.hN]; exact G.nd
  have neN : ∀ {i j : Nat} {x y : Str}, c.N[i]? = some x → c.N[j]? = some y → (i == j) = false → x ≠ y := fun {i j x y} e1 e2 hij z => by
    subst z
    have := nodup_ix G.nd e1 e2
    subst this
    simp at hij
  split at h2
  · rename_i x px y py i j
    simp only [Bool.and_eq_true, decide_eq_true_eq, Bool.not_eq_true', beq_iff_eq] at h2
    obtain ⟨⟨⟨⟨⟨k1, k2⟩, k3⟩, k4⟩, k5⟩, k6⟩ := h2
    have kx : X.env.kindOf x = some .local := by show X.env.scope.names.lookup x = _; rw [G.names]; exact k3
    have ky : X.env.kindOf y = some .local := by show X.env.scope.names.lookup y = _; rw [G.names]; exact k4
    have hxy : x ≠ y := neN k1 k2 k6
    match vs, hlen with
    | [a, b], _ =>
      obtain ⟨na, b1, hL1⟩ := chkL_ns hL
      obtain ⟨nb, _⟩ := chkL_ns hL1
      have hw := swapped2 (kt := kt) (kv := kv) (pt := pt) (pv := pv) (px := px) (py := py) hbk kx ky k5 hxy na nb h3 h4
      refine ps_imp (ps_par G.calm ndN (by rw [G.hN]; exact k1) (by rw [G.hN]; exact k2) (by simpa using k6) kx ky ha hw rfl) ?_
      rintro D σ H ⟨W, r, m, d, hs, hr, hw, k⟩
      refine TAof.bind hs hr hw (k.x0 hs hr) ?_
      rintro W1 ws xs m1 H1 x1 rvs hr1 hs1 hx1 ⟨r1, et, q⟩
      cases rvs with
      | nil => simp [setAll] at et
      | cons r1 t1 => cases t1 with
        | nil => simp [setAll] at et
        | cons r2 t2 => cases t2 with
          | cons _ _ => simp [setAll] at et
          | nil =>
            cases et
            exact ⟨_, _, rfl, k.nx _ _ _ _ _ x1 ((hs1.set r1 i).set r2 j) hr1 q⟩
  · rename_i x px y py z pz i j l
    simp only [Bool.and_eq_true, decide_eq_true_eq, Bool.not_eq_true', beq_iff_eq] at h2
    obtain ⟨⟨⟨⟨⟨⟨⟨⟨⟨⟨k1, k2⟩, k3⟩, k4⟩, k5⟩, k6⟩, k7⟩, k8⟩, k9⟩, ka⟩, kb⟩ := h2
    have kx : X.env.kindOf x = some .local := by show X.env.scope.names.lookup x = _; rw [G.names]; exact k4
    have ky : X.env.kindOf y = some .local := by show X.env.scope.names.lookup y = _; rw [G.names]; exact k5
    have kz : X.env.kindOf z = some .local := by show X.env.scope.names.lookup z = _; rw [G.names]; exact k6
    match vs, hlen with
    | [a, b, e], _ =>
      obtain ⟨na, b1, hL1⟩ := chkL_ns hL
      obtain ⟨nb, b2, hL2⟩ := chkL_ns hL1
      obtain ⟨ne, _⟩ := chkL_ns hL2
      have hw := swapped3 (kt := kt) (kv := kv) (pt := pt) (pv := pv) (px := px) (py := py) (pz := pz) hbk kx ky kz k7 k8 (neN k1 k2 k9) (neN k1 k3 ka) (neN k2 k3 kb) na nb ne h3 h4
      refine ps_imp (ps_par3 G.calm ndN (by rw [G.hN]; exact k1) (by rw [G.hN]; exact k2) (by rw [G.hN]; exact k3) (by simpa using k9) (by simpa using ka) (by simpa using kb) kx ky kz ha hw rfl) ?_
      rintro D σ H ⟨W, r, m, d, hs, hr, hw, k⟩
      refine TAof.bind hs hr hw (k.x0 hs hr) ?_
      rintro W1 ws xs m1 H1 x1 rvs hr1 hs1 hx1 ⟨r1, et, q⟩
      cases rvs with
      | nil => simp [setAll] at et
      | cons r1 t1 => cases t1 with
        | nil => simp [setAll] at et
        | cons r2 t2 => cases t2 with
          | nil => simp [setAll] at et
          | cons r3 t3 => cases t3 with
            | cons _ _ => simp [setAll] at et
            | nil =>
              cases et
              exact ⟨_, _, _, rfl, k.nx _ _ _ _ _ x1 (((hs1.set r1 i).set r2 j).set r3 l) hr1 q⟩
  · cases h2
theorem pgs_star (G : Good F cl c X) : ∀ {es : List Expr} {is : List Nat} {j : Nat}, chkStar c es is j = true → PGs X es (gsOf (is ++ [j])) ∧ (assignEach es X.env).length = is.length + 1 ∧ (assignEach es X.env).findIdx? (·.1) = some is.length := by
  intro es is
  induction is generalizing es with
  | nil =>
    intro j h
    unfold chkStar at h
    split at h
    · exact ⟨pgs_last (G.pg h), rfl, rfl⟩
    · rename_i e; cases e
    · cases h
  | cons i is ih =>
    intro j h
    unfold chkStar at h
    split at h
    · rename_i e; cases e
    · rename_i x p r i' is' e
      cases e
      simp only [Bool.and_eq_true] at h
      obtain ⟨h1, h2, h3⟩ := ih h.2
      refine ⟨pgs_cons (G.pg h.1) h1 rfl, ?_, ?_⟩
      · show (assignEach r X.env).length + 1 = _
        rw [h2]; rfl
      · show ((false, assign (.Name x p) X.env) :: assignEach r X.env).findIdx? (·.1) = _
        rw [List.findIdx?_cons]
        simp [h3]
    · cases h
theorem setAll_okN {K : Frag} {W : Wd} {H : Hp} {is : List Nat} {vs : List Val} {xs : List V} {r r' : Env} {σ : St} {Q : St → Hp → Prop} (hs : SR K W H r σ) (rv : RVs K W H vs xs) (e : setAll is vs r = some r') (k : ∀ σ', SR K W H r' σ' → Q σ' H) : gsOf is xs σ H Q :=
  setAll_ok hs rv e fun σ' h _ => k σ' h
theorem st_asgStar (G : Good F cl c X) {ts : List Expr} {x : Expr} {is : List Nat} {j : Nat} {e : E} {kt : Nat} {pt p : Pos} (h1 : chkStar c ts is j = true) (h2 : notComp x = true) (h3 : notTup x = true) (he : PEs F cl X Wx x e) : PSt F cl X Wx (.Assign [.Tuple ts kt pt] x p) (.asgStar is j e) := by
  obtain ⟨g1, g2, g3⟩ := pgs_star G h1
  refine ps_imp (ps_asg he (pg_star G.calm g1 g2 g3) (swap_no h2 (some (.Tuple ts kt pt)) p.line X.env) (by cases x <;> first | rfl | cases h3) rfl) ?_
  rintro D σ H ⟨W, r, m, d, hs, hr, hw, k⟩
  refine TEof.bind hs hr hw (k.x0 hs hr) ?_
  rintro W1 v x m1 H1 e1 rv hr1 hs1 hx1 ⟨vs, hv, hl, r1, et, q⟩
  obtain ⟨kd, a, xs, rfl, sq, rx, _⟩ := sq_G hr1 rv hv
  refine ⟨kd, a, xs, rfl, sq, by rw [← rx.length]; exact hl, fun p hp => ?_⟩
  obtain ⟨e2, hr2, rl⟩ := new_il hr1 hp (rx.drop is.length)
  have rt : RVs X.K (W1.withI p) (upd H1 p (.lst (xs.drop is.length))) (vs.take is.length ++ [.il true (vs.drop is.length)]) (xs.take is.length ++ [.ref p]) := ((rx.take _).mono hr1 e2).append (.cons rl .nil)
  exact setAll_okN (hs1.mono hr1 e2) rt et fun σ' hs' => k.nx _ _ _ _ _ (e1.trans e2) hs' hr2 q
theorem st_setIx {x y z : Expr} {o i e : E} {p p2 : Pos} (h1 : notSlice y = true) (h2 : notComp z = true) (ho : PEs F cl X Wx x o) (hi : PEs F cl X Wx y i) (he : PEs F cl X Wx z e) : PSt F cl X Wx (.Assign [.Subscript x y p2] z p) (.setIx o i e) := by
  refine ps_imp (ps_asg he (pg_sub ho hi set_list (fun v => ?_)) (swap_no h2 (some (.Subscript x y p2)) p.line X.env) rfl rfl) ?_
  · cases y <;> first | rfl | cases h1
  rintro D σ H ⟨W, r, m, d, hs, hr, hw, k⟩
  have kx := k.x0 hs hr
  refine TEof.bind hs hr hw kx ?_
  rintro W1 v xv m1 H1 x1 rv hr1 hs1 hx1 hw1
  refine TEof.bind hs1 hr1 hw1 hx1 ?_
  rintro W2 ov xo m2 H2 x2 ro hr2 hs2 hx2 hw2
  refine TEof.bind hs2 hr2 hw2 hx2 ?_
  rintro W3 iv xi m3 H3 x3 ri hr3 hs3 hx3 q
  unfold setW at q
  split at q
  · obtain ⟨vs, j, e1, e2, q⟩ := q
    cases ro with
    | loc q0 =>
      have q0' := phi_keep x3 q0
      rw [ri.int_inv]
      obtain ⟨ys, q1, r1⟩ := loc_at hr3 q0' e1
      have rv3 := (rv.mono hr1 x2).mono hr2 x3
      obtain ⟨ex, h4⟩ := set_loc hr3 e1 q0' (r1.set rv3 j)
      exact ⟨_, ys, _, j, rfl, rfl, q1, by rw [← r1.length]; exact e2, k.nx _ _ _ _ _ (((x1.trans x2).trans x3).trans ex) (hs3.mono hr3 ex) h4 q⟩
  · exact q.elim
theorem st_ite {x : Expr} {y z : List Stmt} {t : E} {a b : S} {p : Pos} (ht : PTs' F cl X Wx x t) (ha : PSts F cl X Wx y a) (hb : PSts F cl X Wx z b) : PSt F cl X Wx (.If x y z p) (.ite t a b) := by
  refine ps_imp (ps_if ht ha hb) ?_
  rintro D σ H ⟨W, r, m, d, hs, hr, hw, k⟩
  refine TTof.bind hs hr hw (k.x0 hs hr) ?_
  rintro W1 b m1 H1 x1 hr1 hs1 hx1 q
  cases b with
  | true => rw [if_pos rfl] at q ⊢; exact ⟨W1, r, m1, d, hs1, hr1, q, k.mono x1⟩
  | false => rw [if_neg Bool.false_ne_true] at q ⊢; exact ⟨W1, r, m1, d, hs1, hr1, q, k.mono x1⟩
theorem st_loop (G : GoodS F cl c X) {t it : Expr} {bd : List Stmt} {tg : Tg} {ik : IK} {e1 e2 : E} {body : S} {p : Pos} (h1 : chkTg c t tg = true) (h2 : notSet it = true) (hi : PI X t it (TIof X.K cl Wx (wpI F ik e1 e2))) (hb : PSts F cl X Wx bd body) :
    PSt F cl X Wx (.For t it bd [] p) (.loop tg ik e1 e2 body) := by
  refine ps_imp (ps_for G.po G.calm hi (g_of G.toGood h1) hb (fold_of h2 X.env)) ?_
  rintro D σ H ⟨W, r, m, d, hs, hr, hw, k⟩
  refine ⟨W, r, m, _, d.rx r, hs, hr, hw, ?_, k.x0 hs hr⟩
  intro W1 items live m1 H1 J x1 hr1 hs1 hx1 wk hl
  refine ⟨fun i n σ' H' => n = items.length - i ∧ i ≤ items.length ∧ ∃ W' r' m', Ext W1 H1 W' H' ∧ HR X.K W' m' H' ∧ SR X.K W' H' r' σ' ∧
    forW live (fun x r m nx => ∃ r1, tgF tg x r = some r1 ∧ wpS F body r1 m { d with nx := nx, ct := nx, bk := d.nx }) d.nx (items.drop i) r' m', ⟨items.length, rfl, Nat.zero_le _, W1, r, m1, .refl hr1, hr1, hs1, hl⟩, ?_⟩
  rintro i n σ' H' ⟨rfl, hi, W', r', m', x2, hr2, hs2, hl2⟩
  by_cases hil : i < items.length
  · refine .inr ?_
    have ed : items.drop i = items[i] :: items.drop (i + 1) := List.drop_eq_getElem_cons hil
    rw [ed] at hl2
    obtain ⟨lv, r1, et, hw2⟩ := hl2
    obtain ⟨_, wg⟩ := wk W' m' H' x2 hr2 lv
    obtain ⟨go, yl⟩ := wg i items[i] (List.getElem?_eq_getElem hil)
    refine ⟨go, fun σ'' H'' => i + 1 ≤ items.length ∧ ∃ W' r' m', Ext W1 H1 W' H'' ∧ HR X.K W' m' H'' ∧ SR X.K W' H'' r' σ'' ∧
      forW live (fun x r m nx => ∃ r1, tgF tg x r = some r1 ∧ wpS F body r1 m { d with nx := nx, ct := nx, bk := d.nx }) d.nx (items.drop (i + 1)) r' m', fun σ'' H'' q => ⟨_, by omega, rfl, q⟩, ?_⟩
    intro x H3 hy
    obtain ⟨W3, x3, hr3, rv3⟩ := yl x H3 hy
    refine ⟨W3, r', m', items[i], r1, hs2.mono hr2 x3, hr3, rv3, et, fun σ2 hs4 _ => ?_⟩
    have k3 := k.mono ((x1.trans x2).trans x3)
    refine ⟨W3, r1, m', _, hs4, hr3, hw2, ⟨?_, k3.rt, k3.nx, ?_, k3.rx⟩⟩
    · intro W5 r5 m5 σ5 H5 x5 hs5 hr5 q
      exact ⟨hil, W5, r5, m5, (x2.trans x3).trans x5, hr5, hs5, q⟩
    · intro W5 r5 m5 σ5 H5 x5 hs5 hr5 q
      exact ⟨hil, W5, r5, m5, (x2.trans x3).trans x5, hr5, hs5, q⟩
  · refine .inl ?_
    have ed : items.drop i = [] := List.drop_eq_nil_of_le (by omega)
    rw [ed] at hl2
    obtain ⟨lv, q⟩ := hl2
    obtain ⟨ws, _⟩ := wk W' m' H' x2 hr2 lv
    exact ⟨ws i (by omega), k.nx _ _ _ _ _ (x1.trans x2) hs2 hr2 q⟩
theorem st_whil (G : GoodS F cl c X) {x : Expr} {bd : List Stmt} {t : E} {body : S} {p : Pos} (ht : PTs' F cl X Wx x t) (hb : PSts F cl X Wx bd body) : PSt F cl X Wx (.While x bd [] p) (.whil t body) := by
  refine ps_imp (ps_while G.po ht hb) ?_
  rintro D σ H ⟨W, r, m, d, hs, hr, ⟨I, ⟨n0, h0⟩, hI⟩, k⟩
  refine ⟨fun n σ' H' => ∃ W' r' m', Ext W H W' H' ∧ HR X.K W' m' H' ∧ SR X.K W' H' r' σ' ∧ I n r' m', ⟨n0, W, r, m, .refl hr, hr, hs, h0⟩, ?_⟩
  rintro n σ' H' ⟨W', r', m', x1, hr1, hs1, hi⟩
  refine TTof.bind hs1 hr1 (hI n r' m' hi) (k.rx _ _ _ _ x1 hs1) ?_
  rintro W2 b m2 H2 x2 hr2 hs2 hx2 q
  cases b with
  | false => rw [if_neg Bool.false_ne_true] at q ⊢; exact k.nx _ _ _ _ _ (x1.trans x2) hs2 hr2 q
  | true =>
    rw [if_pos rfl] at q ⊢
    have k3 := k.mono (x1.trans x2)
    refine ⟨fun σ'' H'' => ∃ n', n' < n ∧ ∃ W' r' m', Ext W H W' H'' ∧ HR X.K W' m' H'' ∧ SR X.K W' H'' r' σ'' ∧ I n' r' m', fun σ'' H'' ⟨n', hn, q⟩ => ⟨n', hn, q⟩, W2, r', m2, _, hs2, hr2, q, ⟨?_, k3.rt, k3.nx, ?_, k3.rx⟩⟩
    · rintro W5 r5 m5 σ5 H5 x5 hs5 hr5 ⟨n', hn, q⟩
      exact ⟨n', hn, W5, r5, m5, (x1.trans x2).trans x5, hr5, hs5, q⟩
    · rintro W5 r5 m5 σ5 H5 x5 hs5 hr5 ⟨n', hn, q⟩
      exact ⟨n', hn, W5, r5, m5, (x1.trans x2).trans x5, hr5, hs5, q⟩
theorem sts_nil : PSts F cl X Wx [] .nil := by
  refine pss_imp pss_nil ?_
  rintro D σ H ⟨W, r, m, d, hs, hr, hw, k⟩
  exact k.nx _ _ _ _ _ (.refl hr) hs hr hw
theorem sts_cons {st : Stmt} {sts : List Stmt} {a b : S} (ha : PSt F cl X Wx st a) (hb : PSts F cl X Wx sts b) : PSts F cl X Wx (st :: sts) (.cons a b) := by
  refine pss_imp (pss_cons ha hb) ?_
  rintro D σ H ⟨W, r, m, d, hs, hr, hw, k⟩
  refine ⟨W, r, m, _, hs, hr, hw, ⟨?_, k.rt, k.bk, k.ct, k.rx⟩⟩
  intro W1 r1 m1 σ1 H1 x1 hs1 hr1 q
  exact ⟨W1, r1, m1, d, hs1, hr1, q, k.mono x1⟩
/-! ### all statements at once -/
structure SoundS (F : Nat → FS) (cl : Cls) (a : S) : Prop where
  s : ∀ (c : Cc) (X : Cx) (Wx : WX) (st : Stmt), GoodS F cl c X → Takes X Wx → chkS c st a = true → PSt F cl X Wx st a
  ss : ∀ (c : Cc) (X : Cx) (Wx : WX) (sts : List Stmt), GoodS F cl c X → Takes X Wx → chkSs c sts a = true → PSts F cl X Wx sts a
theorem SoundS.only {a : S} (e : ∀ (c : Cc) (X : Cx) (Wx : WX) (st : Stmt), GoodS F cl c X → Takes X Wx → chkS c st a = true → PSt F cl X Wx st a) (hl : ∀ c es, chkSs c es a = false) : SoundS F cl a :=
  ⟨e, fun c X Wx es _ _ h => absurd h (by rw [hl]; decide)⟩
theorem soundS : ∀ a : S, SoundS F cl a := by
  intro a
  induction a with
  | nil =>
    refine ⟨fun c X Wx st G tk h => by simp [chkS] at h, fun c X Wx sts G tk h => ?_⟩
    cases sts with
    | nil => exact sts_nil
    | cons _ _ => simp [chkSs] at h
  | cons a b ia ib =>
    refine ⟨fun c X Wx st G tk h => by simp [chkS] at h, fun c X Wx sts G tk h => ?_⟩
    cases sts with
    | nil => simp [chkSs] at h
    | cons st r =>
      simp only [chkSs, Bool.and_eq_true] at h
      exact sts_cons (ia.s c X Wx st G tk h.1) (ib.ss c X Wx r G tk h.2)
  | expr e =>
    refine .only (fun c X Wx st G tk h => ?_) fun _ _ => by simp [chkSs]
    unfold chkS at h
    split at h
    · simp only [Bool.and_eq_true] at h
      exact st_expr h.1 ((sound e).e c X Wx _ G.toGood tk h.2).1
    · cases h
  | ret e =>
    refine .only (fun c X Wx st G tk h => ?_) fun _ _ => by simp [chkSs]
    unfold chkS at h
    split at h
    · exact st_ret ((sound e).e c X Wx _ G.toGood tk h).1
    · cases h
  | retN =>
    refine .only (fun c X Wx st G tk h => ?_) fun _ _ => by simp [chkSs]
    unfold chkS at h
    split at h
    · exact st_retN
    · cases h
  | asg tg e =>
    refine .only (fun c X Wx st G tk h => ?_) fun _ _ => by simp [chkSs]
    unfold chkS at h
    split at h
    · rename_i t x p
      simp only [Bool.and_eq_true, Bool.or_eq_true] at h
      obtain ⟨⟨h1, h2⟩, h3 | h3⟩ := h
      · exact st_asg G.toGood h1 h3.1 (by simpa using h3.2) ((sound e).e c X Wx _ G.toGood tk h2).1
      · split at h3
        · rename_i y py
          have hx : ∃ el gens sc ps, x = .ListComp el gens sc ps := by
            cases x <;> simp [compLine] at h3
            exact ⟨_, _, _, _, rfl⟩
          obtain ⟨el, gens, sc, ps, rfl⟩ := hx
          cases tg with
          | tup is => simp [chkTg] at h1
          | name i =>
            cases e <;> simp only [chk] at h2 <;> first | cases h2 | (rename_i op _ _ _; cases op <;> cases h2) | skip
            rename_i mu own tg ik e1 e2 cond elt
            split at h2
            · rename_i y' t it ifs as scope p' heq
              cases heq
              simp only [Bool.and_eq_true, decide_eq_true_eq] at h2
              obtain ⟨⟨⟨⟨⟨⟨⟨k0, k1⟩, k2⟩, k3⟩, k4⟩, k5⟩, k6⟩, k7⟩ := h2
              subst k0
              refine st_asgLc G.toGood (by simpa [chkTg] using h1) h3 k1 k2 k3 k5 (it_of G.toGood tk (sound e1) (sound e2) k4) (fun X' _ G' tk' => ?_) fun X' _ G' tk' => ((sound elt).e _ X' _ _ G' tk' k7).1
              unfold chkC at k6
              split at k6
              · rw [yes_of k6]
                refine pts_imp pts_nil ?_
                rintro σ H Q ⟨W, r', m, Qd, R, hs, hr, ⟨t, et, q⟩, hc, hx⟩
                cases et
                exact hc W true m H (.refl hr) hr q
              · exact pts_one ((sound cond).e _ X' _ _ G' tk' k6).2
              · cases k6
            · cases h2
        · cases h3
    · cases h
  | par is es =>
    refine .only (fun c X Wx st G tk h => ?_) fun _ _ => by simp [chkSs]
    unfold chkS at h
    split at h
    · simp only [Bool.and_eq_true] at h
      exact st_par G.toGood h.1 h.2 ((sound es).l c X Wx _ G.toGood tk h.2)
    · cases h
  | asgStar is j e =>
    refine .only (fun c X Wx st G tk h => ?_) fun _ _ => by simp [chkSs]
    unfold chkS at h
    split at h
    · simp only [Bool.and_eq_true] at h
      obtain ⟨⟨⟨h1, h2⟩, h3⟩, h4⟩ := h
      exact st_asgStar G.toGood h1 h2 h3 ((sound e).e c X Wx _ G.toGood tk h4).1
    · cases h
  | setIx o i e =>
    refine .only (fun c X Wx st G tk h => ?_) fun _ _ => by simp [chkSs]
    unfold chkS at h
    split at h
    · simp only [Bool.and_eq_true] at h
      obtain ⟨⟨⟨⟨h1, h2⟩, h3⟩, h4⟩, h5⟩ := h
      exact st_setIx h1 h2 ((sound o).e c X Wx _ G.toGood tk h3).1 ((sound i).e c X Wx _ G.toGood tk h4).1 ((sound e).e c X Wx _ G.toGood tk h5).1
    · cases h
  | ite t a b ia ib =>
    refine .only (fun c X Wx st G tk h => ?_) fun _ _ => by simp [chkSs]
    unfold chkS at h
    split at h
    · simp only [Bool.and_eq_true] at h
      obtain ⟨⟨h1, h2⟩, h3⟩ := h
      exact st_ite ((sound t).e c X Wx _ G.toGood tk h1).2 (ia.ss c X Wx _ G tk h2) (ib.ss c X Wx _ G tk h3)
    · cases h
  | loop tg ik e1 e2 body ib =>
    refine .only (fun c X Wx st G tk h => ?_) fun _ _ => by simp [chkSs]
    unfold chkS at h
    split at h
    · simp only [Bool.and_eq_true] at h
      obtain ⟨⟨⟨h1, h2⟩, h3⟩, h4⟩ := h
      exact st_loop G h1 h2 (it_of G.toGood tk (sound e1) (sound e2) h3) (ib.ss c X Wx _ G tk h4)
    · cases h
  | whil t body ib =>
    refine .only (fun c X Wx st G tk h => ?_) fun _ _ => by simp [chkSs]
    unfold chkS at h
    split at h
    · simp only [Bool.and_eq_true] at h
      exact st_whil G ((sound t).e c X Wx _ G.toGood tk h.1).2 (ib.ss c X Wx _ G tk h.2)
    · cases h
  | raise k e => exact .only (fun c X Wx st G tk h => by simp [chkS] at h) fun _ _ => by simp [chkSs]
  | pass =>
    refine .only (fun c X Wx st G tk h => ?_) fun _ _ => by simp [chkSs]
    unfold chkS at h
    split at h
    · refine ps_imp ps_pass ?_
      rintro D σ H ⟨W, r, m, d, hs, hr, hw, k⟩
      exact k.nx _ _ _ _ _ (.refl hr) hs hr hw
    · cases h
  | brk =>
    refine .only (fun c X Wx st G tk h => ?_) fun _ _ => by simp [chkSs]
    unfold chkS at h
    split at h
    · refine ps_imp ps_break ?_
      rintro D σ H ⟨W, r, m, d, hs, hr, hw, k⟩
      exact k.bk _ _ _ _ _ (.refl hr) hs hr hw
    · cases h
  | cont =>
    refine .only (fun c X Wx st G tk h => ?_) fun _ _ => by simp [chkSs]
    unfold chkS at h
    split at h
    · refine ps_imp ps_continue ?_
      rintro D σ H ⟨W, r, m, d, hs, hr, hw, k⟩
      exact k.ct _ _ _ _ _ (.refl hr) hs hr hw
    · cases h
  | never =>
    exact ⟨fun c X Wx st G tk h => ps_imp ps_never (by rintro D σ H ⟨W, r, m, d, hs, hr, hw, k⟩; exact hw), fun c X Wx st G tk h => pss_imp pss_never (by rintro D σ H ⟨W, r, m, d, hs, hr, hw, k⟩; exact hw)⟩
end
end Dy

/-! Dp, part K: defs from their bodies; the end of a law. -/
namespace Dy
open PySem PySem.Spec PyProof.Rows L2
/-! ### what names no object beyond n -/
mutual
def cV (n : Nat) : Val → Bool
  | .loc k => decide (k < n)
  | .tup vs => cVs n vs
  | .il _ vs => cVs n vs
  | _ => true
def cVs (n : Nat) : List Val → Bool
  | [] => true
  | v :: vs => cV n v && cVs n vs
end
def cO (n : Nat) : Ob → Bool
  | .list vs => cVs n vs
def cM (n : Nat) (m : Store) : Bool := m.all (cO n)
section
variable {K : Frag} {W W1 : Wd} {H H1 : Hp} {m : Store}
mutual
theorem RV.closed : ∀ {v : Val} {x : V}, RV K W H v x → cV W.phi.length v = true
  | _, _, .non => rfl
  | _, _, .bool b => rfl
  | _, _, .int i => rfl
  | _, _, .str t => rfl
  | _, _, .tup q r => by simp only [cV]; exact RVs.closed r
  | _, _, .il1 i q r => by simp only [cV]; exact RVs.closed r
  | _, _, .il0 i q r => by simp only [cV]; exact RVs.closed r
  | _, _, .ilk q r => by simp only [cV]; exact RVs.closed r
  | _, _, .loc q => by simp only [cV, decide_eq_true_eq]; exact (List.getElem?_eq_some_iff.mp q).1
theorem RVs.closed : ∀ {vs : List Val} {ys : List V}, RVs K W H vs ys → cVs W.phi.length vs = true
  | _, _, .nil => rfl
  | _, _, .cons r t => by simp only [cVs, Bool.and_eq_true]; exact ⟨RV.closed r, RVs.closed t⟩
end
def Wd.cut (W : Wd) (n : Nat) : Wd := ⟨W.phi.take n, W.I⟩
mutual
theorem RV.cut {n : Nat} : ∀ {v : Val} {x : V}, RV K W H v x → cV n v = true → RV K (W.cut n) H v x
  | _, _, .non, _ => .non
  | _, _, .bool b, _ => .bool b
  | _, _, .int i, _ => .int i
  | _, _, .str t, _ => .str t
  | _, _, .tup q r, h => .tup q (RVs.cut r (by simpa only [cV] using h))
  | _, _, .il1 i q r, h => .il1 i q (RVs.cut r (by simpa only [cV] using h))
  | _, _, .il0 i q r, h => .il0 i q (RVs.cut r (by simpa only [cV] using h))
  | _, _, .ilk q r, h => .ilk q (RVs.cut r (by simpa only [cV] using h))
  | _, _, .loc q, h => .loc (by
      simp only [cV, decide_eq_true_eq] at h
      show (W.phi.take n)[_]? = _
      rw [List.getElem?_take, if_pos h]; exact q)
theorem RVs.cut {n : Nat} : ∀ {vs : List Val} {ys : List V}, RVs K W H vs ys → cVs n vs = true → RVs K (W.cut n) H vs ys
  | _, _, .nil, _ => .nil
  | _, _, .cons r t, h => by
    simp only [cVs, Bool.and_eq_true] at h
    exact .cons (RV.cut r h.1) (RVs.cut t h.2)
end
theorem HR.closed (h : HR K W m H) : cM m.length m = true := by
  unfold cM
  rw [List.all_eq_true]
  intro o ho
  obtain ⟨n, hn, e⟩ := List.mem_iff_getElem.mp ho
  obtain ⟨a, _, r⟩ := h.obj n o (by rw [List.getElem?_eq_getElem hn, e])
  cases o with
  | list vs =>
    obtain ⟨xs, _, r⟩ := r
    show cVs m.length vs = true
    rw [← h.len]
    exact r.closed
theorem HR.cut (h : HR K W m H) {n : Nat} (hc : cM n (m.take n) = true) : HR K (W.cut n) (m.take n) H where
  len := by show (W.phi.take n).length = _; simp [h.len]
  nd := h.nd.sublist (List.take_sublist n W.phi)
  dis := fun a ha => h.dis a (List.mem_of_mem_take ha)
  inh := h.inh
  obj := fun k o q => by
    have hk : k < n := by
      have := (List.getElem?_eq_some_iff.mp q).1
      simp at this; omega
    have q' : m[k]? = some o := by rw [List.getElem?_take, if_pos hk] at q; exact q
    obtain ⟨a, e1, r⟩ := h.obj k o q'
    refine ⟨a, by show (W.phi.take n)[k]? = _; rw [List.getElem?_take, if_pos hk]; exact e1, ?_⟩
    have ho : cO n o = true := (List.all_eq_true.mp hc) o (List.mem_of_getElem? q)
    cases o with
    | list vs =>
      obtain ⟨xs, q1, r1⟩ := r
      exact ⟨xs, q1, r1.cut ho⟩
theorem Ext.cut (e : Ext W H W1 H1) {n : Nat} (hn : W.phi.length ≤ n) : Ext W H (W1.cut n) H1 where
  pre := by
    obtain ⟨more, e1, e2⟩ := e.pre
    refine ⟨more.take (n - W.phi.length), ?_, fun a ha => e2 a (List.mem_of_mem_take ha)⟩
    show W1.phi.take n = _
    rw [e1, List.take_append, List.take_of_length_le hn]
  inc := e.inc
  new := e.new
  fr := e.fr
  al := e.al
end
/-- a def's end: what it made and nobody holds is forgotten -/
def ret (n0 : Nat) (Q : Val → Store → Prop) (v : Val) (m : Store) : Prop := Q v m ∨ ∃ n, n0 ≤ n ∧ cV n v = true ∧ cM n (m.take n) = true ∧ Q v (m.take n)
theorem ret_cont {K : Frag} {W : Wd} {H : Hp} {m : Store} {Qd : Val → Store → Prop} {Q : VK} (h : HR K W m H) (k : Cont K W H Qd Q) : Cont K W H (ret m.length Qd) Q := by
  intro W' v x m' H' e rv hr q
  rcases q with q | ⟨n, h1, h2, h3, q⟩
  · exact k W' v x m' H' e rv hr q
  · exact k (W'.cut n) v x (m'.take n) H' (e.cut (by rw [h.len]; exact h1)) (rv.cut h2) (hr.cut h3) q
def retX (n0 : Nat) (R : Rq) : Rq := fun c => ret n0 (R c)
theorem retX_cont {K : Frag} {cl : Cls} {W : Wd} {H : Hp} {m : Store} {R : Rq} {E : XK} (h : HR K W m H) (k : ContE K cl W H R E) : ContE K cl W H (retX m.length R) E := by
  intro W' c v x d m' H' e rv hr hd q
  rcases q with q | ⟨n, h1, h2, h3, q⟩
  · exact k W' c v x d m' H' e rv hr hd q
  · exact k (W'.cut n) c v x d (m'.take n) H' (e.cut (by rw [h.len]; exact h1)) (rv.cut h2) (hr.cut h3) hd q
/-- the ends of a body -/
def bodyEn (n0 : Nat) (Q : Val → Store → Prop) (R : Rq) : En where
  nx := fun _ m => ret n0 Q .non m
  rt := ret n0 Q
  bk := fun _ _ => False
  ct := fun _ _ => False
  rx := fun _ => retX n0 R
def startE (n : Nat) (args : List Val) : Env := args.map some ++ List.replicate (n - args.length) none
/-- what is to be shown of a def -/
def Meets (F : Nat → FS) (n : Nat) (body : S) (fs : FS) : Prop :=
  ∀ args m Q R, cM m.length m = true → cVs m.length args = true → fs args m Q R → wpS F body (startE n args) m (bodyEn m.length Q R)
theorem start_rel {K : Frag} {W : Wd} {H : Hp} {N : List Str} {args : List Val} {vs : List V} (r : RVs K W H args vs) : SR K W H (startE N.length args) (L2.start N vs) := by
  unfold startE L2.start
  rw [r.length]
  refine ⟨by simp [r.length], fun i v q => ?_⟩
  by_cases hi : i < args.length
  · rw [List.getElem?_append_left (by simpa using hi), List.getElem?_map] at q
    rw [List.getElem?_append_left (by rw [List.length_map, ← r.length]; exact hi), List.getElem?_map]
    simp only [Option.map_eq_some_iff] at q
    obtain ⟨w, e1, e2⟩ := q
    cases e2
    obtain ⟨x, e3, rv⟩ := r.get e1
    exact ⟨x, by rw [e3]; rfl, rv⟩
  · rw [List.getElem?_append_right (by simp; omega)] at q
    obtain ⟨_, e⟩ := List.getElem?_eq_some_iff.mp q
    simp at e
/-! ### a def's promise from its body -/
theorem fnG_body {P : Program} {w : World} {K : Frag} {mg : Str → Option Value} {base : Heap} {k : Nat} {f : Addr} {x qual : Str} {st : Stmt} {fd : FuncData} {N ps : List Str} {sp : Sp} (T : Fun K x qual st f fd) (S : FnScope N ps (defScope st))
    (hlen : ∀ vs H Q E, sp vs H Q E → vs.length = ps.length)
    (hb : ∀ (cdv : Value) (A : Around) (outer : List PySem.Env) (s : Shared) (H : Hp) (vs : List V) (Q : VK) (E : XK), Room k (A.deeper (envOfC qual (defScope st) s.heap.objs.size f cdv)) → A.guards = some [] → sp vs H Q E →
      ∃ t, PSs (cxOf (L2.CX P w) P w K mg base N qual (defScope st) f cdv A outer s H E) (defBody st) t ∧ t { nx := fun _ H1 => Q .non H1, rt := Q } (L2.start N vs) H) :
    FnG P w K mg base (k + 1) f fd ps sp := by
  obtain ⟨oc, od, kV, doc, pm, an, cdv, ct, osl, rfl, lk, hcd⟩ := T.ex
  constructor
  · exact hlen
  intro A outer s H args us vs Q E room hg e0 bd rel hsp
  have old : ∀ b o, base.get? b = some o → s.heap.get? b = some o := fun b o z => (e0.bs b o z).1
  have inK : K.In s.heap := e0.mod.kin.keeps old
  refine codeAny_call_function room.depth (inK _ _ lk) rfl S.co S.gen rfl (PySem.W.codeRec_of inK hcd) (bd _ _ _ _ ?_)
  refine wpAny_newFunctionEnv_cells S.kind ?par ?go
  case par =>
    rintro ⟨n, v⟩ hy
    rcases S.par n (List.of_mem_zip hy).1 with z | z
    · exact .inl z
    · exact .inr ⟨z, PySem.W.cellsFrom_some _ _ _ (.inl z)⟩
  case go =>
    rintro env rfl s1 ic
    refine ⟨(e0.mod.nolimit.keeps old).keeps ic.toInCall.keep, codeAny_func ?_⟩
    obtain ⟨t, h1, h2⟩ := hb cdv A outer s H vs Q E (room.deeper _) hg hsp
    have inv := inv_start (CX := L2.CX P w) (E := E) S room.hd e0 (hlen _ _ _ _ hsp) rel ic
    refine wpAny_mono (h1.run [] s1 _ H _ inv h2) ?_ fun _ _ z => z
    intro fl s2 z
    match fl, z with
    | .ret u, ⟨v, σ2, H2, J, rv, q⟩ => exact ⟨v, H2, J.os, J.bare, J.base, J.hok, rv, q⟩
    | .next, ⟨σ2, H2, J, q⟩ => exact ⟨.non, H2, J.os, J.bare, J.base, J.hok, rfl, q⟩
    | .brk, ⟨_, _, _, q⟩ => exact q.elim
    | .cont, ⟨_, _, _, q⟩ => exact q.elim
/-- what the module has: constants, built-ins that are not bound anew, defs -/
structure Glob (P : Program) (w : World) (K : Frag) (mg : Str → Option Value) (base : Heap) (F : Nat → FS) (cl : Cls) (lev : Nat) (gl : List (Str × Val)) (bl : List Str) (fns : List (Str × Nat)) (kd : List (Str × List (Text × Val))) : Prop where
  gl : ∀ x v, gl.lookup x = some v → ∃ u xv, mg x = some u ∧ RelV xv u ∧ ∀ W H, RV K W H v xv
  bl : ∀ x, bl.contains x = true → mg x = none
  fns : ∀ x f, fns.lookup x = some f → ∃ (a : Addr) (fd : FuncData) (ps : List Str) (k : Nat), mg x = some (.ref a) ∧ PySem.W.keepIn K (.ref a) = true ∧ Binds K fd ps [] ∧
    FnG P w K mg base k a fd ps (spG K cl ps.length (F f)) ∧ k ≤ lev ∧ ∀ vs m Q R, F f vs m Q R → vs.length = ps.length
  kd : ∀ x kvs, kd.lookup x = some kvs → ∃ a, mg x = some (.ref a) ∧ KdAt K w a kvs
theorem def_ok {P : Program} {w : World} {K : Frag} {mg : Str → Option Value} {base : Heap} {F : Nat → FS} {cl : Cls} {lev : Nat} {gl : List (Str × Val)} {bl : List Str} {fns : List (Str × Nat)} {kd : List (Str × List (Text × Val))} {f : Addr} {x qual : Str} {st : Stmt} {fd : FuncData} {N ps : List Str} {body : S} {fs : FS}
    (G : Glob P w K mg base F cl lev gl bl fns kd) (hlev : 1 ≤ lev) (T : Fun K x qual st f fd) (S : FnScope N ps (defScope st)) (hc : chkSs ⟨N, (defScope st).names, true, gl, bl, fns, kd⟩ (defBody st) body = true) (hm : Meets F N.length body fs) :
    FnG P w K mg base (lev + 1) f fd ps (spG K cl ps.length fs) := by
  refine fnG_body T S (fun vs H Q E h => ?_) (fun cdv A outer s H vs Q E room hg h => ?_)
  · obtain ⟨_, _, _, _, _, hl, _⟩ := h
    exact hl
  · obtain ⟨W, args, m, Qd, R, hl, ra, hr, hf, kc, kx⟩ := h
    refine ⟨_, (soundS (F := F) (cl := cl) body).ss _ _ (fun cls d _ H1 => E cls d H1) _ ⟨⟨rfl, S.nd, S.kind, rfl, fun _ _ => rfl, rfl, hg, room.mono hlev, G.gl, G.bl, fun y g e => ?_, G.kd⟩, passes_of rfl⟩ (takes_of rfl rfl rfl rfl) hc, ?_⟩
    · obtain ⟨a, fd, ps, k, h1, h2, h3, h4, h5, h6⟩ := G.fns y g e
      exact ⟨a, fd, ps, k, h1, h2, h3, h4, room.mono h5, h6⟩
    · have hcl : cVs m.length args = true := by rw [← hr.len]; exact ra.closed
      refine ⟨W, startE N.length args, m, bodyEn m.length Qd R, start_rel ra, hr, hm args m Qd R hr.closed hcl hf, ⟨?_, ret_cont hr kc, ?_, ?_, ?_⟩⟩
      · intro W1 r1 m1 σ1 H1 e1 hs1 hr1 q
        exact ret_cont hr kc W1 .non .non m1 H1 e1 .non hr1 q
      · intro W1 r1 m1 σ1 H1 e1 hs1 hr1 q
        exact q.elim
      · intro W1 r1 m1 σ1 H1 e1 hs1 hr1 q
        exact q.elim
      · intro W1 r1 σ1 H1 e1 hs1
        intro W2 c v x d m2 H2 e2 rv hr2 hd q
        exact retX_cont hr kx W2 c v x d m2 H2 (e1.trans e2) rv hr2 hd q
/-! ### the law -/
/-- the world in which the law begins -/
def world0 (H : Hp) : Wd := ⟨[], fun b => H b ≠ none⟩
theorem world0_ok (K : Frag) (H : Hp) : HR K (world0 H) [] H where
  len := rfl
  nd := List.nodup_nil
  dis := fun a z => by cases z
  inh := fun a z => z
  obj := fun n o q => by simp at q
theorem ints_rel {K : Frag} {W : Wd} {H : Hp} : ∀ ns : List Int, RVs K W H (ns.map .int) (ns.map V.int)
  | [] => .nil
  | n :: ns => .cons (.int n) (ints_rel ns)
theorem script_rel {K : Frag} {H : Hp} {a : Addr} {ns : List Int} (h : SqL K H a (ns.map V.int)) : RV K (world0 H) H (.il false (ns.map .int)) (.ref a) := by
  by_cases z : H a = none
  · refine .ilk ?_ (ints_rel ns)
    rcases h with (h | ⟨o, h⟩) | h
    · rw [z] at h; cases h
    · rw [z] at h; cases h
    · exact .inr h
  · exact .il0 z h (ints_rel ns)
/-- the law's call: every script is handed in as a list that is read alone -/
theorem lawG {P : Program} {w : World} {K : Frag} {mg mb : Str → Option Value} {k : Nat} {fa a : Addr} {fd : FuncData} {x : Str} {cl : Cls} {fs : FS} {s1 : Shared} {us : List Value} {ns : List Int} (inK : K.In s1.heap) (hm : s1.heap.Ns mainGlobals mg) (hb : s1.heap.Ns builtinsNs mb)
    (hbb : ∀ x : Str, x ≠ "__name__" → mb x = bootBuiltins x) (lim : s1.heap.NoLimit) (hg : s1.gens = #[]) (ha : s1.heap.get? a = some { cls := .type "list", data := .seq us.toArray }) (hi : IntsAre us ns) (hl : ns.length ≤ sizeLine) (room : Room k callerA)
    (F : ∀ base : Heap, K.In base → base.Ns mainGlobals mg → FnG P w K mg base k fa fd [x] (spG K cl 1 fs)) (bd : ∀ (s : Shared) (u : Value), BindsTo s fd ⟨[u], []⟩ [(x, u)]) (law : fs [.il false (ns.map .int)] [] (fun v _ => v = .bool true) noR) :
    codeAny (model P w) callerA (.call (.ref fa) ⟨[.ref a], []⟩) (fun z t => z = .ok (.ret (.bool true)) ∧ OldK s1.heap t.heap ∧ t.os = s1.os ∧ AllBare t.gens) s1 := by
  have rel : Vals (ns.map V.int) us := vals_ints hi
  -- the abstract heap: nothing, or the script alone, locked
  obtain ⟨H, hS, hok, hO⟩ : ∃ H : Hp, SqL K H a (ns.map V.int) ∧ HOk P w H s1.heap ∧ ∀ b, H b = none ∨ (b = a ∧ K.lookup a = none ∧ H b = some (.frz { cls := .type "list", data := .seq us.toArray } (.lst (ns.map V.int)))) := by
    cases hk : K.lookup a with
    | some o =>
      have e := inK a o hk
      rw [ha] at e
      cases e
      exact ⟨fun _ => none, .inr ⟨_, us.toArray, _, hk, rfl, rfl, rfl, by rw [List.size_toArray, hi.length]; exact hl, by simpa using rel⟩, fun b u z => (by simp at z), fun b => .inl rfl⟩
    | none =>
      refine ⟨fun b => if b = a then some (.frz { cls := .type "list", data := .seq us.toArray } (.lst (ns.map V.int))) else none, .inl (.inr ⟨_, if_pos rfl⟩), fun b u z => ?_, fun b => ?_⟩
      · simp only at z
        split at z
        · rename_i hb
          cases z
          subst hb
          exact ⟨ha, by rw [List.length_map]; exact hl, us, _, rel, ha⟩
        · cases z
      · by_cases hb : b = a
        · exact .inr ⟨hb, rfl, if_pos hb⟩
        · exact .inl (if_neg hb)
  have free : ∀ b o, s1.heap.get? b = some o → (∀ us n, o.data ≠ .seq us n) → H b = none := fun b o e hd => by
    rcases hO b with z | ⟨z, _, _⟩
    · exact z
    · subst z; rw [ha] at e; cases e
      exact absurd rfl (hd _ _)
  have nsK : ∀ b m, s1.heap.Ns b m → (hidT s1.heap H).Ns b m := fun b m ⟨o, es, ep, e, d, r⟩ => ⟨o, es, ep, hidT_get e (free b o e fun us n z => by rw [d] at z; cases z), d, r⟩
  have hidK : K.In (hidT s1.heap H) := fun b o e => hidT_get (inK b o e) (by
    rcases hO b with z | ⟨z, z2, _⟩
    · exact z
    · subst z; rw [z2] at e; cases e)
  have md : Mod K mg (hidT s1.heap H) := by
    obtain ⟨mc, c1, c2⟩ := lim
    exact ⟨hidK, nsK _ _ hm, ⟨mb, nsK _ _ hb, hbb⟩, mc, nsK _ _ c1, c2⟩
  have e0 : Env0 P w K mg (hidT s1.heap H) callerA [] s1 H := ⟨rfl, md, fun b o e => of_hidT e, Nat.le_of_eq (hidT_size _ _), trivial, fun b z => (nomatch (show b ∈ ([] : List Addr) from z)), hok, .of_eq hg⟩
  refine codeAny_mono ((F _ hidK (nsK _ _ hm)).run callerA [] s1 H ⟨[.ref a], []⟩ [.ref a] [.ref a] (fun v _ => v = .bl true) (fun _ _ _ => False) room rfl e0 (bd s1 (.ref a)) (.cons rfl .nil)
    ⟨world0 H, [.il false (ns.map .int)], [], _, noR, rfl, .cons (script_rel hS) .nil, world0_ok K H, law, fun W' v y m' H' e rv hr q => ?_, fun _ _ _ _ _ _ _ _ _ _ _ z => z.elim⟩) ?_
  · have q' : v = .bool true := q
    subst q'
    exact rv.bool_inv
  · intro z t hz
    match z, hz with
    | .error e, hz =>
      obtain ⟨_, _, _, _, _, _, _, _, _, _, _, _, q⟩ := hz
      exact q.elim
    | .ok (.ret u), ⟨v, H2, os, bare, un, hok2, rv, q⟩ =>
      have q' : v = .bl true := q
      subst q'
      obtain rfl : u = Value.bool true := rv
      refine ⟨rfl, OldK.of_keep fun b o e => ?_, os, bare⟩
      rcases hO b with z | ⟨_, _, z⟩
      · exact un.keep b o e z (fun y => (nomatch (show b ∈ ([] : List Addr) from y))) (fun y => (nomatch y))
      · obtain ⟨e1, _⟩ := hok b _ z
        obtain ⟨e2, _⟩ := hok2 b _ (un.frzs b _ _ z)
        rw [e] at e1; cases e1
        exact e2
theorem walkG {l : PySem.W.OpenLaw} {n k : Nat} {q : Program} {loose : List Str} {XP : (Str → Option Value) → Heap → Prop} {YP : World → Heap → Prop} {d : DefRec} {K : Params → Frag} {fs : FS} {x : Str} (hn : l.most = some n) (hn2 : n ≤ sizeLine) (hdf : d.params.defaults = []) (room : Room k callerA)
    (hY : ∀ (w : World) (h : Heap), YP w h → (K w.params).In h)
    (F : ∀ (w : World) (mg : Str → Option Value) (fa : Addr) (h : Heap), (K w.params).In h → h.Ns mainGlobals mg → mg d.name = some (.ref fa) → ∃ (fd : FuncData) (cl : Cls), (∀ (s : Shared) (u : Value), BindsTo s fd ⟨[u], []⟩ [(x, u)]) ∧
      ∀ base : Heap, (K w.params).In base → base.Ns mainGlobals mg → FnG l.prog w (K w.params) mg base k fa fd [x] (spG (K w.params) cl 1 fs))
    (law : ∀ ns : List Int, ns.length ≤ n → fs [.il false (ns.map .int)] [] (fun v _ => v = .bool true) noR) : PySem.W.WalkO q loose XP YP l.row.toRowW d [] (fun f vs => PySem.call f vs) := by
  refine Att.attach_call hn hdf ?_
  intro w s0 s1 mg mb fa o pm cd doc a us ns G Y ho hd hcd hmg hobj hints hlen hg
  obtain ⟨fd, cl, bd, hF⟩ := F w mg fa _ (hY w _ Y) G.T.g hmg
  exact lawG (hY w _ Y) G.T.g G.T.b G.T.builtins G.T.nolimit hg hobj hints (Nat.le_trans hlen hn2) room hF bd (law ns hlen)
end Dy

/-! Dp, part L: equations for simp. -/
namespace Dy
open PySem L2
section
variable (F : Nat → FS) (r : Env) (m : Store) (Q : Val → Store → Prop) (T : Bool → Store → Prop) (R : Rq)
@[simp] theorem wpE_var (i : Nat) : wpE F (.var i) r m Q R = ∃ v, r[i]? = some (some v) ∧ Q v m := rfl
@[simp] theorem wpE_cst (v : Val) : wpE F (.cst v) r m Q R = Q v m := rfl
@[simp] theorem wpE_nil : wpE F .nil r m Q R = Q (.tup []) m := rfl
@[simp] theorem wpE_cons (a b : E) : wpE F (.cons a b) r m Q R = wpE F a r m (fun v m1 => wpE F b r m1 (fun w m2 => ∃ vs, w = .tup vs ∧ Q (.tup (v :: vs)) m2) R) R := rfl
@[simp] theorem wpE_tup (es : E) : wpE F (.tup es) r m Q R = wpE F es r m (fun v m1 => ∃ vs, v = .tup vs ∧ vs.length ≤ sizeLine ∧ Q (.tup vs) m1) R := rfl
@[simp] theorem wpE_lst (mu : Bool) (es : E) : wpE F (.lst mu es) r m Q R = wpE F es r m (fun v m1 => ∃ vs, v = .tup vs ∧ vs.length ≤ sizeLine ∧ newL mu vs m1 Q) R := rfl
@[simp] theorem wpE_bin (op : BOp) (a b : E) : wpE F (.bin op a b) r m Q R = wpE F a r m (fun v m1 => wpE F b r m1 (fun w m2 => binW op v w m2 Q) R) R := rfl
@[simp] theorem wpE_neg (a : E) : wpE F (.neg a) r m Q R = wpE F a r m (fun v m1 => ∃ i, v = .int i ∧ Q (.int (-i)) m1) R := rfl
@[simp] theorem wpE_cmp (op : COp) (a b : E) : wpE F (.cmp op a b) r m Q R = wpE F a r m (fun v m1 => wpE F b r m1 (fun w m2 => cmpW op v w m2 fun t => Q (.bool t) m2) R) R := rfl
@[simp] theorem wpE_chain (o1 o2 : COp) (a b c : E) : wpE F (.chain o1 o2 a b c) r m Q R = wpE F a r m (fun v m1 => wpE F b r m1 (fun w m2 => cmpW o1 v w m2 fun t =>
    if t = true then wpE F c r m2 (fun u m3 => cmpW o2 w u m3 fun t => Q (.bool t) m3) R else Q (.bool false) m2) R) R := rfl
@[simp] theorem wpE_isN (neg : Bool) (a : E) : wpE F (.isN neg a) r m Q R = wpE F a r m (fun v m1 => Q (.bool (neg != isNon v)) m1) R := rfl
@[simp] theorem wpE_one (a : E) : wpE F (.one a) r m Q R = wpE F a r m Q R := rfl
@[simp] theorem wpE_and (a b : E) : wpE F (.and a b) r m Q R = wpE F a r m (fun v m1 => ∃ t, tru m1 v = some t ∧ if t = true then wpE F b r m1 Q R else Q v m1) R := rfl
@[simp] theorem wpE_or (a b : E) : wpE F (.or a b) r m Q R = wpE F a r m (fun v m1 => ∃ t, tru m1 v = some t ∧ if t = true then Q v m1 else wpE F b r m1 Q R) R := rfl
@[simp] theorem wpE_not (a : E) : wpE F (.not a) r m Q R = wpE F a r m (fun v m1 => ∃ t, tru m1 v = some t ∧ Q (.bool (!t)) m1) R := rfl
@[simp] theorem wpE_ite (c a b : E) : wpE F (.ite c a b) r m Q R = wpT F c r m (fun t m1 => if t = true then wpE F a r m1 Q R else wpE F b r m1 Q R) R := rfl
@[simp] theorem wpE_call (f : Nat) (args : E) : wpE F (.call f args) r m Q R = wpE F args r m (fun v m1 => ∃ vs, v = .tup vs ∧ F f vs m1 Q R) R := rfl
@[simp] theorem wpE_bi (b : Bi) (args : E) : wpE F (.bi b args) r m Q R = wpE F args r m (fun v m1 => ∃ vs, v = .tup vs ∧ biW b vs m1 Q) R := rfl
@[simp] theorem wpE_isI (t : Ty) (a : E) : wpE F (.isI t a) r m Q R = wpE F a r m (fun v m1 => Q (.bool (isT t v)) m1) R := rfl
@[simp] theorem wpE_meth (t : Mt) (o args : E) : wpE F (.meth t o args) r m Q R = wpE F o r m (fun v m1 => mtT t v ∧ wpE F args r m1 (fun w m2 => ∃ vs, w = .tup vs ∧ mtW t v vs m2 Q) R) R := rfl
@[simp] theorem wpE_idx (a i : E) : wpE F (.idx a i) r m Q R = wpE F a r m (fun v m1 => wpE F i r m1 (fun w m2 => ∃ u, idxF m2 v w = some u ∧ Q u m2) R) R := rfl
@[simp] theorem wpE_sl (hl hh : Bool) (a lo hi : E) : wpE F (.sl hl hh a lo hi) r m Q R = wpE F a r m (fun v m1 => wpE F lo r m1 (fun l m2 => ∃ i, partF hl l = some i ∧ wpE F hi r m2 (fun u m3 => ∃ j, partF hh u = some j ∧ ∃ z, sliceF m3 v i j = some z ∧ Q z m3) R) R) R := rfl
@[simp] theorem wpE_lc (mu : Bool) (own : List Nat) (tg : Tg) (ik : IK) (e1 e2 cond elt : E) : wpE F (.lc mu own tg ik e1 e2 cond elt) r m Q R = wpE F e1 r m (fun v1 m1 => wpE F e2 r m1 (fun v2 m2 => ∃ items, itF ik m2 v1 v2 = some items ∧
    lcW (fun m => itF ik m v1 v2 = some items) (fun x m P => ∃ r2, tgF tg x (wipeE r own) = some r2 ∧ wpT F cond r2 m (fun t m1 => if t = true then wpE F elt r2 m1 (fun y m2 => P (some y) m2) noR else P none m1) noR) items [] m2 fun acc m3 => newL mu acc m3 Q) R) R := rfl
@[simp] theorem wpE_scons (a b : E) : wpE F (.scons a b) r m Q R = wpE F a r m (fun v m1 => ∃ us, sq m1 v = some us ∧ wpE F b r m1 (fun w m2 => ∃ vs, w = .tup vs ∧ Q (.tup (us ++ vs)) m2) R) R := rfl
@[simp] theorem wpE_kd (op : KOp) (kvs : List (Text × Val)) (k d : E) : wpE F (.kd op kvs k d) r m Q R = wpE F k r m (fun kv m1 => wpE F d r m1 (fun dv m2 => kdW op kvs kv dv fun v => Q v m2) R) R := rfl
@[simp] theorem wpT_one (a : E) : wpT F (.one a) r m T R = wpT F a r m T R := rfl
@[simp] theorem wpT_and (a b : E) : wpT F (.and a b) r m T R = wpT F a r m (fun t m1 => if t = true then wpT F b r m1 T R else T false m1) R := rfl
@[simp] theorem wpT_or (a b : E) : wpT F (.or a b) r m T R = wpT F a r m (fun t m1 => if t = true then T true m1 else wpT F b r m1 T R) R := rfl
@[simp] theorem wpT_not (a : E) : wpT F (.not a) r m T R = wpT F a r m (fun t m1 => T (!t) m1) R := rfl
@[simp] theorem wpT_ite (c a b : E) : wpT F (.ite c a b) r m T R = wpT F c r m (fun t m1 => if t = true then wpT F a r m1 T R else wpT F b r m1 T R) R := rfl
/-- a test by its value -/
def tst (T : Bool → Store → Prop) : Val → Store → Prop := fun v m1 => ∃ t, tru m1 v = some t ∧ T t m1
@[simp] theorem tst_bool (b : Bool) : tst T (.bool b) m = T b m := by simp [tst, tru]
@[simp] theorem tst_int (i : Int) : tst T (.int i) m = T (i != 0) m := by simp [tst, tru]
@[simp] theorem tst_non : tst T .non m = T false m := by simp [tst, tru]
@[simp] theorem wpT_var (i : Nat) : wpT F (.var i) r m T R = wpE F (.var i) r m (tst T) R := rfl
@[simp] theorem wpT_cst (v : Val) : wpT F (.cst v) r m T R = wpE F (.cst v) r m (tst T) R := rfl
@[simp] theorem wpT_tup (a : E) : wpT F (.tup a) r m T R = wpE F (.tup a) r m (tst T) R := rfl
@[simp] theorem wpT_lst (mu : Bool) (a : E) : wpT F (.lst mu a) r m T R = wpE F (.lst mu a) r m (tst T) R := rfl
@[simp] theorem wpT_bin (op : BOp) (a b : E) : wpT F (.bin op a b) r m T R = wpE F (.bin op a b) r m (tst T) R := rfl
@[simp] theorem wpT_cmp (op : COp) (a b : E) : wpT F (.cmp op a b) r m T R = wpE F (.cmp op a b) r m (tst T) R := rfl
@[simp] theorem wpT_chain (o1 o2 : COp) (a b c : E) : wpT F (.chain o1 o2 a b c) r m T R = wpE F (.chain o1 o2 a b c) r m (tst T) R := rfl
@[simp] theorem wpT_isN (neg : Bool) (a : E) : wpT F (.isN neg a) r m T R = wpE F (.isN neg a) r m (tst T) R := rfl
@[simp] theorem wpT_call (f : Nat) (a : E) : wpT F (.call f a) r m T R = wpE F (.call f a) r m (tst T) R := rfl
@[simp] theorem wpT_bi (b : Bi) (a : E) : wpT F (.bi b a) r m T R = wpE F (.bi b a) r m (tst T) R := rfl
@[simp] theorem wpT_isI (t : Ty) (a : E) : wpT F (.isI t a) r m T R = wpE F (.isI t a) r m (tst T) R := rfl
@[simp] theorem wpT_meth (t : Mt) (a b : E) : wpT F (.meth t a b) r m T R = wpE F (.meth t a b) r m (tst T) R := rfl
@[simp] theorem wpT_idx (a b : E) : wpT F (.idx a b) r m T R = wpE F (.idx a b) r m (tst T) R := rfl
@[simp] theorem wpT_kd (op : KOp) (kvs : List (Text × Val)) (k d : E) : wpT F (.kd op kvs k d) r m T R = wpE F (.kd op kvs k d) r m (tst T) R := rfl
@[simp] theorem newL_t (vs : List Val) : newL true vs m Q = Q (.loc m.length) (m ++ [.list vs]) := by simp [newL]
@[simp] theorem newL_f (vs : List Val) : newL false vs m Q = Q (.il true vs) m := by simp [newL]
variable (D : En)
@[simp] theorem wpS_nil : wpS F .nil r m D = D.nx r m := rfl
@[simp] theorem wpS_cons (a b : S) : wpS F (.cons a b) r m D = wpS F a r m { D with nx := fun r m => wpS F b r m D } := rfl
@[simp] theorem wpS_expr (e : E) : wpS F (.expr e) r m D = wpE F e r m (fun _ m1 => D.nx r m1) (D.rx r) := rfl
@[simp] theorem wpS_ret (e : E) : wpS F (.ret e) r m D = wpE F e r m D.rt (D.rx r) := rfl
@[simp] theorem wpS_retN : wpS F .retN r m D = D.rt .non m := rfl
@[simp] theorem wpS_asg (tg : Tg) (e : E) : wpS F (.asg tg e) r m D = wpE F e r m (fun v m1 => ∃ r1, tgF tg v r = some r1 ∧ D.nx r1 m1) (D.rx r) := rfl
@[simp] theorem wpS_par (is : List Nat) (es : E) : wpS F (.par is es) r m D = wpE F es r m (fun v m1 => ∃ vs, v = .tup vs ∧ ∃ r1, setAll is vs r = some r1 ∧ D.nx r1 m1) (D.rx r) := rfl
@[simp] theorem wpS_setIx (o i e : E) : wpS F (.setIx o i e) r m D = wpE F e r m (fun v m1 => wpE F o r m1 (fun ov m2 => wpE F i r m2 (fun iv m3 => setW ov iv v m3 fun m4 => D.nx r m4) (D.rx r)) (D.rx r)) (D.rx r) := rfl
@[simp] theorem wpS_ite (c : E) (a b : S) : wpS F (.ite c a b) r m D = wpT F c r m (fun t m1 => if t = true then wpS F a r m1 D else wpS F b r m1 D) (D.rx r) := rfl
@[simp] theorem wpS_loop (tg : Tg) (ik : IK) (e1 e2 : E) (body : S) : wpS F (.loop tg ik e1 e2 body) r m D = wpE F e1 r m (fun v1 m1 => wpE F e2 r m1 (fun v2 m2 => ∃ items, itF ik m2 v1 v2 = some items ∧
    forW (fun m => itF ik m v1 v2 = some items) (fun x r m nx => ∃ r1, tgF tg x r = some r1 ∧ wpS F body r1 m { D with nx := nx, ct := nx, bk := D.nx }) D.nx items r m2) (D.rx r)) (D.rx r) := rfl
@[simp] theorem wpS_never : wpS F .never r m D = False := rfl
@[simp] theorem wpS_pass : wpS F .pass r m D = D.nx r m := rfl
@[simp] theorem body_nx (n : Nat) : (bodyEn n Q R).nx r m = ret n Q .non m := rfl
@[simp] theorem body_rt (n : Nat) (v : Val) : (bodyEn n Q R).rt v m = ret n Q v m := rfl
@[simp] theorem body_rx (n : Nat) : (bodyEn n Q R).rx r = retX n R := rfl
end
@[simp] theorem startE_def (n : Nat) (args : List Val) : startE n args = args.map some ++ List.replicate (n - args.length) none := rfl
@[simp] theorem tgF_name (i : Nat) (v : Val) (r : Env) : tgF (.name i) v r = some (r.set i (some v)) := rfl
@[simp] theorem tgF_tup (is : List Nat) (vs : List Val) (r : Env) : tgF (.tup is) (.tup vs) r = setAll is vs r := rfl
@[simp] theorem setAll_nil (r : Env) : setAll [] [] r = some r := rfl
@[simp] theorem setAll_cons (i : Nat) (is : List Nat) (v : Val) (vs : List Val) (r : Env) : setAll (i :: is) (v :: vs) r = setAll is vs (r.set i (some v)) := rfl
@[simp] theorem wipeE_nil (r : Env) : wipeE r [] = r := rfl
@[simp] theorem wipeE_cons (r : Env) (v : Nat) (vs : List Nat) : wipeE r (v :: vs) = (wipeE r vs).set v none := rfl
section
variable (m : Store) (Q : Val → Store → Prop) (T : Bool → Prop)
@[simp] theorem bin_addI (a b : Int) : binW .add (.int a) (.int b) m Q = Q (.int (a + b)) m := rfl
@[simp] theorem bin_addS (a b : Text) : binW .add (.str a) (.str b) m Q = (a.length + b.length ≤ sizeLine ∧ Q (.str (a ++ b)) m) := rfl
@[simp] theorem bin_addL (a b : List Val) : binW .add (.il true a) (.il true b) m Q = (a.length + b.length ≤ sizeLine ∧ Q (.il true (a ++ b)) m) := rfl
@[simp] theorem bin_subI (a b : Int) : binW .sub (.int a) (.int b) m Q = Q (.int (a - b)) m := rfl
@[simp] theorem bin_mulI (a b : Int) : binW .mul (.int a) (.int b) m Q = (mulOk a b ∧ Q (.int (a * b)) m) := rfl
@[simp] theorem bin_mulL (a : List Val) (k : Int) : binW .mul (.il true a) (.int k) m Q = ((-(2 ^ 63) ≤ k ∧ k < 2 ^ 63 ∧ a.length * k.toNat ≤ sizeLine) ∧ Q (.il true (List.replicate k.toNat a).flatten) m) := rfl
@[simp] theorem bin_fdiv (a b : Int) : binW .fdiv (.int a) (.int b) m Q = (divOk b ∧ Q (.int (a / b)) m) := rfl
@[simp] theorem bin_mod (a b : Int) : binW .mod (.int a) (.int b) m Q = (0 < b ∧ Q (.int (a % b)) m) := rfl
@[simp] theorem bin_pow (a b : Int) : binW .pow (.int a) (.int b) m Q = (powOk a b ∧ Q (.int (a ^ b.toNat)) m) := rfl
@[simp] theorem cmp_lt (a b : Int) : cmpW .lt (.int a) (.int b) m T = T (decide (a < b)) := rfl
@[simp] theorem cmp_le (a b : Int) : cmpW .le (.int a) (.int b) m T = T (decide (a ≤ b)) := rfl
@[simp] theorem cmp_gt (a b : Int) : cmpW .gt (.int a) (.int b) m T = T (decide (b < a)) := rfl
@[simp] theorem cmp_ge (a b : Int) : cmpW .ge (.int a) (.int b) m T = T (decide (b ≤ a)) := rfl
theorem eqv_str (a b : Text) : PyData.eqv (.str (SX.S a)) (.str (SX.S b)) = decide (a = b) := by
  show (SX.S a == SX.S b) = decide (a = b)
  exact SX.S_beq_eq
theorem eqv_int (a b : Int) : PyData.eqv (.int a) (.int b) = decide (a = b) := by
  show (a == b) = decide (a = b)
  by_cases h : a = b <;> simp [h]
@[simp] theorem cmp_eqI (a b : Int) : cmpW .eq (.int a) (.int b) m T = T (decide (a = b)) := by simp [cmpW, pdm, pd, eqOk, scalP, eqv_int]
@[simp] theorem cmp_neI (a b : Int) : cmpW .ne (.int a) (.int b) m T = T (!decide (a = b)) := by simp [cmpW, pdm, pd, eqOk, scalP, eqv_int]
@[simp] theorem cmp_eqS (a b : Text) : cmpW .eq (.str a) (.str b) m T = T (decide (a = b)) := by simp [cmpW, pdm, pd, eqOk, scalP, eqv_str]
@[simp] theorem cmp_neS (a b : Text) : cmpW .ne (.str a) (.str b) m T = T (!decide (a = b)) := by simp [cmpW, pdm, pd, eqOk, scalP, eqv_str]
@[simp] theorem cmp_inS (c : Nat) (z : Text) : cmpW .isin (.str [c]) (.str z) m T = T (decide (c ∈ z)) := by simp [cmpW, inW]
@[simp] theorem cmp_notS (c : Nat) (z : Text) : cmpW .notin (.str [c]) (.str z) m T = T (!decide (c ∈ z)) := by simp [cmpW, inW]
@[simp] theorem bi_lenS (s : Text) : biW .len [.str s] m Q = (s.length ≤ sizeLine ∧ Q (.int s.length) m) := rfl
@[simp] theorem bi_lenT (vs : List Val) : biW .len [.tup vs] m Q = Q (.int vs.length) m := by simp [biW, sq]
@[simp] theorem bi_lenL (o : Bool) (vs : List Val) : biW .len [.il o vs] m Q = Q (.int vs.length) m := by simp [biW, sq]
@[simp] theorem bi_abs (i : Int) : biW .abs [.int i] m Q = Q (.int (if i < 0 then -i else i)) m := rfl
@[simp] theorem bi_intI (i : Int) : biW .int [.int i] m Q = Q (.int i) m := rfl
@[simp] theorem bi_intB (b : Bool) : biW .int [.bool b] m Q = Q (.int (if b then 1 else 0)) m := rfl
@[simp] theorem bi_intS (s : Text) : biW .int [.str s] m Q = ∃ n, PySem.intText? (SX.S s) = some n ∧ s.length ≤ 640 ∧ Q (.int n) m := rfl
@[simp] theorem bi_strI (i : Int) : biW .str [.int i] m Q = (i.natAbs.log2 < 1920 ∧ Q (.str (numT i)) m) := rfl
@[simp] theorem bi_strS (s : Text) : biW .str [.str s] m Q = Q (.str s) m := rfl
@[simp] theorem bi_tupL (o : Bool) (vs : List Val) : biW .tuple [.il o vs] m Q = Q (.tup vs) m := by simp [biW, sq]
@[simp] theorem bi_tupT (vs : List Val) : biW .tuple [.tup vs] m Q = Q (.tup vs) m := by simp [biW, sq]
@[simp] theorem bi_tupM (n : Nat) : biW .tuple [.loc n] m Q = ∃ vs, m[n]? = some (.list vs) ∧ Q (.tup vs) m := by
  simp only [biW, sq]
  cases h : m[n]? with
  | none => simp
  | some o => cases o; simp
@[simp] theorem bi_lstL (o : Bool) (vs : List Val) : biW .list [.il o vs] m Q = Q (.il true vs) m := by simp [biW, sq]
@[simp] theorem bi_allL (o : Bool) (vs : List Val) : biW .all [.il o vs] m Q = ∃ bs, boolsOf vs = some bs ∧ Q (.bool (bs.all id)) m := by simp [biW, sq, isL]
@[simp] theorem bi_anyL (o : Bool) (vs : List Val) : biW .any [.il o vs] m Q = ∃ bs, boolsOf vs = some bs ∧ Q (.bool (bs.any id)) m := by simp [biW, sq, isL]
@[simp] theorem bi_max (i j : Int) : biW .max [.int i, .int j] m Q = Q (.int (if j > i then j else i)) m := rfl
@[simp] theorem bi_min (i j : Int) : biW .min [.int i, .int j] m Q = Q (.int (if j < i then j else i)) m := rfl
@[simp] theorem bi_repr (v : Val) : biW .repr [v] m Q = ∃ d, pdm m v = some d ∧ reprOk d ∧ Q (.str d.shown.cps.toList) m := rfl
@[simp] theorem mtT_app (n : Nat) : mtT .append (.loc n) = True := rfl
@[simp] theorem mtT_split (s : Text) : mtT .split (.str s) = True := rfl
@[simp] theorem mtT_join (s : Text) : mtT .join (.str s) = True := rfl
@[simp] theorem mt_app (n : Nat) (v : Val) : mtW .append (.loc n) [v] m Q = ∃ vs, m[n]? = some (.list vs) ∧ vs.length < sizeLine ∧ Q .non (m.set n (.list (vs ++ [v]))) := rfl
@[simp] theorem mt_splitE (a b : Text) : mtW .split (.str a) [.str b] m Q = ((b ≠ [] ∧ b.all (· < 256) = true ∧ a.length + 2 ≤ sizeLine) ∧ Q (.il true ((TL.spl b 0 [] a).map .str)) m) := rfl
@[simp] theorem mt_joinL (a : Text) (o : Bool) (vs : List Val) : mtW .join (.str a) [.il o vs] m Q = ∃ ts : List Text, vs = ts.map .str ∧ (ts.map (·.length)).sum + ts.length * a.length ≤ 16777216 ∧ Q (.str (TL.joinL a ts)) m := by simp [mtW, sq]
@[simp] theorem idx_il (o : Bool) (vs : List Val) (i : Int) : idxF m (.il o vs) (.int i) = atI vs i := rfl
@[simp] theorem idx_tup (vs : List Val) (i : Int) : idxF m (.tup vs) (.int i) = atI vs i := rfl
@[simp] theorem idx_str (s : Text) (i : Int) : idxF m (.str s) (.int i) = if s.length ≤ sizeLine then (atI s i).map fun c => .str [c] else none := rfl
@[simp] theorem idx_loc (n : Nat) (i : Int) (u : Val) : (idxF m (.loc n) (.int i) = some u) = ∃ vs, m[n]? = some (.list vs) ∧ atI vs i = some u := by
  simp only [idxF, sq]
  cases h : m[n]? with
  | none => simp
  | some o => cases o; simp
@[simp] theorem it_str (s : Text) (v : Val) : itF .seq m (.str s) v = some (s.map fun c => .str [c]) := rfl
@[simp] theorem it_tup (vs : List Val) (v : Val) : itF .seq m (.tup vs) v = some vs := rfl
@[simp] theorem it_il (o : Bool) (vs : List Val) (v : Val) : itF .seq m (.il o vs) v = some vs := rfl
@[simp] theorem isT_def (t : Ty) (v : Val) : isT t v = isK t (kd v) := rfl
@[simp] theorem set_loc_eq (n : Nat) (k : Int) (v : Val) (P : Store → Prop) : setW (.loc n) (.int k) v m P = ∃ vs j, m[n]? = some (.list vs) ∧ ixN vs.length k = some j ∧ P (m.set n (.list (vs.set j v))) := rfl
@[simp] theorem kd_non : kd .non = .non := rfl
@[simp] theorem kd_bool (b : Bool) : kd (.bool b) = .bool := rfl
@[simp] theorem kd_int (i : Int) : kd (.int i) = .int := rfl
@[simp] theorem kd_str (s : Text) : kd (.str s) = .str := rfl
@[simp] theorem kd_tup (vs : List Val) : kd (.tup vs) = .tuple := rfl
@[simp] theorem kd_il (o : Bool) (vs : List Val) : kd (.il o vs) = .list := rfl
@[simp] theorem kd_loc (n : Nat) : kd (.loc n) = .list := rfl
@[simp] theorem isNon_non : isNon .non = true := rfl
@[simp] theorem isNon_bool (b : Bool) : isNon (.bool b) = false := rfl
@[simp] theorem isNon_int (i : Int) : isNon (.int i) = false := rfl
@[simp] theorem isNon_str (s : Text) : isNon (.str s) = false := rfl
@[simp] theorem isNon_tup (vs : List Val) : isNon (.tup vs) = false := rfl
@[simp] theorem isNon_il (o : Bool) (vs : List Val) : isNon (.il o vs) = false := rfl
@[simp] theorem isNon_loc (n : Nat) : isNon (.loc n) = false := rfl
@[simp] theorem tru_bool (b : Bool) : tru m (.bool b) = some b := rfl
@[simp] theorem tru_non : tru m .non = some false := rfl
@[simp] theorem boolsOf_nil : boolsOf [] = some [] := rfl
@[simp] theorem boolsOf_cons (b : Bool) (r : List Val) : boolsOf (.bool b :: r) = (boolsOf r).map fun bs => b :: bs := rfl
@[simp] theorem lcW_nil (live : Store → Prop) (body : Val → Store → (Option Val → Store → Prop) → Prop) (acc : List Val) (P : List Val → Store → Prop) : lcW live body [] acc m P = (live m ∧ P acc m) := rfl
@[simp] theorem forW_nil (live : Store → Prop) (step : Val → Env → Store → (Env → Store → Prop) → Prop) (k : Env → Store → Prop) (r : Env) : forW live step k [] r m = (live m ∧ k r m) := rfl
end
@[simp] theorem isK_int_non : isK .int .non = false := rfl
@[simp] theorem isK_int_bool : isK .int .bool = true := rfl
@[simp] theorem isK_int_int : isK .int .int = true := rfl
@[simp] theorem isK_int_str : isK .int .str = false := rfl
@[simp] theorem isK_int_tuple : isK .int .tuple = false := rfl
@[simp] theorem isK_int_list : isK .int .list = false := rfl
@[simp] theorem isK_bool_non : isK .bool .non = false := rfl
@[simp] theorem isK_bool_bool : isK .bool .bool = true := rfl
@[simp] theorem isK_bool_int : isK .bool .int = false := rfl
@[simp] theorem isK_bool_str : isK .bool .str = false := rfl
@[simp] theorem isK_bool_tuple : isK .bool .tuple = false := rfl
@[simp] theorem isK_bool_list : isK .bool .list = false := rfl
@[simp] theorem isK_str_non : isK .str .non = false := rfl
@[simp] theorem isK_str_bool : isK .str .bool = false := rfl
@[simp] theorem isK_str_int : isK .str .int = false := rfl
@[simp] theorem isK_str_str : isK .str .str = true := rfl
@[simp] theorem isK_str_tuple : isK .str .tuple = false := rfl
@[simp] theorem isK_str_list : isK .str .list = false := rfl
@[simp] theorem isK_tuple_non : isK .tuple .non = false := rfl
@[simp] theorem isK_tuple_bool : isK .tuple .bool = false := rfl
@[simp] theorem isK_tuple_int : isK .tuple .int = false := rfl
@[simp] theorem isK_tuple_str : isK .tuple .str = false := rfl
@[simp] theorem isK_tuple_tuple : isK .tuple .tuple = true := rfl
@[simp] theorem isK_tuple_list : isK .tuple .list = false := rfl
@[simp] theorem isK_list_non : isK .list .non = false := rfl
@[simp] theorem isK_list_bool : isK .list .bool = false := rfl
@[simp] theorem isK_list_int : isK .list .int = false := rfl
@[simp] theorem isK_list_str : isK .list .str = false := rfl
@[simp] theorem isK_list_tuple : isK .list .tuple = false := rfl
@[simp] theorem isK_list_list : isK .list .list = true := rfl
@[simp] theorem isK_dict_non : isK .dict .non = false := rfl
@[simp] theorem isK_dict_bool : isK .dict .bool = false := rfl
@[simp] theorem isK_dict_int : isK .dict .int = false := rfl
@[simp] theorem isK_dict_str : isK .dict .str = false := rfl
@[simp] theorem isK_dict_tuple : isK .dict .tuple = false := rfl
@[simp] theorem isK_dict_list : isK .dict .list = false := rfl
theorem sizeLine_is : sizeLine = 16777216 := by decide
end Dy

/-! Dp, part M: the laws' own draws. -/
namespace Dy
open PySem L2
theorem bits_le {x : Int} {n : Nat} (h0 : 0 ≤ x) (h : x < 2 ^ n) (hn : 0 < n) : Builtin.Int.intBits x ≤ n := by
  unfold Builtin.Int.intBits
  split
  · omega
  · have hx : x.natAbs < 2 ^ n := by
      have : ((x.natAbs : Nat) : Int) < ((2 ^ n : Nat) : Int) := by rw [Int.natAbs_of_nonneg h0]; simpa using h
      exact_mod_cast this
    have := PySem.Flt.log2_lt_of hn hx
    omega
theorem div_ok {n : Int} (h0 : 0 < n) (h : n < 2 ^ 30) : divOk n := by
  refine ⟨h0, ?_⟩
  have hx : n.natAbs < 2 ^ 30 := by omega
  have := PySem.Flt.log2_lt_of (by decide : 0 < 30) hx
  omega
theorem mul_right {i j : Int} (h0 : -(2 ^ 64) < j) (h : j < 2 ^ 64) : mulOk i j := .inl (.inr ⟨h0, h⟩)
theorem mul_left {i j : Int} (h0 : -(2 ^ 64) < i) (h : i < 2 ^ 64) : mulOk i j := .inl (.inl ⟨h0, h⟩)
/-- a pot of draws: the cell's own digits, a mixed number, how many were drawn -/
structure Pot where
  a : Int
  b : Int
  c : Int
def Pot.ok (p : Pot) (lim : Int) : Prop := 0 ≤ p.a ∧ 0 ≤ p.b ∧ p.b < 2 ^ 61 ∧ 0 ≤ p.c ∧ p.c ≤ lim
def Pot.ob (p : Pot) : Ob := .list [.int p.a, .int p.b, .int p.c]
/-- no pot has more draws -/
def LIM : Int := 1000000
/-- a pot at place p that has k draws left at least -/
def PotAt (m : Store) (p : Nat) (a : Pot) (k : Nat) : Prop := m[p]? = some a.ob ∧ a.ok (LIM - k)
def potB : S :=
  (.cons (.asg (.name 2) (.ite (.cmp .lt (.var 1) (.bi .len (.cons (.var 0) .nil))) (.idx (.var 0) (.var 1)) (.bin .add (.bin .mul (.cst (.int 41)) (.var 1)) (.cst (.int 13)))))
    (.cons (.asg (.name 3) (.bin .mul (.bin .mod (.bi .int (.cons (.bi .abs (.cons (.var 2) .nil)) .nil)) (.bin .pow (.bin .pow (.cst (.int 10)) (.cst (.int 60))) (.cst (.int 5)))) (.bi .int (.cons (.cmp .ge (.bi .abs (.cons (.var 2) .nil)) (.bin .pow (.cst (.int 10)) (.cst (.int 18)))) .nil))))
    (.cons (.asg (.name 4) (.bin .add (.bin .add (.bin .mul (.bin .mod (.bi .int (.cons (.var 2) .nil)) (.cst (.int 2305843009213693951))) (.cst (.int 70913))) (.bin .mul (.bin .mul (.cst (.int 6701)) (.var 1)) (.var 1))) (.cst (.int 59))))
    (.cons (.ret (.lst true (.cons (.var 3) (.cons (.bin .mod (.bi .int (.cons (.var 4) .nil)) (.cst (.int 2305843009213693921))) (.cons (.cst (.int 0)) .nil)))))
    .nil))))
/-- a new pot, of whatever digits -/
def fsPot : FS := fun args m Q _ => ∃ (o : Bool) (ns : List Int) (k : Nat), args = [.il o (ns.map .int), .int (k : Nat)] ∧ k < 1000 ∧ ∀ a : Pot, a.ok 0 → Q (.loc m.length) (m ++ [a.ob])
theorem pot_meets {F : Nat → FS} : Meets F 5 potB fsPot := by
  rintro args m Q R hm ha ⟨o, ns, k, rfl, hk, hQ⟩
  have p60 : powOk 10 60 := ⟨by decide, by decide +kernel⟩
  have p5 : powOk 1000000000000000000000000000000000000000000000000000000000000 5 := ⟨by decide, by decide +kernel⟩
  have p18 : powOk 10 18 := ⟨by decide, by decide +kernel⟩
  -- the end, whatever the cell is
  have key : ∀ cell : Int, wpS F (.cons (.asg (.name 3) (.bin .mul (.bin .mod (.bi .int (.cons (.bi .abs (.cons (.var 2) .nil)) .nil)) (.bin .pow (.bin .pow (.cst (.int 10)) (.cst (.int 60))) (.cst (.int 5)))) (.bi .int (.cons (.cmp .ge (.bi .abs (.cons (.var 2) .nil)) (.bin .pow (.cst (.int 10)) (.cst (.int 18)))) .nil))))
    (.cons (.asg (.name 4) (.bin .add (.bin .add (.bin .mul (.bin .mod (.bi .int (.cons (.var 2) .nil)) (.cst (.int 2305843009213693951))) (.cst (.int 70913))) (.bin .mul (.bin .mul (.cst (.int 6701)) (.var 1)) (.var 1))) (.cst (.int 59))))
    (.cons (.ret (.lst true (.cons (.var 3) (.cons (.bin .mod (.bi .int (.cons (.var 4) .nil)) (.cst (.int 2305843009213693921))) (.cons (.cst (.int 0)) .nil)))))
    .nil))) [some (.il o (ns.map .int)), some (.int k), some (.int cell), none, none] m (bodyEn m.length Q R) := by
    intro cell
    have hpos : (0 : Int) < ((10 : Int) ^ 60) ^ 5 := by decide
    have e60 : (60 : Int).toNat = 60 := rfl
    have e5 : (5 : Int).toNat = 5 := rfl
    have e18 : (18 : Int).toNat = 18 := rfl
    simp only [wpS_cons, wpS_asg, wpE_bin, wpE_bi, wpE_cons, wpE_var, wpE_nil, wpE_cst, wpE_cmp, wpS_ret, wpE_lst, wpS_nil, tgF_name]
    simp [p60, p5, p18, e60, e5, e18, hpos]
    refine ⟨mul_right ?_ ?_, mul_right (by decide) (by decide), mul_left (by decide) (by decide), mul_right (by omega) (by omega), by rw [sizeLine_is]; decide, ?_⟩
    · split <;> split <;> omega
    · split <;> split <;> omega
    refine .inl (hQ ⟨_, _, 0⟩ ⟨?_, ?_, ?_, Int.le_refl 0, Int.le_refl 0⟩)
    · refine Int.mul_nonneg (Int.emod_nonneg _ (by decide)) ?_
      split <;> split <;> omega
    · exact Int.emod_nonneg _ (by decide)
    · exact Int.lt_trans (Int.emod_lt_of_pos _ (by decide)) (by decide)
  unfold potB
  rw [wpS_cons, wpS_asg]
  simp only [wpE_ite, wpT_cmp, wpE_cmp, wpE_bin, wpE_bi, wpE_cons, wpE_var, wpE_nil, wpE_cst, wpE_idx, startE_def, tgF_name]
  simp
  by_cases h : k < ns.length
  · have e : atI (List.map Val.int ns) (k : Int) = some (.int ns[k]) := atI_nat (by simp [h])
    rw [if_pos (by simpa using h)]
    refine ⟨_, e, ?_⟩
    simpa [List.replicate] using key ns[k]
  · rw [if_neg (by simpa using h)]
    refine ⟨mul_left (by decide) (by decide), ?_⟩
    simpa [List.replicate] using key (41 * (k : Int) + 13)
def takeB : S :=
  (.cons (.ite (.cmp .gt (.idx (.var 0) (.cst (.int 0))) (.cst (.int 0)))
    (.cons (.asg (.name 4) (.bin .mod (.bi .int (.cons (.idx (.var 0) (.cst (.int 0))) .nil)) (.var 1)))
    (.cons (.setIx (.var 0) (.cst (.int 0)) (.bin .fdiv (.idx (.var 0) (.cst (.int 0))) (.var 1)))
    (.cons (.ret (.var 4))
    .nil)))
    .nil)
    (.cons (.setIx (.var 0) (.cst (.int 2)) (.bin .add (.idx (.var 0) (.cst (.int 2))) (.cst (.int 1))))
    (.cons (.asg (.name 2) (.idx (.lst false (.cons (.cst (.int 2147483647)) (.cons (.cst (.int 2147483629)) (.cons (.cst (.int 2147483587)) (.cons (.cst (.int 2147483579)) (.cons (.cst (.int 2147483563)) .nil)))))) (.bin .mod (.bi .int (.cons (.idx (.var 0) (.cst (.int 2))) .nil)) (.cst (.int 5)))))
    (.cons (.asg (.name 3) (.bin .mod (.bi .int (.cons (.bin .pow (.bi .int (.cons (.bin .add (.bin .add (.idx (.var 0) (.cst (.int 1))) (.bin .mul (.bin .mul (.cst (.int 98999)) (.idx (.var 0) (.cst (.int 2)))) (.idx (.var 0) (.cst (.int 2))))) (.cst (.int 43))) .nil)) (.cst (.int 3))) .nil)) (.var 2)))
    (.cons (.asg (.name 3) (.bin .mod (.bi .int (.cons (.bin .mul (.var 3) (.bin .add (.bin .mod (.bi .int (.cons (.var 3) .nil)) (.cst (.int 10007))) (.bin .mul (.cst (.int 79)) (.idx (.var 0) (.cst (.int 2)))))) .nil)) (.cst (.int 2305843009213693907))))
    (.cons (.ret (.bin .mod (.bi .int (.cons (.bin .fdiv (.var 3) (.cst (.int 103))) .nil)) (.var 1)))
    .nil))))))
/-- at most k draws from the pot at p, a value of which Post holds -/
def drawS (m : Store) (p k : Nat) (Post : Val → Prop) (Q : Val → Store → Prop) : Prop := ∃ a : Pot, PotAt m p a k ∧ ∀ (v : Val) (a' : Pot), Post v → a'.ok (a.c + k) → Q v (m.set p a'.ob)
def fsTake : FS := fun args m Q _ => ∃ (p : Nat) (n : Int), args = [.loc p, .int n] ∧ (0 < n ∧ n < 2 ^ 30) ∧ drawS m p 1 (fun v => ∃ d, v = .int d ∧ 0 ≤ d ∧ d < n) Q
@[simp] theorem atI0 {α : Type} (x : α) (r : List α) : atI (x :: r) 0 = some x := atI_nat (xs := x :: r) (j := 0) rfl
@[simp] theorem atI1 {α : Type} (x y : α) (r : List α) : atI (x :: y :: r) 1 = some y := atI_nat (xs := x :: y :: r) (j := 1) rfl
@[simp] theorem atI2 {α : Type} (x y z : α) (r : List α) : atI (x :: y :: z :: r) 2 = some z := atI_nat (xs := x :: y :: z :: r) (j := 2) rfl
theorem prime_at (i : Int) (h0 : 0 ≤ i) (h : i < 5) : ∃ u : Int, atI [Val.int 2147483647, .int 2147483629, .int 2147483587, .int 2147483579, .int 2147483563] i = some (.int u) ∧ 0 < u ∧ u < 2 ^ 31 := by
  have : i = 0 ∨ i = 1 ∨ i = 2 ∨ i = 3 ∨ i = 4 := by omega
  rcases this with z | z | z | z | z <;> subst z <;> exact ⟨_, rfl, by decide, by decide⟩
theorem take_meets {F : Nat → FS} : Meets F 5 takeB fsTake := by
  rintro args m Q R hm ha ⟨p, n, rfl, ⟨hn0, hn1⟩, ⟨a, b, c⟩, ⟨hp, h0, h1, h2, h3, h4⟩, hQ⟩
  have hl : p < m.length := (List.getElem?_eq_some_iff.mp hp).1
  have hp' : m[p]? = some (.list [.int a, .int b, .int c]) := hp
  simp only [LIM] at h4
  unfold takeB
  simp only [wpS_cons, wpS_ite, wpT_cmp, wpE_cmp, wpE_idx, wpE_var, wpE_cst, wpS_asg, wpE_bin, wpE_bi, wpE_cons, wpE_nil, wpS_setIx, wpS_ret, wpS_nil, wpE_lst, startE_def, tgF_name]
  simp [hp', atI0, atI1, atI2]
  by_cases hz : 0 < a
  · rw [if_pos hz]
    refine ⟨hn0, div_ok hn0 (by omega), 0, by simp [ixN], ?_⟩
    refine .inl (hQ _ ⟨a / n, b, c⟩ ⟨_, rfl, Int.emod_nonneg _ (by omega), Int.emod_lt_of_pos _ hn0⟩ ⟨?_, h1, h2, h3, ?_⟩)
    · exact Int.ediv_nonneg (by omega) (by omega)
    · show c ≤ c + 1
      omega
  · rw [if_neg hz]
    refine ⟨2, by simp [ixN], ?_⟩
    have hc : 0 ≤ c := h3
    have hb0 : 0 ≤ b := h1
    have hb1 : b < 2 ^ 61 := h2
    have hc4 : c ≤ 999999 := by simpa using h4
    obtain ⟨pr, e, hp0, hp1⟩ := prime_at ((c + 1) % 5) (Int.emod_nonneg _ (by decide)) (Int.emod_lt_of_pos _ (by decide))
    have hcc : (98999 * (c + 1)) * (c + 1) ≤ 98999 * 1000000 * 1000000 := Int.mul_le_mul (by omega) (by omega) (by omega) (by decide)
    have hcc0 : 0 ≤ (98999 * (c + 1)) * (c + 1) := Int.mul_nonneg (by omega) (by omega)
    have hpw : powOk (b + 98999 * (c + 1) * (c + 1) + 43) 3 := by
      refine ⟨by decide, ?_⟩
      have := bits_le (x := b + 98999 * (c + 1) * (c + 1) + 43) (n := 63) (by omega) (by omega) (by decide)
      omega
    have e3 : (3 : Int).toNat = 3 := rfl
    simp [hl, sizeLine_is, e, hp0, hpw, e3]
    refine ⟨mul_left (by decide) (by decide), mul_right (by omega) (by omega), mul_left (by decide) (by decide), ?_, div_ok (by decide) (by decide), hn0, ?_⟩
    · have g1 : 0 ≤ (b + 98999 * (c + 1) * (c + 1) + 43) ^ 3 % pr := Int.emod_nonneg _ (by omega)
      have g2 : (b + 98999 * (c + 1) * (c + 1) + 43) ^ 3 % pr < pr := Int.emod_lt_of_pos _ hp0
      exact mul_left (by omega) (by omega)
    · refine .inl (hQ _ ⟨a, b, c + 1⟩ ⟨_, rfl, Int.emod_nonneg _ (by omega), Int.emod_lt_of_pos _ hn0⟩ ⟨h0, h1, h2, ?_, ?_⟩)
      · show 0 ≤ c + 1
        omega
      · show c + 1 ≤ c + 1
        omega
/-! ### picks, lists of draws, loops of draws -/
def pick : Val → Option (List Val)
  | .str t => some (t.map fun c => .str [c])
  | .il _ vs => some vs
  | .tup vs => some vs
  | _ => none
def ofB (t : Nat) : S := .cons (.ret (.idx (.var 1) (.call t (.cons (.var 0) (.cons (.bi .len (.cons (.var 1) .nil)) .nil))))) .nil
def fsOf : FS := fun args m Q _ => ∃ (p : Nat) (s : Val) (vs : List Val), args = [.loc p, s] ∧ pick s = some vs ∧ vs ≠ [] ∧ vs.length < 2 ^ 20 ∧ drawS m p 1 (fun v => v ∈ vs) Q
theorem atI_mem {α : Type} {xs : List α} {d : Int} (h0 : 0 ≤ d) (h : d < xs.length) : ∃ v, v ∈ xs ∧ atI xs d = some v := by
  obtain ⟨n, rfl⟩ := Int.eq_ofNat_of_zero_le h0
  have hn : n < xs.length := by omega
  exact ⟨xs[n], List.getElem_mem hn, atI_nat (List.getElem?_eq_getElem hn)⟩
theorem of_meets {F : Nat → FS} {t : Nat} (hF : F t = fsTake) : Meets F 2 (ofB t) fsOf := by
  rintro args m Q R hm ha ⟨p, s, vs, rfl, hs, hne, hl, a, hp, hQ⟩
  unfold ofB
  have hpos : 0 < vs.length := List.length_pos_iff.mpr hne
  cases s with
  | str t =>
    cases hs
    simp at hl hpos
    simp [hF, fsTake, sizeLine_is]
    refine ⟨by omega, p, t.length, ⟨rfl, rfl⟩, ⟨by omega, by omega⟩, a, hp, ?_⟩
    rintro v a' ⟨d, rfl, h0, h1⟩ hok
    obtain ⟨c, hc, e⟩ := atI_mem h0 h1
    have hz : t.length ≤ 16777216 := by omega
    simp [hz, e]
    exact ⟨_, ⟨by rw [sizeLine_is]; exact hz, rfl⟩, .inl (hQ _ a' (List.mem_map.mpr ⟨c, hc, rfl⟩) hok)⟩
  | il o ws =>
    cases hs
    simp [hF, fsTake]
    refine ⟨p, vs.length, ⟨rfl, rfl⟩, ⟨by omega, by omega⟩, a, hp, ?_⟩
    rintro v a' ⟨d, rfl, h0, h1⟩ hok
    obtain ⟨c, hc, e⟩ := atI_mem h0 h1
    exact ⟨c, by simpa using e, .inl (hQ _ a' hc hok)⟩
  | tup ws =>
    cases hs
    simp [hF, fsTake]
    refine ⟨p, vs.length, ⟨rfl, rfl⟩, ⟨by omega, by omega⟩, a, hp, ?_⟩
    rintro v a' ⟨d, rfl, h0, h1⟩ hok
    obtain ⟨c, hc, e⟩ := atI_mem h0 h1
    exact ⟨c, by simpa using e, .inl (hQ _ a' hc hok)⟩
  | _ => cases hs
theorem PotAt.lt {m : Store} {p : Nat} {a : Pot} {k : Nat} (h : PotAt m p a k) : p < m.length := (List.getElem?_eq_some_iff.mp h.1).1
theorem PotAt.mono {m : Store} {p : Nat} {a : Pot} {k j : Nat} (h : PotAt m p a k) (hj : j ≤ k) : PotAt m p a j := by
  obtain ⟨h1, h2, h3, h4, h5, h6⟩ := h
  exact ⟨h1, h2, h3, h4, h5, by omega⟩
theorem PotAt.next {m : Store} {p : Nat} {a a' : Pot} {k j : Nat} (h : PotAt m p a (k + j)) (h' : a'.ok (a.c + k)) : PotAt (m.set p a'.ob) p a' j := by
  have hl := h.lt
  obtain ⟨h1, h2, h3, h4, h5, h6⟩ := h
  obtain ⟨g2, g3, g4, g5, g6⟩ := h'
  refine ⟨by rw [List.getElem?_set_self hl], g2, g3, g4, g5, ?_⟩
  push_cast at h6
  omega
theorem PotAt.self {m : Store} {p : Nat} {a : Pot} {k : Nat} (h : PotAt m p a k) : m.set p a.ob = m := by
  apply List.ext_getElem?
  intro i
  by_cases hi : i = p
  · subst hi; rw [List.getElem?_set_self h.lt, h.1]
  · rw [List.getElem?_set_ne (Ne.symm hi)]
theorem Pot.ok_self {a : Pot} {l : Int} {k : Int} (h : a.ok l) (hk : 0 ≤ k) : a.ok (a.c + k) := ⟨h.1, h.2.1, h.2.2.1, h.2.2.2.1, by omega⟩
theorem Pot.ok_mono {a : Pot} {l l' : Int} (h : a.ok l) (hk : l ≤ l') : a.ok l' := ⟨h.1, h.2.1, h.2.2.1, h.2.2.2.1, Int.le_trans h.2.2.2.2 hk⟩
/-- first some draws, then others -/
theorem draw_seq {m : Store} {p k j : Nat} {a : Pot} {Q : Pot → Store → Prop} (h : PotAt m p a (k + j)) (hQ : ∀ a' : Pot, a'.ok (a.c + (k + j : Nat)) → Q a' (m.set p a'.ob)) {a1 : Pot} (h1 : a1.ok (a.c + k)) :
    PotAt (m.set p a1.ob) p a1 j ∧ ∀ a' : Pot, a'.ok (a1.c + j) → Q a' ((m.set p a1.ob).set p a'.ob) := by
  refine ⟨h.next h1, fun a' h' => ?_⟩
  rw [List.set_set]
  refine hQ a' (Pot.ok_mono h' ?_)
  have := h1.2.2.2.2
  push_cast
  omega
theorem lc_draw {live : Store → Prop} {body : Val → Store → (Option Val → Store → Prop) → Prop} {fin : List Val → Store → Prop} {p k : Nat} {Post : Val → Prop} (hlive : ∀ m, live m)
    (hb : ∀ x m P, drawS m p k Post (fun v m' => P (some v) m') → body x m P) : ∀ (items acc : List Val) (m : Store) (a : Pot), PotAt m p a (k * items.length) → acc.length + items.length ≤ sizeLine →
      (∀ (ws : List Val) (a' : Pot), ws.length = items.length → (∀ v ∈ ws, Post v) → a'.ok (a.c + (k * items.length : Nat)) → fin (acc ++ ws) (m.set p a'.ob)) → lcW live body items acc m fin
  | [], acc, m, a, hp, hl, h => by
    have := h [] a rfl (fun _ z => by cases z) (Pot.ok_self hp.2 (by simp))
    rw [hp.self, List.append_nil] at this
    exact ⟨hlive m, this⟩
  | x :: xs, acc, m, a, hp, hl, h => by
    refine ⟨hlive m, hb x m _ ?_⟩
    simp only [List.length_cons] at hp hl h
    have e : k * (xs.length + 1) = k + k * xs.length := by rw [Nat.mul_add, Nat.mul_one, Nat.add_comm]
    rw [e] at hp
    refine ⟨a, hp.mono (by omega), fun v a1 hv h1 => ⟨by omega, ?_⟩⟩
    refine lc_draw hlive hb xs (acc ++ [v]) (m.set p a1.ob) a1 (hp.next h1) (by simp; omega) fun ws a' hw hP ho => ?_
    rw [List.set_set, List.append_assoc]
    refine h (v :: ws) a' (by simp [hw]) (fun z hz => ?_) (Pot.ok_mono ho ?_)
    · rcases List.mem_cons.mp hz with rfl | hz
      · exact hv
      · exact hP z hz
    · have := h1.2.2.2.2
      rw [e]
      push_cast
      omega
theorem for_draw {live : Store → Prop} {step : Val → Env → Store → (Env → Store → Prop) → Prop} {fin : Env → Store → Prop} {p k : Nat} (I : Env → Prop) (hlive : ∀ m, live m)
    (hb : ∀ x r m nx a, I r → PotAt m p a k → (∀ (r' : Env) (a' : Pot), I r' → a'.ok (a.c + k) → nx r' (m.set p a'.ob)) → step x r m nx) : ∀ (items : List Val) (r : Env) (m : Store) (a : Pot), I r → PotAt m p a (k * items.length) →
      (∀ (r' : Env) (a' : Pot), I r' → a'.ok (a.c + (k * items.length : Nat)) → fin r' (m.set p a'.ob)) → forW live step fin items r m
  | [], r, m, a, hi, hp, h => by
    have := h r a hi (Pot.ok_self hp.2 (by simp))
    rw [hp.self] at this
    exact ⟨hlive m, this⟩
  | x :: xs, r, m, a, hi, hp, h => by
    simp only [List.length_cons] at hp h
    have e : k * (xs.length + 1) = k + k * xs.length := by rw [Nat.mul_add, Nat.mul_one, Nat.add_comm]
    rw [e] at hp
    refine ⟨hlive m, hb x r m _ a hi (hp.mono (by omega)) fun r' a1 hi' h1 => ?_⟩
    refine for_draw I hlive hb xs r' (m.set p a1.ob) a1 hi' (hp.next h1) fun r2 a' hi2 ho => ?_
    rw [List.set_set]
    refine h r2 a' hi2 (Pot.ok_mono ho ?_)
    have := h1.2.2.2.2
    rw [e]
    push_cast
    omega
/-- a comprehension whose turns are plain functions -/
theorem lc_pure {live : Store → Prop} {body : Val → Store → (Option Val → Store → Prop) → Prop} {fin : List Val → Store → Prop} {f : Val → Val} {m : Store} (hl : live m) :
    ∀ (items acc : List Val), (∀ x ∈ items, ∀ P, P (some (f x)) m → body x m P) → acc.length + items.length ≤ sizeLine → fin (acc ++ items.map f) m → lcW live body items acc m fin
  | [], acc, _, _, h => ⟨hl, by simpa using h⟩
  | c :: t, acc, hb, hz, h => by
    refine ⟨hl, hb c List.mem_cons_self _ ⟨by simp at hz; omega, lc_pure hl t _ (fun x hx => hb x (List.mem_cons_of_mem _ hx)) (by simp at hz ⊢; omega) ?_⟩⟩
    simpa using h
/-- a comprehension of truths of signs -/
theorem lc_signs {live : Store → Prop} {body : Val → Store → (Option Val → Store → Prop) → Prop} {fin : List Val → Store → Prop} {f : Nat → Bool} {m : Store} (hl : live m) (hb : ∀ c P, P (some (.bool (f c))) m → body (.str [c]) m P) :
    ∀ (t : Text) (acc : List Val), acc.length + t.length ≤ sizeLine → fin (acc ++ t.map fun c => .bool (f c)) m → lcW live body (t.map fun c => .str [c]) acc m fin
  | [], acc, _, h => ⟨hl, by simpa using h⟩
  | c :: t, acc, hz, h => by
    refine ⟨hl, hb c _ ⟨by simp at hz; omega, lc_signs hl hb t _ (by simp at hz ⊢; omega) ?_⟩⟩
    simpa using h
end Dy

/-! Dp, part N: data compared, searched, shown. -/
namespace Dy
open PySem L2
/-- signs that there are -/
def signs (s : Text) : Bool := s.all (· < 0x110000)
mutual
/-- plain data -/
def lay : Val → Bool
  | .str s => signs s
  | .tup vs => lays vs
  | .il _ vs => lays vs
  | .loc _ => false
  | _ => true
def lays : List Val → Bool
  | [] => true
  | v :: vs => lay v && lays vs
end
mutual
def dep : Val → Nat
  | .tup vs => deps vs + 1
  | .il _ vs => deps vs + 1
  | _ => 0
def deps : List Val → Nat
  | [] => 0
  | v :: vs => max (dep v) (deps vs)
end
mutual
/-- equal as Python has it -/
def veqv : Val → Val → Bool
  | .non, .non => true
  | .bool a, .bool b => a == b
  | .bool a, .int j => (if a then 1 else 0) == j
  | .int i, .bool b => i == (if b then 1 else 0)
  | .int i, .int j => i == j
  | .str x, .str y => x == y
  | .il _ xs, .il _ ys => veqvs xs ys
  | .tup xs, .tup ys => veqvs xs ys
  | _, _ => false
def veqvs : List Val → List Val → Bool
  | [], [] => true
  | x :: xs, y :: ys => veqv x y && veqvs xs ys
  | _, _ => false
end
mutual
theorem lay_pd : ∀ {v : Val}, lay v = true → ∃ d, pd v = some d ∧ d.canLay0 = true ∧ d.depth = dep v ∧ d.hasDict = false
  | .non, _ => ⟨_, rfl, rfl, rfl, rfl⟩
  | .bool b, _ => ⟨_, rfl, rfl, rfl, rfl⟩
  | .int i, _ => ⟨_, rfl, rfl, rfl, rfl⟩
  | .str s, h => ⟨_, rfl, by simp only [lay, signs] at h; simp only [PyData.canLay0, PyData.strOk]; simpa using h, rfl, rfl⟩
  | .tup vs, h => by
    obtain ⟨ds, e, h1, h2, h3⟩ := lays_pds (vs := vs) (by simpa only [lay] using h)
    exact ⟨.tuple ds, by simp only [pd, e, Option.map_some], by simp only [PyData.canLay0]; exact h1, by simp only [PyData.depth, dep, h2], by simp only [PyData.hasDict]; exact h3⟩
  | .il o vs, h => by
    obtain ⟨ds, e, h1, h2, h3⟩ := lays_pds (vs := vs) (by simpa only [lay] using h)
    exact ⟨.list ds, by simp only [pd, e, Option.map_some], by simp only [PyData.canLay0]; exact h1, by simp only [PyData.depth, dep, h2], by simp only [PyData.hasDict]; exact h3⟩
  | .loc n, h => by simp [lay] at h
theorem lays_pds : ∀ {vs : List Val}, lays vs = true → ∃ ds, pds vs = some ds ∧ PyData.canLayAll0 ds = true ∧ PyData.depthAll ds = deps vs ∧ PyData.hasDictAll ds = false
  | [], _ => ⟨[], rfl, rfl, rfl, rfl⟩
  | v :: vs, h => by
    simp only [lays, Bool.and_eq_true] at h
    obtain ⟨d, e, h1, h2, h3⟩ := lay_pd h.1
    obtain ⟨ds, e', g1, g2, g3⟩ := lays_pds h.2
    exact ⟨d :: ds, by simp only [pds, e, e', Option.bind_some, Option.map_some], by simp only [PyData.canLayAll0, h1, g1, Bool.and_self], by simp only [PyData.depthAll, deps, h2, g2], by simp only [PyData.hasDictAll, h3, g3, Bool.or_self]⟩
end
mutual
theorem eqv_veqv : ∀ {a b : Val} {d e : PyData}, pd a = some d → pd b = some e → PyData.eqv d e = veqv a b
  | .non, b, d, e, h1, h2 => by
    cases h1
    cases b <;> simp only [pd, Option.map_eq_some_iff, Option.some.injEq] at h2 <;> first | (obtain ⟨_, _, rfl⟩ := h2; simp [PyData.eqv, veqv]) | (subst h2; simp [PyData.eqv, veqv]) | cases h2
  | .bool x, b, d, e, h1, h2 => by
    cases h1
    cases b <;> simp only [pd, Option.map_eq_some_iff, Option.some.injEq] at h2 <;> first | (obtain ⟨_, _, rfl⟩ := h2; simp [PyData.eqv, veqv]) | (subst h2; simp [PyData.eqv, veqv]) | cases h2
  | .int x, b, d, e, h1, h2 => by
    cases h1
    cases b <;> simp only [pd, Option.map_eq_some_iff, Option.some.injEq] at h2 <;> first | (obtain ⟨_, _, rfl⟩ := h2; simp [PyData.eqv, veqv]) | (subst h2; simp [PyData.eqv, veqv]) | cases h2
  | .str x, b, d, e, h1, h2 => by
    cases h1
    cases b with
    | str y => cases h2; simp only [PyData.eqv, veqv]; exact SX.S_beq x y
    | tup ys =>
      simp only [pd, Option.map_eq_some_iff] at h2
      obtain ⟨es, e2, rfl⟩ := h2
      simp [PyData.eqv, veqv]
    | il o ys =>
      simp only [pd, Option.map_eq_some_iff] at h2
      obtain ⟨es, e2, rfl⟩ := h2
      simp [PyData.eqv, veqv]
    | loc n => cases h2
    | _ => cases h2; simp [PyData.eqv, veqv]
  | .tup xs, b, d, e, h1, h2 => by
    simp only [pd, Option.map_eq_some_iff] at h1
    obtain ⟨ds, e1, rfl⟩ := h1
    cases b with
    | tup ys =>
      simp only [pd, Option.map_eq_some_iff] at h2
      obtain ⟨es, e2, rfl⟩ := h2
      simp only [PyData.eqv, veqv]
      exact eqvs_veqvs e1 e2
    | il o ys =>
      simp only [pd, Option.map_eq_some_iff] at h2
      obtain ⟨es, e2, rfl⟩ := h2
      simp [PyData.eqv, veqv]
    | loc n => cases h2
    | _ => cases h2; simp [PyData.eqv, veqv]
  | .il o xs, b, d, e, h1, h2 => by
    simp only [pd, Option.map_eq_some_iff] at h1
    obtain ⟨ds, e1, rfl⟩ := h1
    cases b with
    | il o ys =>
      simp only [pd, Option.map_eq_some_iff] at h2
      obtain ⟨es, e2, rfl⟩ := h2
      simp only [PyData.eqv, veqv]
      exact eqvs_veqvs e1 e2
    | tup ys =>
      simp only [pd, Option.map_eq_some_iff] at h2
      obtain ⟨es, e2, rfl⟩ := h2
      simp [PyData.eqv, veqv]
    | loc n => cases h2
    | _ => cases h2; simp [PyData.eqv, veqv]
  | .loc n, _, _, _, h1, _ => by cases h1
theorem eqvs_veqvs : ∀ {a b : List Val} {d e : List PyData}, pds a = some d → pds b = some e → PyData.eqvAll d e = veqvs a b
  | [], [], d, e, h1, h2 => by cases h1; cases h2; simp [PyData.eqvAll, veqvs]
  | [], y :: ys, d, e, h1, h2 => by
    cases h1
    simp only [pds, Option.bind_eq_some_iff, Option.map_eq_some_iff] at h2
    obtain ⟨_, _, _, _, rfl⟩ := h2
    simp [PyData.eqvAll, veqvs]
  | x :: xs, [], d, e, h1, h2 => by
    cases h2
    simp only [pds, Option.bind_eq_some_iff, Option.map_eq_some_iff] at h1
    obtain ⟨_, _, _, _, rfl⟩ := h1
    simp [PyData.eqvAll, veqvs]
  | x :: xs, y :: ys, d, e, h1, h2 => by
    simp only [pds, Option.bind_eq_some_iff, Option.map_eq_some_iff] at h1 h2
    obtain ⟨a1, b1, c1, d1, rfl⟩ := h1
    obtain ⟨a2, b2, c2, d2, rfl⟩ := h2
    simp only [PyData.eqvAll, veqvs, eqv_veqv b1 b2, eqvs_veqvs d1 d2]
end
/-- data that may be compared -/
def cmpV (v : Val) : Bool := lay v && decide (dep v ≤ 64)
theorem pdm_lay {m : Store} {v : Val} (h : lay v = true) : pdm m v = pd v := by
  cases v <;> first | rfl | simp [lay] at h
theorem cmpV_pd {m : Store} {v : Val} (h : cmpV v = true) : ∃ d, pdm m v = some d ∧ pd v = some d ∧ SeqAt.shaped d = true := by
  unfold cmpV at h
  simp only [Bool.and_eq_true, decide_eq_true_eq] at h
  obtain ⟨d, e, h1, h2, _⟩ := lay_pd h.1
  exact ⟨d, by rw [pdm_lay h.1]; exact e, e, by unfold SeqAt.shaped; rw [h1, h2]; simpa using h.2⟩
section
variable {m : Store} {T : Bool → Prop} {a b : Val}
theorem cmp_eqG (h1 : cmpV a = true) (h2 : cmpV b = true) (h : T (veqv a b)) : cmpW .eq a b m T := by
  obtain ⟨d, e1, e2, e3⟩ := cmpV_pd (m := m) h1
  obtain ⟨e, f1, f2, f3⟩ := cmpV_pd (m := m) h2
  refine ⟨d, e, e1, f1, ?_, by rw [eqv_veqv e2 f2]; exact h⟩
  unfold eqOk
  rw [e3, f3]; simp
theorem cmp_neG (h1 : cmpV a = true) (h2 : cmpV b = true) (h : T (!veqv a b)) : cmpW .ne a b m T := by
  obtain ⟨d, e1, e2, e3⟩ := cmpV_pd (m := m) h1
  obtain ⟨e, f1, f2, f3⟩ := cmpV_pd (m := m) h2
  refine ⟨d, e, e1, f1, ?_, by rw [eqv_veqv e2 f2]; exact h⟩
  unfold eqOk
  rw [e3, f3]; simp
theorem any_veqv {x : Val} {d : PyData} (hx : pd x = some d) : ∀ {vs : List Val} {ds : List PyData}, pds vs = some ds → (ds.any fun z => PyData.eqv z d) = vs.any fun z => veqv z x
  | [], ds, h => by cases h; rfl
  | v :: vs, ds, h => by
    simp only [pds, Option.bind_eq_some_iff, Option.map_eq_some_iff] at h
    obtain ⟨e, h1, es, h2, rfl⟩ := h
    rw [List.any_cons, List.any_cons, eqv_veqv h1 hx, any_veqv hx h2]
theorem inL {neg : Bool} {o : Bool} {vs : List Val} (ha : ∀ s, a ≠ .str s ∨ True) (h1 : cmpV a = true) (h2 : cmpV (.il o vs) = true) (h : T (neg != vs.any fun z => veqv z a)) : inW neg a (.il o vs) m T := by
  obtain ⟨d, e1, e2, e3⟩ := cmpV_pd (m := m) h1
  obtain ⟨e, f1, f2, f3⟩ := cmpV_pd (m := m) h2
  simp only [pd, Option.map_eq_some_iff] at f2
  obtain ⟨ds, g1, rfl⟩ := f2
  have key : ∃ d e, pdm m a = some d ∧ pdm m (.il o vs) = some e ∧ inOk d e = true ∧ T (neg != (itemsP e).any fun z => PyData.eqv z d) :=
    ⟨d, _, e1, f1, by simp only [inOk, e3, f3, Bool.and_self], by simp only [itemsP]; rw [any_veqv e2 g1]; exact h⟩
  unfold inW
  split
  · rename_i hq; cases hq
  · exact key
/-- plain things -/
def flatS : Val → Bool
  | .non => true
  | .bool _ => true
  | .int _ => true
  | .str _ => true
  | _ => false
theorem flatS_pd {v : Val} (h : flatS v = true) : ∃ d, pd v = some d ∧ flatP d = true ∧ ∀ m, pdm m v = some d := by
  cases v <;> first | exact ⟨_, rfl, rfl, fun _ => rfl⟩ | cases h
theorem flatS_pds : ∀ {vs : List Val}, vs.all flatS = true → ∃ ds, pds vs = some ds ∧ ds.all flatP = true
  | [], _ => ⟨[], rfl, rfl⟩
  | v :: vs, h => by
    rw [List.all_cons, Bool.and_eq_true] at h
    obtain ⟨d, e, f, _⟩ := flatS_pd h.1
    obtain ⟨ds, e', f'⟩ := flatS_pds h.2
    exact ⟨d :: ds, by simp only [pds, e, e', Option.bind_some, Option.map_some], by rw [List.all_cons, f, f']; rfl⟩
theorem inT {neg : Bool} {vs : List Val} (h1 : flatS a = true) (h2 : vs.all flatS = true) (h : T (neg != vs.any fun z => veqv z a)) : inW neg a (.tup vs) m T := by
  obtain ⟨d, e1, e2, e3⟩ := flatS_pd h1
  obtain ⟨ds, f1, f2⟩ := flatS_pds h2
  have key : ∃ d e, pdm m a = some d ∧ pdm m (.tup vs) = some e ∧ inOk d e = true ∧ T (neg != (itemsP e).any fun z => PyData.eqv z d) :=
    ⟨d, .tuple ds, e3 m, by simp only [pdm, pd, f1, Option.map_some], by simp only [inOk, e2, f2, Bool.and_self], by simp only [itemsP]; rw [any_veqv e1 f1]; exact h⟩
  unfold inW
  split
  · rename_i hq; cases hq
  · exact key
end
/-! ### shown -/
mutual
/-- can be shown -/
def shw : Val → Bool
  | .int i => decide (i.natAbs.log2 < 1920)
  | .str s => signs s
  | .tup vs => shws vs
  | .il _ vs => shws vs
  | .loc _ => false
  | _ => true
def shws : List Val → Bool
  | [] => true
  | v :: vs => shw v && shws vs
end
mutual
/-- no longer than this -/
def rsz : Val → Nat
  | .non => 4
  | .bool _ => 5
  | .int i => i.natAbs.log2 + 2
  | .str s => 10 * s.length + 2
  | .tup vs => rszs vs + 4
  | .il _ vs => rszs vs + 4
  | .loc _ => 0
def rszs : List Val → Nat
  | [] => 0
  | v :: vs => rsz v + 2 + rszs vs
end
def lensum : List Str → Nat
  | [] => 0
  | x :: r => x.length + 2 + lensum r
theorem strlen_app (a b : Str) : (a ++ b).length = a.length + b.length := by rw [Str.length_append]
theorem join_le : ∀ ts : List Str, (Str.join ", " ts).length ≤ lensum ts
  | [] => Nat.zero_le _
  | [x] => by show x.length ≤ x.length + 2 + 0; omega
  | x :: y :: r => by
    have ih := join_le (y :: r)
    show (x ++ ", " ++ Str.join ", " (y :: r)).length ≤ x.length + 2 + lensum (y :: r)
    rw [strlen_app, strlen_app]
    have e2 : ((", " : String) : Str).length = 2 := rfl
    omega
theorem from_le : ∀ (ts : List Str) (k : Nat) (acc : Str), (textFrom k acc ts).length ≤ acc.length + lensum ts
  | [], _, _ => Nat.le_refl _
  | t :: r, k, acc => by
    have ih := from_le r (k + 1) (acc ++ (if k > 0 then ", " else "" : String) ++ t)
    show (textFrom (k + 1) (acc ++ (if k > 0 then ", " else "" : String) ++ t) r).length ≤ acc.length + (t.length + 2 + lensum r)
    rw [strlen_app, strlen_app] at ih
    have e2 : (((if k > 0 then ", " else "" : String)) : Str).length ≤ 2 := by split <;> decide
    omega
mutual
theorem shw_pd : ∀ {v : Val}, shw v = true → ∃ d, pd v = some d ∧ d.showable = true ∧ d.depth = dep v ∧ d.hasDict = false ∧ d.shown.length ≤ rsz v
  | .non, _ => ⟨_, rfl, rfl, rfl, rfl, by decide +kernel⟩
  | .bool b, _ => ⟨_, rfl, rfl, rfl, rfl, by cases b <;> decide +kernel⟩
  | .int i, h => by
    have h' : i.natAbs.log2 < 1920 := by simpa only [shw, decide_eq_true_eq] using h
    refine ⟨_, rfl, by simpa only [PyData.showable, decide_eq_true_eq] using h', rfl, rfl, ?_⟩
    have := int_text_length_le (a := i) (k := i.natAbs.log2 + 1) (by omega) (by omega)
    show (Str.ofString (toString i)).length ≤ i.natAbs.log2 + 2
    have e : (Str.ofString (toString i)).length = (toString i).length := by
      show (Str.ofString (toString i)).cps.size = _
      rw [← Array.length_toList]
      show (TL.tl (Str.ofString (toString i))).length = _
      rw [TL.tl_ofString, List.length_map, String.length_toList]
    omega
  | .str s, h => by
    refine ⟨_, rfl, rfl, rfl, rfl, ?_⟩
    have := StrLaws.reprText_len (SX.S s) (fun c hc => by
      simp only [shw, signs, List.all_eq_true, decide_eq_true_eq] at h
      have := h c (by simpa using hc)
      have e : (16 : Nat) ^ 8 = 4294967296 := by decide
      omega)
    rw [SX.S_len] at this
    exact this
  | .tup vs, h => by
    obtain ⟨ds, e, h1, h2, h3, h4⟩ := shws_pds (vs := vs) (by simpa only [shw] using h)
    refine ⟨.tuple ds, by simp only [pd, e, Option.map_some], by simp only [PyData.showable]; exact h1, by simp only [PyData.depth, dep, h2], by simp only [PyData.hasDict]; exact h3, ?_⟩
    simp only [PyData.shown, tupleText, rsz]
    rw [strlen_app, strlen_app]
    have e1 : (("(" : String) : Str).length = 1 := rfl
    have e2 : (((if (PyData.shownAll ds).length == 1 then ",)" else ")" : String)) : Str).length ≤ 2 := by split <;> decide
    have := join_le (PyData.shownAll ds)
    omega
  | .il o vs, h => by
    obtain ⟨ds, e, h1, h2, h3, h4⟩ := shws_pds (vs := vs) (by simpa only [shw] using h)
    refine ⟨.list ds, by simp only [pd, e, Option.map_some], by simp only [PyData.showable]; exact h1, by simp only [PyData.depth, dep, h2], by simp only [PyData.hasDict]; exact h3, ?_⟩
    simp only [PyData.shown, listText, rsz]
    rw [strlen_app]
    have e1 : (("[" : String) : Str).length = 1 := rfl
    have e2 : (("]" : String) : Str).length = 1 := rfl
    have := from_le (PyData.shownAll ds) 0 "["
    omega
  | .loc n, h => by simp [shw] at h
theorem shws_pds : ∀ {vs : List Val}, shws vs = true → ∃ ds, pds vs = some ds ∧ PyData.showableAll ds = true ∧ PyData.depthAll ds = deps vs ∧ PyData.hasDictAll ds = false ∧ lensum (PyData.shownAll ds) ≤ rszs vs
  | [], _ => ⟨[], rfl, rfl, rfl, rfl, Nat.le_refl _⟩
  | v :: vs, h => by
    simp only [shws, Bool.and_eq_true] at h
    obtain ⟨d, e, h1, h2, h3, h4⟩ := shw_pd h.1
    obtain ⟨ds, e', g1, g2, g3, g4⟩ := shws_pds h.2
    refine ⟨d :: ds, by simp only [pds, e, e', Option.bind_some, Option.map_some], by simp only [PyData.showableAll, h1, g1, Bool.and_self], by simp only [PyData.depthAll, deps, h2, g2], by simp only [PyData.hasDictAll, h3, g3, Bool.or_self], ?_⟩
    simp only [PyData.shownAll, lensum, rszs]
    omega
end
/-- what repr tells -/
def reprV (v : Val) : Text := match pd v with | some d => d.shown.cps.toList | none => []
theorem bi_reprG {m : Store} {v : Val} {Q : Val → Store → Prop} (h1 : shw v = true) (h2 : dep v ≤ 60) (h3 : rsz v ≤ sizeLine) (h : Q (.str (reprV v)) m) : biW .repr [v] m Q := by
  obtain ⟨d, e, g1, g2, g3, g4⟩ := shw_pd h1
  refine ⟨d, ?_, ⟨g1, g3, by omega, by omega⟩, ?_⟩
  · cases v <;> first | exact e | simp [shw] at h1
  · unfold reprV at h
    rw [e] at h
    exact h
end Dy

/-! Dp, part P: the same readings, laid out so that simp walks them from the front and leaves what comes later alone. -/
namespace Dy
open PySem L2
inductive Tok {α : Type} : α → Type
  | mk {a : α} : Tok a
def ex {α : Type} (o : Option α) (P : α → Prop) (t : Tok P) : Prop := ∃ v, o = some v ∧ P v
@[simp ↓] theorem ex_some {α : Type} (v : α) (P : α → Prop) (t : Tok P) : ex (some v) P t = P v := by simp [ex]
@[simp ↓] theorem ex_none {α : Type} (P : α → Prop) (t : Tok P) : ex none P t = False := by simp [ex]
theorem ex_i {α : Type} {o : Option α} {v : α} {P : α → Prop} {t : Tok P} (h : o = some v) (q : P v) : ex o P t := ⟨v, h, q⟩
def asT (w : Val) (P : List Val → Prop) (t : Tok P) : Prop := ∃ vs, w = .tup vs ∧ P vs
@[simp ↓] theorem asT_tup (vs : List Val) (P : List Val → Prop) (t : Tok P) : asT (.tup vs) P t = P vs := by simp [asT]
def asI (w : Val) (P : Int → Prop) (t : Tok P) : Prop := ∃ i, w = .int i ∧ P i
@[simp ↓] theorem asI_int (i : Int) (P : Int → Prop) (t : Tok P) : asI (.int i) P t = P i := by simp [asI]
def callF (f : FS) (vs : List Val) (m : Store) (Q : Val → Store → Prop) (R : Rq) (t : Tok Q) (u : Tok R) : Prop := f vs m Q R
def binX (op : BOp) (a b : Val) (m : Store) (Q : Val → Store → Prop) (t : Tok Q) : Prop := binW op a b m Q
def cmpX (op : COp) (a b : Val) (m : Store) (T : Bool → Prop) (t : Tok T) : Prop := cmpW op a b m T
def biX (b : Bi) (vs : List Val) (m : Store) (Q : Val → Store → Prop) (t : Tok Q) : Prop := biW b vs m Q
def mtX (k : Mt) (v : Val) (vs : List Val) (m : Store) (Q : Val → Store → Prop) (t : Tok Q) : Prop := mtW k v vs m Q
def setX (o i v : Val) (m : Store) (P : Store → Prop) (t : Tok P) : Prop := setW o i v m P
def lcX (live : Store → Prop) (body : Val → Store → (Option Val → Store → Prop) → Prop) (items acc : List Val) (m : Store) (fin : List Val → Store → Prop) (t1 : Tok live) (t2 : Tok body) (t3 : Tok fin) : Prop := lcW live body items acc m fin
def forX (live : Store → Prop) (step : Val → Dy.Env → Store → (Dy.Env → Store → Prop) → Prop) (k : Dy.Env → Store → Prop) (items : List Val) (r : Dy.Env) (m : Store) (t1 : Tok live) (t2 : Tok step) (t3 : Tok k) : Prop := forW live step k items r m
def kdX (op : KOp) (kvs : List (Text × Val)) (k d : Val) (P : Val → Prop) (t : Tok P) : Prop := kdW op kvs k d P
section
variable (kvs : List (Text × Val)) (t : Text) (d : Val) (P : Val → Prop) (tk : Tok P)
@[simp ↓] theorem kdX_get1 : kdX .get1 kvs (.str t) d P tk = P ((kvs.lookup t).getD .non) := id rfl
@[simp ↓] theorem kdX_get2 : kdX .get2 kvs (.str t) d P tk = P ((kvs.lookup t).getD d) := id rfl
@[simp ↓] theorem kdX_idx : kdX .idx kvs (.str t) d P tk = ex (kvs.lookup t) P .mk := id rfl
@[simp ↓] theorem kdX_isin : kdX .isin kvs (.str t) d P tk = P (.bool (kvs.lookup t).isSome) := id rfl
@[simp ↓] theorem kdX_notin : kdX .notin kvs (.str t) d P tk = P (.bool (!(kvs.lookup t).isSome)) := id rfl
end
def tsx (T : Bool → Store → Prop) (v : Val) (m : Store) (t : Tok T) : Prop := ∃ t, tru m v = some t ∧ T t m
section
variable (T : Bool → Store → Prop) (m : Store) (tk : Tok T)
@[simp ↓] theorem tsx_bool (b : Bool) : tsx T (.bool b) m tk = T b m := by simp [tsx, tru]
@[simp ↓] theorem tsx_int (i : Int) : tsx T (.int i) m tk = T (i != 0) m := by simp [tsx, tru]
@[simp ↓] theorem tsx_non : tsx T .non m tk = T false m := by simp [tsx, tru]
theorem tsx_i {t : Bool} {v : Val} (h : tru m v = some t) (q : T t m) : tsx T v m tk := ⟨t, h, q⟩
end
section
variable (m : Store) (Q : Val → Store → Prop) (T : Bool → Prop) (tq : Tok Q) (tt : Tok T)
@[simp ↓] theorem X_bin_addI (a b : Int) : binX .add (.int a) (.int b) m Q tq = (Q (.int (a + b)) m) := id (bin_addI m Q a b)
@[simp ↓] theorem X_bin_addS (a b : Text) : binX .add (.str a) (.str b) m Q tq = ((a.length + b.length ≤ sizeLine ∧ Q (.str (a ++ b)) m)) := id (bin_addS m Q a b)
@[simp ↓] theorem X_bin_addL (a b : List Val) : binX .add (.il true a) (.il true b) m Q tq = ((a.length + b.length ≤ sizeLine ∧ Q (.il true (a ++ b)) m)) := id (bin_addL m Q a b)
@[simp ↓] theorem X_bin_addT (a b : List Val) : binX .add (.tup a) (.tup b) m Q tq = ((a.length + b.length ≤ sizeLine ∧ Q (.tup (a ++ b)) m)) := id rfl
@[simp ↓] theorem X_bin_subI (a b : Int) : binX .sub (.int a) (.int b) m Q tq = (Q (.int (a - b)) m) := id (bin_subI m Q a b)
@[simp ↓] theorem X_bin_mulI (a b : Int) : binX .mul (.int a) (.int b) m Q tq = ((mulOk a b ∧ Q (.int (a * b)) m)) := id (bin_mulI m Q a b)
@[simp ↓] theorem X_bin_mulL (a : List Val) (k : Int) : binX .mul (.il true a) (.int k) m Q tq = (((-(2 ^ 63) ≤ k ∧ k < 2 ^ 63 ∧ a.length * k.toNat ≤ sizeLine) ∧ Q (.il true (List.replicate k.toNat a).flatten) m)) := id (bin_mulL m Q a k)
@[simp ↓] theorem X_bin_fdiv (a b : Int) : binX .fdiv (.int a) (.int b) m Q tq = ((divOk b ∧ Q (.int (a / b)) m)) := id (bin_fdiv m Q a b)
@[simp ↓] theorem X_bin_mod (a b : Int) : binX .mod (.int a) (.int b) m Q tq = ((0 < b ∧ Q (.int (a % b)) m)) := id (bin_mod m Q a b)
@[simp ↓] theorem X_bin_pow (a b : Int) : binX .pow (.int a) (.int b) m Q tq = ((powOk a b ∧ Q (.int (a ^ b.toNat)) m)) := id (bin_pow m Q a b)
@[simp ↓] theorem X_cmp_lt (a b : Int) : cmpX .lt (.int a) (.int b) m T tt = (T (decide (a < b))) := id (cmp_lt m T a b)
@[simp ↓] theorem X_cmp_le (a b : Int) : cmpX .le (.int a) (.int b) m T tt = (T (decide (a ≤ b))) := id (cmp_le m T a b)
@[simp ↓] theorem X_cmp_gt (a b : Int) : cmpX .gt (.int a) (.int b) m T tt = (T (decide (b < a))) := id (cmp_gt m T a b)
@[simp ↓] theorem X_cmp_ge (a b : Int) : cmpX .ge (.int a) (.int b) m T tt = (T (decide (b ≤ a))) := id (cmp_ge m T a b)
@[simp ↓] theorem X_cmp_eqI (a b : Int) : cmpX .eq (.int a) (.int b) m T tt = (T (decide (a = b))) := id (cmp_eqI m T a b)
@[simp ↓] theorem X_cmp_neI (a b : Int) : cmpX .ne (.int a) (.int b) m T tt = (T (!decide (a = b))) := id (cmp_neI m T a b)
@[simp ↓] theorem X_cmp_eqS (a b : Text) : cmpX .eq (.str a) (.str b) m T tt = (T (decide (a = b))) := id (cmp_eqS m T a b)
@[simp ↓] theorem X_cmp_neS (a b : Text) : cmpX .ne (.str a) (.str b) m T tt = (T (!decide (a = b))) := id (cmp_neS m T a b)
@[simp ↓] theorem X_cmp_inS (c : Nat) (z : Text) : cmpX .isin (.str [c]) (.str z) m T tt = (T (decide (c ∈ z))) := id (cmp_inS m T c z)
@[simp ↓] theorem X_cmp_notS (c : Nat) (z : Text) : cmpX .notin (.str [c]) (.str z) m T tt = (T (!decide (c ∈ z))) := id (cmp_notS m T c z)
@[simp ↓] theorem X_bi_lenS (s : Text) : biX .len [.str s] m Q tq = ((s.length ≤ sizeLine ∧ Q (.int s.length) m)) := id (bi_lenS m Q s)
@[simp ↓] theorem X_bi_lenT (vs : List Val) : biX .len [.tup vs] m Q tq = (Q (.int vs.length) m) := id (bi_lenT m Q vs)
@[simp ↓] theorem X_bi_lenL (o : Bool) (vs : List Val) : biX .len [.il o vs] m Q tq = (Q (.int vs.length) m) := id (bi_lenL m Q o vs)
@[simp ↓] theorem X_bi_abs (i : Int) : biX .abs [.int i] m Q tq = (Q (.int (if i < 0 then -i else i)) m) := id (bi_abs m Q i)
@[simp ↓] theorem X_bi_intI (i : Int) : biX .int [.int i] m Q tq = (Q (.int i) m) := id (bi_intI m Q i)
@[simp ↓] theorem X_bi_intB (b : Bool) : biX .int [.bool b] m Q tq = (Q (.int (if b then 1 else 0)) m) := id (bi_intB m Q b)
@[simp ↓] theorem X_bi_intS (s : Text) : biX .int [.str s] m Q tq = (ex (PySem.intText? (SX.S s)) (fun n => s.length ≤ 640 ∧ Q (.int n) m) .mk) := id (bi_intS m Q s)
@[simp ↓] theorem X_bi_strI (i : Int) : biX .str [.int i] m Q tq = ((i.natAbs.log2 < 1920 ∧ Q (.str (numT i)) m)) := id (bi_strI m Q i)
@[simp ↓] theorem X_bi_strS (s : Text) : biX .str [.str s] m Q tq = (Q (.str s) m) := id (bi_strS m Q s)
@[simp ↓] theorem X_bi_tupL (o : Bool) (vs : List Val) : biX .tuple [.il o vs] m Q tq = (Q (.tup vs) m) := id (bi_tupL m Q o vs)
@[simp ↓] theorem X_bi_tupT (vs : List Val) : biX .tuple [.tup vs] m Q tq = (Q (.tup vs) m) := id (bi_tupT m Q vs)
@[simp ↓] theorem X_bi_lstL (o : Bool) (vs : List Val) : biX .list [.il o vs] m Q tq = (Q (.il true vs) m) := id (bi_lstL m Q o vs)
@[simp ↓] theorem X_bi_allL (o : Bool) (vs : List Val) : biX .all [.il o vs] m Q tq = (ex (boolsOf vs) (fun bs => Q (.bool (bs.all id)) m) .mk) := id (bi_allL m Q o vs)
@[simp ↓] theorem X_bi_anyL (o : Bool) (vs : List Val) : biX .any [.il o vs] m Q tq = (ex (boolsOf vs) (fun bs => Q (.bool (bs.any id)) m) .mk) := id (bi_anyL m Q o vs)
@[simp ↓] theorem X_bi_max (i j : Int) : biX .max [.int i, .int j] m Q tq = (Q (.int (if j > i then j else i)) m) := id (bi_max m Q i j)
@[simp ↓] theorem X_bi_min (i j : Int) : biX .min [.int i, .int j] m Q tq = (Q (.int (if j < i then j else i)) m) := id (bi_min m Q i j)
@[simp ↓] theorem X_mt_splitE (a b : Text) : mtX .split (.str a) [.str b] m Q tq = (((b ≠ [] ∧ b.all (· < 256) = true ∧ a.length + 2 ≤ sizeLine) ∧ Q (.il true ((TL.spl b 0 [] a).map .str)) m)) := id (mt_splitE m Q a b)
end
def xE (F : Nat → FS) (e : E) (r : Dy.Env) (m : Store) (Q : Val → Store → Prop) (R : Rq) : Prop := wpE F e r m Q R
def xT (F : Nat → FS) (e : E) (r : Dy.Env) (m : Store) (T : Bool → Store → Prop) (R : Rq) : Prop := wpT F e r m T R
def xS (F : Nat → FS) (b : S) (r : Dy.Env) (m : Store) (D : En) : Prop := wpS F b r m D
section
variable (F : Nat → FS) (r : Dy.Env) (m : Store) (Q : Val → Store → Prop) (T : Bool → Store → Prop) (R : Rq)
@[simp ↓] theorem xE_var (i : Nat) : xE F (.var i) r m Q R = ex r[i]? (fun o => ex o (fun v => Q v m) .mk) .mk := by
  show wpE F (.var i) r m Q R = _
  simp only [wpE_var, ex]
  refine propext ⟨fun ⟨v, a, b⟩ => ⟨some v, a, v, rfl, b⟩, fun ⟨o, a, v, b, c⟩ => ⟨v, by rw [a, b], c⟩⟩
@[simp ↓] theorem xE_cst (v : Val) : xE F (.cst v) r m Q R = Q v m := id rfl
@[simp ↓] theorem xE_nil : xE F .nil r m Q R = Q (.tup []) m := id rfl
@[simp ↓] theorem xE_cons (a b : E) : xE F (.cons a b) r m Q R = xE F a r m (fun v m1 => xE F b r m1 (fun w m2 => asT w (fun vs => Q (.tup (v :: vs)) m2) .mk) R) R := id rfl
@[simp ↓] theorem xE_tup (es : E) : xE F (.tup es) r m Q R = xE F es r m (fun v m1 => asT v (fun vs => vs.length ≤ sizeLine ∧ Q (.tup vs) m1) .mk) R := id rfl
@[simp ↓] theorem xE_lstT (es : E) : xE F (.lst true es) r m Q R = xE F es r m (fun v m1 => asT v (fun vs => vs.length ≤ sizeLine ∧ Q (.loc m1.length) (m1 ++ [.list vs])) .mk) R := id rfl
@[simp ↓] theorem xE_lstF (es : E) : xE F (.lst false es) r m Q R = xE F es r m (fun v m1 => asT v (fun vs => vs.length ≤ sizeLine ∧ Q (.il true vs) m1) .mk) R := id rfl
@[simp ↓] theorem xE_bin (op : BOp) (a b : E) : xE F (.bin op a b) r m Q R = xE F a r m (fun v m1 => xE F b r m1 (fun w m2 => binX op v w m2 Q .mk) R) R := id rfl
@[simp ↓] theorem xE_neg (a : E) : xE F (.neg a) r m Q R = xE F a r m (fun v m1 => asI v (fun i => Q (.int (-i)) m1) .mk) R := id rfl
@[simp ↓] theorem xE_cmp (op : COp) (a b : E) : xE F (.cmp op a b) r m Q R = xE F a r m (fun v m1 => xE F b r m1 (fun w m2 => cmpX op v w m2 (fun t => Q (.bool t) m2) .mk) R) R := id rfl
@[simp ↓] theorem xE_chain (o1 o2 : COp) (a b c : E) : xE F (.chain o1 o2 a b c) r m Q R = xE F a r m (fun v m1 => xE F b r m1 (fun w m2 => cmpX o1 v w m2 (fun t => if t = true then xE F c r m2 (fun u m3 => cmpX o2 w u m3 (fun t => Q (.bool t) m3) .mk) R else Q (.bool false) m2) .mk) R) R := id rfl
@[simp ↓] theorem xE_isN (neg : Bool) (a : E) : xE F (.isN neg a) r m Q R = xE F a r m (fun v m1 => Q (.bool (neg != isNon v)) m1) R := id rfl
@[simp ↓] theorem xE_one (a : E) : xE F (.one a) r m Q R = xE F a r m Q R := id rfl
@[simp ↓] theorem xE_and (a b : E) : xE F (.and a b) r m Q R = xE F a r m (fun v m1 => tsx (fun t m1 => if t = true then xE F b r m1 Q R else Q v m1) v m1 .mk) R := id rfl
@[simp ↓] theorem xE_or (a b : E) : xE F (.or a b) r m Q R = xE F a r m (fun v m1 => tsx (fun t m1 => if t = true then Q v m1 else xE F b r m1 Q R) v m1 .mk) R := id rfl
@[simp ↓] theorem xE_not (a : E) : xE F (.not a) r m Q R = xE F a r m (fun v m1 => tsx (fun t m1 => Q (.bool (!t)) m1) v m1 .mk) R := id rfl
@[simp ↓] theorem xE_ite (c a b : E) : xE F (.ite c a b) r m Q R = xT F c r m (fun t m1 => if t = true then xE F a r m1 Q R else xE F b r m1 Q R) R := id rfl
@[simp ↓] theorem xE_call (f : Nat) (args : E) : xE F (.call f args) r m Q R = xE F args r m (fun v m1 => asT v (fun vs => callF (F f) vs m1 Q R .mk .mk) .mk) R := id rfl
@[simp ↓] theorem xE_bi (b : Bi) (args : E) : xE F (.bi b args) r m Q R = xE F args r m (fun v m1 => asT v (fun vs => biX b vs m1 Q .mk) .mk) R := id rfl
@[simp ↓] theorem xE_isI (t : Ty) (a : E) : xE F (.isI t a) r m Q R = xE F a r m (fun v m1 => Q (.bool (isT t v)) m1) R := id rfl
@[simp ↓] theorem xE_meth (t : Mt) (o args : E) : xE F (.meth t o args) r m Q R = xE F o r m (fun v m1 => mtT t v ∧ xE F args r m1 (fun w m2 => asT w (fun vs => mtX t v vs m2 Q .mk) .mk) R) R := id rfl
@[simp ↓] theorem xE_idx (a i : E) : xE F (.idx a i) r m Q R = xE F a r m (fun v m1 => xE F i r m1 (fun w m2 => ex (idxF m2 v w) (fun u => Q u m2) .mk) R) R := id rfl
@[simp ↓] theorem xE_sl (hl hh : Bool) (a lo hi : E) : xE F (.sl hl hh a lo hi) r m Q R = xE F a r m (fun v m1 => xE F lo r m1 (fun l m2 => ex (partF hl l) (fun i => xE F hi r m2 (fun u m3 => ex (partF hh u) (fun j => ex (sliceF m3 v i j) (fun z => Q z m3) .mk) .mk) R) .mk) R) R := id rfl
@[simp ↓] theorem xE_lcF (own : List Nat) (tg : Tg) (ik : IK) (e1 e2 cond elt : E) : xE F (.lc false own tg ik e1 e2 cond elt) r m Q R = xE F e1 r m (fun v1 m1 => xE F e2 r m1 (fun v2 m2 => ex (itF ik m2 v1 v2) (fun items => lcX (fun m => itF ik m v1 v2 = some items) (fun x m P => ex (tgF tg x (wipeE r own)) (fun r2 => xT F cond r2 m (fun t m1 => if t = true then xE F elt r2 m1 (fun y m2 => P (some y) m2) noR else P none m1) noR) .mk) items [] m2 (fun acc m3 => Q (.il true acc) m3) .mk .mk .mk) .mk) R) R := id rfl
@[simp ↓] theorem xE_lcT (own : List Nat) (tg : Tg) (ik : IK) (e1 e2 cond elt : E) : xE F (.lc true own tg ik e1 e2 cond elt) r m Q R = xE F e1 r m (fun v1 m1 => xE F e2 r m1 (fun v2 m2 => ex (itF ik m2 v1 v2) (fun items => lcX (fun m => itF ik m v1 v2 = some items) (fun x m P => ex (tgF tg x (wipeE r own)) (fun r2 => xT F cond r2 m (fun t m1 => if t = true then xE F elt r2 m1 (fun y m2 => P (some y) m2) noR else P none m1) noR) .mk) items [] m2 (fun acc m3 => Q (.loc m3.length) (m3 ++ [.list acc])) .mk .mk .mk) .mk) R) R := id rfl
@[simp ↓] theorem xE_scons (a b : E) : xE F (.scons a b) r m Q R = xE F a r m (fun v m1 => ex (sq m1 v) (fun us => xE F b r m1 (fun w m2 => asT w (fun vs => Q (.tup (us ++ vs)) m2) .mk) R) .mk) R := id rfl
@[simp ↓] theorem xE_kd (op : KOp) (kvs : List (Text × Val)) (k d : E) : xE F (.kd op kvs k d) r m Q R = xE F k r m (fun kv m1 => xE F d r m1 (fun dv m2 => kdX op kvs kv dv (fun v => Q v m2) .mk) R) R := id rfl
@[simp ↓] theorem xT_kd (op : KOp) (kvs : List (Text × Val)) (k d : E) : xT F (.kd op kvs k d) r m T R = xE F (.kd op kvs k d) r m (fun v m1 => tsx T v m1 .mk) R := id rfl
@[simp ↓] theorem xT_one (a : E) : xT F (.one a) r m T R = xT F a r m T R := id rfl
@[simp ↓] theorem xT_and (a b : E) : xT F (.and a b) r m T R = xT F a r m (fun t m1 => if t = true then xT F b r m1 T R else T false m1) R := id rfl
@[simp ↓] theorem xT_or (a b : E) : xT F (.or a b) r m T R = xT F a r m (fun t m1 => if t = true then T true m1 else xT F b r m1 T R) R := id rfl
@[simp ↓] theorem xT_not (a : E) : xT F (.not a) r m T R = xT F a r m (fun t m1 => T (!t) m1) R := id rfl
@[simp ↓] theorem xT_ite (c a b : E) : xT F (.ite c a b) r m T R = xT F c r m (fun t m1 => if t = true then xT F a r m1 T R else xT F b r m1 T R) R := id rfl
@[simp ↓] theorem xT_var (i : Nat) : xT F (.var i) r m T R = xE F (.var i) r m (fun v m1 => tsx T v m1 .mk) R := id rfl
@[simp ↓] theorem xT_cst (v : Val) : xT F (.cst v) r m T R = xE F (.cst v) r m (fun v m1 => tsx T v m1 .mk) R := id rfl
@[simp ↓] theorem xT_tup (a : E) : xT F (.tup a) r m T R = xE F (.tup a) r m (fun v m1 => tsx T v m1 .mk) R := id rfl
@[simp ↓] theorem xT_lst (mu : Bool) (a : E) : xT F (.lst mu a) r m T R = xE F (.lst mu a) r m (fun v m1 => tsx T v m1 .mk) R := id rfl
@[simp ↓] theorem xT_bin (op : BOp) (a b : E) : xT F (.bin op a b) r m T R = xE F (.bin op a b) r m (fun v m1 => tsx T v m1 .mk) R := id rfl
@[simp ↓] theorem xT_cmp (op : COp) (a b : E) : xT F (.cmp op a b) r m T R = xE F (.cmp op a b) r m (fun v m1 => tsx T v m1 .mk) R := id rfl
@[simp ↓] theorem xT_chain (o1 o2 : COp) (a b c : E) : xT F (.chain o1 o2 a b c) r m T R = xE F (.chain o1 o2 a b c) r m (fun v m1 => tsx T v m1 .mk) R := id rfl
@[simp ↓] theorem xT_isN (neg : Bool) (a : E) : xT F (.isN neg a) r m T R = xE F (.isN neg a) r m (fun v m1 => tsx T v m1 .mk) R := id rfl
@[simp ↓] theorem xT_call (f : Nat) (a : E) : xT F (.call f a) r m T R = xE F (.call f a) r m (fun v m1 => tsx T v m1 .mk) R := id rfl
@[simp ↓] theorem xT_bi (b : Bi) (a : E) : xT F (.bi b a) r m T R = xE F (.bi b a) r m (fun v m1 => tsx T v m1 .mk) R := id rfl
@[simp ↓] theorem xT_isI (t : Ty) (a : E) : xT F (.isI t a) r m T R = xE F (.isI t a) r m (fun v m1 => tsx T v m1 .mk) R := id rfl
@[simp ↓] theorem xT_meth (t : Mt) (a b : E) : xT F (.meth t a b) r m T R = xE F (.meth t a b) r m (fun v m1 => tsx T v m1 .mk) R := id rfl
@[simp ↓] theorem xT_idx (a b : E) : xT F (.idx a b) r m T R = xE F (.idx a b) r m (fun v m1 => tsx T v m1 .mk) R := id rfl
variable (D : En)
@[simp ↓] theorem xS_nil : xS F .nil r m D = D.nx r m := id rfl
@[simp ↓] theorem xS_cons (a b : S) : xS F (.cons a b) r m D = xS F a r m { D with nx := fun r m => xS F b r m D } := id rfl
@[simp ↓] theorem xS_expr (e : E) : xS F (.expr e) r m D = xE F e r m (fun _ m1 => D.nx r m1) (D.rx r) := id rfl
@[simp ↓] theorem xS_ret (e : E) : xS F (.ret e) r m D = xE F e r m D.rt (D.rx r) := id rfl
@[simp ↓] theorem xS_retN : xS F .retN r m D = D.rt .non m := id rfl
@[simp ↓] theorem xS_asg (tg : Tg) (e : E) : xS F (.asg tg e) r m D = xE F e r m (fun v m1 => ex (tgF tg v r) (fun r1 => D.nx r1 m1) .mk) (D.rx r) := id rfl
@[simp ↓] theorem xS_par (is : List Nat) (es : E) : xS F (.par is es) r m D = xE F es r m (fun v m1 => asT v (fun vs => ex (setAll is vs r) (fun r1 => D.nx r1 m1) .mk) .mk) (D.rx r) := id rfl
@[simp ↓] theorem xS_asgStar (is : List Nat) (j : Nat) (e : E) : xS F (.asgStar is j e) r m D = xE F e r m (fun v m1 => ex (sq m1 v) (fun vs => is.length ≤ vs.length ∧ ex (setAll (is ++ [j]) (vs.take is.length ++ [.il true (vs.drop is.length)]) r) (fun r1 => D.nx r1 m1) .mk) .mk) (D.rx r) := id rfl
@[simp ↓] theorem xS_setIx (o i e : E) : xS F (.setIx o i e) r m D = xE F e r m (fun v m1 => xE F o r m1 (fun ov m2 => xE F i r m2 (fun iv m3 => setX ov iv v m3 (fun m4 => D.nx r m4) .mk) (D.rx r)) (D.rx r)) (D.rx r) := id rfl
@[simp ↓] theorem xS_ite (c : E) (a b : S) : xS F (.ite c a b) r m D = xT F c r m (fun t m1 => if t = true then xS F a r m1 D else xS F b r m1 D) (D.rx r) := id rfl
@[simp ↓] theorem xS_loop (tg : Tg) (ik : IK) (e1 e2 : E) (body : S) : xS F (.loop tg ik e1 e2 body) r m D = xE F e1 r m (fun v1 m1 => xE F e2 r m1 (fun v2 m2 => ex (itF ik m2 v1 v2) (fun items => forX (fun m => itF ik m v1 v2 = some items) (fun x r m nx => ex (tgF tg x r) (fun r1 => xS F body r1 m { D with nx := nx, ct := nx, bk := D.nx }) .mk) D.nx items r m2 .mk .mk .mk) .mk) (D.rx r)) (D.rx r) := id rfl
@[simp ↓] theorem xS_never : xS F .never r m D = False := id rfl
@[simp ↓] theorem xS_pass : xS F .pass r m D = D.nx r m := id rfl
end
@[simp] theorem sizeLine_at : sizeLine = 16777216 := sizeLine_is
theorem Meets.x {F : Nat → FS} {n : Nat} {body : S} {fs : FS} (h : ∀ args m Q R, cM m.length m = true → cVs m.length args = true → fs args m Q R → xS F body (startE n args) m (bodyEn m.length Q R)) : Meets F n body fs := h
theorem idx_locX {m : Store} {n : Nat} {i : Int} {P : Val → Prop} {tk : Tok P} {vs : List Val} {u : Val} (h : m[n]? = some (.list vs)) (h2 : atI vs i = some u) (q : P u) : ex (idxF m (.loc n) (.int i)) P tk := by
  refine ⟨u, ?_, q⟩
  simp [idxF, sq, h, h2]
theorem x_app {m : Store} {n : Nat} {v : Val} {vs : List Val} {Q : Val → Store → Prop} {tk : Tok Q} (h : m[n]? = some (.list vs)) (hl : vs.length < sizeLine) (q : Q .non (m.set n (.list (vs ++ [v])))) : mtX .append (.loc n) [v] m Q tk := ⟨vs, h, hl, q⟩
theorem x_tupM {m : Store} {n : Nat} {vs : List Val} {Q : Val → Store → Prop} {tk : Tok Q} (h : m[n]? = some (.list vs)) (q : Q (.tup vs) m) : biX .tuple [.loc n] m Q tk := by
  show biW .tuple [.loc n] m Q
  rw [bi_tupM]
  exact ⟨vs, h, q⟩
theorem x_join {a : Text} {o : Bool} {vs : List Val} {m : Store} {Q : Val → Store → Prop} {tk : Tok Q} (ts : List Text) (e : vs = ts.map .str) (h : (ts.map fun x => List.length x).sum + ts.length * a.length ≤ 16777216) (q : Q (.str (TL.joinL a ts)) m) : mtX .join (.str a) [.il o vs] m Q tk := by
  show mtW .join (.str a) [.il o vs] m Q
  rw [mt_joinL]
  exact ⟨ts, e, h, q⟩
theorem x_eqG {a b : Val} {m : Store} {T : Bool → Prop} {tk : Tok T} (h1 : cmpV a = true) (h2 : cmpV b = true) (h : T (veqv a b)) : cmpX .eq a b m T tk := cmp_eqG h1 h2 h
theorem x_neG {a b : Val} {m : Store} {T : Bool → Prop} {tk : Tok T} (h1 : cmpV a = true) (h2 : cmpV b = true) (h : T (!veqv a b)) : cmpX .ne a b m T tk := cmp_neG h1 h2 h
theorem for_inv {live : Store → Prop} {step : Val → Dy.Env → Store → (Dy.Env → Store → Prop) → Prop} {fin : Dy.Env → Store → Prop} (J : List Val → Dy.Env → Store → Prop) (hl : ∀ m, live m)
    (hs : ∀ x xs r m nx, J (x :: xs) r m → (∀ r' m', J xs r' m' → nx r' m') → step x r m nx) (hf : ∀ r m, J [] r m → fin r m) : ∀ {items : List Val} {r : Dy.Env} {m : Store}, J items r m → forW live step fin items r m
  | [], r, m, h => ⟨hl m, hf r m h⟩
  | x :: xs, r, m, h => ⟨hl m, hs x xs r m _ h fun r' m' h' => for_inv J hl hs hf h'⟩
theorem cmp_notinL {a : Val} {o : Bool} {vs : List Val} {m : Store} {T : Bool → Prop} (h1 : cmpV a = true) (h2 : cmpV (.il o vs) = true) (h : T (!vs.any fun z => veqv z a)) : cmpW .notin a (.il o vs) m T :=
  inL (neg := true) (fun _ => .inr trivial) h1 h2 (by simpa using h)
theorem cmp_inL {a : Val} {o : Bool} {vs : List Val} {m : Store} {T : Bool → Prop} (h1 : cmpV a = true) (h2 : cmpV (.il o vs) = true) (h : T (vs.any fun z => veqv z a)) : cmpW .isin a (.il o vs) m T :=
  inL (neg := false) (fun _ => .inr trivial) h1 h2 (by simpa using h)
theorem lc_map {α : Type} {live : Store → Prop} {body : Val → Store → (Option Val → Store → Prop) → Prop} {fin : List Val → Store → Prop} {f : α → Val} (g : α → Val) {m : Store} (hl : live m) :
    ∀ (xs : List α) (acc : List Val), (∀ x ∈ xs, ∀ P, P (some (g x)) m → body (f x) m P) → acc.length + xs.length ≤ sizeLine → fin (acc ++ xs.map g) m → lcW live body (xs.map f) acc m fin
  | [], acc, _, _, h => ⟨hl, by simpa using h⟩
  | x :: xs, acc, hb, hs, h => by
    refine ⟨hl, hb x List.mem_cons_self _ ?_⟩
    simp only [List.length_cons] at hs
    exact ⟨by omega, lc_map g hl xs _ (fun y hy => hb y (List.mem_cons_of_mem _ hy)) (by simp only [List.length_append, List.length_cons, List.length_nil]; omega) (by simpa using h)⟩
theorem for_invX {live : Store → Prop} {step : Val → Dy.Env → Store → (Dy.Env → Store → Prop) → Prop} {fin : Dy.Env → Store → Prop} {t1 : Tok live} {t2 : Tok step} {t3 : Tok fin} (J : List Val → Dy.Env → Store → Prop) (hl : ∀ m, live m)
    (hs : ∀ x xs r m nx, J (x :: xs) r m → (∀ r' m', J xs r' m' → nx r' m') → step x r m nx) (hf : ∀ r m, J [] r m → fin r m) {items : List Val} {r : Dy.Env} {m : Store} (h : J items r m) : forX live step fin items r m t1 t2 t3 := for_inv J hl hs hf h
theorem lc_map0 {α : Type} {live : Store → Prop} {body : Val → Store → (Option Val → Store → Prop) → Prop} {fin : List Val → Store → Prop} {f : α → Val} (g : α → Val) {m : Store} (hl : live m)
    (xs : List α) (hb : ∀ x ∈ xs, ∀ P, P (some (g x)) m → body (f x) m P) (hs : xs.length ≤ sizeLine) (q : fin (xs.map g) m) {t1 : Tok live} {t2 : Tok body} {t3 : Tok fin} : lcX live body (xs.map f) [] m fin t1 t2 t3 :=
  lc_map g hl xs [] hb (by simpa using hs) (by simpa using q)
/-! ### sequences, slices -/
@[simp] theorem sq_tup (m : Store) (vs : List Val) : sq m (.tup vs) = some vs := id rfl
@[simp] theorem sq_il (m : Store) (o : Bool) (vs : List Val) : sq m (.il o vs) = some vs := id rfl
theorem sq_loc {m : Store} {n : Nat} {vs : List Val} (h : m[n]? = some (.list vs)) : sq m (.loc n) = some vs := by simp [sq, h]
@[simp] theorem sl_tup (m : Store) (vs : List Val) (lo hi : Option Int) : sliceF m (.tup vs) lo hi = some (.tup (cutL vs lo hi)) := id rfl
@[simp] theorem sl_il (m : Store) (o : Bool) (vs : List Val) (lo hi : Option Int) : sliceF m (.il o vs) lo hi = some (.il true (cutL vs lo hi)) := id rfl
@[simp] theorem sl_str (m : Store) (s : Text) (lo hi : Option Int) : sliceF m (.str s) lo hi = if s.length ≤ sizeLine then some (.str (cutL s lo hi)) else none := id rfl
@[simp] theorem part_no (v : Val) : partF false v = some none := id rfl
@[simp] theorem part_yes (i : Int) : partF true (.int i) = some (some i) := id rfl
@[simp] theorem cut_all {α : Type} (xs : List α) : cutL xs none none = xs := by simp [cutL, HT.sIx]
theorem cut_lo {α : Type} (xs : List α) (k : Int) (h : 0 ≤ k) : cutL xs (some k) none = xs.drop k.toNat := by
  obtain ⟨n, rfl⟩ := Int.eq_ofNat_of_zero_le h
  unfold cutL
  rw [HT.sIx_nat, HT.sIx_none, Int.toNat_natCast]
  by_cases hn : n ≤ xs.length
  · rw [Nat.min_eq_left hn, List.take_of_length_le (by simp)]
  · rw [Nat.min_eq_right (by omega), List.drop_of_length_le (Nat.le_refl _), List.drop_of_length_le (by omega)]
    simp
theorem cut_hi {α : Type} (xs : List α) (k : Int) (h : 0 ≤ k) : cutL xs none (some k) = xs.take k.toNat := by
  obtain ⟨n, rfl⟩ := Int.eq_ofNat_of_zero_le h
  unfold cutL
  rw [HT.sIx_nat, HT.sIx_none, Int.toNat_natCast, List.drop_zero, Nat.sub_zero]
  by_cases hn : n ≤ xs.length
  · rw [Nat.min_eq_left hn]
  · rw [Nat.min_eq_right (by omega), List.take_of_length_le (Nat.le_refl _), List.take_of_length_le (by omega)]
@[simp] theorem cut_1 {α : Type} (xs : List α) : cutL xs (some 1) none = xs.drop 1 := cut_lo xs 1 (by decide)
@[simp] theorem cut_nat {α : Type} (xs : List α) (n : Nat) : cutL xs (some (n : Int)) none = xs.drop n := cut_lo xs n (by omega)
@[simp] theorem cut_to {α : Type} (xs : List α) (n : Nat) : cutL xs none (some (n : Int)) = xs.take n := cut_hi xs n (by omega)
@[simp] theorem it_zip (m : Store) (a b : Val) : itF .zip m a b = (sq m a).bind fun us => (sq m b).map fun vs => (us.zip vs).map fun p => .tup [p.1, p.2] := by
  cases a <;> rfl
theorem zip_strs (a b : List Text) : ((a.map Val.str).zip (b.map Val.str)).map (fun p => Val.tup [p.1, p.2]) = (a.zip b).map fun p => Val.tup [.str p.1, .str p.2] := by
  rw [List.zip_map, List.map_map]
  rfl
theorem lookup_map {α β : Type} (f : α → β) (t : Text) : ∀ l : List (Text × α), (l.map fun p => (p.1, f p.2)).lookup t = (l.lookup t).map f
  | [] => rfl
  | (s, a) :: l => by
    simp only [List.map_cons, List.lookup]
    split
    · rfl
    · exact lookup_map f t l
/-! ### in, by plain things -/
@[simp] theorem flatS_str (s : Text) : flatS (.str s) = true := id rfl
@[simp] theorem flatS_int (i : Int) : flatS (.int i) = true := id rfl
@[simp] theorem flatS_bool (b : Bool) : flatS (.bool b) = true := id rfl
@[simp] theorem flatS_non : flatS .non = true := id rfl
def flatAll (vs : List Val) : Bool := vs.all flatS
@[simp] theorem flatAll_nil : flatAll [] = true := id rfl
@[simp] theorem flatAll_cons (v : Val) (vs : List Val) : flatAll (v :: vs) = (flatS v && flatAll vs) := id rfl
@[simp] theorem flatAll_app (us vs : List Val) : flatAll (us ++ vs) = (flatAll us && flatAll vs) := by simp [flatAll]
@[simp] theorem flatAll_strs (ts : List Text) : flatAll (ts.map .str) = true := by simp [flatAll]
@[simp] theorem flatAll_nats (ns : List Nat) : flatAll (ns.map fun n => .int (n : Nat)) = true := by simp [flatAll]
@[simp] theorem veqv_ss (a b : Text) : veqv (.str a) (.str b) = (a == b) := by simp [veqv]
@[simp] theorem veqv_ii (a b : Int) : veqv (.int a) (.int b) = (a == b) := by simp [veqv]
@[simp] theorem veqv_is (a : Int) (b : Text) : veqv (.int a) (.str b) = false := by simp [veqv]
@[simp] theorem veqv_si (a : Text) (b : Int) : veqv (.str a) (.int b) = false := by simp [veqv]
@[simp] theorem veqv_ns (b : Text) : veqv .non (.str b) = false := by simp [veqv]
@[simp] theorem veqv_sn (b : Text) : veqv (.str b) .non = false := by simp [veqv]
@[simp] theorem veqv_ni (b : Int) : veqv .non (.int b) = false := by simp [veqv]
@[simp] theorem veqv_in (b : Int) : veqv (.int b) .non = false := by simp [veqv]
@[simp] theorem veqv_nn : veqv .non .non = true := by simp [veqv]
@[simp] theorem veqv_tn (b : List Val) : veqv (.tup b) .non = false := by simp [veqv]
section
variable (m : Store) (T : Bool → Prop) (tt : Tok T) {a : Val} {vs : List Val}
theorem inW_T (neg : Bool) (h1 : flatS a = true) (h2 : vs.all flatS = true) : inW neg a (.tup vs) m T = T (neg != vs.any fun z => veqv z a) := by
  refine propext ⟨fun h => ?_, fun h => inT h1 h2 h⟩
  obtain ⟨d, e1, e2, e3⟩ := flatS_pd h1
  obtain ⟨ds, f1, f2⟩ := flatS_pds h2
  unfold inW at h
  split at h
  · rename_i hq; cases hq
  · obtain ⟨d', e', g1, g2, _, q⟩ := h
    rw [e3 m] at g1; cases g1
    simp only [pdm, pd, f1, Option.map_some, Option.some.injEq] at g2
    subst g2
    simp only [itemsP] at q
    rw [any_veqv e1 f1] at q
    exact q
@[simp] theorem X_inT (h1 : flatS a = true) (h2 : flatAll vs = true) : cmpX .isin a (.tup vs) m T tt = T (vs.any fun z => veqv z a) := by
  show inW false a (.tup vs) m T = _
  rw [inW_T m T false h1 h2]; simp
@[simp] theorem X_notinT (h1 : flatS a = true) (h2 : flatAll vs = true) : cmpX .notin a (.tup vs) m T tt = T (!vs.any fun z => veqv z a) := by
  show inW true a (.tup vs) m T = _
  rw [inW_T m T true h1 h2]; simp
end
theorem x_inL {a : Val} {o : Bool} {vs : List Val} {m : Store} {T : Bool → Prop} {tk : Tok T} (h1 : cmpV a = true) (h2 : cmpV (.il o vs) = true) (h : T (vs.any fun z => veqv z a)) : cmpX .isin a (.il o vs) m T tk := cmp_inL h1 h2 h
theorem x_notinL {a : Val} {o : Bool} {vs : List Val} {m : Store} {T : Bool → Prop} {tk : Tok T} (h1 : cmpV a = true) (h2 : cmpV (.il o vs) = true) (h : T (!vs.any fun z => veqv z a)) : cmpX .notin a (.il o vs) m T tk := cmp_notinL h1 h2 h
/-- some of the items, each by itself -/
theorem lc_optW {α : Type} {live : Store → Prop} {body : Val → Store → (Option Val → Store → Prop) → Prop} {fin : List Val → Store → Prop} {f : α → Val} (g : α → Option Val) {m : Store} (hl : live m) :
    ∀ (xs : List α) (acc : List Val), (∀ x ∈ xs, ∀ P, P (g x) m → body (f x) m P) → acc.length + xs.length ≤ sizeLine → fin (acc ++ xs.filterMap g) m → lcW live body (xs.map f) acc m fin
  | [], acc, _, _, h => ⟨hl, by simpa using h⟩
  | x :: xs, acc, hb, hs, h => by
    refine ⟨hl, hb x List.mem_cons_self _ ?_⟩
    simp only [List.length_cons] at hs
    cases e : g x with
    | none =>
      refine lc_optW g hl xs _ (fun y hy => hb y (List.mem_cons_of_mem _ hy)) (by omega) ?_
      rw [List.filterMap_cons, e] at h
      exact h
    | some v =>
      refine ⟨by omega, lc_optW g hl xs _ (fun y hy => hb y (List.mem_cons_of_mem _ hy)) (by simp only [List.length_append, List.length_cons, List.length_nil]; omega) ?_⟩
      rw [List.filterMap_cons, e] at h
      simpa using h
theorem lc_opt0 {α : Type} {live : Store → Prop} {body : Val → Store → (Option Val → Store → Prop) → Prop} {fin : List Val → Store → Prop} {f : α → Val} (g : α → Option Val) {m : Store} (hl : live m)
    (xs : List α) (hb : ∀ x ∈ xs, ∀ P, P (g x) m → body (f x) m P) (hs : xs.length ≤ sizeLine) (q : fin (xs.filterMap g) m) {t1 : Tok live} {t2 : Tok body} {t3 : Tok fin} : lcX live body (xs.map f) [] m fin t1 t2 t3 :=
  lc_optW g hl xs [] hb (by simpa using hs) (by simpa using q)
end Dy

/-! Dp, part Q: draws, followed through a def. -/
namespace Dy
open PySem L2
/-- m1 is m0 after k draws of K, with more objects behind it -/
structure At (m0 : Store) (p : Nat) (a0 : Pot) (K k : Nat) (more : List Ob) (m1 : Store) : Prop where
  h0 : PotAt m0 p a0 K
  hk : k ≤ K
  st : ∃ a1 : Pot, m1 = m0.set p a1.ob ++ more ∧ a1.ok (a0.c + k)
section
variable {m0 m m1 : Store} {p K k : Nat} {a0 : Pot} {more : List Ob} {Post : Val → Prop} {Q : Val → Store → Prop}
theorem At.start {m : Store} {a : Pot} (h : PotAt m p a K) : At m p a K 0 [] m := ⟨h, Nat.zero_le _, a, by rw [h.self, List.append_nil], Pot.ok_self h.2 (by simp)⟩
theorem At.mono (h : At m0 p a0 K k more m) {k' : Nat} (h1 : k ≤ k') (h2 : k' ≤ K) : At m0 p a0 K k' more m := by
  obtain ⟨g, hk, a1, e, o⟩ := h
  exact ⟨g, h2, a1, e, Pot.ok_mono o (by omega)⟩
theorem At.len (h : At m0 p a0 K k more m) : m.length = m0.length + more.length := by
  obtain ⟨g, hk, a1, e, o⟩ := h
  rw [e]; simp
theorem At.push (h : At m0 p a0 K k more m) (o : Ob) : At m0 p a0 K k (more ++ [o]) (m ++ [o]) := by
  obtain ⟨g, hk, a1, e, q⟩ := h
  exact ⟨g, hk, a1, by rw [e, List.append_assoc], q⟩
theorem At.get (h : At m0 p a0 K k more m) (j : Nat) : m[m0.length + j]? = more[j]? := by
  obtain ⟨g, hk, a1, e, q⟩ := h
  rw [e, List.getElem?_append_right (by simp)]
  simp
theorem At.get0 (h : At m0 p a0 K k more m) : m[m0.length]? = more[0]? := h.get 0
theorem At.set (h : At m0 p a0 K k more m) (j : Nat) (o : Ob) : At m0 p a0 K k (more.set j o) (m.set (m0.length + j) o) := by
  obtain ⟨g, hk, a1, e, q⟩ := h
  refine ⟨g, hk, a1, ?_, q⟩
  rw [e, List.set_append_right _ _ (by simp)]
  simp
theorem At.set0 (h : At m0 p a0 K k more m) (o : Ob) : At m0 p a0 K k (more.set 0 o) (m.set m0.length o) := h.set 0 o
theorem At.pot (h : At m0 p a0 K k more m) {j : Nat} (hj : k + j ≤ K) : ∃ a1 : Pot, m = m0.set p a1.ob ++ more ∧ a1.ok (a0.c + k) ∧ PotAt m p a1 j := by
  obtain ⟨g, hk, a1, e, o⟩ := h
  refine ⟨a1, e, o, ?_, Pot.ok_mono o ?_⟩
  · rw [e]
    have := g.lt
    rw [List.getElem?_append_left (by simpa using this)]
    simp [this]
  · have := g.2.2.2.2.2
    omega
theorem At.next (h : At m0 p a0 K k more m) {j : Nat} (hj : k + j ≤ K) {a1 a' : Pot} (e : m = m0.set p a1.ob ++ more) (o : a1.ok (a0.c + k)) (h' : a'.ok (a1.c + j)) : At m0 p a0 K (k + j) more (m.set p a'.ob) := by
  refine ⟨h.h0, hj, a', ?_, Pot.ok_mono h' ?_⟩
  · rw [e, List.set_append_left _ _ (by have := h.h0.lt; simpa using this), List.set_set]
  · have := o.2.2.2.2
    push_cast
    omega
theorem At.draw (j : Nat) (h : At m0 p a0 K k more m) (hj : k + j ≤ K) (q : ∀ v m', Post v → At m0 p a0 K (k + j) more m' → Q v m') : drawS m p j Post Q := by
  obtain ⟨a1, e, o, hp⟩ := h.pot hj
  exact ⟨a1, hp, fun v a' hv h' => q v _ hv (h.next hj e o h')⟩
theorem At.fin (h : At m0 p a0 K k [] m1) (hQ : ∀ (v : Val) (a' : Pot), Post v → a'.ok (a0.c + K) → Q v (m0.set p a'.ob)) {v : Val} (hv : Post v) : Q v m1 := by
  obtain ⟨g, hk, a1, e, o⟩ := h
  rw [e, List.append_nil]
  exact hQ v a1 hv (Pot.ok_mono o (by omega))
theorem pot_closed (n : Nat) (a : Pot) : cO n a.ob = true := by simp [Pot.ob, cO, cVs, cV]
theorem cM_set {n : Nat} {o : Ob} (ho : cO n o = true) : ∀ {m : Store} (i : Nat), cM n m = true → cM n (m.set i o) = true := by
  intro m i h
  unfold cM at h ⊢
  rw [List.all_eq_true] at h ⊢
  intro x hx
  rcases List.mem_or_eq_of_mem_set hx with z | rfl
  · exact h x z
  · exact ho
/-- a def's end: what was made is forgotten -/
theorem At.ret (h : At m0 p a0 K k more m1) (hm : cM m0.length m0 = true) (hQ : ∀ (v : Val) (a' : Pot), Post v → a'.ok (a0.c + K) → Q v (m0.set p a'.ob)) {v : Val} (hc : cV m0.length v = true) (hv : Post v) : Dy.ret m0.length Q v m1 := by
  obtain ⟨g, hk, a1, e, o⟩ := h
  have et : m1.take m0.length = m0.set p a1.ob := by
    rw [e, List.take_append_of_le_length (by simp), List.take_of_length_le (by simp)]
  refine .inr ⟨m0.length, Nat.le_refl _, hc, ?_, ?_⟩
  · rw [et]; exact cM_set (pot_closed _ _) _ hm
  · rw [et]; exact hQ v a1 hv (Pot.ok_mono o (by omega))
theorem x_take {n : Int} {R : Rq} {tk : Tok Q} {uk : Tok R} (h : At m0 p a0 K k more m) (hj : k + 1 ≤ K) (h0 : 0 < n) (h1 : n < 2 ^ 30) (q : ∀ d m', 0 ≤ d → d < n → At m0 p a0 K (k + 1) more m' → Q (.int d) m') : callF fsTake [.loc p, .int n] m Q R tk uk :=
  ⟨p, n, rfl, ⟨h0, h1⟩, h.draw 1 hj fun v m' ⟨d, e, h2, h3⟩ ha => by rw [e]; exact q d m' h2 h3 ha⟩
theorem x_of {s : Val} {R : Rq} {tk : Tok Q} {uk : Tok R} (vs : List Val) (h : At m0 p a0 K k more m) (hj : k + 1 ≤ K) (hp : pick s = some vs) (h0 : vs ≠ []) (h1 : vs.length < 2 ^ 20) (q : ∀ v m', v ∈ vs → At m0 p a0 K (k + 1) more m' → Q v m') : callF fsOf [.loc p, s] m Q R tk uk :=
  ⟨p, s, vs, rfl, hp, h0, h1, h.draw 1 hj q⟩
/-- a def that draws -/
def fsDraw (k : Nat) (Post : Val → Prop) : FS := fun args m Q _ => ∃ p, args = [.loc p] ∧ drawS m p k Post Q
theorem x_draw {j : Nat} {R : Rq} {tk : Tok Q} {uk : Tok R} (h : At m0 p a0 K k more m) (hj : k + j ≤ K) (q : ∀ v m', Post v → At m0 p a0 K (k + j) more m' → Q v m') : callF (fsDraw j Post) [.loc p] m Q R tk uk := ⟨p, rfl, h.draw j hj q⟩
theorem x_pot {o : Bool} {ns : List Int} {j : Nat} {R : Rq} {tk : Tok Q} {uk : Tok R} (h : j < 1000) (q : ∀ a : Pot, PotAt (m ++ [a.ob]) m.length a 1000000 → Q (.loc m.length) (m ++ [a.ob])) : callF fsPot [.il o (ns.map .int), .int (j : Nat)] m Q R tk uk :=
  ⟨o, ns, j, rfl, h, fun a ha => q a ⟨by simp, Pot.ok_mono ha (by simp [LIM])⟩⟩
theorem lc_at {live : Store → Prop} {body : Val → Store → (Option Val → Store → Prop) → Prop} {fin : List Val → Store → Prop} (j : Nat) (Post : Val → Prop) {items acc : List Val} (hlive : ∀ m, live m)
    (hb : ∀ x m a P, At m p a j 0 [] m → (∀ v m', Post v → At m p a j j [] m' → P (some v) m') → body x m P) (h : At m0 p a0 K k more m) (hj : k + j * items.length ≤ K) (hs : acc.length + items.length ≤ sizeLine)
    (q : ∀ (ws : List Val) m', ws.length = items.length → (∀ v ∈ ws, Post v) → At m0 p a0 K (k + j * items.length) more m' → fin (acc ++ ws) m') : lcW live body items acc m fin := by
  obtain ⟨a1, e, o, hp⟩ := h.pot hj
  refine lc_draw (k := j) (Post := Post) hlive (fun x m P hd => ?_) items acc m a1 hp hs fun ws a' h1 h2 h3 => q ws _ h1 h2 (h.next hj e o h3)
  obtain ⟨a, ha, hq⟩ := hd
  exact hb x m a P (.start ha) fun v m' hv hm => hm.fin hq hv
theorem lc_at0 {live : Store → Prop} {body : Val → Store → (Option Val → Store → Prop) → Prop} {fin : List Val → Store → Prop} {t1 : Tok live} {t2 : Tok body} {t3 : Tok fin} (j : Nat) (Post : Val → Prop) {items : List Val} (hlive : ∀ m, live m)
    (hb : ∀ x m a P, At m p a j 0 [] m → (∀ v m', Post v → At m p a j j [] m' → P (some v) m') → body x m P) (h : At m0 p a0 K k more m) (hj : k + j * items.length ≤ K) (hs : items.length ≤ sizeLine)
    (q : ∀ (ws : List Val) m', ws.length = items.length → (∀ v ∈ ws, Post v) → At m0 p a0 K (k + j * items.length) more m' → fin ws m') : lcX live body items [] m fin t1 t2 t3 :=
  lc_at j Post hlive hb h hj (by simpa using hs) fun ws m' h1 h2 h3 => by rw [List.nil_append]; exact q ws m' h1 h2 h3
theorem for_at {live : Store → Prop} {step : Val → Dy.Env → Store → (Dy.Env → Store → Prop) → Prop} {fin : Dy.Env → Store → Prop} {t1 : Tok live} {t2 : Tok step} {t3 : Tok fin} (j : Nat) (I : Dy.Env → Prop) {items : List Val} {r : Dy.Env} (hlive : ∀ m, live m)
    (hb : ∀ x r m a nx, I r → At m p a j 0 [] m → (∀ r' m', I r' → At m p a j j [] m' → nx r' m') → step x r m nx) (hi : I r) (h : At m0 p a0 K k more m) (hj : k + j * items.length ≤ K)
    (q : ∀ r' m', I r' → At m0 p a0 K (k + j * items.length) more m' → fin r' m') : forX live step fin items r m t1 t2 t3 := by
  obtain ⟨a1, e, o, hp⟩ := h.pot hj
  refine for_draw (k := j) I hlive (fun x r m nx a hi ha hn => ?_) items r m a1 hi hp fun r' a' h1 h3 => q r' _ h1 (h.next hj e o h3)
  refine hb x r m a nx hi (.start ha) fun r' m' hi' hm => ?_
  obtain ⟨g, hk, a1, e, o⟩ := hm
  rw [e, List.append_nil]
  exact hn r' a1 hi' o
/-- the rounds of a for that draws and changes what it made -/
theorem for_more {live : Store → Prop} {step : Val → Dy.Env → Store → (Dy.Env → Store → Prop) → Prop} {fin : Dy.Env → Store → Prop} {t1 : Tok live} {t2 : Tok step} {t3 : Tok fin} (j : Nat) (I : Nat → Dy.Env → List Ob → Prop) {items : List Val} {r : Dy.Env} (hlive : ∀ m, live m)
    (hb : ∀ x n r k' more m1 nx, n < items.length → I n r more → At m0 p a0 K k' more m1 → k' + j ≤ K → (∀ r' more' m', I (n + 1) r' more' → At m0 p a0 K (k' + j) more' m' → nx r' m') → step x r m1 nx) (hi : I 0 r more) (h : At m0 p a0 K k more m) (hj : k + j * items.length ≤ K)
    (q : ∀ r' more' m', I items.length r' more' → At m0 p a0 K (k + j * items.length) more' m' → fin r' m') : forX live step fin items r m t1 t2 t3 := by
  refine for_invX (fun rem r m1 => ∃ n more, n + rem.length = items.length ∧ I n r more ∧ At m0 p a0 K (k + j * n) more m1) hlive ?_ ?_ ⟨0, more, by simp, hi, by simpa using h⟩
  · rintro x xs r m1 nx ⟨n, more, hl, hi, hA⟩ hn
    simp only [List.length_cons] at hl
    have hle : j * (n + 1) ≤ j * items.length := Nat.mul_le_mul (Nat.le_refl _) (by omega)
    rw [Nat.mul_add, Nat.mul_one] at hle
    refine hb x n r (k + j * n) more m1 nx (by omega) hi hA (by omega) fun r' more' m' hi' hA' => hn r' m' ⟨n + 1, more', by omega, hi', ?_⟩
    rw [Nat.mul_add, Nat.mul_one, ← Nat.add_assoc]
    exact hA'
  · rintro r m1 ⟨n, more, hl, hi, hA⟩
    simp only [List.length_nil, Nat.add_zero] at hl
    subst hl
    exact q r more m1 hi hA
end
theorem it_rng1 (m : Store) (n : Int) (v : Val) : itF .rng1 m (.int n) v = if -(2 ^ 62) ≤ n ∧ n < 2 ^ 62 then some (intsUp 0 n.toNat) else none := rfl
theorem it_rng {m : Store} {n : Int} {v : Val} (h0 : -(2 ^ 62) ≤ n) (h1 : n < 2 ^ 62) : itF .rng1 m (.int n) v = some (intsUp 0 n.toNat) := if_pos ⟨h0, h1⟩
theorem x_rng {m : Store} {n : Int} {v : Val} {P : List Val → Prop} {tk : Tok P} (h0 : 0 ≤ n) (h1 : n < 1000000) (q : P (intsUp 0 n.toNat)) : ex (itF .rng1 m (.int n) v) P tk := ⟨_, it_rng (by omega) (by omega), q⟩
@[simp] theorem intsUp_len (a : Int) (n : Nat) : (intsUp a n).length = n := by simp [intsUp]
theorem intsUp_mem {a : Int} {n : Nat} {x : Val} (h : x ∈ intsUp a n) : ∃ i : Nat, i < n ∧ x = .int (a + i) := by
  simp only [intsUp, List.mem_map, List.mem_range] at h
  obtain ⟨i, hi, e⟩ := h
  exact ⟨i, hi, e.symm⟩
end Dy

/-! Dp, part R: the defs of a module, one after the other. -/
namespace Dy
open PySem L2
/-- the module has a constant -/
def HasC (K : Frag) (x : Str) (v : Val) : Prop := ∃ u xv, PySem.W.nsIn K mainGlobals x = some (some u) ∧ RelV xv u ∧ ∀ W H, RV K W H v xv
theorem hasI {K : Frag} {x : Str} {i j : Int} {t} (a : PySem.W.nsIn K mainGlobals x = some (some (.int i t))) (e : i = j) : HasC K x (.int j) := ⟨_, .int j, a, ⟨t, by rw [e]⟩, fun _ _ => .int j⟩
theorem hasS {K : Frag} {x : Str} {s : Str} {cs : Text} {t} (a : PySem.W.nsIn K mainGlobals x = some (some (.str s t))) (e : s = SX.S cs) : HasC K x (.str cs) := ⟨_, .str (SX.S cs), a, ⟨t, by rw [e]⟩, fun _ _ => .str cs⟩
/-- a value of the written part -/
def HasV (K : Frag) (u : Value) (v : Val) : Prop := ∃ xv, RelV xv u ∧ ∀ W H, RV K W H v xv
def HasVs (K : Frag) : List Value → List Val → Prop
  | [], [] => True
  | u :: us, v :: vs => HasV K u v ∧ HasVs K us vs
  | _, _ => False
theorem hasVS {K : Frag} {s : Str} {cs : Text} {t} (e : s = SX.S cs) : HasV K (.str s t) (.str cs) := ⟨.str (SX.S cs), ⟨t, by rw [e]⟩, fun _ _ => .str cs⟩
theorem hasVI {K : Frag} {i j : Int} {t} (e : i = j) : HasV K (.int i t) (.int j) := ⟨.int j, ⟨t, by rw [e]⟩, fun _ _ => .int j⟩
theorem hasVN {K : Frag} : HasV K .none .non := ⟨.non, rfl, fun _ _ => .non⟩
theorem hasVB {K : Frag} {b : Bool} : HasV K (.bool b) (.bool b) := ⟨.bl b, rfl, fun _ _ => .bool b⟩
theorem hasVs_all {K : Frag} : ∀ {us : List Value} {vs : List Val}, HasVs K us vs → ∃ xs, Vals xs us ∧ ∀ W H, RVs K W H vs xs
  | [], [], _ => ⟨[], .nil, fun _ _ => .nil⟩
  | u :: us, v :: vs, ⟨⟨x, r, h⟩, h2⟩ => by
    obtain ⟨xs, rs, hs⟩ := hasVs_all h2
    exact ⟨x :: xs, .cons r rs, fun W H => .cons (h W H) (hs W H)⟩
  | [], _ :: _, h => h.elim
  | _ :: _, [], h => h.elim
theorem hasVT {K : Frag} {a : Addr} {dd : Option Addr} {its : Array Value} {us : List Value} {n : Nat} {sl : Array (Option Value)} {vs : List Val} (h : K.lookup a = some ⟨.type "tuple", dd, (.seq its n), sl⟩) (hi : its = us.toArray) (hz : us.length ≤ sizeLine) (hv : HasVs K us vs) : HasV K (.ref a) (.tup vs) := by
  obtain ⟨xs, rs, hs⟩ := hasVs_all hv
  subst hi
  refine ⟨.ref a, rfl, fun W H => .tup (xs := xs) (.inr ⟨_, us.toArray, n, h, rfl, rfl, by simpa using hz, by simpa using rs⟩) (hs W H)⟩
theorem hasCV {K : Frag} {x : Str} {u : Value} {v : Val} (a : PySem.W.nsIn K mainGlobals x = some (some u)) (h : HasV K u v) : HasC K x v := by
  obtain ⟨xv, r, q⟩ := h
  exact ⟨u, xv, a, r, q⟩
def AllC (K : Frag) : List (Str × Val) → Prop
  | [] => True
  | p :: r => HasC K p.1 p.2 ∧ AllC K r
theorem AllC.get {K : Frag} {x : Str} {v : Val} : ∀ {l : List (Str × Val)}, AllC K l → l.lookup x = some v → HasC K x v
  | [], _, h => by cases h
  | (y, w) :: r, ⟨h1, h2⟩, h => by
    simp only [List.lookup] at h
    split at h
    · rename_i e
      cases h
      rw [eq_of_beq e]
      exact h1
    · exact h2.get h
def AllN (K : Frag) : List Str → Prop
  | [] => True
  | x :: r => PySem.W.nsIn K mainGlobals x = some none ∧ AllN K r
theorem AllN.get {K : Frag} {x : Str} : ∀ {l : List Str}, AllN K l → l.contains x = true → PySem.W.nsIn K mainGlobals x = some none
  | [], _, h => by cases h
  | y :: r, ⟨h1, h2⟩, h => by
    simp only [List.contains_cons, Bool.or_eq_true] at h
    rcases h with h | h
    · rw [eq_of_beq h]; exact h1
    · exact h2.get h
/-- a def and what is known of it; vw: for the i-th name of a def the place in the list at which its promise stands -/
structure DefI where
  x : Str
  st : Stmt
  N : List Str
  ps : List Str
  body : S
  fs : FS
  vw : Nat → Nat := id
def HasDef (K : Frag) (x : Str) (st : Stmt) : Prop := ∃ f fd, PySem.W.nsIn K mainGlobals x = some (some (.ref f)) ∧ Fun K x x st f fd
theorem hasDef {K : Frag} {x : Str} {st : Stmt} {f : Addr} {oc : Value} {od an : Option Addr} {osl : Array (Option Value)} {kV doc pm cdv ct : Value} (a : PySem.W.nsIn K mainGlobals x = some (some (.ref f)))
    (l : K.lookup f = some ⟨oc, od, .func (PySem.W.fnOf x x (defArgs st) (defBody st) (defScope st) .none kV doc pm an cdv ct), osl⟩) (c : PySem.W.codeIn K cdv x = true) (k : PySem.W.keepIn K (.ref f) = true) : HasDef K x st := ⟨f, _, a, fun_mk l c k⟩
/-- the defs of the module by number -/
def AllD (K : Frag) : List (Str × Stmt) → Prop
  | [] => True
  | d :: r => HasDef K d.1 d.2 ∧ AllD K r
theorem AllD.get {K : Frag} {x : Str} {st : Stmt} : ∀ {l : List (Str × Stmt)} {i : Nat}, AllD K l → l[i]? = some (x, st) → HasDef K x st
  | [], i, _, h => by simp at h
  | e :: r, 0, ⟨h1, _⟩, h => by
    simp at h
    rw [h] at h1; exact h1
  | e :: r, i + 1, ⟨_, h2⟩, h => h2.get (i := i) (by simpa using h)
def noFS : FS := fun _ _ _ _ => False
/-- what the i-th entry may lean on -/
def Fst (L : List FS) (vw : Nat → Nat) (i : Nat) : Nat → FS := fun j => if vw j < i then L.getD (vw j) noFS else noFS
structure GoodD (gl : List (Str × Val)) (bl : List Str) (fns : List (Str × Nat)) (kd : List (Str × List (Text × Val))) (L : List FS) (i : Nat) (d : DefI) : Prop where
  sc : FnScope d.N d.ps (defScope d.st)
  ck : chkSs ⟨d.N, (defScope d.st).names, true, gl, bl, fns, kd⟩ (defBody d.st) d.body = true
  me : Meets (Fst L d.vw i) d.N.length d.body d.fs
  ln : ∀ vs m Q R, d.fs vs m Q R → vs.length = d.ps.length
  bd : ∀ (kV doc pm : Value) (an : Option Addr) (cdv ct : Value) (us : List Value), us.length = d.ps.length → bindArgs (PySem.W.fnOf d.x d.x (defArgs d.st) (defBody d.st) (defScope d.st) .none kV doc pm an cdv ct) ⟨us, []⟩ = pure (d.ps.zip us)
def AllG (gl : List (Str × Val)) (bl : List Str) (fns : List (Str × Nat)) (kd : List (Str × List (Text × Val))) (L : List FS) : Nat → List DefI → Prop
  | _, [] => True
  | i, d :: r => GoodD gl bl fns kd L i d ∧ AllG gl bl fns kd L (i + 1) r
theorem AllG.get {gl : List (Str × Val)} {bl : List Str} {fns : List (Str × Nat)} {kd : List (Str × List (Text × Val))} {L : List FS} {d : DefI} : ∀ {l : List DefI} {n i : Nat}, AllG gl bl fns kd L n l → l[i]? = some d → GoodD gl bl fns kd L (n + i) d
  | [], n, i, _, h => by simp at h
  | e :: r, n, 0, ⟨h1, _⟩, h => by
    simp at h
    rw [← h]; exact h1
  | e :: r, n, i + 1, ⟨_, h2⟩, h => by
    have := h2.get (i := i) (by simpa using h)
    rw [show n + (i + 1) = n + 1 + i by omega]
    exact this
/-- the module's dicts -/
def HasK (K : Frag) (w : World) (x : Str) (kvs : List (Text × Val)) : Prop := ∃ a, PySem.W.nsIn K mainGlobals x = some (some (.ref a)) ∧ KdAt K w a kvs
theorem hasK {K : Frag} {w : World} {x : Str} {a : Addr} {es : Array DictEntry} {n : Nat} {kvs : List (Text × Val)} (h1 : PySem.W.nsIn K mainGlobals x = some (some (.ref a))) (h2 : K.lookup a = some ⟨.type "dict", none, .dict es n, #[]⟩) (h3 : PySem.W.KeysLit w.params es.toList) (h4 : (a == sysModules) = false) (h5 : KRel K es.toList kvs) : HasK K w x kvs :=
  ⟨a, h1, es, n, ⟨h2, h3, h4⟩, h5⟩
theorem krel_nil {K : Frag} : KRel K [] [] := trivial
theorem krel_cons {K : Frag} {h : Int} {s : Str} {t : PySem.Tok} {u : Value} {es : List DictEntry} {c : Text} {v : Val} {kvs : List (Text × Val)} (e : s = SX.S c) (hv : HasV K u v) (hr : KRel K es kvs) : KRel K (⟨h, .str s t, u⟩ :: es) ((c, v) :: kvs) := by
  obtain ⟨xv, r, q⟩ := hv
  exact ⟨⟨t, by rw [e]⟩, ⟨xv, r, q⟩, hr⟩
def AllK (K : Frag) (w : World) : List (Str × List (Text × Val)) → Prop
  | [] => True
  | p :: r => HasK K w p.1 p.2 ∧ AllK K w r
theorem AllK.get {K : Frag} {w : World} {x : Str} {v : List (Text × Val)} : ∀ {l : List (Str × List (Text × Val))}, AllK K w l → l.lookup x = some v → HasK K w x v
  | [], _, h => by cases h
  | (y, u) :: r, ⟨h1, h2⟩, h => by
    simp only [List.lookup] at h
    split at h
    · rename_i e
      cases h
      rw [eq_of_beq e]
      exact h1
    · exact h2.get h
/-- names of defs: at the place that an entry looks at stands a promise of this very def -/
def AllF (tab : List (Str × Stmt)) (ds : List DefI) (d : DefI) : List (Str × Nat) → Prop
  | [] => True
  | p :: r => (∃ st, tab[p.2]? = some (p.1, st) ∧ ∃ e, ds[d.vw p.2]? = some e ∧ e.x = p.1 ∧ e.st = st) ∧ AllF tab ds d r
theorem AllF.get {tab : List (Str × Stmt)} {ds : List DefI} {d : DefI} {x : Str} {f : Nat} : ∀ {l : List (Str × Nat)}, AllF tab ds d l → l.lookup x = some f → ∃ st, tab[f]? = some (x, st) ∧ ∃ e, ds[d.vw f]? = some e ∧ e.x = x ∧ e.st = st
  | [], _, h => by cases h
  | (y, w) :: r, ⟨h1, h2⟩, h => by
    simp only [List.lookup] at h
    split at h
    · rename_i e
      cases h
      rw [eq_of_beq e]
      exact h1
    · exact h2.get h
section
variable {P : Program} {w : World} {K : Frag} {mg : Str → Option Value} {base : Heap} {cl : Cls} {gl : List (Str × Val)} {bl : List Str} {fns : List (Str × Nat)} {kd : List (Str × List (Text × Val))} {ds : List DefI} {tab : List (Str × Stmt)} {h0 : Heap}
theorem stage (X : K.In h0) (G : h0.Ns mainGlobals mg) (hc : AllC K gl) (hn : AllN K bl) (hk : AllK K w kd) (hd : AllD K tab) (hf : ∀ d, d ∈ ds → AllF tab ds d fns) (hg : AllG gl bl fns kd (ds.map (·.fs)) 0 ds) :
    ∀ (i : Nat) (d : DefI), ds[i]? = some d → ∀ f fd, Fun K d.x d.x d.st f fd → FnG P w K mg base (i + 2) f fd d.ps (spG K cl d.ps.length d.fs) := by
  intro i
  induction i using Nat.strongRecOn with
  | _ i ih =>
    intro d hi f fd T
    have g := hg.get hi
    rw [Nat.zero_add] at g
    refine def_ok (lev := i + 1) (F := Fst (ds.map (·.fs)) d.vw i) (gl := gl) (bl := bl) (fns := fns) (kd := kd) ⟨?_, ?_, ?_, ?_⟩ (by omega) T g.sc g.ck g.me
    · intro x v e
      obtain ⟨u, xv, a, b, c⟩ := hc.get e
      exact ⟨u, xv, PySem.W.mg_of X G a, b, c⟩
    · intro x e
      exact PySem.W.mg_none_of X G (hn.get e)
    · intro x j e
      obtain ⟨st, ht, dj, hj, rfl, rfl⟩ := (hf d (List.mem_of_getElem? hi)).get e
      obtain ⟨a, fdj, ha, Tj⟩ := hd.get ht
      have gj := hg.get hj
      have bj : Binds K fdj dj.ps [] := Tj.binds gj.bd
      have hL : (ds.map (·.fs)).getD (d.vw j) noFS = dj.fs := by simp [List.getD, hj]
      by_cases hji : d.vw j < i
      · have eF : Fst (ds.map (·.fs)) d.vw i j = dj.fs := by unfold Fst; rw [if_pos hji, hL]
        rw [eF]
        exact ⟨a, fdj, dj.ps, d.vw j + 2, PySem.W.mg_of X G ha, Tj.kp, bj, ih (d.vw j) hji dj hj a fdj Tj, by omega, gj.ln⟩
      · have eF : Fst (ds.map (·.fs)) d.vw i j = noFS := by unfold Fst; rw [if_neg hji]
        rw [eF]
        refine ⟨a, fdj, dj.ps, 0, PySem.W.mg_of X G ha, Tj.kp, bj, ⟨?_, ?_⟩, by omega, fun _ _ _ _ z => z.elim⟩
        · rintro vs H Q E ⟨_, _, _, _, _, _, _, _, z, _⟩
          exact z.elim
        · intros
          rename_i z
          obtain ⟨_, _, _, _, _, _, _, _, z, _⟩ := z
          exact z.elim
    · intro x kvs e
      obtain ⟨a, h1, h2⟩ := hk.get e
      exact ⟨a, PySem.W.mg_of X G h1, h2⟩
end
end Dy

namespace LR
open PySem L2 Dy
def topS (i : Nat) : Stmt := PySem.Challenge.pw_loggedruns_k86_questions_and_runs_writte.main.body.getD i (.Pass ⟨0, 0, 0, 0⟩)
def gl : List (Str × Val) := [("LETTERS", (.str [97, 98, 99, 100, 101, 102, 103, 104, 105, 106, 107, 108, 109, 110, 111, 112, 113, 114, 115, 116, 117, 118, 119, 120, 121, 122])), ("DIGITS", (.str [48, 49, 50, 51, 52, 53, 54, 55, 56, 57])), ("BLANK", (.str [32])), ("MOST_LETTERS", (.int 8)), ("MOST_DIGITS", (.int 3)), ("NONE", (.str [45])), ("BETWEEN_STEPS", (.str [59, 32])), ("NOT", (.str [110, 111, 116])), ("JOINTS", (.tup [(.str [97, 110, 100]), (.str [111, 114])])), ("DO", (.str [100, 111])), ("WRITE", (.str [119, 114, 105, 116, 101])), ("AGAIN", (.str [97, 103, 97, 105, 110])), ("MOST_FACTS", (.int 4)), ("MOST_DEEP", (.int 4)), ("NUMBER", (.str [110, 117, 109, 98, 101, 114])), ("PERHAPS", (.str [112, 101, 114, 104, 97, 112, 115]))]
def kd_FORMS : List (Text × Val) := [([100, 105, 100], (.tup [(.str [110, 97, 109, 101]), (.str [110, 117, 109, 98, 101, 114])])), ([97, 104, 101, 97, 100], (.tup [(.str [110, 97, 109, 101]), (.str [110, 97, 109, 101])])), ([97, 115, 107, 101, 100], (.tup [(.str [110, 97, 109, 101]), (.str [110, 117, 109, 98, 101, 114])])), ([119, 97, 115], (.tup [(.str [110, 97, 109, 101]), (.str [110, 117, 109, 98, 101, 114])])), ([105, 115], (.tup [(.str [110, 97, 109, 101]), (.str [110, 117, 109, 98, 101, 114])])), ([98, 121], (.tup [(.str [110, 97, 109, 101]), (.str [112, 101, 114, 104, 97, 112, 115])])), ([97, 116], (.tup [(.str [110, 97, 109, 101]), (.str [112, 101, 114, 104, 97, 112, 115])])), ([102, 101, 108, 108], (.tup [(.str [110, 117, 109, 98, 101, 114])])), ([115, 112, 105, 108, 116], (.tup [(.str [110, 97, 109, 101]), (.str [110, 117, 109, 98, 101, 114])])), ([101, 110, 100, 101, 100], (.tup [(.str [110, 97, 109, 101])]))]
def kd : List (Str × List (Text × Val)) := [("FORMS", kd_FORMS)]
def bl : List Str := ["abs", "all", "int", "isinstance", "len", "max", "min", "range", "repr", "str", "tuple", "zip"]
def i_is_name : Nat := 0
def i_number_in : Nat := 1
def i_shown_part : Nat := 2
def i_show_question : Nat := 3
def i_show_step : Nat := 4
def i_show_run : Nat := 5
def i_part_in : Nat := 6
def i_fact_in : Nat := 7
def i_question_in : Nat := 8
def i_question_of : Nat := 9
def i_step_in : Nat := 10
def i_run_in : Nat := 11
def i_check_shown : Nat := 12
def i_read_question : Nat := 13
def i_read_run : Nat := 14
def i_law_pot : Nat := 15
def i_law_take : Nat := 16
def i_law_of : Nat := 17
def i_law_name : Nat := 18
def i_law_count : Nat := 19
def i_law_fact : Nat := 20
def i_law_question : Nat := 21
def i_law_question_text : Nat := 22
def i_law_run : Nat := 23
def i_law_run_text : Nat := 24
def i_law_right : Nat := 25
def i_law : Nat := 26
def fns : List (Str × Nat) := [("is_name", 0), ("number_in", 1), ("shown_part", 2), ("show_question", 3), ("show_step", 4), ("show_run", 5), ("part_in", 6), ("fact_in", 7), ("question_in", 8), ("question_of", 9), ("step_in", 10), ("run_in", 11), ("check_shown", 12), ("read_question", 13), ("read_run", 14), ("_law_pot", 15), ("_law_take", 16), ("_law_of", 17), ("_law_name", 18), ("_law_count", 19), ("_law_fact", 20), ("_law_question", 21), ("_law_question_text", 22), ("_law_run", 23), ("_law_run_text", 24), ("_law_right", 25), ("law", 26)]
/-! is_name -/
def n_is_name : List Str := ["value", "letter"]
def p_is_name : List Str := ["value"]
def b_is_name : S :=
  (.cons (.ite (.or (.not (.isI .str (.var 0))) (.one (.not (.chain .le .le (.cst (.int 1)) (.bi .len (.cons (.var 0) .nil)) (.cst (.int 8))))))
    (.cons (.ret (.cst (.bool false)))
    .nil)
    .nil)
    (.cons (.ret (.bi .all (.cons (.lc false [1] (.name 1) .seq (.var 0) (.cst .non) (.cst (.bool true)) (.cmp .isin (.var 1) (.cst (.str [97, 98, 99, 100, 101, 102, 103, 104, 105, 106, 107, 108, 109, 110, 111, 112, 113, 114, 115, 116, 117, 118, 119, 120, 121, 122])))) .nil)))
    .nil))
abbrev s_is_name : Stmt := topS 9
theorem c_is_name : chkSs ⟨n_is_name, (defScope s_is_name).names, true, gl, bl, fns, kd⟩ (defBody s_is_name) b_is_name = true := by decide +kernel
theorem sc_is_name : FnScope n_is_name p_is_name (defScope s_is_name) := ⟨rfl, rfl, rfl, by decide +kernel, rfl, by decide +kernel, by decide +kernel⟩
/-! number_in -/
def n_number_in : List Str := ["word", "digit"]
def p_number_in : List Str := ["word"]
def b_number_in : S :=
  (.cons (.ite (.or (.not (.chain .le .le (.cst (.int 1)) (.bi .len (.cons (.var 0) .nil)) (.cst (.int 3)))) (.one (.not (.bi .all (.cons (.lc false [1] (.name 1) .seq (.var 0) (.cst .non) (.cst (.bool true)) (.cmp .isin (.var 1) (.cst (.str [48, 49, 50, 51, 52, 53, 54, 55, 56, 57])))) .nil)))))
    (.cons (.ret (.cst .non))
    .nil)
    .nil)
    (.cons (.ret (.ite (.or (.cmp .eq (.var 0) (.cst (.str [48]))) (.one (.cmp .ne (.idx (.var 0) (.cst (.int 0))) (.cst (.str [48]))))) (.bi .int (.cons (.var 0) .nil)) (.cst .non)))
    .nil))
abbrev s_number_in : Stmt := topS 10
theorem c_number_in : chkSs ⟨n_number_in, (defScope s_number_in).names, true, gl, bl, fns, kd⟩ (defBody s_number_in) b_number_in = true := by decide +kernel
theorem sc_number_in : FnScope n_number_in p_number_in (defScope s_number_in) := ⟨rfl, rfl, rfl, by decide +kernel, rfl, by decide +kernel, by decide +kernel⟩
/-! shown_part -/
def n_shown_part : List Str := ["part"]
def p_shown_part : List Str := ["part"]
def b_shown_part : S :=
  (.cons (.ret (.ite (.isN false (.var 0)) (.cst (.str [45])) (.bi .str (.cons (.var 0) .nil))))
    .nil)
abbrev s_shown_part : Stmt := topS 25
theorem c_shown_part : chkSs ⟨n_shown_part, (defScope s_shown_part).names, true, gl, bl, fns, kd⟩ (defBody s_shown_part) b_shown_part = true := by decide +kernel
theorem sc_shown_part : FnScope n_shown_part p_shown_part (defScope s_shown_part) := ⟨rfl, rfl, rfl, by decide +kernel, rfl, by decide +kernel, by decide +kernel⟩
/-! show_question -/
def n_show_question : List Str := ["question", "word", "parts", "part"]
def p_show_question : List Str := ["question"]
def b_show_question : S :=
  (.cons (.asgStar [1] 2 (.var 0))
    (.cons (.ite (.cmp .eq (.var 1) (.cst (.str [110, 111, 116])))
    (.cons (.ret (.meth .join (.cst (.str [32])) (.cons (.lst false (.cons (.cst (.str [110, 111, 116])) (.cons (.call i_show_question (.cons (.idx (.var 2) (.cst (.int 0))) .nil)) .nil))) .nil)))
    .nil)
    .nil)
    (.cons (.ite (.cmp .isin (.var 1) (.cst (.tup [(.str [97, 110, 100]), (.str [111, 114])])))
    (.cons (.ret (.meth .join (.cst (.str [32])) (.cons (.lst false (.cons (.var 1) (.cons (.bi .str (.cons (.bi .len (.cons (.var 2) .nil)) .nil)) (.scons (.lc false [3] (.name 3) .seq (.var 2) (.cst .non) (.cst (.bool true)) (.call i_show_question (.cons (.var 3) .nil))) .nil)))) .nil)))
    .nil)
    .nil)
    (.cons (.ret (.meth .join (.cst (.str [32])) (.cons (.lst false (.cons (.var 1) (.scons (.lc false [3] (.name 3) .seq (.var 2) (.cst .non) (.cst (.bool true)) (.call i_shown_part (.cons (.var 3) .nil))) .nil))) .nil)))
    .nil))))
abbrev s_show_question : Stmt := topS 26
theorem c_show_question : chkSs ⟨n_show_question, (defScope s_show_question).names, true, gl, bl, fns, kd⟩ (defBody s_show_question) b_show_question = true := by decide +kernel
theorem sc_show_question : FnScope n_show_question p_show_question (defScope s_show_question) := ⟨rfl, rfl, rfl, by decide +kernel, rfl, by decide +kernel, by decide +kernel⟩
/-! show_step -/
def n_show_step : List Str := ["step", "part"]
def p_show_step : List Str := ["step"]
def b_show_step : S :=
  (.cons (.ret (.meth .join (.cst (.str [32])) (.cons (.lc false [1] (.name 1) .seq (.var 0) (.cst .non) (.isN true (.var 1)) (.bi .str (.cons (.var 1) .nil))) .nil)))
    .nil)
abbrev s_show_step : Stmt := topS 27
theorem c_show_step : chkSs ⟨n_show_step, (defScope s_show_step).names, true, gl, bl, fns, kd⟩ (defBody s_show_step) b_show_step = true := by decide +kernel
theorem sc_show_step : FnScope n_show_step p_show_step (defScope s_show_step) := ⟨rfl, rfl, rfl, by decide +kernel, rfl, by decide +kernel, by decide +kernel⟩
/-! show_run -/
def n_show_run : List Str := ["run", "step"]
def p_show_run : List Str := ["run"]
def b_show_run : S :=
  (.cons (.ret (.ite (.cmp .ne (.var 0) (.tup .nil)) (.meth .join (.cst (.str [59, 32])) (.cons (.lc false [1] (.name 1) .seq (.var 0) (.cst .non) (.cst (.bool true)) (.call i_show_step (.cons (.var 1) .nil))) .nil)) (.cst (.str [45]))))
    .nil)
abbrev s_show_run : Stmt := topS 28
theorem c_show_run : chkSs ⟨n_show_run, (defScope s_show_run).names, true, gl, bl, fns, kd⟩ (defBody s_show_run) b_show_run = true := by decide +kernel
theorem sc_show_run : FnScope n_show_run p_show_run (defScope s_show_run) := ⟨rfl, rfl, rfl, by decide +kernel, rfl, by decide +kernel, by decide +kernel⟩
/-! part_in -/
def n_part_in : List Str := ["form", "word"]
def p_part_in : List Str := ["form", "word"]
def b_part_in : S :=
  (.cons (.ite (.cmp .eq (.var 0) (.cst (.str [110, 117, 109, 98, 101, 114])))
    (.cons (.ret (.ite (.isN true (.call i_number_in (.cons (.var 1) .nil))) (.tup (.cons (.call i_number_in (.cons (.var 1) .nil)) .nil)) (.cst .non)))
    .nil)
    .nil)
    (.cons (.ite (.and (.cmp .eq (.var 0) (.cst (.str [112, 101, 114, 104, 97, 112, 115]))) (.one (.cmp .eq (.var 1) (.cst (.str [45])))))
    (.cons (.ret (.tup (.cons (.cst .non) .nil)))
    .nil)
    .nil)
    (.cons (.ret (.ite (.call i_is_name (.cons (.var 1) .nil)) (.tup (.cons (.var 1) .nil)) (.cst .non)))
    .nil)))
abbrev s_part_in : Stmt := topS 29
theorem c_part_in : chkSs ⟨n_part_in, (defScope s_part_in).names, true, gl, bl, fns, kd⟩ (defBody s_part_in) b_part_in = true := by decide +kernel
theorem sc_part_in : FnScope n_part_in p_part_in (defScope s_part_in) := ⟨rfl, rfl, rfl, by decide +kernel, rfl, by decide +kernel, by decide +kernel⟩
/-! fact_in -/
def n_fact_in : List Str := ["words", "forms", "parts", "form", "word", "part"]
def p_fact_in : List Str := ["words"]
def b_fact_in : S :=
  (.cons (.asg (.name 1) (.kd .get2 kd_FORMS (.idx (.var 0) (.cst (.int 0))) (.tup .nil)))
    (.cons (.asg (.name 2) (.lc false [3, 4] (.tup [3, 4]) .zip (.var 1) (.sl true false (.var 0) (.cst (.int 1)) (.cst .non)) (.cst (.bool true)) (.call i_part_in (.cons (.var 3) (.cons (.var 4) .nil)))))
    (.cons (.ite (.or (.cmp .eq (.var 1) (.tup .nil)) (.or (.cmp .lt (.bi .len (.cons (.var 2) .nil)) (.bi .len (.cons (.var 1) .nil))) (.one (.cmp .isin (.cst .non) (.var 2)))))
    (.cons (.ret (.cst .non))
    .nil)
    .nil)
    (.cons (.ret (.tup (.cons (.tup (.cons (.idx (.var 0) (.cst (.int 0))) (.scons (.lc false [5] (.name 5) .seq (.var 2) (.cst .non) (.cst (.bool true)) (.idx (.var 5) (.cst (.int 0)))) .nil))) (.cons (.bin .add (.bi .len (.cons (.var 1) .nil)) (.cst (.int 1))) .nil))))
    .nil))))
abbrev s_fact_in : Stmt := topS 30
theorem c_fact_in : chkSs ⟨n_fact_in, (defScope s_fact_in).names, true, gl, bl, fns, kd⟩ (defBody s_fact_in) b_fact_in = true := by decide +kernel
theorem sc_fact_in : FnScope n_fact_in p_fact_in (defScope s_fact_in) := ⟨rfl, rfl, rfl, by decide +kernel, rfl, by decide +kernel, by decide +kernel⟩
/-! question_in -/
def n_question_in : List Str := ["words", "deep", "turn", "found", "many", "used", "parts", "facts"]
def p_question_in : List Str := ["words", "deep"]
def b_question_in : S :=
  (.cons (.ite (.cmp .eq (.var 0) (.lst false .nil))
    (.cons (.ret (.cst .non))
    .nil)
    .nil)
    (.cons (.ite (.cmp .notin (.idx (.var 0) (.cst (.int 0))) (.tup (.cons (.cst (.str [110, 111, 116])) (.scons (.cst (.tup [(.str [97, 110, 100]), (.str [111, 114])])) .nil))))
    (.cons (.asg (.name 3) (.call i_fact_in (.cons (.var 0) .nil)))
    (.cons (.ret (.ite (.isN true (.var 3)) (.tup (.scons (.var 3) (.cons (.cst (.int 1)) .nil))) (.cst .non)))
    .nil))
    .nil)
    (.cons (.ite (.cmp .eq (.var 1) (.cst (.int 0)))
    (.cons (.ret (.cst .non))
    .nil)
    .nil)
    (.cons (.asg (.tup [4, 5]) (.ite (.cmp .eq (.idx (.var 0) (.cst (.int 0))) (.cst (.str [110, 111, 116]))) (.tup (.cons (.cst (.int 1)) (.cons (.cst (.int 1)) .nil))) (.tup (.cons (.ite (.cmp .gt (.bi .len (.cons (.var 0) .nil)) (.cst (.int 1))) (.call i_number_in (.cons (.idx (.var 0) (.cst (.int 1))) .nil)) (.cst .non)) (.cons (.cst (.int 2)) .nil)))))
    (.cons (.ite (.or (.isN false (.var 4)) (.or (.cmp .gt (.var 4) (.cst (.int 4))) (.one (.cmp .lt (.var 4) (.var 5)))))
    (.cons (.ret (.cst .non))
    .nil)
    .nil)
    (.cons (.par [6, 7] (.cons (.lst true .nil) (.cons (.cst (.int 0)) .nil)))
    (.cons (.loop (.name 2) .rng1 (.var 4) (.cst .non)
    (.cons (.asg (.name 3) (.call i_question_in (.cons (.sl true false (.var 0) (.var 5) (.cst .non)) (.cons (.bin .sub (.var 1) (.cst (.int 1))) .nil))))
    (.cons (.ite (.isN false (.var 3))
    (.cons (.ret (.cst .non))
    .nil)
    .nil)
    (.cons (.expr (.meth .append (.var 6) (.cons (.idx (.var 3) (.cst (.int 0))) .nil)))
    (.cons (.par [5, 7] (.cons (.bin .add (.var 5) (.idx (.var 3) (.cst (.int 1)))) (.cons (.bin .add (.var 7) (.idx (.var 3) (.cst (.int 2)))) .nil)))
    .nil)))))
    (.cons (.ret (.tup (.cons (.tup (.cons (.idx (.var 0) (.cst (.int 0))) (.scons (.var 6) .nil))) (.cons (.var 5) (.cons (.var 7) .nil)))))
    .nil))))))))
abbrev s_question_in : Stmt := topS 31
theorem c_question_in : chkSs ⟨n_question_in, (defScope s_question_in).names, true, gl, bl, fns, kd⟩ (defBody s_question_in) b_question_in = true := by decide +kernel
theorem sc_question_in : FnScope n_question_in p_question_in (defScope s_question_in) := ⟨rfl, rfl, rfl, by decide +kernel, rfl, by decide +kernel, by decide +kernel⟩
/-! question_of -/
def n_question_of : List Str := ["text", "words", "found"]
def p_question_of : List Str := ["text"]
def b_question_of : S :=
  (.cons (.asg (.name 1) (.meth .split (.var 0) (.cons (.cst (.str [32])) .nil)))
    (.cons (.asg (.name 2) (.call i_question_in (.cons (.var 1) (.cons (.cst (.int 4)) .nil))))
    (.cons (.ite (.or (.isN false (.var 2)) (.or (.cmp .ne (.idx (.var 2) (.cst (.int 1))) (.bi .len (.cons (.var 1) .nil))) (.one (.cmp .gt (.idx (.var 2) (.cst (.int 2))) (.cst (.int 4))))))
    (.cons (.ret (.cst .non))
    .nil)
    .nil)
    (.cons (.ret (.idx (.var 2) (.cst (.int 0))))
    .nil))))
abbrev s_question_of : Stmt := topS 32
theorem c_question_of : chkSs ⟨n_question_of, (defScope s_question_of).names, true, gl, bl, fns, kd⟩ (defBody s_question_of) b_question_of = true := by decide +kernel
theorem sc_question_of : FnScope n_question_of p_question_of (defScope s_question_of) := ⟨rfl, rfl, rfl, by decide +kernel, rfl, by decide +kernel, by decide +kernel⟩
/-! step_in -/
def n_step_in : List Str := ["text", "words", "numbers", "word"]
def p_step_in : List Str := ["text"]
def b_step_in : S :=
  (.cons (.asg (.name 1) (.meth .split (.var 0) (.cons (.cst (.str [32])) .nil)))
    (.cons (.asg (.name 2) (.bi .tuple (.cons (.lc false [3] (.name 3) .seq (.sl true false (.var 1) (.cst (.int 1)) (.cst .non)) (.cst .non) (.cst (.bool true)) (.call i_number_in (.cons (.var 3) .nil))) .nil)))
    (.cons (.ite (.cmp .isin (.cst .non) (.var 2))
    (.cons (.ret (.cst .non))
    .nil)
    .nil)
    (.cons (.ite (.and (.cmp .eq (.idx (.var 1) (.cst (.int 0))) (.cst (.str [100, 111]))) (.one (.cmp .isin (.bi .len (.cons (.var 2) .nil)) (.tup (.cons (.cst (.int 1)) (.cons (.cst (.int 2)) .nil))))))
    (.cons (.ret (.tup (.cons (.cst (.str [100, 111])) (.cons (.idx (.var 2) (.cst (.int 0))) (.cons (.ite (.cmp .gt (.bi .len (.cons (.var 2) .nil)) (.cst (.int 1))) (.idx (.var 2) (.cst (.int 1))) (.cst .non)) .nil)))))
    .nil)
    .nil)
    (.cons (.ite (.and (.cmp .eq (.idx (.var 1) (.cst (.int 0))) (.cst (.str [119, 114, 105, 116, 101]))) (.one (.cmp .eq (.bi .len (.cons (.var 2) .nil)) (.cst (.int 1)))))
    (.cons (.ret (.tup (.cons (.cst (.str [119, 114, 105, 116, 101])) (.cons (.idx (.var 2) (.cst (.int 0))) .nil))))
    .nil)
    .nil)
    (.cons (.ret (.ite (.cmp .eq (.var 0) (.cst (.str [97, 103, 97, 105, 110]))) (.tup (.cons (.cst (.str [97, 103, 97, 105, 110])) .nil)) (.cst .non)))
    .nil))))))
abbrev s_step_in : Stmt := topS 33
theorem c_step_in : chkSs ⟨n_step_in, (defScope s_step_in).names, true, gl, bl, fns, kd⟩ (defBody s_step_in) b_step_in = true := by decide +kernel
theorem sc_step_in : FnScope n_step_in p_step_in (defScope s_step_in) := ⟨rfl, rfl, rfl, by decide +kernel, rfl, by decide +kernel, by decide +kernel⟩
/-! run_in -/
def n_run_in : List Str := ["text", "found", "part"]
def p_run_in : List Str := ["text"]
def b_run_in : S :=
  (.cons (.ite (.cmp .eq (.var 0) (.cst (.str [45])))
    (.cons (.ret (.tup .nil))
    .nil)
    .nil)
    (.cons (.asg (.name 1) (.lc false [2] (.name 2) .seq (.meth .split (.var 0) (.cons (.cst (.str [59, 32])) .nil)) (.cst .non) (.cst (.bool true)) (.call i_step_in (.cons (.var 2) .nil))))
    (.cons (.ret (.ite (.cmp .notin (.cst .non) (.var 1)) (.bi .tuple (.cons (.var 1) .nil)) (.cst .non)))
    .nil)))
abbrev s_run_in : Stmt := topS 34
theorem c_run_in : chkSs ⟨n_run_in, (defScope s_run_in).names, true, gl, bl, fns, kd⟩ (defBody s_run_in) b_run_in = true := by decide +kernel
theorem sc_run_in : FnScope n_run_in p_run_in (defScope s_run_in) := ⟨rfl, rfl, rfl, by decide +kernel, rfl, by decide +kernel, by decide +kernel⟩
/-! check_shown -/
def n_check_shown : List Str := ["found", "text"]
def p_check_shown : List Str := ["found", "text"]
def b_check_shown : S :=
  (.cons (.ite (.isN false (.var 0))
    (.cons .never
    .nil)
    .nil)
    .nil)
abbrev s_check_shown : Stmt := topS 35
theorem c_check_shown : chkSs ⟨n_check_shown, (defScope s_check_shown).names, true, gl, bl, fns, kd⟩ (defBody s_check_shown) b_check_shown = true := by decide +kernel
theorem sc_check_shown : FnScope n_check_shown p_check_shown (defScope s_check_shown) := ⟨rfl, rfl, rfl, by decide +kernel, rfl, by decide +kernel, by decide +kernel⟩
/-! read_question -/
def n_read_question : List Str := ["text", "found"]
def p_read_question : List Str := ["text"]
def b_read_question : S :=
  (.cons (.asg (.name 1) (.ite (.isI .str (.var 0)) (.call i_question_of (.cons (.var 0) .nil)) (.cst .non)))
    (.cons (.expr (.call i_check_shown (.cons (.var 1) (.cons (.var 0) .nil))))
    (.cons (.ret (.var 1))
    .nil)))
abbrev s_read_question : Stmt := topS 36
theorem c_read_question : chkSs ⟨n_read_question, (defScope s_read_question).names, true, gl, bl, fns, kd⟩ (defBody s_read_question) b_read_question = true := by decide +kernel
theorem sc_read_question : FnScope n_read_question p_read_question (defScope s_read_question) := ⟨rfl, rfl, rfl, by decide +kernel, rfl, by decide +kernel, by decide +kernel⟩
/-! read_run -/
def n_read_run : List Str := ["text", "found"]
def p_read_run : List Str := ["text"]
def b_read_run : S :=
  (.cons (.asg (.name 1) (.ite (.isI .str (.var 0)) (.call i_run_in (.cons (.var 0) .nil)) (.cst .non)))
    (.cons (.expr (.call i_check_shown (.cons (.var 1) (.cons (.var 0) .nil))))
    (.cons (.ret (.var 1))
    .nil)))
abbrev s_read_run : Stmt := topS 37
theorem c_read_run : chkSs ⟨n_read_run, (defScope s_read_run).names, true, gl, bl, fns, kd⟩ (defBody s_read_run) b_read_run = true := by decide +kernel
theorem sc_read_run : FnScope n_read_run p_read_run (defScope s_read_run) := ⟨rfl, rfl, rfl, by decide +kernel, rfl, by decide +kernel, by decide +kernel⟩
/-! _law_pot -/
def n_law_pot : List Str := ["_law_script", "_law_k", "_law_cell", "_law_own", "_law_mixed"]
def p_law_pot : List Str := ["_law_script", "_law_k"]
def b_law_pot : S :=
  (.cons (.asg (.name 2) (.ite (.cmp .lt (.var 1) (.bi .len (.cons (.var 0) .nil))) (.idx (.var 0) (.var 1)) (.bin .add (.bin .mul (.cst (.int 41)) (.var 1)) (.cst (.int 13)))))
    (.cons (.asg (.name 3) (.bin .mul (.bin .mod (.bi .int (.cons (.bi .abs (.cons (.var 2) .nil)) .nil)) (.bin .pow (.bin .pow (.cst (.int 10)) (.cst (.int 60))) (.cst (.int 5)))) (.bi .int (.cons (.cmp .ge (.bi .abs (.cons (.var 2) .nil)) (.bin .pow (.cst (.int 10)) (.cst (.int 18)))) .nil))))
    (.cons (.asg (.name 4) (.bin .add (.bin .add (.bin .mul (.bin .mod (.bi .int (.cons (.var 2) .nil)) (.cst (.int 2305843009213693951))) (.cst (.int 70913))) (.bin .mul (.bin .mul (.cst (.int 6701)) (.var 1)) (.var 1))) (.cst (.int 59))))
    (.cons (.ret (.lst true (.cons (.var 3) (.cons (.bin .mod (.bi .int (.cons (.var 4) .nil)) (.cst (.int 2305843009213693921))) (.cons (.cst (.int 0)) .nil)))))
    .nil))))
abbrev s_law_pot : Stmt := topS 39
theorem c_law_pot : chkSs ⟨n_law_pot, (defScope s_law_pot).names, true, gl, bl, fns, kd⟩ (defBody s_law_pot) b_law_pot = true := by decide +kernel
theorem sc_law_pot : FnScope n_law_pot p_law_pot (defScope s_law_pot) := ⟨rfl, rfl, rfl, by decide +kernel, rfl, by decide +kernel, by decide +kernel⟩
/-! _law_take -/
def n_law_take : List Str := ["_law_pot_here", "_law_upto", "_law_prime", "_law_mixed", "_law_digit"]
def p_law_take : List Str := ["_law_pot_here", "_law_upto"]
def b_law_take : S :=
  (.cons (.ite (.cmp .gt (.idx (.var 0) (.cst (.int 0))) (.cst (.int 0)))
    (.cons (.asg (.name 4) (.bin .mod (.bi .int (.cons (.idx (.var 0) (.cst (.int 0))) .nil)) (.var 1)))
    (.cons (.setIx (.var 0) (.cst (.int 0)) (.bin .fdiv (.idx (.var 0) (.cst (.int 0))) (.var 1)))
    (.cons (.ret (.var 4))
    .nil)))
    .nil)
    (.cons (.setIx (.var 0) (.cst (.int 2)) (.bin .add (.idx (.var 0) (.cst (.int 2))) (.cst (.int 1))))
    (.cons (.asg (.name 2) (.idx (.lst false (.cons (.cst (.int 2147483647)) (.cons (.cst (.int 2147483629)) (.cons (.cst (.int 2147483587)) (.cons (.cst (.int 2147483579)) (.cons (.cst (.int 2147483563)) .nil)))))) (.bin .mod (.bi .int (.cons (.idx (.var 0) (.cst (.int 2))) .nil)) (.cst (.int 5)))))
    (.cons (.asg (.name 3) (.bin .mod (.bi .int (.cons (.bin .pow (.bi .int (.cons (.bin .add (.bin .add (.idx (.var 0) (.cst (.int 1))) (.bin .mul (.bin .mul (.cst (.int 98999)) (.idx (.var 0) (.cst (.int 2)))) (.idx (.var 0) (.cst (.int 2))))) (.cst (.int 43))) .nil)) (.cst (.int 3))) .nil)) (.var 2)))
    (.cons (.asg (.name 3) (.bin .mod (.bi .int (.cons (.bin .mul (.var 3) (.bin .add (.bin .mod (.bi .int (.cons (.var 3) .nil)) (.cst (.int 10007))) (.bin .mul (.cst (.int 79)) (.idx (.var 0) (.cst (.int 2)))))) .nil)) (.cst (.int 2305843009213693907))))
    (.cons (.ret (.bin .mod (.bi .int (.cons (.bin .fdiv (.var 3) (.cst (.int 103))) .nil)) (.var 1)))
    .nil))))))
abbrev s_law_take : Stmt := topS 40
theorem c_law_take : chkSs ⟨n_law_take, (defScope s_law_take).names, true, gl, bl, fns, kd⟩ (defBody s_law_take) b_law_take = true := by decide +kernel
theorem sc_law_take : FnScope n_law_take p_law_take (defScope s_law_take) := ⟨rfl, rfl, rfl, by decide +kernel, rfl, by decide +kernel, by decide +kernel⟩
/-! _law_of -/
def n_law_of : List Str := ["_law_pot_here", "_law_some"]
def p_law_of : List Str := ["_law_pot_here", "_law_some"]
def b_law_of : S :=
  (.cons (.ret (.idx (.var 1) (.call i_law_take (.cons (.var 0) (.cons (.bi .len (.cons (.var 1) .nil)) .nil)))))
    .nil)
abbrev s_law_of : Stmt := topS 41
theorem c_law_of : chkSs ⟨n_law_of, (defScope s_law_of).names, true, gl, bl, fns, kd⟩ (defBody s_law_of) b_law_of = true := by decide +kernel
theorem sc_law_of : FnScope n_law_of p_law_of (defScope s_law_of) := ⟨rfl, rfl, rfl, by decide +kernel, rfl, by decide +kernel, by decide +kernel⟩
/-! _law_name -/
def n_law_name : List Str := ["_law_pot_here", "_law_letters", "_law_drawn", "_law_turn"]
def p_law_name : List Str := ["_law_pot_here"]
def b_law_name : S :=
  (.cons (.asg (.name 1) (.cst (.str [97, 98, 99, 100, 101, 102, 103, 104, 105, 106, 107, 108, 109, 110, 111, 112, 113, 114, 115, 116, 117, 118, 119, 120, 121, 122])))
    (.cons (.asg (.name 2) (.meth .join (.cst (.str [])) (.cons (.lc false [3] (.name 3) .rng1 (.bin .add (.cst (.int 1)) (.call i_law_take (.cons (.var 0) (.cons (.cst (.int 8)) .nil)))) (.cst .non) (.cst (.bool true)) (.call i_law_of (.cons (.var 0) (.cons (.var 1) .nil)))) .nil)))
    (.cons (.ret (.call i_law_of (.cons (.var 0) (.cons (.lst false (.cons (.var 2) (.cons (.var 2) (.cons (.var 2) (.cons (.cst (.str [103, 97, 112])) (.cons (.cst (.str [110, 111, 116])) (.cons (.cst (.str [97, 110, 100])) (.cons (.cst (.str [100, 111])) (.cons (.cst (.str [100, 105, 100])) (.cons (.cst (.str [97, 103, 97, 105, 110])) (.cons (.cst (.str [122])) .nil))))))))))) .nil))))
    .nil)))
abbrev s_law_name : Stmt := topS 42
theorem c_law_name : chkSs ⟨n_law_name, (defScope s_law_name).names, true, gl, bl, fns, kd⟩ (defBody s_law_name) b_law_name = true := by decide +kernel
theorem sc_law_name : FnScope n_law_name p_law_name (defScope s_law_name) := ⟨rfl, rfl, rfl, by decide +kernel, rfl, by decide +kernel, by decide +kernel⟩
/-! _law_count -/
def n_law_count : List Str := ["_law_pot_here"]
def p_law_count : List Str := ["_law_pot_here"]
def b_law_count : S :=
  (.cons (.ret (.call i_law_of (.cons (.var 0) (.cons (.lst false (.cons (.cst (.int 0)) (.cons (.cst (.int 1)) (.cons (.cst (.int 3)) (.cons (.cst (.int 10)) (.cons (.cst (.int 999)) (.cons (.call i_law_take (.cons (.var 0) (.cons (.cst (.int 1000)) .nil))) .nil))))))) .nil))))
    .nil)
abbrev s_law_count : Stmt := topS 43
theorem c_law_count : chkSs ⟨n_law_count, (defScope s_law_count).names, true, gl, bl, fns, kd⟩ (defBody s_law_count) b_law_count = true := by decide +kernel
theorem sc_law_count : FnScope n_law_count p_law_count (defScope s_law_count) := ⟨rfl, rfl, rfl, by decide +kernel, rfl, by decide +kernel, by decide +kernel⟩
/-! _law_fact -/
def n_law_fact : List Str := ["_law_pot_here", "_law_word"]
def p_law_fact : List Str := ["_law_pot_here"]
def b_law_fact : S :=
  (.cons (.asg (.name 1) (.call i_law_of (.cons (.var 0) (.cons (.lst false (.cons (.cst (.str [100, 105, 100])) (.cons (.cst (.str [97, 104, 101, 97, 100])) (.cons (.cst (.str [97, 115, 107, 101, 100])) (.cons (.cst (.str [119, 97, 115])) (.cons (.cst (.str [105, 115])) (.cons (.cst (.str [98, 121])) (.cons (.cst (.str [97, 116])) (.cons (.cst (.str [102, 101, 108, 108])) (.cons (.cst (.str [115, 112, 105, 108, 116])) (.cons (.cst (.str [101, 110, 100, 101, 100])) .nil))))))))))) .nil))))
    (.cons (.ite (.cmp .isin (.var 1) (.tup (.cons (.cst (.str [98, 121])) (.cons (.cst (.str [97, 116])) .nil))))
    (.cons (.ret (.tup (.cons (.var 1) (.cons (.call i_law_name (.cons (.var 0) .nil)) (.cons (.call i_law_of (.cons (.var 0) (.cons (.lst false (.cons (.cst .non) (.cons (.call i_law_name (.cons (.var 0) .nil)) .nil))) .nil))) .nil)))))
    .nil)
    .nil)
    (.cons (.ite (.cmp .eq (.var 1) (.cst (.str [97, 104, 101, 97, 100])))
    (.cons (.ret (.tup (.cons (.var 1) (.cons (.call i_law_name (.cons (.var 0) .nil)) (.cons (.call i_law_name (.cons (.var 0) .nil)) .nil)))))
    .nil)
    .nil)
    (.cons (.ite (.cmp .isin (.var 1) (.tup (.cons (.cst (.str [102, 101, 108, 108])) (.cons (.cst (.str [101, 110, 100, 101, 100])) .nil))))
    (.cons (.ret (.tup (.cons (.var 1) (.cons (.ite (.cmp .eq (.var 1) (.cst (.str [102, 101, 108, 108]))) (.call i_law_count (.cons (.var 0) .nil)) (.call i_law_name (.cons (.var 0) .nil))) .nil))))
    .nil)
    .nil)
    (.cons (.ret (.tup (.cons (.var 1) (.cons (.call i_law_name (.cons (.var 0) .nil)) (.cons (.call i_law_count (.cons (.var 0) .nil)) .nil)))))
    .nil)))))
abbrev s_law_fact : Stmt := topS 44
theorem c_law_fact : chkSs ⟨n_law_fact, (defScope s_law_fact).names, true, gl, bl, fns, kd⟩ (defBody s_law_fact) b_law_fact = true := by decide +kernel
theorem sc_law_fact : FnScope n_law_fact p_law_fact (defScope s_law_fact) := ⟨rfl, rfl, rfl, by decide +kernel, rfl, by decide +kernel, by decide +kernel⟩
/-! _law_question -/
def n_law_question : List Str := ["_law_pot_here", "_law_left", "_law_deep", "_law_way", "_law_many", "_law_first", "_law_bits", "_law_turn"]
def p_law_question : List Str := ["_law_pot_here", "_law_left", "_law_deep"]
def b_law_question : S :=
  (.cons (.asg (.name 3) (.ite (.cmp .gt (.var 2) (.cst (.int 0))) (.call i_law_take (.cons (.var 0) (.cons (.cst (.int 4)) .nil))) (.cst (.int 0))))
    (.cons (.ite (.cmp .eq (.var 3) (.cst (.int 1)))
    (.cons (.ret (.tup (.cons (.cst (.str [110, 111, 116])) (.cons (.call i_law_question (.cons (.var 0) (.cons (.var 1) (.cons (.bin .sub (.var 2) (.cst (.int 1))) .nil)))) .nil))))
    .nil)
    .nil)
    (.cons (.ite (.and (.cmp .gt (.var 3) (.cst (.int 1))) (.one (.cmp .gt (.var 1) (.cst (.int 1)))))
    (.cons (.asg (.name 4) (.bin .add (.cst (.int 2)) (.call i_law_take (.cons (.var 0) (.cons (.bin .sub (.var 1) (.cst (.int 1))) .nil)))))
    (.cons (.asg (.name 5) (.bin .add (.bin .sub (.var 1) (.var 4)) (.cst (.int 1))))
    (.cons (.asg (.name 6) (.bin .add (.lst false (.cons (.call i_law_question (.cons (.var 0) (.cons (.var 5) (.cons (.bin .sub (.var 2) (.cst (.int 1))) .nil)))) .nil)) (.lc false [7] (.name 7) .rng1 (.bin .sub (.var 4) (.cst (.int 1))) (.cst .non) (.cst (.bool true)) (.call i_law_question (.cons (.var 0) (.cons (.cst (.int 1)) (.cons (.bin .sub (.var 2) (.cst (.int 1))) .nil)))))))
    (.cons (.ret (.bin .add (.tup (.cons (.idx (.lst false (.cons (.cst (.str [97, 110, 100])) (.cons (.cst (.str [111, 114])) .nil))) (.bin .sub (.var 3) (.cst (.int 2)))) .nil)) (.bi .tuple (.cons (.var 6) .nil))))
    .nil))))
    .nil)
    (.cons (.ret (.call i_law_fact (.cons (.var 0) .nil)))
    .nil))))
abbrev s_law_question : Stmt := topS 45
theorem c_law_question : chkSs ⟨n_law_question, (defScope s_law_question).names, true, gl, bl, fns, kd⟩ (defBody s_law_question) b_law_question = true := by decide +kernel
theorem sc_law_question : FnScope n_law_question p_law_question (defScope s_law_question) := ⟨rfl, rfl, rfl, by decide +kernel, rfl, by decide +kernel, by decide +kernel⟩
/-! _law_question_text -/
def n_law_question_text : List Str := ["_law_thing", "_law_part"]
def p_law_question_text : List Str := ["_law_thing"]
def b_law_question_text : S :=
  (.cons (.ite (.cmp .eq (.idx (.var 0) (.cst (.int 0))) (.cst (.str [110, 111, 116])))
    (.cons (.ret (.bin .add (.cst (.str [110, 111, 116, 32])) (.call i_law_question_text (.cons (.idx (.var 0) (.cst (.int 1))) .nil))))
    .nil)
    .nil)
    (.cons (.ite (.cmp .isin (.idx (.var 0) (.cst (.int 0))) (.tup (.cons (.cst (.str [97, 110, 100])) (.cons (.cst (.str [111, 114])) .nil))))
    (.cons (.ret (.meth .join (.cst (.str [32])) (.cons (.bin .add (.lst false (.cons (.idx (.var 0) (.cst (.int 0))) (.cons (.bi .str (.cons (.bin .sub (.bi .len (.cons (.var 0) .nil)) (.cst (.int 1))) .nil)) .nil))) (.lc false [1] (.name 1) .seq (.sl true false (.var 0) (.cst (.int 1)) (.cst .non)) (.cst .non) (.cst (.bool true)) (.call i_law_question_text (.cons (.var 1) .nil)))) .nil)))
    .nil)
    .nil)
    (.cons (.ret (.meth .join (.cst (.str [32])) (.cons (.lc false [1] (.name 1) .seq (.var 0) (.cst .non) (.cst (.bool true)) (.ite (.isN false (.var 1)) (.cst (.str [45])) (.bi .str (.cons (.var 1) .nil)))) .nil)))
    .nil)))
abbrev s_law_question_text : Stmt := topS 46
theorem c_law_question_text : chkSs ⟨n_law_question_text, (defScope s_law_question_text).names, true, gl, bl, fns, kd⟩ (defBody s_law_question_text) b_law_question_text = true := by decide +kernel
theorem sc_law_question_text : FnScope n_law_question_text p_law_question_text (defScope s_law_question_text) := ⟨rfl, rfl, rfl, by decide +kernel, rfl, by decide +kernel, by decide +kernel⟩
/-! _law_run -/
def n_law_run : List Str := ["_law_pot_here", "_law_found", "_law_turn", "_law_hand", "_law_value"]
def p_law_run : List Str := ["_law_pot_here"]
def b_law_run : S :=
  (.cons (.asg (.name 1) (.lst true .nil))
    (.cons (.loop (.name 2) .rng1 (.call i_law_take (.cons (.var 0) (.cons (.cst (.int 7)) .nil))) (.cst .non)
    (.cons (.par [3, 4] (.cons (.call i_law_of (.cons (.var 0) (.cons (.lst false (.cons (.cst (.int 0)) (.cons (.cst (.int 1)) (.cons (.call i_law_count (.cons (.var 0) .nil)) .nil)))) .nil))) (.cons (.call i_law_of (.cons (.var 0) (.cons (.lst false (.cons (.cst .non) (.cons (.cst (.int 0)) (.cons (.call i_law_count (.cons (.var 0) .nil)) .nil)))) .nil))) .nil)))
    (.cons (.expr (.meth .append (.var 1) (.cons (.call i_law_of (.cons (.var 0) (.cons (.lst false (.cons (.tup (.cons (.cst (.str [100, 111])) (.cons (.var 3) (.cons (.var 4) .nil)))) (.cons (.tup (.cons (.cst (.str [119, 114, 105, 116, 101])) (.cons (.var 3) .nil))) (.cons (.tup (.cons (.cst (.str [97, 103, 97, 105, 110])) .nil)) .nil)))) .nil))) .nil)))
    .nil)))
    (.cons (.ret (.bi .tuple (.cons (.var 1) .nil)))
    .nil)))
abbrev s_law_run : Stmt := topS 47
theorem c_law_run : chkSs ⟨n_law_run, (defScope s_law_run).names, true, gl, bl, fns, kd⟩ (defBody s_law_run) b_law_run = true := by decide +kernel
theorem sc_law_run : FnScope n_law_run p_law_run (defScope s_law_run) := ⟨rfl, rfl, rfl, by decide +kernel, rfl, by decide +kernel, by decide +kernel⟩
/-! _law_run_text -/
def n_law_run_text : List Str := ["_law_run_here", "_law_rows", "_law_step", "_law_part"]
def p_law_run_text : List Str := ["_law_run_here"]
def b_law_run_text : S :=
  (.cons (.asg (.name 1) (.lc false [2] (.name 2) .seq (.var 0) (.cst .non) (.cst (.bool true)) (.meth .join (.cst (.str [32])) (.cons (.lc false [3] (.name 3) .seq (.var 2) (.cst .non) (.isN true (.var 3)) (.bi .str (.cons (.var 3) .nil))) .nil))))
    (.cons (.ret (.ite (.cmp .ne (.var 1) (.lst false .nil)) (.meth .join (.cst (.str [59, 32])) (.cons (.var 1) .nil)) (.cst (.str [45]))))
    .nil))
abbrev s_law_run_text : Stmt := topS 48
theorem c_law_run_text : chkSs ⟨n_law_run_text, (defScope s_law_run_text).names, true, gl, bl, fns, kd⟩ (defBody s_law_run_text) b_law_run_text = true := by decide +kernel
theorem sc_law_run_text : FnScope n_law_run_text p_law_run_text (defScope s_law_run_text) := ⟨rfl, rfl, rfl, by decide +kernel, rfl, by decide +kernel, by decide +kernel⟩
/-! _law_right -/
def n_law_right : List Str := ["_law_pot_here", "_law_turn", "_law_thing", "_law_run_here", "_law_kept", "_law_page"]
def p_law_right : List Str := ["_law_pot_here"]
def b_law_right : S :=
  (.cons (.loop (.name 1) .rng1 (.cst (.int 12)) (.cst .non)
    (.cons (.asg (.name 2) (.call i_law_question (.cons (.var 0) (.cons (.cst (.int 4)) (.cons (.cst (.int 4)) .nil)))))
    (.cons (.par [4, 5] (.cons (.bi .repr (.cons (.var 2) .nil)) (.cons (.call i_law_question_text (.cons (.var 2) .nil)) .nil)))
    (.cons (.ite (.or (.cmp .ne (.bi .repr (.cons (.call i_show_question (.cons (.var 2) .nil)) .nil)) (.bi .repr (.cons (.var 5) .nil))) (.or (.cmp .ne (.bi .repr (.cons (.call i_read_question (.cons (.var 5) .nil)) .nil)) (.var 4)) (.one (.cmp .ne (.bi .repr (.cons (.var 2) .nil)) (.var 4)))))
    (.cons (.ret (.cst (.bool false)))
    .nil)
    .nil)
    .nil))))
    (.cons (.loop (.name 1) .rng1 (.cst (.int 8)) (.cst .non)
    (.cons (.asg (.name 3) (.call i_law_run (.cons (.var 0) .nil)))
    (.cons (.par [4, 5] (.cons (.bi .repr (.cons (.var 3) .nil)) (.cons (.call i_law_run_text (.cons (.var 3) .nil)) .nil)))
    (.cons (.ite (.or (.cmp .ne (.bi .repr (.cons (.call i_show_run (.cons (.var 3) .nil)) .nil)) (.bi .repr (.cons (.var 5) .nil))) (.or (.cmp .ne (.bi .repr (.cons (.call i_read_run (.cons (.var 5) .nil)) .nil)) (.var 4)) (.one (.cmp .ne (.bi .repr (.cons (.var 3) .nil)) (.var 4)))))
    (.cons (.ret (.cst (.bool false)))
    .nil)
    .nil)
    .nil))))
    (.cons (.ret (.cst (.bool true)))
    .nil)))
abbrev s_law_right : Stmt := topS 49
theorem c_law_right : chkSs ⟨n_law_right, (defScope s_law_right).names, true, gl, bl, fns, kd⟩ (defBody s_law_right) b_law_right = true := by decide +kernel
theorem sc_law_right : FnScope n_law_right p_law_right (defScope s_law_right) := ⟨rfl, rfl, rfl, by decide +kernel, rfl, by decide +kernel, by decide +kernel⟩
/-! law -/
def n_law : List Str := ["_law_script", "_law_k", "_law_pot_here"]
def p_law : List Str := ["_law_script"]
def b_law : S :=
  (.cons (.loop (.name 1) .rng1 (.bi .max (.cons (.cst (.int 1)) (.cons (.bi .min (.cons (.cst (.int 4)) (.cons (.bi .len (.cons (.var 0) .nil)) .nil))) .nil))) (.cst .non)
    (.cons (.asg (.name 2) (.call i_law_pot (.cons (.var 0) (.cons (.var 1) .nil))))
    (.cons (.ite (.not (.call i_law_right (.cons (.var 2) .nil)))
    (.cons (.ret (.cst (.bool false)))
    .nil)
    .nil)
    .nil)))
    (.cons (.ret (.cst (.bool true)))
    .nil))
abbrev s_law : Stmt := topS 50
theorem c_law : chkSs ⟨n_law, (defScope s_law).names, true, gl, bl, fns, kd⟩ (defBody s_law) b_law = true := by decide +kernel
theorem sc_law : FnScope n_law p_law (defScope s_law) := ⟨rfl, rfl, rfl, by decide +kernel, rfl, by decide +kernel, by decide +kernel⟩
def tab : List (Str × Stmt) := [("is_name", s_is_name), ("number_in", s_number_in), ("shown_part", s_shown_part), ("show_question", s_show_question), ("show_step", s_show_step), ("show_run", s_show_run), ("part_in", s_part_in), ("fact_in", s_fact_in), ("question_in", s_question_in), ("question_of", s_question_of), ("step_in", s_step_in), ("run_in", s_run_in), ("check_shown", s_check_shown), ("read_question", s_read_question), ("read_run", s_read_run), ("_law_pot", s_law_pot), ("_law_take", s_law_take), ("_law_of", s_law_of), ("_law_name", s_law_name), ("_law_count", s_law_count), ("_law_fact", s_law_fact), ("_law_question", s_law_question), ("_law_question_text", s_law_question_text), ("_law_run", s_law_run), ("_law_run_text", s_law_run_text), ("_law_right", s_law_right), ("law", s_law)]
end LR

/-! words.py: names and numbers -/
namespace LR
open PySem L2 Dy
def letters : Text := [97, 98, 99, 100, 101, 102, 103, 104, 105, 106, 107, 108, 109, 110, 111, 112, 113, 114, 115, 116, 117, 118, 119, 120, 121, 122]
def nameT (t : Text) : Bool := decide (1 ≤ t.length) && decide (t.length ≤ 8) && t.all fun c => decide (c ∈ letters)
def nameV : Val → Bool
  | .str t => nameT t
  | _ => false
theorem bools_map {α : Type} (f : α → Bool) : ∀ t : List α, boolsOf (t.map fun c => Val.bool (f c)) = some (t.map f)
  | [] => rfl
  | c :: t => by simp [bools_map f t]
def fs_is_name : FS := fun args m Q _ => ∃ v, args = [v] ∧ (∀ t, v = .str t → t.length ≤ 1000) ∧ Q (.bool (nameV v)) m
theorem m_is_name {F : Nat → FS} : Meets F 2 b_is_name fs_is_name := by
  rintro args m Q R hm ha ⟨v, rfl, hv, hQ⟩
  unfold b_is_name
  cases v with
  | str t =>
    have ht := hv t rfl
    simp [sizeLine_is]
    have hz : t.length ≤ 16777216 := by omega
    simp only [hz, true_and]
    by_cases h1 : 1 ≤ t.length
    · by_cases h2 : t.length ≤ 8
      · have h1' : (1 : Int) ≤ t.length := by omega
        have h2' : (t.length : Int) ≤ 8 := by omega
        simp [h1, h2, h1', h2']
        refine lc_signs (f := fun c => decide (c ∈ letters)) trivial (fun c P h => by simpa [letters] using h) t [] (by rw [sizeLine_is]; simp; omega) ?_
        refine ⟨t.map fun c => decide (c ∈ letters), by rw [List.nil_append]; exact bools_map _ t, .inl ?_⟩
        have e : nameV (.str t) = (t.map fun c => decide (c ∈ letters)).all id := by simp [nameV, nameT, h1, h2, List.all_map]
        rw [← e]; exact hQ
      · have h1' : (1 : Int) ≤ t.length := by omega
        have h2' : ¬ (t.length : Int) ≤ 8 := by omega
        simp [h1, h2, h1', h2', nameV, nameT] at hQ ⊢
        exact .inl hQ
    · have h1' : ¬ (1 : Int) ≤ t.length := by omega
      simp [h1, h1', nameV, nameT] at hQ ⊢
      exact .inl hQ
  | _ => simp [nameV] at hQ ⊢; exact .inl hQ
def digits : Text := [48, 49, 50, 51, 52, 53, 54, 55, 56, 57]
/-- a number of at most three digits -/
def numT? (t : Text) : Option Nat :=
  if 1 ≤ t.length ∧ t.length ≤ 3 ∧ (t.all fun c => decide (c ∈ digits)) = true ∧ (t = [48] ∨ t.head? ≠ some 48) then some (NumText.digitsVal t) else none
def oN : Option Nat → Val
  | none => .non
  | some n => .int n
def fs_number_in : FS := fun args m Q _ => ∃ t : Text, args = [.str t] ∧ t.length ≤ 1000 ∧ Q (oN (numT? t)) m
theorem digs {t : Text} (h : (t.all fun c => decide (c ∈ digits)) = true) : (t.all fun c => decide (48 ≤ c) && decide (c ≤ 57)) = true := by
  rw [List.all_eq_true] at h ⊢
  intro c hc
  have := h c hc
  simp [digits] at this
  simp
  omega
theorem m_number_in {F : Nat → FS} : Meets F 2 b_number_in fs_number_in := by
  rintro args m Q R hm ha ⟨t, rfl, ht, hQ⟩
  unfold b_number_in
  simp [sizeLine_is]
  have hz : t.length ≤ 16777216 := by omega
  simp only [hz, true_and]
  by_cases h1 : 1 ≤ t.length ∧ t.length ≤ 3
  · obtain ⟨h1, h2⟩ := h1
    have h1' : (1 : Int) ≤ t.length := by omega
    have h2' : (t.length : Int) ≤ 3 := by omega
    simp [h1, h2, h1', h2']
    refine lc_signs (f := fun c => decide (c ∈ digits)) trivial (fun c P h => by simpa [digits] using h) t [] (by rw [sizeLine_is]; simp; omega) ?_
    refine ⟨t.map fun c => decide (c ∈ digits), by rw [List.nil_append]; exact bools_map _ t, ?_⟩
    have e : false ∈ List.map (fun c => decide (c ∈ digits)) t ↔ ¬ (t.all fun c => decide (c ∈ digits)) = true := by simp
    by_cases h3 : (t.all fun c => decide (c ∈ digits)) = true
    · rw [if_neg (by rw [e]; simpa using h3)]
      have hi := SX.int_S (digs h3) (by intro z; subst z; simp at h1) (by omega)
      by_cases h4 : t = [48]
      · have ev : numT? t = some (NumText.digitsVal t) := if_pos ⟨h1, h2, h3, .inl h4⟩
        rw [if_pos h4]
        rw [ev] at hQ
        exact ⟨_, hi, by omega, .inl hQ⟩
      · rw [if_neg h4]
        cases t with
        | nil => simp at h1
        | cons c r =>
          refine ⟨.str [c], ⟨c, atI0 _ _, rfl⟩, ?_⟩
          simp
          by_cases h5 : c = 48
          · have ev : numT? (c :: r) = none := if_neg (by
              rintro ⟨_, _, _, z | z⟩
              · exact h4 z
              · simp [h5] at z)
            rw [ev] at hQ
            rw [if_pos h5]
            exact .inl hQ
          · have ev : numT? (c :: r) = some (NumText.digitsVal (c :: r)) := if_pos ⟨h1, h2, h3, .inr (by simpa using h5)⟩
            rw [ev] at hQ
            rw [if_neg h5]
            exact ⟨_, hi, by simp at h2; omega, .inl hQ⟩
    · rw [if_pos (by rw [e]; exact h3)]
      have ev : numT? t = none := if_neg fun z => h3 z.2.2.1
      rw [ev] at hQ
      exact .inl hQ
  · have ev : numT? t = none := if_neg fun z => h1 ⟨z.1, z.2.1⟩
    rw [ev] at hQ
    by_cases g1 : 1 ≤ t.length
    · have g2 : ¬ t.length ≤ 3 := fun z => h1 ⟨g1, z⟩
      have g1' : (1 : Int) ≤ t.length := by omega
      have g2' : ¬ (t.length : Int) ≤ 3 := by omega
      simp [g1, g2, g1', g2']
      exact .inl hQ
    · have g1' : ¬ (1 : Int) ≤ t.length := by omega
      simp [g1, g1']
      exact .inl hQ
def NameOk (t : Text) : Prop := 1 ≤ t.length ∧ t.length ≤ 8 ∧ ∀ c ∈ t, c ∈ letters
theorem NameOk.nameT {t : Text} (h : NameOk t) : nameT t = true := by
  unfold LR.nameT
  simp [h.1, h.2.1]
  exact h.2.2
theorem nm_len {t : Text} (h : NameOk t) : t.length ≤ 1000 := by have := h.2.1; omega
theorem x_is_name {t : Text} {m : Store} {Q : Val → Store → Prop} {R : Rq} {tk : Tok Q} {uk : Tok R} (h : t.length ≤ 1000) (q : Q (.bool (nameT t)) m) : callF fs_is_name [.str t] m Q R tk uk := ⟨_, rfl, fun _ e => by cases e; exact h, q⟩
theorem x_number_in {t : Text} {m : Store} {Q : Val → Store → Prop} {R : Rq} {tk : Tok Q} {uk : Tok R} (h : t.length ≤ 1000) (q : Q (oN (numT? t)) m) : callF fs_number_in [.str t] m Q R tk uk := ⟨_, rfl, h, q⟩
theorem letters_small {c : Nat} (h : c ∈ letters) : 97 ≤ c ∧ c ≤ 122 := by
  simp [letters] at h
  omega
end LR

/-! texts.py: questions and runs read -/
namespace LR
open PySem L2 Dy
theorem cV_mono {n k : Nat} (h : n ≤ k) : ∀ {v : Val}, cV n v = true → cV k v = true := by
  have key : (∀ v : Val, cV n v = true → cV k v = true) := by
    intro v
    apply Val.rec (motive_1 := fun v => cV n v = true → cV k v = true) (motive_2 := fun vs => cVs n vs = true → cVs k vs = true)
    · intro _; rfl
    · intro _ _; rfl
    · intro _ _; rfl
    · intro _ _; rfl
    · intro vs ih z; simpa only [cV] using ih (by simpa only [cV] using z)
    · intro _ vs ih z; simpa only [cV] using ih (by simpa only [cV] using z)
    · intro i z; simp only [cV, decide_eq_true_eq] at z ⊢; omega
    · intro _; rfl
    · intro v vs i1 i2 z
      simp only [cVs, Bool.and_eq_true] at z ⊢
      exact ⟨i1 z.1, i2 z.2⟩
  exact fun {v} => key v
theorem cVs_mono {n k : Nat} (h : n ≤ k) : ∀ {vs : List Val}, cVs n vs = true → cVs k vs = true
  | [], _ => rfl
  | v :: vs, z => by
    simp only [cVs, Bool.and_eq_true] at z ⊢
    exact ⟨cV_mono h z.1, cVs_mono h z.2⟩
theorem cVs_app {n : Nat} : ∀ {a b : List Val}, cVs n a = true → cVs n b = true → cVs n (a ++ b) = true
  | [], _, _, h => h
  | v :: a, b, h, g => by
    simp only [cVs, List.cons_append, Bool.and_eq_true] at h ⊢
    exact ⟨h.1, cVs_app h.2 g⟩
theorem cVs_strs {n : Nat} : ∀ ts : List Text, cVs n (ts.map .str) = true
  | [] => rfl
  | t :: ts => by simp only [List.map_cons, cVs, Bool.and_eq_true]; exact ⟨rfl, cVs_strs ts⟩
/-- the end of a def that made one list that nobody holds -/
theorem ret_drop {m : Store} {Q : Val → Store → Prop} {v : Val} {more : List Ob} (hm : cM m.length m = true) (hv : cV 0 v = true) (h : Q v m) : ret m.length Q v (m ++ more) :=
  .inr ⟨m.length, Nat.le_refl _, cV_mono (Nat.zero_le _) hv, by simpa using hm, by simpa using h⟩
/-! ### plain functions -/
abbrev W_not : Text := [110, 111, 116]
abbrev W_and : Text := [97, 110, 100]
abbrev W_or : Text := [111, 114]
abbrev W_number : Text := [110, 117, 109, 98, 101, 114]
abbrev W_name : Text := [110, 97, 109, 101]
abbrev W_perhaps : Text := [112, 101, 114, 104, 97, 112, 115]
def partIn (form word : Text) : Option Val :=
  if form = W_number then (numT? word).map fun (n : Nat) => Val.int (n : Int)
  else if form = W_perhaps ∧ word = [45] then some .non
  else if nameT word = true then some (.str word) else none
def one? : Option Val → Val
  | none => .non
  | some v => .tup [v]
def fs_part_in : FS := fun args m Q _ => ∃ f w : Text, args = [.str f, .str w] ∧ w.length ≤ 1000 ∧ Q (one? (partIn f w)) m
theorem x_part_in {f w : Text} {m : Store} {Q : Val → Store → Prop} {R : Rq} {tk : Tok Q} {uk : Tok R} (h : w.length ≤ 1000) (q : Q (one? (partIn f w)) m) : callF fs_part_in [.str f, .str w] m Q R tk uk := ⟨_, _, rfl, h, q⟩
theorem m_part_in {F : Nat → FS} (h1 : F i_number_in = fs_number_in) (h2 : F i_is_name = fs_is_name) : Meets F 2 b_part_in fs_part_in := by
  refine Meets.x ?_
  rintro args m Q R hm ha ⟨f, w, rfl, hw, hQ⟩
  unfold b_part_in
  unfold partIn at hQ
  by_cases c1 : f = W_number
  · rw [if_pos c1] at hQ
    subst c1
    simp [h1]
    refine x_number_in hw ?_
    cases hn : numT? w with
    | none => rw [hn] at hQ; simp [oN]; exact .inl hQ
    | some n =>
      rw [hn] at hQ
      simp [oN, h1]
      refine x_number_in hw ?_
      simp [hn, oN]
      exact .inl hQ
  · rw [if_neg c1] at hQ
    simp [c1]
    by_cases c2 : f = W_perhaps ∧ w = [45]
    · rw [if_pos c2] at hQ
      obtain ⟨rfl, rfl⟩ := c2
      simp
      exact .inl hQ
    · rw [if_neg c2] at hQ
      have fin : callF (F i_is_name) [.str w] m (fun v m1 => tsx (fun t m1 => if t = true then xE F ((E.var 1).cons E.nil).tup (List.map some [Val.str f, Val.str w] ++ []) m1 (bodyEn m.length Q R).rt (retX m.length R)
          else xE F (E.cst Val.non) (List.map some [Val.str f, Val.str w] ++ []) m1 (bodyEn m.length Q R).rt (retX m.length R)) v m1 .mk) (retX m.length R) .mk .mk := by
        rw [h2]
        refine x_is_name hw ?_
        cases hn : nameT w with
        | true => rw [hn] at hQ; simp at hQ ⊢; exact .inl hQ
        | false => rw [hn] at hQ; simp at hQ ⊢; exact .inl hQ
      by_cases c3 : f = W_perhaps
      · have c4 : ¬ w = [45] := fun z => c2 ⟨c3, z⟩
        simp [c3, c4]
        simpa [c3] using fin
      · simp [c3]
        simpa using fin
theorem part_closed {f w : Text} {v : Val} (h : partIn f w = some v) : cV 0 v = true := by
  unfold partIn at h
  split at h
  · rw [Option.map_eq_some_iff] at h
    obtain ⟨_, _, rfl⟩ := h
    rfl
  · split at h
    · cases h; rfl
    · split at h
      · cases h; rfl
      · cases h
end LR

/-! texts.py: questions read -/
namespace LR
open PySem L2 Dy
/-- the forms of facts by their words -/
def FORMS : List (Text × List Text) := [([100, 105, 100], [W_name, W_number]), ([97, 104, 101, 97, 100], [W_name, W_name]), ([97, 115, 107, 101, 100], [W_name, W_number]), ([119, 97, 115], [W_name, W_number]), ([105, 115], [W_name, W_number]),
  ([98, 121], [W_name, W_perhaps]), ([97, 116], [W_name, W_perhaps]), ([102, 101, 108, 108], [W_number]), ([115, 112, 105, 108, 116], [W_name, W_number]), ([101, 110, 100, 101, 100], [W_name])]
theorem kd_FORMS_is : kd_FORMS = FORMS.map fun p => (p.1, Val.tup (p.2.map .str)) := rfl
def formsOf (w : Text) : List Text := (FORMS.lookup w).getD []
@[simp] theorem forms_at (w : Text) : (kd_FORMS.lookup w).getD (.tup []) = .tup ((formsOf w).map .str) := by
  rw [kd_FORMS_is, lookup_map (fun l : List Text => Val.tup (l.map .str))]
  unfold formsOf
  cases FORMS.lookup w <;> rfl
theorem forms_all {P : List Text → Prop} (h0 : P []) (h : ∀ p ∈ FORMS, P p.2) (w : Text) : P (formsOf w) := by
  unfold formsOf
  cases e : FORMS.lookup w with
  | none => exact h0
  | some l =>
    have : ∀ L : List (Text × List Text), L.lookup w = some l → ∃ p ∈ L, p.2 = l := by
      intro L
      induction L with
      | nil => intro z; cases z
      | cons p L ih =>
        obtain ⟨a, b⟩ := p
        intro z
        simp only [List.lookup] at z
        split at z
        · cases z; exact ⟨_, List.mem_cons_self, rfl⟩
        · obtain ⟨q, hq, e⟩ := ih z
          exact ⟨q, List.mem_cons_of_mem _ hq, e⟩
    obtain ⟨p, hp, rfl⟩ := this _ e
    exact h p hp
theorem forms_few (w : Text) : (formsOf w).length ≤ 2 := forms_all (P := fun l => l.length ≤ 2) (by decide) (by decide) w
theorem forms_lay (w : Text) : cmpV (.tup ((formsOf w).map .str)) = true := forms_all (P := fun l => cmpV (.tup (l.map .str)) = true) (by decide) (by decide +kernel) w
/-- all of them, or none -/
def allSome : List (Option Val) → Option (List Val)
  | [] => some []
  | none :: _ => none
  | some v :: r => (allSome r).map fun vs => v :: vs
/-- a fact with which words begin, and how many words it has -/
def factIn (w : Text) (rest : List Text) : Option (Val × Nat) :=
  if formsOf w = [] ∨ rest.length < (formsOf w).length then none
  else (allSome (((formsOf w).zip rest).map fun p => partIn p.1 p.2)).map fun vs => (.tup (.str w :: vs), (formsOf w).length + 1)
def fact? : Option (Val × Nat) → Val
  | none => .non
  | some (v, n) => .tup [v, .int n]
def wordsOk (ws : List Text) : Prop := ws.length ≤ 1000000 ∧ ∀ x ∈ ws, x.length ≤ 1000 ∧ signs x = true
def fs_fact_in : FS := fun args m Q _ => ∃ (o : Bool) (w : Text) (rest : List Text), args = [.il o ((w :: rest).map .str)] ∧ wordsOk (w :: rest) ∧ Q (fact? (factIn w rest)) m
theorem x_fact_in {o : Bool} {w : Text} {rest : List Text} {m : Store} {Q : Val → Store → Prop} {R : Rq} {tk : Tok Q} {uk : Tok R} (h : wordsOk (w :: rest)) (q : Q (fact? (factIn w rest)) m) : callF fs_fact_in [.il o ((w :: rest).map .str)] m Q R tk uk := ⟨_, _, _, rfl, h, q⟩
theorem part_lay {f w : Text} : lay (one? (partIn f w)) = true ∧ dep (one? (partIn f w)) ≤ 1 := by
  unfold partIn
  split
  · cases numT? w <;> simp [one?, lay, lays, dep, deps]
  · split
    · simp [one?, lay, lays, dep, deps]
    · split
      · rename_i h
        have : signs w = true := by
          unfold signs
          rw [List.all_eq_true]
          unfold nameT at h
          simp only [Bool.and_eq_true, List.all_eq_true, decide_eq_true_eq] at h
          intro c hc
          have := letters_small (h.2 c hc)
          simp; omega
        simp [one?, lay, lays, dep, deps, this]
      · simp [one?, lay, dep]
theorem parts_lay : ∀ l : List (Text × Text), lays (l.map fun p => one? (partIn p.1 p.2)) = true ∧ deps (l.map fun p => one? (partIn p.1 p.2)) ≤ 1
  | [] => by simp [lays, deps]
  | p :: l => by
    have h1 := part_lay (f := p.1) (w := p.2)
    have h2 := parts_lay l
    simp only [List.map_cons, lays, deps, Bool.and_eq_true]
    exact ⟨⟨h1.1, h2.1⟩, by omega⟩
theorem parts_none : ∀ l : List (Text × Text), ((l.map fun p => one? (partIn p.1 p.2)).any fun z => veqv z .non) = (allSome (l.map fun p => partIn p.1 p.2)).isNone
  | [] => rfl
  | p :: l => by
    simp only [List.map_cons, List.any_cons, parts_none l]
    cases h : partIn p.1 p.2 with
    | none => simp [one?, veqv, allSome]
    | some v =>
      simp only [one?, veqv, allSome, Bool.false_or]
      cases allSome (l.map fun p => partIn p.1 p.2) <;> rfl
theorem m_fact_in {F : Nat → FS} (h1 : F i_part_in = fs_part_in) : Meets F 6 b_fact_in fs_fact_in := by
  refine Meets.x ?_
  rintro args m Q R hm ha ⟨o, w, rest, rfl, ok, hQ⟩
  unfold b_fact_in
  simp [forms_at]
  have hz := zip_strs (formsOf w) rest
  have hlen : ((formsOf w).zip rest).length ≤ 2 := by have := forms_few w; simp; omega
  rw [hz]
  refine lc_map0 (f := fun p : Text × Text => Val.tup [.str p.1, .str p.2]) (fun p : Text × Text => one? (partIn p.1 p.2)) (by simp [hz]) _ ?_ (Nat.le_trans hlen (by simp)) ?_
  · intro x hx P hP
    simp [h1]
    exact x_part_in (ok.2 _ (List.mem_cons_of_mem _ (List.of_mem_zip hx).2)).1 hP
  · simp
    refine x_eqG (forms_lay w) (by decide) ?_
    by_cases hf : formsOf w = []
    · have e : veqv (.tup ((formsOf w).map .str)) (.tup []) = true := by rw [hf]; rfl
      have e2 : factIn w rest = none := if_pos (.inl hf)
      rw [e2] at hQ
      rw [e]
      simp
      exact .inl hQ
    · have e : veqv (.tup ((formsOf w).map .str)) (.tup []) = false := by
        cases h : formsOf w with
        | nil => exact absurd h hf
        | cons a l => rfl
      rw [e]
      by_cases hl : rest.length < (formsOf w).length
      · have e2 : factIn w rest = none := if_pos (.inr hl)
        rw [e2] at hQ
        have hmn : min (formsOf w).length rest.length < (formsOf w).length := by omega
        simp [hmn]
        exact .inl hQ
      · have e2 : factIn w rest = (allSome (((formsOf w).zip rest).map fun p => partIn p.1 p.2)).map fun vs => (.tup (.str w :: vs), (formsOf w).length + 1) := if_neg (by simp [hf, hl])
        rw [e2] at hQ
        have hmn : ¬ min (formsOf w).length rest.length < (formsOf w).length := by omega
        simp [hmn]
        have hp := parts_lay ((formsOf w).zip rest)
        refine cmp_inL (by decide) (by simp only [cmpV, lay, dep, hp.1, Bool.true_and]; simp; omega) ?_
        rw [parts_none]
        generalize hL : (formsOf w).zip rest = L at hQ hlen ⊢
        cases hs : allSome (L.map fun p => partIn p.1 p.2) with
        | none =>
          rw [hs] at hQ
          simp
          exact .inl hQ
        | some vs =>
          rw [hs] at hQ
          simp
          have key : ∀ (L : List (Text × Text)) (vs : List Val), allSome (L.map fun p => partIn p.1 p.2) = some vs → L.map (fun p => one? (partIn p.1 p.2)) = vs.map fun v => Val.tup [v] := by
            intro L
            induction L with
            | nil => intro vs h; cases h; rfl
            | cons p L ih =>
              intro vs h
              simp only [List.map_cons] at h ⊢
              cases hp : partIn p.1 p.2 with
              | none => rw [hp] at h; cases h
              | some v =>
                rw [hp] at h
                simp only [allSome, Option.map_eq_some_iff] at h
                obtain ⟨us, hu, rfl⟩ := h
                rw [ih us hu]
                rfl
          have hlv : vs.length = L.length := by
            have := congrArg List.length (key L vs hs)
            simpa using this.symm
          rw [key L vs hs]
          refine lc_map0 (f := fun v : Val => Val.tup [v]) (fun v : Val => v) (by simp) _ ?_ (by simp; omega) ?_
          · intro x hx P hP
            simpa using hP
          · simp
            exact ⟨by omega, .inl (by simpa [fact?] using hQ)⟩
theorem fact_closed {w : Text} {rest : List Text} {v : Val} {n : Nat} (h : factIn w rest = some (v, n)) : cV 0 v = true := by
  unfold factIn at h
  split at h
  · cases h
  · rw [Option.map_eq_some_iff] at h
    obtain ⟨vs, h1, h2⟩ := h
    cases h2
    have key : ∀ (L : List (Text × Text)) (vs : List Val), allSome (L.map fun p => partIn p.1 p.2) = some vs → cVs 0 vs = true := by
      intro L
      induction L with
      | nil => intro vs h; cases h; rfl
      | cons p L ih =>
        intro vs h
        simp only [List.map_cons] at h
        cases hp : partIn p.1 p.2 with
        | none => rw [hp] at h; cases h
        | some v =>
          rw [hp] at h
          simp only [allSome, Option.map_eq_some_iff] at h
          obtain ⟨us, hu, rfl⟩ := h
          simp only [cVs, Bool.and_eq_true]
          exact ⟨part_closed hp, ih us hu⟩
    simp only [cV, cVs, Bool.true_and]
    exact key _ _ h1
/-! ### questions -/
abbrev QRes := Option (Val × Nat × Nat)
def qLoop (q : List Text → QRes) (ws : List Text) : Nat → List Val → Nat → Nat → Option (List Val × Nat × Nat)
  | 0, ps, used, facts => some (ps, used, facts)
  | k + 1, ps, used, facts => match q (ws.drop used) with
    | none => none
    | some (v, n, f) => qLoop q ws k (ps ++ [v]) (used + n) (facts + f)
def qMany (w : Text) (rest : List Text) : Option Nat := if w = W_not then some 1 else rest.head?.bind numT?
def qUsed (w : Text) : Nat := if w = W_not then 1 else 2
def qStep (prev : Option (List Text → QRes)) : List Text → QRes
  | [] => none
  | w :: rest => if ¬ (w = W_not ∨ w = W_and ∨ w = W_or) then (factIn w rest).map fun p => (p.1, p.2, 1)
    else match prev with
      | none => none
      | some q => match qMany w rest with
        | none => none
        | some k => if 4 < k ∨ k < qUsed w then none else (qLoop q (w :: rest) k [] (qUsed w) 0).map fun p => (.tup (.str w :: p.1), p.2.1, p.2.2)
/-- the question with which words begin, how many words, how many facts it has -/
def questionIn : Nat → List Text → QRes
  | 0 => qStep none
  | d + 1 => qStep (some (questionIn d))
def q? : QRes → Val
  | none => .non
  | some (v, n, f) => .tup [v, .int n, .int f]
theorem qLoop_closed {q : List Text → QRes} {ws : List Text} (hq : ∀ us v n f, q us = some (v, n, f) → cV 0 v = true) : ∀ (k : Nat) (ps : List Val) (used facts : Nat) (r : List Val × Nat × Nat), cVs 0 ps = true → qLoop q ws k ps used facts = some r → cVs 0 r.1 = true
  | 0, ps, used, facts, r, h, e => by cases e; exact h
  | k + 1, ps, used, facts, r, h, e => by
    simp only [qLoop] at e
    split at e
    · cases e
    · rename_i v n f hv
      exact qLoop_closed hq k _ _ _ r (cVs_app h (by simp only [cVs, Bool.and_eq_true]; exact ⟨hq _ _ _ _ hv, trivial⟩)) e
theorem qStep_closed {prev : Option (List Text → QRes)} (hq : ∀ q, prev = some q → ∀ us v n f, q us = some (v, n, f) → cV 0 v = true) : ∀ us v n f, qStep prev us = some (v, n, f) → cV 0 v = true
  | [], v, n, f, h => by cases h
  | w :: rest, v, n, f, h => by
    simp only [qStep] at h
    split at h
    · rw [Option.map_eq_some_iff] at h
      obtain ⟨p, h1, h2⟩ := h
      cases h2
      exact fact_closed (n := p.2) h1
    · split at h
      · cases h
      · rename_i q
        split at h
        · cases h
        · split at h
          · cases h
          · rw [Option.map_eq_some_iff] at h
            obtain ⟨p, h1, h2⟩ := h
            cases h2
            simp only [cV, cVs, Bool.true_and]
            exact qLoop_closed (hq q rfl) _ _ _ _ p rfl h1
theorem q_closed : ∀ d us v n f, questionIn d us = some (v, n, f) → cV 0 v = true
  | 0 => qStep_closed fun q h => by cases h
  | d + 1 => qStep_closed fun q h => by cases h; exact q_closed d
theorem qres_closed {d : Nat} {us : List Text} : cV 0 (q? (questionIn d us)) = true := by
  cases h : questionIn d us with
  | none => rfl
  | some p =>
    obtain ⟨v, n, f⟩ := p
    simp [q?, cV, cVs, q_closed d us v n f h]
theorem veqv_ilnil {o p : Bool} {v : Val} {vs : List Val} : veqv (.il o (v :: vs)) (.il p []) = false := rfl
def prevF (fs : Nat → FS) : Nat → FS
  | 0 => noFS
  | d + 1 => fs d
def fs_question_in (d : Nat) : FS := fun args m Q _ => ∃ (o : Bool) (ws : List Text), args = [.il o (ws.map .str), .int (d : Int)] ∧ wordsOk ws ∧ Q (q? (questionIn d ws)) m
theorem x_question_in {d : Nat} {o : Bool} {ws : List Text} {e : Int} {m : Store} {Q : Val → Store → Prop} {R : Rq} {tk : Tok Q} {uk : Tok R} (he : e = d) (h : wordsOk ws) (q : Q (q? (questionIn d ws)) m) : callF (fs_question_in d) [.il o (ws.map .str), .int e] m Q R tk uk := ⟨_, _, by rw [he], h, q⟩
theorem strs_lay : ∀ {ws : List Text}, (∀ x ∈ ws, signs x = true) → lays (ws.map .str) = true ∧ deps (ws.map .str) = 0
  | [], _ => ⟨rfl, rfl⟩
  | w :: ws, h => by
    have := strs_lay fun x hx => h x (List.mem_cons_of_mem _ hx)
    simp [lays, deps, lay, dep, this, h w (by simp)]
theorem words_cmp {ws : List Text} {o : Bool} (h : wordsOk ws) : cmpV (.il o (ws.map .str)) = true := by
  have := strs_lay fun x hx => (h.2 x hx).2
  simp [cmpV, lay, dep, this]
theorem wordsOk.drop {ws : List Text} (h : wordsOk ws) (n : Nat) : wordsOk (ws.drop n) := ⟨by have := h.1; simp; omega, fun x hx => h.2 x (List.mem_of_mem_drop hx)⟩
/-- the rounds of question_in and what follows them -/
def qTail : S :=
  (.cons (.loop (.name 2) .rng1 (.var 4) (.cst .non)
    (.cons (.asg (.name 3) (.call i_question_in (.cons (.sl true false (.var 0) (.var 5) (.cst .non)) (.cons (.bin .sub (.var 1) (.cst (.int 1))) .nil))))
    (.cons (.ite (.isN false (.var 3)) (.cons (.ret (.cst .non)) .nil) .nil)
    (.cons (.expr (.meth .append (.var 6) (.cons (.idx (.var 3) (.cst (.int 0))) .nil)))
    (.cons (.par [5, 7] (.cons (.bin .add (.var 5) (.idx (.var 3) (.cst (.int 1)))) (.cons (.bin .add (.var 7) (.idx (.var 3) (.cst (.int 2)))) .nil)))
    .nil)))))
    (.cons (.ret (.tup (.cons (.tup (.cons (.idx (.var 0) (.cst (.int 0))) (.scons (.var 6) .nil))) (.cons (.var 5) (.cons (.var 7) .nil))))) .nil))
theorem q_rounds {d : Nat} {F : Nat → FS} (h3 : F i_question_in = fs_question_in d) {m : Store} {Q : Val → Store → Prop} {R : Rq} {o : Bool} {w : Text} {ws : List Text} (hm : cM m.length m = true) (ok : wordsOk ws) (h0 : atI (ws.map Val.str) 0 = some (.str w)) {k u : Nat} (hk : k ≤ 4)
    (hQ : Q (q? ((qLoop (questionIn d) ws k [] u 0).map fun p => (.tup (.str w :: p.1), p.2.1, p.2.2))) m) :
    xS F qTail [some (.il o (ws.map .str)), some (.int ((d + 1 : Nat) : Int)), none, none, some (.int (k : Nat)), some (.int (u : Nat)), some (.loc m.length), some (.int 0)] (m ++ [.list []]) (bodyEn m.length Q R) := by
  unfold qTail
  simp
  refine x_rng (by omega) (by omega) ?_
  refine for_invX (fun rem r m1 => ∃ (ps : List Val) (used facts : Nat) (x2 x3 : Option Val), r = [some (.il o (ws.map .str)), some (.int ((d + 1 : Nat) : Int)), x2, x3, some (.int (k : Nat)), some (.int (used : Nat)), some (.loc m.length), some (.int (facts : Nat))] ∧
      m1 = m ++ [.list ps] ∧ cVs 0 ps = true ∧ ps.length + rem.length ≤ 4 ∧ qLoop (questionIn d) ws rem.length ps used facts = qLoop (questionIn d) ws k [] u 0) (fun _ => it_rng (by omega) (by omega)) ?_ ?_ ⟨[], u, 0, none, none, rfl, rfl, rfl, by simp; omega, by simp⟩
  · rintro x xs r m1 nx ⟨ps, used, facts, x2, x3, rfl, rfl, hc, hl, e⟩ hn
    have es : List.drop used (ws.map Val.str) = (ws.drop used).map Val.str := by rw [List.map_drop]
    simp [h3]
    rw [es]
    refine x_question_in (by omega) (ok.drop used) ?_
    simp only [List.length_cons, qLoop] at e hl
    cases hq : questionIn d (ws.drop used) with
    | none =>
      rw [hq] at e
      rw [← e] at hQ
      simp [q?]
      exact ret_drop hm rfl hQ
    | some p =>
      obtain ⟨v, n, f⟩ := p
      rw [hq] at e
      simp [q?]
      refine x_app (vs := ps) (by simp) (by simp; omega) ?_
      simp
      refine hn _ _ ⟨ps ++ [v], used + n, facts + f, _, _, rfl, by simp, cVs_app hc (by simp [cVs, q_closed d _ _ _ _ hq]), by simp; omega, e⟩
  · rintro r m1 ⟨ps, used, facts, x2, x3, rfl, rfl, hc, hl, e⟩
    simp only [List.length_nil, qLoop] at e
    rw [← e] at hQ
    have hs : sq (m ++ [.list ps]) (.loc m.length) = some ps := sq_loc (by simp)
    simp at hl
    simp [h0, hs]
    refine ⟨by omega, ret_drop hm ?_ hQ⟩
    simp [cV, cVs, hc]
theorem m_question_in (d : Nat) {F : Nat → FS} (h1 : F i_fact_in = fs_fact_in) (h2 : F i_number_in = fs_number_in) (h3 : F i_question_in = prevF fs_question_in d) : Meets F 8 b_question_in (fs_question_in d) := by
  refine Meets.x ?_
  rintro args m Q R hm ha ⟨o, ws, rfl, ok, hQ⟩
  unfold b_question_in
  simp
  refine x_eqG (words_cmp ok) (by decide) ?_
  cases ws with
  | nil =>
    have e : questionIn d [] = none := by cases d <;> rfl
    rw [e] at hQ
    simp [veqv, veqvs]
    exact .inl hQ
  | cons w rest =>
    by_cases hj : w = W_not ∨ w = W_and ∨ w = W_or
    · have e1 : ([Val.str [110, 111, 116], Val.str [97, 110, 100], Val.str [111, 114]].any fun z => veqv z (Val.str w)) = true := by
        rcases hj with rfl | rfl | rfl <;> rfl
      cases d with
      | zero =>
        have e2 : questionIn 0 (w :: rest) = none := if_neg fun z => z hj
        rw [e2] at hQ
        simp [veqv_ilnil, e1, -List.any_cons]
        exact .inl hQ
      | succ d =>
        have e2 : questionIn (d + 1) (w :: rest) = (match qMany w rest with
          | none => none
          | some k => if 4 < k ∨ k < qUsed w then none else (qLoop (questionIn d) (w :: rest) k [] (qUsed w) 0).map fun p => (.tup (.str w :: p.1), p.2.1, p.2.2)) := if_neg fun z => z hj
        rw [e2] at hQ
        have hd : ¬ ((d : Nat) : Int) + 1 = 0 := by omega
        simp only [prevF] at h3
        have h0 : atI ((w :: rest).map Val.str) 0 = some (.str w) := by simp
        by_cases hw : w = W_not
        · have g1 : qMany w rest = some 1 := if_pos hw
          have g2 : qUsed w = 1 := if_pos hw
          rw [g1, g2] at hQ
          have := q_rounds (o := o) (R := R) (k := 1) (u := 1) h3 hm ok h0 (by decide) (by simpa using hQ)
          unfold qTail at this
          subst hw
          simp at this
          simp [veqv_ilnil, hd]
          exact this
        · have g1 : qMany w rest = rest.head?.bind numT? := if_neg hw
          have g2 : qUsed w = 2 := if_neg hw
          rw [g1, g2] at hQ
          simp [veqv_ilnil, e1, hd, hw, -List.any_cons]
          cases rest with
          | nil =>
            simp
            exact .inl hQ
          | cons x r =>
            have hr : (1 : Int) < r.length + 1 + 1 := by omega
            simp [h2, hr]
            refine x_number_in (ok.2 x (by simp)).1 ?_
            simp only [List.head?_cons, Option.bind_some] at hQ
            cases hn : numT? x with
            | none =>
              rw [hn] at hQ
              simp [oN]
              exact .inl hQ
            | some k =>
              rw [hn] at hQ
              by_cases c1 : 4 < k
              · rw [show (match some k with | none => none | some k => if 4 < k ∨ k < 2 then none else (qLoop (questionIn d) (w :: x :: r) k [] 2 0).map fun p => (Val.tup (.str w :: p.1), p.2.1, p.2.2)) = none from if_pos (.inl c1)] at hQ
                have c1' : (4 : Int) < k := by omega
                simp [oN, c1, c1']
                exact .inl hQ
              · have c1' : ¬ (4 : Int) < k := by omega
                by_cases c2 : k < 2
                · rw [show (match some k with | none => none | some k => if 4 < k ∨ k < 2 then none else (qLoop (questionIn d) (w :: x :: r) k [] 2 0).map fun p => (Val.tup (.str w :: p.1), p.2.1, p.2.2)) = none from if_pos (.inr c2)] at hQ
                  have c2' : (k : Int) < 2 := by omega
                  simp [oN, c1, c1', c2, c2']
                  exact .inl hQ
                · rw [show (match some k with | none => none | some k => if 4 < k ∨ k < 2 then none else (qLoop (questionIn d) (w :: x :: r) k [] 2 0).map fun p => (Val.tup (.str w :: p.1), p.2.1, p.2.2)) = (qLoop (questionIn d) (w :: x :: r) k [] 2 0).map fun p => (Val.tup (.str w :: p.1), p.2.1, p.2.2) from if_neg (by omega)] at hQ
                  have c2' : ¬ (k : Int) < 2 := by omega
                  have := q_rounds (o := o) (R := R) (k := k) (u := 2) h3 hm ok h0 (by omega) hQ
                  unfold qTail at this
                  simp at this
                  simp [oN, c1, c1', c2, c2']
                  exact this
    · have e1 : ([Val.str [110, 111, 116], Val.str [97, 110, 100], Val.str [111, 114]].any fun z => veqv z (Val.str w)) = false := by
        simp only [not_or] at hj
        simp [Ne.symm hj.1, Ne.symm hj.2.1, Ne.symm hj.2.2]
      have e2 : questionIn d (w :: rest) = (factIn w rest).map fun p => (p.1, p.2, 1) := by cases d <;> exact if_pos hj
      rw [e2] at hQ
      simp [veqv_ilnil, e1, h1, -List.any_cons]
      refine x_fact_in ok ?_
      cases hf : factIn w rest with
      | none =>
        rw [hf] at hQ
        simp [fact?]
        exact .inl hQ
      | some p =>
        rw [hf] at hQ
        simp [fact?]
        exact .inl hQ
end LR

/-! texts.py: whole questions and runs read -/
namespace LR
open PySem L2 Dy
def textOk (t : Text) : Prop := t.length ≤ 1000 ∧ signs t = true
theorem spl_ne (S : List Nat) : ∀ (t : List Nat) (k : Nat) (acc : List Nat), TL.spl S k acc t ≠ []
  | [], k, acc => by rw [TL.spl_nil]; simp
  | c :: r, 0, acc => by
    simp only [TL.spl]
    split
    · simp
    · exact spl_ne S r 0 _
  | c :: r, k + 1, acc => by
    simp only [TL.spl]
    exact spl_ne S r k acc
theorem spl_in (S : List Nat) : ∀ (t : List Nat) (k : Nat) (acc : List Nat), ∀ p ∈ TL.spl S k acc t, p.length ≤ acc.length + t.length ∧ ∀ c ∈ p, c ∈ acc ∨ c ∈ t
  | [], k, acc, p, h => by
    rw [TL.spl_nil] at h
    simp at h
    subst h
    exact ⟨by simp, fun c hc => .inl hc⟩
  | c :: r, 0, acc, p, h => by
    simp only [TL.spl] at h
    split at h
    · rcases List.mem_cons.mp h with rfl | h
      · exact ⟨by simp, fun c hc => .inl hc⟩
      · obtain ⟨h1, h2⟩ := spl_in S r _ [] p h
        exact ⟨by simp at h1 ⊢; omega, fun d hd => by
          rcases h2 d hd with z | z
          · cases z
          · exact .inr (List.mem_cons_of_mem _ z)⟩
    · obtain ⟨h1, h2⟩ := spl_in S r 0 _ p h
      refine ⟨by simp at h1 ⊢; omega, fun d hd => ?_⟩
      rcases h2 d hd with z | z
      · rcases List.mem_append.mp z with z | z
        · exact .inl z
        · simp at z; subst z; exact .inr (by simp)
      · exact .inr (List.mem_cons_of_mem _ z)
  | c :: r, k + 1, acc, p, h => by
    simp only [TL.spl] at h
    obtain ⟨h1, h2⟩ := spl_in S r k acc p h
    exact ⟨by simp at h1 ⊢; omega, fun d hd => (h2 d hd).imp (fun z => z) fun z => List.mem_cons_of_mem _ z⟩
theorem spl_len (S : List Nat) : ∀ (t : List Nat) (k : Nat) (acc : List Nat), (TL.spl S k acc t).length ≤ t.length + 1
  | [], k, acc => by rw [TL.spl_nil]; simp
  | c :: r, 0, acc => by
    simp only [TL.spl]
    split
    · have := spl_len S r (S.length - 1) []
      simp; omega
    · have := spl_len S r 0 (acc ++ [c])
      simp; omega
  | c :: r, k + 1, acc => by
    simp only [TL.spl]
    have := spl_len S r k acc
    simp; omega
theorem parts_ok {t : Text} (h : textOk t) (S : List Nat) : wordsOk (TL.spl S 0 [] t) := by
  refine ⟨by have := spl_len S t 0 []; have := h.1; omega, fun x hx => ?_⟩
  obtain ⟨h1, h2⟩ := spl_in S t 0 [] x hx
  refine ⟨by have := h.1; simp at h1; omega, ?_⟩
  have hs := h.2
  unfold signs at hs ⊢
  rw [List.all_eq_true] at hs ⊢
  intro c hc
  rcases h2 c hc with z | z
  · cases z
  · exact hs c z
theorem parts_textOk {t : Text} (h : textOk t) {S : List Nat} {x : Text} (hx : x ∈ TL.spl S 0 [] t) : textOk x := by
  have := (parts_ok h S).2 x hx
  exact this
/-- the question that a text writes -/
def questionOf (t : Text) : Option Val := match questionIn 4 (TL.spl [32] 0 [] t) with
  | none => none
  | some (v, n, f) => if n ≠ (TL.spl [32] 0 [] t).length ∨ 4 < f then none else some v
def oV? : Option Val → Val
  | none => .non
  | some v => v
@[simp] theorem oV_some (v : Val) : oV? (some v) = v := id rfl
@[simp] theorem oV_none : oV? none = .non := id rfl
def fs_question_of : FS := fun args m Q _ => ∃ t : Text, args = [.str t] ∧ textOk t ∧ Q (oV? (questionOf t)) m
theorem x_question_of {t : Text} {m : Store} {Q : Val → Store → Prop} {R : Rq} {tk : Tok Q} {uk : Tok R} (h : textOk t) (q : Q (oV? (questionOf t)) m) : callF fs_question_of [.str t] m Q R tk uk := ⟨_, rfl, h, q⟩
theorem m_question_of {F : Nat → FS} (h1 : F i_question_in = fs_question_in 4) : Meets F 3 b_question_of fs_question_of := by
  refine Meets.x ?_
  rintro args m Q R hm ha ⟨t, rfl, ok, hQ⟩
  unfold b_question_of
  have hl := ok.1
  unfold questionOf at hQ
  simp [h1]
  refine ⟨by omega, x_question_in rfl (parts_ok ok [32]) ?_⟩
  cases hq : questionIn 4 (TL.spl [32] 0 [] t) with
  | none =>
    rw [hq] at hQ
    simp [q?]
    exact .inl hQ
  | some p =>
    obtain ⟨v, n, f⟩ := p
    rw [hq] at hQ
    simp only at hQ
    by_cases c1 : n = (TL.spl [32] 0 [] t).length
    · by_cases c2 : 4 < f
      · rw [if_pos (.inr c2)] at hQ
        have c2' : (4 : Int) < f := by omega
        simp [q?, c1, c2, c2']
        exact .inl hQ
      · rw [if_neg (by simp [c1]; omega)] at hQ
        have c2' : ¬ (4 : Int) < f := by omega
        simp [q?, c1, c2, c2']
        exact .inl hQ
    · rw [if_pos (.inl c1)] at hQ
      have c1' : ¬ (n : Int) = ((TL.spl [32] 0 [] t).length : Int) := by omega
      simp [q?, c1, c1']
      exact .inl hQ
/-! ### runs -/
abbrev W_do : Text := [100, 111]
abbrev W_write : Text := [119, 114, 105, 116, 101]
abbrev W_again : Text := [97, 103, 97, 105, 110]
def allNum : List Text → Option (List Nat)
  | [] => some []
  | x :: r => match numT? x with
    | none => none
    | some n => (allNum r).map fun l => n :: l
def stepOf (w : Text) (whole : Bool) : Option (List Nat) → Option Val
  | none => none
  | some [a] => if w = W_do then some (.tup [.str W_do, .int a, .non]) else if w = W_write then some (.tup [.str W_write, .int a]) else none
  | some [a, b] => if w = W_do then some (.tup [.str W_do, .int a, .int b]) else none
  | some [] => if whole then some (.tup [.str W_again]) else none
  | some _ => none
/-- the step that a text writes -/
def stepIn (t : Text) : Option Val := match TL.spl [32] 0 [] t with
  | [] => none
  | w :: rest => stepOf w (decide (t = W_again)) (allNum rest)
theorem nums_in : ∀ l : List Text, ((l.map fun x => oN (numT? x)).any fun z => veqv z .non) = (allNum l).isNone
  | [] => rfl
  | x :: l => by
    simp only [List.map_cons, List.any_cons, nums_in l, allNum]
    cases numT? x with
    | none => simp [oN]
    | some n =>
      simp only [oN, veqv_in, Bool.false_or]
      cases allNum l <;> rfl
theorem nums_at : ∀ {l : List Text} {ns : List Nat}, allNum l = some ns → l.map (fun x => oN (numT? x)) = ns.map fun n => Val.int (n : Nat)
  | [], ns, h => by cases h; rfl
  | x :: l, ns, h => by
    simp only [allNum] at h
    cases hn : numT? x with
    | none => rw [hn] at h; cases h
    | some n =>
      rw [hn] at h
      simp only [Option.map_eq_some_iff] at h
      obtain ⟨r, h1, rfl⟩ := h
      simp only [List.map_cons, hn, nums_at h1]
      rfl
theorem nums_flat : ∀ l : List Text, flatAll (l.map fun x => oN (numT? x)) = true
  | [] => rfl
  | x :: l => by
    simp only [List.map_cons, flatAll_cons, nums_flat l, Bool.and_true]
    cases numT? x <;> rfl
def fs_step_in : FS := fun args m Q _ => ∃ t : Text, args = [.str t] ∧ textOk t ∧ Q (oV? (stepIn t)) m
theorem x_step_in {t : Text} {m : Store} {Q : Val → Store → Prop} {R : Rq} {tk : Tok Q} {uk : Tok R} (h : textOk t) (q : Q (oV? (stepIn t)) m) : callF fs_step_in [.str t] m Q R tk uk := ⟨_, rfl, h, q⟩
theorem again_spl : TL.spl [32] 0 [] W_again = [W_again] := by decide
theorem m_step_in {F : Nat → FS} (h1 : F i_number_in = fs_number_in) : Meets F 4 b_step_in fs_step_in := by
  refine Meets.x ?_
  rintro args m Q R hm ha ⟨t, rfl, ok, hQ⟩
  unfold b_step_in
  have hl := ok.1
  have hw := parts_ok ok [32]
  have hsz : t.length + 2 ≤ 16777216 := by omega
  have hag : t = W_again → ∀ w rest, TL.spl [32] 0 [] t = w :: rest → w = W_again ∧ rest = [] := fun e w rest h => by
    subst e
    rw [again_spl] at h
    cases h
    exact ⟨rfl, rfl⟩
  unfold stepIn at hQ
  simp [hsz]
  cases hs : TL.spl [32] 0 [] t with
  | nil => exact absurd hs (spl_ne [32] t 0 [])
  | cons w rest =>
    rw [hs] at hw hQ
    simp only at hQ
    have hlr := hw.1
    simp at hlr
    simp
    refine lc_map0 (f := Val.str) (fun x : Text => oN (numT? x)) (by simp) _ ?_ (by simp; omega) ?_
    · intro x hx P hP
      simp [h1]
      exact x_number_in (hw.2 x (List.mem_cons_of_mem _ hx)).1 hP
    · have e1 := nums_in rest
      have e2 := nums_flat rest
      cases hn : allNum rest with
      | none =>
        rw [hn] at e1 hQ
        simp [e2, e1, -List.any_map, -List.all_map]
        exact .inl hQ
      | some ns =>
        rw [hn] at e1 hQ
        rw [nums_at hn] at e1 e2 ⊢
        simp only [Option.isNone_some] at e1
        have hnl : ns.length = rest.length := by
          have := congrArg List.length (nums_at hn)
          simpa using this.symm
        match ns, hnl with
        | [], hnl =>
          have hr : rest = [] := by cases rest with | nil => rfl | cons _ _ => simp at hnl
          by_cases c : t = W_again
          · obtain ⟨hwa, _⟩ := hag c w rest hs
            subst hwa
            simp [stepOf, c] at hQ
            simp [c]
            exact .inl hQ
          · simp [stepOf, c] at hQ
            by_cases cd : w = W_do
            · simp [cd, c]; exact .inl hQ
            · by_cases cw : w = W_write
              · simp [cw, c]; exact .inl hQ
              · simp [cd, cw, c]; exact .inl hQ
        | [a], hnl =>
          have c : ¬ t = W_again := fun z => by have := (hag z w rest hs).2; subst this; simp at hnl
          by_cases cd : w = W_do
          · simp [stepOf, cd] at hQ
            simp [cd]; exact .inl hQ
          · by_cases cw : w = W_write
            · simp [stepOf, cw] at hQ
              simp [cw]; exact .inl hQ
            · simp [stepOf, cd, cw] at hQ
              simp [cd, cw, c]; exact .inl hQ
        | [a, b], hnl =>
          have c : ¬ t = W_again := fun z => by have := (hag z w rest hs).2; subst this; simp at hnl
          by_cases cd : w = W_do
          · simp [stepOf, cd] at hQ
            simp [cd]; exact .inl hQ
          · by_cases cw : w = W_write
            · simp [stepOf, cw] at hQ
              simp [cw, c]; exact .inl hQ
            · simp [stepOf, cd, cw] at hQ
              simp [cd, cw, c]; exact .inl hQ
        | a :: b :: e :: r, hnl =>
          have c : ¬ t = W_again := fun z => by have := (hag z w rest hs).2; subst this; simp at hnl
          have hQ' : Q (oV? none) m := by simpa [stepOf] using hQ
          have k1 : ¬ (1 : Int) = (r.length : Int) + 1 + 1 + 1 := by omega
          have k2 : ¬ (2 : Int) = (r.length : Int) + 1 + 1 + 1 := by omega
          have k3 : ¬ (r.length : Int) + 1 + 1 + 1 = 1 := by omega
          simp at e1
          simp [e1, e2, k1, k2, k3, c]
          exact .inl hQ'
/-- the steps that texts write -/
def allSteps : List Text → Option (List Val)
  | [] => some []
  | x :: r => match stepIn x with
    | none => none
    | some v => (allSteps r).map fun l => v :: l
/-- the run that a text writes -/
def runIn (t : Text) : Option Val := if t = [45] then some (.tup []) else (allSteps (TL.spl [59, 32] 0 [] t)).map .tup
theorem stepOf_lay {w : Text} {b : Bool} {ns : Option (List Nat)} {v : Val} (h : stepOf w b ns = some v) : lay v = true ∧ dep v ≤ 1 ∧ veqv v .non = false := by
  have k1 : signs W_do = true := by decide
  have k2 : signs W_write = true := by decide
  have k3 : signs W_again = true := by decide
  unfold stepOf at h
  split at h
  · cases h
  · split at h
    · cases h; simp [lay, lays, dep, deps, k1]
    · split at h
      · cases h; simp [lay, lays, dep, deps, k2]
      · cases h
  · split at h
    · cases h; simp [lay, lays, dep, deps, k1]
    · cases h
  · split at h
    · cases h; simp [lay, lays, dep, deps, k3]
    · cases h
  · cases h
theorem step_lay {t : Text} {v : Val} (h : stepIn t = some v) : lay v = true ∧ dep v ≤ 1 ∧ veqv v .non = false := by
  unfold stepIn at h
  split at h
  · cases h
  · exact stepOf_lay h
theorem steps_lay : ∀ l : List Text, lays (l.map fun x => oV? (stepIn x)) = true ∧ deps (l.map fun x => oV? (stepIn x)) ≤ 1
  | [] => ⟨rfl, Nat.zero_le _⟩
  | x :: l => by
    have h2 := steps_lay l
    simp only [List.map_cons, lays, deps, Bool.and_eq_true]
    cases h : stepIn x with
    | none => exact ⟨⟨rfl, h2.1⟩, Nat.max_le.mpr ⟨Nat.zero_le _, h2.2⟩⟩
    | some v => have := step_lay h; exact ⟨⟨this.1, h2.1⟩, Nat.max_le.mpr ⟨this.2.1, h2.2⟩⟩
theorem steps_none : ∀ l : List Text, ((l.map fun x => oV? (stepIn x)).any fun z => veqv z .non) = (allSteps l).isNone
  | [] => rfl
  | x :: l => by
    simp only [List.map_cons, List.any_cons, steps_none l, allSteps]
    cases h : stepIn x with
    | none => simp [oV?]
    | some v =>
      simp only [oV?, (step_lay h).2.2, Bool.false_or]
      cases allSteps l <;> rfl
theorem steps_at : ∀ {l : List Text} {vs : List Val}, allSteps l = some vs → l.map (fun x => oV? (stepIn x)) = vs
  | [], ns, h => by cases h; rfl
  | x :: l, vs, h => by
    simp only [allSteps] at h
    cases hn : stepIn x with
    | none => rw [hn] at h; cases h
    | some n =>
      rw [hn] at h
      simp only [Option.map_eq_some_iff] at h
      obtain ⟨r, h1, rfl⟩ := h
      simp only [List.map_cons, hn, steps_at h1]
      rfl
def fs_run_in : FS := fun args m Q _ => ∃ t : Text, args = [.str t] ∧ textOk t ∧ Q (oV? (runIn t)) m
theorem x_run_in {t : Text} {m : Store} {Q : Val → Store → Prop} {R : Rq} {tk : Tok Q} {uk : Tok R} (h : textOk t) (q : Q (oV? (runIn t)) m) : callF fs_run_in [.str t] m Q R tk uk := ⟨_, rfl, h, q⟩
theorem m_run_in {F : Nat → FS} (h1 : F i_step_in = fs_step_in) : Meets F 3 b_run_in fs_run_in := by
  refine Meets.x ?_
  rintro args m Q R hm ha ⟨t, rfl, ok, hQ⟩
  unfold b_run_in
  have hl := ok.1
  have hw := parts_ok ok [59, 32]
  have hsz : t.length + 2 ≤ 16777216 := by omega
  unfold runIn at hQ
  by_cases c : t = [45]
  · rw [if_pos c] at hQ
    simp [c]
    exact .inl hQ
  · rw [if_neg c] at hQ
    simp [c, hsz]
    have hcmp : cmpV (.il true ((TL.spl [59, 32] 0 [] t).map fun x => oV? (stepIn x))) = true := by
      have := steps_lay (TL.spl [59, 32] 0 [] t)
      simp only [cmpV, lay, dep, this.1, Bool.true_and]
      simp; omega
    have hin : ∀ x ∈ TL.spl [59, 32] 0 [] t, textOk x := fun x hx => parts_textOk ok hx
    have hlw := hw.1
    generalize TL.spl [59, 32] 0 [] t = L at hQ hw hcmp hin hlw ⊢
    refine lc_map0 (f := Val.str) (fun x : Text => oV? (stepIn x)) (by simp) _ ?_ (by simp; omega) ?_
    · intro x hx P hP
      simp [h1]
      exact x_step_in (hin x hx) hP
    · simp
      refine x_notinL (by decide) hcmp ?_
      rw [steps_none]
      cases hs : allSteps L with
      | none =>
        rw [hs] at hQ
        simp
        exact .inl hQ
      | some vs =>
        rw [hs] at hQ
        rw [steps_at hs]
        simp
        exact .inl hQ
/-! ### readers -/
def fs_check_shown : FS := fun args m Q _ => ∃ v w, args = [v, w] ∧ isNon v = false ∧ Q .non m
theorem m_check_shown {F : Nat → FS} : Meets F 2 b_check_shown fs_check_shown := by
  refine Meets.x ?_
  rintro args m Q R hm ha ⟨v, w, rfl, hv, hQ⟩
  unfold b_check_shown
  simp [hv]
  exact .inl hQ
theorem x_check_shown {v w : Val} {m : Store} {Q : Val → Store → Prop} {R : Rq} {tk : Tok Q} {uk : Tok R} (h : isNon v = false) (q : Q .non m) : callF fs_check_shown [v, w] m Q R tk uk := ⟨v, w, rfl, h, q⟩
def fs_read_question : FS := fun args m Q _ => ∃ (t : Text) (v : Val), args = [.str t] ∧ textOk t ∧ questionOf t = some v ∧ isNon v = false ∧ Q v m
theorem x_read_question {t : Text} {v : Val} {m : Store} {Q : Val → Store → Prop} {R : Rq} {tk : Tok Q} {uk : Tok R} (h : textOk t) (h1 : questionOf t = some v) (h2 : isNon v = false) (q : Q v m) : callF fs_read_question [.str t] m Q R tk uk := ⟨_, _, rfl, h, h1, h2, q⟩
theorem m_read_question {F : Nat → FS} (h1 : F i_question_of = fs_question_of) (h2 : F i_check_shown = fs_check_shown) : Meets F 2 b_read_question fs_read_question := by
  refine Meets.x ?_
  rintro args m Q R hm ha ⟨t, v, rfl, ok, e, hv, hQ⟩
  unfold b_read_question
  simp [h1]
  refine x_question_of ok ?_
  rw [e]
  simp [h2]
  refine x_check_shown hv ?_
  simp
  exact .inl hQ
def fs_read_run : FS := fun args m Q _ => ∃ (t : Text) (v : Val), args = [.str t] ∧ textOk t ∧ runIn t = some v ∧ isNon v = false ∧ Q v m
theorem x_read_run {t : Text} {v : Val} {m : Store} {Q : Val → Store → Prop} {R : Rq} {tk : Tok Q} {uk : Tok R} (h : textOk t) (h1 : runIn t = some v) (h2 : isNon v = false) (q : Q v m) : callF fs_read_run [.str t] m Q R tk uk := ⟨_, _, rfl, h, h1, h2, q⟩
theorem m_read_run {F : Nat → FS} (h1 : F i_run_in = fs_run_in) (h2 : F i_check_shown = fs_check_shown) : Meets F 2 b_read_run fs_read_run := by
  refine Meets.x ?_
  rintro args m Q R hm ha ⟨t, v, rfl, ok, e, hv, hQ⟩
  unfold b_read_run
  simp [h1]
  refine x_run_in ok ?_
  rw [e]
  simp [h2]
  refine x_check_shown hv ?_
  simp
  exact .inl hQ
end LR

/-! questions by their form: their values, words and texts -/
namespace LR
open PySem L2 Dy
theorem num_all : ∀ n : Nat, n < 1000 → numT? (TL.numL n) = some n ∧ (1 ≤ (TL.numL n).length ∧ (TL.numL n).length ≤ 3) ∧ ∀ c ∈ TL.numL n, 48 ≤ c ∧ c ≤ 57 := by decide +kernel
theorem numT_nat (n : Nat) : numT (n : Int) = TL.numL n := by
  show TL.tl (Str.ofString (toString (n : Int))) = TL.numL n
  exact TL.tl_num n
theorem nat_log {n : Nat} (h : n < 1000) : n.log2 < 1920 := by
  by_cases z : n = 0
  · subst z; decide
  · exact (Nat.log2_lt z).mpr (Nat.lt_trans h (by
      calc (1000 : Nat) < 2 ^ 10 := by decide
        _ ≤ 2 ^ 1920 := Nat.pow_le_pow_right (by decide) (by decide)))
/-- a part of a fact -/
inductive PV where
  | non
  | name (t : Text)
  | num (n : Nat)
def PV.val : PV → Val
  | .non => .non
  | .name t => .str t
  | .num n => .int (n : Nat)
def PV.word : PV → Text
  | .non => [45]
  | .name t => t
  | .num n => TL.numL n
def PV.ok : PV → Prop
  | .non => True
  | .name t => NameOk t
  | .num n => n < 1000
def PV.fits (f : Text) (p : PV) : Prop := (f = W_number ∧ ∃ n, p = .num n) ∨ (f = W_perhaps ∧ (p = .non ∨ ∃ t, p = .name t)) ∨ (f = W_name ∧ ∃ t, p = .name t)
theorem name_no {t : Text} (h : NameOk t) {c : Nat} (hc : c < 97 ∨ 122 < c) : c ∉ t := fun z => by
  have := letters_small (h.2.2 c z)
  omega
theorem part_reads {f : Text} {p : PV} (ok : p.ok) (h : p.fits f) : partIn f p.word = some p.val := by
  rcases h with ⟨rfl, n, rfl⟩ | ⟨rfl, rfl | ⟨t, rfl⟩⟩ | ⟨rfl, t, rfl⟩
  · show partIn W_number (TL.numL n) = some (.int (n : Int))
    unfold partIn
    rw [if_pos rfl, (num_all n ok).1]
    rfl
  · rfl
  · have ht : NameOk t := ok
    have h1 : t ≠ [45] := fun z => name_no ht (c := 45) (by decide) (by rw [z]; simp)
    show partIn W_perhaps t = some (.str t)
    unfold partIn
    rw [if_neg (by decide), if_neg (fun z => h1 z.2), if_pos ht.nameT]
  · have ht : NameOk t := ok
    show partIn W_name t = some (.str t)
    unfold partIn
    rw [if_neg (by decide), if_neg (fun z => absurd z.1 (by decide)), if_pos ht.nameT]
theorem PV.word_ok {p : PV} (ok : p.ok) : 1 ≤ p.word.length ∧ p.word.length ≤ 8 ∧ ∀ c ∈ p.word, 45 ≤ c ∧ c ≤ 122 ∧ c ≠ 59 := by
  cases p with
  | non => exact ⟨by decide, by decide, by decide⟩
  | name t =>
    have ht : NameOk t := ok
    exact ⟨ht.1, ht.2.1, fun c hc => by have := letters_small (ht.2.2 c hc); omega⟩
  | num n =>
    obtain ⟨_, ⟨h1, h2⟩, h3⟩ := num_all n ok
    exact ⟨h1, by show (TL.numL n).length ≤ 8; omega, fun c hc => by have := h3 c hc; omega⟩
/-! ### questions -/
inductive Qu where
  | fact (w : Text) (ps : List PV)
  | neg (q : Qu)
  | join (b : Bool) (qs : List Qu)
def jw : Bool → Text
  | false => W_and
  | true => W_or
mutual
def Qu.val : Qu → Val
  | .fact w ps => .tup (.str w :: ps.map PV.val)
  | .neg q => .tup [.str W_not, q.val]
  | .join b qs => .tup (.str (jw b) :: Qu.vals qs)
def Qu.vals : List Qu → List Val
  | [] => []
  | q :: r => q.val :: Qu.vals r
end
mutual
def Qu.words : Qu → List Text
  | .fact w ps => w :: ps.map PV.word
  | .neg q => W_not :: q.words
  | .join b qs => jw b :: TL.numL qs.length :: Qu.wordss qs
def Qu.wordss : List Qu → List Text
  | [] => []
  | q :: r => q.words ++ Qu.wordss r
end
mutual
def Qu.facts : Qu → Nat
  | .fact _ _ => 1
  | .neg q => q.facts
  | .join _ qs => Qu.factss qs
def Qu.factss : List Qu → Nat
  | [] => 0
  | q :: r => q.facts + Qu.factss r
end
mutual
def Qu.ok : Nat → Qu → Prop
  | _, .fact w ps => (formsOf w).length = ps.length ∧ ps ≠ [] ∧ w.length ≤ 8 ∧ (∀ c ∈ w, 97 ≤ c ∧ c ≤ 122) ∧ w ≠ [] ∧ ∀ p ∈ (formsOf w).zip ps, p.2.ok ∧ p.2.fits p.1
  | 0, .neg _ => False
  | d + 1, .neg q => Qu.ok d q
  | 0, .join _ _ => False
  | d + 1, .join _ qs => 2 ≤ qs.length ∧ qs.length ≤ 4 ∧ Qu.oks d qs
def Qu.oks : Nat → List Qu → Prop
  | _, [] => True
  | d, q :: r => Qu.ok d q ∧ Qu.oks d r
end
def Qu.text (q : Qu) : Text := TL.joinL [32] q.words
theorem Qu.oks_mem {d : Nat} : ∀ {qs : List Qu}, Qu.oks d qs → ∀ q ∈ qs, Qu.ok d q
  | [], _, q, h => by cases h
  | p :: r, h, q, hq => by
    simp only [Qu.oks] at h
    rcases List.mem_cons.mp hq with rfl | hq
    · exact h.1
    · exact Qu.oks_mem h.2 q hq
theorem Qu.vals_map : ∀ qs : List Qu, Qu.vals qs = qs.map Qu.val
  | [] => rfl
  | q :: r => by simp [Qu.vals, Qu.vals_map r]
theorem Qu.wordss_flat : ∀ qs : List Qu, Qu.wordss qs = (qs.map Qu.words).flatten
  | [] => rfl
  | q :: r => by simp [Qu.wordss, Qu.wordss_flat r]
theorem fact_read {w : Text} {ps : List PV} {rest : List Text} (hl : (formsOf w).length = ps.length) (hne : ps ≠ []) (h : ∀ p ∈ (formsOf w).zip ps, p.2.ok ∧ p.2.fits p.1) : factIn w (ps.map PV.word ++ rest) = some (.tup (.str w :: ps.map PV.val), ps.length + 1) := by
  unfold factIn
  have h0 : formsOf w ≠ [] := fun z => by rw [z] at hl; cases ps with | nil => exact hne rfl | cons _ _ => simp at hl
  rw [if_neg (by simp [h0]; omega)]
  have key : ∀ (fs : List Text) (ps : List PV), fs.length = ps.length → (∀ p ∈ fs.zip ps, p.2.ok ∧ p.2.fits p.1) → allSome ((fs.zip (ps.map PV.word ++ rest)).map fun p => partIn p.1 p.2) = some (ps.map PV.val) := by
    intro fs
    induction fs with
    | nil => intro ps hl _; cases ps with | nil => rfl | cons _ _ => simp at hl
    | cons f fs ih =>
      intro ps hl h
      cases ps with
      | nil => simp at hl
      | cons p ps =>
        have h1 := h (f, p) (by simp)
        simp only [List.map_cons, List.cons_append, List.zip_cons_cons]
        rw [part_reads h1.1 h1.2]
        simp only [allSome]
        rw [ih ps (by simpa using hl) fun q hq => h q (by simp [hq])]
        rfl
  rw [key _ _ hl h, hl]
  rfl
theorem formsJoint : formsOf W_not = [] ∧ formsOf W_and = [] ∧ formsOf W_or = [] := by decide
theorem not_joint {w : Text} (h : formsOf w ≠ []) : ¬ (w = W_not ∨ w = W_and ∨ w = W_or) := by
  rintro (rfl | rfl | rfl)
  · exact h formsJoint.1
  · exact h formsJoint.2.1
  · exact h formsJoint.2.2
theorem forms_ne {w : Text} {ps : List PV} (hl : (formsOf w).length = ps.length) (hne : ps ≠ []) : formsOf w ≠ [] := fun z => by
  rw [z] at hl; cases ps with | nil => exact hne rfl | cons _ _ => simp at hl
mutual
/-- what is written is read back -/
theorem q_reads : ∀ (d : Nat) (q : Qu) (rest : List Text), Qu.ok d q → questionIn d (q.words ++ rest) = some (q.val, q.words.length, q.facts)
  | d, .fact w ps, rest, ok => by
    simp only [Qu.ok] at ok
    obtain ⟨hl, hne, _, _, _, h⟩ := ok
    have e : questionIn d ((Qu.fact w ps).words ++ rest) = (factIn w (ps.map PV.word ++ rest)).map fun p => (p.1, p.2, 1) := by
      cases d <;> exact if_pos (not_joint (forms_ne hl hne))
    rw [e, fact_read hl hne h]
    simp [Qu.val, Qu.words, Qu.facts]
  | 0, .neg q, rest, ok => by simp [Qu.ok] at ok
  | d + 1, .neg q, rest, ok => by
    simp only [Qu.ok] at ok
    have e : questionIn (d + 1) ((Qu.neg q).words ++ rest) = (qLoop (questionIn d) (W_not :: (q.words ++ rest)) 1 [] 1 0).map fun p => (.tup (.str W_not :: p.1), p.2.1, p.2.2) := rfl
    rw [e]
    simp only [qLoop, List.drop_succ_cons, List.drop_zero]
    rw [q_reads d q rest ok]
    simp [Qu.val, Qu.words, Qu.facts, Nat.add_comm]
  | 0, .join b qs, rest, ok => by simp [Qu.ok] at ok
  | d + 1, .join b qs, rest, ok => by
    simp only [Qu.ok] at ok
    obtain ⟨h1, h2, h3⟩ := ok
    have hn := (num_all qs.length (by omega)).1
    have e : questionIn (d + 1) ((Qu.join b qs).words ++ rest) = (qLoop (questionIn d) (jw b :: TL.numL qs.length :: (Qu.wordss qs ++ rest)) qs.length [] 2 0).map fun p => (.tup (.str (jw b) :: p.1), p.2.1, p.2.2) := by
      have hu : qUsed (jw b) = 2 := by cases b <;> decide
      have hm : qMany (jw b) (TL.numL qs.length :: (Qu.wordss qs ++ rest)) = some qs.length := by
        have : qMany (jw b) (TL.numL qs.length :: (Qu.wordss qs ++ rest)) = numT? (TL.numL qs.length) := by cases b <;> rfl
        rw [this, hn]
      have hj : ¬ ¬ (jw b = W_not ∨ jw b = W_and ∨ jw b = W_or) := by cases b <;> decide
      show qStep (some (questionIn d)) (jw b :: TL.numL qs.length :: (Qu.wordss qs ++ rest)) = _
      simp only [qStep]
      rw [if_neg hj, hm, hu]
      simp only
      rw [if_neg (by omega)]
    rw [e, qs_reads d qs _ rest [] 2 0 h3 rfl]
    simp [Qu.val, Qu.words, Qu.facts]
    omega
theorem qs_reads : ∀ (d : Nat) (qs : List Qu) (ws rest : List Text) (ps : List Val) (used facts : Nat), Qu.oks d qs → ws.drop used = Qu.wordss qs ++ rest →
    qLoop (questionIn d) ws qs.length ps used facts = some (ps ++ Qu.vals qs, used + (Qu.wordss qs).length, facts + Qu.factss qs)
  | d, [], ws, rest, ps, used, facts, ok, e => by simp [qLoop, Qu.vals, Qu.wordss, Qu.factss]
  | d, q :: r, ws, rest, ps, used, facts, ok, e => by
    simp only [Qu.oks] at ok
    simp only [List.length_cons, qLoop]
    rw [e]
    simp only [Qu.wordss, List.append_assoc]
    rw [q_reads d q (Qu.wordss r ++ rest) ok.1]
    simp only
    rw [qs_reads d r ws rest (ps ++ [q.val]) (used + q.words.length) (facts + q.facts) ok.2 ?_]
    · simp [Qu.vals, Qu.factss, Nat.add_assoc]
    · rw [← List.drop_drop, e]
      simp [Qu.wordss]
end
end LR

/-! questions by their form: bounds, and their texts written -/
namespace LR
open PySem L2 Dy
def goodWord (x : Text) : Prop := 1 ≤ x.length ∧ x.length ≤ 8 ∧ ∀ c ∈ x, 45 ≤ c ∧ c ≤ 122 ∧ c ≠ 59
theorem jw_good (b : Bool) : goodWord (jw b) := by cases b <;> exact ⟨by decide, by decide, by decide⟩
theorem num_good {n : Nat} (h : n < 1000) : goodWord (TL.numL n) := PV.word_ok (p := .num n) h
mutual
theorem words_good : ∀ {d : Nat} {q : Qu}, Qu.ok d q → ∀ x ∈ q.words, goodWord x
  | d, .fact w ps, ok, x, hx => by
    simp only [Qu.ok] at ok
    obtain ⟨hl, hne, h8, hc, hw, h⟩ := ok
    simp only [Qu.words, List.mem_cons, List.mem_map] at hx
    rcases hx with rfl | ⟨p, hp, rfl⟩
    · exact ⟨List.length_pos_iff.mpr hw, h8, fun c z => by have := hc c z; omega⟩
    · have : ∃ f, (f, p) ∈ (formsOf w).zip ps := by
        obtain ⟨i, hi, e⟩ := List.mem_iff_getElem.mp hp
        refine ⟨(formsOf w)[i]'(by rw [hl]; exact hi), ?_⟩
        rw [List.mem_iff_getElem]
        exact ⟨i, by simp [hl]; exact hi, by simp [e]⟩
      obtain ⟨f, hf⟩ := this
      exact PV.word_ok (h _ hf).1
  | 0, .neg q, ok, _, _ => by simp [Qu.ok] at ok
  | d + 1, .neg q, ok, x, hx => by
    simp only [Qu.ok] at ok
    simp only [Qu.words, List.mem_cons] at hx
    rcases hx with rfl | hx
    · exact ⟨by decide, by decide, by decide⟩
    · exact words_good ok x hx
  | 0, .join b qs, ok, _, _ => by simp [Qu.ok] at ok
  | d + 1, .join b qs, ok, x, hx => by
    simp only [Qu.ok] at ok
    simp only [Qu.words, List.mem_cons] at hx
    rcases hx with rfl | rfl | hx
    · exact jw_good b
    · exact num_good (by omega)
    · exact wordss_good ok.2.2 x hx
theorem wordss_good : ∀ {d : Nat} {qs : List Qu}, Qu.oks d qs → ∀ x ∈ Qu.wordss qs, goodWord x
  | d, [], _, _, hx => by cases hx
  | d, q :: r, ok, x, hx => by
    simp only [Qu.oks] at ok
    simp only [Qu.wordss, List.mem_append] at hx
    rcases hx with hx | hx
    · exact words_good ok.1 x hx
    · exact wordss_good ok.2 x hx
end
mutual
theorem words_few : ∀ {d : Nat} {q : Qu}, Qu.ok d q → q.words.length ≤ q.facts * (3 + 2 * d) ∧ 1 ≤ q.facts ∧ q.words ≠ []
  | d, .fact w ps, ok => by
    simp only [Qu.ok] at ok
    obtain ⟨hl, hne, _⟩ := ok
    have := forms_few w
    simp only [Qu.words, Qu.facts, List.length_cons, List.length_map]
    exact ⟨by omega, by omega, by simp⟩
  | 0, .neg q, ok => by simp [Qu.ok] at ok
  | d + 1, .neg q, ok => by
    simp only [Qu.ok] at ok
    obtain ⟨h1, h2, _⟩ := words_few ok
    simp only [Qu.words, Qu.facts, List.length_cons]
    refine ⟨?_, h2, by simp⟩
    have e : q.facts * (3 + 2 * (d + 1)) = q.facts * (3 + 2 * d) + q.facts * 2 := by rw [show 3 + 2 * (d + 1) = (3 + 2 * d) + 2 by omega, Nat.mul_add]
    omega
  | 0, .join b qs, ok => by simp [Qu.ok] at ok
  | d + 1, .join b qs, ok => by
    simp only [Qu.ok] at ok
    obtain ⟨h1, h2⟩ := wordss_few ok.2.2
    have := ok.1
    simp only [Qu.words, Qu.facts, List.length_cons]
    refine ⟨?_, by omega, by simp⟩
    have e : Qu.factss qs * (3 + 2 * (d + 1)) = Qu.factss qs * (3 + 2 * d) + Qu.factss qs * 2 := by rw [show 3 + 2 * (d + 1) = (3 + 2 * d) + 2 by omega, Nat.mul_add]
    omega
theorem wordss_few : ∀ {d : Nat} {qs : List Qu}, Qu.oks d qs → (Qu.wordss qs).length ≤ Qu.factss qs * (3 + 2 * d) ∧ qs.length ≤ Qu.factss qs
  | d, [], _ => by simp [Qu.wordss, Qu.factss]
  | d, q :: r, ok => by
    simp only [Qu.oks] at ok
    obtain ⟨h1, h2, _⟩ := words_few ok.1
    obtain ⟨h3, h4⟩ := wordss_few ok.2
    simp only [Qu.wordss, Qu.factss, List.length_append, List.length_cons, Nat.add_mul]
    omega
end
theorem joinL_le {S : List Nat} {n : Nat} : ∀ {ps : List (List Nat)}, (∀ p ∈ ps, List.length p ≤ n) → (TL.joinL S ps).length ≤ ps.length * (n + S.length)
  | [], _ => by simp [TL.joinL]
  | [p], h => by
    have := h p (by simp)
    simp [TL.joinL]; omega
  | p :: q :: r, h => by
    have h1 := h p (by simp)
    have h2 := joinL_le (S := S) (ps := q :: r) fun z hz => h z (List.mem_cons_of_mem _ hz)
    have e : TL.joinL S (p :: q :: r) = p ++ (S ++ TL.joinL S (q :: r)) := rfl
    rw [e]
    simp only [List.length_append, List.length_cons, Nat.add_mul, Nat.one_mul] at h2 ⊢
    omega
theorem joinL_mem {S : List Nat} {P : Nat → Prop} (hs : ∀ c ∈ S, P c) : ∀ {ps : List (List Nat)}, (∀ p ∈ ps, ∀ c ∈ p, P c) → ∀ c ∈ TL.joinL S ps, P c
  | [], _, c, hc => by cases hc
  | [p], h, c, hc => h p (by simp) c hc
  | p :: q :: r, h, c, hc => by
    have e : TL.joinL S (p :: q :: r) = p ++ (S ++ TL.joinL S (q :: r)) := rfl
    rw [e] at hc
    rcases List.mem_append.mp hc with hc | hc
    · exact h p (by simp) c hc
    · rcases List.mem_append.mp hc with hc | hc
      · exact hs c hc
      · exact joinL_mem hs (fun z hz => h z (List.mem_cons_of_mem _ hz)) c hc
theorem signs_of {t : Text} (h : ∀ c ∈ t, c ≤ 122) : signs t = true := by
  unfold signs
  rw [List.all_eq_true]
  intro c hc
  have := h c hc
  simp; omega
/-- short enough -/
def Qu.fine (d : Nat) (q : Qu) : Prop := Qu.ok d q ∧ d ≤ 4 ∧ q.facts ≤ 4
theorem Qu.fine.few {d : Nat} {q : Qu} (h : q.fine d) : q.words.length ≤ 44 := by
  obtain ⟨h1, h2, h3⟩ := h
  have := (words_few h1).1
  have h5 : q.facts * (3 + 2 * d) ≤ 4 * 11 := Nat.mul_le_mul h3 (by omega)
  omega
theorem Qu.fine.textOk {d : Nat} {q : Qu} (h : q.fine d) : LR.textOk q.text ∧ q.text.length ≤ 396 ∧ ∀ c ∈ q.text, 32 ≤ c ∧ c ≤ 122 := by
  have hg := words_good h.1
  have h1 : q.text.length ≤ q.words.length * (8 + 1) := joinL_le (S := [32]) fun p hp => (hg p hp).2.1
  have h2 := h.few
  have h3 : ∀ c ∈ q.text, 32 ≤ c ∧ c ≤ 122 := joinL_mem (by simp) fun p hp c hc => by have := (hg p hp).2.2 c hc; omega
  exact ⟨⟨by omega, signs_of fun c hc => (h3 c hc).2⟩, by omega, h3⟩
theorem Qu.fine.split {d : Nat} {q : Qu} (h : q.fine d) : TL.spl [32] 0 [] q.text = q.words :=
  SX.spl_join (c := 32) (sep := []) (words_few h.1).2.2 fun p hp z => by have := (words_good h.1 p hp).2.2 32 z; omega
theorem Qu.fine.reads {q : Qu} (h : q.fine 4) : questionOf q.text = some q.val := by
  unfold questionOf
  have := q_reads 4 q [] h.1
  rw [List.append_nil] at this
  rw [h.split, this]
  simp only
  rw [if_neg (by have := h.2.2; simp; omega)]
/-! ### show_question -/
def fs_shown_part : FS := fun args m Q _ => ∃ p : PV, p.ok ∧ args = [p.val] ∧ Q (.str p.word) m
theorem x_shown_part {p : PV} {m : Store} {Q : Val → Store → Prop} {R : Rq} {tk : Tok Q} {uk : Tok R} (h : p.ok) (q : Q (.str p.word) m) : callF fs_shown_part [p.val] m Q R tk uk := ⟨p, h, rfl, q⟩
theorem m_shown_part {F : Nat → FS} : Meets F 1 b_shown_part fs_shown_part := by
  refine Meets.x ?_
  rintro args m Q R hm ha ⟨p, ok, rfl, hQ⟩
  unfold b_shown_part
  cases p with
  | non => simp [PV.val, PV.word] at hQ ⊢; exact .inl hQ
  | name t => simp [PV.val, PV.word] at hQ ⊢; exact .inl hQ
  | num n =>
    have := nat_log (n := n) ok
    simp [PV.val, PV.word, this, numT_nat] at hQ ⊢
    exact .inl hQ
theorem joinL_cons {S p : List Nat} {ps : List (List Nat)} (h : ps ≠ []) : TL.joinL S (p :: ps) = p ++ (S ++ TL.joinL S ps) := by
  cases ps with
  | nil => exact absurd rfl h
  | cons q r => rfl
theorem joinL_app {S : List Nat} : ∀ {a b : List (List Nat)}, a ≠ [] → b ≠ [] → TL.joinL S (a ++ b) = TL.joinL S a ++ (S ++ TL.joinL S b)
  | [], b, h, _ => absurd rfl h
  | [p], b, _, hb => joinL_cons hb
  | p :: q :: r, b, _, hb => by
    have e : (p :: q :: r) ++ b = p :: ((q :: r) ++ b) := rfl
    rw [e, joinL_cons (by simp), joinL_app (by simp) hb, joinL_cons (S := S) (p := p) (ps := q :: r) (by simp)]
    simp
theorem joinL_flat {S : List Nat} : ∀ {ls : List (List (List Nat))}, (∀ l ∈ ls, l ≠ []) → TL.joinL S (ls.map (TL.joinL S)) = TL.joinL S ls.flatten
  | [], _ => rfl
  | [l], _ => by simp [TL.joinL]
  | l :: l' :: r, h => by
    have ih := joinL_flat (S := S) (ls := l' :: r) fun z hz => h z (List.mem_cons_of_mem _ hz)
    have hn : (l' :: r).flatten ≠ [] := by
      have := h l' (by simp)
      simp [this]
    rw [List.map_cons, joinL_cons (by simp), ih, show (l :: l' :: r).flatten = l ++ (l' :: r).flatten from rfl, joinL_app (h l (by simp)) hn]
theorem join_text (b : Bool) {d : Nat} {qs : List Qu} (h : Qu.oks d qs) (h0 : qs ≠ []) : TL.joinL [32] (jw b :: TL.numL qs.length :: qs.map Qu.text) = (Qu.join b qs).text := by
  have hw : ∀ l ∈ qs.map Qu.words, l ≠ [] := by
    intro l hl
    obtain ⟨q, hq, rfl⟩ := List.mem_map.mp hl
    exact (words_few (Qu.oks_mem h q hq)).2.2
  have e : qs.map Qu.text = (qs.map Qu.words).map (TL.joinL [32]) := by rw [List.map_map]; rfl
  have hn : Qu.wordss qs ≠ [] := by
    rw [Qu.wordss_flat]
    cases qs with
    | nil => exact absurd rfl h0
    | cons q r => simp [hw q.words (by simp)]
  unfold Qu.text
  simp only [Qu.words]
  have hm : qs.map Qu.text ≠ [] := by simpa using h0
  show TL.joinL [32] (jw b :: TL.numL qs.length :: qs.map Qu.text) = _
  rw [joinL_cons (by simp), joinL_cons hm, e, joinL_flat hw, ← Qu.wordss_flat, joinL_cons (S := [32]) (p := jw b) (by simp), joinL_cons (S := [32]) hn]
def fs_show_question (d : Nat) : FS := fun args m Q _ => ∃ q : Qu, q.fine d ∧ args = [q.val] ∧ Q (.str q.text) m
theorem x_show_question {d : Nat} {q : Qu} {m : Store} {Q : Val → Store → Prop} {R : Rq} {tk : Tok Q} {uk : Tok R} (h : q.fine d) (k : Q (.str q.text) m) : callF (fs_show_question d) [q.val] m Q R tk uk := ⟨q, h, rfl, k⟩
theorem Qu.fine.neg {d : Nat} {q : Qu} (h : (Qu.neg q).fine (d + 1)) : q.fine d := ⟨by simpa only [Qu.ok] using h.1, by have := h.2.1; omega, by simpa only [Qu.facts] using h.2.2⟩
theorem factss_mem : ∀ {qs : List Qu} {q : Qu}, q ∈ qs → q.facts ≤ Qu.factss qs
  | p :: r, q, h => by
    simp only [Qu.factss]
    rcases List.mem_cons.mp h with rfl | h
    · omega
    · have := factss_mem h; omega
theorem Qu.fine.join {d : Nat} {b : Bool} {qs : List Qu} (h : (Qu.join b qs).fine (d + 1)) : ∀ q ∈ qs, q.fine d := fun q hq => by
  obtain ⟨h1, h2, h3⟩ := h
  simp only [Qu.ok] at h1
  simp only [Qu.facts] at h3
  exact ⟨Qu.oks_mem h1.2.2 q hq, by omega, by have := factss_mem hq; omega⟩
theorem sum_le {α : Type} {f : α → Nat} {n : Nat} : ∀ {l : List α}, (∀ x ∈ l, f x ≤ n) → (l.map f).sum ≤ l.length * n
  | [], _ => by simp
  | x :: l, h => by
    have h1 := h x (by simp)
    have h2 := sum_le (l := l) fun y hy => h y (List.mem_cons_of_mem _ hy)
    simp only [List.map_cons, List.sum_cons, List.length_cons, Nat.add_mul, Nat.one_mul]
    omega
/-- a join of a few short texts -/
theorem x_joinS {a : Text} {o : Bool} {vs : List Val} {m : Store} {Q : Val → Store → Prop} {tk : Tok Q} (ts : List Text) (e : vs = ts.map .str) (ha : a.length ≤ 10) (hn : ts.length ≤ 1000) (h : ∀ t ∈ ts, t.length ≤ 1000) (q : Q (.str (TL.joinL a ts)) m) : mtX .join (.str a) [.il o vs] m Q tk := by
  refine x_join ts e ?_ q
  have h1 : (ts.map fun x => List.length x).sum ≤ ts.length * 1000 := sum_le h
  have h2 : ts.length * a.length ≤ 1000 * 10 := Nat.mul_le_mul hn ha
  have h3 : ts.length * 1000 ≤ 1000 * 1000 := Nat.mul_le_mul hn (Nat.le_refl _)
  omega
theorem word_no {w : Text} {ps : List PV} {d : Nat} (ok : Qu.ok d (.fact w ps)) : w ≠ W_not ∧ w ≠ W_and ∧ w ≠ W_or := by
  simp only [Qu.ok] at ok
  have := not_joint (forms_ne ok.1 ok.2.1)
  simpa only [not_or] using this
theorem jw_no (b : Bool) : jw b ≠ W_not := by cases b <;> decide
theorem jw_in (b : Bool) : ([Val.str W_and, Val.str W_or].any fun z => veqv z (.str (jw b))) = true := by cases b <;> decide
theorem PV.ok_of {w : Text} {ps : List PV} {d : Nat} (ok : Qu.ok d (.fact w ps)) : ∀ p ∈ ps, p.ok := by
  simp only [Qu.ok] at ok
  obtain ⟨hl, hne, _, _, _, h⟩ := ok
  intro p hp
  obtain ⟨i, hi, e⟩ := List.mem_iff_getElem.mp hp
  exact (h ((formsOf w)[i]'(by rw [hl]; exact hi), p) (List.mem_iff_getElem.mpr ⟨i, by simp [hl]; exact hi, by simp [e]⟩)).1
theorem m_show_question (d : Nat) {F : Nat → FS} (h1 : F i_shown_part = fs_shown_part) (h2 : F i_show_question = prevF fs_show_question d) : Meets F 4 b_show_question (fs_show_question d) := by
  refine Meets.x ?_
  rintro args m Q R hm ha ⟨q, ok, rfl, hQ⟩
  unfold b_show_question
  cases q with
  | fact w ps =>
    obtain ⟨n1, n2, n3⟩ := word_no ok.1
    have hp := PV.ok_of ok.1
    have hg := words_good ok.1
    have hf : ps.length ≤ 2 := by
      have := ok.1
      simp only [Qu.ok] at this
      have := forms_few w
      omega
    simp [Qu.val, n1, Ne.symm n2, Ne.symm n3]
    refine lc_map0 (f := PV.val) (fun p : PV => .str p.word) (by simp) _ ?_ (by simp; omega) ?_
    · intro p h P hP
      simp [h1]
      exact x_shown_part (hp p h) hP
    · simp
      refine ⟨by omega, ?_⟩
      refine x_joinS (w :: ps.map PV.word) (by simp) (by simp) (by simp; omega) (fun t ht => ?_) (.inl hQ)
      have := (hg t (by simpa [Qu.words] using ht)).2.1
      omega
  | neg q =>
    cases d with
    | zero => have := ok.1; simp [Qu.ok] at this
    | succ d =>
      have ok' := ok.neg
      simp only [prevF] at h2
      simp [Qu.val, h2]
      refine x_show_question ok' ?_
      simp
      have hl := ok'.textOk.2.1
      refine x_joinS [W_not, q.text] rfl (by simp) (by simp) (fun t ht => ?_) (.inl ?_)
      · simp at ht
        rcases ht with rfl | rfl
        · decide
        · omega
      · have e : (Qu.neg q).text = TL.joinL [32] [W_not, q.text] := by
          unfold Qu.text
          simp only [Qu.words]
          rw [joinL_cons (words_few ok'.1).2.2]
          rfl
        rw [← e]
        exact hQ
  | join b qs =>
    cases d with
    | zero => have := ok.1; simp [Qu.ok] at this
    | succ d =>
      have ok' := ok.join
      have oks := ok.1
      simp only [Qu.ok] at oks
      obtain ⟨g1, g2, g3⟩ := oks
      simp only [prevF] at h2
      have hlog := nat_log (n := qs.length) (by omega)
      simp [Qu.val, h2, Qu.vals_map, jw_no b, jw_in b, hlog, numT_nat, -List.any_cons]
      refine lc_map0 (f := Qu.val) (fun q : Qu => .str q.text) (by simp) _ ?_ (by simp; omega) ?_
      · intro q hq P hP
        simp [h2]
        exact x_show_question (ok' q hq) hP
      · simp
        refine ⟨by omega, ?_⟩
        refine x_joinS (jw b :: TL.numL qs.length :: qs.map Qu.text) (by simp [numT_nat]) (by simp) (by simp; omega) (fun t ht => ?_) (.inl ?_)
        · simp at ht
          rcases ht with rfl | rfl | ⟨q, hq, rfl⟩
          · have := (jw_good b).2.1; omega
          · have := (num_good (n := qs.length) (by omega)).2.1; omega
          · have := (ok' q hq).textOk.2.1; omega
        · rw [join_text b g3 (by intro z; subst z; simp at g1)]
          exact hQ
end LR

/-! the law's draws: names and counts -/
namespace LR
open PySem L2 Dy
theorem m_law_pot {F : Nat → FS} : Meets F 5 b_law_pot fsPot := pot_meets
theorem m_law_take {F : Nat → FS} : Meets F 5 b_law_take fsTake := take_meets
theorem m_law_of {F : Nat → FS} (h : F i_law_take = fsTake) : Meets F 2 b_law_of fsOf := of_meets h
def isName (v : Val) : Prop := ∃ t, NameOk t ∧ v = .str t
def fs_law_name : FS := fsDraw 10 isName
theorem x_name {m0 m : Store} {p K k : Nat} {a0 : Pot} {more : List Ob} {Q : Val → Store → Prop} {R : Rq} {tk : Tok Q} {uk : Tok R} (h : At m0 p a0 K k more m) (hj : k + 10 ≤ K) (q : ∀ t m', NameOk t → At m0 p a0 K (k + 10) more m' → Q (.str t) m') : callF fs_law_name [.loc p] m Q R tk uk :=
  x_draw h hj fun v m' ⟨t, e, ev⟩ ha => by rw [ev]; exact q t m' e ha
theorem strsOf {Post : Text → Prop} : ∀ {ws : List Val}, (∀ v ∈ ws, ∃ t, v = .str t ∧ Post t) → ∃ ts : List Text, ws = ts.map .str ∧ ∀ t ∈ ts, Post t
  | [], _ => ⟨[], rfl, by simp⟩
  | w :: ws, h => by
    obtain ⟨t, rfl, ht⟩ := h w (by simp)
    obtain ⟨ts, rfl, hts⟩ := strsOf fun v hv => h v (List.mem_cons_of_mem _ hv)
    exact ⟨t :: ts, rfl, by simpa using ⟨ht, hts⟩⟩
theorem letters_name : ∀ ts : List Text, (∀ t ∈ ts, ∃ c ∈ letters, t = [c]) → (TL.joinL [] ts).length = ts.length ∧ (∀ c ∈ TL.joinL [] ts, c ∈ letters) ∧ ∀ t ∈ ts, t.length ≤ 1000
  | [], _ => by simp [TL.joinL]
  | [t], h => by
    obtain ⟨c, hc, rfl⟩ := h t (by simp)
    simp [TL.joinL, hc]
  | t :: u :: r, h => by
    obtain ⟨c, hc, rfl⟩ := h t (by simp)
    obtain ⟨i1, i2, i3⟩ := letters_name (u :: r) fun z hz => h z (List.mem_cons_of_mem _ hz)
    have e : TL.joinL [] ([c] :: u :: r) = c :: TL.joinL [] (u :: r) := by simp [TL.joinL]
    rw [e]
    refine ⟨by rw [List.length_cons, i1]; rfl, ?_, ?_⟩
    · intro d hd
      rcases List.mem_cons.mp hd with rfl | hd
      · exact hc
      · exact i2 d hd
    · intro t ht
      rcases List.mem_cons.mp ht with rfl | ht
      · simp
      · exact i3 t ht
theorem m_law_name {F : Nat → FS} (h1 : F i_law_take = fsTake) (h2 : F i_law_of = fsOf) : Meets F 4 b_law_name fs_law_name := by
  refine Meets.x ?_
  rintro args m Q R hm ha ⟨p, rfl, a, hp, hQ⟩
  unfold b_law_name
  simp [h1]
  refine x_take (.start hp) (by omega) (by decide) (by decide) fun d m1 d0 d1 hA => ?_
  simp
  refine x_rng (by omega) (by omega) ?_
  refine lc_at0 1 (fun v => ∃ t, v = .str t ∧ ∃ c ∈ letters, t = [c]) (fun _ => it_rng (by omega) (by omega)) ?_ hA (by simp; omega) (by simp; omega) ?_
  · intro x m a P hA q
    simp [h2]
    refine x_of _ hA (by omega) rfl (by simp) (by simp) fun v m' hv hA' => q v m' ?_ hA'
    obtain ⟨c, hc, rfl⟩ := List.mem_map.mp hv
    exact ⟨_, rfl, c, hc, rfl⟩
  · intro ws m2 hl hw hA2
    obtain ⟨ts, rfl, hts⟩ := strsOf hw
    obtain ⟨i1, i2, i3⟩ := letters_name ts hts
    simp at hl
    simp only [xE_nil, asT_tup]
    refine x_joinS ts rfl (by simp) (by omega) i3 ?_
    have hn : NameOk (TL.joinL [] ts) := ⟨by omega, by omega, i2⟩
    generalize TL.joinL [] ts = t at hn ⊢
    simp [h2]
    refine x_of _ (hA2.mono (k' := 9) (by simp; omega) (by omega)) (by omega) rfl (by simp) (by simp) fun v m' hv hA' => ?_
    refine .inl (hA'.fin hQ ?_)
    simp at hv
    rcases hv with rfl | rfl | rfl | rfl | rfl | rfl | rfl | rfl
    · exact ⟨t, hn, rfl⟩
    all_goals exact ⟨_, ⟨by decide, by decide, by decide⟩, rfl⟩
def isCount (v : Val) : Prop := ∃ n : Nat, n < 1000 ∧ v = .int n
def fs_law_count : FS := fsDraw 2 isCount
theorem x_count {m0 m : Store} {p K k : Nat} {a0 : Pot} {more : List Ob} {Q : Val → Store → Prop} {R : Rq} {tk : Tok Q} {uk : Tok R} (h : At m0 p a0 K k more m) (hj : k + 2 ≤ K) (q : ∀ (n : Nat) m', n < 1000 → At m0 p a0 K (k + 2) more m' → Q (.int n) m') : callF fs_law_count [.loc p] m Q R tk uk :=
  x_draw h hj fun v m' ⟨n, e, ev⟩ ha => by rw [ev]; exact q n m' e ha
theorem m_law_count {F : Nat → FS} (h1 : F i_law_take = fsTake) (h2 : F i_law_of = fsOf) : Meets F 1 b_law_count fs_law_count := by
  refine Meets.x ?_
  rintro args m Q R hm ha ⟨p, rfl, a, hp, hQ⟩
  unfold b_law_count
  simp [h1]
  refine x_take (.start hp) (by omega) (by decide) (by decide) fun d m1 d0 d1 hA => ?_
  simp [h2]
  refine x_of _ hA (by omega) rfl (by simp) (by simp) fun v m' hv hA' => .inl (hA'.fin hQ ?_)
  simp at hv
  rcases hv with rfl | rfl | rfl | rfl | rfl | rfl
  · exact ⟨0, by decide, rfl⟩
  · exact ⟨1, by decide, rfl⟩
  · exact ⟨3, by decide, rfl⟩
  · exact ⟨10, by decide, rfl⟩
  · exact ⟨999, by decide, rfl⟩
  · exact ⟨d.toNat, by omega, by rw [Int.toNat_of_nonneg d0]⟩
end LR

/-! the law's questions -/
namespace LR
open PySem L2 Dy
theorem fact_ok2 {d : Nat} {w f1 f2 : Text} {p1 p2 : PV} (hf : formsOf w = [f1, f2]) (h8 : w.length ≤ 8 ∧ (∀ c ∈ w, 97 ≤ c ∧ c ≤ 122) ∧ w ≠ []) (h1 : p1.ok ∧ p1.fits f1) (h2 : p2.ok ∧ p2.fits f2) : Qu.ok d (.fact w [p1, p2]) := by
  simp only [Qu.ok]
  refine ⟨by rw [hf]; rfl, by simp, h8.1, h8.2.1, h8.2.2, ?_⟩
  rw [hf]
  intro p hp
  simp at hp
  rcases hp with rfl | rfl
  · exact h1
  · exact h2
theorem fact_ok1 {d : Nat} {w f1 : Text} {p1 : PV} (hf : formsOf w = [f1]) (h8 : w.length ≤ 8 ∧ (∀ c ∈ w, 97 ≤ c ∧ c ≤ 122) ∧ w ≠ []) (h1 : p1.ok ∧ p1.fits f1) : Qu.ok d (.fact w [p1]) := by
  simp only [Qu.ok]
  refine ⟨by rw [hf]; rfl, by simp, h8.1, h8.2.1, h8.2.2, ?_⟩
  rw [hf]
  intro p hp
  simp at hp
  subst hp
  exact h1
theorem fit_name {t : Text} (h : NameOk t) : (PV.name t).ok ∧ (PV.name t).fits W_name := ⟨h, .inr (.inr ⟨rfl, t, rfl⟩)⟩
theorem fit_num {n : Nat} (h : n < 1000) : (PV.num n).ok ∧ (PV.num n).fits W_number := ⟨h, .inl ⟨rfl, n, rfl⟩⟩
theorem fit_per {t : Text} (h : NameOk t) : (PV.name t).ok ∧ (PV.name t).fits W_perhaps := ⟨h, .inr (.inl ⟨rfl, .inr ⟨t, rfl⟩⟩)⟩
theorem fit_non : PV.non.ok ∧ PV.non.fits W_perhaps := ⟨trivial, .inr (.inl ⟨rfl, .inl rfl⟩)⟩
def isQ (d left : Nat) (v : Val) : Prop := ∃ q : Qu, Qu.ok d q ∧ q.facts ≤ left ∧ v = q.val
def fs_law_fact : FS := fsDraw 50 fun v => ∀ d, isQ d 1 v
theorem q_fact {d : Nat} {w : Text} {ps : List PV} {v : Val} (h : Qu.ok d (.fact w ps)) (e : v = (Qu.fact w ps).val) : isQ d 1 v := ⟨_, h, by simp [Qu.facts], e⟩
theorem m_law_fact {F : Nat → FS} (h1 : F i_law_of = fsOf) (h2 : F i_law_name = fs_law_name) (h3 : F i_law_count = fs_law_count) : Meets F 2 b_law_fact fs_law_fact := by
  refine Meets.x ?_
  rintro args m Q R hm ha ⟨p, rfl, a, hp, hQ⟩
  unfold b_law_fact
  simp [h1]
  refine x_of _ (.start hp) (by omega) rfl (by simp) (by simp) fun v m1 hv hA => ?_
  -- a name and a count
  have two : ∀ w : Text, formsOf w = [W_name, W_number] → (w.length ≤ 8 ∧ (∀ c ∈ w, 97 ≤ c ∧ c ≤ 122) ∧ w ≠ []) →
      xE F (.tup (.cons (.var 1) (.cons (.call i_law_name (.cons (.var 0) .nil)) (.cons (.call i_law_count (.cons (.var 0) .nil)) .nil)))) [some (.loc p), some (.str w)] m1 (Dy.ret m.length Q) (retX m.length R) := by
    intro w hf h8
    simp [h2]
    refine x_name hA (by omega) fun t m2 ht hA => ?_
    simp [h3]
    refine x_count hA (by omega) fun n m3 hn hA => ?_
    simp
    exact .inl (hA.fin hQ fun d => q_fact (fact_ok2 hf h8 (fit_name ht) (fit_num hn)) rfl)
  have per : ∀ w : Text, formsOf w = [W_name, W_perhaps] → (w.length ≤ 8 ∧ (∀ c ∈ w, 97 ≤ c ∧ c ≤ 122) ∧ w ≠ []) →
      xE F (.tup (.cons (.var 1) (.cons (.call i_law_name (.cons (.var 0) .nil)) (.cons (.call i_law_of (.cons (.var 0) (.cons (.lst false (.cons (.cst .non) (.cons (.call i_law_name (.cons (.var 0) .nil)) .nil))) .nil))) .nil)))) [some (.loc p), some (.str w)] m1 (Dy.ret m.length Q) (retX m.length R) := by
    intro w hf h8
    simp [h2]
    refine x_name hA (by omega) fun t m2 ht hA => ?_
    simp [h2]
    refine x_name hA (by omega) fun u m3 hu hA => ?_
    simp [h1]
    refine x_of _ hA (by omega) rfl (by simp) (by simp) fun v m4 hv hA => ?_
    simp at hv
    simp
    rcases hv with rfl | rfl
    · exact .inl (hA.fin hQ fun d => q_fact (fact_ok2 hf h8 (fit_name ht) fit_non) rfl)
    · exact .inl (hA.fin hQ fun d => q_fact (fact_ok2 hf h8 (fit_name ht) (fit_per hu)) rfl)
  simp at hv
  rcases hv with rfl | rfl | rfl | rfl | rfl | rfl | rfl | rfl | rfl | rfl
  · have z := two [100, 105, 100] (by decide) (by decide)
    simp at z
    simp
    exact z
  · simp [h2]
    refine x_name hA (by omega) fun t m2 ht hA => ?_
    simp [h2]
    refine x_name hA (by omega) fun u m3 hu hA => ?_
    simp
    exact .inl (hA.fin hQ fun d => q_fact (fact_ok2 (f1 := W_name) (f2 := W_name) (by decide) (by decide) (fit_name ht) (fit_name hu)) rfl)
  · have z := two [97, 115, 107, 101, 100] (by decide) (by decide)
    simp at z
    simp
    exact z
  · have z := two [119, 97, 115] (by decide) (by decide)
    simp at z
    simp
    exact z
  · have z := two [105, 115] (by decide) (by decide)
    simp at z
    simp
    exact z
  · have z := per [98, 121] (by decide) (by decide)
    simp at z
    simp
    exact z
  · have z := per [97, 116] (by decide) (by decide)
    simp at z
    simp
    exact z
  · simp [h3]
    refine x_count hA (by omega) fun n m3 hn hA => ?_
    simp
    exact .inl (hA.fin hQ fun d => q_fact (fact_ok1 (f1 := W_number) (by decide) (by decide) (fit_num hn)) rfl)
  · have z := two [115, 112, 105, 108, 116] (by decide) (by decide)
    simp at z
    simp
    exact z
  · simp [h2]
    refine x_name hA (by omega) fun t m3 ht hA => ?_
    simp
    exact .inl (hA.fin hQ fun d => q_fact (fact_ok1 (f1 := W_name) (by decide) (by decide) (fit_name ht)) rfl)
/-! ### questions -/
def qD (d : Nat) : Nat := 52 * 5 ^ d
theorem qD_succ (d : Nat) : qD (d + 1) = 5 * qD d := by unfold qD; rw [Nat.pow_succ]; omega
theorem qD_pos (d : Nat) : 52 ≤ qD d := by
  unfold qD
  have : 1 ≤ 5 ^ d := Nat.one_le_pow _ _ (by decide)
  omega
def fs_law_question (d : Nat) : FS := fun args m Q _ => ∃ (p left : Nat), args = [.loc p, .int (left : Nat), .int (d : Nat)] ∧ (1 ≤ left ∧ left ≤ 4) ∧ drawS m p (qD d) (isQ d left) Q
theorem x_question {d p left : Nat} {e : Int} {l : Int} {m0 m : Store} {K k : Nat} {a0 : Pot} {more : List Ob} {Q : Val → Store → Prop} {R : Rq} {tk : Tok Q} {uk : Tok R} (he : e = d) (hl : l = left) (hb : 1 ≤ left ∧ left ≤ 4) (h : At m0 p a0 K k more m) (hj : k + qD d ≤ K)
    (q : ∀ (q : Qu) m', Qu.ok d q → q.facts ≤ left → At m0 p a0 K (k + qD d) more m' → Q q.val m') : callF (fs_law_question d) [.loc p, .int l, .int e] m Q R tk uk :=
  ⟨p, left, by rw [he, hl], hb, h.draw (qD d) hj fun v m' ⟨z, h1, h2, h3⟩ hA => by rw [h3]; exact q z m' h1 h2 hA⟩
theorem qsOf {d : Nat} : ∀ {ws : List Val}, (∀ v ∈ ws, isQ d 1 v) → ∃ qs : List Qu, ws = qs.map Qu.val ∧ Qu.oks d qs ∧ Qu.factss qs ≤ qs.length
  | [], _ => ⟨[], rfl, by simp [Qu.oks], by simp [Qu.factss]⟩
  | w :: ws, h => by
    obtain ⟨q, h1, h2, rfl⟩ := h w (by simp)
    obtain ⟨qs, rfl, h3, h4⟩ := qsOf fun v hv => h v (List.mem_cons_of_mem _ hv)
    exact ⟨q :: qs, rfl, by simp only [Qu.oks]; exact ⟨h1, h3⟩, by simp only [Qu.factss, List.length_cons]; omega⟩
theorem m_law_question (d : Nat) {F : Nat → FS} (h1 : F i_law_take = fsTake) (h2 : F i_law_fact = fs_law_fact) (h3 : F i_law_question = prevF fs_law_question d) : Meets F 8 b_law_question (fs_law_question d) := by
  refine Meets.x ?_
  rintro args m Q R hm ha ⟨p, left, rfl, ⟨l1, l4⟩, a, hp, hQ⟩
  unfold b_law_question
  have hD := qD_pos d
  have isF : ∀ {v : Val}, (∀ d, isQ d 1 v) → isQ d left v := fun h => by
    obtain ⟨q, g1, g2, g3⟩ := h d
    exact ⟨q, g1, by omega, g3⟩
  cases d with
  | zero =>
    simp [h2]
    refine x_draw (.start hp) (by omega) fun v m1 hv hA => ?_
    exact .inl (hA.fin hQ (isF hv))
  | succ d =>
    simp only [prevF] at h3
    rw [qD_succ] at hp hQ
    have hD' := qD_pos d
    have hd : (0 : Int) < (d : Int) + 1 := by omega
    simp [h1, hd]
    refine x_take (.start hp) (by omega) (by decide) (by decide) fun way m1 w0 w1 hA => ?_
    simp
    by_cases c1 : way = 1
    · simp [c1, h3]
      refine x_question (by omega) rfl ⟨l1, l4⟩ hA (by omega) fun q m2 g1 g2 hA => ?_
      simp
      exact .inl (hA.fin hQ ⟨.neg q, by simpa only [Qu.ok] using g1, by simpa only [Qu.facts] using g2, by simp [Qu.val]⟩)
    · by_cases c2 : 1 < way ∧ 1 < left
      · obtain ⟨c2, c3⟩ := c2
        have c3' : (1 : Int) < left := by omega
        simp [c1, c2, c3, c3', h1]
        refine x_take hA (by omega) (by omega) (by omega) fun e m2 e0 e1 hA => ?_
        simp [h3]
        have hf : (left : Int) - (2 + e) + 1 = (((left : Int) - (2 + e) + 1).toNat : Nat) := by omega
        refine x_question (left := ((left : Int) - (2 + e) + 1).toNat) (by omega) hf (by omega) hA (by omega) fun q m3 g1 g2 hA => ?_
        simp
        refine x_rng (by omega) (by omega) ?_
        have hk : (2 + e - 1).toNat ≤ 3 := by omega
        have hmul : qD d * (2 + e - 1).toNat ≤ qD d * 3 := Nat.mul_le_mul (Nat.le_refl _) hk
        refine lc_at0 (qD d) (isQ d 1) (fun _ => it_rng (by omega) (by omega)) ?_ hA (by rw [intsUp_len]; omega) (by rw [intsUp_len, sizeLine_is]; omega) ?_
        · intro x m a P hA k
          simp [h3]
          exact x_question (left := 1) (by omega) rfl (by decide) hA (by omega) fun q m4 g3 g4 hA => k _ _ ⟨q, g3, g4, rfl⟩ (by simpa using hA)
        · intro ws m4 hl hw hA
          obtain ⟨qs, rfl, o1, o2⟩ := qsOf hw
          simp at hl
          have hlen : qs.length ≤ 3 := by omega
          have ok : ∀ b, Qu.ok (d + 1) (.join b (q :: qs)) := fun b => by
            simp only [Qu.ok, Qu.oks, List.length_cons]
            exact ⟨by omega, by omega, g1, o1⟩
          have fc : ∀ b, (Qu.join b (q :: qs)).facts ≤ left := fun b => by
            simp only [Qu.facts, Qu.factss]
            omega
          have hA := hA.mono (k' := 5 * qD d) (by rw [intsUp_len]; omega) (Nat.le_refl _)
          have hway : way = 2 ∨ way = 3 := by omega
          rcases hway with rfl | rfl
          · simp
            refine ⟨by omega, by omega, .inl (hA.fin hQ ⟨.join false (q :: qs), ok _, fc _, ?_⟩)⟩
            simp [Qu.val, Qu.vals, Qu.vals_map, jw]
          · simp
            refine ⟨by omega, by omega, .inl (hA.fin hQ ⟨.join true (q :: qs), ok _, fc _, ?_⟩)⟩
            simp [Qu.val, Qu.vals, Qu.vals_map, jw]
      · have fin : ∀ m1, At m p a (5 * qD d) 1 [] m1 → callF fs_law_fact [.loc p] m1 (Dy.ret m.length Q) (retX m.length R) .mk .mk := fun m1 hA =>
          x_draw hA (by omega) fun v m2 hv hA => .inl (hA.fin hQ (isF hv))
        by_cases c4 : 1 < way
        · have c5 : ¬ (1 : Int) < left := fun z => c2 ⟨c4, by omega⟩
          have c6 : ¬ 1 < left := by omega
          simp [c1, c4, c5, c6, h2]
          exact fin m1 hA
        · simp [c1, c4, h2]
          exact fin m1 hA
/-! ### the law's text of a question -/
theorem m_law_question_text (d : Nat) {F : Nat → FS} (h2 : F i_law_question_text = prevF fs_show_question d) : Meets F 2 b_law_question_text (fs_show_question d) := by
  refine Meets.x ?_
  rintro args m Q R hm ha ⟨q, ok, rfl, hQ⟩
  unfold b_law_question_text
  cases q with
  | fact w ps =>
    obtain ⟨n1, n2, n3⟩ := word_no ok.1
    have hp := PV.ok_of ok.1
    have hg := words_good ok.1
    have hf : ps.length ≤ 2 := by
      have := ok.1
      simp only [Qu.ok] at this
      have := forms_few w
      omega
    simp [Qu.val, n1, Ne.symm n2, Ne.symm n3]
    have e : Val.str w :: ps.map PV.val = (PV.name w :: ps).map PV.val := rfl
    rw [e]
    refine lc_map0 (f := PV.val) (fun p : PV => .str p.word) (by simp) _ ?_ (by simp; omega) ?_
    · intro p h P hP
      rcases List.mem_cons.mp h with rfl | h
      · simp [PV.val]; exact hP
      · cases p with
        | non => simp [PV.val]; exact hP
        | name t => simp [PV.val]; exact hP
        | num n =>
          have := nat_log (n := n) (hp _ h)
          simp [PV.val, this, numT_nat]
          exact hP
    · simp
      refine x_joinS (w :: ps.map PV.word) (by simp; rfl) (by simp) (by simp; omega) (fun t ht => ?_) (.inl hQ)
      have := (hg t (by simpa [Qu.words] using ht)).2.1
      omega
  | neg q =>
    cases d with
    | zero => have := ok.1; simp [Qu.ok] at this
    | succ d =>
      have ok' := ok.neg
      simp only [prevF] at h2
      simp [Qu.val, h2]
      refine x_show_question ok' ?_
      have hl := ok'.textOk.2.1
      have e : (Qu.neg q).text = [110, 111, 116, 32] ++ q.text := by
        unfold Qu.text
        simp only [Qu.words]
        rw [joinL_cons (words_few ok'.1).2.2]
        rfl
      rw [e] at hQ
      simp
      exact ⟨by omega, .inl hQ⟩
  | join b qs =>
    cases d with
    | zero => have := ok.1; simp [Qu.ok] at this
    | succ d =>
      have ok' := ok.join
      have oks := ok.1
      simp only [Qu.ok] at oks
      obtain ⟨g1, g2, g3⟩ := oks
      simp only [prevF] at h2
      have hlog := nat_log (n := qs.length) (by omega)
      simp [Qu.val, h2, Qu.vals_map, jw_no b, jw_in b, hlog, numT_nat, -List.any_cons]
      refine lc_map0 (f := Qu.val) (fun q : Qu => .str q.text) (by simp) _ ?_ (by simp; omega) ?_
      · intro q hq P hP
        simp [h2]
        exact x_show_question (ok' q hq) hP
      · simp
        refine ⟨by omega, ?_⟩
        refine x_joinS (jw b :: TL.numL qs.length :: qs.map Qu.text) (by simp [numT_nat]) (by simp) (by simp; omega) (fun t ht => ?_) (.inl ?_)
        · simp at ht
          rcases ht with rfl | rfl | ⟨q, hq, rfl⟩
          · have := (jw_good b).2.1; omega
          · have := (num_good (n := qs.length) (by omega)).2.1; omega
          · have := (ok' q hq).textOk.2.1; omega
        · rw [join_text b g3 (by intro z; subst z; simp at g1)]
          exact hQ
end LR

/-! runs by their form -/
namespace LR
open PySem L2 Dy
inductive St where
  | act (h : Nat) (v : Option Nat)
  | write (h : Nat)
  | again
def St.ok : St → Prop
  | .act h v => h < 1000 ∧ ∀ n, v = some n → n < 1000
  | .write h => h < 1000
  | .again => True
def St.parts : St → List PV
  | .act h none => [.name W_do, .num h, .non]
  | .act h (some n) => [.name W_do, .num h, .num n]
  | .write h => [.name W_write, .num h]
  | .again => [.name W_again]
def St.val (s : St) : Val := .tup (s.parts.map PV.val)
/-- the word of a part, if it has one -/
def PV.word? : PV → Option Text
  | .non => none
  | p => some p.word
def St.words (s : St) : List Text := s.parts.filterMap PV.word?
def St.text (s : St) : Text := TL.joinL [32] s.words
theorem St.good {s : St} (ok : s.ok) : ∀ x ∈ s.words, goodWord x := by
  cases s with
  | act h v =>
    obtain ⟨h1, h2⟩ := ok
    cases v with
    | none =>
      intro x hx
      simp [St.words, St.parts, PV.word?, PV.word] at hx
      rcases hx with rfl | rfl
      · exact ⟨by decide, by decide, by decide⟩
      · exact num_good h1
    | some n =>
      intro x hx
      simp [St.words, St.parts, PV.word?, PV.word] at hx
      rcases hx with rfl | rfl | rfl
      · exact ⟨by decide, by decide, by decide⟩
      · exact num_good h1
      · exact num_good (h2 n rfl)
  | write h =>
    intro x hx
    simp [St.words, St.parts, PV.word?, PV.word] at hx
    rcases hx with rfl | rfl
    · exact ⟨by decide, by decide, by decide⟩
    · exact num_good ok
  | again =>
    intro x hx
    simp [St.words, St.parts, PV.word?, PV.word] at hx
    subst hx
    exact ⟨by decide, by decide, by decide⟩
theorem St.few (s : St) : s.words.length ≤ 3 ∧ s.words ≠ [] := by
  cases s with
  | act h v =>
    cases v with
    | none => exact ⟨show ([W_do, TL.numL h] : List Text).length ≤ 3 by simp, show ([W_do, TL.numL h] : List Text) ≠ [] by simp⟩
    | some n => simp [St.words, St.parts, PV.word?]
  | write h => simp [St.words, St.parts, PV.word?]
  | again => exact ⟨by decide, by simp [St.words, St.parts, PV.word?]⟩
theorem St.textOk {s : St} (ok : s.ok) : s.text.length ≤ 27 ∧ (∀ c ∈ s.text, 32 ≤ c ∧ c ≤ 122 ∧ c ≠ 59) ∧ s.text ≠ [] := by
  have hg := St.good ok
  have h1 : s.text.length ≤ s.words.length * (8 + 1) := joinL_le (S := [32]) fun p hp => (hg p hp).2.1
  have h2 := s.few
  refine ⟨by omega, joinL_mem (by simp) fun p hp c hc => by have := (hg p hp).2.2 c hc; omega, ?_⟩
  intro z
  have : s.text ≠ [] := by
    unfold St.text
    cases hw : s.words with
    | nil => exact absurd hw h2.2
    | cons x r =>
      have hx := (hg x (by rw [hw]; simp)).1
      cases r with
      | nil => simp [TL.joinL]; intro z; rw [z] at hx; simp at hx
      | cons y r => rw [joinL_cons (by simp)]; intro z; simp at z
  exact this z
theorem St.split {s : St} (ok : s.ok) : TL.spl [32] 0 [] s.text = s.words :=
  SX.spl_join (c := 32) (sep := []) s.few.2 fun p hp z => by have := (St.good ok p hp).2.2 32 z; omega
theorem St.reads {s : St} (ok : s.ok) : stepIn s.text = some s.val := by
  unfold stepIn
  rw [St.split ok]
  cases s with
  | act h v =>
    obtain ⟨h1, h2⟩ := ok
    have e1 := (num_all h h1).1
    cases v with
    | none =>
      have ew : (St.act h none).words = [W_do, TL.numL h] := rfl
      rw [ew]
      simp [St.parts, PV.word, allNum, e1, stepOf, St.val, PV.val]
    | some n =>
      have e2 := (num_all n (h2 n rfl)).1
      simp [St.words, St.parts, PV.word?, PV.word, allNum, e1, e2, stepOf, St.val, PV.val]
  | write h =>
    have e1 := (num_all h ok).1
    simp [St.words, St.parts, PV.word?, PV.word, allNum, e1, stepOf, St.val, PV.val]
  | again =>
    simp [St.words, St.parts, PV.word?, PV.word, allNum, stepOf, St.val, PV.val, St.text, TL.joinL]
/-! ### runs -/
def runV (l : List St) : Val := .tup (l.map St.val)
def runT (l : List St) : Text := if l = [] then [45] else TL.joinL [59, 32] (l.map St.text)
def runOk (l : List St) : Prop := l.length ≤ 6 ∧ ∀ s ∈ l, s.ok
theorem runT_ok {l : List St} (h : runOk l) : textOk (runT l) ∧ ∀ c ∈ runT l, 32 ≤ c ∧ c ≤ 122 := by
  unfold runT
  split
  · exact ⟨⟨by decide, by decide⟩, by decide⟩
  · have h1 : (TL.joinL [59, 32] (l.map St.text)).length ≤ (l.map St.text).length * (27 + 2) := joinL_le (S := [59, 32]) fun p hp => by
      obtain ⟨s, hs, rfl⟩ := List.mem_map.mp hp
      exact (St.textOk (h.2 s hs)).1
    have h2 := h.1
    have h3 : ∀ c ∈ TL.joinL [59, 32] (l.map St.text), 32 ≤ c ∧ c ≤ 122 := joinL_mem (by decide) fun p hp c hc => by
      obtain ⟨s, hs, rfl⟩ := List.mem_map.mp hp
      have := (St.textOk (h.2 s hs)).2.1 c hc
      omega
    rw [List.length_map] at h1
    exact ⟨⟨by omega, signs_of fun c hc => (h3 c hc).2⟩, h3⟩
theorem steps_reads : ∀ {l : List St}, (∀ s ∈ l, s.ok) → allSteps (l.map St.text) = some (l.map St.val)
  | [], _ => rfl
  | s :: l, h => by
    simp only [List.map_cons, allSteps]
    rw [St.reads (h s (by simp))]
    simp only
    rw [steps_reads fun z hz => h z (List.mem_cons_of_mem _ hz)]
    rfl
theorem run_reads {l : List St} (h : runOk l) : runIn (runT l) = some (runV l) := by
  unfold runIn runT
  cases l with
  | nil => rfl
  | cons s l =>
    rw [show (if s :: l = [] then [45] else TL.joinL [59, 32] ((s :: l).map St.text)) = TL.joinL [59, 32] ((s :: l).map St.text) from if_neg (by simp)]
    have hs : TL.spl [59, 32] 0 [] (TL.joinL [59, 32] ((s :: l).map St.text)) = (s :: l).map St.text :=
      SX.spl_join (c := 59) (sep := [32]) (by simp) fun p hp z => by
        obtain ⟨s, hs, rfl⟩ := List.mem_map.mp hp
        exact (St.textOk (h.2 s hs)).2.1 59 z |>.2.2 rfl
    have hne : ¬ TL.joinL [59, 32] ((s :: l).map St.text) = [45] := by
      intro z
      have h1 := St.reads (h.2 s (by simp))
      rw [z] at hs
      have e : TL.spl [59, 32] 0 [] [45] = [[45]] := by decide
      rw [e] at hs
      simp at hs
      rw [← hs.1] at h1
      cases h1
    rw [if_neg hne, hs, steps_reads h.2]
    rfl
/-! ### both writers of runs -/
def fs_show_step : FS := fun args m Q _ => ∃ s : St, s.ok ∧ args = [s.val] ∧ Q (.str s.text) m
theorem x_show_step {s : St} {m : Store} {Q : Val → Store → Prop} {R : Rq} {tk : Tok Q} {uk : Tok R} (h : s.ok) (q : Q (.str s.text) m) : callF fs_show_step [s.val] m Q R tk uk := ⟨s, h, rfl, q⟩
theorem St.parts_ok {s : St} (ok : s.ok) : ∀ p ∈ s.parts, (∀ n, p = .num n → n < 1000) := by
  cases s with
  | act h v =>
    obtain ⟨h1, h2⟩ := ok
    cases v with
    | none => intro p hp n e; subst e; simp [St.parts] at hp; omega
    | some k => intro p hp n e; subst e; have := h2 k rfl; simp [St.parts] at hp; omega
  | write h => intro p hp n e; subst e; simp [St.parts] at hp; have : h < 1000 := ok; omega
  | again => intro p hp n e; subst e; simp [St.parts] at hp
theorem St.parts_few (s : St) : s.parts.length ≤ 3 := by
  cases s with
  | act h v => cases v <;> simp [St.parts]
  | write h => simp [St.parts]
  | again => decide
theorem parts_word (l : List PV) : l.filterMap (fun p => (PV.word? p).map Val.str) = (l.filterMap PV.word?).map Val.str := by
  induction l with
  | nil => rfl
  | cons p l ih =>
    rw [List.filterMap_cons, List.filterMap_cons]
    cases PV.word? p with
    | none => exact ih
    | some t => simp [ih]
/-- the inner comprehension of both -/
theorem step_words {F : Nat → FS} {r : Dy.Env} {m : Store} {i : Nat} {s : St} (ok : s.ok) {body : Val → Store → (Option Val → Store → Prop) → Prop} {fin : List Val → Store → Prop} {live : Store → Prop} {t1 : Tok live} {t2 : Tok body} {t3 : Tok fin} (hl : live m)
    (hb : ∀ (p : PV), (∀ n, p = .num n → n < 1000) → ∀ P, P ((PV.word? p).map Val.str) m → body p.val m P) (q : fin (s.words.map .str) m) : lcX live body (s.parts.map PV.val) [] m fin t1 t2 t3 := by
  refine lc_opt0 (f := PV.val) (fun p : PV => (PV.word? p).map Val.str) hl _ ?_ (by have := s.parts_few; simp; omega) ?_
  · intro p hp P hP
    exact hb p (St.parts_ok ok p hp) P hP
  · rw [parts_word]
    exact q
theorem x_stepJoin {s : St} (ok : s.ok) {o : Bool} {m : Store} {Q : Val → Store → Prop} {tk : Tok Q} (q : Q (.str s.text) m) : mtX .join (.str [32]) [.il o (s.words.map .str)] m Q tk :=
  x_joinS s.words rfl (by simp) (by have := s.few.1; omega) (fun t ht => by have := (St.good ok t ht).2.1; omega) q
theorem m_show_step {F : Nat → FS} : Meets F 2 b_show_step fs_show_step := by
  refine Meets.x ?_
  rintro args m Q R hm ha ⟨s, ok, rfl, hQ⟩
  unfold b_show_step
  simp [St.val]
  refine step_words (F := F) (r := []) (i := 0) ok (by simp) ?_ ?_
  · intro p hp P hP
    cases p with
    | non => simp [PV.val]; exact hP
    | name t => simp [PV.val]; exact hP
    | num n =>
      have := nat_log (hp n rfl)
      simp [PV.val, this, numT_nat]
      exact hP
  · simp
    exact x_stepJoin ok (.inl hQ)
theorem run_cmp {l : List St} (h : runOk l) : cmpV (runV l) = true := by
  have key : ∀ {l : List St}, (∀ s ∈ l, s.ok) → lays (l.map St.val) = true ∧ deps (l.map St.val) ≤ 1 := by
    intro l
    induction l with
    | nil => intro _; exact ⟨rfl, Nat.zero_le _⟩
    | cons s l ih =>
      intro h
      have h1 := step_lay (St.reads (h s (by simp)))
      have h2 := ih fun z hz => h z (List.mem_cons_of_mem _ hz)
      simp only [List.map_cons, lays, deps, Bool.and_eq_true]
      exact ⟨⟨h1.1, h2.1⟩, Nat.max_le.mpr ⟨h1.2.1, h2.2⟩⟩
  have := key h.2
  simp only [cmpV, runV, lay, dep, this.1, Bool.true_and]
  simp; omega
def fs_show_run : FS := fun args m Q _ => ∃ l : List St, runOk l ∧ args = [runV l] ∧ Q (.str (runT l)) m
theorem x_show_run {l : List St} {m : Store} {Q : Val → Store → Prop} {R : Rq} {tk : Tok Q} {uk : Tok R} (h : runOk l) (q : Q (.str (runT l)) m) : callF fs_show_run [runV l] m Q R tk uk := ⟨l, h, rfl, q⟩
theorem x_runJoin {l : List St} (ok : runOk l) (hne : l ≠ []) {o : Bool} {m : Store} {Q : Val → Store → Prop} {tk : Tok Q} (q : Q (.str (runT l)) m) : mtX .join (.str [59, 32]) [.il o (l.map fun s => Val.str s.text)] m Q tk := by
  have e : runT l = TL.joinL [59, 32] (l.map St.text) := if_neg hne
  rw [e] at q
  exact x_joinS (l.map St.text) (by simp) (by simp) (by have := ok.1; simp; omega) (fun t ht => by
    obtain ⟨s, hs, rfl⟩ := List.mem_map.mp ht
    have := (St.textOk (ok.2 s hs)).1
    omega) q
theorem m_show_run {F : Nat → FS} (h1 : F i_show_step = fs_show_step) : Meets F 2 b_show_run fs_show_run := by
  refine Meets.x ?_
  rintro args m Q R hm ha ⟨l, ok, rfl, hQ⟩
  unfold b_show_run
  simp
  refine x_neG (run_cmp ok) (by decide) ?_
  cases l with
  | nil => simp [runV, veqv, veqvs]; exact .inl hQ
  | cons s l =>
    have e : veqv (runV (s :: l)) (.tup []) = false := rfl
    rw [e]
    have hl := ok.1
    simp [runV]
    refine lc_map0 (f := St.val) (fun s : St => .str s.text) (by simp) (s :: l) ?_ (by simp at hl ⊢; omega) ?_
    · intro x hx P hP
      simp [h1]
      exact x_show_step (ok.2 x hx) hP
    · simp only [xE_nil, asT_tup]
      exact x_runJoin ok (by simp) (.inl hQ)
theorem m_law_run_text {F : Nat → FS} : Meets F 4 b_law_run_text fs_show_run := by
  refine Meets.x ?_
  rintro args m Q R hm ha ⟨l, ok, rfl, hQ⟩
  unfold b_law_run_text
  have hl := ok.1
  simp [runV]
  refine lc_map0 (f := St.val) (fun s : St => .str s.text) (by simp) l ?_ (by simp; omega) ?_
  · intro s hs P hP
    simp [St.val]
    refine step_words (F := F) (r := []) (i := 0) (ok.2 s hs) (by simp) ?_ ?_
    · intro p hp P hP
      cases p with
      | non => simp [PV.val]; exact hP
      | name t => simp [PV.val]; exact hP
      | num n =>
        have := nat_log (hp n rfl)
        simp [PV.val, this, numT_nat]
        exact hP
    · simp
      exact x_stepJoin (ok.2 s hs) hP
  · simp
    have hc : cmpV (.il true (l.map fun s => Val.str s.text)) = true := by
      have := strs_lay (ws := l.map St.text) fun x hx => by
        obtain ⟨s, hs, rfl⟩ := List.mem_map.mp hx
        exact signs_of fun c hc => ((St.textOk (ok.2 s hs)).2.1 c hc).2.1
      rw [List.map_map] at this
      have e : (Val.str ∘ St.text) = fun s : St => Val.str s.text := rfl
      rw [e] at this
      simp [cmpV, lay, dep, this]
    refine x_neG hc (by decide) ?_
    cases l with
    | nil => simp [veqv, veqvs]; exact .inl hQ
    | cons s l =>
      have e : veqv (.il true ((s :: l).map fun s => Val.str s.text)) (.il true []) = false := rfl
      rw [e]
      simp only [Bool.not_false, tsx_bool, if_true]
      simp
      exact x_runJoin ok (by simp) (.inl hQ)
end LR

namespace LR
open PySem L2 Dy
/-! ### what is shown -/
theorem x_repr {v : Val} {m : Store} {Q : Val → Store → Prop} {tk : Tok Q} (h1 : shw v = true) (h2 : dep v ≤ 60) (h3 : rsz v ≤ 100000) (q : Q (.str (reprV v)) m) : biX .repr [v] m Q tk := bi_reprG h1 h2 (by rw [sizeLine_is]; omega) q
theorem x_reprT {t : Text} {m : Store} {Q : Val → Store → Prop} {tk : Tok Q} (h : textOk t) (q : Q (.str (reprV (.str t))) m) : biX .repr [.str t] m Q tk :=
  x_repr (by simp [shw, h.2]) (by simp [dep]) (by have := h.1; simp [rsz]; omega) q
theorem PV.shown {p : PV} (h : p.ok) : shw p.val = true ∧ dep p.val = 0 ∧ rsz p.val ≤ 82 := by
  cases p with
  | non => exact ⟨rfl, rfl, by decide⟩
  | name t =>
    have ht : NameOk t := h
    have hs : signs t = true := signs_of fun c hc => (letters_small (ht.2.2 c hc)).2
    have := ht.2.1
    exact ⟨by simp [PV.val, shw, hs], rfl, by simp [PV.val, rsz]; omega⟩
  | num n =>
    have h1 := nat_log (n := n) h
    have h2 : n.log2 ≤ 10 := by
      by_cases z : n = 0
      · subst z; decide
      · have := (Nat.log2_lt z).mpr (show n < 2 ^ 10 by have : n < 1000 := h; omega)
        omega
    exact ⟨by simp [PV.val, shw, h1], rfl, by simp [PV.val, rsz]; omega⟩
theorem pvs_shown : ∀ {ps : List PV}, (∀ p ∈ ps, p.ok) → shws (ps.map PV.val) = true ∧ deps (ps.map PV.val) = 0 ∧ rszs (ps.map PV.val) ≤ 84 * ps.length
  | [], _ => ⟨rfl, rfl, Nat.zero_le _⟩
  | p :: ps, h => by
    obtain ⟨h1, h2, h3⟩ := PV.shown (h p (by simp))
    obtain ⟨g1, g2, g3⟩ := pvs_shown fun q hq => h q (List.mem_cons_of_mem _ hq)
    simp only [List.map_cons, shws, deps, rszs, List.length_cons, Bool.and_eq_true]
    exact ⟨⟨h1, g1⟩, by omega, by omega⟩
theorem strs8 {t : Text} (h : t.length ≤ 8) (hc : ∀ c ∈ t, c ≤ 122) : shw (.str t) = true ∧ rsz (.str t) ≤ 82 := ⟨by simp [shw, signs_of hc], by simp [rsz]; omega⟩
mutual
theorem q_shown : ∀ {d : Nat} {q : Qu}, Qu.ok d q → shw q.val = true ∧ dep q.val ≤ d + 1 ∧ rsz q.val ≤ 100 * q.words.length
  | d, .fact w ps, ok => by
    have hp := PV.ok_of ok
    simp only [Qu.ok] at ok
    obtain ⟨hl, hne, h8, hc, hw, _⟩ := ok
    obtain ⟨h1, h2, h3⟩ := pvs_shown hp
    obtain ⟨g1, g2⟩ := strs8 h8 fun c z => (hc c z).2
    simp only [Qu.val, shw, shws, dep, deps, rsz, rszs, Qu.words, List.length_cons, List.length_map, Bool.and_eq_true] at g1 g2 ⊢
    exact ⟨⟨g1, h1⟩, by omega, by omega⟩
  | 0, .neg q, ok => by simp [Qu.ok] at ok
  | d + 1, .neg q, ok => by
    simp only [Qu.ok] at ok
    obtain ⟨h1, h2, h3⟩ := q_shown ok
    have e : signs W_not = true := by decide
    simp only [Qu.val, shw, shws, dep, deps, rsz, rszs, Qu.words, List.length_cons, List.length_nil, Bool.and_eq_true]
    exact ⟨⟨e, h1, trivial⟩, by omega, by omega⟩
  | 0, .join b qs, ok => by simp [Qu.ok] at ok
  | d + 1, .join b qs, ok => by
    simp only [Qu.ok] at ok
    obtain ⟨h1, h2, h3⟩ := qs_shown ok.2.2
    have e : signs (jw b) = true := by cases b <;> decide
    have e2 : (jw b).length ≤ 3 := by cases b <;> decide
    have := ok.2.1
    simp only [Qu.val, shw, shws, dep, deps, rsz, rszs, Qu.words, List.length_cons, Bool.and_eq_true]
    exact ⟨⟨e, h1⟩, by omega, by omega⟩
theorem qs_shown : ∀ {d : Nat} {qs : List Qu}, Qu.oks d qs → shws (Qu.vals qs) = true ∧ deps (Qu.vals qs) ≤ d + 1 ∧ rszs (Qu.vals qs) ≤ 100 * (Qu.wordss qs).length + 2 * qs.length
  | d, [], _ => ⟨rfl, Nat.zero_le _, Nat.zero_le _⟩
  | d, q :: r, ok => by
    simp only [Qu.oks] at ok
    obtain ⟨h1, h2, h3⟩ := q_shown ok.1
    obtain ⟨g1, g2, g3⟩ := qs_shown ok.2
    simp only [Qu.vals, shws, deps, rszs, Qu.wordss, List.length_append, List.length_cons, Bool.and_eq_true]
    exact ⟨⟨h1, g1⟩, by omega, by omega⟩
end
theorem x_reprQ {d : Nat} {q : Qu} {m : Store} {Q : Val → Store → Prop} {tk : Tok Q} (h : q.fine d) (k : Q (.str (reprV q.val)) m) : biX .repr [q.val] m Q tk := by
  obtain ⟨h1, h2, h3⟩ := q_shown h.1
  have := h.few
  have := h.2.1
  exact x_repr h1 (by omega) (by omega) k
theorem St.partsOk {s : St} (ok : s.ok) : ∀ p ∈ s.parts, shw p.val = true ∧ dep p.val = 0 ∧ rsz p.val ≤ 82 := by
  intro p hp
  cases p with
  | non => exact PV.shown (p := .non) trivial
  | num n => exact PV.shown (p := .num n) (St.parts_ok ok _ hp n rfl)
  | name t =>
    have : t = W_do ∨ t = W_write ∨ t = W_again := by
      cases s with
      | act h v => cases v <;> simp [St.parts] at hp <;> exact .inl hp
      | write h => simp [St.parts] at hp; exact .inr (.inl hp)
      | again => simp [St.parts] at hp; exact .inr (.inr hp)
    rcases this with rfl | rfl | rfl <;> exact ⟨by decide, rfl, by decide⟩
theorem pvs_shown2 : ∀ {ps : List PV}, (∀ p ∈ ps, shw p.val = true ∧ dep p.val = 0 ∧ rsz p.val ≤ 82) → shws (ps.map PV.val) = true ∧ deps (ps.map PV.val) = 0 ∧ rszs (ps.map PV.val) ≤ 84 * ps.length
  | [], _ => ⟨rfl, rfl, Nat.zero_le _⟩
  | p :: ps, h => by
    obtain ⟨h1, h2, h3⟩ := h p (by simp)
    obtain ⟨g1, g2, g3⟩ := pvs_shown2 fun q hq => h q (List.mem_cons_of_mem _ hq)
    simp only [List.map_cons, shws, deps, rszs, List.length_cons, Bool.and_eq_true]
    exact ⟨⟨h1, g1⟩, by omega, by omega⟩
theorem St.shown {s : St} (ok : s.ok) : shw s.val = true ∧ dep s.val ≤ 1 ∧ rsz s.val ≤ 300 := by
  obtain ⟨h1, h2, h3⟩ := pvs_shown2 (St.partsOk ok)
  have := s.parts_few
  simp only [St.val, shw, dep, rsz]
  exact ⟨h1, by omega, by omega⟩
theorem sts_shown : ∀ {l : List St}, (∀ s ∈ l, s.ok) → shws (l.map St.val) = true ∧ deps (l.map St.val) ≤ 1 ∧ rszs (l.map St.val) ≤ 302 * l.length
  | [], _ => ⟨rfl, Nat.zero_le _, Nat.zero_le _⟩
  | s :: l, h => by
    obtain ⟨h1, h2, h3⟩ := St.shown (h s (by simp))
    obtain ⟨g1, g2, g3⟩ := sts_shown fun q hq => h q (List.mem_cons_of_mem _ hq)
    simp only [List.map_cons, shws, deps, rszs, List.length_cons, Bool.and_eq_true]
    exact ⟨⟨h1, g1⟩, by omega, by omega⟩
theorem x_reprR {l : List St} {m : Store} {Q : Val → Store → Prop} {tk : Tok Q} (h : runOk l) (k : Q (.str (reprV (runV l))) m) : biX .repr [runV l] m Q tk := by
  obtain ⟨h1, h2, h3⟩ := sts_shown h.2
  have := h.1
  exact x_repr (by simpa only [runV, shw] using h1) (by simp only [runV, dep]; omega) (by simp only [runV, rsz]; omega) k
/-! ### runs drawn -/
def isRun (v : Val) : Prop := ∃ l, runOk l ∧ v = runV l
def fs_law_run : FS := fsDraw 50 isRun
theorem sts_closed : ∀ {l : List St} {n : Nat}, cVs n (l.map St.val) = true
  | [], _ => rfl
  | s :: l, n => by
    simp only [List.map_cons, cVs, Bool.and_eq_true]
    refine ⟨?_, sts_closed⟩
    cases s with
    | act h v => cases v <;> rfl
    | write h => rfl
    | again => rfl
theorem m_law_run {F : Nat → FS} (h1 : F i_law_take = fsTake) (h2 : F i_law_of = fsOf) (h3 : F i_law_count = fs_law_count) : Meets F 5 b_law_run fs_law_run := by
  refine Meets.x ?_
  rintro args m Q R hm ha ⟨p, rfl, a, hp, hQ⟩
  unfold b_law_run
  simp [h1]
  refine x_take ((At.start hp).push _) (by omega) (by decide) (by decide) fun d m1 d0 d1 hA => ?_
  simp
  refine x_rng (by omega) (by omega) ?_
  refine for_more 7 (fun n r more => ∃ (l : List St) (x2 x3 x4 : Option Val), l.length = n ∧ (∀ s ∈ l, s.ok) ∧ more = [.list (l.map St.val)] ∧ r = [some (.loc p), some (.loc m.length), x2, x3, x4]) (fun _ => it_rng (by omega) (by omega)) ?_ ⟨[], none, none, none, rfl, by simp, rfl, rfl⟩ hA (by simp; omega) ?_
  · rintro x n r k' more m1 nx hnl ⟨l, x2, x3, x4, hl, hok, rfl, rfl⟩ hA hk hn
    rw [intsUp_len] at hnl
    simp [h3]
    refine x_count hA (by omega) fun c1 m2 hc1 hA => ?_
    simp [h2]
    refine x_of _ hA (by omega) rfl (by simp) (by simp) fun hand m3 hh hA => ?_
    simp [h3]
    refine x_count hA (by omega) fun c2 m4 hc2 hA => ?_
    simp [h2]
    refine x_of _ hA (by omega) rfl (by simp) (by simp) fun value m5 hv hA => ?_
    simp [h2]
    refine x_of _ hA (by omega) rfl (by simp) (by simp) fun st m6 hst hA => ?_
    simp
    have hand' : ∃ h : Nat, h < 1000 ∧ hand = .int h := by
      simp at hh
      rcases hh with rfl | rfl | rfl
      · exact ⟨0, by decide, rfl⟩
      · exact ⟨1, by decide, rfl⟩
      · exact ⟨c1, hc1, rfl⟩
    have value' : ∃ v : Option Nat, (∀ n, v = some n → n < 1000) ∧ value = oN v := by
      simp at hv
      rcases hv with rfl | rfl | rfl
      · exact ⟨none, by simp, rfl⟩
      · exact ⟨some 0, by simp, rfl⟩
      · exact ⟨some c2, by simpa using hc2, rfl⟩
    obtain ⟨h, hh1, rfl⟩ := hand'
    obtain ⟨v, hv1, rfl⟩ := value'
    have step : ∃ s : St, s.ok ∧ st = s.val := by
      simp at hst
      rcases hst with rfl | rfl | rfl
      · exact ⟨.act h v, ⟨hh1, hv1⟩, by cases v <;> rfl⟩
      · exact ⟨.write h, hh1, rfl⟩
      · exact ⟨.again, trivial, rfl⟩
    obtain ⟨s, hs1, rfl⟩ := step
    have hat := hA.get0
    simp at hat
    refine x_app hat (by simp; omega) ?_
    simp
    refine hn _ _ _ ⟨l ++ [s], _, _, _, by simp [hl], ?_, rfl, rfl⟩ ?_
    · intro z hz
      rcases List.mem_append.mp hz with hz | hz
      · exact hok z hz
      · simp at hz; subst hz; exact hs1
    · have := hA.set0 (.list ((l ++ [s]).map St.val))
      simpa using this
  · rintro r more m1 ⟨l, x2, x3, x4, hl, hok, rfl, rfl⟩ hA
    have hat := hA.get0
    simp at hat hl
    simp
    refine x_tupM hat ?_
    refine hA.ret hm (Post := isRun) (K := 50) hQ ?_ ⟨l, ⟨by omega, hok⟩, rfl⟩
    simp only [cV]
    exact sts_closed
/-! ### the law -/
def fs_law_right : FS := fsDraw 400000 (fun v => v = .bool true)
theorem m_law_right {F : Nat → FS} (h1 : F i_law_question = fs_law_question 4) (h2 : F i_law_question_text = fs_show_question 4) (h3 : F i_show_question = fs_show_question 4) (h4 : F i_read_question = fs_read_question)
    (h5 : F i_law_run = fs_law_run) (h6 : F i_law_run_text = fs_show_run) (h7 : F i_show_run = fs_show_run) (h8 : F i_read_run = fs_read_run) : Meets F 6 b_law_right fs_law_right := by
  refine Meets.x ?_
  rintro args m Q R hm ha ⟨p, rfl, a, hp, hQ⟩
  unfold b_law_right
  have hD : qD 4 = 32500 := by decide
  simp
  refine x_rng (by decide) (by decide) ?_
  refine for_at 32500 (fun r => ∃ x1 x2 x3 x4 x5, r = [some (.loc p), x1, x2, x3, x4, x5]) (fun _ => it_rng (by decide) (by decide)) ?_ ⟨_, _, _, _, _, rfl⟩ (.start hp) (by simp) ?_
  · rintro x r m a nx ⟨x1, x2, x3, x4, x5, rfl⟩ hA hn
    simp [h1]
    refine x_question (left := 4) rfl rfl (by decide) hA (by omega) fun q m1 g1 g2 hA => ?_
    have ok : q.fine 4 := ⟨g1, Nat.le_refl _, g2⟩
    have ht := ok.textOk.1
    have hnn : isNon q.val = false := by cases q <;> simp [Qu.val]
    simp [-bi_repr]
    refine x_reprQ ok ?_
    simp [h2]
    refine x_show_question ok ?_
    simp [h3]
    refine x_show_question ok ?_
    simp [-bi_repr]
    refine x_reprT ht ?_
    simp [-bi_repr]
    refine x_reprT ht ?_
    simp [h4]
    refine x_read_question ht ok.reads hnn ?_
    simp [-bi_repr]
    refine x_reprQ ok ?_
    simp [-bi_repr]
    refine x_reprQ ok ?_
    simp
    exact hn _ _ ⟨_, _, _, _, _, rfl⟩ (by rw [hD] at hA; simpa using hA)
  · rintro r m1 ⟨x1, x2, x3, x4, x5, rfl⟩ hA
    simp
    refine x_rng (by decide) (by decide) ?_
    refine for_at 50 (fun r => ∃ x1 x2 x3 x4 x5, r = [some (.loc p), x1, x2, x3, x4, x5]) (fun _ => it_rng (by decide) (by decide)) ?_ ⟨_, _, _, _, _, rfl⟩ hA (by simp) ?_
    · rintro x r m a nx ⟨x1, x2, x3, x4, x5, rfl⟩ hA hn
      simp [h5]
      refine x_draw hA (by omega) fun v m1 hv hA => ?_
      obtain ⟨l, ok, rfl⟩ := hv
      have ht := (runT_ok ok).1
      simp [-bi_repr]
      refine x_reprR ok ?_
      simp [h6]
      refine x_show_run ok ?_
      simp [h7]
      refine x_show_run ok ?_
      simp [-bi_repr]
      refine x_reprT ht ?_
      simp [-bi_repr]
      refine x_reprT ht ?_
      simp [h8]
      refine x_read_run ht (run_reads ok) rfl ?_
      simp [-bi_repr]
      refine x_reprR ok ?_
      simp [-bi_repr]
      refine x_reprR ok ?_
      simp
      exact hn _ _ ⟨_, _, _, _, _, rfl⟩ (by simpa using hA)
    · rintro r m3 ⟨x1, x2, x3, x4, x5, rfl⟩ hA
      simp
      exact .inl (hA.fin hQ rfl)
def fs_law : FS := fun args m Q _ => ∃ ns : List Int, ns.length ≤ 1000000 ∧ args = [.il false (ns.map .int)] ∧ ∀ m', Q (.bool true) m'
theorem m_law {F : Nat → FS} (h1 : F i_law_pot = fsPot) (h2 : F i_law_right = fs_law_right) : Meets F 3 b_law fs_law := by
  refine Meets.x ?_
  rintro args m Q R hm ha ⟨ns, hns, rfl, hQ⟩
  unfold b_law
  simp
  refine x_rng (by split <;> split <;> omega) (by split <;> split <;> omega) ?_
  refine for_invX (fun rem r _ => (∃ x1 x2, r = [some (.il false (ns.map .int)), x1, x2]) ∧ ∀ x ∈ rem, ∃ i : Nat, i < 4 ∧ x = .int i) ?_ ?_ ?_ ⟨⟨_, _, rfl⟩, ?_⟩
  · intro _
    simp only [List.length_map, gt_iff_lt]
    refine it_rng ?_ ?_ <;> (split <;> split <;> omega)
  · rintro x xs r m nx ⟨⟨x1, x2, rfl⟩, hx⟩ hn
    obtain ⟨i, hi, rfl⟩ := hx x List.mem_cons_self
    simp [h1]
    refine x_pot (by omega) fun a ha => ?_
    simp [h2]
    refine x_draw (.start ha) (by omega) fun v m' hv _ => ?_
    subst hv
    simp
    exact hn _ _ ⟨⟨_, _, rfl⟩, fun y hy => hx y (List.mem_cons_of_mem _ hy)⟩
  · rintro r m1 ⟨⟨x1, x2, rfl⟩, _⟩
    simp
    exact .inl (hQ _)
  · intro x hx
    obtain ⟨i, hi, rfl⟩ := intsUp_mem hx
    refine ⟨i, ?_, by simp⟩
    revert hi
    split <;> split <;> omega
end LR

namespace LR
open PySem L2 Dy
def posL : List Nat := [0, 1, 2, 7, 8, 9, 10, 11, 16, 17, 18, 19, 20, 21, 22, 23, 24, 25, 26, 27, 28, 33, 38, 39, 40, 41, 42]
def vw0 : Nat → Nat := fun f => posL.getD f 0
theorem l_fs_is_name : ∀ (vs : List Val) (m : Store) (Q : Val → Store → Prop) (R : Rq), fs_is_name vs m Q R → vs.length = 1 := by
  intro vs m Q R h
  first | (obtain ⟨rfl, _⟩ := h; rfl) | (obtain ⟨_, rfl, _⟩ := h; rfl) | (obtain ⟨_, _, rfl, _⟩ := h; rfl) | (obtain ⟨_, _, _, rfl, _⟩ := h; rfl) | (obtain ⟨_, _, _, _, rfl, _⟩ := h; rfl) | (obtain ⟨_, _, _, _, _, rfl, _⟩ := h; rfl) | (obtain ⟨_, _, _, _, _, _, rfl, _⟩ := h; rfl)
theorem l_fs_number_in : ∀ (vs : List Val) (m : Store) (Q : Val → Store → Prop) (R : Rq), fs_number_in vs m Q R → vs.length = 1 := by
  intro vs m Q R h
  first | (obtain ⟨rfl, _⟩ := h; rfl) | (obtain ⟨_, rfl, _⟩ := h; rfl) | (obtain ⟨_, _, rfl, _⟩ := h; rfl) | (obtain ⟨_, _, _, rfl, _⟩ := h; rfl) | (obtain ⟨_, _, _, _, rfl, _⟩ := h; rfl) | (obtain ⟨_, _, _, _, _, rfl, _⟩ := h; rfl) | (obtain ⟨_, _, _, _, _, _, rfl, _⟩ := h; rfl)
theorem l_fs_shown_part : ∀ (vs : List Val) (m : Store) (Q : Val → Store → Prop) (R : Rq), fs_shown_part vs m Q R → vs.length = 1 := by
  intro vs m Q R h
  first | (obtain ⟨rfl, _⟩ := h; rfl) | (obtain ⟨_, rfl, _⟩ := h; rfl) | (obtain ⟨_, _, rfl, _⟩ := h; rfl) | (obtain ⟨_, _, _, rfl, _⟩ := h; rfl) | (obtain ⟨_, _, _, _, rfl, _⟩ := h; rfl) | (obtain ⟨_, _, _, _, _, rfl, _⟩ := h; rfl) | (obtain ⟨_, _, _, _, _, _, rfl, _⟩ := h; rfl)
theorem l_fs_show_question (d : Nat) : ∀ (vs : List Val) (m : Store) (Q : Val → Store → Prop) (R : Rq), (fs_show_question d) vs m Q R → vs.length = 1 := by
  intro vs m Q R h
  first | (obtain ⟨rfl, _⟩ := h; rfl) | (obtain ⟨_, rfl, _⟩ := h; rfl) | (obtain ⟨_, _, rfl, _⟩ := h; rfl) | (obtain ⟨_, _, _, rfl, _⟩ := h; rfl) | (obtain ⟨_, _, _, _, rfl, _⟩ := h; rfl) | (obtain ⟨_, _, _, _, _, rfl, _⟩ := h; rfl) | (obtain ⟨_, _, _, _, _, _, rfl, _⟩ := h; rfl)
theorem l_fs_show_step : ∀ (vs : List Val) (m : Store) (Q : Val → Store → Prop) (R : Rq), fs_show_step vs m Q R → vs.length = 1 := by
  intro vs m Q R h
  first | (obtain ⟨rfl, _⟩ := h; rfl) | (obtain ⟨_, rfl, _⟩ := h; rfl) | (obtain ⟨_, _, rfl, _⟩ := h; rfl) | (obtain ⟨_, _, _, rfl, _⟩ := h; rfl) | (obtain ⟨_, _, _, _, rfl, _⟩ := h; rfl) | (obtain ⟨_, _, _, _, _, rfl, _⟩ := h; rfl) | (obtain ⟨_, _, _, _, _, _, rfl, _⟩ := h; rfl)
theorem l_fs_show_run : ∀ (vs : List Val) (m : Store) (Q : Val → Store → Prop) (R : Rq), fs_show_run vs m Q R → vs.length = 1 := by
  intro vs m Q R h
  first | (obtain ⟨rfl, _⟩ := h; rfl) | (obtain ⟨_, rfl, _⟩ := h; rfl) | (obtain ⟨_, _, rfl, _⟩ := h; rfl) | (obtain ⟨_, _, _, rfl, _⟩ := h; rfl) | (obtain ⟨_, _, _, _, rfl, _⟩ := h; rfl) | (obtain ⟨_, _, _, _, _, rfl, _⟩ := h; rfl) | (obtain ⟨_, _, _, _, _, _, rfl, _⟩ := h; rfl)
theorem l_fs_part_in : ∀ (vs : List Val) (m : Store) (Q : Val → Store → Prop) (R : Rq), fs_part_in vs m Q R → vs.length = 2 := by
  intro vs m Q R h
  first | (obtain ⟨rfl, _⟩ := h; rfl) | (obtain ⟨_, rfl, _⟩ := h; rfl) | (obtain ⟨_, _, rfl, _⟩ := h; rfl) | (obtain ⟨_, _, _, rfl, _⟩ := h; rfl) | (obtain ⟨_, _, _, _, rfl, _⟩ := h; rfl) | (obtain ⟨_, _, _, _, _, rfl, _⟩ := h; rfl) | (obtain ⟨_, _, _, _, _, _, rfl, _⟩ := h; rfl)
theorem l_fs_fact_in : ∀ (vs : List Val) (m : Store) (Q : Val → Store → Prop) (R : Rq), fs_fact_in vs m Q R → vs.length = 1 := by
  intro vs m Q R h
  first | (obtain ⟨rfl, _⟩ := h; rfl) | (obtain ⟨_, rfl, _⟩ := h; rfl) | (obtain ⟨_, _, rfl, _⟩ := h; rfl) | (obtain ⟨_, _, _, rfl, _⟩ := h; rfl) | (obtain ⟨_, _, _, _, rfl, _⟩ := h; rfl) | (obtain ⟨_, _, _, _, _, rfl, _⟩ := h; rfl) | (obtain ⟨_, _, _, _, _, _, rfl, _⟩ := h; rfl)
theorem l_fs_question_in (d : Nat) : ∀ (vs : List Val) (m : Store) (Q : Val → Store → Prop) (R : Rq), (fs_question_in d) vs m Q R → vs.length = 2 := by
  intro vs m Q R h
  first | (obtain ⟨rfl, _⟩ := h; rfl) | (obtain ⟨_, rfl, _⟩ := h; rfl) | (obtain ⟨_, _, rfl, _⟩ := h; rfl) | (obtain ⟨_, _, _, rfl, _⟩ := h; rfl) | (obtain ⟨_, _, _, _, rfl, _⟩ := h; rfl) | (obtain ⟨_, _, _, _, _, rfl, _⟩ := h; rfl) | (obtain ⟨_, _, _, _, _, _, rfl, _⟩ := h; rfl)
theorem l_fs_question_of : ∀ (vs : List Val) (m : Store) (Q : Val → Store → Prop) (R : Rq), fs_question_of vs m Q R → vs.length = 1 := by
  intro vs m Q R h
  first | (obtain ⟨rfl, _⟩ := h; rfl) | (obtain ⟨_, rfl, _⟩ := h; rfl) | (obtain ⟨_, _, rfl, _⟩ := h; rfl) | (obtain ⟨_, _, _, rfl, _⟩ := h; rfl) | (obtain ⟨_, _, _, _, rfl, _⟩ := h; rfl) | (obtain ⟨_, _, _, _, _, rfl, _⟩ := h; rfl) | (obtain ⟨_, _, _, _, _, _, rfl, _⟩ := h; rfl)
theorem l_fs_step_in : ∀ (vs : List Val) (m : Store) (Q : Val → Store → Prop) (R : Rq), fs_step_in vs m Q R → vs.length = 1 := by
  intro vs m Q R h
  first | (obtain ⟨rfl, _⟩ := h; rfl) | (obtain ⟨_, rfl, _⟩ := h; rfl) | (obtain ⟨_, _, rfl, _⟩ := h; rfl) | (obtain ⟨_, _, _, rfl, _⟩ := h; rfl) | (obtain ⟨_, _, _, _, rfl, _⟩ := h; rfl) | (obtain ⟨_, _, _, _, _, rfl, _⟩ := h; rfl) | (obtain ⟨_, _, _, _, _, _, rfl, _⟩ := h; rfl)
theorem l_fs_run_in : ∀ (vs : List Val) (m : Store) (Q : Val → Store → Prop) (R : Rq), fs_run_in vs m Q R → vs.length = 1 := by
  intro vs m Q R h
  first | (obtain ⟨rfl, _⟩ := h; rfl) | (obtain ⟨_, rfl, _⟩ := h; rfl) | (obtain ⟨_, _, rfl, _⟩ := h; rfl) | (obtain ⟨_, _, _, rfl, _⟩ := h; rfl) | (obtain ⟨_, _, _, _, rfl, _⟩ := h; rfl) | (obtain ⟨_, _, _, _, _, rfl, _⟩ := h; rfl) | (obtain ⟨_, _, _, _, _, _, rfl, _⟩ := h; rfl)
theorem l_fs_check_shown : ∀ (vs : List Val) (m : Store) (Q : Val → Store → Prop) (R : Rq), fs_check_shown vs m Q R → vs.length = 2 := by
  intro vs m Q R h
  first | (obtain ⟨rfl, _⟩ := h; rfl) | (obtain ⟨_, rfl, _⟩ := h; rfl) | (obtain ⟨_, _, rfl, _⟩ := h; rfl) | (obtain ⟨_, _, _, rfl, _⟩ := h; rfl) | (obtain ⟨_, _, _, _, rfl, _⟩ := h; rfl) | (obtain ⟨_, _, _, _, _, rfl, _⟩ := h; rfl) | (obtain ⟨_, _, _, _, _, _, rfl, _⟩ := h; rfl)
theorem l_fs_read_question : ∀ (vs : List Val) (m : Store) (Q : Val → Store → Prop) (R : Rq), fs_read_question vs m Q R → vs.length = 1 := by
  intro vs m Q R h
  first | (obtain ⟨rfl, _⟩ := h; rfl) | (obtain ⟨_, rfl, _⟩ := h; rfl) | (obtain ⟨_, _, rfl, _⟩ := h; rfl) | (obtain ⟨_, _, _, rfl, _⟩ := h; rfl) | (obtain ⟨_, _, _, _, rfl, _⟩ := h; rfl) | (obtain ⟨_, _, _, _, _, rfl, _⟩ := h; rfl) | (obtain ⟨_, _, _, _, _, _, rfl, _⟩ := h; rfl)
theorem l_fs_read_run : ∀ (vs : List Val) (m : Store) (Q : Val → Store → Prop) (R : Rq), fs_read_run vs m Q R → vs.length = 1 := by
  intro vs m Q R h
  first | (obtain ⟨rfl, _⟩ := h; rfl) | (obtain ⟨_, rfl, _⟩ := h; rfl) | (obtain ⟨_, _, rfl, _⟩ := h; rfl) | (obtain ⟨_, _, _, rfl, _⟩ := h; rfl) | (obtain ⟨_, _, _, _, rfl, _⟩ := h; rfl) | (obtain ⟨_, _, _, _, _, rfl, _⟩ := h; rfl) | (obtain ⟨_, _, _, _, _, _, rfl, _⟩ := h; rfl)
theorem l_fsPot : ∀ (vs : List Val) (m : Store) (Q : Val → Store → Prop) (R : Rq), fsPot vs m Q R → vs.length = 2 := by
  intro vs m Q R h
  first | (obtain ⟨rfl, _⟩ := h; rfl) | (obtain ⟨_, rfl, _⟩ := h; rfl) | (obtain ⟨_, _, rfl, _⟩ := h; rfl) | (obtain ⟨_, _, _, rfl, _⟩ := h; rfl) | (obtain ⟨_, _, _, _, rfl, _⟩ := h; rfl) | (obtain ⟨_, _, _, _, _, rfl, _⟩ := h; rfl) | (obtain ⟨_, _, _, _, _, _, rfl, _⟩ := h; rfl)
theorem l_fsTake : ∀ (vs : List Val) (m : Store) (Q : Val → Store → Prop) (R : Rq), fsTake vs m Q R → vs.length = 2 := by
  intro vs m Q R h
  first | (obtain ⟨rfl, _⟩ := h; rfl) | (obtain ⟨_, rfl, _⟩ := h; rfl) | (obtain ⟨_, _, rfl, _⟩ := h; rfl) | (obtain ⟨_, _, _, rfl, _⟩ := h; rfl) | (obtain ⟨_, _, _, _, rfl, _⟩ := h; rfl) | (obtain ⟨_, _, _, _, _, rfl, _⟩ := h; rfl) | (obtain ⟨_, _, _, _, _, _, rfl, _⟩ := h; rfl)
theorem l_fsOf : ∀ (vs : List Val) (m : Store) (Q : Val → Store → Prop) (R : Rq), fsOf vs m Q R → vs.length = 2 := by
  intro vs m Q R h
  first | (obtain ⟨rfl, _⟩ := h; rfl) | (obtain ⟨_, rfl, _⟩ := h; rfl) | (obtain ⟨_, _, rfl, _⟩ := h; rfl) | (obtain ⟨_, _, _, rfl, _⟩ := h; rfl) | (obtain ⟨_, _, _, _, rfl, _⟩ := h; rfl) | (obtain ⟨_, _, _, _, _, rfl, _⟩ := h; rfl) | (obtain ⟨_, _, _, _, _, _, rfl, _⟩ := h; rfl)
theorem l_fs_law_name : ∀ (vs : List Val) (m : Store) (Q : Val → Store → Prop) (R : Rq), fs_law_name vs m Q R → vs.length = 1 := by
  intro vs m Q R h
  first | (obtain ⟨rfl, _⟩ := h; rfl) | (obtain ⟨_, rfl, _⟩ := h; rfl) | (obtain ⟨_, _, rfl, _⟩ := h; rfl) | (obtain ⟨_, _, _, rfl, _⟩ := h; rfl) | (obtain ⟨_, _, _, _, rfl, _⟩ := h; rfl) | (obtain ⟨_, _, _, _, _, rfl, _⟩ := h; rfl) | (obtain ⟨_, _, _, _, _, _, rfl, _⟩ := h; rfl)
theorem l_fs_law_count : ∀ (vs : List Val) (m : Store) (Q : Val → Store → Prop) (R : Rq), fs_law_count vs m Q R → vs.length = 1 := by
  intro vs m Q R h
  first | (obtain ⟨rfl, _⟩ := h; rfl) | (obtain ⟨_, rfl, _⟩ := h; rfl) | (obtain ⟨_, _, rfl, _⟩ := h; rfl) | (obtain ⟨_, _, _, rfl, _⟩ := h; rfl) | (obtain ⟨_, _, _, _, rfl, _⟩ := h; rfl) | (obtain ⟨_, _, _, _, _, rfl, _⟩ := h; rfl) | (obtain ⟨_, _, _, _, _, _, rfl, _⟩ := h; rfl)
theorem l_fs_law_fact : ∀ (vs : List Val) (m : Store) (Q : Val → Store → Prop) (R : Rq), fs_law_fact vs m Q R → vs.length = 1 := by
  intro vs m Q R h
  first | (obtain ⟨rfl, _⟩ := h; rfl) | (obtain ⟨_, rfl, _⟩ := h; rfl) | (obtain ⟨_, _, rfl, _⟩ := h; rfl) | (obtain ⟨_, _, _, rfl, _⟩ := h; rfl) | (obtain ⟨_, _, _, _, rfl, _⟩ := h; rfl) | (obtain ⟨_, _, _, _, _, rfl, _⟩ := h; rfl) | (obtain ⟨_, _, _, _, _, _, rfl, _⟩ := h; rfl)
theorem l_fs_law_question (d : Nat) : ∀ (vs : List Val) (m : Store) (Q : Val → Store → Prop) (R : Rq), (fs_law_question d) vs m Q R → vs.length = 3 := by
  intro vs m Q R h
  first | (obtain ⟨rfl, _⟩ := h; rfl) | (obtain ⟨_, rfl, _⟩ := h; rfl) | (obtain ⟨_, _, rfl, _⟩ := h; rfl) | (obtain ⟨_, _, _, rfl, _⟩ := h; rfl) | (obtain ⟨_, _, _, _, rfl, _⟩ := h; rfl) | (obtain ⟨_, _, _, _, _, rfl, _⟩ := h; rfl) | (obtain ⟨_, _, _, _, _, _, rfl, _⟩ := h; rfl)
theorem l_fs_law_run : ∀ (vs : List Val) (m : Store) (Q : Val → Store → Prop) (R : Rq), fs_law_run vs m Q R → vs.length = 1 := by
  intro vs m Q R h
  first | (obtain ⟨rfl, _⟩ := h; rfl) | (obtain ⟨_, rfl, _⟩ := h; rfl) | (obtain ⟨_, _, rfl, _⟩ := h; rfl) | (obtain ⟨_, _, _, rfl, _⟩ := h; rfl) | (obtain ⟨_, _, _, _, rfl, _⟩ := h; rfl) | (obtain ⟨_, _, _, _, _, rfl, _⟩ := h; rfl) | (obtain ⟨_, _, _, _, _, _, rfl, _⟩ := h; rfl)
theorem l_fs_law_right : ∀ (vs : List Val) (m : Store) (Q : Val → Store → Prop) (R : Rq), fs_law_right vs m Q R → vs.length = 1 := by
  intro vs m Q R h
  first | (obtain ⟨rfl, _⟩ := h; rfl) | (obtain ⟨_, rfl, _⟩ := h; rfl) | (obtain ⟨_, _, rfl, _⟩ := h; rfl) | (obtain ⟨_, _, _, rfl, _⟩ := h; rfl) | (obtain ⟨_, _, _, _, rfl, _⟩ := h; rfl) | (obtain ⟨_, _, _, _, _, rfl, _⟩ := h; rfl) | (obtain ⟨_, _, _, _, _, _, rfl, _⟩ := h; rfl)
theorem l_fs_law : ∀ (vs : List Val) (m : Store) (Q : Val → Store → Prop) (R : Rq), fs_law vs m Q R → vs.length = 1 := by
  intro vs m Q R h
  first | (obtain ⟨rfl, _⟩ := h; rfl) | (obtain ⟨_, rfl, _⟩ := h; rfl) | (obtain ⟨_, _, rfl, _⟩ := h; rfl) | (obtain ⟨_, _, _, rfl, _⟩ := h; rfl) | (obtain ⟨_, _, _, _, rfl, _⟩ := h; rfl) | (obtain ⟨_, _, _, _, _, rfl, _⟩ := h; rfl) | (obtain ⟨_, _, _, _, _, _, rfl, _⟩ := h; rfl)
def ds : List DefI := [
  ⟨"is_name", s_is_name, n_is_name, p_is_name, b_is_name, fs_is_name, vw0⟩,
  ⟨"number_in", s_number_in, n_number_in, p_number_in, b_number_in, fs_number_in, vw0⟩,
  ⟨"shown_part", s_shown_part, n_shown_part, p_shown_part, b_shown_part, fs_shown_part, vw0⟩,
  ⟨"show_question", s_show_question, n_show_question, p_show_question, b_show_question, (fs_show_question 0), (fun f => if f = i_show_question then 3 else vw0 f)⟩,
  ⟨"show_question", s_show_question, n_show_question, p_show_question, b_show_question, (fs_show_question 1), (fun f => if f = i_show_question then 3 else vw0 f)⟩,
  ⟨"show_question", s_show_question, n_show_question, p_show_question, b_show_question, (fs_show_question 2), (fun f => if f = i_show_question then 4 else vw0 f)⟩,
  ⟨"show_question", s_show_question, n_show_question, p_show_question, b_show_question, (fs_show_question 3), (fun f => if f = i_show_question then 5 else vw0 f)⟩,
  ⟨"show_question", s_show_question, n_show_question, p_show_question, b_show_question, (fs_show_question 4), (fun f => if f = i_show_question then 6 else vw0 f)⟩,
  ⟨"show_step", s_show_step, n_show_step, p_show_step, b_show_step, fs_show_step, vw0⟩,
  ⟨"show_run", s_show_run, n_show_run, p_show_run, b_show_run, fs_show_run, vw0⟩,
  ⟨"part_in", s_part_in, n_part_in, p_part_in, b_part_in, fs_part_in, vw0⟩,
  ⟨"fact_in", s_fact_in, n_fact_in, p_fact_in, b_fact_in, fs_fact_in, vw0⟩,
  ⟨"question_in", s_question_in, n_question_in, p_question_in, b_question_in, (fs_question_in 0), (fun f => if f = i_question_in then 12 else vw0 f)⟩,
  ⟨"question_in", s_question_in, n_question_in, p_question_in, b_question_in, (fs_question_in 1), (fun f => if f = i_question_in then 12 else vw0 f)⟩,
  ⟨"question_in", s_question_in, n_question_in, p_question_in, b_question_in, (fs_question_in 2), (fun f => if f = i_question_in then 13 else vw0 f)⟩,
  ⟨"question_in", s_question_in, n_question_in, p_question_in, b_question_in, (fs_question_in 3), (fun f => if f = i_question_in then 14 else vw0 f)⟩,
  ⟨"question_in", s_question_in, n_question_in, p_question_in, b_question_in, (fs_question_in 4), (fun f => if f = i_question_in then 15 else vw0 f)⟩,
  ⟨"question_of", s_question_of, n_question_of, p_question_of, b_question_of, fs_question_of, vw0⟩,
  ⟨"step_in", s_step_in, n_step_in, p_step_in, b_step_in, fs_step_in, vw0⟩,
  ⟨"run_in", s_run_in, n_run_in, p_run_in, b_run_in, fs_run_in, vw0⟩,
  ⟨"check_shown", s_check_shown, n_check_shown, p_check_shown, b_check_shown, fs_check_shown, vw0⟩,
  ⟨"read_question", s_read_question, n_read_question, p_read_question, b_read_question, fs_read_question, vw0⟩,
  ⟨"read_run", s_read_run, n_read_run, p_read_run, b_read_run, fs_read_run, vw0⟩,
  ⟨"_law_pot", s_law_pot, n_law_pot, p_law_pot, b_law_pot, fsPot, vw0⟩,
  ⟨"_law_take", s_law_take, n_law_take, p_law_take, b_law_take, fsTake, vw0⟩,
  ⟨"_law_of", s_law_of, n_law_of, p_law_of, b_law_of, fsOf, vw0⟩,
  ⟨"_law_name", s_law_name, n_law_name, p_law_name, b_law_name, fs_law_name, vw0⟩,
  ⟨"_law_count", s_law_count, n_law_count, p_law_count, b_law_count, fs_law_count, vw0⟩,
  ⟨"_law_fact", s_law_fact, n_law_fact, p_law_fact, b_law_fact, fs_law_fact, vw0⟩,
  ⟨"_law_question", s_law_question, n_law_question, p_law_question, b_law_question, (fs_law_question 0), (fun f => if f = i_law_question then 29 else vw0 f)⟩,
  ⟨"_law_question", s_law_question, n_law_question, p_law_question, b_law_question, (fs_law_question 1), (fun f => if f = i_law_question then 29 else vw0 f)⟩,
  ⟨"_law_question", s_law_question, n_law_question, p_law_question, b_law_question, (fs_law_question 2), (fun f => if f = i_law_question then 30 else vw0 f)⟩,
  ⟨"_law_question", s_law_question, n_law_question, p_law_question, b_law_question, (fs_law_question 3), (fun f => if f = i_law_question then 31 else vw0 f)⟩,
  ⟨"_law_question", s_law_question, n_law_question, p_law_question, b_law_question, (fs_law_question 4), (fun f => if f = i_law_question then 32 else vw0 f)⟩,
  ⟨"_law_question_text", s_law_question_text, n_law_question_text, p_law_question_text, b_law_question_text, (fs_show_question 0), (fun f => if f = i_law_question_text then 34 else vw0 f)⟩,
  ⟨"_law_question_text", s_law_question_text, n_law_question_text, p_law_question_text, b_law_question_text, (fs_show_question 1), (fun f => if f = i_law_question_text then 34 else vw0 f)⟩,
  ⟨"_law_question_text", s_law_question_text, n_law_question_text, p_law_question_text, b_law_question_text, (fs_show_question 2), (fun f => if f = i_law_question_text then 35 else vw0 f)⟩,
  ⟨"_law_question_text", s_law_question_text, n_law_question_text, p_law_question_text, b_law_question_text, (fs_show_question 3), (fun f => if f = i_law_question_text then 36 else vw0 f)⟩,
  ⟨"_law_question_text", s_law_question_text, n_law_question_text, p_law_question_text, b_law_question_text, (fs_show_question 4), (fun f => if f = i_law_question_text then 37 else vw0 f)⟩,
  ⟨"_law_run", s_law_run, n_law_run, p_law_run, b_law_run, fs_law_run, vw0⟩,
  ⟨"_law_run_text", s_law_run_text, n_law_run_text, p_law_run_text, b_law_run_text, fs_show_run, vw0⟩,
  ⟨"_law_right", s_law_right, n_law_right, p_law_right, b_law_right, fs_law_right, vw0⟩,
  ⟨"law", s_law, n_law, p_law, b_law, fs_law, vw0⟩]
theorem g_0 : GoodD gl bl fns kd (ds.map (·.fs)) 0 ⟨"is_name", s_is_name, n_is_name, p_is_name, b_is_name, fs_is_name, vw0⟩ := ⟨sc_is_name, c_is_name, (m_is_name ), l_fs_is_name, fun _ _ _ _ _ _ us hl => match us, hl with | [_], _ => rfl⟩
theorem g_1 : GoodD gl bl fns kd (ds.map (·.fs)) 1 ⟨"number_in", s_number_in, n_number_in, p_number_in, b_number_in, fs_number_in, vw0⟩ := ⟨sc_number_in, c_number_in, (m_number_in ), l_fs_number_in, fun _ _ _ _ _ _ us hl => match us, hl with | [_], _ => rfl⟩
theorem g_2 : GoodD gl bl fns kd (ds.map (·.fs)) 2 ⟨"shown_part", s_shown_part, n_shown_part, p_shown_part, b_shown_part, fs_shown_part, vw0⟩ := ⟨sc_shown_part, c_shown_part, (m_shown_part ), l_fs_shown_part, fun _ _ _ _ _ _ us hl => match us, hl with | [_], _ => rfl⟩
theorem g_3 : GoodD gl bl fns kd (ds.map (·.fs)) 3 ⟨"show_question", s_show_question, n_show_question, p_show_question, b_show_question, (fs_show_question 0), (fun f => if f = i_show_question then 3 else vw0 f)⟩ := ⟨sc_show_question, c_show_question, (m_show_question 0 rfl rfl), (l_fs_show_question 0), fun _ _ _ _ _ _ us hl => match us, hl with | [_], _ => rfl⟩
theorem g_4 : GoodD gl bl fns kd (ds.map (·.fs)) 4 ⟨"show_question", s_show_question, n_show_question, p_show_question, b_show_question, (fs_show_question 1), (fun f => if f = i_show_question then 3 else vw0 f)⟩ := ⟨sc_show_question, c_show_question, (m_show_question 1 rfl rfl), (l_fs_show_question 1), fun _ _ _ _ _ _ us hl => match us, hl with | [_], _ => rfl⟩
theorem g_5 : GoodD gl bl fns kd (ds.map (·.fs)) 5 ⟨"show_question", s_show_question, n_show_question, p_show_question, b_show_question, (fs_show_question 2), (fun f => if f = i_show_question then 4 else vw0 f)⟩ := ⟨sc_show_question, c_show_question, (m_show_question 2 rfl rfl), (l_fs_show_question 2), fun _ _ _ _ _ _ us hl => match us, hl with | [_], _ => rfl⟩
theorem g_6 : GoodD gl bl fns kd (ds.map (·.fs)) 6 ⟨"show_question", s_show_question, n_show_question, p_show_question, b_show_question, (fs_show_question 3), (fun f => if f = i_show_question then 5 else vw0 f)⟩ := ⟨sc_show_question, c_show_question, (m_show_question 3 rfl rfl), (l_fs_show_question 3), fun _ _ _ _ _ _ us hl => match us, hl with | [_], _ => rfl⟩
theorem g_7 : GoodD gl bl fns kd (ds.map (·.fs)) 7 ⟨"show_question", s_show_question, n_show_question, p_show_question, b_show_question, (fs_show_question 4), (fun f => if f = i_show_question then 6 else vw0 f)⟩ := ⟨sc_show_question, c_show_question, (m_show_question 4 rfl rfl), (l_fs_show_question 4), fun _ _ _ _ _ _ us hl => match us, hl with | [_], _ => rfl⟩
theorem g_8 : GoodD gl bl fns kd (ds.map (·.fs)) 8 ⟨"show_step", s_show_step, n_show_step, p_show_step, b_show_step, fs_show_step, vw0⟩ := ⟨sc_show_step, c_show_step, (m_show_step ), l_fs_show_step, fun _ _ _ _ _ _ us hl => match us, hl with | [_], _ => rfl⟩
theorem g_9 : GoodD gl bl fns kd (ds.map (·.fs)) 9 ⟨"show_run", s_show_run, n_show_run, p_show_run, b_show_run, fs_show_run, vw0⟩ := ⟨sc_show_run, c_show_run, (m_show_run rfl), l_fs_show_run, fun _ _ _ _ _ _ us hl => match us, hl with | [_], _ => rfl⟩
theorem g_10 : GoodD gl bl fns kd (ds.map (·.fs)) 10 ⟨"part_in", s_part_in, n_part_in, p_part_in, b_part_in, fs_part_in, vw0⟩ := ⟨sc_part_in, c_part_in, (m_part_in rfl rfl), l_fs_part_in, fun _ _ _ _ _ _ us hl => match us, hl with | [_, _], _ => rfl⟩
theorem g_11 : GoodD gl bl fns kd (ds.map (·.fs)) 11 ⟨"fact_in", s_fact_in, n_fact_in, p_fact_in, b_fact_in, fs_fact_in, vw0⟩ := ⟨sc_fact_in, c_fact_in, (m_fact_in rfl), l_fs_fact_in, fun _ _ _ _ _ _ us hl => match us, hl with | [_], _ => rfl⟩
theorem g_12 : GoodD gl bl fns kd (ds.map (·.fs)) 12 ⟨"question_in", s_question_in, n_question_in, p_question_in, b_question_in, (fs_question_in 0), (fun f => if f = i_question_in then 12 else vw0 f)⟩ := ⟨sc_question_in, c_question_in, (m_question_in 0 rfl rfl rfl), (l_fs_question_in 0), fun _ _ _ _ _ _ us hl => match us, hl with | [_, _], _ => rfl⟩
theorem g_13 : GoodD gl bl fns kd (ds.map (·.fs)) 13 ⟨"question_in", s_question_in, n_question_in, p_question_in, b_question_in, (fs_question_in 1), (fun f => if f = i_question_in then 12 else vw0 f)⟩ := ⟨sc_question_in, c_question_in, (m_question_in 1 rfl rfl rfl), (l_fs_question_in 1), fun _ _ _ _ _ _ us hl => match us, hl with | [_, _], _ => rfl⟩
theorem g_14 : GoodD gl bl fns kd (ds.map (·.fs)) 14 ⟨"question_in", s_question_in, n_question_in, p_question_in, b_question_in, (fs_question_in 2), (fun f => if f = i_question_in then 13 else vw0 f)⟩ := ⟨sc_question_in, c_question_in, (m_question_in 2 rfl rfl rfl), (l_fs_question_in 2), fun _ _ _ _ _ _ us hl => match us, hl with | [_, _], _ => rfl⟩
theorem g_15 : GoodD gl bl fns kd (ds.map (·.fs)) 15 ⟨"question_in", s_question_in, n_question_in, p_question_in, b_question_in, (fs_question_in 3), (fun f => if f = i_question_in then 14 else vw0 f)⟩ := ⟨sc_question_in, c_question_in, (m_question_in 3 rfl rfl rfl), (l_fs_question_in 3), fun _ _ _ _ _ _ us hl => match us, hl with | [_, _], _ => rfl⟩
theorem g_16 : GoodD gl bl fns kd (ds.map (·.fs)) 16 ⟨"question_in", s_question_in, n_question_in, p_question_in, b_question_in, (fs_question_in 4), (fun f => if f = i_question_in then 15 else vw0 f)⟩ := ⟨sc_question_in, c_question_in, (m_question_in 4 rfl rfl rfl), (l_fs_question_in 4), fun _ _ _ _ _ _ us hl => match us, hl with | [_, _], _ => rfl⟩
theorem g_17 : GoodD gl bl fns kd (ds.map (·.fs)) 17 ⟨"question_of", s_question_of, n_question_of, p_question_of, b_question_of, fs_question_of, vw0⟩ := ⟨sc_question_of, c_question_of, (m_question_of rfl), l_fs_question_of, fun _ _ _ _ _ _ us hl => match us, hl with | [_], _ => rfl⟩
theorem g_18 : GoodD gl bl fns kd (ds.map (·.fs)) 18 ⟨"step_in", s_step_in, n_step_in, p_step_in, b_step_in, fs_step_in, vw0⟩ := ⟨sc_step_in, c_step_in, (m_step_in rfl), l_fs_step_in, fun _ _ _ _ _ _ us hl => match us, hl with | [_], _ => rfl⟩
theorem g_19 : GoodD gl bl fns kd (ds.map (·.fs)) 19 ⟨"run_in", s_run_in, n_run_in, p_run_in, b_run_in, fs_run_in, vw0⟩ := ⟨sc_run_in, c_run_in, (m_run_in rfl), l_fs_run_in, fun _ _ _ _ _ _ us hl => match us, hl with | [_], _ => rfl⟩
theorem g_20 : GoodD gl bl fns kd (ds.map (·.fs)) 20 ⟨"check_shown", s_check_shown, n_check_shown, p_check_shown, b_check_shown, fs_check_shown, vw0⟩ := ⟨sc_check_shown, c_check_shown, (m_check_shown ), l_fs_check_shown, fun _ _ _ _ _ _ us hl => match us, hl with | [_, _], _ => rfl⟩
theorem g_21 : GoodD gl bl fns kd (ds.map (·.fs)) 21 ⟨"read_question", s_read_question, n_read_question, p_read_question, b_read_question, fs_read_question, vw0⟩ := ⟨sc_read_question, c_read_question, (m_read_question rfl rfl), l_fs_read_question, fun _ _ _ _ _ _ us hl => match us, hl with | [_], _ => rfl⟩
theorem g_22 : GoodD gl bl fns kd (ds.map (·.fs)) 22 ⟨"read_run", s_read_run, n_read_run, p_read_run, b_read_run, fs_read_run, vw0⟩ := ⟨sc_read_run, c_read_run, (m_read_run rfl rfl), l_fs_read_run, fun _ _ _ _ _ _ us hl => match us, hl with | [_], _ => rfl⟩
theorem g_23 : GoodD gl bl fns kd (ds.map (·.fs)) 23 ⟨"_law_pot", s_law_pot, n_law_pot, p_law_pot, b_law_pot, fsPot, vw0⟩ := ⟨sc_law_pot, c_law_pot, (m_law_pot ), l_fsPot, fun _ _ _ _ _ _ us hl => match us, hl with | [_, _], _ => rfl⟩
theorem g_24 : GoodD gl bl fns kd (ds.map (·.fs)) 24 ⟨"_law_take", s_law_take, n_law_take, p_law_take, b_law_take, fsTake, vw0⟩ := ⟨sc_law_take, c_law_take, (m_law_take ), l_fsTake, fun _ _ _ _ _ _ us hl => match us, hl with | [_, _], _ => rfl⟩
theorem g_25 : GoodD gl bl fns kd (ds.map (·.fs)) 25 ⟨"_law_of", s_law_of, n_law_of, p_law_of, b_law_of, fsOf, vw0⟩ := ⟨sc_law_of, c_law_of, (m_law_of rfl), l_fsOf, fun _ _ _ _ _ _ us hl => match us, hl with | [_, _], _ => rfl⟩
theorem g_26 : GoodD gl bl fns kd (ds.map (·.fs)) 26 ⟨"_law_name", s_law_name, n_law_name, p_law_name, b_law_name, fs_law_name, vw0⟩ := ⟨sc_law_name, c_law_name, (m_law_name rfl rfl), l_fs_law_name, fun _ _ _ _ _ _ us hl => match us, hl with | [_], _ => rfl⟩
theorem g_27 : GoodD gl bl fns kd (ds.map (·.fs)) 27 ⟨"_law_count", s_law_count, n_law_count, p_law_count, b_law_count, fs_law_count, vw0⟩ := ⟨sc_law_count, c_law_count, (m_law_count rfl rfl), l_fs_law_count, fun _ _ _ _ _ _ us hl => match us, hl with | [_], _ => rfl⟩
theorem g_28 : GoodD gl bl fns kd (ds.map (·.fs)) 28 ⟨"_law_fact", s_law_fact, n_law_fact, p_law_fact, b_law_fact, fs_law_fact, vw0⟩ := ⟨sc_law_fact, c_law_fact, (m_law_fact rfl rfl rfl), l_fs_law_fact, fun _ _ _ _ _ _ us hl => match us, hl with | [_], _ => rfl⟩
theorem g_29 : GoodD gl bl fns kd (ds.map (·.fs)) 29 ⟨"_law_question", s_law_question, n_law_question, p_law_question, b_law_question, (fs_law_question 0), (fun f => if f = i_law_question then 29 else vw0 f)⟩ := ⟨sc_law_question, c_law_question, (m_law_question 0 rfl rfl rfl), (l_fs_law_question 0), fun _ _ _ _ _ _ us hl => match us, hl with | [_, _, _], _ => rfl⟩
theorem g_30 : GoodD gl bl fns kd (ds.map (·.fs)) 30 ⟨"_law_question", s_law_question, n_law_question, p_law_question, b_law_question, (fs_law_question 1), (fun f => if f = i_law_question then 29 else vw0 f)⟩ := ⟨sc_law_question, c_law_question, (m_law_question 1 rfl rfl rfl), (l_fs_law_question 1), fun _ _ _ _ _ _ us hl => match us, hl with | [_, _, _], _ => rfl⟩
theorem g_31 : GoodD gl bl fns kd (ds.map (·.fs)) 31 ⟨"_law_question", s_law_question, n_law_question, p_law_question, b_law_question, (fs_law_question 2), (fun f => if f = i_law_question then 30 else vw0 f)⟩ := ⟨sc_law_question, c_law_question, (m_law_question 2 rfl rfl rfl), (l_fs_law_question 2), fun _ _ _ _ _ _ us hl => match us, hl with | [_, _, _], _ => rfl⟩
theorem g_32 : GoodD gl bl fns kd (ds.map (·.fs)) 32 ⟨"_law_question", s_law_question, n_law_question, p_law_question, b_law_question, (fs_law_question 3), (fun f => if f = i_law_question then 31 else vw0 f)⟩ := ⟨sc_law_question, c_law_question, (m_law_question 3 rfl rfl rfl), (l_fs_law_question 3), fun _ _ _ _ _ _ us hl => match us, hl with | [_, _, _], _ => rfl⟩
theorem g_33 : GoodD gl bl fns kd (ds.map (·.fs)) 33 ⟨"_law_question", s_law_question, n_law_question, p_law_question, b_law_question, (fs_law_question 4), (fun f => if f = i_law_question then 32 else vw0 f)⟩ := ⟨sc_law_question, c_law_question, (m_law_question 4 rfl rfl rfl), (l_fs_law_question 4), fun _ _ _ _ _ _ us hl => match us, hl with | [_, _, _], _ => rfl⟩
theorem g_34 : GoodD gl bl fns kd (ds.map (·.fs)) 34 ⟨"_law_question_text", s_law_question_text, n_law_question_text, p_law_question_text, b_law_question_text, (fs_show_question 0), (fun f => if f = i_law_question_text then 34 else vw0 f)⟩ := ⟨sc_law_question_text, c_law_question_text, (m_law_question_text 0 rfl), (l_fs_show_question 0), fun _ _ _ _ _ _ us hl => match us, hl with | [_], _ => rfl⟩
theorem g_35 : GoodD gl bl fns kd (ds.map (·.fs)) 35 ⟨"_law_question_text", s_law_question_text, n_law_question_text, p_law_question_text, b_law_question_text, (fs_show_question 1), (fun f => if f = i_law_question_text then 34 else vw0 f)⟩ := ⟨sc_law_question_text, c_law_question_text, (m_law_question_text 1 rfl), (l_fs_show_question 1), fun _ _ _ _ _ _ us hl => match us, hl with | [_], _ => rfl⟩
theorem g_36 : GoodD gl bl fns kd (ds.map (·.fs)) 36 ⟨"_law_question_text", s_law_question_text, n_law_question_text, p_law_question_text, b_law_question_text, (fs_show_question 2), (fun f => if f = i_law_question_text then 35 else vw0 f)⟩ := ⟨sc_law_question_text, c_law_question_text, (m_law_question_text 2 rfl), (l_fs_show_question 2), fun _ _ _ _ _ _ us hl => match us, hl with | [_], _ => rfl⟩
theorem g_37 : GoodD gl bl fns kd (ds.map (·.fs)) 37 ⟨"_law_question_text", s_law_question_text, n_law_question_text, p_law_question_text, b_law_question_text, (fs_show_question 3), (fun f => if f = i_law_question_text then 36 else vw0 f)⟩ := ⟨sc_law_question_text, c_law_question_text, (m_law_question_text 3 rfl), (l_fs_show_question 3), fun _ _ _ _ _ _ us hl => match us, hl with | [_], _ => rfl⟩
theorem g_38 : GoodD gl bl fns kd (ds.map (·.fs)) 38 ⟨"_law_question_text", s_law_question_text, n_law_question_text, p_law_question_text, b_law_question_text, (fs_show_question 4), (fun f => if f = i_law_question_text then 37 else vw0 f)⟩ := ⟨sc_law_question_text, c_law_question_text, (m_law_question_text 4 rfl), (l_fs_show_question 4), fun _ _ _ _ _ _ us hl => match us, hl with | [_], _ => rfl⟩
theorem g_39 : GoodD gl bl fns kd (ds.map (·.fs)) 39 ⟨"_law_run", s_law_run, n_law_run, p_law_run, b_law_run, fs_law_run, vw0⟩ := ⟨sc_law_run, c_law_run, (m_law_run rfl rfl rfl), l_fs_law_run, fun _ _ _ _ _ _ us hl => match us, hl with | [_], _ => rfl⟩
theorem g_40 : GoodD gl bl fns kd (ds.map (·.fs)) 40 ⟨"_law_run_text", s_law_run_text, n_law_run_text, p_law_run_text, b_law_run_text, fs_show_run, vw0⟩ := ⟨sc_law_run_text, c_law_run_text, (m_law_run_text ), l_fs_show_run, fun _ _ _ _ _ _ us hl => match us, hl with | [_], _ => rfl⟩
theorem g_41 : GoodD gl bl fns kd (ds.map (·.fs)) 41 ⟨"_law_right", s_law_right, n_law_right, p_law_right, b_law_right, fs_law_right, vw0⟩ := ⟨sc_law_right, c_law_right, (m_law_right rfl rfl rfl rfl rfl rfl rfl rfl), l_fs_law_right, fun _ _ _ _ _ _ us hl => match us, hl with | [_], _ => rfl⟩
theorem g_42 : GoodD gl bl fns kd (ds.map (·.fs)) 42 ⟨"law", s_law, n_law, p_law, b_law, fs_law, vw0⟩ := ⟨sc_law, c_law, (m_law rfl rfl), l_fs_law, fun _ _ _ _ _ _ us hl => match us, hl with | [_], _ => rfl⟩
theorem allG : AllG gl bl fns kd (ds.map (·.fs)) 0 ds := ⟨g_0, g_1, g_2, g_3, g_4, g_5, g_6, g_7, g_8, g_9, g_10, g_11, g_12, g_13, g_14, g_15, g_16, g_17, g_18, g_19, g_20, g_21, g_22, g_23, g_24, g_25, g_26, g_27, g_28, g_29, g_30, g_31, g_32, g_33, g_34, g_35, g_36, g_37, g_38, g_39, g_40, g_41, g_42, trivial⟩
theorem f_0 : AllF tab ds ⟨"is_name", s_is_name, n_is_name, p_is_name, b_is_name, fs_is_name, vw0⟩ fns := ⟨⟨_, rfl, _, rfl, rfl, rfl⟩, ⟨_, rfl, _, rfl, rfl, rfl⟩, ⟨_, rfl, _, rfl, rfl, rfl⟩, ⟨_, rfl, _, rfl, rfl, rfl⟩, ⟨_, rfl, _, rfl, rfl, rfl⟩, ⟨_, rfl, _, rfl, rfl, rfl⟩, ⟨_, rfl, _, rfl, rfl, rfl⟩, ⟨_, rfl, _, rfl, rfl, rfl⟩, ⟨_, rfl, _, rfl, rfl, rfl⟩, ⟨_, rfl, _, rfl, rfl, rfl⟩, ⟨_, rfl, _, rfl, rfl, rfl⟩, ⟨_, rfl, _, rfl, rfl, rfl⟩, ⟨_, rfl, _, rfl, rfl, rfl⟩, ⟨_, rfl, _, rfl, rfl, rfl⟩, ⟨_, rfl, _, rfl, rfl, rfl⟩, ⟨_, rfl, _, rfl, rfl, rfl⟩, ⟨_, rfl, _, rfl, rfl, rfl⟩, ⟨_, rfl, _, rfl, rfl, rfl⟩, ⟨_, rfl, _, rfl, rfl, rfl⟩, ⟨_, rfl, _, rfl, rfl, rfl⟩, ⟨_, rfl, _, rfl, rfl, rfl⟩, ⟨_, rfl, _, rfl, rfl, rfl⟩, ⟨_, rfl, _, rfl, rfl, rfl⟩, ⟨_, rfl, _, rfl, rfl, rfl⟩, ⟨_, rfl, _, rfl, rfl, rfl⟩, ⟨_, rfl, _, rfl, rfl, rfl⟩, ⟨_, rfl, _, rfl, rfl, rfl⟩, trivial⟩
theorem f_1 : AllF tab ds ⟨"number_in", s_number_in, n_number_in, p_number_in, b_number_in, fs_number_in, vw0⟩ fns := ⟨⟨_, rfl, _, rfl, rfl, rfl⟩, ⟨_, rfl, _, rfl, rfl, rfl⟩, ⟨_, rfl, _, rfl, rfl, rfl⟩, ⟨_, rfl, _, rfl, rfl, rfl⟩, ⟨_, rfl, _, rfl, rfl, rfl⟩, ⟨_, rfl, _, rfl, rfl, rfl⟩, ⟨_, rfl, _, rfl, rfl, rfl⟩, ⟨_, rfl, _, rfl, rfl, rfl⟩, ⟨_, rfl, _, rfl, rfl, rfl⟩, ⟨_, rfl, _, rfl, rfl, rfl⟩, ⟨_, rfl, _, rfl, rfl, rfl⟩, ⟨_, rfl, _, rfl, rfl, rfl⟩, ⟨_, rfl, _, rfl, rfl, rfl⟩, ⟨_, rfl, _, rfl, rfl, rfl⟩, ⟨_, rfl, _, rfl, rfl, rfl⟩, ⟨_, rfl, _, rfl, rfl, rfl⟩, ⟨_, rfl, _, rfl, rfl, rfl⟩, ⟨_, rfl, _, rfl, rfl, rfl⟩, ⟨_, rfl, _, rfl, rfl, rfl⟩, ⟨_, rfl, _, rfl, rfl, rfl⟩, ⟨_, rfl, _, rfl, rfl, rfl⟩, ⟨_, rfl, _, rfl, rfl, rfl⟩, ⟨_, rfl, _, rfl, rfl, rfl⟩, ⟨_, rfl, _, rfl, rfl, rfl⟩, ⟨_, rfl, _, rfl, rfl, rfl⟩, ⟨_, rfl, _, rfl, rfl, rfl⟩, ⟨_, rfl, _, rfl, rfl, rfl⟩, trivial⟩
theorem f_2 : AllF tab ds ⟨"shown_part", s_shown_part, n_shown_part, p_shown_part, b_shown_part, fs_shown_part, vw0⟩ fns := ⟨⟨_, rfl, _, rfl, rfl, rfl⟩, ⟨_, rfl, _, rfl, rfl, rfl⟩, ⟨_, rfl, _, rfl, rfl, rfl⟩, ⟨_, rfl, _, rfl, rfl, rfl⟩, ⟨_, rfl, _, rfl, rfl, rfl⟩, ⟨_, rfl, _, rfl, rfl, rfl⟩, ⟨_, rfl, _, rfl, rfl, rfl⟩, ⟨_, rfl, _, rfl, rfl, rfl⟩, ⟨_, rfl, _, rfl, rfl, rfl⟩, ⟨_, rfl, _, rfl, rfl, rfl⟩, ⟨_, rfl, _, rfl, rfl, rfl⟩, ⟨_, rfl, _, rfl, rfl, rfl⟩, ⟨_, rfl, _, rfl, rfl, rfl⟩, ⟨_, rfl, _, rfl, rfl, rfl⟩, ⟨_, rfl, _, rfl, rfl, rfl⟩, ⟨_, rfl, _, rfl, rfl, rfl⟩, ⟨_, rfl, _, rfl, rfl, rfl⟩, ⟨_, rfl, _, rfl, rfl, rfl⟩, ⟨_, rfl, _, rfl, rfl, rfl⟩, ⟨_, rfl, _, rfl, rfl, rfl⟩, ⟨_, rfl, _, rfl, rfl, rfl⟩, ⟨_, rfl, _, rfl, rfl, rfl⟩, ⟨_, rfl, _, rfl, rfl, rfl⟩, ⟨_, rfl, _, rfl, rfl, rfl⟩, ⟨_, rfl, _, rfl, rfl, rfl⟩, ⟨_, rfl, _, rfl, rfl, rfl⟩, ⟨_, rfl, _, rfl, rfl, rfl⟩, trivial⟩
theorem f_3 : AllF tab ds ⟨"show_question", s_show_question, n_show_question, p_show_question, b_show_question, (fs_show_question 0), (fun f => if f = i_show_question then 3 else vw0 f)⟩ fns := ⟨⟨_, rfl, _, rfl, rfl, rfl⟩, ⟨_, rfl, _, rfl, rfl, rfl⟩, ⟨_, rfl, _, rfl, rfl, rfl⟩, ⟨_, rfl, _, rfl, rfl, rfl⟩, ⟨_, rfl, _, rfl, rfl, rfl⟩, ⟨_, rfl, _, rfl, rfl, rfl⟩, ⟨_, rfl, _, rfl, rfl, rfl⟩, ⟨_, rfl, _, rfl, rfl, rfl⟩, ⟨_, rfl, _, rfl, rfl, rfl⟩, ⟨_, rfl, _, rfl, rfl, rfl⟩, ⟨_, rfl, _, rfl, rfl, rfl⟩, ⟨_, rfl, _, rfl, rfl, rfl⟩, ⟨_, rfl, _, rfl, rfl, rfl⟩, ⟨_, rfl, _, rfl, rfl, rfl⟩, ⟨_, rfl, _, rfl, rfl, rfl⟩, ⟨_, rfl, _, rfl, rfl, rfl⟩, ⟨_, rfl, _, rfl, rfl, rfl⟩, ⟨_, rfl, _, rfl, rfl, rfl⟩, ⟨_, rfl, _, rfl, rfl, rfl⟩, ⟨_, rfl, _, rfl, rfl, rfl⟩, ⟨_, rfl, _, rfl, rfl, rfl⟩, ⟨_, rfl, _, rfl, rfl, rfl⟩, ⟨_, rfl, _, rfl, rfl, rfl⟩, ⟨_, rfl, _, rfl, rfl, rfl⟩, ⟨_, rfl, _, rfl, rfl, rfl⟩, ⟨_, rfl, _, rfl, rfl, rfl⟩, ⟨_, rfl, _, rfl, rfl, rfl⟩, trivial⟩
theorem f_4 : AllF tab ds ⟨"show_question", s_show_question, n_show_question, p_show_question, b_show_question, (fs_show_question 1), (fun f => if f = i_show_question then 3 else vw0 f)⟩ fns := ⟨⟨_, rfl, _, rfl, rfl, rfl⟩, ⟨_, rfl, _, rfl, rfl, rfl⟩, ⟨_, rfl, _, rfl, rfl, rfl⟩, ⟨_, rfl, _, rfl, rfl, rfl⟩, ⟨_, rfl, _, rfl, rfl, rfl⟩, ⟨_, rfl, _, rfl, rfl, rfl⟩, ⟨_, rfl, _, rfl, rfl, rfl⟩, ⟨_, rfl, _, rfl, rfl, rfl⟩, ⟨_, rfl, _, rfl, rfl, rfl⟩, ⟨_, rfl, _, rfl, rfl, rfl⟩, ⟨_, rfl, _, rfl, rfl, rfl⟩, ⟨_, rfl, _, rfl, rfl, rfl⟩, ⟨_, rfl, _, rfl, rfl, rfl⟩, ⟨_, rfl, _, rfl, rfl, rfl⟩, ⟨_, rfl, _, rfl, rfl, rfl⟩, ⟨_, rfl, _, rfl, rfl, rfl⟩, ⟨_, rfl, _, rfl, rfl, rfl⟩, ⟨_, rfl, _, rfl, rfl, rfl⟩, ⟨_, rfl, _, rfl, rfl, rfl⟩, ⟨_, rfl, _, rfl, rfl, rfl⟩, ⟨_, rfl, _, rfl, rfl, rfl⟩, ⟨_, rfl, _, rfl, rfl, rfl⟩, ⟨_, rfl, _, rfl, rfl, rfl⟩, ⟨_, rfl, _, rfl, rfl, rfl⟩, ⟨_, rfl, _, rfl, rfl, rfl⟩, ⟨_, rfl, _, rfl, rfl, rfl⟩, ⟨_, rfl, _, rfl, rfl, rfl⟩, trivial⟩
theorem f_5 : AllF tab ds ⟨"show_question", s_show_question, n_show_question, p_show_question, b_show_question, (fs_show_question 2), (fun f => if f = i_show_question then 4 else vw0 f)⟩ fns := ⟨⟨_, rfl, _, rfl, rfl, rfl⟩, ⟨_, rfl, _, rfl, rfl, rfl⟩, ⟨_, rfl, _, rfl, rfl, rfl⟩, ⟨_, rfl, _, rfl, rfl, rfl⟩, ⟨_, rfl, _, rfl, rfl, rfl⟩, ⟨_, rfl, _, rfl, rfl, rfl⟩, ⟨_, rfl, _, rfl, rfl, rfl⟩, ⟨_, rfl, _, rfl, rfl, rfl⟩, ⟨_, rfl, _, rfl, rfl, rfl⟩, ⟨_, rfl, _, rfl, rfl, rfl⟩, ⟨_, rfl, _, rfl, rfl, rfl⟩, ⟨_, rfl, _, rfl, rfl, rfl⟩, ⟨_, rfl, _, rfl, rfl, rfl⟩, ⟨_, rfl, _, rfl, rfl, rfl⟩, ⟨_, rfl, _, rfl, rfl, rfl⟩, ⟨_, rfl, _, rfl, rfl, rfl⟩, ⟨_, rfl, _, rfl, rfl, rfl⟩, ⟨_, rfl, _, rfl, rfl, rfl⟩, ⟨_, rfl, _, rfl, rfl, rfl⟩, ⟨_, rfl, _, rfl, rfl, rfl⟩, ⟨_, rfl, _, rfl, rfl, rfl⟩, ⟨_, rfl, _, rfl, rfl, rfl⟩, ⟨_, rfl, _, rfl, rfl, rfl⟩, ⟨_, rfl, _, rfl, rfl, rfl⟩, ⟨_, rfl, _, rfl, rfl, rfl⟩, ⟨_, rfl, _, rfl, rfl, rfl⟩, ⟨_, rfl, _, rfl, rfl, rfl⟩, trivial⟩
theorem f_6 : AllF tab ds ⟨"show_question", s_show_question, n_show_question, p_show_question, b_show_question, (fs_show_question 3), (fun f => if f = i_show_question then 5 else vw0 f)⟩ fns := ⟨⟨_, rfl, _, rfl, rfl, rfl⟩, ⟨_, rfl, _, rfl, rfl, rfl⟩, ⟨_, rfl, _, rfl, rfl, rfl⟩, ⟨_, rfl, _, rfl, rfl, rfl⟩, ⟨_, rfl, _, rfl, rfl, rfl⟩, ⟨_, rfl, _, rfl, rfl, rfl⟩, ⟨_, rfl, _, rfl, rfl, rfl⟩, ⟨_, rfl, _, rfl, rfl, rfl⟩, ⟨_, rfl, _, rfl, rfl, rfl⟩, ⟨_, rfl, _, rfl, rfl, rfl⟩, ⟨_, rfl, _, rfl, rfl, rfl⟩, ⟨_, rfl, _, rfl, rfl, rfl⟩, ⟨_, rfl, _, rfl, rfl, rfl⟩, ⟨_, rfl, _, rfl, rfl, rfl⟩, ⟨_, rfl, _, rfl, rfl, rfl⟩, ⟨_, rfl, _, rfl, rfl, rfl⟩, ⟨_, rfl, _, rfl, rfl, rfl⟩, ⟨_, rfl, _, rfl, rfl, rfl⟩, ⟨_, rfl, _, rfl, rfl, rfl⟩, ⟨_, rfl, _, rfl, rfl, rfl⟩, ⟨_, rfl, _, rfl, rfl, rfl⟩, ⟨_, rfl, _, rfl, rfl, rfl⟩, ⟨_, rfl, _, rfl, rfl, rfl⟩, ⟨_, rfl, _, rfl, rfl, rfl⟩, ⟨_, rfl, _, rfl, rfl, rfl⟩, ⟨_, rfl, _, rfl, rfl, rfl⟩, ⟨_, rfl, _, rfl, rfl, rfl⟩, trivial⟩
theorem f_7 : AllF tab ds ⟨"show_question", s_show_question, n_show_question, p_show_question, b_show_question, (fs_show_question 4), (fun f => if f = i_show_question then 6 else vw0 f)⟩ fns := ⟨⟨_, rfl, _, rfl, rfl, rfl⟩, ⟨_, rfl, _, rfl, rfl, rfl⟩, ⟨_, rfl, _, rfl, rfl, rfl⟩, ⟨_, rfl, _, rfl, rfl, rfl⟩, ⟨_, rfl, _, rfl, rfl, rfl⟩, ⟨_, rfl, _, rfl, rfl, rfl⟩, ⟨_, rfl, _, rfl, rfl, rfl⟩, ⟨_, rfl, _, rfl, rfl, rfl⟩, ⟨_, rfl, _, rfl, rfl, rfl⟩, ⟨_, rfl, _, rfl, rfl, rfl⟩, ⟨_, rfl, _, rfl, rfl, rfl⟩, ⟨_, rfl, _, rfl, rfl, rfl⟩, ⟨_, rfl, _, rfl, rfl, rfl⟩, ⟨_, rfl, _, rfl, rfl, rfl⟩, ⟨_, rfl, _, rfl, rfl, rfl⟩, ⟨_, rfl, _, rfl, rfl, rfl⟩, ⟨_, rfl, _, rfl, rfl, rfl⟩, ⟨_, rfl, _, rfl, rfl, rfl⟩, ⟨_, rfl, _, rfl, rfl, rfl⟩, ⟨_, rfl, _, rfl, rfl, rfl⟩, ⟨_, rfl, _, rfl, rfl, rfl⟩, ⟨_, rfl, _, rfl, rfl, rfl⟩, ⟨_, rfl, _, rfl, rfl, rfl⟩, ⟨_, rfl, _, rfl, rfl, rfl⟩, ⟨_, rfl, _, rfl, rfl, rfl⟩, ⟨_, rfl, _, rfl, rfl, rfl⟩, ⟨_, rfl, _, rfl, rfl, rfl⟩, trivial⟩
theorem f_8 : AllF tab ds ⟨"show_step", s_show_step, n_show_step, p_show_step, b_show_step, fs_show_step, vw0⟩ fns := ⟨⟨_, rfl, _, rfl, rfl, rfl⟩, ⟨_, rfl, _, rfl, rfl, rfl⟩, ⟨_, rfl, _, rfl, rfl, rfl⟩, ⟨_, rfl, _, rfl, rfl, rfl⟩, ⟨_, rfl, _, rfl, rfl, rfl⟩, ⟨_, rfl, _, rfl, rfl, rfl⟩, ⟨_, rfl, _, rfl, rfl, rfl⟩, ⟨_, rfl, _, rfl, rfl, rfl⟩, ⟨_, rfl, _, rfl, rfl, rfl⟩, ⟨_, rfl, _, rfl, rfl, rfl⟩, ⟨_, rfl, _, rfl, rfl, rfl⟩, ⟨_, rfl, _, rfl, rfl, rfl⟩, ⟨_, rfl, _, rfl, rfl, rfl⟩, ⟨_, rfl, _, rfl, rfl, rfl⟩, ⟨_, rfl, _, rfl, rfl, rfl⟩, ⟨_, rfl, _, rfl, rfl, rfl⟩, ⟨_, rfl, _, rfl, rfl, rfl⟩, ⟨_, rfl, _, rfl, rfl, rfl⟩, ⟨_, rfl, _, rfl, rfl, rfl⟩, ⟨_, rfl, _, rfl, rfl, rfl⟩, ⟨_, rfl, _, rfl, rfl, rfl⟩, ⟨_, rfl, _, rfl, rfl, rfl⟩, ⟨_, rfl, _, rfl, rfl, rfl⟩, ⟨_, rfl, _, rfl, rfl, rfl⟩, ⟨_, rfl, _, rfl, rfl, rfl⟩, ⟨_, rfl, _, rfl, rfl, rfl⟩, ⟨_, rfl, _, rfl, rfl, rfl⟩, trivial⟩
theorem f_9 : AllF tab ds ⟨"show_run", s_show_run, n_show_run, p_show_run, b_show_run, fs_show_run, vw0⟩ fns := ⟨⟨_, rfl, _, rfl, rfl, rfl⟩, ⟨_, rfl, _, rfl, rfl, rfl⟩, ⟨_, rfl, _, rfl, rfl, rfl⟩, ⟨_, rfl, _, rfl, rfl, rfl⟩, ⟨_, rfl, _, rfl, rfl, rfl⟩, ⟨_, rfl, _, rfl, rfl, rfl⟩, ⟨_, rfl, _, rfl, rfl, rfl⟩, ⟨_, rfl, _, rfl, rfl, rfl⟩, ⟨_, rfl, _, rfl, rfl, rfl⟩, ⟨_, rfl, _, rfl, rfl, rfl⟩, ⟨_, rfl, _, rfl, rfl, rfl⟩, ⟨_, rfl, _, rfl, rfl, rfl⟩, ⟨_, rfl, _, rfl, rfl, rfl⟩, ⟨_, rfl, _, rfl, rfl, rfl⟩, ⟨_, rfl, _, rfl, rfl, rfl⟩, ⟨_, rfl, _, rfl, rfl, rfl⟩, ⟨_, rfl, _, rfl, rfl, rfl⟩, ⟨_, rfl, _, rfl, rfl, rfl⟩, ⟨_, rfl, _, rfl, rfl, rfl⟩, ⟨_, rfl, _, rfl, rfl, rfl⟩, ⟨_, rfl, _, rfl, rfl, rfl⟩, ⟨_, rfl, _, rfl, rfl, rfl⟩, ⟨_, rfl, _, rfl, rfl, rfl⟩, ⟨_, rfl, _, rfl, rfl, rfl⟩, ⟨_, rfl, _, rfl, rfl, rfl⟩, ⟨_, rfl, _, rfl, rfl, rfl⟩, ⟨_, rfl, _, rfl, rfl, rfl⟩, trivial⟩
theorem f_10 : AllF tab ds ⟨"part_in", s_part_in, n_part_in, p_part_in, b_part_in, fs_part_in, vw0⟩ fns := ⟨⟨_, rfl, _, rfl, rfl, rfl⟩, ⟨_, rfl, _, rfl, rfl, rfl⟩, ⟨_, rfl, _, rfl, rfl, rfl⟩, ⟨_, rfl, _, rfl, rfl, rfl⟩, ⟨_, rfl, _, rfl, rfl, rfl⟩, ⟨_, rfl, _, rfl, rfl, rfl⟩, ⟨_, rfl, _, rfl, rfl, rfl⟩, ⟨_, rfl, _, rfl, rfl, rfl⟩, ⟨_, rfl, _, rfl, rfl, rfl⟩, ⟨_, rfl, _, rfl, rfl, rfl⟩, ⟨_, rfl, _, rfl, rfl, rfl⟩, ⟨_, rfl, _, rfl, rfl, rfl⟩, ⟨_, rfl, _, rfl, rfl, rfl⟩, ⟨_, rfl, _, rfl, rfl, rfl⟩, ⟨_, rfl, _, rfl, rfl, rfl⟩, ⟨_, rfl, _, rfl, rfl, rfl⟩, ⟨_, rfl, _, rfl, rfl, rfl⟩, ⟨_, rfl, _, rfl, rfl, rfl⟩, ⟨_, rfl, _, rfl, rfl, rfl⟩, ⟨_, rfl, _, rfl, rfl, rfl⟩, ⟨_, rfl, _, rfl, rfl, rfl⟩, ⟨_, rfl, _, rfl, rfl, rfl⟩, ⟨_, rfl, _, rfl, rfl, rfl⟩, ⟨_, rfl, _, rfl, rfl, rfl⟩, ⟨_, rfl, _, rfl, rfl, rfl⟩, ⟨_, rfl, _, rfl, rfl, rfl⟩, ⟨_, rfl, _, rfl, rfl, rfl⟩, trivial⟩
theorem f_11 : AllF tab ds ⟨"fact_in", s_fact_in, n_fact_in, p_fact_in, b_fact_in, fs_fact_in, vw0⟩ fns := ⟨⟨_, rfl, _, rfl, rfl, rfl⟩, ⟨_, rfl, _, rfl, rfl, rfl⟩, ⟨_, rfl, _, rfl, rfl, rfl⟩, ⟨_, rfl, _, rfl, rfl, rfl⟩, ⟨_, rfl, _, rfl, rfl, rfl⟩, ⟨_, rfl, _, rfl, rfl, rfl⟩, ⟨_, rfl, _, rfl, rfl, rfl⟩, ⟨_, rfl, _, rfl, rfl, rfl⟩, ⟨_, rfl, _, rfl, rfl, rfl⟩, ⟨_, rfl, _, rfl, rfl, rfl⟩, ⟨_, rfl, _, rfl, rfl, rfl⟩, ⟨_, rfl, _, rfl, rfl, rfl⟩, ⟨_, rfl, _, rfl, rfl, rfl⟩, ⟨_, rfl, _, rfl, rfl, rfl⟩, ⟨_, rfl, _, rfl, rfl, rfl⟩, ⟨_, rfl, _, rfl, rfl, rfl⟩, ⟨_, rfl, _, rfl, rfl, rfl⟩, ⟨_, rfl, _, rfl, rfl, rfl⟩, ⟨_, rfl, _, rfl, rfl, rfl⟩, ⟨_, rfl, _, rfl, rfl, rfl⟩, ⟨_, rfl, _, rfl, rfl, rfl⟩, ⟨_, rfl, _, rfl, rfl, rfl⟩, ⟨_, rfl, _, rfl, rfl, rfl⟩, ⟨_, rfl, _, rfl, rfl, rfl⟩, ⟨_, rfl, _, rfl, rfl, rfl⟩, ⟨_, rfl, _, rfl, rfl, rfl⟩, ⟨_, rfl, _, rfl, rfl, rfl⟩, trivial⟩
theorem f_12 : AllF tab ds ⟨"question_in", s_question_in, n_question_in, p_question_in, b_question_in, (fs_question_in 0), (fun f => if f = i_question_in then 12 else vw0 f)⟩ fns := ⟨⟨_, rfl, _, rfl, rfl, rfl⟩, ⟨_, rfl, _, rfl, rfl, rfl⟩, ⟨_, rfl, _, rfl, rfl, rfl⟩, ⟨_, rfl, _, rfl, rfl, rfl⟩, ⟨_, rfl, _, rfl, rfl, rfl⟩, ⟨_, rfl, _, rfl, rfl, rfl⟩, ⟨_, rfl, _, rfl, rfl, rfl⟩, ⟨_, rfl, _, rfl, rfl, rfl⟩, ⟨_, rfl, _, rfl, rfl, rfl⟩, ⟨_, rfl, _, rfl, rfl, rfl⟩, ⟨_, rfl, _, rfl, rfl, rfl⟩, ⟨_, rfl, _, rfl, rfl, rfl⟩, ⟨_, rfl, _, rfl, rfl, rfl⟩, ⟨_, rfl, _, rfl, rfl, rfl⟩, ⟨_, rfl, _, rfl, rfl, rfl⟩, ⟨_, rfl, _, rfl, rfl, rfl⟩, ⟨_, rfl, _, rfl, rfl, rfl⟩, ⟨_, rfl, _, rfl, rfl, rfl⟩, ⟨_, rfl, _, rfl, rfl, rfl⟩, ⟨_, rfl, _, rfl, rfl, rfl⟩, ⟨_, rfl, _, rfl, rfl, rfl⟩, ⟨_, rfl, _, rfl, rfl, rfl⟩, ⟨_, rfl, _, rfl, rfl, rfl⟩, ⟨_, rfl, _, rfl, rfl, rfl⟩, ⟨_, rfl, _, rfl, rfl, rfl⟩, ⟨_, rfl, _, rfl, rfl, rfl⟩, ⟨_, rfl, _, rfl, rfl, rfl⟩, trivial⟩
theorem f_13 : AllF tab ds ⟨"question_in", s_question_in, n_question_in, p_question_in, b_question_in, (fs_question_in 1), (fun f => if f = i_question_in then 12 else vw0 f)⟩ fns := ⟨⟨_, rfl, _, rfl, rfl, rfl⟩, ⟨_, rfl, _, rfl, rfl, rfl⟩, ⟨_, rfl, _, rfl, rfl, rfl⟩, ⟨_, rfl, _, rfl, rfl, rfl⟩, ⟨_, rfl, _, rfl, rfl, rfl⟩, ⟨_, rfl, _, rfl, rfl, rfl⟩, ⟨_, rfl, _, rfl, rfl, rfl⟩, ⟨_, rfl, _, rfl, rfl, rfl⟩, ⟨_, rfl, _, rfl, rfl, rfl⟩, ⟨_, rfl, _, rfl, rfl, rfl⟩, ⟨_, rfl, _, rfl, rfl, rfl⟩, ⟨_, rfl, _, rfl, rfl, rfl⟩, ⟨_, rfl, _, rfl, rfl, rfl⟩, ⟨_, rfl, _, rfl, rfl, rfl⟩, ⟨_, rfl, _, rfl, rfl, rfl⟩, ⟨_, rfl, _, rfl, rfl, rfl⟩, ⟨_, rfl, _, rfl, rfl, rfl⟩, ⟨_, rfl, _, rfl, rfl, rfl⟩, ⟨_, rfl, _, rfl, rfl, rfl⟩, ⟨_, rfl, _, rfl, rfl, rfl⟩, ⟨_, rfl, _, rfl, rfl, rfl⟩, ⟨_, rfl, _, rfl, rfl, rfl⟩, ⟨_, rfl, _, rfl, rfl, rfl⟩, ⟨_, rfl, _, rfl, rfl, rfl⟩, ⟨_, rfl, _, rfl, rfl, rfl⟩, ⟨_, rfl, _, rfl, rfl, rfl⟩, ⟨_, rfl, _, rfl, rfl, rfl⟩, trivial⟩
theorem f_14 : AllF tab ds ⟨"question_in", s_question_in, n_question_in, p_question_in, b_question_in, (fs_question_in 2), (fun f => if f = i_question_in then 13 else vw0 f)⟩ fns := ⟨⟨_, rfl, _, rfl, rfl, rfl⟩, ⟨_, rfl, _, rfl, rfl, rfl⟩, ⟨_, rfl, _, rfl, rfl, rfl⟩, ⟨_, rfl, _, rfl, rfl, rfl⟩, ⟨_, rfl, _, rfl, rfl, rfl⟩, ⟨_, rfl, _, rfl, rfl, rfl⟩, ⟨_, rfl, _, rfl, rfl, rfl⟩, ⟨_, rfl, _, rfl, rfl, rfl⟩, ⟨_, rfl, _, rfl, rfl, rfl⟩, ⟨_, rfl, _, rfl, rfl, rfl⟩, ⟨_, rfl, _, rfl, rfl, rfl⟩, ⟨_, rfl, _, rfl, rfl, rfl⟩, ⟨_, rfl, _, rfl, rfl, rfl⟩, ⟨_, rfl, _, rfl, rfl, rfl⟩, ⟨_, rfl, _, rfl, rfl, rfl⟩, ⟨_, rfl, _, rfl, rfl, rfl⟩, ⟨_, rfl, _, rfl, rfl, rfl⟩, ⟨_, rfl, _, rfl, rfl, rfl⟩, ⟨_, rfl, _, rfl, rfl, rfl⟩, ⟨_, rfl, _, rfl, rfl, rfl⟩, ⟨_, rfl, _, rfl, rfl, rfl⟩, ⟨_, rfl, _, rfl, rfl, rfl⟩, ⟨_, rfl, _, rfl, rfl, rfl⟩, ⟨_, rfl, _, rfl, rfl, rfl⟩, ⟨_, rfl, _, rfl, rfl, rfl⟩, ⟨_, rfl, _, rfl, rfl, rfl⟩, ⟨_, rfl, _, rfl, rfl, rfl⟩, trivial⟩
theorem f_15 : AllF tab ds ⟨"question_in", s_question_in, n_question_in, p_question_in, b_question_in, (fs_question_in 3), (fun f => if f = i_question_in then 14 else vw0 f)⟩ fns := ⟨⟨_, rfl, _, rfl, rfl, rfl⟩, ⟨_, rfl, _, rfl, rfl, rfl⟩, ⟨_, rfl, _, rfl, rfl, rfl⟩, ⟨_, rfl, _, rfl, rfl, rfl⟩, ⟨_, rfl, _, rfl, rfl, rfl⟩, ⟨_, rfl, _, rfl, rfl, rfl⟩, ⟨_, rfl, _, rfl, rfl, rfl⟩, ⟨_, rfl, _, rfl, rfl, rfl⟩, ⟨_, rfl, _, rfl, rfl, rfl⟩, ⟨_, rfl, _, rfl, rfl, rfl⟩, ⟨_, rfl, _, rfl, rfl, rfl⟩, ⟨_, rfl, _, rfl, rfl, rfl⟩, ⟨_, rfl, _, rfl, rfl, rfl⟩, ⟨_, rfl, _, rfl, rfl, rfl⟩, ⟨_, rfl, _, rfl, rfl, rfl⟩, ⟨_, rfl, _, rfl, rfl, rfl⟩, ⟨_, rfl, _, rfl, rfl, rfl⟩, ⟨_, rfl, _, rfl, rfl, rfl⟩, ⟨_, rfl, _, rfl, rfl, rfl⟩, ⟨_, rfl, _, rfl, rfl, rfl⟩, ⟨_, rfl, _, rfl, rfl, rfl⟩, ⟨_, rfl, _, rfl, rfl, rfl⟩, ⟨_, rfl, _, rfl, rfl, rfl⟩, ⟨_, rfl, _, rfl, rfl, rfl⟩, ⟨_, rfl, _, rfl, rfl, rfl⟩, ⟨_, rfl, _, rfl, rfl, rfl⟩, ⟨_, rfl, _, rfl, rfl, rfl⟩, trivial⟩
theorem f_16 : AllF tab ds ⟨"question_in", s_question_in, n_question_in, p_question_in, b_question_in, (fs_question_in 4), (fun f => if f = i_question_in then 15 else vw0 f)⟩ fns := ⟨⟨_, rfl, _, rfl, rfl, rfl⟩, ⟨_, rfl, _, rfl, rfl, rfl⟩, ⟨_, rfl, _, rfl, rfl, rfl⟩, ⟨_, rfl, _, rfl, rfl, rfl⟩, ⟨_, rfl, _, rfl, rfl, rfl⟩, ⟨_, rfl, _, rfl, rfl, rfl⟩, ⟨_, rfl, _, rfl, rfl, rfl⟩, ⟨_, rfl, _, rfl, rfl, rfl⟩, ⟨_, rfl, _, rfl, rfl, rfl⟩, ⟨_, rfl, _, rfl, rfl, rfl⟩, ⟨_, rfl, _, rfl, rfl, rfl⟩, ⟨_, rfl, _, rfl, rfl, rfl⟩, ⟨_, rfl, _, rfl, rfl, rfl⟩, ⟨_, rfl, _, rfl, rfl, rfl⟩, ⟨_, rfl, _, rfl, rfl, rfl⟩, ⟨_, rfl, _, rfl, rfl, rfl⟩, ⟨_, rfl, _, rfl, rfl, rfl⟩, ⟨_, rfl, _, rfl, rfl, rfl⟩, ⟨_, rfl, _, rfl, rfl, rfl⟩, ⟨_, rfl, _, rfl, rfl, rfl⟩, ⟨_, rfl, _, rfl, rfl, rfl⟩, ⟨_, rfl, _, rfl, rfl, rfl⟩, ⟨_, rfl, _, rfl, rfl, rfl⟩, ⟨_, rfl, _, rfl, rfl, rfl⟩, ⟨_, rfl, _, rfl, rfl, rfl⟩, ⟨_, rfl, _, rfl, rfl, rfl⟩, ⟨_, rfl, _, rfl, rfl, rfl⟩, trivial⟩
theorem f_17 : AllF tab ds ⟨"question_of", s_question_of, n_question_of, p_question_of, b_question_of, fs_question_of, vw0⟩ fns := ⟨⟨_, rfl, _, rfl, rfl, rfl⟩, ⟨_, rfl, _, rfl, rfl, rfl⟩, ⟨_, rfl, _, rfl, rfl, rfl⟩, ⟨_, rfl, _, rfl, rfl, rfl⟩, ⟨_, rfl, _, rfl, rfl, rfl⟩, ⟨_, rfl, _, rfl, rfl, rfl⟩, ⟨_, rfl, _, rfl, rfl, rfl⟩, ⟨_, rfl, _, rfl, rfl, rfl⟩, ⟨_, rfl, _, rfl, rfl, rfl⟩, ⟨_, rfl, _, rfl, rfl, rfl⟩, ⟨_, rfl, _, rfl, rfl, rfl⟩, ⟨_, rfl, _, rfl, rfl, rfl⟩, ⟨_, rfl, _, rfl, rfl, rfl⟩, ⟨_, rfl, _, rfl, rfl, rfl⟩, ⟨_, rfl, _, rfl, rfl, rfl⟩, ⟨_, rfl, _, rfl, rfl, rfl⟩, ⟨_, rfl, _, rfl, rfl, rfl⟩, ⟨_, rfl, _, rfl, rfl, rfl⟩, ⟨_, rfl, _, rfl, rfl, rfl⟩, ⟨_, rfl, _, rfl, rfl, rfl⟩, ⟨_, rfl, _, rfl, rfl, rfl⟩, ⟨_, rfl, _, rfl, rfl, rfl⟩, ⟨_, rfl, _, rfl, rfl, rfl⟩, ⟨_, rfl, _, rfl, rfl, rfl⟩, ⟨_, rfl, _, rfl, rfl, rfl⟩, ⟨_, rfl, _, rfl, rfl, rfl⟩, ⟨_, rfl, _, rfl, rfl, rfl⟩, trivial⟩
theorem f_18 : AllF tab ds ⟨"step_in", s_step_in, n_step_in, p_step_in, b_step_in, fs_step_in, vw0⟩ fns := ⟨⟨_, rfl, _, rfl, rfl, rfl⟩, ⟨_, rfl, _, rfl, rfl, rfl⟩, ⟨_, rfl, _, rfl, rfl, rfl⟩, ⟨_, rfl, _, rfl, rfl, rfl⟩, ⟨_, rfl, _, rfl, rfl, rfl⟩, ⟨_, rfl, _, rfl, rfl, rfl⟩, ⟨_, rfl, _, rfl, rfl, rfl⟩, ⟨_, rfl, _, rfl, rfl, rfl⟩, ⟨_, rfl, _, rfl, rfl, rfl⟩, ⟨_, rfl, _, rfl, rfl, rfl⟩, ⟨_, rfl, _, rfl, rfl, rfl⟩, ⟨_, rfl, _, rfl, rfl, rfl⟩, ⟨_, rfl, _, rfl, rfl, rfl⟩, ⟨_, rfl, _, rfl, rfl, rfl⟩, ⟨_, rfl, _, rfl, rfl, rfl⟩, ⟨_, rfl, _, rfl, rfl, rfl⟩, ⟨_, rfl, _, rfl, rfl, rfl⟩, ⟨_, rfl, _, rfl, rfl, rfl⟩, ⟨_, rfl, _, rfl, rfl, rfl⟩, ⟨_, rfl, _, rfl, rfl, rfl⟩, ⟨_, rfl, _, rfl, rfl, rfl⟩, ⟨_, rfl, _, rfl, rfl, rfl⟩, ⟨_, rfl, _, rfl, rfl, rfl⟩, ⟨_, rfl, _, rfl, rfl, rfl⟩, ⟨_, rfl, _, rfl, rfl, rfl⟩, ⟨_, rfl, _, rfl, rfl, rfl⟩, ⟨_, rfl, _, rfl, rfl, rfl⟩, trivial⟩
theorem f_19 : AllF tab ds ⟨"run_in", s_run_in, n_run_in, p_run_in, b_run_in, fs_run_in, vw0⟩ fns := ⟨⟨_, rfl, _, rfl, rfl, rfl⟩, ⟨_, rfl, _, rfl, rfl, rfl⟩, ⟨_, rfl, _, rfl, rfl, rfl⟩, ⟨_, rfl, _, rfl, rfl, rfl⟩, ⟨_, rfl, _, rfl, rfl, rfl⟩, ⟨_, rfl, _, rfl, rfl, rfl⟩, ⟨_, rfl, _, rfl, rfl, rfl⟩, ⟨_, rfl, _, rfl, rfl, rfl⟩, ⟨_, rfl, _, rfl, rfl, rfl⟩, ⟨_, rfl, _, rfl, rfl, rfl⟩, ⟨_, rfl, _, rfl, rfl, rfl⟩, ⟨_, rfl, _, rfl, rfl, rfl⟩, ⟨_, rfl, _, rfl, rfl, rfl⟩, ⟨_, rfl, _, rfl, rfl, rfl⟩, ⟨_, rfl, _, rfl, rfl, rfl⟩, ⟨_, rfl, _, rfl, rfl, rfl⟩, ⟨_, rfl, _, rfl, rfl, rfl⟩, ⟨_, rfl, _, rfl, rfl, rfl⟩, ⟨_, rfl, _, rfl, rfl, rfl⟩, ⟨_, rfl, _, rfl, rfl, rfl⟩, ⟨_, rfl, _, rfl, rfl, rfl⟩, ⟨_, rfl, _, rfl, rfl, rfl⟩, ⟨_, rfl, _, rfl, rfl, rfl⟩, ⟨_, rfl, _, rfl, rfl, rfl⟩, ⟨_, rfl, _, rfl, rfl, rfl⟩, ⟨_, rfl, _, rfl, rfl, rfl⟩, ⟨_, rfl, _, rfl, rfl, rfl⟩, trivial⟩
theorem f_20 : AllF tab ds ⟨"check_shown", s_check_shown, n_check_shown, p_check_shown, b_check_shown, fs_check_shown, vw0⟩ fns := ⟨⟨_, rfl, _, rfl, rfl, rfl⟩, ⟨_, rfl, _, rfl, rfl, rfl⟩, ⟨_, rfl, _, rfl, rfl, rfl⟩, ⟨_, rfl, _, rfl, rfl, rfl⟩, ⟨_, rfl, _, rfl, rfl, rfl⟩, ⟨_, rfl, _, rfl, rfl, rfl⟩, ⟨_, rfl, _, rfl, rfl, rfl⟩, ⟨_, rfl, _, rfl, rfl, rfl⟩, ⟨_, rfl, _, rfl, rfl, rfl⟩, ⟨_, rfl, _, rfl, rfl, rfl⟩, ⟨_, rfl, _, rfl, rfl, rfl⟩, ⟨_, rfl, _, rfl, rfl, rfl⟩, ⟨_, rfl, _, rfl, rfl, rfl⟩, ⟨_, rfl, _, rfl, rfl, rfl⟩, ⟨_, rfl, _, rfl, rfl, rfl⟩, ⟨_, rfl, _, rfl, rfl, rfl⟩, ⟨_, rfl, _, rfl, rfl, rfl⟩, ⟨_, rfl, _, rfl, rfl, rfl⟩, ⟨_, rfl, _, rfl, rfl, rfl⟩, ⟨_, rfl, _, rfl, rfl, rfl⟩, ⟨_, rfl, _, rfl, rfl, rfl⟩, ⟨_, rfl, _, rfl, rfl, rfl⟩, ⟨_, rfl, _, rfl, rfl, rfl⟩, ⟨_, rfl, _, rfl, rfl, rfl⟩, ⟨_, rfl, _, rfl, rfl, rfl⟩, ⟨_, rfl, _, rfl, rfl, rfl⟩, ⟨_, rfl, _, rfl, rfl, rfl⟩, trivial⟩
theorem f_21 : AllF tab ds ⟨"read_question", s_read_question, n_read_question, p_read_question, b_read_question, fs_read_question, vw0⟩ fns := ⟨⟨_, rfl, _, rfl, rfl, rfl⟩, ⟨_, rfl, _, rfl, rfl, rfl⟩, ⟨_, rfl, _, rfl, rfl, rfl⟩, ⟨_, rfl, _, rfl, rfl, rfl⟩, ⟨_, rfl, _, rfl, rfl, rfl⟩, ⟨_, rfl, _, rfl, rfl, rfl⟩, ⟨_, rfl, _, rfl, rfl, rfl⟩, ⟨_, rfl, _, rfl, rfl, rfl⟩, ⟨_, rfl, _, rfl, rfl, rfl⟩, ⟨_, rfl, _, rfl, rfl, rfl⟩, ⟨_, rfl, _, rfl, rfl, rfl⟩, ⟨_, rfl, _, rfl, rfl, rfl⟩, ⟨_, rfl, _, rfl, rfl, rfl⟩, ⟨_, rfl, _, rfl, rfl, rfl⟩, ⟨_, rfl, _, rfl, rfl, rfl⟩, ⟨_, rfl, _, rfl, rfl, rfl⟩, ⟨_, rfl, _, rfl, rfl, rfl⟩, ⟨_, rfl, _, rfl, rfl, rfl⟩, ⟨_, rfl, _, rfl, rfl, rfl⟩, ⟨_, rfl, _, rfl, rfl, rfl⟩, ⟨_, rfl, _, rfl, rfl, rfl⟩, ⟨_, rfl, _, rfl, rfl, rfl⟩, ⟨_, rfl, _, rfl, rfl, rfl⟩, ⟨_, rfl, _, rfl, rfl, rfl⟩, ⟨_, rfl, _, rfl, rfl, rfl⟩, ⟨_, rfl, _, rfl, rfl, rfl⟩, ⟨_, rfl, _, rfl, rfl, rfl⟩, trivial⟩
theorem f_22 : AllF tab ds ⟨"read_run", s_read_run, n_read_run, p_read_run, b_read_run, fs_read_run, vw0⟩ fns := ⟨⟨_, rfl, _, rfl, rfl, rfl⟩, ⟨_, rfl, _, rfl, rfl, rfl⟩, ⟨_, rfl, _, rfl, rfl, rfl⟩, ⟨_, rfl, _, rfl, rfl, rfl⟩, ⟨_, rfl, _, rfl, rfl, rfl⟩, ⟨_, rfl, _, rfl, rfl, rfl⟩, ⟨_, rfl, _, rfl, rfl, rfl⟩, ⟨_, rfl, _, rfl, rfl, rfl⟩, ⟨_, rfl, _, rfl, rfl, rfl⟩, ⟨_, rfl, _, rfl, rfl, rfl⟩, ⟨_, rfl, _, rfl, rfl, rfl⟩, ⟨_, rfl, _, rfl, rfl, rfl⟩, ⟨_, rfl, _, rfl, rfl, rfl⟩, ⟨_, rfl, _, rfl, rfl, rfl⟩, ⟨_, rfl, _, rfl, rfl, rfl⟩, ⟨_, rfl, _, rfl, rfl, rfl⟩, ⟨_, rfl, _, rfl, rfl, rfl⟩, ⟨_, rfl, _, rfl, rfl, rfl⟩, ⟨_, rfl, _, rfl, rfl, rfl⟩, ⟨_, rfl, _, rfl, rfl, rfl⟩, ⟨_, rfl, _, rfl, rfl, rfl⟩, ⟨_, rfl, _, rfl, rfl, rfl⟩, ⟨_, rfl, _, rfl, rfl, rfl⟩, ⟨_, rfl, _, rfl, rfl, rfl⟩, ⟨_, rfl, _, rfl, rfl, rfl⟩, ⟨_, rfl, _, rfl, rfl, rfl⟩, ⟨_, rfl, _, rfl, rfl, rfl⟩, trivial⟩
theorem f_23 : AllF tab ds ⟨"_law_pot", s_law_pot, n_law_pot, p_law_pot, b_law_pot, fsPot, vw0⟩ fns := ⟨⟨_, rfl, _, rfl, rfl, rfl⟩, ⟨_, rfl, _, rfl, rfl, rfl⟩, ⟨_, rfl, _, rfl, rfl, rfl⟩, ⟨_, rfl, _, rfl, rfl, rfl⟩, ⟨_, rfl, _, rfl, rfl, rfl⟩, ⟨_, rfl, _, rfl, rfl, rfl⟩, ⟨_, rfl, _, rfl, rfl, rfl⟩, ⟨_, rfl, _, rfl, rfl, rfl⟩, ⟨_, rfl, _, rfl, rfl, rfl⟩, ⟨_, rfl, _, rfl, rfl, rfl⟩, ⟨_, rfl, _, rfl, rfl, rfl⟩, ⟨_, rfl, _, rfl, rfl, rfl⟩, ⟨_, rfl, _, rfl, rfl, rfl⟩, ⟨_, rfl, _, rfl, rfl, rfl⟩, ⟨_, rfl, _, rfl, rfl, rfl⟩, ⟨_, rfl, _, rfl, rfl, rfl⟩, ⟨_, rfl, _, rfl, rfl, rfl⟩, ⟨_, rfl, _, rfl, rfl, rfl⟩, ⟨_, rfl, _, rfl, rfl, rfl⟩, ⟨_, rfl, _, rfl, rfl, rfl⟩, ⟨_, rfl, _, rfl, rfl, rfl⟩, ⟨_, rfl, _, rfl, rfl, rfl⟩, ⟨_, rfl, _, rfl, rfl, rfl⟩, ⟨_, rfl, _, rfl, rfl, rfl⟩, ⟨_, rfl, _, rfl, rfl, rfl⟩, ⟨_, rfl, _, rfl, rfl, rfl⟩, ⟨_, rfl, _, rfl, rfl, rfl⟩, trivial⟩
theorem f_24 : AllF tab ds ⟨"_law_take", s_law_take, n_law_take, p_law_take, b_law_take, fsTake, vw0⟩ fns := ⟨⟨_, rfl, _, rfl, rfl, rfl⟩, ⟨_, rfl, _, rfl, rfl, rfl⟩, ⟨_, rfl, _, rfl, rfl, rfl⟩, ⟨_, rfl, _, rfl, rfl, rfl⟩, ⟨_, rfl, _, rfl, rfl, rfl⟩, ⟨_, rfl, _, rfl, rfl, rfl⟩, ⟨_, rfl, _, rfl, rfl, rfl⟩, ⟨_, rfl, _, rfl, rfl, rfl⟩, ⟨_, rfl, _, rfl, rfl, rfl⟩, ⟨_, rfl, _, rfl, rfl, rfl⟩, ⟨_, rfl, _, rfl, rfl, rfl⟩, ⟨_, rfl, _, rfl, rfl, rfl⟩, ⟨_, rfl, _, rfl, rfl, rfl⟩, ⟨_, rfl, _, rfl, rfl, rfl⟩, ⟨_, rfl, _, rfl, rfl, rfl⟩, ⟨_, rfl, _, rfl, rfl, rfl⟩, ⟨_, rfl, _, rfl, rfl, rfl⟩, ⟨_, rfl, _, rfl, rfl, rfl⟩, ⟨_, rfl, _, rfl, rfl, rfl⟩, ⟨_, rfl, _, rfl, rfl, rfl⟩, ⟨_, rfl, _, rfl, rfl, rfl⟩, ⟨_, rfl, _, rfl, rfl, rfl⟩, ⟨_, rfl, _, rfl, rfl, rfl⟩, ⟨_, rfl, _, rfl, rfl, rfl⟩, ⟨_, rfl, _, rfl, rfl, rfl⟩, ⟨_, rfl, _, rfl, rfl, rfl⟩, ⟨_, rfl, _, rfl, rfl, rfl⟩, trivial⟩
theorem f_25 : AllF tab ds ⟨"_law_of", s_law_of, n_law_of, p_law_of, b_law_of, fsOf, vw0⟩ fns := ⟨⟨_, rfl, _, rfl, rfl, rfl⟩, ⟨_, rfl, _, rfl, rfl, rfl⟩, ⟨_, rfl, _, rfl, rfl, rfl⟩, ⟨_, rfl, _, rfl, rfl, rfl⟩, ⟨_, rfl, _, rfl, rfl, rfl⟩, ⟨_, rfl, _, rfl, rfl, rfl⟩, ⟨_, rfl, _, rfl, rfl, rfl⟩, ⟨_, rfl, _, rfl, rfl, rfl⟩, ⟨_, rfl, _, rfl, rfl, rfl⟩, ⟨_, rfl, _, rfl, rfl, rfl⟩, ⟨_, rfl, _, rfl, rfl, rfl⟩, ⟨_, rfl, _, rfl, rfl, rfl⟩, ⟨_, rfl, _, rfl, rfl, rfl⟩, ⟨_, rfl, _, rfl, rfl, rfl⟩, ⟨_, rfl, _, rfl, rfl, rfl⟩, ⟨_, rfl, _, rfl, rfl, rfl⟩, ⟨_, rfl, _, rfl, rfl, rfl⟩, ⟨_, rfl, _, rfl, rfl, rfl⟩, ⟨_, rfl, _, rfl, rfl, rfl⟩, ⟨_, rfl, _, rfl, rfl, rfl⟩, ⟨_, rfl, _, rfl, rfl, rfl⟩, ⟨_, rfl, _, rfl, rfl, rfl⟩, ⟨_, rfl, _, rfl, rfl, rfl⟩, ⟨_, rfl, _, rfl, rfl, rfl⟩, ⟨_, rfl, _, rfl, rfl, rfl⟩, ⟨_, rfl, _, rfl, rfl, rfl⟩, ⟨_, rfl, _, rfl, rfl, rfl⟩, trivial⟩
theorem f_26 : AllF tab ds ⟨"_law_name", s_law_name, n_law_name, p_law_name, b_law_name, fs_law_name, vw0⟩ fns := ⟨⟨_, rfl, _, rfl, rfl, rfl⟩, ⟨_, rfl, _, rfl, rfl, rfl⟩, ⟨_, rfl, _, rfl, rfl, rfl⟩, ⟨_, rfl, _, rfl, rfl, rfl⟩, ⟨_, rfl, _, rfl, rfl, rfl⟩, ⟨_, rfl, _, rfl, rfl, rfl⟩, ⟨_, rfl, _, rfl, rfl, rfl⟩, ⟨_, rfl, _, rfl, rfl, rfl⟩, ⟨_, rfl, _, rfl, rfl, rfl⟩, ⟨_, rfl, _, rfl, rfl, rfl⟩, ⟨_, rfl, _, rfl, rfl, rfl⟩, ⟨_, rfl, _, rfl, rfl, rfl⟩, ⟨_, rfl, _, rfl, rfl, rfl⟩, ⟨_, rfl, _, rfl, rfl, rfl⟩, ⟨_, rfl, _, rfl, rfl, rfl⟩, ⟨_, rfl, _, rfl, rfl, rfl⟩, ⟨_, rfl, _, rfl, rfl, rfl⟩, ⟨_, rfl, _, rfl, rfl, rfl⟩, ⟨_, rfl, _, rfl, rfl, rfl⟩, ⟨_, rfl, _, rfl, rfl, rfl⟩, ⟨_, rfl, _, rfl, rfl, rfl⟩, ⟨_, rfl, _, rfl, rfl, rfl⟩, ⟨_, rfl, _, rfl, rfl, rfl⟩, ⟨_, rfl, _, rfl, rfl, rfl⟩, ⟨_, rfl, _, rfl, rfl, rfl⟩, ⟨_, rfl, _, rfl, rfl, rfl⟩, ⟨_, rfl, _, rfl, rfl, rfl⟩, trivial⟩
theorem f_27 : AllF tab ds ⟨"_law_count", s_law_count, n_law_count, p_law_count, b_law_count, fs_law_count, vw0⟩ fns := ⟨⟨_, rfl, _, rfl, rfl, rfl⟩, ⟨_, rfl, _, rfl, rfl, rfl⟩, ⟨_, rfl, _, rfl, rfl, rfl⟩, ⟨_, rfl, _, rfl, rfl, rfl⟩, ⟨_, rfl, _, rfl, rfl, rfl⟩, ⟨_, rfl, _, rfl, rfl, rfl⟩, ⟨_, rfl, _, rfl, rfl, rfl⟩, ⟨_, rfl, _, rfl, rfl, rfl⟩, ⟨_, rfl, _, rfl, rfl, rfl⟩, ⟨_, rfl, _, rfl, rfl, rfl⟩, ⟨_, rfl, _, rfl, rfl, rfl⟩, ⟨_, rfl, _, rfl, rfl, rfl⟩, ⟨_, rfl, _, rfl, rfl, rfl⟩, ⟨_, rfl, _, rfl, rfl, rfl⟩, ⟨_, rfl, _, rfl, rfl, rfl⟩, ⟨_, rfl, _, rfl, rfl, rfl⟩, ⟨_, rfl, _, rfl, rfl, rfl⟩, ⟨_, rfl, _, rfl, rfl, rfl⟩, ⟨_, rfl, _, rfl, rfl, rfl⟩, ⟨_, rfl, _, rfl, rfl, rfl⟩, ⟨_, rfl, _, rfl, rfl, rfl⟩, ⟨_, rfl, _, rfl, rfl, rfl⟩, ⟨_, rfl, _, rfl, rfl, rfl⟩, ⟨_, rfl, _, rfl, rfl, rfl⟩, ⟨_, rfl, _, rfl, rfl, rfl⟩, ⟨_, rfl, _, rfl, rfl, rfl⟩, ⟨_, rfl, _, rfl, rfl, rfl⟩, trivial⟩
theorem f_28 : AllF tab ds ⟨"_law_fact", s_law_fact, n_law_fact, p_law_fact, b_law_fact, fs_law_fact, vw0⟩ fns := ⟨⟨_, rfl, _, rfl, rfl, rfl⟩, ⟨_, rfl, _, rfl, rfl, rfl⟩, ⟨_, rfl, _, rfl, rfl, rfl⟩, ⟨_, rfl, _, rfl, rfl, rfl⟩, ⟨_, rfl, _, rfl, rfl, rfl⟩, ⟨_, rfl, _, rfl, rfl, rfl⟩, ⟨_, rfl, _, rfl, rfl, rfl⟩, ⟨_, rfl, _, rfl, rfl, rfl⟩, ⟨_, rfl, _, rfl, rfl, rfl⟩, ⟨_, rfl, _, rfl, rfl, rfl⟩, ⟨_, rfl, _, rfl, rfl, rfl⟩, ⟨_, rfl, _, rfl, rfl, rfl⟩, ⟨_, rfl, _, rfl, rfl, rfl⟩, ⟨_, rfl, _, rfl, rfl, rfl⟩, ⟨_, rfl, _, rfl, rfl, rfl⟩, ⟨_, rfl, _, rfl, rfl, rfl⟩, ⟨_, rfl, _, rfl, rfl, rfl⟩, ⟨_, rfl, _, rfl, rfl, rfl⟩, ⟨_, rfl, _, rfl, rfl, rfl⟩, ⟨_, rfl, _, rfl, rfl, rfl⟩, ⟨_, rfl, _, rfl, rfl, rfl⟩, ⟨_, rfl, _, rfl, rfl, rfl⟩, ⟨_, rfl, _, rfl, rfl, rfl⟩, ⟨_, rfl, _, rfl, rfl, rfl⟩, ⟨_, rfl, _, rfl, rfl, rfl⟩, ⟨_, rfl, _, rfl, rfl, rfl⟩, ⟨_, rfl, _, rfl, rfl, rfl⟩, trivial⟩
theorem f_29 : AllF tab ds ⟨"_law_question", s_law_question, n_law_question, p_law_question, b_law_question, (fs_law_question 0), (fun f => if f = i_law_question then 29 else vw0 f)⟩ fns := ⟨⟨_, rfl, _, rfl, rfl, rfl⟩, ⟨_, rfl, _, rfl, rfl, rfl⟩, ⟨_, rfl, _, rfl, rfl, rfl⟩, ⟨_, rfl, _, rfl, rfl, rfl⟩, ⟨_, rfl, _, rfl, rfl, rfl⟩, ⟨_, rfl, _, rfl, rfl, rfl⟩, ⟨_, rfl, _, rfl, rfl, rfl⟩, ⟨_, rfl, _, rfl, rfl, rfl⟩, ⟨_, rfl, _, rfl, rfl, rfl⟩, ⟨_, rfl, _, rfl, rfl, rfl⟩, ⟨_, rfl, _, rfl, rfl, rfl⟩, ⟨_, rfl, _, rfl, rfl, rfl⟩, ⟨_, rfl, _, rfl, rfl, rfl⟩, ⟨_, rfl, _, rfl, rfl, rfl⟩, ⟨_, rfl, _, rfl, rfl, rfl⟩, ⟨_, rfl, _, rfl, rfl, rfl⟩, ⟨_, rfl, _, rfl, rfl, rfl⟩, ⟨_, rfl, _, rfl, rfl, rfl⟩, ⟨_, rfl, _, rfl, rfl, rfl⟩, ⟨_, rfl, _, rfl, rfl, rfl⟩, ⟨_, rfl, _, rfl, rfl, rfl⟩, ⟨_, rfl, _, rfl, rfl, rfl⟩, ⟨_, rfl, _, rfl, rfl, rfl⟩, ⟨_, rfl, _, rfl, rfl, rfl⟩, ⟨_, rfl, _, rfl, rfl, rfl⟩, ⟨_, rfl, _, rfl, rfl, rfl⟩, ⟨_, rfl, _, rfl, rfl, rfl⟩, trivial⟩
theorem f_30 : AllF tab ds ⟨"_law_question", s_law_question, n_law_question, p_law_question, b_law_question, (fs_law_question 1), (fun f => if f = i_law_question then 29 else vw0 f)⟩ fns := ⟨⟨_, rfl, _, rfl, rfl, rfl⟩, ⟨_, rfl, _, rfl, rfl, rfl⟩, ⟨_, rfl, _, rfl, rfl, rfl⟩, ⟨_, rfl, _, rfl, rfl, rfl⟩, ⟨_, rfl, _, rfl, rfl, rfl⟩, ⟨_, rfl, _, rfl, rfl, rfl⟩, ⟨_, rfl, _, rfl, rfl, rfl⟩, ⟨_, rfl, _, rfl, rfl, rfl⟩, ⟨_, rfl, _, rfl, rfl, rfl⟩, ⟨_, rfl, _, rfl, rfl, rfl⟩, ⟨_, rfl, _, rfl, rfl, rfl⟩, ⟨_, rfl, _, rfl, rfl, rfl⟩, ⟨_, rfl, _, rfl, rfl, rfl⟩, ⟨_, rfl, _, rfl, rfl, rfl⟩, ⟨_, rfl, _, rfl, rfl, rfl⟩, ⟨_, rfl, _, rfl, rfl, rfl⟩, ⟨_, rfl, _, rfl, rfl, rfl⟩, ⟨_, rfl, _, rfl, rfl, rfl⟩, ⟨_, rfl, _, rfl, rfl, rfl⟩, ⟨_, rfl, _, rfl, rfl, rfl⟩, ⟨_, rfl, _, rfl, rfl, rfl⟩, ⟨_, rfl, _, rfl, rfl, rfl⟩, ⟨_, rfl, _, rfl, rfl, rfl⟩, ⟨_, rfl, _, rfl, rfl, rfl⟩, ⟨_, rfl, _, rfl, rfl, rfl⟩, ⟨_, rfl, _, rfl, rfl, rfl⟩, ⟨_, rfl, _, rfl, rfl, rfl⟩, trivial⟩
theorem f_31 : AllF tab ds ⟨"_law_question", s_law_question, n_law_question, p_law_question, b_law_question, (fs_law_question 2), (fun f => if f = i_law_question then 30 else vw0 f)⟩ fns := ⟨⟨_, rfl, _, rfl, rfl, rfl⟩, ⟨_, rfl, _, rfl, rfl, rfl⟩, ⟨_, rfl, _, rfl, rfl, rfl⟩, ⟨_, rfl, _, rfl, rfl, rfl⟩, ⟨_, rfl, _, rfl, rfl, rfl⟩, ⟨_, rfl, _, rfl, rfl, rfl⟩, ⟨_, rfl, _, rfl, rfl, rfl⟩, ⟨_, rfl, _, rfl, rfl, rfl⟩, ⟨_, rfl, _, rfl, rfl, rfl⟩, ⟨_, rfl, _, rfl, rfl, rfl⟩, ⟨_, rfl, _, rfl, rfl, rfl⟩, ⟨_, rfl, _, rfl, rfl, rfl⟩, ⟨_, rfl, _, rfl, rfl, rfl⟩, ⟨_, rfl, _, rfl, rfl, rfl⟩, ⟨_, rfl, _, rfl, rfl, rfl⟩, ⟨_, rfl, _, rfl, rfl, rfl⟩, ⟨_, rfl, _, rfl, rfl, rfl⟩, ⟨_, rfl, _, rfl, rfl, rfl⟩, ⟨_, rfl, _, rfl, rfl, rfl⟩, ⟨_, rfl, _, rfl, rfl, rfl⟩, ⟨_, rfl, _, rfl, rfl, rfl⟩, ⟨_, rfl, _, rfl, rfl, rfl⟩, ⟨_, rfl, _, rfl, rfl, rfl⟩, ⟨_, rfl, _, rfl, rfl, rfl⟩, ⟨_, rfl, _, rfl, rfl, rfl⟩, ⟨_, rfl, _, rfl, rfl, rfl⟩, ⟨_, rfl, _, rfl, rfl, rfl⟩, trivial⟩
theorem f_32 : AllF tab ds ⟨"_law_question", s_law_question, n_law_question, p_law_question, b_law_question, (fs_law_question 3), (fun f => if f = i_law_question then 31 else vw0 f)⟩ fns := ⟨⟨_, rfl, _, rfl, rfl, rfl⟩, ⟨_, rfl, _, rfl, rfl, rfl⟩, ⟨_, rfl, _, rfl, rfl, rfl⟩, ⟨_, rfl, _, rfl, rfl, rfl⟩, ⟨_, rfl, _, rfl, rfl, rfl⟩, ⟨_, rfl, _, rfl, rfl, rfl⟩, ⟨_, rfl, _, rfl, rfl, rfl⟩, ⟨_, rfl, _, rfl, rfl, rfl⟩, ⟨_, rfl, _, rfl, rfl, rfl⟩, ⟨_, rfl, _, rfl, rfl, rfl⟩, ⟨_, rfl, _, rfl, rfl, rfl⟩, ⟨_, rfl, _, rfl, rfl, rfl⟩, ⟨_, rfl, _, rfl, rfl, rfl⟩, ⟨_, rfl, _, rfl, rfl, rfl⟩, ⟨_, rfl, _, rfl, rfl, rfl⟩, ⟨_, rfl, _, rfl, rfl, rfl⟩, ⟨_, rfl, _, rfl, rfl, rfl⟩, ⟨_, rfl, _, rfl, rfl, rfl⟩, ⟨_, rfl, _, rfl, rfl, rfl⟩, ⟨_, rfl, _, rfl, rfl, rfl⟩, ⟨_, rfl, _, rfl, rfl, rfl⟩, ⟨_, rfl, _, rfl, rfl, rfl⟩, ⟨_, rfl, _, rfl, rfl, rfl⟩, ⟨_, rfl, _, rfl, rfl, rfl⟩, ⟨_, rfl, _, rfl, rfl, rfl⟩, ⟨_, rfl, _, rfl, rfl, rfl⟩, ⟨_, rfl, _, rfl, rfl, rfl⟩, trivial⟩
theorem f_33 : AllF tab ds ⟨"_law_question", s_law_question, n_law_question, p_law_question, b_law_question, (fs_law_question 4), (fun f => if f = i_law_question then 32 else vw0 f)⟩ fns := ⟨⟨_, rfl, _, rfl, rfl, rfl⟩, ⟨_, rfl, _, rfl, rfl, rfl⟩, ⟨_, rfl, _, rfl, rfl, rfl⟩, ⟨_, rfl, _, rfl, rfl, rfl⟩, ⟨_, rfl, _, rfl, rfl, rfl⟩, ⟨_, rfl, _, rfl, rfl, rfl⟩, ⟨_, rfl, _, rfl, rfl, rfl⟩, ⟨_, rfl, _, rfl, rfl, rfl⟩, ⟨_, rfl, _, rfl, rfl, rfl⟩, ⟨_, rfl, _, rfl, rfl, rfl⟩, ⟨_, rfl, _, rfl, rfl, rfl⟩, ⟨_, rfl, _, rfl, rfl, rfl⟩, ⟨_, rfl, _, rfl, rfl, rfl⟩, ⟨_, rfl, _, rfl, rfl, rfl⟩, ⟨_, rfl, _, rfl, rfl, rfl⟩, ⟨_, rfl, _, rfl, rfl, rfl⟩, ⟨_, rfl, _, rfl, rfl, rfl⟩, ⟨_, rfl, _, rfl, rfl, rfl⟩, ⟨_, rfl, _, rfl, rfl, rfl⟩, ⟨_, rfl, _, rfl, rfl, rfl⟩, ⟨_, rfl, _, rfl, rfl, rfl⟩, ⟨_, rfl, _, rfl, rfl, rfl⟩, ⟨_, rfl, _, rfl, rfl, rfl⟩, ⟨_, rfl, _, rfl, rfl, rfl⟩, ⟨_, rfl, _, rfl, rfl, rfl⟩, ⟨_, rfl, _, rfl, rfl, rfl⟩, ⟨_, rfl, _, rfl, rfl, rfl⟩, trivial⟩
theorem f_34 : AllF tab ds ⟨"_law_question_text", s_law_question_text, n_law_question_text, p_law_question_text, b_law_question_text, (fs_show_question 0), (fun f => if f = i_law_question_text then 34 else vw0 f)⟩ fns := ⟨⟨_, rfl, _, rfl, rfl, rfl⟩, ⟨_, rfl, _, rfl, rfl, rfl⟩, ⟨_, rfl, _, rfl, rfl, rfl⟩, ⟨_, rfl, _, rfl, rfl, rfl⟩, ⟨_, rfl, _, rfl, rfl, rfl⟩, ⟨_, rfl, _, rfl, rfl, rfl⟩, ⟨_, rfl, _, rfl, rfl, rfl⟩, ⟨_, rfl, _, rfl, rfl, rfl⟩, ⟨_, rfl, _, rfl, rfl, rfl⟩, ⟨_, rfl, _, rfl, rfl, rfl⟩, ⟨_, rfl, _, rfl, rfl, rfl⟩, ⟨_, rfl, _, rfl, rfl, rfl⟩, ⟨_, rfl, _, rfl, rfl, rfl⟩, ⟨_, rfl, _, rfl, rfl, rfl⟩, ⟨_, rfl, _, rfl, rfl, rfl⟩, ⟨_, rfl, _, rfl, rfl, rfl⟩, ⟨_, rfl, _, rfl, rfl, rfl⟩, ⟨_, rfl, _, rfl, rfl, rfl⟩, ⟨_, rfl, _, rfl, rfl, rfl⟩, ⟨_, rfl, _, rfl, rfl, rfl⟩, ⟨_, rfl, _, rfl, rfl, rfl⟩, ⟨_, rfl, _, rfl, rfl, rfl⟩, ⟨_, rfl, _, rfl, rfl, rfl⟩, ⟨_, rfl, _, rfl, rfl, rfl⟩, ⟨_, rfl, _, rfl, rfl, rfl⟩, ⟨_, rfl, _, rfl, rfl, rfl⟩, ⟨_, rfl, _, rfl, rfl, rfl⟩, trivial⟩
theorem f_35 : AllF tab ds ⟨"_law_question_text", s_law_question_text, n_law_question_text, p_law_question_text, b_law_question_text, (fs_show_question 1), (fun f => if f = i_law_question_text then 34 else vw0 f)⟩ fns := ⟨⟨_, rfl, _, rfl, rfl, rfl⟩, ⟨_, rfl, _, rfl, rfl, rfl⟩, ⟨_, rfl, _, rfl, rfl, rfl⟩, ⟨_, rfl, _, rfl, rfl, rfl⟩, ⟨_, rfl, _, rfl, rfl, rfl⟩, ⟨_, rfl, _, rfl, rfl, rfl⟩, ⟨_, rfl, _, rfl, rfl, rfl⟩, ⟨_, rfl, _, rfl, rfl, rfl⟩, ⟨_, rfl, _, rfl, rfl, rfl⟩, ⟨_, rfl, _, rfl, rfl, rfl⟩, ⟨_, rfl, _, rfl, rfl, rfl⟩, ⟨_, rfl, _, rfl, rfl, rfl⟩, ⟨_, rfl, _, rfl, rfl, rfl⟩, ⟨_, rfl, _, rfl, rfl, rfl⟩, ⟨_, rfl, _, rfl, rfl, rfl⟩, ⟨_, rfl, _, rfl, rfl, rfl⟩, ⟨_, rfl, _, rfl, rfl, rfl⟩, ⟨_, rfl, _, rfl, rfl, rfl⟩, ⟨_, rfl, _, rfl, rfl, rfl⟩, ⟨_, rfl, _, rfl, rfl, rfl⟩, ⟨_, rfl, _, rfl, rfl, rfl⟩, ⟨_, rfl, _, rfl, rfl, rfl⟩, ⟨_, rfl, _, rfl, rfl, rfl⟩, ⟨_, rfl, _, rfl, rfl, rfl⟩, ⟨_, rfl, _, rfl, rfl, rfl⟩, ⟨_, rfl, _, rfl, rfl, rfl⟩, ⟨_, rfl, _, rfl, rfl, rfl⟩, trivial⟩
theorem f_36 : AllF tab ds ⟨"_law_question_text", s_law_question_text, n_law_question_text, p_law_question_text, b_law_question_text, (fs_show_question 2), (fun f => if f = i_law_question_text then 35 else vw0 f)⟩ fns := ⟨⟨_, rfl, _, rfl, rfl, rfl⟩, ⟨_, rfl, _, rfl, rfl, rfl⟩, ⟨_, rfl, _, rfl, rfl, rfl⟩, ⟨_, rfl, _, rfl, rfl, rfl⟩, ⟨_, rfl, _, rfl, rfl, rfl⟩, ⟨_, rfl, _, rfl, rfl, rfl⟩, ⟨_, rfl, _, rfl, rfl, rfl⟩, ⟨_, rfl, _, rfl, rfl, rfl⟩, ⟨_, rfl, _, rfl, rfl, rfl⟩, ⟨_, rfl, _, rfl, rfl, rfl⟩, ⟨_, rfl, _, rfl, rfl, rfl⟩, ⟨_, rfl, _, rfl, rfl, rfl⟩, ⟨_, rfl, _, rfl, rfl, rfl⟩, ⟨_, rfl, _, rfl, rfl, rfl⟩, ⟨_, rfl, _, rfl, rfl, rfl⟩, ⟨_, rfl, _, rfl, rfl, rfl⟩, ⟨_, rfl, _, rfl, rfl, rfl⟩, ⟨_, rfl, _, rfl, rfl, rfl⟩, ⟨_, rfl, _, rfl, rfl, rfl⟩, ⟨_, rfl, _, rfl, rfl, rfl⟩, ⟨_, rfl, _, rfl, rfl, rfl⟩, ⟨_, rfl, _, rfl, rfl, rfl⟩, ⟨_, rfl, _, rfl, rfl, rfl⟩, ⟨_, rfl, _, rfl, rfl, rfl⟩, ⟨_, rfl, _, rfl, rfl, rfl⟩, ⟨_, rfl, _, rfl, rfl, rfl⟩, ⟨_, rfl, _, rfl, rfl, rfl⟩, trivial⟩
theorem f_37 : AllF tab ds ⟨"_law_question_text", s_law_question_text, n_law_question_text, p_law_question_text, b_law_question_text, (fs_show_question 3), (fun f => if f = i_law_question_text then 36 else vw0 f)⟩ fns := ⟨⟨_, rfl, _, rfl, rfl, rfl⟩, ⟨_, rfl, _, rfl, rfl, rfl⟩, ⟨_, rfl, _, rfl, rfl, rfl⟩, ⟨_, rfl, _, rfl, rfl, rfl⟩, ⟨_, rfl, _, rfl, rfl, rfl⟩, ⟨_, rfl, _, rfl, rfl, rfl⟩, ⟨_, rfl, _, rfl, rfl, rfl⟩, ⟨_, rfl, _, rfl, rfl, rfl⟩, ⟨_, rfl, _, rfl, rfl, rfl⟩, ⟨_, rfl, _, rfl, rfl, rfl⟩, ⟨_, rfl, _, rfl, rfl, rfl⟩, ⟨_, rfl, _, rfl, rfl, rfl⟩, ⟨_, rfl, _, rfl, rfl, rfl⟩, ⟨_, rfl, _, rfl, rfl, rfl⟩, ⟨_, rfl, _, rfl, rfl, rfl⟩, ⟨_, rfl, _, rfl, rfl, rfl⟩, ⟨_, rfl, _, rfl, rfl, rfl⟩, ⟨_, rfl, _, rfl, rfl, rfl⟩, ⟨_, rfl, _, rfl, rfl, rfl⟩, ⟨_, rfl, _, rfl, rfl, rfl⟩, ⟨_, rfl, _, rfl, rfl, rfl⟩, ⟨_, rfl, _, rfl, rfl, rfl⟩, ⟨_, rfl, _, rfl, rfl, rfl⟩, ⟨_, rfl, _, rfl, rfl, rfl⟩, ⟨_, rfl, _, rfl, rfl, rfl⟩, ⟨_, rfl, _, rfl, rfl, rfl⟩, ⟨_, rfl, _, rfl, rfl, rfl⟩, trivial⟩
theorem f_38 : AllF tab ds ⟨"_law_question_text", s_law_question_text, n_law_question_text, p_law_question_text, b_law_question_text, (fs_show_question 4), (fun f => if f = i_law_question_text then 37 else vw0 f)⟩ fns := ⟨⟨_, rfl, _, rfl, rfl, rfl⟩, ⟨_, rfl, _, rfl, rfl, rfl⟩, ⟨_, rfl, _, rfl, rfl, rfl⟩, ⟨_, rfl, _, rfl, rfl, rfl⟩, ⟨_, rfl, _, rfl, rfl, rfl⟩, ⟨_, rfl, _, rfl, rfl, rfl⟩, ⟨_, rfl, _, rfl, rfl, rfl⟩, ⟨_, rfl, _, rfl, rfl, rfl⟩, ⟨_, rfl, _, rfl, rfl, rfl⟩, ⟨_, rfl, _, rfl, rfl, rfl⟩, ⟨_, rfl, _, rfl, rfl, rfl⟩, ⟨_, rfl, _, rfl, rfl, rfl⟩, ⟨_, rfl, _, rfl, rfl, rfl⟩, ⟨_, rfl, _, rfl, rfl, rfl⟩, ⟨_, rfl, _, rfl, rfl, rfl⟩, ⟨_, rfl, _, rfl, rfl, rfl⟩, ⟨_, rfl, _, rfl, rfl, rfl⟩, ⟨_, rfl, _, rfl, rfl, rfl⟩, ⟨_, rfl, _, rfl, rfl, rfl⟩, ⟨_, rfl, _, rfl, rfl, rfl⟩, ⟨_, rfl, _, rfl, rfl, rfl⟩, ⟨_, rfl, _, rfl, rfl, rfl⟩, ⟨_, rfl, _, rfl, rfl, rfl⟩, ⟨_, rfl, _, rfl, rfl, rfl⟩, ⟨_, rfl, _, rfl, rfl, rfl⟩, ⟨_, rfl, _, rfl, rfl, rfl⟩, ⟨_, rfl, _, rfl, rfl, rfl⟩, trivial⟩
theorem f_39 : AllF tab ds ⟨"_law_run", s_law_run, n_law_run, p_law_run, b_law_run, fs_law_run, vw0⟩ fns := ⟨⟨_, rfl, _, rfl, rfl, rfl⟩, ⟨_, rfl, _, rfl, rfl, rfl⟩, ⟨_, rfl, _, rfl, rfl, rfl⟩, ⟨_, rfl, _, rfl, rfl, rfl⟩, ⟨_, rfl, _, rfl, rfl, rfl⟩, ⟨_, rfl, _, rfl, rfl, rfl⟩, ⟨_, rfl, _, rfl, rfl, rfl⟩, ⟨_, rfl, _, rfl, rfl, rfl⟩, ⟨_, rfl, _, rfl, rfl, rfl⟩, ⟨_, rfl, _, rfl, rfl, rfl⟩, ⟨_, rfl, _, rfl, rfl, rfl⟩, ⟨_, rfl, _, rfl, rfl, rfl⟩, ⟨_, rfl, _, rfl, rfl, rfl⟩, ⟨_, rfl, _, rfl, rfl, rfl⟩, ⟨_, rfl, _, rfl, rfl, rfl⟩, ⟨_, rfl, _, rfl, rfl, rfl⟩, ⟨_, rfl, _, rfl, rfl, rfl⟩, ⟨_, rfl, _, rfl, rfl, rfl⟩, ⟨_, rfl, _, rfl, rfl, rfl⟩, ⟨_, rfl, _, rfl, rfl, rfl⟩, ⟨_, rfl, _, rfl, rfl, rfl⟩, ⟨_, rfl, _, rfl, rfl, rfl⟩, ⟨_, rfl, _, rfl, rfl, rfl⟩, ⟨_, rfl, _, rfl, rfl, rfl⟩, ⟨_, rfl, _, rfl, rfl, rfl⟩, ⟨_, rfl, _, rfl, rfl, rfl⟩, ⟨_, rfl, _, rfl, rfl, rfl⟩, trivial⟩
theorem f_40 : AllF tab ds ⟨"_law_run_text", s_law_run_text, n_law_run_text, p_law_run_text, b_law_run_text, fs_show_run, vw0⟩ fns := ⟨⟨_, rfl, _, rfl, rfl, rfl⟩, ⟨_, rfl, _, rfl, rfl, rfl⟩, ⟨_, rfl, _, rfl, rfl, rfl⟩, ⟨_, rfl, _, rfl, rfl, rfl⟩, ⟨_, rfl, _, rfl, rfl, rfl⟩, ⟨_, rfl, _, rfl, rfl, rfl⟩, ⟨_, rfl, _, rfl, rfl, rfl⟩, ⟨_, rfl, _, rfl, rfl, rfl⟩, ⟨_, rfl, _, rfl, rfl, rfl⟩, ⟨_, rfl, _, rfl, rfl, rfl⟩, ⟨_, rfl, _, rfl, rfl, rfl⟩, ⟨_, rfl, _, rfl, rfl, rfl⟩, ⟨_, rfl, _, rfl, rfl, rfl⟩, ⟨_, rfl, _, rfl, rfl, rfl⟩, ⟨_, rfl, _, rfl, rfl, rfl⟩, ⟨_, rfl, _, rfl, rfl, rfl⟩, ⟨_, rfl, _, rfl, rfl, rfl⟩, ⟨_, rfl, _, rfl, rfl, rfl⟩, ⟨_, rfl, _, rfl, rfl, rfl⟩, ⟨_, rfl, _, rfl, rfl, rfl⟩, ⟨_, rfl, _, rfl, rfl, rfl⟩, ⟨_, rfl, _, rfl, rfl, rfl⟩, ⟨_, rfl, _, rfl, rfl, rfl⟩, ⟨_, rfl, _, rfl, rfl, rfl⟩, ⟨_, rfl, _, rfl, rfl, rfl⟩, ⟨_, rfl, _, rfl, rfl, rfl⟩, ⟨_, rfl, _, rfl, rfl, rfl⟩, trivial⟩
theorem f_41 : AllF tab ds ⟨"_law_right", s_law_right, n_law_right, p_law_right, b_law_right, fs_law_right, vw0⟩ fns := ⟨⟨_, rfl, _, rfl, rfl, rfl⟩, ⟨_, rfl, _, rfl, rfl, rfl⟩, ⟨_, rfl, _, rfl, rfl, rfl⟩, ⟨_, rfl, _, rfl, rfl, rfl⟩, ⟨_, rfl, _, rfl, rfl, rfl⟩, ⟨_, rfl, _, rfl, rfl, rfl⟩, ⟨_, rfl, _, rfl, rfl, rfl⟩, ⟨_, rfl, _, rfl, rfl, rfl⟩, ⟨_, rfl, _, rfl, rfl, rfl⟩, ⟨_, rfl, _, rfl, rfl, rfl⟩, ⟨_, rfl, _, rfl, rfl, rfl⟩, ⟨_, rfl, _, rfl, rfl, rfl⟩, ⟨_, rfl, _, rfl, rfl, rfl⟩, ⟨_, rfl, _, rfl, rfl, rfl⟩, ⟨_, rfl, _, rfl, rfl, rfl⟩, ⟨_, rfl, _, rfl, rfl, rfl⟩, ⟨_, rfl, _, rfl, rfl, rfl⟩, ⟨_, rfl, _, rfl, rfl, rfl⟩, ⟨_, rfl, _, rfl, rfl, rfl⟩, ⟨_, rfl, _, rfl, rfl, rfl⟩, ⟨_, rfl, _, rfl, rfl, rfl⟩, ⟨_, rfl, _, rfl, rfl, rfl⟩, ⟨_, rfl, _, rfl, rfl, rfl⟩, ⟨_, rfl, _, rfl, rfl, rfl⟩, ⟨_, rfl, _, rfl, rfl, rfl⟩, ⟨_, rfl, _, rfl, rfl, rfl⟩, ⟨_, rfl, _, rfl, rfl, rfl⟩, trivial⟩
theorem f_42 : AllF tab ds ⟨"law", s_law, n_law, p_law, b_law, fs_law, vw0⟩ fns := ⟨⟨_, rfl, _, rfl, rfl, rfl⟩, ⟨_, rfl, _, rfl, rfl, rfl⟩, ⟨_, rfl, _, rfl, rfl, rfl⟩, ⟨_, rfl, _, rfl, rfl, rfl⟩, ⟨_, rfl, _, rfl, rfl, rfl⟩, ⟨_, rfl, _, rfl, rfl, rfl⟩, ⟨_, rfl, _, rfl, rfl, rfl⟩, ⟨_, rfl, _, rfl, rfl, rfl⟩, ⟨_, rfl, _, rfl, rfl, rfl⟩, ⟨_, rfl, _, rfl, rfl, rfl⟩, ⟨_, rfl, _, rfl, rfl, rfl⟩, ⟨_, rfl, _, rfl, rfl, rfl⟩, ⟨_, rfl, _, rfl, rfl, rfl⟩, ⟨_, rfl, _, rfl, rfl, rfl⟩, ⟨_, rfl, _, rfl, rfl, rfl⟩, ⟨_, rfl, _, rfl, rfl, rfl⟩, ⟨_, rfl, _, rfl, rfl, rfl⟩, ⟨_, rfl, _, rfl, rfl, rfl⟩, ⟨_, rfl, _, rfl, rfl, rfl⟩, ⟨_, rfl, _, rfl, rfl, rfl⟩, ⟨_, rfl, _, rfl, rfl, rfl⟩, ⟨_, rfl, _, rfl, rfl, rfl⟩, ⟨_, rfl, _, rfl, rfl, rfl⟩, ⟨_, rfl, _, rfl, rfl, rfl⟩, ⟨_, rfl, _, rfl, rfl, rfl⟩, ⟨_, rfl, _, rfl, rfl, rfl⟩, ⟨_, rfl, _, rfl, rfl, rfl⟩, trivial⟩
theorem allF : ∀ d, d ∈ ds → AllF tab ds d fns := by
  intro d hd
  unfold ds at hd
  simp only [List.mem_cons, List.not_mem_nil, or_false] at hd
  rcases hd with rfl | rfl | rfl | rfl | rfl | rfl | rfl | rfl | rfl | rfl | rfl | rfl | rfl | rfl | rfl | rfl | rfl | rfl | rfl | rfl | rfl | rfl | rfl | rfl | rfl | rfl | rfl | rfl | rfl | rfl | rfl | rfl | rfl | rfl | rfl | rfl | rfl | rfl | rfl | rfl | rfl | rfl | rfl
  · exact f_0
  · exact f_1
  · exact f_2
  · exact f_3
  · exact f_4
  · exact f_5
  · exact f_6
  · exact f_7
  · exact f_8
  · exact f_9
  · exact f_10
  · exact f_11
  · exact f_12
  · exact f_13
  · exact f_14
  · exact f_15
  · exact f_16
  · exact f_17
  · exact f_18
  · exact f_19
  · exact f_20
  · exact f_21
  · exact f_22
  · exact f_23
  · exact f_24
  · exact f_25
  · exact f_26
  · exact f_27
  · exact f_28
  · exact f_29
  · exact f_30
  · exact f_31
  · exact f_32
  · exact f_33
  · exact f_34
  · exact f_35
  · exact f_36
  · exact f_37
  · exact f_38
  · exact f_39
  · exact f_40
  · exact f_41
  · exact f_42
theorem all_mk {l : PySem.W.OpenLaw} {w : World} {K : Frag} {h : Heap} {mg : Str → Option Value} {fa : Addr} (X : K.In h) (G : h.Ns mainGlobals mg) (hfa : mg "law" = some (.ref fa)) (hc : AllC K gl) (hn : AllN K bl) (hk : AllK K w kd) (hd : AllD K tab) :
    ∃ (fd : FuncData) (cl : Dy.Cls), (∀ (s : Shared) (u : Value), BindsTo s fd ⟨[u], []⟩ [("_law_script", u)]) ∧ ∀ base : Heap, K.In base → base.Ns mainGlobals mg → FnG l.prog w K mg base 44 fa fd ["_law_script"] (spG K cl 1 fs_law) := by
  obtain ⟨f, fd, ha, T⟩ := hd.get (i := 26) (x := "law") (st := s_law) rfl
  have e := hfa.symm.trans (PySem.W.mg_of X G ha)
  cases e
  refine ⟨fd, fun _ => fa, fun s u => ?_, fun base _ _ => stage X G hc hn hk hd allF allG 42 ⟨"law", s_law, n_law, p_law, b_law, fs_law, vw0⟩ rfl fa fd T⟩
  obtain ⟨oc, od, kV, doc, pm, an, cdv, ct, osl, rfl, lk, hcd⟩ := T.ex
  exact .of_eq rfl
theorem walk {l : PySem.W.OpenLaw} {q : Program} {loose : List Str} {XP : (Str → Option Value) → Heap → Prop} {YP : World → Heap → Prop} {d : DefRec} {K : Params → Frag} (hn : l.most = some 63) (hdf : d.params.defaults = [])
    (hY : ∀ (w : World) (h : Heap), YP w h → (K w.params).In h)
    (F : ∀ (w : World) (mg : Str → Option Value) (fa : Addr) (h : Heap), (K w.params).In h → h.Ns mainGlobals mg → mg d.name = some (.ref fa) → ∃ (fd : FuncData) (cl : Dy.Cls), (∀ (s : Shared) (u : Value), BindsTo s fd ⟨[u], []⟩ [("_law_script", u)]) ∧
      ∀ base : Heap, (K w.params).In base → base.Ns mainGlobals mg → FnG l.prog w (K w.params) mg base 44 fa fd ["_law_script"] (spG (K w.params) cl 1 fs_law)) :
    PySem.W.WalkO q loose XP YP l.row.toRowW d [] (fun f vs => PySem.call f vs) :=
  walkG (n := 63) hn (by decide) hdf ⟨rfl, by decide, by decide⟩ hY F fun ns hl => ⟨ns, by omega, rfl, fun _ => rfl⟩
end LR

open PySem PySem.W PyProof.Rows
set_option maxRecDepth 100000 in
set_option maxHeartbeats 0 in
theorem PySem.Challenge.cw_loggedruns_k86_questions_and_runs_writte_holds : PySem.Challenge.rw_loggedruns_k86_questions_and_runs_writte.Holds := by
  w_on; o_law; k_head; (case hw => w_witness2)
  k_fill
  refine LR.walk (l := PySem.Challenge.rw_loggedruns_k86_questions_and_runs_writte) rfl rfl (fun w h Y => PySem.W.kIn_of Y) ?qF
  case qF =>
    intro w mg fa h KX G hmg
    refine LR.all_mk KX G hmg ?qc ?qn ?qk ?qd
    case qc =>
      refine ⟨?c0, ?c1, ?c2, ?c3, ?c4, ?c5, ?c6, ?c7, ?c8, ?c9, ?c10, ?c11, ?c12, ?c13, ?c14, ?c15, trivial⟩
      case c0 => (apply Dy.hasCV; (· k_is); (· (apply Dy.hasVS; decide +kernel)))
      case c1 => (apply Dy.hasCV; (· k_is); (· (apply Dy.hasVS; decide +kernel)))
      case c2 => (apply Dy.hasCV; (· k_is); (· (apply Dy.hasVS; decide +kernel)))
      case c3 => (apply Dy.hasCV; (· k_is); (· (apply Dy.hasVI; decide +kernel)))
      case c4 => (apply Dy.hasCV; (· k_is); (· (apply Dy.hasVI; decide +kernel)))
      case c5 => (apply Dy.hasCV; (· k_is); (· (apply Dy.hasVS; decide +kernel)))
      case c6 => (apply Dy.hasCV; (· k_is); (· (apply Dy.hasVS; decide +kernel)))
      case c7 => (apply Dy.hasCV; (· k_is); (· (apply Dy.hasVS; decide +kernel)))
      case c8 => (apply Dy.hasCV; (· k_is); (· (apply Dy.hasVT; (· k_is); (· rfl); (· decide); (· (refine ⟨?_, ?_⟩; (· (apply Dy.hasVS; decide +kernel)); (· (refine ⟨?_, ?_⟩; (· (apply Dy.hasVS; decide +kernel)); (· exact trivial))))))))
      case c9 => (apply Dy.hasCV; (· k_is); (· (apply Dy.hasVS; decide +kernel)))
      case c10 => (apply Dy.hasCV; (· k_is); (· (apply Dy.hasVS; decide +kernel)))
      case c11 => (apply Dy.hasCV; (· k_is); (· (apply Dy.hasVS; decide +kernel)))
      case c12 => (apply Dy.hasCV; (· k_is); (· (apply Dy.hasVI; decide +kernel)))
      case c13 => (apply Dy.hasCV; (· k_is); (· (apply Dy.hasVI; decide +kernel)))
      case c14 => (apply Dy.hasCV; (· k_is); (· (apply Dy.hasVS; decide +kernel)))
      case c15 => (apply Dy.hasCV; (· k_is); (· (apply Dy.hasVS; decide +kernel)))
    case qn =>
      refine ⟨?z0, ?z1, ?z2, ?z3, ?z4, ?z5, ?z6, ?z7, ?z8, ?z9, ?z10, ?z11, trivial⟩
      case z0 => k_is
      case z1 => k_is
      case z2 => k_is
      case z3 => k_is
      case z4 => k_is
      case z5 => k_is
      case z6 => k_is
      case z7 => k_is
      case z8 => k_is
      case z9 => k_is
      case z10 => k_is
      case z11 => k_is
    case qk =>
      refine ⟨?k0, trivial⟩
      case k0 => (apply Dy.hasK; (· k_is); (· k_is); (· k_keys); (· rfl); (· (apply Dy.krel_cons; (· decide +kernel); (· (apply Dy.hasVT; (· k_is); (· rfl); (· decide); (· (refine ⟨?_, ?_⟩; (· (apply Dy.hasVS; decide +kernel)); (· (refine ⟨?_, ?_⟩; (· (apply Dy.hasVS; decide +kernel)); (· exact trivial))))))); (· (apply Dy.krel_cons; (· decide +kernel); (· (apply Dy.hasVT; (· k_is); (· rfl); (· decide); (· (refine ⟨?_, ?_⟩; (· (apply Dy.hasVS; decide +kernel)); (· (refine ⟨?_, ?_⟩; (· (apply Dy.hasVS; decide +kernel)); (· exact trivial))))))); (· (apply Dy.krel_cons; (· decide +kernel); (· (apply Dy.hasVT; (· k_is); (· rfl); (· decide); (· (refine ⟨?_, ?_⟩; (· (apply Dy.hasVS; decide +kernel)); (· (refine ⟨?_, ?_⟩; (· (apply Dy.hasVS; decide +kernel)); (· exact trivial))))))); (· (apply Dy.krel_cons; (· decide +kernel); (· (apply Dy.hasVT; (· k_is); (· rfl); (· decide); (· (refine ⟨?_, ?_⟩; (· (apply Dy.hasVS; decide +kernel)); (· (refine ⟨?_, ?_⟩; (· (apply Dy.hasVS; decide +kernel)); (· exact trivial))))))); (· (apply Dy.krel_cons; (· decide +kernel); (· (apply Dy.hasVT; (· k_is); (· rfl); (· decide); (· (refine ⟨?_, ?_⟩; (· (apply Dy.hasVS; decide +kernel)); (· (refine ⟨?_, ?_⟩; (· (apply Dy.hasVS; decide +kernel)); (· exact trivial))))))); (· (apply Dy.krel_cons; (· decide +kernel); (· (apply Dy.hasVT; (· k_is); (· rfl); (· decide); (· (refine ⟨?_, ?_⟩; (· (apply Dy.hasVS; decide +kernel)); (· (refine ⟨?_, ?_⟩; (· (apply Dy.hasVS; decide +kernel)); (· exact trivial))))))); (· (apply Dy.krel_cons; (· decide +kernel); (· (apply Dy.hasVT; (· k_is); (· rfl); (· decide); (· (refine ⟨?_, ?_⟩; (· (apply Dy.hasVS; decide +kernel)); (· (refine ⟨?_, ?_⟩; (· (apply Dy.hasVS; decide +kernel)); (· exact trivial))))))); (· (apply Dy.krel_cons; (· decide +kernel); (· (apply Dy.hasVT; (· k_is); (· rfl); (· decide); (· (refine ⟨?_, ?_⟩; (· (apply Dy.hasVS; decide +kernel)); (· exact trivial))))); (· (apply Dy.krel_cons; (· decide +kernel); (· (apply Dy.hasVT; (· k_is); (· rfl); (· decide); (· (refine ⟨?_, ?_⟩; (· (apply Dy.hasVS; decide +kernel)); (· (refine ⟨?_, ?_⟩; (· (apply Dy.hasVS; decide +kernel)); (· exact trivial))))))); (· (apply Dy.krel_cons; (· decide +kernel); (· (apply Dy.hasVT; (· k_is); (· rfl); (· decide); (· (refine ⟨?_, ?_⟩; (· (apply Dy.hasVS; decide +kernel)); (· exact trivial))))); (· exact Dy.krel_nil))))))))))))))))))))))
    case qd =>
      refine ⟨?d0, ?d1, ?d2, ?d3, ?d4, ?d5, ?d6, ?d7, ?d8, ?d9, ?d10, ?d11, ?d12, ?d13, ?d14, ?d15, ?d16, ?d17, ?d18, ?d19, ?d20, ?d21, ?d22, ?d23, ?d24, ?d25, ?d26, trivial⟩
      case d0 => (apply Dy.hasDef; (· k_is); (· k_is); (· k_is); (· k_is))
      case d1 => (apply Dy.hasDef; (· k_is); (· k_is); (· k_is); (· k_is))
      case d2 => (apply Dy.hasDef; (· k_is); (· k_is); (· k_is); (· k_is))
      case d3 => (apply Dy.hasDef; (· k_is); (· k_is); (· k_is); (· k_is))
      case d4 => (apply Dy.hasDef; (· k_is); (· k_is); (· k_is); (· k_is))
      case d5 => (apply Dy.hasDef; (· k_is); (· k_is); (· k_is); (· k_is))
      case d6 => (apply Dy.hasDef; (· k_is); (· k_is); (· k_is); (· k_is))
      case d7 => (apply Dy.hasDef; (· k_is); (· k_is); (· k_is); (· k_is))
      case d8 => (apply Dy.hasDef; (· k_is); (· k_is); (· k_is); (· k_is))
      case d9 => (apply Dy.hasDef; (· k_is); (· k_is); (· k_is); (· k_is))
      case d10 => (apply Dy.hasDef; (· k_is); (· k_is); (· k_is); (· k_is))
      case d11 => (apply Dy.hasDef; (· k_is); (· k_is); (· k_is); (· k_is))
      case d12 => (apply Dy.hasDef; (· k_is); (· k_is); (· k_is); (· k_is))
      case d13 => (apply Dy.hasDef; (· k_is); (· k_is); (· k_is); (· k_is))
      case d14 => (apply Dy.hasDef; (· k_is); (· k_is); (· k_is); (· k_is))
      case d15 => (apply Dy.hasDef; (· k_is); (· k_is); (· k_is); (· k_is))
      case d16 => (apply Dy.hasDef; (· k_is); (· k_is); (· k_is); (· k_is))
      case d17 => (apply Dy.hasDef; (· k_is); (· k_is); (· k_is); (· k_is))
      case d18 => (apply Dy.hasDef; (· k_is); (· k_is); (· k_is); (· k_is))
      case d19 => (apply Dy.hasDef; (· k_is); (· k_is); (· k_is); (· k_is))
      case d20 => (apply Dy.hasDef; (· k_is); (· k_is); (· k_is); (· k_is))
      case d21 => (apply Dy.hasDef; (· k_is); (· k_is); (· k_is); (· k_is))
      case d22 => (apply Dy.hasDef; (· k_is); (· k_is); (· k_is); (· k_is))
      case d23 => (apply Dy.hasDef; (· k_is); (· k_is); (· k_is); (· k_is))
      case d24 => (apply Dy.hasDef; (· k_is); (· k_is); (· k_is); (· k_is))
      case d25 => (apply Dy.hasDef; (· k_is); (· k_is); (· k_is); (· k_is))
      case d26 => (apply Dy.hasDef; (· k_is); (· k_is); (· k_is); (· k_is))
#print axioms PySem.Challenge.cw_loggedruns_k86_questions_and_runs_writte_holds
