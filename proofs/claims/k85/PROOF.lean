import PyProof.Rows.All
import Wide.All
import OpenK.AllK
import Wide.FinOn
import HandS.ForMost
import HandS.ForExc
import HandS.Codes
import HandS.Deep
import HandS.IsInst
import HandS.Wide
import HandS.Flow
import HandS.RaiseMore
import HandS.Zip
import HandS.TupAny
import HandS.Style
import PySem.Challenge.RW_loggedruns_k85_items_written_and_read
set_option Elab.async false
set_option linter.all false
set_option maxRecDepth 100000
/-! Dp, part A: value trees, the store of changing objects, their relation to the abstract heap of the hand layer. -/
namespace Dy
open PySem PySem.Spec L2
abbrev Frag := PySem.W.Frag
/-- a text by its code points -/
abbrev Text := List Nat
/-- values: trees; il: a list that is never changed again (own: a tracked one); loc: a changing object of the store -/
inductive Val where
  | non
  | bool (b : Bool)
  | int (i : Int)
  | str (s : Text)
  | tup (vs : List Val)
  | il (own : Bool) (vs : List Val)
  | loc (n : Nat)
inductive Ob where
  | list (vs : List Val)
abbrev Store := List Ob
/-- phi: where the store's objects lie; I: addresses of lists that are never changed -/
structure Wd where
  phi : List Addr
  I : Addr → Prop
mutual
inductive RV (K : Frag) (W : Wd) (H : Hp) : Val → V → Prop
  | non : RV K W H .non .non
  | bool (b : Bool) : RV K W H (.bool b) (.bl b)
  | int (i : Int) : RV K W H (.int i) (.int i)
  | str (s : Text) : RV K W H (.str s) (.str (SX.S s))
  | tup {a : Addr} {xs : List V} {vs : List Val} : SqT K H a xs → RVs K W H vs xs → RV K W H (.tup vs) (.ref a)
  | il1 {a : Addr} {xs : List V} {vs : List Val} : W.I a → H a = some (.lst xs) → RVs K W H vs xs → RV K W H (.il true vs) (.ref a)
  | il0 {a : Addr} {xs : List V} {vs : List Val} : W.I a → SqL K H a xs → RVs K W H vs xs → RV K W H (.il false vs) (.ref a)
  | ilk {a : Addr} {xs : List V} {vs : List Val} : SqL K (fun _ => none) a xs → RVs K W H vs xs → RV K W H (.il false vs) (.ref a)
  | loc {n : Nat} {a : Addr} : W.phi[n]? = some a → RV K W H (.loc n) (.ref a)
inductive RVs (K : Frag) (W : Wd) (H : Hp) : List Val → List V → Prop
  | nil : RVs K W H [] []
  | cons {v : Val} {vs : List Val} {x : V} {xs : List V} : RV K W H v x → RVs K W H vs xs → RVs K W H (v :: vs) (x :: xs)
end
def RO (K : Frag) (W : Wd) (H : Hp) : Ob → Addr → Prop
  | .list vs, a => ∃ xs, H a = some (.lst xs) ∧ RVs K W H vs xs
structure HR (K : Frag) (W : Wd) (m : Store) (H : Hp) : Prop where
  len : W.phi.length = m.length
  nd : W.phi.Nodup
  dis : ∀ a, a ∈ W.phi → ¬ W.I a
  inh : ∀ a, W.I a → H a ≠ none
  obj : ∀ (n : Nat) (o : Ob), m[n]? = some o → ∃ a, W.phi[n]? = some a ∧ RO K W H o a
/-- from one state to a later one: what the store does not hold is as it was -/
structure Ext (W : Wd) (H : Hp) (W' : Wd) (H' : Hp) : Prop where
  pre : ∃ more, W'.phi = W.phi ++ more ∧ ∀ a, a ∈ more → H a = none
  inc : ∀ a, W.I a → W'.I a
  new : ∀ a, W'.I a → W.I a ∨ H a = none
  fr : ∀ b o, H b = some o → b ∉ W.phi → H' b = some o
  al : ∀ a, a ∈ W.phi → H' a ≠ none
section
variable {K : Frag} {W W1 W2 : Wd} {H H1 H2 : Hp} {m m1 : Store}
theorem HR.at (h : HR K W m H) {a : Addr} (ha : a ∈ W.phi) : ∃ (n : Nat) (o : Ob), W.phi[n]? = some a ∧ m[n]? = some o ∧ RO K W H o a := by
  obtain ⟨n, hn, e⟩ := List.mem_iff_getElem.mp ha
  have hm : n < m.length := by rw [← h.len]; exact hn
  obtain ⟨a', e1, r⟩ := h.obj n (m[n]) (List.getElem?_eq_getElem hm)
  have e2 : W.phi[n]? = some a := by rw [List.getElem?_eq_getElem hn, e]
  rw [e2] at e1; cases e1
  exact ⟨n, _, e2, List.getElem?_eq_getElem hm, r⟩
theorem HR.lst_at (h : HR K W m H) {a : Addr} (ha : a ∈ W.phi) : ∃ xs, H a = some (.lst xs) := by
  obtain ⟨n, o, _, _, r⟩ := h.at ha
  cases o with
  | list vs => exact ⟨_, r.choose_spec.1⟩
theorem HR.notin (h : HR K W m H) {a : Addr} {o : HO} (e : H a = some o) (hn : ∀ xs, o ≠ .lst xs) : a ∉ W.phi := fun ha => by
  obtain ⟨xs, q⟩ := h.lst_at ha
  rw [e] at q; cases q
  exact hn xs rfl
theorem Ext.refl (h : HR K W m H) : Ext W H W H :=
  ⟨⟨[], by simp, fun a z => by cases z⟩, fun _ z => z, fun _ z => .inl z, fun _ _ e _ => e, fun a ha => by obtain ⟨xs, q⟩ := h.lst_at ha; rw [q]; simp⟩
theorem Ext.back (e : Ext W H W1 H1) {a : Addr} (h : H1 a = none) : H a = none := by
  cases q : H a with
  | none => rfl
  | some o =>
    by_cases ha : a ∈ W.phi
    · exact absurd h (e.al a ha)
    · rw [e.fr a o q ha] at h; cases h
theorem Ext.sub (e : Ext W H W1 H1) {a : Addr} (ha : a ∈ W.phi) : a ∈ W1.phi := by
  obtain ⟨more, e1, _⟩ := e.pre
  rw [e1]; exact List.mem_append_left _ ha
theorem Ext.stays (e : Ext W H W1 H1) {b : Addr} {o : HO} (q : H b = some o) (hb : b ∉ W.phi) : b ∉ W1.phi := fun z => by
  obtain ⟨more, e1, e2⟩ := e.pre
  rw [e1] at z
  rcases List.mem_append.mp z with z | z
  · exact hb z
  · rw [e2 b z] at q; cases q
theorem Ext.trans (e : Ext W H W1 H1) (f : Ext W1 H1 W2 H2) : Ext W H W2 H2 where
  pre := by
    obtain ⟨l1, e1, e2⟩ := e.pre
    obtain ⟨l2, f1, f2⟩ := f.pre
    refine ⟨l1 ++ l2, by rw [f1, e1, List.append_assoc], fun a ha => ?_⟩
    rcases List.mem_append.mp ha with z | z
    · exact e2 a z
    · exact e.back (f2 a z)
  inc := fun a z => f.inc a (e.inc a z)
  new := fun a z => by
    rcases f.new a z with z | z
    · exact e.new a z
    · exact .inr (e.back z)
  fr := fun b o q hb => f.fr b o (e.fr b o q hb) (e.stays q hb)
  al := fun a ha => f.al a (e.sub ha)
theorem sqT_keep (h : HR K W m H) (e : Ext W H W1 H1) {a : Addr} {xs : List V} (s : SqT K H a xs) : SqT K H1 a xs := by
  rcases s with s | s
  · refine .inl ?_
    rcases s with s | ⟨o, s⟩
    · exact .inl (e.fr _ _ s (h.notin s fun _ z => by cases z))
    · exact .inr ⟨o, e.fr _ _ s (h.notin s fun _ z => by cases z)⟩
  · exact .inr s
theorem sqL_k {a : Addr} {xs : List V} (s : SqL K (fun _ => none) a xs) : SqL K H a xs := by
  rcases s with (s | ⟨o, s⟩) | s
  · cases s
  · cases s
  · exact .inr s
theorem phi_keep (e : Ext W H W1 H1) {n : Nat} {a : Addr} (q : W.phi[n]? = some a) : W1.phi[n]? = some a := by
  obtain ⟨more, e1, _⟩ := e.pre
  rw [e1, List.getElem?_append_left (List.getElem?_eq_some_iff.mp q).1]
  exact q
mutual
theorem RV.mono (h : HR K W m H) (e : Ext W H W1 H1) : ∀ {v : Val} {x : V}, RV K W H v x → RV K W1 H1 v x
  | _, _, .non => .non
  | _, _, .bool b => .bool b
  | _, _, .int i => .int i
  | _, _, .str s => .str s
  | _, _, .tup s r => .tup (sqT_keep h e s) (RVs.mono h e r)
  | _, _, .il1 i q r => .il1 (e.inc _ i) (e.fr _ _ q fun z => h.dis _ z i) (RVs.mono h e r)
  | _, _, .il0 i q r => .il0 (e.inc _ i) (by
      rcases q with (q | ⟨o, q⟩) | q
      · exact .inl (.inl (e.fr _ _ q fun z => h.dis _ z i))
      · exact .inl (.inr ⟨o, e.fr _ _ q fun z => h.dis _ z i⟩)
      · exact .inr q) (RVs.mono h e r)
  | _, _, .ilk q r => .ilk q (RVs.mono h e r)
  | _, _, .loc q => .loc (phi_keep e q)
theorem RVs.mono (h : HR K W m H) (e : Ext W H W1 H1) : ∀ {vs : List Val} {xs : List V}, RVs K W H vs xs → RVs K W1 H1 vs xs
  | _, _, .nil => .nil
  | _, _, .cons r t => .cons (RV.mono h e r) (RVs.mono h e t)
end
end
end Dy

/-! Dp, part B: new objects, stores, slots; readings made of weakest preconditions. -/
namespace Dy
open PySem PySem.Spec L2
section
variable {K : Frag} {W W1 W2 : Wd} {H H1 H2 : Hp} {m m1 : Store}
theorem RVs.length : ∀ {vs : List Val} {xs : List V}, RVs K W H vs xs → vs.length = xs.length
  | _, _, .nil => rfl
  | _, _, .cons _ t => by simp [RVs.length t]
theorem RVs.get : ∀ {vs : List Val} {xs : List V} {i : Nat} {v : Val}, RVs K W H vs xs → vs[i]? = some v → ∃ x, xs[i]? = some x ∧ RV K W H v x
  | _, _, _, _, .nil, e => by simp at e
  | _, _, 0, _, .cons r _, e => by simp at e; subst e; exact ⟨_, rfl, r⟩
  | _, _, i + 1, _, .cons _ t, e => by
    obtain ⟨x, h1, h2⟩ := RVs.get (i := i) t (by simpa using e)
    exact ⟨x, by simpa using h1, h2⟩
theorem RVs.getV : ∀ {vs : List Val} {xs : List V} {i : Nat} {x : V}, RVs K W H vs xs → xs[i]? = some x → ∃ v, vs[i]? = some v ∧ RV K W H v x
  | _, _, _, _, .nil, e => by simp at e
  | _, _, 0, _, .cons r _, e => by simp at e; subst e; exact ⟨_, rfl, r⟩
  | _, _, i + 1, _, .cons _ t, e => by
    obtain ⟨x, h1, h2⟩ := RVs.getV (i := i) t (by simpa using e)
    exact ⟨x, by simpa using h1, h2⟩
theorem RVs.append : ∀ {vs us : List Val} {xs ys : List V}, RVs K W H vs xs → RVs K W H us ys → RVs K W H (vs ++ us) (xs ++ ys)
  | _, _, _, _, .nil, s => s
  | _, _, _, _, .cons r t, s => .cons r (RVs.append t s)
theorem RVs.take : ∀ {vs : List Val} {xs : List V} (n : Nat), RVs K W H vs xs → RVs K W H (vs.take n) (xs.take n)
  | _, _, 0, _ => .nil
  | _, _, _ + 1, .nil => .nil
  | _, _, n + 1, .cons r t => .cons r (RVs.take n t)
theorem RVs.drop : ∀ {vs : List Val} {xs : List V} (n : Nat), RVs K W H vs xs → RVs K W H (vs.drop n) (xs.drop n)
  | _, _, 0, r => r
  | _, _, _ + 1, .nil => .nil
  | _, _, n + 1, .cons _ t => RVs.drop n t
theorem RVs.set {v : Val} {x : V} (r : RV K W H v x) : ∀ {vs : List Val} {xs : List V} (i : Nat), RVs K W H vs xs → RVs K W H (vs.set i v) (xs.set i x)
  | _, _, _, .nil => .nil
  | _, _, 0, .cons _ t => .cons r t
  | _, _, i + 1, .cons q t => .cons q (RVs.set r i t)
theorem RVs.rep {vs : List Val} {xs : List V} (h : RVs K W H vs xs) : ∀ k : Nat, RVs K W H (List.replicate k vs).flatten (List.replicate k xs).flatten
  | 0 => .nil
  | k + 1 => by
    rw [List.replicate_succ, List.replicate_succ, List.flatten_cons, List.flatten_cons]
    exact h.append (RVs.rep h k)
/-- a list that will not be changed -/
def Wd.withI (W : Wd) (p : Addr) : Wd := ⟨W.phi, fun a => W.I a ∨ a = p⟩
/-- a list that may be changed -/
def Wd.withL (W : Wd) (p : Addr) : Wd := ⟨W.phi ++ [p], W.I⟩
theorem HR.nophi (h : HR K W m H) {p : Addr} (hp : H p = none) : p ∉ W.phi := fun z => by
  obtain ⟨xs, q⟩ := h.lst_at z
  rw [hp] at q; cases q
theorem RO.mono (h : HR K W m H) (e : Ext W H W1 H1) (hk : ∀ a, a ∈ W.phi → H1 a = H a) {o : Ob} {a : Addr} (ha : a ∈ W.phi) (r : RO K W H o a) : RO K W1 H1 o a := by
  cases o with
  | list vs =>
    obtain ⟨xs, q, r⟩ := r
    exact ⟨xs, by rw [hk a ha]; exact q, r.mono h e⟩
/-- nothing of the store is changed -/
theorem HR.grow (h : HR K W m H) (e : Ext W H W1 H1) (hphi : W1.phi = W.phi) (hd : ∀ a, a ∈ W.phi → ¬ W1.I a) (hi : ∀ a, W1.I a → W.I a ∨ H1 a ≠ none) (hk : ∀ a, a ∈ W.phi → H1 a = H a) : HR K W1 m H1 where
  len := by rw [hphi]; exact h.len
  nd := by rw [hphi]; exact h.nd
  dis := fun a ha => hd a (by rw [← hphi]; exact ha)
  inh := fun a ha => by
    rcases hi a ha with z | z
    · cases q : H a with
      | none => exact absurd q (h.inh a z)
      | some o => rw [e.fr a o q fun y => h.dis a y z]; simp
    · exact z
  obj := fun n o q => by
    obtain ⟨a, e1, r⟩ := h.obj n o q
    exact ⟨a, by rw [hphi]; exact e1, r.mono h e hk (List.mem_of_getElem? e1)⟩
theorem new_tup (h : HR K W m H) {p : Addr} (hp : H p = none) {vs : List Val} {xs : List V} (r : RVs K W H vs xs) :
    Ext W H W (upd H p (.tup xs)) ∧ HR K W m (upd H p (.tup xs)) ∧ RV K W (upd H p (.tup xs)) (.tup vs) (.ref p) := by
  have hk : ∀ a, a ∈ W.phi → upd H p (.tup xs) a = H a := fun a ha => upd_ne fun z => h.nophi hp (z ▸ ha)
  have e : Ext W H W (upd H p (.tup xs)) := ⟨⟨[], by simp, fun a z => by cases z⟩, fun _ z => z, fun _ z => .inl z, fun b o q _ => by rw [upd_ne (ne_of_none q hp)]; exact q,
    fun a ha => by rw [hk a ha]; obtain ⟨ys, q⟩ := h.lst_at ha; rw [q]; simp⟩
  exact ⟨e, h.grow e rfl h.dis (fun _ z => .inl z) hk, .tup (.of upd_same) (r.mono h e)⟩
theorem new_il (h : HR K W m H) {p : Addr} (hp : H p = none) {vs : List Val} {xs : List V} (r : RVs K W H vs xs) :
    Ext W H (W.withI p) (upd H p (.lst xs)) ∧ HR K (W.withI p) m (upd H p (.lst xs)) ∧ RV K (W.withI p) (upd H p (.lst xs)) (.il true vs) (.ref p) := by
  have hk : ∀ a, a ∈ W.phi → upd H p (.lst xs) a = H a := fun a ha => upd_ne fun z => h.nophi hp (z ▸ ha)
  have e : Ext W H (W.withI p) (upd H p (.lst xs)) := ⟨⟨[], by simp [Wd.withI], fun a z => by cases z⟩, fun _ z => .inl z, fun a z => z.elim .inl fun z => .inr (z ▸ hp), fun b o q _ => by rw [upd_ne (ne_of_none q hp)]; exact q,
    fun a ha => by rw [hk a ha]; obtain ⟨ys, q⟩ := h.lst_at ha; rw [q]; simp⟩
  exact ⟨e, h.grow e rfl (fun a ha z => z.elim (h.dis a ha) fun z => h.nophi hp (z ▸ ha)) (fun a z => z.imp (fun z => z) fun z => by subst z; rw [upd_same]; simp) hk, .il1 (.inr rfl) upd_same (r.mono h e)⟩
theorem new_loc (h : HR K W m H) {p : Addr} (hp : H p = none) {vs : List Val} {xs : List V} (r : RVs K W H vs xs) :
    Ext W H (W.withL p) (upd H p (.lst xs)) ∧ HR K (W.withL p) (m ++ [.list vs]) (upd H p (.lst xs)) ∧ RV K (W.withL p) (upd H p (.lst xs)) (.loc m.length) (.ref p) := by
  have hk : ∀ a, a ∈ W.phi → upd H p (.lst xs) a = H a := fun a ha => upd_ne fun z => h.nophi hp (z ▸ ha)
  have e : Ext W H (W.withL p) (upd H p (.lst xs)) := ⟨⟨[p], rfl, fun a z => by simp at z; subst z; exact hp⟩, fun _ z => z, fun a z => .inl z, fun b o q _ => by rw [upd_ne (ne_of_none q hp)]; exact q,
    fun a ha => by rw [hk a ha]; obtain ⟨ys, q⟩ := h.lst_at ha; rw [q]; simp⟩
  have el : (W.withL p).phi[m.length]? = some p := by show (W.phi ++ [p])[m.length]? = some p; rw [← h.len]; simp
  refine ⟨e, ⟨?_, ?_, ?_, ?_, ?_⟩, .loc el⟩
  · show (W.phi ++ [p]).length = (m ++ [Ob.list vs]).length
    simp [h.len]
  · show (W.phi ++ [p]).Nodup
    refine List.nodup_append.mpr ⟨h.nd, by simp, fun a ha b hb => ?_⟩
    simp at hb; subst hb
    exact fun z => h.nophi hp (z ▸ ha)
  · intro a ha
    rcases List.mem_append.mp (show a ∈ W.phi ++ [p] from ha) with z | z
    · exact h.dis a z
    · simp at z; subst z; exact fun z => h.inh _ z hp
  · intro a ha
    have z : a ≠ p := fun z => h.inh a ha (z ▸ hp)
    rw [upd_ne z]; exact h.inh a ha
  · intro n o q
    by_cases hn : n < m.length
    · rw [List.getElem?_append_left hn] at q
      obtain ⟨a, e1, r1⟩ := h.obj n o q
      exact ⟨a, phi_keep e e1, r1.mono h e hk (List.mem_of_getElem? e1)⟩
    · rw [List.getElem?_append_right (by omega)] at q
      have hz : n = m.length := by
        cases hh : n - m.length with
        | zero => omega
        | succ k => rw [hh] at q; simp at q
      subst hz
      simp at q; subst q
      exact ⟨p, el, xs, upd_same, r.mono h e⟩
theorem set_loc (h : HR K W m H) {n : Nat} {a : Addr} {ws : List Val} (hm : m[n]? = some (.list ws)) (ha : W.phi[n]? = some a) {vs : List Val} {xs : List V} (r : RVs K W H vs xs) :
    Ext W H W (upd H a (.lst xs)) ∧ HR K W (m.set n (.list vs)) (upd H a (.lst xs)) := by
  have ham : a ∈ W.phi := List.mem_of_getElem? ha
  have e : Ext W H W (upd H a (.lst xs)) := ⟨⟨[], by simp, fun a z => by cases z⟩, fun _ z => z, fun a z => .inl z, fun b o q hb => by rw [upd_ne (show b ≠ a from fun z => hb (z ▸ ham))]; exact q,
    fun b hb => by
      by_cases z : b = a
      · subst z; rw [upd_same]; simp
      · rw [upd_ne z]; obtain ⟨ys, q⟩ := h.lst_at hb; rw [q]; simp⟩
  refine ⟨e, ⟨by simpa using h.len, h.nd, h.dis, fun b hb => by rw [upd_ne (show b ≠ a from fun z => h.dis a ham (z ▸ hb))]; exact h.inh b hb, fun k o q => ?_⟩⟩
  by_cases hk : k = n
  · subst hk
    have hl : k < m.length := (List.getElem?_eq_some_iff.mp hm).1
    rw [List.getElem?_set_self hl] at q; cases q
    exact ⟨a, ha, xs, upd_same, r.mono h e⟩
  · rw [List.getElem?_set_ne (Ne.symm hk)] at q
    obtain ⟨b, e1, r1⟩ := h.obj k o q
    have hb : b ≠ a := fun z => hk (by
      subst z
      obtain ⟨h1, f1⟩ := List.getElem?_eq_some_iff.mp e1
      obtain ⟨h2, f2⟩ := List.getElem?_eq_some_iff.mp ha
      exact (List.getElem_inj h.nd).mp (f1.trans f2.symm))
    refine ⟨b, e1, ?_⟩
    cases o with
    | list us =>
      obtain ⟨ys, q1, r2⟩ := r1
      exact ⟨ys, by rw [upd_ne hb]; exact q1, r2.mono h e⟩
end
/-! ### slots -/
abbrev Env := List (Option Val)
structure SR (K : Frag) (W : Wd) (H : Hp) (r : Env) (σ : St) : Prop where
  len : r.length = σ.length
  get : ∀ (i : Nat) (v : Val), r[i]? = some (some v) → ∃ x, σ[i]? = some (some x) ∧ RV K W H v x
section
variable {K : Frag} {W W1 : Wd} {H H1 : Hp} {m : Store} {r : Env} {σ : St}
theorem SR.mono (s : SR K W H r σ) (h : HR K W m H) (e : Ext W H W1 H1) : SR K W1 H1 r σ :=
  ⟨s.len, fun i v q => let ⟨x, e1, r1⟩ := s.get i v q; ⟨x, e1, r1.mono h e⟩⟩
theorem SR.set (s : SR K W H r σ) {v : Val} {x : V} (rv : RV K W H v x) (i : Nat) : SR K W H (r.set i (some v)) (σ.set i (some x)) := by
  refine ⟨by simp [s.len], fun j u q => ?_⟩
  by_cases hj : j = i
  · subst hj
    by_cases hl : j < r.length
    · rw [List.getElem?_set_self hl] at q
      cases q
      exact ⟨x, by rw [List.getElem?_set_self (by rw [← s.len]; exact hl)], rv⟩
    · rw [List.getElem?_eq_none_iff.mpr (by simp; omega)] at q
      cases q
  · rw [List.getElem?_set_ne (Ne.symm hj)] at q ⊢
    exact s.get j u q
/-- slots forgotten -/
def wipeE (r : Env) : List Nat → Env
  | [] => r
  | v :: vs => (wipeE r vs).set v none
theorem SR.wipe (s : SR K W H r σ) : ∀ vs : List Nat, SR K W H (wipeE r vs) (L2.wipe σ vs)
  | [] => s
  | v :: vs => by
    have ih := SR.wipe s vs
    refine ⟨by simp [wipeE, L2.wipe, ih.len], fun j u q => ?_⟩
    simp only [wipeE, L2.wipe] at q ⊢
    by_cases hj : j = v
    · subst hj
      by_cases hl : j < (wipeE r vs).length
      · rw [List.getElem?_set_self hl] at q; cases q
      · rw [List.getElem?_eq_none_iff.mpr (by simp; omega)] at q; cases q
    · rw [List.getElem?_set_ne (Ne.symm hj)] at q ⊢
      exact ih.get j u q
end
/-! ### readings -/
/-- what is wanted of an error: its class (by number), its value, the store -/
abbrev Rq := Nat → Val → Store → Prop
abbrev WE0 := Env → Store → (Val → Store → Prop) → Rq → Prop
/-- the classes of errors by number -/
abbrev Cls := Nat → Addr
def Cont (K : Frag) (W : Wd) (H : Hp) (Qd : Val → Store → Prop) (Q : VK) : Prop :=
  ∀ (W' : Wd) (v : Val) (x : V) (m' : Store) (H' : Hp), Ext W H W' H' → RV K W' H' v x → HR K W' m' H' → Qd v m' → Q x H'
def ContX (K : Frag) (cl : Cls) (W : Wd) (H : Hp) (σ : St) (R : Rq) (Wx : WX) : Prop :=
  ∀ (W' : Wd) (c : Nat) (v : Val) (x : V) (d : Addr) (m' : Store) (H' : Hp), Ext W H W' H' → RV K W' H' v x → HR K W' m' H' → H' d = some (.xd [("value", x)]) → R c v m' → Wx (.ref (cl c)) (some d) σ H'
theorem ContX.mono {K : Frag} {cl : Cls} {W W1 : Wd} {H H1 : Hp} {σ : St} {R : Rq} {Wx : WX} (c : ContX K cl W H σ R Wx) (e : Ext W H W1 H1) : ContX K cl W1 H1 σ R Wx :=
  fun W' k v x d m' H' e' rv hr hd q => c W' k v x d m' H' (e.trans e') rv hr hd q
def TEof (K : Frag) (cl : Cls) (Wx : WX) (wp : WE0) : TE := fun σ H Q =>
  ∃ (W : Wd) (r : Env) (m : Store) (Qd : Val → Store → Prop) (R : Rq), SR K W H r σ ∧ HR K W m H ∧ wp r m Qd R ∧ Cont K W H Qd Q ∧ ContX K cl W H σ R Wx
/-- what is known behind a part -/
theorem TEof.bind {K : Frag} {cl : Cls} {Wx : WX} {wp : WE0} {σ : St} {H : Hp} {W : Wd} {r : Env} {m : Store} {Qd : Val → Store → Prop} {R : Rq} {Q : VK} (s : SR K W H r σ) (h : HR K W m H) (w : wp r m Qd R) (cx : ContX K cl W H σ R Wx)
    (k : ∀ (W1 : Wd) (v : Val) (x : V) (m1 : Store) (H1 : Hp), Ext W H W1 H1 → RV K W1 H1 v x → HR K W1 m1 H1 → SR K W1 H1 r σ → ContX K cl W1 H1 σ R Wx → Qd v m1 → Q x H1) : TEof K cl Wx wp σ H Q :=
  ⟨W, r, m, Qd, R, s, h, w, fun W1 v x m1 H1 e rv hr q => k W1 v x m1 H1 e rv hr (s.mono h e) (cx.mono e) q, cx⟩
abbrev WA0 := Env → Store → (List Val → Store → Prop) → Rq → Prop
def TAof (K : Frag) (cl : Cls) (Wx : WX) (wp : WA0) : TA := fun σ H Q =>
  ∃ (W : Wd) (r : Env) (m : Store) (Qd : List Val → Store → Prop) (R : Rq), SR K W H r σ ∧ HR K W m H ∧ wp r m Qd R ∧
    (∀ (W' : Wd) (vs : List Val) (xs : List V) (m' : Store) (H' : Hp), Ext W H W' H' → RVs K W' H' vs xs → HR K W' m' H' → Qd vs m' → Q xs H') ∧ ContX K cl W H σ R Wx
theorem TAof.bind {K : Frag} {cl : Cls} {Wx : WX} {wp : WA0} {σ : St} {H : Hp} {W : Wd} {r : Env} {m : Store} {Qd : List Val → Store → Prop} {R : Rq} {Q : List V → Hp → Prop} (s : SR K W H r σ) (h : HR K W m H) (w : wp r m Qd R) (cx : ContX K cl W H σ R Wx)
    (k : ∀ (W1 : Wd) (vs : List Val) (xs : List V) (m1 : Store) (H1 : Hp), Ext W H W1 H1 → RVs K W1 H1 vs xs → HR K W1 m1 H1 → SR K W1 H1 r σ → ContX K cl W1 H1 σ R Wx → Qd vs m1 → Q xs H1) : TAof K cl Wx wp σ H Q :=
  ⟨W, r, m, Qd, R, s, h, w, fun W1 v x m1 H1 e rv hr q => k W1 v x m1 H1 e rv hr (s.mono h e) (cx.mono e) q, cx⟩
abbrev WT0 := Env → Store → (Bool → Store → Prop) → Rq → Prop
def TTof (K : Frag) (cl : Cls) (Wx : WX) (wp : WT0) : TT := fun σ H Q =>
  ∃ (W : Wd) (r : Env) (m : Store) (Qd : Bool → Store → Prop) (R : Rq), SR K W H r σ ∧ HR K W m H ∧ wp r m Qd R ∧
    (∀ (W' : Wd) (b : Bool) (m' : Store) (H' : Hp), Ext W H W' H' → HR K W' m' H' → Qd b m' → Q b H') ∧ ContX K cl W H σ R Wx
theorem TTof.bind {K : Frag} {cl : Cls} {Wx : WX} {wp : WT0} {σ : St} {H : Hp} {W : Wd} {r : Env} {m : Store} {Qd : Bool → Store → Prop} {R : Rq} {Q : Bool → Hp → Prop} (s : SR K W H r σ) (h : HR K W m H) (w : wp r m Qd R) (cx : ContX K cl W H σ R Wx)
    (k : ∀ (W1 : Wd) (b : Bool) (m1 : Store) (H1 : Hp), Ext W H W1 H1 → HR K W1 m1 H1 → SR K W1 H1 r σ → ContX K cl W1 H1 σ R Wx → Qd b m1 → Q b H1) : TTof K cl Wx wp σ H Q :=
  ⟨W, r, m, Qd, R, s, h, w, fun W1 b m1 H1 e hr q => k W1 b m1 H1 e hr (s.mono h e) (cx.mono e) q, cx⟩
theorem pe_imp {X : Cx} {e : Expr} {t t' : TE} (h : PE X e t) (i : ∀ σ H Q, t' σ H Q → t σ H Q) : PE X e t' := ⟨fun pins s σ H Q I q => h.run pins s σ H Q I (i σ H Q q)⟩
theorem pt_imp {X : Cx} {e : Expr} {t t' : TT} (h : PT X e t) (i : ∀ σ H Q, t' σ H Q → t σ H Q) : PT X e t' := ⟨fun pins s σ H Q I q => h.run pins s σ H Q I (i σ H Q q)⟩
theorem pa_imp {X : Cx} {e : List Expr} {t t' : TA} (h : PA X e t) (i : ∀ σ H Q, t' σ H Q → t σ H Q) : PA X e t' := ⟨fun pos pins s σ H Q I q => h.run pos pins s σ H Q I (i σ H Q q)⟩
theorem ps_imp {X : Cx} {e : Stmt} {t t' : TS} (h : PS X e t) (i : ∀ D σ H, t' D σ H → t D σ H) : PS X e t' := ⟨fun pins s σ H D I q => h.run pins s σ H D I (i D σ H q)⟩
theorem pss_imp {X : Cx} {e : List Stmt} {t t' : TS} (h : PSs X e t) (i : ∀ D σ H, t' D σ H → t D σ H) : PSs X e t' := ⟨fun pins s σ H D I q => h.run pins s σ H D I (i D σ H q)⟩
end Dy

/-! Dp, part C: operations on values, each with the rule of the hand layer that it stands for. -/
namespace Dy
open PySem PySem.Spec L2
/-! ### plain data -/
mutual
def pd : Val → Option PyData
  | .non => some .none
  | .bool b => some (.bool b)
  | .int i => some (.int i)
  | .str s => some (.str (SX.S s))
  | .tup vs => (pds vs).map .tuple
  | .il _ vs => (pds vs).map .list
  | .loc _ => none
def pds : List Val → Option (List PyData)
  | [] => some []
  | v :: vs => (pd v).bind fun d => (pds vs).map fun ds => d :: ds
end
/-- a changing list of the store as data -/
def pdm (m : Store) : Val → Option PyData
  | .loc n => match m[n]? with | some (.list vs) => (pds vs).map .list | none => none
  | v => pd v
/-- the items of a list or tuple -/
def sq (m : Store) : Val → Option (List Val)
  | .tup vs => some vs
  | .il _ vs => some vs
  | .loc n => match m[n]? with | some (.list vs) => some vs | none => none
  | _ => none
section
variable {K : Frag} {W W1 : Wd} {H H1 : Hp} {m : Store}
mutual
theorem pd_dp : ∀ {v : Val} {x : V} {d : PyData}, RV K W H v x → pd v = some d → Dp K H x d
  | _, _, _, .non, e => by cases e; exact .non
  | _, _, _, .bool b, e => by cases e; exact .bl b
  | _, _, _, .int i, e => by cases e; exact .int i
  | _, _, _, .str s, e => by cases e; exact .str _
  | _, _, _, .tup s r, e => by
    simp only [pd, Option.map_eq_some_iff] at e
    obtain ⟨ds, e1, e2⟩ := e
    subst e2
    exact .tup s (pds_dp r e1)
  | _, _, _, .il1 _ q r, e => by
    simp only [pd, Option.map_eq_some_iff] at e
    obtain ⟨ds, e1, e2⟩ := e
    subst e2
    exact .lst (SqL.of q) (pds_dp r e1)
  | _, _, _, .il0 _ q r, e => by
    simp only [pd, Option.map_eq_some_iff] at e
    obtain ⟨ds, e1, e2⟩ := e
    subst e2
    exact .lst q (pds_dp r e1)
  | _, _, _, .ilk q r, e => by
    simp only [pd, Option.map_eq_some_iff] at e
    obtain ⟨ds, e1, e2⟩ := e
    subst e2
    exact .lst (sqL_k q) (pds_dp r e1)
  | _, _, _, .loc _, e => by cases e
theorem pds_dp : ∀ {vs : List Val} {xs : List V} {ds : List PyData}, RVs K W H vs xs → pds vs = some ds → DpAll K H xs ds
  | _, _, _, .nil, e => by cases e; exact .nil
  | _, _, _, .cons r t, e => by
    simp only [pds, Option.bind_eq_some_iff, Option.map_eq_some_iff] at e
    obtain ⟨d, e1, ds, e2, e3⟩ := e
    subst e3
    exact .cons (pd_dp r e1) (pds_dp t e2)
end
theorem loc_at (h : HR K W m H) {n : Nat} {a : Addr} {vs : List Val} (q : W.phi[n]? = some a) (e : m[n]? = some (.list vs)) : ∃ xs, H a = some (.lst xs) ∧ RVs K W H vs xs := by
  obtain ⟨b, e1, r⟩ := h.obj n _ e
  rw [q] at e1; cases e1
  exact r
theorem pdm_dp (h : HR K W m H) {v : Val} {x : V} {d : PyData} (r : RV K W H v x) (e : pdm m v = some d) : Dp K H x d := by
  cases r with
  | loc q =>
    rename_i n a
    simp only [pdm] at e
    cases hm : m[n]? with
    | none => rw [hm] at e; cases e
    | some o =>
      cases o with
      | list vs =>
        rw [hm] at e
        simp only [Option.map_eq_some_iff] at e
        obtain ⟨ds, e1, e2⟩ := e
        subst e2
        obtain ⟨xs, q1, r1⟩ := loc_at h q hm
        exact .lst (SqL.of q1) (pds_dp r1 e1)
  | non => exact pd_dp (W := W) .non e
  | bool b => exact pd_dp (W := W) (.bool b) e
  | int i => exact pd_dp (W := W) (.int i) e
  | str s => exact pd_dp (W := W) (.str s) e
  | tup s r => exact pd_dp (.tup s r) e
  | il1 i q r => exact pd_dp (.il1 i q r) e
  | il0 i q r => exact pd_dp (.il0 i q r) e
  | ilk q r => exact pd_dp (.ilk q r) e
theorem sq_at (h : HR K W m H) {v : Val} {x : V} {vs : List Val} (r : RV K W H v x) (e : sq m v = some vs) : ∃ a xs, x = .ref a ∧ (SqL K H a xs ∨ SqT K H a xs) ∧ RVs K W H vs xs := by
  cases r with
  | loc q =>
    rename_i n a
    simp only [sq] at e
    cases hm : m[n]? with
    | none => rw [hm] at e; cases e
    | some o =>
      cases o with
      | list us =>
        rw [hm] at e; cases e
        obtain ⟨xs, q1, r1⟩ := loc_at h q hm
        exact ⟨a, xs, rfl, .inl (SqL.of q1), r1⟩
  | non => cases e
  | bool b => cases e
  | int i => cases e
  | str s => cases e
  | tup s r => cases e; exact ⟨_, _, rfl, .inr s, r⟩
  | il1 i q r => cases e; exact ⟨_, _, rfl, .inl (SqL.of q), r⟩
  | il0 i q r => cases e; exact ⟨_, _, rfl, .inl q, r⟩
  | ilk q r => cases e; exact ⟨_, _, rfl, .inl (sqL_k q), r⟩
/-- a list (not a tuple) -/
def isL : Val → Bool
  | .il _ _ => true
  | .loc _ => true
  | _ => false
theorem sq_atL (h : HR K W m H) {v : Val} {x : V} {vs : List Val} (r : RV K W H v x) (e : sq m v = some vs) (hl : isL v = true) : ∃ a xs, x = .ref a ∧ SqL K H a xs ∧ RVs K W H vs xs := by
  cases r with
  | loc q =>
    rename_i n a
    simp only [sq] at e
    cases hm : m[n]? with
    | none => rw [hm] at e; cases e
    | some o =>
      cases o with
      | list us =>
        rw [hm] at e; cases e
        obtain ⟨xs, q1, r1⟩ := loc_at h q hm
        exact ⟨a, xs, rfl, SqL.of q1, r1⟩
  | non => cases e
  | bool b => cases e
  | int i => cases e
  | str s => cases e
  | tup s r => cases hl
  | il1 i q r => cases e; exact ⟨_, _, rfl, SqL.of q, r⟩
  | il0 i q r => cases e; exact ⟨_, _, rfl, q, r⟩
  | ilk q r => cases e; exact ⟨_, _, rfl, sqL_k q, r⟩
theorem RV.int_inv {i : Int} {x : V} (r : RV K W H (.int i) x) : x = .int i := by cases r; rfl
theorem RV.str_inv {s : Text} {x : V} (r : RV K W H (.str s) x) : x = .str (SX.S s) := by cases r; rfl
theorem RV.bool_inv {b : Bool} {x : V} (r : RV K W H (.bool b) x) : x = .bl b := by cases r; rfl
theorem RV.non_inv {x : V} (r : RV K W H .non x) : x = .non := by cases r; rfl
theorem RV.il_inv {vs : List Val} {x : V} (r : RV K W H (.il true vs) x) : ∃ a xs, x = .ref a ∧ H a = some (.lst xs) ∧ RVs K W H vs xs := by cases r; exact ⟨_, _, rfl, by assumption, by assumption⟩
theorem RV.tup_inv {vs : List Val} {x : V} (r : RV K W H (.tup vs) x) : ∃ a xs, x = .ref a ∧ SqT K H a xs ∧ RVs K W H vs xs := by cases r; exact ⟨_, _, rfl, by assumption, by assumption⟩
end
/-! ### binary operators -/
inductive BOp where
  | add | sub | mul | fdiv | mod | pow
  deriving DecidableEq
def BOp.op : BOp → Operator
  | .add => .Add
  | .sub => .Sub
  | .mul => .Mult
  | .fdiv => .FloorDiv
  | .mod => .Mod
  | .pow => .Pow
def mulOk (i j : Int) : Prop := CMul i j ∨ CMulW i j
def powOk (i n : Int) : Prop := 0 ≤ n ∧ (Builtin.Int.intBits i : Int) * n ≤ 2 ^ 27
def divOk (j : Int) : Prop := 0 < j ∧ j.natAbs.log2 < 9000
def binW : BOp → Val → Val → Store → (Val → Store → Prop) → Prop
  | .add, .int a, .int b, m, Q => Q (.int (a + b)) m
  | .add, .str a, .str b, m, Q => a.length + b.length ≤ sizeLine ∧ Q (.str (a ++ b)) m
  | .add, .il true a, .il true b, m, Q => a.length + b.length ≤ sizeLine ∧ Q (.il true (a ++ b)) m
  | .sub, .int a, .int b, m, Q => Q (.int (a - b)) m
  | .mul, .int a, .int b, m, Q => mulOk a b ∧ Q (.int (a * b)) m
  | .mul, .il true a, .int k, m, Q => (-(2 ^ 63) ≤ k ∧ k < 2 ^ 63 ∧ a.length * k.toNat ≤ sizeLine) ∧ Q (.il true (List.replicate k.toNat a).flatten) m
  | .fdiv, .int a, .int b, m, Q => divOk b ∧ Q (.int (a / b)) m
  | .mod, .int a, .int b, m, Q => 0 < b ∧ Q (.int (a % b)) m
  | .pow, .int a, .int b, m, Q => powOk a b ∧ Q (.int (a ^ b.toNat)) m
  | _, _, _, _, _ => False
def rAdd3 : R2 := fun x y H Q => (rI0 (fun i j => .int (i + j)) x y H Q ∨ ∃ i j, x = .str i ∧ y = .str j ∧ i.length + j.length ≤ sizeLine ∧ Q (.str (i ++ j)) H) ∨ rCat x y H Q
def rMul3 : R2 := fun x y H Q => (rI CMul (fun i j => .int (i * j)) x y H Q ∨ rI CMulW (fun i j => .int (i * j)) x y H Q) ∨ rRep x y H Q
def rBin : BOp → R2
  | .add => rAdd3
  | .sub => rI0 fun i j => .int (i - j)
  | .mul => rMul3
  | .fdiv => rI CDivW fun i j => .int (i / j)
  | .mod => rI (fun _ j => 0 < j) fun i j => .int (i % j)
  | .pow => rI powOk fun i j => .int (i ^ j.toNat)
theorem op_bin {X : Cx} : ∀ op : BOp, OpR X (binaryOp op.op) (rBin op)
  | .add => (op_add.or op_add_str).or op_cat
  | .sub => op_sub
  | .mul => (op_mul.or op_mulW).or op_rep
  | .fdiv => op_fdivW
  | .mod => op_mod
  | .pow => opI fun _ _ _ _ _ _ _ hc q => PyProof.Rows.pow_int hc.1 hc.2 q
theorem Cont.here {K : Frag} {W : Wd} {H : Hp} {m : Store} {Qd : Val → Store → Prop} {Q : VK} (k : Cont K W H Qd Q) (h : HR K W m H) {v : Val} {x : V} (r : RV K W H v x) (q : Qd v m) : Q x H := k W v x m H (.refl h) r h q
theorem Cont.il {K : Frag} {W : Wd} {H : Hp} {m : Store} {Qd : Val → Store → Prop} {Q : VK} (k : Cont K W H Qd Q) (h : HR K W m H) {vs : List Val} {xs : List V} (r : RVs K W H vs xs) (q : Qd (.il true vs) m) {p : Addr} (hp : H p = none) : Q (.ref p) (upd H p (.lst xs)) := by
  obtain ⟨e, h1, rv⟩ := new_il h hp r
  exact k _ _ _ _ _ e rv h1 q
theorem Cont.tup {K : Frag} {W : Wd} {H : Hp} {m : Store} {Qd : Val → Store → Prop} {Q : VK} (k : Cont K W H Qd Q) (h : HR K W m H) {vs : List Val} {xs : List V} (r : RVs K W H vs xs) (q : Qd (.tup vs) m) {p : Addr} (hp : H p = none) : Q (.ref p) (upd H p (.tup xs)) := by
  obtain ⟨e, h1, rv⟩ := new_tup h hp r
  exact k _ _ _ _ _ e rv h1 q
theorem Cont.loc {K : Frag} {W : Wd} {H : Hp} {m : Store} {Qd : Val → Store → Prop} {Q : VK} (k : Cont K W H Qd Q) (h : HR K W m H) {vs : List Val} {xs : List V} (r : RVs K W H vs xs) (q : Qd (.loc m.length) (m ++ [.list vs])) {p : Addr} (hp : H p = none) : Q (.ref p) (upd H p (.lst xs)) := by
  obtain ⟨e, h1, rv⟩ := new_loc h hp r
  exact k _ _ _ _ _ e rv h1 q
theorem bin_ok {K : Frag} {W : Wd} {H : Hp} {m : Store} {Qd : Val → Store → Prop} {Q : VK} {op : BOp} {a b : Val} {x y : V} (ra : RV K W H a x) (rb : RV K W H b y) (h : HR K W m H) (hw : binW op a b m Qd) (k : Cont K W H Qd Q) : rBin op x y H Q := by
  unfold binW at hw
  split at hw
  · rw [ra.int_inv, rb.int_inv]
    exact .inl (.inl ⟨_, _, rfl, rfl, k.here h (.int _) hw⟩)
  · rw [ra.str_inv, rb.str_inv]
    refine .inl (.inr ⟨_, _, rfl, rfl, ?_, ?_⟩)
    · rw [SX.S_len, SX.S_len]; exact hw.1
    · rw [SX.S_cat]; exact k.here h (.str _) hw.2
  · obtain ⟨p, xs, rfl, q1, r1⟩ := ra.il_inv
    obtain ⟨p', ys, rfl, q2, r2⟩ := rb.il_inv
    exact .inr ⟨p, p', xs, ys, rfl, rfl, q1, q2, by rw [← r1.length, ← r2.length]; exact hw.1, fun p hp => k.il h (r1.append r2) hw.2 hp⟩
  · rw [ra.int_inv, rb.int_inv]
    exact ⟨_, _, rfl, rfl, k.here h (.int _) hw⟩
  · rw [ra.int_inv, rb.int_inv]
    rcases hw.1 with c | c
    · exact .inl (.inl ⟨_, _, rfl, rfl, c, k.here h (.int _) hw.2⟩)
    · exact .inl (.inr ⟨_, _, rfl, rfl, c, k.here h (.int _) hw.2⟩)
  · obtain ⟨p, xs, rfl, q1, r1⟩ := ra.il_inv
    rw [rb.int_inv]
    obtain ⟨⟨h1, h2, h3⟩, q⟩ := hw
    exact .inr ⟨p, _, xs, rfl, rfl, q1, h1, h2, by rw [← r1.length]; exact h3, fun p hp => k.il h (r1.rep _) q hp⟩
  · rw [ra.int_inv, rb.int_inv]
    exact ⟨_, _, rfl, rfl, hw.1, k.here h (.int _) hw.2⟩
  · rw [ra.int_inv, rb.int_inv]
    exact ⟨_, _, rfl, rfl, hw.1, k.here h (.int _) hw.2⟩
  · rw [ra.int_inv, rb.int_inv]
    exact ⟨_, _, rfl, rfl, hw.1, k.here h (.int _) hw.2⟩
  · exact hw.elim
/-! ### comparisons -/
inductive COp where
  | eq | ne | lt | le | gt | ge | isin | notin
  deriving DecidableEq
def COp.op : COp → CmpOp
  | .eq => .Eq
  | .ne => .NotEq
  | .lt => .Lt
  | .le => .LtE
  | .gt => .Gt
  | .ge => .GtE
  | .isin => .In
  | .notin => .NotIn
def scalP : PyData → PyData → Bool
  | .none, .none => true | .none, .int _ => true | .int _, .none => true | .none, .bool _ => true | .bool _, .none => true | .none, .str _ => true | .str _, .none => true
  | .int _, .int _ => true | .bool _, .bool _ => true | .str _, .str _ => true
  | .int _, .str _ => true | .str _, .int _ => true | .bool _, .str _ => true | .str _, .bool _ => true
  | _, _ => false
def eqOk (x y : PyData) : Bool := scalP x y || (SeqAt.shaped x && SeqAt.shaped y)
def flatP : PyData → Bool
  | .none => true | .bool _ => true | .int _ => true | .str _ => true
  | _ => false
/-- what «in» looks through: the items of a list (data), of a tuple (plain ones) -/
def inOk (d : PyData) : PyData → Bool
  | .list ds => SeqAt.shaped d && SeqAt.shaped (.list ds)
  | .tuple ds => flatP d && ds.all flatP
  | _ => false
def itemsP : PyData → List PyData
  | .list ds => ds
  | .tuple ds => ds
  | _ => []
def inW (neg : Bool) (a b : Val) (m : Store) (Q : Bool → Prop) : Prop :=
  match a, b with
  | .str [c], .str z => Q (neg != decide (c ∈ z))
  | a, b => ∃ d e, pdm m a = some d ∧ pdm m b = some e ∧ inOk d e = true ∧ Q (neg != (itemsP e).any fun z => PyData.eqv z d)
def cmpW : COp → Val → Val → Store → (Bool → Prop) → Prop
  | .eq, a, b, m, Q => ∃ d e, pdm m a = some d ∧ pdm m b = some e ∧ eqOk d e = true ∧ Q (PyData.eqv d e)
  | .ne, a, b, m, Q => ∃ d e, pdm m a = some d ∧ pdm m b = some e ∧ eqOk d e = true ∧ Q (!PyData.eqv d e)
  | .lt, .int a, .int b, _, Q => Q (decide (a < b))
  | .le, .int a, .int b, _, Q => Q (decide (a ≤ b))
  | .gt, .int a, .int b, _, Q => Q (decide (b < a))
  | .ge, .int a, .int b, _, Q => Q (decide (b ≤ a))
  | .isin, a, b, m, Q => inW false a b m Q
  | .notin, a, b, m, Q => inW true a b m Q
  | _, _, _, _, _ => False
def rCmp (K : Frag) : COp → R2
  | .eq => fun x y H Q => rEq x y H Q ∨ rEqD K x y H Q
  | .ne => fun x y H Q => rNe x y H Q ∨ rNeD K x y H Q
  | .lt => rI0 fun i j => .bl (decide (i < j))
  | .le => rI0 fun i j => .bl (decide (i ≤ j))
  | .gt => rI0 fun i j => .bl (decide (j < i))
  | .ge => rI0 fun i j => .bl (decide (j ≤ i))
  | .isin => fun x y H Q => ((∃ (c : Nat) (z : Str), x = .str ⟨#[c]⟩ ∧ y = .str z ∧ Q (.bl (decide (c ∈ z.cps.toList))) H) ∨ rInD K x y H Q) ∨ rIn K false x y H Q
  | .notin => fun x y H Q => ((∃ (c : Nat) (z : Str), x = .str ⟨#[c]⟩ ∧ y = .str z ∧ Q (.bl (!decide (c ∈ z.cps.toList))) H) ∨ rNotInD K x y H Q) ∨ rIn K true x y H Q
theorem op_cmp {X : Cx} (hu : X.A.units + 65 < cLine) : ∀ op : COp, OpR X (compareOp op.op) (rCmp X.K op)
  | .eq => op_eq.or (op_eqD (by omega))
  | .ne => op_ne.or (op_neD (by omega))
  | .lt => op_lt
  | .le => op_le
  | .gt => op_gt
  | .ge => op_ge
  | .isin => (op_in_sign.or (op_inD hu)).or op_in_seq
  | .notin => (op_notIn_sign.or (op_notInD hu)).or op_notIn_seq
theorem scal_of {K : Frag} {H : Hp} {x y : V} {d e : PyData} (a : Dp K H x d) (b : Dp K H y e) (h : scalP d e = true) : scal x y = true ∧ decide (x = y) = PyData.eqv d e := by
  cases a <;> cases b <;> first | exact (Bool.false_ne_true h).elim | (refine ⟨rfl, ?_⟩; first | exact dec_int | exact dec_bl | exact dec_str | (simp [PyData.eqv]))
theorem flat_of {K : Frag} {H : Hp} {x : V} {d : PyData} (a : Dp K H x d) (h : flatP d = true) : flatV x = true := by
  cases a <;> first | rfl | exact (Bool.false_ne_true h).elim
theorem eqV_of {K : Frag} {H : Hp} {x y : V} {d e : PyData} (a : Dp K H x d) (b : Dp K H y e) (h : flatP d = true) (h' : flatP e = true) : eqV x y = PyData.eqv d e := by
  cases a <;> cases b <;> first | exact (Bool.false_ne_true h).elim | exact (Bool.false_ne_true h').elim | (simp [PyData.eqv, eqV])
theorem flats_of {K : Frag} {H : Hp} {x : V} {d : PyData} (a : Dp K H x d) (hd : flatP d = true) : ∀ {xs : List V} {ds : List PyData}, DpAll K H xs ds → ds.all flatP = true → xs.all flatV = true ∧ inV x xs = ds.any fun z => PyData.eqv z d
  | _, _, .nil, _ => ⟨rfl, rfl⟩
  | _, _, .cons r t, h => by
    rw [List.all_cons, Bool.and_eq_true] at h
    obtain ⟨h1, h2⟩ := flats_of a hd t h.2
    refine ⟨by rw [List.all_cons, flat_of r h.1, h1]; rfl, ?_⟩
    unfold inV at h2 ⊢
    rw [List.any_cons, List.any_cons, h2, eqV_of r a h.1 hd]
theorem in_data {K : Frag} {H : Hp} {x y : V} {d e : PyData} {Q : VK} {neg : Bool} (a : Dp K H x d) (b : Dp K H y e) (h : inOk d e = true) (q : Q (.bl (neg != (itemsP e).any fun z => PyData.eqv z d)) H) :
    (neg = false → rInD K x y H Q ∨ rIn K false x y H Q) ∧ (neg = true → rNotInD K x y H Q ∨ rIn K true x y H Q) := by
  cases b with
  | lst s r =>
    have h' := Bool.and_eq_true_iff.mp h
    constructor
    · intro z; subst z
      exact .inl ⟨_, _, a, .lst s r, h'.1, h'.2, by simpa [itemsP] using q⟩
    · intro z; subst z
      exact .inl ⟨_, _, a, .lst s r, h'.1, h'.2, by simpa [itemsP] using q⟩
  | tup s r =>
    have h' := Bool.and_eq_true_iff.mp h
    obtain ⟨f1, f2⟩ := flats_of a h'.1 r h'.2
    constructor
    · intro z; subst z
      exact .inr ⟨_, _, rfl, .inr s, flat_of a h'.1, f1, by rw [f2]; simpa [itemsP] using q⟩
    · intro z; subst z
      exact .inr ⟨_, _, rfl, .inr s, flat_of a h'.1, f1, by rw [f2]; simpa [itemsP] using q⟩
  | non => exact (Bool.false_ne_true h).elim
  | bl b => exact (Bool.false_ne_true h).elim
  | int i => exact (Bool.false_ne_true h).elim
  | str s => exact (Bool.false_ne_true h).elim
theorem cmp_ok {K : Frag} {W : Wd} {H : Hp} {m : Store} {Qd : Bool → Prop} {Q : VK} {op : COp} {a b : Val} {x y : V} (ra : RV K W H a x) (rb : RV K W H b y) (h : HR K W m H) (hw : cmpW op a b m Qd) (k : ∀ c, Qd c → Q (.bl c) H) : rCmp K op x y H Q := by
  have eqn : ∀ (neg : Bool) (d e : PyData), pdm m a = some d → pdm m b = some e → eqOk d e = true → Q (.bl (neg != PyData.eqv d e)) H →
      (neg = false → rEq x y H Q ∨ rEqD K x y H Q) ∧ (neg = true → rNe x y H Q ∨ rNeD K x y H Q) := by
    intro neg d e h1 h2 h3 q
    have pa := pdm_dp h ra h1
    have pb := pdm_dp h rb h2
    rcases Bool.or_eq_true_iff.mp h3 with c | c
    · obtain ⟨c1, c2⟩ := scal_of pa pb c
      constructor
      · intro z; subst z
        exact .inl ⟨c1, by rw [c2]; simpa using q⟩
      · intro z; subst z
        exact .inl ⟨c1, by rw [c2]; simpa using q⟩
    · have c' := Bool.and_eq_true_iff.mp c
      constructor
      · intro z; subst z
        exact .inr ⟨d, e, pa, pb, c'.1, c'.2, by simpa using q⟩
      · intro z; subst z
        exact .inr ⟨d, e, pa, pb, c'.1, c'.2, by simpa using q⟩
  have inn : ∀ (neg : Bool), inW neg a b m Qd → 
      (neg = false → rCmp K .isin x y H Q) ∧ (neg = true → rCmp K .notin x y H Q) := by
    intro neg hw
    unfold inW at hw
    split at hw
    · skip
      rw [ra.str_inv, rb.str_inv]
      constructor
      · intro e; subst e
        exact .inl (.inl ⟨_, _, rfl, rfl, by simpa using k _ hw⟩)
      · intro e; subst e
        exact .inl (.inl ⟨_, _, rfl, rfl, by simpa using k _ hw⟩)
    · obtain ⟨d, e, h1, h2, h3, q⟩ := hw
      have pa := pdm_dp h ra h1
      have pb := pdm_dp h rb h2
      obtain ⟨i1, i2⟩ := in_data pa pb h3 (k _ q)
      exact ⟨fun z => (i1 z).elim (fun z => .inl (.inr z)) .inr, fun z => (i2 z).elim (fun z => .inl (.inr z)) .inr⟩
  cases op with
  | eq =>
    obtain ⟨d, e, h1, h2, h3, q⟩ := hw
    exact (eqn false d e h1 h2 h3 (by simpa using k _ q)).1 rfl
  | ne =>
    obtain ⟨d, e, h1, h2, h3, q⟩ := hw
    exact (eqn true d e h1 h2 h3 (by simpa using k _ q)).2 rfl
  | isin => exact (inn false hw).1 rfl
  | notin => exact (inn true hw).2 rfl
  | _ =>
    cases a <;> cases b <;> first | exact False.elim hw | (rw [ra.int_inv, rb.int_inv]; exact ⟨_, _, rfl, rfl, k _ hw⟩)
/-! ### truth -/
def tru (m : Store) : Val → Option Bool
  | .non => some false
  | .bool b => some b
  | .int i => some (i != 0)
  | .str s => if s.length ≤ sizeLine then some ((s.length : Int) != 0) else none
  | .tup vs => some (!vs.isEmpty)
  | .il _ vs => some (!vs.isEmpty)
  | .loc n => match m[n]? with | some (.list vs) => some (!vs.isEmpty) | none => none
theorem RVs.emp {K : Frag} {W : Wd} {H : Hp} {vs : List Val} {xs : List V} (r : RVs K W H vs xs) : (!vs.isEmpty) = !xs.isEmpty := by cases r <;> rfl
theorem tru_at {K : Frag} {W : Wd} {H : Hp} {m : Store} {v : Val} {x : V} {k : Bool} (r : RV K W H v x) (h : HR K W m H) (hw : tru m v = some k) : TruV K x H k := by
  cases r with
  | non => cases hw; rfl
  | bool b => cases hw; rfl
  | int i => cases hw; rfl
  | str s =>
    simp only [tru] at hw
    split at hw
    · cases hw
      exact ⟨by rw [SX.S_len]; assumption, by rw [SX.S_len]⟩
    · cases hw
  | tup s r => cases hw; exact .inr (.inl ⟨_, s, r.emp⟩)
  | il1 i q r => cases hw; exact .inl ⟨_, SqL.of q, r.emp⟩
  | il0 i q r => cases hw; exact .inl ⟨_, q, r.emp⟩
  | ilk q r => cases hw; exact .inl ⟨_, sqL_k q, r.emp⟩
  | loc q =>
    rename_i n a
    simp only [tru] at hw
    cases hm : m[n]? with
    | none => rw [hm] at hw; cases hw
    | some o =>
      cases o with
      | list vs =>
        rw [hm] at hw; cases hw
        obtain ⟨xs, q1, r1⟩ := loc_at h q hm
        exact .inl ⟨_, SqL.of q1, r1.emp⟩
end Dy

/-! Dp, part D: built-in functions, methods, places, what is walked. -/
namespace Dy
open PySem PySem.Spec L2
/-- str of an int -/
def numT (i : Int) : Text := (Str.ofString (toString i)).cps.toList
theorem S_numT (i : Int) : SX.S (numT i) = Str.ofString (toString i) := SX.S_tl _
inductive Bi where
  | len | abs | int | str | tuple | list | all | any | max | min | repr
  deriving DecidableEq
def Bi.val : Bi → Value
  | .len => .builtin "len"
  | .abs => .builtin "abs"
  | .int => .type "int"
  | .str => .type "str"
  | .tuple => .type "tuple"
  | .list => .type "list"
  | .all => .builtin "all"
  | .any => .builtin "any"
  | .max => .builtin "max"
  | .min => .builtin "min"
  | .repr => .builtin "repr"
def Bi.name : Bi → Str
  | .len => "len"
  | .abs => "abs"
  | .int => "int"
  | .str => "str"
  | .tuple => "tuple"
  | .list => "list"
  | .all => "all"
  | .any => "any"
  | .max => "max"
  | .min => "min"
  | .repr => "repr"
def boolsOf : List Val → Option (List Bool)
  | [] => some []
  | .bool b :: r => (boolsOf r).map fun bs => b :: bs
  | _ :: _ => none
def reprOk (d : PyData) : Prop := d.showable = true ∧ d.hasDict = false ∧ d.depth ≤ 60 ∧ d.shown.length ≤ sizeLine
def biW : Bi → List Val → Store → (Val → Store → Prop) → Prop
  | .len, [.str s], m, Q => s.length ≤ sizeLine ∧ Q (.int s.length) m
  | .len, [v], m, Q => ∃ vs, sq m v = some vs ∧ Q (.int vs.length) m
  | .abs, [.int i], m, Q => Q (.int (if i < 0 then -i else i)) m
  | .int, [.int i], m, Q => Q (.int i) m
  | .int, [.bool b], m, Q => Q (.int (if b then 1 else 0)) m
  | .int, [.str s], m, Q => ∃ n, PySem.intText? (SX.S s) = some n ∧ s.length ≤ 640 ∧ Q (.int n) m
  | .str, [.int i], m, Q => i.natAbs.log2 < 1920 ∧ Q (.str (numT i)) m
  | .str, [.str s], m, Q => Q (.str s) m
  | .tuple, [v], m, Q => ∃ vs, sq m v = some vs ∧ Q (.tup vs) m
  | .list, [v], m, Q => ∃ vs, sq m v = some vs ∧ Q (.il true vs) m
  | .all, [v], m, Q => isL v = true ∧ ∃ vs bs, sq m v = some vs ∧ boolsOf vs = some bs ∧ Q (.bool (bs.all id)) m
  | .any, [v], m, Q => isL v = true ∧ ∃ vs bs, sq m v = some vs ∧ boolsOf vs = some bs ∧ Q (.bool (bs.any id)) m
  | .max, [.int i, .int j], m, Q => Q (.int (if j > i then j else i)) m
  | .min, [.int i, .int j], m, Q => Q (.int (if j < i then j else i)) m
  | .repr, [v], m, Q => ∃ d, pdm m v = some d ∧ reprOk d ∧ Q (.str d.shown.cps.toList) m
  | _, _, _, _ => False
def rBi (K : Frag) : Bi → List V → Hp → VK → Prop
  | .len => fun xs H Q => ∃ x n, xs = [x] ∧ LenV K x H n ∧ Q (.int n) H
  | .abs => fun xs H Q => ∃ i, xs = [.int i] ∧ Q (.int (if i < 0 then -i else i)) H
  | .int => fun xs H Q => ((∃ i, xs = [.int i] ∧ Q (.int i) H) ∨ ∃ k, xs = [.bl k] ∧ Q (.int (if k then 1 else 0)) H) ∨ ∃ a n, xs = [.str a] ∧ PySem.intText? a = some n ∧ a.length ≤ 640 ∧ Q (.int n) H
  | .str => fun xs H Q => (∃ i, xs = [.int i] ∧ i.natAbs.log2 < 1920 ∧ Q (.str (toString i)) H) ∨ ∃ a, xs = [.str a] ∧ Q (.str a) H
  | .tuple => fun xs H Q => ∃ p ys, xs = [.ref p] ∧ ((SqL K H p ys ∧ ∀ l, H l = none → Q (.ref l) (upd H l (.tup ys))) ∨ (SqT K H p ys ∧ Q (.ref p) H))
  | .list => fun xs H Q => ∃ p ys, xs = [.ref p] ∧ (SqL K H p ys ∨ SqT K H p ys) ∧ ∀ l, H l = none → Q (.ref l) (upd H l (.lst ys))
  | .all => rAll K
  | .any => rAny K
  | .max => fun xs H Q => ∃ i j, xs = [.int i, .int j] ∧ Q (.int (if j > i then j else i)) H
  | .min => fun xs H Q => ∃ i j, xs = [.int i, .int j] ∧ Q (.int (if j < i then j else i)) H
  | .repr => fun xs H Q => ∃ x d, xs = [x] ∧ Dp K H x d ∧ reprOk d ∧ Q (.str d.shown) H
theorem call_reprD {X : Cx} (hg : X.A.guards = some []) (hu : X.A.units + 64 < cLine) : CallR X (.builtin "repr") (rBi X.K .repr) := by
  intro pins s σ H xs us Q I r ⟨x, d, e, hd, ⟨h1, h2, h3, h4⟩, q⟩
  subst e
  obtain ⟨u, e, ru⟩ := vals1 r
  subst e
  have hd' := hd
  cases hd with
  | non => cases ru; exact PySem.P.repr_of_none ⟨.str _, _, I.tok _, ⟨_, rfl⟩, q⟩
  | bl b => cases ru; exact PySem.P.repr_of_bool ⟨.str _, _, I.tok _, ⟨_, rfl⟩, by cases b <;> exact q⟩
  | int i =>
    obtain ⟨t, rfl⟩ := ru
    exact PySem.P.repr_of_int (by simpa [PyData.showable] using h1) ⟨.str _, _, I.tok _, ⟨_, rfl⟩, q⟩
  | str z =>
    obtain ⟨t, rfl⟩ := ru
    exact PySem.P.repr_of_str ⟨.str _, _, I.tok _, ⟨_, rfl⟩, q⟩ h4
  | lst s' r' =>
    obtain ⟨as, hr⟩ := Dp.reads I _ _ _ hd' ru
    cases ru
    exact repr_of_reads' hr h1 (PyData.noDict_hsm h2) hg (by omega) (fun _ _ e => e) (fun h' u tk hk => ⟨.str _, _, I.kept hk, ⟨_, rfl⟩, q⟩) h4
  | tup s' r' =>
    obtain ⟨as, hr⟩ := Dp.reads I _ _ _ hd' ru
    cases ru
    exact repr_of_reads' hr h1 (PyData.noDict_hsm h2) hg (by omega) (fun _ _ e => e) (fun h' u tk hk => ⟨.str _, _, I.kept hk, ⟨_, rfl⟩, q⟩) h4
theorem call_bi {X : Cx} (hc : X.calm = true) (hg : X.A.guards = some []) (hu : X.A.units + 64 < cLine) : ∀ b : Bi, CallR X b.val (rBi X.K b)
  | .len => call_len
  | .abs => call_abs
  | .int => call_int1.or call_int_str
  | .str => call_str_int.or SkE.call_str_str
  | .tuple => call_tuple_of
  | .list => call_list_of
  | .all => cr_all hc
  | .any => cr_any hc
  | .max => call_max2 hc
  | .min => call_min2 hc
  | .repr => call_reprD hg hu
section
variable {K : Frag} {W : Wd} {H : Hp} {m : Store}
theorem bools_of : ∀ {vs : List Val} {xs : List V} {bs : List Bool}, RVs K W H vs xs → boolsOf vs = some bs → xs = bs.map V.bl
  | _, _, _, .nil, e => by cases e; rfl
  | _, _, _, .cons (v := v) r t, e => by
    cases v with
    | bool b =>
      simp only [boolsOf, Option.map_eq_some_iff] at e
      obtain ⟨bs, e1, e2⟩ := e
      subst e2
      rw [r.bool_inv, bools_of t e1]
      rfl
    | _ => cases e
theorem RVs.one_inv {v : Val} {xs : List V} (r : RVs K W H [v] xs) : ∃ x, xs = [x] ∧ RV K W H v x := by cases r with | cons a t => cases t; exact ⟨_, rfl, a⟩
theorem RVs.two_inv {v w : Val} {xs : List V} (r : RVs K W H [v, w] xs) : ∃ x y, xs = [x, y] ∧ RV K W H v x ∧ RV K W H w y := by cases r with | cons a t => cases t with | cons b t => cases t; exact ⟨_, _, rfl, a, b⟩
theorem bi_ok {Qd : Val → Store → Prop} {Q : VK} {b : Bi} {vs : List Val} {xs : List V} (r : RVs K W H vs xs) (h : HR K W m H) (hw : biW b vs m Qd) (k : Cont K W H Qd Q) : rBi K b xs H Q := by
  unfold biW at hw
  split at hw
  · obtain ⟨x, rfl, r0⟩ := r.one_inv
    rw [r0.str_inv]
    exact ⟨_, _, rfl, ⟨by rw [SX.S_len]; exact hw.1, rfl⟩, by rw [SX.S_len]; exact k.here h (.int _) hw.2⟩
  · obtain ⟨us, e, q⟩ := hw
    obtain ⟨x, rfl, r0⟩ := r.one_inv
    obtain ⟨a, ys, rfl, sl, r1⟩ := sq_at h r0 e
    refine ⟨_, us.length, rfl, ?_, k.here h (.int _) q⟩
    rcases sl with sl | sl
    · exact .inl ⟨_, sl, r1.length⟩
    · exact .inr ⟨_, sl, r1.length⟩
  · obtain ⟨x, rfl, r0⟩ := r.one_inv
    rw [r0.int_inv]
    exact ⟨_, rfl, k.here h (.int _) hw⟩
  · obtain ⟨x, rfl, r0⟩ := r.one_inv
    rw [r0.int_inv]
    exact .inl (.inl ⟨_, rfl, k.here h (.int _) hw⟩)
  · obtain ⟨x, rfl, r0⟩ := r.one_inv
    rw [r0.bool_inv]
    exact .inl (.inr ⟨_, rfl, k.here h (.int _) hw⟩)
  · obtain ⟨n, h1, h2, q⟩ := hw
    obtain ⟨x, rfl, r0⟩ := r.one_inv
    rw [r0.str_inv]
    exact .inr ⟨_, n, rfl, h1, by rw [SX.S_len]; exact h2, k.here h (.int _) q⟩
  · obtain ⟨x, rfl, r0⟩ := r.one_inv
    rw [r0.int_inv]
    exact .inl ⟨_, rfl, hw.1, by rw [← S_numT]; exact k.here h (.str _) hw.2⟩
  · obtain ⟨x, rfl, r0⟩ := r.one_inv
    rw [r0.str_inv]
    exact .inr ⟨_, rfl, k.here h (.str _) hw⟩
  · obtain ⟨us, e, q⟩ := hw
    obtain ⟨x, rfl, r0⟩ := r.one_inv
    obtain ⟨a, ys, rfl, sl, r1⟩ := sq_at h r0 e
    refine ⟨_, ys, rfl, ?_⟩
    rcases sl with sl | sl
    · exact .inl ⟨sl, fun l hl => k.tup h r1 q hl⟩
    · exact .inr ⟨sl, k.here h (.tup sl r1) q⟩
  · obtain ⟨us, e, q⟩ := hw
    obtain ⟨x, rfl, r0⟩ := r.one_inv
    obtain ⟨a, ys, rfl, sl, r1⟩ := sq_at h r0 e
    exact ⟨_, _, rfl, sl, fun l hl => k.il h r1 q hl⟩
  · obtain ⟨hl, us, bs, e, e2, q⟩ := hw
    obtain ⟨x, rfl, r0⟩ := r.one_inv
    obtain ⟨a, ys, rfl, sl, r1⟩ := sq_atL h r0 e hl
    exact ⟨_, bs, rfl, by rw [← bools_of r1 e2]; exact sl, k.here h (.bool _) q⟩
  · obtain ⟨hl, us, bs, e, e2, q⟩ := hw
    obtain ⟨x, rfl, r0⟩ := r.one_inv
    obtain ⟨a, ys, rfl, sl, r1⟩ := sq_atL h r0 e hl
    exact ⟨_, bs, rfl, by rw [← bools_of r1 e2]; exact sl, k.here h (.bool _) q⟩
  · obtain ⟨x, y, rfl, r0, r2⟩ := r.two_inv
    rw [r0.int_inv, r2.int_inv]
    exact ⟨_, _, rfl, k.here h (.int _) hw⟩
  · obtain ⟨x, y, rfl, r0, r2⟩ := r.two_inv
    rw [r0.int_inv, r2.int_inv]
    exact ⟨_, _, rfl, k.here h (.int _) hw⟩
  · obtain ⟨d, e, ok, q⟩ := hw
    obtain ⟨x, rfl, r0⟩ := r.one_inv
    exact ⟨_, d, rfl, pdm_dp h r0 e, ok, by rw [← SX.S_tl d.shown]; exact k.here h (.str _) q⟩
  · exact hw.elim
end
/-! ### isinstance -/
inductive Ty where
  | int | bool | str | tuple | list | dict
  deriving DecidableEq
def Ty.name : Ty → String
  | .int => "int"
  | .bool => "bool"
  | .str => "str"
  | .tuple => "tuple"
  | .list => "list"
  | .dict => "dict"
/-- the kinds of values -/
inductive Kd where
  | non | bool | int | str | tuple | list
def Kd.name : Kd → String
  | .non => "NoneType"
  | .bool => "bool"
  | .int => "int"
  | .str => "str"
  | .tuple => "tuple"
  | .list => "list"
def kd : Val → Kd
  | .non => .non
  | .bool _ => .bool
  | .int _ => .int
  | .str _ => .str
  | .tup _ => .tuple
  | .il _ _ => .list
  | .loc _ => .list
def isK : Ty → Kd → Bool
  | .int, .int => true
  | .int, .bool => true
  | .bool, .bool => true
  | .str, .str => true
  | .tuple, .tuple => true
  | .list, .list => true
  | _, _ => false
def isT (t : Ty) (v : Val) : Bool := isK t (kd v)
theorem kit_tab (t : Ty) (k : Kd) : kitB k.name t.name = some (isK t k) := by
  cases t <;> cases k <;> decide +kernel
theorem kit_isT {K : Frag} (t : Ty) (v : Val) : PySem.W.kitOne K (.type (kd v).name) (.type t.name) = some (isT t v) := kit_ty (kit_tab t (kd v))
theorem tyX_of {K : Frag} {W : Wd} {H : Hp} {m : Store} {v : Val} {x : V} (h : HR K W m H) (r : RV K W H v x) : TyX K H x (.type (kd v).name) := by
  cases r with
  | non => exact .base .non
  | bool b => exact .base (.bl b)
  | int i => exact .base (.int i)
  | str s => exact .base (.str _)
  | tup s r =>
    rcases s with (s | ⟨o, s⟩) | ⟨o, its, n, s, c, _⟩
    · exact .base (.tup s)
    · exact .fTuple s
    · exact .kTuple s c
  | il1 i q r => exact .base (.lst q)
  | il0 i s r =>
    rcases s with (s | ⟨o, s⟩) | ⟨o, its, n, s, c, _⟩
    · exact .base (.lst s)
    · exact .base (.frz s)
    · exact .kList s c
  | ilk s r =>
    rcases s with (s | ⟨o, s⟩) | ⟨o, its, n, s, c, _⟩
    · cases s
    · cases s
    · exact .kList s c
  | loc q =>
    obtain ⟨xs, q1⟩ := h.lst_at (List.mem_of_getElem? q)
    exact .base (.lst q1)
/-! ### methods -/
inductive Mt where
  | append | split | join
  deriving DecidableEq
def mtW : Mt → Val → List Val → Store → (Val → Store → Prop) → Prop
  | .append, .loc n, [v], m, Q => ∃ vs, m[n]? = some (.list vs) ∧ vs.length < sizeLine ∧ Q .non (m.set n (.list (vs ++ [v])))
  | .split, .str a, [.str b], m, Q => (b ≠ [] ∧ b.all (· < 256) = true ∧ a.length + 2 ≤ sizeLine) ∧ Q (.il true ((TL.spl b 0 [] a).map .str)) m
  | .join, .str a, [v], m, Q => ∃ vs ts, sq m v = some vs ∧ vs = ts.map .str ∧ (ts.map (·.length)).sum + ts.length * a.length ≤ 16777216 ∧ Q (.str (TL.joinL a ts)) m
  | _, _, _, _, _ => False
/-- the receiver's kind -/
def mtT : Mt → Val → Prop
  | .append, .loc _ => True
  | .split, .str _ => True
  | .join, .str _ => True
  | _, _ => False
def Mt.ty : Mt → String
  | .append => "list"
  | _ => "str"
def Mt.name : Mt → Str
  | .append => "append"
  | .split => "split"
  | .join => "join"
def Mt.id : Mt → String
  | .append => "list.append"
  | .split => "str.split"
  | .join => "str.join"
def rMt (K : Frag) : Mt → V → List V → Hp → VK → Prop
  | .append => rAppend
  | .split => fun x xs H Q => ∃ a b, x = .str a ∧ xs = [.str b] ∧ (b.length == 0) = false ∧ a.length + 2 ≤ sizeLine ∧ rNewStrs (Txt.split a b) H Q
  | .join => fun x xs H Q => ∃ a p, ∃ ys : List Str, x = .str a ∧ xs = [.ref p] ∧ (SqL K H p (ys.map V.str) ∨ SqT K H p (ys.map V.str)) ∧ (ys.map (·.length)).sum + ys.length * a.length ≤ 16777216 ∧ Q (.str (Txt.join a ys)) H
theorem mt_all {X : Cx} : ∀ t : Mt, MtR X t.id (rMt X.K t)
  | .append => mt_append
  | .split => mt_split
  | .join => mt_join
section
variable {K : Frag} {W : Wd} {H : Hp} {m : Store}
theorem mtT_ok {t : Mt} {v : Val} {x : V} (r : RV K W H v x) (h : HR K W m H) (hw : mtT t v) : tyV K t.ty x H := by
  cases t <;> cases v <;> first | exact hw.elim | skip
  · cases r with
    | loc q =>
      obtain ⟨xs, q1⟩ := h.lst_at (List.mem_of_getElem? q)
      exact .inl ⟨rfl, xs, SqL.of q1⟩
  · rw [r.str_inv]; rfl
  · rw [r.str_inv]; rfl
theorem RVs.strs : ∀ (ts : List Text), RVs K W H (ts.map .str) (ts.map fun t => V.str (SX.S t))
  | [] => .nil
  | t :: r => .cons (.str t) (RVs.strs r)
theorem strs_inv : ∀ {ts : List Text} {xs : List V}, RVs K W H (ts.map .str) xs → xs = (ts.map SX.S).map V.str
  | [], _, .nil => rfl
  | t :: r, _, .cons a b => by rw [a.str_inv, strs_inv b]; rfl
theorem mt_ok {Qd : Val → Store → Prop} {Q : VK} {t : Mt} {v : Val} {x : V} {vs : List Val} {xs : List V} (rv : RV K W H v x) (r : RVs K W H vs xs) (h : HR K W m H) (hw : mtW t v vs m Qd) (k : Cont K W H Qd Q) : rMt K t x xs H Q := by
  unfold mtW at hw
  split at hw
  · obtain ⟨us, e, hl, q⟩ := hw
    obtain ⟨y, rfl, r0⟩ := r.one_inv
    cases rv with
    | loc q0 =>
      obtain ⟨ys, q1, r1⟩ := loc_at h q0 e
      obtain ⟨ex, h1⟩ := set_loc h e q0 (r1.append (.cons r0 .nil))
      exact ⟨_, ys, y, rfl, rfl, q1, by rw [← r1.length]; exact hl, k _ _ _ _ _ ex .non h1 q⟩
  · obtain ⟨⟨h1, h2, h3⟩, q⟩ := hw
    obtain ⟨y, rfl, r0⟩ := r.one_inv
    rw [rv.str_inv, r0.str_inv]
    refine ⟨_, _, rfl, rfl, ?_, by rw [SX.S_len]; exact h3, fun p hp => ?_⟩
    · rw [SX.S_len]
      simpa using h1
    · rw [SX.split_S h1 h2, List.map_map]
      exact k.il h (RVs.strs _) q hp
  · obtain ⟨us, ts, e, e2, hl, q⟩ := hw
    obtain ⟨y, rfl, r0⟩ := r.one_inv
    rw [rv.str_inv]
    subst e2
    obtain ⟨a, ys, rfl, sl, r1⟩ := sq_at h r0 e
    rw [strs_inv r1] at sl
    refine ⟨_, a, ts.map SX.S, rfl, rfl, sl, ?_, ?_⟩
    · rw [SX.lens, List.length_map, SX.S_len]; exact hl
    · rw [SX.join_S]; exact k.here h (.str _) q
  · exact hw.elim
end
end Dy

/-! Dp, part E: places, slices, what is walked; the expressions and their weakest preconditions. -/
namespace Dy
open PySem PySem.Spec L2
/-! ### places and slices -/
def idxF (m : Store) : Val → Val → Option Val
  | .str s, .int i => if s.length ≤ sizeLine then (atI s i).map fun c => .str [c] else none
  | v, .int i => (sq m v).bind fun vs => atI vs i
  | _, _ => none
def partF (has : Bool) (v : Val) : Option (Option Int) :=
  if has = true then (match v with | .int i => some (some i) | _ => none) else some none
def cutL {α : Type} (xs : List α) (lo hi : Option Int) : List α := (xs.drop (HT.sIx xs.length 0 lo)).take (HT.sIx xs.length xs.length hi - HT.sIx xs.length 0 lo)
def sliceF (m : Store) (v : Val) (lo hi : Option Int) : Option Val :=
  if isL v then (sq m v).map fun vs => .il true (cutL vs lo hi) else none
section
variable {K : Frag} {W : Wd} {H : Hp} {m : Store}
theorem atI_rel {vs : List Val} {xs : List V} (r : RVs K W H vs xs) {i : Int} {v : Val} (e : atI vs i = some v) : ∃ x, atI xs i = some x ∧ RV K W H v x := by
  unfold atI at e ⊢
  rw [← r.length]
  cases hn : ixN vs.length i with
  | none => rw [hn] at e; cases e
  | some j =>
    rw [hn] at e
    exact r.get e
theorem idx_ok {Qd : Val → Store → Prop} {Q : VK} {a i w : Val} {x y : V} (ra : RV K W H a x) (ri : RV K W H i y) (h : HR K W m H) (hw : idxF m a i = some w) (q : Qd w m) (k : Cont K W H Qd Q) : rIx K x y H Q := by
  unfold idxF at hw
  split at hw
  · split at hw
    · simp only [Option.map_eq_some_iff] at hw
      obtain ⟨c, e1, e2⟩ := hw
      subst e2
      rw [ra.str_inv, ri.int_inv]
      exact .inr (.inr ⟨_, _, c, rfl, rfl, by rw [SX.S_len]; assumption, e1, k.here h (.str [c]) q⟩)
    · cases hw
  · simp only [Option.bind_eq_some_iff] at hw
    obtain ⟨vs, e1, e2⟩ := hw
    rw [ri.int_inv]
    obtain ⟨p, xs, rfl, sl, r1⟩ := sq_at h ra e1
    obtain ⟨z, e3, r2⟩ := atI_rel r1 e2
    rcases sl with sl | sl
    · exact .inl ⟨p, xs, _, z, rfl, rfl, sl, e3, k.here h r2 q⟩
    · exact .inr (.inl ⟨p, xs, _, z, rfl, rfl, sl, e3, k.here h r2 q⟩)
  · cases hw
theorem cut_rel {vs : List Val} {xs : List V} (r : RVs K W H vs xs) (lo hi : Option Int) : RVs K W H (cutL vs lo hi) (cutV xs lo hi) := by
  unfold cutL cutV
  rw [← r.length]
  exact (r.drop _).take _
theorem slice_ok {Qd : Val → Store → Prop} {Q : VK} {a w : Val} {x : V} {lo hi : Option Int} (ra : RV K W H a x) (h : HR K W m H) (hw : sliceF m a lo hi = some w) (q : Qd w m) (k : Cont K W H Qd Q) : rSlL K x lo hi H Q := by
  unfold sliceF at hw
  split at hw
  · simp only [Option.map_eq_some_iff] at hw
    obtain ⟨vs, e1, e2⟩ := hw
    subst e2
    obtain ⟨p, xs, rfl, sl, r1⟩ := sq_atL h ra e1 (by assumption)
    exact ⟨p, xs, rfl, sl, fun p hp => k.il h (cut_rel r1 lo hi) q hp⟩
  · cases hw
end
/-! ### what is walked -/
inductive IK where
  | seq | rng1 | rng2
  deriving DecidableEq
def intsUp (lo : Int) (n : Nat) : List Val := (List.range n).map fun i => .int (lo + (i : Nat))
def itF : IK → Store → Val → Val → Option (List Val)
  | .seq, _, .str s, _ => some (s.map fun c => .str [c])
  | .seq, m, v, _ => sq m v
  | .rng1, _, .int n, _ => if -(2 ^ 62) ≤ n ∧ n < 2 ^ 62 then some (intsUp 0 n.toNat) else none
  | .rng2, _, .int a, .int b => if -(2 ^ 62) ≤ a ∧ a < 2 ^ 62 ∧ -(2 ^ 62) ≤ b ∧ b < 2 ^ 62 then some (intsUp a (b - a).toNat) else none
  | _, _, _, _ => none
/-- J walks the items as long as the store lets it -/
def Walk (K : Frag) (J : It) (items : List Val) (live : Store → Prop) (W0 : Wd) (H0 : Hp) : Prop :=
  ∀ (W : Wd) (m : Store) (H : Hp), Ext W0 H0 W H → HR K W m H → live m →
    (∀ i, items.length ≤ i → J.stop i H) ∧ ∀ (i : Nat) (v : Val), items[i]? = some v → J.go i H ∧ ∀ x H', J.yld i H x H' → ∃ W', Ext W H W' H' ∧ HR K W' m H' ∧ RV K W' H' v x
section
variable {K : Frag} {W : Wd} {H : Hp} {m : Store}
theorem walk_rng {lo : Int} {n : Nat} {live : Store → Prop} : Walk K (Itr lo n) (intsUp lo n) live W H := by
  intro W1 m1 H1 e h _
  refine ⟨fun i hi => by simpa [intsUp, Itr] using hi, fun i v hv => ?_⟩
  have hi : i < n := by
    have := (List.getElem?_eq_some_iff.mp hv).1
    simpa [intsUp] using this
  have ev : v = .int (lo + (i : Nat)) := by
    simp [intsUp, hi] at hv
    exact hv.symm
  subst ev
  refine ⟨hi, fun x H' y => ?_⟩
  obtain ⟨e1, e2⟩ := y
  subst e1 e2
  exact ⟨W1, .refl h, h, .int _⟩
theorem walk_str {s : Text} {live : Store → Prop} : Walk K (Its (SX.S s)) (s.map fun c => Val.str [c]) live W H := by
  intro W1 m1 H1 e h _
  refine ⟨fun i hi => by simpa [Its] using hi, fun i v hv => ?_⟩
  rw [List.getElem?_map, Option.map_eq_some_iff] at hv
  obtain ⟨c, e1, e2⟩ := hv
  subst e2
  have hi : i < s.length := (List.getElem?_eq_some_iff.mp e1).1
  refine ⟨by simpa [Its] using hi, fun x H' y => ?_⟩
  obtain ⟨f1, c', f2, f3⟩ := y
  subst f1 f3
  have f4 : (SX.S s).cps[i]? = some c := by simpa using e1
  rw [f4] at f2; cases f2
  exact ⟨W1, .refl h, h, .str _⟩
theorem walk_L {v : Val} {x : V} {vs : List Val} (h0 : HR K W m H) (r : RV K W H v x) (e : sq m v = some vs) (hl : isL v = true) : ∃ a xs, x = .ref a ∧ SqL K H a xs ∧ Walk K (Itl K a) vs (fun m => sq m v = some vs) W H := by
  obtain ⟨a, xs, rfl, sl, r1⟩ := sq_atL h0 r e hl
  refine ⟨a, xs, rfl, sl, fun W1 m1 H1 ex h1 lv => ?_⟩
  obtain ⟨b, ys, eb, sl1, r2⟩ := sq_atL h1 (r.mono h0 ex) lv hl
  cases eb
  refine ⟨fun i hi => ⟨ys, sl1, by rw [← r2.length]; exact hi⟩, fun i v hv => ?_⟩
  obtain ⟨y, ey, ry⟩ := r2.get hv
  refine ⟨⟨ys, y, sl1, ey⟩, fun z H' hz => ?_⟩
  obtain ⟨e1, e2⟩ := hz
  subst e1
  have e3 := e2 ys sl1
  rw [ey] at e3; cases e3
  exact ⟨W1, .refl h1, h1, ry⟩
theorem walk_T {x : V} {vs : List Val} {live : Store → Prop} (h0 : HR K W m H) (r : RV K W H (.tup vs) x) : ∃ a xs, x = .ref a ∧ SqT K H a xs ∧ Walk K (Itt K a) vs live W H := by
  obtain ⟨a, xs, rfl, sl, r1⟩ := r.tup_inv
  refine ⟨a, xs, rfl, sl, fun W1 m1 H1 ex h1 lv => ?_⟩
  obtain ⟨b, ys, eb, sl1, r2⟩ := (r.mono h0 ex).tup_inv
  cases eb
  refine ⟨fun i hi => ⟨ys, sl1, by rw [← r2.length]; exact hi⟩, fun i v hv => ?_⟩
  obtain ⟨y, ey, ry⟩ := r2.get hv
  refine ⟨⟨ys, y, sl1, ey⟩, fun z H' hz => ?_⟩
  obtain ⟨e1, e2⟩ := hz
  subst e1
  have e3 := e2 ys sl1
  rw [ey] at e3; cases e3
  exact ⟨W1, .refl h1, h1, ry⟩
end
/-! ### targets -/
inductive Tg where
  | name (i : Nat)
  | tup (is : List Nat)
def setAll : List Nat → List Val → Env → Option Env
  | [], [], r => some r
  | i :: is, v :: vs, r => setAll is vs (r.set i (some v))
  | _, _, _ => none
def tgF : Tg → Val → Env → Option Env
  | .name i, v, r => some (r.set i (some v))
  | .tup is, .tup vs, r => setAll is vs r
  | _, _, _ => none
/-! ### expressions -/
inductive E where
  | var (i : Nat)
  | cst (v : Val)
  | nil
  | cons (a b : E)
  | tup (es : E)
  | lst (mu : Bool) (es : E)
  | bin (op : BOp) (a b : E)
  | neg (a : E)
  | cmp (op : COp) (a b : E)
  | chain (o1 o2 : COp) (a b c : E)
  | isN (neg : Bool) (a : E)
  | one (a : E)
  | and (a b : E)
  | or (a b : E)
  | not (a : E)
  | ite (c a b : E)
  | call (f : Nat) (args : E)
  | bi (b : Bi) (args : E)
  | isI (t : Ty) (a : E)
  | meth (t : Mt) (o args : E)
  | idx (a i : E)
  | sl (hl hh : Bool) (a lo hi : E)
  | lc (mu : Bool) (own : List Nat) (tg : Tg) (ik : IK) (e1 e2 cond elt : E)
/-- what a def is worth -/
abbrev FS := List Val → Store → (Val → Store → Prop) → Rq → Prop
def isNon : Val → Bool
  | .non => true
  | _ => false
/-- a list comprehension's turns -/
def lcW (live : Store → Prop) (body : Val → Store → (Option Val → Store → Prop) → Prop) : List Val → List Val → Store → (List Val → Store → Prop) → Prop
  | [], acc, m, Q => live m ∧ Q acc m
  | x :: xs, acc, m, Q => live m ∧ body x m fun o m1 => match o with
    | some v => acc.length < sizeLine ∧ lcW live body xs (acc ++ [v]) m1 Q
    | none => lcW live body xs acc m1 Q
/-- the end of a list that is new -/
def newL (mu : Bool) (vs : List Val) (m : Store) (Q : Val → Store → Prop) : Prop :=
  if mu = true then Q (.loc m.length) (m ++ [.list vs]) else Q (.il true vs) m
def noR : Rq := fun _ _ _ => False
/-- as a value, and as a test -/
abbrev WB := WE0 × WT0
def prT (w : WE0) : WB := (w, fun r m Q R => w r m (fun v m1 => ∃ t, tru m1 v = some t ∧ Q t m1) R)
def wpB (F : Nat → FS) : E → WB
  | .var i => prT fun r m Q _ => ∃ v, r[i]? = some (some v) ∧ Q v m
  | .cst v => prT fun _ m Q _ => Q v m
  | .nil => prT fun _ m Q _ => Q (.tup []) m
  | .cons a b => prT fun r m Q R => (wpB F a).1 r m (fun v m1 => (wpB F b).1 r m1 (fun w m2 => ∃ vs, w = .tup vs ∧ Q (.tup (v :: vs)) m2) R) R
  | .tup es => prT fun r m Q R => (wpB F es).1 r m (fun v m1 => ∃ vs, v = .tup vs ∧ vs.length ≤ sizeLine ∧ Q (.tup vs) m1) R
  | .lst mu es => prT fun r m Q R => (wpB F es).1 r m (fun v m1 => ∃ vs, v = .tup vs ∧ vs.length ≤ sizeLine ∧ newL mu vs m1 Q) R
  | .bin op a b => prT fun r m Q R => (wpB F a).1 r m (fun v m1 => (wpB F b).1 r m1 (fun w m2 => binW op v w m2 Q) R) R
  | .neg a => prT fun r m Q R => (wpB F a).1 r m (fun v m1 => ∃ i, v = .int i ∧ Q (.int (-i)) m1) R
  | .cmp op a b => prT fun r m Q R => (wpB F a).1 r m (fun v m1 => (wpB F b).1 r m1 (fun w m2 => cmpW op v w m2 fun t => Q (.bool t) m2) R) R
  | .chain o1 o2 a b c => prT fun r m Q R => (wpB F a).1 r m (fun v m1 => (wpB F b).1 r m1 (fun w m2 => cmpW o1 v w m2 fun t =>
      if t = true then (wpB F c).1 r m2 (fun u m3 => cmpW o2 w u m3 fun t => Q (.bool t) m3) R else Q (.bool false) m2) R) R
  | .isN neg a => prT fun r m Q R => (wpB F a).1 r m (fun v m1 => Q (.bool (neg != isNon v)) m1) R
  | .one a => wpB F a
  | .and a b => (fun r m Q R => (wpB F a).1 r m (fun v m1 => ∃ t, tru m1 v = some t ∧ if t = true then (wpB F b).1 r m1 Q R else Q v m1) R,
      fun r m Q R => (wpB F a).2 r m (fun t m1 => if t = true then (wpB F b).2 r m1 Q R else Q false m1) R)
  | .or a b => (fun r m Q R => (wpB F a).1 r m (fun v m1 => ∃ t, tru m1 v = some t ∧ if t = true then Q v m1 else (wpB F b).1 r m1 Q R) R,
      fun r m Q R => (wpB F a).2 r m (fun t m1 => if t = true then Q true m1 else (wpB F b).2 r m1 Q R) R)
  | .not a => (fun r m Q R => (wpB F a).1 r m (fun v m1 => ∃ t, tru m1 v = some t ∧ Q (.bool (!t)) m1) R, fun r m Q R => (wpB F a).2 r m (fun t m1 => Q (!t) m1) R)
  | .ite c a b => (fun r m Q R => (wpB F c).2 r m (fun t m1 => if t = true then (wpB F a).1 r m1 Q R else (wpB F b).1 r m1 Q R) R,
      fun r m Q R => (wpB F c).2 r m (fun t m1 => if t = true then (wpB F a).2 r m1 Q R else (wpB F b).2 r m1 Q R) R)
  | .call f args => prT fun r m Q R => (wpB F args).1 r m (fun v m1 => ∃ vs, v = .tup vs ∧ F f vs m1 Q R) R
  | .bi b args => prT fun r m Q R => (wpB F args).1 r m (fun v m1 => ∃ vs, v = .tup vs ∧ biW b vs m1 Q) R
  | .isI t a => prT fun r m Q R => (wpB F a).1 r m (fun v m1 => Q (.bool (isT t v)) m1) R
  | .meth t o args => prT fun r m Q R => (wpB F o).1 r m (fun v m1 => mtT t v ∧ (wpB F args).1 r m1 (fun w m2 => ∃ vs, w = .tup vs ∧ mtW t v vs m2 Q) R) R
  | .idx a i => prT fun r m Q R => (wpB F a).1 r m (fun v m1 => (wpB F i).1 r m1 (fun w m2 => ∃ u, idxF m2 v w = some u ∧ Q u m2) R) R
  | .sl hl hh a lo hi => prT fun r m Q R => (wpB F a).1 r m (fun v m1 => (wpB F lo).1 r m1 (fun l m2 => ∃ i, partF hl l = some i ∧ (wpB F hi).1 r m2 (fun u m3 => ∃ j, partF hh u = some j ∧ ∃ z, sliceF m3 v i j = some z ∧ Q z m3) R) R) R
  | .lc mu own tg ik e1 e2 cond elt => prT fun r m Q R => (wpB F e1).1 r m (fun v1 m1 => (wpB F e2).1 r m1 (fun v2 m2 => ∃ items, itF ik m2 v1 v2 = some items ∧
      lcW (fun m => itF ik m v1 v2 = some items) (fun x m P => ∃ r2, tgF tg x (wipeE r own) = some r2 ∧ (wpB F cond).2 r2 m (fun t m1 =>
        if t = true then (wpB F elt).1 r2 m1 (fun y m2 => P (some y) m2) noR else P none m1) noR) items [] m2 fun acc m3 => newL mu acc m3 Q) R) R
def wpE (F : Nat → FS) (e : E) : WE0 := (wpB F e).1
def wpT (F : Nat → FS) (e : E) : WT0 := (wpB F e).2
def wpA (F : Nat → FS) (e : E) : WA0 := fun r m Q R => wpE F e r m (fun v m1 => ∃ vs, v = .tup vs ∧ Q vs m1) R
end Dy

/-! Dp, part F: defs by what they are worth; which text an expression stands for. -/
namespace Dy
open PySem PySem.Spec L2
/-! ### equal values -/
mutual
def veq : Val → Val → Bool
  | .non, .non => true
  | .bool a, .bool b => a == b
  | .int a, .int b => a == b
  | .str a, .str b => a == b
  | .tup a, .tup b => veqs a b
  | .il o a, .il p b => (o == p) && veqs a b
  | .loc a, .loc b => a == b
  | _, _ => false
def veqs : List Val → List Val → Bool
  | [], [] => true
  | a :: r, b :: s => veq a b && veqs r s
  | _, _ => false
end
mutual
theorem veq_eq : ∀ {a b : Val}, veq a b = true → a = b
  | .non, b, h => by cases b <;> simp [veq] at h; rfl
  | .bool a, b, h => by cases b <;> simp [veq] at h; rw [h]
  | .int a, b, h => by cases b <;> simp [veq] at h; rw [h]
  | .str a, b, h => by cases b <;> simp [veq] at h; rw [h]
  | .tup a, b, h => by cases b <;> simp [veq] at h; rw [veqs_eq h]
  | .il o a, b, h => by cases b <;> simp [veq] at h; rw [h.1, veqs_eq h.2]
  | .loc a, b, h => by cases b <;> simp [veq] at h; rw [h]
theorem veqs_eq : ∀ {a b : List Val}, veqs a b = true → a = b
  | [], [], _ => rfl
  | [], _ :: _, h => by simp [veqs] at h
  | _ :: _, [], h => by simp [veqs] at h
  | a :: r, b :: s, h => by
    simp [veqs] at h
    rw [veq_eq h.1, veqs_eq h.2]
end
/-! ### a def's promise, where no repr is under way -/
structure FnG (P : Program) (w : World) (K : Frag) (mg : Str → Option Value) (base : Heap) (k : Nat) (f : Addr) (fd : FuncData) (ps : List Str) (sp : Sp) : Prop where
  len : ∀ vs H Q E, sp vs H Q E → vs.length = ps.length
  run : ∀ (A : Around) (outer : List PySem.Env) (s : Shared) (H : Hp) (args : Args) (us : List Value) (vs : List V) (Q : VK) (E : XK), Room k A → A.guards = some [] → Env0 P w K mg base A outer s H →
    BindsTo s fd args (ps.zip us) → Vals vs us → sp vs H Q E → codeAny (model P w) A (.call (.ref f) args) (CR (L2.CX P w) outer P w H s Q E) s
def ContE (K : Frag) (cl : Cls) (W : Wd) (H : Hp) (R : Rq) (E : XK) : Prop :=
  ∀ (W' : Wd) (c : Nat) (v : Val) (x : V) (d : Addr) (m' : Store) (H' : Hp), Ext W H W' H' → RV K W' H' v x → HR K W' m' H' → H' d = some (.xd [("value", x)]) → R c v m' → E (.ref (cl c)) (some d) H'
/-- the promise of a def of n parameters -/
def spG (K : Frag) (cl : Cls) (n : Nat) (fs : FS) : Sp := fun vs H Q E =>
  ∃ (W : Wd) (args : List Val) (m : Store) (Qd : Val → Store → Prop) (R : Rq), vs.length = n ∧ RVs K W H args vs ∧ HR K W m H ∧ fs args m Qd R ∧ Cont K W H Qd Q ∧ ContE K cl W H R E
section
variable {X : Cx} {k : Nat} {f : Addr} {fd : FuncData} {ps : List Str} {sp : Sp} {x : Str} {p pos : Pos} {e : Expr} {es : List Expr} {t : TA} {Wx : WX}
theorem run_fnG {pins : List (Addr × Obj)} {σ : St} {H : Hp} {s : Shared} {Q : VK} {us : List Value} {vs : List V} (F : FnG X.prog X.w X.K X.mg X.base k f fd ps sp) (hr : Room k X.A) (hg : X.A.guards = some []) (hb : Binds X.K fd ps []) (tk : Takes X Wx)
    (I : Inv X pins σ H s) (r : Vals vs us) (h : sp vs H Q fun c d H' => Wx c d σ H') : wpAny (model X.prog X.w) X.A (call (.ref f) us) (EP X pins σ Q) X.xe s := by
  have hl : us.length = ps.length := r.length ▸ F.len _ _ _ _ h
  have b : BindsTo s fd ⟨us, []⟩ (ps.zip us) := by
    have b := hb s us I.kIn (by rw [List.append_nil]; exact hl)
    rw [List.append_nil] at b
    exact b
  refine wpAny_call (codeAny_mono (F.run X.A X.stack s H ⟨us, []⟩ us vs Q _ hr hg I.env0 b r h) fun z s' hq => ?_)
  match z, hq with
  | .error e, hq => exact tk e s' (XE.of_call I (fun _ _ _ q => q) hq)
  | .ok (.ret u), hq => exact I.after hq
theorem pe_callG (F : FnG X.prog X.w X.K X.mg X.base k f fd ps sp) (hr : Room k X.A) (hgu : X.A.guards = some []) (hg : Gl X x) (hm : X.mg x = some (.ref f)) (hk : PySem.W.keepIn X.K (.ref f) = true) (hb : Binds X.K fd ps []) (tk : Takes X Wx) (ha : PA X (e :: es) t)
    (hdb : (x == ("__debug__" : Str)) = false) (he : starEach (e :: es) X.env = (false, eval e X.env) :: starEach es X.env) (hpl : (backTo pos (starEach es X.env)).any (·.1) = false) :
    PE X (.Call (.Name x p) (e :: es) [] pos) (fun σ H Q => t σ H fun vs H1 => sp vs H1 Q fun c d H' => Wx c d σ H') := by
  constructor
  intro pins s σ H Q I h
  refine wpAny_Call_Name_kw (ld_glob I hg hm ?_ hdb)
  refine PySem.W.callWith_K (h₀ := X.base) I.ok.mod.kin hk (thn (ha.run pos pins s σ H _ I h) ?_) he hpl
  rintro us s1 ⟨vs, H1, I1, r, q⟩
  exact ⟨I1.kIn, run_fnG F hr hgu hb tk I1 r q⟩
end
/-! ### the text -/
structure Cc where
  N : List Str
  names : List (Str × NameKind)
  top : Bool
  gl : List (Str × Val)
  bl : List Str
  fns : List (Str × Nat)
def noStar : Expr → Bool
  | .Starred _ _ => false
  | _ => true
def isGl (c : Cc) (x : Str) : Bool := decide (c.names.lookup x = some .globalImplicit) && !(x == ("__debug__" : Str))
def isVis (c : Cc) (x : Str) : Bool := decide (c.names.lookup x = some .local) || decide (c.names.lookup x = some .cell) || decide (c.names.lookup x = some .free)
def plainName (x : Str) : Bool := !(x == ("__debug__" : Str)) && !(x == ("__classdict__" : Str))
def canSet (c : Cc) (i : Nat) (x : Str) : Bool := decide (c.N[i]? = some x) && (decide (c.names.lookup x = some .local) || (c.top && decide (c.names.lookup x = some .cell)))
def chkNames (c : Cc) : List Expr → List Nat → Bool
  | [], [] => true
  | .Name x _ :: r, i :: is => canSet c i x && chkNames c r is
  | _, _ => false
def chkTg (c : Cc) (e : Expr) : Tg → Bool
  | .name i => match e with
    | .Name x _ => canSet c i x
    | _ => false
  | .tup is => match e with
    | .Tuple es _ _ => chkNames c es is
    | _ => false
/-- no call that takes nothing -/
def baseOk : Expr → Bool
  | .Call (.Name _ _) [] [] _ => false
  | _ => true
def notSlice : Expr → Bool
  | .Slice _ _ _ _ => false
  | _ => true
def notSet : Expr → Bool
  | .Set _ _ _ => false
  | _ => true
def blkNames (c : Cc) (scope : Scope) : List (Str × NameKind) :=
  scope.names.map fun (n, k) => if (k == .free && decide (c.names.lookup n = some .cell)) then (n, .cell) else (n, k)
def ownOf (c : Cc) : List Nat → List (Str × Nat)
  | [] => []
  | i :: is => ((c.N[i]?).getD "", i) :: ownOf c is
def tgIn (own : List Nat) : Tg → Bool
  | .name i => own.contains i
  | .tup is => is.all own.contains
def Cc.blk (c : Cc) (scope : Scope) : Cc := { c with names := blkNames c scope, top := false }
def isCst : E → Bool
  | .cst .non => true
  | _ => false
def isYes : E → Bool
  | .cst (.bool true) => true
  | _ => false
/-- a part of a slice -/
def chkO (has no : Bool) (o : Option Expr) (f : Expr → Bool) : Bool :=
  match o with
  | none => !has && no
  | some x => has && f x
/-- the tests of a comprehension -/
def chkC (ifs : List Expr) (yes : Bool) (f : Expr → Bool) : Bool :=
  match ifs with
  | [] => yes
  | [x] => f x
  | _ => false
/-- what is walked -/
def chkIt (c : Cc) (it : Expr) (ik : IK) (no2 : Bool) (f1 f2 : Expr → Bool) : Bool :=
  match ik with
  | .seq => no2 && f1 it
  | .rng1 => match it with
    | .Call (.Name x _) [y] [] _ => isGl c x && (x == ("range" : Str)) && c.bl.contains x && noStar y && no2 && f1 y
    | _ => false
  | .rng2 => match it with
    | .Call (.Name x _) [y, z] [] _ => isGl c x && (x == ("range" : Str)) && c.bl.contains x && noStar y && noStar z && f1 y && f2 z
    | _ => false
mutual
def chk (c : Cc) (e : Expr) : E → Bool
  | .var i => match e with
    | .Name x _ => decide (c.N[i]? = some x) && isVis c x && plainName x
    | _ => false
  | .cst v => match e with
    | .Constant .none _ _ => veq v .non
    | .Constant (.bool b) _ _ => veq v (.bool b)
    | .Constant (.int i) _ _ => veq v (.int i)
    | .Constant (.str s) _ _ => veq v (.str s.cps.toList)
    | .Name x _ => isGl c x && (match c.gl.lookup x with | some u => veq v u | none => false)
    | _ => false
  | .nil => false
  | .cons _ _ => false
  | .tup es => match e with
    | .Tuple xs _ _ => chkL c xs es
    | _ => false
  | .lst _ es => match e with
    | .List xs _ => chkL c xs es
    | _ => false
  | .bin o a b => match e with
    | .BinOp l op r _ => decide (o.op = op) && chk c l a && chk c r b
    | _ => false
  | .neg a => match e with
    | .UnaryOp .USub x _ => chk c x a
    | _ => false
  | .cmp o a b => match e with
    | .Compare l [op] [r] _ => decide (o.op = op) && notSet r && chk c l a && chk c r b
    | _ => false
  | .chain o1 o2 a b d => match e with
    | .Compare l [p1, p2] [r, s] _ => decide (o1.op = p1) && decide (o2.op = p2) && notSet s && chk c l a && chk c r b && chk c s d
    | _ => false
  | .one _ => false
  | .isN neg a => match e with
    | .Compare l [op] [.Constant .none _ _] _ => decide (op = if neg then .IsNot else .Is) && chk c l a
    | _ => false
  | .and a b => match e with
    | .BoolOp .And (x :: y :: r) p => chk c x a && chkB c .And (y :: r) b
    | _ => false
  | .or a b => match e with
    | .BoolOp .Or (x :: y :: r) p => chk c x a && chkB c .Or (y :: r) b
    | _ => false
  | .not a => match e with
    | .UnaryOp .Not x _ => chk c x a
    | _ => false
  | .ite t a b => match e with
    | .IfExp z x y _ => chk c z t && chk c x a && chk c y b
    | _ => false
  | .call f args => match e with
    | .Call (.Name x _) (y :: ys) [] _ => isGl c x && decide (c.fns.lookup x = some f) && chkL c (y :: ys) args
    | _ => false
  | .bi b args => match e with
    | .Call (.Name x _) (y :: ys) [] _ => isGl c x && (x == b.name) && c.bl.contains x && chkL c (y :: ys) args
    | _ => false
  | .isI t a => match e with
    | .Call (.Name x _) [y, .Name z _] [] _ => isGl c x && (x == ("isinstance" : Str)) && c.bl.contains x && isGl c z && (z == Str.ofString t.name) && c.bl.contains z && noStar y && chk c y a
    | _ => false
  | .meth t o args => match e with
    | .Call (.Attribute y name ap) (z :: zs) [] p => (name == t.name) && (ap.endLine == p.line) && baseOk y && decide ((z :: zs).length < 20) && chk c y o && chkL c (z :: zs) args
    | _ => false
  | .idx a i => match e with
    | .Subscript x y _ => notSlice y && chk c x a && chk c y i
    | _ => false
  | .sl hl hh a lo hi => match e with
    | .Subscript x (.Slice l h none _) _ => chk c x a && chkO hl (isCst lo) l (fun y => chk c y lo) && chkO hh (isCst hi) h (fun y => chk c y hi)
    | _ => false
  | .lc _ own tg ik e1 e2 cond elt => match e with
    | .ListComp y [⟨t, it, ifs, as⟩] scope _ => decide (as = 0) && blkC c.N { kind := .function, names := c.names, isGenerator := false, isCoroutine := false } scope (ownOf c own) && tgIn own tg && chkTg (c.blk scope) t tg &&
        chkIt c it ik (isCst e2) (fun z => chk c z e1) (fun z => chk c z e2) && notSet it && chkC ifs (isYes cond) (fun z => chk (c.blk scope) z cond) && chk (c.blk scope) y elt
    | _ => false
/-- lists of expressions -/
def chkL (c : Cc) (es : List Expr) : E → Bool
  | .nil => match es with
    | [] => true
    | _ => false
  | .cons a b => match es with
    | x :: r => noStar x && chk c x a && chkL c r b
    | _ => false
  | _ => false
/-- what stands behind the first part of and, or -/
def chkB (c : Cc) (op : BoolOp) (es : List Expr) : E → Bool
  | .one a => match es with
    | [x] => chk c x a
    | _ => false
  | .and a b => match es with
    | x :: y :: r => decide (op = .And) && chk c x a && chkB c .And (y :: r) b
    | _ => false
  | .or a b => match es with
    | x :: y :: r => decide (op = .Or) && chk c x a && chkB c .Or (y :: r) b
    | _ => false
  | _ => false
end
end Dy

/-! Dp, part G: an expression that was checked does what its weakest precondition says. -/
namespace Dy
open PySem PySem.Spec L2
structure Good (F : Nat → FS) (cl : Cls) (c : Cc) (X : Cx) : Prop where
  hN : X.N = c.N
  nd : c.N.Nodup
  kind : X.env.scope.kind = .function
  names : X.env.scope.names = c.names
  top : c.top = true → ∀ x, X.fn x = true
  calm : X.calm = true
  guards : X.A.guards = some []
  room : Room 1 X.A
  gl : ∀ x v, c.gl.lookup x = some v → ∃ u xv, X.mg x = some u ∧ RelV xv u ∧ ∀ W H, RV X.K W H v xv
  bl : ∀ x, c.bl.contains x = true → X.mg x = none
  fns : ∀ x f, c.fns.lookup x = some f → ∃ (a : Addr) (fd : FuncData) (ps : List Str) (k : Nat), X.mg x = some (.ref a) ∧ PySem.W.keepIn X.K (.ref a) = true ∧ Binds X.K fd ps [] ∧
    FnG X.prog X.w X.K X.mg X.base k a fd ps (spG X.K cl ps.length (F f)) ∧ Room k X.A ∧ ∀ vs m Q R, F f vs m Q R → vs.length = ps.length
section
variable {F : Nat → FS} {cl : Cls} {c : Cc} {X : Cx} {Wx : WX}
theorem Good.gl_of (G : Good F cl c X) {x : Str} (h : isGl c x = true) : Gl X x ∧ (x == ("__debug__" : Str)) = false := by
  unfold isGl at h
  simp only [Bool.and_eq_true, decide_eq_true_eq, Bool.not_eq_true'] at h
  refine ⟨?_, h.2⟩
  show X.env.scope.names.lookup x = some .globalImplicit
  rw [G.names]; exact h.1
theorem Good.vis (G : Good F cl c X) {x : Str} (h : isVis c x = true) : Vis X.env.scope x := by
  unfold isVis at h
  simp only [Bool.or_eq_true, decide_eq_true_eq] at h
  unfold Vis
  rw [G.names]
  rcases h with (h | h) | h
  · exact .inl h
  · exact .inr (.inl h)
  · exact .inr (.inr h)
theorem Good.blk (G : Good F cl c X) (scope : Scope) (hk : scope.kind = .function) (s : Shared) (H : Hp) (C : Addr) (cls : List (Str × Addr)) (fp : List Addr) : Good F cl (c.blk scope) (X.blk s H scope (compEnvC scope cls C X.env) fp) := by
  refine ⟨G.hN, G.nd, hk, ?_, (fun z => Bool.noConfusion z), G.calm, G.guards, G.room, G.gl, G.bl, G.fns⟩
  show (scope.names.map fun (n, k) => if (k == .free && X.env.scope.kind == .function && X.env.kindOf n == some .cell) then (n, .cell) else (n, k)) = blkNames c scope
  unfold blkNames
  have e : ∀ n : Str, X.env.kindOf n = c.names.lookup n := fun n => by show X.env.scope.names.lookup n = _; rw [G.names]
  congr 1
  funext ⟨n, k⟩
  simp [e, G.kind]
theorem takes_blk {s : Shared} {H : Hp} {scope : Scope} {cenv : PySem.Env} {fp : List Addr} : Takes (X.blk s H scope cenv fp) (fun _ _ _ _ => False) := by
  rintro u s' ⟨_, _, _, _, _, _, _, _, _, _, _, _, _, _, _, _, z⟩
  exact z.elim
def plainT : Expr → Bool
  | .UnaryOp .Not _ _ => false
  | .BoolOp _ _ _ => false
  | .IfExp _ _ _ _ => false
  | .Compare _ _ _ _ => false
  | _ => true
theorem isTrue_plain {e : Expr} (h : plainT e = true) (env : PySem.Env) (whole : Sem Value) : isTrue e env whole = (do let v ← whole; standAt e.pos; holding [v] (truthy v)) := by
  cases e <;> first | rfl | cases h | skip
  rename_i op x p
  cases op <;> first | rfl | cases h
/-- no test of its own -/
def plainE : E → Bool
  | .one _ => false
  | .and _ _ => false
  | .or _ _ => false
  | .not _ => false
  | .ite _ _ _ => false
  | _ => true
theorem wpT_plain {a : E} (h : plainE a = true) : wpT F a = fun r m Q R => wpE F a r m (fun v m1 => ∃ t, tru m1 v = some t ∧ Q t m1) R := by
  cases a <;> first | rfl | cases h
theorem pt_of {e : Expr} {a : E} (ha : plainE a = true) (h : PE X e (TEof X.K cl Wx (wpE F a))) (hp : plainT e = true) : PT X e (TTof X.K cl Wx (wpT F a)) := by
  refine pt_imp (pt_truth h (isTrue_plain hp X.env)) ?_
  rw [wpT_plain ha]
  rintro σ H Q ⟨W, r, m, Qd, R, hs, hr, hw, hc, hx⟩
  refine TEof.bind hs hr hw hx ?_
  rintro W1 v x m1 H1 e rv hr1 hs1 hx1 ⟨t, ht, q⟩
  exact ⟨t, tru_at rv hr1 ht, hc W1 t m1 H1 e hr1 q⟩
/-- arguments -/
theorem pa_nilE : PA X [] (TAof X.K cl Wx (wpA F .nil)) := by
  refine pa_imp pa_nil ?_
  rintro σ H Q ⟨W, r, m, Qd, R, hs, hr, ⟨vs, e, q⟩, hc, hx⟩
  cases e
  exact hc W _ _ m H (.refl hr) .nil hr q
theorem star_of {e : Expr} {es : List Expr} {env : PySem.Env} (h : noStar e = true) : starEach (e :: es) env = (false, eval e env) :: starEach es env := by
  cases e <;> first | rfl | cases h
theorem pa_consE {e : Expr} {es : List Expr} {a b : E} (hn : noStar e = true) (ha : PE X e (TEof X.K cl Wx (wpE F a))) (hb : PA X es (TAof X.K cl Wx (wpA F b))) : PA X (e :: es) (TAof X.K cl Wx (wpA F (.cons a b))) := by
  refine pa_imp (pa_cons ha hb (star_of hn)) ?_
  rintro σ H Q ⟨W, r, m, Qd, R, hs, hr, hw, hc, hx⟩
  refine TEof.bind hs hr hw hx ?_
  rintro W1 v x m1 H1 e1 rv hr1 hs1 hx1 hw1
  refine TAof.bind (Qd := fun vs m2 => ∃ vs', Val.tup (v :: vs) = .tup vs' ∧ Qd vs' m2) hs1 hr1 hw1 hx1 ?_
  rintro W2 vs xs m2 H2 e2 rvs hr2 hs2 hx2 ⟨vs', ev, q⟩
  cases ev
  exact hc W2 _ _ m2 H2 (e1.trans e2) (.cons (rv.mono hr1 e2) rvs) hr2 q
theorem any_back (pos : Pos) (l : List (Bool × Sem Value)) : (backTo pos l).any (·.1) = l.any (·.1) := by
  unfold backTo
  induction l with
  | nil => rfl
  | cons a r ih => rw [List.map_cons, List.any_cons, List.any_cons, ih]
theorem chkL_any {env : PySem.Env} : ∀ {a : E} {es : List Expr}, chkL c es a = true → (starEach es env).any (·.1) = false
  | .cons a b, x :: r, h => by
    simp only [chkL, Bool.and_eq_true] at h
    rw [star_of h.1.1, List.any_cons, chkL_any h.2]
    rfl
  | .nil, [], _ => rfl
  | .nil, _ :: _, h => by simp [chkL] at h
  | .cons _ _, [], h => by simp [chkL] at h
  | .var _, _, h => by simp [chkL] at h
  | .cst _, _, h => by simp [chkL] at h
  | .tup _, _, h => by simp [chkL] at h
  | .lst _ _, _, h => by simp [chkL] at h
  | .bin _ _ _, _, h => by simp [chkL] at h
  | .neg _, _, h => by simp [chkL] at h
  | .cmp _ _ _, _, h => by simp [chkL] at h
  | .chain _ _ _ _ _, _, h => by simp [chkL] at h
  | .isN _ _, _, h => by simp [chkL] at h
  | .one _, _, h => by simp [chkL] at h
  | .and _ _, _, h => by simp [chkL] at h
  | .or _ _, _, h => by simp [chkL] at h
  | .not _, _, h => by simp [chkL] at h
  | .ite _ _ _, _, h => by simp [chkL] at h
  | .call _ _, _, h => by simp [chkL] at h
  | .bi _ _, _, h => by simp [chkL] at h
  | .isI _ _, _, h => by simp [chkL] at h
  | .meth _ _ _, _, h => by simp [chkL] at h
  | .idx _ _, _, h => by simp [chkL] at h
  | .sl _ _ _ _ _, _, h => by simp [chkL] at h
  | .lc _ _ _ _ _ _ _ _, _, h => by simp [chkL] at h
theorem chkL_head {a : E} {x : Expr} {es : List Expr} (h : chkL c (x :: es) a = true) : noStar x = true ∧ ∀ env, (starEach es env).any (·.1) = false := by
  cases a <;> simp only [chkL, Bool.and_eq_true] at h <;> first | exact ⟨h.1.1, fun env => chkL_any h.2⟩ | cases h
/-! ### the parts of the proof -/
abbrev PEs (F : Nat → FS) (cl : Cls) (X : Cx) (Wx : WX) (e : Expr) (a : E) : Prop := PE X e (TEof X.K cl Wx (wpE F a))
abbrev PTs' (F : Nat → FS) (cl : Cls) (X : Cx) (Wx : WX) (e : Expr) (a : E) : Prop := PT X e (TTof X.K cl Wx (wpT F a))
abbrev PAs (F : Nat → FS) (cl : Cls) (X : Cx) (Wx : WX) (es : List Expr) (a : E) : Prop := PA X es (TAof X.K cl Wx (wpA F a))
theorem s_var (G : Good F cl c X) {x : Str} {p : Pos} {i : Nat} (h1 : c.N[i]? = some x) (h2 : isVis c x = true) (h3 : plainName x = true) : PEs F cl X Wx (.Name x p) (.var i) := by
  unfold plainName at h3
  simp only [Bool.and_eq_true, Bool.not_eq_true'] at h3
  refine pe_imp (pe_var (i := i) (by rw [G.hN]; exact h1) (G.vis h2) h3.1 h3.2) ?_
  rintro σ H Q ⟨W, r, m, Qd, R, hs, hr, ⟨v, e, q⟩, hc, hx⟩
  obtain ⟨y, e1, rv⟩ := hs.get _ _ e
  exact ⟨y, e1, hc.here hr rv q⟩
theorem s_cst {e : Expr} {v : Val} {x : V} (h : PE X e (tC x)) (rv : ∀ W H, RV X.K W H v x) : PEs F cl X Wx e (.cst v) := by
  refine pe_imp h ?_
  rintro σ H Q ⟨W, r, m, Qd, R, hs, hr, q, hc, hx⟩
  exact hc.here hr (rv W H) q
theorem s_tup {xs : List Expr} {a : E} {k : Nat} {p : Pos} (h : PAs F cl X Wx xs a) : PEs F cl X Wx (.Tuple xs k p) (.tup a) := by
  refine pe_imp (pe_tup h) ?_
  rintro σ H Q ⟨W, r, m, Qd, R, hs, hr, hw, hc, hx⟩
  refine TAof.bind (Qd := fun vs m1 => vs.length ≤ sizeLine ∧ Qd (.tup vs) m1) hs hr hw hx ?_
  rintro W1 vs xs m1 H1 e1 rvs hr1 hs1 hx1 ⟨hl, q⟩
  refine ⟨by rw [← rvs.length]; exact hl, fun p hp => ?_⟩
  obtain ⟨e2, hr2, rv⟩ := new_tup hr1 hp rvs
  exact hc _ _ _ _ _ (e1.trans e2) rv hr2 q
theorem newL_ok {K : Frag} {W W1 : Wd} {H H1 : Hp} {m : Store} {mu : Bool} {vs : List Val} {xs : List V} {Qd : Val → Store → Prop} {Q : VK} (hr : HR K W1 m H1) (e1 : Ext W H W1 H1) (rvs : RVs K W1 H1 vs xs) (q : newL mu vs m Qd) (hc : Cont K W H Qd Q) {p : Addr} (hp : H1 p = none) : Q (.ref p) (upd H1 p (.lst xs)) := by
  unfold newL at q
  split at q
  · obtain ⟨e2, hr2, rv⟩ := new_loc hr hp rvs
    exact hc _ _ _ _ _ (e1.trans e2) rv hr2 q
  · obtain ⟨e2, hr2, rv⟩ := new_il hr hp rvs
    exact hc _ _ _ _ _ (e1.trans e2) rv hr2 q
theorem s_lst {xs : List Expr} {a : E} {mu : Bool} {p : Pos} (h : PAs F cl X Wx xs a) : PEs F cl X Wx (.List xs p) (.lst mu a) := by
  refine pe_imp (pe_lst h) ?_
  rintro σ H Q ⟨W, r, m, Qd, R, hs, hr, hw, hc, hx⟩
  refine TAof.bind (Qd := fun vs m1 => vs.length ≤ sizeLine ∧ newL mu vs m1 Qd) hs hr hw hx ?_
  rintro W1 vs xs m1 H1 e1 rvs hr1 hs1 hx1 ⟨hl, q⟩
  exact ⟨by rw [← rvs.length]; exact hl, fun p hp => newL_ok hr1 e1 rvs q hc hp⟩
theorem Cont.mono {K : Frag} {W W1 : Wd} {H H1 : Hp} {Qd : Val → Store → Prop} {Q : VK} (k : Cont K W H Qd Q) (e : Ext W H W1 H1) : Cont K W1 H1 Qd Q := fun W' v x m' H' e' rv hr q => k W' v x m' H' (e.trans e') rv hr q
theorem s_bin {l r : Expr} {a b : E} {o : BOp} {p : Pos} (ha : PEs F cl X Wx l a) (hb : PEs F cl X Wx r b) : PEs F cl X Wx (.BinOp l o.op r p) (.bin o a b) := by
  refine pe_imp (pe_op (op_bin o) ha hb) ?_
  rintro σ H Q ⟨W, r, m, Qd, R, hs, hr, hw, hc, hx⟩
  refine TEof.bind hs hr hw hx ?_
  rintro W1 v x m1 H1 e1 rv hr1 hs1 hx1 hw1
  refine TEof.bind hs1 hr1 hw1 hx1 ?_
  rintro W2 u y m2 H2 e2 ru hr2 hs2 hx2 q
  exact bin_ok (rv.mono hr1 e2) ru hr2 q (hc.mono (e1.trans e2))
theorem s_neg {l : Expr} {a : E} {p : Pos} (ha : PEs F cl X Wx l a) : PEs F cl X Wx (.UnaryOp .USub l p) (.neg a) := by
  refine pe_imp (pe_un un_neg ha) ?_
  rintro σ H Q ⟨W, r, m, Qd, R, hs, hr, hw, hc, hx⟩
  refine TEof.bind hs hr hw hx ?_
  rintro W1 v x m1 H1 e1 rv hr1 hs1 hx1 ⟨i, rfl, q⟩
  exact ⟨i, rv.int_inv, hc _ _ _ _ _ e1 (.int _) hr1 q⟩
theorem mark_of {op : CmpOp} {r : Expr} (h : notSet r = true) : behindInMarks op r = false := by
  cases r <;> first | rfl | cases h
theorem cmp_bind {l r : Expr} {a b : E} {o : COp} {σ : St} {H : Hp} {Q : VK} (h : TEof X.K cl Wx (wpE F (.cmp o a b)) σ H Q) : tOp (rCmp X.K o) (TEof X.K cl Wx (wpE F a)) (TEof X.K cl Wx (wpE F b)) σ H Q := by
  obtain ⟨W, r, m, Qd, R, hs, hr, hw, hc, hx⟩ := h
  refine TEof.bind hs hr hw hx ?_
  rintro W1 v x m1 H1 e1 rv hr1 hs1 hx1 hw1
  refine TEof.bind hs1 hr1 hw1 hx1 ?_
  rintro W2 u y m2 H2 e2 ru hr2 hs2 hx2 q
  exact cmp_ok (rv.mono hr1 e2) ru hr2 q fun t q => hc _ _ _ _ _ (e1.trans e2) (.bool t) hr2 q
theorem Good.units (G : Good F cl c X) : X.A.units + 65 < cLine := by
  have := G.room.un
  omega
theorem s_cmp (G : Good F cl c X) {l r : Expr} {a b : E} {o : COp} {p : Pos} (hn : notSet r = true) (ha : PEs F cl X Wx l a) (hb : PEs F cl X Wx r b) : PEs F cl X Wx (.Compare l [o.op] [r] p) (.cmp o a b) := by
  refine pe_imp (pe_cmpR (op_cmp G.units o) ha hb (mark_of hn)) ?_
  intro σ H Q h
  exact cmp_bind (l := l) (r := r) h
theorem t_cmp (G : Good F cl c X) {l r : Expr} {a b : E} {o : COp} {p : Pos} (hn : notSet r = true) (ha : PEs F cl X Wx l a) (hb : PEs F cl X Wx r b) : PTs' F cl X Wx (.Compare l [o.op] [r] p) (.cmp o a b) := by
  refine pt_imp (pt_cmpR (op_cmp G.units o) ha hb (mark_of hn)) ?_
  rintro σ H Q ⟨W, r', m, Qd, R, hs, hr, hw, hc, hx⟩
  refine TEof.bind hs hr hw hx ?_
  rintro W1 v x m1 H1 e1 rv hr1 hs1 hx1 hw1
  refine TEof.bind hs1 hr1 hw1 hx1 ?_
  rintro W2 u y m2 H2 e2 ru hr2 hs2 hx2 q
  refine cmp_ok (rv.mono hr1 e2) ru hr2 q ?_
  rintro t ⟨t', ht, q⟩
  cases ht
  exact ⟨t, rfl, hc _ _ _ _ (e1.trans e2) hr2 q⟩
theorem s_chain (G : Good F cl c X) {l r z : Expr} {a b d : E} {o1 o2 : COp} {p : Pos} (hn : notSet z = true) (ha : PEs F cl X Wx l a) (hb : PEs F cl X Wx r b) (hd : PEs F cl X Wx z d) : PEs F cl X Wx (.Compare l [o1.op, o2.op] [r, z] p) (.chain o1 o2 a b d) := by
  refine pe_imp (pe_chain (op_cmp G.units o1) (op_cmp G.units o2) ha hb hd (mark_of hn)) ?_
  rintro σ H Q ⟨W, r', m, Qd, R, hs, hr, hw, hc, hx⟩
  refine TEof.bind hs hr hw hx ?_
  rintro W1 v x m1 H1 e1 rv hr1 hs1 hx1 hw1
  refine TEof.bind hs1 hr1 hw1 hx1 ?_
  rintro W2 u y m2 H2 e2 ru hr2 hs2 hx2 q
  refine cmp_ok (rv.mono hr1 e2) ru hr2 q ?_
  intro t q
  refine ⟨t, rfl, ?_⟩
  cases t with
  | false => exact hc _ _ _ _ _ (e1.trans e2) (.bool false) hr2 (by simpa using q)
  | true =>
    have q' := q
    rw [if_pos rfl] at q'
    refine TEof.bind hs2 hr2 q' hx2 ?_
    rintro W3 w' y' m3 H3 e3 rw' hr3 hs3 hx3 q
    exact cmp_ok (ru.mono hr2 e3) rw' hr3 q fun t q => hc _ _ _ _ _ ((e1.trans e2).trans e3) (.bool t) hr3 q
theorem t_chain (G : Good F cl c X) {l r z : Expr} {a b d : E} {o1 o2 : COp} {p : Pos} (hn : notSet z = true) (ha : PEs F cl X Wx l a) (hb : PEs F cl X Wx r b) (hd : PEs F cl X Wx z d) : PTs' F cl X Wx (.Compare l [o1.op, o2.op] [r, z] p) (.chain o1 o2 a b d) := by
  refine pt_imp (pt_chain (op_cmp G.units o1) (op_cmp G.units o2) ha hb hd (mark_of hn)) ?_
  rintro σ H Q ⟨W, r', m, Qd, R, hs, hr, hw, hc, hx⟩
  refine TEof.bind hs hr hw hx ?_
  rintro W1 v x m1 H1 e1 rv hr1 hs1 hx1 hw1
  refine TEof.bind hs1 hr1 hw1 hx1 ?_
  rintro W2 u y m2 H2 e2 ru hr2 hs2 hx2 q
  refine cmp_ok (rv.mono hr1 e2) ru hr2 q ?_
  intro t q
  refine ⟨t, rfl, ?_⟩
  cases t with
  | false =>
    obtain ⟨t', ht, q⟩ : ∃ t', tru m2 (.bool false) = some t' ∧ Qd t' m2 := by simpa using q
    cases ht
    exact ⟨false, rfl, hc _ _ _ _ (e1.trans e2) hr2 q⟩
  | true =>
    have q' := q
    rw [if_pos rfl] at q'
    refine TEof.bind hs2 hr2 q' hx2 ?_
    rintro W3 w' y' m3 H3 e3 rw' hr3 hs3 hx3 q
    refine cmp_ok (ru.mono hr2 e3) rw' hr3 q ?_
    rintro t ⟨t', ht, q⟩
    cases ht
    exact ⟨t, rfl, hc _ _ _ _ ((e1.trans e2).trans e3) hr3 q⟩
theorem isNon_of {K : Frag} {W : Wd} {H : Hp} {v : Val} {x : V} (r : RV K W H v x) : decide (x = .non) = isNon v := by
  cases r <;> simp [isNon]
theorem s_isN {l : Expr} {a : E} {neg : Bool} {p : Pos} {j p'} (ha : PEs F cl X Wx l a) : PEs F cl X Wx (.Compare l [if neg then .IsNot else .Is] [.Constant .none j p'] p) (.isN neg a) := by
  cases neg with
  | false =>
    refine pe_imp (pe_cmp (pc_isN ha) rfl) ?_
    rintro σ H Q ⟨W, r', m, Qd, R, hs, hr, hw, hc, hx⟩
    refine TEof.bind hs hr hw hx ?_
    rintro W1 v x m1 H1 e1 rv hr1 hs1 hx1 q
    rw [isNon_of rv]
    exact hc _ _ _ _ _ e1 (.bool _) hr1 (by simpa using q)
  | true =>
    refine pe_imp (pe_cmp (pc_notN ha) rfl) ?_
    rintro σ H Q ⟨W, r', m, Qd, R, hs, hr, hw, hc, hx⟩
    refine TEof.bind hs hr hw hx ?_
    rintro W1 v x m1 H1 e1 rv hr1 hs1 hx1 q
    rw [isNon_of rv]
    exact hc _ _ _ _ _ e1 (.bool _) hr1 (by simpa using q)
theorem t_isN {l : Expr} {a : E} {neg : Bool} {p : Pos} {j p'} (ha : PEs F cl X Wx l a) : PTs' F cl X Wx (.Compare l [if neg then .IsNot else .Is] [.Constant .none j p'] p) (.isN neg a) := by
  cases neg with
  | false =>
    refine pt_imp (pt_cmp (pc_isN ha) rfl) ?_
    rintro σ H Q ⟨W, r', m, Qd, R, hs, hr, hw, hc, hx⟩
    refine TEof.bind hs hr hw hx ?_
    rintro W1 v x m1 H1 e1 rv hr1 hs1 hx1 ⟨t, ht, q⟩
    cases ht
    rw [isNon_of rv]
    exact ⟨_, rfl, hc _ _ _ _ e1 hr1 (by simpa using q)⟩
  | true =>
    refine pt_imp (pt_cmp (pc_notN ha) rfl) ?_
    rintro σ H Q ⟨W, r', m, Qd, R, hs, hr, hw, hc, hx⟩
    refine TEof.bind hs hr hw hx ?_
    rintro W1 v x m1 H1 e1 rv hr1 hs1 hx1 ⟨t, ht, q⟩
    cases ht
    rw [isNon_of rv]
    exact ⟨_, rfl, hc _ _ _ _ e1 hr1 (by simpa using q)⟩
/-! ### and, or, not, if -/
theorem s_and {x y : Expr} {r : List Expr} {a b : E} {p : Pos} (ha : PEs F cl X Wx x a) (hb : PEs F cl X Wx (.BoolOp .And (y :: r) p) b) : PEs F cl X Wx (.BoolOp .And (x :: y :: r) p) (.and a b) := by
  refine pe_imp (pe_andT ha hb) ?_
  rintro σ H Q ⟨W, r', m, Qd, R, hs, hr, hw, hc, hx⟩
  refine TEof.bind hs hr hw hx ?_
  rintro W1 v x m1 H1 e1 rv hr1 hs1 hx1 ⟨t, ht, q⟩
  refine ⟨t, tru_at rv hr1 ht, ?_⟩
  cases t with
  | false => exact hc _ _ _ _ _ e1 rv hr1 (by simpa using q)
  | true =>
    have q' := q
    rw [if_pos rfl] at q'
    exact TEof.bind hs1 hr1 q' hx1 fun W2 u y m2 H2 e2 ru hr2 hs2 hx2 q => hc _ _ _ _ _ (e1.trans e2) ru hr2 q
theorem s_or {x y : Expr} {r : List Expr} {a b : E} {p : Pos} (ha : PEs F cl X Wx x a) (hb : PEs F cl X Wx (.BoolOp .Or (y :: r) p) b) : PEs F cl X Wx (.BoolOp .Or (x :: y :: r) p) (.or a b) := by
  refine pe_imp (pe_orT ha hb) ?_
  rintro σ H Q ⟨W, r', m, Qd, R, hs, hr, hw, hc, hx⟩
  refine TEof.bind hs hr hw hx ?_
  rintro W1 v x m1 H1 e1 rv hr1 hs1 hx1 ⟨t, ht, q⟩
  refine ⟨t, tru_at rv hr1 ht, ?_⟩
  cases t with
  | true => exact hc _ _ _ _ _ e1 rv hr1 (by simpa using q)
  | false =>
    have q' := q
    rw [if_neg Bool.false_ne_true] at q'
    exact TEof.bind hs1 hr1 q' hx1 fun W2 u y m2 H2 e2 ru hr2 hs2 hx2 q => hc _ _ _ _ _ (e1.trans e2) ru hr2 q
theorem s_one {x : Expr} {op : BoolOp} {a : E} {p : Pos} (ha : PEs F cl X Wx x a) : PEs F cl X Wx (.BoolOp op [x] p) (.one a) := pe_one ha
theorem s_not {x : Expr} {a : E} {p : Pos} (ha : PEs F cl X Wx x a) : PEs F cl X Wx (.UnaryOp .Not x p) (.not a) := by
  refine pe_imp (pe_notT ha) ?_
  rintro σ H Q ⟨W, r', m, Qd, R, hs, hr, hw, hc, hx⟩
  refine TEof.bind hs hr hw hx ?_
  rintro W1 v x m1 H1 e1 rv hr1 hs1 hx1 ⟨t, ht, q⟩
  exact ⟨t, tru_at rv hr1 ht, hc _ _ _ _ _ e1 (.bool _) hr1 q⟩
abbrev PWs (F : Nat → FS) (cl : Cls) (X : Cx) (Wx : WX) (e : Expr) (a : E) : Prop := PW X e (TTof X.K cl Wx (wpT F a))
theorem pw_imp {e : Expr} {t t' : TT} (h : PW X e t) (i : ∀ σ H Q, t' σ H Q → t σ H Q) : PW X e t' := ⟨fun wh pins s σ H Q I q => h.run wh pins s σ H Q I (i σ H Q q)⟩
theorem t_one {x : Expr} {op : BoolOp} {a : E} {p : Pos} (ha : PTs' F cl X Wx x a) : PWs F cl X Wx (.BoolOp op [x] p) (.one a) := by
  cases op
  · exact pw_and1 ha
  · exact pw_or1 ha
theorem t_and {x y : Expr} {r : List Expr} {a b : E} {p : Pos} (ha : PTs' F cl X Wx x a) (hb : PWs F cl X Wx (.BoolOp .And (y :: r) p) b) : PWs F cl X Wx (.BoolOp .And (x :: y :: r) p) (.and a b) := by
  refine pw_imp (pw_and ha hb) ?_
  rintro σ H Q ⟨W, r', m, Qd, R, hs, hr, hw, hc, hx⟩
  refine TTof.bind hs hr hw hx ?_
  rintro W1 t m1 H1 e1 hr1 hs1 hx1 q
  cases t with
  | false => rw [if_neg Bool.false_ne_true] at q ⊢; exact hc _ _ _ _ e1 hr1 q
  | true =>
    rw [if_pos rfl] at q ⊢
    exact TTof.bind hs1 hr1 q hx1 fun W2 t m2 H2 e2 hr2 hs2 hx2 q => hc _ _ _ _ (e1.trans e2) hr2 q
theorem t_or {x y : Expr} {r : List Expr} {a b : E} {p : Pos} (ha : PTs' F cl X Wx x a) (hb : PWs F cl X Wx (.BoolOp .Or (y :: r) p) b) : PWs F cl X Wx (.BoolOp .Or (x :: y :: r) p) (.or a b) := by
  refine pw_imp (pw_or ha hb) ?_
  rintro σ H Q ⟨W, r', m, Qd, R, hs, hr, hw, hc, hx⟩
  refine TTof.bind hs hr hw hx ?_
  rintro W1 t m1 H1 e1 hr1 hs1 hx1 q
  cases t with
  | true => rw [if_pos rfl] at q ⊢; exact hc _ _ _ _ e1 hr1 q
  | false =>
    rw [if_neg Bool.false_ne_true] at q ⊢
    exact TTof.bind hs1 hr1 q hx1 fun W2 t m2 H2 e2 hr2 hs2 hx2 q => hc _ _ _ _ (e1.trans e2) hr2 q
theorem t_not {x : Expr} {a : E} {p : Pos} (ha : PTs' F cl X Wx x a) : PTs' F cl X Wx (.UnaryOp .Not x p) (.not a) := by
  refine pt_imp (pt_not ha) ?_
  rintro σ H Q ⟨W, r', m, Qd, R, hs, hr, hw, hc, hx⟩
  exact TTof.bind hs hr hw hx fun W1 t m1 H1 e1 hr1 hs1 hx1 q => hc _ _ _ _ e1 hr1 q
theorem s_ite {z x y : Expr} {t a b : E} {p : Pos} (ht : PTs' F cl X Wx z t) (ha : PEs F cl X Wx x a) (hb : PEs F cl X Wx y b) : PEs F cl X Wx (.IfExp z x y p) (.ite t a b) := by
  refine pe_imp (pe_ifExp ht ha hb) ?_
  rintro σ H Q ⟨W, r', m, Qd, R, hs, hr, hw, hc, hx⟩
  refine TTof.bind hs hr hw hx ?_
  rintro W1 t m1 H1 e1 hr1 hs1 hx1 q
  cases t with
  | true =>
    rw [if_pos rfl] at q ⊢
    exact TEof.bind hs1 hr1 q hx1 fun W2 u y m2 H2 e2 ru hr2 hs2 hx2 q => hc _ _ _ _ _ (e1.trans e2) ru hr2 q
  | false =>
    rw [if_neg Bool.false_ne_true] at q ⊢
    exact TEof.bind hs1 hr1 q hx1 fun W2 u y m2 H2 e2 ru hr2 hs2 hx2 q => hc _ _ _ _ _ (e1.trans e2) ru hr2 q
theorem pt_ifE {z x y : Expr} {tz tx ty : TT} {p : Pos} (hz : PT X z tz) (hx : PT X x tx) (hy : PT X y ty) : PT X (.IfExp z x y p) (fun σ H Q => tz σ H fun c H1 => if c = true then tx σ H1 Q else ty σ H1 Q) := by
  constructor
  intro pins s σ H Q I h
  show wpAny _ _ (do if ← isTrue z X.env (eval z X.env) then isTrue x X.env (eval x X.env) else isTrue y X.env (eval y X.env)) _ _ _
  refine wpAny_bind (thn (hz.run pins s σ H _ I h) ?_)
  rintro b s1 ⟨H1, I1, q⟩
  cases b with
  | true => exact hx.run pins s1 σ H1 Q I1 (by simpa using q)
  | false => exact hy.run pins s1 σ H1 Q I1 (by simpa using q)
theorem t_ite {z x y : Expr} {t a b : E} {p : Pos} (ht : PTs' F cl X Wx z t) (ha : PTs' F cl X Wx x a) (hb : PTs' F cl X Wx y b) : PTs' F cl X Wx (.IfExp z x y p) (.ite t a b) := by
  refine pt_imp (pt_ifE ht ha hb) ?_
  rintro σ H Q ⟨W, r', m, Qd, R, hs, hr, hw, hc, hx⟩
  refine TTof.bind hs hr hw hx ?_
  rintro W1 t m1 H1 e1 hr1 hs1 hx1 q
  cases t with
  | true =>
    rw [if_pos rfl] at q ⊢
    exact TTof.bind hs1 hr1 q hx1 fun W2 u m2 H2 e2 hr2 hs2 hx2 q => hc _ _ _ _ (e1.trans e2) hr2 q
  | false =>
    rw [if_neg Bool.false_ne_true] at q ⊢
    exact TTof.bind hs1 hr1 q hx1 fun W2 u m2 H2 e2 hr2 hs2 hx2 q => hc _ _ _ _ (e1.trans e2) hr2 q
/-! ### calls -/
theorem s_call (G : Good F cl c X) (tk : Takes X Wx) {x : Str} {y : Expr} {ys : List Expr} {f : Nat} {args : E} {p p' : Pos} (h1 : isGl c x = true) (h2 : c.fns.lookup x = some f) (h3 : chkL c (y :: ys) args = true) (ha : PAs F cl X Wx (y :: ys) args) : PEs F cl X Wx (.Call (.Name x p) (y :: ys) [] p') (.call f args) := by
  obtain ⟨a, fd, ps, k, m1, m2, m3, m4, m5, m6⟩ := G.fns x f h2
  obtain ⟨g1, g2⟩ := G.gl_of h1
  obtain ⟨n1, n2⟩ := chkL_head h3
  refine pe_imp (pe_callG m4 m5 G.guards g1 m1 m2 m3 tk ha g2 (star_of n1) (by rw [any_back]; exact n2 _)) ?_
  rintro σ H Q ⟨W, r', m, Qd, R, hs, hr, hw, hc, hx⟩
  refine TAof.bind (Qd := fun vs m1 => F f vs m1 Qd R) hs hr hw hx ?_
  rintro W1 vs xs m1 H1 e1 rvs hr1 hs1 hx1 q
  exact ⟨W1, vs, m1, Qd, R, by rw [← rvs.length]; exact m6 _ _ _ _ q, rvs, hr1, q, hc.mono e1, fun W' k v x d m' H' e' rv hr' hd q => hx1 W' k v x d m' H' e' rv hr' hd q⟩
theorem s_bi (G : Good F cl c X) {x : Str} {y : Expr} {ys : List Expr} {b : Bi} {args : E} {p p' : Pos} (h1 : isGl c x = true) (hx : x = b.name) (h2 : c.bl.contains x = true) (h3 : chkL c (y :: ys) args = true) (ha : PAs F cl X Wx (y :: ys) args) : PEs F cl X Wx (.Call (.Name x p) (y :: ys) [] p') (.bi b args) := by
  obtain ⟨g1, g2⟩ := G.gl_of h1
  obtain ⟨n1, n2⟩ := chkL_head h3
  have hm := G.bl x h2
  have key : PE X (.Call (.Name x p) (y :: ys) [] p') (tCB (rBi X.K b) (TAof X.K cl Wx (wpA F args))) := by
    have hc := call_bi (X := X) G.calm G.guards (by have := G.units; omega) b
    have hpl : (backTo p' (starEach ys X.env)).any (·.1) = false := by rw [any_back]; exact n2 _
    subst hx
    cases b <;> first
      | exact pe_callB hc g1 hm (by decide +kernel) ha (by decide) (by decide) (star_of n1) hpl
      | exact pe_callTy hc g1 hm (by decide +kernel) ha (by decide) (by decide) (star_of n1) hpl
  refine pe_imp key ?_
  rintro σ H Q ⟨W, r', m, Qd, R, hs, hr, hw, hc, hx⟩
  refine TAof.bind (Qd := fun vs m1 => biW b vs m1 Qd) hs hr hw hx ?_
  rintro W1 vs xs m1 H1 e1 rvs hr1 hs1 hx1 q
  exact bi_ok rvs hr1 q (hc.mono e1)
theorem s_isI (G : Good F cl c X) {y : Expr} {t : Ty} {a : E} {p p1 p2 : Pos} (h1 : isGl c "isinstance" = true) (h2 : c.bl.contains "isinstance" = true) (h3 : isGl c (Str.ofString t.name) = true) (h4 : c.bl.contains (Str.ofString t.name) = true) (hn : noStar y = true) (ha : PEs F cl X Wx y a) :
    PEs F cl X Wx (.Call (.Name "isinstance" p) [y, .Name (Str.ofString t.name) p1] [] p2) (.isI t a) := by
  obtain ⟨g1, _⟩ := G.gl_of h1
  obtain ⟨g3, g4⟩ := G.gl_of h3
  have hT : PE X (.Name (Str.ofString t.name) p1) (tC (.ty t.name)) := by
    cases t <;> exact pe_bltn (v := .ty _) g3 (G.bl _ h4) (by decide +kernel) rfl (by decide) g4
  refine pe_imp (pe_callB call_isi g1 (G.bl _ h2) (by decide +kernel) (pa_cons ha (pa_cons hT pa_nil (by rfl)) (star_of hn)) (by decide) (by decide) (star_of hn) (by rfl)) ?_
  rintro σ H Q ⟨W, r', m, Qd, R, hs, hr, hw, hc, hx⟩
  refine TEof.bind hs hr hw hx ?_
  rintro W1 v x m1 H1 e1 rv hr1 hs1 hx1 q
  exact ⟨x, .ty t.name, _, _, _, rfl, .ty _, tyX_of hr1 rv, kit_isT t v, hc _ _ _ _ _ e1 (.bool _) hr1 q⟩
theorem base_of {y : Expr} {name : Str} {env : PySem.Env} (h : baseOk y = true) : attributeBase y name env (eval y env) = eval y env := by
  cases y <;> first | rfl | skip
  rename_i fn args kws p
  cases fn <;> first | rfl | skip
  cases args <;> first | rfl | skip
  cases kws <;> first | rfl | cases h
theorem few_of {env : PySem.Env} {p : Pos} {z : Expr} {zs : List Expr} (hl : (z :: zs).length < 20) (h : (starEach (z :: zs) env).any (·.1) = false) : ((backTo p (starEach (z :: zs) env)).all (fun x => !x.1) && (backToKw p (keywordEach [] env)).all (fun x => x.1.isSome) && decide ((z :: zs).length + ([] : List Keyword).length + (if ([] : List Keyword).isEmpty then 0 else 1) < 30)) = true := by
  have h1 : (backTo p (starEach (z :: zs) env)).all (fun x => !x.1) = true := by
    rw [← any_back p] at h
    rw [List.all_eq_not_any_not]
    simpa using h
  rw [h1]
  simp [keywordEach, backToKw]
  simp at hl
  omega
theorem s_meth (G : Good F cl c X) {y z : Expr} {zs : List Expr} {t : Mt} {o args : E} {ap p : Pos} (h1 : (ap.endLine == p.line) = true) (h2 : baseOk y = true) (h3 : (z :: zs).length < 20) (ho : PEs F cl X Wx y o) (h4 : chkL c (z :: zs) args = true) (ha : PAs F cl X Wx (z :: zs) args) :
    PEs F cl X Wx (.Call (.Attribute y t.name ap) (z :: zs) [] p) (.meth t o args) := by
  obtain ⟨n1, n2⟩ := chkL_head h4
  have hpl : (backTo p (starEach zs X.env)).any (·.1) = false := by rw [any_back]; exact n2 _
  have key : PE X (.Call (.Attribute y t.name ap) (z :: zs) [] p) (tBM X.K t.ty (rMt X.K t) (TEof X.K cl Wx (wpE F o)) (TAof X.K cl Wx (wpA F args))) := by
    have hm := mt_all (X := X) t
    cases t with
    | append => exact pe_bm PySem.F.plainAttrs_list PySem.F.slot_list_append PySem.F.type_list_append hm ho ha (base_of h2) (few_of h3 (chkL_any h4)) h1 (star_of n1) hpl
    | split => exact pe_bm PySem.F.plainAttrs_str PySem.F.slot_str_split PySem.F.type_str_split hm ho ha (base_of h2) (few_of h3 (chkL_any h4)) h1 (star_of n1) hpl
    | join => exact pe_bm PySem.F.plainAttrs_str PySem.F.slot_str_join PySem.F.type_str_join hm ho ha (base_of h2) (few_of h3 (chkL_any h4)) h1 (star_of n1) hpl
  refine pe_imp key ?_
  rintro σ H Q ⟨W, r', m, Qd, R, hs, hr, hw, hc, hx⟩
  refine TEof.bind hs hr hw hx ?_
  rintro W1 v x m1 H1 e1 rv hr1 hs1 hx1 ⟨ht, hw1⟩
  refine ⟨mtT_ok rv hr1 ht, ?_⟩
  refine TAof.bind (Qd := fun vs m2 => mtW t v vs m2 Qd) hs1 hr1 hw1 hx1 ?_
  rintro W2 vs xs m2 H2 e2 rvs hr2 hs2 hx2 q
  exact mt_ok (rv.mono hr1 e2) rvs hr2 q (hc.mono (e1.trans e2))
theorem ix_plain {y : Expr} (h : notSlice y = true) : PlainIx y := by
  intro o i
  cases y <;> first | rfl | cases h
theorem s_idx {x y : Expr} {a i : E} {p : Pos} (h : notSlice y = true) (ha : PEs F cl X Wx x a) (hi : PEs F cl X Wx y i) : PEs F cl X Wx (.Subscript x y p) (.idx a i) := by
  refine pe_imp (pe_ix ix_seq ha hi (ix_plain h)) ?_
  rintro σ H Q ⟨W, r', m, Qd, R, hs, hr, hw, hc, hx⟩
  refine TEof.bind hs hr hw hx ?_
  rintro W1 v x m1 H1 e1 rv hr1 hs1 hx1 hw1
  refine TEof.bind hs1 hr1 hw1 hx1 ?_
  rintro W2 u y m2 H2 e2 ru hr2 hs2 hx2 ⟨w, hq, q⟩
  exact idx_ok (rv.mono hr1 e2) ru hr2 hq q (hc.mono (e1.trans e2))
/-- a part of a slice: what it is worth -/
def TOof (K : Frag) (cl : Cls) (Wx : WX) (has : Bool) (wp : WE0) : TO := fun σ H Q =>
  ∃ (W : Wd) (r : Env) (m : Store) (Qd : Val → Store → Prop) (R : Rq), SR K W H r σ ∧ HR K W m H ∧ wp r m Qd R ∧
    (∀ (W' : Wd) (v : Val) (m' : Store) (H' : Hp), Ext W H W' H' → HR K W' m' H' → Qd v m' → ∃ i, partF has v = some i ∧ Q i H') ∧ ContX K cl W H σ R Wx
theorem po_of {lo : Option Expr} {l : E} {has : Bool} (h : (has = false ∧ lo = none ∧ l = .cst .non) ∨ ∃ y, has = true ∧ lo = some y ∧ PEs F cl X Wx y l) : PO X lo (TOof X.K cl Wx has (wpE F l)) := by
  rcases h with ⟨rfl, rfl, rfl⟩ | ⟨y, rfl, rfl, h⟩
  · refine ⟨fun pins s σ H Q I q => po_none.run pins s σ H Q I ?_⟩
    obtain ⟨W, r', m, Qd, R, hs, hr, hw, hc, hx⟩ := q
    obtain ⟨i, e, q⟩ := hc W _ m H (.refl hr) hr hw
    cases e
    exact q
  · refine ⟨fun pins s σ H Q I q => (po_some h).run pins s σ H Q I ?_⟩
    obtain ⟨W, r', m, Qd, R, hs, hr, hw, hc, hx⟩ := q
    refine TEof.bind hs hr hw hx ?_
    rintro W1 v x m1 H1 e1 rv hr1 hs1 hx1 q
    obtain ⟨i, e, q⟩ := hc W1 v m1 H1 e1 hr1 q
    cases v <;> first | (cases e; exact ⟨_, rv.int_inv, q⟩) | cases e
theorem TOof.bind {K : Frag} {has : Bool} {wp : WE0} {σ : St} {H : Hp} {W : Wd} {r : Env} {m : Store} {Qd : Val → Store → Prop} {R : Rq} {Q : Option Int → Hp → Prop} (s : SR K W H r σ) (h : HR K W m H) (w : wp r m Qd R) (cx : ContX K cl W H σ R Wx)
    (k : ∀ (W1 : Wd) (v : Val) (m1 : Store) (H1 : Hp), Ext W H W1 H1 → HR K W1 m1 H1 → SR K W1 H1 r σ → ContX K cl W1 H1 σ R Wx → Qd v m1 → ∃ i, partF has v = some i ∧ Q i H1) : TOof K cl Wx has wp σ H Q :=
  ⟨W, r, m, Qd, R, s, h, w, fun W1 v m1 H1 e hr q => k W1 v m1 H1 e hr (s.mono h e) (cx.mono e) q, cx⟩
theorem s_sl {x : Expr} {lo hi : Option Expr} {a l h : E} {hl hh : Bool} {p p2 : Pos} (ha : PEs F cl X Wx x a) (h1 : (hl = false ∧ lo = none ∧ l = .cst .non) ∨ ∃ y, hl = true ∧ lo = some y ∧ PEs F cl X Wx y l)
    (h2 : (hh = false ∧ hi = none ∧ h = .cst .non) ∨ ∃ y, hh = true ∧ hi = some y ∧ PEs F cl X Wx y h) : PEs F cl X Wx (.Subscript x (.Slice lo hi none p2) p) (.sl hl hh a l h) := by
  refine pe_imp (pe_slice sl_list ha (po_of h1) (po_of h2)) ?_
  rintro σ H Q ⟨W, r', m, Qd, R, hs, hr, hw, hc, hx⟩
  refine TEof.bind hs hr hw hx ?_
  rintro W1 v x m1 H1 e1 rv hr1 hs1 hx1 hw1
  refine TOof.bind hs1 hr1 hw1 hx1 ?_
  rintro W2 l' m2 H2 e2 hr2 hs2 hx2 ⟨i, hi', hw2⟩
  refine ⟨i, hi', TOof.bind hs2 hr2 hw2 hx2 ?_⟩
  rintro W3 u' m3 H3 e3 hr3 hs3 hx3 ⟨j, hj, z, hz, q⟩
  exact ⟨j, hj, slice_ok ((rv.mono hr1 e2).mono hr2 e3) hr3 hz q (hc.mono ((e1.trans e2).trans e3))⟩
/-! ### what is walked -/
def TIof (K : Frag) (cl : Cls) (Wx : WX) (wp : Env → Store → (List Val → (Store → Prop) → Store → Prop) → Rq → Prop) : TI := fun σ H Q =>
  ∃ (W : Wd) (r : Env) (m : Store) (P : List Val → (Store → Prop) → Store → Prop) (R : Rq), SR K W H r σ ∧ HR K W m H ∧ wp r m P R ∧
    (∀ (W' : Wd) (items : List Val) (live : Store → Prop) (m' : Store) (H' : Hp) (J : It), Ext W H W' H' → HR K W' m' H' → SR K W' H' r σ → ContX K cl W' H' σ R Wx → Walk K J items live W' H' → P items live m' → Q J H') ∧ ContX K cl W H σ R Wx
def wpI (F : Nat → FS) (ik : IK) (e1 e2 : E) : Env → Store → (List Val → (Store → Prop) → Store → Prop) → Rq → Prop := fun r m P R =>
  wpE F e1 r m (fun v1 m1 => wpE F e2 r m1 (fun v2 m2 => ∃ items, itF ik m2 v1 v2 = some items ∧ P items (fun m => itF ik m v1 v2 = some items) m2) R) R
theorem pi_imp {tg it : Expr} {t t' : TI} (h : PI X tg it t) (i : ∀ σ H R, t' σ H R → t σ H R) : PI X tg it t' := ⟨fun pins s σ H R I q => h.run pins s σ H R I (i σ H R q)⟩
/-- a list, a tuple or a text -/
def iAny (K : Frag) (te : TE) : TI := fun σ H R => te σ H fun x H1 => (∃ a xs, x = .ref a ∧ SqL K H1 a xs ∧ R (Itl K a) H1) ∨ (∃ a xs, x = .ref a ∧ SqT K H1 a xs ∧ R (Itt K a) H1) ∨ ∃ z, x = .str z ∧ R (Its z) H1
theorem pi_any {tg it : Expr} {te : TE} (h : PE X it te) : PI X tg it (iAny X.K te) := by
  constructor
  intro pins s σ H R I q
  refine thn (h.run pins s σ H _ I q) ?_
  rintro v s1 ⟨x, H1, I1, rx, q | q | q⟩
  · obtain ⟨a, xs, rfl, sl, q⟩ := q
    obtain rfl : v = .ref a := rx
    obtain ⟨its, rv, pl, hz⟩ := I1.list sl
    exact wpAny_pyIter_list pl.isList (pi_one (tk := s1.toks) I1 _ (turn_list a _) ⟨_, Heap.get?_push_size _ rfl, rfl, rfl⟩ q)
  · obtain ⟨a, xs, rfl, sl, q⟩ := q
    obtain rfl : v = .ref a := rx
    obtain ⟨its, rv, pl, hz⟩ := I1.tuple sl
    exact wpAny_pyIter_tuple pl (pi_one (tk := s1.toks) I1 _ (turn_tuple a _) ⟨_, Heap.get?_push_size _ rfl, rfl, rfl⟩ q)
  · obtain ⟨z, rfl, q⟩ := q
    obtain ⟨t, rfl⟩ := rx
    cases ha : z.cps.all (· < 128)
    · exact wpAny_pyIter_wide ha (pi_one (tk := s1.toks) I1 _ (turn_str _ z t "str_iterator" (.inr rfl)) ⟨_, Heap.get?_push_size _ rfl, rfl, rfl⟩ q)
    · exact wpAny_pyIter_ascii ha (pi_one (tk := s1.toks) I1 _ (turn_str _ z t "str_ascii_iterator" (.inl rfl)) ⟨_, Heap.get?_push_size _ rfl, rfl, rfl⟩ q)
theorem s_seq {tg it : Expr} {a : E} (h : PEs F cl X Wx it a) : PI X tg it (TIof X.K cl Wx (wpI F .seq a (.cst .non))) := by
  refine pi_imp (pi_any h) ?_
  rintro σ H Q ⟨W, r', m, P, R, hs, hr, hw, hc, hx⟩
  refine TEof.bind hs hr hw hx ?_
  rintro W1 v x m1 H1 e1 rv hr1 hs1 hx1 ⟨items, hi, q⟩
  cases v with
  | str s =>
    rw [rv.str_inv]
    cases hi
    exact .inr (.inr ⟨_, rfl, hc _ _ _ _ _ _ e1 hr1 hs1 hx1 walk_str q⟩)
  | tup vs =>
    obtain ⟨a, xs, rfl, sl, w⟩ := walk_T (live := fun m => itF .seq m (.tup vs) .non = some items) hr1 rv
    cases hi
    exact .inr (.inl ⟨a, xs, rfl, sl, hc _ _ _ _ _ _ e1 hr1 hs1 hx1 w q⟩)
  | il o vs =>
    obtain ⟨a, xs, rfl, sl, w⟩ := walk_L hr1 rv hi rfl
    exact .inl ⟨a, xs, rfl, sl, hc _ _ _ _ _ _ e1 hr1 hs1 hx1 w q⟩
  | loc n =>
    obtain ⟨a, xs, rfl, sl, w⟩ := walk_L hr1 rv hi rfl
    exact .inl ⟨a, xs, rfl, sl, hc _ _ _ _ _ _ e1 hr1 hs1 hx1 w q⟩
  | _ => cases hi
theorem s_rng1 (G : Good F cl c X) {tg y : Expr} {a : E} {p p2 : Pos} (h1 : isGl c "range" = true) (h2 : c.bl.contains "range" = true) (hn : noStar y = true) (h : PEs F cl X Wx y a) : PI X tg (.Call (.Name "range" p) [y] [] p2) (TIof X.K cl Wx (wpI F .rng1 a (.cst .non))) := by
  refine pi_imp (pi_range1 (G.gl_of h1).1 (G.bl _ h2) (pa_cons h pa_nil (star_of hn)) (star_of hn)) ?_
  rintro σ H Q ⟨W, r', m, P, R, hs, hr, hw, hc, hx⟩
  refine TEof.bind hs hr hw hx ?_
  rintro W1 v x m1 H1 e1 rv hr1 hs1 hx1 ⟨items, hi, q⟩
  cases v with
  | int n =>
    rw [rv.int_inv]
    have hi' := hi
    simp only [itF] at hi
    split at hi
    · rename_i hb
      cases hi
      exact ⟨n, rfl, hb.1, hb.2, hc _ _ _ _ _ _ e1 hr1 hs1 hx1 walk_rng q⟩
    · cases hi
  | _ => cases hi
theorem s_rng2 (G : Good F cl c X) {tg y z : Expr} {a b : E} {p p2 : Pos} (h1 : isGl c "range" = true) (h2 : c.bl.contains "range" = true) (hn : noStar y = true) (hn2 : noStar z = true) (h : PEs F cl X Wx y a) (hb : PEs F cl X Wx z b) : PI X tg (.Call (.Name "range" p) [y, z] [] p2) (TIof X.K cl Wx (wpI F .rng2 a b)) := by
  refine pi_imp (pi_range2 (G.gl_of h1).1 (G.bl _ h2) (pa_cons h (pa_cons hb pa_nil (star_of hn2)) (star_of hn)) (by rw [star_of hn, star_of hn2]; rfl) (star_of hn2)) ?_
  rintro σ H Q ⟨W, r', m, P, R, hs, hr, hw, hc, hx⟩
  refine TEof.bind hs hr hw hx ?_
  rintro W1 v x m1 H1 e1 rv hr1 hs1 hx1 hw1
  refine TEof.bind hs1 hr1 hw1 hx1 ?_
  rintro W2 u y m2 H2 e2 ru hr2 hs2 hx2 ⟨items, hi, q⟩
  cases v with
  | int n =>
    cases u with
    | int k =>
      rw [rv.int_inv, ru.int_inv]
      simp only [itF] at hi
      split at hi
      · rename_i hb
        cases hi
        exact ⟨n, k, rfl, hb, hc _ _ _ _ _ _ (e1.trans e2) hr2 hs2 hx2 walk_rng q⟩
      · cases hi
    | _ => cases hi
  | _ => cases hi
end
end Dy

/-! Dp, part H: targets, list comprehensions, all expressions at once. -/
namespace Dy
open PySem PySem.Spec L2
section
variable {K : Frag} {W W1 : Wd} {H H1 : Hp} {m : Store}
/-- a list that is tracked beside the store -/
structure Side (W : Wd) (H : Hp) (D : Addr) (xs : List V) : Prop where
  at_ : H D = some (.lst xs)
  np : D ∉ W.phi
  ni : ¬ W.I D
theorem Side.mono {D : Addr} {xs : List V} (s : Side W H D xs) (e : Ext W H W1 H1) : Side W1 H1 D xs where
  at_ := e.fr _ _ s.at_ s.np
  np := e.stays s.at_ s.np
  ni := fun z => by
    rcases e.new _ z with z | z
    · exact s.ni z
    · rw [s.at_] at z; cases z
theorem sqT_upd {D : Addr} {xs ys : List V} {o : HO} {a : Addr} (h : H D = some (.lst xs)) (s : SqT K H a ys) : SqT K (upd H D o) a ys := by
  have ne : ∀ z, H a = some z → (∀ l, z ≠ .lst l) → a ≠ D := fun z e n q => by subst q; rw [h] at e; cases e; exact n _ rfl
  rcases s with (s | ⟨b, s⟩) | s
  · exact .inl (.inl (by rw [upd_ne (ne _ s fun _ z => by cases z)]; exact s))
  · exact .inl (.inr ⟨b, by rw [upd_ne (ne _ s fun _ z => by cases z)]; exact s⟩)
  · exact .inr s
theorem sqL_upd {D : Addr} {ys : List V} {o : HO} {a : Addr} (ne : a ≠ D) (s : SqL K H a ys) : SqL K (upd H D o) a ys := by
  rcases s with (s | ⟨b, s⟩) | s
  · exact .inl (.inl (by rw [upd_ne ne]; exact s))
  · exact .inl (.inr ⟨b, by rw [upd_ne ne]; exact s⟩)
  · exact .inr s
mutual
theorem RV.side {D : Addr} {xs : List V} {o : HO} (s : Side W H D xs) : ∀ {v : Val} {x : V}, RV K W H v x → RV K W (upd H D o) v x
  | _, _, .non => .non
  | _, _, .bool b => .bool b
  | _, _, .int i => .int i
  | _, _, .str t => .str t
  | _, _, .tup q r => .tup (sqT_upd s.at_ q) (RVs.side s r)
  | _, _, .il1 (a := a) i q r => .il1 i (by rw [upd_ne (show a ≠ D from fun z => s.ni (z ▸ i))]; exact q) (RVs.side s r)
  | _, _, .il0 (a := a) i q r => .il0 i (sqL_upd (fun z => s.ni (z ▸ i)) q) (RVs.side s r)
  | _, _, .ilk q r => .ilk q (RVs.side s r)
  | _, _, .loc q => .loc q
theorem RVs.side {D : Addr} {xs : List V} {o : HO} (s : Side W H D xs) : ∀ {vs : List Val} {ys : List V}, RVs K W H vs ys → RVs K W (upd H D o) vs ys
  | _, _, .nil => .nil
  | _, _, .cons r t => .cons (RV.side s r) (RVs.side s t)
end
theorem HR.side {D : Addr} {xs ys : List V} (h : HR K W m H) (s : Side W H D xs) : HR K W m (upd H D (.lst ys)) where
  len := h.len
  nd := h.nd
  dis := h.dis
  inh := fun a ha => by rw [upd_ne (show a ≠ D from fun z => s.ni (z ▸ ha))]; exact h.inh a ha
  obj := fun n o q => by
    obtain ⟨a, e1, r⟩ := h.obj n o q
    have ne : a ≠ D := fun z => s.np (z ▸ List.mem_of_getElem? e1)
    refine ⟨a, e1, ?_⟩
    cases o with
    | list us =>
      obtain ⟨zs, q1, r1⟩ := r
      exact ⟨zs, by rw [upd_ne ne]; exact q1, r1.side s⟩
theorem Ext.side {D : Addr} {ys : List V} (e : Ext W H W1 H1) (hD : H D = none) : Ext W H W1 (upd H1 D (.lst ys)) where
  pre := e.pre
  inc := e.inc
  new := e.new
  fr := fun b o q hb => by rw [upd_ne (ne_of_none q hD)]; exact e.fr b o q hb
  al := fun a ha => by
    by_cases z : a = D
    · subst z; rw [upd_same]; simp
    · rw [upd_ne z]; exact e.al a ha
mutual
theorem RV.addI {D : Addr} : ∀ {v : Val} {x : V}, RV K W H v x → RV K (W.withI D) H v x
  | _, _, .non => .non
  | _, _, .bool b => .bool b
  | _, _, .int i => .int i
  | _, _, .str t => .str t
  | _, _, .tup q r => .tup q (RVs.addI r)
  | _, _, .il1 i q r => .il1 (.inl i) q (RVs.addI r)
  | _, _, .il0 i q r => .il0 (.inl i) q (RVs.addI r)
  | _, _, .ilk q r => .ilk q (RVs.addI r)
  | _, _, .loc q => .loc q
theorem RVs.addI {D : Addr} : ∀ {vs : List Val} {ys : List V}, RVs K W H vs ys → RVs K (W.withI D) H vs ys
  | _, _, .nil => .nil
  | _, _, .cons r t => .cons (RV.addI r) (RVs.addI t)
end
mutual
theorem RV.addL {D : Addr} : ∀ {v : Val} {x : V}, RV K W H v x → RV K (W.withL D) H v x
  | _, _, .non => .non
  | _, _, .bool b => .bool b
  | _, _, .int i => .int i
  | _, _, .str t => .str t
  | _, _, .tup q r => .tup q (RVs.addL r)
  | _, _, .il1 i q r => .il1 i q (RVs.addL r)
  | _, _, .il0 i q r => .il0 i q (RVs.addL r)
  | _, _, .ilk q r => .ilk q (RVs.addL r)
  | _, _, .loc (n := n) q => .loc (by show (W.phi ++ [D])[n]? = _; rw [List.getElem?_append_left (List.getElem?_eq_some_iff.mp q).1]; exact q)
theorem RVs.addL {D : Addr} : ∀ {vs : List Val} {ys : List V}, RVs K W H vs ys → RVs K (W.withL D) H vs ys
  | _, _, .nil => .nil
  | _, _, .cons r t => .cons (RV.addL r) (RVs.addL t)
end
/-- the list at D goes into the world -/
theorem side_end {W0 : Wd} {H0 : Hp} {D : Addr} {xs : List V} {acc : List Val} {mu : Bool} {Qd : Val → Store → Prop} {Q : VK} (h : HR K W m H) (s : Side W H D xs) (r : RVs K W H acc xs) (e : Ext W0 H0 W H) (hD : H0 D = none) (q : newL mu acc m Qd) (hc : Cont K W0 H0 Qd Q) : Q (.ref D) H := by
  unfold newL at q
  split at q
  · have el : (W.withL D).phi[m.length]? = some D := by show (W.phi ++ [D])[m.length]? = some D; rw [← h.len]; simp
    refine hc (W.withL D) _ _ _ H ⟨?_, e.inc, e.new, e.fr, e.al⟩ (.loc el) ⟨?_, ?_, ?_, h.inh, ?_⟩ q
    · obtain ⟨more, e1, e2⟩ := e.pre
      refine ⟨more ++ [D], by show W.phi ++ [D] = _; rw [e1, List.append_assoc], fun a ha => ?_⟩
      rcases List.mem_append.mp ha with z | z
      · exact e2 a z
      · simp at z; subst z; exact hD
    · show (W.phi ++ [D]).length = (m ++ [Ob.list acc]).length
      simp [h.len]
    · show (W.phi ++ [D]).Nodup
      refine List.nodup_append.mpr ⟨h.nd, by simp, fun a ha b hb => ?_⟩
      simp at hb; subst hb
      exact fun z => s.np (z ▸ ha)
    · intro a ha
      rcases List.mem_append.mp (show a ∈ W.phi ++ [D] from ha) with z | z
      · exact h.dis a z
      · simp at z; subst z; exact s.ni
    · intro n o q
      by_cases hn : n < m.length
      · rw [List.getElem?_append_left hn] at q
        obtain ⟨a, e1, r1⟩ := h.obj n o q
        refine ⟨a, by show (W.phi ++ [D])[n]? = _; rw [List.getElem?_append_left (by rw [h.len]; exact hn)]; exact e1, ?_⟩
        cases o with
        | list us =>
          obtain ⟨zs, q1, r2⟩ := r1
          exact ⟨zs, q1, r2.addL⟩
      · rw [List.getElem?_append_right (by omega)] at q
        have hz : n = m.length := by
          cases hh : n - m.length with
          | zero => omega
          | succ k => rw [hh] at q; simp at q
        subst hz
        simp at q; subst q
        exact ⟨D, el, xs, s.at_, r.addL⟩
  · refine hc (W.withI D) _ _ _ H ⟨e.pre, fun a z => .inl (e.inc a z), fun a z => z.elim (e.new a) fun z => .inr (z ▸ hD), e.fr, e.al⟩ (.il1 (.inr rfl) s.at_ r.addI) ⟨h.len, h.nd, fun a ha z => z.elim (h.dis a ha) fun z => s.np (z ▸ ha), ?_, ?_⟩ q
    · intro a z
      rcases z with z | z
      · exact h.inh a z
      · subst z; rw [s.at_]; simp
    · intro n o q
      obtain ⟨a, e1, r1⟩ := h.obj n o q
      refine ⟨a, e1, ?_⟩
      cases o with
      | list us =>
        obtain ⟨zs, q1, r2⟩ := r1
        exact ⟨zs, q1, r2.addI⟩
end
/-! ### targets -/
theorem wipe_set (σ : St) (i : Nat) (y : Option V) : ∀ vs : List Nat, L2.wipe (σ.set i y) vs = if i ∈ vs then L2.wipe σ vs else (L2.wipe σ vs).set i y
  | [] => rfl
  | v :: vs => by
    simp only [L2.wipe, wipe_set σ i y vs]
    by_cases h : i ∈ vs
    · rw [if_pos h, if_pos (List.mem_cons_of_mem _ h)]
    · rw [if_neg h]
      by_cases hv : i = v
      · subst hv
        rw [if_pos List.mem_cons_self, List.set_set]
      · rw [if_neg (by simp [h, hv]), List.set_comm _ _ hv]
theorem wipe_in {σ : St} {i : Nat} {y : Option V} {vs : List Nat} (h : i ∈ vs) : L2.wipe (σ.set i y) vs = L2.wipe σ vs := by rw [wipe_set, if_pos h]
theorem wipe_wipe (σ : St) : ∀ vs ws : List Nat, (∀ v ∈ vs, v ∈ ws) → L2.wipe (L2.wipe σ vs) ws = L2.wipe σ ws
  | [], _, _ => rfl
  | v :: vs, ws, h => by
    simp only [L2.wipe]
    rw [wipe_in (h v List.mem_cons_self)]
    exact wipe_wipe σ vs ws fun z hz => h z (List.mem_cons_of_mem _ hz)
section
variable {F : Nat → FS} {cl : Cls} {c : Cc} {X : Cx} {Wx : WX}
def TGof (K : Frag) (tg : Tg) : TG := fun x σ H Q => ∃ (W : Wd) (r : Env) (m : Store) (v : Val) (r' : Env), SR K W H r σ ∧ HR K W m H ∧ RV K W H v x ∧ tgF tg v r = some r' ∧
  ∀ σ', SR K W H r' σ' → (∀ own : List Nat, tgIn own tg = true → L2.wipe σ' own = L2.wipe σ own) → Q σ' H
theorem Good.set (G : Good F cl c X) {i : Nat} {x : Str} (h : canSet c i x = true) : X.N[i]? = some x ∧ L2.Loc X.env.scope x ∧ (X.fn x = true ∨ X.env.scope.names.lookup x = some .local) := by
  unfold canSet at h
  simp only [Bool.and_eq_true, Bool.or_eq_true, decide_eq_true_eq] at h
  refine ⟨by rw [G.hN]; exact h.1, ?_, ?_⟩
  · unfold L2.Loc
    rw [G.names]
    exact h.2.imp (fun z => z) fun z => z.2
  · rw [G.names]
    rcases h.2 with z | z
    · exact .inr z
    · exact .inl (G.top z.1 x)
theorem Good.pg (G : Good F cl c X) {i : Nat} {x : Str} {p : Pos} (h : canSet c i x = true) : PG X (.Name x p) (gName i) := by
  obtain ⟨h1, h2, h3⟩ := G.set h
  exact pg_name (by rw [G.hN]; exact G.nd) h1 h2 h3
def gsOf : List Nat → TGs
  | [] => gNil
  | i :: is => gCons (gName i) (gsOf is)
theorem pgs_of (G : Good F cl c X) : ∀ {es : List Expr} {is : List Nat}, chkNames c es is = true → PGs X es (gsOf is) ∧ (assignEach es X.env).length = is.length ∧ (assignEach es X.env).findIdx? (·.1) = none
  | [], [], _ => ⟨pgs_nil, rfl, rfl⟩
  | .Name x p :: r, i :: is, h => by
    simp only [chkNames, Bool.and_eq_true] at h
    obtain ⟨h1, h2, h3⟩ := pgs_of G h.2
    refine ⟨pgs_cons (G.pg h.1) h1 rfl, ?_, ?_⟩
    · show (assignEach r X.env).length + 1 = is.length + 1
      rw [h2]
    · show ((false, assign (.Name x p) X.env) :: assignEach r X.env).findIdx? (·.1) = none
      rw [List.findIdx?_cons]
      simp [h3]
  | [], _ :: _, h => by simp [chkNames] at h
  | e :: r, [], h => by cases e <;> simp [chkNames] at h
  | e :: r, i :: is, h => by
    cases e with
    | Name x p =>
      simp only [chkNames, Bool.and_eq_true] at h
      obtain ⟨h1, h2, h3⟩ := pgs_of G h.2
      refine ⟨pgs_cons (G.pg h.1) h1 rfl, ?_, ?_⟩
      · show (assignEach r X.env).length + 1 = is.length + 1
        rw [h2]
      · show ((false, assign (.Name x p) X.env) :: assignEach r X.env).findIdx? (·.1) = none
        rw [List.findIdx?_cons]
        simp [h3]
    | _ => simp [chkNames] at h
theorem setAll_ok {K : Frag} {W : Wd} {H : Hp} : ∀ {is : List Nat} {vs : List Val} {xs : List V} {r r' : Env} {σ : St} {Q : St → Hp → Prop}, SR K W H r σ → RVs K W H vs xs → setAll is vs r = some r' →
    (∀ σ', SR K W H r' σ' → (∀ own : List Nat, (is.all own.contains) = true → L2.wipe σ' own = L2.wipe σ own) → Q σ' H) → gsOf is xs σ H Q
  | [], [], _, r, r', σ, Q, hs, .nil, e, k => by
    cases e
    exact ⟨rfl, k σ hs fun _ _ => rfl⟩
  | i :: is, v :: vs, _, r, r', σ, Q, hs, .cons a b, e, k => by
    refine ⟨_, _, rfl, ?_⟩
    refine setAll_ok (hs.set a i) b e fun σ' h' hw => k σ' h' fun own ho => ?_
    simp only [List.all_cons, Bool.and_eq_true] at ho
    rw [hw own ho.2, wipe_in (by simpa using ho.1)]
  | [], _ :: _, _, _, _, _, _, _, _, e, _ => by simp [setAll] at e
  | _ :: _, [], _, _, _, _, _, _, _, e, _ => by simp [setAll] at e
theorem g_of (G : Good F cl c X) {t : Expr} {tg : Tg} (h : chkTg c t tg = true) : PG X t (TGof X.K tg) := by
  cases tg with
  | name i =>
    simp only [chkTg] at h
    split at h
    · refine ⟨fun pins s σ H v u Q I rv q => (G.pg h).run pins s σ H v u Q I rv ?_⟩
      obtain ⟨W, r, m, w', r', hs, hr, rv', e, k⟩ := q
      cases e
      exact k _ (hs.set rv' i) fun own ho => wipe_in (by simpa [tgIn] using ho)
    · cases h
  | tup is =>
    simp only [chkTg] at h
    split at h
    · obtain ⟨h1, h2, h3⟩ := pgs_of G h
      refine ⟨fun pins s σ H v u Q I rv q => (pg_tup G.calm h1 h2 h3).run pins s σ H v u Q I rv ?_⟩
      obtain ⟨W, r, m, w', r', hs, hr, rv', e, k⟩ := q
      cases w' with
      | tup vs =>
        obtain ⟨a, xs, rfl, sl, r1⟩ := rv'.tup_inv
        refine ⟨a, xs, rfl, sl, ?_, setAll_ok hs r1 e k⟩
        have hl : ∀ {is : List Nat} {vs : List Val} {r r' : Env}, setAll is vs r = some r' → is.length = vs.length := by
          intro is
          induction is with
          | nil => intro vs r r' e; cases vs <;> simp [setAll] at e; rfl
          | cons i is ih => intro vs r r' e; cases vs with
            | nil => simp [setAll] at e
            | cons v vs => simp only [setAll] at e; simp [ih e]
        rw [← r1.length, hl e]
      | _ => cases e
    · cases h
/-! ### list comprehensions -/
theorem ownOf_map (c : Cc) : ∀ is : List Nat, (ownOf c is).map (·.2) = is
  | [] => rfl
  | i :: is => by simp [ownOf, ownOf_map c is]
theorem blk_of (G : Good F cl c X) {scope : Scope} {own : List (Str × Nat)} (h : blkC c.N { kind := .function, names := c.names, isGenerator := false, isCoroutine := false } scope own = true) : BlkOk X.N X.env.scope scope own := by
  have k := blkOk_by h
  refine ⟨k.kind, k.uniq, fun p hp => by rw [G.hN]; exact k.ix p hp, fun y hy hf => by rw [G.names]; exact k.free y hy hf, fun y hy ho => by rw [G.hN]; exact k.own y hy ho⟩
theorem noR_contX {K : Frag} {W : Wd} {H : Hp} {σ : St} {Wx : WX} : ContX K cl W H σ noR Wx := fun _ _ _ _ _ _ _ _ _ _ _ z => z.elim
theorem pts_imp {X : Cx} {ifs : List Expr} {t t' : TT} (h : PTs X ifs t) (i : ∀ σ H Q, t' σ H Q → t σ H Q) : PTs X ifs t' := ⟨fun pins s σ H Q I q => h.run pins s σ H Q I (i σ H Q q)⟩
theorem fold_of {it : Expr} (h : notSet it = true) (env : PySem.Env) (x : Value) : foldedSetIterable it env x = pure x := by
  cases it <;> first | rfl | cases h
theorem lc_imp {mu : Bool} {own : List Nat} {tg : Tg} {ik : IK} {e1 e2 cond elt : E} (ht : tgIn own tg = true) : ∀ (σ : St) (H : Hp) (Q : VK), TEof X.K cl Wx (wpE F (.lc mu own tg ik e1 e2 cond elt)) σ H Q →
    tLc (TIof X.K cl Wx (wpI F ik e1 e2)) (TGof X.K tg) (TTof X.K cl (fun _ _ _ _ => False) (wpT F cond)) (TEof X.K cl (fun _ _ _ _ => False) (wpE F elt)) own σ H Q := by
  rintro σ H Q ⟨W, r, m, Qd, R, hs, hr, hw, hc, hx⟩
  let body : Val → Store → (Option Val → Store → Prop) → Prop := fun x m P => ∃ r2, tgF tg x (wipeE r own) = some r2 ∧ (wpB F cond).2 r2 m (fun t m1 => if t = true then (wpB F elt).1 r2 m1 (fun y m2 => P (some y) m2) noR else P none m1) noR
  let fin : List Val → Store → Prop := fun acc m3 => newL mu acc m3 Qd
  refine ⟨W, r, m, fun items live m2 => lcW live body items [] m2 fin, R, hs, hr, hw, ?_, hx⟩
  intro W1 items live m1 H1 J x1 hr1 hs1 hx1 wk hl D hD
  -- between two turns
  let Nv : Nat → Hp → Prop := fun i H' => i ≤ items.length ∧ ∃ (W' : Wd) (m' : Store) (acc : List Val) (xs : List V), Ext W1 H1 W' H' ∧ HR X.K W' m' H' ∧ Side W' H' D xs ∧ RVs X.K W' H' acc xs ∧ lcW live body (items.drop i) acc m' fin
  have np1 : D ∉ W1.phi := hr1.nophi hD
  have ni1 : ¬ W1.I D := fun z => hr1.inh D z hD
  refine ⟨fun i n H' => n = items.length - i ∧ Nv i H', ⟨items.length, rfl, Nat.zero_le _, ?_⟩, ?_⟩
  · obtain ⟨a, b, c'⟩ := new_il hr1 hD (vs := []) (xs := []) .nil
    refine ⟨W1, m1, [], [], (Ext.refl hr1).side hD, ?_, ⟨upd_same, np1, ni1⟩, .nil, hl⟩
    have hk : ∀ a, a ∈ W1.phi → upd H1 D (.lst []) a = H1 a := fun a ha => upd_ne fun z => np1 (z ▸ ha)
    exact hr1.grow ((Ext.refl hr1).side hD) rfl hr1.dis (fun _ z => .inl z) hk
  · rintro i n H' ⟨rfl, hi, W', m', acc, xs, x2, hr2, sd, ra, hl2⟩
    by_cases hil : i < items.length
    · refine .inr ?_
      have ed : items.drop i = items[i] :: items.drop (i + 1) := List.drop_eq_getElem_cons hil
      rw [ed] at hl2
      obtain ⟨lv, r2, et, hw2⟩ := hl2
      obtain ⟨_, wg⟩ := wk W' m' H' x2 hr2 lv
      obtain ⟨go, yl⟩ := wg i items[i] (List.getElem?_eq_getElem hil)
      refine ⟨go, Nv (i + 1), fun H'' q => ⟨_, by omega, rfl, q⟩, ?_⟩
      intro x H3 hy
      obtain ⟨W3, x3, hr3, rv3⟩ := yl x H3 hy
      have hs3 : SR X.K W3 H3 (wipeE r own) (L2.wipe σ own) := ((hs1.mono hr1 x2).mono hr2 x3).wipe own
      have sd3 := sd.mono x3
      refine ⟨W3, wipeE r own, m', items[i], r2, hs3, hr3, rv3, et, fun σ2 hs4 hw4 => ⟨?_, ?_⟩⟩
      · rw [hw4 own ht]
        exact wipe_wipe σ own own fun _ z => z
      · refine TTof.bind (wp := wpT F cond) hs4 hr3 hw2 noR_contX ?_
        rintro W5 b m5 H5 x5 hr5 hs5 hx5 q
        cases b with
        | false =>
          rw [if_neg Bool.false_ne_true] at q ⊢
          exact ⟨hil, W5, m5, acc, xs, (x2.trans x3).trans x5, hr5, sd3.mono x5, (ra.mono hr2 x3).mono hr3 x5, q⟩
        | true =>
          rw [if_pos rfl] at q ⊢
          refine TEof.bind (wp := wpE F elt) hs5 hr5 q noR_contX ?_
          rintro W6 v6 y6 m6 H6 x6 rv6 hr6 hs6 hx6 ⟨hl6, q⟩
          have sd6 := (sd3.mono x5).mono x6
          have ra6 := ((ra.mono hr2 x3).mono hr3 x5).mono hr5 x6
          refine ⟨xs, sd6.at_, by rw [← ra.length]; exact hl6, hil, W6, m6, acc ++ [v6], xs ++ [y6], (((x2.trans x3).trans x5).trans x6).side hD, hr6.side sd6, ⟨upd_same, sd6.np, sd6.ni⟩, (ra6.side sd6).append (.cons (rv6.side sd6) .nil), q⟩
    · refine .inl ?_
      have ed : items.drop i = [] := List.drop_eq_nil_of_le (by omega)
      rw [ed] at hl2
      obtain ⟨lv, q⟩ := hl2
      obtain ⟨ws, _⟩ := wk W' m' H' x2 hr2 lv
      exact ⟨ws i (by omega), side_end hr2 sd ra (x1.trans x2) (x1.back hD) q hc⟩
theorem s_lc (G : Good F cl c X) {y t it : Expr} {ifs : List Expr} {scope : Scope} {p : Pos} {mu : Bool} {own : List Nat} {tg : Tg} {ik : IK} {e1 e2 cond elt : E}
    (hb : blkC c.N { kind := .function, names := c.names, isGenerator := false, isCoroutine := false } scope (ownOf c own) = true) (ht : tgIn own tg = true) (htg : chkTg (c.blk scope) t tg = true) (hn : notSet it = true)
    (hi : PI X t it (TIof X.K cl Wx (wpI F ik e1 e2)))
    (hcond : ∀ (X' : Cx), X'.K = X.K → Good F cl (c.blk scope) X' → Takes X' (fun _ _ _ _ => False) → PTs X' ifs (TTof X'.K cl (fun _ _ _ _ => False) (wpT F cond)))
    (helt : ∀ (X' : Cx), X'.K = X.K → Good F cl (c.blk scope) X' → Takes X' (fun _ _ _ _ => False) → PEs F cl X' (fun _ _ _ _ => False) y elt) :
    PEs F cl X Wx (.ListComp y [⟨t, it, ifs, 0⟩] scope p) (.lc mu own tg ik e1 e2 cond elt) := by
  have ok := blk_of G hb
  have Gb : ∀ (s : Shared) (H : Hp) (C : Addr) (cls : List (Str × Addr)) (fp : List Addr), Good F cl (c.blk scope) (X.blk s H scope (compEnvC scope cls C X.env) fp) := fun s H C cls fp => G.blk scope ok.kind s H C cls fp
  refine pe_imp (pe_lc (g := TGof X.K tg) (tt := TTof X.K cl (fun _ _ _ _ => False) (wpT F cond)) (te := TEof X.K cl (fun _ _ _ _ => False) (wpE F elt)) G.calm (by rw [G.hN]; exact G.nd) hi ok (fun s H C cls fp => g_of (Gb s H C cls fp) htg) (fun s H C cls fp => hcond (X.blk s H scope (compEnvC scope cls C X.env) fp) rfl (Gb s H C cls fp) takes_blk) (fun s H C cls fp => helt (X.blk s H scope (compEnvC scope cls C X.env) fp) rfl (Gb s H C cls fp) takes_blk) (fold_of hn X.env)) ?_
  rw [ownOf_map]
  exact lc_imp ht
end
end Dy

/-! Dp, part I: all expressions at once. -/
namespace Dy
open PySem PySem.Spec L2
section
variable {F : Nat → FS} {cl : Cls}
structure SoundE (F : Nat → FS) (cl : Cls) (a : E) : Prop where
  e : ∀ (c : Cc) (X : Cx) (Wx : WX) (e : Expr), Good F cl c X → Takes X Wx → chk c e a = true → PEs F cl X Wx e a ∧ PTs' F cl X Wx e a
  l : ∀ (c : Cc) (X : Cx) (Wx : WX) (es : List Expr), Good F cl c X → Takes X Wx → chkL c es a = true → PAs F cl X Wx es a
  b : ∀ (c : Cc) (X : Cx) (Wx : WX) (op : BoolOp) (es : List Expr) (p : Pos), Good F cl c X → Takes X Wx → chkB c op es a = true → PEs F cl X Wx (.BoolOp op es p) a ∧ PWs F cl X Wx (.BoolOp op es p) a
/-- a test by its value -/
theorem both {c : Cc} {X : Cx} {Wx : WX} {e : Expr} {a : E} (h : PEs F cl X Wx e a) (ha : plainE a = true) (he : plainT e = true) : PEs F cl X Wx e a ∧ PTs' F cl X Wx e a := ⟨h, pt_of ha h he⟩
theorem SoundE.only {a : E} (e : ∀ (c : Cc) (X : Cx) (Wx : WX) (e : Expr), Good F cl c X → Takes X Wx → chk c e a = true → PEs F cl X Wx e a ∧ PTs' F cl X Wx e a)
    (hl : ∀ c es, chkL c es a = false) (hb : ∀ c op es, chkB c op es a = false) : SoundE F cl a :=
  ⟨e, fun c X Wx es _ _ h => absurd h (by rw [hl]; decide), fun c X Wx op es p _ _ h => absurd h (by rw [hb]; decide)⟩
theorem so_of {x : Bool} {o : Option Expr} {no : Bool} {f : Expr → Bool} (h : chkO x no o f = true) : (x = false ∧ o = none ∧ no = true) ∨ ∃ y, x = true ∧ o = some y ∧ f y = true := by
  unfold chkO at h
  cases o with
  | none => simp at h; exact .inl ⟨h.1, rfl, h.2⟩
  | some y => simp at h; exact .inr ⟨y, h.1, rfl, h.2⟩
theorem cst_of {a : E} (h : isCst a = true) : a = .cst .non := by
  unfold isCst at h
  split at h
  · rfl
  · cases h
theorem yes_of {a : E} (h : isYes a = true) : a = .cst (.bool true) := by
  unfold isYes at h
  split at h
  · rfl
  · cases h
theorem it_of {c : Cc} {X : Cx} {Wx : WX} (G : Good F cl c X) (tk : Takes X Wx) {t it : Expr} {ik : IK} {e1 e2 : E} (s1 : SoundE F cl e1) (s2 : SoundE F cl e2) (h : chkIt c it ik (isCst e2) (fun z => chk c z e1) (fun z => chk c z e2) = true) :
    PI X t it (TIof X.K cl Wx (wpI F ik e1 e2)) := by
  unfold chkIt at h
  cases ik with
  | seq =>
    simp only [Bool.and_eq_true] at h
    rw [cst_of h.1]
    exact s_seq (s1.e c X Wx it G tk h.2).1
  | rng1 =>
    simp only at h
    split at h
    · simp only [Bool.and_eq_true, beq_iff_eq] at h
      obtain ⟨⟨⟨⟨⟨h1, h2⟩, h3⟩, h4⟩, h5⟩, h6⟩ := h
      subst h2
      rw [cst_of h5]
      exact s_rng1 G h1 h3 h4 (s1.e c X Wx _ G tk h6).1
    · cases h
  | rng2 =>
    simp only at h
    split at h
    · simp only [Bool.and_eq_true, beq_iff_eq] at h
      obtain ⟨⟨⟨⟨⟨⟨h1, h2⟩, h3⟩, h4⟩, h5⟩, h6⟩, h7⟩ := h
      subst h2
      exact s_rng2 G h1 h3 h4 h5 (s1.e c X Wx _ G tk h6).1 (s2.e c X Wx _ G tk h7).1
    · cases h
theorem sound : ∀ a : E, SoundE F cl a := by
  intro a
  induction a with
  | var i =>
    refine .only (fun c X Wx e G tk h => ?_) (fun _ _ => rfl) (fun _ _ _ => rfl)
    simp only [chk] at h
    split at h
    · simp only [Bool.and_eq_true, decide_eq_true_eq] at h
      exact both (c := c) (s_var G h.1.1 h.1.2 h.2) rfl rfl
    · cases h
  | cst v =>
    refine .only (fun c X Wx e G tk h => ?_) (fun _ _ => rfl) (fun _ _ _ => rfl)
    simp only [chk] at h
    split at h
    · rw [veq_eq h]; exact both (c := c) (s_cst pe_non fun _ _ => .non) rfl rfl
    · rw [veq_eq h]; exact both (c := c) (s_cst pe_bl fun _ _ => .bool _) rfl rfl
    · rw [veq_eq h]; exact both (c := c) (s_cst pe_int fun _ _ => .int _) rfl rfl
    · rw [veq_eq h]; exact both (c := c) (s_cst pe_str fun _ _ => by rename_i s _ _ _ _; have := RV.str (K := X.K) (W := ‹Wd›) (H := ‹Hp›) s.cps.toList; rw [SX.S_tl] at this; exact this) rfl rfl
    · simp only [Bool.and_eq_true] at h
      obtain ⟨h1, h2⟩ := h
      split at h2
      · rename_i u hu
        rw [veq_eq h2]
        obtain ⟨w, xv, m1, m2, m3⟩ := G.gl _ _ hu
        obtain ⟨g1, g2⟩ := G.gl_of h1
        exact both (c := c) (s_cst (pe_glob g1 m1 m2 g2) m3) rfl rfl
      · cases h2
    · cases h
  | nil =>
    refine ⟨fun c X Wx e G tk h => by simp [chk] at h, fun c X Wx es G tk h => ?_, fun c X Wx op es p G tk h => by simp [chkB] at h⟩
    cases es with
    | nil => exact pa_nilE
    | cons _ _ => simp [chkL] at h
  | cons a b ia ib =>
    refine ⟨fun c X Wx e G tk h => by simp [chk] at h, fun c X Wx es G tk h => ?_, fun c X Wx op es p G tk h => by simp [chkB] at h⟩
    cases es with
    | nil => simp [chkL] at h
    | cons x r =>
      simp only [chkL, Bool.and_eq_true] at h
      exact pa_consE h.1.1 (ia.e c X Wx x G tk h.1.2).1 (ib.l c X Wx r G tk h.2)
  | tup es ih =>
    refine .only (fun c X Wx e G tk h => ?_) (fun _ _ => rfl) (fun _ _ _ => rfl)
    simp only [chk] at h
    split at h
    · exact both (c := c) (s_tup (ih.l c X Wx _ G tk h)) rfl rfl
    · cases h
  | lst mu es ih =>
    refine .only (fun c X Wx e G tk h => ?_) (fun _ _ => rfl) (fun _ _ _ => rfl)
    simp only [chk] at h
    split at h
    · exact both (c := c) (s_lst (ih.l c X Wx _ G tk h)) rfl rfl
    · cases h
  | bin o a b ia ib =>
    refine .only (fun c X Wx e G tk h => ?_) (fun _ _ => rfl) (fun _ _ _ => rfl)
    simp only [chk] at h
    split at h
    · simp only [Bool.and_eq_true, decide_eq_true_eq] at h
      obtain ⟨⟨h1, h2⟩, h3⟩ := h
      subst h1
      exact both (c := c) (s_bin (ia.e c X Wx _ G tk h2).1 (ib.e c X Wx _ G tk h3).1) rfl rfl
    · cases h
  | neg a ia =>
    refine .only (fun c X Wx e G tk h => ?_) (fun _ _ => rfl) (fun _ _ _ => rfl)
    simp only [chk] at h
    split at h
    · exact both (c := c) (s_neg (ia.e c X Wx _ G tk h).1) rfl rfl
    · cases h
  | cmp o a b ia ib =>
    refine .only (fun c X Wx e G tk h => ?_) (fun _ _ => rfl) (fun _ _ _ => rfl)
    simp only [chk] at h
    split at h
    · simp only [Bool.and_eq_true, decide_eq_true_eq] at h
      obtain ⟨⟨⟨h1, h2⟩, h3⟩, h4⟩ := h
      subst h1
      exact ⟨s_cmp G h2 (ia.e c X Wx _ G tk h3).1 (ib.e c X Wx _ G tk h4).1, t_cmp G h2 (ia.e c X Wx _ G tk h3).1 (ib.e c X Wx _ G tk h4).1⟩
    · cases h
  | chain o1 o2 a b d ia ib id =>
    refine .only (fun c X Wx e G tk h => ?_) (fun _ _ => rfl) (fun _ _ _ => rfl)
    simp only [chk] at h
    split at h
    · simp only [Bool.and_eq_true, decide_eq_true_eq] at h
      obtain ⟨⟨⟨⟨⟨h1, h2⟩, h3⟩, h4⟩, h5⟩, h6⟩ := h
      subst h1 h2
      exact ⟨s_chain G h3 (ia.e c X Wx _ G tk h4).1 (ib.e c X Wx _ G tk h5).1 (id.e c X Wx _ G tk h6).1, t_chain G h3 (ia.e c X Wx _ G tk h4).1 (ib.e c X Wx _ G tk h5).1 (id.e c X Wx _ G tk h6).1⟩
    · cases h
  | isN neg a ia =>
    refine .only (fun c X Wx e G tk h => ?_) (fun _ _ => rfl) (fun _ _ _ => rfl)
    simp only [chk] at h
    split at h
    · simp only [Bool.and_eq_true, decide_eq_true_eq] at h
      obtain ⟨h1, h2⟩ := h
      subst h1
      exact ⟨s_isN (ia.e c X Wx _ G tk h2).1, t_isN (ia.e c X Wx _ G tk h2).1⟩
    · cases h
  | one a ia =>
    refine ⟨fun c X Wx e G tk h => by simp [chk] at h, fun c X Wx es G tk h => by simp [chkL] at h, fun c X Wx op es p G tk h => ?_⟩
    simp only [chkB] at h
    split at h
    · exact ⟨s_one (ia.e c X Wx _ G tk h).1, t_one (ia.e c X Wx _ G tk h).2⟩
    · cases h
  | and a b ia ib =>
    refine ⟨fun c X Wx e G tk h => ?_, fun c X Wx es G tk h => by simp [chkL] at h, fun c X Wx op es p G tk h => ?_⟩
    · simp only [chk] at h
      split at h
      · simp only [Bool.and_eq_true] at h
        exact ⟨s_and (ia.e c X Wx _ G tk h.1).1 (ib.b c X Wx _ _ _ G tk h.2).1, (t_and (ia.e c X Wx _ G tk h.1).2 (ib.b c X Wx _ _ _ G tk h.2).2).pt⟩
      · cases h
    · simp only [chkB] at h
      split at h
      · simp only [Bool.and_eq_true, decide_eq_true_eq] at h
        obtain ⟨⟨h1, h2⟩, h3⟩ := h
        subst h1
        exact ⟨s_and (ia.e c X Wx _ G tk h2).1 (ib.b c X Wx _ _ _ G tk h3).1, t_and (ia.e c X Wx _ G tk h2).2 (ib.b c X Wx _ _ _ G tk h3).2⟩
      · cases h
  | or a b ia ib =>
    refine ⟨fun c X Wx e G tk h => ?_, fun c X Wx es G tk h => by simp [chkL] at h, fun c X Wx op es p G tk h => ?_⟩
    · simp only [chk] at h
      split at h
      · simp only [Bool.and_eq_true] at h
        exact ⟨s_or (ia.e c X Wx _ G tk h.1).1 (ib.b c X Wx _ _ _ G tk h.2).1, (t_or (ia.e c X Wx _ G tk h.1).2 (ib.b c X Wx _ _ _ G tk h.2).2).pt⟩
      · cases h
    · simp only [chkB] at h
      split at h
      · simp only [Bool.and_eq_true, decide_eq_true_eq] at h
        obtain ⟨⟨h1, h2⟩, h3⟩ := h
        subst h1
        exact ⟨s_or (ia.e c X Wx _ G tk h2).1 (ib.b c X Wx _ _ _ G tk h3).1, t_or (ia.e c X Wx _ G tk h2).2 (ib.b c X Wx _ _ _ G tk h3).2⟩
      · cases h
  | not a ia =>
    refine .only (fun c X Wx e G tk h => ?_) (fun _ _ => rfl) (fun _ _ _ => rfl)
    simp only [chk] at h
    split at h
    · exact ⟨s_not (ia.e c X Wx _ G tk h).1, t_not (ia.e c X Wx _ G tk h).2⟩
    · cases h
  | ite t a b it ia ib =>
    refine .only (fun c X Wx e G tk h => ?_) (fun _ _ => rfl) (fun _ _ _ => rfl)
    simp only [chk] at h
    split at h
    · simp only [Bool.and_eq_true] at h
      obtain ⟨⟨h1, h2⟩, h3⟩ := h
      exact ⟨s_ite (it.e c X Wx _ G tk h1).2 (ia.e c X Wx _ G tk h2).1 (ib.e c X Wx _ G tk h3).1, t_ite (it.e c X Wx _ G tk h1).2 (ia.e c X Wx _ G tk h2).2 (ib.e c X Wx _ G tk h3).2⟩
    · cases h
  | call f args ih =>
    refine .only (fun c X Wx e G tk h => ?_) (fun _ _ => rfl) (fun _ _ _ => rfl)
    simp only [chk] at h
    split at h
    · simp only [Bool.and_eq_true, decide_eq_true_eq] at h
      obtain ⟨⟨h1, h2⟩, h3⟩ := h
      exact both (c := c) (s_call G tk h1 h2 h3 (ih.l c X Wx _ G tk h3)) rfl rfl
    · cases h
  | bi b args ih =>
    refine .only (fun c X Wx e G tk h => ?_) (fun _ _ => rfl) (fun _ _ _ => rfl)
    simp only [chk] at h
    split at h
    · simp only [Bool.and_eq_true, beq_iff_eq] at h
      obtain ⟨⟨⟨h1, h2⟩, h3⟩, h4⟩ := h
      exact both (c := c) (s_bi G h1 h2 h3 h4 (ih.l c X Wx _ G tk h4)) rfl rfl
    · cases h
  | isI t a ia =>
    refine .only (fun c X Wx e G tk h => ?_) (fun _ _ => rfl) (fun _ _ _ => rfl)
    simp only [chk] at h
    split at h
    · simp only [Bool.and_eq_true, beq_iff_eq] at h
      obtain ⟨⟨⟨⟨⟨⟨⟨h1, h2⟩, h3⟩, h4⟩, h5⟩, h6⟩, h7⟩, h8⟩ := h
      subst h2 h5
      exact both (c := c) (s_isI G h1 h3 h4 h6 h7 (ia.e c X Wx _ G tk h8).1) rfl rfl
    · cases h
  | meth t o args io ih =>
    refine .only (fun c X Wx e G tk h => ?_) (fun _ _ => rfl) (fun _ _ _ => rfl)
    simp only [chk] at h
    split at h
    · simp only [Bool.and_eq_true, beq_iff_eq, decide_eq_true_eq] at h
      obtain ⟨⟨⟨⟨⟨h1, h2⟩, h3⟩, h4⟩, h5⟩, h6⟩ := h
      subst h1
      exact both (c := c) (s_meth G (by rw [h2]; simp) h3 h4 (io.e c X Wx _ G tk h5).1 h6 (ih.l c X Wx _ G tk h6)) rfl rfl
    · cases h
  | idx a i ia ii =>
    refine .only (fun c X Wx e G tk h => ?_) (fun _ _ => rfl) (fun _ _ _ => rfl)
    simp only [chk] at h
    split at h
    · simp only [Bool.and_eq_true] at h
      obtain ⟨⟨h1, h2⟩, h3⟩ := h
      exact both (c := c) (s_idx h1 (ia.e c X Wx _ G tk h2).1 (ii.e c X Wx _ G tk h3).1) rfl rfl
    · cases h
  | sl hl hh a lo hi ia il ih =>
    refine .only (fun c X Wx e G tk h => ?_) (fun _ _ => rfl) (fun _ _ _ => rfl)
    simp only [chk] at h
    split at h
    · simp only [Bool.and_eq_true] at h
      obtain ⟨⟨h1, h2⟩, h3⟩ := h
      refine both (c := c) (s_sl (ia.e c X Wx _ G tk h1).1 ?_ ?_) rfl rfl
      · rcases so_of h2 with ⟨z1, z2, z3⟩ | ⟨y, z1, z2, z3⟩
        · exact .inl ⟨z1, z2, cst_of z3⟩
        · exact .inr ⟨y, z1, z2, (il.e c X Wx _ G tk z3).1⟩
      · rcases so_of h3 with ⟨z1, z2, z3⟩ | ⟨y, z1, z2, z3⟩
        · exact .inl ⟨z1, z2, cst_of z3⟩
        · exact .inr ⟨y, z1, z2, (ih.e c X Wx _ G tk z3).1⟩
    · cases h
  | lc mu own tg ik e1 e2 cond elt i1 i2 ic ie =>
    refine .only (fun c X Wx e G tk h => ?_) (fun _ _ => rfl) (fun _ _ _ => rfl)
    simp only [chk] at h
    split at h
    · simp only [Bool.and_eq_true, decide_eq_true_eq] at h
      obtain ⟨⟨⟨⟨⟨⟨⟨h0, h1⟩, h2⟩, h3⟩, h4⟩, h5⟩, h6⟩, h7⟩ := h
      subst h0
      refine both (c := c) (s_lc G h1 h2 h3 h5 (it_of G tk i1 i2 h4) (fun X' _ G' tk' => ?_) fun X' _ G' tk' => (ie.e _ X' _ _ G' tk' h7).1) rfl rfl
      unfold chkC at h6
      split at h6
      · rw [yes_of h6]
        refine pts_imp pts_nil ?_
        rintro σ H Q ⟨W, r', m, Qd, R, hs, hr, ⟨t, et, q⟩, hc, hx⟩
        cases et
        exact hc W true m H (.refl hr) hr q
      · exact pts_one (ic.e _ X' _ _ G' tk' h6).2
      · cases h6
    · cases h
end
end Dy

/-! Dp, part J: statements. -/
namespace Dy
open PySem PySem.Spec L2
inductive S where
  | nil
  | cons (a b : S)
  | expr (e : E)
  | ret (e : E)
  | retN
  | asg (tg : Tg) (e : E)
  | par (is : List Nat) (es : E)
  | setIx (o i e : E)
  | ite (c : E) (a b : S)
  | loop (tg : Tg) (ik : IK) (e1 e2 : E) (body : S)
  | whil (c : E) (body : S)
  | raise (k : Nat) (e : E)
  | pass
  | brk
  | cont
  | never
structure En where
  nx : Env → Store → Prop
  rt : Val → Store → Prop
  bk : Env → Store → Prop
  ct : Env → Store → Prop
  rx : Env → Rq
/-- o[i] = v -/
def setW (o i v : Val) (m : Store) (Q : Store → Prop) : Prop :=
  match o, i with
  | .loc n, .int k => ∃ vs j, m[n]? = some (.list vs) ∧ ixN vs.length k = some j ∧ Q (m.set n (.list (vs.set j v)))
  | _, _ => False
/-- the turns of a for -/
def forW (live : Store → Prop) (step : Val → Env → Store → (Env → Store → Prop) → Prop) (k : Env → Store → Prop) : List Val → Env → Store → Prop
  | [], r, m => live m ∧ k r m
  | x :: xs, r, m => live m ∧ step x r m fun r1 m1 => forW live step k xs r1 m1
def wpS (F : Nat → FS) : S → Env → Store → En → Prop
  | .nil, r, m, D => D.nx r m
  | .cons a b, r, m, D => wpS F a r m { D with nx := fun r m => wpS F b r m D }
  | .expr e, r, m, D => wpE F e r m (fun _ m1 => D.nx r m1) (D.rx r)
  | .ret e, r, m, D => wpE F e r m D.rt (D.rx r)
  | .retN, _, m, D => D.rt .non m
  | .asg tg e, r, m, D => wpE F e r m (fun v m1 => ∃ r1, tgF tg v r = some r1 ∧ D.nx r1 m1) (D.rx r)
  | .par is es, r, m, D => wpA F es r m (fun vs m1 => ∃ r1, setAll is vs r = some r1 ∧ D.nx r1 m1) (D.rx r)
  | .setIx o i e, r, m, D => wpE F e r m (fun v m1 => wpE F o r m1 (fun ov m2 => wpE F i r m2 (fun iv m3 => setW ov iv v m3 fun m4 => D.nx r m4) (D.rx r)) (D.rx r)) (D.rx r)
  | .ite c a b, r, m, D => wpT F c r m (fun t m1 => if t = true then wpS F a r m1 D else wpS F b r m1 D) (D.rx r)
  | .loop tg ik e1 e2 body, r, m, D => wpI F ik e1 e2 r m (fun items live m1 => forW live (fun x r m nx => ∃ r1, tgF tg x r = some r1 ∧ wpS F body r1 m { D with nx := nx, ct := nx, bk := D.nx }) D.nx items r m1) (D.rx r)
  | .whil c body, r, m, D => ∃ I : Nat → Env → Store → Prop, (∃ n, I n r m) ∧ ∀ n r m, I n r m → wpT F c r m (fun t m1 => if t = true then wpS F body r m1 { D with nx := fun r m => ∃ k, k < n ∧ I k r m, ct := fun r m => ∃ k, k < n ∧ I k r m, bk := D.nx } else D.nx r m1) (D.rx r)
  | .raise k e, r, m, D => wpE F e r m (fun v m1 => D.rx r k v m1) (D.rx r)
  | .pass, r, m, D => D.nx r m
  | .brk, r, m, D => D.bk r m
  | .cont, r, m, D => D.ct r m
  | .never, _, _, _ => False
/-! ### the text -/
def notComp : Expr → Bool
  | .ListComp _ _ _ _ => false
  | .SetComp _ _ _ _ => false
  | .DictComp _ _ _ _ _ => false
  | _ => true
def notTup : Expr → Bool
  | .Tuple _ _ _ => false
  | _ => true
def isTup : Expr → Bool
  | .Tuple _ _ _ => true
  | .List _ _ => true
  | _ => false
def compLine (y : Str) (py : Pos) (c : Cc) : Expr → Bool
  | .ListComp _ _ scope pos => decide (c.names.lookup y = some .local) && (py.line == pos.line) && !(scope.names.any fun (n, k) => n == y && (k == .local || k == .cell))
  | _ => false
/-- both sides written: the stores are exchanged -/
def parOk (c : Cc) (ts vs : List Expr) (is : List Nat) : Bool :=
  (ts.length == vs.length) && (match ts, is with
    | [.Name x px, .Name y py], [i, j] => decide (c.N[i]? = some x) && decide (c.N[j]? = some y) && decide (c.names.lookup x = some .local) && decide (c.names.lookup y = some .local) && (py.line == px.line) && !(i == j)
    | [.Name x px, .Name y py, .Name z pz], [i, j, l] => decide (c.N[i]? = some x) && decide (c.N[j]? = some y) && decide (c.N[l]? = some z) && decide (c.names.lookup x = some .local) && decide (c.names.lookup y = some .local) && decide (c.names.lookup z = some .local)
        && (py.line == px.line) && (pz.line == px.line) && !(i == j) && !(i == l) && !(j == l)
    | _, _ => false) && !vs.all (foldedForSure 8) && !vs.all (constantsAlone 8)
mutual
def chkS (c : Cc) (st : Stmt) : S → Bool
  | .nil => false
  | .cons _ _ => false
  | .expr e => match st with
    | .Expr x _ => notComp x && chk c x e
    | _ => false
  | .ret e => match st with
    | .Return (some x) _ => chk c x e
    | _ => false
  | .retN => match st with
    | .Return none _ => true
    | _ => false
  | .asg tg e => match st with
    | .Assign [t] x _ => chkTg c t tg && chk c x e && ((notComp x && (notTup x || !isTup t)) || (match t with | .Name y py => compLine y py c x | _ => false))
    | _ => false
  | .par is es => match st with
    | .Assign [.Tuple ts _ _] (.Tuple vs _ _) _ => parOk c ts vs is && chkL c vs es
    | _ => false
  | .setIx o i e => match st with
    | .Assign [.Subscript x y _] z _ => notSlice y && notComp z && chk c x o && chk c y i && chk c z e
    | _ => false
  | .ite t a b => match st with
    | .If x y z _ => chk c x t && chkSs c y a && chkSs c z b
    | _ => false
  | .loop tg ik e1 e2 body => match st with
    | .For t it bd [] _ => chkTg c t tg && notSet it && chkIt c it ik (isCst e2) (fun z => chk c z e1) (fun z => chk c z e2) && chkSs c bd body
    | _ => false
  | .whil t body => match st with
    | .While x bd [] _ => chk c x t && chkSs c bd body
    | _ => false
  | .raise _ _ => false
  | .pass => match st with
    | .Pass _ => true
    | _ => false
  | .brk => match st with
    | .Break _ => true
    | _ => false
  | .cont => match st with
    | .Continue _ => true
    | _ => false
  | .never => true
def chkSs (c : Cc) (sts : List Stmt) : S → Bool
  | .nil => match sts with
    | [] => true
    | _ => false
  | .cons a b => match sts with
    | st :: r => chkS c st a && chkSs c r b
    | _ => false
  | .never => true
  | _ => false
end
/-! ### readings -/
structure EnOk (K : Frag) (cl : Cls) (Wx : WX) (W : Wd) (H : Hp) (D : Ends) (d : En) : Prop where
  nx : ∀ W' r' m' σ' H', Ext W H W' H' → SR K W' H' r' σ' → HR K W' m' H' → d.nx r' m' → D.nx σ' H'
  rt : Cont K W H d.rt D.rt
  bk : ∀ W' r' m' σ' H', Ext W H W' H' → SR K W' H' r' σ' → HR K W' m' H' → d.bk r' m' → D.bk σ' H'
  ct : ∀ W' r' m' σ' H', Ext W H W' H' → SR K W' H' r' σ' → HR K W' m' H' → d.ct r' m' → D.ct σ' H'
  rx : ∀ W' r' σ' H', Ext W H W' H' → SR K W' H' r' σ' → ContX K cl W' H' σ' (d.rx r') Wx
theorem EnOk.mono {K : Frag} {cl : Cls} {Wx : WX} {W W1 : Wd} {H H1 : Hp} {D : Ends} {d : En} (k : EnOk K cl Wx W H D d) (e : Ext W H W1 H1) : EnOk K cl Wx W1 H1 D d where
  nx := fun W' r' m' σ' H' e' => k.nx W' r' m' σ' H' (e.trans e')
  rt := k.rt.mono e
  bk := fun W' r' m' σ' H' e' => k.bk W' r' m' σ' H' (e.trans e')
  ct := fun W' r' m' σ' H' e' => k.ct W' r' m' σ' H' (e.trans e')
  rx := fun W' r' σ' H' e' => k.rx W' r' σ' H' (e.trans e')
def TSof (K : Frag) (cl : Cls) (Wx : WX) (wp : Env → Store → En → Prop) : TS := fun D σ H =>
  ∃ (W : Wd) (r : Env) (m : Store) (d : En), SR K W H r σ ∧ HR K W m H ∧ wp r m d ∧ EnOk K cl Wx W H D d
structure GoodS (F : Nat → FS) (cl : Cls) (c : Cc) (X : Cx) : Prop extends Good F cl c X where
  po : PassesOwn (model X.prog X.w) X.A X.env X.xe
section
variable {F : Nat → FS} {cl : Cls} {c : Cc} {X : Cx} {Wx : WX}
abbrev PSt (F : Nat → FS) (cl : Cls) (X : Cx) (Wx : WX) (st : Stmt) (a : S) : Prop := PS X st (TSof X.K cl Wx (wpS F a))
abbrev PSts (F : Nat → FS) (cl : Cls) (X : Cx) (Wx : WX) (st : List Stmt) (a : S) : Prop := PSs X st (TSof X.K cl Wx (wpS F a))
theorem EnOk.x0 {K : Frag} {W : Wd} {H : Hp} {D : Ends} {d : En} {r : Env} {σ : St} {m : Store} (k : EnOk K cl Wx W H D d) (hs : SR K W H r σ) (hr : HR K W m H) : ContX K cl W H σ (d.rx r) Wx := k.rx W r σ H (.refl hr) hs
theorem swap_no {e : Expr} (h : notComp e = true) (t : Option Expr) (l : Nat) (env : PySem.Env) : swapsWith e t l env = pure false := by
  cases e <;> first | rfl | cases h
theorem st_expr {x : Expr} {e : E} {p : Pos} (h : notComp x = true) (he : PEs F cl X Wx x e) : PSt F cl X Wx (.Expr x p) (.expr e) := by
  refine ps_imp (ps_expr he (swap_no h _ _ _)) ?_
  rintro D σ H ⟨W, r, m, d, hs, hr, hw, k⟩
  refine TEof.bind hs hr hw (k.x0 hs hr) ?_
  rintro W1 v x m1 H1 e1 rv hr1 hs1 hx1 q
  exact k.nx _ _ _ _ _ e1 hs1 hr1 q
theorem st_ret {x : Expr} {e : E} {p : Pos} (he : PEs F cl X Wx x e) : PSt F cl X Wx (.Return (some x) p) (.ret e) := by
  refine ps_imp (ps_ret he) ?_
  rintro D σ H ⟨W, r, m, d, hs, hr, hw, k⟩
  refine TEof.bind hs hr hw (k.x0 hs hr) ?_
  rintro W1 v x m1 H1 e1 rv hr1 hs1 hx1 q
  exact k.rt _ _ _ _ _ e1 rv hr1 q
theorem st_retN {p : Pos} : PSt F cl X Wx (.Return none p) .retN := by
  refine ps_imp ps_retN ?_
  rintro D σ H ⟨W, r, m, d, hs, hr, hw, k⟩
  exact k.rt.here hr .non hw
/-- an assignment by the target's reading -/
theorem asg_bind {tg : Tg} {e : E} {D : Ends} {σ : St} {H : Hp} (h : TSof X.K cl Wx (wpS F (.asg tg e)) D σ H) : tAsg (TEof X.K cl Wx (wpE F e)) (TGof X.K tg) D σ H := by
  obtain ⟨W, r, m, d, hs, hr, hw, k⟩ := h
  refine TEof.bind hs hr hw (k.x0 hs hr) ?_
  rintro W1 v x m1 H1 e1 rv hr1 hs1 hx1 ⟨r1, et, q⟩
  exact ⟨W1, r, m1, v, r1, hs1, hr1, rv, et, fun σ' hs' _ => k.nx _ _ _ _ _ e1 hs' hr1 q⟩
theorem tg_one {t : Expr} {tg : Tg} (h : chkTg c t tg = true) (env : PySem.Env) : (assignEach [t] env).map (·.2) = [assign t env] := by
  cases tg <;> simp only [chkTg] at h <;> split at h <;> first | rfl | cases h
theorem st_asg (G : Good F cl c X) {t x : Expr} {tg : Tg} {e : E} {p : Pos} (h1 : chkTg c t tg = true) (h2 : notComp x = true) (h3 : (notTup x || !isTup t) = true) (he : PEs F cl X Wx x e) : PSt F cl X Wx (.Assign [t] x p) (.asg tg e) := by
  refine ps_imp (ps_asg he (g_of G h1) (swap_no h2 _ _ _) ?_ (tg_one h1 _)) fun D σ H h => asg_bind h
  cases tg with
  | name i =>
    simp only [chkTg] at h1
    split at h1
    · rfl
    · cases h1
  | tup is =>
    simp only [chkTg] at h1
    split at h1
    · simp only [isTup, Bool.or_eq_true, Bool.not_true, Bool.false_eq_true, or_false] at h3
      cases x <;> first | rfl | cases h3
    · cases h1
/-- a comprehension that is stored within its own frame -/
theorem st_asgLc (G : Good F cl c X) {x : Str} {px : Pos} {i : Nat} {y t it : Expr} {ifs : List Expr} {scope : Scope} {p sp : Pos} {mu : Bool} {own : List Nat} {tg : Tg} {ik : IK} {e1 e2 cond elt : E}
    (hset : canSet c i x = true) (hcl : compLine x px c (.ListComp y [⟨t, it, ifs, 0⟩] scope p) = true)
    (hb : blkC c.N { kind := .function, names := c.names, isGenerator := false, isCoroutine := false } scope (ownOf c own) = true) (ht : tgIn own tg = true) (htg : chkTg (c.blk scope) t tg = true) (hn : notSet it = true)
    (hi : PI X t it (TIof X.K cl Wx (wpI F ik e1 e2)))
    (hcond : ∀ (X' : Cx), X'.K = X.K → Good F cl (c.blk scope) X' → Takes X' (fun _ _ _ _ => False) → PTs X' ifs (TTof X'.K cl (fun _ _ _ _ => False) (wpT F cond)))
    (helt : ∀ (X' : Cx), X'.K = X.K → Good F cl (c.blk scope) X' → Takes X' (fun _ _ _ _ => False) → PEs F cl X' (fun _ _ _ _ => False) y elt) :
    PSt F cl X Wx (.Assign [.Name x px] (.ListComp y [⟨t, it, ifs, 0⟩] scope p) sp) (.asg (.name i) (.lc mu own tg ik e1 e2 cond elt)) := by
  have ok := blk_of G hb
  have Gb : ∀ (s : Shared) (H : Hp) (C : Addr) (cls : List (Str × Addr)) (fp : List Addr), Good F cl (c.blk scope) (X.blk s H scope (compEnvC scope cls C X.env) fp) := fun s H C cls fp => G.blk scope ok.kind s H C cls fp
  unfold compLine at hcl
  simp only [Bool.and_eq_true, decide_eq_true_eq] at hcl
  obtain ⟨⟨l1, l2⟩, l3⟩ := hcl
  have hloc : X.env.scope.names.lookup x = some .local := by rw [G.names]; exact l1
  obtain ⟨n1, n2, n3⟩ := G.set hset
  refine ps_imp (ps_setLc (g := TGof X.K tg) (tt := TTof X.K cl (fun _ _ _ _ => False) (wpT F cond)) (te := TEof X.K cl (fun _ _ _ _ => False) (wpE F elt)) G.calm (by rw [G.hN]; exact G.nd) n1 hloc (sw_true G.kind hloc l2 (by simpa using l3)) hi ok (fun s H C cls fp => g_of (Gb s H C cls fp) htg)
    (fun s H C cls fp => hcond (X.blk s H scope (compEnvC scope cls C X.env) fp) rfl (Gb s H C cls fp) takes_blk) (fun s H C cls fp => helt (X.blk s H scope (compEnvC scope cls C X.env) fp) rfl (Gb s H C cls fp) takes_blk) (fold_of hn X.env)) ?_
  rw [ownOf_map]
  rintro D σ H ⟨W, r, m, d, hs, hr, hw, k⟩
  refine lc_imp ht σ H _ (TEof.bind hs hr hw (k.x0 hs hr) ?_)
  rintro W1 v z m1 H1 x1 rv hr1 hs1 hx1 ⟨r1, et, q⟩
  cases et
  exact k.nx _ _ _ _ _ x1 (hs1.set rv i) hr1 q
theorem nd_dups2 {x y : Str} (h : x ≠ y) : ([x, y] : List Str).eraseDups.length = 2 := by
  have : (y == x) = false := by simpa using fun z => h z.symm
  simp [List.eraseDups, List.eraseDupsBy, List.eraseDupsBy.loop, this]
theorem nd_dups3 {x y z : Str} (h : x ≠ y) (h2 : x ≠ z) (h3 : y ≠ z) : ([x, y, z] : List Str).eraseDups.length = 3 := by
  have a : (y == x) = false := by simpa using fun q => h q.symm
  have b : (z == x) = false := by simpa using fun q => h2 q.symm
  have d : (z == y) = false := by simpa using fun q => h3 q.symm
  simp [List.eraseDups, List.eraseDupsBy, List.eraseDupsBy.loop, a, b, d]
theorem swapped2 {env : PySem.Env} {x y : Str} {px py pt pv : Pos} {a b : Expr} {kt kv : Nat} (hk : env.blockKind = .function) (kx : env.kindOf x = some .local) (ky : env.kindOf y = some .local) (hl : py.line = px.line) (hxy : x ≠ y) (na : noStar a = true) (nb : noStar b = true)
    (h3 : [a, b].all (foldedForSure 8) = false) (h4 : [a, b].all (constantsAlone 8) = false) : swappedStores [.Tuple [.Name x px, .Name y py] kt pt] (.Tuple [a, b] kv pv) env = pure (some [x, y]) := by
  have hd := nd_dups2 hxy
  have sa : ∀ v p, a ≠ .Starred v p := fun v p z => by subst z; cases na
  have sb : ∀ v p, b ≠ .Starred v p := fun v p z => by subst z; cases nb
  unfold swappedStores
  simp only [hk, kx, ky, hl, h3, h4, hd, Expr.pos, List.head?_cons, Option.map_some, Option.getD_some, List.filterMap_cons, List.filterMap_nil, BEq.rfl, Bool.and_self, if_true, List.any_cons, List.any_nil]
  simp
theorem swapped3 {env : PySem.Env} {x y z : Str} {px py pz pt pv : Pos} {a b d : Expr} {kt kv : Nat} (hk : env.blockKind = .function) (kx : env.kindOf x = some .local) (ky : env.kindOf y = some .local) (kz : env.kindOf z = some .local) (hl : py.line = px.line) (hl2 : pz.line = px.line) (hxy : x ≠ y) (hxz : x ≠ z) (hyz : y ≠ z)
    (na : noStar a = true) (nb : noStar b = true) (nd : noStar d = true) (h3 : [a, b, d].all (foldedForSure 8) = false) (h4 : [a, b, d].all (constantsAlone 8) = false) : swappedStores [.Tuple [.Name x px, .Name y py, .Name z pz] kt pt] (.Tuple [a, b, d] kv pv) env = pure (some [x, y, z]) := by
  have hd := nd_dups3 hxy hxz hyz
  have sa : ∀ v p, a ≠ .Starred v p := fun v p z => by subst z; cases na
  have sb : ∀ v p, b ≠ .Starred v p := fun v p z => by subst z; cases nb
  have sd : ∀ v p, d ≠ .Starred v p := fun v p z => by subst z; cases nd
  unfold swappedStores
  simp only [hk, kx, ky, kz, hl, hl2, h3, h4, hd, Expr.pos, List.head?_cons, Option.map_some, Option.getD_some, List.filterMap_cons, List.filterMap_nil, BEq.rfl, Bool.and_self, if_true, List.any_cons, List.any_nil]
  simp
theorem chkL_ns {c : Cc} : ∀ {a : E} {x : Expr} {r : List Expr}, chkL c (x :: r) a = true → noStar x = true ∧ ∃ b, chkL c r b = true
  | .cons a b, x, r, h => by
    simp only [chkL, Bool.and_eq_true] at h
    exact ⟨h.1.1, b, h.2⟩
  | .nil, _, _, h => by simp [chkL] at h
  | .var _, _, _, h => by simp [chkL] at h
  | .cst _, _, _, h => by simp [chkL] at h
  | .tup _, _, _, h => by simp [chkL] at h
  | .lst _ _, _, _, h => by simp [chkL] at h
  | .bin _ _ _, _, _, h => by simp [chkL] at h
  | .neg _, _, _, h => by simp [chkL] at h
  | .cmp _ _ _, _, _, h => by simp [chkL] at h
  | .chain _ _ _ _ _, _, _, h => by simp [chkL] at h
  | .isN _ _, _, _, h => by simp [chkL] at h
  | .one _, _, _, h => by simp [chkL] at h
  | .and _ _, _, _, h => by simp [chkL] at h
  | .or _ _, _, _, h => by simp [chkL] at h
  | .not _, _, _, h => by simp [chkL] at h
  | .ite _ _ _, _, _, h => by simp [chkL] at h
  | .call _ _, _, _, h => by simp [chkL] at h
  | .bi _ _, _, _, h => by simp [chkL] at h
  | .isI _ _, _, _, h => by simp [chkL] at h
  | .meth _ _ _, _, _, h => by simp [chkL] at h
  | .idx _ _, _, _, h => by simp [chkL] at h
  | .sl _ _ _ _ _, _, _, h => by simp [chkL] at h
  | .lc _ _ _ _ _ _ _ _, _, _, h => by simp [chkL] at h
theorem st_par (G : Good F cl c X) {ts vs : List Expr} {is : List Nat} {es : E} {kt kv : Nat} {pt pv p : Pos} (h : parOk c ts vs is = true) (hL : chkL c vs es = true) (ha : PAs F cl X Wx vs es) : PSt F cl X Wx (.Assign [.Tuple ts kt pt] (.Tuple vs kv pv) p) (.par is es) := by
  have hh := h
  unfold parOk at h
  simp only [Bool.and_eq_true] at h
  obtain ⟨⟨⟨h1, h2⟩, h3⟩, h4⟩ := h
  simp only [Bool.not_eq_true'] at h3 h4
  have hbk : X.env.blockKind = .function := by unfold PySem.Env.blockKind; rw [G.kind]; rfl
  have hlen : ts.length = vs.length := by simpa using h1
  have ndN : X.N.Nodup := by rw [G.hN]; exact G.nd
  have neN : ∀ {i j : Nat} {x y : Str}, c.N[i]? = some x → c.N[j]? = some y → (i == j) = false → x ≠ y := fun {i j x y} e1 e2 hij z => by
    subst z
    have := nodup_ix G.nd e1 e2
    subst this
    simp at hij
  split at h2
  · rename_i x px y py i j
    simp only [Bool.and_eq_true, decide_eq_true_eq, Bool.not_eq_true', beq_iff_eq] at h2
    obtain ⟨⟨⟨⟨⟨k1, k2⟩, k3⟩, k4⟩, k5⟩, k6⟩ := h2
    have kx : X.env.kindOf x = some .local := by show X.env.scope.names.lookup x = _; rw [G.names]; exact k3
    have ky : X.env.kindOf y = some .local := by show X.env.scope.names.lookup y = _; rw [G.names]; exact k4
    have hxy : x ≠ y := neN k1 k2 k6
    match vs, hlen with
    | [a, b], _ =>
      obtain ⟨na, b1, hL1⟩ := chkL_ns hL
      obtain ⟨nb, _⟩ := chkL_ns hL1
      have hw := swapped2 (kt := kt) (kv := kv) (pt := pt) (pv := pv) (px := px) (py := py) hbk kx ky k5 hxy na nb h3 h4
      refine ps_imp (ps_par G.calm ndN (by rw [G.hN]; exact k1) (by rw [G.hN]; exact k2) (by simpa using k6) kx ky ha hw rfl) ?_
      rintro D σ H ⟨W, r, m, d, hs, hr, hw, k⟩
      refine TAof.bind hs hr hw (k.x0 hs hr) ?_
      rintro W1 ws xs m1 H1 x1 rvs hr1 hs1 hx1 ⟨r1, et, q⟩
      cases rvs with
      | nil => simp [setAll] at et
      | cons r1 t1 => cases t1 with
        | nil => simp [setAll] at et
        | cons r2 t2 => cases t2 with
          | cons _ _ => simp [setAll] at et
          | nil =>
            cases et
            exact ⟨_, _, rfl, k.nx _ _ _ _ _ x1 ((hs1.set r1 i).set r2 j) hr1 q⟩
  · rename_i x px y py z pz i j l
    simp only [Bool.and_eq_true, decide_eq_true_eq, Bool.not_eq_true', beq_iff_eq] at h2
    obtain ⟨⟨⟨⟨⟨⟨⟨⟨⟨⟨k1, k2⟩, k3⟩, k4⟩, k5⟩, k6⟩, k7⟩, k8⟩, k9⟩, ka⟩, kb⟩ := h2
    have kx : X.env.kindOf x = some .local := by show X.env.scope.names.lookup x = _; rw [G.names]; exact k4
    have ky : X.env.kindOf y = some .local := by show X.env.scope.names.lookup y = _; rw [G.names]; exact k5
    have kz : X.env.kindOf z = some .local := by show X.env.scope.names.lookup z = _; rw [G.names]; exact k6
    match vs, hlen with
    | [a, b, e], _ =>
      obtain ⟨na, b1, hL1⟩ := chkL_ns hL
      obtain ⟨nb, b2, hL2⟩ := chkL_ns hL1
      obtain ⟨ne, _⟩ := chkL_ns hL2
      have hw := swapped3 (kt := kt) (kv := kv) (pt := pt) (pv := pv) (px := px) (py := py) (pz := pz) hbk kx ky kz k7 k8 (neN k1 k2 k9) (neN k1 k3 ka) (neN k2 k3 kb) na nb ne h3 h4
      refine ps_imp (ps_par3 G.calm ndN (by rw [G.hN]; exact k1) (by rw [G.hN]; exact k2) (by rw [G.hN]; exact k3) (by simpa using k9) (by simpa using ka) (by simpa using kb) kx ky kz ha hw rfl) ?_
      rintro D σ H ⟨W, r, m, d, hs, hr, hw, k⟩
      refine TAof.bind hs hr hw (k.x0 hs hr) ?_
      rintro W1 ws xs m1 H1 x1 rvs hr1 hs1 hx1 ⟨r1, et, q⟩
      cases rvs with
      | nil => simp [setAll] at et
      | cons r1 t1 => cases t1 with
        | nil => simp [setAll] at et
        | cons r2 t2 => cases t2 with
          | nil => simp [setAll] at et
          | cons r3 t3 => cases t3 with
            | cons _ _ => simp [setAll] at et
            | nil =>
              cases et
              exact ⟨_, _, _, rfl, k.nx _ _ _ _ _ x1 (((hs1.set r1 i).set r2 j).set r3 l) hr1 q⟩
  · cases h2
theorem st_setIx {x y z : Expr} {o i e : E} {p p2 : Pos} (h1 : notSlice y = true) (h2 : notComp z = true) (ho : PEs F cl X Wx x o) (hi : PEs F cl X Wx y i) (he : PEs F cl X Wx z e) : PSt F cl X Wx (.Assign [.Subscript x y p2] z p) (.setIx o i e) := by
  refine ps_imp (ps_asg he (pg_sub ho hi set_list (fun v => ?_)) (swap_no h2 (some (.Subscript x y p2)) p.line X.env) rfl rfl) ?_
  · cases y <;> first | rfl | cases h1
  rintro D σ H ⟨W, r, m, d, hs, hr, hw, k⟩
  have kx := k.x0 hs hr
  refine TEof.bind hs hr hw kx ?_
  rintro W1 v xv m1 H1 x1 rv hr1 hs1 hx1 hw1
  refine TEof.bind hs1 hr1 hw1 hx1 ?_
  rintro W2 ov xo m2 H2 x2 ro hr2 hs2 hx2 hw2
  refine TEof.bind hs2 hr2 hw2 hx2 ?_
  rintro W3 iv xi m3 H3 x3 ri hr3 hs3 hx3 q
  unfold setW at q
  split at q
  · obtain ⟨vs, j, e1, e2, q⟩ := q
    cases ro with
    | loc q0 =>
      have q0' := phi_keep x3 q0
      rw [ri.int_inv]
      obtain ⟨ys, q1, r1⟩ := loc_at hr3 q0' e1
      have rv3 := (rv.mono hr1 x2).mono hr2 x3
      obtain ⟨ex, h4⟩ := set_loc hr3 e1 q0' (r1.set rv3 j)
      exact ⟨_, ys, _, j, rfl, rfl, q1, by rw [← r1.length]; exact e2, k.nx _ _ _ _ _ (((x1.trans x2).trans x3).trans ex) (hs3.mono hr3 ex) h4 q⟩
  · exact q.elim
theorem st_ite {x : Expr} {y z : List Stmt} {t : E} {a b : S} {p : Pos} (ht : PTs' F cl X Wx x t) (ha : PSts F cl X Wx y a) (hb : PSts F cl X Wx z b) : PSt F cl X Wx (.If x y z p) (.ite t a b) := by
  refine ps_imp (ps_if ht ha hb) ?_
  rintro D σ H ⟨W, r, m, d, hs, hr, hw, k⟩
  refine TTof.bind hs hr hw (k.x0 hs hr) ?_
  rintro W1 b m1 H1 x1 hr1 hs1 hx1 q
  cases b with
  | true => rw [if_pos rfl] at q ⊢; exact ⟨W1, r, m1, d, hs1, hr1, q, k.mono x1⟩
  | false => rw [if_neg Bool.false_ne_true] at q ⊢; exact ⟨W1, r, m1, d, hs1, hr1, q, k.mono x1⟩
theorem st_loop (G : GoodS F cl c X) {t it : Expr} {bd : List Stmt} {tg : Tg} {ik : IK} {e1 e2 : E} {body : S} {p : Pos} (h1 : chkTg c t tg = true) (h2 : notSet it = true) (hi : PI X t it (TIof X.K cl Wx (wpI F ik e1 e2))) (hb : PSts F cl X Wx bd body) :
    PSt F cl X Wx (.For t it bd [] p) (.loop tg ik e1 e2 body) := by
  refine ps_imp (ps_for G.po G.calm hi (g_of G.toGood h1) hb (fold_of h2 X.env)) ?_
  rintro D σ H ⟨W, r, m, d, hs, hr, hw, k⟩
  refine ⟨W, r, m, _, d.rx r, hs, hr, hw, ?_, k.x0 hs hr⟩
  intro W1 items live m1 H1 J x1 hr1 hs1 hx1 wk hl
  refine ⟨fun i n σ' H' => n = items.length - i ∧ i ≤ items.length ∧ ∃ W' r' m', Ext W1 H1 W' H' ∧ HR X.K W' m' H' ∧ SR X.K W' H' r' σ' ∧
    forW live (fun x r m nx => ∃ r1, tgF tg x r = some r1 ∧ wpS F body r1 m { d with nx := nx, ct := nx, bk := d.nx }) d.nx (items.drop i) r' m', ⟨items.length, rfl, Nat.zero_le _, W1, r, m1, .refl hr1, hr1, hs1, hl⟩, ?_⟩
  rintro i n σ' H' ⟨rfl, hi, W', r', m', x2, hr2, hs2, hl2⟩
  by_cases hil : i < items.length
  · refine .inr ?_
    have ed : items.drop i = items[i] :: items.drop (i + 1) := List.drop_eq_getElem_cons hil
    rw [ed] at hl2
    obtain ⟨lv, r1, et, hw2⟩ := hl2
    obtain ⟨_, wg⟩ := wk W' m' H' x2 hr2 lv
    obtain ⟨go, yl⟩ := wg i items[i] (List.getElem?_eq_getElem hil)
    refine ⟨go, fun σ'' H'' => i + 1 ≤ items.length ∧ ∃ W' r' m', Ext W1 H1 W' H'' ∧ HR X.K W' m' H'' ∧ SR X.K W' H'' r' σ'' ∧
      forW live (fun x r m nx => ∃ r1, tgF tg x r = some r1 ∧ wpS F body r1 m { d with nx := nx, ct := nx, bk := d.nx }) d.nx (items.drop (i + 1)) r' m', fun σ'' H'' q => ⟨_, by omega, rfl, q⟩, ?_⟩
    intro x H3 hy
    obtain ⟨W3, x3, hr3, rv3⟩ := yl x H3 hy
    refine ⟨W3, r', m', items[i], r1, hs2.mono hr2 x3, hr3, rv3, et, fun σ2 hs4 _ => ?_⟩
    have k3 := k.mono ((x1.trans x2).trans x3)
    refine ⟨W3, r1, m', _, hs4, hr3, hw2, ⟨?_, k3.rt, k3.nx, ?_, k3.rx⟩⟩
    · intro W5 r5 m5 σ5 H5 x5 hs5 hr5 q
      exact ⟨hil, W5, r5, m5, (x2.trans x3).trans x5, hr5, hs5, q⟩
    · intro W5 r5 m5 σ5 H5 x5 hs5 hr5 q
      exact ⟨hil, W5, r5, m5, (x2.trans x3).trans x5, hr5, hs5, q⟩
  · refine .inl ?_
    have ed : items.drop i = [] := List.drop_eq_nil_of_le (by omega)
    rw [ed] at hl2
    obtain ⟨lv, q⟩ := hl2
    obtain ⟨ws, _⟩ := wk W' m' H' x2 hr2 lv
    exact ⟨ws i (by omega), k.nx _ _ _ _ _ (x1.trans x2) hs2 hr2 q⟩
theorem st_whil (G : GoodS F cl c X) {x : Expr} {bd : List Stmt} {t : E} {body : S} {p : Pos} (ht : PTs' F cl X Wx x t) (hb : PSts F cl X Wx bd body) : PSt F cl X Wx (.While x bd [] p) (.whil t body) := by
  refine ps_imp (ps_while G.po ht hb) ?_
  rintro D σ H ⟨W, r, m, d, hs, hr, ⟨I, ⟨n0, h0⟩, hI⟩, k⟩
  refine ⟨fun n σ' H' => ∃ W' r' m', Ext W H W' H' ∧ HR X.K W' m' H' ∧ SR X.K W' H' r' σ' ∧ I n r' m', ⟨n0, W, r, m, .refl hr, hr, hs, h0⟩, ?_⟩
  rintro n σ' H' ⟨W', r', m', x1, hr1, hs1, hi⟩
  refine TTof.bind hs1 hr1 (hI n r' m' hi) (k.rx _ _ _ _ x1 hs1) ?_
  rintro W2 b m2 H2 x2 hr2 hs2 hx2 q
  cases b with
  | false => rw [if_neg Bool.false_ne_true] at q ⊢; exact k.nx _ _ _ _ _ (x1.trans x2) hs2 hr2 q
  | true =>
    rw [if_pos rfl] at q ⊢
    have k3 := k.mono (x1.trans x2)
    refine ⟨fun σ'' H'' => ∃ n', n' < n ∧ ∃ W' r' m', Ext W H W' H'' ∧ HR X.K W' m' H'' ∧ SR X.K W' H'' r' σ'' ∧ I n' r' m', fun σ'' H'' ⟨n', hn, q⟩ => ⟨n', hn, q⟩, W2, r', m2, _, hs2, hr2, q, ⟨?_, k3.rt, k3.nx, ?_, k3.rx⟩⟩
    · rintro W5 r5 m5 σ5 H5 x5 hs5 hr5 ⟨n', hn, q⟩
      exact ⟨n', hn, W5, r5, m5, (x1.trans x2).trans x5, hr5, hs5, q⟩
    · rintro W5 r5 m5 σ5 H5 x5 hs5 hr5 ⟨n', hn, q⟩
      exact ⟨n', hn, W5, r5, m5, (x1.trans x2).trans x5, hr5, hs5, q⟩
theorem sts_nil : PSts F cl X Wx [] .nil := by
  refine pss_imp pss_nil ?_
  rintro D σ H ⟨W, r, m, d, hs, hr, hw, k⟩
  exact k.nx _ _ _ _ _ (.refl hr) hs hr hw
theorem sts_cons {st : Stmt} {sts : List Stmt} {a b : S} (ha : PSt F cl X Wx st a) (hb : PSts F cl X Wx sts b) : PSts F cl X Wx (st :: sts) (.cons a b) := by
  refine pss_imp (pss_cons ha hb) ?_
  rintro D σ H ⟨W, r, m, d, hs, hr, hw, k⟩
  refine ⟨W, r, m, _, hs, hr, hw, ⟨?_, k.rt, k.bk, k.ct, k.rx⟩⟩
  intro W1 r1 m1 σ1 H1 x1 hs1 hr1 q
  exact ⟨W1, r1, m1, d, hs1, hr1, q, k.mono x1⟩
/-! ### all statements at once -/
structure SoundS (F : Nat → FS) (cl : Cls) (a : S) : Prop where
  s : ∀ (c : Cc) (X : Cx) (Wx : WX) (st : Stmt), GoodS F cl c X → Takes X Wx → chkS c st a = true → PSt F cl X Wx st a
  ss : ∀ (c : Cc) (X : Cx) (Wx : WX) (sts : List Stmt), GoodS F cl c X → Takes X Wx → chkSs c sts a = true → PSts F cl X Wx sts a
theorem SoundS.only {a : S} (e : ∀ (c : Cc) (X : Cx) (Wx : WX) (st : Stmt), GoodS F cl c X → Takes X Wx → chkS c st a = true → PSt F cl X Wx st a) (hl : ∀ c es, chkSs c es a = false) : SoundS F cl a :=
  ⟨e, fun c X Wx es _ _ h => absurd h (by rw [hl]; decide)⟩
theorem soundS : ∀ a : S, SoundS F cl a := by
  intro a
  induction a with
  | nil =>
    refine ⟨fun c X Wx st G tk h => by simp [chkS] at h, fun c X Wx sts G tk h => ?_⟩
    cases sts with
    | nil => exact sts_nil
    | cons _ _ => simp [chkSs] at h
  | cons a b ia ib =>
    refine ⟨fun c X Wx st G tk h => by simp [chkS] at h, fun c X Wx sts G tk h => ?_⟩
    cases sts with
    | nil => simp [chkSs] at h
    | cons st r =>
      simp only [chkSs, Bool.and_eq_true] at h
      exact sts_cons (ia.s c X Wx st G tk h.1) (ib.ss c X Wx r G tk h.2)
  | expr e =>
    refine .only (fun c X Wx st G tk h => ?_) fun _ _ => by simp [chkSs]
    unfold chkS at h
    split at h
    · simp only [Bool.and_eq_true] at h
      exact st_expr h.1 ((sound e).e c X Wx _ G.toGood tk h.2).1
    · cases h
  | ret e =>
    refine .only (fun c X Wx st G tk h => ?_) fun _ _ => by simp [chkSs]
    unfold chkS at h
    split at h
    · exact st_ret ((sound e).e c X Wx _ G.toGood tk h).1
    · cases h
  | retN =>
    refine .only (fun c X Wx st G tk h => ?_) fun _ _ => by simp [chkSs]
    unfold chkS at h
    split at h
    · exact st_retN
    · cases h
  | asg tg e =>
    refine .only (fun c X Wx st G tk h => ?_) fun _ _ => by simp [chkSs]
    unfold chkS at h
    split at h
    · rename_i t x p
      simp only [Bool.and_eq_true, Bool.or_eq_true] at h
      obtain ⟨⟨h1, h2⟩, h3 | h3⟩ := h
      · exact st_asg G.toGood h1 h3.1 (by simpa using h3.2) ((sound e).e c X Wx _ G.toGood tk h2).1
      · split at h3
        · rename_i y py
          have hx : ∃ el gens sc ps, x = .ListComp el gens sc ps := by
            cases x <;> simp [compLine] at h3
            exact ⟨_, _, _, _, rfl⟩
          obtain ⟨el, gens, sc, ps, rfl⟩ := hx
          cases tg with
          | tup is => simp [chkTg] at h1
          | name i =>
            cases e <;> simp only [chk] at h2 <;> first | cases h2 | skip
            rename_i mu own tg ik e1 e2 cond elt
            split at h2
            · rename_i y' t it ifs as scope p' heq
              cases heq
              simp only [Bool.and_eq_true, decide_eq_true_eq] at h2
              obtain ⟨⟨⟨⟨⟨⟨⟨k0, k1⟩, k2⟩, k3⟩, k4⟩, k5⟩, k6⟩, k7⟩ := h2
              subst k0
              refine st_asgLc G.toGood (by simpa [chkTg] using h1) h3 k1 k2 k3 k5 (it_of G.toGood tk (sound e1) (sound e2) k4) (fun X' _ G' tk' => ?_) fun X' _ G' tk' => ((sound elt).e _ X' _ _ G' tk' k7).1
              unfold chkC at k6
              split at k6
              · rw [yes_of k6]
                refine pts_imp pts_nil ?_
                rintro σ H Q ⟨W, r', m, Qd, R, hs, hr, ⟨t, et, q⟩, hc, hx⟩
                cases et
                exact hc W true m H (.refl hr) hr q
              · exact pts_one ((sound cond).e _ X' _ _ G' tk' k6).2
              · cases k6
            · cases h2
        · cases h3
    · cases h
  | par is es =>
    refine .only (fun c X Wx st G tk h => ?_) fun _ _ => by simp [chkSs]
    unfold chkS at h
    split at h
    · simp only [Bool.and_eq_true] at h
      exact st_par G.toGood h.1 h.2 ((sound es).l c X Wx _ G.toGood tk h.2)
    · cases h
  | setIx o i e =>
    refine .only (fun c X Wx st G tk h => ?_) fun _ _ => by simp [chkSs]
    unfold chkS at h
    split at h
    · simp only [Bool.and_eq_true] at h
      obtain ⟨⟨⟨⟨h1, h2⟩, h3⟩, h4⟩, h5⟩ := h
      exact st_setIx h1 h2 ((sound o).e c X Wx _ G.toGood tk h3).1 ((sound i).e c X Wx _ G.toGood tk h4).1 ((sound e).e c X Wx _ G.toGood tk h5).1
    · cases h
  | ite t a b ia ib =>
    refine .only (fun c X Wx st G tk h => ?_) fun _ _ => by simp [chkSs]
    unfold chkS at h
    split at h
    · simp only [Bool.and_eq_true] at h
      obtain ⟨⟨h1, h2⟩, h3⟩ := h
      exact st_ite ((sound t).e c X Wx _ G.toGood tk h1).2 (ia.ss c X Wx _ G tk h2) (ib.ss c X Wx _ G tk h3)
    · cases h
  | loop tg ik e1 e2 body ib =>
    refine .only (fun c X Wx st G tk h => ?_) fun _ _ => by simp [chkSs]
    unfold chkS at h
    split at h
    · simp only [Bool.and_eq_true] at h
      obtain ⟨⟨⟨h1, h2⟩, h3⟩, h4⟩ := h
      exact st_loop G h1 h2 (it_of G.toGood tk (sound e1) (sound e2) h3) (ib.ss c X Wx _ G tk h4)
    · cases h
  | whil t body ib =>
    refine .only (fun c X Wx st G tk h => ?_) fun _ _ => by simp [chkSs]
    unfold chkS at h
    split at h
    · simp only [Bool.and_eq_true] at h
      exact st_whil G ((sound t).e c X Wx _ G.toGood tk h.1).2 (ib.ss c X Wx _ G tk h.2)
    · cases h
  | raise k e => exact .only (fun c X Wx st G tk h => by simp [chkS] at h) fun _ _ => by simp [chkSs]
  | pass =>
    refine .only (fun c X Wx st G tk h => ?_) fun _ _ => by simp [chkSs]
    unfold chkS at h
    split at h
    · refine ps_imp ps_pass ?_
      rintro D σ H ⟨W, r, m, d, hs, hr, hw, k⟩
      exact k.nx _ _ _ _ _ (.refl hr) hs hr hw
    · cases h
  | brk =>
    refine .only (fun c X Wx st G tk h => ?_) fun _ _ => by simp [chkSs]
    unfold chkS at h
    split at h
    · refine ps_imp ps_break ?_
      rintro D σ H ⟨W, r, m, d, hs, hr, hw, k⟩
      exact k.bk _ _ _ _ _ (.refl hr) hs hr hw
    · cases h
  | cont =>
    refine .only (fun c X Wx st G tk h => ?_) fun _ _ => by simp [chkSs]
    unfold chkS at h
    split at h
    · refine ps_imp ps_continue ?_
      rintro D σ H ⟨W, r, m, d, hs, hr, hw, k⟩
      exact k.ct _ _ _ _ _ (.refl hr) hs hr hw
    · cases h
  | never =>
    exact ⟨fun c X Wx st G tk h => ps_imp ps_never (by rintro D σ H ⟨W, r, m, d, hs, hr, hw, k⟩; exact hw), fun c X Wx st G tk h => pss_imp pss_never (by rintro D σ H ⟨W, r, m, d, hs, hr, hw, k⟩; exact hw)⟩
end
end Dy

/-! Dp, part K: defs from their bodies; the end of a law. -/
namespace Dy
open PySem PySem.Spec PyProof.Rows L2
/-! ### what names no object beyond n -/
mutual
def cV (n : Nat) : Val → Bool
  | .loc k => decide (k < n)
  | .tup vs => cVs n vs
  | .il _ vs => cVs n vs
  | _ => true
def cVs (n : Nat) : List Val → Bool
  | [] => true
  | v :: vs => cV n v && cVs n vs
end
def cO (n : Nat) : Ob → Bool
  | .list vs => cVs n vs
def cM (n : Nat) (m : Store) : Bool := m.all (cO n)
section
variable {K : Frag} {W W1 : Wd} {H H1 : Hp} {m : Store}
mutual
theorem RV.closed : ∀ {v : Val} {x : V}, RV K W H v x → cV W.phi.length v = true
  | _, _, .non => rfl
  | _, _, .bool b => rfl
  | _, _, .int i => rfl
  | _, _, .str t => rfl
  | _, _, .tup q r => by simp only [cV]; exact RVs.closed r
  | _, _, .il1 i q r => by simp only [cV]; exact RVs.closed r
  | _, _, .il0 i q r => by simp only [cV]; exact RVs.closed r
  | _, _, .ilk q r => by simp only [cV]; exact RVs.closed r
  | _, _, .loc q => by simp only [cV, decide_eq_true_eq]; exact (List.getElem?_eq_some_iff.mp q).1
theorem RVs.closed : ∀ {vs : List Val} {ys : List V}, RVs K W H vs ys → cVs W.phi.length vs = true
  | _, _, .nil => rfl
  | _, _, .cons r t => by simp only [cVs, Bool.and_eq_true]; exact ⟨RV.closed r, RVs.closed t⟩
end
def Wd.cut (W : Wd) (n : Nat) : Wd := ⟨W.phi.take n, W.I⟩
mutual
theorem RV.cut {n : Nat} : ∀ {v : Val} {x : V}, RV K W H v x → cV n v = true → RV K (W.cut n) H v x
  | _, _, .non, _ => .non
  | _, _, .bool b, _ => .bool b
  | _, _, .int i, _ => .int i
  | _, _, .str t, _ => .str t
  | _, _, .tup q r, h => .tup q (RVs.cut r (by simpa only [cV] using h))
  | _, _, .il1 i q r, h => .il1 i q (RVs.cut r (by simpa only [cV] using h))
  | _, _, .il0 i q r, h => .il0 i q (RVs.cut r (by simpa only [cV] using h))
  | _, _, .ilk q r, h => .ilk q (RVs.cut r (by simpa only [cV] using h))
  | _, _, .loc q, h => .loc (by
      simp only [cV, decide_eq_true_eq] at h
      show (W.phi.take n)[_]? = _
      rw [List.getElem?_take, if_pos h]; exact q)
theorem RVs.cut {n : Nat} : ∀ {vs : List Val} {ys : List V}, RVs K W H vs ys → cVs n vs = true → RVs K (W.cut n) H vs ys
  | _, _, .nil, _ => .nil
  | _, _, .cons r t, h => by
    simp only [cVs, Bool.and_eq_true] at h
    exact .cons (RV.cut r h.1) (RVs.cut t h.2)
end
theorem HR.closed (h : HR K W m H) : cM m.length m = true := by
  unfold cM
  rw [List.all_eq_true]
  intro o ho
  obtain ⟨n, hn, e⟩ := List.mem_iff_getElem.mp ho
  obtain ⟨a, _, r⟩ := h.obj n o (by rw [List.getElem?_eq_getElem hn, e])
  cases o with
  | list vs =>
    obtain ⟨xs, _, r⟩ := r
    show cVs m.length vs = true
    rw [← h.len]
    exact r.closed
theorem HR.cut (h : HR K W m H) {n : Nat} (hc : cM n (m.take n) = true) : HR K (W.cut n) (m.take n) H where
  len := by show (W.phi.take n).length = _; simp [h.len]
  nd := h.nd.sublist (List.take_sublist n W.phi)
  dis := fun a ha => h.dis a (List.mem_of_mem_take ha)
  inh := h.inh
  obj := fun k o q => by
    have hk : k < n := by
      have := (List.getElem?_eq_some_iff.mp q).1
      simp at this; omega
    have q' : m[k]? = some o := by rw [List.getElem?_take, if_pos hk] at q; exact q
    obtain ⟨a, e1, r⟩ := h.obj k o q'
    refine ⟨a, by show (W.phi.take n)[k]? = _; rw [List.getElem?_take, if_pos hk]; exact e1, ?_⟩
    have ho : cO n o = true := (List.all_eq_true.mp hc) o (List.mem_of_getElem? q)
    cases o with
    | list vs =>
      obtain ⟨xs, q1, r1⟩ := r
      exact ⟨xs, q1, r1.cut ho⟩
theorem Ext.cut (e : Ext W H W1 H1) {n : Nat} (hn : W.phi.length ≤ n) : Ext W H (W1.cut n) H1 where
  pre := by
    obtain ⟨more, e1, e2⟩ := e.pre
    refine ⟨more.take (n - W.phi.length), ?_, fun a ha => e2 a (List.mem_of_mem_take ha)⟩
    show W1.phi.take n = _
    rw [e1, List.take_append, List.take_of_length_le hn]
  inc := e.inc
  new := e.new
  fr := e.fr
  al := e.al
end
/-- a def's end: what it made and nobody holds is forgotten -/
def ret (n0 : Nat) (Q : Val → Store → Prop) (v : Val) (m : Store) : Prop := Q v m ∨ ∃ n, n0 ≤ n ∧ cV n v = true ∧ cM n (m.take n) = true ∧ Q v (m.take n)
theorem ret_cont {K : Frag} {W : Wd} {H : Hp} {m : Store} {Qd : Val → Store → Prop} {Q : VK} (h : HR K W m H) (k : Cont K W H Qd Q) : Cont K W H (ret m.length Qd) Q := by
  intro W' v x m' H' e rv hr q
  rcases q with q | ⟨n, h1, h2, h3, q⟩
  · exact k W' v x m' H' e rv hr q
  · exact k (W'.cut n) v x (m'.take n) H' (e.cut (by rw [h.len]; exact h1)) (rv.cut h2) (hr.cut h3) q
def retX (n0 : Nat) (R : Rq) : Rq := fun c => ret n0 (R c)
theorem retX_cont {K : Frag} {cl : Cls} {W : Wd} {H : Hp} {m : Store} {R : Rq} {E : XK} (h : HR K W m H) (k : ContE K cl W H R E) : ContE K cl W H (retX m.length R) E := by
  intro W' c v x d m' H' e rv hr hd q
  rcases q with q | ⟨n, h1, h2, h3, q⟩
  · exact k W' c v x d m' H' e rv hr hd q
  · exact k (W'.cut n) c v x d (m'.take n) H' (e.cut (by rw [h.len]; exact h1)) (rv.cut h2) (hr.cut h3) hd q
/-- the ends of a body -/
def bodyEn (n0 : Nat) (Q : Val → Store → Prop) (R : Rq) : En where
  nx := fun _ m => ret n0 Q .non m
  rt := ret n0 Q
  bk := fun _ _ => False
  ct := fun _ _ => False
  rx := fun _ => retX n0 R
def startE (n : Nat) (args : List Val) : Env := args.map some ++ List.replicate (n - args.length) none
/-- what is to be shown of a def -/
def Meets (F : Nat → FS) (n : Nat) (body : S) (fs : FS) : Prop :=
  ∀ args m Q R, cM m.length m = true → cVs m.length args = true → fs args m Q R → wpS F body (startE n args) m (bodyEn m.length Q R)
theorem start_rel {K : Frag} {W : Wd} {H : Hp} {N : List Str} {args : List Val} {vs : List V} (r : RVs K W H args vs) : SR K W H (startE N.length args) (L2.start N vs) := by
  unfold startE L2.start
  rw [r.length]
  refine ⟨by simp [r.length], fun i v q => ?_⟩
  by_cases hi : i < args.length
  · rw [List.getElem?_append_left (by simpa using hi), List.getElem?_map] at q
    rw [List.getElem?_append_left (by rw [List.length_map, ← r.length]; exact hi), List.getElem?_map]
    simp only [Option.map_eq_some_iff] at q
    obtain ⟨w, e1, e2⟩ := q
    cases e2
    obtain ⟨x, e3, rv⟩ := r.get e1
    exact ⟨x, by rw [e3]; rfl, rv⟩
  · rw [List.getElem?_append_right (by simp; omega)] at q
    obtain ⟨_, e⟩ := List.getElem?_eq_some_iff.mp q
    simp at e
/-! ### a def's promise from its body -/
theorem fnG_body {P : Program} {w : World} {K : Frag} {mg : Str → Option Value} {base : Heap} {k : Nat} {f : Addr} {x qual : Str} {st : Stmt} {fd : FuncData} {N ps : List Str} {sp : Sp} (T : Fun K x qual st f fd) (S : FnScope N ps (defScope st))
    (hlen : ∀ vs H Q E, sp vs H Q E → vs.length = ps.length)
    (hb : ∀ (cdv : Value) (A : Around) (outer : List PySem.Env) (s : Shared) (H : Hp) (vs : List V) (Q : VK) (E : XK), Room k (A.deeper (envOfC qual (defScope st) s.heap.objs.size f cdv)) → A.guards = some [] → sp vs H Q E →
      ∃ t, PSs (cxOf (L2.CX P w) P w K mg base N qual (defScope st) f cdv A outer s H E) (defBody st) t ∧ t { nx := fun _ H1 => Q .non H1, rt := Q } (L2.start N vs) H) :
    FnG P w K mg base (k + 1) f fd ps sp := by
  obtain ⟨oc, od, kV, doc, pm, an, cdv, ct, osl, rfl, lk, hcd⟩ := T.ex
  constructor
  · exact hlen
  intro A outer s H args us vs Q E room hg e0 bd rel hsp
  have old : ∀ b o, base.get? b = some o → s.heap.get? b = some o := fun b o z => (e0.bs b o z).1
  have inK : K.In s.heap := e0.mod.kin.keeps old
  refine codeAny_call_function room.depth (inK _ _ lk) rfl S.co S.gen rfl (PySem.W.codeRec_of inK hcd) (bd _ _ _ _ ?_)
  refine wpAny_newFunctionEnv_cells S.kind ?par ?go
  case par =>
    rintro ⟨n, v⟩ hy
    rcases S.par n (List.of_mem_zip hy).1 with z | z
    · exact .inl z
    · exact .inr ⟨z, PySem.W.cellsFrom_some _ _ _ (.inl z)⟩
  case go =>
    rintro env rfl s1 ic
    refine ⟨(e0.mod.nolimit.keeps old).keeps ic.toInCall.keep, codeAny_func ?_⟩
    obtain ⟨t, h1, h2⟩ := hb cdv A outer s H vs Q E (room.deeper _) hg hsp
    have inv := inv_start (CX := L2.CX P w) (E := E) S room.hd e0 (hlen _ _ _ _ hsp) rel ic
    refine wpAny_mono (h1.run [] s1 _ H _ inv h2) ?_ fun _ _ z => z
    intro fl s2 z
    match fl, z with
    | .ret u, ⟨v, σ2, H2, J, rv, q⟩ => exact ⟨v, H2, J.os, J.bare, J.base, J.hok, rv, q⟩
    | .next, ⟨σ2, H2, J, q⟩ => exact ⟨.non, H2, J.os, J.bare, J.base, J.hok, rfl, q⟩
    | .brk, ⟨_, _, _, q⟩ => exact q.elim
    | .cont, ⟨_, _, _, q⟩ => exact q.elim
/-- what the module has: constants, built-ins that are not bound anew, defs -/
structure Glob (P : Program) (w : World) (K : Frag) (mg : Str → Option Value) (base : Heap) (F : Nat → FS) (cl : Cls) (lev : Nat) (gl : List (Str × Val)) (bl : List Str) (fns : List (Str × Nat)) : Prop where
  gl : ∀ x v, gl.lookup x = some v → ∃ u xv, mg x = some u ∧ RelV xv u ∧ ∀ W H, RV K W H v xv
  bl : ∀ x, bl.contains x = true → mg x = none
  fns : ∀ x f, fns.lookup x = some f → ∃ (a : Addr) (fd : FuncData) (ps : List Str) (k : Nat), mg x = some (.ref a) ∧ PySem.W.keepIn K (.ref a) = true ∧ Binds K fd ps [] ∧
    FnG P w K mg base k a fd ps (spG K cl ps.length (F f)) ∧ k ≤ lev ∧ ∀ vs m Q R, F f vs m Q R → vs.length = ps.length
theorem def_ok {P : Program} {w : World} {K : Frag} {mg : Str → Option Value} {base : Heap} {F : Nat → FS} {cl : Cls} {lev : Nat} {gl : List (Str × Val)} {bl : List Str} {fns : List (Str × Nat)} {f : Addr} {x qual : Str} {st : Stmt} {fd : FuncData} {N ps : List Str} {body : S} {fs : FS}
    (G : Glob P w K mg base F cl lev gl bl fns) (hlev : 1 ≤ lev) (T : Fun K x qual st f fd) (S : FnScope N ps (defScope st)) (hc : chkSs ⟨N, (defScope st).names, true, gl, bl, fns⟩ (defBody st) body = true) (hm : Meets F N.length body fs) :
    FnG P w K mg base (lev + 1) f fd ps (spG K cl ps.length fs) := by
  refine fnG_body T S (fun vs H Q E h => ?_) (fun cdv A outer s H vs Q E room hg h => ?_)
  · obtain ⟨_, _, _, _, _, hl, _⟩ := h
    exact hl
  · obtain ⟨W, args, m, Qd, R, hl, ra, hr, hf, kc, kx⟩ := h
    refine ⟨_, (soundS (F := F) (cl := cl) body).ss _ _ (fun cls d _ H1 => E cls d H1) _ ⟨⟨rfl, S.nd, S.kind, rfl, fun _ _ => rfl, rfl, hg, room.mono hlev, G.gl, G.bl, fun y g e => ?_⟩, passes_of rfl⟩ (takes_of rfl rfl rfl rfl) hc, ?_⟩
    · obtain ⟨a, fd, ps, k, h1, h2, h3, h4, h5, h6⟩ := G.fns y g e
      exact ⟨a, fd, ps, k, h1, h2, h3, h4, room.mono h5, h6⟩
    · have hcl : cVs m.length args = true := by rw [← hr.len]; exact ra.closed
      refine ⟨W, startE N.length args, m, bodyEn m.length Qd R, start_rel ra, hr, hm args m Qd R hr.closed hcl hf, ⟨?_, ret_cont hr kc, ?_, ?_, ?_⟩⟩
      · intro W1 r1 m1 σ1 H1 e1 hs1 hr1 q
        exact ret_cont hr kc W1 .non .non m1 H1 e1 .non hr1 q
      · intro W1 r1 m1 σ1 H1 e1 hs1 hr1 q
        exact q.elim
      · intro W1 r1 m1 σ1 H1 e1 hs1 hr1 q
        exact q.elim
      · intro W1 r1 σ1 H1 e1 hs1
        intro W2 c v x d m2 H2 e2 rv hr2 hd q
        exact retX_cont hr kx W2 c v x d m2 H2 (e1.trans e2) rv hr2 hd q
/-! ### the law -/
/-- the world in which the law begins -/
def world0 (H : Hp) : Wd := ⟨[], fun b => H b ≠ none⟩
theorem world0_ok (K : Frag) (H : Hp) : HR K (world0 H) [] H where
  len := rfl
  nd := List.nodup_nil
  dis := fun a z => by cases z
  inh := fun a z => z
  obj := fun n o q => by simp at q
theorem ints_rel {K : Frag} {W : Wd} {H : Hp} : ∀ ns : List Int, RVs K W H (ns.map .int) (ns.map V.int)
  | [] => .nil
  | n :: ns => .cons (.int n) (ints_rel ns)
theorem script_rel {K : Frag} {H : Hp} {a : Addr} {ns : List Int} (h : SqL K H a (ns.map V.int)) : RV K (world0 H) H (.il false (ns.map .int)) (.ref a) := by
  by_cases z : H a = none
  · refine .ilk ?_ (ints_rel ns)
    rcases h with (h | ⟨o, h⟩) | h
    · rw [z] at h; cases h
    · rw [z] at h; cases h
    · exact .inr h
  · exact .il0 z h (ints_rel ns)
/-- the law's call: every script is handed in as a list that is read alone -/
theorem lawG {P : Program} {w : World} {K : Frag} {mg mb : Str → Option Value} {k : Nat} {fa a : Addr} {fd : FuncData} {x : Str} {cl : Cls} {fs : FS} {s1 : Shared} {us : List Value} {ns : List Int} (inK : K.In s1.heap) (hm : s1.heap.Ns mainGlobals mg) (hb : s1.heap.Ns builtinsNs mb)
    (hbb : ∀ x : Str, x ≠ "__name__" → mb x = bootBuiltins x) (lim : s1.heap.NoLimit) (hg : s1.gens = #[]) (ha : s1.heap.get? a = some { cls := .type "list", data := .seq us.toArray }) (hi : IntsAre us ns) (hl : ns.length ≤ sizeLine) (room : Room k callerA)
    (F : ∀ base : Heap, K.In base → base.Ns mainGlobals mg → FnG P w K mg base k fa fd [x] (spG K cl 1 fs)) (bd : ∀ (s : Shared) (u : Value), BindsTo s fd ⟨[u], []⟩ [(x, u)]) (law : fs [.il false (ns.map .int)] [] (fun v _ => v = .bool true) noR) :
    codeAny (model P w) callerA (.call (.ref fa) ⟨[.ref a], []⟩) (fun z t => z = .ok (.ret (.bool true)) ∧ OldK s1.heap t.heap ∧ t.os = s1.os ∧ AllBare t.gens) s1 := by
  have rel : Vals (ns.map V.int) us := vals_ints hi
  -- the abstract heap: nothing, or the script alone, locked
  obtain ⟨H, hS, hok, hO⟩ : ∃ H : Hp, SqL K H a (ns.map V.int) ∧ HOk P w H s1.heap ∧ ∀ b, H b = none ∨ (b = a ∧ K.lookup a = none ∧ H b = some (.frz { cls := .type "list", data := .seq us.toArray } (.lst (ns.map V.int)))) := by
    cases hk : K.lookup a with
    | some o =>
      have e := inK a o hk
      rw [ha] at e
      cases e
      exact ⟨fun _ => none, .inr ⟨_, us.toArray, _, hk, rfl, rfl, rfl, by rw [List.size_toArray, hi.length]; exact hl, by simpa using rel⟩, fun b u z => (by simp at z), fun b => .inl rfl⟩
    | none =>
      refine ⟨fun b => if b = a then some (.frz { cls := .type "list", data := .seq us.toArray } (.lst (ns.map V.int))) else none, .inl (.inr ⟨_, if_pos rfl⟩), fun b u z => ?_, fun b => ?_⟩
      · simp only at z
        split at z
        · rename_i hb
          cases z
          subst hb
          exact ⟨ha, by rw [List.length_map]; exact hl, us, _, rel, ha⟩
        · cases z
      · by_cases hb : b = a
        · exact .inr ⟨hb, rfl, if_pos hb⟩
        · exact .inl (if_neg hb)
  have free : ∀ b o, s1.heap.get? b = some o → (∀ us n, o.data ≠ .seq us n) → H b = none := fun b o e hd => by
    rcases hO b with z | ⟨z, _, _⟩
    · exact z
    · subst z; rw [ha] at e; cases e
      exact absurd rfl (hd _ _)
  have nsK : ∀ b m, s1.heap.Ns b m → (hidT s1.heap H).Ns b m := fun b m ⟨o, es, ep, e, d, r⟩ => ⟨o, es, ep, hidT_get e (free b o e fun us n z => by rw [d] at z; cases z), d, r⟩
  have hidK : K.In (hidT s1.heap H) := fun b o e => hidT_get (inK b o e) (by
    rcases hO b with z | ⟨z, z2, _⟩
    · exact z
    · subst z; rw [z2] at e; cases e)
  have md : Mod K mg (hidT s1.heap H) := by
    obtain ⟨mc, c1, c2⟩ := lim
    exact ⟨hidK, nsK _ _ hm, ⟨mb, nsK _ _ hb, hbb⟩, mc, nsK _ _ c1, c2⟩
  have e0 : Env0 P w K mg (hidT s1.heap H) callerA [] s1 H := ⟨rfl, md, fun b o e => of_hidT e, Nat.le_of_eq (hidT_size _ _), trivial, fun b z => (nomatch (show b ∈ ([] : List Addr) from z)), hok, .of_eq hg⟩
  refine codeAny_mono ((F _ hidK (nsK _ _ hm)).run callerA [] s1 H ⟨[.ref a], []⟩ [.ref a] [.ref a] (fun v _ => v = .bl true) (fun _ _ _ => False) room rfl e0 (bd s1 (.ref a)) (.cons rfl .nil)
    ⟨world0 H, [.il false (ns.map .int)], [], _, noR, rfl, .cons (script_rel hS) .nil, world0_ok K H, law, fun W' v y m' H' e rv hr q => ?_, fun _ _ _ _ _ _ _ _ _ _ _ z => z.elim⟩) ?_
  · have q' : v = .bool true := q
    subst q'
    exact rv.bool_inv
  · intro z t hz
    match z, hz with
    | .error e, hz =>
      obtain ⟨_, _, _, _, _, _, _, _, _, _, _, _, q⟩ := hz
      exact q.elim
    | .ok (.ret u), ⟨v, H2, os, bare, un, hok2, rv, q⟩ =>
      have q' : v = .bl true := q
      subst q'
      obtain rfl : u = Value.bool true := rv
      refine ⟨rfl, OldK.of_keep fun b o e => ?_, os, bare⟩
      rcases hO b with z | ⟨_, _, z⟩
      · exact un.keep b o e z (fun y => (nomatch (show b ∈ ([] : List Addr) from y))) (fun y => (nomatch y))
      · obtain ⟨e1, _⟩ := hok b _ z
        obtain ⟨e2, _⟩ := hok2 b _ (un.frzs b _ _ z)
        rw [e] at e1; cases e1
        exact e2
theorem walkG {l : PySem.W.OpenLaw} {n k : Nat} {q : Program} {loose : List Str} {XP : (Str → Option Value) → Heap → Prop} {YP : World → Heap → Prop} {d : DefRec} {K : Params → Frag} {fs : FS} {x : Str} (hn : l.most = some n) (hn2 : n ≤ sizeLine) (hdf : d.params.defaults = []) (room : Room k callerA)
    (hY : ∀ (w : World) (h : Heap), YP w h → (K w.params).In h)
    (F : ∀ (w : World) (mg : Str → Option Value) (fa : Addr) (h : Heap), (K w.params).In h → h.Ns mainGlobals mg → mg d.name = some (.ref fa) → ∃ (fd : FuncData) (cl : Cls), (∀ (s : Shared) (u : Value), BindsTo s fd ⟨[u], []⟩ [(x, u)]) ∧
      ∀ base : Heap, (K w.params).In base → base.Ns mainGlobals mg → FnG l.prog w (K w.params) mg base k fa fd [x] (spG (K w.params) cl 1 fs))
    (law : ∀ ns : List Int, ns.length ≤ n → fs [.il false (ns.map .int)] [] (fun v _ => v = .bool true) noR) : PySem.W.WalkO q loose XP YP l.row.toRowW d [] (fun f vs => PySem.call f vs) := by
  refine Att.attach_call hn hdf ?_
  intro w s0 s1 mg mb fa o pm cd doc a us ns G Y ho hd hcd hmg hobj hints hlen hg
  obtain ⟨fd, cl, bd, hF⟩ := F w mg fa _ (hY w _ Y) G.T.g hmg
  exact lawG (hY w _ Y) G.T.g G.T.b G.T.builtins G.T.nolimit hg hobj hints (Nat.le_trans hlen hn2) room hF bd (law ns hlen)
end Dy

/-! Dp, part L: equations for simp. -/
namespace Dy
open PySem L2
section
variable (F : Nat → FS) (r : Env) (m : Store) (Q : Val → Store → Prop) (T : Bool → Store → Prop) (R : Rq)
@[simp] theorem wpE_var (i : Nat) : wpE F (.var i) r m Q R = ∃ v, r[i]? = some (some v) ∧ Q v m := rfl
@[simp] theorem wpE_cst (v : Val) : wpE F (.cst v) r m Q R = Q v m := rfl
@[simp] theorem wpE_nil : wpE F .nil r m Q R = Q (.tup []) m := rfl
@[simp] theorem wpE_cons (a b : E) : wpE F (.cons a b) r m Q R = wpE F a r m (fun v m1 => wpE F b r m1 (fun w m2 => ∃ vs, w = .tup vs ∧ Q (.tup (v :: vs)) m2) R) R := rfl
@[simp] theorem wpE_tup (es : E) : wpE F (.tup es) r m Q R = wpE F es r m (fun v m1 => ∃ vs, v = .tup vs ∧ vs.length ≤ sizeLine ∧ Q (.tup vs) m1) R := rfl
@[simp] theorem wpE_lst (mu : Bool) (es : E) : wpE F (.lst mu es) r m Q R = wpE F es r m (fun v m1 => ∃ vs, v = .tup vs ∧ vs.length ≤ sizeLine ∧ newL mu vs m1 Q) R := rfl
@[simp] theorem wpE_bin (op : BOp) (a b : E) : wpE F (.bin op a b) r m Q R = wpE F a r m (fun v m1 => wpE F b r m1 (fun w m2 => binW op v w m2 Q) R) R := rfl
@[simp] theorem wpE_neg (a : E) : wpE F (.neg a) r m Q R = wpE F a r m (fun v m1 => ∃ i, v = .int i ∧ Q (.int (-i)) m1) R := rfl
@[simp] theorem wpE_cmp (op : COp) (a b : E) : wpE F (.cmp op a b) r m Q R = wpE F a r m (fun v m1 => wpE F b r m1 (fun w m2 => cmpW op v w m2 fun t => Q (.bool t) m2) R) R := rfl
@[simp] theorem wpE_chain (o1 o2 : COp) (a b c : E) : wpE F (.chain o1 o2 a b c) r m Q R = wpE F a r m (fun v m1 => wpE F b r m1 (fun w m2 => cmpW o1 v w m2 fun t =>
    if t = true then wpE F c r m2 (fun u m3 => cmpW o2 w u m3 fun t => Q (.bool t) m3) R else Q (.bool false) m2) R) R := rfl
@[simp] theorem wpE_isN (neg : Bool) (a : E) : wpE F (.isN neg a) r m Q R = wpE F a r m (fun v m1 => Q (.bool (neg != isNon v)) m1) R := rfl
@[simp] theorem wpE_one (a : E) : wpE F (.one a) r m Q R = wpE F a r m Q R := rfl
@[simp] theorem wpE_and (a b : E) : wpE F (.and a b) r m Q R = wpE F a r m (fun v m1 => ∃ t, tru m1 v = some t ∧ if t = true then wpE F b r m1 Q R else Q v m1) R := rfl
@[simp] theorem wpE_or (a b : E) : wpE F (.or a b) r m Q R = wpE F a r m (fun v m1 => ∃ t, tru m1 v = some t ∧ if t = true then Q v m1 else wpE F b r m1 Q R) R := rfl
@[simp] theorem wpE_not (a : E) : wpE F (.not a) r m Q R = wpE F a r m (fun v m1 => ∃ t, tru m1 v = some t ∧ Q (.bool (!t)) m1) R := rfl
@[simp] theorem wpE_ite (c a b : E) : wpE F (.ite c a b) r m Q R = wpT F c r m (fun t m1 => if t = true then wpE F a r m1 Q R else wpE F b r m1 Q R) R := rfl
@[simp] theorem wpE_call (f : Nat) (args : E) : wpE F (.call f args) r m Q R = wpE F args r m (fun v m1 => ∃ vs, v = .tup vs ∧ F f vs m1 Q R) R := rfl
@[simp] theorem wpE_bi (b : Bi) (args : E) : wpE F (.bi b args) r m Q R = wpE F args r m (fun v m1 => ∃ vs, v = .tup vs ∧ biW b vs m1 Q) R := rfl
@[simp] theorem wpE_isI (t : Ty) (a : E) : wpE F (.isI t a) r m Q R = wpE F a r m (fun v m1 => Q (.bool (isT t v)) m1) R := rfl
@[simp] theorem wpE_meth (t : Mt) (o args : E) : wpE F (.meth t o args) r m Q R = wpE F o r m (fun v m1 => mtT t v ∧ wpE F args r m1 (fun w m2 => ∃ vs, w = .tup vs ∧ mtW t v vs m2 Q) R) R := rfl
@[simp] theorem wpE_idx (a i : E) : wpE F (.idx a i) r m Q R = wpE F a r m (fun v m1 => wpE F i r m1 (fun w m2 => ∃ u, idxF m2 v w = some u ∧ Q u m2) R) R := rfl
@[simp] theorem wpE_sl (hl hh : Bool) (a lo hi : E) : wpE F (.sl hl hh a lo hi) r m Q R = wpE F a r m (fun v m1 => wpE F lo r m1 (fun l m2 => ∃ i, partF hl l = some i ∧ wpE F hi r m2 (fun u m3 => ∃ j, partF hh u = some j ∧ ∃ z, sliceF m3 v i j = some z ∧ Q z m3) R) R) R := rfl
@[simp] theorem wpE_lc (mu : Bool) (own : List Nat) (tg : Tg) (ik : IK) (e1 e2 cond elt : E) : wpE F (.lc mu own tg ik e1 e2 cond elt) r m Q R = wpE F e1 r m (fun v1 m1 => wpE F e2 r m1 (fun v2 m2 => ∃ items, itF ik m2 v1 v2 = some items ∧
    lcW (fun m => itF ik m v1 v2 = some items) (fun x m P => ∃ r2, tgF tg x (wipeE r own) = some r2 ∧ wpT F cond r2 m (fun t m1 => if t = true then wpE F elt r2 m1 (fun y m2 => P (some y) m2) noR else P none m1) noR) items [] m2 fun acc m3 => newL mu acc m3 Q) R) R := rfl
@[simp] theorem wpT_one (a : E) : wpT F (.one a) r m T R = wpT F a r m T R := rfl
@[simp] theorem wpT_and (a b : E) : wpT F (.and a b) r m T R = wpT F a r m (fun t m1 => if t = true then wpT F b r m1 T R else T false m1) R := rfl
@[simp] theorem wpT_or (a b : E) : wpT F (.or a b) r m T R = wpT F a r m (fun t m1 => if t = true then T true m1 else wpT F b r m1 T R) R := rfl
@[simp] theorem wpT_not (a : E) : wpT F (.not a) r m T R = wpT F a r m (fun t m1 => T (!t) m1) R := rfl
@[simp] theorem wpT_ite (c a b : E) : wpT F (.ite c a b) r m T R = wpT F c r m (fun t m1 => if t = true then wpT F a r m1 T R else wpT F b r m1 T R) R := rfl
/-- a test by its value -/
def tst (T : Bool → Store → Prop) : Val → Store → Prop := fun v m1 => ∃ t, tru m1 v = some t ∧ T t m1
@[simp] theorem tst_bool (b : Bool) : tst T (.bool b) m = T b m := by simp [tst, tru]
@[simp] theorem tst_int (i : Int) : tst T (.int i) m = T (i != 0) m := by simp [tst, tru]
@[simp] theorem tst_non : tst T .non m = T false m := by simp [tst, tru]
@[simp] theorem wpT_var (i : Nat) : wpT F (.var i) r m T R = wpE F (.var i) r m (tst T) R := rfl
@[simp] theorem wpT_cst (v : Val) : wpT F (.cst v) r m T R = wpE F (.cst v) r m (tst T) R := rfl
@[simp] theorem wpT_tup (a : E) : wpT F (.tup a) r m T R = wpE F (.tup a) r m (tst T) R := rfl
@[simp] theorem wpT_lst (mu : Bool) (a : E) : wpT F (.lst mu a) r m T R = wpE F (.lst mu a) r m (tst T) R := rfl
@[simp] theorem wpT_bin (op : BOp) (a b : E) : wpT F (.bin op a b) r m T R = wpE F (.bin op a b) r m (tst T) R := rfl
@[simp] theorem wpT_cmp (op : COp) (a b : E) : wpT F (.cmp op a b) r m T R = wpE F (.cmp op a b) r m (tst T) R := rfl
@[simp] theorem wpT_chain (o1 o2 : COp) (a b c : E) : wpT F (.chain o1 o2 a b c) r m T R = wpE F (.chain o1 o2 a b c) r m (tst T) R := rfl
@[simp] theorem wpT_isN (neg : Bool) (a : E) : wpT F (.isN neg a) r m T R = wpE F (.isN neg a) r m (tst T) R := rfl
@[simp] theorem wpT_call (f : Nat) (a : E) : wpT F (.call f a) r m T R = wpE F (.call f a) r m (tst T) R := rfl
@[simp] theorem wpT_bi (b : Bi) (a : E) : wpT F (.bi b a) r m T R = wpE F (.bi b a) r m (tst T) R := rfl
@[simp] theorem wpT_isI (t : Ty) (a : E) : wpT F (.isI t a) r m T R = wpE F (.isI t a) r m (tst T) R := rfl
@[simp] theorem wpT_meth (t : Mt) (a b : E) : wpT F (.meth t a b) r m T R = wpE F (.meth t a b) r m (tst T) R := rfl
@[simp] theorem wpT_idx (a b : E) : wpT F (.idx a b) r m T R = wpE F (.idx a b) r m (tst T) R := rfl
@[simp] theorem newL_t (vs : List Val) : newL true vs m Q = Q (.loc m.length) (m ++ [.list vs]) := by simp [newL]
@[simp] theorem newL_f (vs : List Val) : newL false vs m Q = Q (.il true vs) m := by simp [newL]
variable (D : En)
@[simp] theorem wpS_nil : wpS F .nil r m D = D.nx r m := rfl
@[simp] theorem wpS_cons (a b : S) : wpS F (.cons a b) r m D = wpS F a r m { D with nx := fun r m => wpS F b r m D } := rfl
@[simp] theorem wpS_expr (e : E) : wpS F (.expr e) r m D = wpE F e r m (fun _ m1 => D.nx r m1) (D.rx r) := rfl
@[simp] theorem wpS_ret (e : E) : wpS F (.ret e) r m D = wpE F e r m D.rt (D.rx r) := rfl
@[simp] theorem wpS_retN : wpS F .retN r m D = D.rt .non m := rfl
@[simp] theorem wpS_asg (tg : Tg) (e : E) : wpS F (.asg tg e) r m D = wpE F e r m (fun v m1 => ∃ r1, tgF tg v r = some r1 ∧ D.nx r1 m1) (D.rx r) := rfl
@[simp] theorem wpS_par (is : List Nat) (es : E) : wpS F (.par is es) r m D = wpE F es r m (fun v m1 => ∃ vs, v = .tup vs ∧ ∃ r1, setAll is vs r = some r1 ∧ D.nx r1 m1) (D.rx r) := rfl
@[simp] theorem wpS_setIx (o i e : E) : wpS F (.setIx o i e) r m D = wpE F e r m (fun v m1 => wpE F o r m1 (fun ov m2 => wpE F i r m2 (fun iv m3 => setW ov iv v m3 fun m4 => D.nx r m4) (D.rx r)) (D.rx r)) (D.rx r) := rfl
@[simp] theorem wpS_ite (c : E) (a b : S) : wpS F (.ite c a b) r m D = wpT F c r m (fun t m1 => if t = true then wpS F a r m1 D else wpS F b r m1 D) (D.rx r) := rfl
@[simp] theorem wpS_loop (tg : Tg) (ik : IK) (e1 e2 : E) (body : S) : wpS F (.loop tg ik e1 e2 body) r m D = wpE F e1 r m (fun v1 m1 => wpE F e2 r m1 (fun v2 m2 => ∃ items, itF ik m2 v1 v2 = some items ∧
    forW (fun m => itF ik m v1 v2 = some items) (fun x r m nx => ∃ r1, tgF tg x r = some r1 ∧ wpS F body r1 m { D with nx := nx, ct := nx, bk := D.nx }) D.nx items r m2) (D.rx r)) (D.rx r) := rfl
@[simp] theorem wpS_never : wpS F .never r m D = False := rfl
@[simp] theorem wpS_pass : wpS F .pass r m D = D.nx r m := rfl
@[simp] theorem body_nx (n : Nat) : (bodyEn n Q R).nx r m = ret n Q .non m := rfl
@[simp] theorem body_rt (n : Nat) (v : Val) : (bodyEn n Q R).rt v m = ret n Q v m := rfl
@[simp] theorem body_rx (n : Nat) : (bodyEn n Q R).rx r = retX n R := rfl
end
@[simp] theorem startE_def (n : Nat) (args : List Val) : startE n args = args.map some ++ List.replicate (n - args.length) none := rfl
@[simp] theorem tgF_name (i : Nat) (v : Val) (r : Env) : tgF (.name i) v r = some (r.set i (some v)) := rfl
@[simp] theorem tgF_tup (is : List Nat) (vs : List Val) (r : Env) : tgF (.tup is) (.tup vs) r = setAll is vs r := rfl
@[simp] theorem setAll_nil (r : Env) : setAll [] [] r = some r := rfl
@[simp] theorem setAll_cons (i : Nat) (is : List Nat) (v : Val) (vs : List Val) (r : Env) : setAll (i :: is) (v :: vs) r = setAll is vs (r.set i (some v)) := rfl
@[simp] theorem wipeE_nil (r : Env) : wipeE r [] = r := rfl
@[simp] theorem wipeE_cons (r : Env) (v : Nat) (vs : List Nat) : wipeE r (v :: vs) = (wipeE r vs).set v none := rfl
section
variable (m : Store) (Q : Val → Store → Prop) (T : Bool → Prop)
@[simp] theorem bin_addI (a b : Int) : binW .add (.int a) (.int b) m Q = Q (.int (a + b)) m := rfl
@[simp] theorem bin_addS (a b : Text) : binW .add (.str a) (.str b) m Q = (a.length + b.length ≤ sizeLine ∧ Q (.str (a ++ b)) m) := rfl
@[simp] theorem bin_addL (a b : List Val) : binW .add (.il true a) (.il true b) m Q = (a.length + b.length ≤ sizeLine ∧ Q (.il true (a ++ b)) m) := rfl
@[simp] theorem bin_subI (a b : Int) : binW .sub (.int a) (.int b) m Q = Q (.int (a - b)) m := rfl
@[simp] theorem bin_mulI (a b : Int) : binW .mul (.int a) (.int b) m Q = (mulOk a b ∧ Q (.int (a * b)) m) := rfl
@[simp] theorem bin_mulL (a : List Val) (k : Int) : binW .mul (.il true a) (.int k) m Q = ((-(2 ^ 63) ≤ k ∧ k < 2 ^ 63 ∧ a.length * k.toNat ≤ sizeLine) ∧ Q (.il true (List.replicate k.toNat a).flatten) m) := rfl
@[simp] theorem bin_fdiv (a b : Int) : binW .fdiv (.int a) (.int b) m Q = (divOk b ∧ Q (.int (a / b)) m) := rfl
@[simp] theorem bin_mod (a b : Int) : binW .mod (.int a) (.int b) m Q = (0 < b ∧ Q (.int (a % b)) m) := rfl
@[simp] theorem bin_pow (a b : Int) : binW .pow (.int a) (.int b) m Q = (powOk a b ∧ Q (.int (a ^ b.toNat)) m) := rfl
@[simp] theorem cmp_lt (a b : Int) : cmpW .lt (.int a) (.int b) m T = T (decide (a < b)) := rfl
@[simp] theorem cmp_le (a b : Int) : cmpW .le (.int a) (.int b) m T = T (decide (a ≤ b)) := rfl
@[simp] theorem cmp_gt (a b : Int) : cmpW .gt (.int a) (.int b) m T = T (decide (b < a)) := rfl
@[simp] theorem cmp_ge (a b : Int) : cmpW .ge (.int a) (.int b) m T = T (decide (b ≤ a)) := rfl
theorem eqv_str (a b : Text) : PyData.eqv (.str (SX.S a)) (.str (SX.S b)) = decide (a = b) := by
  show (SX.S a == SX.S b) = decide (a = b)
  exact SX.S_beq_eq
theorem eqv_int (a b : Int) : PyData.eqv (.int a) (.int b) = decide (a = b) := by
  show (a == b) = decide (a = b)
  by_cases h : a = b <;> simp [h]
@[simp] theorem cmp_eqI (a b : Int) : cmpW .eq (.int a) (.int b) m T = T (decide (a = b)) := by simp [cmpW, pdm, pd, eqOk, scalP, eqv_int]
@[simp] theorem cmp_neI (a b : Int) : cmpW .ne (.int a) (.int b) m T = T (!decide (a = b)) := by simp [cmpW, pdm, pd, eqOk, scalP, eqv_int]
@[simp] theorem cmp_eqS (a b : Text) : cmpW .eq (.str a) (.str b) m T = T (decide (a = b)) := by simp [cmpW, pdm, pd, eqOk, scalP, eqv_str]
@[simp] theorem cmp_neS (a b : Text) : cmpW .ne (.str a) (.str b) m T = T (!decide (a = b)) := by simp [cmpW, pdm, pd, eqOk, scalP, eqv_str]
@[simp] theorem cmp_inS (c : Nat) (z : Text) : cmpW .isin (.str [c]) (.str z) m T = T (decide (c ∈ z)) := by simp [cmpW, inW]
@[simp] theorem cmp_notS (c : Nat) (z : Text) : cmpW .notin (.str [c]) (.str z) m T = T (!decide (c ∈ z)) := by simp [cmpW, inW]
@[simp] theorem bi_lenS (s : Text) : biW .len [.str s] m Q = (s.length ≤ sizeLine ∧ Q (.int s.length) m) := rfl
@[simp] theorem bi_lenT (vs : List Val) : biW .len [.tup vs] m Q = Q (.int vs.length) m := by simp [biW, sq]
@[simp] theorem bi_lenL (o : Bool) (vs : List Val) : biW .len [.il o vs] m Q = Q (.int vs.length) m := by simp [biW, sq]
@[simp] theorem bi_abs (i : Int) : biW .abs [.int i] m Q = Q (.int (if i < 0 then -i else i)) m := rfl
@[simp] theorem bi_intI (i : Int) : biW .int [.int i] m Q = Q (.int i) m := rfl
@[simp] theorem bi_intB (b : Bool) : biW .int [.bool b] m Q = Q (.int (if b then 1 else 0)) m := rfl
@[simp] theorem bi_intS (s : Text) : biW .int [.str s] m Q = ∃ n, PySem.intText? (SX.S s) = some n ∧ s.length ≤ 640 ∧ Q (.int n) m := rfl
@[simp] theorem bi_strI (i : Int) : biW .str [.int i] m Q = (i.natAbs.log2 < 1920 ∧ Q (.str (numT i)) m) := rfl
@[simp] theorem bi_strS (s : Text) : biW .str [.str s] m Q = Q (.str s) m := rfl
@[simp] theorem bi_tupL (o : Bool) (vs : List Val) : biW .tuple [.il o vs] m Q = Q (.tup vs) m := by simp [biW, sq]
@[simp] theorem bi_tupT (vs : List Val) : biW .tuple [.tup vs] m Q = Q (.tup vs) m := by simp [biW, sq]
@[simp] theorem bi_tupM (n : Nat) : biW .tuple [.loc n] m Q = ∃ vs, m[n]? = some (.list vs) ∧ Q (.tup vs) m := by
  simp only [biW, sq]
  cases h : m[n]? with
  | none => simp
  | some o => cases o; simp
@[simp] theorem bi_lstL (o : Bool) (vs : List Val) : biW .list [.il o vs] m Q = Q (.il true vs) m := by simp [biW, sq]
@[simp] theorem bi_allL (o : Bool) (vs : List Val) : biW .all [.il o vs] m Q = ∃ bs, boolsOf vs = some bs ∧ Q (.bool (bs.all id)) m := by simp [biW, sq, isL]
@[simp] theorem bi_anyL (o : Bool) (vs : List Val) : biW .any [.il o vs] m Q = ∃ bs, boolsOf vs = some bs ∧ Q (.bool (bs.any id)) m := by simp [biW, sq, isL]
@[simp] theorem bi_max (i j : Int) : biW .max [.int i, .int j] m Q = Q (.int (if j > i then j else i)) m := rfl
@[simp] theorem bi_min (i j : Int) : biW .min [.int i, .int j] m Q = Q (.int (if j < i then j else i)) m := rfl
@[simp] theorem bi_repr (v : Val) : biW .repr [v] m Q = ∃ d, pdm m v = some d ∧ reprOk d ∧ Q (.str d.shown.cps.toList) m := rfl
@[simp] theorem mtT_app (n : Nat) : mtT .append (.loc n) = True := rfl
@[simp] theorem mtT_split (s : Text) : mtT .split (.str s) = True := rfl
@[simp] theorem mtT_join (s : Text) : mtT .join (.str s) = True := rfl
@[simp] theorem mt_app (n : Nat) (v : Val) : mtW .append (.loc n) [v] m Q = ∃ vs, m[n]? = some (.list vs) ∧ vs.length < sizeLine ∧ Q .non (m.set n (.list (vs ++ [v]))) := rfl
@[simp] theorem mt_splitE (a b : Text) : mtW .split (.str a) [.str b] m Q = ((b ≠ [] ∧ b.all (· < 256) = true ∧ a.length + 2 ≤ sizeLine) ∧ Q (.il true ((TL.spl b 0 [] a).map .str)) m) := rfl
@[simp] theorem mt_joinL (a : Text) (o : Bool) (vs : List Val) : mtW .join (.str a) [.il o vs] m Q = ∃ ts : List Text, vs = ts.map .str ∧ (ts.map (·.length)).sum + ts.length * a.length ≤ 16777216 ∧ Q (.str (TL.joinL a ts)) m := by simp [mtW, sq]
@[simp] theorem idx_il (o : Bool) (vs : List Val) (i : Int) : idxF m (.il o vs) (.int i) = atI vs i := rfl
@[simp] theorem idx_tup (vs : List Val) (i : Int) : idxF m (.tup vs) (.int i) = atI vs i := rfl
@[simp] theorem idx_str (s : Text) (i : Int) : idxF m (.str s) (.int i) = if s.length ≤ sizeLine then (atI s i).map fun c => .str [c] else none := rfl
@[simp] theorem idx_loc (n : Nat) (i : Int) (u : Val) : (idxF m (.loc n) (.int i) = some u) = ∃ vs, m[n]? = some (.list vs) ∧ atI vs i = some u := by
  simp only [idxF, sq]
  cases h : m[n]? with
  | none => simp
  | some o => cases o; simp
@[simp] theorem it_str (s : Text) (v : Val) : itF .seq m (.str s) v = some (s.map fun c => .str [c]) := rfl
@[simp] theorem it_tup (vs : List Val) (v : Val) : itF .seq m (.tup vs) v = some vs := rfl
@[simp] theorem it_il (o : Bool) (vs : List Val) (v : Val) : itF .seq m (.il o vs) v = some vs := rfl
@[simp] theorem isT_def (t : Ty) (v : Val) : isT t v = isK t (kd v) := rfl
@[simp] theorem set_loc_eq (n : Nat) (k : Int) (v : Val) (P : Store → Prop) : setW (.loc n) (.int k) v m P = ∃ vs j, m[n]? = some (.list vs) ∧ ixN vs.length k = some j ∧ P (m.set n (.list (vs.set j v))) := rfl
@[simp] theorem kd_non : kd .non = .non := rfl
@[simp] theorem kd_bool (b : Bool) : kd (.bool b) = .bool := rfl
@[simp] theorem kd_int (i : Int) : kd (.int i) = .int := rfl
@[simp] theorem kd_str (s : Text) : kd (.str s) = .str := rfl
@[simp] theorem kd_tup (vs : List Val) : kd (.tup vs) = .tuple := rfl
@[simp] theorem kd_il (o : Bool) (vs : List Val) : kd (.il o vs) = .list := rfl
@[simp] theorem kd_loc (n : Nat) : kd (.loc n) = .list := rfl
@[simp] theorem isNon_non : isNon .non = true := rfl
@[simp] theorem isNon_bool (b : Bool) : isNon (.bool b) = false := rfl
@[simp] theorem isNon_int (i : Int) : isNon (.int i) = false := rfl
@[simp] theorem isNon_str (s : Text) : isNon (.str s) = false := rfl
@[simp] theorem isNon_tup (vs : List Val) : isNon (.tup vs) = false := rfl
@[simp] theorem isNon_il (o : Bool) (vs : List Val) : isNon (.il o vs) = false := rfl
@[simp] theorem isNon_loc (n : Nat) : isNon (.loc n) = false := rfl
@[simp] theorem tru_bool (b : Bool) : tru m (.bool b) = some b := rfl
@[simp] theorem tru_non : tru m .non = some false := rfl
@[simp] theorem boolsOf_nil : boolsOf [] = some [] := rfl
@[simp] theorem boolsOf_cons (b : Bool) (r : List Val) : boolsOf (.bool b :: r) = (boolsOf r).map fun bs => b :: bs := rfl
@[simp] theorem lcW_nil (live : Store → Prop) (body : Val → Store → (Option Val → Store → Prop) → Prop) (acc : List Val) (P : List Val → Store → Prop) : lcW live body [] acc m P = (live m ∧ P acc m) := rfl
@[simp] theorem forW_nil (live : Store → Prop) (step : Val → Env → Store → (Env → Store → Prop) → Prop) (k : Env → Store → Prop) (r : Env) : forW live step k [] r m = (live m ∧ k r m) := rfl
end
@[simp] theorem isK_int_non : isK .int .non = false := rfl
@[simp] theorem isK_int_bool : isK .int .bool = true := rfl
@[simp] theorem isK_int_int : isK .int .int = true := rfl
@[simp] theorem isK_int_str : isK .int .str = false := rfl
@[simp] theorem isK_int_tuple : isK .int .tuple = false := rfl
@[simp] theorem isK_int_list : isK .int .list = false := rfl
@[simp] theorem isK_bool_non : isK .bool .non = false := rfl
@[simp] theorem isK_bool_bool : isK .bool .bool = true := rfl
@[simp] theorem isK_bool_int : isK .bool .int = false := rfl
@[simp] theorem isK_bool_str : isK .bool .str = false := rfl
@[simp] theorem isK_bool_tuple : isK .bool .tuple = false := rfl
@[simp] theorem isK_bool_list : isK .bool .list = false := rfl
@[simp] theorem isK_str_non : isK .str .non = false := rfl
@[simp] theorem isK_str_bool : isK .str .bool = false := rfl
@[simp] theorem isK_str_int : isK .str .int = false := rfl
@[simp] theorem isK_str_str : isK .str .str = true := rfl
@[simp] theorem isK_str_tuple : isK .str .tuple = false := rfl
@[simp] theorem isK_str_list : isK .str .list = false := rfl
@[simp] theorem isK_tuple_non : isK .tuple .non = false := rfl
@[simp] theorem isK_tuple_bool : isK .tuple .bool = false := rfl
@[simp] theorem isK_tuple_int : isK .tuple .int = false := rfl
@[simp] theorem isK_tuple_str : isK .tuple .str = false := rfl
@[simp] theorem isK_tuple_tuple : isK .tuple .tuple = true := rfl
@[simp] theorem isK_tuple_list : isK .tuple .list = false := rfl
@[simp] theorem isK_list_non : isK .list .non = false := rfl
@[simp] theorem isK_list_bool : isK .list .bool = false := rfl
@[simp] theorem isK_list_int : isK .list .int = false := rfl
@[simp] theorem isK_list_str : isK .list .str = false := rfl
@[simp] theorem isK_list_tuple : isK .list .tuple = false := rfl
@[simp] theorem isK_list_list : isK .list .list = true := rfl
@[simp] theorem isK_dict_non : isK .dict .non = false := rfl
@[simp] theorem isK_dict_bool : isK .dict .bool = false := rfl
@[simp] theorem isK_dict_int : isK .dict .int = false := rfl
@[simp] theorem isK_dict_str : isK .dict .str = false := rfl
@[simp] theorem isK_dict_tuple : isK .dict .tuple = false := rfl
@[simp] theorem isK_dict_list : isK .dict .list = false := rfl
theorem sizeLine_is : sizeLine = 16777216 := by decide
end Dy

/-! Dp, part M: the laws' own draws. -/
namespace Dy
open PySem L2
theorem bits_le {x : Int} {n : Nat} (h0 : 0 ≤ x) (h : x < 2 ^ n) (hn : 0 < n) : Builtin.Int.intBits x ≤ n := by
  unfold Builtin.Int.intBits
  split
  · omega
  · have hx : x.natAbs < 2 ^ n := by
      have : ((x.natAbs : Nat) : Int) < ((2 ^ n : Nat) : Int) := by rw [Int.natAbs_of_nonneg h0]; simpa using h
      exact_mod_cast this
    have := PySem.Flt.log2_lt_of hn hx
    omega
theorem div_ok {n : Int} (h0 : 0 < n) (h : n < 2 ^ 30) : divOk n := by
  refine ⟨h0, ?_⟩
  have hx : n.natAbs < 2 ^ 30 := by omega
  have := PySem.Flt.log2_lt_of (by decide : 0 < 30) hx
  omega
theorem mul_right {i j : Int} (h0 : -(2 ^ 64) < j) (h : j < 2 ^ 64) : mulOk i j := .inl (.inr ⟨h0, h⟩)
theorem mul_left {i j : Int} (h0 : -(2 ^ 64) < i) (h : i < 2 ^ 64) : mulOk i j := .inl (.inl ⟨h0, h⟩)
/-- a pot of draws: the cell's own digits, a mixed number, how many were drawn -/
structure Pot where
  a : Int
  b : Int
  c : Int
def Pot.ok (p : Pot) (lim : Int) : Prop := 0 ≤ p.a ∧ 0 ≤ p.b ∧ p.b < 2 ^ 61 ∧ 0 ≤ p.c ∧ p.c ≤ lim
def Pot.ob (p : Pot) : Ob := .list [.int p.a, .int p.b, .int p.c]
/-- no pot has more draws -/
def LIM : Int := 1000000
/-- a pot at place p that has k draws left at least -/
def PotAt (m : Store) (p : Nat) (a : Pot) (k : Nat) : Prop := m[p]? = some a.ob ∧ a.ok (LIM - k)
def potB : S :=
  (.cons (.asg (.name 2) (.ite (.cmp .lt (.var 1) (.bi .len (.cons (.var 0) .nil))) (.idx (.var 0) (.var 1)) (.bin .add (.bin .mul (.cst (.int 41)) (.var 1)) (.cst (.int 13)))))
    (.cons (.asg (.name 3) (.bin .mul (.bin .mod (.bi .int (.cons (.bi .abs (.cons (.var 2) .nil)) .nil)) (.bin .pow (.bin .pow (.cst (.int 10)) (.cst (.int 60))) (.cst (.int 5)))) (.bi .int (.cons (.cmp .ge (.bi .abs (.cons (.var 2) .nil)) (.bin .pow (.cst (.int 10)) (.cst (.int 18)))) .nil))))
    (.cons (.asg (.name 4) (.bin .add (.bin .add (.bin .mul (.bin .mod (.bi .int (.cons (.var 2) .nil)) (.cst (.int 2305843009213693951))) (.cst (.int 70913))) (.bin .mul (.bin .mul (.cst (.int 6701)) (.var 1)) (.var 1))) (.cst (.int 59))))
    (.cons (.ret (.lst true (.cons (.var 3) (.cons (.bin .mod (.bi .int (.cons (.var 4) .nil)) (.cst (.int 2305843009213693921))) (.cons (.cst (.int 0)) .nil)))))
    .nil))))
/-- a new pot, of whatever digits -/
def fsPot : FS := fun args m Q _ => ∃ (o : Bool) (ns : List Int) (k : Nat), args = [.il o (ns.map .int), .int (k : Nat)] ∧ k < 1000 ∧ ∀ a : Pot, a.ok 0 → Q (.loc m.length) (m ++ [a.ob])
theorem pot_meets {F : Nat → FS} : Meets F 5 potB fsPot := by
  rintro args m Q R hm ha ⟨o, ns, k, rfl, hk, hQ⟩
  have p60 : powOk 10 60 := ⟨by decide, by decide +kernel⟩
  have p5 : powOk 1000000000000000000000000000000000000000000000000000000000000 5 := ⟨by decide, by decide +kernel⟩
  have p18 : powOk 10 18 := ⟨by decide, by decide +kernel⟩
  -- the end, whatever the cell is
  have key : ∀ cell : Int, wpS F (.cons (.asg (.name 3) (.bin .mul (.bin .mod (.bi .int (.cons (.bi .abs (.cons (.var 2) .nil)) .nil)) (.bin .pow (.bin .pow (.cst (.int 10)) (.cst (.int 60))) (.cst (.int 5)))) (.bi .int (.cons (.cmp .ge (.bi .abs (.cons (.var 2) .nil)) (.bin .pow (.cst (.int 10)) (.cst (.int 18)))) .nil))))
    (.cons (.asg (.name 4) (.bin .add (.bin .add (.bin .mul (.bin .mod (.bi .int (.cons (.var 2) .nil)) (.cst (.int 2305843009213693951))) (.cst (.int 70913))) (.bin .mul (.bin .mul (.cst (.int 6701)) (.var 1)) (.var 1))) (.cst (.int 59))))
    (.cons (.ret (.lst true (.cons (.var 3) (.cons (.bin .mod (.bi .int (.cons (.var 4) .nil)) (.cst (.int 2305843009213693921))) (.cons (.cst (.int 0)) .nil)))))
    .nil))) [some (.il o (ns.map .int)), some (.int k), some (.int cell), none, none] m (bodyEn m.length Q R) := by
    intro cell
    have hpos : (0 : Int) < ((10 : Int) ^ 60) ^ 5 := by decide
    have e60 : (60 : Int).toNat = 60 := rfl
    have e5 : (5 : Int).toNat = 5 := rfl
    have e18 : (18 : Int).toNat = 18 := rfl
    simp only [wpS_cons, wpS_asg, wpE_bin, wpE_bi, wpE_cons, wpE_var, wpE_nil, wpE_cst, wpE_cmp, wpS_ret, wpE_lst, wpS_nil, tgF_name]
    simp [p60, p5, p18, e60, e5, e18, hpos]
    refine ⟨mul_right ?_ ?_, mul_right (by decide) (by decide), mul_left (by decide) (by decide), mul_right (by omega) (by omega), by rw [sizeLine_is]; decide, ?_⟩
    · split <;> split <;> omega
    · split <;> split <;> omega
    refine .inl (hQ ⟨_, _, 0⟩ ⟨?_, ?_, ?_, Int.le_refl 0, Int.le_refl 0⟩)
    · refine Int.mul_nonneg (Int.emod_nonneg _ (by decide)) ?_
      split <;> split <;> omega
    · exact Int.emod_nonneg _ (by decide)
    · exact Int.lt_trans (Int.emod_lt_of_pos _ (by decide)) (by decide)
  unfold potB
  rw [wpS_cons, wpS_asg]
  simp only [wpE_ite, wpT_cmp, wpE_cmp, wpE_bin, wpE_bi, wpE_cons, wpE_var, wpE_nil, wpE_cst, wpE_idx, startE_def, tgF_name]
  simp
  by_cases h : k < ns.length
  · have e : atI (List.map Val.int ns) (k : Int) = some (.int ns[k]) := atI_nat (by simp [h])
    rw [if_pos (by simpa using h)]
    refine ⟨_, e, ?_⟩
    simpa [List.replicate] using key ns[k]
  · rw [if_neg (by simpa using h)]
    refine ⟨mul_left (by decide) (by decide), ?_⟩
    simpa [List.replicate] using key (41 * (k : Int) + 13)
def takeB : S :=
  (.cons (.ite (.cmp .gt (.idx (.var 0) (.cst (.int 0))) (.cst (.int 0)))
    (.cons (.asg (.name 4) (.bin .mod (.bi .int (.cons (.idx (.var 0) (.cst (.int 0))) .nil)) (.var 1)))
    (.cons (.setIx (.var 0) (.cst (.int 0)) (.bin .fdiv (.idx (.var 0) (.cst (.int 0))) (.var 1)))
    (.cons (.ret (.var 4))
    .nil)))
    .nil)
    (.cons (.setIx (.var 0) (.cst (.int 2)) (.bin .add (.idx (.var 0) (.cst (.int 2))) (.cst (.int 1))))
    (.cons (.asg (.name 2) (.idx (.lst false (.cons (.cst (.int 2147483647)) (.cons (.cst (.int 2147483629)) (.cons (.cst (.int 2147483587)) (.cons (.cst (.int 2147483579)) (.cons (.cst (.int 2147483563)) .nil)))))) (.bin .mod (.bi .int (.cons (.idx (.var 0) (.cst (.int 2))) .nil)) (.cst (.int 5)))))
    (.cons (.asg (.name 3) (.bin .mod (.bi .int (.cons (.bin .pow (.bi .int (.cons (.bin .add (.bin .add (.idx (.var 0) (.cst (.int 1))) (.bin .mul (.bin .mul (.cst (.int 98999)) (.idx (.var 0) (.cst (.int 2)))) (.idx (.var 0) (.cst (.int 2))))) (.cst (.int 43))) .nil)) (.cst (.int 3))) .nil)) (.var 2)))
    (.cons (.asg (.name 3) (.bin .mod (.bi .int (.cons (.bin .mul (.var 3) (.bin .add (.bin .mod (.bi .int (.cons (.var 3) .nil)) (.cst (.int 10007))) (.bin .mul (.cst (.int 79)) (.idx (.var 0) (.cst (.int 2)))))) .nil)) (.cst (.int 2305843009213693907))))
    (.cons (.ret (.bin .mod (.bi .int (.cons (.bin .fdiv (.var 3) (.cst (.int 103))) .nil)) (.var 1)))
    .nil))))))
/-- at most k draws from the pot at p, a value of which Post holds -/
def drawS (m : Store) (p k : Nat) (Post : Val → Prop) (Q : Val → Store → Prop) : Prop := ∃ a : Pot, PotAt m p a k ∧ ∀ (v : Val) (a' : Pot), Post v → a'.ok (a.c + k) → Q v (m.set p a'.ob)
def fsTake : FS := fun args m Q _ => ∃ (p : Nat) (n : Int), args = [.loc p, .int n] ∧ (0 < n ∧ n < 2 ^ 30) ∧ drawS m p 1 (fun v => ∃ d, v = .int d ∧ 0 ≤ d ∧ d < n) Q
@[simp] theorem atI0 {α : Type} (x : α) (r : List α) : atI (x :: r) 0 = some x := atI_nat (xs := x :: r) (j := 0) rfl
@[simp] theorem atI1 {α : Type} (x y : α) (r : List α) : atI (x :: y :: r) 1 = some y := atI_nat (xs := x :: y :: r) (j := 1) rfl
@[simp] theorem atI2 {α : Type} (x y z : α) (r : List α) : atI (x :: y :: z :: r) 2 = some z := atI_nat (xs := x :: y :: z :: r) (j := 2) rfl
theorem prime_at (i : Int) (h0 : 0 ≤ i) (h : i < 5) : ∃ u : Int, atI [Val.int 2147483647, .int 2147483629, .int 2147483587, .int 2147483579, .int 2147483563] i = some (.int u) ∧ 0 < u ∧ u < 2 ^ 31 := by
  have : i = 0 ∨ i = 1 ∨ i = 2 ∨ i = 3 ∨ i = 4 := by omega
  rcases this with z | z | z | z | z <;> subst z <;> exact ⟨_, rfl, by decide, by decide⟩
theorem take_meets {F : Nat → FS} : Meets F 5 takeB fsTake := by
  rintro args m Q R hm ha ⟨p, n, rfl, ⟨hn0, hn1⟩, ⟨a, b, c⟩, ⟨hp, h0, h1, h2, h3, h4⟩, hQ⟩
  have hl : p < m.length := (List.getElem?_eq_some_iff.mp hp).1
  have hp' : m[p]? = some (.list [.int a, .int b, .int c]) := hp
  simp only [LIM] at h4
  unfold takeB
  simp only [wpS_cons, wpS_ite, wpT_cmp, wpE_cmp, wpE_idx, wpE_var, wpE_cst, wpS_asg, wpE_bin, wpE_bi, wpE_cons, wpE_nil, wpS_setIx, wpS_ret, wpS_nil, wpE_lst, startE_def, tgF_name]
  simp [hp', atI0, atI1, atI2]
  by_cases hz : 0 < a
  · rw [if_pos hz]
    refine ⟨hn0, div_ok hn0 (by omega), 0, by simp [ixN], ?_⟩
    refine .inl (hQ _ ⟨a / n, b, c⟩ ⟨_, rfl, Int.emod_nonneg _ (by omega), Int.emod_lt_of_pos _ hn0⟩ ⟨?_, h1, h2, h3, ?_⟩)
    · exact Int.ediv_nonneg (by omega) (by omega)
    · show c ≤ c + 1
      omega
  · rw [if_neg hz]
    refine ⟨2, by simp [ixN], ?_⟩
    have hc : 0 ≤ c := h3
    have hb0 : 0 ≤ b := h1
    have hb1 : b < 2 ^ 61 := h2
    have hc4 : c ≤ 999999 := by simpa using h4
    obtain ⟨pr, e, hp0, hp1⟩ := prime_at ((c + 1) % 5) (Int.emod_nonneg _ (by decide)) (Int.emod_lt_of_pos _ (by decide))
    have hcc : (98999 * (c + 1)) * (c + 1) ≤ 98999 * 1000000 * 1000000 := Int.mul_le_mul (by omega) (by omega) (by omega) (by decide)
    have hcc0 : 0 ≤ (98999 * (c + 1)) * (c + 1) := Int.mul_nonneg (by omega) (by omega)
    have hpw : powOk (b + 98999 * (c + 1) * (c + 1) + 43) 3 := by
      refine ⟨by decide, ?_⟩
      have := bits_le (x := b + 98999 * (c + 1) * (c + 1) + 43) (n := 63) (by omega) (by omega) (by decide)
      omega
    have e3 : (3 : Int).toNat = 3 := rfl
    simp [hl, sizeLine_is, e, hp0, hpw, e3]
    refine ⟨mul_left (by decide) (by decide), mul_right (by omega) (by omega), mul_left (by decide) (by decide), ?_, div_ok (by decide) (by decide), hn0, ?_⟩
    · have g1 : 0 ≤ (b + 98999 * (c + 1) * (c + 1) + 43) ^ 3 % pr := Int.emod_nonneg _ (by omega)
      have g2 : (b + 98999 * (c + 1) * (c + 1) + 43) ^ 3 % pr < pr := Int.emod_lt_of_pos _ hp0
      exact mul_left (by omega) (by omega)
    · refine .inl (hQ _ ⟨a, b, c + 1⟩ ⟨_, rfl, Int.emod_nonneg _ (by omega), Int.emod_lt_of_pos _ hn0⟩ ⟨h0, h1, h2, ?_, ?_⟩)
      · show 0 ≤ c + 1
        omega
      · show c + 1 ≤ c + 1
        omega
/-! ### picks, lists of draws, loops of draws -/
def pick : Val → Option (List Val)
  | .str t => some (t.map fun c => .str [c])
  | .il _ vs => some vs
  | .tup vs => some vs
  | _ => none
def ofB (t : Nat) : S := .cons (.ret (.idx (.var 1) (.call t (.cons (.var 0) (.cons (.bi .len (.cons (.var 1) .nil)) .nil))))) .nil
def fsOf : FS := fun args m Q _ => ∃ (p : Nat) (s : Val) (vs : List Val), args = [.loc p, s] ∧ pick s = some vs ∧ vs ≠ [] ∧ vs.length < 2 ^ 20 ∧ drawS m p 1 (fun v => v ∈ vs) Q
theorem atI_mem {α : Type} {xs : List α} {d : Int} (h0 : 0 ≤ d) (h : d < xs.length) : ∃ v, v ∈ xs ∧ atI xs d = some v := by
  obtain ⟨n, rfl⟩ := Int.eq_ofNat_of_zero_le h0
  have hn : n < xs.length := by omega
  exact ⟨xs[n], List.getElem_mem hn, atI_nat (List.getElem?_eq_getElem hn)⟩
theorem of_meets {F : Nat → FS} {t : Nat} (hF : F t = fsTake) : Meets F 2 (ofB t) fsOf := by
  rintro args m Q R hm ha ⟨p, s, vs, rfl, hs, hne, hl, a, hp, hQ⟩
  unfold ofB
  have hpos : 0 < vs.length := List.length_pos_iff.mpr hne
  cases s with
  | str t =>
    cases hs
    simp at hl hpos
    simp [hF, fsTake, sizeLine_is]
    refine ⟨by omega, p, t.length, ⟨rfl, rfl⟩, ⟨by omega, by omega⟩, a, hp, ?_⟩
    rintro v a' ⟨d, rfl, h0, h1⟩ hok
    obtain ⟨c, hc, e⟩ := atI_mem h0 h1
    have hz : t.length ≤ 16777216 := by omega
    simp [hz, e]
    exact ⟨_, ⟨by rw [sizeLine_is]; exact hz, rfl⟩, .inl (hQ _ a' (List.mem_map.mpr ⟨c, hc, rfl⟩) hok)⟩
  | il o ws =>
    cases hs
    simp [hF, fsTake]
    refine ⟨p, vs.length, ⟨rfl, rfl⟩, ⟨by omega, by omega⟩, a, hp, ?_⟩
    rintro v a' ⟨d, rfl, h0, h1⟩ hok
    obtain ⟨c, hc, e⟩ := atI_mem h0 h1
    exact ⟨c, by simpa using e, .inl (hQ _ a' hc hok)⟩
  | tup ws =>
    cases hs
    simp [hF, fsTake]
    refine ⟨p, vs.length, ⟨rfl, rfl⟩, ⟨by omega, by omega⟩, a, hp, ?_⟩
    rintro v a' ⟨d, rfl, h0, h1⟩ hok
    obtain ⟨c, hc, e⟩ := atI_mem h0 h1
    exact ⟨c, by simpa using e, .inl (hQ _ a' hc hok)⟩
  | _ => cases hs
theorem PotAt.lt {m : Store} {p : Nat} {a : Pot} {k : Nat} (h : PotAt m p a k) : p < m.length := (List.getElem?_eq_some_iff.mp h.1).1
theorem PotAt.mono {m : Store} {p : Nat} {a : Pot} {k j : Nat} (h : PotAt m p a k) (hj : j ≤ k) : PotAt m p a j := by
  obtain ⟨h1, h2, h3, h4, h5, h6⟩ := h
  exact ⟨h1, h2, h3, h4, h5, by omega⟩
theorem PotAt.next {m : Store} {p : Nat} {a a' : Pot} {k j : Nat} (h : PotAt m p a (k + j)) (h' : a'.ok (a.c + k)) : PotAt (m.set p a'.ob) p a' j := by
  have hl := h.lt
  obtain ⟨h1, h2, h3, h4, h5, h6⟩ := h
  obtain ⟨g2, g3, g4, g5, g6⟩ := h'
  refine ⟨by rw [List.getElem?_set_self hl], g2, g3, g4, g5, ?_⟩
  push_cast at h6
  omega
theorem PotAt.self {m : Store} {p : Nat} {a : Pot} {k : Nat} (h : PotAt m p a k) : m.set p a.ob = m := by
  apply List.ext_getElem?
  intro i
  by_cases hi : i = p
  · subst hi; rw [List.getElem?_set_self h.lt, h.1]
  · rw [List.getElem?_set_ne (Ne.symm hi)]
theorem Pot.ok_self {a : Pot} {l : Int} {k : Int} (h : a.ok l) (hk : 0 ≤ k) : a.ok (a.c + k) := ⟨h.1, h.2.1, h.2.2.1, h.2.2.2.1, by omega⟩
theorem Pot.ok_mono {a : Pot} {l l' : Int} (h : a.ok l) (hk : l ≤ l') : a.ok l' := ⟨h.1, h.2.1, h.2.2.1, h.2.2.2.1, Int.le_trans h.2.2.2.2 hk⟩
/-- first some draws, then others -/
theorem draw_seq {m : Store} {p k j : Nat} {a : Pot} {Q : Pot → Store → Prop} (h : PotAt m p a (k + j)) (hQ : ∀ a' : Pot, a'.ok (a.c + (k + j : Nat)) → Q a' (m.set p a'.ob)) {a1 : Pot} (h1 : a1.ok (a.c + k)) :
    PotAt (m.set p a1.ob) p a1 j ∧ ∀ a' : Pot, a'.ok (a1.c + j) → Q a' ((m.set p a1.ob).set p a'.ob) := by
  refine ⟨h.next h1, fun a' h' => ?_⟩
  rw [List.set_set]
  refine hQ a' (Pot.ok_mono h' ?_)
  have := h1.2.2.2.2
  push_cast
  omega
theorem lc_draw {live : Store → Prop} {body : Val → Store → (Option Val → Store → Prop) → Prop} {fin : List Val → Store → Prop} {p k : Nat} {Post : Val → Prop} (hlive : ∀ m, live m)
    (hb : ∀ x m P, drawS m p k Post (fun v m' => P (some v) m') → body x m P) : ∀ (items acc : List Val) (m : Store) (a : Pot), PotAt m p a (k * items.length) → acc.length + items.length ≤ sizeLine →
      (∀ (ws : List Val) (a' : Pot), ws.length = items.length → (∀ v ∈ ws, Post v) → a'.ok (a.c + (k * items.length : Nat)) → fin (acc ++ ws) (m.set p a'.ob)) → lcW live body items acc m fin
  | [], acc, m, a, hp, hl, h => by
    have := h [] a rfl (fun _ z => by cases z) (Pot.ok_self hp.2 (by simp))
    rw [hp.self, List.append_nil] at this
    exact ⟨hlive m, this⟩
  | x :: xs, acc, m, a, hp, hl, h => by
    refine ⟨hlive m, hb x m _ ?_⟩
    simp only [List.length_cons] at hp hl h
    have e : k * (xs.length + 1) = k + k * xs.length := by rw [Nat.mul_add, Nat.mul_one, Nat.add_comm]
    rw [e] at hp
    refine ⟨a, hp.mono (by omega), fun v a1 hv h1 => ⟨by omega, ?_⟩⟩
    refine lc_draw hlive hb xs (acc ++ [v]) (m.set p a1.ob) a1 (hp.next h1) (by simp; omega) fun ws a' hw hP ho => ?_
    rw [List.set_set, List.append_assoc]
    refine h (v :: ws) a' (by simp [hw]) (fun z hz => ?_) (Pot.ok_mono ho ?_)
    · rcases List.mem_cons.mp hz with rfl | hz
      · exact hv
      · exact hP z hz
    · have := h1.2.2.2.2
      rw [e]
      push_cast
      omega
theorem for_draw {live : Store → Prop} {step : Val → Env → Store → (Env → Store → Prop) → Prop} {fin : Env → Store → Prop} {p k : Nat} (I : Env → Prop) (hlive : ∀ m, live m)
    (hb : ∀ x r m nx a, I r → PotAt m p a k → (∀ (r' : Env) (a' : Pot), I r' → a'.ok (a.c + k) → nx r' (m.set p a'.ob)) → step x r m nx) : ∀ (items : List Val) (r : Env) (m : Store) (a : Pot), I r → PotAt m p a (k * items.length) →
      (∀ (r' : Env) (a' : Pot), I r' → a'.ok (a.c + (k * items.length : Nat)) → fin r' (m.set p a'.ob)) → forW live step fin items r m
  | [], r, m, a, hi, hp, h => by
    have := h r a hi (Pot.ok_self hp.2 (by simp))
    rw [hp.self] at this
    exact ⟨hlive m, this⟩
  | x :: xs, r, m, a, hi, hp, h => by
    simp only [List.length_cons] at hp h
    have e : k * (xs.length + 1) = k + k * xs.length := by rw [Nat.mul_add, Nat.mul_one, Nat.add_comm]
    rw [e] at hp
    refine ⟨hlive m, hb x r m _ a hi (hp.mono (by omega)) fun r' a1 hi' h1 => ?_⟩
    refine for_draw I hlive hb xs r' (m.set p a1.ob) a1 hi' (hp.next h1) fun r2 a' hi2 ho => ?_
    rw [List.set_set]
    refine h r2 a' hi2 (Pot.ok_mono ho ?_)
    have := h1.2.2.2.2
    rw [e]
    push_cast
    omega
/-- a comprehension whose turns are plain functions -/
theorem lc_pure {live : Store → Prop} {body : Val → Store → (Option Val → Store → Prop) → Prop} {fin : List Val → Store → Prop} {f : Val → Val} {m : Store} (hl : live m) :
    ∀ (items acc : List Val), (∀ x ∈ items, ∀ P, P (some (f x)) m → body x m P) → acc.length + items.length ≤ sizeLine → fin (acc ++ items.map f) m → lcW live body items acc m fin
  | [], acc, _, _, h => ⟨hl, by simpa using h⟩
  | c :: t, acc, hb, hz, h => by
    refine ⟨hl, hb c List.mem_cons_self _ ⟨by simp at hz; omega, lc_pure hl t _ (fun x hx => hb x (List.mem_cons_of_mem _ hx)) (by simp at hz ⊢; omega) ?_⟩⟩
    simpa using h
/-- a comprehension of truths of signs -/
theorem lc_signs {live : Store → Prop} {body : Val → Store → (Option Val → Store → Prop) → Prop} {fin : List Val → Store → Prop} {f : Nat → Bool} {m : Store} (hl : live m) (hb : ∀ c P, P (some (.bool (f c))) m → body (.str [c]) m P) :
    ∀ (t : Text) (acc : List Val), acc.length + t.length ≤ sizeLine → fin (acc ++ t.map fun c => .bool (f c)) m → lcW live body (t.map fun c => .str [c]) acc m fin
  | [], acc, _, h => ⟨hl, by simpa using h⟩
  | c :: t, acc, hz, h => by
    refine ⟨hl, hb c _ ⟨by simp at hz; omega, lc_signs hl hb t _ (by simp at hz ⊢; omega) ?_⟩⟩
    simpa using h
end Dy

/-! Dp, part N: data compared, searched, shown. -/
namespace Dy
open PySem L2
/-- signs that there are -/
def signs (s : Text) : Bool := s.all (· < 0x110000)
mutual
/-- plain data -/
def lay : Val → Bool
  | .str s => signs s
  | .tup vs => lays vs
  | .il _ vs => lays vs
  | .loc _ => false
  | _ => true
def lays : List Val → Bool
  | [] => true
  | v :: vs => lay v && lays vs
end
mutual
def dep : Val → Nat
  | .tup vs => deps vs + 1
  | .il _ vs => deps vs + 1
  | _ => 0
def deps : List Val → Nat
  | [] => 0
  | v :: vs => max (dep v) (deps vs)
end
mutual
/-- equal as Python has it -/
def veqv : Val → Val → Bool
  | .non, .non => true
  | .bool a, .bool b => a == b
  | .bool a, .int j => (if a then 1 else 0) == j
  | .int i, .bool b => i == (if b then 1 else 0)
  | .int i, .int j => i == j
  | .str x, .str y => x == y
  | .il _ xs, .il _ ys => veqvs xs ys
  | .tup xs, .tup ys => veqvs xs ys
  | _, _ => false
def veqvs : List Val → List Val → Bool
  | [], [] => true
  | x :: xs, y :: ys => veqv x y && veqvs xs ys
  | _, _ => false
end
mutual
theorem lay_pd : ∀ {v : Val}, lay v = true → ∃ d, pd v = some d ∧ d.canLay0 = true ∧ d.depth = dep v ∧ d.hasDict = false
  | .non, _ => ⟨_, rfl, rfl, rfl, rfl⟩
  | .bool b, _ => ⟨_, rfl, rfl, rfl, rfl⟩
  | .int i, _ => ⟨_, rfl, rfl, rfl, rfl⟩
  | .str s, h => ⟨_, rfl, by simp only [lay, signs] at h; simp only [PyData.canLay0, PyData.strOk]; simpa using h, rfl, rfl⟩
  | .tup vs, h => by
    obtain ⟨ds, e, h1, h2, h3⟩ := lays_pds (vs := vs) (by simpa only [lay] using h)
    exact ⟨.tuple ds, by simp only [pd, e, Option.map_some], by simp only [PyData.canLay0]; exact h1, by simp only [PyData.depth, dep, h2], by simp only [PyData.hasDict]; exact h3⟩
  | .il o vs, h => by
    obtain ⟨ds, e, h1, h2, h3⟩ := lays_pds (vs := vs) (by simpa only [lay] using h)
    exact ⟨.list ds, by simp only [pd, e, Option.map_some], by simp only [PyData.canLay0]; exact h1, by simp only [PyData.depth, dep, h2], by simp only [PyData.hasDict]; exact h3⟩
  | .loc n, h => by simp [lay] at h
theorem lays_pds : ∀ {vs : List Val}, lays vs = true → ∃ ds, pds vs = some ds ∧ PyData.canLayAll0 ds = true ∧ PyData.depthAll ds = deps vs ∧ PyData.hasDictAll ds = false
  | [], _ => ⟨[], rfl, rfl, rfl, rfl⟩
  | v :: vs, h => by
    simp only [lays, Bool.and_eq_true] at h
    obtain ⟨d, e, h1, h2, h3⟩ := lay_pd h.1
    obtain ⟨ds, e', g1, g2, g3⟩ := lays_pds h.2
    exact ⟨d :: ds, by simp only [pds, e, e', Option.bind_some, Option.map_some], by simp only [PyData.canLayAll0, h1, g1, Bool.and_self], by simp only [PyData.depthAll, deps, h2, g2], by simp only [PyData.hasDictAll, h3, g3, Bool.or_self]⟩
end
mutual
theorem eqv_veqv : ∀ {a b : Val} {d e : PyData}, pd a = some d → pd b = some e → PyData.eqv d e = veqv a b
  | .non, b, d, e, h1, h2 => by
    cases h1
    cases b <;> simp only [pd, Option.map_eq_some_iff, Option.some.injEq] at h2 <;> first | (obtain ⟨_, _, rfl⟩ := h2; simp [PyData.eqv, veqv]) | (subst h2; simp [PyData.eqv, veqv]) | cases h2
  | .bool x, b, d, e, h1, h2 => by
    cases h1
    cases b <;> simp only [pd, Option.map_eq_some_iff, Option.some.injEq] at h2 <;> first | (obtain ⟨_, _, rfl⟩ := h2; simp [PyData.eqv, veqv]) | (subst h2; simp [PyData.eqv, veqv]) | cases h2
  | .int x, b, d, e, h1, h2 => by
    cases h1
    cases b <;> simp only [pd, Option.map_eq_some_iff, Option.some.injEq] at h2 <;> first | (obtain ⟨_, _, rfl⟩ := h2; simp [PyData.eqv, veqv]) | (subst h2; simp [PyData.eqv, veqv]) | cases h2
  | .str x, b, d, e, h1, h2 => by
    cases h1
    cases b with
    | str y => cases h2; simp only [PyData.eqv, veqv]; exact SX.S_beq x y
    | tup ys =>
      simp only [pd, Option.map_eq_some_iff] at h2
      obtain ⟨es, e2, rfl⟩ := h2
      simp [PyData.eqv, veqv]
    | il o ys =>
      simp only [pd, Option.map_eq_some_iff] at h2
      obtain ⟨es, e2, rfl⟩ := h2
      simp [PyData.eqv, veqv]
    | loc n => cases h2
    | _ => cases h2; simp [PyData.eqv, veqv]
  | .tup xs, b, d, e, h1, h2 => by
    simp only [pd, Option.map_eq_some_iff] at h1
    obtain ⟨ds, e1, rfl⟩ := h1
    cases b with
    | tup ys =>
      simp only [pd, Option.map_eq_some_iff] at h2
      obtain ⟨es, e2, rfl⟩ := h2
      simp only [PyData.eqv, veqv]
      exact eqvs_veqvs e1 e2
    | il o ys =>
      simp only [pd, Option.map_eq_some_iff] at h2
      obtain ⟨es, e2, rfl⟩ := h2
      simp [PyData.eqv, veqv]
    | loc n => cases h2
    | _ => cases h2; simp [PyData.eqv, veqv]
  | .il o xs, b, d, e, h1, h2 => by
    simp only [pd, Option.map_eq_some_iff] at h1
    obtain ⟨ds, e1, rfl⟩ := h1
    cases b with
    | il o ys =>
      simp only [pd, Option.map_eq_some_iff] at h2
      obtain ⟨es, e2, rfl⟩ := h2
      simp only [PyData.eqv, veqv]
      exact eqvs_veqvs e1 e2
    | tup ys =>
      simp only [pd, Option.map_eq_some_iff] at h2
      obtain ⟨es, e2, rfl⟩ := h2
      simp [PyData.eqv, veqv]
    | loc n => cases h2
    | _ => cases h2; simp [PyData.eqv, veqv]
  | .loc n, _, _, _, h1, _ => by cases h1
theorem eqvs_veqvs : ∀ {a b : List Val} {d e : List PyData}, pds a = some d → pds b = some e → PyData.eqvAll d e = veqvs a b
  | [], [], d, e, h1, h2 => by cases h1; cases h2; simp [PyData.eqvAll, veqvs]
  | [], y :: ys, d, e, h1, h2 => by
    cases h1
    simp only [pds, Option.bind_eq_some_iff, Option.map_eq_some_iff] at h2
    obtain ⟨_, _, _, _, rfl⟩ := h2
    simp [PyData.eqvAll, veqvs]
  | x :: xs, [], d, e, h1, h2 => by
    cases h2
    simp only [pds, Option.bind_eq_some_iff, Option.map_eq_some_iff] at h1
    obtain ⟨_, _, _, _, rfl⟩ := h1
    simp [PyData.eqvAll, veqvs]
  | x :: xs, y :: ys, d, e, h1, h2 => by
    simp only [pds, Option.bind_eq_some_iff, Option.map_eq_some_iff] at h1 h2
    obtain ⟨a1, b1, c1, d1, rfl⟩ := h1
    obtain ⟨a2, b2, c2, d2, rfl⟩ := h2
    simp only [PyData.eqvAll, veqvs, eqv_veqv b1 b2, eqvs_veqvs d1 d2]
end
/-- data that may be compared -/
def cmpV (v : Val) : Bool := lay v && decide (dep v ≤ 64)
theorem pdm_lay {m : Store} {v : Val} (h : lay v = true) : pdm m v = pd v := by
  cases v <;> first | rfl | simp [lay] at h
theorem cmpV_pd {m : Store} {v : Val} (h : cmpV v = true) : ∃ d, pdm m v = some d ∧ pd v = some d ∧ SeqAt.shaped d = true := by
  unfold cmpV at h
  simp only [Bool.and_eq_true, decide_eq_true_eq] at h
  obtain ⟨d, e, h1, h2, _⟩ := lay_pd h.1
  exact ⟨d, by rw [pdm_lay h.1]; exact e, e, by unfold SeqAt.shaped; rw [h1, h2]; simpa using h.2⟩
section
variable {m : Store} {T : Bool → Prop} {a b : Val}
theorem cmp_eqG (h1 : cmpV a = true) (h2 : cmpV b = true) (h : T (veqv a b)) : cmpW .eq a b m T := by
  obtain ⟨d, e1, e2, e3⟩ := cmpV_pd (m := m) h1
  obtain ⟨e, f1, f2, f3⟩ := cmpV_pd (m := m) h2
  refine ⟨d, e, e1, f1, ?_, by rw [eqv_veqv e2 f2]; exact h⟩
  unfold eqOk
  rw [e3, f3]; simp
theorem cmp_neG (h1 : cmpV a = true) (h2 : cmpV b = true) (h : T (!veqv a b)) : cmpW .ne a b m T := by
  obtain ⟨d, e1, e2, e3⟩ := cmpV_pd (m := m) h1
  obtain ⟨e, f1, f2, f3⟩ := cmpV_pd (m := m) h2
  refine ⟨d, e, e1, f1, ?_, by rw [eqv_veqv e2 f2]; exact h⟩
  unfold eqOk
  rw [e3, f3]; simp
theorem any_veqv {x : Val} {d : PyData} (hx : pd x = some d) : ∀ {vs : List Val} {ds : List PyData}, pds vs = some ds → (ds.any fun z => PyData.eqv z d) = vs.any fun z => veqv z x
  | [], ds, h => by cases h; rfl
  | v :: vs, ds, h => by
    simp only [pds, Option.bind_eq_some_iff, Option.map_eq_some_iff] at h
    obtain ⟨e, h1, es, h2, rfl⟩ := h
    rw [List.any_cons, List.any_cons, eqv_veqv h1 hx, any_veqv hx h2]
theorem inL {neg : Bool} {o : Bool} {vs : List Val} (ha : ∀ s, a ≠ .str s ∨ True) (h1 : cmpV a = true) (h2 : cmpV (.il o vs) = true) (h : T (neg != vs.any fun z => veqv z a)) : inW neg a (.il o vs) m T := by
  obtain ⟨d, e1, e2, e3⟩ := cmpV_pd (m := m) h1
  obtain ⟨e, f1, f2, f3⟩ := cmpV_pd (m := m) h2
  simp only [pd, Option.map_eq_some_iff] at f2
  obtain ⟨ds, g1, rfl⟩ := f2
  have key : ∃ d e, pdm m a = some d ∧ pdm m (.il o vs) = some e ∧ inOk d e = true ∧ T (neg != (itemsP e).any fun z => PyData.eqv z d) :=
    ⟨d, _, e1, f1, by simp only [inOk, e3, f3, Bool.and_self], by simp only [itemsP]; rw [any_veqv e2 g1]; exact h⟩
  unfold inW
  split
  · rename_i hq; cases hq
  · exact key
/-- plain things -/
def flatS : Val → Bool
  | .non => true
  | .bool _ => true
  | .int _ => true
  | .str _ => true
  | _ => false
theorem flatS_pd {v : Val} (h : flatS v = true) : ∃ d, pd v = some d ∧ flatP d = true ∧ ∀ m, pdm m v = some d := by
  cases v <;> first | exact ⟨_, rfl, rfl, fun _ => rfl⟩ | cases h
theorem flatS_pds : ∀ {vs : List Val}, vs.all flatS = true → ∃ ds, pds vs = some ds ∧ ds.all flatP = true
  | [], _ => ⟨[], rfl, rfl⟩
  | v :: vs, h => by
    rw [List.all_cons, Bool.and_eq_true] at h
    obtain ⟨d, e, f, _⟩ := flatS_pd h.1
    obtain ⟨ds, e', f'⟩ := flatS_pds h.2
    exact ⟨d :: ds, by simp only [pds, e, e', Option.bind_some, Option.map_some], by rw [List.all_cons, f, f']; rfl⟩
theorem inT {neg : Bool} {vs : List Val} (h1 : flatS a = true) (h2 : vs.all flatS = true) (h : T (neg != vs.any fun z => veqv z a)) : inW neg a (.tup vs) m T := by
  obtain ⟨d, e1, e2, e3⟩ := flatS_pd h1
  obtain ⟨ds, f1, f2⟩ := flatS_pds h2
  have key : ∃ d e, pdm m a = some d ∧ pdm m (.tup vs) = some e ∧ inOk d e = true ∧ T (neg != (itemsP e).any fun z => PyData.eqv z d) :=
    ⟨d, .tuple ds, e3 m, by simp only [pdm, pd, f1, Option.map_some], by simp only [inOk, e2, f2, Bool.and_self], by simp only [itemsP]; rw [any_veqv e1 f1]; exact h⟩
  unfold inW
  split
  · rename_i hq; cases hq
  · exact key
end
/-! ### shown -/
mutual
/-- can be shown -/
def shw : Val → Bool
  | .int i => decide (i.natAbs.log2 < 1920)
  | .str s => signs s
  | .tup vs => shws vs
  | .il _ vs => shws vs
  | .loc _ => false
  | _ => true
def shws : List Val → Bool
  | [] => true
  | v :: vs => shw v && shws vs
end
mutual
/-- no longer than this -/
def rsz : Val → Nat
  | .non => 4
  | .bool _ => 5
  | .int i => i.natAbs.log2 + 2
  | .str s => 10 * s.length + 2
  | .tup vs => rszs vs + 4
  | .il _ vs => rszs vs + 4
  | .loc _ => 0
def rszs : List Val → Nat
  | [] => 0
  | v :: vs => rsz v + 2 + rszs vs
end
def lensum : List Str → Nat
  | [] => 0
  | x :: r => x.length + 2 + lensum r
theorem strlen_app (a b : Str) : (a ++ b).length = a.length + b.length := by rw [Str.length_append]
theorem join_le : ∀ ts : List Str, (Str.join ", " ts).length ≤ lensum ts
  | [] => Nat.zero_le _
  | [x] => by show x.length ≤ x.length + 2 + 0; omega
  | x :: y :: r => by
    have ih := join_le (y :: r)
    show (x ++ ", " ++ Str.join ", " (y :: r)).length ≤ x.length + 2 + lensum (y :: r)
    rw [strlen_app, strlen_app]
    have e2 : ((", " : String) : Str).length = 2 := rfl
    omega
theorem from_le : ∀ (ts : List Str) (k : Nat) (acc : Str), (textFrom k acc ts).length ≤ acc.length + lensum ts
  | [], _, _ => Nat.le_refl _
  | t :: r, k, acc => by
    have ih := from_le r (k + 1) (acc ++ (if k > 0 then ", " else "" : String) ++ t)
    show (textFrom (k + 1) (acc ++ (if k > 0 then ", " else "" : String) ++ t) r).length ≤ acc.length + (t.length + 2 + lensum r)
    rw [strlen_app, strlen_app] at ih
    have e2 : (((if k > 0 then ", " else "" : String)) : Str).length ≤ 2 := by split <;> decide
    omega
mutual
theorem shw_pd : ∀ {v : Val}, shw v = true → ∃ d, pd v = some d ∧ d.showable = true ∧ d.depth = dep v ∧ d.hasDict = false ∧ d.shown.length ≤ rsz v
  | .non, _ => ⟨_, rfl, rfl, rfl, rfl, by decide +kernel⟩
  | .bool b, _ => ⟨_, rfl, rfl, rfl, rfl, by cases b <;> decide +kernel⟩
  | .int i, h => by
    have h' : i.natAbs.log2 < 1920 := by simpa only [shw, decide_eq_true_eq] using h
    refine ⟨_, rfl, by simpa only [PyData.showable, decide_eq_true_eq] using h', rfl, rfl, ?_⟩
    have := int_text_length_le (a := i) (k := i.natAbs.log2 + 1) (by omega) (by omega)
    show (Str.ofString (toString i)).length ≤ i.natAbs.log2 + 2
    have e : (Str.ofString (toString i)).length = (toString i).length := by
      show (Str.ofString (toString i)).cps.size = _
      rw [← Array.length_toList]
      show (TL.tl (Str.ofString (toString i))).length = _
      rw [TL.tl_ofString, List.length_map, String.length_toList]
    omega
  | .str s, h => by
    refine ⟨_, rfl, rfl, rfl, rfl, ?_⟩
    have := StrLaws.reprText_len (SX.S s) (fun c hc => by
      simp only [shw, signs, List.all_eq_true, decide_eq_true_eq] at h
      have := h c (by simpa using hc)
      have e : (16 : Nat) ^ 8 = 4294967296 := by decide
      omega)
    rw [SX.S_len] at this
    exact this
  | .tup vs, h => by
    obtain ⟨ds, e, h1, h2, h3, h4⟩ := shws_pds (vs := vs) (by simpa only [shw] using h)
    refine ⟨.tuple ds, by simp only [pd, e, Option.map_some], by simp only [PyData.showable]; exact h1, by simp only [PyData.depth, dep, h2], by simp only [PyData.hasDict]; exact h3, ?_⟩
    simp only [PyData.shown, tupleText, rsz]
    rw [strlen_app, strlen_app]
    have e1 : (("(" : String) : Str).length = 1 := rfl
    have e2 : (((if (PyData.shownAll ds).length == 1 then ",)" else ")" : String)) : Str).length ≤ 2 := by split <;> decide
    have := join_le (PyData.shownAll ds)
    omega
  | .il o vs, h => by
    obtain ⟨ds, e, h1, h2, h3, h4⟩ := shws_pds (vs := vs) (by simpa only [shw] using h)
    refine ⟨.list ds, by simp only [pd, e, Option.map_some], by simp only [PyData.showable]; exact h1, by simp only [PyData.depth, dep, h2], by simp only [PyData.hasDict]; exact h3, ?_⟩
    simp only [PyData.shown, listText, rsz]
    rw [strlen_app]
    have e1 : (("[" : String) : Str).length = 1 := rfl
    have e2 : (("]" : String) : Str).length = 1 := rfl
    have := from_le (PyData.shownAll ds) 0 "["
    omega
  | .loc n, h => by simp [shw] at h
theorem shws_pds : ∀ {vs : List Val}, shws vs = true → ∃ ds, pds vs = some ds ∧ PyData.showableAll ds = true ∧ PyData.depthAll ds = deps vs ∧ PyData.hasDictAll ds = false ∧ lensum (PyData.shownAll ds) ≤ rszs vs
  | [], _ => ⟨[], rfl, rfl, rfl, rfl, Nat.le_refl _⟩
  | v :: vs, h => by
    simp only [shws, Bool.and_eq_true] at h
    obtain ⟨d, e, h1, h2, h3, h4⟩ := shw_pd h.1
    obtain ⟨ds, e', g1, g2, g3, g4⟩ := shws_pds h.2
    refine ⟨d :: ds, by simp only [pds, e, e', Option.bind_some, Option.map_some], by simp only [PyData.showableAll, h1, g1, Bool.and_self], by simp only [PyData.depthAll, deps, h2, g2], by simp only [PyData.hasDictAll, h3, g3, Bool.or_self], ?_⟩
    simp only [PyData.shownAll, lensum, rszs]
    omega
end
/-- what repr tells -/
def reprV (v : Val) : Text := match pd v with | some d => d.shown.cps.toList | none => []
theorem bi_reprG {m : Store} {v : Val} {Q : Val → Store → Prop} (h1 : shw v = true) (h2 : dep v ≤ 60) (h3 : rsz v ≤ sizeLine) (h : Q (.str (reprV v)) m) : biW .repr [v] m Q := by
  obtain ⟨d, e, g1, g2, g3, g4⟩ := shw_pd h1
  refine ⟨d, ?_, ⟨g1, g3, by omega, by omega⟩, ?_⟩
  · cases v <;> first | exact e | simp [shw] at h1
  · unfold reprV at h
    rw [e] at h
    exact h
end Dy

namespace K85
open PySem L2 Dy
def topS (i : Nat) : Stmt := PySem.Challenge.pw_loggedruns_k85_items_written_and_read.main.body.getD i (.Pass ⟨0, 0, 0, 0⟩)
def gl : List (Str × Val) := [("LETTERS", (.str [97, 98, 99, 100, 101, 102, 103, 104, 105, 106, 107, 108, 109, 110, 111, 112, 113, 114, 115, 116, 117, 118, 119, 120, 121, 122])), ("DIGITS", (.str [48, 49, 50, 51, 52, 53, 54, 55, 56, 57])), ("BLANK", (.str [32])), ("MOST_LETTERS", (.int 8)), ("MOST_DIGITS", (.int 3)), ("MOST_GAP", (.int 9)), ("MOST_VALUE", (.int 3)), ("MOST_SHOWN", (.int 2)), ("ENTRY_SIZE", (.int 3)), ("NONE", (.str [45])), ("UNREAD", (.str [63])), ("NO_VALUES", (.str [42])), ("COMMA", (.str [44])), ("GAP", (.str [103, 97, 112])), ("BETWEEN_ITEMS", (.str [32, 47, 32])), ("GAP_WORDS", (.int 2)), ("ENTRY_WORDS", (.int 3))]
def bl : List Str := ["abs", "all", "bool", "int", "isinstance", "len", "max", "min", "range", "repr", "str", "tuple"]
def fns : List (Str × Nat) := [("is_integer", 0), ("is_between", 1), ("is_name", 2), ("number_in", 3), ("is_entry_read", 4), ("is_item", 5), ("shown_values", 6), ("show_item", 7), ("show_items", 8), ("values_in", 9), ("item_in", 10), ("items_in", 11), ("check_shown", 12), ("read_item", 13), ("read_items", 14), ("_law_pot", 15), ("_law_take", 16), ("_law_of", 17), ("_law_name", 18), ("_law_item", 19), ("_law_item_text", 20), ("_law_items_text", 21), ("_law_right", 22), ("law", 23)]
/-! is_integer -/
def n_is_integer : List Str := ["value"]
def p_is_integer : List Str := ["value"]
def b_is_integer : S :=
  (.cons (.ret (.and (.isI .int (.var 0)) (.one (.not (.isI .bool (.var 0))))))
    .nil)
abbrev s_is_integer : Stmt := topS 9
theorem c_is_integer : chkSs ⟨n_is_integer, (defScope s_is_integer).names, true, gl, bl, fns⟩ (defBody s_is_integer) b_is_integer = true := by decide +kernel
theorem sc_is_integer : FnScope n_is_integer p_is_integer (defScope s_is_integer) := ⟨rfl, rfl, rfl, by decide +kernel, rfl, by decide +kernel, by decide +kernel⟩
/-! is_between -/
def n_is_between : List Str := ["value", "low", "high"]
def p_is_between : List Str := ["value", "low", "high"]
def b_is_between : S :=
  (.cons (.ret (.and (.call 0 (.cons (.var 0) .nil)) (.one (.chain .le .le (.var 1) (.var 0) (.var 2)))))
    .nil)
abbrev s_is_between : Stmt := topS 10
theorem c_is_between : chkSs ⟨n_is_between, (defScope s_is_between).names, true, gl, bl, fns⟩ (defBody s_is_between) b_is_between = true := by decide +kernel
theorem sc_is_between : FnScope n_is_between p_is_between (defScope s_is_between) := ⟨rfl, rfl, rfl, by decide +kernel, rfl, by decide +kernel, by decide +kernel⟩
/-! is_name -/
def n_is_name : List Str := ["value", "letter"]
def p_is_name : List Str := ["value"]
def b_is_name : S :=
  (.cons (.ite (.or (.not (.isI .str (.var 0))) (.one (.not (.chain .le .le (.cst (.int 1)) (.bi .len (.cons (.var 0) .nil)) (.cst (.int 8))))))
    (.cons (.ret (.cst (.bool false)))
    .nil)
    .nil)
    (.cons (.ret (.bi .all (.cons (.lc false [1] (.name 1) .seq (.var 0) (.cst .non) (.cst (.bool true)) (.cmp .isin (.var 1) (.cst (.str [97, 98, 99, 100, 101, 102, 103, 104, 105, 106, 107, 108, 109, 110, 111, 112, 113, 114, 115, 116, 117, 118, 119, 120, 121, 122])))) .nil)))
    .nil))
abbrev s_is_name : Stmt := topS 11
theorem c_is_name : chkSs ⟨n_is_name, (defScope s_is_name).names, true, gl, bl, fns⟩ (defBody s_is_name) b_is_name = true := by decide +kernel
theorem sc_is_name : FnScope n_is_name p_is_name (defScope s_is_name) := ⟨rfl, rfl, rfl, by decide +kernel, rfl, by decide +kernel, by decide +kernel⟩
/-! number_in -/
def n_number_in : List Str := ["word", "digit"]
def p_number_in : List Str := ["word"]
def b_number_in : S :=
  (.cons (.ite (.or (.not (.chain .le .le (.cst (.int 1)) (.bi .len (.cons (.var 0) .nil)) (.cst (.int 3)))) (.one (.not (.bi .all (.cons (.lc false [1] (.name 1) .seq (.var 0) (.cst .non) (.cst (.bool true)) (.cmp .isin (.var 1) (.cst (.str [48, 49, 50, 51, 52, 53, 54, 55, 56, 57])))) .nil)))))
    (.cons (.ret (.cst .non))
    .nil)
    .nil)
    (.cons (.ret (.ite (.or (.cmp .eq (.var 0) (.cst (.str [48]))) (.one (.cmp .ne (.idx (.var 0) (.cst (.int 0))) (.cst (.str [48]))))) (.bi .int (.cons (.var 0) .nil)) (.cst .non)))
    .nil))
abbrev s_number_in : Stmt := topS 12
theorem c_number_in : chkSs ⟨n_number_in, (defScope s_number_in).names, true, gl, bl, fns⟩ (defBody s_number_in) b_number_in = true := by decide +kernel
theorem sc_number_in : FnScope n_number_in p_number_in (defScope s_number_in) := ⟨rfl, rfl, rfl, by decide +kernel, rfl, by decide +kernel, by decide +kernel⟩
/-! is_entry_read -/
def n_is_entry_read : List Str := ["value", "hand", "word", "values", "one", "name"]
def p_is_entry_read : List Str := ["value"]
def b_is_entry_read : S :=
  (.cons (.ite (.or (.not (.isI .tuple (.var 0))) (.one (.cmp .ne (.bi .len (.cons (.var 0) .nil)) (.cst (.int 3)))))
    (.cons (.ret (.cst (.bool false)))
    .nil)
    .nil)
    (.cons (.asg (.tup [1, 2, 3]) (.var 0))
    (.cons (.ite (.not (.bi .all (.cons (.lc false [5] (.name 5) .seq (.tup (.cons (.var 1) (.cons (.var 2) .nil))) (.cst .non) (.cst (.bool true)) (.or (.isN false (.var 5)) (.one (.call 2 (.cons (.var 5) .nil))))) .nil)))
    (.cons (.ret (.cst (.bool false)))
    .nil)
    .nil)
    (.cons (.ite (.isN false (.var 3))
    (.cons (.ret (.cst (.bool true)))
    .nil)
    .nil)
    (.cons (.ite (.or (.not (.isI .tuple (.var 3))) (.one (.cmp .gt (.bi .len (.cons (.var 3) .nil)) (.cst (.int 2)))))
    (.cons (.ret (.cst (.bool false)))
    .nil)
    .nil)
    (.cons (.ret (.bi .all (.cons (.lc false [4] (.name 4) .seq (.var 3) (.cst .non) (.cst (.bool true)) (.or (.isN false (.var 4)) (.one (.call 1 (.cons (.var 4) (.cons (.cst (.int 0)) (.cons (.cst (.int 3)) .nil))))))) .nil)))
    .nil))))))
abbrev s_is_entry_read : Stmt := topS 18
theorem c_is_entry_read : chkSs ⟨n_is_entry_read, (defScope s_is_entry_read).names, true, gl, bl, fns⟩ (defBody s_is_entry_read) b_is_entry_read = true := by decide +kernel
theorem sc_is_entry_read : FnScope n_is_entry_read p_is_entry_read (defScope s_is_entry_read) := ⟨rfl, rfl, rfl, by decide +kernel, rfl, by decide +kernel, by decide +kernel⟩
/-! is_item -/
def n_is_item : List Str := ["value"]
def p_is_item : List Str := ["value"]
def b_is_item : S :=
  (.cons (.ret (.or (.isN false (.var 0)) (.or (.call 1 (.cons (.var 0) (.cons (.cst (.int 1)) (.cons (.cst (.int 9)) .nil)))) (.one (.call 4 (.cons (.var 0) .nil))))))
    .nil)
abbrev s_is_item : Stmt := topS 19
theorem c_is_item : chkSs ⟨n_is_item, (defScope s_is_item).names, true, gl, bl, fns⟩ (defBody s_is_item) b_is_item = true := by decide +kernel
theorem sc_is_item : FnScope n_is_item p_is_item (defScope s_is_item) := ⟨rfl, rfl, rfl, by decide +kernel, rfl, by decide +kernel, by decide +kernel⟩
/-! shown_values -/
def n_shown_values : List Str := ["values", "one"]
def p_shown_values : List Str := ["values"]
def b_shown_values : S :=
  (.cons (.ite (.isN false (.var 0))
    (.cons (.ret (.cst (.str [42])))
    .nil)
    .nil)
    (.cons (.ret (.ite (.cmp .ne (.var 0) (.tup .nil)) (.meth .join (.cst (.str [44])) (.cons (.lc false [1] (.name 1) .seq (.var 0) (.cst .non) (.cst (.bool true)) (.ite (.isN false (.var 1)) (.cst (.str [63])) (.bi .str (.cons (.var 1) .nil)))) .nil)) (.cst (.str [45]))))
    .nil))
abbrev s_shown_values : Stmt := topS 29
theorem c_shown_values : chkSs ⟨n_shown_values, (defScope s_shown_values).names, true, gl, bl, fns⟩ (defBody s_shown_values) b_shown_values = true := by decide +kernel
theorem sc_shown_values : FnScope n_shown_values p_shown_values (defScope s_shown_values) := ⟨rfl, rfl, rfl, by decide +kernel, rfl, by decide +kernel, by decide +kernel⟩
/-! show_item -/
def n_show_item : List Str := ["item", "hand", "word", "values"]
def p_show_item : List Str := ["item"]
def b_show_item : S :=
  (.cons (.ite (.not (.isI .tuple (.var 0)))
    (.cons (.ret (.meth .join (.cst (.str [32])) (.cons (.lst false (.cons (.cst (.str [103, 97, 112])) (.cons (.ite (.isN false (.var 0)) (.cst (.str [63])) (.bi .str (.cons (.var 0) .nil))) .nil))) .nil)))
    .nil)
    .nil)
    (.cons (.asg (.tup [1, 2, 3]) (.var 0))
    (.cons (.ret (.meth .join (.cst (.str [32])) (.cons (.lst false (.cons (.ite (.isN false (.var 1)) (.cst (.str [45])) (.var 1)) (.cons (.ite (.isN false (.var 2)) (.cst (.str [63])) (.var 2)) (.cons (.call 6 (.cons (.var 3) .nil)) .nil)))) .nil)))
    .nil)))
abbrev s_show_item : Stmt := topS 30
theorem c_show_item : chkSs ⟨n_show_item, (defScope s_show_item).names, true, gl, bl, fns⟩ (defBody s_show_item) b_show_item = true := by decide +kernel
theorem sc_show_item : FnScope n_show_item p_show_item (defScope s_show_item) := ⟨rfl, rfl, rfl, by decide +kernel, rfl, by decide +kernel, by decide +kernel⟩
/-! show_items -/
def n_show_items : List Str := ["items", "item"]
def p_show_items : List Str := ["items"]
def b_show_items : S :=
  (.cons (.ret (.ite (.cmp .ne (.var 0) (.tup .nil)) (.meth .join (.cst (.str [32, 47, 32])) (.cons (.lc false [1] (.name 1) .seq (.var 0) (.cst .non) (.cst (.bool true)) (.call 7 (.cons (.var 1) .nil))) .nil)) (.cst (.str [45]))))
    .nil)
abbrev s_show_items : Stmt := topS 31
theorem c_show_items : chkSs ⟨n_show_items, (defScope s_show_items).names, true, gl, bl, fns⟩ (defBody s_show_items) b_show_items = true := by decide +kernel
theorem sc_show_items : FnScope n_show_items p_show_items (defScope s_show_items) := ⟨rfl, rfl, rfl, by decide +kernel, rfl, by decide +kernel, by decide +kernel⟩
/-! values_in -/
def n_values_in : List Str := ["word", "found", "part", "number"]
def p_values_in : List Str := ["word"]
def b_values_in : S :=
  (.cons (.ite (.cmp .eq (.var 0) (.cst (.str [42])))
    (.cons (.ret (.tup (.cons (.cst .non) .nil)))
    .nil)
    .nil)
    (.cons (.ite (.cmp .eq (.var 0) (.cst (.str [45])))
    (.cons (.ret (.tup (.cons (.tup .nil) .nil)))
    .nil)
    .nil)
    (.cons (.asg (.name 1) (.lst true .nil))
    (.cons (.loop (.name 2) .seq (.meth .split (.var 0) (.cons (.cst (.str [44])) .nil)) (.cst .non)
    (.cons (.asg (.name 3) (.ite (.cmp .eq (.var 2) (.cst (.str [63]))) (.cst .non) (.call 3 (.cons (.var 2) .nil))))
    (.cons (.ite (.and (.isN false (.var 3)) (.one (.cmp .ne (.var 2) (.cst (.str [63])))))
    (.cons (.ret (.cst .non))
    .nil)
    .nil)
    (.cons (.expr (.meth .append (.var 1) (.cons (.var 3) .nil)))
    .nil))))
    (.cons (.ret (.tup (.cons (.bi .tuple (.cons (.var 1) .nil)) .nil)))
    .nil)))))
abbrev s_values_in : Stmt := topS 32
theorem c_values_in : chkSs ⟨n_values_in, (defScope s_values_in).names, true, gl, bl, fns⟩ (defBody s_values_in) b_values_in = true := by decide +kernel
theorem sc_values_in : FnScope n_values_in p_values_in (defScope s_values_in) := ⟨rfl, rfl, rfl, by decide +kernel, rfl, by decide +kernel, by decide +kernel⟩
/-! item_in -/
def n_item_in : List Str := ["text", "words", "found", "number", "values", "hand", "word"]
def p_item_in : List Str := ["text"]
def b_item_in : S :=
  (.cons (.par [1, 2] (.cons (.meth .split (.var 0) (.cons (.cst (.str [32])) .nil)) (.cons (.cst .non) .nil)))
    (.cons (.ite (.and (.cmp .eq (.bi .len (.cons (.var 1) .nil)) (.cst (.int 2))) (.one (.cmp .eq (.idx (.var 1) (.cst (.int 0))) (.cst (.str [103, 97, 112])))))
    (.cons (.asg (.name 3) (.ite (.cmp .eq (.idx (.var 1) (.cst (.int 1))) (.cst (.str [63]))) (.cst .non) (.call 3 (.cons (.idx (.var 1) (.cst (.int 1))) .nil))))
    (.cons (.asg (.name 2) (.ite (.or (.isN true (.var 3)) (.one (.cmp .eq (.idx (.var 1) (.cst (.int 1))) (.cst (.str [63]))))) (.tup (.cons (.var 3) .nil)) (.cst .non)))
    .nil))
    (.cons (.ite (.cmp .eq (.bi .len (.cons (.var 1) .nil)) (.cst (.int 3)))
    (.cons (.asg (.name 4) (.call 9 (.cons (.idx (.var 1) (.cst (.int 2))) .nil)))
    (.cons (.par [5, 6] (.cons (.ite (.cmp .eq (.idx (.var 1) (.cst (.int 0))) (.cst (.str [45]))) (.cst .non) (.idx (.var 1) (.cst (.int 0)))) (.cons (.ite (.cmp .eq (.idx (.var 1) (.cst (.int 1))) (.cst (.str [63]))) (.cst .non) (.idx (.var 1) (.cst (.int 1)))) .nil)))
    (.cons (.asg (.name 2) (.ite (.isN true (.var 4)) (.tup (.cons (.tup (.cons (.var 5) (.cons (.var 6) (.cons (.idx (.var 4) (.cst (.int 0))) .nil)))) .nil)) (.cst .non)))
    .nil)))
    .nil)
    .nil))
    (.cons (.ret (.ite (.and (.isN true (.var 2)) (.one (.call 5 (.cons (.idx (.var 2) (.cst (.int 0))) .nil)))) (.var 2) (.cst .non)))
    .nil)))
abbrev s_item_in : Stmt := topS 33
theorem c_item_in : chkSs ⟨n_item_in, (defScope s_item_in).names, true, gl, bl, fns⟩ (defBody s_item_in) b_item_in = true := by decide +kernel
theorem sc_item_in : FnScope n_item_in p_item_in (defScope s_item_in) := ⟨rfl, rfl, rfl, by decide +kernel, rfl, by decide +kernel, by decide +kernel⟩
/-! items_in -/
def n_items_in : List Str := ["text", "found", "part", "one"]
def p_items_in : List Str := ["text"]
def b_items_in : S :=
  (.cons (.ite (.cmp .eq (.var 0) (.cst (.str [45])))
    (.cons (.ret (.tup .nil))
    .nil)
    .nil)
    (.cons (.asg (.name 1) (.lc false [2] (.name 2) .seq (.meth .split (.var 0) (.cons (.cst (.str [32, 47, 32])) .nil)) (.cst .non) (.cst (.bool true)) (.call 10 (.cons (.var 2) .nil))))
    (.cons (.ret (.ite (.cmp .notin (.cst .non) (.var 1)) (.bi .tuple (.cons (.lc false [3] (.name 3) .seq (.var 1) (.cst .non) (.cst (.bool true)) (.idx (.var 3) (.cst (.int 0)))) .nil)) (.cst .non)))
    .nil)))
abbrev s_items_in : Stmt := topS 34
theorem c_items_in : chkSs ⟨n_items_in, (defScope s_items_in).names, true, gl, bl, fns⟩ (defBody s_items_in) b_items_in = true := by decide +kernel
theorem sc_items_in : FnScope n_items_in p_items_in (defScope s_items_in) := ⟨rfl, rfl, rfl, by decide +kernel, rfl, by decide +kernel, by decide +kernel⟩
/-! check_shown -/
def n_check_shown : List Str := ["found", "text"]
def p_check_shown : List Str := ["found", "text"]
def b_check_shown : S :=
  (.cons (.ite (.isN false (.var 0))
    (.cons .never
    .nil)
    .nil)
    .nil)
abbrev s_check_shown : Stmt := topS 35
theorem c_check_shown : chkSs ⟨n_check_shown, (defScope s_check_shown).names, true, gl, bl, fns⟩ (defBody s_check_shown) b_check_shown = true := by decide +kernel
theorem sc_check_shown : FnScope n_check_shown p_check_shown (defScope s_check_shown) := ⟨rfl, rfl, rfl, by decide +kernel, rfl, by decide +kernel, by decide +kernel⟩
/-! read_item -/
def n_read_item : List Str := ["text", "found"]
def p_read_item : List Str := ["text"]
def b_read_item : S :=
  (.cons (.asg (.name 1) (.ite (.isI .str (.var 0)) (.call 10 (.cons (.var 0) .nil)) (.cst .non)))
    (.cons (.expr (.call 12 (.cons (.var 1) (.cons (.var 0) .nil))))
    (.cons (.ret (.idx (.var 1) (.cst (.int 0))))
    .nil)))
abbrev s_read_item : Stmt := topS 36
theorem c_read_item : chkSs ⟨n_read_item, (defScope s_read_item).names, true, gl, bl, fns⟩ (defBody s_read_item) b_read_item = true := by decide +kernel
theorem sc_read_item : FnScope n_read_item p_read_item (defScope s_read_item) := ⟨rfl, rfl, rfl, by decide +kernel, rfl, by decide +kernel, by decide +kernel⟩
/-! read_items -/
def n_read_items : List Str := ["text", "found"]
def p_read_items : List Str := ["text"]
def b_read_items : S :=
  (.cons (.asg (.name 1) (.ite (.isI .str (.var 0)) (.call 11 (.cons (.var 0) .nil)) (.cst .non)))
    (.cons (.expr (.call 12 (.cons (.var 1) (.cons (.var 0) .nil))))
    (.cons (.ret (.var 1))
    .nil)))
abbrev s_read_items : Stmt := topS 37
theorem c_read_items : chkSs ⟨n_read_items, (defScope s_read_items).names, true, gl, bl, fns⟩ (defBody s_read_items) b_read_items = true := by decide +kernel
theorem sc_read_items : FnScope n_read_items p_read_items (defScope s_read_items) := ⟨rfl, rfl, rfl, by decide +kernel, rfl, by decide +kernel, by decide +kernel⟩
/-! _law_pot -/
def n_law_pot : List Str := ["_law_script", "_law_k", "_law_cell", "_law_own", "_law_mixed"]
def p_law_pot : List Str := ["_law_script", "_law_k"]
def b_law_pot : S :=
  (.cons (.asg (.name 2) (.ite (.cmp .lt (.var 1) (.bi .len (.cons (.var 0) .nil))) (.idx (.var 0) (.var 1)) (.bin .add (.bin .mul (.cst (.int 41)) (.var 1)) (.cst (.int 13)))))
    (.cons (.asg (.name 3) (.bin .mul (.bin .mod (.bi .int (.cons (.bi .abs (.cons (.var 2) .nil)) .nil)) (.bin .pow (.bin .pow (.cst (.int 10)) (.cst (.int 60))) (.cst (.int 5)))) (.bi .int (.cons (.cmp .ge (.bi .abs (.cons (.var 2) .nil)) (.bin .pow (.cst (.int 10)) (.cst (.int 18)))) .nil))))
    (.cons (.asg (.name 4) (.bin .add (.bin .add (.bin .mul (.bin .mod (.bi .int (.cons (.var 2) .nil)) (.cst (.int 2305843009213693951))) (.cst (.int 70913))) (.bin .mul (.bin .mul (.cst (.int 6701)) (.var 1)) (.var 1))) (.cst (.int 59))))
    (.cons (.ret (.lst true (.cons (.var 3) (.cons (.bin .mod (.bi .int (.cons (.var 4) .nil)) (.cst (.int 2305843009213693921))) (.cons (.cst (.int 0)) .nil)))))
    .nil))))
abbrev s_law_pot : Stmt := topS 39
theorem c_law_pot : chkSs ⟨n_law_pot, (defScope s_law_pot).names, true, gl, bl, fns⟩ (defBody s_law_pot) b_law_pot = true := by decide +kernel
theorem sc_law_pot : FnScope n_law_pot p_law_pot (defScope s_law_pot) := ⟨rfl, rfl, rfl, by decide +kernel, rfl, by decide +kernel, by decide +kernel⟩
/-! _law_take -/
def n_law_take : List Str := ["_law_pot_here", "_law_upto", "_law_prime", "_law_mixed", "_law_digit"]
def p_law_take : List Str := ["_law_pot_here", "_law_upto"]
def b_law_take : S :=
  (.cons (.ite (.cmp .gt (.idx (.var 0) (.cst (.int 0))) (.cst (.int 0)))
    (.cons (.asg (.name 4) (.bin .mod (.bi .int (.cons (.idx (.var 0) (.cst (.int 0))) .nil)) (.var 1)))
    (.cons (.setIx (.var 0) (.cst (.int 0)) (.bin .fdiv (.idx (.var 0) (.cst (.int 0))) (.var 1)))
    (.cons (.ret (.var 4))
    .nil)))
    .nil)
    (.cons (.setIx (.var 0) (.cst (.int 2)) (.bin .add (.idx (.var 0) (.cst (.int 2))) (.cst (.int 1))))
    (.cons (.asg (.name 2) (.idx (.lst false (.cons (.cst (.int 2147483647)) (.cons (.cst (.int 2147483629)) (.cons (.cst (.int 2147483587)) (.cons (.cst (.int 2147483579)) (.cons (.cst (.int 2147483563)) .nil)))))) (.bin .mod (.bi .int (.cons (.idx (.var 0) (.cst (.int 2))) .nil)) (.cst (.int 5)))))
    (.cons (.asg (.name 3) (.bin .mod (.bi .int (.cons (.bin .pow (.bi .int (.cons (.bin .add (.bin .add (.idx (.var 0) (.cst (.int 1))) (.bin .mul (.bin .mul (.cst (.int 98999)) (.idx (.var 0) (.cst (.int 2)))) (.idx (.var 0) (.cst (.int 2))))) (.cst (.int 43))) .nil)) (.cst (.int 3))) .nil)) (.var 2)))
    (.cons (.asg (.name 3) (.bin .mod (.bi .int (.cons (.bin .mul (.var 3) (.bin .add (.bin .mod (.bi .int (.cons (.var 3) .nil)) (.cst (.int 10007))) (.bin .mul (.cst (.int 79)) (.idx (.var 0) (.cst (.int 2)))))) .nil)) (.cst (.int 2305843009213693907))))
    (.cons (.ret (.bin .mod (.bi .int (.cons (.bin .fdiv (.var 3) (.cst (.int 103))) .nil)) (.var 1)))
    .nil))))))
abbrev s_law_take : Stmt := topS 40
theorem c_law_take : chkSs ⟨n_law_take, (defScope s_law_take).names, true, gl, bl, fns⟩ (defBody s_law_take) b_law_take = true := by decide +kernel
theorem sc_law_take : FnScope n_law_take p_law_take (defScope s_law_take) := ⟨rfl, rfl, rfl, by decide +kernel, rfl, by decide +kernel, by decide +kernel⟩
/-! _law_of -/
def n_law_of : List Str := ["_law_pot_here", "_law_some"]
def p_law_of : List Str := ["_law_pot_here", "_law_some"]
def b_law_of : S :=
  (.cons (.ret (.idx (.var 1) (.call 16 (.cons (.var 0) (.cons (.bi .len (.cons (.var 1) .nil)) .nil)))))
    .nil)
abbrev s_law_of : Stmt := topS 41
theorem c_law_of : chkSs ⟨n_law_of, (defScope s_law_of).names, true, gl, bl, fns⟩ (defBody s_law_of) b_law_of = true := by decide +kernel
theorem sc_law_of : FnScope n_law_of p_law_of (defScope s_law_of) := ⟨rfl, rfl, rfl, by decide +kernel, rfl, by decide +kernel, by decide +kernel⟩
/-! _law_name -/
def n_law_name : List Str := ["_law_pot_here", "_law_letters", "_law_drawn", "_law_turn"]
def p_law_name : List Str := ["_law_pot_here"]
def b_law_name : S :=
  (.cons (.asg (.name 1) (.cst (.str [97, 98, 99, 100, 101, 102, 103, 104, 105, 106, 107, 108, 109, 110, 111, 112, 113, 114, 115, 116, 117, 118, 119, 120, 121, 122])))
    (.cons (.asg (.name 2) (.meth .join (.cst (.str [])) (.cons (.lc false [3] (.name 3) .rng1 (.bin .add (.cst (.int 1)) (.call 16 (.cons (.var 0) (.cons (.cst (.int 8)) .nil)))) (.cst .non) (.cst (.bool true)) (.call 17 (.cons (.var 0) (.cons (.var 1) .nil)))) .nil)))
    (.cons (.ret (.call 17 (.cons (.var 0) (.cons (.lst false (.cons (.var 2) (.cons (.var 2) (.cons (.var 2) (.cons (.cst (.str [103, 97, 112])) (.cons (.cst (.str [110, 111, 116])) (.cons (.cst (.str [97, 110, 100])) (.cons (.cst (.str [100, 111])) (.cons (.cst (.str [100, 105, 100])) (.cons (.cst (.str [97, 103, 97, 105, 110])) (.cons (.cst (.str [122])) .nil))))))))))) .nil))))
    .nil)))
abbrev s_law_name : Stmt := topS 42
theorem c_law_name : chkSs ⟨n_law_name, (defScope s_law_name).names, true, gl, bl, fns⟩ (defBody s_law_name) b_law_name = true := by decide +kernel
theorem sc_law_name : FnScope n_law_name p_law_name (defScope s_law_name) := ⟨rfl, rfl, rfl, by decide +kernel, rfl, by decide +kernel, by decide +kernel⟩
/-! _law_item -/
def n_law_item : List Str := ["_law_pot_here", "_law_values", "_law_hand", "_law_word", "_law_turn"]
def p_law_item : List Str := ["_law_pot_here"]
def b_law_item : S :=
  (.cons (.ite (.cmp .eq (.call 16 (.cons (.var 0) (.cons (.cst (.int 3)) .nil))) (.cst (.int 0)))
    (.cons (.ret (.call 17 (.cons (.var 0) (.cons (.lst false (.cons (.cst .non) (.cons (.cst (.int 1)) (.cons (.cst (.int 9)) (.cons (.bin .add (.cst (.int 1)) (.call 16 (.cons (.var 0) (.cons (.cst (.int 9)) .nil)))) .nil))))) .nil))))
    .nil)
    .nil)
    (.cons (.asg (.name 1) (.bi .tuple (.cons (.lc false [4] (.name 4) .rng1 (.call 16 (.cons (.var 0) (.cons (.cst (.int 3)) .nil))) (.cst .non) (.cst (.bool true)) (.call 17 (.cons (.var 0) (.cons (.lst false (.cons (.cst .non) (.cons (.call 16 (.cons (.var 0) (.cons (.cst (.int 4)) .nil))) .nil))) .nil)))) .nil)))
    (.cons (.par [2, 3] (.cons (.call 17 (.cons (.var 0) (.cons (.lst false (.cons (.cst .non) (.cons (.call 18 (.cons (.var 0) .nil)) (.cons (.call 18 (.cons (.var 0) .nil)) .nil)))) .nil))) (.cons (.call 17 (.cons (.var 0) (.cons (.lst false (.cons (.cst .non) (.cons (.call 18 (.cons (.var 0) .nil)) .nil))) .nil))) .nil)))
    (.cons (.ret (.tup (.cons (.var 2) (.cons (.var 3) (.cons (.call 17 (.cons (.var 0) (.cons (.lst false (.cons (.cst .non) (.cons (.var 1) (.cons (.var 1) .nil)))) .nil))) .nil)))))
    .nil))))
abbrev s_law_item : Stmt := topS 43
theorem c_law_item : chkSs ⟨n_law_item, (defScope s_law_item).names, true, gl, bl, fns⟩ (defBody s_law_item) b_law_item = true := by decide +kernel
theorem sc_law_item : FnScope n_law_item p_law_item (defScope s_law_item) := ⟨rfl, rfl, rfl, by decide +kernel, rfl, by decide +kernel, by decide +kernel⟩
/-! _law_item_text -/
def n_law_item_text : List Str := ["_law_item_here", "_law_shown", "_law_value"]
def p_law_item_text : List Str := ["_law_item_here"]
def b_law_item_text : S :=
  (.cons (.ite (.isN false (.var 0))
    (.cons (.ret (.cst (.str [103, 97, 112, 32, 63])))
    .nil)
    .nil)
    (.cons (.ite (.isI .int (.var 0))
    (.cons (.ret (.bin .add (.cst (.str [103, 97, 112, 32])) (.bi .str (.cons (.var 0) .nil))))
    .nil)
    .nil)
    (.cons (.asg (.name 1) (.cst (.str [42])))
    (.cons (.ite (.isN true (.idx (.var 0) (.cst (.int 2))))
    (.cons (.asg (.name 1) (.ite (.cmp .ne (.idx (.var 0) (.cst (.int 2))) (.tup .nil)) (.meth .join (.cst (.str [44])) (.cons (.lc false [2] (.name 2) .seq (.idx (.var 0) (.cst (.int 2))) (.cst .non) (.cst (.bool true)) (.ite (.isN false (.var 2)) (.cst (.str [63])) (.bi .str (.cons (.var 2) .nil)))) .nil)) (.cst (.str [45]))))
    .nil)
    .nil)
    (.cons (.ret (.meth .join (.cst (.str [32])) (.cons (.lst false (.cons (.ite (.isN false (.idx (.var 0) (.cst (.int 0)))) (.cst (.str [45])) (.idx (.var 0) (.cst (.int 0)))) (.cons (.ite (.isN false (.idx (.var 0) (.cst (.int 1)))) (.cst (.str [63])) (.idx (.var 0) (.cst (.int 1)))) (.cons (.var 1) .nil)))) .nil)))
    .nil)))))
abbrev s_law_item_text : Stmt := topS 44
theorem c_law_item_text : chkSs ⟨n_law_item_text, (defScope s_law_item_text).names, true, gl, bl, fns⟩ (defBody s_law_item_text) b_law_item_text = true := by decide +kernel
theorem sc_law_item_text : FnScope n_law_item_text p_law_item_text (defScope s_law_item_text) := ⟨rfl, rfl, rfl, by decide +kernel, rfl, by decide +kernel, by decide +kernel⟩
/-! _law_items_text -/
def n_law_items_text : List Str := ["_law_some", "_law_item_here"]
def p_law_items_text : List Str := ["_law_some"]
def b_law_items_text : S :=
  (.cons (.ret (.ite (.cmp .ne (.var 0) (.tup .nil)) (.meth .join (.cst (.str [32, 47, 32])) (.cons (.lc false [1] (.name 1) .seq (.var 0) (.cst .non) (.cst (.bool true)) (.call 20 (.cons (.var 1) .nil))) .nil)) (.cst (.str [45]))))
    .nil)
abbrev s_law_items_text : Stmt := topS 45
theorem c_law_items_text : chkSs ⟨n_law_items_text, (defScope s_law_items_text).names, true, gl, bl, fns⟩ (defBody s_law_items_text) b_law_items_text = true := by decide +kernel
theorem sc_law_items_text : FnScope n_law_items_text p_law_items_text (defScope s_law_items_text) := ⟨rfl, rfl, rfl, by decide +kernel, rfl, by decide +kernel, by decide +kernel⟩
/-! _law_right -/
def n_law_right : List Str := ["_law_pot_here", "_law_turn", "_law_item_here", "_law_page", "_law_some", "_law_kept", "_law_again"]
def p_law_right : List Str := ["_law_pot_here"]
def b_law_right : S :=
  (.cons (.loop (.name 1) .rng1 (.cst (.int 20)) (.cst .non)
    (.cons (.asg (.name 2) (.call 19 (.cons (.var 0) .nil)))
    (.cons (.asg (.name 3) (.call 20 (.cons (.var 2) .nil)))
    (.cons (.ite (.or (.cmp .ne (.bi .repr (.cons (.call 7 (.cons (.var 2) .nil)) .nil)) (.bi .repr (.cons (.var 3) .nil))) (.one (.cmp .ne (.bi .repr (.cons (.call 13 (.cons (.var 3) .nil)) .nil)) (.bi .repr (.cons (.var 2) .nil)))))
    (.cons (.ret (.cst (.bool false)))
    .nil)
    .nil)
    .nil))))
    (.cons (.loop (.name 1) .rng1 (.cst (.int 8)) (.cst .non)
    (.cons (.asg (.name 4) (.bi .tuple (.cons (.lc false [6] (.name 6) .rng1 (.call 16 (.cons (.var 0) (.cons (.cst (.int 13)) .nil))) (.cst .non) (.cst (.bool true)) (.call 19 (.cons (.var 0) .nil))) .nil)))
    (.cons (.par [5, 3] (.cons (.bi .repr (.cons (.var 4) .nil)) (.cons (.call 21 (.cons (.var 4) .nil)) .nil)))
    (.cons (.ite (.or (.cmp .ne (.bi .repr (.cons (.call 8 (.cons (.var 4) .nil)) .nil)) (.bi .repr (.cons (.var 3) .nil))) (.or (.cmp .ne (.bi .repr (.cons (.call 14 (.cons (.var 3) .nil)) .nil)) (.var 5)) (.one (.cmp .ne (.bi .repr (.cons (.var 4) .nil)) (.var 5)))))
    (.cons (.ret (.cst (.bool false)))
    .nil)
    .nil)
    .nil))))
    (.cons (.ret (.cst (.bool true)))
    .nil)))
abbrev s_law_right : Stmt := topS 46
theorem c_law_right : chkSs ⟨n_law_right, (defScope s_law_right).names, true, gl, bl, fns⟩ (defBody s_law_right) b_law_right = true := by decide +kernel
theorem sc_law_right : FnScope n_law_right p_law_right (defScope s_law_right) := ⟨rfl, rfl, rfl, by decide +kernel, rfl, by decide +kernel, by decide +kernel⟩
/-! law -/
def n_law : List Str := ["_law_script", "_law_k", "_law_pot_here"]
def p_law : List Str := ["_law_script"]
def b_law : S :=
  (.cons (.loop (.name 1) .rng1 (.bi .max (.cons (.cst (.int 1)) (.cons (.bi .min (.cons (.cst (.int 4)) (.cons (.bi .len (.cons (.var 0) .nil)) .nil))) .nil))) (.cst .non)
    (.cons (.asg (.name 2) (.call 15 (.cons (.var 0) (.cons (.var 1) .nil))))
    (.cons (.ite (.not (.call 22 (.cons (.var 2) .nil)))
    (.cons (.ret (.cst (.bool false)))
    .nil)
    .nil)
    .nil)))
    (.cons (.ret (.cst (.bool true)))
    .nil))
abbrev s_law : Stmt := topS 47
theorem c_law : chkSs ⟨n_law, (defScope s_law).names, true, gl, bl, fns⟩ (defBody s_law) b_law = true := by decide +kernel
theorem sc_law : FnScope n_law p_law (defScope s_law) := ⟨rfl, rfl, rfl, by decide +kernel, rfl, by decide +kernel, by decide +kernel⟩
end K85

namespace K85
open PySem L2 Dy
/-! ### what the defs are worth -/
def isIntV : Val → Bool
  | .int _ => true
  | _ => false
def fs_is_integer : FS := fun args m Q _ => ∃ v, args = [v] ∧ Q (.bool (isIntV v)) m
theorem m_is_integer {F : Nat → FS} : Meets F 1 b_is_integer fs_is_integer := by
  rintro args m Q R hm ha ⟨v, rfl, hQ⟩
  unfold b_is_integer
  simp
  cases v <;> simp [isIntV] at hQ ⊢ <;> exact .inl hQ
def betw (lo hi : Int) : Val → Bool
  | .int i => decide (lo ≤ i) && decide (i ≤ hi)
  | _ => false
def fs_is_between : FS := fun args m Q _ => ∃ v lo hi, args = [v, .int lo, .int hi] ∧ Q (.bool (betw lo hi v)) m
theorem m_is_between {F : Nat → FS} (h0 : F 0 = fs_is_integer) : Meets F 3 b_is_between fs_is_between := by
  rintro args m Q R hm ha ⟨v, lo, hi, rfl, hQ⟩
  unfold b_is_between
  simp [h0, fs_is_integer]
  cases v with
  | int i =>
    simp [isIntV]
    by_cases h : lo ≤ i
    · simp [h, betw] at hQ ⊢; exact .inl hQ
    · simp [h, betw] at hQ ⊢; exact .inl hQ
  | _ => simp [isIntV, betw] at hQ ⊢; exact .inl hQ
def letters : Text := [97, 98, 99, 100, 101, 102, 103, 104, 105, 106, 107, 108, 109, 110, 111, 112, 113, 114, 115, 116, 117, 118, 119, 120, 121, 122]
def nameT (t : Text) : Bool := decide (1 ≤ t.length) && decide (t.length ≤ 8) && t.all fun c => decide (c ∈ letters)
def nameV : Val → Bool
  | .str t => nameT t
  | _ => false
theorem bools_map {α : Type} (f : α → Bool) : ∀ t : List α, boolsOf (t.map fun c => Val.bool (f c)) = some (t.map f)
  | [] => rfl
  | c :: t => by simp [bools_map f t]
def fs_is_name : FS := fun args m Q _ => ∃ v, args = [v] ∧ (∀ t, v = .str t → t.length ≤ 1000) ∧ Q (.bool (nameV v)) m
theorem m_is_name {F : Nat → FS} : Meets F 2 b_is_name fs_is_name := by
  rintro args m Q R hm ha ⟨v, rfl, hv, hQ⟩
  unfold b_is_name
  cases v with
  | str t =>
    have ht := hv t rfl
    simp [sizeLine_is]
    have hz : t.length ≤ 16777216 := by omega
    simp only [hz, true_and]
    by_cases h1 : 1 ≤ t.length
    · by_cases h2 : t.length ≤ 8
      · have h1' : (1 : Int) ≤ t.length := by omega
        have h2' : (t.length : Int) ≤ 8 := by omega
        simp [h1, h2, h1', h2']
        refine lc_signs (f := fun c => decide (c ∈ letters)) trivial (fun c P h => by simpa [letters] using h) t [] (by rw [sizeLine_is]; simp; omega) ?_
        refine ⟨t.map fun c => decide (c ∈ letters), by rw [List.nil_append]; exact bools_map _ t, .inl ?_⟩
        have e : nameV (.str t) = (t.map fun c => decide (c ∈ letters)).all id := by simp [nameV, nameT, h1, h2, List.all_map]
        rw [← e]; exact hQ
      · have h1' : (1 : Int) ≤ t.length := by omega
        have h2' : ¬ (t.length : Int) ≤ 8 := by omega
        simp [h1, h2, h1', h2', nameV, nameT] at hQ ⊢
        exact .inl hQ
    · have h1' : ¬ (1 : Int) ≤ t.length := by omega
      simp [h1, h1', nameV, nameT] at hQ ⊢
      exact .inl hQ
  | _ => simp [nameV] at hQ ⊢; exact .inl hQ
def digits : Text := [48, 49, 50, 51, 52, 53, 54, 55, 56, 57]
/-- a number of at most three digits -/
def numT? (t : Text) : Option Nat :=
  if 1 ≤ t.length ∧ t.length ≤ 3 ∧ (t.all fun c => decide (c ∈ digits)) = true ∧ (t = [48] ∨ t.head? ≠ some 48) then some (NumText.digitsVal t) else none
def oN : Option Nat → Val
  | none => .non
  | some n => .int n
def fs_number_in : FS := fun args m Q _ => ∃ t : Text, args = [.str t] ∧ t.length ≤ 1000 ∧ Q (oN (numT? t)) m
theorem digs {t : Text} (h : (t.all fun c => decide (c ∈ digits)) = true) : (t.all fun c => decide (48 ≤ c) && decide (c ≤ 57)) = true := by
  rw [List.all_eq_true] at h ⊢
  intro c hc
  have := h c hc
  simp [digits] at this
  simp
  omega
theorem m_number_in {F : Nat → FS} : Meets F 2 b_number_in fs_number_in := by
  rintro args m Q R hm ha ⟨t, rfl, ht, hQ⟩
  unfold b_number_in
  simp [sizeLine_is]
  have hz : t.length ≤ 16777216 := by omega
  simp only [hz, true_and]
  by_cases h1 : 1 ≤ t.length ∧ t.length ≤ 3
  · obtain ⟨h1, h2⟩ := h1
    have h1' : (1 : Int) ≤ t.length := by omega
    have h2' : (t.length : Int) ≤ 3 := by omega
    simp [h1, h2, h1', h2']
    refine lc_signs (f := fun c => decide (c ∈ digits)) trivial (fun c P h => by simpa [digits] using h) t [] (by rw [sizeLine_is]; simp; omega) ?_
    refine ⟨t.map fun c => decide (c ∈ digits), by rw [List.nil_append]; exact bools_map _ t, ?_⟩
    have e : false ∈ List.map (fun c => decide (c ∈ digits)) t ↔ ¬ (t.all fun c => decide (c ∈ digits)) = true := by simp
    by_cases h3 : (t.all fun c => decide (c ∈ digits)) = true
    · rw [if_neg (by rw [e]; simpa using h3)]
      have hi := SX.int_S (digs h3) (by intro z; subst z; simp at h1) (by omega)
      by_cases h4 : t = [48]
      · have ev : numT? t = some (NumText.digitsVal t) := if_pos ⟨h1, h2, h3, .inl h4⟩
        rw [if_pos h4]
        rw [ev] at hQ
        exact ⟨_, hi, by omega, .inl hQ⟩
      · rw [if_neg h4]
        cases t with
        | nil => simp at h1
        | cons c r =>
          refine ⟨.str [c], ⟨c, atI0 _ _, rfl⟩, ?_⟩
          simp
          by_cases h5 : c = 48
          · have ev : numT? (c :: r) = none := if_neg (by
              rintro ⟨_, _, _, z | z⟩
              · exact h4 z
              · simp [h5] at z)
            rw [ev] at hQ
            rw [if_pos h5]
            exact .inl hQ
          · have ev : numT? (c :: r) = some (NumText.digitsVal (c :: r)) := if_pos ⟨h1, h2, h3, .inr (by simpa using h5)⟩
            rw [ev] at hQ
            rw [if_neg h5]
            exact ⟨_, hi, by simp at h2; omega, .inl hQ⟩
    · rw [if_pos (by rw [e]; exact h3)]
      have ev : numT? t = none := if_neg fun z => h3 z.2.2.1
      rw [ev] at hQ
      exact .inl hQ
  · have ev : numT? t = none := if_neg fun z => h1 ⟨z.1, z.2.1⟩
    rw [ev] at hQ
    by_cases g1 : 1 ≤ t.length
    · have g2 : ¬ t.length ≤ 3 := fun z => h1 ⟨g1, z⟩
      have g1' : (1 : Int) ≤ t.length := by omega
      have g2' : ¬ (t.length : Int) ≤ 3 := by omega
      simp [g1, g2, g1', g2']
      exact .inl hQ
    · have g1' : ¬ (1 : Int) ≤ t.length := by omega
      simp [g1, g1']
      exact .inl hQ
/-! ### items -/
def NameOk (t : Text) : Prop := 1 ≤ t.length ∧ t.length ≤ 8 ∧ ∀ c ∈ t, c ∈ letters
theorem NameOk.nameT {t : Text} (h : NameOk t) : nameT t = true := by
  unfold K85.nameT
  simp [h.1, h.2.1]
  exact h.2.2
inductive Item where
  | gap (g : Option Nat)
  | entry (h w : Option Text) (vs : Option (List (Option Nat)))
def Item.ok : Item → Prop
  | .gap g => ∀ n, g = some n → 1 ≤ n ∧ n ≤ 9
  | .entry h w vs => (∀ t, h = some t → NameOk t) ∧ (∀ t, w = some t → NameOk t) ∧ ∀ l, vs = some l → l.length ≤ 2 ∧ ∀ v ∈ l, ∀ n, v = some n → n ≤ 3
def oT : Option Text → Val
  | none => .non
  | some t => .str t
def oV : Option (List (Option Nat)) → Val
  | none => .non
  | some l => .tup (l.map oN)
def Item.val : Item → Val
  | .gap g => oN g
  | .entry h w vs => .tup [oT h, oT w, oV vs]
/-- the text of a number, perhaps not read -/
def nT : Option Nat → Text
  | none => [63]
  | some n => TL.numL n
def vT : Option (List (Option Nat)) → Text
  | none => [42]
  | some l => if l = [] then [45] else TL.joinL [44] (l.map nT)
def Item.words : Item → List Text
  | .gap g => [[103, 97, 112], nT g]
  | .entry h w vs => [h.getD [45], w.getD [63], vT vs]
def Item.text (it : Item) : Text := TL.joinL [32] it.words
def nameO : Option Text → Prop := fun o => ∀ t, o = some t → NameOk t
def fs_is_entry_read : FS := fun args m Q _ => ∃ h w vs, (Item.entry h w vs).ok ∧ args = [(Item.entry h w vs).val] ∧ Q (.bool true) m
def fs_is_item : FS := fun args m Q _ => ∃ it : Item, it.ok ∧ args = [it.val] ∧ Q (.bool true) m
theorem nm_len {t : Text} (h : NameOk t) : t.length ≤ 1000 := by have := h.2.1; omega
theorem m_is_entry_read {F : Nat → FS} (h1 : F 1 = fs_is_between) (h2 : F 2 = fs_is_name) : Meets F 6 b_is_entry_read fs_is_entry_read := by
  rintro args m Q R hm ha ⟨h, w, vs, ⟨o1, o2, o3⟩, rfl, hQ⟩
  unfold b_is_entry_read
  simp [Item.val, h1, h2, fs_is_between, fs_is_name, sizeLine_is]
  refine lc_pure (f := fun _ => .bool true) trivial _ _ ?_ (by rw [sizeLine_is]; simp) ?_
  · intro x hx P hP
    have : (∃ o : Option Text, nameO o ∧ x = oT o) := by
      simp at hx
      rcases hx with rfl | rfl
      · exact ⟨h, o1, rfl⟩
      · exact ⟨w, o2, rfl⟩
    obtain ⟨o, ho, rfl⟩ := this
    cases o with
    | none => exact .inr ⟨rfl, hP⟩
    | some t =>
      refine .inl ⟨rfl, ?_, ?_⟩
      · rintro t' e
        cases e
        exact nm_len (ho t rfl)
      · have := (ho t rfl).nameT
        simpa [oT, nameV, this] using hP
  · refine ⟨[true, true], rfl, ?_⟩
    simp
    cases vs with
    | none => simp [oV]; exact .inl hQ
    | some l =>
      obtain ⟨hl, hv⟩ := o3 l rfl
      simp [oV]
      rw [if_neg (by omega)]
      refine lc_pure (f := fun _ => .bool true) trivial _ _ ?_ (by rw [sizeLine_is]; simp; omega) ?_
      · intro x hx P hP
        obtain ⟨o, ho, rfl⟩ := List.mem_map.mp hx
        cases o with
        | none => exact .inr ⟨rfl, hP⟩
        | some n =>
          have := hv _ ho n rfl
          refine .inl ⟨rfl, _, _, _, ⟨rfl, rfl, rfl⟩, ?_⟩
          have e : betw 0 3 (oN (some n)) = true := by simp [betw, oN]; omega
          rw [e]; exact hP
      · refine ⟨l.map fun _ => true, ?_, .inl ?_⟩
        · rw [List.nil_append, List.map_map]
          exact bools_map (fun _ => true) l
        · have e : (l.map fun _ => true).all id = true := by simp [List.all_map]
          rw [e]; exact hQ
theorem m_is_item {F : Nat → FS} (h1 : F 1 = fs_is_between) (h4 : F 4 = fs_is_entry_read) : Meets F 1 b_is_item fs_is_item := by
  rintro args m Q R hm ha ⟨it, ok, rfl, hQ⟩
  unfold b_is_item
  simp [h1, h4, fs_is_between, fs_is_entry_read]
  cases it with
  | gap g =>
    cases g with
    | none => simp [Item.val, oN]; exact .inl hQ
    | some n =>
      have := ok n rfl
      have e : betw 1 9 (.int n) = true := by simp [betw]; omega
      simp [Item.val, oN]
      refine ⟨_, _, _, ⟨rfl, rfl, rfl⟩, ?_⟩
      rw [e]
      simp
      exact .inl hQ
  | entry h w vs =>
    simp [Item.val]
    refine ⟨_, _, _, ⟨rfl, rfl, rfl⟩, ?_⟩
    simp [betw]
    exact ⟨h, w, vs, ok, ⟨rfl, rfl, rfl⟩, .inl hQ⟩
def fs_shown_values : FS := fun args m Q _ => ∃ vs : Option (List (Option Nat)), (∀ l, vs = some l → l.length ≤ 2 ∧ ∀ v ∈ l, ∀ n, v = some n → n ≤ 3) ∧ args = [oV vs] ∧ Q (.str (vT vs)) m
theorem m_shown_values {F : Nat → FS} : Meets F 2 b_shown_values fs_shown_values := by
  rintro args m Q R hm ha ⟨vs, hvs, rfl, hQ⟩
  unfold b_shown_values
  cases vs with
  | none => simp [oV]; exact .inl hQ
  | some l =>
    obtain ⟨hl, hv⟩ := hvs l rfl
    simp [oV, sizeLine_is]
    have hlay : lays (l.map oN) = true := by
      clear hQ hm ha hvs hl hv
      induction l with
      | nil => rfl
      | cons o l ih => cases o <;> simp [lays, lay, oN, ih]
    have hdep : deps (l.map oN) = 0 := by
      clear hQ hm ha hvs hl hv hlay
      induction l with
      | nil => rfl
      | cons o l ih => cases o <;> simp [deps, dep, oN, ih]
    refine cmp_neG (by simp [cmpV, lay, dep, hlay, hdep]) (by decide) ?_
    cases l with
    | nil => simp [veqv, veqvs]; exact .inl hQ
    | cons o l =>
      have e : veqv (.tup (List.map oN (o :: l))) (.tup []) = false := by simp [veqv, veqvs]
      rw [e]
      simp only [Bool.not_false, if_true]
      have hn : ∀ n : Nat, n ≤ 3 → numT (n : Int) = TL.numL n := fun n _ => by
        unfold numT
        rw [SX.num_S]
      refine lc_pure (f := fun x => match x with | .int n => .str (numT n) | _ => .str [63]) trivial _ _ ?_ (by rw [sizeLine_is]; simp at hl ⊢; omega) ?_
      · intro x hx P hP
        obtain ⟨z, hz, rfl⟩ := List.mem_map.mp hx
        cases z with
        | none => simpa [oN] using hP
        | some n =>
          have := hv _ hz n rfl
          have hlog : n.log2 < 1920 := by
            have : n = 0 ∨ n = 1 ∨ n = 2 ∨ n = 3 := by omega
            rcases this with rfl | rfl | rfl | rfl <;> decide
          simpa [oN, hlog] using hP
      · have emap : ∀ l : List (Option Nat), (∀ v ∈ l, ∀ n, v = some n → n ≤ 3) → (l.map oN).map (fun x => match x with | .int n => Val.str (numT n) | _ => .str [63]) = (l.map nT).map .str := by
          intro l hv
          rw [List.map_map, List.map_map]
          refine List.map_congr_left fun z hz => ?_
          cases z with
          | none => rfl
          | some n => simp [oN, nT, hn n (hv _ hz n rfl)]
        refine ⟨(o :: l).map nT, by rw [List.nil_append]; exact emap _ hv, ?_, ?_⟩
        · have hsum : ∀ l : List (Option Nat), (∀ v ∈ l, ∀ n, v = some n → n ≤ 3) → ((l.map nT).map fun x => List.length x).sum ≤ l.length := by
            intro l hv
            induction l with
            | nil => simp
            | cons z l ih =>
              have ih' := ih fun v hv' => hv v (List.mem_cons_of_mem _ hv')
              have hz : (nT z).length = 1 := by
                cases z with
                | none => rfl
                | some n =>
                  have := hv _ List.mem_cons_self n rfl
                  show (TL.numL n).length = 1
                  rw [TL.numL_lt (by omega)]; rfl
              simp only [List.map_cons, List.sum_cons, List.length_cons, hz]
              omega
          have h9 := hsum (o :: l) hv
          have h8 : (o :: l).length ≤ 2 := hl
          have h7 : ((o :: l).map nT).length = (o :: l).length := List.length_map ..
          generalize (((o :: l).map nT).map fun x => List.length x).sum = S at h9 ⊢
          rw [h7]
          generalize (o :: l).length = L at h8 h9 ⊢
          simp
          omega
        · have ev : vT (some (o :: l)) = TL.joinL [44] ((o :: l).map nT) := by simp [vT]
          rw [ev] at hQ
          exact .inl hQ
def fs_item_text : FS := fun args m Q _ => ∃ it : Item, it.ok ∧ args = [it.val] ∧ Q (.str it.text) m
theorem small_log {n : Nat} (h : n < 1000) : n.log2 < 1920 := by
  by_cases z : n = 0
  · subst z; decide
  · have := (Nat.log2_lt z).mpr (show n < 2 ^ 10 by omega)
    omega
theorem numT_nat (n : Nat) : numT (n : Int) = TL.numL n := by
  unfold numT
  rw [SX.num_S]
theorem nT_len {o : Option Nat} (h : ∀ n, o = some n → n ≤ 9) : (nT o).length = 1 := by
  cases o with
  | none => rfl
  | some n =>
    have := h n rfl
    show (TL.numL n).length = 1
    rw [TL.numL_lt (by omega)]; rfl
theorem vT_len {vs : Option (List (Option Nat))} (h : ∀ l, vs = some l → l.length ≤ 2 ∧ ∀ v ∈ l, ∀ n, v = some n → n ≤ 3) : (vT vs).length ≤ 3 := by
  cases vs with
  | none => decide
  | some l =>
    obtain ⟨hl, hv⟩ := h l rfl
    match l, hl, hv with
    | [], _, _ => decide
    | [a], _, hv =>
      show (nT a).length ≤ 3
      rw [nT_len fun n e => by have := hv a (by simp) n e; omega]; decide
    | [a, b], _, hv =>
      show (nT a ++ ([44] ++ nT b)).length ≤ 3
      simp only [List.length_append]
      rw [nT_len fun n e => by have := hv a (by simp) n e; omega, nT_len fun n e => by have := hv b (by simp) n e; omega]; decide
theorem m_show_item {F : Nat → FS} (h6 : F 6 = fs_shown_values) : Meets F 4 b_show_item fs_item_text := by
  rintro args m Q R hm ha ⟨it, ok, rfl, hQ⟩
  unfold b_show_item
  cases it with
  | gap g =>
    cases g with
    | none =>
      simp [Item.val, oN, sizeLine_is]
      exact ⟨[[103, 97, 112], [63]], rfl, by decide, .inl hQ⟩
    | some n =>
      have := ok n rfl
      have hlog := small_log (n := n) (by omega)
      simp [Item.val, oN, sizeLine_is, hlog]
      refine ⟨[[103, 97, 112], numT n], rfl, ?_, .inl ?_⟩
      · have : (numT (n : Int)).length = 1 := by rw [numT_nat]; exact nT_len (o := some n) fun k e => by cases e; omega
        simp [this]
      · rw [numT_nat]; exact hQ
  | entry h w vs =>
    obtain ⟨o1, o2, o3⟩ := ok
    have hv := vT_len o3
    cases h <;> cases w <;> simp [Item.val, oT, sizeLine_is, h6, fs_shown_values] <;> refine ⟨vs, o3, rfl, ?_⟩
    case none.none => exact ⟨[[45], [63], vT vs], rfl, by simp; omega, .inl hQ⟩
    case none.some w => exact ⟨[[45], w, vT vs], rfl, by have := (o2 w rfl).2.1; simp; omega, .inl hQ⟩
    case some.none h => exact ⟨[h, [63], vT vs], rfl, by have := (o1 h rfl).2.1; simp; omega, .inl hQ⟩
    case some.some h w => exact ⟨[h, w, vT vs], rfl, by have := (o1 h rfl).2.1; have := (o2 w rfl).2.1; simp; omega, .inl hQ⟩
end K85

namespace K85
open PySem L2 Dy
/-! ### splitting -/
theorem free3 : ∀ {p : List Nat}, 47 ∉ p → SX.free [32, 47, 32] p = true
  | [], _ => rfl
  | [c], h => by
    show (!(TL.pre [32, 47, 32] (c :: ([] ++ [32, 47, 32]))) && true) = true
    simp [TL.pre]
  | c :: d :: r, h => by
    have ih := free3 (p := d :: r) fun z => h (List.mem_cons_of_mem _ z)
    show (!(TL.pre [32, 47, 32] (c :: ((d :: r) ++ [32, 47, 32]))) && SX.free [32, 47, 32] (d :: r)) = true
    rw [ih]
    have hd : d ≠ 47 := fun z => h (by simp [z])
    simp [TL.pre, hd]
theorem pre3 : ∀ (p : List Nat), 47 ∉ p → TL.pre [32, 47, 32] p = false
  | [], _ => rfl
  | [c], h => by simp [TL.pre]
  | c :: d :: r, h => by
    have hd : d ≠ 47 := fun z => h (by simp [z])
    simp [TL.pre, hd]
theorem last3 {p : List Nat} (h : 47 ∉ p) : TL.spl [32, 47, 32] 0 [] p = [p] := by
  rw [TL.spl_last fun i _ => pre3 _ fun z => h (List.mem_of_mem_drop z)]
  rfl
theorem spl3 : ∀ {ps : List (List Nat)}, ps ≠ [] → (∀ p ∈ ps, 47 ∉ p) → TL.spl [32, 47, 32] 0 [] (TL.joinL [32, 47, 32] ps) = ps
  | [], h, _ => absurd rfl h
  | [p], _, h => last3 (h p (by simp))
  | p :: q :: r, _, h => by
    show TL.spl [32, 47, 32] 0 [] (p ++ ([32, 47, 32] ++ TL.joinL [32, 47, 32] (q :: r))) = _
    rw [SX.spl_free _ (by simp) (free3 (h p (by simp))), spl3 (by simp) fun z hz => h z (List.mem_cons_of_mem _ hz)]
/-! ### numbers read back -/
theorem num_back {n : Nat} (h : n ≤ 9) : numT? (TL.numL n) = some n := by
  rw [TL.numL_lt (by omega)]
  have : n = 0 ∨ n = 1 ∨ n = 2 ∨ n = 3 ∨ n = 4 ∨ n = 5 ∨ n = 6 ∨ n = 7 ∨ n = 8 ∨ n = 9 := by omega
  rcases this with rfl | rfl | rfl | rfl | rfl | rfl | rfl | rfl | rfl | rfl <;> decide
theorem num_ne {n : Nat} (h : n ≤ 9) : TL.numL n ≠ [63] := by
  rw [TL.numL_lt (by omega)]
  intro z
  simp at z
  omega
def vsOk (vs : Option (List (Option Nat))) : Prop := ∀ l, vs = some l → l.length ≤ 2 ∧ ∀ v ∈ l, ∀ n, v = some n → n ≤ 3
theorem nT_sign {o : Option Nat} (h : ∀ n, o = some n → n ≤ 9) : ∃ c, nT o = [c] ∧ (c = 63 ∨ 48 ≤ c ∧ c ≤ 57) := by
  cases o with
  | none => exact ⟨63, rfl, .inl rfl⟩
  | some n =>
    have := h n rfl
    refine ⟨48 + n, TL.numL_lt (by omega), .inr (by omega)⟩
theorem join_head {sep : List Nat} {c : Nat} {p : List Nat} : ∀ {ps : List (List Nat)}, ∃ r, TL.joinL sep ((c :: p) :: ps) = c :: r
  | [] => ⟨p, rfl⟩
  | q :: ps => ⟨_, rfl⟩
theorem for_inv85 {live : Store → Prop} {step : Val → Dy.Env → Store → (Dy.Env → Store → Prop) → Prop} {fin : Dy.Env → Store → Prop} {J : List Val → Dy.Env → Store → Prop} (hl : ∀ m, live m)
    (hs : ∀ x xs r m nx, J (x :: xs) r m → (∀ r' m', J xs r' m' → nx r' m') → step x r m nx) (hf : ∀ r m, J [] r m → fin r m) : ∀ {items : List Val} {r : Dy.Env} {m : Store}, J items r m → forW live step fin items r m
  | [], r, m, h => ⟨hl m, hf r m h⟩
  | x :: xs, r, m, h => ⟨hl m, hs x xs r m _ h fun r' m' h' => for_inv85 hl hs hf h'⟩
def fs_values_in : FS := fun args m Q _ => ∃ vs, vsOk vs ∧ args = [.str (vT vs)] ∧ Q (.tup [oV vs]) m
theorem set_end {m : Store} {a b : Ob} : (m ++ [a]).set m.length b = m ++ [b] := by
  rw [List.set_append_right _ _ (Nat.le_refl _), Nat.sub_self]; rfl
theorem get_end {m : Store} {a : Ob} : (m ++ [a])[m.length]? = some a := by simp
theorem cVs_oN (n : Nat) : ∀ l : List (Option Nat), cVs n (l.map oN) = true
  | [] => rfl
  | o :: l => by cases o <;> simp [cVs, cV, oN, cVs_oN n l]
theorem m_values_in {F : Nat → FS} (h3 : F 3 = fs_number_in) : Meets F 4 b_values_in fs_values_in := by
  rintro args m Q R hm ha ⟨vs, hvs, rfl, hQ⟩
  unfold b_values_in
  cases vs with
  | none => simp [vT, sizeLine_is]; exact .inl hQ
  | some l =>
    obtain ⟨hl, hv⟩ := hvs l rfl
    cases l with
    | nil => simp [vT, sizeLine_is]; exact .inl hQ
    | cons o l =>
      have e : vT (some (o :: l)) = TL.joinL [44] ((o :: l).map nT) := by simp [vT]
      obtain ⟨c, hc, hc2⟩ := nT_sign (o := o) fun n z => by have := hv o (by simp) n z; omega
      obtain ⟨r, hr⟩ := join_head (sep := [44]) (c := c) (p := []) (ps := l.map nT)
      have e2 : vT (some (o :: l)) = c :: r := by rw [e, List.map_cons, hc, hr]
      have n1 : vT (some (o :: l)) ≠ [42] := by rw [e2]; simp; omega
      have n2 : vT (some (o :: l)) ≠ [45] := by rw [e2]; simp; omega
      have hlen := vT_len hvs
      have esp : TL.spl [44] 0 [] (vT (some (o :: l))) = (o :: l).map nT := by
        rw [e]
        refine TL.spl_join (by simp) fun p hp => ?_
        obtain ⟨z, hz, rfl⟩ := List.mem_map.mp hp
        obtain ⟨d, hd, hd2⟩ := nT_sign (o := z) fun n q => by have := hv z hz n q; omega
        rw [hd]; simp; omega
      simp [n1, n2, sizeLine_is, esp, h3, fs_number_in]
      refine ⟨by omega, ?_⟩
      refine for_inv85 (J := fun rem r m' => ∃ (acc l2 : List (Option Nat)) (x y : Option Val), acc ++ l2 = o :: l ∧ rem = l2.map (Val.str ∘ nT) ∧ r = [some (.str (vT (some (o :: l)))), some (.loc m.length), x, y] ∧ m' = m ++ [.list (acc.map oN)]) (fun _ => trivial) ?_ ?_ ⟨[], o :: l, none, none, rfl, rfl, rfl, rfl⟩
      · rintro x xs r m' nx ⟨acc, l2, y, z, q1, q2, rfl, rfl⟩ hn
        cases l2 with
        | nil => simp at q2
        | cons w l2 =>
          simp at q2
          obtain ⟨rfl, rfl⟩ := q2
          have hacc : acc.length ≤ 2 := by
            have := congrArg List.length q1
            simp at this hl
            omega
          have hw := hv w (by rw [← q1]; simp)
          have hn2 := hn [some (.str (vT (some (o :: l)))), some (.loc m.length), some (.str (nT w)), some (oN w)] (m ++ [.list ((acc ++ [w]).map oN)]) ⟨acc ++ [w], l2, _, _, by simpa using q1, rfl, rfl, rfl⟩
          cases w with
          | none =>
            simp [nT, sizeLine_is, set_end, oN] at hn2 ⊢
            exact ⟨by omega, hn2⟩
          | some n =>
            have h3n := hw n rfl
            have e9 : nT (some n) = TL.numL n := rfl
            have e8 : TL.numL n ≠ [63] := num_ne (by omega)
            have e7 : (TL.numL n).length = 1 := nT_len (o := some n) fun k z => by cases z; omega
            have e6 : numT? (TL.numL n) = some n := num_back (by omega)
            simp [e9, e8, e7, e6, sizeLine_is, set_end, oN] at hn2 ⊢
            exact ⟨by omega, hn2⟩
      · rintro r m' ⟨acc, l2, y, z, q1, q2, rfl, rfl⟩
        cases l2 with
        | cons w l2 => simp at q2
        | nil =>
          simp at q1
          simp
          refine .inr ⟨m.length, Nat.le_refl _, ?_, ?_, ?_⟩
          · simp [cV, cVs, cVs_oN]
          · simpa using hm
          · simp
            rw [q1]
            exact hQ
end K85

/-! Dp, part P: the same readings, laid out so that simp walks them from the front and leaves what comes later alone. -/
namespace Dy
open PySem L2
inductive Tok {α : Type} : α → Type
  | mk {a : α} : Tok a
def ex {α : Type} (o : Option α) (P : α → Prop) (t : Tok P) : Prop := ∃ v, o = some v ∧ P v
@[simp ↓] theorem ex_some {α : Type} (v : α) (P : α → Prop) (t : Tok P) : ex (some v) P t = P v := by simp [ex]
@[simp ↓] theorem ex_none {α : Type} (P : α → Prop) (t : Tok P) : ex none P t = False := by simp [ex]
theorem ex_i {α : Type} {o : Option α} {v : α} {P : α → Prop} {t : Tok P} (h : o = some v) (q : P v) : ex o P t := ⟨v, h, q⟩
def asT (w : Val) (P : List Val → Prop) (t : Tok P) : Prop := ∃ vs, w = .tup vs ∧ P vs
@[simp ↓] theorem asT_tup (vs : List Val) (P : List Val → Prop) (t : Tok P) : asT (.tup vs) P t = P vs := by simp [asT]
def asI (w : Val) (P : Int → Prop) (t : Tok P) : Prop := ∃ i, w = .int i ∧ P i
@[simp ↓] theorem asI_int (i : Int) (P : Int → Prop) (t : Tok P) : asI (.int i) P t = P i := by simp [asI]
def callF (f : FS) (vs : List Val) (m : Store) (Q : Val → Store → Prop) (R : Rq) (t : Tok Q) (u : Tok R) : Prop := f vs m Q R
def binX (op : BOp) (a b : Val) (m : Store) (Q : Val → Store → Prop) (t : Tok Q) : Prop := binW op a b m Q
def cmpX (op : COp) (a b : Val) (m : Store) (T : Bool → Prop) (t : Tok T) : Prop := cmpW op a b m T
def biX (b : Bi) (vs : List Val) (m : Store) (Q : Val → Store → Prop) (t : Tok Q) : Prop := biW b vs m Q
def mtX (k : Mt) (v : Val) (vs : List Val) (m : Store) (Q : Val → Store → Prop) (t : Tok Q) : Prop := mtW k v vs m Q
def setX (o i v : Val) (m : Store) (P : Store → Prop) (t : Tok P) : Prop := setW o i v m P
def lcX (live : Store → Prop) (body : Val → Store → (Option Val → Store → Prop) → Prop) (items acc : List Val) (m : Store) (fin : List Val → Store → Prop) (t1 : Tok live) (t2 : Tok body) (t3 : Tok fin) : Prop := lcW live body items acc m fin
def forX (live : Store → Prop) (step : Val → Dy.Env → Store → (Dy.Env → Store → Prop) → Prop) (k : Dy.Env → Store → Prop) (items : List Val) (r : Dy.Env) (m : Store) (t1 : Tok live) (t2 : Tok step) (t3 : Tok k) : Prop := forW live step k items r m
def tsx (T : Bool → Store → Prop) (v : Val) (m : Store) (t : Tok T) : Prop := ∃ t, tru m v = some t ∧ T t m
section
variable (T : Bool → Store → Prop) (m : Store) (tk : Tok T)
@[simp ↓] theorem tsx_bool (b : Bool) : tsx T (.bool b) m tk = T b m := by simp [tsx, tru]
@[simp ↓] theorem tsx_int (i : Int) : tsx T (.int i) m tk = T (i != 0) m := by simp [tsx, tru]
@[simp ↓] theorem tsx_non : tsx T .non m tk = T false m := by simp [tsx, tru]
theorem tsx_i {t : Bool} {v : Val} (h : tru m v = some t) (q : T t m) : tsx T v m tk := ⟨t, h, q⟩
end
section
variable (m : Store) (Q : Val → Store → Prop) (T : Bool → Prop) (tq : Tok Q) (tt : Tok T)
@[simp ↓] theorem X_bin_addI (a b : Int) : binX .add (.int a) (.int b) m Q tq = (Q (.int (a + b)) m) := id (bin_addI m Q a b)
@[simp ↓] theorem X_bin_addS (a b : Text) : binX .add (.str a) (.str b) m Q tq = ((a.length + b.length ≤ sizeLine ∧ Q (.str (a ++ b)) m)) := id (bin_addS m Q a b)
@[simp ↓] theorem X_bin_addL (a b : List Val) : binX .add (.il true a) (.il true b) m Q tq = ((a.length + b.length ≤ sizeLine ∧ Q (.il true (a ++ b)) m)) := id (bin_addL m Q a b)
@[simp ↓] theorem X_bin_subI (a b : Int) : binX .sub (.int a) (.int b) m Q tq = (Q (.int (a - b)) m) := id (bin_subI m Q a b)
@[simp ↓] theorem X_bin_mulI (a b : Int) : binX .mul (.int a) (.int b) m Q tq = ((mulOk a b ∧ Q (.int (a * b)) m)) := id (bin_mulI m Q a b)
@[simp ↓] theorem X_bin_mulL (a : List Val) (k : Int) : binX .mul (.il true a) (.int k) m Q tq = (((-(2 ^ 63) ≤ k ∧ k < 2 ^ 63 ∧ a.length * k.toNat ≤ sizeLine) ∧ Q (.il true (List.replicate k.toNat a).flatten) m)) := id (bin_mulL m Q a k)
@[simp ↓] theorem X_bin_fdiv (a b : Int) : binX .fdiv (.int a) (.int b) m Q tq = ((divOk b ∧ Q (.int (a / b)) m)) := id (bin_fdiv m Q a b)
@[simp ↓] theorem X_bin_mod (a b : Int) : binX .mod (.int a) (.int b) m Q tq = ((0 < b ∧ Q (.int (a % b)) m)) := id (bin_mod m Q a b)
@[simp ↓] theorem X_bin_pow (a b : Int) : binX .pow (.int a) (.int b) m Q tq = ((powOk a b ∧ Q (.int (a ^ b.toNat)) m)) := id (bin_pow m Q a b)
@[simp ↓] theorem X_cmp_lt (a b : Int) : cmpX .lt (.int a) (.int b) m T tt = (T (decide (a < b))) := id (cmp_lt m T a b)
@[simp ↓] theorem X_cmp_le (a b : Int) : cmpX .le (.int a) (.int b) m T tt = (T (decide (a ≤ b))) := id (cmp_le m T a b)
@[simp ↓] theorem X_cmp_gt (a b : Int) : cmpX .gt (.int a) (.int b) m T tt = (T (decide (b < a))) := id (cmp_gt m T a b)
@[simp ↓] theorem X_cmp_ge (a b : Int) : cmpX .ge (.int a) (.int b) m T tt = (T (decide (b ≤ a))) := id (cmp_ge m T a b)
@[simp ↓] theorem X_cmp_eqI (a b : Int) : cmpX .eq (.int a) (.int b) m T tt = (T (decide (a = b))) := id (cmp_eqI m T a b)
@[simp ↓] theorem X_cmp_neI (a b : Int) : cmpX .ne (.int a) (.int b) m T tt = (T (!decide (a = b))) := id (cmp_neI m T a b)
@[simp ↓] theorem X_cmp_eqS (a b : Text) : cmpX .eq (.str a) (.str b) m T tt = (T (decide (a = b))) := id (cmp_eqS m T a b)
@[simp ↓] theorem X_cmp_neS (a b : Text) : cmpX .ne (.str a) (.str b) m T tt = (T (!decide (a = b))) := id (cmp_neS m T a b)
@[simp ↓] theorem X_cmp_inS (c : Nat) (z : Text) : cmpX .isin (.str [c]) (.str z) m T tt = (T (decide (c ∈ z))) := id (cmp_inS m T c z)
@[simp ↓] theorem X_cmp_notS (c : Nat) (z : Text) : cmpX .notin (.str [c]) (.str z) m T tt = (T (!decide (c ∈ z))) := id (cmp_notS m T c z)
@[simp ↓] theorem X_bi_lenS (s : Text) : biX .len [.str s] m Q tq = ((s.length ≤ sizeLine ∧ Q (.int s.length) m)) := id (bi_lenS m Q s)
@[simp ↓] theorem X_bi_lenT (vs : List Val) : biX .len [.tup vs] m Q tq = (Q (.int vs.length) m) := id (bi_lenT m Q vs)
@[simp ↓] theorem X_bi_lenL (o : Bool) (vs : List Val) : biX .len [.il o vs] m Q tq = (Q (.int vs.length) m) := id (bi_lenL m Q o vs)
@[simp ↓] theorem X_bi_abs (i : Int) : biX .abs [.int i] m Q tq = (Q (.int (if i < 0 then -i else i)) m) := id (bi_abs m Q i)
@[simp ↓] theorem X_bi_intI (i : Int) : biX .int [.int i] m Q tq = (Q (.int i) m) := id (bi_intI m Q i)
@[simp ↓] theorem X_bi_intB (b : Bool) : biX .int [.bool b] m Q tq = (Q (.int (if b then 1 else 0)) m) := id (bi_intB m Q b)
@[simp ↓] theorem X_bi_intS (s : Text) : biX .int [.str s] m Q tq = (ex (PySem.intText? (SX.S s)) (fun n => s.length ≤ 640 ∧ Q (.int n) m) .mk) := id (bi_intS m Q s)
@[simp ↓] theorem X_bi_strI (i : Int) : biX .str [.int i] m Q tq = ((i.natAbs.log2 < 1920 ∧ Q (.str (numT i)) m)) := id (bi_strI m Q i)
@[simp ↓] theorem X_bi_strS (s : Text) : biX .str [.str s] m Q tq = (Q (.str s) m) := id (bi_strS m Q s)
@[simp ↓] theorem X_bi_tupL (o : Bool) (vs : List Val) : biX .tuple [.il o vs] m Q tq = (Q (.tup vs) m) := id (bi_tupL m Q o vs)
@[simp ↓] theorem X_bi_tupT (vs : List Val) : biX .tuple [.tup vs] m Q tq = (Q (.tup vs) m) := id (bi_tupT m Q vs)
@[simp ↓] theorem X_bi_lstL (o : Bool) (vs : List Val) : biX .list [.il o vs] m Q tq = (Q (.il true vs) m) := id (bi_lstL m Q o vs)
@[simp ↓] theorem X_bi_allL (o : Bool) (vs : List Val) : biX .all [.il o vs] m Q tq = (ex (boolsOf vs) (fun bs => Q (.bool (bs.all id)) m) .mk) := id (bi_allL m Q o vs)
@[simp ↓] theorem X_bi_anyL (o : Bool) (vs : List Val) : biX .any [.il o vs] m Q tq = (ex (boolsOf vs) (fun bs => Q (.bool (bs.any id)) m) .mk) := id (bi_anyL m Q o vs)
@[simp ↓] theorem X_bi_max (i j : Int) : biX .max [.int i, .int j] m Q tq = (Q (.int (if j > i then j else i)) m) := id (bi_max m Q i j)
@[simp ↓] theorem X_bi_min (i j : Int) : biX .min [.int i, .int j] m Q tq = (Q (.int (if j < i then j else i)) m) := id (bi_min m Q i j)
@[simp ↓] theorem X_mt_splitE (a b : Text) : mtX .split (.str a) [.str b] m Q tq = (((b ≠ [] ∧ b.all (· < 256) = true ∧ a.length + 2 ≤ sizeLine) ∧ Q (.il true ((TL.spl b 0 [] a).map .str)) m)) := id (mt_splitE m Q a b)
end
def xE (F : Nat → FS) (e : E) (r : Dy.Env) (m : Store) (Q : Val → Store → Prop) (R : Rq) : Prop := wpE F e r m Q R
def xT (F : Nat → FS) (e : E) (r : Dy.Env) (m : Store) (T : Bool → Store → Prop) (R : Rq) : Prop := wpT F e r m T R
def xS (F : Nat → FS) (b : S) (r : Dy.Env) (m : Store) (D : En) : Prop := wpS F b r m D
section
variable (F : Nat → FS) (r : Dy.Env) (m : Store) (Q : Val → Store → Prop) (T : Bool → Store → Prop) (R : Rq)
@[simp ↓] theorem xE_var (i : Nat) : xE F (.var i) r m Q R = ex r[i]? (fun o => ex o (fun v => Q v m) .mk) .mk := by
  show wpE F (.var i) r m Q R = _
  simp only [wpE_var, ex]
  refine propext ⟨fun ⟨v, a, b⟩ => ⟨some v, a, v, rfl, b⟩, fun ⟨o, a, v, b, c⟩ => ⟨v, by rw [a, b], c⟩⟩
@[simp ↓] theorem xE_cst (v : Val) : xE F (.cst v) r m Q R = Q v m := id rfl
@[simp ↓] theorem xE_nil : xE F .nil r m Q R = Q (.tup []) m := id rfl
@[simp ↓] theorem xE_cons (a b : E) : xE F (.cons a b) r m Q R = xE F a r m (fun v m1 => xE F b r m1 (fun w m2 => asT w (fun vs => Q (.tup (v :: vs)) m2) .mk) R) R := id rfl
@[simp ↓] theorem xE_tup (es : E) : xE F (.tup es) r m Q R = xE F es r m (fun v m1 => asT v (fun vs => vs.length ≤ sizeLine ∧ Q (.tup vs) m1) .mk) R := id rfl
@[simp ↓] theorem xE_lstT (es : E) : xE F (.lst true es) r m Q R = xE F es r m (fun v m1 => asT v (fun vs => vs.length ≤ sizeLine ∧ Q (.loc m1.length) (m1 ++ [.list vs])) .mk) R := id rfl
@[simp ↓] theorem xE_lstF (es : E) : xE F (.lst false es) r m Q R = xE F es r m (fun v m1 => asT v (fun vs => vs.length ≤ sizeLine ∧ Q (.il true vs) m1) .mk) R := id rfl
@[simp ↓] theorem xE_bin (op : BOp) (a b : E) : xE F (.bin op a b) r m Q R = xE F a r m (fun v m1 => xE F b r m1 (fun w m2 => binX op v w m2 Q .mk) R) R := id rfl
@[simp ↓] theorem xE_neg (a : E) : xE F (.neg a) r m Q R = xE F a r m (fun v m1 => asI v (fun i => Q (.int (-i)) m1) .mk) R := id rfl
@[simp ↓] theorem xE_cmp (op : COp) (a b : E) : xE F (.cmp op a b) r m Q R = xE F a r m (fun v m1 => xE F b r m1 (fun w m2 => cmpX op v w m2 (fun t => Q (.bool t) m2) .mk) R) R := id rfl
@[simp ↓] theorem xE_chain (o1 o2 : COp) (a b c : E) : xE F (.chain o1 o2 a b c) r m Q R = xE F a r m (fun v m1 => xE F b r m1 (fun w m2 => cmpX o1 v w m2 (fun t => if t = true then xE F c r m2 (fun u m3 => cmpX o2 w u m3 (fun t => Q (.bool t) m3) .mk) R else Q (.bool false) m2) .mk) R) R := id rfl
@[simp ↓] theorem xE_isN (neg : Bool) (a : E) : xE F (.isN neg a) r m Q R = xE F a r m (fun v m1 => Q (.bool (neg != isNon v)) m1) R := id rfl
@[simp ↓] theorem xE_one (a : E) : xE F (.one a) r m Q R = xE F a r m Q R := id rfl
@[simp ↓] theorem xE_and (a b : E) : xE F (.and a b) r m Q R = xE F a r m (fun v m1 => tsx (fun t m1 => if t = true then xE F b r m1 Q R else Q v m1) v m1 .mk) R := id rfl
@[simp ↓] theorem xE_or (a b : E) : xE F (.or a b) r m Q R = xE F a r m (fun v m1 => tsx (fun t m1 => if t = true then Q v m1 else xE F b r m1 Q R) v m1 .mk) R := id rfl
@[simp ↓] theorem xE_not (a : E) : xE F (.not a) r m Q R = xE F a r m (fun v m1 => tsx (fun t m1 => Q (.bool (!t)) m1) v m1 .mk) R := id rfl
@[simp ↓] theorem xE_ite (c a b : E) : xE F (.ite c a b) r m Q R = xT F c r m (fun t m1 => if t = true then xE F a r m1 Q R else xE F b r m1 Q R) R := id rfl
@[simp ↓] theorem xE_call (f : Nat) (args : E) : xE F (.call f args) r m Q R = xE F args r m (fun v m1 => asT v (fun vs => callF (F f) vs m1 Q R .mk .mk) .mk) R := id rfl
@[simp ↓] theorem xE_bi (b : Bi) (args : E) : xE F (.bi b args) r m Q R = xE F args r m (fun v m1 => asT v (fun vs => biX b vs m1 Q .mk) .mk) R := id rfl
@[simp ↓] theorem xE_isI (t : Ty) (a : E) : xE F (.isI t a) r m Q R = xE F a r m (fun v m1 => Q (.bool (isT t v)) m1) R := id rfl
@[simp ↓] theorem xE_meth (t : Mt) (o args : E) : xE F (.meth t o args) r m Q R = xE F o r m (fun v m1 => mtT t v ∧ xE F args r m1 (fun w m2 => asT w (fun vs => mtX t v vs m2 Q .mk) .mk) R) R := id rfl
@[simp ↓] theorem xE_idx (a i : E) : xE F (.idx a i) r m Q R = xE F a r m (fun v m1 => xE F i r m1 (fun w m2 => ex (idxF m2 v w) (fun u => Q u m2) .mk) R) R := id rfl
@[simp ↓] theorem xE_sl (hl hh : Bool) (a lo hi : E) : xE F (.sl hl hh a lo hi) r m Q R = xE F a r m (fun v m1 => xE F lo r m1 (fun l m2 => ex (partF hl l) (fun i => xE F hi r m2 (fun u m3 => ex (partF hh u) (fun j => ex (sliceF m3 v i j) (fun z => Q z m3) .mk) .mk) R) .mk) R) R := id rfl
@[simp ↓] theorem xE_lcF (own : List Nat) (tg : Tg) (ik : IK) (e1 e2 cond elt : E) : xE F (.lc false own tg ik e1 e2 cond elt) r m Q R = xE F e1 r m (fun v1 m1 => xE F e2 r m1 (fun v2 m2 => ex (itF ik m2 v1 v2) (fun items => lcX (fun m => itF ik m v1 v2 = some items) (fun x m P => ex (tgF tg x (wipeE r own)) (fun r2 => xT F cond r2 m (fun t m1 => if t = true then xE F elt r2 m1 (fun y m2 => P (some y) m2) noR else P none m1) noR) .mk) items [] m2 (fun acc m3 => Q (.il true acc) m3) .mk .mk .mk) .mk) R) R := id rfl
@[simp ↓] theorem xE_lcT (own : List Nat) (tg : Tg) (ik : IK) (e1 e2 cond elt : E) : xE F (.lc true own tg ik e1 e2 cond elt) r m Q R = xE F e1 r m (fun v1 m1 => xE F e2 r m1 (fun v2 m2 => ex (itF ik m2 v1 v2) (fun items => lcX (fun m => itF ik m v1 v2 = some items) (fun x m P => ex (tgF tg x (wipeE r own)) (fun r2 => xT F cond r2 m (fun t m1 => if t = true then xE F elt r2 m1 (fun y m2 => P (some y) m2) noR else P none m1) noR) .mk) items [] m2 (fun acc m3 => Q (.loc m3.length) (m3 ++ [.list acc])) .mk .mk .mk) .mk) R) R := id rfl
@[simp ↓] theorem xT_one (a : E) : xT F (.one a) r m T R = xT F a r m T R := id rfl
@[simp ↓] theorem xT_and (a b : E) : xT F (.and a b) r m T R = xT F a r m (fun t m1 => if t = true then xT F b r m1 T R else T false m1) R := id rfl
@[simp ↓] theorem xT_or (a b : E) : xT F (.or a b) r m T R = xT F a r m (fun t m1 => if t = true then T true m1 else xT F b r m1 T R) R := id rfl
@[simp ↓] theorem xT_not (a : E) : xT F (.not a) r m T R = xT F a r m (fun t m1 => T (!t) m1) R := id rfl
@[simp ↓] theorem xT_ite (c a b : E) : xT F (.ite c a b) r m T R = xT F c r m (fun t m1 => if t = true then xT F a r m1 T R else xT F b r m1 T R) R := id rfl
@[simp ↓] theorem xT_var (i : Nat) : xT F (.var i) r m T R = xE F (.var i) r m (fun v m1 => tsx T v m1 .mk) R := id rfl
@[simp ↓] theorem xT_cst (v : Val) : xT F (.cst v) r m T R = xE F (.cst v) r m (fun v m1 => tsx T v m1 .mk) R := id rfl
@[simp ↓] theorem xT_tup (a : E) : xT F (.tup a) r m T R = xE F (.tup a) r m (fun v m1 => tsx T v m1 .mk) R := id rfl
@[simp ↓] theorem xT_lst (mu : Bool) (a : E) : xT F (.lst mu a) r m T R = xE F (.lst mu a) r m (fun v m1 => tsx T v m1 .mk) R := id rfl
@[simp ↓] theorem xT_bin (op : BOp) (a b : E) : xT F (.bin op a b) r m T R = xE F (.bin op a b) r m (fun v m1 => tsx T v m1 .mk) R := id rfl
@[simp ↓] theorem xT_cmp (op : COp) (a b : E) : xT F (.cmp op a b) r m T R = xE F (.cmp op a b) r m (fun v m1 => tsx T v m1 .mk) R := id rfl
@[simp ↓] theorem xT_chain (o1 o2 : COp) (a b c : E) : xT F (.chain o1 o2 a b c) r m T R = xE F (.chain o1 o2 a b c) r m (fun v m1 => tsx T v m1 .mk) R := id rfl
@[simp ↓] theorem xT_isN (neg : Bool) (a : E) : xT F (.isN neg a) r m T R = xE F (.isN neg a) r m (fun v m1 => tsx T v m1 .mk) R := id rfl
@[simp ↓] theorem xT_call (f : Nat) (a : E) : xT F (.call f a) r m T R = xE F (.call f a) r m (fun v m1 => tsx T v m1 .mk) R := id rfl
@[simp ↓] theorem xT_bi (b : Bi) (a : E) : xT F (.bi b a) r m T R = xE F (.bi b a) r m (fun v m1 => tsx T v m1 .mk) R := id rfl
@[simp ↓] theorem xT_isI (t : Ty) (a : E) : xT F (.isI t a) r m T R = xE F (.isI t a) r m (fun v m1 => tsx T v m1 .mk) R := id rfl
@[simp ↓] theorem xT_meth (t : Mt) (a b : E) : xT F (.meth t a b) r m T R = xE F (.meth t a b) r m (fun v m1 => tsx T v m1 .mk) R := id rfl
@[simp ↓] theorem xT_idx (a b : E) : xT F (.idx a b) r m T R = xE F (.idx a b) r m (fun v m1 => tsx T v m1 .mk) R := id rfl
variable (D : En)
@[simp ↓] theorem xS_nil : xS F .nil r m D = D.nx r m := id rfl
@[simp ↓] theorem xS_cons (a b : S) : xS F (.cons a b) r m D = xS F a r m { D with nx := fun r m => xS F b r m D } := id rfl
@[simp ↓] theorem xS_expr (e : E) : xS F (.expr e) r m D = xE F e r m (fun _ m1 => D.nx r m1) (D.rx r) := id rfl
@[simp ↓] theorem xS_ret (e : E) : xS F (.ret e) r m D = xE F e r m D.rt (D.rx r) := id rfl
@[simp ↓] theorem xS_retN : xS F .retN r m D = D.rt .non m := id rfl
@[simp ↓] theorem xS_asg (tg : Tg) (e : E) : xS F (.asg tg e) r m D = xE F e r m (fun v m1 => ex (tgF tg v r) (fun r1 => D.nx r1 m1) .mk) (D.rx r) := id rfl
@[simp ↓] theorem xS_par (is : List Nat) (es : E) : xS F (.par is es) r m D = xE F es r m (fun v m1 => asT v (fun vs => ex (setAll is vs r) (fun r1 => D.nx r1 m1) .mk) .mk) (D.rx r) := id rfl
@[simp ↓] theorem xS_setIx (o i e : E) : xS F (.setIx o i e) r m D = xE F e r m (fun v m1 => xE F o r m1 (fun ov m2 => xE F i r m2 (fun iv m3 => setX ov iv v m3 (fun m4 => D.nx r m4) .mk) (D.rx r)) (D.rx r)) (D.rx r) := id rfl
@[simp ↓] theorem xS_ite (c : E) (a b : S) : xS F (.ite c a b) r m D = xT F c r m (fun t m1 => if t = true then xS F a r m1 D else xS F b r m1 D) (D.rx r) := id rfl
@[simp ↓] theorem xS_loop (tg : Tg) (ik : IK) (e1 e2 : E) (body : S) : xS F (.loop tg ik e1 e2 body) r m D = xE F e1 r m (fun v1 m1 => xE F e2 r m1 (fun v2 m2 => ex (itF ik m2 v1 v2) (fun items => forX (fun m => itF ik m v1 v2 = some items) (fun x r m nx => ex (tgF tg x r) (fun r1 => xS F body r1 m { D with nx := nx, ct := nx, bk := D.nx }) .mk) D.nx items r m2 .mk .mk .mk) .mk) (D.rx r)) (D.rx r) := id rfl
@[simp ↓] theorem xS_never : xS F .never r m D = False := id rfl
@[simp ↓] theorem xS_pass : xS F .pass r m D = D.nx r m := id rfl
end
@[simp] theorem sizeLine_at : sizeLine = 16777216 := sizeLine_is
theorem Meets.x {F : Nat → FS} {n : Nat} {body : S} {fs : FS} (h : ∀ args m Q R, cM m.length m = true → cVs m.length args = true → fs args m Q R → xS F body (startE n args) m (bodyEn m.length Q R)) : Meets F n body fs := h
theorem idx_locX {m : Store} {n : Nat} {i : Int} {P : Val → Prop} {tk : Tok P} {vs : List Val} {u : Val} (h : m[n]? = some (.list vs)) (h2 : atI vs i = some u) (q : P u) : ex (idxF m (.loc n) (.int i)) P tk := by
  refine ⟨u, ?_, q⟩
  simp [idxF, sq, h, h2]
theorem x_app {m : Store} {n : Nat} {v : Val} {vs : List Val} {Q : Val → Store → Prop} {tk : Tok Q} (h : m[n]? = some (.list vs)) (hl : vs.length < sizeLine) (q : Q .non (m.set n (.list (vs ++ [v])))) : mtX .append (.loc n) [v] m Q tk := ⟨vs, h, hl, q⟩
theorem x_tupM {m : Store} {n : Nat} {vs : List Val} {Q : Val → Store → Prop} {tk : Tok Q} (h : m[n]? = some (.list vs)) (q : Q (.tup vs) m) : biX .tuple [.loc n] m Q tk := by
  show biW .tuple [.loc n] m Q
  rw [bi_tupM]
  exact ⟨vs, h, q⟩
theorem x_join {a : Text} {o : Bool} {vs : List Val} {m : Store} {Q : Val → Store → Prop} {tk : Tok Q} (ts : List Text) (e : vs = ts.map .str) (h : (ts.map fun x => List.length x).sum + ts.length * a.length ≤ 16777216) (q : Q (.str (TL.joinL a ts)) m) : mtX .join (.str a) [.il o vs] m Q tk := by
  show mtW .join (.str a) [.il o vs] m Q
  rw [mt_joinL]
  exact ⟨ts, e, h, q⟩
theorem x_eqG {a b : Val} {m : Store} {T : Bool → Prop} {tk : Tok T} (h1 : cmpV a = true) (h2 : cmpV b = true) (h : T (veqv a b)) : cmpX .eq a b m T tk := cmp_eqG h1 h2 h
theorem x_neG {a b : Val} {m : Store} {T : Bool → Prop} {tk : Tok T} (h1 : cmpV a = true) (h2 : cmpV b = true) (h : T (!veqv a b)) : cmpX .ne a b m T tk := cmp_neG h1 h2 h
theorem for_inv {live : Store → Prop} {step : Val → Dy.Env → Store → (Dy.Env → Store → Prop) → Prop} {fin : Dy.Env → Store → Prop} (J : List Val → Dy.Env → Store → Prop) (hl : ∀ m, live m)
    (hs : ∀ x xs r m nx, J (x :: xs) r m → (∀ r' m', J xs r' m' → nx r' m') → step x r m nx) (hf : ∀ r m, J [] r m → fin r m) : ∀ {items : List Val} {r : Dy.Env} {m : Store}, J items r m → forW live step fin items r m
  | [], r, m, h => ⟨hl m, hf r m h⟩
  | x :: xs, r, m, h => ⟨hl m, hs x xs r m _ h fun r' m' h' => for_inv J hl hs hf h'⟩
theorem cmp_notinL {a : Val} {o : Bool} {vs : List Val} {m : Store} {T : Bool → Prop} (h1 : cmpV a = true) (h2 : cmpV (.il o vs) = true) (h : T (!vs.any fun z => veqv z a)) : cmpW .notin a (.il o vs) m T :=
  inL (neg := true) (fun _ => .inr trivial) h1 h2 (by simpa using h)
theorem cmp_inL {a : Val} {o : Bool} {vs : List Val} {m : Store} {T : Bool → Prop} (h1 : cmpV a = true) (h2 : cmpV (.il o vs) = true) (h : T (vs.any fun z => veqv z a)) : cmpW .isin a (.il o vs) m T :=
  inL (neg := false) (fun _ => .inr trivial) h1 h2 (by simpa using h)
theorem lc_map {α : Type} {live : Store → Prop} {body : Val → Store → (Option Val → Store → Prop) → Prop} {fin : List Val → Store → Prop} {f : α → Val} (g : α → Val) {m : Store} (hl : live m) :
    ∀ (xs : List α) (acc : List Val), (∀ x ∈ xs, ∀ P, P (some (g x)) m → body (f x) m P) → acc.length + xs.length ≤ sizeLine → fin (acc ++ xs.map g) m → lcW live body (xs.map f) acc m fin
  | [], acc, _, _, h => ⟨hl, by simpa using h⟩
  | x :: xs, acc, hb, hs, h => by
    refine ⟨hl, hb x List.mem_cons_self _ ?_⟩
    simp only [List.length_cons] at hs
    exact ⟨by omega, lc_map g hl xs _ (fun y hy => hb y (List.mem_cons_of_mem _ hy)) (by simp only [List.length_append, List.length_cons, List.length_nil]; omega) (by simpa using h)⟩
theorem for_invX {live : Store → Prop} {step : Val → Dy.Env → Store → (Dy.Env → Store → Prop) → Prop} {fin : Dy.Env → Store → Prop} {t1 : Tok live} {t2 : Tok step} {t3 : Tok fin} (J : List Val → Dy.Env → Store → Prop) (hl : ∀ m, live m)
    (hs : ∀ x xs r m nx, J (x :: xs) r m → (∀ r' m', J xs r' m' → nx r' m') → step x r m nx) (hf : ∀ r m, J [] r m → fin r m) {items : List Val} {r : Dy.Env} {m : Store} (h : J items r m) : forX live step fin items r m t1 t2 t3 := for_inv J hl hs hf h
theorem lc_map0 {α : Type} {live : Store → Prop} {body : Val → Store → (Option Val → Store → Prop) → Prop} {fin : List Val → Store → Prop} {f : α → Val} (g : α → Val) {m : Store} (hl : live m)
    (xs : List α) (hb : ∀ x ∈ xs, ∀ P, P (some (g x)) m → body (f x) m P) (hs : xs.length ≤ sizeLine) (q : fin (xs.map g) m) {t1 : Tok live} {t2 : Tok body} {t3 : Tok fin} : lcX live body (xs.map f) [] m fin t1 t2 t3 :=
  lc_map g hl xs [] hb (by simpa using hs) (by simpa using q)
end Dy

namespace K85
open PySem L2 Dy
/-! ### the signs of an item's text -/
def plain (c : Nat) : Prop := c ≠ 32 ∧ c ≠ 47
theorem letters_plain {c : Nat} (h : c ∈ letters) : plain c := by
  simp [letters] at h
  unfold plain
  omega
theorem name_plain {t : Text} (h : NameOk t) : ∀ c ∈ t, plain c := fun c hc => letters_plain (h.2.2 c hc)
theorem nT_plain {o : Option Nat} (h : ∀ n, o = some n → n ≤ 9) : ∀ c ∈ nT o, plain c := by
  obtain ⟨d, hd, hd2⟩ := nT_sign h
  rw [hd]
  intro c hc
  simp at hc
  unfold plain
  omega
theorem join_mem {sep : List Nat} {P : Nat → Prop} (hs : ∀ c ∈ sep, P c) : ∀ {ps : List (List Nat)}, (∀ p ∈ ps, ∀ c ∈ p, P c) → ∀ c ∈ TL.joinL sep ps, P c
  | [], _ => by simp [TL.joinL]
  | [p], h => h p (by simp)
  | p :: q :: r, h => by
    intro c hc
    have hc : c ∈ p ++ (sep ++ TL.joinL sep (q :: r)) := hc
    simp only [List.mem_append] at hc
    rcases hc with hc | hc | hc
    · exact h p (by simp) c hc
    · exact hs c hc
    · exact join_mem hs (fun z hz => h z (List.mem_cons_of_mem _ hz)) c hc
theorem vT_plain {vs : Option (List (Option Nat))} (h : vsOk vs) : ∀ c ∈ vT vs, plain c := by
  cases vs with
  | none => intro c hc; simp [vT] at hc; subst hc; unfold plain; decide
  | some l =>
    obtain ⟨hl, hv⟩ := h l rfl
    cases l with
    | nil => intro c hc; simp [vT] at hc; subst hc; unfold plain; decide
    | cons o l =>
      have e : vT (some (o :: l)) = TL.joinL [44] ((o :: l).map nT) := by simp [vT]
      rw [e]
      refine join_mem (fun c hc => by simp at hc; subst hc; unfold plain; decide) fun p hp => ?_
      obtain ⟨z, hz, rfl⟩ := List.mem_map.mp hp
      exact nT_plain fun n q => by have := hv z hz n q; omega
theorem words_plain {it : Item} (ok : it.ok) : ∀ p ∈ it.words, ∀ c ∈ p, plain c := by
  cases it with
  | gap g =>
    intro p hp
    simp [Item.words] at hp
    rcases hp with rfl | rfl
    · intro c hc; simp at hc; unfold plain; omega
    · exact nT_plain fun n q => (ok n q).2
  | entry h w vs =>
    obtain ⟨o1, o2, o3⟩ := ok
    intro p hp
    simp [Item.words] at hp
    rcases hp with rfl | rfl | rfl
    · cases h with
      | none => intro c hc; simp at hc; subst hc; unfold plain; decide
      | some t => exact name_plain (o1 t rfl)
    · cases w with
      | none => intro c hc; simp at hc; subst hc; unfold plain; decide
      | some t => exact name_plain (o2 t rfl)
    · exact vT_plain o3
theorem text_no47 {it : Item} (ok : it.ok) : 47 ∉ it.text := fun hm =>
  join_mem (P := fun c => c ≠ 47) (by simp) (fun p hp c hc => (words_plain ok p hp c hc).2) 47 hm rfl
theorem words_ne (it : Item) : it.words ≠ [] := by cases it <;> simp [Item.words]
theorem text_split {it : Item} (ok : it.ok) : TL.spl [32] 0 [] it.text = it.words :=
  TL.spl_join (words_ne it) fun p hp hm => (words_plain ok p hp 32 hm).1 rfl
theorem text_has {it : Item} : 32 ∈ it.text := by
  cases it <;> simp [Item.text, Item.words, TL.joinL]
theorem text_len {it : Item} (ok : it.ok) : it.text.length ≤ 30 := by
  cases it with
  | gap g =>
    have := nT_len (o := g) fun n q => (ok n q).2
    simp [Item.text, Item.words, TL.joinL, this]
  | entry h w vs =>
    obtain ⟨o1, o2, o3⟩ := ok
    have h3 := vT_len o3
    have h1 : (h.getD [45]).length ≤ 8 := by
      cases h with
      | none => simp
      | some t => exact (o1 t rfl).2.1
    have h2 : (w.getD [63]).length ≤ 8 := by
      cases w with
      | none => simp
      | some t => exact (o2 t rfl).2.1
    simp only [Item.text, Item.words, TL.joinL, List.length_append, List.length_cons, List.length_nil]
    omega
theorem name_ne {t : Text} (h : NameOk t) (c : Nat) (hc : c ∉ letters) : t ≠ [c] := by
  intro z
  subst z
  exact hc (h.2.2 c (by simp))
def fs_item_in : FS := fun args m Q _ => ∃ it : Item, it.ok ∧ args = [.str it.text] ∧ Q (.tup [it.val]) m
theorem x_number_in {t : Text} {m : Store} {Q : Val → Store → Prop} {R : Rq} {tk : Tok Q} {uk : Tok R} (h : t.length ≤ 1000) (q : Q (oN (numT? t)) m) : callF fs_number_in [.str t] m Q R tk uk := ⟨t, rfl, h, q⟩
theorem x_is_item {it : Item} {m : Store} {Q : Val → Store → Prop} {R : Rq} {tk : Tok Q} {uk : Tok R} (h : it.ok) (q : Q (.bool true) m) : callF fs_is_item [it.val] m Q R tk uk := ⟨it, h, rfl, q⟩
theorem x_values_in {vs : Option (List (Option Nat))} {m : Store} {Q : Val → Store → Prop} {R : Rq} {tk : Tok Q} {uk : Tok R} (h : vsOk vs) (q : Q (.tup [oV vs]) m) : callF fs_values_in [.str (vT vs)] m Q R tk uk := ⟨vs, h, rfl, q⟩
theorem m_item_in {F : Nat → FS} (h3 : F 3 = fs_number_in) (h5 : F 5 = fs_is_item) (h9 : F 9 = fs_values_in) : Meets F 7 b_item_in fs_item_in := by
  refine Meets.x ?_
  rintro args m Q R hm ha ⟨it, ok, rfl, hQ⟩
  unfold b_item_in
  have hlen := text_len ok
  have hz : it.text.length + 2 ≤ 16777216 := by omega
  have e := text_split ok
  cases it with
  | gap g =>
    simp only [Item.words] at e
    cases g with
    | none =>
      simp [e, sizeLine_is, h5, nT]
      exact ⟨by omega, x_is_item (it := .gap none) ok (by simp; exact .inl hQ)⟩
    | some n =>
      have h3n := (ok n rfl).2
      have e9 : nT (some n) = TL.numL n := rfl
      have e8 : TL.numL n ≠ [63] := num_ne (by omega)
      have e7 : (TL.numL n).length = 1 := nT_len (o := some n) fun k z => by cases z; omega
      have e6 : numT? (TL.numL n) = some n := num_back (by omega)
      simp [e, e9, e8, sizeLine_is, h3]
      refine ⟨by omega, x_number_in (by omega) ?_⟩
      simp [e6, oN, h5]
      exact x_is_item (it := .gap (some n)) ok (by simp; exact .inl hQ)
  | entry h w vs =>
    have ok2 := ok
    simp only [Item.words] at e
    obtain ⟨o1, o2, o3⟩ := ok
    simp [e, sizeLine_is, h9]
    refine ⟨by omega, x_values_in o3 ?_⟩
    cases h <;> cases w
    case none.none =>
      simp [h5]
      exact x_is_item (it := .entry none none vs) ok2 (by simp; exact .inl hQ)
    case none.some w =>
      have := name_ne (o2 w rfl) 63 (by decide)
      simp [this, h5]
      exact x_is_item (it := .entry none (some w) vs) ok2 (by simp; exact .inl hQ)
    case some.none h =>
      have := name_ne (o1 h rfl) 45 (by decide)
      simp [this, h5]
      exact x_is_item (it := .entry (some h) none vs) ok2 (by simp; exact .inl hQ)
    case some.some h w =>
      have := name_ne (o1 h rfl) 45 (by decide)
      have := name_ne (o2 w rfl) 63 (by decide)
      simp [*]
      exact x_is_item (it := .entry (some h) (some w) vs) ok2 (by simp; exact .inl hQ)
end K85

namespace K85
open PySem L2 Dy
/-- the text of items -/
def itemsT (its : List Item) : Text := if its = [] then [45] else TL.joinL [32, 47, 32] (its.map Item.text)
def itemsV (its : List Item) : Val := .tup (its.map Item.val)
def oks (its : List Item) : Prop := its.length ≤ 12 ∧ ∀ it ∈ its, it.ok
def fs_items_text : FS := fun args m Q _ => ∃ its : List Item, oks its ∧ args = [itemsV its] ∧ Q (.str (itemsT its)) m
theorem x_item_text {it : Item} {m : Store} {Q : Val → Store → Prop} {R : Rq} {tk : Tok Q} {uk : Tok R} (h : it.ok) (q : Q (.str it.text) m) : callF fs_item_text [it.val] m Q R tk uk := ⟨it, h, rfl, q⟩
theorem letters_sign {c : Nat} (h : c ∈ letters) : c < 256 := by
  simp [letters] at h
  omega
theorem name_signs {t : Text} (h : NameOk t) : signs t = true := by
  unfold signs
  rw [List.all_eq_true]
  intro c hc
  have := letters_sign (h.2.2 c hc)
  simp
  omega
theorem lays_map {α : Type} {f : α → Val} : ∀ {l : List α}, (∀ x ∈ l, lay (f x) = true) → lays (l.map f) = true
  | [], _ => rfl
  | x :: l, h => by
    simp only [List.map_cons, lays, Bool.and_eq_true]
    exact ⟨h x (by simp), lays_map fun y hy => h y (by simp [hy])⟩
theorem deps_map {α : Type} {f : α → Val} {n : Nat} : ∀ {l : List α}, (∀ x ∈ l, dep (f x) ≤ n) → deps (l.map f) ≤ n
  | [], _ => Nat.zero_le _
  | x :: l, h => by
    simp only [List.map_cons, deps]
    exact Nat.max_le.mpr ⟨h x (by simp), deps_map fun y hy => h y (by simp [hy])⟩
theorem val_lay {it : Item} (ok : it.ok) : lay it.val = true ∧ dep it.val ≤ 2 := by
  cases it with
  | gap g => cases g <;> simp [Item.val, oN, lay, dep]
  | entry h w vs =>
    obtain ⟨o1, o2, o3⟩ := ok
    have a1 : lay (oT h) = true ∧ dep (oT h) = 0 := by
      cases h with
      | none => simp [oT, lay, dep]
      | some t => simp [oT, lay, dep, name_signs (o1 t rfl)]
    have a2 : lay (oT w) = true ∧ dep (oT w) = 0 := by
      cases w with
      | none => simp [oT, lay, dep]
      | some t => simp [oT, lay, dep, name_signs (o2 t rfl)]
    have a3 : lay (oV vs) = true ∧ dep (oV vs) ≤ 1 := by
      cases vs with
      | none => simp [oV, lay, dep]
      | some l =>
        have b1 : lays (l.map oN) = true := lays_map fun x _ => by cases x <;> rfl
        have b2 : deps (l.map oN) ≤ 0 := deps_map fun x _ => by cases x <;> simp [oN, dep]
        simp [oV, lay, dep, b1]; omega
    simp [Item.val, lay, lays, dep, deps, a1, a2, a3]
theorem items_lay {its : List Item} (h : oks its) : lay (itemsV its) = true ∧ dep (itemsV its) ≤ 3 := by
  have b1 : lays (its.map Item.val) = true := lays_map fun x hx => (val_lay (h.2 x hx)).1
  have b2 : deps (its.map Item.val) ≤ 2 := deps_map fun x hx => (val_lay (h.2 x hx)).2
  simp [itemsV, lay, dep, b1]; omega
theorem items_cmp {its : List Item} (h : oks its) : cmpV (itemsV its) = true := by
  have := items_lay h
  unfold cmpV
  simp [this.1]; omega
theorem items_sum : ∀ {its : List Item}, (∀ it ∈ its, it.ok) → ((its.map Item.text).map fun x => List.length x).sum ≤ 30 * its.length
  | [], _ => by simp
  | x :: l, h => by
    have := items_sum fun y hy => h y (List.mem_cons_of_mem _ hy)
    have := text_len (h x (by simp))
    simp only [List.map_cons, List.sum_cons, List.length_cons] at *
    omega
/-- both writers -/
theorem m_items {F : Nat → FS} {g : Nat} (hg : F g = fs_item_text) : Meets F 2
    (.cons (.ret (.ite (.cmp .ne (.var 0) (.tup .nil)) (.meth .join (.cst (.str [32, 47, 32])) (.cons (.lc false [1] (.name 1) .seq (.var 0) (.cst .non) (.cst (.bool true)) (.call g (.cons (.var 1) .nil))) .nil)) (.cst (.str [45])))) .nil) fs_items_text := by
  refine Meets.x ?_
  rintro args m Q R hm ha ⟨its, ok, rfl, hQ⟩
  simp
  refine cmp_neG (items_cmp ok) (by decide) ?_
  cases its with
  | nil => simp [itemsV, veqv, veqvs]; exact .inl hQ
  | cons i l =>
    have e : veqv (itemsV (i :: l)) (.tup []) = false := by simp [itemsV, veqv, veqvs]
    rw [e]
    simp [itemsV]
    refine lc_map (f := Item.val) (fun it : Item => .str it.text) (by rfl) (i :: l) _ ?_ ?_ ?_
    · intro x hx P hP
      simp [hg]
      exact x_item_text (ok.2 x hx) hP
    · have := ok.1
      rw [sizeLine_is]; simp only [List.length_nil]; omega
    · rw [List.nil_append, show (fun it : Item => Val.str it.text) = Val.str ∘ Item.text from rfl, ← List.map_map]
      simp only [xE_nil, asT_tup]
      refine x_join ((i :: l).map Item.text) rfl ?_ ?_
      · have h9 := items_sum ok.2
        have h8 := ok.1
        rw [List.length_map]
        generalize (((i :: l).map Item.text).map fun x => List.length x).sum = S at h9 ⊢
        simp only [List.length_cons, List.length_nil] at *
        omega
      · have : itemsT (i :: l) = TL.joinL [32, 47, 32] ((i :: l).map Item.text) := by simp [itemsT]
        rw [this] at hQ
        exact .inl hQ
theorem m_show_items {F : Nat → FS} (h7 : F 7 = fs_item_text) : Meets F 2 b_show_items fs_items_text := m_items h7
theorem m_law_items_text {F : Nat → FS} (h20 : F 20 = fs_item_text) : Meets F 2 b_law_items_text fs_items_text := m_items h20
theorem x_item_in {it : Item} {m : Store} {Q : Val → Store → Prop} {R : Rq} {tk : Tok Q} {uk : Tok R} (h : it.ok) (q : Q (.tup [it.val]) m) : callF fs_item_in [.str it.text] m Q R tk uk := ⟨it, h, rfl, q⟩
def fs_items_in : FS := fun args m Q _ => ∃ its : List Item, oks its ∧ args = [.str (itemsT its)] ∧ Q (itemsV its) m
theorem joinL_len (sep : List Nat) : ∀ ps : List (List Nat), (TL.joinL sep ps).length ≤ (ps.map fun x => List.length x).sum + ps.length * sep.length
  | [] => by simp [TL.joinL]
  | [p] => by simp [TL.joinL]
  | p :: q :: r => by
    have := joinL_len sep (q :: r)
    show (p ++ (sep ++ TL.joinL sep (q :: r))).length ≤ _
    simp only [List.length_append, List.map_cons, List.sum_cons, List.length_cons, Nat.add_mul, Nat.one_mul] at *
    omega
theorem itemsT_len {its : List Item} (ok : oks its) : (itemsT its).length ≤ 1000 := by
  unfold itemsT
  by_cases h : its = []
  · rw [if_pos h]; decide
  · rw [if_neg h]
    have h1 := joinL_len [32, 47, 32] (its.map Item.text)
    have h2 := items_sum ok.2
    have h3 := ok.1
    rw [List.length_map] at h1
    simp only [List.length_cons, List.length_nil] at h1
    omega
theorem m_items_in {F : Nat → FS} (h10 : F 10 = fs_item_in) : Meets F 4 b_items_in fs_items_in := by
  refine Meets.x ?_
  rintro args m Q R hm ha ⟨its, ok, rfl, hQ⟩
  unfold b_items_in
  cases its with
  | nil => simp [itemsT, sizeLine_is]; exact .inl hQ
  | cons i l =>
    have e : itemsT (i :: l) = TL.joinL [32, 47, 32] ((i :: l).map Item.text) := by simp [itemsT]
    have hne : itemsT (i :: l) ≠ [45] := by
      intro z
      have : 32 ∈ itemsT (i :: l) := by
        rw [e]
        cases l with
        | nil => exact text_has
        | cons j l =>
          show 32 ∈ i.text ++ _
          exact List.mem_append_left _ text_has
      rw [z] at this
      simp at this
    have hlen := itemsT_len ok
    have esp : TL.spl [32, 47, 32] 0 [] (itemsT (i :: l)) = (i :: l).map Item.text := by
      rw [e]
      refine spl3 (by simp) fun p hp => ?_
      obtain ⟨z, hz, rfl⟩ := List.mem_map.mp hp
      exact text_no47 (ok.2 z hz)
    have hok := ok.1
    simp [hne, esp, sizeLine_is, h10]
    refine ⟨by omega, ?_⟩
    refine lc_map (f := Val.str ∘ Item.text) (fun it : Item => .tup [it.val]) (by simp [esp]) (i :: l) _ ?_ ?_ ?_
    · intro x hx P hP
      simp [h10]
      exact x_item_in (ok.2 x hx) hP
    · rw [sizeLine_is]; simp only [List.length_nil]; omega
    · rw [List.nil_append]
      simp
      have b1 : lays ((i :: l).map fun it : Item => Val.tup [it.val]) = true := lays_map fun x hx => by simp [lay, lays, (val_lay (ok.2 x hx)).1]
      have b2 : deps ((i :: l).map fun it : Item => Val.tup [it.val]) ≤ 3 := deps_map fun x hx => by
        have := (val_lay (ok.2 x hx)).2
        simp [dep, deps]; omega
      have b3 : cmpV (.il true ((i :: l).map fun it : Item => Val.tup [it.val])) = true := by
        have b4 : deps ((i :: l).map fun it : Item => Val.tup [it.val]) + 1 ≤ 64 := by omega
        simp only [cmpV, lay, dep, b1, Bool.true_and]
        exact decide_eq_true b4
      refine cmp_notinL (a := .non) (o := true) (vs := (i :: l).map fun it : Item => Val.tup [it.val]) (by decide) b3 ?_
      have e9 : (((i :: l).map fun it : Item => Val.tup [it.val]).any fun z => veqv z .non) = false := by
        rw [List.any_eq_false]
        intro z hz
        obtain ⟨y, _, rfl⟩ := List.mem_map.mp hz
        simp [veqv]
      rw [e9]
      simp
      refine lc_map (f := fun it : Item => Val.tup [it.val]) Item.val (by rfl) (i :: l) _ ?_ ?_ ?_
      · intro x hx P hP
        simpa using hP
      · rw [sizeLine_is]; simp only [List.length_nil]; omega
      · simp
        exact .inl hQ
def fs_check_shown : FS := fun args m Q _ => ∃ v w, args = [v, w] ∧ isNon v = false ∧ Q .non m
theorem m_check_shown {F : Nat → FS} : Meets F 2 b_check_shown fs_check_shown := by
  refine Meets.x ?_
  rintro args m Q R hm ha ⟨v, w, rfl, hv, hQ⟩
  unfold b_check_shown
  simp [hv]
  exact .inl hQ
theorem x_check_shown {v w : Val} {m : Store} {Q : Val → Store → Prop} {R : Rq} {tk : Tok Q} {uk : Tok R} (h : isNon v = false) (q : Q .non m) : callF fs_check_shown [v, w] m Q R tk uk := ⟨v, w, rfl, h, q⟩
def fs_read_item : FS := fun args m Q _ => ∃ it : Item, it.ok ∧ args = [.str it.text] ∧ Q it.val m
theorem m_read_item {F : Nat → FS} (h10 : F 10 = fs_item_in) (h12 : F 12 = fs_check_shown) : Meets F 2 b_read_item fs_read_item := by
  refine Meets.x ?_
  rintro args m Q R hm ha ⟨it, ok, rfl, hQ⟩
  unfold b_read_item
  simp [h10]
  refine x_item_in ok ?_
  simp [h12]
  refine x_check_shown rfl ?_
  simp
  exact .inl hQ
theorem x_items_in {its : List Item} {m : Store} {Q : Val → Store → Prop} {R : Rq} {tk : Tok Q} {uk : Tok R} (h : oks its) (q : Q (itemsV its) m) : callF fs_items_in [.str (itemsT its)] m Q R tk uk := ⟨its, h, rfl, q⟩
theorem m_read_items {F : Nat → FS} (h11 : F 11 = fs_items_in) (h12 : F 12 = fs_check_shown) : Meets F 2 b_read_items fs_items_in := by
  refine Meets.x ?_
  rintro args m Q R hm ha ⟨its, ok, rfl, hQ⟩
  unfold b_read_items
  simp [h11]
  refine x_items_in ok ?_
  simp [h12]
  refine x_check_shown rfl ?_
  simp
  exact .inl hQ
end K85

/-! Dp, part Q: draws, followed through a def. -/
namespace Dy
open PySem L2
/-- m1 is m0 after k draws of K -/
structure At (m0 : Store) (p : Nat) (a0 : Pot) (K k : Nat) (m1 : Store) : Prop where
  h0 : PotAt m0 p a0 K
  hk : k ≤ K
  st : ∃ a1 : Pot, m1 = m0.set p a1.ob ∧ a1.ok (a0.c + k)
section
variable {m0 m m1 : Store} {p K k : Nat} {a0 : Pot} {Post : Val → Prop} {Q : Val → Store → Prop}
theorem At.start {m : Store} {a : Pot} (h : PotAt m p a K) : At m p a K 0 m := ⟨h, Nat.zero_le _, a, h.self.symm, Pot.ok_self h.2 (by simp)⟩
theorem At.mono (h : At m0 p a0 K k m) {k' : Nat} (h1 : k ≤ k') (h2 : k' ≤ K) : At m0 p a0 K k' m := by
  obtain ⟨g, hk, a1, e, o⟩ := h
  exact ⟨g, h2, a1, e, Pot.ok_mono o (by omega)⟩
theorem At.pot (h : At m0 p a0 K k m) {j : Nat} (hj : k + j ≤ K) : ∃ a1 : Pot, m = m0.set p a1.ob ∧ a1.ok (a0.c + k) ∧ PotAt m p a1 j := by
  obtain ⟨g, hk, a1, e, o⟩ := h
  refine ⟨a1, e, o, ?_, Pot.ok_mono o ?_⟩
  · rw [e]
    have := g.lt
    simp [this]
  · have := g.2.2.2.2.2
    omega
theorem At.draw (j : Nat) (h : At m0 p a0 K k m) (hj : k + j ≤ K) (q : ∀ v m', Post v → At m0 p a0 K (k + j) m' → Q v m') : drawS m p j Post Q := by
  obtain ⟨a1, e, o, hp⟩ := h.pot hj
  refine ⟨a1, hp, fun v a' hv h' => q v _ hv ⟨h.h0, hj, a', ?_, Pot.ok_mono h' ?_⟩⟩
  · rw [e, List.set_set]
  · have := o.2.2.2.2
    push_cast
    omega
theorem At.fin (h : At m0 p a0 K k m1) (hQ : ∀ (v : Val) (a' : Pot), Post v → a'.ok (a0.c + K) → Q v (m0.set p a'.ob)) {v : Val} (hv : Post v) : Q v m1 := by
  obtain ⟨g, hk, a1, e, o⟩ := h
  rw [e]
  exact hQ v a1 hv (Pot.ok_mono o (by omega))
theorem x_take {n : Int} {R : Rq} {tk : Tok Q} {uk : Tok R} (h : At m0 p a0 K k m) (hj : k + 1 ≤ K) (h0 : 0 < n) (h1 : n < 2 ^ 30) (q : ∀ d m', 0 ≤ d → d < n → At m0 p a0 K (k + 1) m' → Q (.int d) m') : callF fsTake [.loc p, .int n] m Q R tk uk :=
  ⟨p, n, rfl, ⟨h0, h1⟩, h.draw 1 hj fun v m' ⟨d, e, h2, h3⟩ ha => by rw [e]; exact q d m' h2 h3 ha⟩
theorem x_of {s : Val} {R : Rq} {tk : Tok Q} {uk : Tok R} (vs : List Val) (h : At m0 p a0 K k m) (hj : k + 1 ≤ K) (hp : pick s = some vs) (h0 : vs ≠ []) (h1 : vs.length < 2 ^ 20) (q : ∀ v m', v ∈ vs → At m0 p a0 K (k + 1) m' → Q v m') : callF fsOf [.loc p, s] m Q R tk uk :=
  ⟨p, s, vs, rfl, hp, h0, h1, h.draw 1 hj q⟩
theorem x_pot {o : Bool} {ns : List Int} {j : Nat} {R : Rq} {tk : Tok Q} {uk : Tok R} (h : j < 1000) (q : ∀ a : Pot, PotAt (m ++ [a.ob]) m.length a 1000000 → Q (.loc m.length) (m ++ [a.ob])) : callF fsPot [.il o (ns.map .int), .int (j : Nat)] m Q R tk uk :=
  ⟨o, ns, j, rfl, h, fun a ha => q a ⟨by simp, Pot.ok_mono ha (by simp [LIM])⟩⟩
theorem lc_at {live : Store → Prop} {body : Val → Store → (Option Val → Store → Prop) → Prop} {fin : List Val → Store → Prop} (j : Nat) (Post : Val → Prop) {items acc : List Val} (hlive : ∀ m, live m)
    (hb : ∀ x m a P, At m p a j 0 m → (∀ v m', Post v → At m p a j j m' → P (some v) m') → body x m P) (h : At m0 p a0 K k m) (hj : k + j * items.length ≤ K) (hs : acc.length + items.length ≤ sizeLine)
    (q : ∀ (ws : List Val) m', ws.length = items.length → (∀ v ∈ ws, Post v) → At m0 p a0 K (k + j * items.length) m' → fin (acc ++ ws) m') : lcW live body items acc m fin := by
  obtain ⟨a1, e, o, hp⟩ := h.pot hj
  refine lc_draw (k := j) (Post := Post) hlive (fun x m P hd => ?_) items acc m a1 hp hs fun ws a' h1 h2 h3 => q ws _ h1 h2 ⟨h.h0, hj, a', ?_, Pot.ok_mono h3 ?_⟩
  · obtain ⟨a, ha, hq⟩ := hd
    exact hb x m a P (.start ha) fun v m' hv hm => hm.fin hq hv
  · rw [e, List.set_set]
  · have := o.2.2.2.2
    push_cast
    omega
theorem lc_at0 {live : Store → Prop} {body : Val → Store → (Option Val → Store → Prop) → Prop} {fin : List Val → Store → Prop} {t1 : Tok live} {t2 : Tok body} {t3 : Tok fin} (j : Nat) (Post : Val → Prop) {items : List Val} (hlive : ∀ m, live m)
    (hb : ∀ x m a P, At m p a j 0 m → (∀ v m', Post v → At m p a j j m' → P (some v) m') → body x m P) (h : At m0 p a0 K k m) (hj : k + j * items.length ≤ K) (hs : items.length ≤ sizeLine)
    (q : ∀ (ws : List Val) m', ws.length = items.length → (∀ v ∈ ws, Post v) → At m0 p a0 K (k + j * items.length) m' → fin ws m') : lcX live body items [] m fin t1 t2 t3 :=
  lc_at j Post hlive hb h hj (by simpa using hs) fun ws m' h1 h2 h3 => by rw [List.nil_append]; exact q ws m' h1 h2 h3
theorem for_at {live : Store → Prop} {step : Val → Dy.Env → Store → (Dy.Env → Store → Prop) → Prop} {fin : Dy.Env → Store → Prop} (j : Nat) (I : Dy.Env → Prop) {items : List Val} {r : Dy.Env} (hlive : ∀ m, live m)
    (hb : ∀ x r m a nx, I r → At m p a j 0 m → (∀ r' m', I r' → At m p a j j m' → nx r' m') → step x r m nx) (hi : I r) (h : At m0 p a0 K k m) (hj : k + j * items.length ≤ K)
    (q : ∀ r' m', I r' → At m0 p a0 K (k + j * items.length) m' → fin r' m') : forW live step fin items r m := by
  obtain ⟨a1, e, o, hp⟩ := h.pot hj
  refine for_draw (k := j) I hlive (fun x r m nx a hi ha hn => ?_) items r m a1 hi hp fun r' a' h1 h3 => q r' _ h1 ⟨h.h0, hj, a', ?_, Pot.ok_mono h3 ?_⟩
  · refine hb x r m a nx hi (.start ha) fun r' m' hi' hm => ?_
    obtain ⟨g, hk, a1, e, o⟩ := hm
    rw [e]
    exact hn r' a1 hi' o
  · rw [e, List.set_set]
  · have := o.2.2.2.2
    push_cast
    omega
end
theorem it_rng1 (m : Store) (n : Int) (v : Val) : itF .rng1 m (.int n) v = if -(2 ^ 62) ≤ n ∧ n < 2 ^ 62 then some (intsUp 0 n.toNat) else none := rfl
theorem it_rng {m : Store} {n : Int} {v : Val} (h0 : -(2 ^ 62) ≤ n) (h1 : n < 2 ^ 62) : itF .rng1 m (.int n) v = some (intsUp 0 n.toNat) := if_pos ⟨h0, h1⟩
theorem x_rng {m : Store} {n : Int} {v : Val} {P : List Val → Prop} {tk : Tok P} (h0 : 0 ≤ n) (h1 : n < 1000000) (q : P (intsUp 0 n.toNat)) : ex (itF .rng1 m (.int n) v) P tk := ⟨_, it_rng (by omega) (by omega), q⟩
@[simp] theorem intsUp_len (a : Int) (n : Nat) : (intsUp a n).length = n := by simp [intsUp]
theorem intsUp_mem {a : Int} {n : Nat} {x : Val} (h : x ∈ intsUp a n) : ∃ i : Nat, i < n ∧ x = .int (a + i) := by
  simp only [intsUp, List.mem_map, List.mem_range] at h
  obtain ⟨i, hi, e⟩ := h
  exact ⟨i, hi, e.symm⟩
end Dy

namespace K85
open PySem L2 Dy
def isName (v : Val) : Prop := ∃ t, NameOk t ∧ v = .str t
def isItem (v : Val) : Prop := ∃ it : Item, it.ok ∧ v = it.val
def fs_law_name : FS := fun args m Q _ => ∃ p, args = [.loc p] ∧ drawS m p 10 isName Q
def fs_law_item : FS := fun args m Q _ => ∃ p, args = [.loc p] ∧ drawS m p 100 isItem Q
theorem x_name {m0 m : Store} {p K k : Nat} {a0 : Pot} {Q : Val → Store → Prop} {R : Rq} {tk : Tok Q} {uk : Tok R} (h : At m0 p a0 K k m) (hj : k + 10 ≤ K) (q : ∀ t m', NameOk t → At m0 p a0 K (k + 10) m' → Q (.str t) m') : callF fs_law_name [.loc p] m Q R tk uk :=
  ⟨p, rfl, h.draw 10 hj fun v m' ⟨t, e, ev⟩ ha => by rw [ev]; exact q t m' e ha⟩
theorem x_item {m0 m : Store} {p K k : Nat} {a0 : Pot} {Q : Val → Store → Prop} {R : Rq} {tk : Tok Q} {uk : Tok R} (h : At m0 p a0 K k m) (hj : k + 100 ≤ K) (q : ∀ it m', Item.ok it → At m0 p a0 K (k + 100) m' → Q it.val m') : callF fs_law_item [.loc p] m Q R tk uk :=
  ⟨p, rfl, h.draw 100 hj fun v m' ⟨t, e, ev⟩ ha => by rw [ev]; exact q t m' e ha⟩
theorem strsOf {Post : Text → Prop} : ∀ {ws : List Val}, (∀ v ∈ ws, ∃ t, v = .str t ∧ Post t) → ∃ ts : List Text, ws = ts.map .str ∧ ∀ t ∈ ts, Post t
  | [], _ => ⟨[], rfl, by simp⟩
  | w :: ws, h => by
    obtain ⟨t, rfl, ht⟩ := h w (by simp)
    obtain ⟨ts, rfl, hts⟩ := strsOf fun v hv => h v (List.mem_cons_of_mem _ hv)
    exact ⟨t :: ts, rfl, by simpa using ⟨ht, hts⟩⟩
theorem letters_name : ∀ ts : List Text, (∀ t ∈ ts, ∃ c ∈ letters, t = [c]) → (TL.joinL [] ts).length = ts.length ∧ (∀ c ∈ TL.joinL [] ts, c ∈ letters) ∧ (ts.map fun x => List.length x).sum = ts.length
  | [], _ => by simp [TL.joinL]
  | [t], h => by
    obtain ⟨c, hc, rfl⟩ := h t (by simp)
    simp [TL.joinL, hc]
  | t :: u :: r, h => by
    obtain ⟨c, hc, rfl⟩ := h t (by simp)
    obtain ⟨i1, i2, i3⟩ := letters_name (u :: r) fun z hz => h z (List.mem_cons_of_mem _ hz)
    have e : TL.joinL [] ([c] :: u :: r) = c :: TL.joinL [] (u :: r) := by simp [TL.joinL]
    rw [e]
    refine ⟨by rw [List.length_cons, i1]; rfl, ?_, ?_⟩
    · intro d hd
      rcases List.mem_cons.mp hd with rfl | hd
      · exact hc
      · exact i2 d hd
    · rw [List.map_cons, List.sum_cons, i3, List.length_cons (as := u :: r)]
      simp only [List.length_cons, List.length_nil]
      omega
theorem m_law_name {F : Nat → FS} (h16 : F 16 = fsTake) (h17 : F 17 = fsOf) : Meets F 4 b_law_name fs_law_name := by
  refine Meets.x ?_
  rintro args m Q R hm ha ⟨p, rfl, a, hp, hQ⟩
  unfold b_law_name
  simp [h16]
  refine x_take (.start hp) (by omega) (by decide) (by decide) fun d m1 d0 d1 hA => ?_
  simp
  refine x_rng (by omega) (by omega) ?_
  refine lc_at0 1 (fun v => ∃ t, v = .str t ∧ ∃ c ∈ letters, t = [c]) (fun _ => it_rng (by omega) (by omega)) ?_ hA (by simp; omega) (by rw [sizeLine_is]; simp; omega) ?_
  · intro x m a P hA q
    simp [h17]
    refine x_of _ hA (by omega) rfl (by simp) (by simp) fun v m' hv hA' => q v m' ?_ hA'
    obtain ⟨c, hc, rfl⟩ := List.mem_map.mp hv
    exact ⟨_, rfl, c, hc, rfl⟩
  · intro ws m2 hl hw hA2
    obtain ⟨ts, rfl, hts⟩ := strsOf hw
    obtain ⟨i1, i2, i3⟩ := letters_name ts hts
    simp at hl
    simp only [xE_nil, asT_tup]
    refine x_join ts rfl (by rw [i3]; simp; omega) ?_
    have hn : NameOk (TL.joinL [] ts) := ⟨by omega, by omega, i2⟩
    generalize TL.joinL [] ts = t at hn ⊢
    simp [h17]
    refine x_of _ (hA2.mono (k' := 9) (by simp; omega) (by omega)) (by omega) rfl (by simp) (by simp) fun v m' hv hA' => ?_
    refine .inl (hA'.fin hQ ?_)
    simp at hv
    rcases hv with rfl | rfl | rfl | rfl | rfl | rfl | rfl | rfl
    · exact ⟨t, hn, rfl⟩
    all_goals exact ⟨_, ⟨by decide, by decide, by decide⟩, rfl⟩
theorem oNs {n : Nat} : ∀ {ws : List Val}, (∀ v ∈ ws, ∃ o : Option Nat, v = oN o ∧ ∀ k, o = some k → k ≤ n) → ∃ l : List (Option Nat), ws = l.map oN ∧ ∀ o ∈ l, ∀ k, o = some k → k ≤ n
  | [], _ => ⟨[], rfl, by simp⟩
  | w :: ws, h => by
    obtain ⟨t, rfl, ht⟩ := h w (by simp)
    obtain ⟨ts, rfl, hts⟩ := oNs fun v hv => h v (List.mem_cons_of_mem _ hv)
    refine ⟨t :: ts, rfl, fun o ho => ?_⟩
    rcases List.mem_cons.mp ho with rfl | ho
    · exact ht
    · exact hts o ho
theorem oN_nat {d : Int} (h : 0 ≤ d) : Val.int d = oN (some d.toNat) := by
  show Val.int d = Val.int (d.toNat : Int)
  rw [Int.toNat_of_nonneg h]
theorem m_law_item {F : Nat → FS} (h16 : F 16 = fsTake) (h17 : F 17 = fsOf) (h18 : F 18 = fs_law_name) : Meets F 5 b_law_item fs_law_item := by
  refine Meets.x ?_
  rintro args m Q R hm ha ⟨p, rfl, a, hp, hQ⟩
  unfold b_law_item
  simp [h16]
  refine x_take (.start hp) (by omega) (by decide) (by decide) fun d m1 d0 d1 hA => ?_
  simp
  by_cases hd : d = 0
  · rw [if_pos hd]
    simp [h16]
    refine x_take hA (by omega) (by decide) (by decide) fun d m2 d0 d1 hA => ?_
    simp [h17]
    refine x_of _ hA (by omega) rfl (by simp) (by simp) fun v m3 hv hA => .inl (hA.fin hQ ?_)
    simp at hv
    rcases hv with rfl | rfl | rfl | rfl
    · exact ⟨.gap none, (fun _ z => by cases z), rfl⟩
    · exact ⟨.gap (some 1), fun n z => by cases z; decide, rfl⟩
    · exact ⟨.gap (some 9), fun n z => by cases z; decide, rfl⟩
    · exact ⟨.gap (some (1 + d).toNat), fun n z => by cases z; omega, oN_nat (by omega)⟩
  · rw [if_neg hd]
    simp [h16]
    refine x_take hA (by omega) (by decide) (by decide) fun d m2 d0 d1 hA => ?_
    simp
    refine x_rng (by omega) (by omega) ?_
    refine lc_at0 2 (fun v => ∃ o : Option Nat, v = oN o ∧ ∀ k, o = some k → k ≤ 3) (fun _ => it_rng (by omega) (by omega)) ?_ hA (by simp; omega) (by rw [sizeLine_is]; simp; omega) ?_
    · intro x m a P hA q
      simp [h16]
      refine x_take hA (by omega) (by decide) (by decide) fun d m2 d0 d1 hA => ?_
      simp [h17]
      refine x_of _ hA (by omega) rfl (by simp) (by simp) fun v m' hv hA' => q v m' ?_ hA'
      simp at hv
      rcases hv with rfl | rfl
      · exact ⟨none, rfl, fun _ z => by cases z⟩
      · exact ⟨some d.toNat, oN_nat d0, fun n z => by cases z; omega⟩
    · intro ws m2 hl hw hA
      obtain ⟨l, rfl, hl2⟩ := oNs hw
      simp at hl
      have hA := hA.mono (k' := 6) (by simp; omega) (by omega)
      simp [h18]
      refine x_name hA (by omega) fun n1 m3 hn1 hA => ?_
      simp [h18]
      refine x_name hA (by omega) fun n2 m4 hn2 hA => ?_
      simp [h17]
      refine x_of _ hA (by omega) rfl (by simp) (by simp) fun vh m5 hvh hA => ?_
      simp [h18]
      refine x_name hA (by omega) fun n3 m6 hn3 hA => ?_
      simp [h17]
      refine x_of _ hA (by omega) rfl (by simp) (by simp) fun vw m7 hvw hA => ?_
      simp [h17]
      refine x_of _ hA (by omega) rfl (by simp) (by simp) fun vv m8 hvv hA => ?_
      simp
      refine .inl (hA.fin hQ ?_)
      have e1 : ∃ h, nameO h ∧ vh = oT h := by
        simp at hvh
        rcases hvh with rfl | rfl | rfl
        · exact ⟨none, (fun _ z => by cases z), rfl⟩
        · exact ⟨some n1, fun _ z => by cases z; exact hn1, rfl⟩
        · exact ⟨some n2, fun _ z => by cases z; exact hn2, rfl⟩
      have e2 : ∃ h, nameO h ∧ vw = oT h := by
        simp at hvw
        rcases hvw with rfl | rfl
        · exact ⟨none, (fun _ z => by cases z), rfl⟩
        · exact ⟨some n3, fun _ z => by cases z; exact hn3, rfl⟩
      have e3 : ∃ vs, vsOk vs ∧ vv = oV vs := by
        simp at hvv
        rcases hvv with rfl | rfl
        · exact ⟨none, (fun _ z => by cases z), rfl⟩
        · exact ⟨some l, fun _ z => by cases z; exact ⟨by omega, hl2⟩, rfl⟩
      obtain ⟨h, q1, rfl⟩ := e1
      obtain ⟨w, q2, rfl⟩ := e2
      obtain ⟨vs, q3, rfl⟩ := e3
      exact ⟨.entry h w vs, ⟨q1, q2, q3⟩, rfl⟩
theorem m_law_item_text {F : Nat → FS} : Meets F 3 b_law_item_text fs_item_text := by
  refine Meets.x ?_
  rintro args m Q R hm ha ⟨it, ok, rfl, hQ⟩
  unfold b_law_item_text
  cases it with
  | gap g =>
    cases g with
    | none => simp [Item.val, oN]; exact .inl hQ
    | some n =>
      have := ok n rfl
      have hlog := small_log (n := n) (by omega)
      have hl : (numT (n : Int)).length = 1 := by rw [numT_nat]; exact nT_len (o := some n) fun k e => by cases e; omega
      simp [Item.val, oN, hlog, hl]
      refine .inl ?_
      rw [numT_nat]
      exact hQ
  | entry h w vs =>
    obtain ⟨o1, o2, o3⟩ := ok
    have hv := vT_len o3
    have fin : xS F (.cons (.ret (.meth .join (.cst (.str [32])) (.cons (.lst false (.cons (.ite (.isN false (.idx (.var 0) (.cst (.int 0)))) (.cst (.str [45])) (.idx (.var 0) (.cst (.int 0)))) (.cons (.ite (.isN false (.idx (.var 0) (.cst (.int 1)))) (.cst (.str [63])) (.idx (.var 0) (.cst (.int 1)))) (.cons (.var 1) .nil)))) .nil))) .nil)
        [some (.tup [oT h, oT w, oV vs]), some (.str (vT vs)), none] m (bodyEn m.length Q R) := by
      cases h <;> cases w <;> simp [oT]
      case none.none => exact x_join [[45], [63], vT vs] rfl (by simp; omega) (.inl hQ)
      case none.some w => exact x_join [[45], w, vT vs] rfl (by have := (o2 w rfl).2.1; simp; omega) (.inl hQ)
      case some.none h => exact x_join [h, [63], vT vs] rfl (by have := (o1 h rfl).2.1; simp; omega) (.inl hQ)
      case some.some h w => exact x_join [h, w, vT vs] rfl (by have := (o1 h rfl).2.1; have := (o2 w rfl).2.1; simp; omega) (.inl hQ)
    cases vs with
    | none =>
      simp [Item.val, oV]
      simpa [oV, vT] using fin
    | some l =>
      obtain ⟨hl, hv2⟩ := o3 l rfl
      simp [Item.val, oV]
      have hlay : lays (l.map oN) = true := lays_map fun x _ => by cases x <;> rfl
      have hdep : deps (l.map oN) ≤ 0 := deps_map fun x _ => by cases x <;> simp [oN, dep]
      refine cmp_neG (by simp only [cmpV, lay, dep, hlay, Bool.true_and]; exact decide_eq_true (by omega)) (by decide) ?_
      cases l with
      | nil =>
        have e : veqv (.tup (List.map oN [])) (.tup []) = true := by simp [veqv, veqvs]
        rw [e]
        simpa [oV, vT] using fin
      | cons o l =>
        have e : veqv (.tup (List.map oN (o :: l))) (.tup []) = false := by simp [veqv, veqvs]
        rw [e]
        simp
        refine lc_map (f := oN) (fun o => .str (nT o)) (by rfl) (o :: l) _ ?_ (by rw [sizeLine_is]; simp at hl ⊢; omega) ?_
        · intro x hx P hP
          cases x with
          | none => simpa [oN, nT] using hP
          | some n =>
            have := hv2 _ hx n rfl
            have hlog := small_log (n := n) (by omega)
            simp [oN, hlog]
            rw [numT_nat]
            exact hP
        · rw [List.nil_append, show (fun o => Val.str (nT o)) = Val.str ∘ nT from rfl, ← List.map_map]
          simp only [xE_nil, asT_tup]
          have ev : vT (some (o :: l)) = TL.joinL [44] ((o :: l).map nT) := by simp [vT]
          have hs : ∀ l : List (Option Nat), (∀ v ∈ l, ∀ n, v = some n → n ≤ 3) → ((l.map nT).map fun x => List.length x).sum = l.length := by
            intro l hv
            induction l with
            | nil => simp
            | cons z l ih =>
              have ih' := ih fun v hv' => hv v (List.mem_cons_of_mem _ hv')
              have hz : (nT z).length = 1 := nT_len fun n e => by have := hv z (by simp) n e; omega
              simp only [List.map_cons, List.sum_cons, List.length_cons, hz]
              omega
          refine x_join ((o :: l).map nT) rfl ?_ ?_
          · rw [hs _ hv2, List.length_map]
            generalize (o :: l).length = L at hl ⊢
            simp
            omega
          · rw [← ev]
            simpa [oV] using fin
end K85

namespace K85
open PySem L2 Dy
theorem shws_map {α : Type} {f : α → Val} : ∀ {l : List α}, (∀ x ∈ l, shw (f x) = true) → shws (l.map f) = true
  | [], _ => rfl
  | x :: l, h => by
    simp only [List.map_cons, shws, Bool.and_eq_true]
    exact ⟨h x (by simp), shws_map fun y hy => h y (by simp [hy])⟩
theorem rszs_map {α : Type} {f : α → Val} {n : Nat} : ∀ {l : List α}, (∀ x ∈ l, rsz (f x) ≤ n) → rszs (l.map f) ≤ l.length * (n + 2)
  | [], _ => Nat.zero_le _
  | x :: l, h => by
    have h1 := rszs_map (l := l) fun y hy => h y (by simp [hy])
    have h2 := h x (by simp)
    simp only [List.map_cons, rszs, List.length_cons, Nat.add_mul, Nat.one_mul] at *
    omega
theorem oN_shw {o : Option Nat} (h : ∀ n, o = some n → n ≤ 9) : shw (oN o) = true ∧ rsz (oN o) ≤ 20 := by
  cases o with
  | none => simp [oN, shw, rsz]
  | some n =>
    have := h n rfl
    have hl := small_log (n := n) (by omega)
    have h4 : n.log2 < 10 := by
      by_cases z : n = 0
      · subst z; decide
      · exact (Nat.log2_lt z).mpr (by omega)
    simp [oN, shw, rsz, hl]
    omega
theorem oT_shw {o : Option Text} (h : nameO o) : shw (oT o) = true ∧ rsz (oT o) ≤ 82 := by
  cases o with
  | none => simp [oT, shw, rsz]
  | some t =>
    have := (h t rfl).2.1
    simp [oT, shw, rsz, name_signs (h t rfl)]
    omega
theorem oV_shw {vs : Option (List (Option Nat))} (h : vsOk vs) : shw (oV vs) = true ∧ rsz (oV vs) ≤ 50 := by
  cases vs with
  | none => simp [oV, shw, rsz]
  | some l =>
    obtain ⟨hl, hv⟩ := h l rfl
    have q : ∀ x ∈ l, shw (oN x) = true ∧ rsz (oN x) ≤ 20 := fun x hx => oN_shw fun n z => by have := hv x hx n z; omega
    have h1 := shws_map fun x hx => (q x hx).1
    have h2 := rszs_map fun x hx => (q x hx).2
    simp [oV, shw, rsz, h1]
    omega
theorem val_shw {it : Item} (ok : it.ok) : shw it.val = true ∧ rsz it.val ≤ 250 := by
  cases it with
  | gap g =>
    have := oN_shw (o := g) fun n z => (ok n z).2
    exact ⟨this.1, Nat.le_trans this.2 (by decide)⟩
  | entry h w vs =>
    obtain ⟨o1, o2, o3⟩ := ok
    have a1 := oT_shw o1
    have a2 := oT_shw o2
    have a3 := oV_shw o3
    simp [Item.val, shw, shws, rsz, rszs, a1, a2, a3]
    omega
theorem items_shw {its : List Item} (h : oks its) : shw (itemsV its) = true ∧ rsz (itemsV its) ≤ 4000 := by
  have h1 := shws_map fun x hx => (val_shw (h.2 x hx)).1
  have h2 := rszs_map fun x hx => (val_shw (h.2 x hx)).2
  have h3 := h.1
  simp [itemsV, shw, rsz, h1]
  omega
theorem small_signs {t : Text} (h : ∀ c ∈ t, c < 128) : signs t = true := by
  unfold signs
  rw [List.all_eq_true]
  intro c hc
  have := h c hc
  simp
  omega
theorem letters_small {c : Nat} (h : c ∈ letters) : c < 128 := by
  simp [letters] at h
  omega
theorem nT_small {o : Option Nat} (h : ∀ n, o = some n → n ≤ 9) : ∀ c ∈ nT o, c < 128 := by
  obtain ⟨d, hd, hd2⟩ := nT_sign h
  rw [hd]
  intro c hc
  simp at hc
  omega
theorem vT_small {vs : Option (List (Option Nat))} (h : vsOk vs) : ∀ c ∈ vT vs, c < 128 := by
  cases vs with
  | none => intro c hc; simp [vT] at hc; subst hc; decide
  | some l =>
    obtain ⟨hl, hv⟩ := h l rfl
    cases l with
    | nil => intro c hc; simp [vT] at hc; subst hc; decide
    | cons o l =>
      have e : vT (some (o :: l)) = TL.joinL [44] ((o :: l).map nT) := by simp [vT]
      rw [e]
      refine join_mem (P := fun c => c < 128) (fun c hc => by simp at hc; subst hc; decide) fun p hp => ?_
      obtain ⟨z, hz, rfl⟩ := List.mem_map.mp hp
      exact nT_small fun n q => by have := hv z hz n q; omega
theorem text_small {it : Item} (ok : it.ok) : ∀ c ∈ it.text, c < 128 := by
  refine join_mem (P := fun c => c < 128) (fun c hc => by simp at hc; subst hc; decide) fun p hp => ?_
  cases it with
  | gap g =>
    simp [Item.words] at hp
    rcases hp with rfl | rfl
    · intro c hc; simp at hc; omega
    · exact nT_small fun n q => (ok n q).2
  | entry h w vs =>
    obtain ⟨o1, o2, o3⟩ := ok
    simp [Item.words] at hp
    rcases hp with rfl | rfl | rfl
    · cases h with
      | none => intro c hc; simp at hc; subst hc; decide
      | some t => exact fun c hc => letters_small ((o1 t rfl).2.2 c hc)
    · cases w with
      | none => intro c hc; simp at hc; subst hc; decide
      | some t => exact fun c hc => letters_small ((o2 t rfl).2.2 c hc)
    · exact vT_small o3
theorem itemsT_small {its : List Item} (ok : oks its) : ∀ c ∈ itemsT its, c < 128 := by
  unfold itemsT
  by_cases h : its = []
  · rw [if_pos h]; simp
  · rw [if_neg h]
    refine join_mem (P := fun c => c < 128) (fun c hc => by simp at hc; omega) fun p hp => ?_
    obtain ⟨z, hz, rfl⟩ := List.mem_map.mp hp
    exact text_small (ok.2 z hz)
theorem text_shw {t : Text} (h : ∀ c ∈ t, c < 128) : shw (.str t) = true := by simp [shw, small_signs h]
theorem x_reprT {t : Text} {m : Store} {Q : Val → Store → Prop} (h : ∀ c ∈ t, c < 128) (hl : t.length ≤ 1000) (q : Q (.str (reprV (.str t))) m) : biW .repr [.str t] m Q :=
  bi_reprG (text_shw h) (by simp [dep]) (by rw [sizeLine_is]; simp [rsz]; omega) q
theorem x_reprI {it : Item} {m : Store} {Q : Val → Store → Prop} (ok : it.ok) (q : Q (.str (reprV it.val)) m) : biW .repr [it.val] m Q :=
  bi_reprG (val_shw ok).1 (Nat.le_trans (val_lay ok).2 (by decide)) (by have := (val_shw ok).2; rw [sizeLine_is]; omega) q
theorem x_reprL {its : List Item} {m : Store} {Q : Val → Store → Prop} (ok : oks its) (q : Q (.str (reprV (itemsV its))) m) : biW .repr [itemsV its] m Q :=
  bi_reprG (items_shw ok).1 (Nat.le_trans (items_lay ok).2 (by decide)) (by have := (items_shw ok).2; rw [sizeLine_is]; omega) q
theorem x_read_item {it : Item} {m : Store} {Q : Val → Store → Prop} {R : Rq} {tk : Tok Q} {uk : Tok R} (h : it.ok) (q : Q it.val m) : callF fs_read_item [.str it.text] m Q R tk uk := ⟨it, h, rfl, q⟩
theorem x_items_text {its : List Item} {m : Store} {Q : Val → Store → Prop} {R : Rq} {tk : Tok Q} {uk : Tok R} (h : oks its) (q : Q (.str (itemsT its)) m) : callF fs_items_text [itemsV its] m Q R tk uk := ⟨its, h, rfl, q⟩
def fs_law_right : FS := fun args m Q _ => ∃ p, args = [.loc p] ∧ drawS m p 100000 (fun v => v = .bool true) Q
theorem itemsOf : ∀ {ws : List Val}, (∀ v ∈ ws, isItem v) → ∃ its : List Item, ws = its.map Item.val ∧ ∀ it ∈ its, it.ok
  | [], _ => ⟨[], rfl, by simp⟩
  | w :: ws, h => by
    obtain ⟨t, ht, rfl⟩ := h w (by simp)
    obtain ⟨ts, rfl, hts⟩ := itemsOf fun v hv => h v (List.mem_cons_of_mem _ hv)
    refine ⟨t :: ts, rfl, fun o ho => ?_⟩
    rcases List.mem_cons.mp ho with rfl | ho
    · exact ht
    · exact hts o ho
theorem m_law_right {F : Nat → FS} (h7 : F 7 = fs_item_text) (h8 : F 8 = fs_items_text) (h13 : F 13 = fs_read_item) (h14 : F 14 = fs_items_in) (h16 : F 16 = fsTake) (h19 : F 19 = fs_law_item) (h20 : F 20 = fs_item_text) (h21 : F 21 = fs_items_text) : Meets F 7 b_law_right fs_law_right := by
  refine Meets.x ?_
  rintro args m Q R hm ha ⟨p, rfl, a, hp, hQ⟩
  unfold b_law_right
  simp
  refine x_rng (by decide) (by decide) ?_
  refine for_at 100 (fun r => ∃ x1 x2 x3 x4 x5 x6, r = [some (.loc p), x1, x2, x3, x4, x5, x6]) (fun _ => it_rng (by decide) (by decide)) ?_ ⟨_, _, _, _, _, _, rfl⟩ (.start hp) (by simp) ?_
  · rintro x r m a nx ⟨x1, x2, x3, x4, x5, x6, rfl⟩ hA hn
    simp [h19]
    refine x_item hA (by omega) fun it m1 ok hA => ?_
    simp [h20]
    refine x_item_text ok ?_
    simp [h7]
    refine x_item_text ok ?_
    simp [-bi_repr]
    refine x_reprT (text_small ok) (by have := text_len ok; omega) ?_
    simp [-bi_repr]
    refine x_reprT (text_small ok) (by have := text_len ok; omega) ?_
    simp [h13]
    refine x_read_item ok ?_
    simp [-bi_repr]
    refine x_reprI ok ?_
    simp [-bi_repr]
    refine x_reprI ok ?_
    simp
    exact hn _ _ ⟨_, _, _, _, _, _, rfl⟩ hA
  · rintro r m1 ⟨x1, x2, x3, x4, x5, x6, rfl⟩ hA
    simp
    refine x_rng (by decide) (by decide) ?_
    refine for_at 2000 (fun r => ∃ x1 x2 x3 x4 x5 x6, r = [some (.loc p), x1, x2, x3, x4, x5, x6]) (fun _ => it_rng (by decide) (by decide)) ?_ ⟨_, _, _, _, _, _, rfl⟩ hA (by simp) ?_
    · rintro x r m a nx ⟨x1, x2, x3, x4, x5, x6, rfl⟩ hA hn
      simp [h16]
      refine x_take hA (by omega) (by decide) (by decide) fun d m2 d0 d1 hA => ?_
      simp
      refine x_rng (by omega) (by omega) ?_
      refine lc_at0 100 isItem (fun _ => it_rng (by omega) (by omega)) ?_ hA (by simp; omega) (by rw [sizeLine_is]; simp; omega) ?_
      · intro x m a P hA q
        simp [h19]
        exact x_item hA (by omega) fun it m1 ok hA => q _ _ ⟨it, ok, rfl⟩ hA
      · intro ws m2 hl hw hA
        obtain ⟨its, rfl, hok⟩ := itemsOf hw
        simp at hl
        have ok : oks its := ⟨by omega, hok⟩
        have hA := hA.mono (k' := 2000) (by simp; omega) (by omega)
        have hlen := itemsT_len ok
        simp only [xE_nil, asT_tup]
        rw [X_bi_tupL, show Val.tup (its.map Item.val) = itemsV its from rfl]
        simp [-bi_repr]
        refine x_reprL ok ?_
        simp [h21]
        refine x_items_text ok ?_
        simp [h8]
        refine x_items_text ok ?_
        simp [-bi_repr]
        refine x_reprT (itemsT_small ok) hlen ?_
        simp [-bi_repr]
        refine x_reprT (itemsT_small ok) hlen ?_
        simp [h14]
        refine x_items_in ok ?_
        simp [-bi_repr]
        refine x_reprL ok ?_
        simp [-bi_repr]
        refine x_reprL ok ?_
        simp
        exact hn _ _ ⟨_, _, _, _, _, _, rfl⟩ hA
    · rintro r m3 ⟨x1, x2, x3, x4, x5, x6, rfl⟩ hA
      simp
      exact .inl (hA.fin hQ rfl)
def fs_law : FS := fun args m Q _ => ∃ ns : List Int, ns.length ≤ 1000000 ∧ args = [.il false (ns.map .int)] ∧ ∀ m', Q (.bool true) m'
theorem x_right {m0 m : Store} {p K k : Nat} {a0 : Pot} {Q : Val → Store → Prop} {R : Rq} {tk : Tok Q} {uk : Tok R} (h : At m0 p a0 K k m) (hj : k + 100000 ≤ K) (q : ∀ m', Q (.bool true) m') : callF fs_law_right [.loc p] m Q R tk uk :=
  ⟨p, rfl, h.draw 100000 hj fun v m' ev ha => by rw [ev]; exact q m'⟩
theorem m_law {F : Nat → FS} (h15 : F 15 = fsPot) (h22 : F 22 = fs_law_right) : Meets F 3 b_law fs_law := by
  refine Meets.x ?_
  rintro args m Q R hm ha ⟨ns, hns, rfl, hQ⟩
  unfold b_law
  simp
  refine x_rng (by split <;> split <;> omega) (by split <;> split <;> omega) ?_
  refine for_invX (fun rem r _ => (∃ x1 x2, r = [some (.il false (ns.map .int)), x1, x2]) ∧ ∀ x ∈ rem, ∃ i : Nat, i < 4 ∧ x = .int i) ?_ ?_ ?_ ⟨⟨_, _, rfl⟩, ?_⟩
  · intro _
    simp only [List.length_map, gt_iff_lt]
    refine it_rng ?_ ?_ <;> (split <;> split <;> omega)
  · rintro x xs r m nx ⟨⟨x1, x2, rfl⟩, hx⟩ hn
    obtain ⟨i, hi, rfl⟩ := hx x List.mem_cons_self
    simp [h15]
    refine x_pot (by omega) fun a ha => ?_
    simp [h22]
    refine x_right (.start ha) (by omega) fun m' => ?_
    simp
    exact hn _ _ ⟨⟨_, _, rfl⟩, fun y hy => hx y (List.mem_cons_of_mem _ hy)⟩
  · rintro r m1 ⟨⟨x1, x2, rfl⟩, _⟩
    simp
    exact .inl (hQ _)
  · intro x hx
    obtain ⟨i, hi, rfl⟩ := intsUp_mem hx
    refine ⟨i, ?_, by simp⟩
    revert hi
    split <;> split <;> omega
theorem m_law_pot {F : Nat → FS} : Meets F 5 b_law_pot fsPot := pot_meets
theorem m_law_take {F : Nat → FS} : Meets F 5 b_law_take fsTake := take_meets
theorem m_law_of {F : Nat → FS} (h : F 16 = fsTake) : Meets F 2 b_law_of fsOf := of_meets h
end K85

/-! Dp, part R: the defs of a module, one after the other. -/
namespace Dy
open PySem L2
/-- the module has a constant -/
def HasC (K : Frag) (x : Str) (v : Val) : Prop := ∃ u xv, PySem.W.nsIn K mainGlobals x = some (some u) ∧ RelV xv u ∧ ∀ W H, RV K W H v xv
theorem hasI {K : Frag} {x : Str} {i j : Int} {t} (a : PySem.W.nsIn K mainGlobals x = some (some (.int i t))) (e : i = j) : HasC K x (.int j) := ⟨_, .int j, a, ⟨t, by rw [e]⟩, fun _ _ => .int j⟩
theorem hasS {K : Frag} {x : Str} {s : Str} {cs : Text} {t} (a : PySem.W.nsIn K mainGlobals x = some (some (.str s t))) (e : s = SX.S cs) : HasC K x (.str cs) := ⟨_, .str (SX.S cs), a, ⟨t, by rw [e]⟩, fun _ _ => .str cs⟩
def AllC (K : Frag) : List (Str × Val) → Prop
  | [] => True
  | p :: r => HasC K p.1 p.2 ∧ AllC K r
theorem AllC.get {K : Frag} {x : Str} {v : Val} : ∀ {l : List (Str × Val)}, AllC K l → l.lookup x = some v → HasC K x v
  | [], _, h => by cases h
  | (y, w) :: r, ⟨h1, h2⟩, h => by
    simp only [List.lookup] at h
    split at h
    · rename_i e
      cases h
      rw [eq_of_beq e]
      exact h1
    · exact h2.get h
def AllN (K : Frag) : List Str → Prop
  | [] => True
  | x :: r => PySem.W.nsIn K mainGlobals x = some none ∧ AllN K r
theorem AllN.get {K : Frag} {x : Str} : ∀ {l : List Str}, AllN K l → l.contains x = true → PySem.W.nsIn K mainGlobals x = some none
  | [], _, h => by cases h
  | y :: r, ⟨h1, h2⟩, h => by
    simp only [List.contains_cons, Bool.or_eq_true] at h
    rcases h with h | h
    · rw [eq_of_beq h]; exact h1
    · exact h2.get h
/-- a def and what is known of it -/
structure DefI where
  x : Str
  st : Stmt
  N : List Str
  ps : List Str
  body : S
  fs : FS
def HasDef (K : Frag) (x : Str) (st : Stmt) : Prop := ∃ f fd, PySem.W.nsIn K mainGlobals x = some (some (.ref f)) ∧ Fun K x x st f fd
theorem hasDef {K : Frag} {x : Str} {st : Stmt} {f : Addr} {oc : Value} {od an : Option Addr} {osl : Array (Option Value)} {kV doc pm cdv ct : Value} (a : PySem.W.nsIn K mainGlobals x = some (some (.ref f)))
    (l : K.lookup f = some ⟨oc, od, .func (PySem.W.fnOf x x (defArgs st) (defBody st) (defScope st) .none kV doc pm an cdv ct), osl⟩) (c : PySem.W.codeIn K cdv x = true) (k : PySem.W.keepIn K (.ref f) = true) : HasDef K x st := ⟨f, _, a, fun_mk l c k⟩
def AllD (K : Frag) : List DefI → Prop
  | [] => True
  | d :: r => HasDef K d.x d.st ∧ AllD K r
theorem AllD.get {K : Frag} {d : DefI} : ∀ {l : List DefI} {i : Nat}, AllD K l → l[i]? = some d → HasDef K d.x d.st
  | [], i, _, h => by simp at h
  | e :: r, 0, ⟨h1, _⟩, h => by
    simp at h
    rw [← h]; exact h1
  | e :: r, i + 1, ⟨_, h2⟩, h => h2.get (i := i) (by simpa using h)
def noFS : FS := fun _ _ _ _ => False
/-- the defs ahead of the i-th -/
def Fst (L : List FS) (i : Nat) : Nat → FS := fun j => if j < i then L.getD j noFS else noFS
structure GoodD (gl : List (Str × Val)) (bl : List Str) (fns : List (Str × Nat)) (L : List FS) (i : Nat) (d : DefI) : Prop where
  sc : FnScope d.N d.ps (defScope d.st)
  ck : chkSs ⟨d.N, (defScope d.st).names, true, gl, bl, fns⟩ (defBody d.st) d.body = true
  me : Meets (Fst L i) d.N.length d.body d.fs
  ln : ∀ vs m Q R, d.fs vs m Q R → vs.length = d.ps.length
  bd : ∀ (kV doc pm : Value) (an : Option Addr) (cdv ct : Value) (us : List Value), us.length = d.ps.length → bindArgs (PySem.W.fnOf d.x d.x (defArgs d.st) (defBody d.st) (defScope d.st) .none kV doc pm an cdv ct) ⟨us, []⟩ = pure (d.ps.zip us)
def AllG (gl : List (Str × Val)) (bl : List Str) (fns : List (Str × Nat)) (L : List FS) : Nat → List DefI → Prop
  | _, [] => True
  | i, d :: r => GoodD gl bl fns L i d ∧ AllG gl bl fns L (i + 1) r
theorem AllG.get {gl : List (Str × Val)} {bl : List Str} {fns : List (Str × Nat)} {L : List FS} {d : DefI} : ∀ {l : List DefI} {n i : Nat}, AllG gl bl fns L n l → l[i]? = some d → GoodD gl bl fns L (n + i) d
  | [], n, i, _, h => by simp at h
  | e :: r, n, 0, ⟨h1, _⟩, h => by
    simp at h
    rw [← h]; exact h1
  | e :: r, n, i + 1, ⟨_, h2⟩, h => by
    have := h2.get (i := i) (by simpa using h)
    rw [show n + (i + 1) = n + 1 + i by omega]
    exact this
/-- the table of the names of the defs is as it must be -/
def AllF (ds : List DefI) : List (Str × Nat) → Prop
  | [] => True
  | p :: r => (∃ d, ds[p.2]? = some d ∧ d.x = p.1) ∧ AllF ds r
theorem AllF.get {ds : List DefI} {x : Str} {f : Nat} : ∀ {l : List (Str × Nat)}, AllF ds l → l.lookup x = some f → ∃ d, ds[f]? = some d ∧ d.x = x
  | [], _, h => by cases h
  | (y, w) :: r, ⟨h1, h2⟩, h => by
    simp only [List.lookup] at h
    split at h
    · rename_i e
      cases h
      rw [eq_of_beq e]
      exact h1
    · exact h2.get h
section
variable {P : Program} {w : World} {K : Frag} {mg : Str → Option Value} {base : Heap} {cl : Cls} {gl : List (Str × Val)} {bl : List Str} {fns : List (Str × Nat)} {ds : List DefI} {h0 : Heap}
theorem stage (X : K.In h0) (G : h0.Ns mainGlobals mg) (hc : AllC K gl) (hn : AllN K bl) (hd : AllD K ds) (hf : AllF ds fns) (hg : AllG gl bl fns (ds.map (·.fs)) 0 ds) :
    ∀ (i : Nat) (d : DefI), ds[i]? = some d → ∀ f fd, Fun K d.x d.x d.st f fd → FnG P w K mg base (i + 2) f fd d.ps (spG K cl d.ps.length d.fs) := by
  intro i
  induction i using Nat.strongRecOn with
  | _ i ih =>
    intro d hi f fd T
    have g := hg.get hi
    rw [Nat.zero_add] at g
    refine def_ok (lev := i + 1) (F := Fst (ds.map (·.fs)) i) (gl := gl) (bl := bl) (fns := fns) ⟨?_, ?_, ?_⟩ (by omega) T g.sc g.ck g.me
    · intro x v e
      obtain ⟨u, xv, a, b, c⟩ := hc.get e
      exact ⟨u, xv, PySem.W.mg_of X G a, b, c⟩
    · intro x e
      exact PySem.W.mg_none_of X G (hn.get e)
    · intro x j e
      obtain ⟨dj, hj, rfl⟩ := hf.get e
      obtain ⟨a, fdj, ha, Tj⟩ := hd.get hj
      have gj := hg.get hj
      have bj : Binds K fdj dj.ps [] := Tj.binds gj.bd
      have hL : (ds.map (·.fs)).getD j noFS = dj.fs := by simp [List.getD, hj]
      by_cases hji : j < i
      · have eF : Fst (ds.map (·.fs)) i j = dj.fs := by unfold Fst; rw [if_pos hji, hL]
        rw [eF]
        exact ⟨a, fdj, dj.ps, j + 2, PySem.W.mg_of X G ha, Tj.kp, bj, ih j hji dj hj a fdj Tj, by omega, gj.ln⟩
      · have eF : Fst (ds.map (·.fs)) i j = noFS := by unfold Fst; rw [if_neg hji]
        rw [eF]
        refine ⟨a, fdj, dj.ps, 0, PySem.W.mg_of X G ha, Tj.kp, bj, ⟨?_, ?_⟩, by omega, fun _ _ _ _ z => z.elim⟩
        · rintro vs H Q E ⟨_, _, _, _, _, _, _, _, z, _⟩
          exact z.elim
        · intros
          rename_i z
          obtain ⟨_, _, _, _, _, _, _, _, z, _⟩ := z
          exact z.elim
end
end Dy

namespace K85
open PySem L2 Dy
theorem l_fs_is_integer : ∀ (vs : List Val) (m : Store) (Q : Val → Store → Prop) (R : Rq), fs_is_integer vs m Q R → vs.length = 1 := by
  rintro vs m Q R ⟨_, rfl, _⟩
  rfl
theorem l_fs_is_between : ∀ (vs : List Val) (m : Store) (Q : Val → Store → Prop) (R : Rq), fs_is_between vs m Q R → vs.length = 3 := by
  rintro vs m Q R ⟨_, _, _, rfl, _⟩
  rfl
theorem l_fs_is_name : ∀ (vs : List Val) (m : Store) (Q : Val → Store → Prop) (R : Rq), fs_is_name vs m Q R → vs.length = 1 := by
  rintro vs m Q R ⟨_, rfl, _⟩
  rfl
theorem l_fs_number_in : ∀ (vs : List Val) (m : Store) (Q : Val → Store → Prop) (R : Rq), fs_number_in vs m Q R → vs.length = 1 := by
  rintro vs m Q R ⟨_, rfl, _⟩
  rfl
theorem l_fs_is_entry_read : ∀ (vs : List Val) (m : Store) (Q : Val → Store → Prop) (R : Rq), fs_is_entry_read vs m Q R → vs.length = 1 := by
  rintro vs m Q R ⟨_, _, _, _, rfl, _⟩
  rfl
theorem l_fs_is_item : ∀ (vs : List Val) (m : Store) (Q : Val → Store → Prop) (R : Rq), fs_is_item vs m Q R → vs.length = 1 := by
  rintro vs m Q R ⟨_, _, rfl, _⟩
  rfl
theorem l_fs_shown_values : ∀ (vs : List Val) (m : Store) (Q : Val → Store → Prop) (R : Rq), fs_shown_values vs m Q R → vs.length = 1 := by
  rintro vs m Q R ⟨_, _, rfl, _⟩
  rfl
theorem l_fs_item_text : ∀ (vs : List Val) (m : Store) (Q : Val → Store → Prop) (R : Rq), fs_item_text vs m Q R → vs.length = 1 := by
  rintro vs m Q R ⟨_, _, rfl, _⟩
  rfl
theorem l_fs_items_text : ∀ (vs : List Val) (m : Store) (Q : Val → Store → Prop) (R : Rq), fs_items_text vs m Q R → vs.length = 1 := by
  rintro vs m Q R ⟨_, _, rfl, _⟩
  rfl
theorem l_fs_values_in : ∀ (vs : List Val) (m : Store) (Q : Val → Store → Prop) (R : Rq), fs_values_in vs m Q R → vs.length = 1 := by
  rintro vs m Q R ⟨_, _, rfl, _⟩
  rfl
theorem l_fs_item_in : ∀ (vs : List Val) (m : Store) (Q : Val → Store → Prop) (R : Rq), fs_item_in vs m Q R → vs.length = 1 := by
  rintro vs m Q R ⟨_, _, rfl, _⟩
  rfl
theorem l_fs_items_in : ∀ (vs : List Val) (m : Store) (Q : Val → Store → Prop) (R : Rq), fs_items_in vs m Q R → vs.length = 1 := by
  rintro vs m Q R ⟨_, _, rfl, _⟩
  rfl
theorem l_fs_check_shown : ∀ (vs : List Val) (m : Store) (Q : Val → Store → Prop) (R : Rq), fs_check_shown vs m Q R → vs.length = 2 := by
  rintro vs m Q R ⟨_, _, rfl, _⟩
  rfl
theorem l_fs_read_item : ∀ (vs : List Val) (m : Store) (Q : Val → Store → Prop) (R : Rq), fs_read_item vs m Q R → vs.length = 1 := by
  rintro vs m Q R ⟨_, _, rfl, _⟩
  rfl
theorem l_fsPot : ∀ (vs : List Val) (m : Store) (Q : Val → Store → Prop) (R : Rq), fsPot vs m Q R → vs.length = 2 := by
  rintro vs m Q R ⟨_, _, _, rfl, _⟩
  rfl
theorem l_fsTake : ∀ (vs : List Val) (m : Store) (Q : Val → Store → Prop) (R : Rq), fsTake vs m Q R → vs.length = 2 := by
  rintro vs m Q R ⟨_, _, rfl, _⟩
  rfl
theorem l_fsOf : ∀ (vs : List Val) (m : Store) (Q : Val → Store → Prop) (R : Rq), fsOf vs m Q R → vs.length = 2 := by
  rintro vs m Q R ⟨_, _, _, rfl, _⟩
  rfl
theorem l_fs_law_name : ∀ (vs : List Val) (m : Store) (Q : Val → Store → Prop) (R : Rq), fs_law_name vs m Q R → vs.length = 1 := by
  rintro vs m Q R ⟨_, rfl, _⟩
  rfl
theorem l_fs_law_item : ∀ (vs : List Val) (m : Store) (Q : Val → Store → Prop) (R : Rq), fs_law_item vs m Q R → vs.length = 1 := by
  rintro vs m Q R ⟨_, rfl, _⟩
  rfl
theorem l_fs_law_right : ∀ (vs : List Val) (m : Store) (Q : Val → Store → Prop) (R : Rq), fs_law_right vs m Q R → vs.length = 1 := by
  rintro vs m Q R ⟨_, rfl, _⟩
  rfl
theorem l_fs_law : ∀ (vs : List Val) (m : Store) (Q : Val → Store → Prop) (R : Rq), fs_law vs m Q R → vs.length = 1 := by
  rintro vs m Q R ⟨_, _, rfl, _⟩
  rfl
def ds : List DefI := [
  ⟨"is_integer", s_is_integer, n_is_integer, p_is_integer, b_is_integer, fs_is_integer⟩,
  ⟨"is_between", s_is_between, n_is_between, p_is_between, b_is_between, fs_is_between⟩,
  ⟨"is_name", s_is_name, n_is_name, p_is_name, b_is_name, fs_is_name⟩,
  ⟨"number_in", s_number_in, n_number_in, p_number_in, b_number_in, fs_number_in⟩,
  ⟨"is_entry_read", s_is_entry_read, n_is_entry_read, p_is_entry_read, b_is_entry_read, fs_is_entry_read⟩,
  ⟨"is_item", s_is_item, n_is_item, p_is_item, b_is_item, fs_is_item⟩,
  ⟨"shown_values", s_shown_values, n_shown_values, p_shown_values, b_shown_values, fs_shown_values⟩,
  ⟨"show_item", s_show_item, n_show_item, p_show_item, b_show_item, fs_item_text⟩,
  ⟨"show_items", s_show_items, n_show_items, p_show_items, b_show_items, fs_items_text⟩,
  ⟨"values_in", s_values_in, n_values_in, p_values_in, b_values_in, fs_values_in⟩,
  ⟨"item_in", s_item_in, n_item_in, p_item_in, b_item_in, fs_item_in⟩,
  ⟨"items_in", s_items_in, n_items_in, p_items_in, b_items_in, fs_items_in⟩,
  ⟨"check_shown", s_check_shown, n_check_shown, p_check_shown, b_check_shown, fs_check_shown⟩,
  ⟨"read_item", s_read_item, n_read_item, p_read_item, b_read_item, fs_read_item⟩,
  ⟨"read_items", s_read_items, n_read_items, p_read_items, b_read_items, fs_items_in⟩,
  ⟨"_law_pot", s_law_pot, n_law_pot, p_law_pot, b_law_pot, fsPot⟩,
  ⟨"_law_take", s_law_take, n_law_take, p_law_take, b_law_take, fsTake⟩,
  ⟨"_law_of", s_law_of, n_law_of, p_law_of, b_law_of, fsOf⟩,
  ⟨"_law_name", s_law_name, n_law_name, p_law_name, b_law_name, fs_law_name⟩,
  ⟨"_law_item", s_law_item, n_law_item, p_law_item, b_law_item, fs_law_item⟩,
  ⟨"_law_item_text", s_law_item_text, n_law_item_text, p_law_item_text, b_law_item_text, fs_item_text⟩,
  ⟨"_law_items_text", s_law_items_text, n_law_items_text, p_law_items_text, b_law_items_text, fs_items_text⟩,
  ⟨"_law_right", s_law_right, n_law_right, p_law_right, b_law_right, fs_law_right⟩,
  ⟨"law", s_law, n_law, p_law, b_law, fs_law⟩]
theorem g_is_integer : GoodD gl bl fns (ds.map (·.fs)) 0 ⟨"is_integer", s_is_integer, n_is_integer, p_is_integer, b_is_integer, fs_is_integer⟩ := ⟨sc_is_integer, c_is_integer, m_is_integer , l_fs_is_integer, fun _ _ _ _ _ _ us hl => match us, hl with | [_], _ => rfl⟩
theorem g_is_between : GoodD gl bl fns (ds.map (·.fs)) 1 ⟨"is_between", s_is_between, n_is_between, p_is_between, b_is_between, fs_is_between⟩ := ⟨sc_is_between, c_is_between, m_is_between rfl, l_fs_is_between, fun _ _ _ _ _ _ us hl => match us, hl with | [_, _, _], _ => rfl⟩
theorem g_is_name : GoodD gl bl fns (ds.map (·.fs)) 2 ⟨"is_name", s_is_name, n_is_name, p_is_name, b_is_name, fs_is_name⟩ := ⟨sc_is_name, c_is_name, m_is_name , l_fs_is_name, fun _ _ _ _ _ _ us hl => match us, hl with | [_], _ => rfl⟩
theorem g_number_in : GoodD gl bl fns (ds.map (·.fs)) 3 ⟨"number_in", s_number_in, n_number_in, p_number_in, b_number_in, fs_number_in⟩ := ⟨sc_number_in, c_number_in, m_number_in , l_fs_number_in, fun _ _ _ _ _ _ us hl => match us, hl with | [_], _ => rfl⟩
theorem g_is_entry_read : GoodD gl bl fns (ds.map (·.fs)) 4 ⟨"is_entry_read", s_is_entry_read, n_is_entry_read, p_is_entry_read, b_is_entry_read, fs_is_entry_read⟩ := ⟨sc_is_entry_read, c_is_entry_read, m_is_entry_read rfl rfl, l_fs_is_entry_read, fun _ _ _ _ _ _ us hl => match us, hl with | [_], _ => rfl⟩
theorem g_is_item : GoodD gl bl fns (ds.map (·.fs)) 5 ⟨"is_item", s_is_item, n_is_item, p_is_item, b_is_item, fs_is_item⟩ := ⟨sc_is_item, c_is_item, m_is_item rfl rfl, l_fs_is_item, fun _ _ _ _ _ _ us hl => match us, hl with | [_], _ => rfl⟩
theorem g_shown_values : GoodD gl bl fns (ds.map (·.fs)) 6 ⟨"shown_values", s_shown_values, n_shown_values, p_shown_values, b_shown_values, fs_shown_values⟩ := ⟨sc_shown_values, c_shown_values, m_shown_values , l_fs_shown_values, fun _ _ _ _ _ _ us hl => match us, hl with | [_], _ => rfl⟩
theorem g_show_item : GoodD gl bl fns (ds.map (·.fs)) 7 ⟨"show_item", s_show_item, n_show_item, p_show_item, b_show_item, fs_item_text⟩ := ⟨sc_show_item, c_show_item, m_show_item rfl, l_fs_item_text, fun _ _ _ _ _ _ us hl => match us, hl with | [_], _ => rfl⟩
theorem g_show_items : GoodD gl bl fns (ds.map (·.fs)) 8 ⟨"show_items", s_show_items, n_show_items, p_show_items, b_show_items, fs_items_text⟩ := ⟨sc_show_items, c_show_items, m_show_items rfl, l_fs_items_text, fun _ _ _ _ _ _ us hl => match us, hl with | [_], _ => rfl⟩
theorem g_values_in : GoodD gl bl fns (ds.map (·.fs)) 9 ⟨"values_in", s_values_in, n_values_in, p_values_in, b_values_in, fs_values_in⟩ := ⟨sc_values_in, c_values_in, m_values_in rfl, l_fs_values_in, fun _ _ _ _ _ _ us hl => match us, hl with | [_], _ => rfl⟩
theorem g_item_in : GoodD gl bl fns (ds.map (·.fs)) 10 ⟨"item_in", s_item_in, n_item_in, p_item_in, b_item_in, fs_item_in⟩ := ⟨sc_item_in, c_item_in, m_item_in rfl rfl rfl, l_fs_item_in, fun _ _ _ _ _ _ us hl => match us, hl with | [_], _ => rfl⟩
theorem g_items_in : GoodD gl bl fns (ds.map (·.fs)) 11 ⟨"items_in", s_items_in, n_items_in, p_items_in, b_items_in, fs_items_in⟩ := ⟨sc_items_in, c_items_in, m_items_in rfl, l_fs_items_in, fun _ _ _ _ _ _ us hl => match us, hl with | [_], _ => rfl⟩
theorem g_check_shown : GoodD gl bl fns (ds.map (·.fs)) 12 ⟨"check_shown", s_check_shown, n_check_shown, p_check_shown, b_check_shown, fs_check_shown⟩ := ⟨sc_check_shown, c_check_shown, m_check_shown , l_fs_check_shown, fun _ _ _ _ _ _ us hl => match us, hl with | [_, _], _ => rfl⟩
theorem g_read_item : GoodD gl bl fns (ds.map (·.fs)) 13 ⟨"read_item", s_read_item, n_read_item, p_read_item, b_read_item, fs_read_item⟩ := ⟨sc_read_item, c_read_item, m_read_item rfl rfl, l_fs_read_item, fun _ _ _ _ _ _ us hl => match us, hl with | [_], _ => rfl⟩
theorem g_read_items : GoodD gl bl fns (ds.map (·.fs)) 14 ⟨"read_items", s_read_items, n_read_items, p_read_items, b_read_items, fs_items_in⟩ := ⟨sc_read_items, c_read_items, m_read_items rfl rfl, l_fs_items_in, fun _ _ _ _ _ _ us hl => match us, hl with | [_], _ => rfl⟩
theorem g_law_pot : GoodD gl bl fns (ds.map (·.fs)) 15 ⟨"_law_pot", s_law_pot, n_law_pot, p_law_pot, b_law_pot, fsPot⟩ := ⟨sc_law_pot, c_law_pot, m_law_pot , l_fsPot, fun _ _ _ _ _ _ us hl => match us, hl with | [_, _], _ => rfl⟩
theorem g_law_take : GoodD gl bl fns (ds.map (·.fs)) 16 ⟨"_law_take", s_law_take, n_law_take, p_law_take, b_law_take, fsTake⟩ := ⟨sc_law_take, c_law_take, m_law_take , l_fsTake, fun _ _ _ _ _ _ us hl => match us, hl with | [_, _], _ => rfl⟩
theorem g_law_of : GoodD gl bl fns (ds.map (·.fs)) 17 ⟨"_law_of", s_law_of, n_law_of, p_law_of, b_law_of, fsOf⟩ := ⟨sc_law_of, c_law_of, m_law_of rfl, l_fsOf, fun _ _ _ _ _ _ us hl => match us, hl with | [_, _], _ => rfl⟩
theorem g_law_name : GoodD gl bl fns (ds.map (·.fs)) 18 ⟨"_law_name", s_law_name, n_law_name, p_law_name, b_law_name, fs_law_name⟩ := ⟨sc_law_name, c_law_name, m_law_name rfl rfl, l_fs_law_name, fun _ _ _ _ _ _ us hl => match us, hl with | [_], _ => rfl⟩
theorem g_law_item : GoodD gl bl fns (ds.map (·.fs)) 19 ⟨"_law_item", s_law_item, n_law_item, p_law_item, b_law_item, fs_law_item⟩ := ⟨sc_law_item, c_law_item, m_law_item rfl rfl rfl, l_fs_law_item, fun _ _ _ _ _ _ us hl => match us, hl with | [_], _ => rfl⟩
theorem g_law_item_text : GoodD gl bl fns (ds.map (·.fs)) 20 ⟨"_law_item_text", s_law_item_text, n_law_item_text, p_law_item_text, b_law_item_text, fs_item_text⟩ := ⟨sc_law_item_text, c_law_item_text, m_law_item_text , l_fs_item_text, fun _ _ _ _ _ _ us hl => match us, hl with | [_], _ => rfl⟩
theorem g_law_items_text : GoodD gl bl fns (ds.map (·.fs)) 21 ⟨"_law_items_text", s_law_items_text, n_law_items_text, p_law_items_text, b_law_items_text, fs_items_text⟩ := ⟨sc_law_items_text, c_law_items_text, m_law_items_text rfl, l_fs_items_text, fun _ _ _ _ _ _ us hl => match us, hl with | [_], _ => rfl⟩
theorem g_law_right : GoodD gl bl fns (ds.map (·.fs)) 22 ⟨"_law_right", s_law_right, n_law_right, p_law_right, b_law_right, fs_law_right⟩ := ⟨sc_law_right, c_law_right, m_law_right rfl rfl rfl rfl rfl rfl rfl rfl, l_fs_law_right, fun _ _ _ _ _ _ us hl => match us, hl with | [_], _ => rfl⟩
theorem g_law : GoodD gl bl fns (ds.map (·.fs)) 23 ⟨"law", s_law, n_law, p_law, b_law, fs_law⟩ := ⟨sc_law, c_law, m_law rfl rfl, l_fs_law, fun _ _ _ _ _ _ us hl => match us, hl with | [_], _ => rfl⟩
theorem allG : AllG gl bl fns (ds.map (·.fs)) 0 ds := ⟨g_is_integer, g_is_between, g_is_name, g_number_in, g_is_entry_read, g_is_item, g_shown_values, g_show_item, g_show_items, g_values_in, g_item_in, g_items_in, g_check_shown, g_read_item, g_read_items, g_law_pot, g_law_take, g_law_of, g_law_name, g_law_item, g_law_item_text, g_law_items_text, g_law_right, g_law, trivial⟩
theorem allF : AllF ds fns := ⟨⟨_, rfl, rfl⟩, ⟨_, rfl, rfl⟩, ⟨_, rfl, rfl⟩, ⟨_, rfl, rfl⟩, ⟨_, rfl, rfl⟩, ⟨_, rfl, rfl⟩, ⟨_, rfl, rfl⟩, ⟨_, rfl, rfl⟩, ⟨_, rfl, rfl⟩, ⟨_, rfl, rfl⟩, ⟨_, rfl, rfl⟩, ⟨_, rfl, rfl⟩, ⟨_, rfl, rfl⟩, ⟨_, rfl, rfl⟩, ⟨_, rfl, rfl⟩, ⟨_, rfl, rfl⟩, ⟨_, rfl, rfl⟩, ⟨_, rfl, rfl⟩, ⟨_, rfl, rfl⟩, ⟨_, rfl, rfl⟩, ⟨_, rfl, rfl⟩, ⟨_, rfl, rfl⟩, ⟨_, rfl, rfl⟩, ⟨_, rfl, rfl⟩, trivial⟩

theorem all_mk {l : PySem.W.OpenLaw} {w : World} {K : Frag} {h : Heap} {mg : Str → Option Value} {fa : Addr} (X : K.In h) (G : h.Ns mainGlobals mg) (hfa : mg "law" = some (.ref fa)) (hc : AllC K gl) (hn : AllN K bl) (hd : AllD K ds) :
    ∃ (fd : FuncData) (cl : Dy.Cls), (∀ (s : Shared) (u : Value), BindsTo s fd ⟨[u], []⟩ [("_law_script", u)]) ∧ ∀ base : Heap, K.In base → base.Ns mainGlobals mg → FnG l.prog w K mg base 25 fa fd ["_law_script"] (spG K cl 1 fs_law) := by
  obtain ⟨f, fd, ha, T⟩ := hd.get (i := 23) (d := ⟨"law", s_law, n_law, p_law, b_law, fs_law⟩) rfl
  have e := hfa.symm.trans (PySem.W.mg_of X G ha)
  cases e
  refine ⟨fd, fun _ => fa, fun s u => ?_, fun base _ _ => stage X G hc hn hd allF allG 23 ⟨"law", s_law, n_law, p_law, b_law, fs_law⟩ rfl fa fd T⟩
  obtain ⟨oc, od, kV, doc, pm, an, cdv, ct, osl, rfl, lk, hcd⟩ := T.ex
  exact .of_eq rfl
theorem walk {l : PySem.W.OpenLaw} {q : Program} {loose : List Str} {XP : (Str → Option Value) → Heap → Prop} {YP : World → Heap → Prop} {d : DefRec} {K : Params → Frag} (hn : l.most = some 63) (hdf : d.params.defaults = [])
    (hY : ∀ (w : World) (h : Heap), YP w h → (K w.params).In h)
    (F : ∀ (w : World) (mg : Str → Option Value) (fa : Addr) (h : Heap), (K w.params).In h → h.Ns mainGlobals mg → mg d.name = some (.ref fa) → ∃ (fd : FuncData) (cl : Dy.Cls), (∀ (s : Shared) (u : Value), BindsTo s fd ⟨[u], []⟩ [("_law_script", u)]) ∧
      ∀ base : Heap, (K w.params).In base → base.Ns mainGlobals mg → FnG l.prog w (K w.params) mg base 25 fa fd ["_law_script"] (spG (K w.params) cl 1 fs_law)) :
    PySem.W.WalkO q loose XP YP l.row.toRowW d [] (fun f vs => PySem.call f vs) :=
  walkG (n := 63) hn (by decide) hdf ⟨rfl, by decide, by decide⟩ hY F fun ns hl => ⟨ns, by omega, rfl, fun _ => rfl⟩
end K85

open PySem PySem.W PyProof.Rows
set_option maxRecDepth 100000 in
set_option maxHeartbeats 0 in
theorem PySem.Challenge.cw_loggedruns_k85_items_written_and_read_holds : PySem.Challenge.rw_loggedruns_k85_items_written_and_read.Holds := by
  w_on; o_law; k_head; (case hw => w_witness2)
  k_fill
  refine K85.walk (l := PySem.Challenge.rw_loggedruns_k85_items_written_and_read) rfl rfl (fun w h Y => PySem.W.kIn_of Y) ?qF
  case qF =>
    intro w mg fa h KX G hmg
    refine K85.all_mk KX G hmg ?qc ?qn ?qd
    case qc =>
      refine ⟨?c0, ?c1, ?c2, ?c3, ?c4, ?c5, ?c6, ?c7, ?c8, ?c9, ?c10, ?c11, ?c12, ?c13, ?c14, ?c15, ?c16, trivial⟩
      case c0 => (apply Dy.hasS; (· k_is); (· decide +kernel))
      case c1 => (apply Dy.hasS; (· k_is); (· decide +kernel))
      case c2 => (apply Dy.hasS; (· k_is); (· decide +kernel))
      case c3 => (apply Dy.hasI; (· k_is); (· decide +kernel))
      case c4 => (apply Dy.hasI; (· k_is); (· decide +kernel))
      case c5 => (apply Dy.hasI; (· k_is); (· decide +kernel))
      case c6 => (apply Dy.hasI; (· k_is); (· decide +kernel))
      case c7 => (apply Dy.hasI; (· k_is); (· decide +kernel))
      case c8 => (apply Dy.hasI; (· k_is); (· decide +kernel))
      case c9 => (apply Dy.hasS; (· k_is); (· decide +kernel))
      case c10 => (apply Dy.hasS; (· k_is); (· decide +kernel))
      case c11 => (apply Dy.hasS; (· k_is); (· decide +kernel))
      case c12 => (apply Dy.hasS; (· k_is); (· decide +kernel))
      case c13 => (apply Dy.hasS; (· k_is); (· decide +kernel))
      case c14 => (apply Dy.hasS; (· k_is); (· decide +kernel))
      case c15 => (apply Dy.hasI; (· k_is); (· decide +kernel))
      case c16 => (apply Dy.hasI; (· k_is); (· decide +kernel))
    case qn =>
      refine ⟨?z0, ?z1, ?z2, ?z3, ?z4, ?z5, ?z6, ?z7, ?z8, ?z9, ?z10, ?z11, trivial⟩
      case z0 => k_is
      case z1 => k_is
      case z2 => k_is
      case z3 => k_is
      case z4 => k_is
      case z5 => k_is
      case z6 => k_is
      case z7 => k_is
      case z8 => k_is
      case z9 => k_is
      case z10 => k_is
      case z11 => k_is
    case qd =>
      refine ⟨?d0, ?d1, ?d2, ?d3, ?d4, ?d5, ?d6, ?d7, ?d8, ?d9, ?d10, ?d11, ?d12, ?d13, ?d14, ?d15, ?d16, ?d17, ?d18, ?d19, ?d20, ?d21, ?d22, ?d23, trivial⟩
      case d0 => (apply Dy.hasDef; (· k_is); (· k_is); (· k_is); (· k_is))
      case d1 => (apply Dy.hasDef; (· k_is); (· k_is); (· k_is); (· k_is))
      case d2 => (apply Dy.hasDef; (· k_is); (· k_is); (· k_is); (· k_is))
      case d3 => (apply Dy.hasDef; (· k_is); (· k_is); (· k_is); (· k_is))
      case d4 => (apply Dy.hasDef; (· k_is); (· k_is); (· k_is); (· k_is))
      case d5 => (apply Dy.hasDef; (· k_is); (· k_is); (· k_is); (· k_is))
      case d6 => (apply Dy.hasDef; (· k_is); (· k_is); (· k_is); (· k_is))
      case d7 => (apply Dy.hasDef; (· k_is); (· k_is); (· k_is); (· k_is))
      case d8 => (apply Dy.hasDef; (· k_is); (· k_is); (· k_is); (· k_is))
      case d9 => (apply Dy.hasDef; (· k_is); (· k_is); (· k_is); (· k_is))
      case d10 => (apply Dy.hasDef; (· k_is); (· k_is); (· k_is); (· k_is))
      case d11 => (apply Dy.hasDef; (· k_is); (· k_is); (· k_is); (· k_is))
      case d12 => (apply Dy.hasDef; (· k_is); (· k_is); (· k_is); (· k_is))
      case d13 => (apply Dy.hasDef; (· k_is); (· k_is); (· k_is); (· k_is))
      case d14 => (apply Dy.hasDef; (· k_is); (· k_is); (· k_is); (· k_is))
      case d15 => (apply Dy.hasDef; (· k_is); (· k_is); (· k_is); (· k_is))
      case d16 => (apply Dy.hasDef; (· k_is); (· k_is); (· k_is); (· k_is))
      case d17 => (apply Dy.hasDef; (· k_is); (· k_is); (· k_is); (· k_is))
      case d18 => (apply Dy.hasDef; (· k_is); (· k_is); (· k_is); (· k_is))
      case d19 => (apply Dy.hasDef; (· k_is); (· k_is); (· k_is); (· k_is))
      case d20 => (apply Dy.hasDef; (· k_is); (· k_is); (· k_is); (· k_is))
      case d21 => (apply Dy.hasDef; (· k_is); (· k_is); (· k_is); (· k_is))
      case d22 => (apply Dy.hasDef; (· k_is); (· k_is); (· k_is); (· k_is))
      case d23 => (apply Dy.hasDef; (· k_is); (· k_is); (· k_is); (· k_is))
#print axioms PySem.Challenge.cw_loggedruns_k85_items_written_and_read_holds
