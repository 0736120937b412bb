import PyProof.Rows.All
import Wide.All
import OpenK.AllK
import Wide.FinOn
import HandS.ForMost
import HandS.TupAny
import HandS.IsInst
import HandS.Style
import HandS.Defaults
import HandS.Property
import HandS.HeadEnd
import HandS.FStr
import HandS.DictComp
import HandS.Conv
import HandS.Zip
import HandS.Walk
import HandS.MakeKw
import HandS.RaiseMore
import HandS.SortInts
import HandS.Text
import HandS.Replace
import KE.KCallOwn
import KE.KFmtOwn
import PyProof.FactsAll.object_2
import PyProof.Conv_bool
import HandS.Ends
import HandS.HeadHook2
import PyProof.Rows.SortShell
import PyProof.P3Eq
import PyProof.Rows.RegFStrParts
import PyProof.Rows.ReprShort
import PyProof.Rows.ReprOcc
import HandS.Words
import PySem.Challenge.RW_spansieve_k02_plans_made
import KE.KStateDown
import HandS.Head0
import HandS.Head1
import HandS.Head2
import HandS.HeadHook1
set_option Elab.async false
set_option linter.all false
set_option maxRecDepth 100000
set_option maxHeartbeats 2000000
namespace HD
open PySem PySem.Spec PyProof.Rows L2

/-- data: what a value stands for, whatever its address -/
inductive D where
  | non | bl (b : Bool) | int (i : Int) | str (x : Str) | ty (n : String) | ref (a : Addr)
  | lst (xs : List D) | tup (xs : List D) | dic (ks : List Key) (xs : List D) | ins (C : Addr) (ns : List Str) (xs : List D)
  | scr (ns : List Int)
deriving Inhabited

mutual
/-- the value v stands for the data d in the heap H -/
def Rep (K : PySem.W.Frag) (H : Hp) : D → V → Prop
  | .non, v => v = .non
  | .bl b, v => v = .bl b
  | .int i, v => v = .int i
  | .str x, v => v = .str x
  | .ty n, v => v = .ty n
  | .ref a, v => v = .ref a
  | .scr ns, v => ∃ a, v = .ref a ∧ SqL K H a (ns.map V.int)
  | .lst ds, v => ∃ a vs, v = .ref a ∧ H a = some (.lst vs) ∧ RepL K H ds vs
  | .tup ds, v => ∃ a vs, v = .ref a ∧ SqT K H a vs ∧ RepL K H ds vs
  | .dic ks ds, v => ∃ a vs, v = .ref a ∧ H a = some (.dK (ks.zip vs)) ∧ ks.length = ds.length ∧ RepL K H ds vs
  | .ins C ns ds, v => ∃ a dx vs, v = .ref a ∧ H a = some (.ins C dx (ns.zip vs)) ∧ ns.length = ds.length ∧ RepL K H ds vs
def RepL (K : PySem.W.Frag) (H : Hp) : List D → List V → Prop
  | [], vs => vs = []
  | d :: ds, vs => ∃ v ws, vs = v :: ws ∧ Rep K H d v ∧ RepL K H ds ws
end
abbrev Ex (H H' : Hp) : Prop := ∀ a o, H a = some o → H' a = some o
theorem Ex.refl (H : Hp) : Ex H H := fun _ _ h => h
theorem Ex.trans {H H1 H2 : Hp} (a : Ex H H1) (b : Ex H1 H2) : Ex H H2 := fun x o h => b x o (a x o h)
theorem Ex.new {H : Hp} {p : Addr} {o : HO} (h : H p = none) : Ex H (upd H p o) := fun a u e => by
  rw [upd_ne (ne_of_none e h)]; exact e
theorem Ex.free {H H' : Hp} {p : Addr} (e : Ex H H') (h : H' p = none) : H p = none := by
  cases q : H p with
  | none => rfl
  | some u => rw [e p u q] at h; cases h
theorem ex_rd {H H' : Hp} {a : Addr} {u : HO} (e : Ex H H') (h : Rd H a u) : Rd H' a u := by
  rcases h with h | ⟨o, h⟩
  · exact .inl (e _ _ h)
  · exact .inr ⟨o, e _ _ h⟩
theorem ex_l {K : PySem.W.Frag} {H H' : Hp} {a : Addr} {xs : List V} (e : Ex H H') (h : SqL K H a xs) : SqL K H' a xs := by
  rcases h with h | h
  · exact .inl (ex_rd e h)
  · exact .inr h
theorem ex_t {K : PySem.W.Frag} {H H' : Hp} {a : Addr} {xs : List V} (e : Ex H H') (h : SqT K H a xs) : SqT K H' a xs := by
  rcases h with h | h
  · exact .inl (ex_rd e h)
  · exact .inr h
section
variable {K : PySem.W.Frag} {H H' : Hp}
mutual
theorem Rep.mono (e : Ex H H') : ∀ (d : D) (v : V), Rep K H d v → Rep K H' d v
  | .non, _, h => h
  | .bl _, _, h => h
  | .int _, _, h => h
  | .str _, _, h => h
  | .ty _, _, h => h
  | .ref _, _, h => h
  | .lst ds, v, h => by
    unfold Rep at h ⊢
    obtain ⟨a, vs, h1, h2, h3⟩ := h
    exact ⟨a, vs, h1, e _ _ h2, RepL.mono e ds vs h3⟩
  | .scr ns, v, h => by
    unfold Rep at h ⊢
    obtain ⟨a, h1, h2⟩ := h
    exact ⟨a, h1, ex_l e h2⟩
  | .tup ds, v, h => by
    unfold Rep at h ⊢
    obtain ⟨a, vs, h1, h2, h3⟩ := h
    exact ⟨a, vs, h1, ex_t e h2, RepL.mono e ds vs h3⟩
  | .dic ks ds, v, h => by
    unfold Rep at h ⊢
    obtain ⟨a, vs, h1, h2, h4, h3⟩ := h
    exact ⟨a, vs, h1, e _ _ h2, h4, RepL.mono e ds vs h3⟩
  | .ins C ns ds, v, h => by
    unfold Rep at h ⊢
    obtain ⟨a, dx, vs, h1, h2, h4, h3⟩ := h
    exact ⟨a, dx, vs, h1, e _ _ h2, h4, RepL.mono e ds vs h3⟩
theorem RepL.mono (e : Ex H H') : ∀ (ds : List D) (vs : List V), RepL K H ds vs → RepL K H' ds vs
  | [], _, h => h
  | d :: ds, vs, h => by
    unfold RepL at h ⊢
    obtain ⟨v, ws, h1, h2, h3⟩ := h
    exact ⟨v, ws, h1, Rep.mono e d v h2, RepL.mono e ds ws h3⟩
end
theorem RepL.nil : RepL K H [] [] := by unfold RepL; rfl
theorem RepL.cons {d : D} {v : V} {ds : List D} {vs : List V} (h : Rep K H d v) (t : RepL K H ds vs) : RepL K H (d :: ds) (v :: vs) := by
  unfold RepL; exact ⟨v, vs, rfl, h, t⟩
theorem RepL.len : ∀ {ds : List D} {vs : List V}, RepL K H ds vs → vs.length = ds.length
  | [], vs, h => by unfold RepL at h; subst h; rfl
  | d :: ds, vs, h => by
    unfold RepL at h
    obtain ⟨v, ws, rfl, _, h3⟩ := h
    simp [RepL.len h3]
theorem RepL.get : ∀ {ds : List D} {vs : List V} {i : Nat} {d : D}, RepL K H ds vs → ds[i]? = some d → ∃ v, vs[i]? = some v ∧ Rep K H d v
  | [], _, _, _, _, e => by simp at e
  | d :: ds, vs, 0, x, h, e => by
    unfold RepL at h
    obtain ⟨v, ws, rfl, h2, h3⟩ := h
    simp at e; subst e
    exact ⟨v, rfl, h2⟩
  | d :: ds, vs, i + 1, x, h, e => by
    unfold RepL at h
    obtain ⟨v, ws, rfl, h2, h3⟩ := h
    obtain ⟨u, h4, h5⟩ := RepL.get (i := i) (d := x) h3 (by simpa using e)
    exact ⟨u, by simpa using h4, h5⟩
theorem RepL.append : ∀ {ds es : List D} {vs ws : List V}, RepL K H ds vs → RepL K H es ws → RepL K H (ds ++ es) (vs ++ ws)
  | [], es, vs, ws, h, k => by unfold RepL at h; subst h; exact k
  | d :: ds, es, vs, ws, h, k => by
    unfold RepL at h
    obtain ⟨v, us, rfl, h2, h3⟩ := h
    exact RepL.cons h2 (RepL.append h3 k)
theorem RepL.take : ∀ {ds : List D} {vs : List V} (n : Nat), RepL K H ds vs → RepL K H (ds.take n) (vs.take n)
  | [], vs, n, h => by unfold RepL at h; subst h; simp; exact RepL.nil
  | d :: ds, vs, 0, h => by simp; exact RepL.nil
  | d :: ds, vs, n + 1, h => by
    unfold RepL at h
    obtain ⟨v, us, rfl, h2, h3⟩ := h
    exact RepL.cons h2 (RepL.take n h3)
theorem RepL.drop : ∀ {ds : List D} {vs : List V} (n : Nat), RepL K H ds vs → RepL K H (ds.drop n) (vs.drop n)
  | [], vs, n, h => by unfold RepL at h; subst h; simp; exact RepL.nil
  | d :: ds, vs, 0, h => h
  | d :: ds, vs, n + 1, h => by
    unfold RepL at h
    obtain ⟨v, us, rfl, h2, h3⟩ := h
    exact RepL.drop n h3
theorem RepL.set {d : D} {v : V} (r : Rep K H d v) : ∀ {ds : List D} {vs : List V} (i : Nat), RepL K H ds vs → RepL K H (ds.set i d) (vs.set i v)
  | [], vs, n, h => by unfold RepL at h; subst h; simp; exact RepL.nil
  | _ :: ds, vs, 0, h => by
    unfold RepL at h
    obtain ⟨_, us, rfl, _, h3⟩ := h
    exact RepL.cons r h3
  | _ :: ds, vs, n + 1, h => by
    unfold RepL at h
    obtain ⟨v, us, rfl, h2, h3⟩ := h
    exact RepL.cons h2 (RepL.set r n h3)
/-- plain data stands by itself -/
theorem RepL.ints : ∀ {ns : List Int} {vs : List V}, RepL K H (ns.map D.int) vs → vs = ns.map V.int
  | [], vs, h => by unfold RepL at h; exact h
  | n :: ns, vs, h => by
    unfold RepL at h
    obtain ⟨v, us, rfl, h2, h3⟩ := h
    unfold Rep at h2
    subst h2
    rw [RepL.ints h3]; rfl
theorem RepL.of_ints : ∀ (ns : List Int), RepL K H (ns.map D.int) (ns.map V.int)
  | [] => RepL.nil
  | n :: ns => RepL.cons (by unfold Rep; rfl) (RepL.of_ints ns)
theorem RepL.strs : ∀ {ns : List Str} {vs : List V}, RepL K H (ns.map D.str) vs → vs = ns.map V.str
  | [], vs, h => by unfold RepL at h; exact h
  | n :: ns, vs, h => by
    unfold RepL at h
    obtain ⟨v, us, rfl, h2, h3⟩ := h
    unfold Rep at h2
    subst h2
    rw [RepL.strs h3]; rfl
theorem RepL.of_strs : ∀ (ns : List Str), RepL K H (ns.map D.str) (ns.map V.str)
  | [] => RepL.nil
  | n :: ns => RepL.cons (by unfold Rep; rfl) (RepL.of_strs ns)
theorem RepL.bls : ∀ {ns : List Bool} {vs : List V}, RepL K H (ns.map D.bl) vs → vs = ns.map V.bl
  | [], vs, h => by unfold RepL at h; exact h
  | n :: ns, vs, h => by
    unfold RepL at h
    obtain ⟨v, us, rfl, h2, h3⟩ := h
    unfold Rep at h2
    subst h2
    rw [RepL.bls h3]; rfl
theorem Rep.tup' {ds : List D} {a : Addr} {vs : List V} (h : SqT K H a vs) (r : RepL K H ds vs) : Rep K H (.tup ds) (.ref a) := by unfold Rep; exact ⟨a, vs, rfl, h, r⟩
theorem Rep.lst' {ds : List D} {a : Addr} {vs : List V} (h : H a = some (.lst vs)) (r : RepL K H ds vs) : Rep K H (.lst ds) (.ref a) := by unfold Rep; exact ⟨a, vs, rfl, h, r⟩
end

/-! ### what may change: lists, dicts, instances, by their addresses -/
inductive MO where
  | lst (xs : List D) | dic (ks : List Key) (xs : List D) | ins (C : Addr) (ns : List Str) (xs : List D)
abbrev Mm := Addr → Option MO
def MO.d : MO → D
  | .lst xs => .lst xs
  | .dic ks xs => .dic ks xs
  | .ins C ns xs => .ins C ns xs
def MRep (K : PySem.W.Frag) (Hm : Hp) : MO → HO → Prop
  | .lst ds, o => ∃ vs, o = .lst vs ∧ RepL K Hm ds vs
  | .dic ks ds, o => ∃ vs, o = .dK (ks.zip vs) ∧ ks.length = ds.length ∧ RepL K Hm ds vs
  | .ins C ns ds, o => ∃ dx vs, o = .ins C dx (ns.zip vs) ∧ ns.length = ds.length ∧ RepL K Hm ds vs
def mput (M : Mm) (a : Addr) (m : MO) : Mm := fun b => if b = a then some m else M b
def mdel (M : Mm) (a : Addr) : Mm := fun b => if b = a then none else M b
theorem mput_same {M : Mm} {a : Addr} {m : MO} : mput M a m a = some m := if_pos rfl
theorem mput_ne {M : Mm} {a b : Addr} {m : MO} (h : b ≠ a) : mput M a m b = M b := if_neg h
theorem mdel_same {M : Mm} {a : Addr} : mdel M a a = none := if_pos rfl
theorem mdel_ne {M : Mm} {a b : Addr} (h : b ≠ a) : mdel M a b = M b := if_neg h
theorem mput_mput {M : Mm} {a : Addr} {m n : MO} : mput (mput M a m) a n = mput M a n := by
  funext b; unfold mput; split <;> rfl
theorem mdel_mput {M : Mm} {a : Addr} {m : MO} (h : M a = none) : mdel (mput M a m) a = M := by
  funext b; unfold mdel mput
  by_cases e : b = a
  · subst e; rw [if_pos rfl, h]
  · rw [if_neg e, if_neg e]
/-- Hm: what is known and stays; M: what may change; H: the heap -/
structure Cfg (K : PySem.W.Frag) (Hm : Hp) (M : Mm) (H : Hp) : Prop where
  ex : Ex Hm H
  mu : ∀ a m, M a = some m → Hm a = none ∧ ∃ o, H a = some o ∧ MRep K Hm m o
section
variable {K : PySem.W.Frag} {Hm Hm' H H' : Hp} {M M' : Mm}
theorem MRep.mono (e : Ex Hm Hm') : ∀ {m : MO} {o : HO}, MRep K Hm m o → MRep K Hm' m o
  | .lst ds, o, ⟨vs, h1, h2⟩ => ⟨vs, h1, RepL.mono e _ _ h2⟩
  | .dic ks ds, o, ⟨vs, h1, h3, h2⟩ => ⟨vs, h1, h3, RepL.mono e _ _ h2⟩
  | .ins C ns ds, o, ⟨dx, vs, h1, h3, h2⟩ => ⟨dx, vs, h1, h3, RepL.mono e _ _ h2⟩
theorem Cfg.sub (c : Cfg K Hm M H) (h : ∀ a m, M' a = some m → M a = some m) : Cfg K Hm M' H := ⟨c.ex, fun a m e => c.mu a m (h a m e)⟩
theorem Cfg.free (c : Cfg K Hm M H) {p : Addr} (h : H p = none) : Hm p = none ∧ M p = none := by
  refine ⟨c.ex.free h, ?_⟩
  cases e : M p with
  | none => rfl
  | some m =>
    obtain ⟨_, o, h1, _⟩ := c.mu p m e
    rw [h] at h1; cases h1
/-- a new thing that stays -/
theorem Cfg.new (c : Cfg K Hm M H) {p : Addr} {o : HO} (h : H p = none) : Ex Hm (upd Hm p o) ∧ Cfg K (upd Hm p o) M (upd H p o) := by
  obtain ⟨h1, h2⟩ := c.free h
  have e : Ex Hm (upd Hm p o) := Ex.new h1
  refine ⟨e, ⟨fun a u q => ?_, fun a m q => ?_⟩⟩
  · by_cases z : a = p
    · subst z; rw [upd_same] at q ⊢; exact q
    · rw [upd_ne z] at q ⊢; exact c.ex a u q
  · have z : a ≠ p := by rintro rfl; rw [h2] at q; cases q
    obtain ⟨q1, o', q2, q3⟩ := c.mu a m q
    exact ⟨by rw [upd_ne z]; exact q1, o', by rw [upd_ne z]; exact q2, MRep.mono e q3⟩
/-- a new thing that H knows already (an instance's own dict ..) does not matter -/
theorem Cfg.more (c : Cfg K Hm M H) (e : Ex H H') : Cfg K Hm M H' := ⟨c.ex.trans e, fun a m q => let ⟨q1, o, q2, q3⟩ := c.mu a m q; ⟨q1, o, e _ _ q2, q3⟩⟩
/-- a new thing that may change -/
theorem Cfg.newM (c : Cfg K Hm M H) {p : Addr} {o : HO} {m : MO} (h : H p = none) (r : MRep K Hm m o) : Cfg K Hm (mput M p m) (upd H p o) := by
  obtain ⟨h1, h2⟩ := c.free h
  refine ⟨c.ex.trans (Ex.new h), fun a n q => ?_⟩
  by_cases z : a = p
  · subst z
    rw [mput_same] at q; cases q
    exact ⟨h1, o, upd_same, r⟩
  · rw [mput_ne z] at q
    obtain ⟨q1, o', q2, q3⟩ := c.mu a n q
    exact ⟨q1, o', by rw [upd_ne z]; exact q2, q3⟩
/-- a change -/
theorem Cfg.put (c : Cfg K Hm M H) {p : Addr} {o : HO} {m m' : MO} (h : M p = some m) (r : MRep K Hm m' o) : Cfg K Hm (mput M p m') (upd H p o) := by
  obtain ⟨h1, _⟩ := c.mu p m h
  refine ⟨fun a u q => ?_, fun a n q => ?_⟩
  · have z : a ≠ p := by rintro rfl; rw [h1] at q; cases q
    rw [upd_ne z]; exact c.ex a u q
  · by_cases z : a = p
    · subst z
      rw [mput_same] at q; cases q
      exact ⟨h1, o, upd_same, r⟩
    · rw [mput_ne z] at q
      obtain ⟨q1, o', q2, q3⟩ := c.mu a n q
      exact ⟨q1, o', by rw [upd_ne z]; exact q2, q3⟩
/-- from now on it stays -/
theorem Cfg.freeze (c : Cfg K Hm M H) {p : Addr} {m : MO} (h : M p = some m) : ∃ o, Ex Hm (upd Hm p o) ∧ Cfg K (upd Hm p o) (mdel M p) H ∧ Rep K (upd Hm p o) m.d (.ref p) := by
  obtain ⟨h1, o, h2, h3⟩ := c.mu p m h
  have e : Ex Hm (upd Hm p o) := Ex.new h1
  refine ⟨o, e, ⟨fun a u q => ?_, fun a n q => ?_⟩, ?_⟩
  · by_cases z : a = p
    · subst z; rw [upd_same] at q; cases q; exact h2
    · rw [upd_ne z] at q; exact c.ex a u q
  · have z : a ≠ p := by rintro rfl; rw [mdel_same] at q; cases q
    rw [mdel_ne z] at q
    obtain ⟨q1, o', q2, q3⟩ := c.mu a n q
    exact ⟨by rw [upd_ne z]; exact q1, o', q2, MRep.mono e q3⟩
  · have r := MRep.mono e h3
    cases m with
    | lst ds =>
      obtain ⟨vs, rfl, r⟩ := r
      exact Rep.lst' upd_same r
    | dic ks ds =>
      obtain ⟨vs, rfl, r1, r⟩ := r
      unfold MO.d Rep
      exact ⟨p, vs, rfl, upd_same, r1, r⟩
    | ins C ns ds =>
      obtain ⟨dx, vs, rfl, r1, r⟩ := r
      unfold MO.d Rep
      exact ⟨p, dx, vs, rfl, upd_same, r1, r⟩
end

/-! ### slots -/
abbrev DSt := List (Option D)
def Sl (K : PySem.W.Frag) (H : Hp) : DSt → L2.St → Prop
  | [], σ => σ = []
  | none :: s, σ => ∃ o τ, σ = o :: τ ∧ Sl K H s τ
  | some d :: s, σ => ∃ v τ, σ = some v :: τ ∧ Rep K H d v ∧ Sl K H s τ
section
variable {K : PySem.W.Frag} {H H' : Hp}
theorem Sl.mono (e : Ex H H') : ∀ {s : DSt} {σ : L2.St}, Sl K H s σ → Sl K H' s σ
  | [], _, h => h
  | none :: s, σ, h => by
    obtain ⟨o, τ, rfl, h⟩ := h
    exact ⟨o, τ, rfl, Sl.mono e h⟩
  | some d :: s, σ, h => by
    obtain ⟨v, τ, rfl, r, h⟩ := h
    exact ⟨v, τ, rfl, Rep.mono e _ _ r, Sl.mono e h⟩
theorem Sl.get : ∀ {s : DSt} {σ : L2.St} {i : Nat} {d : D}, Sl K H s σ → s[i]? = some (some d) → ∃ v, σ[i]? = some (some v) ∧ Rep K H d v
  | [], _, _, _, _, e => by simp at e
  | none :: s, σ, 0, d, _, e => by simp at e
  | none :: s, σ, i + 1, d, h, e => by
    obtain ⟨o, τ, rfl, h⟩ := h
    obtain ⟨v, h1, h2⟩ := Sl.get (i := i) (d := d) h (by simpa using e)
    exact ⟨v, by simpa using h1, h2⟩
  | some d' :: s, σ, 0, d, h, e => by
    obtain ⟨v, τ, rfl, r, h⟩ := h
    simp at e; subst e
    exact ⟨v, rfl, r⟩
  | some d' :: s, σ, i + 1, d, h, e => by
    obtain ⟨v, τ, rfl, r, h⟩ := h
    obtain ⟨v, h1, h2⟩ := Sl.get (i := i) (d := d) h (by simpa using e)
    exact ⟨v, by simpa using h1, h2⟩
theorem Sl.set {d : D} {v : V} (r : Rep K H d v) : ∀ {s : DSt} {σ : L2.St} (i : Nat), Sl K H s σ → Sl K H (s.set i (some d)) (σ.set i (some v))
  | [], _, _, h => by
    have e : _ = [] := h
    subst e
    rfl
  | none :: s, σ, 0, h => by
    obtain ⟨o, τ, rfl, h⟩ := h
    exact ⟨v, τ, rfl, r, h⟩
  | none :: s, σ, i + 1, h => by
    obtain ⟨o, τ, rfl, h⟩ := h
    exact ⟨o, _, rfl, Sl.set r i h⟩
  | some d' :: s, σ, 0, h => by
    obtain ⟨v', τ, rfl, _, h⟩ := h
    exact ⟨v, τ, rfl, r, h⟩
  | some d' :: s, σ, i + 1, h => by
    obtain ⟨v', τ, rfl, r', h⟩ := h
    exact ⟨v', _, rfl, r', Sl.set r i h⟩
/-- forgetting a slot -/
theorem Sl.forget {o : Option V} : ∀ {s : DSt} {σ : L2.St} (i : Nat), Sl K H s σ → Sl K H (s.set i none) (σ.set i o)
  | [], _, _, h => by
    have e : _ = [] := h
    subst e
    rfl
  | none :: s, σ, 0, h => by
    obtain ⟨_, τ, rfl, h⟩ := h
    exact ⟨o, τ, rfl, h⟩
  | none :: s, σ, i + 1, h => by
    obtain ⟨_, τ, rfl, h⟩ := h
    exact ⟨_, _, rfl, Sl.forget i h⟩
  | some d' :: s, σ, 0, h => by
    obtain ⟨v', τ, rfl, _, h⟩ := h
    exact ⟨o, τ, rfl, h⟩
  | some d' :: s, σ, i + 1, h => by
    obtain ⟨v', τ, rfl, r', h⟩ := h
    exact ⟨v', _, rfl, r', Sl.forget i h⟩
theorem Sl.len : ∀ {s : DSt} {σ : L2.St}, Sl K H s σ → σ.length = s.length
  | [], _, h => by
    have e : _ = [] := h
    subst e
    rfl
  | none :: s, σ, h => by
    obtain ⟨_, τ, rfl, h⟩ := h
    simp [Sl.len h]
  | some d :: s, σ, h => by
    obtain ⟨_, τ, rfl, _, h⟩ := h
    simp [Sl.len h]
def dstart (n : Nat) (ds : List D) : DSt := ds.map some ++ List.replicate (n - ds.length) none
theorem Sl.nones : ∀ (n : Nat), Sl K H (List.replicate n none) (List.replicate n none)
  | 0 => rfl
  | n + 1 => ⟨none, _, rfl, Sl.nones n⟩
theorem Sl.start {N : List Str} : ∀ {ds : List D} {vs : List V} {n : Nat}, RepL K H ds vs → Sl K H (ds.map some ++ List.replicate n none) (vs.map some ++ List.replicate n none)
  | [], vs, n, h => by unfold RepL at h; subst h; exact Sl.nones _
  | d :: ds, vs, n, h => by
    unfold RepL at h
    obtain ⟨v, us, rfl, h2, h3⟩ := h
    exact ⟨v, _, rfl, h2, Sl.start (N := N) h3⟩
theorem Sl.begin {N : List Str} {ds : List D} {vs : List V} (h : RepL K H ds vs) : Sl K H (dstart N.length ds) (L2.start N vs) := by
  unfold dstart L2.start
  rw [h.len]
  exact Sl.start (N := N) h
end

/-! ### the judgement: an expression and what it does to data -/
abbrev DE := DSt → Mm → (D → Mm → Prop) → Prop
abbrev DT := DSt → Mm → (Bool → Mm → Prop) → Prop
abbrev DA := DSt → Mm → (List D → Mm → Prop) → Prop
structure DEnds where
  nx : DSt → Mm → Prop
  rt : D → Mm → Prop
  bk : DSt → Mm → Prop := fun _ _ => False
  ct : DSt → Mm → Prop := fun _ _ => False
abbrev DS := DEnds → DSt → Mm → Prop
/-- what is neither known nor a cell of M stays as it is, and is not known behind -/
def Fr (Hm : Hp) (M : Mm) (H : Hp) (Hm' : Hp) (M' : Mm) (H' : Hp) : Prop := ∀ a o, Hm a = none → M a = none → H a = some o → H' a = some o ∧ M' a = none ∧ Hm' a = none
theorem Fr.refl (Hm : Hp) (M : Mm) (H : Hp) : Fr Hm M H Hm M H := fun _ _ g h e => ⟨e, h, g⟩
theorem Fr.trans {Hm Hm1 Hm2 : Hp} {M M1 M2 : Mm} {H H1 H2 : Hp} (a : Fr Hm M H Hm1 M1 H1) (b : Fr Hm1 M1 H1 Hm2 M2 H2) : Fr Hm M H Hm2 M2 H2 := fun x o g h e =>
  let ⟨e1, h1, g1⟩ := a x o g h e
  b x o g1 h1 e1
theorem Fr.new {Hm : Hp} {M : Mm} {H : Hp} {p : Addr} {o : HO} (h : H p = none) : Fr Hm M H (upd Hm p o) M (upd H p o) := fun x u g hx e => by
  have z := ne_of_none e h
  exact ⟨by rw [upd_ne z]; exact e, hx, by rw [upd_ne z]; exact g⟩
/-- a thing that is not known -/
theorem Fr.new' {Hm : Hp} {M : Mm} {H : Hp} {p : Addr} {o : HO} (h : H p = none) : Fr Hm M H Hm M (upd H p o) := fun x u g hx e => by
  have z := ne_of_none e h
  exact ⟨by rw [upd_ne z]; exact e, hx, g⟩
theorem Fr.newM {Hm : Hp} {M : Mm} {H : Hp} {p : Addr} {o : HO} {m : MO} (h : H p = none) : Fr Hm M H Hm (mput M p m) (upd H p o) := fun x u g hx e => by
  have z := ne_of_none e h
  exact ⟨by rw [upd_ne z]; exact e, by rw [mput_ne z]; exact hx, g⟩
theorem Fr.put {Hm : Hp} {M : Mm} {H : Hp} {p : Addr} {o : HO} {m m' : MO} (h : M p = some m) : Fr Hm M H Hm (mput M p m') (upd H p o) := fun x u g hx e => by
  have z : x ≠ p := by rintro rfl; rw [h] at hx; cases hx
  exact ⟨by rw [upd_ne z]; exact e, by rw [mput_ne z]; exact hx, g⟩
theorem Fr.freeze {Hm : Hp} {M : Mm} {H : Hp} {p : Addr} {o : HO} {m : MO} (h : M p = some m) : Fr Hm M H (upd Hm p o) (mdel M p) H := fun x u g hx e => by
  have z : x ≠ p := by rintro rfl; rw [h] at hx; cases hx
  exact ⟨e, by rw [mdel_ne z]; exact hx, by rw [upd_ne z]; exact g⟩
theorem Fr.sub {Hm Hm' : Hp} {M M' M2 : Mm} {H H' : Hp} (a : Fr Hm M H Hm' M' H') (h : ∀ x m, M2 x = some m → M' x = some m) : Fr Hm M H Hm' M2 H' := fun x o g hx e => by
  obtain ⟨e1, h1, g1⟩ := a x o g hx e
  refine ⟨e1, ?_, g1⟩
  cases q : M2 x with
  | none => rfl
  | some m => rw [h x m q] at h1; cases h1
theorem Fr.more {Hm : Hp} {M : Mm} {H H' : Hp} (e : Ex H H') : Fr Hm M H Hm M H' := fun x o g hx q => ⟨e x o q, hx, g⟩
section
variable (K : PySem.W.Frag)
def PostE (Hm : Hp) (M : Mm) (H : Hp) (P : D → Mm → Prop) (Q : VK) : Prop := ∀ d M' Hm' H' v, Ex Hm Hm' → Fr Hm M H Hm' M' H' → Cfg K Hm' M' H' → Rep K Hm' d v → P d M' → Q v H'
def PostT (Hm : Hp) (M : Mm) (H : Hp) (P : Bool → Mm → Prop) (Q : Bool → Hp → Prop) : Prop := ∀ b M' Hm' H', Ex Hm Hm' → Fr Hm M H Hm' M' H' → Cfg K Hm' M' H' → P b M' → Q b H'
def PostA (Hm : Hp) (M : Mm) (H : Hp) (P : List D → Mm → Prop) (Q : List V → Hp → Prop) : Prop := ∀ ds M' Hm' H' vs, Ex Hm Hm' → Fr Hm M H Hm' M' H' → Cfg K Hm' M' H' → RepL K Hm' ds vs → P ds M' → Q vs H'
def PostN (Hm : Hp) (M : Mm) (H : Hp) (P : DSt → Mm → Prop) (Q : L2.St → Hp → Prop) : Prop := ∀ s M' Hm' H' σ, Ex Hm Hm' → Fr Hm M H Hm' M' H' → Cfg K Hm' M' H' → Sl K Hm' s σ → P s M' → Q σ H'
structure PostS (Hm : Hp) (M : Mm) (H : Hp) (P : DEnds) (Q : Ends) : Prop where
  nx : PostN K Hm M H P.nx Q.nx
  rt : PostE K Hm M H P.rt Q.rt
  bk : PostN K Hm M H P.bk Q.bk
  ct : PostN K Hm M H P.ct Q.ct
def LE (te : TE) (de : DE) : Prop := ∀ Hm M s σ H Q P, Cfg K Hm M H → Sl K Hm s σ → de s M P → PostE K Hm M H P Q → te σ H Q
def LT (tt : TT) (dt : DT) : Prop := ∀ Hm M s σ H Q P, Cfg K Hm M H → Sl K Hm s σ → dt s M P → PostT K Hm M H P Q → tt σ H Q
def LA (ta : TA) (da : DA) : Prop := ∀ Hm M s σ H Q P, Cfg K Hm M H → Sl K Hm s σ → da s M P → PostA K Hm M H P Q → ta σ H Q
def LS (ts : TS) (ds : DS) : Prop := ∀ Hm M s σ H Q P, Cfg K Hm M H → Sl K Hm s σ → ds P s M → PostS K Hm M H P Q → ts Q σ H
end
section
variable {K : PySem.W.Frag} {Hm Hm' H H' : Hp} {M M' : Mm}
theorem PostE.mono {P : D → Mm → Prop} {Q : VK} (h : PostE K Hm M H P Q) (e : Ex Hm Hm') (f : Fr Hm M H Hm' M' H') : PostE K Hm' M' H' P Q := fun d M2 H1 H2 v a b => h d M2 H1 H2 v (e.trans a) (f.trans b)
theorem PostT.mono {P : Bool → Mm → Prop} {Q : Bool → Hp → Prop} (h : PostT K Hm M H P Q) (e : Ex Hm Hm') (f : Fr Hm M H Hm' M' H') : PostT K Hm' M' H' P Q := fun d M2 H1 H2 a b => h d M2 H1 H2 (e.trans a) (f.trans b)
theorem PostA.mono {P : List D → Mm → Prop} {Q : List V → Hp → Prop} (h : PostA K Hm M H P Q) (e : Ex Hm Hm') (f : Fr Hm M H Hm' M' H') : PostA K Hm' M' H' P Q := fun d M2 H1 H2 v a b => h d M2 H1 H2 v (e.trans a) (f.trans b)
theorem PostN.mono {P : DSt → Mm → Prop} {Q : L2.St → Hp → Prop} (h : PostN K Hm M H P Q) (e : Ex Hm Hm') (f : Fr Hm M H Hm' M' H') : PostN K Hm' M' H' P Q := fun d M2 H1 H2 v a b => h d M2 H1 H2 v (e.trans a) (f.trans b)
theorem PostS.mono {P : DEnds} {Q : Ends} (h : PostS K Hm M H P Q) (e : Ex Hm Hm') (f : Fr Hm M H Hm' M' H') : PostS K Hm' M' H' P Q := ⟨h.nx.mono e f, h.rt.mono e f, h.bk.mono e f, h.ct.mono e f⟩
end
/-- expression, test, arguments, statement, block -/
def JE (X : Cx) (e : Expr) (d : DE) : Prop := ∃ t, PE X e t ∧ LE X.K t d
def JT (X : Cx) (e : Expr) (d : DT) : Prop := ∃ t, PT X e t ∧ LT X.K t d
def JA (X : Cx) (es : List Expr) (d : DA) : Prop := ∃ t, PA X es t ∧ LA X.K t d
def JS (X : Cx) (st : Stmt) (d : DS) : Prop := ∃ t, PS X st t ∧ LS X.K t d
def JSs (X : Cx) (sts : List Stmt) (d : DS) : Prop := ∃ t, PSs X sts t ∧ LS X.K t d
end HD

namespace HD
open PySem PySem.Spec PyProof.Rows L2
variable {X : Cx} {K : PySem.W.Frag}
/-! ### names and constants -/
def dVar (i : Nat) : DE := fun s M P => ∃ d, s[i]? = some (some d) ∧ P d M
def dC (d : D) : DE := fun _ M P => P d M
theorem le_var (i : Nat) : LE K (tVar i) (dVar i) := fun Hm M s σ H Q P c hs ⟨d, e, h⟩ q => by
  obtain ⟨v, h1, h2⟩ := hs.get e
  exact ⟨v, h1, q d M Hm H v (Ex.refl _) (Fr.refl _ _ _) c h2 h⟩
theorem le_c {d : D} {v : V} (h : ∀ Hm, Rep K Hm d v) : LE K (tC v) (dC d) := fun Hm M s σ H Q P c hs p q => q d M Hm H v (Ex.refl _) (Fr.refl _ _ _) c (h Hm) p
theorem jv (i : Nat) {x : Str} {pos : Pos} (hN : X.N[i]? = some x := by rfl) (hv : Vis X.env.scope x := by first | exact Or.inl rfl | exact Or.inr (Or.inl rfl) | exact Or.inr (Or.inr rfl)) (hd : (x == ("__debug__" : Str)) = false := by decide)
    (hcd : (x == ("__classdict__" : Str)) = false := by decide) : JE X (.Name x pos) (dVar i) := ⟨_, pe_var hN hv hd hcd, le_var i⟩
theorem j_int {i : Int} {j pos} : JE X (.Constant (.int i) j pos) (dC (.int i)) := ⟨_, pe_int, le_c fun _ => by unfold Rep; rfl⟩
theorem j_bl {b : Bool} {j pos} : JE X (.Constant (.bool b) j pos) (dC (.bl b)) := ⟨_, pe_bl, le_c fun _ => by unfold Rep; rfl⟩
theorem j_non {j pos} : JE X (.Constant .none j pos) (dC .non) := ⟨_, pe_non, le_c fun _ => by unfold Rep; rfl⟩
theorem j_str {x : Str} {j pos} : JE X (.Constant (.str x) j pos) (dC (.str x)) := ⟨_, pe_str, le_c fun _ => by unfold Rep; rfl⟩
theorem j_glob {x : Str} {d : D} {v : V} {pos : Pos} (hg : Gl X x) (hm : ∃ u, X.mg x = some u ∧ RelV v u) (hd : (x == ("__debug__" : Str)) = false) (h : ∀ Hm, Rep X.K Hm d v) : JE X (.Name x pos) (dC d) :=
  let ⟨_, hm, r⟩ := hm
  ⟨_, pe_glob hg hm r hd, le_c h⟩
theorem j_bltn {x : Str} {d : D} {v : V} {u : Value} {pos : Pos} (hg : Gl X x) (hm : X.mg x = none) (hv : bootBuiltins x = some u) (r : RelV v u) (hn : x ≠ "__name__") (hd : (x == ("__debug__" : Str)) = false) (h : ∀ Hm, Rep X.K Hm d v) : JE X (.Name x pos) (dC d) :=
  ⟨_, pe_bltn hg hm hv r hn hd, le_c h⟩

/-! ### two-place operations -/
abbrev F2 := Mm → D → D → (D → Prop) → Prop
def LR2 (K : PySem.W.Frag) (r : R2) (f : F2) : Prop := ∀ Hm M H dx dy x y (P : D → Prop) (Q : VK), Cfg K Hm M H → Rep K Hm dx x → Rep K Hm dy y → f M dx dy P →
  (∀ d Hm' H' v, Ex Hm Hm' → Fr Hm M H Hm' M H' → Cfg K Hm' M H' → Rep K Hm' d v → P d → Q v H') → r x y H Q
def dBin (f : F2) (da db : DE) : DE := fun s M P => da s M fun x M1 => db s M1 fun y M2 => f M2 x y fun z => P z M2
theorem le_op {r : R2} {f : F2} {ta tb : TE} {da db : DE} (hr : LR2 K r f) (ha : LE K ta da) (hb : LE K tb db) : LE K (tOp r ta tb) (dBin f da db) := fun Hm M s σ H Q P c hs p q => by
  refine ha Hm M s σ H _ _ c hs p fun x M1 H1 h1 v e1 f1 c1 r1 p1 => ?_
  refine hb H1 M1 s σ h1 _ _ c1 (hs.mono e1) p1 fun y M2 H2 h2 u e2 f2 c2 r2 p2 => ?_
  exact hr H2 M2 h2 x y v u _ Q c2 (Rep.mono e2 _ _ r1) r2 p2 fun d H3 h3 z e3 f3 c3 r3 p3 => q d M2 H3 h3 z ((e1.trans e2).trans e3) ((f1.trans f2).trans f3) c3 r3 p3
theorem LR2.or {r r' : R2} {f : F2} {g : F2} {h : F2} (a : LR2 K r f) (b : LR2 K r' g) (hh : ∀ M x y P, h M x y P → f M x y P ∨ g M x y P) : LR2 K (fun x y H Q => r x y H Q ∨ r' x y H Q) h := fun Hm M H dx dy x y P Q c rx ry p q => by
  rcases hh M dx dy P p with z | z
  · exact .inl (a Hm M H dx dy x y P Q c rx ry z q)
  · exact .inr (b Hm M H dx dy x y P Q c rx ry z q)
/-- the list that is read: known, or a cell -/
def seqL (M : Mm) : D → Option (List D)
  | .lst ds => some ds
  | .scr ns => some (ns.map D.int)
  | .ref a => (match M a with | some (.lst ds) => some ds | _ => none)
  | _ => none
theorem seqL_at {Hm : Hp} {M : Mm} {H : Hp} {d : D} {v : V} {ds : List D} (c : Cfg K Hm M H) (r : Rep K Hm d v) (h : seqL M d = some ds) : ∃ a vs, v = .ref a ∧ SqL K H a vs ∧ RepL K Hm ds vs := by
  cases d with
  | lst es =>
    unfold Rep at r
    obtain ⟨a, vs, r1, r2, r3⟩ := r
    cases h
    exact ⟨a, vs, r1, .inl (.inl (c.ex _ _ r2)), r3⟩
  | scr ns =>
    unfold Rep at r
    obtain ⟨a, r1, r2⟩ := r
    cases h
    exact ⟨a, _, r1, ex_l c.ex r2, RepL.of_ints ns⟩
  | ref a =>
    unfold Rep at r
    unfold seqL at h
    cases e : M a with
    | none => simp [e] at h
    | some m =>
      cases m with
      | lst es =>
        simp [e] at h
        subst h
        obtain ⟨_, o, h2, vs, rfl, h3⟩ := c.mu a _ e
        exact ⟨a, vs, r, .inl (.inl h2), h3⟩
      | dic _ _ => simp [e] at h
      | ins _ _ _ => simp [e] at h
  | _ => cases h
/-- a tracked one -/
theorem lst_at {Hm : Hp} {M : Mm} {H : Hp} {v : V} {ds : List D} (c : Cfg K Hm M H) (r : Rep K Hm (.lst ds) v) : ∃ a vs, v = .ref a ∧ H a = some (.lst vs) ∧ RepL K Hm ds vs := by
  unfold Rep at r
  obtain ⟨a, vs, r1, r2, r3⟩ := r
  exact ⟨a, vs, r1, c.ex _ _ r2, r3⟩
theorem tup_at {Hm : Hp} {M : Mm} {H : Hp} {v : V} {ds : List D} (c : Cfg K Hm M H) (r : Rep K Hm (.tup ds) v) : ∃ a vs, v = .ref a ∧ SqT K H a vs ∧ RepL K Hm ds vs := by
  unfold Rep at r
  obtain ⟨a, vs, r1, r2, r3⟩ := r
  exact ⟨a, vs, r1, ex_t c.ex r2, r3⟩
section
variable {Hm : Hp} {v : V}
theorem rep_int {i : Int} (r : Rep K Hm (.int i) v) : v = .int i := by unfold Rep at r; exact r
theorem rep_bl {i : Bool} (r : Rep K Hm (.bl i) v) : v = .bl i := by unfold Rep at r; exact r
theorem rep_str {i : Str} (r : Rep K Hm (.str i) v) : v = .str i := by unfold Rep at r; exact r
theorem rep_non (r : Rep K Hm .non v) : v = .non := by unfold Rep at r; exact r
theorem of_int (i : Int) : Rep K Hm (.int i) (.int i) := by unfold Rep; rfl
theorem of_bl (i : Bool) : Rep K Hm (.bl i) (.bl i) := by unfold Rep; rfl
theorem of_str (i : Str) : Rep K Hm (.str i) (.str i) := by unfold Rep; rfl
theorem of_non : Rep K Hm .non .non := by unfold Rep; rfl
theorem of_ref (a : Addr) : Rep K Hm (.ref a) (.ref a) := by unfold Rep; rfl
end
/-- a rule on two ints -/
def fII (C : Int → Int → Prop) (g : Int → Int → D) : F2 := fun _ x y P => match x, y with
  | .int i, .int j => C i j ∧ P (g i j)
  | _, _ => False
theorem lr_I {C : Int → Int → Prop} {g : Int → Int → V} {g' : Int → Int → D} (hg : ∀ i j Hm, Rep K Hm (g' i j) (g i j)) : LR2 K (rI C g) (fII C g') := fun Hm M H dx dy x y P Q c rx ry p q => by
  cases dx <;> first | (exact p.elim; done) | skip
  cases dy <;> first | (exact p.elim; done) | skip
  rename_i i j
  rw [rep_int rx, rep_int ry]
  exact ⟨i, j, rfl, rfl, p.1, q _ Hm H _ (Ex.refl _) (Fr.refl _ _ _) c (hg i j Hm) p.2⟩
theorem lr_I0 {g : Int → Int → V} {g' : Int → Int → D} (hg : ∀ i j Hm, Rep K Hm (g' i j) (g i j)) : LR2 K (rI0 g) (fII (fun _ _ => True) g') := fun Hm M H dx dy x y P Q c rx ry p q => by
  cases dx <;> first | (exact p.elim; done) | skip
  cases dy <;> first | (exact p.elim; done) | skip
  rename_i i j
  rw [rep_int rx, rep_int ry]
  exact ⟨i, j, rfl, rfl, q _ Hm H _ (Ex.refl _) (Fr.refl _ _ _) c (hg i j Hm) p.2⟩
/-- a + b -/
def plusD : F2 := fun M x y P => match x, y with
  | .int i, .int j => P (.int (i + j))
  | .str a, .str b => a.length + b.length ≤ sizeLine ∧ P (.str (a ++ b))
  | .tup a, .tup b => a.length + b.length ≤ sizeLine ∧ P (.tup (a ++ b))
  | .lst a, .lst b => a.length + b.length ≤ sizeLine ∧ P (.lst (a ++ b))
  | _, _ => False
def rPlus (K : PySem.W.Frag) : R2 := fun x y H Q => (∃ i j, x = .int i ∧ y = .int j ∧ Q (.int (i + j)) H) ∨ ((∃ i j, x = .str i ∧ y = .str j ∧ i.length + j.length ≤ sizeLine ∧ Q (.str (i ++ j)) H) ∨ (rCatA K x y H Q ∨ rCat x y H Q))
theorem op_plus : OpR X (binaryOp .Add) (rPlus X.K) := op_add.or (op_add_str.or (op_catA.or op_cat))
theorem lr_plus : LR2 K (rPlus K) plusD := fun Hm M H dx dy x y P Q c rx ry p q => by
  cases dx <;> first | (exact p.elim; done) | skip
  · cases dy <;> first | (exact p.elim; done) | skip
    rw [rep_int rx, rep_int ry]
    exact .inl ⟨_, _, rfl, rfl, q _ Hm H _ (Ex.refl _) (Fr.refl _ _ _) c (of_int _) p⟩
  · cases dy <;> first | (exact p.elim; done) | skip
    rw [rep_str rx, rep_str ry]
    exact .inr (.inl ⟨_, _, rfl, rfl, p.1, q _ Hm H _ (Ex.refl _) (Fr.refl _ _ _) c (of_str _) p.2⟩)
  · cases dy <;> first | (exact p.elim; done) | skip
    obtain ⟨a, vs, rfl, h1, r1⟩ := lst_at c rx
    obtain ⟨b, ws, rfl, h2, r2⟩ := lst_at c ry
    refine .inr (.inr (.inr ⟨a, b, vs, ws, rfl, rfl, h1, h2, by rw [r1.len, r2.len]; exact p.1, fun z hz => ?_⟩))
    obtain ⟨e, c'⟩ := c.new (o := .lst (vs ++ ws)) hz
    exact q _ _ _ _ e (Fr.new hz) c' (Rep.lst' upd_same ((RepL.append r1 r2).mono e)) p.2
  · cases dy <;> first | (exact p.elim; done) | skip
    obtain ⟨a, vs, rfl, h1, r1⟩ := tup_at c rx
    obtain ⟨b, ws, rfl, h2, r2⟩ := tup_at c ry
    rename_i xs ys
    refine .inr (.inr (.inl ?_))
    unfold rCatA
    refine ⟨a, b, vs, ws, rfl, rfl, h1, h2, by rw [r1.len, r2.len]; exact p.1, fun hv => ?_, fun hv hw => ?_, fun hv hw z hz => ?_⟩
    · have e0 : xs = [] := List.eq_nil_of_length_eq_zero (by rw [← r1.len, hv]; rfl)
      subst e0
      exact q _ Hm H _ (Ex.refl _) (Fr.refl _ _ _) c ry p.2
    · have e0 : ys = [] := List.eq_nil_of_length_eq_zero (by rw [← r2.len, hw]; rfl)
      subst e0
      have p2 := p.2
      rw [List.append_nil] at p2
      exact q _ Hm H _ (Ex.refl _) (Fr.refl _ _ _) c rx p2
    · obtain ⟨e, c'⟩ := c.new (o := .tup (vs ++ ws)) hz
      exact q _ _ _ _ e (Fr.new hz) c' (Rep.tup' (.inl (.inl upd_same)) ((RepL.append r1 r2).mono e)) p.2

section
variable {a b c : Expr} {da db dc : DE} {pos : Pos}
theorem j_bin {op : Operator} {r : R2} {f : F2} (ho : OpR X (binaryOp op) r) (hr : LR2 X.K r f) (ha : JE X a da) (hb : JE X b db) : JE X (.BinOp a op b pos) (dBin f da db) :=
  let ⟨_, h1, l1⟩ := ha
  let ⟨_, h2, l2⟩ := hb
  ⟨_, pe_op ho h1 h2, le_op hr l1 l2⟩
theorem j_add (ha : JE X a da) (hb : JE X b db) : JE X (.BinOp a .Add b pos) (dBin plusD da db) := j_bin op_plus lr_plus ha hb
/-- a - b, a // b, a % b, a ** b of ints -/
abbrev minusD : F2 := fII (fun _ _ => True) fun i j => .int (i - j)
abbrev fdivD : F2 := fII CDiv fun i j => .int (i / j)
abbrev modD : F2 := fII (fun _ j => 0 < j) fun i j => .int (i % j)
abbrev powD : F2 := fII CPow fun i j => .int (i ^ j.toNat)
theorem j_sub (ha : JE X a da) (hb : JE X b db) : JE X (.BinOp a .Sub b pos) (dBin minusD da db) := j_bin op_sub (lr_I0 fun _ _ _ => of_int _) ha hb
theorem j_fdiv (ha : JE X a da) (hb : JE X b db) : JE X (.BinOp a .FloorDiv b pos) (dBin fdivD da db) := j_bin op_fdiv (lr_I fun _ _ _ => of_int _) ha hb
theorem j_mod (ha : JE X a da) (hb : JE X b db) : JE X (.BinOp a .Mod b pos) (dBin modD da db) := j_bin op_mod (lr_I fun _ _ _ => of_int _) ha hb
theorem j_pow (ha : JE X a da) (hb : JE X b db) : JE X (.BinOp a .Pow b pos) (dBin powD da db) := j_bin op_pow (lr_I fun _ _ _ => of_int _) ha hb
/-- a * b: ints, a list so often -/
def mulD : F2 := fun _ x y P => match x, y with
  | .int i, .int j => CMul i j ∧ P (.int (i * j))
  | .lst xs, .int k => 0 ≤ k ∧ k < 2 ^ 62 ∧ xs.length * k.toNat ≤ sizeLine ∧ P (.lst (List.replicate k.toNat xs).flatten)
  | _, _ => False
theorem RepL.rep {Hm : Hp} {ds : List D} {vs : List V} (h : RepL K Hm ds vs) : ∀ n : Nat, RepL K Hm (List.replicate n ds).flatten (List.replicate n vs).flatten
  | 0 => RepL.nil
  | n + 1 => by
    rw [List.replicate_succ, List.replicate_succ, List.flatten_cons, List.flatten_cons]
    exact RepL.append h (RepL.rep h n)
def rMulA : R2 := fun x y H Q => rI CMul (fun i j => .int (i * j)) x y H Q ∨ rRep x y H Q
theorem op_mulA : OpR X (binaryOp .Mult) rMulA := op_mul.or op_rep
theorem lr_mul : LR2 K rMulA mulD := fun Hm M H dx dy x y P Q c rx ry p q => by
  cases dx <;> first | (exact p.elim; done) | skip
  · cases dy <;> first | (exact p.elim; done) | skip
    rw [rep_int rx, rep_int ry]
    exact .inl ⟨_, _, rfl, rfl, p.1, q _ Hm H _ (Ex.refl _) (Fr.refl _ _ _) c (of_int _) p.2⟩
  · cases dy <;> first | (exact p.elim; done) | skip
    obtain ⟨a, vs, rfl, h1, r1⟩ := lst_at c rx
    rename_i xs k
    rw [rep_int ry]
    obtain ⟨k0, k1, k2, p⟩ := p
    refine .inr ⟨a, k, vs, rfl, rfl, h1, by omega, by omega, by rw [r1.len]; exact k2, fun z hz => ?_⟩
    obtain ⟨e, c'⟩ := c.new (o := .lst (List.replicate k.toNat vs).flatten) hz
    exact q _ _ _ _ e (Fr.new hz) c' (Rep.lst' upd_same ((RepL.rep r1 _).mono e)) p
theorem j_mul (ha : JE X a da) (hb : JE X b db) : JE X (.BinOp a .Mult b pos) (dBin mulD da db) := j_bin op_mulA lr_mul ha hb
end
/-! ### comparisons -/
mutual
/-- data as the library's == and repr know it -/
def toPy : D → Option PyData
  | .non => some .none
  | .bl b => some (.bool b)
  | .int i => some (.int i)
  | .str x => some (.str x)
  | .lst xs => (toPyL xs).map .list
  | .tup xs => (toPyL xs).map .tuple
  | .ty _ => none
  | .ref _ => none
  | .dic _ _ => none
  | .ins _ _ _ => none
  | .scr _ => none
def toPyL : List D → Option (List PyData)
  | [] => some []
  | d :: ds => (toPy d).bind fun p => (toPyL ds).map (p :: ·)
end
mutual
theorem dp_of {Hm H : Hp} (e : Ex Hm H) : ∀ {d : D} {v : V} {p : PyData}, toPy d = some p → Rep K Hm d v → Dp K H v p
  | .non, v, p, h, r => by
    cases h
    rw [rep_non r]
    exact .non
  | .bl b, v, p, h, r => by
    cases h
    rw [rep_bl r]
    exact .bl b
  | .int b, v, p, h, r => by
    cases h
    rw [rep_int r]
    exact .int b
  | .str b, v, p, h, r => by
    cases h
    rw [rep_str r]
    exact .str b
  | .lst ds, v, p, h, r => by
    unfold toPy at h
    obtain ⟨ps, h1, rfl⟩ := Option.map_eq_some_iff.mp h
    unfold Rep at r
    obtain ⟨a, vs, rfl, r2, r3⟩ := r
    exact .lst (.inl (.inl (e _ _ r2))) (dps_of e h1 r3)
  | .tup ds, v, p, h, r => by
    unfold toPy at h
    obtain ⟨ps, h1, rfl⟩ := Option.map_eq_some_iff.mp h
    unfold Rep at r
    obtain ⟨a, vs, rfl, r2, r3⟩ := r
    exact .tup (ex_t e r2) (dps_of e h1 r3)
  | .ty _, _, _, h, _ => by cases h
  | .ref _, _, _, h, _ => by cases h
  | .dic _ _, _, _, h, _ => by cases h
  | .ins _ _ _, _, _, h, _ => by cases h
  | .scr _, _, _, h, _ => by cases h
theorem dps_of {Hm H : Hp} (e : Ex Hm H) : ∀ {ds : List D} {vs : List V} {ps : List PyData}, toPyL ds = some ps → RepL K Hm ds vs → DpAll K H vs ps
  | [], vs, ps, h, r => by
    cases h
    unfold RepL at r
    subst r
    exact .nil
  | d :: ds, vs, ps, h, r => by
    unfold toPyL at h
    obtain ⟨p, h1, h2⟩ := Option.bind_eq_some_iff.mp h
    obtain ⟨qs, h3, rfl⟩ := Option.map_eq_some_iff.mp h2
    unfold RepL at r
    obtain ⟨v, ws, rfl, r1, r2⟩ := r
    exact .cons (dp_of e h1 r1) (dps_of e h3 r2)
end
/-- a == b, a != b: data, two texts of any sort -/
def eqD (neg : Bool) : F2 := fun _ x y P => (∃ p q, toPy x = some p ∧ toPy y = some q ∧ SeqAt.shaped p = true ∧ SeqAt.shaped q = true ∧ P (.bl (if neg then !PyData.eqv p q else PyData.eqv p q))) ∨
  ∃ a b, x = .str a ∧ y = .str b ∧ P (.bl (if neg then !(a == b) else a == b))
theorem lr_eq : LR2 K (fun x y H Q => rEqD K x y H Q ∨ rEq x y H Q) (eqD false) := fun Hm M H dx dy x y P Q c rx ry p k => by
  rcases p with ⟨p, q, h1, h2, h3, h4, h5⟩ | ⟨a, b, rfl, rfl, h5⟩
  · exact .inl ⟨p, q, dp_of c.ex h1 rx, dp_of c.ex h2 ry, h3, h4, k _ Hm H _ (Ex.refl _) (Fr.refl _ _ _) c (of_bl _) h5⟩
  · have ex : x = .str a := by unfold Rep at rx; exact rx
    have ey : y = .str b := by unfold Rep at ry; exact ry
    subst ex ey
    refine .inr ⟨rfl, ?_⟩
    rw [dec_str]
    exact k _ Hm H _ (Ex.refl _) (Fr.refl _ _ _) c (of_bl _) h5
theorem lr_ne : LR2 K (fun x y H Q => rNeD K x y H Q ∨ rNe x y H Q) (eqD true) := fun Hm M H dx dy x y P Q c rx ry p k => by
  rcases p with ⟨p, q, h1, h2, h3, h4, h5⟩ | ⟨a, b, rfl, rfl, h5⟩
  · exact .inl ⟨p, q, dp_of c.ex h1 rx, dp_of c.ex h2 ry, h3, h4, k _ Hm H _ (Ex.refl _) (Fr.refl _ _ _) c (of_bl _) h5⟩
  · have ex : x = .str a := by unfold Rep at rx; exact rx
    have ey : y = .str b := by unfold Rep at ry; exact ry
    subst ex ey
    refine .inr ⟨rfl, ?_⟩
    rw [dec_str]
    exact k _ Hm H _ (Ex.refl _) (Fr.refl _ _ _) c (of_bl _) h5
/-- the order of ints and texts -/
def ltS (x y : Str) : Bool := decide (x.cps.toList < y.cps.toList)
def ordD (fi : Int → Int → Bool) (fs : Str → Str → Bool) : F2 := fun _ x y P => match x, y with
  | .int i, .int j => P (.bl (fi i j))
  | .str i, .str j => P (.bl (fs i j))
  | _, _ => False
theorem lr_ord {fi : Int → Int → Bool} {fs : Str → Str → Bool} : LR2 K (fun x y H Q => rI0 (fun i j => .bl (fi i j)) x y H Q ∨ ∃ i j, x = .str i ∧ y = .str j ∧ Q (.bl (fs i j)) H) (ordD fi fs) := fun Hm M H dx dy x y P Q c rx ry p q => by
  cases dx <;> first | (exact p.elim; done) | skip
  · cases dy <;> first | (exact p.elim; done) | skip
    rw [rep_int rx, rep_int ry]
    exact .inl ⟨_, _, rfl, rfl, q _ Hm H _ (Ex.refl _) (Fr.refl _ _ _) c (of_bl _) p⟩
  · cases dy <;> first | (exact p.elim; done) | skip
    rw [rep_str rx, rep_str ry]
    exact .inr ⟨_, _, rfl, rfl, q _ Hm H _ (Ex.refl _) (Fr.refl _ _ _) c (of_bl _) p⟩
abbrev ltD : F2 := ordD (fun i j => decide (i < j)) ltS
abbrev leD : F2 := ordD (fun i j => decide (i ≤ j)) fun x y => !ltS y x
abbrev gtD : F2 := ordD (fun i j => decide (j < i)) fun x y => ltS y x
abbrev geD : F2 := ordD (fun i j => decide (j ≤ i)) fun x y => !ltS x y
/-- is None, is True -/
def isNon : D → Bool
  | .non => true
  | _ => false
theorem rep_isNon {Hm : Hp} {d : D} {v : V} (r : Rep K Hm d v) : decide (v = .non) = isNon d := by
  cases d <;> (unfold Rep at r) <;> first | (subst r; rfl; done) | (obtain ⟨a, vs, rfl, _⟩ := r; rfl; done) | (obtain ⟨a, rfl, _⟩ := r; rfl) | (obtain ⟨a, dx, vs, rfl, _⟩ := r; rfl)
def isD (neg : Bool) : F2 := fun _ x y P => match y with
  | .non => P (.bl (if neg then !isNon x else isNon x))
  | .bl b => (match x with | .bl a => P (.bl (if neg then !decide (a = b) else decide (a = b))) | _ => False)
  | _ => False
theorem lr_is : LR2 K (fun x y H Q => (y = .non ∧ Q (.bl (decide (x = .non))) H) ∨ rIsB x y H Q) (isD false) := fun Hm M H dx dy x y P Q c rx ry p q => by
  cases dy <;> first | (exact p.elim; done) | skip
  · refine .inl ⟨rep_non ry, ?_⟩
    rw [rep_isNon rx]
    exact q _ Hm H _ (Ex.refl _) (Fr.refl _ _ _) c (of_bl _) p
  · cases dx <;> first | (exact p.elim; done) | skip
    exact .inr ⟨_, _, rep_bl rx, rep_bl ry, q _ Hm H _ (Ex.refl _) (Fr.refl _ _ _) c (of_bl _) p⟩
theorem lr_isn : LR2 K (fun x y H Q => (y = .non ∧ Q (.bl (!decide (x = .non))) H) ∨ rNotB x y H Q) (isD true) := fun Hm M H dx dy x y P Q c rx ry p q => by
  cases dy <;> first | (exact p.elim; done) | skip
  · refine .inl ⟨rep_non ry, ?_⟩
    rw [rep_isNon rx]
    exact q _ Hm H _ (Ex.refl _) (Fr.refl _ _ _) c (of_bl _) p
  · cases dx <;> first | (exact p.elim; done) | skip
    exact .inr ⟨_, _, rep_bl rx, rep_bl ry, q _ Hm H _ (Ex.refl _) (Fr.refl _ _ _) c (of_bl _) p⟩
/-- x in ys: flat things in a list or tuple, a key in a dict, a text in a text -/
def flatD : D → Bool
  | .non | .bl _ | .int _ | .str _ => true
  | _ => false
def toV : D → V
  | .bl b => .bl b
  | .int i => .int i
  | .str x => .str x
  | _ => .non
theorem rep_flat {Hm : Hp} {d : D} {v : V} (r : Rep K Hm d v) (h : flatD d = true) : v = toV d ∧ flatV v = true := by
  cases d <;> first | (cases h; done) | skip
  · rw [rep_non r]; exact ⟨rfl, rfl⟩
  · rw [rep_bl r]; exact ⟨rfl, rfl⟩
  · rw [rep_int r]; exact ⟨rfl, rfl⟩
  · rw [rep_str r]; exact ⟨rfl, rfl⟩
theorem reps_flat {Hm : Hp} : ∀ {ds : List D} {vs : List V}, RepL K Hm ds vs → ds.all flatD = true → vs = ds.map toV ∧ vs.all flatV = true
  | [], vs, r, _ => by unfold RepL at r; subst r; exact ⟨rfl, rfl⟩
  | d :: ds, vs, r, h => by
    unfold RepL at r
    obtain ⟨v, ws, rfl, r1, r2⟩ := r
    simp only [List.all_cons, Bool.and_eq_true] at h
    obtain ⟨h1, h2⟩ := rep_flat r1 h.1
    obtain ⟨h3, h4⟩ := reps_flat r2 h.2
    subst h1
    subst h3
    exact ⟨rfl, by simp only [List.all_cons, h2, h4, Bool.and_self]⟩
def keyD : D → Option Key
  | .int i => some (.inl i)
  | .str x => some (.inr x)
  | _ => none
theorem rep_key {Hm : Hp} {d : D} {v : V} {k : Key} (r : Rep K Hm d v) (h : keyD d = some k) : v = kV k := by
  cases d <;> first | (cases h; done) | skip
  · cases h; exact rep_int r
  · cases h; exact rep_str r
def memD (x : D) (ys : List D) : Bool := ys.any fun y => eqV (toV y) (toV x)
theorem memD_inV (x : D) (ys : List D) : inV (toV x) (ys.map toV) = memD x ys := by
  unfold inV memD
  rw [List.any_map]
  rfl
def hasK (ks : List Key) (k : Key) : Bool := ks.any fun j => decide (j = k)
theorem valV_zip {ds : List D} {vs : List V} {Hm : Hp} : ∀ {ks : List Key}, ks.length = ds.length → RepL K Hm ds vs → ∀ k, (valV (ks.zip vs) k).isSome = hasK ks k := by
  intro ks
  induction ks generalizing ds vs with
  | nil => intro _ _ k; rfl
  | cons k' ks ih =>
    intro hl r k
    cases ds with
    | nil => cases hl
    | cons d ds =>
      unfold RepL at r
      obtain ⟨v, ws, rfl, _, r2⟩ := r
      rw [List.zip_cons_cons]
      by_cases e : k' = k
      · subst e
        rw [valV_pos rfl]
        simp [hasK]
      · rw [valV_neg e, ih (by simpa using hl) r2 k]
        simp [hasK, e]
def inS (x y : Str) : Bool := !(Builtin.Str.occurrences y x 0 y.length 1).isEmpty
def inD (neg : Bool) : F2 := fun M x y P => match y with
  | .str z => (match x with | .str s => P (.bl (if neg then !inS s z else inS s z)) | _ => False)
  | .dic ks _ => ∃ k, keyD x = some k ∧ P (.bl (if neg then !hasK ks k else hasK ks k))
  | .tup ys => flatD x = true ∧ ys.all flatD = true ∧ P (.bl (if neg then !memD x ys else memD x ys))
  | y => ∃ ys, seqL M y = some ys ∧ flatD x = true ∧ ys.all flatD = true ∧ P (.bl (if neg then !memD x ys else memD x ys))
def rInA (K : PySem.W.Frag) (neg : Bool) : R2 := fun x y H Q => rIn K neg x y H Q ∨ ((∃ i j, x = .str i ∧ y = .str j ∧ Q (.bl (if neg then !inS i j else inS i j)) H) ∨ ∃ a o, y = .ref a ∧ DGet H a x o ∧ Q (.bl (if neg then !o.isSome else o.isSome)) H)
theorem op_inA (hu : X.A.units + 1 < cLine) : OpR X (compareOp .In) (rInA X.K false) := by
  refine op_in_seq.or (op_in_str.or ?_)
  intro pins s σ H x y v u Q I rx ry h
  obtain ⟨a, o, rfl, g, q⟩ := h
  cases ry
  exact d_in hu I g rx fun s' I' => ⟨.bl _, H, I', rfl, q⟩
theorem op_ninA (hu : X.A.units + 1 < cLine) : OpR X (compareOp .NotIn) (rInA X.K true) := by
  refine op_notIn_seq.or (op_notIn_str.or ?_)
  intro pins s σ H x y v u Q I rx ry h
  obtain ⟨a, o, rfl, g, q⟩ := h
  cases ry
  exact d_notIn hu I g rx fun s' I' => ⟨.bl _, H, I', rfl, q⟩
theorem lr_in {neg : Bool} : LR2 K (rInA K neg) (inD neg) := fun Hm M H dx dy x y P Q c rx ry p q => by
  have sq : ∀ ys, (∃ a vs, y = .ref a ∧ (SqL K H a vs ∨ SqT K H a vs) ∧ RepL K Hm ys vs) → flatD dx = true → ys.all flatD = true → P (.bl (if neg then !memD dx ys else memD dx ys)) → rInA K neg x y H Q := by
    rintro ys ⟨a, vs, rfl, hs, r⟩ h1 h2 hp
    obtain ⟨e1, f1⟩ := rep_flat rx h1
    obtain ⟨e2, f2⟩ := reps_flat r h2
    refine .inl ⟨a, vs, rfl, hs, f1, f2, ?_⟩
    rw [e1, e2, memD_inV]
    exact q _ Hm H _ (Ex.refl _) (Fr.refl _ _ _) c (of_bl _) hp
  unfold inD at p
  split at p
  · cases dx <;> first | (exact p.elim; done) | skip
    exact .inr (.inl ⟨_, _, rep_str rx, rep_str ry, q _ Hm H _ (Ex.refl _) (Fr.refl _ _ _) c (of_bl _) p⟩)
  · obtain ⟨k, hk, p⟩ := p
    unfold Rep at ry
    obtain ⟨a, vs, rfl, h1, h2, h3⟩ := ry
    refine .inr (.inr ⟨a, _, rfl, by rw [rep_key rx hk]; exact DGet.k (c.ex _ _ h1), ?_⟩)
    rw [valV_zip h2 h3]
    exact q _ Hm H _ (Ex.refl _) (Fr.refl _ _ _) c (of_bl _) p
  · obtain ⟨h1, h2, hp⟩ := p
    obtain ⟨a, vs, e, hs, r⟩ := tup_at c ry
    exact sq _ ⟨a, vs, e, .inr hs, r⟩ h1 h2 hp
  · obtain ⟨ys, hs, h1, h2, hp⟩ := p
    obtain ⟨a, vs, e, hs, r⟩ := seqL_at c ry hs
    exact sq _ ⟨a, vs, e, .inl hs, r⟩ h1 h2 hp
section
variable {a b c : Expr} {da db dc : DE} {pos : Pos}
theorem j_cmp {op : CmpOp} {r : R2} {f : F2} (ho : OpR X (compareOp op) r) (hr : LR2 X.K r f) (ha : JE X a da) (hb : JE X b db) (hm : behindInMarks op b = false) : JE X (.Compare a [op] [b] pos) (dBin f da db) :=
  let ⟨_, h1, l1⟩ := ha
  let ⟨_, h2, l2⟩ := hb
  ⟨_, pe_cmpR ho h1 h2 hm, le_op hr l1 l2⟩
theorem j_eq (hu : X.A.units + 64 < cLine) (ha : JE X a da) (hb : JE X b db) : JE X (.Compare a [.Eq] [b] pos) (dBin (eqD false) da db) := j_cmp ((op_eqD hu).or op_eq) lr_eq ha hb (nomark _)
theorem j_ne (hu : X.A.units + 64 < cLine) (ha : JE X a da) (hb : JE X b db) : JE X (.Compare a [.NotEq] [b] pos) (dBin (eqD true) da db) := j_cmp ((op_neD hu).or op_ne) lr_ne ha hb (nomark _)
theorem j_lt (ha : JE X a da) (hb : JE X b db) : JE X (.Compare a [.Lt] [b] pos) (dBin ltD da db) := j_cmp (op_lt.or op_lt_str) lr_ord ha hb (nomark _)
theorem j_le (ha : JE X a da) (hb : JE X b db) : JE X (.Compare a [.LtE] [b] pos) (dBin leD da db) := j_cmp (op_le.or op_le_str) lr_ord ha hb (nomark _)
theorem j_gt (ha : JE X a da) (hb : JE X b db) : JE X (.Compare a [.Gt] [b] pos) (dBin gtD da db) := j_cmp (op_gt.or op_gt_str) lr_ord ha hb (nomark _)
theorem j_ge (ha : JE X a da) (hb : JE X b db) : JE X (.Compare a [.GtE] [b] pos) (dBin geD da db) := j_cmp (op_ge.or op_ge_str) lr_ord ha hb (nomark _)
theorem j_is (ha : JE X a da) (hb : JE X b db) : JE X (.Compare a [.Is] [b] pos) (dBin (isD false) da db) := j_cmp (op_isN.or op_isBl) lr_is ha hb (nomark _)
theorem j_isn (ha : JE X a da) (hb : JE X b db) : JE X (.Compare a [.IsNot] [b] pos) (dBin (isD true) da db) := j_cmp (op_notN.or op_notBl) lr_isn ha hb (nomark _)
theorem j_in (hu : X.A.units + 1 < cLine) (ha : JE X a da) (hb : JE X b db) (hm : behindInMarks .In b = false := by rfl) : JE X (.Compare a [.In] [b] pos) (dBin (inD false) da db) := j_cmp (op_inA hu) lr_in ha hb hm
theorem j_nin (hu : X.A.units + 1 < cLine) (ha : JE X a da) (hb : JE X b db) (hm : behindInMarks .NotIn b = false := by rfl) : JE X (.Compare a [.NotIn] [b] pos) (dBin (inD true) da db) := j_cmp (op_ninA hu) lr_in ha hb hm
/-- a < b < c -/
def dChain (f g : F2) (da db dc : DE) : DE := fun s M P => da s M fun x M1 => db s M1 fun y M2 => f M2 x y fun z => ∃ k, z = .bl k ∧ if k = true then dc s M2 fun u M3 => g M3 y u fun z => P z M3 else P (.bl false) M2
theorem le_chain {r r' : R2} {f g : F2} {ta tb tc : TE} (hr : LR2 K r f) (hr' : LR2 K r' g) (ha : LE K ta da) (hb : LE K tb db) (hc : LE K tc dc) : LE K (tChain r r' ta tb tc) (dChain f g da db dc) := fun Hm M s σ H Q P c hs p q => by
  refine ha Hm M s σ H _ _ c hs p fun x M1 H1 h1 v e1 f1 c1 r1 p1 => ?_
  refine hb H1 M1 s σ h1 _ _ c1 (hs.mono e1) p1 fun y M2 H2 h2 u e2 f2 c2 r2 p2 => ?_
  refine hr H2 M2 h2 x y v u _ _ c2 (Rep.mono e2 _ _ r1) r2 p2 fun d H3 h3 z e3 f3 c3 r3 p3 => ?_
  obtain ⟨k, rfl, p3⟩ := p3
  refine ⟨k, rep_bl r3, ?_⟩
  cases k with
  | false => exact q _ M2 H3 h3 _ ((e1.trans e2).trans e3) ((f1.trans f2).trans f3) c3 (of_bl _) p3
  | true =>
    refine hc H3 M2 s σ h3 _ _ c3 (hs.mono ((e1.trans e2).trans e3)) p3 fun z M4 H4 h4 w e4 f4 c4 r4 p4 => ?_
    exact hr' H4 M4 h4 y z u w _ Q c4 (Rep.mono (e3.trans e4) _ _ r2) r4 p4 fun d H5 h5 z' e5 f5 c5 r5 p5 => q d M4 H5 h5 z' ((((e1.trans e2).trans e3).trans e4).trans e5) ((((f1.trans f2).trans f3).trans f4).trans f5) c5 r5 p5
theorem j_chain {op op' : CmpOp} {r r' : R2} {f g : F2} (ho : OpR X (compareOp op) r) (ho' : OpR X (compareOp op') r') (hr : LR2 X.K r f) (hr' : LR2 X.K r' g) (ha : JE X a da) (hb : JE X b db) (hc : JE X c dc) (hm : lastMarks [op, op'] [b, c] = false := by rfl) :
    JE X (.Compare a [op, op'] [b, c] pos) (dChain f g da db dc) :=
  let ⟨_, p1, l1⟩ := ha
  let ⟨_, p2, l2⟩ := hb
  let ⟨_, p3, l3⟩ := hc
  ⟨_, pe_chain ho ho' p1 p2 p3 hm, le_chain hr hr' l1 l2 l3⟩
end
end HD

namespace HD
open PySem PySem.Spec PyProof.Rows L2
/-! ### a def's promise where no repr is running -/
/-- room, and no guard -/
structure RmG (k : Nat) (A : Around) : Prop where
  rm : Room k A
  gd : A.guards = some []
theorem RmG.mono {j k : Nat} {A : Around} (r : RmG k A) (h : j ≤ k) : RmG j A := ⟨r.rm.mono h, r.gd⟩
theorem RmG.deeper {k : Nat} {A : Around} (r : RmG (k + 1) A) (env : Env) : RmG k (A.deeper env) := ⟨r.rm.deeper env, r.gd⟩
theorem RmG.in1 {k : Nat} {A : Around} (r : RmG (k + 1) A) : RmG k A.in1 := ⟨r.rm.in1, r.gd⟩
theorem RmG.make {k : Nat} {A : Around} (r : RmG (k + 1) A) (C : Addr) (us : List Value) (kw : List (Str × Value)) : RmG k (A.under (.builtin "type.__call__" ⟨.ref C :: us, kw⟩)) :=
  ⟨r.rm.make C us kw, r.gd⟩
section
variable {P : Program} {w : World} {K : PySem.W.Frag} {mg : Str → Option Value} {base : Heap}
/-- called with such arguments, it answers so (nothing is raised) -/
structure FnG (P : Program) (w : World) (K : PySem.W.Frag) (mg : Str → Option Value) (base : Heap) (k : Nat) (f : Addr) (fd : FuncData) (ps : List Str) (sp : Sp) : Prop where
  len : ∀ vs H Q, sp vs H Q E0 → vs.length = ps.length
  run : ∀ A outer s H args us vs Q, RmG k A → Env0 P w K mg base A outer s H → BindsTo s fd args (ps.zip us) → Vals vs us → sp vs H Q E0 →
    codeAny (model P w) A (.call (.ref f) args) (CR CX0 outer P w H s Q E0) s
theorem FnG.mono {j k : Nat} {f : Addr} {fd : FuncData} {ps : List Str} {sp : Sp} (F : FnG P w K mg base j f fd ps sp) (h : j ≤ k) : FnG P w K mg base k f fd ps sp :=
  ⟨F.len, fun A o s H args us vs Q r => F.run A o s H args us vs Q (r.mono h)⟩
/-- what a def's body is walked in -/
abbrev BodyG (P : Program) (w : World) (K : PySem.W.Frag) (mg : Str → Option Value) (base : Heap) (N : List Str) (qual : Str) (sc : Scope) (f : Addr) (k : Nat) (body : List Stmt) (sp : Sp) : Prop :=
  ∀ cd A outer s H vs Q, RmG k (Around.deeper A (envOfC qual sc (Shared.heap s).objs.size f cd)) → sp vs H Q E0 →
    ∃ t, PSs (cxOf CX0 P w K mg base N qual sc f cd A outer s H E0).nox body t ∧ t { nx := fun _ H' => Q .non H', rt := Q } (start N vs) H
theorem fnG_of {k : Nat} {f : Addr} {name qual : Str} {params : Arguments} {body : List Stmt} {sc : Scope} {dV kV doc pm cdv ct oc : Value} {an od : Option Addr} {osl : Array (Option Value)} {N ps : List Str} {sp : Sp}
    (lk : K.lookup f = some ⟨oc, od, .func (PySem.W.fnOf name qual params body sc dV kV doc pm an cdv ct), osl⟩) (hcd : PySem.W.codeIn K cdv qual = true) (S : FnScope N ps sc)
    (len : ∀ vs H Q, sp vs H Q E0 → vs.length = ps.length) (hb : BodyG P w K mg base N qual sc f k body sp) :
    FnG P w K mg base (k + 1) f (PySem.W.fnOf name qual params body sc dV kV doc pm an cdv ct) ps sp := by
  refine ⟨len, fun A outer s H args us vs Q hr e0 hbd r hsp => ?_⟩
  have key : ∀ y : Str × Value, y ∈ ps.zip us → sc.names.lookup y.1 = some .local ∨ (sc.names.lookup y.1 = some .cell ∧ ((cellsFrom (s.heap.objs.size + 1) sc.names []).lookup y.1).isSome = true) := by
    rintro ⟨n, v⟩ hy
    cases S.par n (List.of_mem_zip hy).1 with
    | inl z => exact Or.inl z
    | inr z => exact Or.inr ⟨z, PySem.W.cellsFrom_some _ _ _ (Or.inl z)⟩
  have kin : K.In s.heap := e0.mod.kin.keeps (fun b o z => (e0.bs b o z).1)
  have nl : s.heap.NoLimit := e0.mod.nolimit.keeps (fun b o z => (e0.bs b o z).1)
  refine codeAny_call_function hr.rm.depth (kin _ _ lk) rfl S.co S.gen rfl (PySem.W.codeRec_of kin hcd) (hbd _ _ _ _ ?_)
  refine wpAny_newFunctionEnv_cells S.kind key (fun env he s1 ic => ?_)
  subst he
  refine ⟨nl.keeps ic.toInCall.keep, codeAny_func ?_⟩
  obtain ⟨t, ht, hq⟩ := hb cdv A outer s H vs Q (hr.deeper _) hsp
  have I := inv_start (CX := CX0) (E := E0) (cd := cdv) (qual := qual) (f := f) S hr.rm.hd e0 (len _ _ _ hsp) r ic
  refine wpAny_mono (ht.nox.run [] s1 (start N vs) H { nx := fun _ H' => Q .non H', rt := Q } I hq) ?_ (fun e s' z => z)
  intro fl s' hs
  cases fl with
  | next =>
    obtain ⟨σ', H', J, q⟩ := hs
    exact ⟨V.non, H', J.os, J.bare, J.base, J.hok, rfl, q⟩
  | ret u =>
    obtain ⟨v, σ', H', J, rv, q⟩ := hs
    exact ⟨v, H', J.os, J.bare, J.base, J.hok, rv, q⟩
  | brk => exact (hs.choose_spec.choose_spec.2).elim
  | cont => exact (hs.choose_spec.choose_spec.2).elim
end
section
variable {X : Cx} {k : Nat} {f C : Addr} {fd : FuncData} {ps : List Str} {sp : Sp} {dvs : List V} {ds : List Value} {x m : Str} {p pos apos : Pos} {e o : Expr} {es : List Expr} {ta : TE} {t : TA}
/-- a result of a call -/
theorem endG {pins : List (Addr × Obj)} {σ : L2.St} {H : Hp} {s s' : Shared} {Q : VK} {r : Result} (I : Inv X pins σ H s) (h : CR CX0 X.stack X.prog X.w H s Q E0 r s') : ∃ u, r = .ok (.ret u) ∧ EP X pins σ Q u s' := by
  cases r with
  | error er => exact False.elim h
  | ok fl =>
    cases fl with
    | ret u => exact ⟨u, rfl, I.after h⟩
    | next | brk | cont => exact False.elim h
theorem runG {pins : List (Addr × Obj)} {σ : L2.St} {H : Hp} {s : Shared} {Q : VK} {us : List Value} {vs : List V} {E : Value → Shared → Prop} (F : FnG X.prog X.w X.K X.mg X.base k f fd ps sp) (hr : RmG k X.A) (hb : Binds X.K fd ps ds) (hd : Vals dvs ds)
    (I : Inv X pins σ H s) (r : Vals vs us) (h : sp (vs ++ dvs) H Q E0) : wpAny (model X.prog X.w) X.A (call (.ref f) us) (EP X pins σ Q) E s := by
  have rr := r.append hd
  refine wpAny_call (codeAny_mono (F.run X.A X.stack s H ⟨us, []⟩ (us ++ ds) (vs ++ dvs) Q hr I.env0 (hb s us I.kIn ?_) rr h) ?_)
  · exact rr.length.symm.trans (F.len _ _ _ h)
  · rintro r s' hq
    obtain ⟨u, rfl, z⟩ := endG I hq
    exact z
theorem peG_call (F : FnG X.prog X.w X.K X.mg X.base k f fd ps sp) (hr : RmG k X.A) (hg : Gl X x) (hm : X.mg x = some (.ref f)) (hk : PySem.W.keepIn X.K (.ref f) = true) (hb : Binds X.K fd ps ds) (hd : Vals dvs ds)
    (ha : PA X (e :: es) t) (n1 : (x == ("__debug__" : Str)) = false) (n2 : starEach (e :: es) X.env = (false, eval e X.env) :: starEach es X.env) (n3 : (backTo pos (starEach es X.env)).any (·.1) = false) :
    PE X (.Call (.Name x p) (e :: es) [] pos) (tCall sp dvs E0 t) := ⟨fun pins s σ H Q I h =>
  wpAny_Call_Name_kw (ld_glob I hg hm (PySem.W.callWith_K (h₀ := X.base) I.ok.mod.kin hk (thn (ha.run pos pins s σ H _ I h) fun us s1 hh =>
    let ⟨vs, H1, I1, r, q⟩ := hh
    ⟨I1.kIn, runG F hr hb hd I1 r q⟩) n2 n3) n1)⟩
theorem peG_call0 (F : FnG X.prog X.w X.K X.mg X.base k f fd ps sp) (hr : RmG k X.A) (hg : Gl X x) (hm : X.mg x = some (.ref f)) (hk : PySem.W.keepIn X.K (.ref f) = true) (hb : Binds X.K fd ps ds) (hd : Vals dvs ds)
    (n1 : (x == ("__debug__" : Str)) = false) : PE X (.Call (.Name x p) [] [] pos) (tCall sp dvs E0 tNil) := ⟨fun pins s σ H Q I h =>
  wpAny_Call_Name_kw (ld_glob I hg hm (PySem.W.callWith_K0 I.kIn hk (runG (us := []) F hr hb hd I .nil h)) n1)⟩
/-- o.m(e, ..), o.m(): ht by rfl -/
abbrev MCall (X : Cx) (o : Expr) (m : Str) (apos pos : Pos) (es : List Expr) (pl : Sem Bool) : Prop := eval (.Call (.Attribute o m apos) es [] pos) X.env = (do
      let v ← eval o X.env
      standAt apos.atName
      let (g, fst) ← holding [v] (getMethod v m pl)
      callWith pos g fst (backTo pos (starEach es X.env)) (backToKw pos (keywordEach [] X.env)))
theorem peG_meth {pl : Sem Bool} (he : PE X o ta) (c : Cls X.K C) (hm : Meth X.K C m f) (F : FnG X.prog X.w X.K X.mg X.base k f fd ps sp) (hr : RmG k X.A) (hb : Binds X.K fd ps ds) (hd : Vals dvs ds) (ha : PA X (e :: es) t)
    (n2 : starEach (e :: es) X.env = (false, eval e X.env) :: starEach es X.env) (n3 : (backTo pos (starEach es X.env)).any (·.1) = false) (ht : MCall X o m apos pos (e :: es) pl) :
    PE X (.Call (.Attribute o m apos) (e :: es) [] pos) (tMeth C m sp dvs E0 ta t) := by
  refine ⟨fun pins s σ H Q I h => PySem.W.methodCall_KW (pl := pl) (thn (he.run pins s σ H _ I h) fun u s1 hh => ?_) ht⟩
  obtain ⟨x, H1, I1, rx, a, dx, fs, rfl, ea, l, q⟩ := hh
  cases rx
  refine getmeth_ok I1 ea c hm l (PySem.W.callWith_K (first := [.ref a]) (h₀ := X.base) I.ok.mod.kin hm.kp (thn (ha.run pos pins s1 σ H1 _ I1 q) fun us s2 hh => ?_) n2 n3)
  obtain ⟨vs, H2, I2, r, q2⟩ := hh
  exact ⟨I2.kIn, runG (us := .ref a :: us) (vs := .ref a :: vs) F hr hb hd I2 (.cons rfl r) q2⟩
theorem peG_meth0 {pl : Sem Bool} (he : PE X o ta) (c : Cls X.K C) (hm : Meth X.K C m f) (F : FnG X.prog X.w X.K X.mg X.base k f fd ps sp) (hr : RmG k X.A) (hb : Binds X.K fd ps ds) (hd : Vals dvs ds) (ht : MCall X o m apos pos [] pl) :
    PE X (.Call (.Attribute o m apos) [] [] pos) (tMeth C m sp dvs E0 ta tNil) := by
  refine ⟨fun pins s σ H Q I h => PySem.W.methodCall_KW (pl := pl) (thn (he.run pins s σ H _ I h) fun u s1 hh => ?_) ht⟩
  obtain ⟨x, H1, I1, rx, a, dx, fs, rfl, ea, l, q⟩ := hh
  cases rx
  exact getmeth_ok I1 ea c hm l (PySem.W.callWith_K0 (first := [.ref a]) I1.kIn hm.kp (runG (us := [.ref a]) (vs := [.ref a]) F hr hb hd I1 (.cons rfl .nil) q))
/-- a keyword call: what stands in the parameters' order -/
theorem runGN {n : Nat} {ks : List Str} {g : List Value → List Value → List Value} {gV : List V → List V → List V} {pins : List (Addr × Obj)} {σ : L2.St} {H : Hp} {s : Shared} {Q : VK} {us ws : List Value} {vs zs : List V} {E : Value → Shared → Prop}
    (F : FnG X.prog X.w X.K X.mg X.base k f fd ps sp) (hr : RmG k X.A) (hb : KBn X.K fd ps n ks g gV) (I : Inv X pins σ H s) (r : Vals vs us) (rz : Vals zs ws) (l1 : us.length = n) (l2 : ws.length = ks.length) (h : sp (gV vs zs) H Q E0) :
    wpAny (model X.prog X.w) X.A (call (.ref f) us (ks.zip ws)) (EP X pins σ Q) E s :=
  wpAny_call (codeAny_mono (F.run X.A X.stack s H ⟨us, ks.zip ws⟩ (g us ws) (gV vs zs) Q hr I.env0 (hb.to s us ws I.kIn l1 l2) (hb.rel r rz) h) fun r s' hq => by
    obtain ⟨u, rfl, z⟩ := endG I hq
    exact z)
/-- C(..): a new instance, then __init__ -/
theorem runG_make {pins : List (Addr × Obj)} {σ : L2.St} {H : Hp} {s : Shared} {Q : VK} {args : Args} {us bs : List Value} {vs : List V} {E : Value → Shared → Prop} (M : Mk X.K C f) (F : FnG X.prog X.w X.K X.mg X.base k f fd ps sp) (hr : RmG (k + 1) X.A)
    (I : Inv X pins σ H s) (hbind : ∀ (s : Shared) (x : Addr), X.K.In s.heap → BindsTo s fd ⟨.ref x :: args.pos, args.kw⟩ (ps.zip (.ref x :: bs))) (r : Vals vs bs)
    (h : ∀ x dx, H x = none → H dx = none → dx ≠ x → sp (.ref x :: vs) (upd (upd H dx (.own x)) x (.ins C dx [])) (fun v H2 => v = .non ∧ Q (.ref x) H2) E0) :
    wpAny (model X.prog X.w) X.A (call (.ref C) args.pos args.kw) (EP X pins σ Q) E s := by
  have I2 := I.made (C := C)
  have hq := h _ _ (I.hok.fresh (Nat.le_succ s.heap.objs.size)) (I.hok.fresh (Nat.le_refl s.heap.objs.size)) (Nat.ne_of_lt (Nat.lt_succ_self _))
  refine wpAny_call (make_map (f := f) I.kIn M.makes M.init (beq_iff_eq.mp M.fn) (codeAny_mono (F.run _ X.stack _ _ ⟨.ref (s.heap.objs.size + 1) :: args.pos, args.kw⟩ (.ref (s.heap.objs.size + 1) :: bs) (.ref (s.heap.objs.size + 1) :: vs) _ (hr.make C args.pos args.kw)
    (I2.env0.make C args.pos args.kw) (hbind _ _ I2.kIn) (.cons rfl r) hq) fun r s' hr' => ?_))
  obtain ⟨u, rfl, v, H', I3, rv, ev, q3⟩ := endG I2 hr'
  subst ev
  exact ⟨rv, V.ref (s.heap.objs.size + 1), H', I3, rfl, q3⟩
end
end HD

namespace HD
open PySem PySem.Spec PyProof.Rows L2
variable {X : Cx} {K : PySem.W.Frag}
/-! ### tests -/
def dTest (de : DE) : DT := fun s M P => de s M fun x M1 => ∃ k, x = .bl k ∧ P k M1
theorem lt_B {te : TE} {de : DE} (h : LE K te de) : LT K (tB te) (dTest de) := fun Hm M s σ H Q P c hs p q =>
  h Hm M s σ H _ _ c hs p fun d M1 H1 h1 v e f c1 r ⟨k, ek, pk⟩ => by
    subst ek
    exact ⟨k, rep_bl r, q k M1 H1 h1 e f c1 pk⟩
theorem lt_test {te : TE} {de : DE} (h : LE K te de) : LT K (tTest te) (dTest de) := lt_B h
section
variable {a b c : Expr} {da db dc : DE} {ta tb tc : DT} {pos : Pos}
/-- an expression that gives a truth -/
theorem jt_val (h : JE X a da) (he : ∀ whole, isTrue a X.env whole = (do let v ← whole; standAt a.pos; holding [v] (truthy v)) := by intro _; rfl) : JT X a (dTest da) :=
  let ⟨_, h1, l1⟩ := h
  ⟨_, pt_val h1 he, lt_B l1⟩
theorem jt_cmp {op : CmpOp} {r : R2} {f : F2} (ho : OpR X (compareOp op) r) (hr : LR2 X.K r f) (ha : JE X a da) (hb : JE X b db) (hm : behindInMarks op b = false) : JT X (.Compare a [op] [b] pos) (dTest (dBin f da db)) :=
  let ⟨_, h1, l1⟩ := ha
  let ⟨_, h2, l2⟩ := hb
  ⟨_, pt_cmpR ho h1 h2 hm, lt_test (le_op hr l1 l2)⟩
theorem t_eq (hu : X.A.units + 64 < cLine) (ha : JE X a da) (hb : JE X b db) : JT X (.Compare a [.Eq] [b] pos) (dTest (dBin (eqD false) da db)) := jt_cmp ((op_eqD hu).or op_eq) lr_eq ha hb (nomark _)
theorem t_ne (hu : X.A.units + 64 < cLine) (ha : JE X a da) (hb : JE X b db) : JT X (.Compare a [.NotEq] [b] pos) (dTest (dBin (eqD true) da db)) := jt_cmp ((op_neD hu).or op_ne) lr_ne ha hb (nomark _)
theorem t_lt (ha : JE X a da) (hb : JE X b db) : JT X (.Compare a [.Lt] [b] pos) (dTest (dBin ltD da db)) := jt_cmp (op_lt.or op_lt_str) lr_ord ha hb (nomark _)
theorem t_le (ha : JE X a da) (hb : JE X b db) : JT X (.Compare a [.LtE] [b] pos) (dTest (dBin leD da db)) := jt_cmp (op_le.or op_le_str) lr_ord ha hb (nomark _)
theorem t_gt (ha : JE X a da) (hb : JE X b db) : JT X (.Compare a [.Gt] [b] pos) (dTest (dBin gtD da db)) := jt_cmp (op_gt.or op_gt_str) lr_ord ha hb (nomark _)
theorem t_ge (ha : JE X a da) (hb : JE X b db) : JT X (.Compare a [.GtE] [b] pos) (dTest (dBin geD da db)) := jt_cmp (op_ge.or op_ge_str) lr_ord ha hb (nomark _)
theorem t_is (ha : JE X a da) (hb : JE X b db) : JT X (.Compare a [.Is] [b] pos) (dTest (dBin (isD false) da db)) := jt_cmp (op_isN.or op_isBl) lr_is ha hb (nomark _)
theorem t_isn (ha : JE X a da) (hb : JE X b db) : JT X (.Compare a [.IsNot] [b] pos) (dTest (dBin (isD true) da db)) := jt_cmp (op_notN.or op_notBl) lr_isn ha hb (nomark _)
theorem t_in (hu : X.A.units + 1 < cLine) (ha : JE X a da) (hb : JE X b db) (hm : behindInMarks .In b = false := by rfl) : JT X (.Compare a [.In] [b] pos) (dTest (dBin (inD false) da db)) := jt_cmp (op_inA hu) lr_in ha hb hm
theorem t_nin (hu : X.A.units + 1 < cLine) (ha : JE X a da) (hb : JE X b db) (hm : behindInMarks .NotIn b = false := by rfl) : JT X (.Compare a [.NotIn] [b] pos) (dTest (dBin (inD true) da db)) := jt_cmp (op_ninA hu) lr_in ha hb hm
theorem t_chain {op op' : CmpOp} {r r' : R2} {f g : F2} (ho : OpR X (compareOp op) r) (ho' : OpR X (compareOp op') r') (hr : LR2 X.K r f) (hr' : LR2 X.K r' g) (ha : JE X a da) (hb : JE X b db) (hc : JE X c dc) (hm : lastMarks [op, op'] [b, c] = false := by rfl) :
    JT X (.Compare a [op, op'] [b, c] pos) (dTest (dChain f g da db dc)) :=
  let ⟨_, p1, l1⟩ := ha
  let ⟨_, p2, l2⟩ := hb
  let ⟨_, p3, l3⟩ := hc
  ⟨_, pt_chain ho ho' p1 p2 p3 hm, lt_test (le_chain hr hr' l1 l2 l3)⟩
/-! ### and, or, not -/
def dAndT (t u : DT) : DT := fun s M P => t s M fun k M1 => if k = true then u s M1 P else P false M1
def dOrT (t u : DT) : DT := fun s M P => t s M fun k M1 => if k = true then P true M1 else u s M1 P
def dNotT (t : DT) : DT := fun s M P => t s M fun k M1 => P (!k) M1
/-- a test whatever its whole -/
def JW (X : Cx) (e : Expr) (d : DT) : Prop := ∃ t, PW X e t ∧ LT X.K t d
theorem JW.jt {e : Expr} {d : DT} (h : JW X e d) : JT X e d := let ⟨_, h1, l1⟩ := h; ⟨_, h1.pt, l1⟩
variable {rest : List Expr}
theorem w_and1 (h : JT X a ta) : JW X (.BoolOp .And [a] pos) ta := let ⟨_, h1, l1⟩ := h; ⟨_, pw_and1 h1, l1⟩
theorem w_or1 (h : JT X a ta) : JW X (.BoolOp .Or [a] pos) ta := let ⟨_, h1, l1⟩ := h; ⟨_, pw_or1 h1, l1⟩
theorem lt_and {t u : TT} (h1 : LT K t ta) (h2 : LT K u tb) : LT K (tAnd t u) (dAndT ta tb) := fun Hm M s σ H Q P c hs p q =>
  h1 Hm M s σ H _ _ c hs p fun k M1 H1 h e f c1 p1 => by
    cases k with
    | false => exact q _ M1 H1 h e f c1 p1
    | true => exact h2 H1 M1 s σ h Q P c1 (hs.mono e) p1 (q.mono e f)
theorem lt_or {t u : TT} (h1 : LT K t ta) (h2 : LT K u tb) : LT K (tOr t u) (dOrT ta tb) := fun Hm M s σ H Q P c hs p q =>
  h1 Hm M s σ H _ _ c hs p fun k M1 H1 h e f c1 p1 => by
    cases k with
    | true => exact q _ M1 H1 h e f c1 p1
    | false => exact h2 H1 M1 s σ h Q P c1 (hs.mono e) p1 (q.mono e f)
theorem w_and (ha : JT X a ta) (hb : JW X (.BoolOp .And (b :: rest) pos) tb) : JW X (.BoolOp .And (a :: b :: rest) pos) (dAndT ta tb) :=
  let ⟨_, h1, l1⟩ := ha
  let ⟨_, h2, l2⟩ := hb
  ⟨_, pw_and h1 h2, lt_and l1 l2⟩
theorem w_or (ha : JT X a ta) (hb : JW X (.BoolOp .Or (b :: rest) pos) tb) : JW X (.BoolOp .Or (a :: b :: rest) pos) (dOrT ta tb) :=
  let ⟨_, h1, l1⟩ := ha
  let ⟨_, h2, l2⟩ := hb
  ⟨_, pw_or h1 h2, lt_or l1 l2⟩
theorem t_not (ha : JT X a ta) : JT X (.UnaryOp .Not a pos) (dNotT ta) :=
  let ⟨_, h1, l1⟩ := ha
  ⟨_, pt_not h1, fun Hm M s σ H Q P c hs p q => l1 Hm M s σ H _ _ c hs p fun k M1 H1 h e f c1 p1 => q _ M1 H1 h e f c1 p1⟩
/-- as values -/
def dAnd (t u : DE) : DE := fun s M P => t s M fun x M1 => ∃ k, x = .bl k ∧ if k = true then u s M1 P else P (.bl false) M1
def dOr (t u : DE) : DE := fun s M P => t s M fun x M1 => ∃ k, x = .bl k ∧ if k = true then P (.bl true) M1 else u s M1 P
def dNot (t : DE) : DE := fun s M P => t s M fun x M1 => ∃ k, x = .bl k ∧ P (.bl (!k)) M1
theorem j_one {op : BoolOp} (h : JE X a da) : JE X (.BoolOp op [a] pos) da := let ⟨_, h1, l1⟩ := h; ⟨_, pe_one h1, l1⟩
theorem j_and (ha : JE X a da) (hb : JE X (.BoolOp .And (b :: rest) pos) db) : JE X (.BoolOp .And (a :: b :: rest) pos) (dAnd da db) :=
  let ⟨_, h1, l1⟩ := ha
  let ⟨_, h2, l2⟩ := hb
  ⟨_, pe_and h1 h2, fun Hm M s σ H Q P c hs p q => l1 Hm M s σ H _ _ c hs p fun x M1 H1 h v e f c1 r ⟨k, ek, p1⟩ => by
    subst ek
    refine ⟨k, rep_bl r, ?_⟩
    cases k with
    | false => exact q _ M1 H1 h _ e f c1 (of_bl _) p1
    | true => exact l2 H1 M1 s σ h Q P c1 (hs.mono e) p1 (q.mono e f)⟩
theorem j_or (ha : JE X a da) (hb : JE X (.BoolOp .Or (b :: rest) pos) db) : JE X (.BoolOp .Or (a :: b :: rest) pos) (dOr da db) :=
  let ⟨_, h1, l1⟩ := ha
  let ⟨_, h2, l2⟩ := hb
  ⟨_, pe_or h1 h2, fun Hm M s σ H Q P c hs p q => l1 Hm M s σ H _ _ c hs p fun x M1 H1 h v e f c1 r ⟨k, ek, p1⟩ => by
    subst ek
    refine ⟨k, rep_bl r, ?_⟩
    cases k with
    | true => exact q _ M1 H1 h _ e f c1 (of_bl _) p1
    | false => exact l2 H1 M1 s σ h Q P c1 (hs.mono e) p1 (q.mono e f)⟩
theorem j_not (ha : JE X a da) : JE X (.UnaryOp .Not a pos) (dNot da) :=
  let ⟨_, h1, l1⟩ := ha
  ⟨_, pe_not h1, fun Hm M s σ H Q P c hs p q => l1 Hm M s σ H _ _ c hs p fun x M1 H1 h v e f c1 r ⟨k, ek, p1⟩ => by
    subst ek
    exact ⟨k, rep_bl r, q _ M1 H1 h _ e f c1 (of_bl _) p1⟩⟩
/-- a if t else b -/
def dIf (t : DT) (da db : DE) : DE := fun s M P => t s M fun k M1 => if k = true then da s M1 P else db s M1 P
theorem j_ifx (hc : JT X c ta) (ha : JE X a da) (hb : JE X b db) : JE X (.IfExp c a b pos) (dIf ta da db) :=
  let ⟨_, h0, l0⟩ := hc
  let ⟨_, h1, l1⟩ := ha
  let ⟨_, h2, l2⟩ := hb
  ⟨_, pe_ifExp h0 h1 h2, fun Hm M s σ H Q P c hs p q => l0 Hm M s σ H _ _ c hs p fun k M1 H1 h e f c1 p1 => by
    cases k with
    | true => exact l1 H1 M1 s σ h Q P c1 (hs.mono e) p1 (q.mono e f)
    | false => exact l2 H1 M1 s σ h Q P c1 (hs.mono e) p1 (q.mono e f)⟩
/-! ### -a -/
def negD (_ : Mm) (x : D) (P : D → Prop) : Prop := match x with | .int i => P (.int (-i)) | _ => False
def dUn (f : Mm → D → (D → Prop) → Prop) (da : DE) : DE := fun s M P => da s M fun x M1 => f M1 x fun z => P z M1
theorem j_neg (ha : JE X a da) : JE X (.UnaryOp .USub a pos) (dUn negD da) :=
  let ⟨_, h1, l1⟩ := ha
  ⟨_, pe_un un_neg h1, fun Hm M s σ H Q P c hs p q => l1 Hm M s σ H _ _ c hs p fun x M1 H1 h v e f c1 r p1 => by
    cases x <;> first | (exact p1.elim; done) | skip
    exact ⟨_, rep_int r, q _ M1 H1 h _ e f c1 (of_int _) p1⟩⟩
end
/-! ### arguments, displays -/
def dNil : DA := fun _ M P => P [] M
def dCons (de : DE) (da : DA) : DA := fun s M P => de s M fun x M1 => da s M1 fun xs M2 => P (x :: xs) M2
section
variable {e : Expr} {es : List Expr} {de : DE} {da : DA} {pos : Pos}
theorem a_nil : JA X [] dNil := ⟨_, pa_nil, fun Hm M s σ H Q P c hs p q => q [] M Hm H [] (Ex.refl _) (Fr.refl _ _ _) c RepL.nil p⟩
theorem a_cons (he : JE X e de) (hr : JA X es da) (hs : starEach (e :: es) X.env = (false, eval e X.env) :: starEach es X.env := by rfl) : JA X (e :: es) (dCons de da) :=
  let ⟨_, h1, l1⟩ := he
  let ⟨_, h2, l2⟩ := hr
  ⟨_, pa_cons h1 h2 hs, fun Hm M s σ H Q P c hs p q => l1 Hm M s σ H _ _ c hs p fun x M1 H1 h v e f c1 r p1 =>
    l2 H1 M1 s σ h _ _ c1 (hs.mono e) p1 fun xs M2 H2 h2 vs e2 f2 c2 r2 p2 => q _ M2 H2 h2 _ (e.trans e2) (f.trans f2) c2 (RepL.cons (Rep.mono e2 _ _ r) r2) p2⟩
def dTup (da : DA) : DE := fun s M P => da s M fun xs M1 => xs.length ≤ sizeLine ∧ P (.tup xs) M1
def dLst (da : DA) : DE := fun s M P => da s M fun xs M1 => xs.length ≤ sizeLine ∧ P (.lst xs) M1
/-- a list that is to change -/
def dLstM (da : DA) : DE := fun s M P => da s M fun xs M1 => xs.length ≤ sizeLine ∧ ∀ a, M1 a = none → P (.ref a) (mput M1 a (.lst xs))
theorem j_tup {x1} (h : JA X es da) : JE X (.Tuple es x1 pos) (dTup da) :=
  let ⟨_, h1, l1⟩ := h
  ⟨_, pe_tup h1, fun Hm M s σ H Q P c hs p q => l1 Hm M s σ H _ _ c hs p fun xs M1 H1 h vs e f c1 r ⟨hz, p1⟩ => ⟨by rw [r.len]; exact hz, fun z hz => by
    obtain ⟨e2, c2⟩ := c1.new (o := .tup vs) hz
    exact q _ M1 _ _ _ (e.trans e2) (f.trans (Fr.new hz)) c2 (Rep.tup' (.inl (.inl upd_same)) (r.mono e2)) p1⟩⟩
theorem j_lst (h : JA X es da) : JE X (.List es pos) (dLst da) :=
  let ⟨_, h1, l1⟩ := h
  ⟨_, pe_lst h1, fun Hm M s σ H Q P c hs p q => l1 Hm M s σ H _ _ c hs p fun xs M1 H1 h vs e f c1 r ⟨hz, p1⟩ => ⟨by rw [r.len]; exact hz, fun z hz => by
    obtain ⟨e2, c2⟩ := c1.new (o := .lst vs) hz
    exact q _ M1 _ _ _ (e.trans e2) (f.trans (Fr.new hz)) c2 (Rep.lst' upd_same (r.mono e2)) p1⟩⟩
theorem j_lstM (h : JA X es da) : JE X (.List es pos) (dLstM da) :=
  let ⟨_, h1, l1⟩ := h
  ⟨_, pe_lst h1, fun Hm M s σ H Q P c hs p q => l1 Hm M s σ H _ _ c hs p fun xs M1 H1 h vs e f c1 r ⟨hz, p1⟩ => ⟨by rw [r.len]; exact hz, fun z hz => by
    have c2 := c1.newM (m := .lst xs) (o := .lst vs) hz ⟨vs, rfl, r⟩
    exact q _ _ _ _ _ e (f.trans (Fr.newM hz)) c2 (of_ref z) (p1 z (c1.free hz).2)⟩⟩
end
/-! ### subscripts -/
/-- a[i] -/
def idxD : F2 := fun M x y P => match y with
  | .int i => (match x with
    | .str z => z.length ≤ sizeLine ∧ ∃ c, atI z.cps.toList i = some c ∧ P (.str ⟨#[c]⟩)
    | .tup ds => ∃ d, atI ds i = some d ∧ P d
    | x => ∃ ds d, seqL M x = some ds ∧ atI ds i = some d ∧ P d)
  | _ => False
theorem atI_rep {Hm : Hp} {ds : List D} {vs : List V} (r : RepL K Hm ds vs) {i : Int} {d : D} (h : atI ds i = some d) : ∃ v, atI vs i = some v ∧ Rep K Hm d v := by
  unfold atI at h ⊢
  obtain ⟨j, h1, h2⟩ := Option.bind_eq_some_iff.mp h
  obtain ⟨v, h3, h4⟩ := r.get h2
  refine ⟨v, ?_, h4⟩
  rw [r.len, h1]
  exact h3
theorem lr_idx : LR2 K (rIx K) idxD := fun Hm M H dx dy x y P Q c rx ry p q => by
  unfold idxD at p
  split at p
  · rw [rep_int ry]
    split at p
    · obtain ⟨hz, k, hk, p⟩ := p
      exact .inr (.inr ⟨_, _, k, rep_str rx, rfl, hz, hk, q _ Hm H _ (Ex.refl _) (Fr.refl _ _ _) c (of_str _) p⟩)
    · obtain ⟨d, hd, p⟩ := p
      obtain ⟨a, vs, e, h1, r⟩ := tup_at c rx
      obtain ⟨v, h2, r2⟩ := atI_rep r hd
      exact .inr (.inl ⟨a, vs, _, v, e, rfl, h1, h2, q _ Hm H _ (Ex.refl _) (Fr.refl _ _ _) c r2 p⟩)
    · obtain ⟨ds, d, hs, hd, p⟩ := p
      obtain ⟨a, vs, e, h1, r⟩ := seqL_at c rx hs
      obtain ⟨v, h2, r2⟩ := atI_rep r hd
      exact .inl ⟨a, vs, _, v, e, rfl, h1, h2, q _ Hm H _ (Ex.refl _) (Fr.refl _ _ _) c r2 p⟩
  · exact p.elim
/-- d[k], d a dict -/
def valD (ks : List Key) (ds : List D) (k : Key) : Option D := ((ks.zip ds).find? fun p => decide (p.1 = k)).map (·.2)
theorem valD_rep {Hm : Hp} : ∀ {ks : List Key} {ds : List D} {vs : List V} {k : Key} {d : D}, RepL K Hm ds vs → valD ks ds k = some d → ∃ v, valV (ks.zip vs) k = some v ∧ Rep K Hm d v
  | [], ds, vs, k, d, r, h => by cases h
  | k' :: ks, [], vs, k, d, r, h => by cases h
  | k' :: ks, e :: ds, vs, k, d, r, h => by
    unfold RepL at r
    obtain ⟨v, ws, rfl, r1, r2⟩ := r
    unfold valD at h
    rw [List.zip_cons_cons] at h ⊢
    by_cases z : k' = k
    · subst z
      rw [valV_pos rfl]
      simp [List.find?_cons] at h
      subst h
      exact ⟨v, rfl, r1⟩
    · rw [valV_neg z]
      simp [List.find?_cons, z] at h
      exact valD_rep r2 (by unfold valD; simpa using h)
def dictD : F2 := fun _ x y P => match x with
  | .dic ks ds => ∃ k d, keyD y = some k ∧ valD ks ds k = some d ∧ P d
  | _ => False
def dDGet (da db : DE) : DE := dBin dictD da db
section
variable {a b e : Expr} {da db de : DE} {pos p2 : Pos}
theorem j_ix (ha : JE X a da) (hb : JE X b db) (hs : PlainIx b := by intro _ _; rfl) : JE X (.Subscript a b pos) (dBin idxD da db) :=
  let ⟨_, h1, l1⟩ := ha
  let ⟨_, h2, l2⟩ := hb
  ⟨_, pe_ix ix_seq h1 h2 hs, le_op lr_idx l1 l2⟩
theorem j_dget (hu : X.A.units + 1 < cLine) (ha : JE X a da) (hb : JE X b db) (hs : NoSl b := by intro _ _; rfl) : JE X (.Subscript a b pos) (dDGet da db) :=
  let ⟨_, h1, l1⟩ := ha
  let ⟨_, h2, l2⟩ := hb
  ⟨_, pe_dget hu h1 h2 hs, fun Hm M s σ H Q P c hs p q => by
    refine l1 Hm M s σ H _ _ c hs p fun x M1 H1 h1 v e1 f1 c1 r1 p1 => ?_
    refine l2 H1 M1 s σ h1 _ _ c1 (hs.mono e1) p1 fun y M2 H2 h2 u e2 f2 c2 r2 p2 => ?_
    cases x <;> first | (exact p2.elim; done) | skip
    obtain ⟨k, d, hk, hd, p3⟩ := p2
    have r1' := Rep.mono e2 _ _ r1
    unfold Rep at r1'
    obtain ⟨a, vs, rfl, g1, g2, g3⟩ := r1'
    obtain ⟨w, g4, g5⟩ := valD_rep g3 hd
    refine ⟨a, w, rfl, ?_, q _ M2 H2 h2 _ (e1.trans e2) (f1.trans f2) c2 g5 p3⟩
    rw [rep_key r2 hk, ← g4]
    exact DGet.k (c2.ex _ _ g1)⟩
/-- the parts of a slice -/
abbrev DO := DSt → Mm → (Option Int → Mm → Prop) → Prop
def LO (K : PySem.W.Frag) (t : TO) (d : DO) : Prop := ∀ Hm M s σ H (Q : Option Int → Hp → Prop) P, Cfg K Hm M H → Sl K Hm s σ → d s M P → (∀ o M' Hm' H', Ex Hm Hm' → Fr Hm M H Hm' M' H' → Cfg K Hm' M' H' → P o M' → Q o H') → t σ H Q
def JO (X : Cx) (e : Option Expr) (d : DO) : Prop := ∃ t, PO X e t ∧ LO X.K t d
def dNoP : DO := fun _ M P => P none M
def dPart (de : DE) : DO := fun s M P => de s M fun x M1 => ∃ i, x = .int i ∧ P (some i) M1
theorem o_no : JO X none dNoP := ⟨_, po_none, fun Hm M s σ H Q P c hs p q => q none M Hm H (Ex.refl _) (Fr.refl _ _ _) c p⟩
theorem o_so (h : JE X e de) : JO X (some e) (dPart de) :=
  let ⟨_, h1, l1⟩ := h
  ⟨_, po_some h1, fun Hm M s σ H Q P c hs p q => l1 Hm M s σ H _ _ c hs p fun x M1 H1 h v e f c1 r ⟨i, ei, p1⟩ => by
    subst ei
    exact ⟨i, rep_int r, q _ M1 H1 h e f c1 p1⟩⟩
def cutL {α : Type} (xs : List α) (lo hi : Option Int) : List α := (xs.drop (HT.sIx xs.length 0 lo)).take (HT.sIx xs.length xs.length hi - HT.sIx xs.length 0 lo)
def sliceD (M : Mm) (x : D) (lo hi : Option Int) (P : D → Prop) : Prop := match x with
  | .str z => z.length ≤ sizeLine ∧ P (.str (cutS z lo hi))
  | .tup ds => P (.tup (cutL ds lo hi))
  | x => ∃ ds, seqL M x = some ds ∧ P (.lst (cutL ds lo hi))
def dSlice (da : DE) (dl dh : DO) : DE := fun s M P => da s M fun x M1 => dl s M1 fun lo M2 => dh s M2 fun hi M3 => sliceD M3 x lo hi fun z => P z M3
def rSlAny (K : PySem.W.Frag) : V → Option Int → Option Int → Hp → VK → Prop := fun x lo hi H Q => rSlS x lo hi H Q ∨ (rSlA K x lo hi H Q ∨ rSlL K x lo hi H Q)
theorem RepL.cut {Hm : Hp} {ds : List D} {vs : List V} (r : RepL K Hm ds vs) (lo hi : Option Int) : RepL K Hm (cutL ds lo hi) (cutV vs lo hi) := by
  unfold cutL cutV
  rw [r.len]
  exact (r.drop _).take _
theorem cut_whole {ds : List D} {lo hi : Option Int} (h : HT.sIx ds.length 0 lo = 0 ∧ HT.sIx ds.length ds.length hi = ds.length) : cutL ds lo hi = ds := by
  unfold cutL
  rw [h.1, h.2]
  simp
theorem ls_any {Hm : Hp} {M : Mm} {H : Hp} {x : D} {v : V} {lo hi : Option Int} {P : D → Prop} {Q : VK} (c : Cfg K Hm M H) (r : Rep K Hm x v) (p : sliceD M x lo hi P)
    (q : ∀ d Hm' H' v, Ex Hm Hm' → Fr Hm M H Hm' M H' → Cfg K Hm' M H' → Rep K Hm' d v → P d → Q v H') : rSlAny K v lo hi H Q := by
  unfold sliceD at p
  split at p
  · exact .inl ⟨_, rep_str r, p.1, q _ Hm H _ (Ex.refl _) (Fr.refl _ _ _) c (of_str _) p.2⟩
  · obtain ⟨a, vs, rfl, h1, r1⟩ := tup_at c r
    refine .inr (.inl ⟨a, vs, rfl, h1, fun hw => ?_, fun hw z hz => ?_⟩)
    · rw [r1.len] at hw
      rw [cut_whole hw] at p
      exact q _ Hm H _ (Ex.refl _) (Fr.refl _ _ _) c r p
    · obtain ⟨e, c'⟩ := c.new (o := .tup (cutV vs lo hi)) hz
      exact q _ _ _ _ e (Fr.new hz) c' (Rep.tup' (.inl (.inl upd_same)) ((r1.cut lo hi).mono e)) p
  · obtain ⟨ds, hs, p⟩ := p
    obtain ⟨a, vs, rfl, h1, r1⟩ := seqL_at c r hs
    refine .inr (.inr ⟨a, vs, rfl, h1, fun z hz => ?_⟩)
    obtain ⟨e, c'⟩ := c.new (o := .lst (cutV vs lo hi)) hz
    exact q _ _ _ _ e (Fr.new hz) c' (Rep.lst' upd_same ((r1.cut lo hi).mono e)) p
theorem j_slice {lo hi : Option Expr} {dl dh : DO} (ha : JE X a da) (hl : JO X lo dl) (hh : JO X hi dh) : JE X (.Subscript a (.Slice lo hi none p2) pos) (dSlice da dl dh) :=
  let ⟨_, h1, l1⟩ := ha
  let ⟨_, h2, l2⟩ := hl
  let ⟨_, h3, l3⟩ := hh
  ⟨_, pe_slice (r := rSlAny X.K) (sl_str.or (sl_tupA.or sl_list)) h1 h2 h3, fun Hm M s σ H Q P c hs p q => by
    refine l1 Hm M s σ H _ _ c hs p fun x M1 H1 h1 v e1 f1 c1 r1 p1 => ?_
    refine l2 H1 M1 s σ h1 _ _ c1 (hs.mono e1) p1 fun lo M2 H2 h2 e2 f2 c2 p2 => ?_
    refine l3 H2 M2 s σ h2 _ _ c2 (hs.mono (e1.trans e2)) p2 fun hi M3 H3 h3 e3 f3 c3 p3 => ?_
    exact ls_any c3 (Rep.mono (e2.trans e3) _ _ r1) p3 fun d H4 h4 w e4 f4 c4 r4 p4 => q d M3 H4 h4 w (((e1.trans e2).trans e3).trans e4) (((f1.trans f2).trans f3).trans f4) c4 r4 p4⟩
end
end HD

namespace HD
open PySem PySem.Spec PyProof.Rows L2
variable {X : Cx} {K : PySem.W.Frag}
/-! ### targets -/
abbrev DG := D → DSt → Mm → (DSt → Mm → Prop) → Prop
abbrev DGs := List D → DSt → Mm → (DSt → Mm → Prop) → Prop
def LG (K : PySem.W.Frag) (g : TG) (dg : DG) : Prop := ∀ Hm M s σ H d v Q P, Cfg K Hm M H → Sl K Hm s σ → Rep K Hm d v → dg d s M P → PostN K Hm M H P Q → g v σ H Q
def LGs (K : PySem.W.Frag) (g : TGs) (dg : DGs) : Prop := ∀ Hm M s σ H ds vs Q P, Cfg K Hm M H → Sl K Hm s σ → RepL K Hm ds vs → dg ds s M P → PostN K Hm M H P Q → g vs σ H Q
def JG (X : Cx) (e : Expr) (d : DG) : Prop := ∃ t, PG X e t ∧ LG X.K t d
def JGs (X : Cx) (es : List Expr) (d : DGs) : Prop := ∃ t, PGs X es t ∧ LGs X.K t d
def dgName (i : Nat) : DG := fun d s M P => P (s.set i (some d)) M
def dgNil : DGs := fun ds s M P => ds = [] ∧ P s M
def dgCons (g : DG) (gs : DGs) : DGs := fun ds s M P => match ds with
  | d :: r => g d s M fun s' M' => gs r s' M' P
  | [] => False
def dgTup (n : Nat) (gs : DGs) : DG := fun d s M P => match d with
  | .tup xs => xs.length = n ∧ gs xs s M P
  | _ => False
theorem lg_name (i : Nat) : LG K (gName i) (dgName i) := fun Hm M s σ H d v Q P c hs r p q => q _ M Hm H _ (Ex.refl _) (Fr.refl _ _ _) c (hs.set r i) p
theorem g_name {i : Nat} {x : Str} {pos : Pos} (hN : X.N.Nodup) (hi : X.N[i]? = some x) (hx : Loc X.env.scope x) (hf : X.fn x = true ∨ X.env.scope.names.lookup x = some .local := by first | exact .inl rfl | exact .inr rfl | assumption) : JG X (.Name x pos) (dgName i) :=
  ⟨_, pg_name hN hi hx hf, lg_name i⟩
theorem gs_nil : JGs X [] dgNil := ⟨_, pgs_nil, fun Hm M s σ H ds vs Q P c hs r ⟨e, p⟩ q => by
  subst e
  unfold RepL at r
  exact ⟨r, q s M Hm H σ (Ex.refl _) (Fr.refl _ _ _) c hs p⟩⟩
theorem gs_cons {e : Expr} {es : List Expr} {g : DG} {gs : DGs} (h1 : JG X e g) (h2 : JGs X es gs) (hs : (assignEach (e :: es) X.env).map (·.2) = assign e X.env :: (assignEach es X.env).map (·.2) := by rfl) : JGs X (e :: es) (dgCons g gs) :=
  let ⟨_, p1, l1⟩ := h1
  let ⟨_, p2, l2⟩ := h2
  ⟨_, pgs_cons p1 p2 hs, fun Hm M s σ H ds vs Q P c hs r p q => by
    cases ds with
    | nil => exact p.elim
    | cons d ds =>
      unfold RepL at r
      obtain ⟨v, ws, rfl, r1, r2⟩ := r
      refine ⟨v, ws, rfl, ?_⟩
      refine l1 Hm M s σ H d v _ _ c hs r1 p fun s1 M1 H1 h1 σ1 e1 f1 c1 hs1 p1 => ?_
      exact l2 H1 M1 s1 σ1 h1 ds ws Q P c1 hs1 (r2.mono e1) p1 (q.mono e1 f1)⟩
theorem g_tup {es : List Expr} {k n : Nat} {gs : DGs} {pos : Pos} (hc : X.calm = true) (h : JGs X es gs) (hn : (assignEach es X.env).length = n := by rfl) (hst : (assignEach es X.env).findIdx? (·.1) = none := by rfl) : JG X (.Tuple es k pos) (dgTup n gs) :=
  let ⟨_, p1, l1⟩ := h
  ⟨_, pg_tup hc p1 hn hst, fun Hm M s σ H d v Q P c hs r p q => by
    cases d <;> first | (exact p.elim; done) | skip
    obtain ⟨a, vs, rfl, h1, r1⟩ := tup_at c r
    exact ⟨a, vs, rfl, h1, by rw [r1.len]; exact p.1, l1 Hm M s σ H _ vs Q P c hs r1 p.2 q⟩⟩
/-- o[i] = v, o a list that may change -/
def dgSub (dO dI : DE) : DG := fun d s M P => dO s M fun o M1 => dI s M1 fun i M2 => ∃ a j k xs, o = .ref a ∧ i = .int j ∧ M2 a = some (.lst xs) ∧ ixN xs.length j = some k ∧ P s (mput M2 a (.lst (xs.set k d)))
theorem g_sub {o i : Expr} {dO dI : DE} {pos : Pos} (ho : JE X o dO) (hi : JE X i dI)
    (ha : ∀ v, assign (.Subscript o i pos) X.env v = (do
      let p ← holding [v] (eval o X.env)
      let k ← holding [v, p] (eval i X.env)
      standAt pos
      holding [v, p, k] (setItem p k v)
      release [v, p, k] []) := by intro _; rfl) : JG X (.Subscript o i pos) (dgSub dO dI) :=
  let ⟨_, p1, l1⟩ := ho
  let ⟨_, p2, l2⟩ := hi
  ⟨_, pg_sub p1 p2 set_list ha, fun Hm M s σ H d v Q P c hs r p q => by
    refine l1 Hm M s σ H _ _ c hs p fun x M1 H1 h1 v1 e1 f1 c1 r1 p1 => ?_
    refine l2 H1 M1 s σ h1 _ _ c1 (hs.mono e1) p1 fun y M2 H2 h2 v2 e2 f2 c2 r2 p2 => ?_
    obtain ⟨a, j, k, xs, rfl, rfl, hm, hk, p3⟩ := p2
    obtain ⟨_, o, h3, vs, rfl, h4⟩ := c2.mu a _ hm
    rw [rep_int r2]
    have r1' : v1 = .ref a := by unfold Rep at r1; exact r1
    subst r1'
    refine ⟨a, vs, j, k, rfl, rfl, h3, by rw [h4.len]; exact hk, ?_⟩
    have hr := RepL.set (Rep.mono (e1.trans e2) _ _ r) k h4
    exact q _ _ _ _ _ (e1.trans e2) ((f1.trans f2).trans (Fr.put hm)) (c2.put (m' := .lst (xs.set k d)) hm ⟨_, rfl, hr⟩) (hs.mono (e1.trans e2)) p3⟩
/-! ### what a loop walks -/
structure ItD (K : PySem.W.Frag) (Hm : Hp) (J : It) (xs : List D) : Prop where
  stops : ∀ Hm' M H, Ex Hm Hm' → Cfg K Hm' M H → J.stop xs.length H
  goes : ∀ i Hm' M H, i < xs.length → Ex Hm Hm' → Cfg K Hm' M H → J.go i H
  gives : ∀ i Hm' M H x H', i < xs.length → Ex Hm Hm' → Cfg K Hm' M H → J.yld i H x H' → ∃ d H2, xs[i]? = some d ∧ Ex Hm' H2 ∧ Fr Hm' M H H2 M H' ∧ Cfg K H2 M H' ∧ Rep K H2 d x
abbrev DI := DSt → Mm → (List D → Mm → Prop) → Prop
def LI (K : PySem.W.Frag) (wi : TI) (di : DI) : Prop := ∀ Hm M s σ H (R : It → Hp → Prop) P, Cfg K Hm M H → Sl K Hm s σ → di s M P → (∀ xs M' Hm' H' J, Ex Hm Hm' → Fr Hm M H Hm' M' H' → Cfg K Hm' M' H' → ItD K Hm' J xs → P xs M' → R J H') → wi σ H R
def JI (X : Cx) (tg e : Expr) (d : DI) : Prop := ∃ w, PI X tg e w ∧ LI X.K w d
/-- the items of known data -/
def itemsD : D → Option (List D)
  | .lst ds => some ds
  | .scr ns => some (ns.map D.int)
  | .tup ds => some ds
  | .str z => some (z.cps.toList.map fun c => D.str ⟨#[c]⟩)
  | _ => none
theorem it_walk {Hm : Hp} {J : It} {xs : List D} {vs : List V} {G : Hp → Prop} (w : Walk J vs.length G (YAt vs)) (r : RepL K Hm xs vs) (hG : ∀ Hm' M H, Ex Hm Hm' → Cfg K Hm' M H → G H) : ItD K Hm J xs := by
  have hl := r.len
  refine ⟨fun Hm' M H e c => ?_, fun i Hm' M H hi e c => ?_, fun i Hm' M H x H' hi e c y => ?_⟩
  · rw [← hl]
    exact w.stops H (hG Hm' M H e c)
  · exact w.goes i H (by rw [hl]; exact hi) (hG Hm' M H e c)
  · obtain ⟨rfl, hx⟩ := w.yields i H x H' (by rw [hl]; exact hi) (hG Hm' M H e c) y
    have hd : xs[i]? = some xs[i] := List.getElem?_eq_getElem hi
    obtain ⟨v, h1, h2⟩ := r.get hd
    rw [hx] at h1
    cases h1
    exact ⟨_, Hm', hd, Ex.refl _, Fr.refl _ _ _, c, Rep.mono e _ _ h2⟩
theorem it_lst {Hm : Hp} {ds : List D} {v : V} (r : Rep K Hm (.lst ds) v) : ∃ a vs, v = .ref a ∧ Hm a = some (.lst vs) ∧ ItD K Hm (Itl K a) ds := by
  unfold Rep at r
  obtain ⟨a, vs, rfl, r2, r3⟩ := r
  exact ⟨a, vs, rfl, r2, it_walk walk_list r3 fun Hm' M H e c => .inl (.inl (c.ex _ _ (e _ _ r2)))⟩
theorem it_tup {Hm : Hp} {ds : List D} {v : V} (r : Rep K Hm (.tup ds) v) : ∃ a vs, v = .ref a ∧ SqT K Hm a vs ∧ ItD K Hm (Itt K a) ds := by
  unfold Rep at r
  obtain ⟨a, vs, rfl, r2, r3⟩ := r
  exact ⟨a, vs, rfl, r2, it_walk walk_tup r3 fun Hm' M H e c => ex_t c.ex (ex_t e r2)⟩
theorem it_scr {Hm : Hp} {ns : List Int} {v : V} (r : Rep K Hm (.scr ns) v) : ∃ a, v = .ref a ∧ SqL K Hm a (ns.map V.int) ∧ ItD K Hm (Itl K a) (ns.map D.int) := by
  unfold Rep at r
  obtain ⟨a, rfl, r2⟩ := r
  exact ⟨a, rfl, r2, it_walk walk_list (RepL.of_ints ns) fun Hm' M H e c => ex_l c.ex (ex_l e r2)⟩
theorem it_str {Hm : Hp} {z : Str} : ItD K Hm (Its z) (z.cps.toList.map fun c => D.str ⟨#[c]⟩) := by
  have hl : (z.cps.toList.map fun c => D.str ⟨#[c]⟩).length = z.cps.size := by simp
  refine ⟨fun Hm' M H e c => ?_, fun i Hm' M H hi e c => ?_, fun i Hm' M H x H' hi e c y => ?_⟩
  · rw [hl]
    exact Nat.le_refl _
  · rw [hl] at hi
    exact hi
  · obtain ⟨rfl, k, hk, rfl⟩ := y
    refine ⟨.str ⟨#[k]⟩, Hm', ?_, Ex.refl _, Fr.refl _ _ _, c, of_str _⟩
    rw [List.getElem?_map]
    have : z.cps.toList[i]? = some k := by rw [Array.getElem?_toList]; exact hk
    rw [this]
    rfl
/-- iter of a value -/
def rIter (K : PySem.W.Frag) (x : V) (H : Hp) (R : It → Hp → Prop) : Prop :=
  (∃ a xs, x = .ref a ∧ SqL K H a xs ∧ R (Itl K a) H) ∨ (∃ a xs, x = .ref a ∧ SqT K H a xs ∧ R (Itt K a) H) ∨ ∃ z, x = .str z ∧ R (Its z) H
theorem pi_any {tg l : Expr} {tl : TE} (hl : PE X l tl) : PI X tg l (fun σ H R => tl σ H fun x H1 => rIter X.K x H1 R) := by
  refine ⟨fun pins s σ H R I h => thn (hl.run pins s σ H _ I h) fun v s1 hv => ?_⟩
  obtain ⟨x, H1, I1, r1, q⟩ := hv
  have fo : ∀ b, b ∈ [s1.heap.objs.size] → FpOk X pins H1 b := fun b hb => by
    cases List.mem_singleton.mp hb
    exact I1.fpOk (Nat.le_refl _) (I1.hok.fresh (Nat.le_refl _))
  rcases q with ⟨a, xs, rfl, hq, q⟩ | ⟨a, xs, rfl, hq, q⟩ | ⟨z, rfl, q⟩
  · cases r1
    obtain ⟨its, _, p, _⟩ := I1.list hq
    refine wpAny_pyIter_list p.isList ⟨_, [s1.heap.objs.size], _, _, H1, rfl, I1.kept (t' := s1.toks) (fun b o e => Heap.get?_push_of_some _ e), turn_list a _, ⟨_, Heap.get?_push_size _ rfl, rfl, rfl⟩, fo, q⟩
  · cases r1
    obtain ⟨its, _, p, _⟩ := I1.tuple hq
    refine wpAny_pyIter_tuple (show s1.heap.IsTuple a its.toArray from p) ⟨_, [s1.heap.objs.size], _, _, H1, rfl, I1.kept (t' := s1.toks) (fun b o e => Heap.get?_push_of_some _ e), turn_tuple a _, ⟨_, Heap.get?_push_size _ rfl, rfl, rfl⟩, fo, q⟩
  · obtain ⟨t, rfl⟩ := r1
    by_cases ha : z.cps.all (· < 128) = true
    · exact wpAny_pyIter_ascii ha (pi_one (tk := s1.toks) I1 _ (turn_str _ z t _ (Or.inl rfl)) ⟨_, Heap.get?_push_size _ rfl, rfl, rfl⟩ q)
    · exact wpAny_pyIter_wide (by simpa using ha) (pi_one (tk := s1.toks) I1 _ (turn_str _ z t _ (Or.inr rfl)) ⟨_, Heap.get?_push_size _ rfl, rfl, rfl⟩ q)
def dIter (de : DE) : DI := fun s M P => de s M fun x M1 => ∃ xs, itemsD x = some xs ∧ P xs M1
section
variable {tg a b : Expr} {da db : DE} {p pos : Pos}
theorem i_any (h : JE X a da) : JI X tg a (dIter da) :=
  let ⟨_, h1, l1⟩ := h
  ⟨_, pi_any h1, fun Hm M s σ H R P c hs p q => l1 Hm M s σ H _ _ c hs p fun x M1 H1 h v e f c1 r ⟨xs, hx, p1⟩ => by
    cases x <;> first | (cases hx; done) | skip
    · cases hx
      rw [rep_str r]
      exact .inr (.inr ⟨_, rfl, q _ M1 H1 h _ e f c1 it_str p1⟩)
    · cases hx
      obtain ⟨a, vs, rfl, g1, g2⟩ := it_lst r
      exact .inl ⟨a, vs, rfl, .inl (.inl (c1.ex _ _ g1)), q _ M1 H1 h _ e f c1 g2 p1⟩
    · cases hx
      obtain ⟨a, vs, rfl, g1, g2⟩ := it_tup r
      exact .inr (.inl ⟨a, vs, rfl, ex_t c1.ex g1, q _ M1 H1 h _ e f c1 g2 p1⟩)
    · cases hx
      obtain ⟨a, rfl, g1, g2⟩ := it_scr r
      exact .inl ⟨a, _, rfl, ex_l c1.ex g1, q _ M1 H1 h _ e f c1 g2 p1⟩⟩
/-- range(n), range(a, b) -/
def rgD (lo : Int) (n : Nat) : List D := (List.range n).map fun k => D.int (lo + (k : Nat))
theorem it_rng {Hm : Hp} {lo : Int} {n : Nat} : ItD K Hm (Itr lo n) (rgD lo n) := by
  have hl : (rgD lo n).length = n := by simp [rgD]
  refine ⟨fun Hm' M H e c => ?_, fun i Hm' M H hi e c => ?_, fun i Hm' M H x H' hi e c y => ?_⟩
  · rw [hl]; exact Nat.le_refl n
  · rw [hl] at hi; exact hi
  · rw [hl] at hi
    obtain ⟨rfl, rfl⟩ := y
    exact ⟨.int (lo + i), Hm', by simp [rgD, hi], Ex.refl _, Fr.refl _ _ _, c, of_int _⟩
def dRng1 (da : DE) : DI := fun s M P => da s M fun x M1 => ∃ n, x = .int n ∧ -(2 ^ 62) ≤ n ∧ n < 2 ^ 62 ∧ P (rgD 0 n.toNat) M1
def dRng2 (da db : DE) : DI := fun s M P => da s M fun x M1 => db s M1 fun y M2 => ∃ i j, x = .int i ∧ y = .int j ∧ (-(2 ^ 62) ≤ i ∧ i < 2 ^ 62 ∧ -(2 ^ 62) ≤ j ∧ j < 2 ^ 62) ∧ P (rgD i (j - i).toNat) M2
theorem i_rng1 (hm : X.mg "range" = none) (ha : JE X a da) (hg : Gl X "range" := by rfl) (hs : starEach [a] X.env = (false, eval a X.env) :: starEach [] X.env := by rfl) (hs2 : starEach [a] X.env = [(false, eval a X.env)] := by rfl) : JI X tg (.Call (.Name "range" p) [a] [] pos) (dRng1 da) :=
  let ⟨_, h1, l1⟩ := ha
  ⟨_, pi_range1 hg hm (pa_cons h1 pa_nil hs) hs2, fun Hm M s σ H R P c hs p q => l1 Hm M s σ H _ _ c hs p fun x M1 H1 h v e f c1 r ⟨n, en, b1, b2, p1⟩ => by
    subst en
    rw [rep_int r]
    exact ⟨n, rfl, b1, b2, q _ M1 H1 h _ e f c1 it_rng p1⟩⟩
theorem i_rng2 (hm : X.mg "range" = none) (ha : JE X a da) (hb : JE X b db) (hg : Gl X "range" := by rfl) (hs : starEach [a, b] X.env = (false, eval a X.env) :: starEach [b] X.env := by rfl) (hs1 : starEach [b] X.env = (false, eval b X.env) :: starEach [] X.env := by rfl)
    (hs3 : starEach [a, b] X.env = [(false, eval a X.env), (false, eval b X.env)] := by rfl) (hs4 : starEach [b] X.env = [(false, eval b X.env)] := by rfl) : JI X tg (.Call (.Name "range" p) [a, b] [] pos) (dRng2 da db) :=
  let ⟨_, h1, l1⟩ := ha
  let ⟨_, h2, l2⟩ := hb
  ⟨_, pi_range2 hg hm (pa_cons h1 (pa_cons h2 pa_nil hs1) hs) hs3 hs4, fun Hm M s σ H R P c hs p q => l1 Hm M s σ H _ _ c hs p fun x M1 H1 h v e f c1 r p1 => l2 H1 M1 s σ h _ _ c1 (hs.mono e) p1 fun y M2 H2 h2 u e2 f2 c2 r2 ⟨i, j, ei, ej, bd, p2⟩ => by
    subst ei
    subst ej
    rw [rep_int r, rep_int r2]
    exact ⟨i, j, rfl, bd, q _ M2 H2 h2 _ (e.trans e2) (f.trans f2) c2 it_rng p2⟩⟩
/-- new pairs -/
theorem it_pair {Hm : Hp} {J : It} {n : Nat} {G : Hp → Prop} {fx fy : Nat → Option V} {xs : List D} (w : Walk J n G (YPair fx fy)) (hl : xs.length = n) (hG : ∀ Hm' M H, Ex Hm Hm' → Cfg K Hm' M H → G H)
    (hx : ∀ i x y, i < n → fx i = some x → fy i = some y → ∃ dx dy, xs[i]? = some (.tup [dx, dy]) ∧ Rep K Hm dx x ∧ Rep K Hm dy y) : ItD K Hm J xs := by
  refine ⟨fun Hm' M H e c => ?_, fun i Hm' M H hi e c => ?_, fun i Hm' M H x H' hi e c y => ?_⟩
  · rw [hl]
    exact w.stops H (hG Hm' M H e c)
  · exact w.goes i H (by rw [← hl]; exact hi) (hG Hm' M H e c)
  · obtain ⟨T, x1, y1, rfl, hT, rfl, h1, h2⟩ := w.yields i H x H' (by rw [← hl]; exact hi) (hG Hm' M H e c) y
    obtain ⟨dx, dy, h3, r1, r2⟩ := hx i x1 y1 (by rw [← hl]; exact hi) h1 h2
    obtain ⟨e2, c2⟩ := c.new (o := .tup [x1, y1]) hT
    exact ⟨_, _, h3, e2, Fr.new hT, c2, Rep.tup' (.inl (.inl upd_same)) (RepL.cons (Rep.mono (e.trans e2) _ _ r1) (RepL.cons (Rep.mono (e.trans e2) _ _ r2) RepL.nil))⟩
/-- enumerate(xs), zip(xs, ys) of lists -/
def enumD (xs : List D) : List D := xs.mapIdx fun i x => .tup [.int (i : Nat), x]
def zipDD (xs ys : List D) : List D := (xs.zip ys).map fun p => .tup [p.1, p.2]
def dEnum (da : DE) : DI := fun s M P => da s M fun x M1 => ∃ xs, x = .lst xs ∧ P (enumD xs) M1
def dZip (da db : DE) : DI := fun s M P => da s M fun x M1 => db s M1 fun y M2 => ∃ xs ys, x = .lst xs ∧ y = .lst ys ∧ P (zipDD xs ys) M2
theorem i_enum {elts : List Expr} {kk : Nat} {tpos : Pos} (hm : X.mg "enumerate" = none) (ha : JE X a da) (hg : Gl X "enumerate" := by rfl) (hs : starEach [a] X.env = (false, eval a X.env) :: starEach [] X.env := by rfl) (hs2 : starEach [a] X.env = [(false, eval a X.env)] := by rfl) :
    JI X (.Tuple elts kk tpos) (.Call (.Name "enumerate" p) [a] [] pos) (dEnum da) :=
  let ⟨_, h1, l1⟩ := ha
  ⟨_, pi_enum hg hm (pa_cons h1 pa_nil hs) hs2, fun Hm M s σ H R P c hs p q => l1 Hm M s σ H _ _ c hs p fun x M1 H1 h v e f c1 r ⟨xs, ex, p1⟩ => by
    subst ex
    unfold Rep at r
    obtain ⟨a, vs, rfl, r2, r3⟩ := r
    refine ⟨a, vs, rfl, .inl (.inl (c1.ex _ _ r2)), q _ M1 H1 h _ e f c1 (it_pair (walk_enum (xs := vs)) (by simp [enumD, r3.len]) (fun Hm' M H e c => .inl (.inl (c.ex _ _ (e _ _ r2)))) fun i x y hi h1 h2 => ?_) p1⟩
    rw [r3.len] at hi
    have hd : xs[i]? = some xs[i] := List.getElem?_eq_getElem hi
    obtain ⟨v, g1, g2⟩ := r3.get hd
    rw [h2] at g1
    cases g1
    cases h1
    exact ⟨.int (i : Nat), xs[i], by simp [enumD, hd], of_int _, g2⟩⟩
theorem i_zip {elts : List Expr} {kk : Nat} {tpos : Pos} (hm : X.mg "zip" = none) (ha : JE X a da) (hb : JE X b db) (hg : Gl X "zip" := by rfl) (hs : starEach [a, b] X.env = (false, eval a X.env) :: starEach [b] X.env := by rfl) (hs1 : starEach [b] X.env = (false, eval b X.env) :: starEach [] X.env := by rfl)
    (hpl : (backTo pos (starEach [b] X.env)).any (·.1) = false := by rfl) : JI X (.Tuple elts kk tpos) (.Call (.Name "zip" p) [a, b] [] pos) (dZip da db) :=
  let ⟨_, h1, l1⟩ := ha
  let ⟨_, h2, l2⟩ := hb
  ⟨_, pi_zip hg hm (pa_cons h1 (pa_cons h2 pa_nil hs1) hs) hs hpl, fun Hm M s σ H R P c hs p q => l1 Hm M s σ H _ _ c hs p fun x M1 H1 h v e f c1 r p1 => l2 H1 M1 s σ h _ _ c1 (hs.mono e) p1 fun y M2 H2 h2 u e2 f2 c2 r2 ⟨xs, ys, ex, ey, p2⟩ => by
    subst ex
    subst ey
    have r' := Rep.mono e2 _ _ r
    unfold Rep at r' r2
    obtain ⟨a, vs, rfl, g1, g2⟩ := r'
    obtain ⟨b, ws, rfl, g3, g4⟩ := r2
    refine ⟨a, b, vs, ws, rfl, .inl (.inl (c2.ex _ _ g1)), .inl (.inl (c2.ex _ _ g3)), q _ M2 H2 h2 _ (e.trans e2) (f.trans f2) c2 (it_pair (walk_zip (xs := vs) (ys := ws) rfl) (by simp [zipDD, g2.len, g4.len]) (fun Hm' M H e c => ⟨.inl (.inl (c.ex _ _ (e _ _ g1))), .inl (.inl (c.ex _ _ (e _ _ g3)))⟩) fun i x y hi h1 h2 => ?_) p2⟩
    rw [g2.len, g4.len] at hi
    have hd : xs[i]? = some (xs[i]'(by omega)) := List.getElem?_eq_getElem (by omega)
    have hd2 : ys[i]? = some (ys[i]'(by omega)) := List.getElem?_eq_getElem (by omega)
    obtain ⟨v, k1, k2⟩ := g2.get hd
    obtain ⟨v2, k3, k4⟩ := g4.get hd2
    rw [h1] at k1
    rw [h2] at k3
    cases k1
    cases k3
    have hz : (xs.zip ys)[i]? = some (xs[i]'(by omega), ys[i]'(by omega)) := List.getElem?_zip_eq_some.mpr ⟨hd, hd2⟩
    exact ⟨_, _, by unfold zipDD; rw [List.getElem?_map, hz]; rfl, k2, k4⟩⟩
end
/-! ### for -/
def forD (g : DG) (b : DS) (E : DEnds) : List D → DSt → Mm → Prop
  | [], s, M => E.nx s M
  | x :: xs, s, M => g x s M fun s' M' => b { nx := forD g b E xs, rt := E.rt, bk := E.nx, ct := forD g b E xs } s' M'
def dFor (di : DI) (g : DG) (b : DS) : DS := fun D s M => di s M fun xs M1 => forD g b D xs s M1
theorem ls_for {wi : TI} {g : TG} {tb : TS} {di : DI} {dg : DG} {db : DS} (hi : LI K wi di) (hg : LG K g dg) (hb : LS K tb db) : LS K (tFor wi g tb) (dFor di dg db) := fun Hm M s σ H Q P c hs p q => by
  refine hi Hm M s σ H _ _ c hs p fun xs M1 H1 h1 J e1 f1 c1 it p1 => ?_
  refine ⟨fun i m σ' h' => i + m = xs.length ∧ ∃ Hm' M' s', Ex H1 Hm' ∧ Fr H1 M1 h1 Hm' M' h' ∧ Cfg K Hm' M' h' ∧ Sl K Hm' s' σ' ∧ forD dg db P (xs.drop i) s' M',
    ⟨xs.length, Nat.zero_add _, H1, M1, s, Ex.refl _, Fr.refl _ _ _, c1, hs.mono e1, p1⟩, ?_⟩
  rintro i m σ' h' ⟨hm, H2, M2, s2, e2, f2, c2, hs2, p2⟩
  by_cases hlt : i < xs.length
  · refine .inr ⟨it.goes i H2 M2 h' hlt e2 c2, fun σ3 h3 => ∃ Hm' M' s', Ex H1 Hm' ∧ Fr H1 M1 h1 Hm' M' h3 ∧ Cfg K Hm' M' h3 ∧ Sl K Hm' s' σ3 ∧ forD dg db P (xs.drop (i + 1)) s' M', fun σ3 h3 w => ⟨m - 1, by omega, by omega, w⟩, fun x h3 y => ?_⟩
    obtain ⟨d, H3, hd, e3, f3, c3, r⟩ := it.gives i H2 M2 h' x h3 hlt e2 c2 y
    rw [List.drop_eq_getElem_cons hlt] at p2
    have hd' : xs[i] = d := by
      rw [List.getElem?_eq_getElem hlt] at hd
      exact Option.some.inj hd
    rw [hd'] at p2
    refine hg H3 M2 s2 σ' h3 d x _ _ c3 (hs2.mono e3) r p2 fun s4 M4 H4 h4 σ4 e4 f4 c4 hs4 p4 => ?_
    have ee := ((e2.trans e3).trans e4)
    have ff := ((f2.trans f3).trans f4)
    refine hb H4 M4 s4 σ4 h4 _ _ c4 hs4 p4 ⟨?_, ?_, ?_, ?_⟩
    · exact fun s5 M5 H5 h5 σ5 e5 f5 c5 hs5 p5 => ⟨H5, M5, s5, ee.trans e5, ff.trans f5, c5, hs5, p5⟩
    · exact fun d5 M5 H5 h5 v5 e5 f5 c5 r5 p5 => q.rt d5 M5 H5 h5 v5 ((e1.trans ee).trans e5) ((f1.trans ff).trans f5) c5 r5 p5
    · exact fun s5 M5 H5 h5 σ5 e5 f5 c5 hs5 p5 => q.nx s5 M5 H5 h5 σ5 ((e1.trans ee).trans e5) ((f1.trans ff).trans f5) c5 hs5 p5
    · exact fun s5 M5 H5 h5 σ5 e5 f5 c5 hs5 p5 => ⟨H5, M5, s5, ee.trans e5, ff.trans f5, c5, hs5, p5⟩
  · have ei : i = xs.length := by omega
    subst ei
    rw [List.drop_length] at p2
    exact .inl ⟨it.stops H2 M2 h' e2 c2, q.nx s2 M2 H2 h' σ' (e1.trans e2) (f1.trans f2) c2 hs2 p2⟩
theorem s_for {tg iter : Expr} {body : List Stmt} {di : DI} {dg : DG} {db : DS} {pos : Pos} (hp : PassesOwn (model X.prog X.w) X.A X.env X.xe) (hc : X.calm = true) (hi : JI X tg iter di) (hg : JG X tg dg) (hb : JSs X body db)
    (hs : ∀ x, foldedSetIterable iter X.env x = pure x := by intro _; rfl) : JS X (.For tg iter body [] pos) (dFor di dg db) :=
  let ⟨_, h1, l1⟩ := hi
  let ⟨_, h2, l2⟩ := hg
  let ⟨_, h3, l3⟩ := hb
  ⟨_, ps_for hp hc h1 h2 h3 hs, ls_for l1 l2 l3⟩
end HD

namespace HD
open PySem PySem.Spec PyProof.Rows L2
variable {X : Cx} {K : PySem.W.Frag}
/-! ### statements -/
def dSeq (t u : DS) : DS := fun E s M => t { nx := u E, rt := E.rt, bk := E.bk, ct := E.ct } s M
def dNext : DS := fun E s M => E.nx s M
def dAsg (de : DE) (g : DG) : DS := fun E s M => de s M fun x M1 => g x s M1 E.nx
def dDrop (de : DE) : DS := fun E s M => de s M fun _ M1 => E.nx s M1
def dRet (de : DE) : DS := fun E s M => de s M E.rt
def dRetN : DS := fun E _ M => E.rt .non M
def dIfS (c : DT) (t u : DS) : DS := fun E s M => c s M fun k M1 => if k = true then t E s M1 else u E s M1
def dNever : DS := fun _ _ _ => False
def dBreak : DS := fun E s M => E.bk s M
def dCont : DS := fun E s M => E.ct s M
section
variable {st : Stmt} {rest : List Stmt} {t u : DS} {e : Expr} {de : DE} {pos : Pos}
theorem b_nil : JSs X [] dNext := ⟨_, pss_nil, fun Hm M s σ H Q P c hs p q => q.nx s M Hm H σ (Ex.refl _) (Fr.refl _ _ _) c hs p⟩
theorem b_cons (h1 : JS X st t) (h2 : JSs X rest u) : JSs X (st :: rest) (dSeq t u) :=
  let ⟨_, p1, l1⟩ := h1
  let ⟨_, p2, l2⟩ := h2
  ⟨_, pss_cons p1 p2, fun Hm M s σ H Q P c hs p q => l1 Hm M s σ H _ _ c hs p
    ⟨fun s1 M1 H1 h1 σ1 e1 f1 c1 hs1 p1 => l2 H1 M1 s1 σ1 h1 Q P c1 hs1 p1 (q.mono e1 f1), q.rt, q.bk, q.ct⟩⟩
theorem b_one (h1 : JS X st t) : JSs X [st] t := let ⟨_, p1, l1⟩ := h1; ⟨_, pss_one p1, l1⟩
theorem s_pass : JS X (.Pass pos) dNext := ⟨_, ps_pass, fun Hm M s σ H Q P c hs p q => q.nx s M Hm H σ (Ex.refl _) (Fr.refl _ _ _) c hs p⟩
theorem s_break : JS X (.Break pos) dBreak := ⟨_, ps_break, fun Hm M s σ H Q P c hs p q => q.bk s M Hm H σ (Ex.refl _) (Fr.refl _ _ _) c hs p⟩
theorem s_cont : JS X (.Continue pos) dCont := ⟨_, ps_continue, fun Hm M s σ H Q P c hs p q => q.ct s M Hm H σ (Ex.refl _) (Fr.refl _ _ _) c hs p⟩
theorem s_doc {x j pos'} : JS X (.Expr (.Constant (.str x) j pos) pos') dNext := ⟨_, ps_doc, fun Hm M s σ H Q P c hs p q => q.nx s M Hm H σ (Ex.refl _) (Fr.refl _ _ _) c hs p⟩
theorem s_expr (h : JE X e de) (hs : swapsWith e none pos.line X.env = pure false := by rfl) : JS X (.Expr e pos) (dDrop de) :=
  let ⟨_, h1, l1⟩ := h
  ⟨_, ps_expr h1 hs, fun Hm M s σ H Q P c hs p q => l1 Hm M s σ H _ _ c hs p fun d M1 H1 h v e f c1 r p1 => q.nx s M1 H1 h σ e f c1 (hs.mono e) p1⟩
theorem s_ret (h : JE X e de) : JS X (.Return (some e) pos) (dRet de) :=
  let ⟨_, h1, l1⟩ := h
  ⟨_, ps_ret h1, fun Hm M s σ H Q P c hs p q => l1 Hm M s σ H _ _ c hs p q.rt⟩
theorem s_retN : JS X (.Return none pos) dRetN := ⟨_, ps_retN, fun Hm M s σ H Q P c hs p q => q.rt _ M Hm H _ (Ex.refl _) (Fr.refl _ _ _) c of_non p⟩
theorem s_if {c : Expr} {a b : List Stmt} {dt : DT} (hc : JT X c dt) (ha : JSs X a t) (hb : JSs X b u) : JS X (.If c a b pos) (dIfS dt t u) :=
  let ⟨_, h0, l0⟩ := hc
  let ⟨_, h1, l1⟩ := ha
  let ⟨_, h2, l2⟩ := hb
  ⟨_, ps_if h0 h1 h2, fun Hm M s σ H Q P c hs p q => l0 Hm M s σ H _ _ c hs p fun k M1 H1 h e f c1 p1 => by
    cases k with
    | true => exact l1 H1 M1 s σ h Q P c1 (hs.mono e) p1 (q.mono e f)
    | false => exact l2 H1 M1 s σ h Q P c1 (hs.mono e) p1 (q.mono e f)⟩
theorem s_never : JS X st dNever := ⟨_, ps_never, fun _ _ _ _ _ _ _ _ _ p _ => p.elim⟩
theorem b_never {sts : List Stmt} : JSs X sts dNever := ⟨_, pss_never, fun _ _ _ _ _ _ _ _ _ p _ => p.elim⟩
theorem ls_asg {te : TE} {g : TG} {dg : DG} (h1 : LE K te de) (h2 : LG K g dg) : LS K (tAsg te g) (dAsg de dg) := fun Hm M s σ H Q P c hs p q =>
  h1 Hm M s σ H _ _ c hs p fun d M1 H1 h v e f c1 r p1 => h2 H1 M1 s σ h d v _ _ c1 (hs.mono e) r p1 (q.nx.mono e f)
theorem s_set {i : Nat} {x : Str} {pos' : Pos} (hN : X.N.Nodup) (hi : X.N[i]? = some x) (hx : Loc X.env.scope x) (h : JE X e de) (hs : swapsWith e (some (.Name x pos')) pos.line X.env = pure false := by rfl)
    (hf : X.fn x = true ∨ X.env.scope.names.lookup x = some .local := by first | exact .inl rfl | exact .inr rfl | assumption) : JS X (.Assign [.Name x pos'] e pos) (dAsg de (dgName i)) :=
  let ⟨_, h1, l1⟩ := h
  ⟨_, ps_set hN hi hx h1 hs hf, ls_asg l1 (lg_name i)⟩
theorem s_asg {tg : Expr} {dg : DG} (h : JE X e de) (hg : JG X tg dg) (hs : swapsWithSole [tg] e pos.line X.env = pure false := by rfl) (hw : swappedStores [tg] e X.env = pure none := by rfl)
    (h1 : (assignEach [tg] X.env).map (·.2) = [assign tg X.env] := by rfl) : JS X (.Assign [tg] e pos) (dAsg de dg) :=
  let ⟨_, p1, l1⟩ := h
  let ⟨_, p2, l2⟩ := hg
  ⟨_, ps_asg p1 p2 hs hw h1, ls_asg l1 l2⟩
/-- a, b = x, y; a, b, c = x, y, z: plain local names -/
def dPar (i j : Nat) (da : DA) : DS := fun E s M => da s M fun xs M1 => ∃ x y, xs = [x, y] ∧ E.nx ((s.set i (some x)).set j (some y)) M1
def dPar3 (i j l : Nat) (da : DA) : DS := fun E s M => da s M fun xs M1 => ∃ x y z, xs = [x, y, z] ∧ E.nx (((s.set i (some x)).set j (some y)).set l (some z)) M1
theorem s_par {i j : Nat} {x y : Str} {a b : Expr} {da : DA} {px py pt : Pos} {kt k2 pt2} (hc : X.calm = true) (hN : X.N.Nodup) (hi : X.N[i]? = some x) (hj : X.N[j]? = some y) (hij : i ≠ j) (hx : X.env.scope.names.lookup x = some .local) (hy : X.env.scope.names.lookup y = some .local)
    (ha : JA X [a, b] da) (hw : swappedStores [.Tuple [.Name x px, .Name y py] kt pt] (.Tuple [a, b] k2 pt2) X.env = pure (some [x, y]) := by rfl) (hs : swapsWithSole [.Tuple [.Name x px, .Name y py] kt pt] (.Tuple [a, b] k2 pt2) pos.line X.env = pure false := by rfl) :
    JS X (.Assign [.Tuple [.Name x px, .Name y py] kt pt] (.Tuple [a, b] k2 pt2) pos) (dPar i j da) :=
  let ⟨_, h1, l1⟩ := ha
  ⟨_, ps_par hc hN hi hj hij hx hy h1 hw hs, fun Hm M s σ H Q P c hs p q => l1 Hm M s σ H _ _ c hs p fun xs M1 H1 h vs e f c1 r ⟨x, y, ex, p1⟩ => by
    subst ex
    unfold RepL at r
    obtain ⟨v, ws, rfl, r1, r2⟩ := r
    unfold RepL at r2
    obtain ⟨w, us, rfl, r2, r3⟩ := r2
    unfold RepL at r3
    subst r3
    exact ⟨v, w, rfl, q.nx _ M1 H1 h _ e f c1 (((hs.mono e).set r1 i).set r2 j) p1⟩⟩
theorem s_par3 {i j l : Nat} {x y z : Str} {a b c : Expr} {da : DA} {px py pz pt : Pos} {kt k2 pt2} (hc : X.calm = true) (hN : X.N.Nodup) (hi : X.N[i]? = some x) (hj : X.N[j]? = some y) (hl : X.N[l]? = some z) (hij : i ≠ j) (hil : i ≠ l) (hjl : j ≠ l)
    (hx : X.env.scope.names.lookup x = some .local) (hy : X.env.scope.names.lookup y = some .local) (hz : X.env.scope.names.lookup z = some .local) (ha : JA X [a, b, c] da)
    (hw : swappedStores [.Tuple [.Name x px, .Name y py, .Name z pz] kt pt] (.Tuple [a, b, c] k2 pt2) X.env = pure (some [x, y, z]) := by rfl)
    (hs : swapsWithSole [.Tuple [.Name x px, .Name y py, .Name z pz] kt pt] (.Tuple [a, b, c] k2 pt2) pos.line X.env = pure false := by rfl) :
    JS X (.Assign [.Tuple [.Name x px, .Name y py, .Name z pz] kt pt] (.Tuple [a, b, c] k2 pt2) pos) (dPar3 i j l da) :=
  let ⟨_, h1, l1⟩ := ha
  ⟨_, ps_par3 hc hN hi hj hl hij hil hjl hx hy hz h1 hw hs, fun Hm M s σ H Q P c hs p q => l1 Hm M s σ H _ _ c hs p fun xs M1 H1 h vs e f c1 r ⟨x, y, z, ex, p1⟩ => by
    subst ex
    unfold RepL at r
    obtain ⟨v, ws, rfl, r1, r2⟩ := r
    unfold RepL at r2
    obtain ⟨w, us, rfl, r2, r3⟩ := r2
    unfold RepL at r3
    obtain ⟨w2, us2, rfl, r3, r4⟩ := r3
    unfold RepL at r4
    subst r4
    exact ⟨v, w, w2, rfl, q.nx _ M1 H1 h _ e f c1 ((((hs.mono e).set r1 i).set r2 j).set r3 l) p1⟩⟩
end
/-! ### comprehensions -/
theorem wipe_get {σ : L2.St} {j : Nat} : ∀ vs : List Nat, (wipe σ vs)[j]? = if j ∈ vs then (if j < σ.length then some none else none) else σ[j]?
  | [] => by simp [wipe]
  | v :: vs => by
    unfold wipe
    rw [List.getElem?_set, wipe_length]
    by_cases h : v = j
    · subst h
      simp
    · have h' : ¬ j = v := fun z => h z.symm
      rw [if_neg h, wipe_get vs]
      simp [h']
theorem wipe_set {σ : L2.St} {i : Nat} {x : Option V} {vs : List Nat} (h : i ∈ vs) : wipe (σ.set i x) vs = wipe σ vs := by
  apply List.ext_getElem?
  intro j
  rw [wipe_get, wipe_get, List.length_set]
  by_cases hj : j ∈ vs
  · rw [if_pos hj, if_pos hj]
  · rw [if_neg hj, if_neg hj]
    exact List.getElem?_set_ne (by rintro rfl; exact hj h)
theorem wipe_wipe {σ : L2.St} {vs : List Nat} : wipe (wipe σ vs) vs = wipe σ vs := by
  apply List.ext_getElem?
  intro j
  rw [wipe_get, wipe_get, wipe_length]
  by_cases hj : j ∈ vs
  · rw [if_pos hj]
    simp [hj]
  · simp [hj]
def dwipe (s : DSt) : List Nat → DSt
  | [] => s
  | v :: vs => (dwipe s vs).set v none
theorem Sl.wipe {Hm : Hp} {s : DSt} {σ : L2.St} (h : Sl K Hm s σ) : ∀ vs : List Nat, Sl K Hm (dwipe s vs) (L2.wipe σ vs)
  | [] => h
  | v :: vs => (Sl.wipe h vs).forget v
/-- a target that stores into the block's own slots alone -/
def LGw (K : PySem.W.Frag) (vs : List Nat) (g : TG) (dg : DG) : Prop := ∀ Hm M s σ H d v Q P, Cfg K Hm M H → Sl K Hm s σ → Rep K Hm d v → dg d s M P →
  (∀ s' M' Hm' H' σ', Ex Hm Hm' → Fr Hm M H Hm' M' H' → Cfg K Hm' M' H' → Sl K Hm' s' σ' → wipe σ' vs = wipe σ vs → P s' M' → Q σ' H') → g v σ H Q
def LGsw (K : PySem.W.Frag) (vs : List Nat) (g : TGs) (dg : DGs) : Prop := ∀ Hm M s σ H ds ws Q P, Cfg K Hm M H → Sl K Hm s σ → RepL K Hm ds ws → dg ds s M P →
  (∀ s' M' Hm' H' σ', Ex Hm Hm' → Fr Hm M H Hm' M' H' → Cfg K Hm' M' H' → Sl K Hm' s' σ' → wipe σ' vs = wipe σ vs → P s' M' → Q σ' H') → g ws σ H Q
def JGw (X : Cx) (vs : List Nat) (e : Expr) (d : DG) : Prop := ∃ t, PG X e t ∧ LGw X.K vs t d
def JGsw (X : Cx) (vs : List Nat) (es : List Expr) (d : DGs) : Prop := ∃ t, PGs X es t ∧ LGsw X.K vs t d
theorem gw_name {vs : List Nat} {i : Nat} {x : Str} {pos : Pos} (hN : X.N.Nodup) (hi : X.N[i]? = some x) (hx : Loc X.env.scope x) (hv : i ∈ vs) (hf : X.fn x = true ∨ X.env.scope.names.lookup x = some .local := by first | exact .inl rfl | exact .inr rfl | assumption) : JGw X vs (.Name x pos) (dgName i) :=
  ⟨_, pg_name hN hi hx hf, fun Hm M s σ H d v Q P c hs r p q => q _ M Hm H _ (Ex.refl _) (Fr.refl _ _ _) c (hs.set r i) (wipe_set hv) p⟩
theorem gsw_nil {vs : List Nat} : JGsw X vs [] dgNil := ⟨_, pgs_nil, fun Hm M s σ H ds ws Q P c hs r ⟨e, p⟩ q => by
  subst e
  unfold RepL at r
  exact ⟨r, q s M Hm H σ (Ex.refl _) (Fr.refl _ _ _) c hs rfl p⟩⟩
theorem gsw_cons {vs : List Nat} {e : Expr} {es : List Expr} {g : DG} {gs : DGs} (h1 : JGw X vs e g) (h2 : JGsw X vs es gs) (hs : (assignEach (e :: es) X.env).map (·.2) = assign e X.env :: (assignEach es X.env).map (·.2) := by rfl) : JGsw X vs (e :: es) (dgCons g gs) :=
  let ⟨_, p1, l1⟩ := h1
  let ⟨_, p2, l2⟩ := h2
  ⟨_, pgs_cons p1 p2 hs, fun Hm M s σ H ds us Q P c hs r p q => by
    cases ds with
    | nil => exact p.elim
    | cons d ds =>
      unfold RepL at r
      obtain ⟨v, ws, rfl, r1, r2⟩ := r
      refine ⟨v, ws, rfl, ?_⟩
      refine l1 Hm M s σ H d v _ _ c hs r1 p fun s1 M1 H1 h1 σ1 e1 f1 c1 hs1 w1 p1 => ?_
      exact l2 H1 M1 s1 σ1 h1 ds ws Q P c1 hs1 (r2.mono e1) p1 fun s2 M2 H2 h2 σ2 e2 f2 c2 hs2 w2 p2 => q s2 M2 H2 h2 σ2 (e1.trans e2) (f1.trans f2) c2 hs2 (w2.trans w1) p2⟩
theorem gw_tup {vs : List Nat} {es : List Expr} {k n : Nat} {gs : DGs} {pos : Pos} (hc : X.calm = true) (h : JGsw X vs es gs) (hn : (assignEach es X.env).length = n := by rfl) (hst : (assignEach es X.env).findIdx? (·.1) = none := by rfl) : JGw X vs (.Tuple es k pos) (dgTup n gs) :=
  let ⟨_, p1, l1⟩ := h
  ⟨_, pg_tup hc p1 hn hst, fun Hm M s σ H d v Q P c hs r p q => by
    cases d <;> first | (exact p.elim; done) | skip
    obtain ⟨a, us, rfl, h1, r1⟩ := tup_at c r
    exact ⟨a, us, rfl, h1, by rw [r1.len]; exact p.1, l1 Hm M s σ H _ us Q P c hs r1 p.2 q⟩⟩
/-- the tests of a comprehension -/
def JTs (X : Cx) (ifs : List Expr) (d : DT) : Prop := ∃ t, PTs X ifs t ∧ LT X.K t d
def dYes : DT := fun _ M P => P true M
theorem ts_nil : JTs X [] dYes := ⟨_, pts_nil, fun Hm M s σ H Q P c hs p q => q _ M Hm H (Ex.refl _) (Fr.refl _ _ _) c p⟩
theorem ts_one {c : Expr} {d : DT} (h : JT X c d) : JTs X [c] d := let ⟨_, h1, l1⟩ := h; ⟨_, pts_one h1, l1⟩
/-- one reading for all blocks -/
abbrev Blk (X : Cx) (scope : Scope) (s : Shared) (H : Hp) (C : Addr) (cl : List (Str × Addr)) (fp : List Addr) : Cx := X.blk s H scope (compEnvC scope cl C X.env) fp
theorem all_E {scope : Scope} {e : Expr} {de : DE} (h_ : ∀ s H C cl fp, JE (Blk X scope s H C cl fp) e de) : ∃ t, (∀ s H C cl fp, PE (Blk X scope s H C cl fp) e t) ∧ LE X.K t de :=
  ⟨fun σ H Q => ∀ s h C cl fp, Classical.choose (h_ s h C cl fp) σ H Q, fun s h C cl fp => ⟨fun pins s' σ H Q I q => (Classical.choose_spec (h_ s h C cl fp)).1.run pins s' σ H Q I (q s h C cl fp)⟩,
    fun Hm M s σ H Q P c hs p q s' h' C cl fp => (Classical.choose_spec (h_ s' h' C cl fp)).2 Hm M s σ H Q P c hs p q⟩
theorem all_T {scope : Scope} {ifs : List Expr} {dt : DT} (h_ : ∀ s H C cl fp, JTs (Blk X scope s H C cl fp) ifs dt) : ∃ t, (∀ s H C cl fp, PTs (Blk X scope s H C cl fp) ifs t) ∧ LT X.K t dt :=
  ⟨fun σ H Q => ∀ s h C cl fp, Classical.choose (h_ s h C cl fp) σ H Q, fun s h C cl fp => ⟨fun pins s' σ H Q I q => (Classical.choose_spec (h_ s h C cl fp)).1.run pins s' σ H Q I (q s h C cl fp)⟩,
    fun Hm M s σ H Q P c hs p q s' h' C cl fp => (Classical.choose_spec (h_ s' h' C cl fp)).2 Hm M s σ H Q P c hs p q⟩
theorem all_G {scope : Scope} {vs : List Nat} {e : Expr} {dg : DG} (h_ : ∀ s H C cl fp, JGw (Blk X scope s H C cl fp) vs e dg) : ∃ t, (∀ s H C cl fp, PG (Blk X scope s H C cl fp) e t) ∧ LGw X.K vs t dg :=
  ⟨fun v σ H Q => ∀ s h C cl fp, Classical.choose (h_ s h C cl fp) v σ H Q, fun s h C cl fp => ⟨fun pins s' σ H v u Q I r q => (Classical.choose_spec (h_ s h C cl fp)).1.run pins s' σ H v u Q I r (q s h C cl fp)⟩,
    fun Hm M s σ H d v Q P c hs r p q s' h' C cl fp => (Classical.choose_spec (h_ s' h' C cl fp)).2 Hm M s σ H d v Q P c hs r p q⟩
theorem Fr.loose {Hm Hm' H H' : Hp} {M M' : Mm} {p : Addr} {o : HO} (a : Fr Hm M H Hm' M' H') (h : H p = none) : Fr Hm M H Hm' M' (upd H' p o) := fun x u g hx e => by
  obtain ⟨e1, h1, g1⟩ := a x u g hx e
  exact ⟨by rw [upd_ne (ne_of_none e h)]; exact e1, h1, g1⟩
/-- what is added at p is known: nothing else is -/
theorem Fr.know {Hm Hm' H H' : Hp} {M M' : Mm} {p : Addr} {o : HO} (a : Fr Hm M H Hm' M' H') (h : H p = none) : Fr Hm M H (upd Hm' p o) M' H' := fun x u g hx e => by
  obtain ⟨e1, h1, g1⟩ := a x u g hx e
  exact ⟨e1, h1, by rw [upd_ne (ne_of_none e h)]; exact g1⟩
/-- what a list comprehension makes of the items -/
def lcD (g : DG) (tt : DT) (te : DE) (s : DSt) : List D → List D → Mm → (List D → Mm → Prop) → Prop
  | [], acc, M, P => P acc M
  | x :: xs, acc, M, P => g x s M fun s2 M2 => tt s2 M2 fun b M3 => if b = true then te s2 M3 fun y M4 => acc.length < sizeLine ∧ lcD g tt te s xs (acc ++ [y]) M4 P else lcD g tt te s xs acc M3 P
def dLc (di : DI) (g : DG) (tt : DT) (te : DE) (vs : List Nat) : DE := fun s M P => di s M fun xs M1 => lcD g tt te (dwipe s vs) xs [] M1 fun ys M2 => P (.lst ys) M2
/-- a thing that the heap has besides is known from now on -/
theorem Cfg.know {Hm H : Hp} {M : Mm} (c : Cfg K Hm M H) {p : Addr} {o : HO} (h : H p = some o) (h1 : Hm p = none) (h2 : M p = none) : Ex Hm (upd Hm p o) ∧ Cfg K (upd Hm p o) M H := by
  have e : Ex Hm (upd Hm p o) := Ex.new h1
  refine ⟨e, ⟨fun a u q => ?_, fun a m q => ?_⟩⟩
  · by_cases z : a = p
    · subst z; rw [upd_same] at q; cases q; exact h
    · rw [upd_ne z] at q; exact c.ex a u q
  · have z : a ≠ p := by rintro rfl; rw [h2] at q; cases q
    obtain ⟨q1, o', q2, q3⟩ := c.mu a m q
    exact ⟨by rw [upd_ne z]; exact q1, o', q2, MRep.mono e q3⟩
/-- what is neither known nor a cell may change -/
theorem Cfg.loose {Hm H : Hp} {M : Mm} (c : Cfg K Hm M H) {p : Addr} {o : HO} (h1 : Hm p = none) (h2 : M p = none) : Cfg K Hm M (upd H p o) := by
  refine ⟨fun a u q => ?_, fun a m q => ?_⟩
  · have z : a ≠ p := by rintro rfl; rw [h1] at q; cases q
    rw [upd_ne z]; exact c.ex a u q
  · have z : a ≠ p := by rintro rfl; rw [h2] at q; cases q
    obtain ⟨q1, o', q2, q3⟩ := c.mu a m q
    exact ⟨q1, o', by rw [upd_ne z]; exact q2, q3⟩
theorem le_lc {wi : TI} {g : TG} {tt : TT} {te : TE} {di : DI} {dg : DG} {dt : DT} {de : DE} {vs : List Nat} (hi : LI K wi di) (hg : LGw K vs g dg) (ht : LT K tt dt) (he : LE K te de) : LE K (tLc wi g tt te vs) (dLc di dg dt de vs) := fun Hm M s σ H Q P c hs p q => by
  refine hi Hm M s σ H _ _ c hs p fun xs M1 H1 h1 J e1 f1 c1 it p1 => ?_
  intro A hA
  obtain ⟨nA, mA⟩ := c1.free hA
  -- between the turns: the list at A, neither known nor a cell
  refine ⟨fun i m h' => i + m = xs.length ∧ ∃ Hm' M' acc vacc, Ex H1 Hm' ∧ Fr H1 M1 h1 Hm' M' h' ∧ Cfg K Hm' M' h' ∧ h' A = some (.lst vacc) ∧ Hm' A = none ∧ M' A = none ∧ RepL K Hm' acc vacc ∧ lcD dg dt de (dwipe s vs) (xs.drop i) acc M' (fun ys M2 => P (.lst ys) M2),
    ⟨xs.length, Nat.zero_add _, H1, M1, [], [], Ex.refl _, Fr.new' hA, c1.loose nA mA, upd_same, nA, mA, RepL.nil, p1⟩, ?_⟩
  rintro i m h' ⟨hm, H2, M2, acc, vacc, e2, f2, c2, a2, n2, m2, r2, p2⟩
  by_cases hlt : i < xs.length
  · refine .inr ⟨it.goes i H2 M2 h' hlt e2 c2, fun h3 => ∃ Hm' M' acc vacc, Ex H1 Hm' ∧ Fr H1 M1 h1 Hm' M' h3 ∧ Cfg K Hm' M' h3 ∧ h3 A = some (.lst vacc) ∧ Hm' A = none ∧ M' A = none ∧ RepL K Hm' acc vacc ∧ lcD dg dt de (dwipe s vs) (xs.drop (i + 1)) acc M' (fun ys M2 => P (.lst ys) M2),
      fun h3 w => ⟨m - 1, by omega, by omega, w⟩, fun x h3 y => ?_⟩
    obtain ⟨d, H3, hd, e3, f3, c3, r⟩ := it.gives i H2 M2 h' x h3 hlt e2 c2 y
    rw [List.drop_eq_getElem_cons hlt] at p2
    have hd' : xs[i] = d := by
      rw [List.getElem?_eq_getElem hlt] at hd
      exact Option.some.inj hd
    rw [hd'] at p2
    obtain ⟨a3, _, n3⟩ := f3 A _ n2 m2 a2
    refine hg H3 M2 (dwipe s vs) (wipe σ vs) h3 d x _ _ c3 ((hs.mono ((e1.trans e2).trans e3)).wipe vs) r p2 fun s4 M4 H4 h4 σ4 e4 f4 c4 hs4 w4 p4 => ?_
    obtain ⟨a4, m4, n4⟩ := f4 A _ n3 m2 a3
    refine ⟨w4.trans wipe_wipe, ht H4 M4 s4 σ4 h4 _ _ c4 hs4 p4 fun b M5 H5 h5 e5 f5 c5 p5 => ?_⟩
    obtain ⟨a5, m5, n5⟩ := f5 A _ n4 m4 a4
    have ee := ((e2.trans e3).trans (e4.trans e5))
    have ff := ((f2.trans f3).trans (f4.trans f5))
    cases b with
    | false => exact ⟨H5, M5, acc, vacc, ee, ff, c5, a5, n5, m5, r2.mono ((e3.trans e4).trans e5), p5⟩
    | true =>
      refine he H5 M5 s4 σ4 h5 _ _ c5 (hs4.mono e5) p5 fun y M6 H6 h6 v6 e6 f6 c6 r6 p6 => ?_
      obtain ⟨a6, m6, n6⟩ := f6 A _ n5 m5 a5
      exact ⟨vacc, a6, by rw [r2.len]; exact p6.1, H6, M6, acc ++ [y], vacc ++ [v6], ee.trans e6, (ff.trans f6).loose hA, c6.loose n6 m6, upd_same, n6, m6,
        RepL.append (r2.mono (((e3.trans e4).trans e5).trans e6)) (RepL.cons r6 RepL.nil), p6.2⟩
  · have ei : i = xs.length := by omega
    subst ei
    rw [List.drop_length] at p2
    refine .inl ⟨it.stops H2 M2 h' e2 c2, ?_⟩
    obtain ⟨e3, c3⟩ := c2.know a2 n2 m2
    exact q _ M2 _ h' _ ((e1.trans e2).trans e3) (f1.trans (f2.know hA)) c3 (Rep.lst' upd_same (r2.mono e3)) p2
section
variable {elt tg iter : Expr} {ifs : List Expr} {scope : Scope} {own : List (Str × Nat)} {pos : Pos} {di : DI} {dg : DG} {dt : DT} {de : DE}
theorem j_lc (hc : X.calm = true) (hN : X.N.Nodup) (ok : BlkOk X.N X.env.scope scope own) (hi : JI X tg iter di)
    (hg : ∀ s H C cl fp, JGw (Blk X scope s H C cl fp) (own.map (·.2)) tg dg) (ht : ∀ s H C cl fp, JTs (Blk X scope s H C cl fp) ifs dt) (he : ∀ s H C cl fp, JE (Blk X scope s H C cl fp) elt de)
    (hs : ∀ x, foldedSetIterable iter X.env x = pure x := by intro _; rfl) : JE X (.ListComp elt [⟨tg, iter, ifs, 0⟩] scope pos) (dLc di dg dt de (own.map (·.2))) :=
  let ⟨_, h0, l0⟩ := hi
  let ⟨_, h1, l1⟩ := all_G hg
  let ⟨_, h2, l2⟩ := all_T ht
  let ⟨_, h3, l3⟩ := all_E he
  ⟨_, pe_lc hc hN h0 ok h1 h2 h3 hs, le_lc l0 l1 l2 l3⟩
/-- name = [..] -/
theorem s_setLc {i : Nat} {y : Str} {py spos : Pos} (hc : X.calm = true) (hN : X.N.Nodup) (hy : X.N[i]? = some y) (hyl : X.env.scope.names.lookup y = some .local)
    (hsw : swapsWith (.ListComp elt [⟨tg, iter, ifs, 0⟩] scope pos) (some (.Name y py)) spos.line X.env = pure true) (ok : BlkOk X.N X.env.scope scope own) (hi : JI X tg iter di)
    (hg : ∀ s H C cl fp, JGw (Blk X scope s H C cl fp) (own.map (·.2)) tg dg) (ht : ∀ s H C cl fp, JTs (Blk X scope s H C cl fp) ifs dt) (he : ∀ s H C cl fp, JE (Blk X scope s H C cl fp) elt de)
    (hs : ∀ x, foldedSetIterable iter X.env x = pure x := by intro _; rfl) : JS X (.Assign [.Name y py] (.ListComp elt [⟨tg, iter, ifs, 0⟩] scope pos) spos) (dAsg (dLc di dg dt de (own.map (·.2))) (dgName i)) :=
  let ⟨_, h0, l0⟩ := hi
  let ⟨_, h1, l1⟩ := all_G hg
  let ⟨_, h2, l2⟩ := all_T ht
  let ⟨_, h3, l3⟩ := all_E he
  ⟨_, ps_setLc hc hN hy hyl hsw h0 ok h1 h2 h3 hs, ls_asg (le_lc l0 l1 l2 l3) (lg_name i)⟩
end
/-! ### dict comprehensions -/
def putD (ks : List Key) (ds : List D) (k : Key) (d : D) : List Key × List D :=
  if hasK ks k = true then (ks, (ks.zip ds).map fun p => if p.1 = k then d else p.2) else (ks ++ [k], ds ++ [d])
theorem zip_fst {α β : Type} : ∀ {ks : List α} {vs : List β}, ks.length = vs.length → (ks.zip vs).map (·.1) = ks
  | [], [], _ => rfl
  | k :: ks, v :: vs, h => by rw [List.zip_cons_cons, List.map_cons, zip_fst (by simpa using h)]
theorem put_any {ks : List Key} {vs : List V} {k : Key} (h : ks.length = vs.length) : ((ks.zip vs).any fun kv => decide (kv.1 = k)) = hasK ks k := by
  unfold hasK
  conv => rhs; rw [← zip_fst h]
  rw [List.any_map]
  rfl
theorem repl_rep {Hm : Hp} {k : Key} {d : D} {v : V} (r : Rep K Hm d v) : ∀ {ks : List Key} {ds : List D} {vs : List V}, ks.length = ds.length → RepL K Hm ds vs →
    ∃ ws, (ks.zip vs).map (fun kv => if kv.1 = k then (kv.1, v) else kv) = ks.zip ws ∧ RepL K Hm ((ks.zip ds).map fun p => if p.1 = k then d else p.2) ws
  | [], ds, vs, _, _ => ⟨[], rfl, by simp; exact RepL.nil⟩
  | k' :: ks, [], vs, h, _ => by cases h
  | k' :: ks, e :: ds, vs, h, rs => by
    unfold RepL at rs
    obtain ⟨u, us, rfl, r1, r2⟩ := rs
    obtain ⟨ws, h1, h2⟩ := repl_rep (k := k) r (by simpa using h) r2
    by_cases z : k' = k
    · subst z
      exact ⟨v :: ws, by simp [h1], by simp; exact RepL.cons r h2⟩
    · exact ⟨u :: ws, by simp [z, h1], by simp [z]; exact RepL.cons r1 h2⟩
theorem put_rep {Hm : Hp} {k : Key} {d : D} {v : V} {ks : List Key} {ds : List D} {vs : List V} (r : Rep K Hm d v) (h : ks.length = ds.length) (rs : RepL K Hm ds vs) :
    ∃ ws, putK (ks.zip vs) k v = (putD ks ds k d).1.zip ws ∧ (putD ks ds k d).1.length = (putD ks ds k d).2.length ∧ RepL K Hm (putD ks ds k d).2 ws := by
  have hl : ks.length = vs.length := by rw [rs.len]; exact h
  unfold putK putD
  rw [put_any hl]
  by_cases z : hasK ks k = true
  · rw [if_pos z, if_pos z]
    obtain ⟨ws, h1, h2⟩ := repl_rep (k := k) r h rs
    exact ⟨ws, h1, by simp [h], h2⟩
  · rw [if_neg z, if_neg z]
    exact ⟨vs ++ [v], by rw [List.zip_append hl]; rfl, by simp [h], RepL.append rs (RepL.cons r RepL.nil)⟩
def dcD (g : DG) (tt : DT) (tk tv : DE) (s : DSt) : List D → List Key → List D → Mm → (List Key → List D → Mm → Prop) → Prop
  | [], ks, ds, M, P => P ks ds M
  | x :: xs, ks, ds, M, P => g x s M fun s2 M2 => tt s2 M2 fun b M3 => if b = true then tk s2 M3 fun y M4 => tv s2 M4 fun z M5 => ∃ k, keyD y = some k ∧ ks.length < sizeLine ∧ dcD g tt tk tv s xs (putD ks ds k z).1 (putD ks ds k z).2 M5 P else dcD g tt tk tv s xs ks ds M3 P
def dDc (di : DI) (g : DG) (tt : DT) (tk tv : DE) (vs : List Nat) : DE := fun s M P => di s M fun xs M1 => dcD g tt tk tv (dwipe s vs) xs [] [] M1 fun ks ds M2 => P (.dic ks ds) M2
theorem le_dc {wi : TI} {g : TG} {tt : TT} {tk tv : TE} {di : DI} {dg : DG} {dt : DT} {dk dv : DE} {vs : List Nat} (hi : LI K wi di) (hg : LGw K vs g dg) (ht : LT K tt dt) (hk : LE K tk dk) (hv : LE K tv dv) : LE K (tDc wi g tt tk tv vs) (dDc di dg dt dk dv vs) := fun Hm M s σ H Q P c hs p q => by
  refine hi Hm M s σ H _ _ c hs p fun xs M1 H1 h1 J e1 f1 c1 it p1 => ?_
  intro A hA
  obtain ⟨nA, mA⟩ := c1.free hA
  refine ⟨fun i m h' => i + m = xs.length ∧ ∃ Hm' M' ks ds us, Ex H1 Hm' ∧ Fr H1 M1 h1 Hm' M' h' ∧ Cfg K Hm' M' h' ∧ h' A = some (.dK (ks.zip us)) ∧ Hm' A = none ∧ M' A = none ∧ ks.length = ds.length ∧ RepL K Hm' ds us ∧ dcD dg dt dk dv (dwipe s vs) (xs.drop i) ks ds M' (fun ks ds M2 => P (.dic ks ds) M2),
    ⟨xs.length, Nat.zero_add _, H1, M1, [], [], [], Ex.refl _, Fr.new' hA, c1.loose nA mA, upd_same, nA, mA, rfl, RepL.nil, p1⟩, ?_⟩
  rintro i m h' ⟨hm, H2, M2, ks, ds, us, e2, f2, c2, a2, n2, m2, l2, r2, p2⟩
  by_cases hlt : i < xs.length
  · refine .inr ⟨it.goes i H2 M2 h' hlt e2 c2, fun h3 => ∃ Hm' M' ks ds us, Ex H1 Hm' ∧ Fr H1 M1 h1 Hm' M' h3 ∧ Cfg K Hm' M' h3 ∧ h3 A = some (.dK (ks.zip us)) ∧ Hm' A = none ∧ M' A = none ∧ ks.length = ds.length ∧ RepL K Hm' ds us ∧ dcD dg dt dk dv (dwipe s vs) (xs.drop (i + 1)) ks ds M' (fun ks ds M2 => P (.dic ks ds) M2),
      fun h3 w => ⟨m - 1, by omega, by omega, w⟩, fun x h3 y => ?_⟩
    obtain ⟨d, H3, hd, e3, f3, c3, r⟩ := it.gives i H2 M2 h' x h3 hlt e2 c2 y
    rw [List.drop_eq_getElem_cons hlt] at p2
    have hd' : xs[i] = d := by
      rw [List.getElem?_eq_getElem hlt] at hd
      exact Option.some.inj hd
    rw [hd'] at p2
    obtain ⟨a3, _, n3⟩ := f3 A _ n2 m2 a2
    refine hg H3 M2 (dwipe s vs) (wipe σ vs) h3 d x _ _ c3 ((hs.mono ((e1.trans e2).trans e3)).wipe vs) r p2 fun s4 M4 H4 h4 σ4 e4 f4 c4 hs4 w4 p4 => ?_
    obtain ⟨a4, m4, n4⟩ := f4 A _ n3 m2 a3
    refine ⟨w4.trans wipe_wipe, ht H4 M4 s4 σ4 h4 _ _ c4 hs4 p4 fun b M5 H5 h5 e5 f5 c5 p5 => ?_⟩
    obtain ⟨a5, m5, n5⟩ := f5 A _ n4 m4 a4
    have ee := ((e2.trans e3).trans (e4.trans e5))
    have ff := ((f2.trans f3).trans (f4.trans f5))
    cases b with
    | false => exact ⟨H5, M5, ks, ds, us, ee, ff, c5, a5, n5, m5, l2, r2.mono ((e3.trans e4).trans e5), p5⟩
    | true =>
      refine hk H5 M5 s4 σ4 h5 _ _ c5 (hs4.mono e5) p5 fun y M6 H6 h6 v6 e6 f6 c6 r6 p6 => ?_
      obtain ⟨a6, m6, n6⟩ := f6 A _ n5 m5 a5
      refine hv H6 M6 s4 σ4 h6 _ _ c6 (hs4.mono (e5.trans e6)) p6 fun z M7 H7 h7 v7 e7 f7 c7 r7 p7 => ?_
      obtain ⟨a7, m7, n7⟩ := f7 A _ n6 m6 a6
      obtain ⟨k, hkk, hz, p7⟩ := p7
      have rr := r2.mono ((((e3.trans e4).trans e5).trans e6).trans e7)
      obtain ⟨ws, g1, g2, g3⟩ := put_rep (k := k) r7 l2 rr
      have hl : (ks.zip us).length = ks.length := by simp [List.length_zip, r2.len, l2]
      exact ⟨ks.zip us, k, rep_key r6 hkk, a7, by rw [hl]; exact hz, H7, M7, _, _, ws, (ee.trans e6).trans e7, ((ff.trans f6).trans f7).loose hA, c7.loose n7 m7, by rw [upd_same, g1], n7, m7, g2, g3, p7⟩
  · have ei : i = xs.length := by omega
    subst ei
    rw [List.drop_length] at p2
    refine .inl ⟨it.stops H2 M2 h' e2 c2, ?_⟩
    obtain ⟨e3, c3⟩ := c2.know a2 n2 m2
    refine q _ M2 _ h' _ ((e1.trans e2).trans e3) (f1.trans (f2.know hA)) c3 ?_ p2
    unfold Rep
    exact ⟨A, us, rfl, upd_same, l2, r2.mono e3⟩
theorem j_dc {kx vx tg iter : Expr} {ifs : List Expr} {scope : Scope} {own : List (Str × Nat)} {pos : Pos} {di : DI} {dg : DG} {dt : DT} {dk dv : DE} (hc : X.calm = true) (hN : X.N.Nodup) (ok : BlkOk X.N X.env.scope scope own) (hi : JI X tg iter di)
    (hg : ∀ s H C cl fp, JGw (Blk X scope s H C cl fp) (own.map (·.2)) tg dg) (ht : ∀ s H C cl fp, JTs (Blk X scope s H C cl fp) ifs dt) (hk : ∀ s H C cl fp, JE (Blk X scope s H C cl fp) kx dk) (hv : ∀ s H C cl fp, JE (Blk X scope s H C cl fp) vx dv)
    (hs : ∀ x, foldedSetIterable iter X.env x = pure x := by intro _; rfl) : JE X (.DictComp kx vx [⟨tg, iter, ifs, 0⟩] scope pos) (dDc di dg dt dk dv (own.map (·.2))) :=
  let ⟨_, h0, l0⟩ := hi
  let ⟨_, h1, l1⟩ := all_G hg
  let ⟨_, h2, l2⟩ := all_T ht
  let ⟨_, h3, l3⟩ := all_E hk
  let ⟨_, h4, l4⟩ := all_E hv
  ⟨_, pe_dc hc hN h0 ok h1 h2 h3 h4 hs, le_dc l0 l1 l2 l3 l4⟩
end HD

namespace HD
open PySem PySem.Spec PyProof.Rows L2
variable {X : Cx} {K : PySem.W.Frag}
/-! ### contracts on data -/
abbrev DSp := List D → Mm → (D → Mm → Prop) → Prop
def spOf (K : PySem.W.Frag) (c : DSp) : Sp := fun vs H Q _ => ∃ Hm M ds P, Cfg K Hm M H ∧ RepL K Hm ds vs ∧ c ds M P ∧ PostE K Hm M H P Q
/-- behind a def: cells of its own may be forgotten -/
def Ret (P : D → Mm → Prop) : D → Mm → Prop := fun d M => ∃ M', (∀ a m, M' a = some m → M a = some m) ∧ P d M'
theorem Ret.of {P : D → Mm → Prop} {d : D} {M : Mm} (h : P d M) : Ret P d M := ⟨M, fun _ _ e => e, h⟩
section
variable {P : Program} {w : World} {mg : Str → Option Value} {base : Heap}
/-- a def by its body -/
theorem bodyD {N : List Str} {qual : Str} {sc : Scope} {f : Addr} {k : Nat} {body : List Stmt} {c : DSp}
    (h : ∀ cd A outer s H, RmG k (Around.deeper A (envOfC qual sc (Shared.heap s).objs.size f cd)) → ∃ d, JSs (cxOf CX0 P w K mg base N qual sc f cd A outer s H E0).nox body d ∧
      ∀ ds M R, c ds M R → d { nx := fun _ M' => Ret R .non M', rt := Ret R } (dstart N.length ds) M) : BodyG P w K mg base N qual sc f k body (spOf K c) := by
  intro cd A outer s H vs Q hr hsp
  obtain ⟨d, ⟨t, ht, lt⟩, hd⟩ := h cd A outer s H hr
  obtain ⟨Hm, M, ds, R, hc, hr, hR, hp⟩ := hsp
  have fin : PostE K Hm M H (Ret R) Q := fun x M' Hm' H' v e f c r ⟨M2, hs, p⟩ => hp x M2 Hm' H' v e (f.sub hs) (c.sub hs) r p
  exact ⟨t, ht, lt Hm M _ _ H _ _ hc (Sl.begin hr) (hd ds M R hR)
    ⟨fun s M' Hm' H' σ e f c _ p => fin _ M' Hm' H' _ e f c of_non p, fin, fun _ _ _ _ _ _ _ _ _ p => p.elim, fun _ _ _ _ _ _ _ _ _ p => p.elim⟩⟩
/-- a def of the module that may be called by its name: k its level, dds its defaults -/
structure CalD (P : Program) (w : World) (K : PySem.W.Frag) (mg : Str → Option Value) (base : Heap) (k : Nat) (x : Str) (c : DSp) (dds : List D) : Prop where
  ex : ∃ (f : Addr) (fd : FuncData) (ps : List Str) (ds : List Value) (dvs : List V), FnG P w K mg base k f fd ps (spOf K c) ∧ mg x = some (.ref f) ∧ PySem.W.keepIn K (.ref f) = true ∧ Binds K fd ps ds ∧ Vals dvs ds ∧ ∀ Hm, RepL K Hm dds dvs
/-- a method of the class at C -/
structure MetD (P : Program) (w : World) (K : PySem.W.Frag) (mg : Str → Option Value) (base : Heap) (k : Nat) (C : Addr) (m : Str) (c : DSp) (dds : List D) : Prop where
  ex : ∃ (f : Addr) (fd : FuncData) (ps : List Str) (ds : List Value) (dvs : List V), Cls K C ∧ Meth K C m f ∧ FnG P w K mg base k f fd ps (spOf K c) ∧ Binds K fd ps ds ∧ Vals dvs ds ∧ ∀ Hm, RepL K Hm dds dvs
/-- a property -/
structure PrpD (P : Program) (w : World) (K : PySem.W.Frag) (mg : Str → Option Value) (base : Heap) (k : Nat) (C : Addr) (m : Str) (c : DSp) : Prop where
  ex : ∃ (p g : Addr) (fd : FuncData) (ps : List Str), Cls K C ∧ PropOf K C m p g ∧ FnG P w K mg base k g fd ps (spOf K c) ∧ Binds K fd ps []
/-- a class that is made by its name -/
structure MakD (P : Program) (w : World) (K : PySem.W.Frag) (mg : Str → Option Value) (base : Heap) (k : Nat) (x : Str) (C : Addr) (c : DSp) (dds : List D) : Prop where
  ex : ∃ (f : Addr) (fd : FuncData) (ps : List Str) (ds : List Value) (dvs : List V), Mk K C f ∧ FnG P w K mg base k f fd ps (spOf K c) ∧ mg x = some (.ref C) ∧ Binds K fd ps ds ∧ Vals dvs ds ∧ ∀ Hm, RepL K Hm dds dvs
end
def dCall (c : DSp) (dds : List D) (da : DA) : DE := fun s M P => da s M fun xs M1 => c (xs ++ dds) M1 P
theorem la_call {c : DSp} {dds : List D} {dvs : List V} {t : TA} {da : DA} (hd : ∀ Hm, RepL K Hm dds dvs) (h : LA K t da) : LE K (tCall (spOf K c) dvs E0 t) (dCall c dds da) := fun Hm M s σ H Q P hc hs p q =>
  h Hm M s σ H _ _ hc hs p fun xs M1 H1 h1 vs e f c1 r p1 => ⟨H1, M1, _, P, c1, RepL.append r (hd H1), p1, q.mono e f⟩
section
variable {k j : Nat} {C : Addr} {x m : Str} {c : DSp} {dds : List D} {p pos apos : Pos} {e o : Expr} {es : List Expr} {de : DE} {da : DA}
theorem j_call (h : CalD X.prog X.w X.K X.mg X.base k x c dds) (hr : RmG j X.A) (hk : k ≤ j) (ha : JA X (e :: es) da) (hg : Gl X x := by rfl) (n1 : (x == ("__debug__" : Str)) = false := by decide)
    (n2 : starEach (e :: es) X.env = (false, eval e X.env) :: starEach es X.env := by rfl) (n3 : (backTo pos (starEach es X.env)).any (·.1) = false := by rfl) : JE X (.Call (.Name x p) (e :: es) [] pos) (dCall c dds da) :=
  let ⟨_, _, _, _, _, F, hm, kp, b, d, hd⟩ := h.ex
  let ⟨_, h1, l1⟩ := ha
  ⟨_, peG_call F (hr.mono hk) hg hm kp b d h1 n1 n2 n3, la_call hd l1⟩
theorem j_call0 (h : CalD X.prog X.w X.K X.mg X.base k x c dds) (hr : RmG j X.A) (hk : k ≤ j) (hg : Gl X x := by rfl) (n1 : (x == ("__debug__" : Str)) = false := by decide) : JE X (.Call (.Name x p) [] [] pos) (dCall c dds dNil) :=
  let ⟨_, _, _, _, _, F, hm, kp, b, d, hd⟩ := h.ex
  ⟨_, peG_call0 F (hr.mono hk) hg hm kp b d n1, la_call hd fun Hm M s σ H Q P c hs p q => q [] M Hm H [] (Ex.refl _) (Fr.refl _ _ _) c RepL.nil p⟩
/-- an instance of the class at C: known, or a cell -/
def insD (M : Mm) (C : Addr) : D → Option (List Str × List D)
  | .ins C' ns ds => if C' = C then some (ns, ds) else none
  | .ref a => (match M a with | some (.ins C' ns ds) => if C' = C then some (ns, ds) else none | _ => none)
  | _ => none
theorem insD_at {Hm : Hp} {M : Mm} {H : Hp} {C : Addr} {d : D} {v : V} {ns : List Str} {ds : List D} (c : Cfg K Hm M H) (r : Rep K Hm d v) (h : insD M C d = some (ns, ds)) : ∃ a dx vs, v = .ref a ∧ H a = some (.ins C dx (ns.zip vs)) ∧ ns.length = ds.length ∧ RepL K Hm ds vs := by
  cases d with
  | ins C' ns' ds' =>
    have h : (if C' = C then some (ns', ds') else none) = some (ns, ds) := h
    by_cases z : C' = C
    · subst z
      rw [if_pos rfl] at h
      cases h
      unfold Rep at r
      obtain ⟨a, dx, vs, rfl, h2, h3, h4⟩ := r
      exact ⟨a, dx, vs, rfl, c.ex _ _ h2, h3, h4⟩
    · rw [if_neg z] at h; cases h
  | ref a =>
    unfold insD at h
    unfold Rep at r
    cases e : M a with
    | none => simp [e] at h
    | some m =>
      cases m with
      | ins C' ns' ds' =>
        by_cases z : C' = C
        · subst z
          simp [e] at h
          obtain ⟨rfl, rfl⟩ := h
          obtain ⟨_, o, h2, dx, vs, rfl, h3, h4⟩ := c.mu a _ e
          exact ⟨a, dx, vs, r, h2, h3, h4⟩
        · simp [e, z] at h
      | lst _ => simp [e] at h
      | dic _ _ => simp [e] at h
  | _ => cases h
def valN (ns : List Str) (ds : List D) (f : Str) : Option D := (ns.zip ds).lookup f
theorem valN_rep {Hm : Hp} {f : Str} : ∀ {ns : List Str} {ds : List D} {vs : List V} {d : D}, RepL K Hm ds vs → valN ns ds f = some d → ∃ v, (ns.zip vs).lookup f = some v ∧ Rep K Hm d v
  | [], ds, vs, d, r, h => by cases h
  | n :: ns, [], vs, d, r, h => by cases h
  | n :: ns, e :: ds, vs, d, r, h => by
    unfold RepL at r
    obtain ⟨v, ws, rfl, r1, r2⟩ := r
    unfold valN at h
    rw [List.zip_cons_cons, List.lookup_cons] at h ⊢
    cases z : f == n with
    | true =>
      rw [z] at h
      cases h
      exact ⟨v, rfl, r1⟩
    | false =>
      rw [z] at h
      exact valN_rep r2 h
theorem valN_none {Hm : Hp} {f : Str} : ∀ {ns : List Str} {ds : List D} {vs : List V}, RepL K Hm ds vs → valN ns ds f = none → (ns.zip vs).lookup f = none
  | [], ds, vs, r, h => rfl
  | n :: ns, [], vs, r, h => by
    unfold RepL at r
    subst r
    rfl
  | n :: ns, e :: ds, vs, r, h => by
    unfold RepL at r
    obtain ⟨v, ws, rfl, r1, r2⟩ := r
    unfold valN at h
    rw [List.zip_cons_cons, List.lookup_cons] at h ⊢
    cases z : f == n with
    | true =>
      rw [z] at h
      cases h
    | false =>
      rw [z] at h
      exact valN_none r2 h
/-- o.f, a field -/
def dFld (C : Addr) (f : Str) (de : DE) : DE := fun s M P => de s M fun x M1 => ∃ ns ds d, insD M1 C x = some (ns, ds) ∧ valN ns ds f = some d ∧ P d M1
theorem j_fld {f : Str} (hc : Cls X.K C) (hn : NoAttr X.K C f) (h : JE X e de) (hb : attributeBase e f X.env (eval e X.env) = eval e X.env := by rfl) : JE X (.Attribute e f pos) (dFld C f de) :=
  let ⟨_, h1, l1⟩ := h
  ⟨_, pe_fld h1 hb, fun Hm M s σ H Q P c hs p q => l1 Hm M s σ H _ _ c hs p fun x M1 H1 h v e f c1 r ⟨ns, ds, d, hi, hv, p1⟩ => by
    obtain ⟨a, dx, vs, rfl, g1, g2, g3⟩ := insD_at c1 r hi
    obtain ⟨w, g4, g5⟩ := valN_rep g3 hv
    exact ⟨a, C, dx, _, w, rfl, g1, hc, hn, g4, q _ M1 H1 h _ e f c1 g5 p1⟩⟩
/-- o.f = e, a new field of an instance that is being made -/
def dSetF (C : Addr) (f : Str) (dO de : DE) : DS := fun E s M => de s M fun y M1 => dO s M1 fun x M2 => ∃ a ns ds, x = .ref a ∧ M2 a = some (.ins C ns ds) ∧ f ∉ ns ∧ ns.length = ds.length ∧ ns.length < 1000 ∧ E.nx s (mput M2 a (.ins C (ns ++ [f]) (ds ++ [y])))
theorem putF_new {f : Str} {v : V} : ∀ {ns : List Str} {vs : List V}, ns.length = vs.length → f ∉ ns → putF f v (ns.zip vs) = (ns ++ [f]).zip (vs ++ [v])
  | [], [], _, _ => rfl
  | n :: ns, u :: vs, h, hf => by
    have hn : ¬ n = f := fun z => hf (by rw [z]; exact List.mem_cons_self)
    have hf' : f ∉ ns := fun z => hf (List.mem_cons_of_mem _ z)
    rw [List.zip_cons_cons]
    unfold putF
    rw [if_neg hn, putF_new (by simpa using h) hf']
    rfl
theorem s_fld {f : Str} {value : Expr} {dv : DE} {pos' : Pos} (hc : Cls X.K C) (hn : NoAttr X.K C f) (ho : JE X o de) (hv : JE X value dv) (hs : swapsWith value (some (.Attribute o f pos')) pos.line X.env = pure false := by rfl) : JS X (.Assign [.Attribute o f pos'] value pos) (dSetF C f de dv) :=
  let ⟨_, h1, l1⟩ := ho
  let ⟨_, h2, l2⟩ := hv
  ⟨_, ps_fld h1 h2 hs, fun Hm M s σ H Q P c hs p q => by
    refine l2 Hm M s σ H _ _ c hs p fun y M1 H1 h1 v e1 f1 c1 r1 p1 => ?_
    refine l1 H1 M1 s σ h1 _ _ c1 (hs.mono e1) p1 fun x M2 H2 h2 u e2 f2 c2 r2 p2 => ?_
    obtain ⟨a, ns, ds, rfl, hm, hf, hl, hz, p3⟩ := p2
    obtain ⟨_, oo, h3, dx, vs, rfl, h4, h5⟩ := c2.mu a _ hm
    have r2' : u = .ref a := by unfold Rep at r2; exact r2
    subst r2'
    have hlv : ns.length = vs.length := by rw [h5.len]; exact h4
    refine ⟨a, C, dx, _, rfl, h3, hc, hn, by simp [List.length_zip, hlv] at hz ⊢; omega, ?_⟩
    rw [putF_new hlv hf]
    exact q.nx _ _ _ _ _ (e1.trans e2) ((f1.trans f2).trans (Fr.put hm)) (c2.put (m' := .ins C (ns ++ [f]) (ds ++ [y])) hm ⟨dx, vs ++ [v], rfl, by simp [hl], RepL.append h5 (RepL.cons (Rep.mono e2 _ _ r1) RepL.nil)⟩) (hs.mono (e1.trans e2)) p3⟩
/-- o.m(e, ..) of an instance of the class at C -/
def dMeth (C : Addr) (m : Str) (c : DSp) (dds : List D) (de : DE) (da : DA) : DE := fun s M P => de s M fun x M1 => ∃ ns ds, insD M1 C x = some (ns, ds) ∧ valN ns ds m = none ∧ da s M1 fun xs M2 => c (x :: (xs ++ dds)) M2 P
theorem la_meth {dvs : List V} {te : TE} {t : TA} (hd : ∀ Hm, RepL K Hm dds dvs) (l1 : LE K te de) (l2 : LA K t da) : LE K (tMeth C m (spOf K c) dvs E0 te t) (dMeth C m c dds de da) := fun Hm M s σ H Q P hc hs p q => by
  refine l1 Hm M s σ H _ _ hc hs p fun x M1 H1 h1 v e1 f1 c1 r1 p1 => ?_
  obtain ⟨ns, ds, hi, hn, p1⟩ := p1
  obtain ⟨a, dx, vs, rfl, g1, g2, g3⟩ := insD_at c1 r1 hi
  refine ⟨a, dx, _, rfl, g1, valN_none g3 hn, ?_⟩
  refine l2 H1 M1 s σ h1 _ _ c1 (hs.mono e1) p1 fun xs M2 H2 h2 ws e2 f2 c2 r2 p2 => ?_
  exact ⟨H2, M2, _, P, c2, RepL.cons (Rep.mono e2 _ _ r1) (RepL.append r2 (hd H2)), p2, q.mono (e1.trans e2) (f1.trans f2)⟩
theorem j_meth {pl : Sem Bool} (h : MetD X.prog X.w X.K X.mg X.base k C m c dds) (hr : RmG j X.A) (hk : k ≤ j) (ho : JE X o de) (ha : JA X (e :: es) da)
    (n2 : starEach (e :: es) X.env = (false, eval e X.env) :: starEach es X.env := by rfl) (n3 : (backTo pos (starEach es X.env)).any (·.1) = false := by rfl) (ht : MCall X o m apos pos (e :: es) pl := by rfl) : JE X (.Call (.Attribute o m apos) (e :: es) [] pos) (dMeth C m c dds de da) :=
  let ⟨_, _, _, _, _, hc, hm, F, b, d, hd⟩ := h.ex
  let ⟨_, h1, l1⟩ := ho
  let ⟨_, h2, l2⟩ := ha
  ⟨_, peG_meth h1 hc hm F (hr.mono hk) b d h2 n2 n3 ht, la_meth hd l1 l2⟩
theorem j_meth0 {pl : Sem Bool} (h : MetD X.prog X.w X.K X.mg X.base k C m c dds) (hr : RmG j X.A) (hk : k ≤ j) (ho : JE X o de) (ht : MCall X o m apos pos [] pl := by rfl) : JE X (.Call (.Attribute o m apos) [] [] pos) (dMeth C m c dds de dNil) :=
  let ⟨_, _, _, _, _, hc, hm, F, b, d, hd⟩ := h.ex
  let ⟨_, h1, l1⟩ := ho
  ⟨_, peG_meth0 h1 hc hm F (hr.mono hk) b d ht, la_meth hd l1 fun Hm M s σ H Q P c hs p q => q [] M Hm H [] (Ex.refl _) (Fr.refl _ _ _) c RepL.nil p⟩
/-- o.m, a property -/
def dProp (C : Addr) (c : DSp) (de : DE) : DE := fun s M P => de s M fun x M1 => ∃ ns ds, insD M1 C x = some (ns, ds) ∧ c [x] M1 P
theorem j_prop (h : PrpD X.prog X.w X.K X.mg X.base k C m c) (hr : RmG j X.A) (hk : k + 1 ≤ j) (ho : JE X o de) (hab : attributeBase o m X.env (eval o X.env) = eval o X.env := by rfl) : JE X (.Attribute o m pos) (dProp C c de) :=
  let ⟨pp, g, fd, ps, hc, hp, F, b⟩ := h.ex
  let ⟨te, h1, l1⟩ := ho
  ⟨fun σ H Q => te σ H fun x H1 => ∃ a dx fs, x = .ref a ∧ H1 a = some (.ins C dx fs) ∧ spOf X.K c [.ref a] H1 Q E0, ⟨fun pins s σ H Q I hh => attr_of hab (thn (h1.run pins s σ H _ I hh) fun u s1 h2 => by
    obtain ⟨x, H1, I1, rx, a, dx, fs, rfl, ea, q⟩ := h2
    cases rx
    obtain ⟨mA, O, _⟩ := ins_get I1.hok ea
    obtain ⟨od, J, _⟩ := O.look
    obtain ⟨rest, hrec⟩ := hp.rec_
    have I2 := I1.tok (s1.toks + 1)
    have hcl : (PySem.W.clsIn X.K C).isSome = true := by
      obtain ⟨cd, z, _⟩ := PySem.W.any_some hc.hd
      rw [z]
      rfl
    refine PySem.W.get_bind I1.kIn J (PySem.W.plainGet_of (hc.get m)).1 (PySem.W.findObj_data hcl hp.at_ hp.get hp.tak) (PySem.W.plainGet_of (hc.get m)).2 (wpAny_call (PySem.W.prop_get (s := { s1 with toks := s1.toks + 1 }) I1.kIn hrec ?_))
    have hl : ([Value.ref a] ++ []).length = ps.length := (F.len _ _ _ q)
    refine codeAny_mono (F.run X.A.in1 X.stack _ H1 ⟨[.ref a], []⟩ [.ref a] [.ref a] Q (hr.mono hk).in1 I2.env0.in1 (b _ [.ref a] I1.kIn hl) (.cons rfl .nil) q) fun r s' hq => ?_
    obtain ⟨u2, rfl, z⟩ := endG I2 hq
    obtain ⟨v, H', I3, rv, q3⟩ := z
    show wpAny _ _ (handedOut u2) _ _ _
    rw [PySem.W.handedOut_of (handed_of rv)]
    exact wpAny_pure ⟨v, H', I3, rv, q3⟩)⟩, fun Hm M s σ H Q P c' hs p q => l1 Hm M s σ H _ _ c' hs p fun x M1 H1 h v e f c1 r ⟨ns, ds, hi, p1⟩ => by
    obtain ⟨a, dx, vs, rfl, g1, g2, g3⟩ := insD_at c1 r hi
    exact ⟨a, dx, _, rfl, g1, H1, M1, [x], P, c1, RepL.cons r RepL.nil, p1, q.mono e f⟩⟩
end
end HD

namespace HD
open PySem PySem.Spec PyProof.Rows L2
variable {X : Cx} {K : PySem.W.Frag}
/-! ### built-ins by name -/
abbrev FC := Mm → List D → (D → Prop) → Prop
def LC (K : PySem.W.Frag) (r : List V → Hp → VK → Prop) (f : FC) : Prop := ∀ Hm M H ds vs (P : D → Prop) (Q : VK), Cfg K Hm M H → RepL K Hm ds vs → f M ds P →
  (∀ d Hm' H' v, Ex Hm Hm' → Fr Hm M H Hm' M H' → Cfg K Hm' M H' → Rep K Hm' d v → P d → Q v H') → r vs H Q
def dCB (f : FC) (da : DA) : DE := fun s M P => da s M fun xs M1 => f M1 xs fun z => P z M1
theorem la_cb {r : List V → Hp → VK → Prop} {f : FC} {t : TA} {da : DA} (hr : LC K r f) (h : LA K t da) : LE K (tCB r t) (dCB f da) := fun Hm M s σ H Q P c hs p q =>
  h Hm M s σ H _ _ c hs p fun xs M1 H1 h1 vs e f c1 r1 p1 => hr H1 M1 h1 xs vs _ Q c1 r1 p1 fun d H2 h2 v e2 f2 c2 r2 p2 => q d M1 H2 h2 v (e.trans e2) (f.trans f2) c2 r2 p2
theorem LC.or {r r' : List V → Hp → VK → Prop} {f g h : FC} (a : LC K r f) (b : LC K r' g) (hh : ∀ M xs P, h M xs P → f M xs P ∨ g M xs P) : LC K (fun xs H Q => r xs H Q ∨ r' xs H Q) h := fun Hm M H ds vs P Q c rs p q => by
  rcases hh M ds P p with z | z
  · exact .inl (a Hm M H ds vs P Q c rs z q)
  · exact .inr (b Hm M H ds vs P Q c rs z q)
section
variable {x : Str} {p pos : Pos} {e : Expr} {es : List Expr} {da : DA} {id T : String} {r : List V → Hp → VK → Prop} {f : FC}
theorem j_cb (hc : CallR X (.builtin id) r) (hr : LC X.K r f) (hm : X.mg x = none) (hv : bootBuiltins x = some (.builtin id)) (ha : JA X (e :: es) da) (hg : Gl X x) (hn : x ≠ "__name__") (hdb : (x == ("__debug__" : Str)) = false)
    (he : starEach (e :: es) X.env = (false, eval e X.env) :: starEach es X.env) (hpl : (backTo pos (starEach es X.env)).any (·.1) = false) : JE X (.Call (.Name x p) (e :: es) [] pos) (dCB f da) :=
  let ⟨_, h1, l1⟩ := ha
  ⟨_, pe_callB hc hg hm hv h1 hn hdb he hpl, la_cb hr l1⟩
theorem j_ct (hc : CallR X (.type T) r) (hr : LC X.K r f) (hm : X.mg x = none) (hv : bootBuiltins x = some (.type T)) (ha : JA X (e :: es) da) (hg : Gl X x) (hn : x ≠ "__name__") (hdb : (x == ("__debug__" : Str)) = false)
    (he : starEach (e :: es) X.env = (false, eval e X.env) :: starEach es X.env) (hpl : (backTo pos (starEach es X.env)).any (·.1) = false) : JE X (.Call (.Name x p) (e :: es) [] pos) (dCB f da) :=
  let ⟨_, h1, l1⟩ := ha
  ⟨_, pe_callTy hc hg hm hv h1 hn hdb he hpl, la_cb hr l1⟩
end
section
variable {Hm : Hp} {a b : D} {vs : List V}
theorem rep1 (r : RepL K Hm [a] vs) : ∃ v, vs = [v] ∧ Rep K Hm a v := by
  unfold RepL at r
  obtain ⟨v, ws, rfl, r1, r2⟩ := r
  unfold RepL at r2
  subst r2
  exact ⟨v, rfl, r1⟩
theorem rep2 (r : RepL K Hm [a, b] vs) : ∃ v w, vs = [v, w] ∧ Rep K Hm a v ∧ Rep K Hm b w := by
  unfold RepL at r
  obtain ⟨v, ws, rfl, r1, r2⟩ := r
  obtain ⟨w, rfl, r3⟩ := rep1 r2
  exact ⟨v, w, rfl, r1, r3⟩
end
/-- len -/
def lenD : FC := fun M xs P => match xs with
  | [.str z] => z.length ≤ sizeLine ∧ P (.int z.length)
  | [.tup ds] => P (.int ds.length)
  | [x] => ∃ ds, seqL M x = some ds ∧ P (.int ds.length)
  | _ => False
theorem lc_len : LC K (fun xs H Q => ∃ x n, xs = [x] ∧ LenV K x H n ∧ Q (.int n) H) lenD := fun Hm M H ds vs P Q c rs p q => by
  unfold lenD at p
  split at p
  · obtain ⟨v, rfl, r⟩ := rep1 rs
    exact ⟨v, _, rfl, by rw [rep_str r]; exact ⟨p.1, rfl⟩, q _ Hm H _ (Ex.refl _) (Fr.refl _ _ _) c (of_int _) p.2⟩
  · obtain ⟨v, rfl, r⟩ := rep1 rs
    obtain ⟨a, ws, rfl, h1, r1⟩ := tup_at c r
    exact ⟨_, _, rfl, .inr ⟨ws, h1, rfl⟩, by rw [r1.len]; exact q _ Hm H _ (Ex.refl _) (Fr.refl _ _ _) c (of_int _) p⟩
  · obtain ⟨v, rfl, r⟩ := rep1 rs
    obtain ⟨es, hs, p⟩ := p
    obtain ⟨a, ws, rfl, h1, r1⟩ := seqL_at c r hs
    exact ⟨_, _, rfl, .inl ⟨ws, h1, rfl⟩, by rw [r1.len]; exact q _ Hm H _ (Ex.refl _) (Fr.refl _ _ _) c (of_int _) p⟩
  · exact p.elim
/-- abs, max, min of ints; max, min of a list of ints -/
def absD : FC := fun _ xs P => match xs with
  | [.int i] => P (.int (if i < 0 then -i else i))
  | _ => False
theorem lc_abs : LC K (fun xs H Q => ∃ i, xs = [.int i] ∧ Q (.int (if i < 0 then -i else i)) H) absD := fun Hm M H ds vs P Q c rs p q => by
  unfold absD at p
  split at p
  · obtain ⟨v, rfl, r⟩ := rep1 rs
    exact ⟨_, by rw [rep_int r], q _ Hm H _ (Ex.refl _) (Fr.refl _ _ _) c (of_int _) p⟩
  · exact p.elim
theorem ints_of {ns : List Int} {Hm H : Hp} {M : Mm} {x : D} {v : V} (c : Cfg K Hm M H) (r : Rep K Hm x v) (h : seqL M x = some (ns.map D.int)) : ∃ a, v = .ref a ∧ SqL K H a (ns.map V.int) := by
  obtain ⟨a, ws, rfl, h1, r1⟩ := seqL_at c r h
  rw [r1.ints] at h1
  exact ⟨a, rfl, h1⟩
def maxD : FC := fun M xs P => match xs with
  | [.int i, .int j] => P (.int (if j > i then j else i))
  | [x] => ∃ ns : List Int, seqL M x = some (ns.map D.int) ∧ 0 < ns.length ∧ ∀ m, m ∈ ns → (∀ y, y ∈ ns → y ≤ m) → P (.int m)
  | _ => False
theorem lc_max : LC K (fun xs H Q => (∃ i j, xs = [.int i, .int j] ∧ Q (.int (if j > i then j else i)) H) ∨ rMax K xs H Q) maxD := fun Hm M H ds vs P Q c rs p q => by
  unfold maxD at p
  split at p
  · obtain ⟨v, w, rfl, r1, r2⟩ := rep2 rs
    exact .inl ⟨_, _, by rw [rep_int r1, rep_int r2], q _ Hm H _ (Ex.refl _) (Fr.refl _ _ _) c (of_int _) p⟩
  · obtain ⟨v, rfl, r⟩ := rep1 rs
    obtain ⟨ns, hs, h0, p⟩ := p
    obtain ⟨a, rfl, h1⟩ := ints_of c r hs
    exact .inr ⟨a, ns, rfl, h1, h0, fun m hm hle => q _ Hm H _ (Ex.refl _) (Fr.refl _ _ _) c (of_int _) (p m hm hle)⟩
  · exact p.elim
def minD : FC := fun M xs P => match xs with
  | [.int i, .int j] => P (.int (if j < i then j else i))
  | [x] => ∃ ns : List Int, seqL M x = some (ns.map D.int) ∧ 0 < ns.length ∧ ∀ m, m ∈ ns → (∀ y, y ∈ ns → m ≤ y) → P (.int m)
  | _ => False
theorem lc_min : LC K (fun xs H Q => (∃ i j, xs = [.int i, .int j] ∧ Q (.int (if j < i then j else i)) H) ∨ rMin K xs H Q) minD := fun Hm M H ds vs P Q c rs p q => by
  unfold minD at p
  split at p
  · obtain ⟨v, w, rfl, r1, r2⟩ := rep2 rs
    exact .inl ⟨_, _, by rw [rep_int r1, rep_int r2], q _ Hm H _ (Ex.refl _) (Fr.refl _ _ _) c (of_int _) p⟩
  · obtain ⟨v, rfl, r⟩ := rep1 rs
    obtain ⟨ns, hs, h0, p⟩ := p
    obtain ⟨a, rfl, h1⟩ := ints_of c r hs
    exact .inr ⟨a, ns, rfl, h1, h0, fun m hm hle => q _ Hm H _ (Ex.refl _) (Fr.refl _ _ _) c (of_int _) (p m hm hle)⟩
  · exact p.elim
/-- int, bool, str -/
def intD : FC := fun _ xs P => match xs with
  | [.int i] => P (.int i)
  | [.bl k] => P (.int (if k then 1 else 0))
  | [.str z] => ∃ n, PySem.intText? z = some n ∧ z.length ≤ 640 ∧ P (.int n)
  | _ => False
theorem lc_int : LC K (fun xs H Q => ((∃ i, xs = [.int i] ∧ Q (.int i) H) ∨ ∃ k, xs = [.bl k] ∧ Q (.int (if k then 1 else 0)) H) ∨ ∃ a n, xs = [.str a] ∧ PySem.intText? a = some n ∧ a.length ≤ 640 ∧ Q (.int n) H) intD := fun Hm M H ds vs P Q c rs p q => by
  unfold intD at p
  split at p
  · obtain ⟨v, rfl, r⟩ := rep1 rs
    exact .inl (.inl ⟨_, by rw [rep_int r], q _ Hm H _ (Ex.refl _) (Fr.refl _ _ _) c (of_int _) p⟩)
  · obtain ⟨v, rfl, r⟩ := rep1 rs
    exact .inl (.inr ⟨_, by rw [rep_bl r], q _ Hm H _ (Ex.refl _) (Fr.refl _ _ _) c (of_int _) p⟩)
  · obtain ⟨v, rfl, r⟩ := rep1 rs
    obtain ⟨n, h1, h2, p⟩ := p
    exact .inr ⟨_, n, by rw [rep_str r], h1, h2, q _ Hm H _ (Ex.refl _) (Fr.refl _ _ _) c (of_int _) p⟩
  · exact p.elim
def boolD : FC := fun _ xs P => match xs with
  | [.int i] => P (.bl (i != 0))
  | [.bl k] => P (.bl k)
  | _ => False
theorem lc_bool : LC K (fun xs H Q => (∃ i, xs = [.int i] ∧ Q (.bl (i != 0)) H) ∨ ∃ k, xs = [.bl k] ∧ Q (.bl k) H) boolD := fun Hm M H ds vs P Q c rs p q => by
  unfold boolD at p
  split at p
  · obtain ⟨v, rfl, r⟩ := rep1 rs
    exact .inl ⟨_, by rw [rep_int r], q _ Hm H _ (Ex.refl _) (Fr.refl _ _ _) c (of_bl _) p⟩
  · obtain ⟨v, rfl, r⟩ := rep1 rs
    exact .inr ⟨_, by rw [rep_bl r], q _ Hm H _ (Ex.refl _) (Fr.refl _ _ _) c (of_bl _) p⟩
  · exact p.elim
def strD : FC := fun _ xs P => match xs with
  | [.int i] => i.natAbs.log2 < 1920 ∧ P (.str (toString i))
  | [.str z] => P (.str z)
  | _ => False
theorem lc_str : LC K (fun xs H Q => (∃ i, xs = [.int i] ∧ i.natAbs.log2 < 1920 ∧ Q (.str (toString i)) H) ∨ ∃ a, xs = [.str a] ∧ Q (.str a) H) strD := fun Hm M H ds vs P Q c rs p q => by
  unfold strD at p
  split at p
  · obtain ⟨v, rfl, r⟩ := rep1 rs
    exact .inl ⟨_, by rw [rep_int r], p.1, q _ Hm H _ (Ex.refl _) (Fr.refl _ _ _) c (of_str _) p.2⟩
  · obtain ⟨v, rfl, r⟩ := rep1 rs
    exact .inr ⟨_, by rw [rep_str r], q _ Hm H _ (Ex.refl _) (Fr.refl _ _ _) c (of_str _) p⟩
  · exact p.elim
/-- divmod -/
def divmodD : FC := fun _ xs P => match xs with
  | [.int i, .int j] => CDiv i j ∧ P (.tup [.int (i / j), .int (i % j)])
  | _ => False
theorem lc_divmod : LC K (fun xs H Q => ∃ i j, xs = [.int i, .int j] ∧ CDiv i j ∧ ∀ p, H p = none → Q (.ref p) (upd H p (.tup [.int (i / j), .int (i % j)]))) divmodD := fun Hm M H ds vs P Q c rs p q => by
  unfold divmodD at p
  split at p
  · obtain ⟨v, w, rfl, r1, r2⟩ := rep2 rs
    refine ⟨_, _, by rw [rep_int r1, rep_int r2], p.1, fun z hz => ?_⟩
    obtain ⟨e, c'⟩ := c.new hz
    exact q _ _ _ _ e (Fr.new hz) c' (Rep.tup' (.inl (.inl upd_same)) (RepL.cons (of_int _) (RepL.cons (of_int _) RepL.nil))) p.2
  · exact p.elim
/-- sorted of ints, of fewer than 64 texts -/
def sortedD : FC := fun M xs P => match xs with
  | [x] => (∃ ns : List Int, seqL M x = some (ns.map D.int) ∧ ∀ ns' : List Int, ns'.Perm ns → ns'.Pairwise (· ≤ ·) → P (.lst (ns'.map D.int))) ∨
      ∃ ss : List Str, seqL M x = some (ss.map D.str) ∧ ss.length < 64 ∧ ∀ ys : List Str, ys.Perm ss → sortedS ys = true → P (.lst (ys.map D.str))
  | _ => False
theorem lc_sorted : LC K (fun xs H Q => rSortedI K xs H Q ∨ rSortedS K xs H Q) sortedD := fun Hm M H ds vs P Q c rs p q => by
  unfold sortedD at p
  split at p
  · obtain ⟨v, rfl, r⟩ := rep1 rs
    rcases p with ⟨ns, hs, p⟩ | ⟨ss, hs, h0, p⟩
    · obtain ⟨a, rfl, h1⟩ := ints_of c r hs
      refine .inl ⟨a, ns, rfl, h1, fun ns' z hp hw hz => ?_⟩
      obtain ⟨e, c'⟩ := c.new (o := .lst (ns'.map V.int)) hz
      exact q _ _ _ _ e (Fr.new hz) c' (Rep.lst' upd_same (RepL.of_ints ns')) (p ns' hp hw)
    · obtain ⟨a, ws, rfl, h1, r1⟩ := seqL_at c r hs
      rw [r1.strs] at h1
      refine .inr ⟨a, ss, rfl, h1, h0, fun ys z hp hw hz => ?_⟩
      obtain ⟨e, c'⟩ := c.new (o := .lst (ys.map V.str)) hz
      exact q _ _ _ _ e (Fr.new hz) c' (Rep.lst' upd_same (RepL.of_strs ys)) (p ys hp hw)
  · exact p.elim
/-- list, tuple -/
def listD : FC := fun M xs P => match xs with
  | [.tup ds] => P (.lst ds)
  | [x] => ∃ ds, seqL M x = some ds ∧ P (.lst ds)
  | _ => False
theorem lc_list : LC K (fun xs H Q => ∃ p ys, xs = [.ref p] ∧ (SqL K H p ys ∨ SqT K H p ys) ∧ ∀ l, H l = none → Q (.ref l) (upd H l (.lst ys))) listD := fun Hm M H ds vs P Q c rs p q => by
  have fin : ∀ (es : List D) (ws : List V), RepL K Hm es ws → P (.lst es) → ∀ l, H l = none → Q (.ref l) (upd H l (.lst ws)) := fun es ws r p l hl => by
    obtain ⟨e, c'⟩ := c.new (o := .lst ws) hl
    exact q _ _ _ _ e (Fr.new hl) c' (Rep.lst' upd_same (r.mono e)) p
  unfold listD at p
  split at p
  · obtain ⟨v, rfl, r⟩ := rep1 rs
    obtain ⟨a, ws, rfl, h1, r1⟩ := tup_at c r
    exact ⟨a, ws, rfl, .inr h1, fin _ ws r1 p⟩
  · obtain ⟨v, rfl, r⟩ := rep1 rs
    obtain ⟨es, hs, p⟩ := p
    obtain ⟨a, ws, rfl, h1, r1⟩ := seqL_at c r hs
    exact ⟨a, ws, rfl, .inl h1, fin _ ws r1 p⟩
  · exact p.elim
def tupleD : FC := fun M xs P => match xs with
  | [.tup ds] => P (.tup ds)
  | [x] => ∃ ds, seqL M x = some ds ∧ P (.tup ds)
  | _ => False
theorem lc_tuple : LC K (fun xs H Q => ∃ p ys, xs = [.ref p] ∧ ((SqL K H p ys ∧ ∀ l, H l = none → Q (.ref l) (upd H l (.tup ys))) ∨ (SqT K H p ys ∧ Q (.ref p) H))) tupleD := fun Hm M H ds vs P Q c rs p q => by
  unfold tupleD at p
  split at p
  · obtain ⟨v, rfl, r⟩ := rep1 rs
    obtain ⟨a, ws, rfl, h1, r1⟩ := tup_at c r
    exact ⟨a, ws, rfl, .inr ⟨h1, q _ Hm H _ (Ex.refl _) (Fr.refl _ _ _) c r p⟩⟩
  · obtain ⟨v, rfl, r⟩ := rep1 rs
    obtain ⟨es, hs, p⟩ := p
    obtain ⟨a, ws, rfl, h1, r1⟩ := seqL_at c r hs
    refine ⟨a, ws, rfl, .inl ⟨h1, fun l hl => ?_⟩⟩
    obtain ⟨e, c'⟩ := c.new (o := .tup ws) hl
    exact q _ _ _ _ e (Fr.new hl) c' (Rep.tup' (.inl (.inl upd_same)) (r1.mono e)) p
  · exact p.elim
/-- all, any, sum -/
def allD (f : List Bool → Bool) : FC := fun M xs P => match xs with
  | [x] => ∃ bs : List Bool, seqL M x = some (bs.map D.bl) ∧ P (.bl (f bs))
  | _ => False
theorem bls_of {bs : List Bool} {Hm H : Hp} {M : Mm} {x : D} {v : V} (c : Cfg K Hm M H) (r : Rep K Hm x v) (h : seqL M x = some (bs.map D.bl)) : ∃ a, v = .ref a ∧ SqL K H a (bs.map V.bl) := by
  obtain ⟨a, ws, rfl, h1, r1⟩ := seqL_at c r h
  rw [r1.bls] at h1
  exact ⟨a, rfl, h1⟩
theorem lc_all : LC K (rAll K) (allD fun bs => bs.all id) := fun Hm M H ds vs P Q c rs p q => by
  unfold allD at p
  split at p
  · obtain ⟨v, rfl, r⟩ := rep1 rs
    obtain ⟨bs, hs, p⟩ := p
    obtain ⟨a, rfl, h1⟩ := bls_of c r hs
    exact ⟨a, bs, rfl, h1, q _ Hm H _ (Ex.refl _) (Fr.refl _ _ _) c (of_bl _) p⟩
  · exact p.elim
theorem lc_any : LC K (rAny K) (allD fun bs => bs.any id) := fun Hm M H ds vs P Q c rs p q => by
  unfold allD at p
  split at p
  · obtain ⟨v, rfl, r⟩ := rep1 rs
    obtain ⟨bs, hs, p⟩ := p
    obtain ⟨a, rfl, h1⟩ := bls_of c r hs
    exact ⟨a, bs, rfl, h1, q _ Hm H _ (Ex.refl _) (Fr.refl _ _ _) c (of_bl _) p⟩
  · exact p.elim
def sumD : FC := fun M xs P => match xs with
  | [x] => ∃ ns : List Int, seqL M x = some (ns.map D.int) ∧ P (.int ns.sum)
  | _ => False
theorem lc_sum : LC K (rSum K) sumD := fun Hm M H ds vs P Q c rs p q => by
  unfold sumD at p
  split at p
  · obtain ⟨v, rfl, r⟩ := rep1 rs
    obtain ⟨bs, hs, p⟩ := p
    obtain ⟨a, rfl, h1⟩ := ints_of c r hs
    exact ⟨a, bs, rfl, h1, q _ Hm H _ (Ex.refl _) (Fr.refl _ _ _) c (of_int _) p⟩
  · exact p.elim
/-- repr of data without dicts -/
def reprD : FC := fun _ xs P => match xs with
  | [x] => ∃ p, toPy x = some p ∧ p.showable = true ∧ p.hasDict = false ∧ p.depth ≤ 100 ∧ p.shown.length ≤ sizeLine ∧ P (.str p.shown)
  | _ => False
theorem call_reprD {k : Nat} (hr : RmG k X.A) : CallR X (.builtin "repr") (fun xs H Q => ∃ x d, xs = [x] ∧ Dp X.K H x d ∧ d.showable = true ∧ d.hasDict = false ∧ d.depth ≤ 100 ∧ d.shown.length ≤ sizeLine ∧ Q (.str d.shown) H) := by
  intro pins s σ H xs us Q I r h
  obtain ⟨x, d, rfl, hd, h1, h2, h3, h4, q⟩ := h
  obtain ⟨u, rfl, r1⟩ := vals1 r
  obtain ⟨as, hrd⟩ := Dp.reads I d x u hd r1
  have hu := hr.rm.un
  have fin : ∀ h' u tk, (∀ b o, s.heap.get? b = some o → Heap.get? h' b = some o) → EP X pins σ Q (.str d.shown u) { s with heap := h', toks := tk } := fun h' u tk k => ⟨.str d.shown, H, I.kept k, ⟨u, rfl⟩, q⟩
  cases hd with
  | lst _ _ | tup _ _ =>
    cases r1
    exact repr_of_reads' hrd h1 (fun z => by rw [h2] at z; cases z) hr.gd (by omega) (fun _ _ e => e) fin h4
  | non =>
    cases (show u = Value.none from r1)
    exact PySem.P.repr_of_none (fin _ _ _ fun _ _ e => e)
  | bl b =>
    cases (show u = Value.bool b from r1)
    refine PySem.P.repr_of_bool ?_
    have z : (PyData.bool b).shown = if b = true then ("True" : Str) else ("False" : Str) := by unfold PyData.shown; rfl
    rw [← z]
    exact fin _ _ _ fun _ _ e => e
  | int i =>
    obtain ⟨t, e⟩ := (show ∃ t, u = Value.int i t from r1)
    subst e
    unfold PyData.showable at h1
    refine PySem.P.repr_of_int (of_decide_eq_true h1) ?_
    have z : (PyData.int i).shown = toString i := by unfold PyData.shown; rfl
    rw [← z]
    exact fin _ _ _ fun _ _ e => e
  | str z =>
    obtain ⟨t, e⟩ := (show ∃ t, u = Value.str z t from r1)
    subst e
    have y : (PyData.str z).shown = reprText z := by unfold PyData.shown; rfl
    rw [y] at h4 fin
    refine PySem.P.repr_of_str ?_ h4
    exact fin _ _ _ fun _ _ e => e
theorem lc_repr : LC K (fun xs H Q => ∃ x d, xs = [x] ∧ Dp K H x d ∧ d.showable = true ∧ d.hasDict = false ∧ d.depth ≤ 100 ∧ d.shown.length ≤ sizeLine ∧ Q (.str d.shown) H) reprD := fun Hm M H ds vs P Q c rs p q => by
  unfold reprD at p
  split at p
  · obtain ⟨v, rfl, r⟩ := rep1 rs
    obtain ⟨d, h0, h1, h2, h3, h4, p⟩ := p
    exact ⟨v, d, rfl, dp_of c.ex h0 r, h1, h2, h3, h4, q _ Hm H _ (Ex.refl _) (Fr.refl _ _ _) c (of_str _) p⟩
  · exact p.elim
end HD

namespace HD
open PySem PySem.Spec PyProof.Rows L2
variable {X : Cx} {K : PySem.W.Frag}
/-! ### isinstance -/
structure TyI (K : PySem.W.Frag) (C : Addr) : Prop where
  cl : Cls K C
  ha : PySem.W.findIn K (.ref C) "__class__" = some (some (.builtin "object.__class__"))
  hn : PySem.W.specialIn K (.builtin "object.__class__") "__get__" = some (some (.builtin "getset_descriptor.__get__"))
  tk : PySem.W.takesIn K (.builtin "object.__class__") = some true
  hm : PySem.W.mroIn K C (.type "object") = some true
def tyD (M : Mm) : D → Option Value
  | .non => some (.type "NoneType")
  | .bl _ => some (.type "bool")
  | .int _ => some (.type "int")
  | .str _ => some (.type "str")
  | .lst _ => some (.type "list")
  | .scr _ => some (.type "list")
  | .tup _ => some (.type "tuple")
  | .dic _ _ => some (.type "dict")
  | .ins C _ _ => some (.ref C)
  | .ty _ => none
  | .ref a => (match M a with
    | some (.lst _) => some (.type "list")
    | some (.dic _ _) => some (.type "dict")
    | some (.ins C _ _) => some (.ref C)
    | none => none)
def clsD : D → Option Value
  | .ty n => some (.type n)
  | .ref C => some (.ref C)
  | _ => none
theorem tyx_l {H : Hp} {a : Addr} {xs : List V} (h : SqL K H a xs) : TyX K H (.ref a) (.type "list") := by
  rcases h with (h | ⟨o, h⟩) | ⟨o, its, n, h1, h2, _⟩
  · exact .base (.lst h)
  · exact .base (.frz h)
  · exact .kList h1 h2
theorem tyx_t {H : Hp} {a : Addr} {xs : List V} (h : SqT K H a xs) : TyX K H (.ref a) (.type "tuple") := by
  rcases h with (h | ⟨o, h⟩) | ⟨o, its, n, h1, h2, _⟩
  · exact .base (.tup h)
  · exact .fTuple h
  · exact .kTuple h1 h2
theorem tyD_at {Hm : Hp} {M : Mm} {H : Hp} {d : D} {v : V} {t : Value} (c : Cfg K Hm M H) (r : Rep K Hm d v) (h : tyD M d = some t) (hi : ∀ C, t = .ref C → TyI K C) : TyX K H v t := by
  cases d with
  | non => cases h; rw [show v = .non from by unfold Rep at r; exact r]; exact .base .non
  | bl b => cases h; rw [rep_bl r]; exact .base (.bl b)
  | int i => cases h; rw [rep_int r]; exact .base (.int i)
  | str x => cases h; rw [rep_str r]; exact .base (.str x)
  | lst ds =>
    cases h
    unfold Rep at r
    obtain ⟨a, vs, rfl, h1, _⟩ := r
    exact .base (.lst (c.ex _ _ h1))
  | scr ns =>
    cases h
    unfold Rep at r
    obtain ⟨a, rfl, h1⟩ := r
    exact tyx_l (ex_l c.ex h1)
  | tup ds =>
    cases h
    unfold Rep at r
    obtain ⟨a, vs, rfl, h1, _⟩ := r
    exact tyx_t (ex_t c.ex h1)
  | dic ks ds =>
    cases h
    unfold Rep at r
    obtain ⟨a, vs, rfl, h1, _⟩ := r
    exact .base (.dK (c.ex _ _ h1))
  | ins C ns ds =>
    cases h
    unfold Rep at r
    obtain ⟨a, dx, vs, rfl, h1, _⟩ := r
    obtain ⟨q1, q2, q3, q4, q5⟩ := hi C rfl
    exact .base (.ins (c.ex _ _ h1) q1 q2 q3 q4 q5)
  | ty n => cases h
  | ref a =>
    unfold Rep at r
    subst r
    unfold tyD at h
    cases e : M a with
    | none => simp [e] at h
    | some m =>
      obtain ⟨_, o, h2, h3⟩ := c.mu a m e
      cases m with
      | lst ds =>
        obtain ⟨vs, rfl, _⟩ := h3
        simp [e] at h
        subst h
        exact .base (.lst h2)
      | dic ks ds =>
        obtain ⟨vs, rfl, _⟩ := h3
        simp [e] at h
        subst h
        exact .base (.dK h2)
      | ins C ns ds =>
        obtain ⟨dx, vs, rfl, _⟩ := h3
        simp [e] at h
        subst h
        obtain ⟨q1, q2, q3, q4, q5⟩ := hi C rfl
        exact .base (.ins h2 q1 q2 q3 q4 q5)
theorem clsD_at {Hm : Hp} {d : D} {v : V} {u : Value} (r : Rep K Hm d v) (h : clsD d = some u) : ClsV v u := by
  cases d with
  | ty n => cases h; unfold Rep at r; subst r; exact .ty n
  | ref a => cases h; unfold Rep at r; subst r; exact .own a
  | _ => cases h
def isiD (K : PySem.W.Frag) : FC := fun M xs P => match xs with
  | [x, c] => ∃ t u b, tyD M x = some t ∧ (∀ C, t = .ref C → TyI K C) ∧ clsD c = some u ∧ PySem.W.kitOne K t u = some b ∧ P (.bl b)
  | _ => False
theorem lc_isi : LC K (rIsi K) (isiD K) := fun Hm M H ds vs P Q c rs p q => by
  unfold isiD at p
  split at p
  · obtain ⟨v, w, rfl, r1, r2⟩ := rep2 rs
    obtain ⟨t, u, b, h1, h2, h3, h4, p⟩ := p
    exact ⟨v, w, t, u, b, rfl, clsD_at r2 h3, tyD_at c r1 h1 h2, h4, q _ Hm H _ (Ex.refl _) (Fr.refl _ _ _) c (of_bl _) p⟩
  · exact p.elim
/-! ### dict(a list of pairs) -/
def keyV : Key → D
  | .inl i => .int i
  | .inr x => .str x
theorem rep_kv {Hm : Hp} {k : Key} {v : V} (r : Rep K Hm (keyV k) v) : v = kV k := by
  cases k with
  | inl i => exact rep_int r
  | inr x => exact rep_str r
def mergeD : List Key → List D → List (Key × D) → List Key × List D
  | ks, ds, [] => (ks, ds)
  | ks, ds, p :: ps => mergeD (putD ks ds p.1 p.2).1 (putD ks ds p.1 p.2).2 ps
theorem merge_rep {Hm : Hp} : ∀ {ps : List (Key × D)} {ks : List Key} {ds : List D} {vs ws : List V}, ks.length = ds.length → RepL K Hm ds vs → RepL K Hm (ps.map (·.2)) ws →
    ∃ us, mergeK (ks.zip vs) ((ps.map (·.1)).zip ws) = (mergeD ks ds ps).1.zip us ∧ (mergeD ks ds ps).1.length = (mergeD ks ds ps).2.length ∧ RepL K Hm (mergeD ks ds ps).2 us
  | [], ks, ds, vs, ws, hl, r, _ => ⟨vs, rfl, hl, r⟩
  | p :: ps, ks, ds, vs, ws, hl, r, rw' => by
    rw [List.map_cons] at rw'
    unfold RepL at rw'
    obtain ⟨v, us, rfl, r1, r2⟩ := rw'
    obtain ⟨zs, h1, h2, h3⟩ := put_rep (k := p.1) r1 hl r
    obtain ⟨us', h4, h5, h6⟩ := merge_rep (ps := ps) h2 h3 r2
    refine ⟨us', ?_, h5, h6⟩
    show mergeK (putK (ks.zip vs) p.1 v) ((ps.map (·.1)).zip us) = _
    rw [h1, h4]
    rfl
theorem pairs_rep {Hm : Hp} : ∀ {ps : List (Key × D)} {vs : List V}, RepL K Hm (ps.map fun p => D.tup [keyV p.1, p.2]) vs →
    ∃ (as : List Addr) (ws : List V), vs = as.map V.ref ∧ Paired (fun a (kv : Key × V) => SqT K Hm a [kV kv.1, kv.2]) as ((ps.map (·.1)).zip ws) ∧ RepL K Hm (ps.map (·.2)) ws
  | [], vs, r => by
    have e : vs = [] := by unfold RepL at r; exact r
    subst e
    exact ⟨[], [], rfl, .nil, RepL.nil⟩
  | p :: ps, vs, r => by
    rw [List.map_cons] at r
    unfold RepL at r
    obtain ⟨v, us, rfl, r1, r2⟩ := r
    obtain ⟨as, ws, rfl, h2, h3⟩ := pairs_rep r2
    unfold Rep at r1
    obtain ⟨a, xs, rfl, h4, h5⟩ := r1
    obtain ⟨y, z, rfl, r3, r4⟩ := rep2 h5
    rw [rep_kv r3] at h4
    exact ⟨a :: as, z :: ws, rfl, .cons h4 h2, RepL.cons r4 h3⟩
theorem paired_mono {α β : Type} {R S : α → β → Prop} (h : ∀ a b, R a b → S a b) : ∀ {xs : List α} {ys : List β}, Paired R xs ys → Paired S xs ys
  | _, _, .nil => .nil
  | _, _, .cons r t => .cons (h _ _ r) (paired_mono h t)
def dictP : FC := fun M xs P => match xs with
  | [x] => ∃ ps : List (Key × D), seqL M x = some (ps.map fun p => D.tup [keyV p.1, p.2]) ∧ P (.dic (mergeD [] [] ps).1 (mergeD [] [] ps).2)
  | _ => False
theorem lc_dict : LC K (fun xs H Q => ∃ (a : Addr) (ps : List Addr) (kvs : List (Key × V)), xs = [.ref a] ∧ SqL K H a (ps.map V.ref) ∧ Paired (fun p kv => SqT K H p [kV kv.1, kv.2]) ps kvs ∧ ∀ p, H p = none → Q (.ref p) (upd H p (.dK (mergeK [] kvs)))) dictP := fun Hm M H ds vs P Q c rs p q => by
  unfold dictP at p
  split at p
  · obtain ⟨v, rfl, r⟩ := rep1 rs
    obtain ⟨ps, hs, p⟩ := p
    obtain ⟨a, ws, rfl, h1, r1⟩ := seqL_at c r hs
    obtain ⟨as, us, rfl, h2, h3⟩ := pairs_rep r1
    refine ⟨a, as, _, rfl, h1, paired_mono (fun a b h => ex_t c.ex h) h2, fun z hz => ?_⟩
    obtain ⟨e, c'⟩ := c.new (o := .dK (mergeK [] ((ps.map (·.1)).zip us))) hz
    obtain ⟨ws, h4, h5, h6⟩ := merge_rep (ks := []) (ds := []) (vs := []) rfl RepL.nil (h3.mono e)
    refine q _ _ _ _ e (Fr.new hz) c' ?_ p
    unfold Rep
    refine ⟨z, ws, rfl, ?_, h5, h6⟩
    rw [upd_same, ← h4]
    rfl
  · exact p.elim
/-! ### methods of texts and lists -/
abbrev FM := Mm → D → List D → (D → Mm → Prop) → Prop
def LM (K : PySem.W.Frag) (r : V → List V → Hp → VK → Prop) (f : FM) : Prop := ∀ Hm M H dx ds x vs (P : D → Mm → Prop) (Q : VK), Cfg K Hm M H → Rep K Hm dx x → RepL K Hm ds vs → f M dx ds P →
  PostE K Hm M H P Q → r x vs H Q
def dM (g : Mm → D → Prop) (f : FM) (de : DE) (da : DA) : DE := fun s M P => de s M fun x M1 => g M1 x ∧ da s M1 fun xs M2 => f M2 x xs P
def isStrD (_ : Mm) (x : D) : Prop := ∃ a, x = .str a
def isLstD (M : Mm) (x : D) : Prop := ∃ ds, seqL M x = some ds
section
variable {o e : Expr} {es : List Expr} {de : DE} {da : DA} {id : String} {name : Str} {apos pos : Pos} {r : V → List V → Hp → VK → Prop} {f : FM}
theorem j_m0 (slot : Slot "str" name id) (ty : typeOf (.builtin id) = pure (.type "method_descriptor")) (rule : MtR X id r) (hr : LM X.K r f) (ho : JE X o de)
    (hbase : attributeBase o name X.env (eval o X.env) = eval o X.env := by rfl) (hline : (apos.endLine == pos.line) = true := by rfl) : JE X (.Call (.Attribute o name apos) [] [] pos) (dM isStrD f de dNil) :=
  let ⟨_, h1, l1⟩ := ho
  ⟨_, pe_m0 slot ty rule h1 hbase hline, fun Hm M s σ H Q P c hs p q => l1 Hm M s σ H _ _ c hs p fun x M1 H1 h v e f c1 r ⟨⟨a, ea⟩, p1⟩ => by
    subst ea
    exact ⟨⟨a, rep_str r⟩, hr H1 M1 h _ [] v [] P Q c1 r RepL.nil p1 (q.mono e f)⟩⟩
theorem j_m1 (slot : Slot "str" name id) (ty : typeOf (.builtin id) = pure (.type "method_descriptor")) (rule : MtR X id r) (hr : LM X.K r f) (ho : JE X o de) {db : DE} (hb : JE X e db)
    (hs : starEach [e] X.env = [(false, eval e X.env)] := by rfl) (hbase : attributeBase o name X.env (eval o X.env) = eval o X.env := by rfl) (hline : (apos.endLine == pos.line) = true := by rfl) : JE X (.Call (.Attribute o name apos) [e] [] pos) (dM isStrD f de (dCons db dNil)) :=
  let ⟨_, h1, l1⟩ := ho
  let ⟨_, h2, l2⟩ := hb
  ⟨_, pe_m1 slot ty rule h1 h2 hs hbase hline, fun Hm M s σ H Q P c hs p q => l1 Hm M s σ H _ _ c hs p fun x M1 H1 h v e f c1 r ⟨⟨a, ea⟩, p1⟩ => by
    subst ea
    refine ⟨⟨a, rep_str r⟩, l2 H1 M1 s σ h _ _ c1 (hs.mono e) p1 fun y M2 H2 h2 w e2 f2 c2 r2 p2 => ?_⟩
    exact hr H2 M2 h2 _ [y] v [w] P Q c2 (Rep.mono e2 _ _ r) (RepL.cons r2 RepL.nil) p2 (q.mono (e.trans e2) (f.trans f2))⟩
/-- o.m(e, ..) of a text | list -/
theorem j_bm {T : String} {g : Mm → D → Prop} (hg : ∀ Hm M H d v, Cfg X.K Hm M H → Rep X.K Hm d v → g M d → tyV X.K T v H) (pa : PlainAttrs T) (slot : Slot T name id) (hty : typeOf (.builtin id) = pure (.type "method_descriptor")) (rule : MtR X id r) (hr : LM X.K r f) (ho : JE X o de) (ha : JA X (e :: es) da)
    (hbase : attributeBase o name X.env (eval o X.env) = eval o X.env := by rfl)
    (hfew : ((backTo pos (starEach (e :: es) X.env)).all (fun x => !x.1) && (backToKw pos (keywordEach [] X.env)).all (fun x => x.1.isSome)
      && decide ((e :: es).length + ([] : List Keyword).length + (if ([] : List Keyword).isEmpty then 0 else 1) < 30)) = true := by rfl)
    (hline : (apos.endLine == pos.line) = true := by rfl) (hs : starEach (e :: es) X.env = (false, eval e X.env) :: starEach es X.env := by rfl) (hplain : (backTo pos (starEach es X.env)).any (·.1) = false := by rfl) :
    JE X (.Call (.Attribute o name apos) (e :: es) [] pos) (dM g f de da) :=
  let ⟨_, h1, l1⟩ := ho
  let ⟨_, h2, l2⟩ := ha
  ⟨_, pe_bm pa slot hty rule h1 h2 hbase hfew hline hs hplain, fun Hm M s σ H Q P c hs p q => l1 Hm M s σ H _ _ c hs p fun x M1 H1 h v e f c1 r ⟨gx, p1⟩ => by
    refine ⟨hg _ _ _ _ _ c1 r gx, l2 H1 M1 s σ h _ _ c1 (hs.mono e) p1 fun ys M2 H2 h2 ws e2 f2 c2 r2 p2 => ?_⟩
    exact hr H2 M2 h2 _ ys v ws P Q c2 (Rep.mono e2 _ _ r) r2 p2 (q.mono (e.trans e2) (f.trans f2))⟩
end
theorem ty_str {Hm : Hp} {M : Mm} {H : Hp} {d : D} {v : V} (c : Cfg K Hm M H) (r : Rep K Hm d v) (h : isStrD M d) : tyV K "str" v H := by
  obtain ⟨a, rfl⟩ := h
  rw [rep_str r]
  rfl
theorem ty_lst {Hm : Hp} {M : Mm} {H : Hp} {d : D} {v : V} (c : Cfg K Hm M H) (r : Rep K Hm d v) (h : isLstD M d) : tyV K "list" v H := by
  obtain ⟨ds, h⟩ := h
  obtain ⟨a, vs, rfl, h1, _⟩ := seqL_at c r h
  exact .inl ⟨rfl, vs, h1⟩
/-- l.append(x), l a cell -/
def appendD : FM := fun M x xs P => match x, xs with
  | .ref a, [y] => ∃ ds, M a = some (.lst ds) ∧ ds.length < sizeLine ∧ P .non (mput M a (.lst (ds ++ [y])))
  | _, _ => False
theorem lm_append : LM K rAppend appendD := fun Hm M H dx ds x vs P Q c r rs p q => by
  unfold appendD at p
  split at p
  · rename_i a y
    obtain ⟨es, hm, hz, p⟩ := p
    obtain ⟨w, rfl, r2⟩ := rep1 rs
    obtain ⟨_, oo, h3, us, rfl, h4⟩ := c.mu _ _ hm
    have ex : x = .ref a := by unfold Rep at r; exact r
    subst ex
    refine ⟨a, us, w, rfl, rfl, h3, by rw [h4.len]; exact hz, ?_⟩
    exact q _ _ _ _ _ (Ex.refl _) (Fr.put hm) (c.put (m' := .lst (es ++ [y])) hm ⟨us ++ [w], rfl, RepL.append h4 (RepL.cons r2 RepL.nil)⟩) of_non p
  · exact p.elim
theorem j_append {o e : Expr} {de db : DE} {apos pos : Pos} (ho : JE X o de) (hb : JE X e db) (hbase : attributeBase o "append" X.env (eval o X.env) = eval o X.env := by rfl)
    (hfew : ((backTo pos (starEach (e :: []) X.env)).all (fun x => !x.1) && (backToKw pos (keywordEach [] X.env)).all (fun x => x.1.isSome)
      && decide ((e :: []).length + ([] : List Keyword).length + (if ([] : List Keyword).isEmpty then 0 else 1) < 30)) = true := by rfl)
    (hline : (apos.endLine == pos.line) = true := by rfl) (hs : starEach (e :: []) X.env = (false, eval e X.env) :: starEach [] X.env := by rfl) : JE X (.Call (.Attribute o "append" apos) [e] [] pos) (dM isLstD appendD de (dCons db dNil)) :=
  j_bm (fun _ _ _ _ _ c r h => ty_lst c r h) F.plainAttrs_list F.slot_list_append F.type_list_append mt_append lm_append ho (a_cons hb a_nil hs) hbase hfew hline hs rfl
/-- texts of a list or tuple -/
def textsD (M : Mm) (x : D) (ys : List Str) : Prop := seqL M x = some (ys.map D.str) ∨ x = .tup (ys.map D.str)
def joinD : FM := fun M x xs P => match x, xs with
  | .str a, [y] => ∃ ys : List Str, textsD M y ys ∧ (ys.map (·.length)).sum + ys.length * a.length ≤ 16777216 ∧ P (.str (Txt.join a ys)) M
  | _, _ => False
theorem lm_join : LM K (fun x xs H Q => ∃ a p, ∃ ys : List Str, x = .str a ∧ xs = [.ref p] ∧ (SqL K H p (ys.map V.str) ∨ SqT K H p (ys.map V.str)) ∧
    (ys.map (·.length)).sum + ys.length * a.length ≤ 16777216 ∧ Q (.str (Txt.join a ys)) H) joinD := fun Hm M H dx ds x vs P Q c r rs p q => by
  unfold joinD at p
  split at p
  · obtain ⟨ys, hy, hz, p⟩ := p
    obtain ⟨w, rfl, r2⟩ := rep1 rs
    have fin := q _ _ _ _ _ (Ex.refl _) (Fr.refl _ _ _) c (of_str _) p
    rcases hy with hy | hy
    · obtain ⟨p, us, rfl, h1, h2⟩ := seqL_at c r2 hy
      rw [h2.strs] at h1
      exact ⟨_, p, ys, rep_str r, rfl, .inl h1, hz, fin⟩
    · subst hy
      obtain ⟨p, us, rfl, h1, h2⟩ := tup_at c r2
      rw [h2.strs] at h1
      exact ⟨_, p, ys, rep_str r, rfl, .inr h1, hz, fin⟩
  · exact p.elim
theorem j_join {o e : Expr} {de db : DE} {apos pos : Pos} (ho : JE X o de) (hb : JE X e db) (hs : starEach [e] X.env = [(false, eval e X.env)] := by rfl) (hbase : attributeBase o "join" X.env (eval o X.env) = eval o X.env := by rfl) (hline : (apos.endLine == pos.line) = true := by rfl) :
    JE X (.Call (.Attribute o "join" apos) [e] [] pos) (dM isStrD joinD de (dCons db dNil)) := j_m1 F.slot_str_join F.type_str_join mt_join lm_join ho hb hs hbase hline
def splitD : FM := fun M x xs P => match x, xs with
  | .str a, [.str b] => (b.length == 0) = false ∧ a.length + 2 ≤ sizeLine ∧ P (.lst ((Txt.split a b).map D.str)) M
  | _, _ => False
theorem lm_split : LM K (fun x xs H Q => ∃ a b, x = .str a ∧ xs = [.str b] ∧ (b.length == 0) = false ∧ a.length + 2 ≤ sizeLine ∧ rNewStrs (Txt.split a b) H Q) splitD := fun Hm M H dx ds x vs P Q c r rs p q => by
  unfold splitD at p
  split at p
  · obtain ⟨hb, hz, p⟩ := p
    obtain ⟨w, rfl, r2⟩ := rep1 rs
    refine ⟨_, _, rep_str r, by rw [rep_str r2], hb, hz, fun z hz => ?_⟩
    obtain ⟨e, c'⟩ := c.new (o := .lst ((Txt.split _ _).map V.str)) hz
    exact q _ _ _ _ _ e (Fr.new hz) c' (Rep.lst' upd_same (RepL.of_strs _)) p
  · exact p.elim
theorem j_split {o e : Expr} {de db : DE} {apos pos : Pos} (ho : JE X o de) (hb : JE X e db) (hs : starEach [e] X.env = [(false, eval e X.env)] := by rfl) (hbase : attributeBase o "split" X.env (eval o X.env) = eval o X.env := by rfl) (hline : (apos.endLine == pos.line) = true := by rfl) :
    JE X (.Call (.Attribute o "split" apos) [e] [] pos) (dM isStrD splitD de (dCons db dNil)) := j_m1 F.slot_str_split F.type_str_split mt_split lm_split ho hb hs hbase hline
def countD : FM := fun M x xs P => match x, xs with
  | .str a, [.str b] => P (.int (Txt.count a b)) M
  | _, _ => False
theorem lm_count : LM K (fun x xs H Q => ∃ a b, x = .str a ∧ xs = [.str b] ∧ Q (.int (Txt.count a b)) H) countD := fun Hm M H dx ds x vs P Q c r rs p q => by
  unfold countD at p
  split at p
  · obtain ⟨w, rfl, r2⟩ := rep1 rs
    exact ⟨_, _, rep_str r, by rw [rep_str r2], q _ _ _ _ _ (Ex.refl _) (Fr.refl _ _ _) c (of_int _) p⟩
  · exact p.elim
theorem j_count {o e : Expr} {de db : DE} {apos pos : Pos} (ho : JE X o de) (hb : JE X e db) (hs : starEach [e] X.env = [(false, eval e X.env)] := by rfl) (hbase : attributeBase o "count" X.env (eval o X.env) = eval o X.env := by rfl) (hline : (apos.endLine == pos.line) = true := by rfl) :
    JE X (.Call (.Attribute o "count" apos) [e] [] pos) (dM isStrD countD de (dCons db dNil)) := j_m1 F.slot_str_count F.type_str_count mt_count lm_count ho hb hs hbase hline
def isdigitD : FM := fun M x xs P => match x, xs with
  | .str a, [] => P (.bl (Txt.isdigit a)) M
  | _, _ => False
theorem lm_isdigit : LM K (fun x xs H Q => ∃ a, x = .str a ∧ xs = [] ∧ True ∧ Q (.bl (Txt.isdigit a)) H) isdigitD := fun Hm M H dx ds x vs P Q c r rs p q => by
  unfold isdigitD at p
  split at p
  · have e : vs = [] := by unfold RepL at rs; exact rs
    subst e
    exact ⟨_, rep_str r, rfl, trivial, q _ _ _ _ _ (Ex.refl _) (Fr.refl _ _ _) c (of_bl _) p⟩
  · exact p.elim
theorem j_isdigit {o : Expr} {de : DE} {apos pos : Pos} (ho : JE X o de) (hbase : attributeBase o "isdigit" X.env (eval o X.env) = eval o X.env := by rfl) (hline : (apos.endLine == pos.line) = true := by rfl) :
    JE X (.Call (.Attribute o "isdigit" apos) [] [] pos) (dM isStrD isdigitD de dNil) := j_m0 F.slot_str_isdigit F.type_str_isdigit mt_isdigit lm_isdigit ho hbase hline
/-! ### f'..' -/
def fmtD (_ : Mm) (x : D) (P : D → Prop) : Prop := match x with
  | .str y => y.length ≤ sizeLine ∧ P (.str y)
  | .int i => i.natAbs.log2 < 1920 ∧ P (.str (toString i))
  | _ => False
theorem j_fmt {e : Expr} {de : DE} {pos : Pos} (h : JE X e de) : JE X (.FormattedValue e (-1) none pos) (dUn fmtD de) :=
  let ⟨_, h1, l1⟩ := h
  ⟨_, pe_fmt h1, fun Hm M s σ H Q P c hs p q => l1 Hm M s σ H _ _ c hs p fun x M1 H1 h v e f c1 r p1 => by
    cases x <;> first | (exact p1.elim; done) | skip
    · exact .inr ⟨_, rep_int r, p1.1, q _ M1 H1 h _ e f c1 (of_str _) p1.2⟩
    · exact .inl ⟨_, rep_str r, p1.1, q _ M1 H1 h _ e f c1 (of_str _) p1.2⟩⟩
def dJs : List DE → Str → DSt → Mm → (Str → Mm → Prop) → Prop
  | [], acc, _, M, P => P acc M
  | d :: ds, acc, s, M, P => d s M fun x M1 => ∃ y : Str, x = .str y ∧ (acc ++ y).length ≤ sizeLine ∧ dJs ds (acc ++ y) s M1 P
def JF (X : Cx) (es : List Expr) (ds : List DE) : Prop := ∃ ts, PJ X es ts ∧ ts.length = ds.length ∧ ∀ acc Hm M s σ H (Q : Str → Hp → Prop) P, Cfg X.K Hm M H → Sl X.K Hm s σ → dJs ds acc s M P →
  (∀ y M' Hm' H', Ex Hm Hm' → Fr Hm M H Hm' M' H' → Cfg X.K Hm' M' H' → P y M' → Q y H') → tJs ts acc σ H Q
theorem f_nil : JF X [] [] := ⟨[], .nil, rfl, fun acc Hm M s σ H Q P c hs p q => q acc M Hm H (Ex.refl _) (Fr.refl _ _ _) c p⟩
theorem f_cons {e : Expr} {es : List Expr} {de : DE} {ds : List DE} (h : JE X e de) (k : JF X es ds) : JF X (e :: es) (de :: ds) :=
  let ⟨_, h1, l1⟩ := h
  let ⟨_, h2, h3, l2⟩ := k
  ⟨_, .cons h1 h2, congrArg Nat.succ h3, fun acc Hm M s σ H Q P c hs p q => l1 Hm M s σ H _ _ c hs p fun x M1 H1 h v e f c1 r ⟨y, ey, hz, p1⟩ => by
    subst ey
    exact ⟨y, rep_str r, hz, l2 (acc ++ y) H1 M1 s σ h _ _ c1 (hs.mono e) p1 fun z M2 H2 h2 e2 f2 c2 p2 => q z M2 H2 h2 (e.trans e2) (f.trans f2) c2 p2⟩⟩
def dJoined (ds : List DE) : DE := fun s M P => dJs ds Str.empty s M fun y M1 => P (.str y) M1
theorem j_joined {v1 v2 : Expr} {rest : List Expr} {ds : List DE} {pos : Pos} (h : JF X (v1 :: v2 :: rest) ds) : JE X (.JoinedStr (v1 :: v2 :: rest) pos) (dJoined ds) :=
  let ⟨_, h1, _, l1⟩ := h
  ⟨_, pe_joined h1, fun Hm M s σ H Q P c hs p q => l1 Str.empty Hm M s σ H _ _ c hs p fun y M1 H1 h e f c1 p1 => q _ M1 H1 h _ e f c1 (of_str _) p1⟩
/-! ### return of a cell that stays from now on -/
def dRetF (de : DE) : DS := fun E s M => de s M fun x M1 => ∃ a m, x = .ref a ∧ M1 a = some m ∧ E.rt m.d (mdel M1 a)
theorem s_retF {e : Expr} {de : DE} {pos : Pos} (h : JE X e de) : JS X (.Return (some e) pos) (dRetF de) :=
  let ⟨_, h1, l1⟩ := h
  ⟨_, ps_ret h1, fun Hm M s σ H Q P c hs p q => l1 Hm M s σ H _ _ c hs p fun x M1 H1 h v e f c1 r ⟨a, m, ex, hm, p1⟩ => by
    subst ex
    obtain ⟨o, e4, c4, r4⟩ := c1.freeze hm
    have ev : v = .ref a := by unfold Rep at r; exact r
    subst ev
    exact q.rt _ _ _ _ _ (e.trans e4) (f.trans (Fr.freeze hm)) c4 r4 p1⟩
/-! ### a new instance -/
def dMake (C : Addr) (c : DSp) (dds : List D) (da : DA) : DE := fun s M P => da s M fun xs M1 => ∀ x, M1 x = none → c (.ref x :: (xs ++ dds)) (mput M1 x (.ins C [] [])) fun d M2 => d = .non ∧ ∃ ns ds, M2 x = some (.ins C ns ds) ∧ P (.ins C ns ds) (mdel M2 x)
/-- .. that may change -/
def dMakeM (C : Addr) (c : DSp) (dds : List D) (da : DA) : DE := fun s M P => da s M fun xs M1 => ∀ x, M1 x = none → c (.ref x :: (xs ++ dds)) (mput M1 x (.ins C [] [])) fun d M2 => d = .non ∧ P (.ref x) M2
theorem made_sp {C : Addr} {c : DSp} {ds : List D} {vs : List V} {Hm : Hp} {M : Mm} {H : Hp} {P : D → Mm → Prop} {Q : VK} {x dx : Addr} (hc : Cfg K Hm M H) (r : RepL K Hm ds vs) (h1 : H x = none) (h2 : H dx = none) (hne : dx ≠ x)
    (p : c (.ref x :: ds) (mput M x (.ins C [] [])) fun d M2 => d = .non ∧ ∃ ns ds, M2 x = some (.ins C ns ds) ∧ P (.ins C ns ds) (mdel M2 x)) (q : PostE K Hm M H P Q) :
    spOf K c (.ref x :: vs) (upd (upd H dx (.own x)) x (.ins C dx [])) (fun v H2 => v = .non ∧ Q (.ref x) H2) E0 := by
  have e1 : Ex H (upd H dx (.own x)) := Ex.new h2
  have h3 : upd H dx (.own x) x = none := by rw [upd_ne hne.symm]; exact h1
  have c2 : Cfg K Hm (mput M x (.ins C [] [])) (upd (upd H dx (.own x)) x (.ins C dx [])) := (hc.more e1).newM (m := .ins C [] []) h3 ⟨dx, [], rfl, rfl, RepL.nil⟩
  have f2 : Fr Hm M H Hm (mput M x (.ins C [] [])) (upd (upd H dx (.own x)) x (.ins C dx [])) := (Fr.more e1).trans (Fr.newM h3)
  refine ⟨Hm, _, _, _, c2, RepL.cons (of_ref x) r, p, fun d M2 H3 h4 v e f c3 r3 ⟨ed, ns, es, hm, p2⟩ => ?_⟩
  subst ed
  refine ⟨by unfold Rep at r3; exact r3, ?_⟩
  obtain ⟨o, e4, c4, r4⟩ := c3.freeze hm
  exact q _ _ _ _ _ (e.trans e4) ((f2.trans f).trans (Fr.freeze hm)) c4 r4 p2
section
variable {k j : Nat} {C : Addr} {x m : Str} {c : DSp} {dds : List D} {p pos apos : Pos} {e o : Expr} {es : List Expr} {de : DE} {da : DA}
theorem j_make (h : MakD X.prog X.w X.K X.mg X.base k x C c dds) (hr : RmG j X.A) (hk : k + 1 ≤ j) (ha : JA X (e :: es) da) (hg : Gl X x := by rfl) (n1 : (x == ("__debug__" : Str)) = false := by decide)
    (n2 : starEach (e :: es) X.env = (false, eval e X.env) :: starEach es X.env := by rfl) (n3 : (backTo pos (starEach es X.env)).any (·.1) = false := by rfl) : JE X (.Call (.Name x p) (e :: es) [] pos) (dMake C c dds da) :=
  let ⟨_, fd, ps, ds, dvs, mk, F, hm, b, d, hd⟩ := h.ex
  let ⟨t, h1, l1⟩ := ha
  ⟨fun σ H Q => t σ H fun vs H1 => ∀ x dx, H1 x = none → H1 dx = none → dx ≠ x → spOf X.K c (.ref x :: (vs ++ dvs)) (upd (upd H1 dx (.own x)) x (.ins C dx [])) (fun v H2 => v = .non ∧ Q (.ref x) H2) E0,
    ⟨fun pins s σ H Q I hh => wpAny_Call_Name_kw (ld_glob I hg hm (PySem.W.callWith_K (h₀ := X.base) I.ok.mod.kin mk.kp (thn (h1.run pos pins s σ H _ I hh) fun us s1 h2 => by
      obtain ⟨vs, H1, I1, r, q⟩ := h2
      refine ⟨I1.kIn, runG_make (us := []) (args := ⟨us, []⟩) (bs := us ++ ds) (vs := vs ++ dvs) mk F (hr.mono hk) I1 (fun s' x' kin => ?_) (r.append d) q⟩
      refine b s' (.ref x' :: us) kin ?_
      have hl := F.len _ _ _ (q (s1.heap.objs.size + 1) s1.heap.objs.size (I1.hok.fresh (Nat.le_succ _)) (I1.hok.fresh (Nat.le_refl _)) (Nat.ne_of_lt (Nat.lt_succ_self _)))
      have hv := (Vals.append r d).length
      simp only [List.length_cons, List.length_append] at hl hv ⊢
      omega) n2 n3) n1)⟩,
    fun Hm M s σ H Q P hc hs p q => l1 Hm M s σ H _ _ hc hs p fun xs M1 H1 h1 vs e f c1 r p1 x dx hx hdx hne =>
      made_sp c1 (RepL.append r (hd H1)) hx hdx hne (p1 x (c1.free hx).2) (q.mono e f)⟩
end
end HD

namespace HD
open PySem PySem.Spec PyProof.Rows L2 PySem.W
open PySem.Calls in
/-- != of an instance whose class has an own == alone -/
theorem ne_own {prog : Program} {w : World} {A : Around} {E : Value → Shared → Prop} {s : Shared} {K : Frag} {x C f : Addr} {ox : Obj} {od : Option Obj} {b tb : Value} {Q : Value → Shared → Prop} (hu : A.units < cLine) (hu1 : A.in1.units < cLine) (X : K.In s.heap) (I : InstAt s.heap x ox C od)
    (hb : Looks (model prog w) s.heap (typeOf b) tb) (hn : notFirst K C tb = true) (hs : findIn K (.ref C) "__ne__" = some (some (.builtin "object.__ne__"))) (hm : mroIn K C (.type "object") = some true)
    (he : findIn K (.ref C) "__eq__" = some (some (.ref f))) (hf : isFn K (.ref f) = true) (h : wpAny (model prog w) A.in1 (call (.ref f) [.ref x, b]) (fun v s' => ∃ k, v = .bool k ∧ Q (.bool (!k)) s') E s) : wpAny (model prog w) A (richCompare .NotEq (.ref x) b) Q E s := by
  have inner : wpAny (model prog w) A (call (.builtin "object.__ne__") [.ref x, b]) (fun v s' => ∃ k, v = .bool k ∧ Q (.bool k) s') E s := by
    refine wpAny_call (codeAny_call_builtin PySem.F.slot_object_ne.plain PySem.F.entry_object_ne (check_slot (i := "object.__ne__") (owner := "object") (n := "__ne__") (by decide +kernel) (by decide +kernel) (I.type.andThen (looks_mroIn X hm)) (PySem.F.args_object_ne_2 _ _) ?_))
    unfold Builtin.«object.__ne__»
    refine wpAny_bind (m := slotArgs "__ne__" 1 _) (wpAny_pure ?_)
    refine wpAny_bind (m := cRoomFor _ _) (wpAny_cRoomFor hu1 ?_)
    refine wpAny_bind (m := callSpecialIfBound? (.ref x) (Str.ofString "__eq__") _) (ifBound_K X I he hf (wpAny_mono h (fun r s' hq => ?_) fun _ _ y => y))
    obtain ⟨k, rfl, q⟩ := hq
    exact wpAny_bind (wpAny_truthy_bool (wpAny_pure ⟨_, rfl, q⟩))
  have one : wpAny (model prog w) A (tryCompare (.ref x) "__ne__" b) (fun r s' => ∃ v, r = some v ∧ Q v s') E s := by
    unfold tryCompare
    refine wpAny_bind (m := callSpecialIfBound? (.ref x) (Str.ofString "__ne__") _) ?_
    have fin : wpAny (model prog w) A (call (.builtin "object.__ne__") ([.ref x] ++ [b]) >>= fun v => pure (some v)) (fun r s' => ∃ k, r = some (.bool k) ∧ Q (.bool k) s') E s :=
      wpAny_bind (wpAny_mono inner (fun v s' h' => wpAny_pure (by obtain ⟨k, e, q⟩ := h'; subst e; exact ⟨k, rfl, q⟩)) fun _ _ h' => h')
    refine wpAny_mono (Q := fun r s' => ∃ k, r = some (.bool k) ∧ Q (.bool k) s') ?_ (fun r s' z => ?_) fun _ _ y => y
    · simp only [callSpecialIfBound?, bindSpecialIfBound?]
      refine wpAny_holding (wpAny_bind (wpAny_bind (wpAny_bind (I.type.here ((looks_findIn X hs).here ?_)))))
      refine wpAny_bind (wpAny_askSetting (wpAny_ite ?_))
      split
      · exact wpAny_bind ((Looks.of_pure (PySem.F.slot_object_ne.bind _)).here (wpAny_pure (by exact fin)))
      · exact wpAny_tryCatch (wpAny_bind ((Looks.of_pure (PySem.F.slot_object_ne.bind _)).here (wpAny_pure (by exact fin))))
    · obtain ⟨k, rfl, q⟩ := z
      exact wpAny_pure ⟨_, rfl, q⟩
  unfold richCompare
  simp only [oneThing_ref]
  refine wpAny_holding (wpAny_bind (wpAny_cRoomFor hu ?_))
  refine wpAny_bind (I.type.here (wpAny_bind (hb.here ?_)))
  split
  · rename_i q
    have e : subIn K tb (.ref C) = some false := by
      rcases Bool.or_eq_true_iff.mp hn with e | e
      · rw [beq_iff_eq.mp e] at q; simp at q
      · exact beq_iff_eq.mp e
    refine wpAny_bind ((looks_subIn X e).here ?_)
    simp only [Bool.false_eq_true, if_false]
    refine wpAny_bind (wpAny_mono one (fun r s' z => ?_) fun _ _ e => e)
    obtain ⟨v, rfl, hq⟩ := z
    exact wpAny_pure hq
  · refine wpAny_bind (wpAny_pure ?_)
    simp only [Bool.false_eq_true, if_false]
    refine wpAny_bind (wpAny_mono one (fun r s' z => ?_) fun _ _ e => e)
    obtain ⟨v, rfl, hq⟩ := z
    exact wpAny_pure hq
/-- bool(x), x an instance without __bool__ and __len__ -/
theorem bool_own {prog : Program} {w : World} {A : Around} {E : Value → Shared → Prop} {s : Shared} {K : Frag} {x C : Addr} {ox : Obj} {od : Option Obj} {Q : Value → Shared → Prop} (X : K.In s.heap) (I : InstAt s.heap x ox C od)
    (hs : findIn K (.ref C) "__bool__" = some none) (hl : findIn K (.ref C) "__len__" = some none) (h : Q (.bool true) s) : wpAny (model prog w) A (call (.type "bool") [.ref x]) Q E s := by
  refine callType_codes (T := "bool") (Bi := Builtin.«object.__init__») (Q₁ := fun r s₁ => r = .bool true ∧ Q r s₁) PySem.F.called_bool (PySem.F.typeCall_bool_1 _) PySem.F.entry_object_init ?_ ?_
  · refine codeAny_of_tree ?_
    show wpAny _ A.in1.in1 (do checkBuiltinCall "bool.__new__" ⟨[.type "bool", .ref x], []⟩; again (.builtin "bool.__new__" ⟨[.type "bool", .ref x], []⟩)) _ _ s
    refine wpAny_bind (wpAny_of_eq (PySem.F.newCall_bool_1 _) (wpAny_pure ⟨plainId_quiet (by decide +kernel) _, codeAny_builtin PySem.F.entry_bool_new ?_⟩))
    rw [Around.under_plainId (by decide +kernel) _]
    have tr : ∀ {A' : Around} {E' : Value → Shared → Prop} {Q' : Bool → Shared → Prop}, Q' true s → wpAny (model prog w) A' (truthy (.ref x)) Q' E' s := fun q => by
      unfold truthy
      refine wpAny_bind (m := callSpecial? (.ref x) (Str.ofString "__bool__")) (wpAny_bind (wpAny_bind (I.type.here ((looks_findIn X hs).here (wpAny_pure ?_)))))
      refine wpAny_bind (wpAny_bind (I.type.here ((looks_findIn X hl).here ?_)))
      exact wpAny_pure q
    have f1 := PySem.F.conv_sub_bool
    unfold Builtin.«bool.__new__»
    refine wpAny_bind (wpAny_pure ?_)
    refine wpAny_bind (wpAny_of_eq f1 ?_)
    simp only [Bool.not_true, Bool.false_eq_true, if_false]
    refine wpAny_bind (wpAny_pure ?_)
    exact wpAny_bind (tr (wpAny_pure ⟨rfl, h⟩))
  · rintro obj s₁ ⟨rfl, hq⟩
    exact ⟨PySem.typeIs_bool _ _, PySem.F.args_object_init_2 _ _, object_init_meets PySem.F.called_bool.init.lookup PySem.F.called_bool.made (by decide) prog w A.in1 _ s₁ ⟨PySem.typeIs_bool _ _, rfl, hq⟩⟩
variable {X : Cx} {K : PySem.W.Frag}
section
variable {P : Program} {w : World} {mg : Str → Option Value} {base : Heap}
/-- a special method of one's own: __eq__, __str__, __repr__ -/
structure SpcD (P : Program) (w : World) (K : PySem.W.Frag) (mg : Str → Option Value) (base : Heap) (k : Nat) (C : Addr) (m : Str) (c : DSp) : Prop where
  ex : ∃ (f : Addr) (fd : FuncData) (ps : List Str), FnG P w K mg base k f fd ps (spOf K c) ∧ PySem.W.findIn K (.ref C) m = some (some (.ref f)) ∧ PySem.W.isFn K (.ref f) = true ∧ Binds K fd ps []
end
section
variable {k j : Nat} {f C : Addr} {fd : FuncData} {ps : List Str} {sp : Sp}
theorem runGA {A : Around} {pins : List (Addr × Obj)} {σ : L2.St} {H : Hp} {s : Shared} {Q : VK} {us : List Value} {vs : List V} {E : Value → Shared → Prop} (F : FnG X.prog X.w X.K X.mg X.base k f fd ps sp) (hr : RmG k A) (hf : A.frames = X.A.frames) (hb : L2.Binds X.K fd ps [])
    (I : L2.Inv X pins σ H s) (r : Vals vs us) (h : sp vs H Q E0) : wpAny (model X.prog X.w) A (call (.ref f) us) (EP X pins σ Q) E s := by
  have e0 : Env0 X.prog X.w X.K X.mg X.base A X.stack s H := by
    have e := I.env0
    exact ⟨by rw [hf]; exact e.frames, e.mod, e.bs, e.bsz, e.funs, e.frf, e.hok, e.bare⟩
  refine wpAny_call (codeAny_mono (F.run A X.stack s H ⟨us, []⟩ us vs Q hr e0 ?_ r h) ?_)
  · have := hb s us I.kIn (by have := F.len _ _ _ h; rw [r.length] at this; simpa using this)
    simpa using this
  · rintro r s' hq
    obtain ⟨u, rfl, z⟩ := endG I hq
    exact z
end
section
variable {k j : Nat} {C : Addr} {c : DSp} {a b : Expr} {da db : DE} {pos : Pos}
def rOwn (K : PySem.W.Frag) (C : Addr) (c : DSp) (neg : Bool) : V → V → Hp → VK → Prop := fun x y H Q => ∃ a dx fs t, x = .ref a ∧ H a = some (.ins C dx fs) ∧ TyX K H y t ∧ PySem.W.notFirst K C t = true ∧ spOf K c [x, y] H (fun v H' => ∃ b, v = .bl b ∧ Q (.bl (if neg then !b else b)) H') E0
theorem op_own (h : SpcD X.prog X.w X.K X.mg X.base k C "__eq__" c) (hr : RmG j X.A) (hk : k ≤ j) : OpR X (compareOp .Eq) (rOwn X.K C c false) := by
  intro pins s σ H x y v u Q I rx ry hq
  obtain ⟨f, fd, ps, F, hs, hf, hb⟩ := h.ex
  obtain ⟨p, dx, fs, t, rfl, hp, ht, hn, hsp⟩ := hq
  cases rx
  obtain ⟨mA, O, _⟩ := ins_get I.hok hp
  obtain ⟨od, J, _⟩ := O.look
  obtain ⟨m, hF⟩ := I.fr
  obtain ⟨Z, z1, z2, _⟩ := kit_of I ry ht
  show wpAny (model X.prog X.w) X.A (richCompare .Eq (.ref p) u) (EP X pins σ Q) X.xe s
  refine PySem.W.cmp_K (op := .Eq) hr.rm.units0 hF I.ok.mod.kin J (z1.ty _ _ I.kIn z2) hn hs hf ?_
  refine wpAny_mono (runGA (E := X.xe) F (hr.mono hk) rfl hb I (vs := [.ref p, y]) (us := [.ref p, u]) (.cons rfl (.cons ry .nil)) hsp) (fun r s' hz => ?_) fun _ _ x => x
  obtain ⟨w', H', I', rw', b, rfl, q⟩ := hz
  cases rw'
  exact ⟨.bl b, H', I', rfl, q⟩
theorem op_ownN (h : SpcD X.prog X.w X.K X.mg X.base k C "__eq__" c) (hne : PySem.W.findIn X.K (.ref C) "__ne__" = some (some (.builtin "object.__ne__"))) (hm : PySem.W.mroIn X.K C (.type "object") = some true) (hr : RmG j X.A) (hk : k + 1 ≤ j) : OpR X (compareOp .NotEq) (rOwn X.K C c true) := by
  intro pins s σ H x y v u Q I rx ry hq
  obtain ⟨f, fd, ps, F, hs, hf, hb⟩ := h.ex
  obtain ⟨p, dx, fs, t, rfl, hp, ht, hn, hsp⟩ := hq
  cases rx
  obtain ⟨mA, O, _⟩ := ins_get I.hok hp
  obtain ⟨od, J, _⟩ := O.look
  obtain ⟨Z, z1, z2, _⟩ := kit_of I ry ht
  have r1 := (hr.mono hk).in1
  show wpAny (model X.prog X.w) X.A (richCompare .NotEq (.ref p) u) (EP X pins σ Q) X.xe s
  refine ne_own hr.rm.units0 r1.rm.units0 I.kIn J (z1.ty _ _ I.kIn z2) hn hne hm hs hf ?_
  refine wpAny_mono (runGA (E := X.xe) F r1 rfl hb I (vs := [.ref p, y]) (us := [.ref p, u]) (.cons rfl (.cons ry .nil)) hsp) (fun r s' hz => ?_) fun _ _ x => x
  obtain ⟨w', H', I', rw', b, rfl, q⟩ := hz
  cases rw'
  exact ⟨b, rfl, .bl (!b), H', I', rfl, q⟩
def ownD (K : PySem.W.Frag) (C : Addr) (c : DSp) (neg : Bool) (da db : DE) : DE := fun s M P => da s M fun x M1 => db s M1 fun y M2 => ∃ ns ds t, insD M2 C x = some (ns, ds) ∧ tyD M2 y = some t ∧ (∀ C, t = .ref C → TyI K C) ∧ PySem.W.notFirst K C t = true ∧
  c [x, y] M2 fun z M3 => ∃ b, z = .bl b ∧ P (.bl (if neg then !b else b)) M3
theorem le_own {neg : Bool} {ta tb : TE} (ha : LE K ta da) (hb : LE K tb db) : LE K (tOp (rOwn K C c neg) ta tb) (ownD K C c neg da db) := fun Hm M s σ H Q P hc hs p q => by
  refine ha Hm M s σ H _ _ hc hs p fun x M1 H1 h1 v e1 f1 c1 r1 p1 => ?_
  refine hb H1 M1 s σ h1 _ _ c1 (hs.mono e1) p1 fun y M2 H2 h2 u e2 f2 c2 r2 p2 => ?_
  obtain ⟨ns, ds, t, g1, g2, g3, g4, p3⟩ := p2
  have r1' := Rep.mono e2 _ _ r1
  obtain ⟨a, dx, vs, rfl, g5, g6, g7⟩ := insD_at c2 r1' g1
  refine ⟨a, dx, _, t, rfl, g5, tyD_at c2 r2 g2 g3, g4, H2, M2, [x, y], _, c2, RepL.cons r1' (RepL.cons r2 RepL.nil), p3, fun z M3 H3 h3 w e3 f3 c3 r3 p4 => ?_⟩
  obtain ⟨b, rfl, p4⟩ := p4
  exact ⟨b, rep_bl r3, q _ M3 H3 h3 _ ((e1.trans e2).trans e3) ((f1.trans f2).trans f3) c3 (of_bl _) p4⟩
theorem j_own (h : SpcD X.prog X.w X.K X.mg X.base k C "__eq__" c) (hr : RmG j X.A) (hk : k ≤ j) (ha : JE X a da) (hb : JE X b db) : JE X (.Compare a [.Eq] [b] pos) (ownD X.K C c false da db) :=
  let ⟨_, h1, l1⟩ := ha
  let ⟨_, h2, l2⟩ := hb
  ⟨_, pe_cmpR (op_own h hr hk) h1 h2 (nomark _), le_own l1 l2⟩
theorem j_ownN (h : SpcD X.prog X.w X.K X.mg X.base k C "__eq__" c) (hne : PySem.W.findIn X.K (.ref C) "__ne__" = some (some (.builtin "object.__ne__"))) (hm : PySem.W.mroIn X.K C (.type "object") = some true) (hr : RmG j X.A) (hk : k + 1 ≤ j) (ha : JE X a da) (hb : JE X b db) : JE X (.Compare a [.NotEq] [b] pos) (ownD X.K C c true da db) :=
  let ⟨_, h1, l1⟩ := ha
  let ⟨_, h2, l2⟩ := hb
  ⟨_, pe_cmpR (op_ownN h hne hm hr hk) h1 h2 (nomark _), le_own l1 l2⟩
theorem t_own (h : SpcD X.prog X.w X.K X.mg X.base k C "__eq__" c) (hr : RmG j X.A) (hk : k ≤ j) (ha : JE X a da) (hb : JE X b db) : JT X (.Compare a [.Eq] [b] pos) (dTest (ownD X.K C c false da db)) :=
  let ⟨_, h1, l1⟩ := ha
  let ⟨_, h2, l2⟩ := hb
  ⟨_, pt_cmpR (op_own h hr hk) h1 h2 (nomark _), lt_test (le_own l1 l2)⟩
theorem t_ownN (h : SpcD X.prog X.w X.K X.mg X.base k C "__eq__" c) (hne : PySem.W.findIn X.K (.ref C) "__ne__" = some (some (.builtin "object.__ne__"))) (hm : PySem.W.mroIn X.K C (.type "object") = some true) (hr : RmG j X.A) (hk : k + 1 ≤ j) (ha : JE X a da) (hb : JE X b db) : JT X (.Compare a [.NotEq] [b] pos) (dTest (ownD X.K C c true da db)) :=
  let ⟨_, h1, l1⟩ := ha
  let ⟨_, h2, l2⟩ := hb
  ⟨_, pt_cmpR (op_ownN h hne hm hr hk) h1 h2 (nomark _), lt_test (le_own l1 l2)⟩
/-! ### str(x), repr(x), bool(x) of an instance -/
def rTxt (K : PySem.W.Frag) (C : Addr) (c : DSp) : List V → Hp → VK → Prop := fun xs H Q => ∃ a dx fs, xs = [.ref a] ∧ H a = some (.ins C dx fs) ∧ spOf K c [.ref a] H (fun v H' => ∃ y, v = .str y ∧ Q (.str y) H') E0
theorem call_strO (h : SpcD X.prog X.w X.K X.mg X.base k C "__str__" c) (hr : RmG j X.A) (hk : k + 2 ≤ j) : CallR X (.type "str") (rTxt X.K C c) := by
  intro pins s σ H xs us Q I r hh
  obtain ⟨f, fd, ps, F, hs, hf, hb⟩ := h.ex
  obtain ⟨p, dx, fs, rfl, hp, hsp⟩ := hh
  obtain ⟨u, rfl, r1⟩ := vals1 r
  cases r1
  obtain ⟨mA, O, _⟩ := ins_get I.hok hp
  obtain ⟨od, J, _⟩ := O.look
  have r2 := (hr.mono hk).in1.in1
  refine PySem.W.kso_call r2.rm.units0 I.kIn J hs hf ?_
  refine wpAny_mono (runGA (E := X.xe) F r2 rfl hb I (vs := [.ref p]) (us := [.ref p]) (.cons rfl .nil) hsp) (fun r s' hz => ?_) fun _ _ x => x
  obtain ⟨w', H', I', rw', y, rfl, q⟩ := hz
  obtain ⟨t, rfl⟩ := rw'
  exact ⟨.str y, H', I', ⟨t, rfl⟩, q⟩
theorem call_reprO (h : SpcD X.prog X.w X.K X.mg X.base k C "__repr__" c) (hr : RmG j X.A) (hk : k + 1 ≤ j) : CallR X (.builtin "repr") (rTxt X.K C c) := by
  intro pins s σ H xs us Q I r hh
  obtain ⟨f, fd, ps, F, hs, hf, hb⟩ := h.ex
  obtain ⟨p, dx, fs, rfl, hp, hsp⟩ := hh
  obtain ⟨u, rfl, r1⟩ := vals1 r
  cases r1
  obtain ⟨mA, O, _⟩ := ins_get I.hok hp
  obtain ⟨od, J, _⟩ := O.look
  obtain ⟨m, hF⟩ := I.fr
  have r2 := (hr.mono hk).in1
  refine PySem.W.repr_K r2.rm.units0 hF I.ok.mod.kin J hs hf ?_
  refine wpAny_mono (runGA (E := X.xe) F r2 rfl hb I (vs := [.ref p]) (us := [.ref p]) (.cons rfl .nil) hsp) (fun r s' hz => ?_) fun _ _ x => x
  obtain ⟨w', H', I', rw', y, rfl, q⟩ := hz
  obtain ⟨t, rfl⟩ := rw'
  exact ⟨.str y, H', I', ⟨t, rfl⟩, q⟩
def dTxt (C : Addr) (c : DSp) (da : DA) : DE := fun s M P => da s M fun xs M1 => ∃ x ns ds, xs = [x] ∧ insD M1 C x = some (ns, ds) ∧ c [x] M1 fun z M2 => ∃ y, z = .str y ∧ P (.str y) M2
theorem le_txt {t : TA} {da : DA} (h : LA K t da) : LE K (tCB (rTxt K C c) t) (dTxt C c da) := fun Hm M s σ H Q P hc hs p q => by
  refine h Hm M s σ H _ _ hc hs p fun xs M1 H1 h1 vs e1 f1 c1 r1 p1 => ?_
  obtain ⟨x, ns, ds, rfl, g1, p1⟩ := p1
  obtain ⟨v, rfl, r2⟩ := rep1 r1
  obtain ⟨a, dx, us, rfl, g5, g6, g7⟩ := insD_at c1 r2 g1
  refine ⟨a, dx, _, rfl, g5, H1, M1, [x], _, c1, r1, p1, fun z M3 H3 h3 w e3 f3 c3 r3 p4 => ?_⟩
  obtain ⟨b, rfl, p4⟩ := p4
  exact ⟨b, rep_str r3, q _ M3 H3 h3 _ (e1.trans e3) (f1.trans f3) c3 (of_str _) p4⟩
variable {p : Pos} {e : Expr} {da' : DA}
theorem j_strO (h : SpcD X.prog X.w X.K X.mg X.base k C "__str__" c) (hr : RmG j X.A) (hk : k + 2 ≤ j) (hm : X.mg "str" = none) (ha : JA X [e] da') (hg : Gl X "str" := by rfl)
    (he : starEach [e] X.env = (false, eval e X.env) :: starEach [] X.env := by rfl) : JE X (.Call (.Name "str" p) [e] [] pos) (dTxt C c da') :=
  let ⟨_, h1, l1⟩ := ha
  ⟨_, pe_callTy (call_strO h hr hk) hg hm rfl h1 (by decide) (by decide) he rfl, le_txt l1⟩
theorem j_reprO (h : SpcD X.prog X.w X.K X.mg X.base k C "__repr__" c) (hr : RmG j X.A) (hk : k + 1 ≤ j) (hm : X.mg "repr" = none) (ha : JA X [e] da') (hg : Gl X "repr" := by rfl)
    (he : starEach [e] X.env = (false, eval e X.env) :: starEach [] X.env := by rfl) : JE X (.Call (.Name "repr" p) [e] [] pos) (dTxt C c da') :=
  let ⟨_, h1, l1⟩ := ha
  ⟨_, pe_callB (call_reprO h hr hk) hg hm rfl h1 (by decide) (by decide) he rfl, le_txt l1⟩
structure NoBool (K : PySem.W.Frag) (C : Addr) : Prop where
  b : PySem.W.findIn K (.ref C) "__bool__" = some none
  l : PySem.W.findIn K (.ref C) "__len__" = some none
def boolO (C : Addr) : FC := fun M xs P => match xs with
  | [x] => ∃ ns ds, insD M C x = some (ns, ds) ∧ P (.bl true)
  | _ => False
theorem call_boolO (n : NoBool X.K C) : CallR X (.type "bool") (fun xs H Q => ∃ a dx fs, xs = [.ref a] ∧ H a = some (.ins C dx fs) ∧ Q (.bl true) H) := by
  intro pins s σ H xs us Q I r hh
  obtain ⟨p, dx, fs, rfl, hp, q⟩ := hh
  obtain ⟨u, rfl, r1⟩ := vals1 r
  cases r1
  obtain ⟨mA, O, _⟩ := ins_get I.hok hp
  obtain ⟨od, J, _⟩ := O.look
  exact bool_own I.kIn J n.b n.l ⟨.bl true, H, I, rfl, q⟩
theorem lc_boolO : LC K (fun xs H Q => ∃ a dx fs, xs = [.ref a] ∧ H a = some (.ins C dx fs) ∧ Q (.bl true) H) (boolO C) := fun Hm M H ds vs P Q c rs p q => by
  unfold boolO at p
  split at p
  · obtain ⟨v, rfl, r⟩ := rep1 rs
    obtain ⟨ns, es, h1, p⟩ := p
    obtain ⟨a, dx, us, rfl, g5, g6, g7⟩ := insD_at c r h1
    exact ⟨a, dx, _, rfl, g5, q _ Hm H _ (Ex.refl _) (Fr.refl _ _ _) c (of_bl _) p⟩
  · exact p.elim
end
end HD

namespace HD
open PySem PySem.Spec PyProof.Rows L2
variable {X : Cx} {K : PySem.W.Frag}
/-! ### calls by keywords: n values stand by their places, the names ks behind them -/
structure KwB (K : PySem.W.Frag) (fd : FuncData) (ps : List Str) (n : Nat) (ks : List Str) (gd : List D → List D) : Prop where
  ex : ∃ (g : List Value → List Value) (gV : List V → List V), (∀ (s : Shared) (us ws : List Value), K.In s.heap → us.length = n → ws.length = ks.length → BindsTo s fd ⟨us, ks.zip ws⟩ (ps.zip (us ++ g ws))) ∧
    (∀ (zs : List V) (ws : List Value), Vals zs ws → Vals (gV zs) (g ws)) ∧ ∀ (Hm : Hp) (es : List D) (zs : List V), RepL K Hm es zs → RepL K Hm (gd es) (gV zs)
theorem RepL.reverse {Hm : Hp} : ∀ {es : List D} {zs : List V}, RepL K Hm es zs → RepL K Hm es.reverse zs.reverse
  | [], zs, h => by
    have e : zs = [] := by unfold RepL at h; exact h
    subst e
    exact RepL.nil
  | d :: es, zs, h => by
    unfold RepL at h
    obtain ⟨v, us, rfl, h1, h2⟩ := h
    rw [List.reverse_cons, List.reverse_cons]
    exact RepL.append (RepL.reverse h2) (RepL.cons h1 RepL.nil)
theorem vals_reverse : ∀ {zs : List V} {ws : List Value}, Vals zs ws → Vals zs.reverse ws.reverse
  | _, _, .nil => .nil
  | _, _, .cons h t => by
    rw [List.reverse_cons, List.reverse_cons]
    exact Vals.append (vals_reverse t) (.cons h .nil)
theorem kw_id {fd : FuncData} {ps : List Str} {n : Nat} {ks : List Str} (h : ∀ (us ws : List Value), us.length = n → ws.length = ks.length → ∀ s, K.In s.heap → BindsTo s fd ⟨us, ks.zip ws⟩ (ps.zip (us ++ ws))) : KwB K fd ps n ks id :=
  ⟨id, id, fun s us ws k a b => h us ws a b s k, fun _ _ h => h, fun _ _ _ h => h⟩
theorem kw_rev {fd : FuncData} {ps : List Str} {n : Nat} {ks : List Str} (h : ∀ (us ws : List Value), us.length = n → ws.length = ks.length → ∀ s, K.In s.heap → BindsTo s fd ⟨us, ks.zip ws⟩ (ps.zip (us ++ ws.reverse))) : KwB K fd ps n ks List.reverse :=
  ⟨List.reverse, List.reverse, fun s us ws k a b => h us ws a b s k, fun _ _ h => vals_reverse h, fun _ _ _ h => RepL.reverse h⟩
theorem kw_dfl {fd : FuncData} {ps : List Str} {n : Nat} {ks : List Str} {ds : List Value} {dvs : List V} {dds : List D} (hv : Vals dvs ds) (hd : ∀ Hm, RepL K Hm dds dvs) (h : ∀ (us ws : List Value), us.length = n → ws.length = ks.length → ∀ s, K.In s.heap → BindsTo s fd ⟨us, ks.zip ws⟩ (ps.zip (us ++ (ws ++ ds)))) : KwB K fd ps n ks (· ++ dds) :=
  ⟨(· ++ ds), (· ++ dvs), fun s us ws k a b => h us ws a b s k, fun _ _ h => Vals.append h hv, fun Hm _ _ h => RepL.append h (hd Hm)⟩
section
variable {P : Program} {w : World} {mg : Str → Option Value} {base : Heap}
structure CalK (P : Program) (w : World) (K : PySem.W.Frag) (mg : Str → Option Value) (base : Heap) (k : Nat) (x : Str) (c : DSp) (n : Nat) (ks : List Str) (gd : List D → List D) : Prop where
  ex : ∃ (f : Addr) (fd : FuncData) (ps : List Str), FnG P w K mg base k f fd ps (spOf K c) ∧ mg x = some (.ref f) ∧ PySem.W.keepIn K (.ref f) = true ∧ KwB K fd ps n ks gd
structure MetK (P : Program) (w : World) (K : PySem.W.Frag) (mg : Str → Option Value) (base : Heap) (k : Nat) (C : Addr) (m : Str) (c : DSp) (n : Nat) (ks : List Str) (gd : List D → List D) : Prop where
  ex : ∃ (f : Addr) (fd : FuncData) (ps : List Str), Cls K C ∧ Meth K C m f ∧ FnG P w K mg base k f fd ps (spOf K c) ∧ KwB K fd ps (n + 1) ks gd
structure MakK (P : Program) (w : World) (K : PySem.W.Frag) (mg : Str → Option Value) (base : Heap) (k : Nat) (x : Str) (C : Addr) (c : DSp) (n : Nat) (ks : List Str) (gd : List D → List D) : Prop where
  ex : ∃ (f : Addr) (fd : FuncData) (ps : List Str), Mk K C f ∧ FnG P w K mg base k f fd ps (spOf K c) ∧ mg x = some (.ref C) ∧ KwB K fd ps (n + 1) ks gd
end
def JK (X : Cx) (kws : List Keyword) (d : DA) : Prop := ∃ t, PK X kws t ∧ LA X.K t d
section
variable {e o : Expr} {nm : Option Str} {kpos pos p apos : Pos} {kws : List Keyword} {de : DE} {dk : DA} {k j : Nat} {C : Addr} {x m : Str} {c : DSp} {ks : List Str} {gd : List D → List D}
theorem k_nil : JK X [] dNil := ⟨_, pk_nil, fun Hm M s σ H Q P c hs p q => q [] M Hm H [] (Ex.refl _) (Fr.refl _ _ _) c RepL.nil p⟩
theorem k_cons (h : JE X e de) (r : JK X kws dk) : JK X (⟨nm, e, kpos⟩ :: kws) (dCons de dk) :=
  let ⟨_, h1, l1⟩ := h
  let ⟨_, h2, l2⟩ := r
  ⟨_, pk_cons h1 h2, fun Hm M s σ H Q P c hs p q => l1 Hm M s σ H _ _ c hs p fun x M1 H1 h v e f c1 r p1 =>
    l2 H1 M1 s σ h _ _ c1 (hs.mono e) p1 fun xs M2 H2 h2 vs e2 f2 c2 r2 p2 => q _ M2 H2 h2 _ (e.trans e2) (f.trans f2) c2 (RepL.cons (Rep.mono e2 _ _ r) r2) p2⟩
/-- how many values the keywords give -/
def dLen (n : Nat) (da : DA) : DA := fun s M P => da s M fun xs M1 => xs.length = n ∧ P xs M1
def dMakeK (C : Addr) (c : DSp) (n : Nat) (gd : List D → List D) (da : DA) : DE := fun s M P => da s M fun xs M1 => xs.length = n ∧ ∀ x, M1 x = none → c (.ref x :: gd xs) (mput M1 x (.ins C [] [])) fun d M2 => d = .non ∧ ∃ ns ds, M2 x = some (.ins C ns ds) ∧ P (.ins C ns ds) (mdel M2 x)
/-- C(k = v, ..) -/
theorem j_makeK0 (h : MakK X.prog X.w X.K X.mg X.base k x C c 0 ks gd) (hr : RmG j X.A) (hk : k + 1 ≤ j) (ha : JK X kws dk) (hg : Gl X x := by rfl) (n1 : (x == ("__debug__" : Str)) = false := by decide) (hall : (backToKw pos (keywordEach kws X.env)).all (·.1.isSome) = true := by rfl)
    (hks : (backToKw pos (keywordEach kws X.env)).filterMap (·.1) = ks := by rfl) (hpl : ((backTo pos (starEach [] X.env)).any (·.1) || (backToKw pos (keywordEach kws X.env)).any (·.1.isNone)) = false := by rfl) : JE X (.Call (.Name x p) [] kws pos) (dMakeK C c ks.length gd dk) :=
  let ⟨_, fd, ps, mk, F, hm, kb⟩ := h.ex
  let ⟨g, gV, b1, b2, b3⟩ := kb.ex
  let ⟨t, h1, l1⟩ := ha
  ⟨fun σ H Q => t σ H fun vs H1 => vs.length = ks.length ∧ ∀ x dx, H1 x = none → H1 dx = none → dx ≠ x → spOf X.K c (.ref x :: gV vs) (upd (upd H1 dx (.own x)) x (.ins C dx [])) (fun v H2 => v = .non ∧ Q (.ref x) H2) E0,
    ⟨fun pins s σ H Q I hh => wpAny_Call_Name_kw (ld_glob I hg hm (PySem.W.callWith_KW0 (h₀ := X.base) I.ok.mod.kin mk.kp hall (thn (h1.run pos pins s σ H _ I hh) fun us s1 h2 => by
      obtain ⟨vs, H1, I1, r, hl, q⟩ := h2
      have hlu : us.length = ks.length := by rw [← r.length]; exact hl
      refine ⟨I1.kIn, ?_⟩
      rw [hks]
      exact runG_make (us := []) (args := ⟨[], ks.zip us⟩) (bs := g us) (vs := gV vs) mk F (hr.mono hk) I1 (fun s' x' kin => b1 s' [.ref x'] us kin rfl hlu) (b2 _ _ r) q) hpl) n1)⟩,
    fun Hm M s σ H Q P hc hs p q => l1 Hm M s σ H _ _ hc hs p fun xs M1 H1 h1 vs e f c1 r ⟨hl, p1⟩ => ⟨by rw [r.len]; exact hl, fun x dx hx hdx hne =>
      made_sp c1 (b3 H1 _ _ r) hx hdx hne (p1 x (c1.free hx).2) (q.mono e f)⟩⟩
/-- o.m(k = v, ..) -/
def dMethK (C : Addr) (m : Str) (c : DSp) (n : Nat) (gd : List D → List D) (de : DE) (da : DA) : DE := fun s M P => de s M fun x M1 => ∃ ns ds, insD M1 C x = some (ns, ds) ∧ valN ns ds m = none ∧ da s M1 fun xs M2 => xs.length = n ∧ c (x :: gd xs) M2 P
abbrev MCallK (X : Cx) (o : Expr) (m : Str) (apos pos : Pos) (kws : List Keyword) (pl : Sem Bool) : Prop := eval (.Call (.Attribute o m apos) [] kws pos) X.env = (do
      let v ← eval o X.env
      standAt apos.atName
      let (g, fst) ← holding [v] (getMethod v m pl)
      callWith pos g fst (backTo pos (starEach [] X.env)) (backToKw pos (keywordEach kws X.env)))
theorem j_methK0 {pl : Sem Bool} (h : MetK X.prog X.w X.K X.mg X.base k C m c 0 ks gd) (hr : RmG j X.A) (hk : k ≤ j) (ho : JE X o de) (ha : JK X kws dk) (hall : (backToKw pos (keywordEach kws X.env)).all (·.1.isSome) = true := by rfl)
    (hks : (backToKw pos (keywordEach kws X.env)).filterMap (·.1) = ks := by rfl) (hpl : ((backTo pos (starEach [] X.env)).any (·.1) || (backToKw pos (keywordEach kws X.env)).any (·.1.isNone)) = false := by rfl) (ht : MCallK X o m apos pos kws pl := by rfl) :
    JE X (.Call (.Attribute o m apos) [] kws pos) (dMethK C m c ks.length gd de dk) :=
  let ⟨_, fd, ps, cl, hm, F, kb⟩ := h.ex
  let ⟨g, gV, b1, b2, b3⟩ := kb.ex
  let ⟨te, h0, l0⟩ := ho
  let ⟨t, h1, l1⟩ := ha
  ⟨fun σ H Q => te σ H fun x H1 => ∃ a dx fs, x = .ref a ∧ H1 a = some (.ins C dx fs) ∧ fs.lookup m = none ∧ t σ H1 fun vs H2 => vs.length = ks.length ∧ spOf X.K c (.ref a :: gV vs) H2 Q E0,
    ⟨fun pins s σ H Q I hh => PySem.W.methodCall_KW (pl := pl) (thn (h0.run pins s σ H _ I hh) fun u s1 h2 => by
      obtain ⟨x, H1, I1, rx, a, dx, fs, rfl, ea, l, q⟩ := h2
      cases rx
      refine getmeth_ok I1 ea cl hm l (PySem.W.callWith_KW0 (first := [.ref a]) (h₀ := X.base) I.ok.mod.kin hm.kp hall (thn (h1.run pos pins s1 σ H1 _ I1 q) fun us s2 h3 => ?_) hpl)
      obtain ⟨vs, H2, I2, r, hl, q2⟩ := h3
      have hlu : us.length = ks.length := by rw [← r.length]; exact hl
      refine ⟨I2.kIn, ?_⟩
      rw [hks]
      refine wpAny_call (codeAny_mono (F.run X.A X.stack s2 H2 ⟨[.ref a], ks.zip us⟩ (.ref a :: g us) (.ref a :: gV vs) Q (hr.mono hk) I2.env0 (b1 s2 [.ref a] us I2.kIn rfl hlu) (.cons rfl (b2 _ _ r)) q2) fun r s' hq => ?_)
      obtain ⟨u, rfl, z⟩ := endG I2 hq
      exact z) ht⟩,
    fun Hm M s σ H Q P hc hs p q => l0 Hm M s σ H _ _ hc hs p fun x M1 H1 h1 v e f c1 r ⟨ns, ds, hi, hn, p1⟩ => by
      obtain ⟨a, dx, vs, rfl, g1, g2, g3⟩ := insD_at c1 r hi
      refine ⟨a, dx, _, rfl, g1, valN_none g3 hn, l1 H1 M1 s σ h1 _ _ c1 (hs.mono e) p1 fun xs M2 H2 h2 ws e2 f2 c2 r2 p2 => ⟨by rw [r2.len]; exact p2.1, H2, M2, _, P, c2, RepL.cons (Rep.mono e2 _ _ r) (b3 H2 _ _ r2), p2.2, q.mono (e.trans e2) (f.trans f2)⟩⟩⟩
end
end HD

namespace HD
open PySem PySem.Spec PyProof.Rows L2
/-! ### the law's end: no exception, no guard -/
theorem lawG_call {Pg : Program} {wd : World} {Kf : PySem.W.Frag} {gm bm : Str → Option Value} {lv : Nat} {fL sc : Addr} {fdL : FuncData} {pn : Str} {spL : Sp} {t₁ : Shared} {uvs : List Value} {zs : List Int}
    (kin : Kf.In t₁.heap) (nsG : t₁.heap.Ns mainGlobals gm) (nsB : t₁.heap.Ns builtinsNs bm) (boot : ∀ y : Str, y ≠ "__name__" → bm y = bootBuiltins y) (nolim : t₁.heap.NoLimit) (nog : t₁.gens = #[])
    (atS : t₁.heap.get? sc = some { cls := .type "list", data := .seq uvs.toArray }) (intsZ : IntsAre uvs zs) (fits : zs.length ≤ sizeLine) (room : RmG lv callerA)
    (prom : ∀ bs : Heap, Kf.In bs → bs.Ns mainGlobals gm → FnG Pg wd Kf gm bs lv fL fdL [pn] spL) (bnd : ∀ (t : Shared) (u : Value), BindsTo t fdL ⟨[u], []⟩ [(pn, u)])
    (due : ∀ G : Hp, Only G → SqL Kf G sc (zs.map V.int) → spL [.ref sc] G (fun v _ => v = .bl true) E0) :
    codeAny (model Pg wd) callerA (.call (.ref fL) ⟨[.ref sc], []⟩) (fun r t' => r = .ok (.ret (.bool true)) ∧ OldK t₁.heap t'.heap ∧ t'.os = t₁.os ∧ AllBare t'.gens) t₁ := by
  have vv := vals_ints intsZ
  have lens := intsZ.length
  have mid : ∀ G : Hp, Only G → SqL Kf G sc (zs.map V.int) → HOk Pg wd G t₁.heap → (∀ b, G b ≠ none → b = sc) → (G sc ≠ none → Kf.lookup sc = none) →
      codeAny (model Pg wd) callerA (.call (.ref fL) ⟨[.ref sc], []⟩) (fun r t' => r = .ok (.ret (.bool true)) ∧ OldK t₁.heap t'.heap ∧ t'.os = t₁.os ∧ AllBare t'.gens) t₁ := by
    intro G gO gS gok gA gK
    have down : ∀ {b : Addr} {o : Obj}, t₁.heap.get? b = some o → G b = none → (hidT t₁.heap G).get? b = some o := fun e n => hidT_get e n
    have dicts : ∀ {b : Addr} {o : Obj} {es : Array DictEntry} {ep : Nat}, t₁.heap.get? b = some o → o.data = .dict es ep → G b = none := fun {b o es ep} e d => by
      cases gb : G b with
      | none => rfl
      | some u =>
        have same : b = sc := gA b (by rw [gb]; simp)
        subst same
        rw [atS] at e
        cases e
        cases (show Data.seq uvs.toArray _ = Data.dict es ep from d)
    have names : ∀ {b : Addr} {m : Str → Option Value}, t₁.heap.Ns b m → (hidT t₁.heap G).Ns b m := fun {b m} ⟨o, es, ep, e, d, r⟩ => ⟨o, es, ep, down e (dicts e d), d, r⟩
    have kb : Kf.In (hidT t₁.heap G) := fun b o e => down (kin b o e) (by
      cases gb : G b with
      | none => rfl
      | some u =>
        have same : b = sc := gA b (by rw [gb]; simp)
        subst same
        rw [gK (by rw [gb]; simp)] at e
        cases e)
    have md : Mod Kf gm (hidT t₁.heap G) := ⟨kb, names nsG, ⟨bm, names nsB, boot⟩, let ⟨mc, q1, q2⟩ := nolim; ⟨mc, names q1, q2⟩⟩
    have ev : Env0 Pg wd Kf gm (hidT t₁.heap G) callerA [] t₁ G := ⟨rfl, md, fun b o e => of_hidT e, Nat.le_of_eq (hidT_size _ _), trivial, fun b hb => absurd (show b ∈ ([] : List Addr) from hb) (by simp), gok, .of_eq nog⟩
    refine codeAny_mono ((prom _ kb (names nsG)).run callerA [] t₁ G ⟨[.ref sc], []⟩ [.ref sc] [.ref sc] _ room ev (bnd t₁ (.ref sc)) (.cons rfl .nil) (due G gO gS)) fun r t' z => ?_
    cases r with
    | error e => exact False.elim z
    | ok fl =>
      cases fl with
      | next | brk | cont => exact False.elim z
      | ret u =>
        obtain ⟨v, G', oss, bare, unc, gok', rel, q⟩ := z
        have ev : v = .bl true := q
        subst ev
        obtain rfl : u = Value.bool true := rel
        refine ⟨rfl, OldK.of_keep fun b o e => ?_, oss, bare⟩
        cases gb : G b with
        | none => exact unc.keep b o e gb (by intro y; exact absurd (show b ∈ ([] : List Addr) from y) (by simp)) (by simp)
        | some u =>
          rcases gO b with y | ⟨ob, xs, y⟩
          · rw [gb] at y
            cases y
          · have y2 := unc.frzs b ob _ y
            have k1 := (gok b _ y).1
            rw [e] at k1
            cases k1
            exact (gok' b _ y2).1
  cases look : Kf.lookup sc with
  | some o =>
    have e := kin sc o look
    rw [atS] at e
    cases e
    refine mid (fun _ => none) (fun _ => .inl rfl) (.inr ⟨_, uvs.toArray, _, look, rfl, rfl, rfl, by rw [List.size_toArray, lens]; exact fits, by simpa using vv⟩) (fun b u z => ?_) (fun b z => absurd rfl z) fun z => absurd rfl z
    cases (show (none : Option HO) = some u from z)
  | none =>
    refine mid (fun b => if b = sc then some (.frz { cls := .type "list", data := .seq uvs.toArray } (.lst (zs.map V.int))) else none) (fun b => ?_) (.inl (.inr ⟨{ cls := .type "list", data := .seq uvs.toArray }, if_pos rfl⟩)) (fun b u z => ?_) (fun b z => ?_) fun _ => look
    · by_cases same : b = sc
      · exact .inr ⟨_, _, if_pos same⟩
      · exact .inl (if_neg same)
    · by_cases same : b = sc
      · cases (if_pos same).symm.trans z
        subst same
        exact ⟨atS, by rw [List.length_map]; exact fits, uvs, _, vv, atS⟩
      · cases (if_neg same).symm.trans z
    · by_cases same : b = sc
      · exact same
      · exact absurd (if_neg same) z
/-- a law, by a contract on data: from a script known to the heap it gives True -/
theorem walkG {l : PySem.W.OpenLaw} {n k : Nat} {q : Program} {loose : List Str} {XP : (Str → Option Value) → Heap → Prop} {YP : World → Heap → Prop} {d : DefRec} {pn : Str}
    (most : l.most = some n) (small : n ≤ sizeLine) (nodef : d.params.defaults = []) (room : RmG k callerA)
    (F : ∀ (w : World) (gm : Str → Option Value) (fL : Addr) (h : Heap), YP w h → h.Ns mainGlobals gm → gm d.name = some (.ref fL) →
      ∃ (K : PySem.W.Frag) (fd : FuncData) (c : DSp), K.In h ∧ (∀ (t : Shared) (u : Value), BindsTo t fd ⟨[u], []⟩ [(pn, u)]) ∧
        (∀ zs : List Int, zs.length ≤ n → c [.scr zs] (fun _ => none) fun d _ => d = .bl true) ∧ ∀ bs : Heap, K.In bs → bs.Ns mainGlobals gm → FnG l.prog w K gm bs k fL fd [pn] (spOf K c)) :
    PySem.W.WalkO q loose XP YP l.row.toRowW d [] (fun f vs => PySem.call f vs) := by
  refine Att.attach_call most nodef fun w t₀ t₁ gm bm fL o pm cd doc sc uvs zs G Y ho hd hcd hmg hobj hints hlen hg => ?_
  obtain ⟨K, fd, c, KX, hb, hc, hF⟩ := F w gm fL _ Y G.T.g hmg
  refine lawG_call KX G.T.g G.T.b G.T.builtins G.T.nolimit hg hobj hints (Nat.le_trans hlen small) room hF hb fun Hs hO hS => ?_
  refine ⟨Hs, fun _ => none, [.scr zs], _, ⟨Ex.refl _, fun a m z => by cases z⟩, RepL.cons (by unfold Rep; exact ⟨sc, rfl, hS⟩) RepL.nil, hc zs hlen, fun x M' Hm' H' v e f c r p => ?_⟩
  subst p
  exact rep_bl r
/-! ### the head's facts -/
/-- a def: where it stands (a path of one's own), its name, qualified name, parameters, body, scope, defaults -/
structure DefX where
  adr : PySem.W.Frag → Addr
  name : Str
  qual : Str
  params : Arguments
  body : List Stmt
  scope : Scope
  dfl : PySem.W.Frag → List V := fun _ => []
def DefX.see (K : PySem.W.Frag) (d : DefX) : He.FnW := match K.lookup (d.adr K) with
  | some ⟨_, _, .func fd, _⟩ => some (fd.name, fd.qualname, fd.params, fd.body, fd.scope, fd.globals, fd.closure, fd.builtins)
  | _ => none
def DefX.due (d : DefX) : He.FnW := some (d.name, d.qual, d.params, .stmts d.body, d.scope, mainGlobals, [], builtinsNs)
def DefX.good (K : PySem.W.Frag) (d : DefX) : Bool := PySem.W.keepIn K (.ref (d.adr K)) && (match K.lookup (d.adr K) with
  | some ⟨_, _, .func fd, _⟩ => PySem.W.codeIn K fd.code d.qual && He.dflB K fd.defaults (d.dfl K)
  | _ => false)
theorem and2 {a b : Bool} (h : (a && b) = true) : a = true ∧ b = true := Bool.and_eq_true_iff.mp h
theorem DefX.fun_ {K : PySem.W.Frag} {d : DefX} (e : d.see K = d.due) (c : d.good K = true) : ∃ fd, FunD K d.name d.qual d.params d.body d.scope (d.dfl K) [] (d.adr K) fd := by
  obtain ⟨kp, c2⟩ := and2 c
  unfold DefX.see at e
  cases look : K.lookup (d.adr K) with
  | none => rw [look] at c2; cases c2
  | some o =>
    obtain ⟨oc, od, dt, sl⟩ := o
    rw [look] at c2 e
    cases dt with
    | func fd =>
      obtain ⟨n1, n2, n3, n4, n5, n6, n7, n8, n9, n10, n11, n12, n13, n14, n15⟩ := fd
      unfold DefX.due at e
      simp only [Option.some.injEq, Prod.mk.injEq] at e
      obtain ⟨g1, g2, g3, g4, g5, g6, g7, g8⟩ := e
      subst g1 g2 g3 g4 g5 g6 g7 g8
      obtain ⟨k1, k2⟩ := and2 c2
      exact ⟨_, ⟨oc, od, n8, n9, n10, n11, n12, n13, n14, sl, rfl, look, k1, He.dflB_ok k2, .inl rfl⟩, kp⟩
    | _ => cases c2
def asX (g : Addr → Option Obj) : Nat → List Addr
  | 0 => [mainGlobals, cStatics]
  | n + 1 => He.growD g (asX g n)
def obsX (fa : List (PySem.W.Frag → Bool)) (fn : List DefX) (K : PySem.W.Frag) : He.AlD := ((fa.all fun f => f K) && fn.all fun d => d.good K, fn.map fun d => d.see K)
def valX (fn : List DefX) : He.AlD := (true, fn.map DefX.due)
def SaysX (fa : List (PySem.W.Frag → Bool)) (fn : List DefX) (K : PySem.W.Frag) : Prop := obsX fa fn K = valX fn
def obsXG (n : Nat) (fa : List (PySem.W.Frag → Bool)) (fn : List DefX) (g : Addr → Option Obj) : He.AlD := obsX fa fn (He.frG g (asX g n))
def hookX (n : Nat) (fa : List (PySem.W.Frag → Bool)) (fn : List DefX) : PySem.W.Hook where
  α := He.AlD
  obs := fun t => obsXG n fa fn t.heap.get?
  val := fun _ => valX fn
  says := fun _ h => ∃ Kf : PySem.W.Frag, Kf.In h ∧ SaysX fa fn Kf
  of := fun _ _ e => ⟨_, He.frG_in, e⟩
  keeps := fun _ _ _ ⟨Kf, k1, k2⟩ k => ⟨Kf, PySem.W.Frag.In.keeps k1 k, k2⟩
theorem obsXG_eq {n : Nat} {fa : List (PySem.W.Frag → Bool)} {fn : List DefX} {g : Addr → Option Obj} {t : Shared} (h : ∀ a, g a = t.heap.get? a) : obsXG n fa fn g = (hookX n fa fn).obs t := by
  have e : g = t.heap.get? := funext h
  subst e
  rfl
section
variable {fa : List (PySem.W.Frag → Bool)} {fn : List DefX} {K : PySem.W.Frag}
theorem SaysX.fact (c : SaysX fa fn K) (i : Nat) {f : PySem.W.Frag → Bool} (h : fa[i]? = some f := by rfl) : f K = true := by
  have c1 := (and2 (show ((fa.all fun f => f K) && fn.all fun d => d.good K) = true from congrArg (fun z : He.AlD => z.1) c)).1
  exact List.all_eq_true.mp c1 f (List.mem_of_getElem? h)
theorem SaysX.def_ (c : SaysX fa fn K) (i : Nat) {d : DefX} (h : fn[i]? = some d := by rfl) : ∃ fd, FunD K d.name d.qual d.params d.body d.scope (d.dfl K) [] (d.adr K) fd := by
  have c2 := (and2 (show ((fa.all fun f => f K) && fn.all fun d => d.good K) = true from congrArg (fun z : He.AlD => z.1) c)).2
  have e : fn.map (fun d => d.see K) = fn.map DefX.due := congrArg (fun z : He.AlD => z.2) c
  have e2 := congrArg (fun l : List He.FnW => l[i]?) e
  simp only [List.getElem?_map, h, Option.map_some, Option.some.injEq] at e2
  exact DefX.fun_ e2 (List.all_eq_true.mp c2 d (List.mem_of_getElem? h))
end
/-! ### paths -/
/-- the getter of the property x of the class named C -/
def propA (C m : Str) (K : PySem.W.Frag) : Addr := He.ma K (He.ga K C) m
def getA (C m : Str) (K : PySem.W.Frag) : Addr := match PySem.W.recIn K (propA C m K) "property" with
  | some (.ref g :: _) => g
  | _ => 0
def statA (C m : Str) (K : PySem.W.Frag) : Addr := match PySem.W.recIn K (propA C m K) "staticmethod" with
  | some (.ref g :: _) => g
  | _ => 0
def gloA (x : Str) (K : PySem.W.Frag) : Addr := He.ga K x
def metA (C m : Str) (K : PySem.W.Frag) : Addr := He.ma K (He.ga K C) m
/-- the i-th default of the def at f, an object -/
def dfltA (f : PySem.W.Frag → Addr) (i : Nat) (K : PySem.W.Frag) : Addr := match K.lookup (f K) with
  | some ⟨_, _, .func fd, _⟩ => (match fd.defaults with
    | .ref T => (match K.lookup T with
      | some ⟨_, _, .seq its _, _⟩ => (match its.toList[i]? with
        | some (.ref a) => a
        | _ => 0)
      | _ => 0)
    | _ => 0)
  | _ => 0
def nilB (a : PySem.W.Frag → Addr) (K : PySem.W.Frag) : Bool := match K.lookup (a K) with
  | some ⟨.type c, _, .seq its _, _⟩ => decide (c = "tuple") && its.isEmpty
  | _ => false
theorem nilB_ok {a : PySem.W.Frag → Addr} {K : PySem.W.Frag} (h : nilB a K = true) (Hm : Hp) : Rep K Hm (.tup []) (.ref (a K)) := by
  unfold nilB at h
  cases look : K.lookup (a K) with
  | none => rw [look] at h; cases h
  | some o =>
    obtain ⟨oc, od, dt, sl⟩ := o
    rw [look] at h
    cases oc with
    | type c =>
      cases dt with
      | seq its n =>
        obtain ⟨h1, h2⟩ := and2 (show (decide (c = "tuple") && its.isEmpty) = true from h)
        have e1 : c = "tuple" := of_decide_eq_true h1
        have e2 : its = #[] := Array.isEmpty_iff.mp h2
        subst e1 e2
        exact Rep.tup' (.inr ⟨_, #[], n, look, rfl, rfl, Nat.zero_le _, .nil⟩) RepL.nil
      | _ => cases h
    | _ => cases dt <;> cases h
def propB (C m : Str) (K : PySem.W.Frag) : Bool := decide (PySem.W.findIn K (.ref (He.ga K C)) m = some (some (.ref (propA C m K)))) && (decide (PySem.W.specialIn K (.ref (propA C m K)) "__get__" = some (some (.builtin "property.__get__"))) &&
  (decide (PySem.W.takesIn K (.ref (propA C m K)) = some true) && (match PySem.W.recIn K (propA C m K) "property" with
    | some (.ref _ :: _) => true
    | _ => false)))
theorem propB_ok {C m : Str} {K : PySem.W.Frag} (h : propB C m K = true) : PropOf K (He.ga K C) m (propA C m K) (getA C m K) := by
  obtain ⟨h1, h⟩ := and2 h
  obtain ⟨h2, h⟩ := and2 h
  obtain ⟨h3, h⟩ := and2 h
  refine ⟨of_decide_eq_true h1, of_decide_eq_true h2, of_decide_eq_true h3, ?_⟩
  unfold getA
  cases r : PySem.W.recIn K (propA C m K) "property" with
  | none => rw [r] at h; cases h
  | some l =>
    rw [r] at h
    cases l with
    | nil => cases h
    | cons v l =>
      cases v with
      | ref g => exact ⟨l, rfl⟩
      | _ => cases h
def tyiB (C : Str) (K : PySem.W.Frag) : Bool := (He.Fa.cls C).ok K && (decide (PySem.W.findIn K (.ref (He.ga K C)) "__class__" = some (some (.builtin "object.__class__"))) && (decide (PySem.W.specialIn K (.builtin "object.__class__") "__get__" = some (some (.builtin "getset_descriptor.__get__"))) &&
  (decide (PySem.W.takesIn K (.builtin "object.__class__") = some true) && decide (PySem.W.mroIn K (He.ga K C) (.type "object") = some true))))
theorem tyiB_ok {C : Str} {K : PySem.W.Frag} (h : tyiB C K = true) : TyI K (He.ga K C) := by
  obtain ⟨h1, h⟩ := and2 h
  obtain ⟨h2, h⟩ := and2 h
  obtain ⟨h3, h⟩ := and2 h
  obtain ⟨h4, h5⟩ := and2 h
  exact ⟨He.cls_ok h1, of_decide_eq_true h2, of_decide_eq_true h3, of_decide_eq_true h4, of_decide_eq_true h5⟩
/-- the own special method m of the class C -/
def spcB (C m : Str) (K : PySem.W.Frag) : Bool := decide (PySem.W.findIn K (.ref (He.ga K C)) m = some (some (.ref (metA C m K)))) && PySem.W.isFn K (.ref (metA C m K))
def noB (C m : Str) (K : PySem.W.Frag) : Bool := decide (PySem.W.findIn K (.ref (He.ga K C)) m = some none)
def neB (C : Str) (K : PySem.W.Frag) : Bool := decide (PySem.W.findIn K (.ref (He.ga K C)) "__ne__" = some (some (.builtin "object.__ne__")))
def kitO (t u : PySem.W.Frag → Value) (b : Bool) (K : PySem.W.Frag) : Bool := decide (PySem.W.kitOne K (t K) (u K) = some b)
def firstB (C : Str) (t : PySem.W.Frag → Value) (K : PySem.W.Frag) : Bool := PySem.W.notFirst K (He.ga K C) (t K)
def clV (C : Str) (K : PySem.W.Frag) : Value := .ref (He.ga K C)
def tyV' (n : String) (_ : PySem.W.Frag) : Value := .type n
end HD

namespace HD
open PySem PySem.Spec PyProof.Rows L2 Srt SrtO
section
variable {prog : Program} {w : World} {A : Around} {E : Value → Shared → Prop} {s : Shared}
/-- the items of a tuple, collected -/
theorem gather_tup {t : Addr} {us : List Value} {Q : List Value → Shared → Prop} (ht : s.heap.IsTuple t us.toArray) (fits : us.length ≤ sizeLine)
    (k : Q us { s with heap := (s.heap.push (seqObj "list" #[] 0)).update s.heap.objs.size (Obj.mapSeq (· ++ us.toArray)) }) : wpAny (model prog w) A (collect (.ref t)) Q E s := by
  obtain ⟨ob, at_, cl, m, dt⟩ := id ht
  unfold collect
  refine wpAny_bind (wpAny_runValue (codeAny_builtin entry_proto_collect' ?_))
  show wpAny _ _ (do again (.builtin "list.__iadd__" ⟨[← newList [], .ref t], []⟩)) _ _ s
  refine wpAny_bind (wpAny_newList (wpAny_pure ⟨Code.quiet_builtin _ (by decide +kernel), codeAny_builtin entry_list_iadd' ?_⟩))
  show wpAny _ _ (Builtin.List.listExtendWith (.ref s.heap.objs.size) (.ref t) (.ref s.heap.objs.size)) _ _ { s with heap := s.heap.push (seqObj "list" #[] 0) }
  unfold Builtin.List.listExtendWith
  have at2 : (s.heap.push (seqObj "list" #[] 0)).get? t = some ob := Heap.get?_push_of_some _ at_
  refine wpAny_bind (wpAny_typeOf (T := "tuple") ⟨ob, at2, cl⟩ ?_)
  have ty : (Value.type "tuple" == Value.type "tuple") = true := by rfl
  rw [if_pos (by rw [ty]; simp)]
  refine wpAny_bind (listItems_at at2 dt ?_)
  refine wpAny_bind (listItems_at (xs := #[]) (n := 0) (Heap.get?_push_size _ rfl) rfl ?_)
  rw [if_neg (by simp)]
  refine wpAny_bind (listUpdate_at (xs := #[]) (n := 0) (Heap.get?_push_size _ rfl) rfl ?_ (Nat.zero_le _) (by show (#[] ++ us.toArray).size ≤ sizeLine + 1; simp only [Array.size_append, List.size_toArray, List.length_nil]; omega))
  refine wpAny_pure ?_
  show wpAny (model prog w) A (do
      let ob ← load s.heap.objs.size
      match ob.data with
      | .seq xs _ => pure xs.toList
      | _ => unsupported "internal:collect") Q E { s with heap := (s.heap.push (seqObj "list" #[] 0)).update s.heap.objs.size (Obj.mapSeq (· ++ us.toArray)) }
  refine wpAny_bind (wpAny_load (get?_update_seq (Heap.get?_push_size _ rfl) _) ?_)
  show wpAny _ _ (pure ((#[] : Array Value) ++ us.toArray).toList) Q E _
  rw [show ((#[] : Array Value) ++ us.toArray).toList = us by simp]
  exact wpAny_pure k
theorem sorted_tupO {t : Addr} {us : List Value} {lt : Value → Value → Bool} {Q : Value → Shared → Prop} (ord : Swo lt) (ht : s.heap.IsTuple t us.toArray) (fits : us.length ≤ sizeLine)
    (can : 2 ≤ us.length → ∀ (g : Heap) (a : Addr), g.get? a = some (seqObj "list" us.toArray 0) → (∀ b o, s.heap.get? b = some o → b ≠ a ∧ g.get? b = some o) → SortableO prog w A.in1.in1 { s with heap := g } a us lt)
    (k : ∀ out : List Value, Srtd lt out → Stb lt out us → Q (.ref (s.heap.objs.size + 1)) { s with heap := sortedAll s.heap us out.toArray }) : wpAny (model prog w) A (call (.builtin "sorted") [.ref t]) Q E s := by
  refine Calls.call_function_entry kind_sorted plain_sorted entry_sorted (args_sorted1 _) ?_
  unfold Builtin.«sorted»
  refine wpAny_bind (m := checkCount "sorted" 1 1 _) (wpAny_pure ?_)
  refine wpAny_bind (gather_tup ht fits ?_)
  refine wpAny_bind (wpAny_newList ?_ fits)
  let g1 := (s.heap.push (seqObj "list" #[] 0)).update s.heap.objs.size (Obj.mapSeq (· ++ us.toArray))
  have sz : g1.objs.size = s.heap.objs.size + 1 := by
    show ((s.heap.push (seqObj "list" #[] 0)).update s.heap.objs.size (Obj.mapSeq (· ++ us.toArray))).objs.size = _
    rw [Heap.size_update, size_push']
  have new : (g1.push (seqObj "list" us.toArray 0)).get? (s.heap.objs.size + 1) = some (seqObj "list" us.toArray 0) := by
    rw [← sz]
    exact Heap.get?_push_size _ rfl
  have old : ∀ b o, s.heap.get? b = some o → b ≠ s.heap.objs.size + 1 ∧ (g1.push (seqObj "list" us.toArray 0)).get? b = some o := fun b o q => by
    have lt : b < s.heap.objs.size := Heap.lt_size q
    refine ⟨Nat.ne_of_lt (Nat.lt_succ_of_lt lt), Heap.get?_push_of_some _ ?_⟩
    show ((s.heap.push (seqObj "list" #[] 0)).update s.heap.objs.size (Obj.mapSeq (· ++ us.toArray))).get? b = some o
    rw [Heap.get?_update_ne _ _ _ _ (Nat.ne_of_lt lt)]
    exact Heap.get?_push_of_some _ q
  show wpAny _ _ _ _ _ { s with heap := g1.push (seqObj "list" us.toArray 0) }
  show wpAny _ _ (holding [Value.ref g1.objs.size] (call (.builtin "list.sort") [Value.ref g1.objs.size] []) >>= fun _ => ret (Value.ref g1.objs.size)) _ _ _
  rw [sz]
  refine wpAny_bind (wpAny_holding (wpAny_call_entry slot_list_sort ⟨_, new, rfl⟩ entry_list_sort (list_sort_ord ord new fits (fun h2 => can h2 _ _ new old) fun out hs hb => ⟨_, rfl, ?_⟩) (args_list_sort _)))
  exact wpAny_pure ⟨_, rfl, k out hs hb⟩
end
variable {X : Cx} {K : PySem.W.Frag}
/-- sorted(t), t a tuple of ints -/
def rSortedTI (K : PySem.W.Frag) : List V → Hp → VK → Prop := fun vs H Q => ∃ (a : Addr) (ns : List Int), vs = [V.ref a] ∧ SqT K H a (ns.map V.int) ∧ ∀ (ms : List Int) (p : Addr), ms.Perm ns → ms.Pairwise (· ≤ ·) → H p = none → Q (.ref p) (upd H p (.lst (ms.map V.int)))
theorem cr_sortedTI : CallR X (.builtin "sorted") (rSortedTI X.K) := by
  intro pins s σ H vs us Q I r h
  obtain ⟨a, ns, rfl, hs, q⟩ := h
  obtain ⟨its, rv, ht, hz⟩ := I.tuple hs
  rw [Vals.ref1 r]
  have hi := rv.ints
  refine sorted_tupO SrtO.swo_int ht (by rw [← rv.length]; exact hz) (fun h2 g a' _ _ => SrtO.ints_sortable hi h2) fun out h1 h2 => ?_
  obtain ⟨k1, k2, k3⟩ := SrtO.ints_out hi h1 h2
  obtain ⟨ep, at_⟩ := PyProof.Rows.sortedAll_at s.heap its out.toArray
  have fits : ((out.map SrtO.iv).map V.int).length ≤ sizeLine := by
    rw [List.length_map, k2.length_eq]
    rw [List.length_map] at hz
    exact hz
  exact ⟨.ref _, upd H (s.heap.objs.size + 1) (.lst ((out.map SrtO.iv).map V.int)), I.laid (t' := s.toks) (fun _ _ => PyProof.Rows.sortedAll_old) (Nat.le_succ _) ⟨fits, out, ep, vals_of_ints k1, at_⟩, rfl, q _ _ k2 k3 (I.hok.fresh (Nat.le_succ _))⟩
def sortedT : FC := fun M xs P => match xs with
  | [.tup ds] => ∃ ns : List Int, ds = ns.map D.int ∧ ∀ ms : List Int, ms.Perm ns → ms.Pairwise (· ≤ ·) → P (.lst (ms.map D.int))
  | xs => sortedD M xs P
theorem lc_sortedT : LC K (fun xs H Q => rSortedTI K xs H Q ∨ (rSortedI K xs H Q ∨ rSortedS K xs H Q)) sortedT := fun Hm M H ds vs P Q c rs p q => by
  unfold sortedT at p
  split at p
  · obtain ⟨v, rfl, r⟩ := rep1 rs
    obtain ⟨ns, rfl, p⟩ := p
    obtain ⟨a, ws, rfl, h1, r1⟩ := tup_at c r
    rw [r1.ints] at h1
    refine .inl ⟨a, ns, rfl, h1, fun ms z hp hw hz => ?_⟩
    obtain ⟨e, c'⟩ := c.new (o := .lst (ms.map V.int)) hz
    exact q _ _ _ _ e (Fr.new hz) c' (Rep.lst' upd_same (RepL.of_ints ms)) (p ms hp hw)
  · exact .inr (lc_sorted Hm M H _ vs P Q c rs p q)
/-! ### a def, a method, a class by its promise -/
section
variable {P : Program} {w : World} {mg : Str → Option Value} {base : Heap} {x qual : Str} {params : Arguments} {body : List Stmt} {sc : Scope} {f C : Addr} {fd : FuncData} {dvs : List V} {N ps : List Str} {k : Nat} {c : DSp} {m : Str}
theorem fnG_D (F : FunD K x qual params body sc dvs [] f fd) (S : FnScope N ps sc) (len : ∀ ds M R, c ds M R → ds.length = ps.length)
    (h : ∀ cd A outer s H, RmG k (Around.deeper A (envOfC qual sc (Shared.heap s).objs.size f cd)) → ∃ d, JSs (cxOf CX0 P w K mg base N qual sc f cd A outer s H E0).nox body d ∧
      ∀ ds M R, c ds M R → d { nx := fun _ M' => Ret R .non M', rt := Ret R } (dstart N.length ds) M) : FnG P w K mg base (k + 1) f fd ps (spOf K c) := by
  obtain ⟨oc, od, dV, kV, doc, pm, an, cdv, ct, osl, rfl, lk, hcd, _, _⟩ := F.ex
  exact fnG_of lk hcd S (fun vs H Q hsp => by
    obtain ⟨Hm, M, ds, R, _, hr, hR, _⟩ := hsp
    rw [hr.len]
    exact len ds M R hR) (bodyD h)
/-- where the parameters come from: no defaults -/
abbrev BindN (x qual : Str) (params : Arguments) (body : List Stmt) (sc : Scope) (ps : List Str) : Prop :=
  ∀ (kV doc pm : Value) (an : Option Addr) (cdv ct : Value) (us : List Value), us.length = ps.length → bindArgs (PySem.W.fnOf x qual params body sc .none kV doc pm an cdv ct) ⟨us, []⟩ = pure (ps.zip us)
theorem calD_N (F : FunD K x qual params body sc [] [] f fd) (G : FnG P w K mg base k f fd ps (spOf K c)) (hm : mg x = some (.ref f)) (b : BindN x qual params body sc ps) : CalD P w K mg base k x c [] :=
  ⟨f, fd, ps, [], [], G, hm, F.kp, FunD.bindsN F b, .nil, fun _ => RepL.nil⟩
theorem metD_N (F : FunD K x qual params body sc [] [] f fd) (G : FnG P w K mg base k f fd ps (spOf K c)) (hc : Cls K C) (hm : Meth K C m f) (b : BindN x qual params body sc ps) : MetD P w K mg base k C m c [] :=
  ⟨f, fd, ps, [], [], hc, hm, G, FunD.bindsN F b, .nil, fun _ => RepL.nil⟩
theorem prpD_N {p : Addr} (F : FunD K x qual params body sc [] [] f fd) (G : FnG P w K mg base k f fd ps (spOf K c)) (hc : Cls K C) (hp : PropOf K C m p f) (b : BindN x qual params body sc ps) : PrpD P w K mg base k C m c :=
  ⟨p, f, fd, ps, hc, hp, G, FunD.bindsN F b⟩
theorem spcD_N (F : FunD K x qual params body sc [] [] f fd) (G : FnG P w K mg base k f fd ps (spOf K c)) (h1 : PySem.W.findIn K (.ref C) m = some (some (.ref f))) (h2 : PySem.W.isFn K (.ref f) = true) (b : BindN x qual params body sc ps) : SpcD P w K mg base k C m c :=
  ⟨f, fd, ps, G, h1, h2, FunD.bindsN F b⟩
theorem makD_N {y : Str} (F : FunD K x qual params body sc [] [] f fd) (G : FnG P w K mg base k f fd ps (spOf K c)) (mk : Mk K C f) (hm : mg y = some (.ref C)) (b : BindN x qual params body sc ps) : MakD P w K mg base k y C c [] :=
  ⟨f, fd, ps, [], [], mk, G, hm, FunD.bindsN F b, .nil, fun _ => RepL.nil⟩
/-- defaults: the first j of them are not used (n values are written) -/
abbrev BindD (x qual : Str) (params : Arguments) (body : List Stmt) (sc : Scope) (ps : List Str) (n j l : Nat) : Prop :=
  ∀ (T : Addr) (kV doc pm : Value) (an : Option Addr) (cdv ct : Value) (us its : List Value), us.length = n → its.length = l →
    ∃ k, bindArgs (PySem.W.fnOf x qual params body sc (.ref T) kV doc pm an cdv ct) ⟨us, []⟩ = seqItems? (.ref T) >>= k ∧ k (some its.toArray) = pure (ps.zip (us ++ its.drop j))
theorem makD_D {y : Str} {dds : List D} (n j : Nat) (F : FunD K x qual params body sc dvs [] f fd) (G : FnG P w K mg base k f fd ps (spOf K c)) (mk : Mk K C f) (hm : mg y = some (.ref C)) (hd : dvs ≠ []) (hn : n + (dvs.length - j) = ps.length) (b : BindD x qual params body sc ps n j dvs.length)
    (hr : ∀ Hm, RepL K Hm dds (dvs.drop j)) : MakD P w K mg base k y C c dds :=
  let ⟨ds, h1, h2⟩ := FunD.binds1 F n j hd hn b
  ⟨f, fd, ps, ds, dvs.drop j, mk, G, hm, h2, h1, hr⟩
/-- the names ks behind n values; no defaults are used -/
theorem kwB_N {n : Nat} {ks : List Str} {gd : List D → List D} {g : List Value → List Value} {gV : List V → List V} (F : FunD K x qual params body sc [] [] f fd)
    (h : ∀ (kV doc pm : Value) (an : Option Addr) (cdv ct : Value) (us ws : List Value), us.length = n → ws.length = ks.length → bindArgs (PySem.W.fnOf x qual params body sc .none kV doc pm an cdv ct) ⟨us, ks.zip ws⟩ = pure (ps.zip (us ++ g ws)))
    (h1 : ∀ (zs : List V) (ws : List Value), Vals zs ws → Vals (gV zs) (g ws)) (h2 : ∀ (Hm : Hp) (es : List D) (zs : List V), RepL K Hm es zs → RepL K Hm (gd es) (gV zs)) : KwB K fd ps n ks gd := by
  obtain ⟨oc, od, dV, kV, doc, pm, an, cdv, ct, osl, rfl, lk, hcd, hD, hK⟩ := F.ex
  rcases hD with ⟨_, rfl⟩ | ⟨e, _⟩
  · exact ⟨g, gV, fun s us ws k a b => .of_eq (h kV doc pm an cdv ct us ws a b), h1, h2⟩
  · exact absurd rfl e
/-- .. the defaults are looked at: g takes them too -/
theorem kwB_D {n : Nat} {ks : List Str} {gd : List D → List D} {g : {α : Type} → List α → List α → List α} (F : FunD K x qual params body sc dvs [] f fd) (hd : dvs ≠ [])
    (h : ∀ (T : Addr) (kV doc pm : Value) (an : Option Addr) (cdv ct : Value) (us ws its : List Value), us.length = n → ws.length = ks.length → its.length = dvs.length →
      ∃ k, bindArgs (PySem.W.fnOf x qual params body sc (.ref T) kV doc pm an cdv ct) ⟨us, ks.zip ws⟩ = seqItems? (.ref T) >>= k ∧ k (some its.toArray) = pure (ps.zip (us ++ g ws its)))
    (h1 : ∀ (zs : List V) (ws its : List Value), Vals zs ws → Vals dvs its → Vals (g zs dvs) (g ws its)) (h2 : ∀ (Hm : Hp) (es : List D) (zs : List V), RepL K Hm es zs → RepL K Hm (gd es) (g zs dvs)) : KwB K fd ps n ks gd := by
  obtain ⟨oc, od, dV, kV, doc, pm, an, cdv, ct, osl, rfl, lk, hcd, hD, hK⟩ := F.ex
  rcases hD with ⟨e, _⟩ | ⟨_, T, o, its, m, rfl, lT, oT, rT⟩
  · exact absurd e hd
  · refine ⟨fun ws => g ws its, fun zs => g zs dvs, fun s us ws X a b => ?_, fun zs ws r => h1 zs ws its r rT, h2⟩
    obtain ⟨k, e1, e2⟩ := h T kV doc pm an cdv ct us ws its a b rT.length.symm
    refine BindsTo.of_looks fun M => ?_
    rw [e1]
    exact looks_items X lT oT (.of_pure e2)
end
end HD

namespace HD
open PySem PySem.Spec PyProof.Rows L2
/-! ### data that is small enough to be shown and compared -/
/-- k: its depth, n: its weight -/
inductive Sm : D → Nat → Nat → Prop where
  | non (k n) : Sm .non k n
  | bl (b k n) : Sm (.bl b) k n
  | int (i : Int) (k n : Nat) (h : i.natAbs < 10 ^ 12) (hn : 40 ≤ n) : Sm (.int i) k n
  | str (x : Str) (k n : Nat) (h : PyData.strOk x = true) (hn : x.length ≤ n) : Sm (.str x) k n
  | lst (ds : List D) (k n m : Nat) (h : ∀ d ∈ ds, Sm d k m) (hn : ds.length * (m + 1) ≤ n) : Sm (.lst ds) (k + 1) n
  | tup (ds : List D) (k n m : Nat) (h : ∀ d ∈ ds, Sm d k m) (hn : ds.length * (m + 1) ≤ n) : Sm (.tup ds) (k + 1) n
structure Shw (p : PyData) (k n : Nat) : Prop where
  s : p.showable = true
  d : p.hasDict = false
  l : p.canLay0 = true
  i : p.intsShort 13 = true
  k : p.depth ≤ k
  n : p.weight ≤ n
theorem shw_all {k m : Nat} : ∀ {ds : List D}, (∀ d ∈ ds, ∃ p, toPy d = some p ∧ Shw p k m) →
    ∃ ps, toPyL ds = some ps ∧ PyData.showableAll ps = true ∧ PyData.hasDictAll ps = false ∧ PyData.canLayAll0 ps = true ∧ PyData.intsShortAll 13 ps = true ∧ PyData.depthAll ps ≤ k ∧ PyData.weightAll ps ≤ ds.length * (m + 1)
  | [], _ => ⟨[], by unfold toPyL; rfl, by unfold PyData.showableAll; rfl, by unfold PyData.hasDictAll; rfl, by unfold PyData.canLayAll0; rfl, by unfold PyData.intsShortAll; rfl, by unfold PyData.depthAll; omega, by unfold PyData.weightAll; omega⟩
  | d :: ds, h => by
    obtain ⟨p, h1, z⟩ := h d List.mem_cons_self
    obtain ⟨ps, g1, g2, g3, g4, g5, g6, g7⟩ := shw_all (ds := ds) fun e he => h e (List.mem_cons_of_mem _ he)
    refine ⟨p :: ps, by unfold toPyL; rw [h1, g1]; rfl, by unfold PyData.showableAll; rw [z.s, g2]; rfl, by unfold PyData.hasDictAll; rw [z.d, g3]; rfl, by unfold PyData.canLayAll0; rw [z.l, g4]; rfl, by unfold PyData.intsShortAll; rw [z.i, g5]; rfl, ?_, ?_⟩
    · unfold PyData.depthAll
      have := z.k
      omega
    · unfold PyData.weightAll
      have e : (d :: ds).length * (m + 1) = ds.length * (m + 1) + (m + 1) := by
        rw [List.length_cons, Nat.add_mul, Nat.one_mul]
      have := z.n
      omega
theorem Sm.py {d : D} {k n : Nat} (h : Sm d k n) : ∃ p, toPy d = some p ∧ Shw p k n := by
  induction h with
  | non k n => exact ⟨.none, by unfold toPy; rfl, by unfold PyData.showable; rfl, by unfold PyData.hasDict; rfl, by unfold PyData.canLay0; rfl, by unfold PyData.intsShort; rfl, by unfold PyData.depth; omega, by unfold PyData.weight; omega⟩
  | bl b k n => exact ⟨.bool b, by unfold toPy; rfl, by unfold PyData.showable; rfl, by unfold PyData.hasDict; rfl, by unfold PyData.canLay0; rfl, by unfold PyData.intsShort; rfl, by unfold PyData.depth; omega, by unfold PyData.weight; omega⟩
  | int i k n h hn =>
    have hl : i.natAbs.log2 < 40 := by
      by_cases z : i.natAbs = 0
      · rw [z]
        decide
      · exact (Nat.log2_lt z).mpr (Nat.lt_trans h (by decide))
    refine ⟨.int i, by unfold toPy; rfl, ?_, by unfold PyData.hasDict; rfl, by unfold PyData.canLay0; rfl, ?_, by unfold PyData.depth; omega, ?_⟩
    · unfold PyData.showable
      exact decide_eq_true (by omega)
    · unfold PyData.intsShort
      refine decide_eq_true ?_
      have e := int_text_length_le10 (a := i) (k := 12) (by decide) h
      have e2 : (PyData.int i).shown = toString i := by unfold PyData.shown; rfl
      rw [e2, PySem.ofString_length]
      exact e
    · unfold PyData.weight
      split <;> omega
  | str x k n h hn => exact ⟨.str x, by unfold toPy; rfl, by unfold PyData.showable; rfl, by unfold PyData.hasDict; rfl, by unfold PyData.canLay0; exact h, by unfold PyData.intsShort; rfl, by unfold PyData.depth; omega, by unfold PyData.weight; exact hn⟩
  | lst ds k n m h hn ih =>
    obtain ⟨ps, g1, g2, g3, g4, g5, g6, g7⟩ := shw_all ih
    exact ⟨.list ps, by unfold toPy; rw [g1]; rfl, by unfold PyData.showable; exact g2, by unfold PyData.hasDict; exact g3, by unfold PyData.canLay0; exact g4, by unfold PyData.intsShort; exact g5, by unfold PyData.depth; omega, by unfold PyData.weight; omega⟩
  | tup ds k n m h hn ih =>
    obtain ⟨ps, g1, g2, g3, g4, g5, g6, g7⟩ := shw_all ih
    exact ⟨.tuple ps, by unfold toPy; rw [g1]; rfl, by unfold PyData.showable; exact g2, by unfold PyData.hasDict; exact g3, by unfold PyData.canLay0; exact g4, by unfold PyData.intsShort; exact g5, by unfold PyData.depth; omega, by unfold PyData.weight; omega⟩
theorem Shw.shown {p : PyData} {k n : Nat} (z : Shw p k n) (hk : k ≤ 60) (hn : n ≤ 1048576) : p.shown.length ≤ sizeLine := by
  have h : PyData.layable0 p = true := by
    unfold PyData.layable0
    rw [z.l, Bool.true_and, Bool.and_eq_true]
    have e : (2 : Nat) ^ 20 = 1048576 := by decide
    have := z.k
    have := z.n
    exact ⟨decide_eq_true (by omega), decide_eq_true (by omega)⟩
  have e := shown_le13 h z.i
  have e2 : sizeLine = 16777216 := by decide
  omega
theorem Shw.shaped {p : PyData} {k n : Nat} (z : Shw p k n) (hk : k ≤ 60) : SeqAt.shaped p = true := by
  unfold SeqAt.shaped
  rw [z.l, Bool.true_and]
  have := z.k
  exact decide_eq_true (by omega)
/-- the text that repr makes -/
def shD (d : D) : Str := match toPy d with
  | some p => p.shown
  | none => Str.empty
theorem repr_sm {d : D} {k n : Nat} {M : Mm} {P : D → Prop} (h : Sm d k n) (hk : k ≤ 60) (hn : n ≤ 1048576) (p : P (.str (shD d))) : reprD M [d] P := by
  obtain ⟨q, h1, z⟩ := h.py
  refine ⟨q, h1, z.s, z.d, by have := z.k; omega, z.shown hk hn, ?_⟩
  unfold shD at p
  rw [h1] at p
  exact p
theorem eqD_sm {a b : D} {k n j m : Nat} {M : Mm} {P : D → Prop} {neg : Bool} (h : Sm a k n) (g : Sm b j m) (hk : k ≤ 60) (hj : j ≤ 60) (p : ∀ q r, toPy a = some q → toPy b = some r → P (.bl (if neg then !PyData.eqv q r else PyData.eqv q r))) : eqD neg M a b P := by
  obtain ⟨q, h1, z⟩ := h.py
  obtain ⟨r, g1, y⟩ := g.py
  exact .inl ⟨q, r, h1, g1, z.shaped hk, y.shaped hj, p q r h1 g1⟩
theorem eqD_same {a : D} {k n : Nat} {M : Mm} {P : D → Prop} {neg : Bool} (h : Sm a k n) (hk : k ≤ 60) (p : P (.bl (!neg))) : eqD neg M a a P := by
  obtain ⟨q, h1, z⟩ := h.py
  have e := SeqAt.eqv_refl q z.l
  refine .inl ⟨q, q, h1, h1, z.shaped hk, z.shaped hk, ?_⟩
  rw [e]
  cases neg <;> exact p
theorem shaped_str (x : Str) (h : PyData.strOk x = true) : SeqAt.shaped (.str x) = true := by
  unfold SeqAt.shaped PyData.canLay0
  rw [h, Bool.true_and]
  unfold PyData.depth
  rfl
theorem shaped_int (i : Int) : SeqAt.shaped (.int i) = true := by
  unfold SeqAt.shaped PyData.canLay0 PyData.depth
  rfl
theorem shaped_non : SeqAt.shaped .none = true := by
  unfold SeqAt.shaped PyData.canLay0 PyData.depth
  rfl
theorem shaped_bl (b : Bool) : SeqAt.shaped (.bool b) = true := by
  unfold SeqAt.shaped PyData.canLay0 PyData.depth
  rfl
theorem eqD_int {i j : Int} {M : Mm} {P : D → Prop} {neg : Bool} (p : P (.bl (if neg then !(i == j) else i == j))) : eqD neg M (.int i) (.int j) P := by
  refine .inl ⟨.int i, .int j, by unfold toPy; rfl, by unfold toPy; rfl, shaped_int i, shaped_int j, ?_⟩
  unfold PyData.eqv
  exact p
theorem eqD_str {x y : Str} {M : Mm} {P : D → Prop} {neg : Bool} (p : P (.bl (if neg then !(x == y) else x == y))) : eqD neg M (.str x) (.str y) P := .inr ⟨x, y, rfl, rfl, p⟩
end HD

namespace HD
open PySem PySem.Spec PyProof.Rows L2
theorem cx_K {P : Program} {w : World} {K : PySem.W.Frag} {mg : Str → Option Value} {base : Heap} {N : List Str} {qual : Str} {sc : Scope} {f : Addr} {cd : Value} {A : Around} {outer : List Env} {s : Shared} {H : Hp} {E : XK} : (cxOf CX0 P w K mg base N qual sc f cd A outer s H E).K = K := rfl
theorem nox_K {X : Cx} : X.nox.K = X.K := rfl
/-- one statement after another -/
theorem seq_step {t u : DS} {E : DEnds} {s : DSt} {M : Mm} (h : ∀ N : DSt → Mm → Prop, (∀ s' M', u E s' M' → N s' M') → t { nx := N, rt := E.rt, bk := E.bk, ct := E.ct } s M) : dSeq t u E s M := h (u E) fun _ _ z => z
theorem seqL_ref {M : Mm} {a : Addr} {xs : List D} (h : M a = some (.lst xs)) : seqL M (.ref a) = some xs := by
  show (match M a with | some (.lst ds) => some ds | _ => none) = some xs
  rw [h]
theorem mput_comm {M : Mm} {a b : Addr} {m n : MO} (h : a ≠ b) : mput (mput M a m) b n = mput (mput M b n) a m := by
  funext x
  unfold mput
  by_cases h1 : x = a
  · subst h1
    rw [if_pos rfl, if_neg h, if_pos rfl]
  · rw [if_neg h1, if_neg h1]
/-- a list comprehension whose parts change nothing -/
theorem lcD_map {α : Type} {g : DG} {tt : DT} {te : DE} {s : DSt} {M : Mm} (f : α → D) (r : α → Option D) : ∀ (xs : List α) (_ : ∀ x ∈ xs, ∀ (K1 : D → Mm → Prop) (K0 : Mm → Prop), (match r x with | some y => K1 y M | none => K0 M) → g (f x) s M fun s2 M2 => tt s2 M2 fun b M3 => if b = true then te s2 M3 K1 else K0 M3)
    (acc : List D) (P : List D → Mm → Prop), acc.length + xs.length ≤ sizeLine → P (acc ++ xs.filterMap r) M → lcD g tt te s (xs.map f) acc M P
  | [], _, acc, P, _, p => by
    simp only [List.map_nil, lcD]
    simpa using p
  | x :: xs, h, acc, P, hl, p => by
    rw [List.length_cons] at hl
    simp only [List.map_cons, lcD]
    refine h x List.mem_cons_self _ _ ?_
    have tl := fun y hy => h y (List.mem_cons_of_mem _ hy)
    cases e : r x with
    | none =>
      rw [List.filterMap_cons_none e] at p
      exact lcD_map f r xs tl acc P (by omega) p
    | some y =>
      rw [List.filterMap_cons_some e] at p
      exact ⟨by omega, lcD_map f r xs tl (acc ++ [y]) P (by rw [List.length_append, List.length_singleton]; omega) (by simpa using p)⟩
/-- .. without a test -/
theorem lcD_all {α : Type} {g : DG} {te : DE} {s : DSt} {M : Mm} (f y : α → D) (xs : List α) (h : ∀ x ∈ xs, ∀ (K1 : D → Mm → Prop), K1 (y x) M → g (f x) s M fun s2 M2 => te s2 M2 K1)
    (P : List D → Mm → Prop) (hl : xs.length ≤ sizeLine) (p : P (xs.map y) M) : lcD g dYes te s (xs.map f) [] M P := by
  refine lcD_map f (fun x => some (y x)) xs (fun x hx K1 K0 k => ?_) [] P (by simpa using hl) ?_
  · have z := h x hx K1 k
    simpa only [dYes, if_true] using z
  · rw [List.nil_append]
    have e : xs.filterMap (fun x => some (y x)) = xs.map y := by
      clear h hl p
      induction xs with
      | nil => rfl
      | cons x xs ih => simp [ih]
    rw [e]
    exact p
theorem hasK_inl {r : List Nat} {t : Nat} : hasK (r.map fun (u : Nat) => (Sum.inl (u : Int) : Key)) (Sum.inl (t : Int)) = r.contains t := by
  unfold hasK
  induction r with
  | nil => rfl
  | cons u r ih =>
    rw [List.map_cons, List.any_cons, ih, List.contains_cons]
    congr 1
    by_cases z : t = u
    · subst z
      simp
    · have z1 : (t == u) = false := by simpa using z
      rw [z1]
      refine decide_eq_false fun e => z ?_
      have e2 := Sum.inl.inj e
      omega
theorem putD_new {ks : List Key} {ds : List D} {k : Key} {d : D} (h : hasK ks k = false) : putD ks ds k d = (ks ++ [k], ds ++ [d]) := by
  unfold putD
  rw [h]
  rfl
/-- {t: True for t in r} -/
theorem dcD_ints {i : Nat} {s : DSt} {M : Mm} (hi : i < s.length) : ∀ (r done : List Nat) (P : List Key → List D → Mm → Prop), (done ++ r).Nodup → (done ++ r).length ≤ sizeLine → P ((done ++ r).map fun (u : Nat) => Sum.inl (u : Int)) ((done ++ r).map fun _ => .bl true) M →
    dcD (dgName i) dYes (dVar i) (dC (.bl true)) s (r.map fun (t : Nat) => .int (t : Int)) (done.map fun (u : Nat) => Sum.inl (u : Int)) (done.map fun _ => .bl true) M P
  | [], done, P, _, _, p => by
    simp only [List.map_nil, dcD]
    simpa using p
  | t :: r, done, P, nd, hl, p => by
    simp only [List.map_cons, dcD, dgName, dYes, dVar, dC, if_true]
    have nt : hasK (done.map fun (u : Nat) => (Sum.inl (u : Int) : Key)) (Sum.inl (t : Int)) = false := by
      rw [hasK_inl]
      have z : t ∉ done := fun hm => (List.nodup_append.mp nd).2.2 t hm t List.mem_cons_self rfl
      simpa using z
    refine ⟨.int (t : Int), by rw [List.getElem?_set_self hi], Sum.inl (t : Int), rfl, ?_, ?_⟩
    · rw [List.length_append, List.length_cons] at hl
      rw [List.length_map]
      omega
    · rw [putD_new nt]
      have z := dcD_ints (s := s) (M := M) hi r (done ++ [t]) P (by simpa using nd) (by simpa using hl) (by simpa using p)
      simpa using z
/-- dict([(t, True) for t in r]) -/
theorem mergeD_ints : ∀ (r done : List Nat), (done ++ r).Nodup → mergeD (done.map fun (u : Nat) => Sum.inl (u : Int)) (done.map fun _ => .bl true) (r.map fun (t : Nat) => (Sum.inl (t : Int), .bl true)) = ((done ++ r).map fun (u : Nat) => Sum.inl (u : Int), (done ++ r).map fun _ => .bl true)
  | [], done, _ => by simp [mergeD]
  | t :: r, done, nd => by
    have nt : hasK (done.map fun (u : Nat) => (Sum.inl (u : Int) : Key)) (Sum.inl (t : Int)) = false := by
      rw [hasK_inl]
      have z : t ∉ done := fun hm => (List.nodup_append.mp nd).2.2 t hm t List.mem_cons_self rfl
      simpa using z
    rw [List.map_cons, mergeD, putD_new nt]
    have z := mergeD_ints r (done ++ [t]) (by simpa using nd)
    simpa using z
theorem sum_one {ss : List Str} (h : ∀ x ∈ ss, x.length = 1) : (ss.map (·.length)).sum = ss.length := by
  induction ss with
  | nil => rfl
  | cons x ss ih =>
    rw [List.map_cons, List.sum_cons, List.length_cons, ih fun y hy => h y (List.mem_cons_of_mem _ hy), h x List.mem_cons_self]
    omega
end HD

namespace HD
open PySem PySem.Spec PyProof.Rows L2
section
variable {M : Mm} {P : D → Prop} {i j : Int} {x y : Str} {xs ys : List D} {a : Addr} {k : Bool}
theorem q_plus_int : plusD M (.int i) (.int j) P = P (.int (i + j)) := rfl
theorem q_plus_str : plusD M (.str x) (.str y) P = (x.length + y.length ≤ sizeLine ∧ P (.str (x ++ y))) := rfl
theorem q_plus_tup : plusD M (.tup xs) (.tup ys) P = (xs.length + ys.length ≤ sizeLine ∧ P (.tup (xs ++ ys))) := rfl
theorem q_plus_lst : plusD M (.lst xs) (.lst ys) P = (xs.length + ys.length ≤ sizeLine ∧ P (.lst (xs ++ ys))) := rfl
theorem q_fII {C : Int → Int → Prop} {g : Int → Int → D} : fII C g M (.int i) (.int j) P = (C i j ∧ P (g i j)) := rfl
theorem q_minus : minusD M (.int i) (.int j) P = (True ∧ P (.int (i - j))) := rfl
theorem q_fdiv : fdivD M (.int i) (.int j) P = (CDiv i j ∧ P (.int (i / j))) := rfl
theorem q_mod : modD M (.int i) (.int j) P = (0 < j ∧ P (.int (i % j))) := rfl
theorem q_pow : powD M (.int i) (.int j) P = (CPow i j ∧ P (.int (i ^ j.toNat))) := rfl
theorem q_mul : mulD M (.int i) (.int j) P = (CMul i j ∧ P (.int (i * j))) := rfl
theorem q_rep : mulD M (.lst xs) (.int j) P = (0 ≤ j ∧ j < 2 ^ 62 ∧ xs.length * j.toNat ≤ sizeLine ∧ P (.lst (List.replicate j.toNat xs).flatten)) := rfl
theorem q_ord_int {f : Int → Int → Bool} {g : Str → Str → Bool} : ordD f g M (.int i) (.int j) P = P (.bl (f i j)) := rfl
theorem q_ord_str {f : Int → Int → Bool} {g : Str → Str → Bool} : ordD f g M (.str x) (.str y) P = P (.bl (g x y)) := rfl
theorem q_len_str : lenD M [.str x] P = (x.length ≤ sizeLine ∧ P (.int x.length)) := rfl
theorem q_len_tup : lenD M [.tup xs] P = P (.int xs.length) := rfl
theorem q_len_lst : lenD M [.lst xs] P = P (.int xs.length) := propext ⟨fun ⟨ds, e, p⟩ => by cases e; exact p, fun p => ⟨_, rfl, p⟩⟩
theorem q_len_scr {ns : List Int} : lenD M [.scr ns] P = P (.int ns.length) := propext ⟨fun ⟨ds, e, p⟩ => by cases e; simpa using p, fun p => ⟨_, rfl, by simpa using p⟩⟩
theorem q_len_ref : lenD M [.ref a] P = ∃ ds, seqL M (.ref a) = some ds ∧ P (.int ds.length) := rfl
theorem q_neg : negD M (.int i) P = P (.int (-i)) := rfl
theorem q_fmt_int : fmtD M (.int i) P = (i.natAbs.log2 < 1920 ∧ P (.str (toString i))) := rfl
theorem q_fmt_str : fmtD M (.str x) P = (x.length ≤ sizeLine ∧ P (.str x)) := rfl
theorem q_str_int : strD M [.int i] P = (i.natAbs.log2 < 1920 ∧ P (.str (toString i))) := rfl
theorem q_str_str : strD M [.str x] P = P (.str x) := rfl
theorem q_int_int : HD.intD M [.int i] P = P (.int i) := rfl
theorem q_int_bl : HD.intD M [.bl k] P = P (.int (if k then 1 else 0)) := rfl
theorem q_int_str : HD.intD M [.str x] P = ∃ n, PySem.intText? x = some n ∧ x.length ≤ 640 ∧ P (.int n) := rfl
theorem q_bool_int : HD.boolD M [.int i] P = P (.bl (i != 0)) := rfl
theorem q_bool_bl : HD.boolD M [.bl k] P = P (.bl k) := rfl
theorem q_abs : absD M [.int i] P = P (.int (if i < 0 then -i else i)) := rfl
theorem q_max : maxD M [.int i, .int j] P = P (.int (if j > i then j else i)) := rfl
theorem q_min : minD M [.int i, .int j] P = P (.int (if j < i then j else i)) := rfl
theorem q_divmod : divmodD M [.int i, .int j] P = (CDiv i j ∧ P (.tup [.int (i / j), .int (i % j)])) := rfl
theorem q_ix_tup : idxD M (.tup xs) (.int i) P = ∃ d, atI xs i = some d ∧ P d := rfl
theorem q_ix_lst : idxD M (.lst xs) (.int i) P = ∃ d, atI xs i = some d ∧ P d := propext ⟨fun ⟨ds, d, e, h, p⟩ => by cases e; exact ⟨d, h, p⟩, fun ⟨d, h, p⟩ => ⟨_, d, rfl, h, p⟩⟩
theorem q_ix_ref : idxD M (.ref a) (.int i) P = ∃ ds d, seqL M (.ref a) = some ds ∧ atI ds i = some d ∧ P d := rfl
theorem q_ix_scr {ns : List Int} : idxD M (.scr ns) (.int i) P = ∃ d, atI (ns.map D.int) i = some d ∧ P d := propext ⟨fun ⟨ds, d, e, h, p⟩ => by cases e; exact ⟨d, h, p⟩, fun ⟨d, h, p⟩ => ⟨_, d, rfl, h, p⟩⟩
theorem q_ix_str : idxD M (.str x) (.int i) P = (x.length ≤ sizeLine ∧ ∃ c, atI x.cps.toList i = some c ∧ P (.str ⟨#[c]⟩)) := rfl
theorem q_sl_tup {lo hi : Option Int} : sliceD M (.tup xs) lo hi P = P (.tup (cutL xs lo hi)) := rfl
theorem q_sl_str {lo hi : Option Int} : sliceD M (.str x) lo hi P = (x.length ≤ sizeLine ∧ P (.str (cutS x lo hi))) := rfl
theorem q_sl_lst {lo hi : Option Int} : sliceD M (.lst xs) lo hi P = P (.lst (cutL xs lo hi)) := propext ⟨fun ⟨ds, e, p⟩ => by cases e; exact p, fun p => ⟨_, rfl, p⟩⟩
theorem q_sl_scr {ns : List Int} {lo hi : Option Int} : sliceD M (.scr ns) lo hi P = P (.lst (cutL (ns.map D.int) lo hi)) := propext ⟨fun ⟨ds, e, p⟩ => by cases e; exact p, fun p => ⟨_, rfl, p⟩⟩
theorem q_tuple_lst : tupleD M [.lst xs] P = P (.tup xs) := propext ⟨fun ⟨ds, e, p⟩ => by cases e; exact p, fun p => ⟨_, rfl, p⟩⟩
theorem q_tuple_tup : tupleD M [.tup xs] P = P (.tup xs) := rfl
theorem q_tuple_ref : tupleD M [.ref a] P = ∃ ds, seqL M (.ref a) = some ds ∧ P (.tup ds) := rfl
theorem q_in_dic {neg : Bool} {ks : List Key} {ds : List D} {x : D} : inD neg M x (.dic ks ds) P = ∃ k, keyD x = some k ∧ P (.bl (if neg then !hasK ks k else hasK ks k)) := rfl
theorem q_in_tup {neg : Bool} {x : D} : inD neg M x (.tup ys) P = (flatD x = true ∧ ys.all flatD = true ∧ P (.bl (if neg then !memD x ys else memD x ys))) := rfl
theorem q_in_ref {neg : Bool} {x : D} : inD neg M x (.ref a) P = ∃ ys, seqL M (.ref a) = some ys ∧ flatD x = true ∧ ys.all flatD = true ∧ P (.bl (if neg then !memD x ys else memD x ys)) := rfl
theorem q_in_lst {neg : Bool} {x : D} : inD neg M x (.lst ys) P = (flatD x = true ∧ ys.all flatD = true ∧ P (.bl (if neg then !memD x ys else memD x ys))) := propext ⟨fun ⟨ds, e, p⟩ => by cases e; exact p, fun p => ⟨_, rfl, p⟩⟩
theorem q_items_lst : itemsD (.lst xs) = some xs := rfl
theorem q_items_tup : itemsD (.tup xs) = some xs := rfl
theorem q_items_scr {ns : List Int} : itemsD (.scr ns) = some (ns.map D.int) := rfl
theorem q_items_str : itemsD (.str x) = some (x.cps.toList.map fun c => D.str ⟨#[c]⟩) := rfl
theorem q_ins {C : Addr} {ns : List Str} {ds : List D} : insD M C (.ins C ns ds) = some (ns, ds) := if_pos rfl
theorem q_ty_int : tyD M (.int i) = some (.type "int") := rfl
theorem q_ty_str : tyD M (.str x) = some (.type "str") := rfl
theorem q_ty_tup : tyD M (.tup xs) = some (.type "tuple") := rfl
theorem q_ty_lst : tyD M (.lst xs) = some (.type "list") := rfl
theorem q_ty_non : tyD M .non = some (.type "NoneType") := rfl
theorem q_ty_bl : tyD M (.bl k) = some (.type "bool") := rfl
theorem q_ty_ins {C : Addr} {ns : List Str} {ds : List D} : tyD M (.ins C ns ds) = some (.ref C) := rfl
theorem q_all {f : List Bool → Bool} {bs : List Bool} : allD f M [.lst (bs.map D.bl)] P = P (.bl (f bs)) := propext ⟨fun ⟨cs, e, p⟩ => by
  have e2 : bs.map D.bl = cs.map D.bl := Option.some.inj e
  have e3 : bs = cs := by
    have inj : ∀ (u v : List Bool), u.map D.bl = v.map D.bl → u = v := by
      intro u
      induction u with
      | nil => intro v h; cases v with
        | nil => rfl
        | cons _ _ => cases h
      | cons a u ih => intro v h; cases v with
        | nil => cases h
        | cons b v =>
          rw [List.map_cons, List.map_cons] at h
          injection h with h1 h2
          injection h1 with h1
          rw [h1, ih v h2]
    exact inj _ _ e2
  rw [e3]
  exact p, fun p => ⟨bs, rfl, p⟩⟩
end
section
variable {M : Mm} {s : DSt} {P : DSt → Mm → Prop} {Q : D → Mm → Prop} {xs : List D} {d : D} {n : Nat} {g : DG} {gs : DGs} {x : Str} {a : Addr}
theorem q_gtup : dgTup n gs (.tup xs) s M P = (xs.length = n ∧ gs xs s M P) := rfl
theorem q_gcons : dgCons g gs (d :: xs) s M P = g d s M fun s' M' => gs xs s' M' P := rfl
theorem q_gnil : dgNil xs s M P = (xs = [] ∧ P s M) := rfl
theorem q_join {y : D} : joinD M (.str x) [y] Q = ∃ ys : List Str, textsD M y ys ∧ (ys.map (·.length)).sum + ys.length * x.length ≤ 16777216 ∧ Q (.str (Txt.join x ys)) M := rfl
theorem q_append : appendD M (.ref a) [d] Q = ∃ ds, M a = some (.lst ds) ∧ ds.length < sizeLine ∧ Q .non (mput M a (.lst (ds ++ [d]))) := rfl
theorem q_count {y : Str} : countD M (.str x) [.str y] Q = Q (.int (Txt.count x y)) M := rfl
theorem q_isdigit : isdigitD M (.str x) [] Q = Q (.bl (Txt.isdigit x)) M := rfl
theorem q_split {y : Str} : splitD M (.str x) [.str y] Q = ((y.length == 0) = false ∧ x.length + 2 ≤ sizeLine ∧ Q (.lst ((Txt.split x y).map D.str)) M) := rfl
end
end HD

namespace HD
open PySem PySem.Spec PyProof.Rows L2
theorem strOk_iff {x : Str} : PyData.strOk x = true ↔ ∀ c ∈ x.cps.toList, c < 0x110000 := by
  unfold PyData.strOk
  rw [Array.all_eq_true_iff_forall_mem]
  constructor
  · intro h c hc
    simpa using h c (Array.mem_toList_iff.mp hc)
  · intro h c hc
    simpa using h c (Array.mem_toList_iff.mpr hc)
theorem strOk_app {x y : Str} (h1 : PyData.strOk x = true) (h2 : PyData.strOk y = true) : PyData.strOk (x ++ y) = true := by
  rw [strOk_iff] at h1 h2 ⊢
  intro c hc
  have e : (x ++ y).cps.toList = x.cps.toList ++ y.cps.toList := by rw [Str.cps_append, Array.toList_append]
  rw [e] at hc
  rcases List.mem_append.mp hc with z | z
  · exact h1 c z
  · exact h2 c z
theorem strOk_join {sep : Str} {ts : List Str} (h1 : PyData.strOk sep = true) (h2 : ∀ t ∈ ts, PyData.strOk t = true) : PyData.strOk (Txt.join sep ts) = true := by
  rw [strOk_iff] at h1 ⊢
  intro c hc
  unfold Txt.join at hc
  rw [StrLaws.glued_eq_join, mem_join] at hc
  rcases hc with ⟨t, ht, z⟩ | ⟨_, z⟩
  · exact strOk_iff.mp (h2 t ht) c z
  · exact h1 c z
theorem strOk_num (i : Int) : PyData.strOk (Str.ofString (toString i)) = true := by
  rw [strOk_iff]
  intro c hc
  by_cases z : c < 0x110000
  · exact z
  · exact absurd hc (int_text_free' c ⟨by omega, by omega⟩ i)
end HD

namespace HD
open PySem PySem.Spec PyProof.Rows L2
section
variable {X : Cx} {K : PySem.W.Frag} {k j : Nat} {C : Addr} {c : DSp} {a b : Expr} {da db : DE} {pos : Pos}
theorem j_ownK (K' : PySem.W.Frag) (hK : X.K = K') (h : SpcD X.prog X.w X.K X.mg X.base k C "__eq__" c) (hr : RmG j X.A) (hk : k ≤ j) (ha : JE X a da) (hb : JE X b db) : JE X (.Compare a [.Eq] [b] pos) (ownD K' C c false da db) := by
  subst hK
  exact j_own h hr hk ha hb
theorem j_ownNK (K' : PySem.W.Frag) (hK : X.K = K') (h : SpcD X.prog X.w X.K X.mg X.base k C "__eq__" c) (hne : PySem.W.findIn X.K (.ref C) "__ne__" = some (some (.builtin "object.__ne__"))) (hm : PySem.W.mroIn X.K C (.type "object") = some true) (hr : RmG j X.A) (hk : k + 1 ≤ j) (ha : JE X a da) (hb : JE X b db) : JE X (.Compare a [.NotEq] [b] pos) (ownD K' C c true da db) := by
  subst hK
  exact j_ownN h hne hm hr hk ha hb
theorem t_ownK (K' : PySem.W.Frag) (hK : X.K = K') (h : SpcD X.prog X.w X.K X.mg X.base k C "__eq__" c) (hr : RmG j X.A) (hk : k ≤ j) (ha : JE X a da) (hb : JE X b db) : JT X (.Compare a [.Eq] [b] pos) (dTest (ownD K' C c false da db)) := by
  subst hK
  exact t_own h hr hk ha hb
theorem t_ownNK (K' : PySem.W.Frag) (hK : X.K = K') (h : SpcD X.prog X.w X.K X.mg X.base k C "__eq__" c) (hne : PySem.W.findIn X.K (.ref C) "__ne__" = some (some (.builtin "object.__ne__"))) (hm : PySem.W.mroIn X.K C (.type "object") = some true) (hr : RmG j X.A) (hk : k + 1 ≤ j) (ha : JE X a da) (hb : JE X b db) : JT X (.Compare a [.NotEq] [b] pos) (dTest (ownD K' C c true da db)) := by
  subst hK
  exact t_ownN h hne hm hr hk ha hb
end
end HD

namespace K02
open PySem PySem.Spec PyProof.Rows L2 HD
def top (i : Nat) : Stmt := PySem.Challenge.pw_spansieve_k02_plans_made.main.body.getD i (.Pass ⟨0, 0, 0, 0⟩)
variable {P : Program} {w : World} {K : PySem.W.Frag} {mg : Str → Option Value} {base : Heap}
structure Fc (K : PySem.W.Frag) (mg : Str → Option Value) : Prop where
  n_isinstance : mg "isinstance" = none
  n_int : mg "int" = none
  n_bool : mg "bool" = none
  n_str : mg "str" = none
  n_len : mg "len" = none
  n_tuple : mg "tuple" = none
  n_range : mg "range" = none
  n_max : mg "max" = none
  n_min : mg "min" = none
  n_abs : mg "abs" = none
  n_divmod : mg "divmod" = none
  n_sorted : mg "sorted" = none
  n_dict : mg "dict" = none
  n_all : mg "all" = none
  n_any : mg "any" = none
  n_repr : mg "repr" = none
  i_MOST_TICKS : ∃ u, mg "MOST_TICKS" = some u ∧ RelV (.int 10000) u
  g_Plan : mg "Plan" = some (.ref (gloA "Plan" K))
  g_is_integer : mg "is_integer" = some (.ref (gloA "is_integer" K))
  g_is_number : mg "is_number" = some (.ref (gloA "is_number" K))
  g_is_name : mg "is_name" = some (.ref (gloA "is_name" K))
  g_are_ticks : mg "are_ticks" = some (.ref (gloA "are_ticks" K))
  g_marks_of : mg "marks_of" = some (.ref (gloA "marks_of" K))
  g_are_rows : mg "are_rows" = some (.ref (gloA "are_rows" K))
  g__law_cell : mg "_law_cell" = some (.ref (gloA "_law_cell" K))
  g__law_purse : mg "_law_purse" = some (.ref (gloA "_law_purse" K))
  g__law_roll : mg "_law_roll" = some (.ref (gloA "_law_roll" K))
  g__law_letters : mg "_law_letters" = some (.ref (gloA "_law_letters" K))
  g__law_set : mg "_law_set" = some (.ref (gloA "_law_set" K))
  g__law_drawn_rows : mg "_law_drawn_rows" = some (.ref (gloA "_law_drawn_rows" K))
  g__law_marks : mg "_law_marks" = some (.ref (gloA "_law_marks" K))
  g__law_plan_text : mg "_law_plan_text" = some (.ref (gloA "_law_plan_text" K))
  g__law_drawn : mg "_law_drawn" = some (.ref (gloA "_law_drawn" K))
  g__law_turned : mg "_law_turned" = some (.ref (gloA "_law_turned" K))
  g__law_is : mg "_law_is" = some (.ref (gloA "_law_is" K))
  g__law_unlike : mg "_law_unlike" = some (.ref (gloA "_law_unlike" K))
  g__law_right : mg "_law_right" = some (.ref (gloA "_law_right" K))
  g_law : mg "law" = some (.ref (gloA "law" K))
  d_is_integer : ∃ fd, FunD K "is_integer" "is_integer" (defArgs (top 10)) (defBody (top 10)) (defScope (top 10)) [] [] ((gloA "is_integer") K) fd
  d_is_number : ∃ fd, FunD K "is_number" "is_number" (defArgs (top 11)) (defBody (top 11)) (defScope (top 11)) [] [] ((gloA "is_number") K) fd
  d_is_name : ∃ fd, FunD K "is_name" "is_name" (defArgs (top 13)) (defBody (top 13)) (defScope (top 13)) [] [] ((gloA "is_name") K) fd
  d_are_ticks : ∃ fd, FunD K "are_ticks" "are_ticks" (defArgs (top 14)) (defBody (top 14)) (defScope (top 14)) [] [] ((gloA "are_ticks") K) fd
  d_marks_of : ∃ fd, FunD K "marks_of" "marks_of" (defArgs (top 16)) (defBody (top 16)) (defScope (top 16)) [] [] ((gloA "marks_of") K) fd
  d_are_rows : ∃ fd, FunD K "are_rows" "are_rows" (defArgs (top 17)) (defBody (top 17)) (defScope (top 17)) [] [] ((gloA "are_rows") K) fd
  d_law_cell : ∃ fd, FunD K "_law_cell" "_law_cell" (defArgs (top 21)) (defBody (top 21)) (defScope (top 21)) [] [] ((gloA "_law_cell") K) fd
  d_law_purse : ∃ fd, FunD K "_law_purse" "_law_purse" (defArgs (top 22)) (defBody (top 22)) (defScope (top 22)) [] [] ((gloA "_law_purse") K) fd
  d_law_roll : ∃ fd, FunD K "_law_roll" "_law_roll" (defArgs (top 23)) (defBody (top 23)) (defScope (top 23)) [] [] ((gloA "_law_roll") K) fd
  d_law_letters : ∃ fd, FunD K "_law_letters" "_law_letters" (defArgs (top 24)) (defBody (top 24)) (defScope (top 24)) [] [] ((gloA "_law_letters") K) fd
  d_law_set : ∃ fd, FunD K "_law_set" "_law_set" (defArgs (top 25)) (defBody (top 25)) (defScope (top 25)) [] [] ((gloA "_law_set") K) fd
  d_law_drawn_rows : ∃ fd, FunD K "_law_drawn_rows" "_law_drawn_rows" (defArgs (top 26)) (defBody (top 26)) (defScope (top 26)) [] [] ((gloA "_law_drawn_rows") K) fd
  d_law_marks : ∃ fd, FunD K "_law_marks" "_law_marks" (defArgs (top 27)) (defBody (top 27)) (defScope (top 27)) [] [] ((gloA "_law_marks") K) fd
  d_law_plan_text : ∃ fd, FunD K "_law_plan_text" "_law_plan_text" (defArgs (top 28)) (defBody (top 28)) (defScope (top 28)) [] [] ((gloA "_law_plan_text") K) fd
  d_law_drawn : ∃ fd, FunD K "_law_drawn" "_law_drawn" (defArgs (top 29)) (defBody (top 29)) (defScope (top 29)) [] [] ((gloA "_law_drawn") K) fd
  d_law_turned : ∃ fd, FunD K "_law_turned" "_law_turned" (defArgs (top 30)) (defBody (top 30)) (defScope (top 30)) [] [] ((gloA "_law_turned") K) fd
  d_law_is : ∃ fd, FunD K "_law_is" "_law_is" (defArgs (top 31)) (defBody (top 31)) (defScope (top 31)) [] [] ((gloA "_law_is") K) fd
  d_law_unlike : ∃ fd, FunD K "_law_unlike" "_law_unlike" (defArgs (top 32)) (defBody (top 32)) (defScope (top 32)) [] [] ((gloA "_law_unlike") K) fd
  d_law_right : ∃ fd, FunD K "_law_right" "_law_right" (defArgs (top 33)) (defBody (top 33)) (defScope (top 33)) [] [] ((gloA "_law_right") K) fd
  d_law : ∃ fd, FunD K "law" "law" (defArgs (top 34)) (defBody (top 34)) (defScope (top 34)) [] [] ((gloA "law") K) fd
  d_Plan_init : ∃ fd, FunD K "__init__" "Plan.__init__" (defArgs (inClass (top 19) 0)) (defBody (inClass (top 19) 0)) (defScope (inClass (top 19) 0)) [.ref (dfltA (metA "Plan" "__init__") 0 K)] [] ((metA "Plan" "__init__") K) fd
  d_Plan_size : ∃ fd, FunD K "size" "Plan.size" (defArgs (inClass (top 19) 2)) (defBody (inClass (top 19) 2)) (defScope (inClass (top 19) 2)) [] [] ((getA "Plan" "size") K) fd
  d_Plan_rows : ∃ fd, FunD K "rows" "Plan.rows" (defArgs (inClass (top 19) 3)) (defBody (inClass (top 19) 3)) (defScope (inClass (top 19) 3)) [] [] ((getA "Plan" "rows") K) fd
  d_Plan_names : ∃ fd, FunD K "names" "Plan.names" (defArgs (inClass (top 19) 4)) (defBody (inClass (top 19) 4)) (defScope (inClass (top 19) 4)) [] [] ((getA "Plan" "names") K) fd
  d_Plan_text : ∃ fd, FunD K "text" "Plan.text" (defArgs (inClass (top 19) 5)) (defBody (inClass (top 19) 5)) (defScope (inClass (top 19) 5)) [] [] ((getA "Plan" "text") K) fd
  d_Plan_ticks : ∃ fd, FunD K "ticks" "Plan.ticks" (defArgs (inClass (top 19) 6)) (defBody (inClass (top 19) 6)) (defScope (inClass (top 19) 6)) [] [] ((metA "Plan" "ticks") K) fd
  d_Plan_marks : ∃ fd, FunD K "marks" "Plan.marks" (defArgs (inClass (top 19) 7)) (defBody (inClass (top 19) 7)) (defScope (inClass (top 19) 7)) [] [] ((metA "Plan" "marks") K) fd
  d_Plan_eq : ∃ fd, FunD K "__eq__" "Plan.__eq__" (defArgs (inClass (top 19) 9)) (defBody (inClass (top 19) 9)) (defScope (inClass (top 19) 9)) [] [] ((metA "Plan" "__eq__") K) fd
  d_Plan_str : ∃ fd, FunD K "__str__" "Plan.__str__" (defArgs (inClass (top 19) 10)) (defBody (inClass (top 19) 10)) (defScope (inClass (top 19) 10)) [] [] ((metA "Plan" "__str__") K) fd
  d_Plan_repr : ∃ fd, FunD K "__repr__" "Plan.__repr__" (defArgs (inClass (top 19) 11)) (defBody (inClass (top 19) 11)) (defScope (inClass (top 19) 11)) [] [] ((metA "Plan" "__repr__") K) fd
  cl_Plan : Cls K (gloA "Plan" K)
  na_Plan_length : NoAttr K (gloA "Plan" K) "length"
  na_Plan_pairs : NoAttr K (gloA "Plan" K) "pairs"
  ti_Plan : TyI K (gloA "Plan" K)
  nb_Plan : NoBool K (gloA "Plan" K)
  ne_Plan : PySem.W.findIn K (.ref (gloA "Plan" K)) "__ne__" = some (some (.builtin "object.__ne__"))
  mk_Plan : Mk K (gloA "Plan" K) (metA "Plan" "__init__" K)
  nil_Plan : nilB (dfltA (metA "Plan" "__init__") 0) K = true
  kit_Plan : PySem.W.kitOne K (.ref (gloA "Plan" K)) (.ref (gloA "Plan" K)) = some true
  kit_ty : ∀ t ∈ ["NoneType", "int", "tuple", "str"], PySem.W.kitOne K (.type t) (.ref (gloA "Plan" K)) = some false
  nf_ty : ∀ t ∈ ["NoneType", "int", "tuple", "str"], PySem.W.notFirst K (gloA "Plan" K) (.type t) = true
  pr_Plan_size : PropOf K (gloA "Plan" K) "size" (propA "Plan" "size" K) (getA "Plan" "size" K)
  pr_Plan_rows : PropOf K (gloA "Plan" K) "rows" (propA "Plan" "rows" K) (getA "Plan" "rows" K)
  pr_Plan_names : PropOf K (gloA "Plan" K) "names" (propA "Plan" "names" K) (getA "Plan" "names" K)
  pr_Plan_text : PropOf K (gloA "Plan" K) "text" (propA "Plan" "text" K) (getA "Plan" "text" K)
  me_Plan_ticks : Meth K (gloA "Plan" K) "ticks" (metA "Plan" "ticks" K)
  me_Plan_marks : Meth K (gloA "Plan" K) "marks" (metA "Plan" "marks" K)
  sp_Plan_eq : PySem.W.findIn K (.ref (gloA "Plan" K)) "__eq__" = some (some (.ref (metA "Plan" "__eq__" K)))
  sf_Plan_eq : PySem.W.isFn K (.ref (metA "Plan" "__eq__" K)) = true
  sp_Plan_str : PySem.W.findIn K (.ref (gloA "Plan" K)) "__str__" = some (some (.ref (metA "Plan" "__str__" K)))
  sf_Plan_str : PySem.W.isFn K (.ref (metA "Plan" "__str__" K)) = true
  sp_Plan_repr : PySem.W.findIn K (.ref (gloA "Plan" K)) "__repr__" = some (some (.ref (metA "Plan" "__repr__" K)))
  sf_Plan_repr : PySem.W.isFn K (.ref (metA "Plan" "__repr__" K)) = true
/-! ### the sets -/
def intsD (r : List Nat) : D := .tup (r.map fun (t : Nat) => D.int (t : Int))
def chS (c : Nat) : Str := ⟨#[c]⟩
abbrev Rw := List (Nat × List Nat)
def rowD (p : Nat × List Nat) : D := .tup [.str (chS p.1), intsD p.2]
def rowsD (rs : Rw) : D := .tup (rs.map rowD)
structure OkR (wd : Nat) (r : List Nat) : Prop where
  up : r.Pairwise (· < ·)
  lt : ∀ t ∈ r, t < wd
structure OkRs (wd : Nat) (rs : Rw) : Prop where
  up : (rs.map (·.1)).Pairwise (· < ·)
  ch : ∀ p ∈ rs, 65 ≤ p.1 ∧ p.1 ≤ 90
  ok : ∀ p ∈ rs, OkR wd p.2
/-! ### the program -/
theorem isi_ty {x : D} {M : Mm} {a b : String} {r : Bool} {P : D → Prop} (h : tyD M x = some (.type a)) (k : kitB a b = some r) (p : P (.bl r)) : isiD K M [x, .ty b] P :=
  ⟨_, _, r, h, fun _ e => (by cases e), rfl, kit_ty k, p⟩
def c_is_integer : DSp := fun ds M P => ∃ i, ds = [.int i] ∧ P (.bl true) M
theorem sc_is_integer : FnScope ["value"] ["value"] (defScope (top 10)) := ⟨rfl, rfl, rfl, by decide +kernel, rfl, by decide +kernel, by decide +kernel⟩
theorem fn_is_integer (F : Fc K mg) {fd : FuncData} (dF : FunD K "is_integer" "is_integer" (defArgs (top 10)) (defBody (top 10)) (defScope (top 10)) [] [] ((gloA "is_integer") K) fd) : FnG P w K mg base 1 ((gloA "is_integer") K) fd ["value"] (spOf K c_is_integer) := by
  have nd := sc_is_integer.nd
  refine fnG_D dF sc_is_integer (fun ds M R h => ?_) fun cd A outer s H hr => ⟨_, (b_one (s_ret (j_and (j_cb call_isi lc_isi F.n_isinstance rfl (a_cons (jv 0) (a_cons (j_bltn (d := .ty "int") (v := .ty "int") (u := .type "int") rfl F.n_int rfl rfl (by decide) (by decide) fun _ => by unfold Rep; rfl) a_nil)) rfl (by decide) (by decide) rfl rfl) (j_one (j_not (j_cb call_isi lc_isi F.n_isinstance rfl (a_cons (jv 0) (a_cons (j_bltn (d := .ty "bool") (v := .ty "bool") (u := .type "bool") rfl F.n_bool rfl rfl (by decide) (by decide) fun _ => by unfold Rep; rfl) a_nil)) rfl (by decide) (by decide) rfl rfl)))))), ?_⟩
  · obtain ⟨_, rfl, _⟩ := h; rfl
  · intro ds M R h
    obtain ⟨i, rfl, h⟩ := h
    simp only [cx_K, nox_K, dRet, dRetN, dAnd, dOr, dNot, dCB, dCons, dVar, dC, dNil, dSeq, dAsg, dgName, dIfS, dNever, dTest, dAndT, dOrT, dNotT, dIf, dBin, dUn, dChain, dstart, dPar, dPar3, dDrop, dFor, dIter, dRng1, dRng2, dNext, dTup, dLst, dCall, dMeth, dProp, dFld, dSetF, dM, dJoined, dJs, dLc, dDc, dSlice, dPart, dNoP, dRetF, dYes, dgSub, dwipe, dEnum, dZip, dTxt, ownD, dMethK, q_plus_int, q_plus_str, q_plus_tup, q_plus_lst, q_fII, q_minus, q_fdiv, q_mod, q_pow, q_mul, q_rep, q_ord_int, q_ord_str, q_len_str, q_len_tup, q_len_lst, q_len_scr, q_len_ref, q_neg, q_fmt_int, q_fmt_str, q_str_int, q_str_str, q_int_int, q_int_bl, q_int_str, q_bool_int, q_bool_bl, q_abs, q_max, q_min, q_divmod, q_ix_tup, q_ix_lst, q_ix_ref, q_ix_scr, q_ix_str, q_sl_tup, q_sl_str, q_sl_lst, q_sl_scr, q_tuple_lst, q_tuple_tup, q_tuple_ref, q_in_dic, q_in_tup, q_in_ref, q_in_lst, q_items_lst, q_items_tup, q_items_scr, q_items_str, q_ins, q_ty_int, q_ty_str, q_ty_tup, q_ty_lst, q_ty_non, q_ty_bl, q_ty_ins, q_all, q_gtup, q_gcons, q_gnil, q_join, q_append, q_count, q_isdigit, q_split, ltD, leD, gtD, geD, isStrD, valN, clsD, List.map_cons, List.map_nil, List.length_cons, List.length_nil, List.replicate_zero, List.replicate_succ, List.cons_append, List.nil_append, List.append_nil, List.getElem?_cons_zero, List.getElem?_cons_succ, List.set_cons_zero, List.set_cons_succ, List.zip_cons_cons, List.zip_nil_left, List.zip_nil_right, List.lookup_cons, List.lookup_nil, Option.some.injEq, exists_eq_left', exists_eq_left, exists_eq', exists_eq, HD.D.bl.injEq, HD.D.int.injEq, HD.D.str.injEq, HD.D.tup.injEq, HD.D.lst.injEq, HD.D.ref.injEq, List.cons.injEq, and_true, true_and, if_true, if_false, Bool.false_eq_true, ite_true, ite_false, Bool.not_true, Bool.not_false, Int.cast_ofNat_Int, beq_self_eq_true, Nat.sub_self, Nat.reduceSub, Nat.reduceAdd, reduceIte]
    refine isi_ty (a := "int") (r := true) rfl (by decide +kernel) ?_
    simp only [cx_K, nox_K, dRet, dRetN, dAnd, dOr, dNot, dCB, dCons, dVar, dC, dNil, dSeq, dAsg, dgName, dIfS, dNever, dTest, dAndT, dOrT, dNotT, dIf, dBin, dUn, dChain, dstart, dPar, dPar3, dDrop, dFor, dIter, dRng1, dRng2, dNext, dTup, dLst, dCall, dMeth, dProp, dFld, dSetF, dM, dJoined, dJs, dLc, dDc, dSlice, dPart, dNoP, dRetF, dYes, dgSub, dwipe, dEnum, dZip, dTxt, ownD, dMethK, q_plus_int, q_plus_str, q_plus_tup, q_plus_lst, q_fII, q_minus, q_fdiv, q_mod, q_pow, q_mul, q_rep, q_ord_int, q_ord_str, q_len_str, q_len_tup, q_len_lst, q_len_scr, q_len_ref, q_neg, q_fmt_int, q_fmt_str, q_str_int, q_str_str, q_int_int, q_int_bl, q_int_str, q_bool_int, q_bool_bl, q_abs, q_max, q_min, q_divmod, q_ix_tup, q_ix_lst, q_ix_ref, q_ix_scr, q_ix_str, q_sl_tup, q_sl_str, q_sl_lst, q_sl_scr, q_tuple_lst, q_tuple_tup, q_tuple_ref, q_in_dic, q_in_tup, q_in_ref, q_in_lst, q_items_lst, q_items_tup, q_items_scr, q_items_str, q_ins, q_ty_int, q_ty_str, q_ty_tup, q_ty_lst, q_ty_non, q_ty_bl, q_ty_ins, q_all, q_gtup, q_gcons, q_gnil, q_join, q_append, q_count, q_isdigit, q_split, ltD, leD, gtD, geD, isStrD, valN, clsD, List.map_cons, List.map_nil, List.length_cons, List.length_nil, List.replicate_zero, List.replicate_succ, List.cons_append, List.nil_append, List.append_nil, List.getElem?_cons_zero, List.getElem?_cons_succ, List.set_cons_zero, List.set_cons_succ, List.zip_cons_cons, List.zip_nil_left, List.zip_nil_right, List.lookup_cons, List.lookup_nil, Option.some.injEq, exists_eq_left', exists_eq_left, exists_eq', exists_eq, HD.D.bl.injEq, HD.D.int.injEq, HD.D.str.injEq, HD.D.tup.injEq, HD.D.lst.injEq, HD.D.ref.injEq, List.cons.injEq, and_true, true_and, if_true, if_false, Bool.false_eq_true, ite_true, ite_false, Bool.not_true, Bool.not_false, Int.cast_ofNat_Int, beq_self_eq_true, Nat.sub_self, Nat.reduceSub, Nat.reduceAdd, reduceIte]
    refine isi_ty (a := "int") (r := false) rfl (by decide +kernel) ?_
    simp only [cx_K, nox_K, dRet, dRetN, dAnd, dOr, dNot, dCB, dCons, dVar, dC, dNil, dSeq, dAsg, dgName, dIfS, dNever, dTest, dAndT, dOrT, dNotT, dIf, dBin, dUn, dChain, dstart, dPar, dPar3, dDrop, dFor, dIter, dRng1, dRng2, dNext, dTup, dLst, dCall, dMeth, dProp, dFld, dSetF, dM, dJoined, dJs, dLc, dDc, dSlice, dPart, dNoP, dRetF, dYes, dgSub, dwipe, dEnum, dZip, dTxt, ownD, dMethK, q_plus_int, q_plus_str, q_plus_tup, q_plus_lst, q_fII, q_minus, q_fdiv, q_mod, q_pow, q_mul, q_rep, q_ord_int, q_ord_str, q_len_str, q_len_tup, q_len_lst, q_len_scr, q_len_ref, q_neg, q_fmt_int, q_fmt_str, q_str_int, q_str_str, q_int_int, q_int_bl, q_int_str, q_bool_int, q_bool_bl, q_abs, q_max, q_min, q_divmod, q_ix_tup, q_ix_lst, q_ix_ref, q_ix_scr, q_ix_str, q_sl_tup, q_sl_str, q_sl_lst, q_sl_scr, q_tuple_lst, q_tuple_tup, q_tuple_ref, q_in_dic, q_in_tup, q_in_ref, q_in_lst, q_items_lst, q_items_tup, q_items_scr, q_items_str, q_ins, q_ty_int, q_ty_str, q_ty_tup, q_ty_lst, q_ty_non, q_ty_bl, q_ty_ins, q_all, q_gtup, q_gcons, q_gnil, q_join, q_append, q_count, q_isdigit, q_split, ltD, leD, gtD, geD, isStrD, valN, clsD, List.map_cons, List.map_nil, List.length_cons, List.length_nil, List.replicate_zero, List.replicate_succ, List.cons_append, List.nil_append, List.append_nil, List.getElem?_cons_zero, List.getElem?_cons_succ, List.set_cons_zero, List.set_cons_succ, List.zip_cons_cons, List.zip_nil_left, List.zip_nil_right, List.lookup_cons, List.lookup_nil, Option.some.injEq, exists_eq_left', exists_eq_left, exists_eq', exists_eq, HD.D.bl.injEq, HD.D.int.injEq, HD.D.str.injEq, HD.D.tup.injEq, HD.D.lst.injEq, HD.D.ref.injEq, List.cons.injEq, and_true, true_and, if_true, if_false, Bool.false_eq_true, ite_true, ite_false, Bool.not_true, Bool.not_false, Int.cast_ofNat_Int, beq_self_eq_true, Nat.sub_self, Nat.reduceSub, Nat.reduceAdd, reduceIte]
    exact Ret.of h
theorem cal_is_integer (F : Fc K mg) : CalD P w K mg base 1 "is_integer" c_is_integer [] := by
  obtain ⟨fd, D⟩ := F.d_is_integer
  refine calD_N D (fn_is_integer F D) F.g_is_integer ?_
  exact fun _ _ _ _ _ _ us hl => match us, hl with | [_], _ => rfl
def c_is_number : DSp := fun ds M P => ∃ i a b, ds = [.int i, .int a, .int b] ∧ P (.bl (decide (a ≤ i) && decide (i ≤ b))) M
theorem sc_is_number : FnScope ["value", "least", "most"] ["value", "least", "most"] (defScope (top 11)) := ⟨rfl, rfl, rfl, by decide +kernel, rfl, by decide +kernel, by decide +kernel⟩
theorem fn_is_number (F : Fc K mg) {fd : FuncData} (dF : FunD K "is_number" "is_number" (defArgs (top 11)) (defBody (top 11)) (defScope (top 11)) [] [] ((gloA "is_number") K) fd) : FnG P w K mg base 2 ((gloA "is_number") K) fd ["value", "least", "most"] (spOf K c_is_number) := by
  have nd := sc_is_number.nd
  refine fnG_D dF sc_is_number (fun ds M R h => ?_) fun cd A outer s H hr => ⟨_, (b_one (s_ret (j_and (j_call (cal_is_integer F) hr (by decide) (a_cons (jv 0) a_nil)) (j_one (j_chain (op_le.or op_le_str) (op_le.or op_le_str) lr_ord lr_ord (jv 1) (jv 0) (jv 2)))))), ?_⟩
  · obtain ⟨_, _, _, rfl, _⟩ := h; rfl
  · intro ds M R h
    obtain ⟨i, a, b, rfl, h⟩ := h
    simp only [cx_K, nox_K, dRet, dRetN, dAnd, dOr, dNot, dCB, dCons, dVar, dC, dNil, dSeq, dAsg, dgName, dIfS, dNever, dTest, dAndT, dOrT, dNotT, dIf, dBin, dUn, dChain, dstart, dPar, dPar3, dDrop, dFor, dIter, dRng1, dRng2, dNext, dTup, dLst, dCall, dMeth, dProp, dFld, dSetF, dM, dJoined, dJs, dLc, dDc, dSlice, dPart, dNoP, dRetF, dYes, dgSub, dwipe, dEnum, dZip, dTxt, ownD, dMethK, q_plus_int, q_plus_str, q_plus_tup, q_plus_lst, q_fII, q_minus, q_fdiv, q_mod, q_pow, q_mul, q_rep, q_ord_int, q_ord_str, q_len_str, q_len_tup, q_len_lst, q_len_scr, q_len_ref, q_neg, q_fmt_int, q_fmt_str, q_str_int, q_str_str, q_int_int, q_int_bl, q_int_str, q_bool_int, q_bool_bl, q_abs, q_max, q_min, q_divmod, q_ix_tup, q_ix_lst, q_ix_ref, q_ix_scr, q_ix_str, q_sl_tup, q_sl_str, q_sl_lst, q_sl_scr, q_tuple_lst, q_tuple_tup, q_tuple_ref, q_in_dic, q_in_tup, q_in_ref, q_in_lst, q_items_lst, q_items_tup, q_items_scr, q_items_str, q_ins, q_ty_int, q_ty_str, q_ty_tup, q_ty_lst, q_ty_non, q_ty_bl, q_ty_ins, q_all, q_gtup, q_gcons, q_gnil, q_join, q_append, q_count, q_isdigit, q_split, ltD, leD, gtD, geD, isStrD, valN, clsD, List.map_cons, List.map_nil, List.length_cons, List.length_nil, List.replicate_zero, List.replicate_succ, List.cons_append, List.nil_append, List.append_nil, List.getElem?_cons_zero, List.getElem?_cons_succ, List.set_cons_zero, List.set_cons_succ, List.zip_cons_cons, List.zip_nil_left, List.zip_nil_right, List.lookup_cons, List.lookup_nil, Option.some.injEq, exists_eq_left', exists_eq_left, exists_eq', exists_eq, HD.D.bl.injEq, HD.D.int.injEq, HD.D.str.injEq, HD.D.tup.injEq, HD.D.lst.injEq, HD.D.ref.injEq, List.cons.injEq, and_true, true_and, if_true, if_false, Bool.false_eq_true, ite_true, ite_false, Bool.not_true, Bool.not_false, Int.cast_ofNat_Int, beq_self_eq_true, Nat.sub_self, Nat.reduceSub, Nat.reduceAdd, reduceIte]
    refine ⟨i, rfl, ?_⟩
    simp only [cx_K, nox_K, dRet, dRetN, dAnd, dOr, dNot, dCB, dCons, dVar, dC, dNil, dSeq, dAsg, dgName, dIfS, dNever, dTest, dAndT, dOrT, dNotT, dIf, dBin, dUn, dChain, dstart, dPar, dPar3, dDrop, dFor, dIter, dRng1, dRng2, dNext, dTup, dLst, dCall, dMeth, dProp, dFld, dSetF, dM, dJoined, dJs, dLc, dDc, dSlice, dPart, dNoP, dRetF, dYes, dgSub, dwipe, dEnum, dZip, dTxt, ownD, dMethK, q_plus_int, q_plus_str, q_plus_tup, q_plus_lst, q_fII, q_minus, q_fdiv, q_mod, q_pow, q_mul, q_rep, q_ord_int, q_ord_str, q_len_str, q_len_tup, q_len_lst, q_len_scr, q_len_ref, q_neg, q_fmt_int, q_fmt_str, q_str_int, q_str_str, q_int_int, q_int_bl, q_int_str, q_bool_int, q_bool_bl, q_abs, q_max, q_min, q_divmod, q_ix_tup, q_ix_lst, q_ix_ref, q_ix_scr, q_ix_str, q_sl_tup, q_sl_str, q_sl_lst, q_sl_scr, q_tuple_lst, q_tuple_tup, q_tuple_ref, q_in_dic, q_in_tup, q_in_ref, q_in_lst, q_items_lst, q_items_tup, q_items_scr, q_items_str, q_ins, q_ty_int, q_ty_str, q_ty_tup, q_ty_lst, q_ty_non, q_ty_bl, q_ty_ins, q_all, q_gtup, q_gcons, q_gnil, q_join, q_append, q_count, q_isdigit, q_split, ltD, leD, gtD, geD, isStrD, valN, clsD, List.map_cons, List.map_nil, List.length_cons, List.length_nil, List.replicate_zero, List.replicate_succ, List.cons_append, List.nil_append, List.append_nil, List.getElem?_cons_zero, List.getElem?_cons_succ, List.set_cons_zero, List.set_cons_succ, List.zip_cons_cons, List.zip_nil_left, List.zip_nil_right, List.lookup_cons, List.lookup_nil, Option.some.injEq, exists_eq_left', exists_eq_left, exists_eq', exists_eq, HD.D.bl.injEq, HD.D.int.injEq, HD.D.str.injEq, HD.D.tup.injEq, HD.D.lst.injEq, HD.D.ref.injEq, List.cons.injEq, and_true, true_and, if_true, if_false, Bool.false_eq_true, ite_true, ite_false, Bool.not_true, Bool.not_false, Int.cast_ofNat_Int, beq_self_eq_true, Nat.sub_self, Nat.reduceSub, Nat.reduceAdd, reduceIte]
    by_cases z : a ≤ i
    · rw [if_pos (decide_eq_true z)]
      rw [decide_eq_true z, Bool.true_and] at h
      exact Ret.of h
    · rw [if_neg (fun e => z (of_decide_eq_true e))]
      rw [decide_eq_false z, Bool.false_and] at h
      exact Ret.of h
theorem cal_is_number (F : Fc K mg) : CalD P w K mg base 2 "is_number" c_is_number [] := by
  obtain ⟨fd, D⟩ := F.d_is_number
  refine calD_N D (fn_is_number F D) F.g_is_number ?_
  exact fun _ _ _ _ _ _ us hl => match us, hl with | [_, _, _], _ => rfl
theorem chS_len (c : Nat) : (chS c).length = 1 := rfl
theorem ltS_ch {a b : Nat} : ltS (chS a) (chS b) = decide (a < b) := by
  unfold ltS chS
  have e : ([a] < [b]) ↔ a < b := by
    constructor
    · intro h
      cases h with
      | rel h => exact h
      | cons h => cases h
    · intro h
      exact List.Lex.rel h
  exact decide_eq_decide.mpr e
theorem strOk_ch {c : Nat} (h : c ≤ 90) : PyData.strOk (chS c) = true := by
  unfold PyData.strOk chS
  simp
  omega
def c_is_name : DSp := fun ds M P => ∃ c, ds = [.str (chS c)] ∧ (65 ≤ c ∧ c ≤ 90) ∧ P (.bl true) M
theorem sc_is_name : FnScope ["value"] ["value"] (defScope (top 13)) := ⟨rfl, rfl, rfl, by decide +kernel, rfl, by decide +kernel, by decide +kernel⟩
theorem fn_is_name (F : Fc K mg) {fd : FuncData} (dF : FunD K "is_name" "is_name" (defArgs (top 13)) (defBody (top 13)) (defScope (top 13)) [] [] ((gloA "is_name") K) fd) : FnG P w K mg base 1 ((gloA "is_name") K) fd ["value"] (spOf K c_is_name) := by
  have nd := sc_is_name.nd
  refine fnG_D dF sc_is_name (fun ds M R h => ?_) fun cd A outer s H hr => ⟨_, (b_one (s_ret (j_and (j_cb call_isi lc_isi F.n_isinstance rfl (a_cons (jv 0) (a_cons (j_bltn (d := .ty "str") (v := .ty "str") (u := .type "str") rfl F.n_str rfl rfl (by decide) (by decide) fun _ => by unfold Rep; rfl) a_nil)) rfl (by decide) (by decide) rfl rfl) (j_and (j_eq hr.rm.units (j_cb call_len lc_len F.n_len rfl (a_cons (jv 0) a_nil) rfl (by decide) (by decide) rfl rfl) j_int) (j_one (j_chain (op_le.or op_le_str) (op_le.or op_le_str) lr_ord lr_ord j_str (jv 0) j_str)))))), ?_⟩
  · obtain ⟨_, rfl, _⟩ := h; rfl
  · intro ds M R h
    obtain ⟨c, rfl, hc, h⟩ := h
    simp only [cx_K, nox_K, dRet, dRetN, dAnd, dOr, dNot, dCB, dCons, dVar, dC, dNil, dSeq, dAsg, dgName, dIfS, dNever, dTest, dAndT, dOrT, dNotT, dIf, dBin, dUn, dChain, dstart, dPar, dPar3, dDrop, dFor, dIter, dRng1, dRng2, dNext, dTup, dLst, dCall, dMeth, dProp, dFld, dSetF, dM, dJoined, dJs, dLc, dDc, dSlice, dPart, dNoP, dRetF, dYes, dgSub, dwipe, dEnum, dZip, dTxt, ownD, dMethK, q_plus_int, q_plus_str, q_plus_tup, q_plus_lst, q_fII, q_minus, q_fdiv, q_mod, q_pow, q_mul, q_rep, q_ord_int, q_ord_str, q_len_str, q_len_tup, q_len_lst, q_len_scr, q_len_ref, q_neg, q_fmt_int, q_fmt_str, q_str_int, q_str_str, q_int_int, q_int_bl, q_int_str, q_bool_int, q_bool_bl, q_abs, q_max, q_min, q_divmod, q_ix_tup, q_ix_lst, q_ix_ref, q_ix_scr, q_ix_str, q_sl_tup, q_sl_str, q_sl_lst, q_sl_scr, q_tuple_lst, q_tuple_tup, q_tuple_ref, q_in_dic, q_in_tup, q_in_ref, q_in_lst, q_items_lst, q_items_tup, q_items_scr, q_items_str, q_ins, q_ty_int, q_ty_str, q_ty_tup, q_ty_lst, q_ty_non, q_ty_bl, q_ty_ins, q_all, q_gtup, q_gcons, q_gnil, q_join, q_append, q_count, q_isdigit, q_split, ltD, leD, gtD, geD, isStrD, valN, clsD, List.map_cons, List.map_nil, List.length_cons, List.length_nil, List.replicate_zero, List.replicate_succ, List.cons_append, List.nil_append, List.append_nil, List.getElem?_cons_zero, List.getElem?_cons_succ, List.set_cons_zero, List.set_cons_succ, List.zip_cons_cons, List.zip_nil_left, List.zip_nil_right, List.lookup_cons, List.lookup_nil, Option.some.injEq, exists_eq_left', exists_eq_left, exists_eq', exists_eq, HD.D.bl.injEq, HD.D.int.injEq, HD.D.str.injEq, HD.D.tup.injEq, HD.D.lst.injEq, HD.D.ref.injEq, List.cons.injEq, and_true, true_and, if_true, if_false, Bool.false_eq_true, ite_true, ite_false, Bool.not_true, Bool.not_false, Int.cast_ofNat_Int, beq_self_eq_true, Nat.sub_self, Nat.reduceSub, Nat.reduceAdd, reduceIte]
    refine isi_ty (a := "str") (r := true) rfl (by decide +kernel) ?_
    simp only [cx_K, nox_K, dRet, dRetN, dAnd, dOr, dNot, dCB, dCons, dVar, dC, dNil, dSeq, dAsg, dgName, dIfS, dNever, dTest, dAndT, dOrT, dNotT, dIf, dBin, dUn, dChain, dstart, dPar, dPar3, dDrop, dFor, dIter, dRng1, dRng2, dNext, dTup, dLst, dCall, dMeth, dProp, dFld, dSetF, dM, dJoined, dJs, dLc, dDc, dSlice, dPart, dNoP, dRetF, dYes, dgSub, dwipe, dEnum, dZip, dTxt, ownD, dMethK, q_plus_int, q_plus_str, q_plus_tup, q_plus_lst, q_fII, q_minus, q_fdiv, q_mod, q_pow, q_mul, q_rep, q_ord_int, q_ord_str, q_len_str, q_len_tup, q_len_lst, q_len_scr, q_len_ref, q_neg, q_fmt_int, q_fmt_str, q_str_int, q_str_str, q_int_int, q_int_bl, q_int_str, q_bool_int, q_bool_bl, q_abs, q_max, q_min, q_divmod, q_ix_tup, q_ix_lst, q_ix_ref, q_ix_scr, q_ix_str, q_sl_tup, q_sl_str, q_sl_lst, q_sl_scr, q_tuple_lst, q_tuple_tup, q_tuple_ref, q_in_dic, q_in_tup, q_in_ref, q_in_lst, q_items_lst, q_items_tup, q_items_scr, q_items_str, q_ins, q_ty_int, q_ty_str, q_ty_tup, q_ty_lst, q_ty_non, q_ty_bl, q_ty_ins, q_all, q_gtup, q_gcons, q_gnil, q_join, q_append, q_count, q_isdigit, q_split, ltD, leD, gtD, geD, isStrD, valN, clsD, List.map_cons, List.map_nil, List.length_cons, List.length_nil, List.replicate_zero, List.replicate_succ, List.cons_append, List.nil_append, List.append_nil, List.getElem?_cons_zero, List.getElem?_cons_succ, List.set_cons_zero, List.set_cons_succ, List.zip_cons_cons, List.zip_nil_left, List.zip_nil_right, List.lookup_cons, List.lookup_nil, Option.some.injEq, exists_eq_left', exists_eq_left, exists_eq', exists_eq, HD.D.bl.injEq, HD.D.int.injEq, HD.D.str.injEq, HD.D.tup.injEq, HD.D.lst.injEq, HD.D.ref.injEq, List.cons.injEq, and_true, true_and, if_true, if_false, Bool.false_eq_true, ite_true, ite_false, Bool.not_true, Bool.not_false, Int.cast_ofNat_Int, beq_self_eq_true, Nat.sub_self, Nat.reduceSub, Nat.reduceAdd, reduceIte]
    refine ⟨by rw [chS_len]; decide, eqD_int ?_⟩
    rw [chS_len]
    simp only [cx_K, nox_K, dRet, dRetN, dAnd, dOr, dNot, dCB, dCons, dVar, dC, dNil, dSeq, dAsg, dgName, dIfS, dNever, dTest, dAndT, dOrT, dNotT, dIf, dBin, dUn, dChain, dstart, dPar, dPar3, dDrop, dFor, dIter, dRng1, dRng2, dNext, dTup, dLst, dCall, dMeth, dProp, dFld, dSetF, dM, dJoined, dJs, dLc, dDc, dSlice, dPart, dNoP, dRetF, dYes, dgSub, dwipe, dEnum, dZip, dTxt, ownD, dMethK, q_plus_int, q_plus_str, q_plus_tup, q_plus_lst, q_fII, q_minus, q_fdiv, q_mod, q_pow, q_mul, q_rep, q_ord_int, q_ord_str, q_len_str, q_len_tup, q_len_lst, q_len_scr, q_len_ref, q_neg, q_fmt_int, q_fmt_str, q_str_int, q_str_str, q_int_int, q_int_bl, q_int_str, q_bool_int, q_bool_bl, q_abs, q_max, q_min, q_divmod, q_ix_tup, q_ix_lst, q_ix_ref, q_ix_scr, q_ix_str, q_sl_tup, q_sl_str, q_sl_lst, q_sl_scr, q_tuple_lst, q_tuple_tup, q_tuple_ref, q_in_dic, q_in_tup, q_in_ref, q_in_lst, q_items_lst, q_items_tup, q_items_scr, q_items_str, q_ins, q_ty_int, q_ty_str, q_ty_tup, q_ty_lst, q_ty_non, q_ty_bl, q_ty_ins, q_all, q_gtup, q_gcons, q_gnil, q_join, q_append, q_count, q_isdigit, q_split, ltD, leD, gtD, geD, isStrD, valN, clsD, List.map_cons, List.map_nil, List.length_cons, List.length_nil, List.replicate_zero, List.replicate_succ, List.cons_append, List.nil_append, List.append_nil, List.getElem?_cons_zero, List.getElem?_cons_succ, List.set_cons_zero, List.set_cons_succ, List.zip_cons_cons, List.zip_nil_left, List.zip_nil_right, List.lookup_cons, List.lookup_nil, Option.some.injEq, exists_eq_left', exists_eq_left, exists_eq', exists_eq, HD.D.bl.injEq, HD.D.int.injEq, HD.D.str.injEq, HD.D.tup.injEq, HD.D.lst.injEq, HD.D.ref.injEq, List.cons.injEq, and_true, true_and, if_true, if_false, Bool.false_eq_true, ite_true, ite_false, Bool.not_true, Bool.not_false, Int.cast_ofNat_Int, beq_self_eq_true, Nat.sub_self, Nat.reduceSub, Nat.reduceAdd, reduceIte]
    have e1 : ltS (chS c) (chS 65) = false := by rw [ltS_ch]; exact decide_eq_false (by omega)
    have e2 : ltS (chS 90) (chS c) = false := by rw [ltS_ch]; exact decide_eq_false (by omega)
    have e3 : (!decide ((chS c).cps.toList < (Str.ofString "A").cps.toList)) = true := by
      show (!ltS (chS c) (chS 65)) = true
      rw [e1]
      rfl
    have e4 : (!decide ((Str.ofString "Z").cps.toList < (chS c).cps.toList)) = true := by
      show (!ltS (chS 90) (chS c)) = true
      rw [e2]
      rfl
    rw [if_pos e3, e4]
    exact Ret.of h
theorem cal_is_name (F : Fc K mg) : CalD P w K mg base 1 "is_name" c_is_name [] := by
  obtain ⟨fd, D⟩ := F.d_is_name
  refine calD_N D (fn_is_name F D) F.g_is_name ?_
  exact fun _ _ _ _ _ _ us hl => match us, hl with | [_], _ => rfl
def c_are_ticks : DSp := fun ds M P => ∃ (r : List Nat) (wd : Nat), ds = [intsD r, .int wd] ∧ OkR wd r ∧ P (.bl true) M
theorem sc_are_ticks : FnScope ["row", "size", "least", "tick"] ["row", "size"] (defScope (top 14)) := ⟨rfl, rfl, rfl, by decide +kernel, rfl, by decide +kernel, by decide +kernel⟩
theorem fn_are_ticks (F : Fc K mg) {fd : FuncData} (dF : FunD K "are_ticks" "are_ticks" (defArgs (top 14)) (defBody (top 14)) (defScope (top 14)) [] [] ((gloA "are_ticks") K) fd) : FnG P w K mg base 3 ((gloA "are_ticks") K) fd ["row", "size"] (spOf K c_are_ticks) := by
  have nd := sc_are_ticks.nd
  refine fnG_D dF sc_are_ticks (fun ds M R h => ?_) fun cd A outer s H hr => ⟨_, (b_cons (s_if (t_not (jt_val (j_cb call_isi lc_isi F.n_isinstance rfl (a_cons (jv 0) (a_cons (j_bltn (d := .ty "tuple") (v := .ty "tuple") (u := .type "tuple") rfl F.n_tuple rfl rfl (by decide) (by decide) fun _ => by unfold Rep; rfl) a_nil)) rfl (by decide) (by decide) rfl rfl)))
      (b_one (s_ret j_bl))
      b_nil)
      (b_cons (s_set (i := 2) nd rfl (by first | exact .inl rfl | exact .inr rfl) j_int)
      (b_cons (s_for PassesOwn.never rfl (i_any (jv 0)) (g_name (i := 3) nd rfl (by first | exact .inl rfl | exact .inr rfl))
      (b_cons (s_if (t_not (jt_val (j_call (cal_is_number F) hr (by decide) (a_cons (jv 3) (a_cons (jv 2) (a_cons (j_sub (jv 1) j_int) a_nil))))))
      (b_one (s_ret j_bl))
      b_nil)
      (b_one (s_set (i := 2) nd rfl (by first | exact .inl rfl | exact .inr rfl) (j_add (jv 3) j_int)))))
      (b_one (s_ret j_bl))))), ?_⟩
  · obtain ⟨_, _, rfl, _⟩ := h; rfl
  · intro ds M R h
    obtain ⟨r, wd, rfl, hr, h⟩ := h
    unfold intsD
    simp only [cx_K, nox_K, dRet, dRetN, dAnd, dOr, dNot, dCB, dCons, dVar, dC, dNil, dSeq, dAsg, dgName, dIfS, dNever, dTest, dAndT, dOrT, dNotT, dIf, dBin, dUn, dChain, dstart, dPar, dPar3, dDrop, dFor, dIter, dRng1, dRng2, dNext, dTup, dLst, dCall, dMeth, dProp, dFld, dSetF, dM, dJoined, dJs, dLc, dDc, dSlice, dPart, dNoP, dRetF, dYes, dgSub, dwipe, dEnum, dZip, dTxt, ownD, dMethK, q_plus_int, q_plus_str, q_plus_tup, q_plus_lst, q_fII, q_minus, q_fdiv, q_mod, q_pow, q_mul, q_rep, q_ord_int, q_ord_str, q_len_str, q_len_tup, q_len_lst, q_len_scr, q_len_ref, q_neg, q_fmt_int, q_fmt_str, q_str_int, q_str_str, q_int_int, q_int_bl, q_int_str, q_bool_int, q_bool_bl, q_abs, q_max, q_min, q_divmod, q_ix_tup, q_ix_lst, q_ix_ref, q_ix_scr, q_ix_str, q_sl_tup, q_sl_str, q_sl_lst, q_sl_scr, q_tuple_lst, q_tuple_tup, q_tuple_ref, q_in_dic, q_in_tup, q_in_ref, q_in_lst, q_items_lst, q_items_tup, q_items_scr, q_items_str, q_ins, q_ty_int, q_ty_str, q_ty_tup, q_ty_lst, q_ty_non, q_ty_bl, q_ty_ins, q_all, q_gtup, q_gcons, q_gnil, q_join, q_append, q_count, q_isdigit, q_split, ltD, leD, gtD, geD, isStrD, valN, clsD, List.map_cons, List.map_nil, List.length_cons, List.length_nil, List.replicate_zero, List.replicate_succ, List.cons_append, List.nil_append, List.append_nil, List.getElem?_cons_zero, List.getElem?_cons_succ, List.set_cons_zero, List.set_cons_succ, List.zip_cons_cons, List.zip_nil_left, List.zip_nil_right, List.lookup_cons, List.lookup_nil, Option.some.injEq, exists_eq_left', exists_eq_left, exists_eq', exists_eq, HD.D.bl.injEq, HD.D.int.injEq, HD.D.str.injEq, HD.D.tup.injEq, HD.D.lst.injEq, HD.D.ref.injEq, List.cons.injEq, and_true, true_and, if_true, if_false, Bool.false_eq_true, ite_true, ite_false, Bool.not_true, Bool.not_false, Int.cast_ofNat_Int, beq_self_eq_true, Nat.sub_self, Nat.reduceSub, Nat.reduceAdd, reduceIte]
    refine isi_ty (a := "tuple") (r := true) rfl (by decide +kernel) ?_
    simp only [cx_K, nox_K, dRet, dRetN, dAnd, dOr, dNot, dCB, dCons, dVar, dC, dNil, dSeq, dAsg, dgName, dIfS, dNever, dTest, dAndT, dOrT, dNotT, dIf, dBin, dUn, dChain, dstart, dPar, dPar3, dDrop, dFor, dIter, dRng1, dRng2, dNext, dTup, dLst, dCall, dMeth, dProp, dFld, dSetF, dM, dJoined, dJs, dLc, dDc, dSlice, dPart, dNoP, dRetF, dYes, dgSub, dwipe, dEnum, dZip, dTxt, ownD, dMethK, q_plus_int, q_plus_str, q_plus_tup, q_plus_lst, q_fII, q_minus, q_fdiv, q_mod, q_pow, q_mul, q_rep, q_ord_int, q_ord_str, q_len_str, q_len_tup, q_len_lst, q_len_scr, q_len_ref, q_neg, q_fmt_int, q_fmt_str, q_str_int, q_str_str, q_int_int, q_int_bl, q_int_str, q_bool_int, q_bool_bl, q_abs, q_max, q_min, q_divmod, q_ix_tup, q_ix_lst, q_ix_ref, q_ix_scr, q_ix_str, q_sl_tup, q_sl_str, q_sl_lst, q_sl_scr, q_tuple_lst, q_tuple_tup, q_tuple_ref, q_in_dic, q_in_tup, q_in_ref, q_in_lst, q_items_lst, q_items_tup, q_items_scr, q_items_str, q_ins, q_ty_int, q_ty_str, q_ty_tup, q_ty_lst, q_ty_non, q_ty_bl, q_ty_ins, q_all, q_gtup, q_gcons, q_gnil, q_join, q_append, q_count, q_isdigit, q_split, ltD, leD, gtD, geD, isStrD, valN, clsD, List.map_cons, List.map_nil, List.length_cons, List.length_nil, List.replicate_zero, List.replicate_succ, List.cons_append, List.nil_append, List.append_nil, List.getElem?_cons_zero, List.getElem?_cons_succ, List.set_cons_zero, List.set_cons_succ, List.zip_cons_cons, List.zip_nil_left, List.zip_nil_right, List.lookup_cons, List.lookup_nil, Option.some.injEq, exists_eq_left', exists_eq_left, exists_eq', exists_eq, HD.D.bl.injEq, HD.D.int.injEq, HD.D.str.injEq, HD.D.tup.injEq, HD.D.lst.injEq, HD.D.ref.injEq, List.cons.injEq, and_true, true_and, if_true, if_false, Bool.false_eq_true, ite_true, ite_false, Bool.not_true, Bool.not_false, Int.cast_ofNat_Int, beq_self_eq_true, Nat.sub_self, Nat.reduceSub, Nat.reduceAdd, reduceIte]
    obtain ⟨up, lt⟩ := hr
    have h0 : ∀ t ∈ r, (0 : Int) ≤ (t : Int) := fun t _ => by omega
    generalize HD.D.tup (List.map (fun (t : Nat) => HD.D.int (t : Int)) r) = R0
    generalize (0 : Int) = l at h0 ⊢
    generalize (none : Option HD.D) = x
    induction r generalizing l x with
    | nil =>
      simp only [forD, List.map_nil]
      simp only [cx_K, nox_K, dRet, dRetN, dAnd, dOr, dNot, dCB, dCons, dVar, dC, dNil, dSeq, dAsg, dgName, dIfS, dNever, dTest, dAndT, dOrT, dNotT, dIf, dBin, dUn, dChain, dstart, dPar, dPar3, dDrop, dFor, dIter, dRng1, dRng2, dNext, dTup, dLst, dCall, dMeth, dProp, dFld, dSetF, dM, dJoined, dJs, dLc, dDc, dSlice, dPart, dNoP, dRetF, dYes, dgSub, dwipe, dEnum, dZip, dTxt, ownD, dMethK, q_plus_int, q_plus_str, q_plus_tup, q_plus_lst, q_fII, q_minus, q_fdiv, q_mod, q_pow, q_mul, q_rep, q_ord_int, q_ord_str, q_len_str, q_len_tup, q_len_lst, q_len_scr, q_len_ref, q_neg, q_fmt_int, q_fmt_str, q_str_int, q_str_str, q_int_int, q_int_bl, q_int_str, q_bool_int, q_bool_bl, q_abs, q_max, q_min, q_divmod, q_ix_tup, q_ix_lst, q_ix_ref, q_ix_scr, q_ix_str, q_sl_tup, q_sl_str, q_sl_lst, q_sl_scr, q_tuple_lst, q_tuple_tup, q_tuple_ref, q_in_dic, q_in_tup, q_in_ref, q_in_lst, q_items_lst, q_items_tup, q_items_scr, q_items_str, q_ins, q_ty_int, q_ty_str, q_ty_tup, q_ty_lst, q_ty_non, q_ty_bl, q_ty_ins, q_all, q_gtup, q_gcons, q_gnil, q_join, q_append, q_count, q_isdigit, q_split, ltD, leD, gtD, geD, isStrD, valN, clsD, List.map_cons, List.map_nil, List.length_cons, List.length_nil, List.replicate_zero, List.replicate_succ, List.cons_append, List.nil_append, List.append_nil, List.getElem?_cons_zero, List.getElem?_cons_succ, List.set_cons_zero, List.set_cons_succ, List.zip_cons_cons, List.zip_nil_left, List.zip_nil_right, List.lookup_cons, List.lookup_nil, Option.some.injEq, exists_eq_left', exists_eq_left, exists_eq', exists_eq, HD.D.bl.injEq, HD.D.int.injEq, HD.D.str.injEq, HD.D.tup.injEq, HD.D.lst.injEq, HD.D.ref.injEq, List.cons.injEq, and_true, true_and, if_true, if_false, Bool.false_eq_true, ite_true, ite_false, Bool.not_true, Bool.not_false, Int.cast_ofNat_Int, beq_self_eq_true, Nat.sub_self, Nat.reduceSub, Nat.reduceAdd, reduceIte]
      exact Ret.of h
    | cons t r ih =>
      obtain ⟨up1, up2⟩ := List.pairwise_cons.mp up
      simp only [forD, List.map_cons]
      simp only [cx_K, nox_K, dRet, dRetN, dAnd, dOr, dNot, dCB, dCons, dVar, dC, dNil, dSeq, dAsg, dgName, dIfS, dNever, dTest, dAndT, dOrT, dNotT, dIf, dBin, dUn, dChain, dstart, dPar, dPar3, dDrop, dFor, dIter, dRng1, dRng2, dNext, dTup, dLst, dCall, dMeth, dProp, dFld, dSetF, dM, dJoined, dJs, dLc, dDc, dSlice, dPart, dNoP, dRetF, dYes, dgSub, dwipe, dEnum, dZip, dTxt, ownD, dMethK, q_plus_int, q_plus_str, q_plus_tup, q_plus_lst, q_fII, q_minus, q_fdiv, q_mod, q_pow, q_mul, q_rep, q_ord_int, q_ord_str, q_len_str, q_len_tup, q_len_lst, q_len_scr, q_len_ref, q_neg, q_fmt_int, q_fmt_str, q_str_int, q_str_str, q_int_int, q_int_bl, q_int_str, q_bool_int, q_bool_bl, q_abs, q_max, q_min, q_divmod, q_ix_tup, q_ix_lst, q_ix_ref, q_ix_scr, q_ix_str, q_sl_tup, q_sl_str, q_sl_lst, q_sl_scr, q_tuple_lst, q_tuple_tup, q_tuple_ref, q_in_dic, q_in_tup, q_in_ref, q_in_lst, q_items_lst, q_items_tup, q_items_scr, q_items_str, q_ins, q_ty_int, q_ty_str, q_ty_tup, q_ty_lst, q_ty_non, q_ty_bl, q_ty_ins, q_all, q_gtup, q_gcons, q_gnil, q_join, q_append, q_count, q_isdigit, q_split, ltD, leD, gtD, geD, isStrD, valN, clsD, List.map_cons, List.map_nil, List.length_cons, List.length_nil, List.replicate_zero, List.replicate_succ, List.cons_append, List.nil_append, List.append_nil, List.getElem?_cons_zero, List.getElem?_cons_succ, List.set_cons_zero, List.set_cons_succ, List.zip_cons_cons, List.zip_nil_left, List.zip_nil_right, List.lookup_cons, List.lookup_nil, Option.some.injEq, exists_eq_left', exists_eq_left, exists_eq', exists_eq, HD.D.bl.injEq, HD.D.int.injEq, HD.D.str.injEq, HD.D.tup.injEq, HD.D.lst.injEq, HD.D.ref.injEq, List.cons.injEq, and_true, true_and, if_true, if_false, Bool.false_eq_true, ite_true, ite_false, Bool.not_true, Bool.not_false, Int.cast_ofNat_Int, beq_self_eq_true, Nat.sub_self, Nat.reduceSub, Nat.reduceAdd, reduceIte]
      refine ⟨_, _, _, rfl, ?_⟩
      have e1 : decide (l ≤ (t : Int)) = true := decide_eq_true (h0 t List.mem_cons_self)
      have e2 : decide ((t : Int) ≤ (wd : Int) - 1) = true := decide_eq_true (by have := lt t List.mem_cons_self; omega)
      rw [e1, e2]
      simp only [cx_K, nox_K, dRet, dRetN, dAnd, dOr, dNot, dCB, dCons, dVar, dC, dNil, dSeq, dAsg, dgName, dIfS, dNever, dTest, dAndT, dOrT, dNotT, dIf, dBin, dUn, dChain, dstart, dPar, dPar3, dDrop, dFor, dIter, dRng1, dRng2, dNext, dTup, dLst, dCall, dMeth, dProp, dFld, dSetF, dM, dJoined, dJs, dLc, dDc, dSlice, dPart, dNoP, dRetF, dYes, dgSub, dwipe, dEnum, dZip, dTxt, ownD, dMethK, q_plus_int, q_plus_str, q_plus_tup, q_plus_lst, q_fII, q_minus, q_fdiv, q_mod, q_pow, q_mul, q_rep, q_ord_int, q_ord_str, q_len_str, q_len_tup, q_len_lst, q_len_scr, q_len_ref, q_neg, q_fmt_int, q_fmt_str, q_str_int, q_str_str, q_int_int, q_int_bl, q_int_str, q_bool_int, q_bool_bl, q_abs, q_max, q_min, q_divmod, q_ix_tup, q_ix_lst, q_ix_ref, q_ix_scr, q_ix_str, q_sl_tup, q_sl_str, q_sl_lst, q_sl_scr, q_tuple_lst, q_tuple_tup, q_tuple_ref, q_in_dic, q_in_tup, q_in_ref, q_in_lst, q_items_lst, q_items_tup, q_items_scr, q_items_str, q_ins, q_ty_int, q_ty_str, q_ty_tup, q_ty_lst, q_ty_non, q_ty_bl, q_ty_ins, q_all, q_gtup, q_gcons, q_gnil, q_join, q_append, q_count, q_isdigit, q_split, ltD, leD, gtD, geD, isStrD, valN, clsD, List.map_cons, List.map_nil, List.length_cons, List.length_nil, List.replicate_zero, List.replicate_succ, List.cons_append, List.nil_append, List.append_nil, List.getElem?_cons_zero, List.getElem?_cons_succ, List.set_cons_zero, List.set_cons_succ, List.zip_cons_cons, List.zip_nil_left, List.zip_nil_right, List.lookup_cons, List.lookup_nil, Option.some.injEq, exists_eq_left', exists_eq_left, exists_eq', exists_eq, HD.D.bl.injEq, HD.D.int.injEq, HD.D.str.injEq, HD.D.tup.injEq, HD.D.lst.injEq, HD.D.ref.injEq, List.cons.injEq, and_true, true_and, if_true, if_false, Bool.false_eq_true, ite_true, ite_false, Bool.not_true, Bool.not_false, Int.cast_ofNat_Int, beq_self_eq_true, Nat.sub_self, Nat.reduceSub, Nat.reduceAdd, reduceIte]
      exact ih up2 (fun u hu => lt u (List.mem_cons_of_mem _ hu)) _ (fun u hu => by have := up1 u hu; omega) _
theorem cal_are_ticks (F : Fc K mg) : CalD P w K mg base 3 "are_ticks" c_are_ticks [] := by
  obtain ⟨fd, D⟩ := F.d_are_ticks
  refine calD_N D (fn_are_ticks F D) F.g_are_ticks ?_
  exact fun _ _ _ _ _ _ us hl => match us, hl with | [_, _], _ => rfl
end K02

namespace K02
open PySem PySem.Spec PyProof.Rows L2 HD
variable {P : Program} {w : World} {K : PySem.W.Frag} {mg : Str → Option Value} {base : Heap}
def markS (r : List Nat) (t : Nat) : Str := if r.contains t = true then Str.ofString "#" else Str.ofString "."
def marksT (r : List Nat) (wd : Nat) : Str := Txt.join (Str.ofString "") ((List.range wd).map (markS r))
theorem markS_len (r : List Nat) (t : Nat) : (markS r t).length = 1 := by
  unfold markS
  split <;> rfl
theorem OkR.nd {wd : Nat} {r : List Nat} (h : OkR wd r) : r.Nodup := h.up.imp fun h => Nat.ne_of_lt h
theorem OkR.len {wd : Nat} {r : List Nat} (h : OkR wd r) : r.length ≤ wd := by
  have e := List.Nodup.length_le_of_subset (l₁ := r) (l₂ := List.range wd) h.nd (fun t ht => List.mem_range.mpr (h.lt t ht))
  simpa using e
theorem marks_fit (r : List Nat) (wd : Nat) (h : wd ≤ 10000) : (((List.range wd).map (markS r)).map (·.length)).sum + ((List.range wd).map (markS r)).length * (Str.ofString "").length ≤ 16777216 := by
  have e : (((List.range wd).map (markS r)).map (·.length)).sum = wd := by
    rw [sum_one fun x hx => ?_]
    · simp
    · obtain ⟨t, _, rfl⟩ := List.mem_map.mp hx
      exact markS_len r t
  rw [e]
  have e2 : (Str.ofString "").length = 0 := rfl
  rw [e2]
  omega
theorem rgD_map (n : Nat) : rgD 0 n = (List.range n).map fun (k : Nat) => D.int (k : Int) := by
  unfold rgD
  refine List.map_congr_left fun k _ => ?_
  rw [Int.zero_add]
def c_marks_of : DSp := fun ds M P => ∃ (r : List Nat) (wd : Nat), ds = [intsD r, .int wd] ∧ (OkR wd r ∧ wd ≤ 10000) ∧ P (.str (marksT r wd)) M
theorem sc_marks_of : FnScope ["ticks", "size", "inside", "tick"] ["ticks", "size"] (defScope (top 16)) := ⟨rfl, rfl, rfl, by decide +kernel, rfl, by decide +kernel, by decide +kernel⟩
theorem fn_marks_of (F : Fc K mg) {fd : FuncData} (dF : FunD K "marks_of" "marks_of" (defArgs (top 16)) (defBody (top 16)) (defScope (top 16)) [] [] ((gloA "marks_of") K) fd) : FnG P w K mg base 1 ((gloA "marks_of") K) fd ["ticks", "size"] (spOf K c_marks_of) := by
  have nd := sc_marks_of.nd
  refine fnG_D dF sc_marks_of (fun ds M R h => ?_) fun cd A outer s H hr => ⟨_, (b_cons (s_set (i := 2) nd rfl (by first | exact .inl rfl | exact .inr rfl) (j_dc rfl nd (own := [("tick", 3)]) (by show BlkOk ["ticks", "size", "inside", "tick"] (defScope (top 16)) _ [("tick", 3)]; constructor <;> first | rfl | decide +kernel) (i_any (jv 0)) (fun _ _ _ _ _ => (gw_name (i := 3) nd rfl (by first | exact .inl rfl | exact .inr rfl) (by decide))) (fun _ _ _ _ _ => ts_nil) (fun _ _ _ _ _ => (jv 3)) (fun _ _ _ _ _ => j_bl)))
      (b_one (s_ret (j_join j_str (j_lc rfl nd (own := [("tick", 3)]) (by show BlkOk ["ticks", "size", "inside", "tick"] (defScope (top 16)) _ [("tick", 3)]; constructor <;> first | rfl | decide +kernel) (i_rng1 F.n_range (jv 1)) (fun _ _ _ _ _ => (gw_name (i := 3) nd rfl (by first | exact .inl rfl | exact .inr rfl) (by decide))) (fun _ _ _ _ _ => ts_nil) (fun _ _ _ _ _ => (j_ifx (t_in (hu_of hr.rm) (jv 3) (jv 2)) j_str j_str))))))), ?_⟩
  · obtain ⟨_, _, rfl, _⟩ := h; rfl
  · intro ds M R h
    obtain ⟨r, wd, rfl, ⟨ok, hw⟩, h⟩ := h
    unfold intsD
    simp only [cx_K, nox_K, dRet, dRetN, dAnd, dOr, dNot, dCB, dCons, dVar, dC, dNil, dSeq, dAsg, dgName, dIfS, dNever, dTest, dAndT, dOrT, dNotT, dIf, dBin, dUn, dChain, dstart, dPar, dPar3, dDrop, dFor, dIter, dRng1, dRng2, dNext, dTup, dLst, dCall, dMeth, dProp, dFld, dSetF, dM, dJoined, dJs, dLc, dDc, dSlice, dPart, dNoP, dRetF, dYes, dgSub, dwipe, dEnum, dZip, dTxt, ownD, dMethK, q_plus_int, q_plus_str, q_plus_tup, q_plus_lst, q_fII, q_minus, q_fdiv, q_mod, q_pow, q_mul, q_rep, q_ord_int, q_ord_str, q_len_str, q_len_tup, q_len_lst, q_len_scr, q_len_ref, q_neg, q_fmt_int, q_fmt_str, q_str_int, q_str_str, q_int_int, q_int_bl, q_int_str, q_bool_int, q_bool_bl, q_abs, q_max, q_min, q_divmod, q_ix_tup, q_ix_lst, q_ix_ref, q_ix_scr, q_ix_str, q_sl_tup, q_sl_str, q_sl_lst, q_sl_scr, q_tuple_lst, q_tuple_tup, q_tuple_ref, q_in_dic, q_in_tup, q_in_ref, q_in_lst, q_items_lst, q_items_tup, q_items_scr, q_items_str, q_ins, q_ty_int, q_ty_str, q_ty_tup, q_ty_lst, q_ty_non, q_ty_bl, q_ty_ins, q_all, q_gtup, q_gcons, q_gnil, q_join, q_append, q_count, q_isdigit, q_split, ltD, leD, gtD, geD, isStrD, valN, clsD, List.map_cons, List.map_nil, List.length_cons, List.length_nil, List.replicate_zero, List.replicate_succ, List.cons_append, List.nil_append, List.append_nil, List.getElem?_cons_zero, List.getElem?_cons_succ, List.set_cons_zero, List.set_cons_succ, List.zip_cons_cons, List.zip_nil_left, List.zip_nil_right, List.lookup_cons, List.lookup_nil, Option.some.injEq, exists_eq_left', exists_eq_left, exists_eq', exists_eq, HD.D.bl.injEq, HD.D.int.injEq, HD.D.str.injEq, HD.D.tup.injEq, HD.D.lst.injEq, HD.D.ref.injEq, List.cons.injEq, and_true, true_and, if_true, if_false, Bool.false_eq_true, ite_true, ite_false, Bool.not_true, Bool.not_false, Int.cast_ofNat_Int, beq_self_eq_true, Nat.sub_self, Nat.reduceSub, Nat.reduceAdd, reduceIte]
    have sl : sizeLine = 16777216 := by decide
    have rl := ok.len
    refine dcD_ints (by simp) r [] _ (by simpa using ok.nd) (by rw [List.nil_append]; omega) ?_
    simp only [cx_K, nox_K, dRet, dRetN, dAnd, dOr, dNot, dCB, dCons, dVar, dC, dNil, dSeq, dAsg, dgName, dIfS, dNever, dTest, dAndT, dOrT, dNotT, dIf, dBin, dUn, dChain, dstart, dPar, dPar3, dDrop, dFor, dIter, dRng1, dRng2, dNext, dTup, dLst, dCall, dMeth, dProp, dFld, dSetF, dM, dJoined, dJs, dLc, dDc, dSlice, dPart, dNoP, dRetF, dYes, dgSub, dwipe, dEnum, dZip, dTxt, ownD, dMethK, q_plus_int, q_plus_str, q_plus_tup, q_plus_lst, q_fII, q_minus, q_fdiv, q_mod, q_pow, q_mul, q_rep, q_ord_int, q_ord_str, q_len_str, q_len_tup, q_len_lst, q_len_scr, q_len_ref, q_neg, q_fmt_int, q_fmt_str, q_str_int, q_str_str, q_int_int, q_int_bl, q_int_str, q_bool_int, q_bool_bl, q_abs, q_max, q_min, q_divmod, q_ix_tup, q_ix_lst, q_ix_ref, q_ix_scr, q_ix_str, q_sl_tup, q_sl_str, q_sl_lst, q_sl_scr, q_tuple_lst, q_tuple_tup, q_tuple_ref, q_in_dic, q_in_tup, q_in_ref, q_in_lst, q_items_lst, q_items_tup, q_items_scr, q_items_str, q_ins, q_ty_int, q_ty_str, q_ty_tup, q_ty_lst, q_ty_non, q_ty_bl, q_ty_ins, q_all, q_gtup, q_gcons, q_gnil, q_join, q_append, q_count, q_isdigit, q_split, ltD, leD, gtD, geD, isStrD, valN, clsD, List.map_cons, List.map_nil, List.length_cons, List.length_nil, List.replicate_zero, List.replicate_succ, List.cons_append, List.nil_append, List.append_nil, List.getElem?_cons_zero, List.getElem?_cons_succ, List.set_cons_zero, List.set_cons_succ, List.zip_cons_cons, List.zip_nil_left, List.zip_nil_right, List.lookup_cons, List.lookup_nil, Option.some.injEq, exists_eq_left', exists_eq_left, exists_eq', exists_eq, HD.D.bl.injEq, HD.D.int.injEq, HD.D.str.injEq, HD.D.tup.injEq, HD.D.lst.injEq, HD.D.ref.injEq, List.cons.injEq, and_true, true_and, if_true, if_false, Bool.false_eq_true, ite_true, ite_false, Bool.not_true, Bool.not_false, Int.cast_ofNat_Int, beq_self_eq_true, Nat.sub_self, Nat.reduceSub, Nat.reduceAdd, reduceIte]
    refine ⟨by omega, by omega, ?_⟩
    rw [Int.toNat_natCast, rgD_map]
    refine lcD_all _ (fun (t : Nat) => D.str (markS r t)) _ (fun t ht K1 k => ?_) _ (by rw [List.length_range]; omega) ?_
    · simp only [cx_K, nox_K, dRet, dRetN, dAnd, dOr, dNot, dCB, dCons, dVar, dC, dNil, dSeq, dAsg, dgName, dIfS, dNever, dTest, dAndT, dOrT, dNotT, dIf, dBin, dUn, dChain, dstart, dPar, dPar3, dDrop, dFor, dIter, dRng1, dRng2, dNext, dTup, dLst, dCall, dMeth, dProp, dFld, dSetF, dM, dJoined, dJs, dLc, dDc, dSlice, dPart, dNoP, dRetF, dYes, dgSub, dwipe, dEnum, dZip, dTxt, ownD, dMethK, q_plus_int, q_plus_str, q_plus_tup, q_plus_lst, q_fII, q_minus, q_fdiv, q_mod, q_pow, q_mul, q_rep, q_ord_int, q_ord_str, q_len_str, q_len_tup, q_len_lst, q_len_scr, q_len_ref, q_neg, q_fmt_int, q_fmt_str, q_str_int, q_str_str, q_int_int, q_int_bl, q_int_str, q_bool_int, q_bool_bl, q_abs, q_max, q_min, q_divmod, q_ix_tup, q_ix_lst, q_ix_ref, q_ix_scr, q_ix_str, q_sl_tup, q_sl_str, q_sl_lst, q_sl_scr, q_tuple_lst, q_tuple_tup, q_tuple_ref, q_in_dic, q_in_tup, q_in_ref, q_in_lst, q_items_lst, q_items_tup, q_items_scr, q_items_str, q_ins, q_ty_int, q_ty_str, q_ty_tup, q_ty_lst, q_ty_non, q_ty_bl, q_ty_ins, q_all, q_gtup, q_gcons, q_gnil, q_join, q_append, q_count, q_isdigit, q_split, ltD, leD, gtD, geD, isStrD, valN, clsD, List.map_cons, List.map_nil, List.length_cons, List.length_nil, List.replicate_zero, List.replicate_succ, List.cons_append, List.nil_append, List.append_nil, List.getElem?_cons_zero, List.getElem?_cons_succ, List.set_cons_zero, List.set_cons_succ, List.zip_cons_cons, List.zip_nil_left, List.zip_nil_right, List.lookup_cons, List.lookup_nil, Option.some.injEq, exists_eq_left', exists_eq_left, exists_eq', exists_eq, HD.D.bl.injEq, HD.D.int.injEq, HD.D.str.injEq, HD.D.tup.injEq, HD.D.lst.injEq, HD.D.ref.injEq, List.cons.injEq, and_true, true_and, if_true, if_false, Bool.false_eq_true, ite_true, ite_false, Bool.not_true, Bool.not_false, Int.cast_ofNat_Int, beq_self_eq_true, Nat.sub_self, Nat.reduceSub, Nat.reduceAdd, reduceIte]
      refine ⟨Sum.inl (t : Int), rfl, ?_⟩
      rw [hasK_inl]
      unfold markS at k
      cases z : r.contains t with
      | true =>
        rw [z] at k
        first | exact k | exact ⟨true, rfl, k⟩
      | false =>
        rw [z] at k
        first | exact k | exact ⟨false, rfl, k⟩
    · refine ⟨(List.range wd).map (markS r), .inl ?_, marks_fit r wd hw, Ret.of h⟩
      rw [List.map_map]
      rfl
theorem cal_marks_of (F : Fc K mg) : CalD P w K mg base 1 "marks_of" c_marks_of [] := by
  obtain ⟨fd, D⟩ := F.d_marks_of
  refine calD_N D (fn_marks_of F D) F.g_marks_of ?_
  exact fun _ _ _ _ _ _ us hl => match us, hl with | [_, _], _ => rfl
/-! rows -/
def c_are_rows : DSp := fun ds M P => ∃ (rs : Rw) (wd : Nat), ds = [rowsD rs, .int wd] ∧ OkRs wd rs ∧ P (.bl true) M
theorem sc_are_rows : FnScope ["rows", "size", "above", "pair"] ["rows", "size"] (defScope (top 17)) := ⟨rfl, rfl, rfl, by decide +kernel, rfl, by decide +kernel, by decide +kernel⟩
theorem fn_are_rows (F : Fc K mg) {fd : FuncData} (dF : FunD K "are_rows" "are_rows" (defArgs (top 17)) (defBody (top 17)) (defScope (top 17)) [] [] ((gloA "are_rows") K) fd) : FnG P w K mg base 4 ((gloA "are_rows") K) fd ["rows", "size"] (spOf K c_are_rows) := by
  have nd := sc_are_rows.nd
  refine fnG_D dF sc_are_rows (fun ds M R h => ?_) fun cd A outer s H hr => ⟨_, (b_cons (s_if (t_not (jt_val (j_cb call_isi lc_isi F.n_isinstance rfl (a_cons (jv 0) (a_cons (j_bltn (d := .ty "tuple") (v := .ty "tuple") (u := .type "tuple") rfl F.n_tuple rfl rfl (by decide) (by decide) fun _ => by unfold Rep; rfl) a_nil)) rfl (by decide) (by decide) rfl rfl)))
      (b_one (s_ret j_bl))
      b_nil)
      (b_cons (s_set (i := 2) nd rfl (by first | exact .inl rfl | exact .inr rfl) j_str)
      (b_cons (s_for PassesOwn.never rfl (i_any (jv 0)) (g_name (i := 3) nd rfl (by first | exact .inl rfl | exact .inr rfl))
      (b_cons (s_if (JW.jt (w_or (t_not (jt_val (j_cb call_isi lc_isi F.n_isinstance rfl (a_cons (jv 3) (a_cons (j_bltn (d := .ty "tuple") (v := .ty "tuple") (u := .type "tuple") rfl F.n_tuple rfl rfl (by decide) (by decide) fun _ => by unfold Rep; rfl) a_nil)) rfl (by decide) (by decide) rfl rfl))) (w_or1 (t_ne hr.rm.units (j_cb call_len lc_len F.n_len rfl (a_cons (jv 3) a_nil) rfl (by decide) (by decide) rfl rfl) j_int))))
      (b_one (s_ret j_bl))
      b_nil)
      (b_cons (s_if (JW.jt (w_or (t_not (jt_val (j_call (cal_is_name F) hr (by decide) (a_cons (j_ix (jv 3) j_int) a_nil)))) (w_or (t_le (j_ix (jv 3) j_int) (jv 2)) (w_or1 (t_not (jt_val (j_call (cal_are_ticks F) hr (by decide) (a_cons (j_ix (jv 3) j_int) (a_cons (jv 1) a_nil)))))))))
      (b_one (s_ret j_bl))
      b_nil)
      (b_one (s_set (i := 2) nd rfl (by first | exact .inl rfl | exact .inr rfl) (j_ix (jv 3) j_int))))))
      (b_one (s_ret j_bl))))), ?_⟩
  · obtain ⟨_, _, rfl, _⟩ := h; rfl
  · intro ds M R h
    obtain ⟨rs, wd, rfl, ok, h⟩ := h
    unfold rowsD
    simp only [cx_K, nox_K, dRet, dRetN, dAnd, dOr, dNot, dCB, dCons, dVar, dC, dNil, dSeq, dAsg, dgName, dIfS, dNever, dTest, dAndT, dOrT, dNotT, dIf, dBin, dUn, dChain, dstart, dPar, dPar3, dDrop, dFor, dIter, dRng1, dRng2, dNext, dTup, dLst, dCall, dMeth, dProp, dFld, dSetF, dM, dJoined, dJs, dLc, dDc, dSlice, dPart, dNoP, dRetF, dYes, dgSub, dwipe, dEnum, dZip, dTxt, ownD, dMethK, q_plus_int, q_plus_str, q_plus_tup, q_plus_lst, q_fII, q_minus, q_fdiv, q_mod, q_pow, q_mul, q_rep, q_ord_int, q_ord_str, q_len_str, q_len_tup, q_len_lst, q_len_scr, q_len_ref, q_neg, q_fmt_int, q_fmt_str, q_str_int, q_str_str, q_int_int, q_int_bl, q_int_str, q_bool_int, q_bool_bl, q_abs, q_max, q_min, q_divmod, q_ix_tup, q_ix_lst, q_ix_ref, q_ix_scr, q_ix_str, q_sl_tup, q_sl_str, q_sl_lst, q_sl_scr, q_tuple_lst, q_tuple_tup, q_tuple_ref, q_in_dic, q_in_tup, q_in_ref, q_in_lst, q_items_lst, q_items_tup, q_items_scr, q_items_str, q_ins, q_ty_int, q_ty_str, q_ty_tup, q_ty_lst, q_ty_non, q_ty_bl, q_ty_ins, q_all, q_gtup, q_gcons, q_gnil, q_join, q_append, q_count, q_isdigit, q_split, ltD, leD, gtD, geD, isStrD, valN, clsD, List.map_cons, List.map_nil, List.length_cons, List.length_nil, List.replicate_zero, List.replicate_succ, List.cons_append, List.nil_append, List.append_nil, List.getElem?_cons_zero, List.getElem?_cons_succ, List.set_cons_zero, List.set_cons_succ, List.zip_cons_cons, List.zip_nil_left, List.zip_nil_right, List.lookup_cons, List.lookup_nil, Option.some.injEq, exists_eq_left', exists_eq_left, exists_eq', exists_eq, HD.D.bl.injEq, HD.D.int.injEq, HD.D.str.injEq, HD.D.tup.injEq, HD.D.lst.injEq, HD.D.ref.injEq, List.cons.injEq, and_true, true_and, if_true, if_false, Bool.false_eq_true, ite_true, ite_false, Bool.not_true, Bool.not_false, Int.cast_ofNat_Int, beq_self_eq_true, Nat.sub_self, Nat.reduceSub, Nat.reduceAdd, reduceIte]
    refine isi_ty (a := "tuple") (r := true) rfl (by decide +kernel) ?_
    simp only [cx_K, nox_K, dRet, dRetN, dAnd, dOr, dNot, dCB, dCons, dVar, dC, dNil, dSeq, dAsg, dgName, dIfS, dNever, dTest, dAndT, dOrT, dNotT, dIf, dBin, dUn, dChain, dstart, dPar, dPar3, dDrop, dFor, dIter, dRng1, dRng2, dNext, dTup, dLst, dCall, dMeth, dProp, dFld, dSetF, dM, dJoined, dJs, dLc, dDc, dSlice, dPart, dNoP, dRetF, dYes, dgSub, dwipe, dEnum, dZip, dTxt, ownD, dMethK, q_plus_int, q_plus_str, q_plus_tup, q_plus_lst, q_fII, q_minus, q_fdiv, q_mod, q_pow, q_mul, q_rep, q_ord_int, q_ord_str, q_len_str, q_len_tup, q_len_lst, q_len_scr, q_len_ref, q_neg, q_fmt_int, q_fmt_str, q_str_int, q_str_str, q_int_int, q_int_bl, q_int_str, q_bool_int, q_bool_bl, q_abs, q_max, q_min, q_divmod, q_ix_tup, q_ix_lst, q_ix_ref, q_ix_scr, q_ix_str, q_sl_tup, q_sl_str, q_sl_lst, q_sl_scr, q_tuple_lst, q_tuple_tup, q_tuple_ref, q_in_dic, q_in_tup, q_in_ref, q_in_lst, q_items_lst, q_items_tup, q_items_scr, q_items_str, q_ins, q_ty_int, q_ty_str, q_ty_tup, q_ty_lst, q_ty_non, q_ty_bl, q_ty_ins, q_all, q_gtup, q_gcons, q_gnil, q_join, q_append, q_count, q_isdigit, q_split, ltD, leD, gtD, geD, isStrD, valN, clsD, List.map_cons, List.map_nil, List.length_cons, List.length_nil, List.replicate_zero, List.replicate_succ, List.cons_append, List.nil_append, List.append_nil, List.getElem?_cons_zero, List.getElem?_cons_succ, List.set_cons_zero, List.set_cons_succ, List.zip_cons_cons, List.zip_nil_left, List.zip_nil_right, List.lookup_cons, List.lookup_nil, Option.some.injEq, exists_eq_left', exists_eq_left, exists_eq', exists_eq, HD.D.bl.injEq, HD.D.int.injEq, HD.D.str.injEq, HD.D.tup.injEq, HD.D.lst.injEq, HD.D.ref.injEq, List.cons.injEq, and_true, true_and, if_true, if_false, Bool.false_eq_true, ite_true, ite_false, Bool.not_true, Bool.not_false, Int.cast_ofNat_Int, beq_self_eq_true, Nat.sub_self, Nat.reduceSub, Nat.reduceAdd, reduceIte]
    obtain ⟨up, ch, oks⟩ := ok
    have h0 : ∀ p ∈ rs, (!decide ((Str.ofString "").cps.toList < (chS p.1).cps.toList)) = false := fun p _ => by
      have e : decide ((Str.ofString "").cps.toList < (chS p.1).cps.toList) = true := decide_eq_true (List.Lex.nil)
      rw [e]
      rfl
    generalize HD.D.tup (List.map rowD rs) = R0
    generalize Str.ofString "" = l at h0 ⊢
    generalize (none : Option HD.D) = x
    induction rs generalizing l x with
    | nil =>
      simp only [forD, List.map_nil]
      simp only [cx_K, nox_K, dRet, dRetN, dAnd, dOr, dNot, dCB, dCons, dVar, dC, dNil, dSeq, dAsg, dgName, dIfS, dNever, dTest, dAndT, dOrT, dNotT, dIf, dBin, dUn, dChain, dstart, dPar, dPar3, dDrop, dFor, dIter, dRng1, dRng2, dNext, dTup, dLst, dCall, dMeth, dProp, dFld, dSetF, dM, dJoined, dJs, dLc, dDc, dSlice, dPart, dNoP, dRetF, dYes, dgSub, dwipe, dEnum, dZip, dTxt, ownD, dMethK, q_plus_int, q_plus_str, q_plus_tup, q_plus_lst, q_fII, q_minus, q_fdiv, q_mod, q_pow, q_mul, q_rep, q_ord_int, q_ord_str, q_len_str, q_len_tup, q_len_lst, q_len_scr, q_len_ref, q_neg, q_fmt_int, q_fmt_str, q_str_int, q_str_str, q_int_int, q_int_bl, q_int_str, q_bool_int, q_bool_bl, q_abs, q_max, q_min, q_divmod, q_ix_tup, q_ix_lst, q_ix_ref, q_ix_scr, q_ix_str, q_sl_tup, q_sl_str, q_sl_lst, q_sl_scr, q_tuple_lst, q_tuple_tup, q_tuple_ref, q_in_dic, q_in_tup, q_in_ref, q_in_lst, q_items_lst, q_items_tup, q_items_scr, q_items_str, q_ins, q_ty_int, q_ty_str, q_ty_tup, q_ty_lst, q_ty_non, q_ty_bl, q_ty_ins, q_all, q_gtup, q_gcons, q_gnil, q_join, q_append, q_count, q_isdigit, q_split, ltD, leD, gtD, geD, isStrD, valN, clsD, List.map_cons, List.map_nil, List.length_cons, List.length_nil, List.replicate_zero, List.replicate_succ, List.cons_append, List.nil_append, List.append_nil, List.getElem?_cons_zero, List.getElem?_cons_succ, List.set_cons_zero, List.set_cons_succ, List.zip_cons_cons, List.zip_nil_left, List.zip_nil_right, List.lookup_cons, List.lookup_nil, Option.some.injEq, exists_eq_left', exists_eq_left, exists_eq', exists_eq, HD.D.bl.injEq, HD.D.int.injEq, HD.D.str.injEq, HD.D.tup.injEq, HD.D.lst.injEq, HD.D.ref.injEq, List.cons.injEq, and_true, true_and, if_true, if_false, Bool.false_eq_true, ite_true, ite_false, Bool.not_true, Bool.not_false, Int.cast_ofNat_Int, beq_self_eq_true, Nat.sub_self, Nat.reduceSub, Nat.reduceAdd, reduceIte]
      exact Ret.of h
    | cons p rs ih =>
      rw [List.map_cons] at up
      obtain ⟨up1, up2⟩ := List.pairwise_cons.mp up
      simp only [forD, List.map_cons]
      have p0 := List.mem_cons_self (a := p) (l := rs)
      have e1 := h0 p p0
      have c1 := ch p p0
      have o1 := oks p p0
      unfold rowD
      simp only [cx_K, nox_K, dRet, dRetN, dAnd, dOr, dNot, dCB, dCons, dVar, dC, dNil, dSeq, dAsg, dgName, dIfS, dNever, dTest, dAndT, dOrT, dNotT, dIf, dBin, dUn, dChain, dstart, dPar, dPar3, dDrop, dFor, dIter, dRng1, dRng2, dNext, dTup, dLst, dCall, dMeth, dProp, dFld, dSetF, dM, dJoined, dJs, dLc, dDc, dSlice, dPart, dNoP, dRetF, dYes, dgSub, dwipe, dEnum, dZip, dTxt, ownD, dMethK, q_plus_int, q_plus_str, q_plus_tup, q_plus_lst, q_fII, q_minus, q_fdiv, q_mod, q_pow, q_mul, q_rep, q_ord_int, q_ord_str, q_len_str, q_len_tup, q_len_lst, q_len_scr, q_len_ref, q_neg, q_fmt_int, q_fmt_str, q_str_int, q_str_str, q_int_int, q_int_bl, q_int_str, q_bool_int, q_bool_bl, q_abs, q_max, q_min, q_divmod, q_ix_tup, q_ix_lst, q_ix_ref, q_ix_scr, q_ix_str, q_sl_tup, q_sl_str, q_sl_lst, q_sl_scr, q_tuple_lst, q_tuple_tup, q_tuple_ref, q_in_dic, q_in_tup, q_in_ref, q_in_lst, q_items_lst, q_items_tup, q_items_scr, q_items_str, q_ins, q_ty_int, q_ty_str, q_ty_tup, q_ty_lst, q_ty_non, q_ty_bl, q_ty_ins, q_all, q_gtup, q_gcons, q_gnil, q_join, q_append, q_count, q_isdigit, q_split, ltD, leD, gtD, geD, isStrD, valN, clsD, List.map_cons, List.map_nil, List.length_cons, List.length_nil, List.replicate_zero, List.replicate_succ, List.cons_append, List.nil_append, List.append_nil, List.getElem?_cons_zero, List.getElem?_cons_succ, List.set_cons_zero, List.set_cons_succ, List.zip_cons_cons, List.zip_nil_left, List.zip_nil_right, List.lookup_cons, List.lookup_nil, Option.some.injEq, exists_eq_left', exists_eq_left, exists_eq', exists_eq, HD.D.bl.injEq, HD.D.int.injEq, HD.D.str.injEq, HD.D.tup.injEq, HD.D.lst.injEq, HD.D.ref.injEq, List.cons.injEq, and_true, true_and, if_true, if_false, Bool.false_eq_true, ite_true, ite_false, Bool.not_true, Bool.not_false, Int.cast_ofNat_Int, beq_self_eq_true, Nat.sub_self, Nat.reduceSub, Nat.reduceAdd, reduceIte]
      refine isi_ty (a := "tuple") (r := true) rfl (by decide +kernel) ?_
      simp only [cx_K, nox_K, dRet, dRetN, dAnd, dOr, dNot, dCB, dCons, dVar, dC, dNil, dSeq, dAsg, dgName, dIfS, dNever, dTest, dAndT, dOrT, dNotT, dIf, dBin, dUn, dChain, dstart, dPar, dPar3, dDrop, dFor, dIter, dRng1, dRng2, dNext, dTup, dLst, dCall, dMeth, dProp, dFld, dSetF, dM, dJoined, dJs, dLc, dDc, dSlice, dPart, dNoP, dRetF, dYes, dgSub, dwipe, dEnum, dZip, dTxt, ownD, dMethK, q_plus_int, q_plus_str, q_plus_tup, q_plus_lst, q_fII, q_minus, q_fdiv, q_mod, q_pow, q_mul, q_rep, q_ord_int, q_ord_str, q_len_str, q_len_tup, q_len_lst, q_len_scr, q_len_ref, q_neg, q_fmt_int, q_fmt_str, q_str_int, q_str_str, q_int_int, q_int_bl, q_int_str, q_bool_int, q_bool_bl, q_abs, q_max, q_min, q_divmod, q_ix_tup, q_ix_lst, q_ix_ref, q_ix_scr, q_ix_str, q_sl_tup, q_sl_str, q_sl_lst, q_sl_scr, q_tuple_lst, q_tuple_tup, q_tuple_ref, q_in_dic, q_in_tup, q_in_ref, q_in_lst, q_items_lst, q_items_tup, q_items_scr, q_items_str, q_ins, q_ty_int, q_ty_str, q_ty_tup, q_ty_lst, q_ty_non, q_ty_bl, q_ty_ins, q_all, q_gtup, q_gcons, q_gnil, q_join, q_append, q_count, q_isdigit, q_split, ltD, leD, gtD, geD, isStrD, valN, clsD, List.map_cons, List.map_nil, List.length_cons, List.length_nil, List.replicate_zero, List.replicate_succ, List.cons_append, List.nil_append, List.append_nil, List.getElem?_cons_zero, List.getElem?_cons_succ, List.set_cons_zero, List.set_cons_succ, List.zip_cons_cons, List.zip_nil_left, List.zip_nil_right, List.lookup_cons, List.lookup_nil, Option.some.injEq, exists_eq_left', exists_eq_left, exists_eq', exists_eq, HD.D.bl.injEq, HD.D.int.injEq, HD.D.str.injEq, HD.D.tup.injEq, HD.D.lst.injEq, HD.D.ref.injEq, List.cons.injEq, and_true, true_and, if_true, if_false, Bool.false_eq_true, ite_true, ite_false, Bool.not_true, Bool.not_false, Int.cast_ofNat_Int, beq_self_eq_true, Nat.sub_self, Nat.reduceSub, Nat.reduceAdd, reduceIte]
      refine eqD_int ?_
      simp only [cx_K, nox_K, dRet, dRetN, dAnd, dOr, dNot, dCB, dCons, dVar, dC, dNil, dSeq, dAsg, dgName, dIfS, dNever, dTest, dAndT, dOrT, dNotT, dIf, dBin, dUn, dChain, dstart, dPar, dPar3, dDrop, dFor, dIter, dRng1, dRng2, dNext, dTup, dLst, dCall, dMeth, dProp, dFld, dSetF, dM, dJoined, dJs, dLc, dDc, dSlice, dPart, dNoP, dRetF, dYes, dgSub, dwipe, dEnum, dZip, dTxt, ownD, dMethK, q_plus_int, q_plus_str, q_plus_tup, q_plus_lst, q_fII, q_minus, q_fdiv, q_mod, q_pow, q_mul, q_rep, q_ord_int, q_ord_str, q_len_str, q_len_tup, q_len_lst, q_len_scr, q_len_ref, q_neg, q_fmt_int, q_fmt_str, q_str_int, q_str_str, q_int_int, q_int_bl, q_int_str, q_bool_int, q_bool_bl, q_abs, q_max, q_min, q_divmod, q_ix_tup, q_ix_lst, q_ix_ref, q_ix_scr, q_ix_str, q_sl_tup, q_sl_str, q_sl_lst, q_sl_scr, q_tuple_lst, q_tuple_tup, q_tuple_ref, q_in_dic, q_in_tup, q_in_ref, q_in_lst, q_items_lst, q_items_tup, q_items_scr, q_items_str, q_ins, q_ty_int, q_ty_str, q_ty_tup, q_ty_lst, q_ty_non, q_ty_bl, q_ty_ins, q_all, q_gtup, q_gcons, q_gnil, q_join, q_append, q_count, q_isdigit, q_split, ltD, leD, gtD, geD, isStrD, valN, clsD, List.map_cons, List.map_nil, List.length_cons, List.length_nil, List.replicate_zero, List.replicate_succ, List.cons_append, List.nil_append, List.append_nil, List.getElem?_cons_zero, List.getElem?_cons_succ, List.set_cons_zero, List.set_cons_succ, List.zip_cons_cons, List.zip_nil_left, List.zip_nil_right, List.lookup_cons, List.lookup_nil, Option.some.injEq, exists_eq_left', exists_eq_left, exists_eq', exists_eq, HD.D.bl.injEq, HD.D.int.injEq, HD.D.str.injEq, HD.D.tup.injEq, HD.D.lst.injEq, HD.D.ref.injEq, List.cons.injEq, and_true, true_and, if_true, if_false, Bool.false_eq_true, ite_true, ite_false, Bool.not_true, Bool.not_false, Int.cast_ofNat_Int, beq_self_eq_true, Nat.sub_self, Nat.reduceSub, Nat.reduceAdd, reduceIte]
      refine ⟨_, rfl, _, rfl, c1, ?_⟩
      simp only [cx_K, nox_K, dRet, dRetN, dAnd, dOr, dNot, dCB, dCons, dVar, dC, dNil, dSeq, dAsg, dgName, dIfS, dNever, dTest, dAndT, dOrT, dNotT, dIf, dBin, dUn, dChain, dstart, dPar, dPar3, dDrop, dFor, dIter, dRng1, dRng2, dNext, dTup, dLst, dCall, dMeth, dProp, dFld, dSetF, dM, dJoined, dJs, dLc, dDc, dSlice, dPart, dNoP, dRetF, dYes, dgSub, dwipe, dEnum, dZip, dTxt, ownD, dMethK, q_plus_int, q_plus_str, q_plus_tup, q_plus_lst, q_fII, q_minus, q_fdiv, q_mod, q_pow, q_mul, q_rep, q_ord_int, q_ord_str, q_len_str, q_len_tup, q_len_lst, q_len_scr, q_len_ref, q_neg, q_fmt_int, q_fmt_str, q_str_int, q_str_str, q_int_int, q_int_bl, q_int_str, q_bool_int, q_bool_bl, q_abs, q_max, q_min, q_divmod, q_ix_tup, q_ix_lst, q_ix_ref, q_ix_scr, q_ix_str, q_sl_tup, q_sl_str, q_sl_lst, q_sl_scr, q_tuple_lst, q_tuple_tup, q_tuple_ref, q_in_dic, q_in_tup, q_in_ref, q_in_lst, q_items_lst, q_items_tup, q_items_scr, q_items_str, q_ins, q_ty_int, q_ty_str, q_ty_tup, q_ty_lst, q_ty_non, q_ty_bl, q_ty_ins, q_all, q_gtup, q_gcons, q_gnil, q_join, q_append, q_count, q_isdigit, q_split, ltD, leD, gtD, geD, isStrD, valN, clsD, List.map_cons, List.map_nil, List.length_cons, List.length_nil, List.replicate_zero, List.replicate_succ, List.cons_append, List.nil_append, List.append_nil, List.getElem?_cons_zero, List.getElem?_cons_succ, List.set_cons_zero, List.set_cons_succ, List.zip_cons_cons, List.zip_nil_left, List.zip_nil_right, List.lookup_cons, List.lookup_nil, Option.some.injEq, exists_eq_left', exists_eq_left, exists_eq', exists_eq, HD.D.bl.injEq, HD.D.int.injEq, HD.D.str.injEq, HD.D.tup.injEq, HD.D.lst.injEq, HD.D.ref.injEq, List.cons.injEq, and_true, true_and, if_true, if_false, Bool.false_eq_true, ite_true, ite_false, Bool.not_true, Bool.not_false, Int.cast_ofNat_Int, beq_self_eq_true, Nat.sub_self, Nat.reduceSub, Nat.reduceAdd, reduceIte]
      refine ⟨_, rfl, ?_⟩
      have e2 : ltS l (chS p.1) = true := by
        unfold ltS
        cases z : decide (l.cps.toList < (chS p.1).cps.toList) with
        | true => rfl
        | false =>
          rw [z] at e1
          cases e1
      simp only [cx_K, nox_K, dRet, dRetN, dAnd, dOr, dNot, dCB, dCons, dVar, dC, dNil, dSeq, dAsg, dgName, dIfS, dNever, dTest, dAndT, dOrT, dNotT, dIf, dBin, dUn, dChain, dstart, dPar, dPar3, dDrop, dFor, dIter, dRng1, dRng2, dNext, dTup, dLst, dCall, dMeth, dProp, dFld, dSetF, dM, dJoined, dJs, dLc, dDc, dSlice, dPart, dNoP, dRetF, dYes, dgSub, dwipe, dEnum, dZip, dTxt, ownD, dMethK, q_plus_int, q_plus_str, q_plus_tup, q_plus_lst, q_fII, q_minus, q_fdiv, q_mod, q_pow, q_mul, q_rep, q_ord_int, q_ord_str, q_len_str, q_len_tup, q_len_lst, q_len_scr, q_len_ref, q_neg, q_fmt_int, q_fmt_str, q_str_int, q_str_str, q_int_int, q_int_bl, q_int_str, q_bool_int, q_bool_bl, q_abs, q_max, q_min, q_divmod, q_ix_tup, q_ix_lst, q_ix_ref, q_ix_scr, q_ix_str, q_sl_tup, q_sl_str, q_sl_lst, q_sl_scr, q_tuple_lst, q_tuple_tup, q_tuple_ref, q_in_dic, q_in_tup, q_in_ref, q_in_lst, q_items_lst, q_items_tup, q_items_scr, q_items_str, q_ins, q_ty_int, q_ty_str, q_ty_tup, q_ty_lst, q_ty_non, q_ty_bl, q_ty_ins, q_all, q_gtup, q_gcons, q_gnil, q_join, q_append, q_count, q_isdigit, q_split, ltD, leD, gtD, geD, isStrD, valN, clsD, List.map_cons, List.map_nil, List.length_cons, List.length_nil, List.replicate_zero, List.replicate_succ, List.cons_append, List.nil_append, List.append_nil, List.getElem?_cons_zero, List.getElem?_cons_succ, List.set_cons_zero, List.set_cons_succ, List.zip_cons_cons, List.zip_nil_left, List.zip_nil_right, List.lookup_cons, List.lookup_nil, Option.some.injEq, exists_eq_left', exists_eq_left, exists_eq', exists_eq, HD.D.bl.injEq, HD.D.int.injEq, HD.D.str.injEq, HD.D.tup.injEq, HD.D.lst.injEq, HD.D.ref.injEq, List.cons.injEq, and_true, true_and, if_true, if_false, Bool.false_eq_true, ite_true, ite_false, Bool.not_true, Bool.not_false, Int.cast_ofNat_Int, beq_self_eq_true, Nat.sub_self, Nat.reduceSub, Nat.reduceAdd, reduceIte]
      show (if (!ltS l (chS p.1)) = true then _ else _)
      rw [e2]
      simp only [cx_K, nox_K, dRet, dRetN, dAnd, dOr, dNot, dCB, dCons, dVar, dC, dNil, dSeq, dAsg, dgName, dIfS, dNever, dTest, dAndT, dOrT, dNotT, dIf, dBin, dUn, dChain, dstart, dPar, dPar3, dDrop, dFor, dIter, dRng1, dRng2, dNext, dTup, dLst, dCall, dMeth, dProp, dFld, dSetF, dM, dJoined, dJs, dLc, dDc, dSlice, dPart, dNoP, dRetF, dYes, dgSub, dwipe, dEnum, dZip, dTxt, ownD, dMethK, q_plus_int, q_plus_str, q_plus_tup, q_plus_lst, q_fII, q_minus, q_fdiv, q_mod, q_pow, q_mul, q_rep, q_ord_int, q_ord_str, q_len_str, q_len_tup, q_len_lst, q_len_scr, q_len_ref, q_neg, q_fmt_int, q_fmt_str, q_str_int, q_str_str, q_int_int, q_int_bl, q_int_str, q_bool_int, q_bool_bl, q_abs, q_max, q_min, q_divmod, q_ix_tup, q_ix_lst, q_ix_ref, q_ix_scr, q_ix_str, q_sl_tup, q_sl_str, q_sl_lst, q_sl_scr, q_tuple_lst, q_tuple_tup, q_tuple_ref, q_in_dic, q_in_tup, q_in_ref, q_in_lst, q_items_lst, q_items_tup, q_items_scr, q_items_str, q_ins, q_ty_int, q_ty_str, q_ty_tup, q_ty_lst, q_ty_non, q_ty_bl, q_ty_ins, q_all, q_gtup, q_gcons, q_gnil, q_join, q_append, q_count, q_isdigit, q_split, ltD, leD, gtD, geD, isStrD, valN, clsD, List.map_cons, List.map_nil, List.length_cons, List.length_nil, List.replicate_zero, List.replicate_succ, List.cons_append, List.nil_append, List.append_nil, List.getElem?_cons_zero, List.getElem?_cons_succ, List.set_cons_zero, List.set_cons_succ, List.zip_cons_cons, List.zip_nil_left, List.zip_nil_right, List.lookup_cons, List.lookup_nil, Option.some.injEq, exists_eq_left', exists_eq_left, exists_eq', exists_eq, HD.D.bl.injEq, HD.D.int.injEq, HD.D.str.injEq, HD.D.tup.injEq, HD.D.lst.injEq, HD.D.ref.injEq, List.cons.injEq, and_true, true_and, if_true, if_false, Bool.false_eq_true, ite_true, ite_false, Bool.not_true, Bool.not_false, Int.cast_ofNat_Int, beq_self_eq_true, Nat.sub_self, Nat.reduceSub, Nat.reduceAdd, reduceIte]
      refine ⟨_, rfl, _, _, rfl, o1, ?_⟩
      simp only [cx_K, nox_K, dRet, dRetN, dAnd, dOr, dNot, dCB, dCons, dVar, dC, dNil, dSeq, dAsg, dgName, dIfS, dNever, dTest, dAndT, dOrT, dNotT, dIf, dBin, dUn, dChain, dstart, dPar, dPar3, dDrop, dFor, dIter, dRng1, dRng2, dNext, dTup, dLst, dCall, dMeth, dProp, dFld, dSetF, dM, dJoined, dJs, dLc, dDc, dSlice, dPart, dNoP, dRetF, dYes, dgSub, dwipe, dEnum, dZip, dTxt, ownD, dMethK, q_plus_int, q_plus_str, q_plus_tup, q_plus_lst, q_fII, q_minus, q_fdiv, q_mod, q_pow, q_mul, q_rep, q_ord_int, q_ord_str, q_len_str, q_len_tup, q_len_lst, q_len_scr, q_len_ref, q_neg, q_fmt_int, q_fmt_str, q_str_int, q_str_str, q_int_int, q_int_bl, q_int_str, q_bool_int, q_bool_bl, q_abs, q_max, q_min, q_divmod, q_ix_tup, q_ix_lst, q_ix_ref, q_ix_scr, q_ix_str, q_sl_tup, q_sl_str, q_sl_lst, q_sl_scr, q_tuple_lst, q_tuple_tup, q_tuple_ref, q_in_dic, q_in_tup, q_in_ref, q_in_lst, q_items_lst, q_items_tup, q_items_scr, q_items_str, q_ins, q_ty_int, q_ty_str, q_ty_tup, q_ty_lst, q_ty_non, q_ty_bl, q_ty_ins, q_all, q_gtup, q_gcons, q_gnil, q_join, q_append, q_count, q_isdigit, q_split, ltD, leD, gtD, geD, isStrD, valN, clsD, List.map_cons, List.map_nil, List.length_cons, List.length_nil, List.replicate_zero, List.replicate_succ, List.cons_append, List.nil_append, List.append_nil, List.getElem?_cons_zero, List.getElem?_cons_succ, List.set_cons_zero, List.set_cons_succ, List.zip_cons_cons, List.zip_nil_left, List.zip_nil_right, List.lookup_cons, List.lookup_nil, Option.some.injEq, exists_eq_left', exists_eq_left, exists_eq', exists_eq, HD.D.bl.injEq, HD.D.int.injEq, HD.D.str.injEq, HD.D.tup.injEq, HD.D.lst.injEq, HD.D.ref.injEq, List.cons.injEq, and_true, true_and, if_true, if_false, Bool.false_eq_true, ite_true, ite_false, Bool.not_true, Bool.not_false, Int.cast_ofNat_Int, beq_self_eq_true, Nat.sub_self, Nat.reduceSub, Nat.reduceAdd, reduceIte]
      refine ⟨_, rfl, ?_⟩
      refine ih up2 (fun q hq => ch q (List.mem_cons_of_mem _ hq)) (fun q hq => oks q (List.mem_cons_of_mem _ hq)) (chS p.1) (fun q hq => ?_) _
      have e3 : ltS (chS p.1) (chS q.1) = true := by
        rw [ltS_ch]
        exact decide_eq_true (up1 q.1 (List.mem_map_of_mem hq))
      unfold ltS at e3
      rw [e3]
      rfl
theorem cal_are_rows (F : Fc K mg) : CalD P w K mg base 4 "are_rows" c_are_rows [] := by
  obtain ⟨fd, D⟩ := F.d_are_rows
  refine calD_N D (fn_are_rows F D) F.g_are_rows ?_
  exact fun _ _ _ _ _ _ us hl => match us, hl with | [_, _], _ => rfl
/-! the class -/
def planD (C : Addr) (wd : Nat) (rs : Rw) : D := .ins C ["length", "pairs"] [.int (wd : Int), rowsD rs]
def c_init (C : Addr) : DSp := fun ds M P => ∃ (a : Addr) (rs : Rw) (wd : Nat), ds = [.ref a, .int wd, rowsD rs] ∧ (M a = some (.ins C [] []) ∧ OkRs wd rs ∧ wd ≤ 10000) ∧ P .non (mput M a (.ins C ["length", "pairs"] [.int (wd : Int), rowsD rs]))
theorem sc_Plan_init : FnScope ["self", "size", "rows"] ["self", "size", "rows"] (defScope (inClass (top 19) 0)) := ⟨rfl, rfl, rfl, by decide +kernel, rfl, by decide +kernel, by decide +kernel⟩
theorem fn_Plan_init (F : Fc K mg) {fd : FuncData} (dF : FunD K "__init__" "Plan.__init__" (defArgs (inClass (top 19) 0)) (defBody (inClass (top 19) 0)) (defScope (inClass (top 19) 0)) [.ref (dfltA (metA "Plan" "__init__") 0 K)] [] ((metA "Plan" "__init__") K) fd) : FnG P w K mg base 5 ((metA "Plan" "__init__") K) fd ["self", "size", "rows"] (spOf K (c_init (gloA "Plan" K))) := by
  have nd := sc_Plan_init.nd
  refine fnG_D dF sc_Plan_init (fun ds M R h => ?_) fun cd A outer s H hr => ⟨_, (b_cons (s_if (t_not (jt_val (j_call (cal_is_number F) hr (by decide) (a_cons (jv 1) (a_cons j_int (a_cons (j_glob (d := .int 10000) (v := .int 10000) rfl F.i_MOST_TICKS (by decide) fun _ => of_int _) a_nil))))))
      b_never
      b_nil)
      (b_cons (s_if (t_not (jt_val (j_call (cal_are_rows F) hr (by decide) (a_cons (jv 2) (a_cons (jv 1) a_nil)))))
      b_never
      b_nil)
      (b_cons (s_fld F.cl_Plan F.na_Plan_length (jv 0) (jv 1))
      (b_one (s_fld F.cl_Plan F.na_Plan_pairs (jv 0) (jv 2)))))), ?_⟩
  · obtain ⟨_, _, _, rfl, _⟩ := h; rfl
  · intro ds M R h
    obtain ⟨a, rs, wd, rfl, ⟨hm, ok, hw⟩, h⟩ := h
    simp only [cx_K, nox_K, dRet, dRetN, dAnd, dOr, dNot, dCB, dCons, dVar, dC, dNil, dSeq, dAsg, dgName, dIfS, dNever, dTest, dAndT, dOrT, dNotT, dIf, dBin, dUn, dChain, dstart, dPar, dPar3, dDrop, dFor, dIter, dRng1, dRng2, dNext, dTup, dLst, dCall, dMeth, dProp, dFld, dSetF, dM, dJoined, dJs, dLc, dDc, dSlice, dPart, dNoP, dRetF, dYes, dgSub, dwipe, dEnum, dZip, dTxt, ownD, dMethK, q_plus_int, q_plus_str, q_plus_tup, q_plus_lst, q_fII, q_minus, q_fdiv, q_mod, q_pow, q_mul, q_rep, q_ord_int, q_ord_str, q_len_str, q_len_tup, q_len_lst, q_len_scr, q_len_ref, q_neg, q_fmt_int, q_fmt_str, q_str_int, q_str_str, q_int_int, q_int_bl, q_int_str, q_bool_int, q_bool_bl, q_abs, q_max, q_min, q_divmod, q_ix_tup, q_ix_lst, q_ix_ref, q_ix_scr, q_ix_str, q_sl_tup, q_sl_str, q_sl_lst, q_sl_scr, q_tuple_lst, q_tuple_tup, q_tuple_ref, q_in_dic, q_in_tup, q_in_ref, q_in_lst, q_items_lst, q_items_tup, q_items_scr, q_items_str, q_ins, q_ty_int, q_ty_str, q_ty_tup, q_ty_lst, q_ty_non, q_ty_bl, q_ty_ins, q_all, q_gtup, q_gcons, q_gnil, q_join, q_append, q_count, q_isdigit, q_split, ltD, leD, gtD, geD, isStrD, valN, clsD, List.map_cons, List.map_nil, List.length_cons, List.length_nil, List.replicate_zero, List.replicate_succ, List.cons_append, List.nil_append, List.append_nil, List.getElem?_cons_zero, List.getElem?_cons_succ, List.set_cons_zero, List.set_cons_succ, List.zip_cons_cons, List.zip_nil_left, List.zip_nil_right, List.lookup_cons, List.lookup_nil, Option.some.injEq, exists_eq_left', exists_eq_left, exists_eq', exists_eq, HD.D.bl.injEq, HD.D.int.injEq, HD.D.str.injEq, HD.D.tup.injEq, HD.D.lst.injEq, HD.D.ref.injEq, List.cons.injEq, and_true, true_and, if_true, if_false, Bool.false_eq_true, ite_true, ite_false, Bool.not_true, Bool.not_false, Int.cast_ofNat_Int, beq_self_eq_true, Nat.sub_self, Nat.reduceSub, Nat.reduceAdd, reduceIte]
    refine ⟨_, _, _, rfl, ?_⟩
    have e1 : decide ((0 : Int) ≤ (wd : Int)) = true := decide_eq_true (by omega)
    have e2 : decide ((wd : Int) ≤ 10000) = true := decide_eq_true (by omega)
    rw [e1, e2]
    simp only [cx_K, nox_K, dRet, dRetN, dAnd, dOr, dNot, dCB, dCons, dVar, dC, dNil, dSeq, dAsg, dgName, dIfS, dNever, dTest, dAndT, dOrT, dNotT, dIf, dBin, dUn, dChain, dstart, dPar, dPar3, dDrop, dFor, dIter, dRng1, dRng2, dNext, dTup, dLst, dCall, dMeth, dProp, dFld, dSetF, dM, dJoined, dJs, dLc, dDc, dSlice, dPart, dNoP, dRetF, dYes, dgSub, dwipe, dEnum, dZip, dTxt, ownD, dMethK, q_plus_int, q_plus_str, q_plus_tup, q_plus_lst, q_fII, q_minus, q_fdiv, q_mod, q_pow, q_mul, q_rep, q_ord_int, q_ord_str, q_len_str, q_len_tup, q_len_lst, q_len_scr, q_len_ref, q_neg, q_fmt_int, q_fmt_str, q_str_int, q_str_str, q_int_int, q_int_bl, q_int_str, q_bool_int, q_bool_bl, q_abs, q_max, q_min, q_divmod, q_ix_tup, q_ix_lst, q_ix_ref, q_ix_scr, q_ix_str, q_sl_tup, q_sl_str, q_sl_lst, q_sl_scr, q_tuple_lst, q_tuple_tup, q_tuple_ref, q_in_dic, q_in_tup, q_in_ref, q_in_lst, q_items_lst, q_items_tup, q_items_scr, q_items_str, q_ins, q_ty_int, q_ty_str, q_ty_tup, q_ty_lst, q_ty_non, q_ty_bl, q_ty_ins, q_all, q_gtup, q_gcons, q_gnil, q_join, q_append, q_count, q_isdigit, q_split, ltD, leD, gtD, geD, isStrD, valN, clsD, List.map_cons, List.map_nil, List.length_cons, List.length_nil, List.replicate_zero, List.replicate_succ, List.cons_append, List.nil_append, List.append_nil, List.getElem?_cons_zero, List.getElem?_cons_succ, List.set_cons_zero, List.set_cons_succ, List.zip_cons_cons, List.zip_nil_left, List.zip_nil_right, List.lookup_cons, List.lookup_nil, Option.some.injEq, exists_eq_left', exists_eq_left, exists_eq', exists_eq, HD.D.bl.injEq, HD.D.int.injEq, HD.D.str.injEq, HD.D.tup.injEq, HD.D.lst.injEq, HD.D.ref.injEq, List.cons.injEq, and_true, true_and, if_true, if_false, Bool.false_eq_true, ite_true, ite_false, Bool.not_true, Bool.not_false, Int.cast_ofNat_Int, beq_self_eq_true, Nat.sub_self, Nat.reduceSub, Nat.reduceAdd, reduceIte]
    refine ⟨_, _, rfl, ok, ?_⟩
    simp only [cx_K, nox_K, dRet, dRetN, dAnd, dOr, dNot, dCB, dCons, dVar, dC, dNil, dSeq, dAsg, dgName, dIfS, dNever, dTest, dAndT, dOrT, dNotT, dIf, dBin, dUn, dChain, dstart, dPar, dPar3, dDrop, dFor, dIter, dRng1, dRng2, dNext, dTup, dLst, dCall, dMeth, dProp, dFld, dSetF, dM, dJoined, dJs, dLc, dDc, dSlice, dPart, dNoP, dRetF, dYes, dgSub, dwipe, dEnum, dZip, dTxt, ownD, dMethK, q_plus_int, q_plus_str, q_plus_tup, q_plus_lst, q_fII, q_minus, q_fdiv, q_mod, q_pow, q_mul, q_rep, q_ord_int, q_ord_str, q_len_str, q_len_tup, q_len_lst, q_len_scr, q_len_ref, q_neg, q_fmt_int, q_fmt_str, q_str_int, q_str_str, q_int_int, q_int_bl, q_int_str, q_bool_int, q_bool_bl, q_abs, q_max, q_min, q_divmod, q_ix_tup, q_ix_lst, q_ix_ref, q_ix_scr, q_ix_str, q_sl_tup, q_sl_str, q_sl_lst, q_sl_scr, q_tuple_lst, q_tuple_tup, q_tuple_ref, q_in_dic, q_in_tup, q_in_ref, q_in_lst, q_items_lst, q_items_tup, q_items_scr, q_items_str, q_ins, q_ty_int, q_ty_str, q_ty_tup, q_ty_lst, q_ty_non, q_ty_bl, q_ty_ins, q_all, q_gtup, q_gcons, q_gnil, q_join, q_append, q_count, q_isdigit, q_split, ltD, leD, gtD, geD, isStrD, valN, clsD, List.map_cons, List.map_nil, List.length_cons, List.length_nil, List.replicate_zero, List.replicate_succ, List.cons_append, List.nil_append, List.append_nil, List.getElem?_cons_zero, List.getElem?_cons_succ, List.set_cons_zero, List.set_cons_succ, List.zip_cons_cons, List.zip_nil_left, List.zip_nil_right, List.lookup_cons, List.lookup_nil, Option.some.injEq, exists_eq_left', exists_eq_left, exists_eq', exists_eq, HD.D.bl.injEq, HD.D.int.injEq, HD.D.str.injEq, HD.D.tup.injEq, HD.D.lst.injEq, HD.D.ref.injEq, List.cons.injEq, and_true, true_and, if_true, if_false, Bool.false_eq_true, ite_true, ite_false, Bool.not_true, Bool.not_false, Int.cast_ofNat_Int, beq_self_eq_true, Nat.sub_self, Nat.reduceSub, Nat.reduceAdd, reduceIte]
    refine ⟨a, _, _, rfl, hm, by simp, rfl, by decide, ?_⟩
    simp only [cx_K, nox_K, dRet, dRetN, dAnd, dOr, dNot, dCB, dCons, dVar, dC, dNil, dSeq, dAsg, dgName, dIfS, dNever, dTest, dAndT, dOrT, dNotT, dIf, dBin, dUn, dChain, dstart, dPar, dPar3, dDrop, dFor, dIter, dRng1, dRng2, dNext, dTup, dLst, dCall, dMeth, dProp, dFld, dSetF, dM, dJoined, dJs, dLc, dDc, dSlice, dPart, dNoP, dRetF, dYes, dgSub, dwipe, dEnum, dZip, dTxt, ownD, dMethK, q_plus_int, q_plus_str, q_plus_tup, q_plus_lst, q_fII, q_minus, q_fdiv, q_mod, q_pow, q_mul, q_rep, q_ord_int, q_ord_str, q_len_str, q_len_tup, q_len_lst, q_len_scr, q_len_ref, q_neg, q_fmt_int, q_fmt_str, q_str_int, q_str_str, q_int_int, q_int_bl, q_int_str, q_bool_int, q_bool_bl, q_abs, q_max, q_min, q_divmod, q_ix_tup, q_ix_lst, q_ix_ref, q_ix_scr, q_ix_str, q_sl_tup, q_sl_str, q_sl_lst, q_sl_scr, q_tuple_lst, q_tuple_tup, q_tuple_ref, q_in_dic, q_in_tup, q_in_ref, q_in_lst, q_items_lst, q_items_tup, q_items_scr, q_items_str, q_ins, q_ty_int, q_ty_str, q_ty_tup, q_ty_lst, q_ty_non, q_ty_bl, q_ty_ins, q_all, q_gtup, q_gcons, q_gnil, q_join, q_append, q_count, q_isdigit, q_split, ltD, leD, gtD, geD, isStrD, valN, clsD, List.map_cons, List.map_nil, List.length_cons, List.length_nil, List.replicate_zero, List.replicate_succ, List.cons_append, List.nil_append, List.append_nil, List.getElem?_cons_zero, List.getElem?_cons_succ, List.set_cons_zero, List.set_cons_succ, List.zip_cons_cons, List.zip_nil_left, List.zip_nil_right, List.lookup_cons, List.lookup_nil, Option.some.injEq, exists_eq_left', exists_eq_left, exists_eq', exists_eq, HD.D.bl.injEq, HD.D.int.injEq, HD.D.str.injEq, HD.D.tup.injEq, HD.D.lst.injEq, HD.D.ref.injEq, List.cons.injEq, and_true, true_and, if_true, if_false, Bool.false_eq_true, ite_true, ite_false, Bool.not_true, Bool.not_false, Int.cast_ofNat_Int, beq_self_eq_true, Nat.sub_self, Nat.reduceSub, Nat.reduceAdd, reduceIte]
    refine ⟨a, _, _, rfl, mput_same, by decide, rfl, by decide, ?_⟩
    rw [mput_mput]
    exact Ret.of h
/-- an attribute -/
def c_size (C : Addr) : DSp := fun ds M P => ∃ (rs : Rw) (wd : Nat), ds = [planD C wd rs] ∧ P (.int wd) M
theorem sc_Plan_size : FnScope ["self"] ["self"] (defScope (inClass (top 19) 2)) := ⟨rfl, rfl, rfl, by decide +kernel, rfl, by decide +kernel, by decide +kernel⟩
theorem fn_Plan_size (F : Fc K mg) {fd : FuncData} (dF : FunD K "size" "Plan.size" (defArgs (inClass (top 19) 2)) (defBody (inClass (top 19) 2)) (defScope (inClass (top 19) 2)) [] [] ((getA "Plan" "size") K) fd) : FnG P w K mg base 1 ((getA "Plan" "size") K) fd ["self"] (spOf K (c_size (gloA "Plan" K))) := by
  have nd := sc_Plan_size.nd
  refine fnG_D dF sc_Plan_size (fun ds M R h => ?_) fun cd A outer s H hr => ⟨_, (b_one (s_ret (j_fld F.cl_Plan F.na_Plan_length (jv 0)))), ?_⟩
  · obtain ⟨_, _, rfl, _⟩ := h; rfl
  · intro ds M R h
    obtain ⟨rs, wd, rfl, h⟩ := h
    unfold planD
    simp only [cx_K, nox_K, dRet, dRetN, dAnd, dOr, dNot, dCB, dCons, dVar, dC, dNil, dSeq, dAsg, dgName, dIfS, dNever, dTest, dAndT, dOrT, dNotT, dIf, dBin, dUn, dChain, dstart, dPar, dPar3, dDrop, dFor, dIter, dRng1, dRng2, dNext, dTup, dLst, dCall, dMeth, dProp, dFld, dSetF, dM, dJoined, dJs, dLc, dDc, dSlice, dPart, dNoP, dRetF, dYes, dgSub, dwipe, dEnum, dZip, dTxt, ownD, dMethK, q_plus_int, q_plus_str, q_plus_tup, q_plus_lst, q_fII, q_minus, q_fdiv, q_mod, q_pow, q_mul, q_rep, q_ord_int, q_ord_str, q_len_str, q_len_tup, q_len_lst, q_len_scr, q_len_ref, q_neg, q_fmt_int, q_fmt_str, q_str_int, q_str_str, q_int_int, q_int_bl, q_int_str, q_bool_int, q_bool_bl, q_abs, q_max, q_min, q_divmod, q_ix_tup, q_ix_lst, q_ix_ref, q_ix_scr, q_ix_str, q_sl_tup, q_sl_str, q_sl_lst, q_sl_scr, q_tuple_lst, q_tuple_tup, q_tuple_ref, q_in_dic, q_in_tup, q_in_ref, q_in_lst, q_items_lst, q_items_tup, q_items_scr, q_items_str, q_ins, q_ty_int, q_ty_str, q_ty_tup, q_ty_lst, q_ty_non, q_ty_bl, q_ty_ins, q_all, q_gtup, q_gcons, q_gnil, q_join, q_append, q_count, q_isdigit, q_split, ltD, leD, gtD, geD, isStrD, valN, clsD, List.map_cons, List.map_nil, List.length_cons, List.length_nil, List.replicate_zero, List.replicate_succ, List.cons_append, List.nil_append, List.append_nil, List.getElem?_cons_zero, List.getElem?_cons_succ, List.set_cons_zero, List.set_cons_succ, List.zip_cons_cons, List.zip_nil_left, List.zip_nil_right, List.lookup_cons, List.lookup_nil, Option.some.injEq, exists_eq_left', exists_eq_left, exists_eq', exists_eq, HD.D.bl.injEq, HD.D.int.injEq, HD.D.str.injEq, HD.D.tup.injEq, HD.D.lst.injEq, HD.D.ref.injEq, List.cons.injEq, and_true, true_and, if_true, if_false, Bool.false_eq_true, ite_true, ite_false, Bool.not_true, Bool.not_false, Int.cast_ofNat_Int, beq_self_eq_true, Nat.sub_self, Nat.reduceSub, Nat.reduceAdd, reduceIte]
    exact ⟨_, _, _, rfl, rfl, Ret.of h⟩
theorem p_Plan_size (F : Fc K mg) : PrpD P w K mg base 1 (gloA "Plan" K) "size" (c_size (gloA "Plan" K)) := by
  obtain ⟨fd, D⟩ := F.d_Plan_size
  refine prpD_N D (fn_Plan_size F D) F.cl_Plan F.pr_Plan_size ?_
  exact fun _ _ _ _ _ _ us hl => match us, hl with | [_], _ => rfl
def c_rows (C : Addr) : DSp := fun ds M P => ∃ (rs : Rw) (wd : Nat), ds = [planD C wd rs] ∧ P (rowsD rs) M
theorem sc_Plan_rows : FnScope ["self"] ["self"] (defScope (inClass (top 19) 3)) := ⟨rfl, rfl, rfl, by decide +kernel, rfl, by decide +kernel, by decide +kernel⟩
theorem fn_Plan_rows (F : Fc K mg) {fd : FuncData} (dF : FunD K "rows" "Plan.rows" (defArgs (inClass (top 19) 3)) (defBody (inClass (top 19) 3)) (defScope (inClass (top 19) 3)) [] [] ((getA "Plan" "rows") K) fd) : FnG P w K mg base 1 ((getA "Plan" "rows") K) fd ["self"] (spOf K (c_rows (gloA "Plan" K))) := by
  have nd := sc_Plan_rows.nd
  refine fnG_D dF sc_Plan_rows (fun ds M R h => ?_) fun cd A outer s H hr => ⟨_, (b_one (s_ret (j_fld F.cl_Plan F.na_Plan_pairs (jv 0)))), ?_⟩
  · obtain ⟨_, _, rfl, _⟩ := h; rfl
  · intro ds M R h
    obtain ⟨rs, wd, rfl, h⟩ := h
    unfold planD
    simp only [cx_K, nox_K, dRet, dRetN, dAnd, dOr, dNot, dCB, dCons, dVar, dC, dNil, dSeq, dAsg, dgName, dIfS, dNever, dTest, dAndT, dOrT, dNotT, dIf, dBin, dUn, dChain, dstart, dPar, dPar3, dDrop, dFor, dIter, dRng1, dRng2, dNext, dTup, dLst, dCall, dMeth, dProp, dFld, dSetF, dM, dJoined, dJs, dLc, dDc, dSlice, dPart, dNoP, dRetF, dYes, dgSub, dwipe, dEnum, dZip, dTxt, ownD, dMethK, q_plus_int, q_plus_str, q_plus_tup, q_plus_lst, q_fII, q_minus, q_fdiv, q_mod, q_pow, q_mul, q_rep, q_ord_int, q_ord_str, q_len_str, q_len_tup, q_len_lst, q_len_scr, q_len_ref, q_neg, q_fmt_int, q_fmt_str, q_str_int, q_str_str, q_int_int, q_int_bl, q_int_str, q_bool_int, q_bool_bl, q_abs, q_max, q_min, q_divmod, q_ix_tup, q_ix_lst, q_ix_ref, q_ix_scr, q_ix_str, q_sl_tup, q_sl_str, q_sl_lst, q_sl_scr, q_tuple_lst, q_tuple_tup, q_tuple_ref, q_in_dic, q_in_tup, q_in_ref, q_in_lst, q_items_lst, q_items_tup, q_items_scr, q_items_str, q_ins, q_ty_int, q_ty_str, q_ty_tup, q_ty_lst, q_ty_non, q_ty_bl, q_ty_ins, q_all, q_gtup, q_gcons, q_gnil, q_join, q_append, q_count, q_isdigit, q_split, ltD, leD, gtD, geD, isStrD, valN, clsD, List.map_cons, List.map_nil, List.length_cons, List.length_nil, List.replicate_zero, List.replicate_succ, List.cons_append, List.nil_append, List.append_nil, List.getElem?_cons_zero, List.getElem?_cons_succ, List.set_cons_zero, List.set_cons_succ, List.zip_cons_cons, List.zip_nil_left, List.zip_nil_right, List.lookup_cons, List.lookup_nil, Option.some.injEq, exists_eq_left', exists_eq_left, exists_eq', exists_eq, HD.D.bl.injEq, HD.D.int.injEq, HD.D.str.injEq, HD.D.tup.injEq, HD.D.lst.injEq, HD.D.ref.injEq, List.cons.injEq, and_true, true_and, if_true, if_false, Bool.false_eq_true, ite_true, ite_false, Bool.not_true, Bool.not_false, Int.cast_ofNat_Int, beq_self_eq_true, Nat.sub_self, Nat.reduceSub, Nat.reduceAdd, reduceIte]
    exact ⟨_, _, _, rfl, rfl, Ret.of h⟩
theorem p_Plan_rows (F : Fc K mg) : PrpD P w K mg base 1 (gloA "Plan" K) "rows" (c_rows (gloA "Plan" K)) := by
  obtain ⟨fd, D⟩ := F.d_Plan_rows
  refine prpD_N D (fn_Plan_rows F D) F.cl_Plan F.pr_Plan_rows ?_
  exact fun _ _ _ _ _ _ us hl => match us, hl with | [_], _ => rfl
end K02

namespace K02
open PySem PySem.Spec PyProof.Rows L2 HD
variable {P : Program} {w : World} {K : PySem.W.Frag} {mg : Str → Option Value} {base : Heap}
theorem sl24 : sizeLine = 16777216 := by decide
def namesD (rs : Rw) : D := .tup (rs.map fun p => D.str (chS p.1))
theorem rs_len {wd : Nat} {rs : Rw} (h : OkRs wd rs) : rs.length ≤ 26 := by
  have nd : (rs.map (·.1)).Nodup := h.up.imp fun h => Nat.ne_of_lt h
  have e := List.Nodup.length_le_of_subset (l₁ := rs.map (·.1)) (l₂ := (List.range 26).map (· + 65)) nd (fun c hc => by
    obtain ⟨p, hp, rfl⟩ := List.mem_map.mp hc
    have := h.ch p hp
    exact List.mem_map.mpr ⟨p.1 - 65, List.mem_range.mpr (by omega), by omega⟩)
  simpa using e
def c_names (C : Addr) : DSp := fun ds M P => ∃ (rs : Rw) (wd : Nat), ds = [planD C wd rs] ∧ OkRs wd rs ∧ P (namesD rs) M
theorem sc_Plan_names : FnScope ["self", "name", "ticks"] ["self"] (defScope (inClass (top 19) 4)) := ⟨rfl, rfl, rfl, by decide +kernel, rfl, by decide +kernel, by decide +kernel⟩
theorem fn_Plan_names (F : Fc K mg) {fd : FuncData} (dF : FunD K "names" "Plan.names" (defArgs (inClass (top 19) 4)) (defBody (inClass (top 19) 4)) (defScope (inClass (top 19) 4)) [] [] ((getA "Plan" "names") K) fd) : FnG P w K mg base 1 ((getA "Plan" "names") K) fd ["self"] (spOf K (c_names (gloA "Plan" K))) := by
  have nd := sc_Plan_names.nd
  refine fnG_D dF sc_Plan_names (fun ds M R h => ?_) fun cd A outer s H hr => ⟨_, (b_one (s_ret (j_ct call_tuple_of lc_tuple F.n_tuple rfl (a_cons (j_lc rfl nd (own := [("name", 1), ("ticks", 2)]) (by show BlkOk ["self", "name", "ticks"] (defScope (inClass (top 19) 4)) _ [("name", 1), ("ticks", 2)]; constructor <;> first | rfl | decide +kernel) (i_any (j_fld F.cl_Plan F.na_Plan_pairs (jv 0))) (fun _ _ _ _ _ => (gw_tup (n := 2) rfl (gsw_cons (gw_name (i := 1) nd rfl (by first | exact .inl rfl | exact .inr rfl) (by decide)) (gsw_cons (gw_name (i := 2) nd rfl (by first | exact .inl rfl | exact .inr rfl) (by decide)) gsw_nil)))) (fun _ _ _ _ _ => ts_nil) (fun _ _ _ _ _ => (jv 1))) a_nil) rfl (by decide) (by decide) rfl rfl))), ?_⟩
  · obtain ⟨_, _, rfl, _⟩ := h; rfl
  · intro ds M R h
    obtain ⟨rs, wd, rfl, ok, h⟩ := h
    have hl := rs_len ok
    have sl := sl24
    unfold planD
    simp only [cx_K, nox_K, dRet, dRetN, dAnd, dOr, dNot, dCB, dCons, dVar, dC, dNil, dSeq, dAsg, dgName, dIfS, dNever, dTest, dAndT, dOrT, dNotT, dIf, dBin, dUn, dChain, dstart, dPar, dPar3, dDrop, dFor, dIter, dRng1, dRng2, dNext, dTup, dLst, dCall, dMeth, dProp, dFld, dSetF, dM, dJoined, dJs, dLc, dDc, dSlice, dPart, dNoP, dRetF, dYes, dgSub, dwipe, dEnum, dZip, dTxt, ownD, dMethK, q_plus_int, q_plus_str, q_plus_tup, q_plus_lst, q_fII, q_minus, q_fdiv, q_mod, q_pow, q_mul, q_rep, q_ord_int, q_ord_str, q_len_str, q_len_tup, q_len_lst, q_len_scr, q_len_ref, q_neg, q_fmt_int, q_fmt_str, q_str_int, q_str_str, q_int_int, q_int_bl, q_int_str, q_bool_int, q_bool_bl, q_abs, q_max, q_min, q_divmod, q_ix_tup, q_ix_lst, q_ix_ref, q_ix_scr, q_ix_str, q_sl_tup, q_sl_str, q_sl_lst, q_sl_scr, q_tuple_lst, q_tuple_tup, q_tuple_ref, q_in_dic, q_in_tup, q_in_ref, q_in_lst, q_items_lst, q_items_tup, q_items_scr, q_items_str, q_ins, q_ty_int, q_ty_str, q_ty_tup, q_ty_lst, q_ty_non, q_ty_bl, q_ty_ins, q_all, q_gtup, q_gcons, q_gnil, q_join, q_append, q_count, q_isdigit, q_split, ltD, leD, gtD, geD, isStrD, valN, clsD, List.map_cons, List.map_nil, List.length_cons, List.length_nil, List.replicate_zero, List.replicate_succ, List.cons_append, List.nil_append, List.append_nil, List.getElem?_cons_zero, List.getElem?_cons_succ, List.set_cons_zero, List.set_cons_succ, List.zip_cons_cons, List.zip_nil_left, List.zip_nil_right, List.lookup_cons, List.lookup_nil, Option.some.injEq, exists_eq_left', exists_eq_left, exists_eq', exists_eq, HD.D.bl.injEq, HD.D.int.injEq, HD.D.str.injEq, HD.D.tup.injEq, HD.D.lst.injEq, HD.D.ref.injEq, List.cons.injEq, and_true, true_and, if_true, if_false, Bool.false_eq_true, ite_true, ite_false, Bool.not_true, Bool.not_false, Int.cast_ofNat_Int, beq_self_eq_true, Nat.sub_self, Nat.reduceSub, Nat.reduceAdd, reduceIte]
    refine ⟨_, _, _, rfl, rfl, ?_⟩
    unfold rowsD
    simp only [cx_K, nox_K, dRet, dRetN, dAnd, dOr, dNot, dCB, dCons, dVar, dC, dNil, dSeq, dAsg, dgName, dIfS, dNever, dTest, dAndT, dOrT, dNotT, dIf, dBin, dUn, dChain, dstart, dPar, dPar3, dDrop, dFor, dIter, dRng1, dRng2, dNext, dTup, dLst, dCall, dMeth, dProp, dFld, dSetF, dM, dJoined, dJs, dLc, dDc, dSlice, dPart, dNoP, dRetF, dYes, dgSub, dwipe, dEnum, dZip, dTxt, ownD, dMethK, q_plus_int, q_plus_str, q_plus_tup, q_plus_lst, q_fII, q_minus, q_fdiv, q_mod, q_pow, q_mul, q_rep, q_ord_int, q_ord_str, q_len_str, q_len_tup, q_len_lst, q_len_scr, q_len_ref, q_neg, q_fmt_int, q_fmt_str, q_str_int, q_str_str, q_int_int, q_int_bl, q_int_str, q_bool_int, q_bool_bl, q_abs, q_max, q_min, q_divmod, q_ix_tup, q_ix_lst, q_ix_ref, q_ix_scr, q_ix_str, q_sl_tup, q_sl_str, q_sl_lst, q_sl_scr, q_tuple_lst, q_tuple_tup, q_tuple_ref, q_in_dic, q_in_tup, q_in_ref, q_in_lst, q_items_lst, q_items_tup, q_items_scr, q_items_str, q_ins, q_ty_int, q_ty_str, q_ty_tup, q_ty_lst, q_ty_non, q_ty_bl, q_ty_ins, q_all, q_gtup, q_gcons, q_gnil, q_join, q_append, q_count, q_isdigit, q_split, ltD, leD, gtD, geD, isStrD, valN, clsD, List.map_cons, List.map_nil, List.length_cons, List.length_nil, List.replicate_zero, List.replicate_succ, List.cons_append, List.nil_append, List.append_nil, List.getElem?_cons_zero, List.getElem?_cons_succ, List.set_cons_zero, List.set_cons_succ, List.zip_cons_cons, List.zip_nil_left, List.zip_nil_right, List.lookup_cons, List.lookup_nil, Option.some.injEq, exists_eq_left', exists_eq_left, exists_eq', exists_eq, HD.D.bl.injEq, HD.D.int.injEq, HD.D.str.injEq, HD.D.tup.injEq, HD.D.lst.injEq, HD.D.ref.injEq, List.cons.injEq, and_true, true_and, if_true, if_false, Bool.false_eq_true, ite_true, ite_false, Bool.not_true, Bool.not_false, Int.cast_ofNat_Int, beq_self_eq_true, Nat.sub_self, Nat.reduceSub, Nat.reduceAdd, reduceIte]
    refine lcD_all rowD (fun p => D.str (chS p.1)) _ (fun p hp K1 k => ?_) _ (by omega) ?_
    · unfold rowD
      simp only [cx_K, nox_K, dRet, dRetN, dAnd, dOr, dNot, dCB, dCons, dVar, dC, dNil, dSeq, dAsg, dgName, dIfS, dNever, dTest, dAndT, dOrT, dNotT, dIf, dBin, dUn, dChain, dstart, dPar, dPar3, dDrop, dFor, dIter, dRng1, dRng2, dNext, dTup, dLst, dCall, dMeth, dProp, dFld, dSetF, dM, dJoined, dJs, dLc, dDc, dSlice, dPart, dNoP, dRetF, dYes, dgSub, dwipe, dEnum, dZip, dTxt, ownD, dMethK, q_plus_int, q_plus_str, q_plus_tup, q_plus_lst, q_fII, q_minus, q_fdiv, q_mod, q_pow, q_mul, q_rep, q_ord_int, q_ord_str, q_len_str, q_len_tup, q_len_lst, q_len_scr, q_len_ref, q_neg, q_fmt_int, q_fmt_str, q_str_int, q_str_str, q_int_int, q_int_bl, q_int_str, q_bool_int, q_bool_bl, q_abs, q_max, q_min, q_divmod, q_ix_tup, q_ix_lst, q_ix_ref, q_ix_scr, q_ix_str, q_sl_tup, q_sl_str, q_sl_lst, q_sl_scr, q_tuple_lst, q_tuple_tup, q_tuple_ref, q_in_dic, q_in_tup, q_in_ref, q_in_lst, q_items_lst, q_items_tup, q_items_scr, q_items_str, q_ins, q_ty_int, q_ty_str, q_ty_tup, q_ty_lst, q_ty_non, q_ty_bl, q_ty_ins, q_all, q_gtup, q_gcons, q_gnil, q_join, q_append, q_count, q_isdigit, q_split, ltD, leD, gtD, geD, isStrD, valN, clsD, List.map_cons, List.map_nil, List.length_cons, List.length_nil, List.replicate_zero, List.replicate_succ, List.cons_append, List.nil_append, List.append_nil, List.getElem?_cons_zero, List.getElem?_cons_succ, List.set_cons_zero, List.set_cons_succ, List.zip_cons_cons, List.zip_nil_left, List.zip_nil_right, List.lookup_cons, List.lookup_nil, Option.some.injEq, exists_eq_left', exists_eq_left, exists_eq', exists_eq, HD.D.bl.injEq, HD.D.int.injEq, HD.D.str.injEq, HD.D.tup.injEq, HD.D.lst.injEq, HD.D.ref.injEq, List.cons.injEq, and_true, true_and, if_true, if_false, Bool.false_eq_true, ite_true, ite_false, Bool.not_true, Bool.not_false, Int.cast_ofNat_Int, beq_self_eq_true, Nat.sub_self, Nat.reduceSub, Nat.reduceAdd, reduceIte]
      exact k
    · first | exact Ret.of h | exact ⟨_, rfl, Ret.of h⟩
theorem p_Plan_names (F : Fc K mg) : PrpD P w K mg base 1 (gloA "Plan" K) "names" (c_names (gloA "Plan" K)) := by
  obtain ⟨fd, D⟩ := F.d_Plan_names
  refine prpD_N D (fn_Plan_names F D) F.cl_Plan F.pr_Plan_names ?_
  exact fun _ _ _ _ _ _ us hl => match us, hl with | [_], _ => rfl
def lineT (wd : Nat) (p : Nat × List Nat) : Str := ((Str.empty ++ chS p.1) ++ Str.ofString " ") ++ marksT p.2 wd
def textT (wd : Nat) (rs : Rw) : Str := Txt.join (Str.ofString "\n") (Str.ofString (toString (wd : Int)) :: rs.map (lineT wd))
theorem marksT_len (r : List Nat) (wd : Nat) : (marksT r wd).length = wd := by
  unfold marksT Txt.join
  rw [size_glued, sum_one fun x hx => ?_]
  · have e2 : (Str.ofString "").length = 0 := rfl
    rw [e2]
    simp
  · obtain ⟨t, _, rfl⟩ := List.mem_map.mp hx
    exact markS_len r t
theorem lineT_len (wd : Nat) (p : Nat × List Nat) : (lineT wd p).length = wd + 2 := by
  unfold lineT
  rw [Str.length_append, Str.length_append, Str.length_append, marksT_len]
  have e1 : Str.empty.length = 0 := rfl
  have e2 : (Str.ofString " ").length = 1 := rfl
  rw [chS_len, e1, e2]
  omega
theorem log2_small {n : Nat} (h : n ≤ 10000) : ((n : Int)).natAbs.log2 < 1920 := by
  rw [Int.natAbs_natCast]
  by_cases z : n = 0
  · subst z
    decide
  · exact Nat.lt_of_lt_of_le ((Nat.log2_lt z).mpr (show n < 2 ^ 14 by omega)) (by decide)
theorem num_len {n : Nat} (h : n ≤ 10000) : (Str.ofString (toString (n : Int))).length ≤ 6 := by
  rw [PySem.ofString_length]
  exact int_text_length_le10 (a := (n : Int)) (k := 5) (by decide) (by rw [Int.natAbs_natCast]; omega)
theorem sum_le {α : Type} {f : α → Nat} {b : Nat} : ∀ {xs : List α}, (∀ x ∈ xs, f x ≤ b) → (xs.map f).sum ≤ xs.length * b
  | [], _ => by simp
  | x :: xs, h => by
    have := sum_le (xs := xs) fun y hy => h y (List.mem_cons_of_mem _ hy)
    have := h x List.mem_cons_self
    rw [List.map_cons, List.sum_cons, List.length_cons, Nat.add_mul, Nat.one_mul]
    omega
def linesT (wd : Nat) (rs : Rw) : List Str := Str.ofString (toString (wd : Int)) :: rs.map (lineT wd)
theorem lines_fit {wd : Nat} {rs : Rw} (ok : OkRs wd rs) (hw : wd ≤ 10000) : ((linesT wd rs).map (·.length)).sum + (linesT wd rs).length * (Str.ofString "\n").length ≤ 16777216 := by
  have hl := rs_len ok
  have e1 : (Str.ofString "\n").length = 1 := rfl
  unfold linesT
  rw [e1, List.map_cons, List.sum_cons, List.map_map, List.length_cons, List.length_map]
  have e2 := sum_le (f := (fun x => x.length) ∘ lineT wd) (b := wd + 2) (xs := rs) fun p _ => by
    show (lineT wd p).length ≤ _
    rw [lineT_len]
    omega
  have e3 := num_len hw
  have e4 : rs.length * (wd + 2) ≤ 26 * 10002 := Nat.mul_le_mul hl (by omega)
  omega
def c_text (C : Addr) : DSp := fun ds M P => ∃ (rs : Rw) (wd : Nat), ds = [planD C wd rs] ∧ (OkRs wd rs ∧ wd ≤ 10000) ∧ P (.str (textT wd rs)) M
theorem sc_Plan_text : FnScope ["self", "lines", "name", "ticks"] ["self"] (defScope (inClass (top 19) 5)) := ⟨rfl, rfl, rfl, by decide +kernel, rfl, by decide +kernel, by decide +kernel⟩
theorem fn_Plan_text (F : Fc K mg) {fd : FuncData} (dF : FunD K "text" "Plan.text" (defArgs (inClass (top 19) 5)) (defBody (inClass (top 19) 5)) (defScope (inClass (top 19) 5)) [] [] ((getA "Plan" "text") K) fd) : FnG P w K mg base 2 ((getA "Plan" "text") K) fd ["self"] (spOf K (c_text (gloA "Plan" K))) := by
  have nd := sc_Plan_text.nd
  refine fnG_D dF sc_Plan_text (fun ds M R h => ?_) fun cd A outer s H hr => ⟨_, (b_cons (s_setLc rfl nd (i := 1) rfl rfl rfl (own := [("name", 2), ("ticks", 3)]) (by show BlkOk ["self", "lines", "name", "ticks"] (defScope (inClass (top 19) 5)) _ [("name", 2), ("ticks", 3)]; constructor <;> first | rfl | decide +kernel) (i_any (j_fld F.cl_Plan F.na_Plan_pairs (jv 0))) (fun _ _ _ _ _ => (gw_tup (n := 2) rfl (gsw_cons (gw_name (i := 2) nd rfl (by first | exact .inl rfl | exact .inr rfl) (by decide)) (gsw_cons (gw_name (i := 3) nd rfl (by first | exact .inl rfl | exact .inr rfl) (by decide)) gsw_nil)))) (fun _ _ _ _ _ => ts_nil) (fun _ _ _ _ _ => (j_joined (f_cons (j_fmt (jv 2)) (f_cons j_str (f_cons (j_fmt (j_call (cal_marks_of F) hr (by decide) (a_cons (jv 3) (a_cons (j_fld F.cl_Plan F.na_Plan_length (jv 0)) a_nil)))) f_nil))))))
      (b_one (s_ret (j_join j_str (j_add (j_lst (a_cons (j_ct (call_str_int.or SkE.call_str_str) lc_str F.n_str rfl (a_cons (j_fld F.cl_Plan F.na_Plan_length (jv 0)) a_nil) rfl (by decide) (by decide) rfl rfl) a_nil)) (jv 1)))))), ?_⟩
  · obtain ⟨_, _, rfl, _⟩ := h; rfl
  · intro ds M R h
    obtain ⟨rs, wd, rfl, ⟨ok, hw⟩, h⟩ := h
    have hl := rs_len ok
    have sl := sl24
    unfold planD
    simp only [cx_K, nox_K, dRet, dRetN, dAnd, dOr, dNot, dCB, dCons, dVar, dC, dNil, dSeq, dAsg, dgName, dIfS, dNever, dTest, dAndT, dOrT, dNotT, dIf, dBin, dUn, dChain, dstart, dPar, dPar3, dDrop, dFor, dIter, dRng1, dRng2, dNext, dTup, dLst, dCall, dMeth, dProp, dFld, dSetF, dM, dJoined, dJs, dLc, dDc, dSlice, dPart, dNoP, dRetF, dYes, dgSub, dwipe, dEnum, dZip, dTxt, ownD, dMethK, q_plus_int, q_plus_str, q_plus_tup, q_plus_lst, q_fII, q_minus, q_fdiv, q_mod, q_pow, q_mul, q_rep, q_ord_int, q_ord_str, q_len_str, q_len_tup, q_len_lst, q_len_scr, q_len_ref, q_neg, q_fmt_int, q_fmt_str, q_str_int, q_str_str, q_int_int, q_int_bl, q_int_str, q_bool_int, q_bool_bl, q_abs, q_max, q_min, q_divmod, q_ix_tup, q_ix_lst, q_ix_ref, q_ix_scr, q_ix_str, q_sl_tup, q_sl_str, q_sl_lst, q_sl_scr, q_tuple_lst, q_tuple_tup, q_tuple_ref, q_in_dic, q_in_tup, q_in_ref, q_in_lst, q_items_lst, q_items_tup, q_items_scr, q_items_str, q_ins, q_ty_int, q_ty_str, q_ty_tup, q_ty_lst, q_ty_non, q_ty_bl, q_ty_ins, q_all, q_gtup, q_gcons, q_gnil, q_join, q_append, q_count, q_isdigit, q_split, ltD, leD, gtD, geD, isStrD, valN, clsD, List.map_cons, List.map_nil, List.length_cons, List.length_nil, List.replicate_zero, List.replicate_succ, List.cons_append, List.nil_append, List.append_nil, List.getElem?_cons_zero, List.getElem?_cons_succ, List.set_cons_zero, List.set_cons_succ, List.zip_cons_cons, List.zip_nil_left, List.zip_nil_right, List.lookup_cons, List.lookup_nil, Option.some.injEq, exists_eq_left', exists_eq_left, exists_eq', exists_eq, HD.D.bl.injEq, HD.D.int.injEq, HD.D.str.injEq, HD.D.tup.injEq, HD.D.lst.injEq, HD.D.ref.injEq, List.cons.injEq, and_true, true_and, if_true, if_false, Bool.false_eq_true, ite_true, ite_false, Bool.not_true, Bool.not_false, Int.cast_ofNat_Int, beq_self_eq_true, Nat.sub_self, Nat.reduceSub, Nat.reduceAdd, reduceIte]
    refine ⟨_, _, _, rfl, rfl, ?_⟩
    unfold rowsD
    simp only [cx_K, nox_K, dRet, dRetN, dAnd, dOr, dNot, dCB, dCons, dVar, dC, dNil, dSeq, dAsg, dgName, dIfS, dNever, dTest, dAndT, dOrT, dNotT, dIf, dBin, dUn, dChain, dstart, dPar, dPar3, dDrop, dFor, dIter, dRng1, dRng2, dNext, dTup, dLst, dCall, dMeth, dProp, dFld, dSetF, dM, dJoined, dJs, dLc, dDc, dSlice, dPart, dNoP, dRetF, dYes, dgSub, dwipe, dEnum, dZip, dTxt, ownD, dMethK, q_plus_int, q_plus_str, q_plus_tup, q_plus_lst, q_fII, q_minus, q_fdiv, q_mod, q_pow, q_mul, q_rep, q_ord_int, q_ord_str, q_len_str, q_len_tup, q_len_lst, q_len_scr, q_len_ref, q_neg, q_fmt_int, q_fmt_str, q_str_int, q_str_str, q_int_int, q_int_bl, q_int_str, q_bool_int, q_bool_bl, q_abs, q_max, q_min, q_divmod, q_ix_tup, q_ix_lst, q_ix_ref, q_ix_scr, q_ix_str, q_sl_tup, q_sl_str, q_sl_lst, q_sl_scr, q_tuple_lst, q_tuple_tup, q_tuple_ref, q_in_dic, q_in_tup, q_in_ref, q_in_lst, q_items_lst, q_items_tup, q_items_scr, q_items_str, q_ins, q_ty_int, q_ty_str, q_ty_tup, q_ty_lst, q_ty_non, q_ty_bl, q_ty_ins, q_all, q_gtup, q_gcons, q_gnil, q_join, q_append, q_count, q_isdigit, q_split, ltD, leD, gtD, geD, isStrD, valN, clsD, List.map_cons, List.map_nil, List.length_cons, List.length_nil, List.replicate_zero, List.replicate_succ, List.cons_append, List.nil_append, List.append_nil, List.getElem?_cons_zero, List.getElem?_cons_succ, List.set_cons_zero, List.set_cons_succ, List.zip_cons_cons, List.zip_nil_left, List.zip_nil_right, List.lookup_cons, List.lookup_nil, Option.some.injEq, exists_eq_left', exists_eq_left, exists_eq', exists_eq, HD.D.bl.injEq, HD.D.int.injEq, HD.D.str.injEq, HD.D.tup.injEq, HD.D.lst.injEq, HD.D.ref.injEq, List.cons.injEq, and_true, true_and, if_true, if_false, Bool.false_eq_true, ite_true, ite_false, Bool.not_true, Bool.not_false, Int.cast_ofNat_Int, beq_self_eq_true, Nat.sub_self, Nat.reduceSub, Nat.reduceAdd, reduceIte]
    refine lcD_all rowD (fun p => D.str (lineT wd p)) _ (fun p hp K1 k => ?_) _ (by omega) ?_
    · unfold rowD
      simp only [cx_K, nox_K, dRet, dRetN, dAnd, dOr, dNot, dCB, dCons, dVar, dC, dNil, dSeq, dAsg, dgName, dIfS, dNever, dTest, dAndT, dOrT, dNotT, dIf, dBin, dUn, dChain, dstart, dPar, dPar3, dDrop, dFor, dIter, dRng1, dRng2, dNext, dTup, dLst, dCall, dMeth, dProp, dFld, dSetF, dM, dJoined, dJs, dLc, dDc, dSlice, dPart, dNoP, dRetF, dYes, dgSub, dwipe, dEnum, dZip, dTxt, ownD, dMethK, q_plus_int, q_plus_str, q_plus_tup, q_plus_lst, q_fII, q_minus, q_fdiv, q_mod, q_pow, q_mul, q_rep, q_ord_int, q_ord_str, q_len_str, q_len_tup, q_len_lst, q_len_scr, q_len_ref, q_neg, q_fmt_int, q_fmt_str, q_str_int, q_str_str, q_int_int, q_int_bl, q_int_str, q_bool_int, q_bool_bl, q_abs, q_max, q_min, q_divmod, q_ix_tup, q_ix_lst, q_ix_ref, q_ix_scr, q_ix_str, q_sl_tup, q_sl_str, q_sl_lst, q_sl_scr, q_tuple_lst, q_tuple_tup, q_tuple_ref, q_in_dic, q_in_tup, q_in_ref, q_in_lst, q_items_lst, q_items_tup, q_items_scr, q_items_str, q_ins, q_ty_int, q_ty_str, q_ty_tup, q_ty_lst, q_ty_non, q_ty_bl, q_ty_ins, q_all, q_gtup, q_gcons, q_gnil, q_join, q_append, q_count, q_isdigit, q_split, ltD, leD, gtD, geD, isStrD, valN, clsD, List.map_cons, List.map_nil, List.length_cons, List.length_nil, List.replicate_zero, List.replicate_succ, List.cons_append, List.nil_append, List.append_nil, List.getElem?_cons_zero, List.getElem?_cons_succ, List.set_cons_zero, List.set_cons_succ, List.zip_cons_cons, List.zip_nil_left, List.zip_nil_right, List.lookup_cons, List.lookup_nil, Option.some.injEq, exists_eq_left', exists_eq_left, exists_eq', exists_eq, HD.D.bl.injEq, HD.D.int.injEq, HD.D.str.injEq, HD.D.tup.injEq, HD.D.lst.injEq, HD.D.ref.injEq, List.cons.injEq, and_true, true_and, if_true, if_false, Bool.false_eq_true, ite_true, ite_false, Bool.not_true, Bool.not_false, Int.cast_ofNat_Int, beq_self_eq_true, Nat.sub_self, Nat.reduceSub, Nat.reduceAdd, reduceIte]
      have c1 := chS_len p.1
      have e1 : Str.empty.length = 0 := rfl
      have e2 : (Str.ofString " ").length = 1 := rfl
      refine ⟨by omega, by rw [Str.length_append]; omega, by rw [Str.length_append, Str.length_append]; omega, _, _, _, rfl, rfl, _, _, rfl, ⟨ok.ok p hp, hw⟩, ?_⟩
      simp only [cx_K, nox_K, dRet, dRetN, dAnd, dOr, dNot, dCB, dCons, dVar, dC, dNil, dSeq, dAsg, dgName, dIfS, dNever, dTest, dAndT, dOrT, dNotT, dIf, dBin, dUn, dChain, dstart, dPar, dPar3, dDrop, dFor, dIter, dRng1, dRng2, dNext, dTup, dLst, dCall, dMeth, dProp, dFld, dSetF, dM, dJoined, dJs, dLc, dDc, dSlice, dPart, dNoP, dRetF, dYes, dgSub, dwipe, dEnum, dZip, dTxt, ownD, dMethK, q_plus_int, q_plus_str, q_plus_tup, q_plus_lst, q_fII, q_minus, q_fdiv, q_mod, q_pow, q_mul, q_rep, q_ord_int, q_ord_str, q_len_str, q_len_tup, q_len_lst, q_len_scr, q_len_ref, q_neg, q_fmt_int, q_fmt_str, q_str_int, q_str_str, q_int_int, q_int_bl, q_int_str, q_bool_int, q_bool_bl, q_abs, q_max, q_min, q_divmod, q_ix_tup, q_ix_lst, q_ix_ref, q_ix_scr, q_ix_str, q_sl_tup, q_sl_str, q_sl_lst, q_sl_scr, q_tuple_lst, q_tuple_tup, q_tuple_ref, q_in_dic, q_in_tup, q_in_ref, q_in_lst, q_items_lst, q_items_tup, q_items_scr, q_items_str, q_ins, q_ty_int, q_ty_str, q_ty_tup, q_ty_lst, q_ty_non, q_ty_bl, q_ty_ins, q_all, q_gtup, q_gcons, q_gnil, q_join, q_append, q_count, q_isdigit, q_split, ltD, leD, gtD, geD, isStrD, valN, clsD, List.map_cons, List.map_nil, List.length_cons, List.length_nil, List.replicate_zero, List.replicate_succ, List.cons_append, List.nil_append, List.append_nil, List.getElem?_cons_zero, List.getElem?_cons_succ, List.set_cons_zero, List.set_cons_succ, List.zip_cons_cons, List.zip_nil_left, List.zip_nil_right, List.lookup_cons, List.lookup_nil, Option.some.injEq, exists_eq_left', exists_eq_left, exists_eq', exists_eq, HD.D.bl.injEq, HD.D.int.injEq, HD.D.str.injEq, HD.D.tup.injEq, HD.D.lst.injEq, HD.D.ref.injEq, List.cons.injEq, and_true, true_and, if_true, if_false, Bool.false_eq_true, ite_true, ite_false, Bool.not_true, Bool.not_false, Int.cast_ofNat_Int, beq_self_eq_true, Nat.sub_self, Nat.reduceSub, Nat.reduceAdd, reduceIte]
      exact ⟨by rw [marksT_len]; omega, by rw [Str.length_append, Str.length_append, Str.length_append, marksT_len]; omega, k⟩
    · refine ⟨_, _, _, rfl, rfl, ?_⟩
      simp only [cx_K, nox_K, dRet, dRetN, dAnd, dOr, dNot, dCB, dCons, dVar, dC, dNil, dSeq, dAsg, dgName, dIfS, dNever, dTest, dAndT, dOrT, dNotT, dIf, dBin, dUn, dChain, dstart, dPar, dPar3, dDrop, dFor, dIter, dRng1, dRng2, dNext, dTup, dLst, dCall, dMeth, dProp, dFld, dSetF, dM, dJoined, dJs, dLc, dDc, dSlice, dPart, dNoP, dRetF, dYes, dgSub, dwipe, dEnum, dZip, dTxt, ownD, dMethK, q_plus_int, q_plus_str, q_plus_tup, q_plus_lst, q_fII, q_minus, q_fdiv, q_mod, q_pow, q_mul, q_rep, q_ord_int, q_ord_str, q_len_str, q_len_tup, q_len_lst, q_len_scr, q_len_ref, q_neg, q_fmt_int, q_fmt_str, q_str_int, q_str_str, q_int_int, q_int_bl, q_int_str, q_bool_int, q_bool_bl, q_abs, q_max, q_min, q_divmod, q_ix_tup, q_ix_lst, q_ix_ref, q_ix_scr, q_ix_str, q_sl_tup, q_sl_str, q_sl_lst, q_sl_scr, q_tuple_lst, q_tuple_tup, q_tuple_ref, q_in_dic, q_in_tup, q_in_ref, q_in_lst, q_items_lst, q_items_tup, q_items_scr, q_items_str, q_ins, q_ty_int, q_ty_str, q_ty_tup, q_ty_lst, q_ty_non, q_ty_bl, q_ty_ins, q_all, q_gtup, q_gcons, q_gnil, q_join, q_append, q_count, q_isdigit, q_split, ltD, leD, gtD, geD, isStrD, valN, clsD, List.map_cons, List.map_nil, List.length_cons, List.length_nil, List.replicate_zero, List.replicate_succ, List.cons_append, List.nil_append, List.append_nil, List.getElem?_cons_zero, List.getElem?_cons_succ, List.set_cons_zero, List.set_cons_succ, List.zip_cons_cons, List.zip_nil_left, List.zip_nil_right, List.lookup_cons, List.lookup_nil, Option.some.injEq, exists_eq_left', exists_eq_left, exists_eq', exists_eq, HD.D.bl.injEq, HD.D.int.injEq, HD.D.str.injEq, HD.D.tup.injEq, HD.D.lst.injEq, HD.D.ref.injEq, List.cons.injEq, and_true, true_and, if_true, if_false, Bool.false_eq_true, ite_true, ite_false, Bool.not_true, Bool.not_false, Int.cast_ofNat_Int, beq_self_eq_true, Nat.sub_self, Nat.reduceSub, Nat.reduceAdd, reduceIte]
      refine ⟨log2_small hw, by omega, by rw [List.length_map]; omega, linesT wd rs, .inl ?_, lines_fit ok hw, Ret.of h⟩
      unfold linesT
      rw [List.map_cons, List.map_map]
      rfl
theorem p_Plan_text (F : Fc K mg) : PrpD P w K mg base 2 (gloA "Plan" K) "text" (c_text (gloA "Plan" K)) := by
  obtain ⟨fd, D⟩ := F.d_Plan_text
  refine prpD_N D (fn_Plan_text F D) F.cl_Plan F.pr_Plan_text ?_
  exact fun _ _ _ _ _ _ us hl => match us, hl with | [_], _ => rfl
def c_ticks (C : Addr) : DSp := fun ds M P => ∃ (rs : Rw) (wd : Nat) (p : Nat × List Nat), ds = [planD C wd rs, .str (chS p.1)] ∧ (OkRs wd rs ∧ p ∈ rs) ∧ P (intsD p.2) M
theorem sc_Plan_ticks : FnScope ["self", "name", "held", "row"] ["self", "name"] (defScope (inClass (top 19) 6)) := ⟨rfl, rfl, rfl, by decide +kernel, rfl, by decide +kernel, by decide +kernel⟩
theorem fn_Plan_ticks (F : Fc K mg) {fd : FuncData} (dF : FunD K "ticks" "Plan.ticks" (defArgs (inClass (top 19) 6)) (defBody (inClass (top 19) 6)) (defScope (inClass (top 19) 6)) [] [] ((metA "Plan" "ticks") K) fd) : FnG P w K mg base 1 ((metA "Plan" "ticks") K) fd ["self", "name"] (spOf K (c_ticks (gloA "Plan" K))) := by
  have nd := sc_Plan_ticks.nd
  refine fnG_D dF sc_Plan_ticks (fun ds M R h => ?_) fun cd A outer s H hr => ⟨_, (b_cons (s_for PassesOwn.never rfl (i_any (j_fld F.cl_Plan F.na_Plan_pairs (jv 0))) (g_tup (n := 2) rfl (gs_cons (g_name (i := 2) nd rfl (by first | exact .inl rfl | exact .inr rfl)) (gs_cons (g_name (i := 3) nd rfl (by first | exact .inl rfl | exact .inr rfl)) gs_nil)))
      (b_one (s_if (t_eq hr.rm.units (jv 2) (jv 1))
      (b_one (s_ret (jv 3)))
      b_nil)))
      (b_one s_never)), ?_⟩
  · obtain ⟨_, _, _, rfl, _⟩ := h; rfl
  · intro ds M R h
    obtain ⟨rs, wd, p, rfl, ⟨ok, hp⟩, h⟩ := h
    unfold planD
    simp only [cx_K, nox_K, dRet, dRetN, dAnd, dOr, dNot, dCB, dCons, dVar, dC, dNil, dSeq, dAsg, dgName, dIfS, dNever, dTest, dAndT, dOrT, dNotT, dIf, dBin, dUn, dChain, dstart, dPar, dPar3, dDrop, dFor, dIter, dRng1, dRng2, dNext, dTup, dLst, dCall, dMeth, dProp, dFld, dSetF, dM, dJoined, dJs, dLc, dDc, dSlice, dPart, dNoP, dRetF, dYes, dgSub, dwipe, dEnum, dZip, dTxt, ownD, dMethK, q_plus_int, q_plus_str, q_plus_tup, q_plus_lst, q_fII, q_minus, q_fdiv, q_mod, q_pow, q_mul, q_rep, q_ord_int, q_ord_str, q_len_str, q_len_tup, q_len_lst, q_len_scr, q_len_ref, q_neg, q_fmt_int, q_fmt_str, q_str_int, q_str_str, q_int_int, q_int_bl, q_int_str, q_bool_int, q_bool_bl, q_abs, q_max, q_min, q_divmod, q_ix_tup, q_ix_lst, q_ix_ref, q_ix_scr, q_ix_str, q_sl_tup, q_sl_str, q_sl_lst, q_sl_scr, q_tuple_lst, q_tuple_tup, q_tuple_ref, q_in_dic, q_in_tup, q_in_ref, q_in_lst, q_items_lst, q_items_tup, q_items_scr, q_items_str, q_ins, q_ty_int, q_ty_str, q_ty_tup, q_ty_lst, q_ty_non, q_ty_bl, q_ty_ins, q_all, q_gtup, q_gcons, q_gnil, q_join, q_append, q_count, q_isdigit, q_split, ltD, leD, gtD, geD, isStrD, valN, clsD, List.map_cons, List.map_nil, List.length_cons, List.length_nil, List.replicate_zero, List.replicate_succ, List.cons_append, List.nil_append, List.append_nil, List.getElem?_cons_zero, List.getElem?_cons_succ, List.set_cons_zero, List.set_cons_succ, List.zip_cons_cons, List.zip_nil_left, List.zip_nil_right, List.lookup_cons, List.lookup_nil, Option.some.injEq, exists_eq_left', exists_eq_left, exists_eq', exists_eq, HD.D.bl.injEq, HD.D.int.injEq, HD.D.str.injEq, HD.D.tup.injEq, HD.D.lst.injEq, HD.D.ref.injEq, List.cons.injEq, and_true, true_and, if_true, if_false, Bool.false_eq_true, ite_true, ite_false, Bool.not_true, Bool.not_false, Int.cast_ofNat_Int, beq_self_eq_true, Nat.sub_self, Nat.reduceSub, Nat.reduceAdd, reduceIte]
    refine ⟨_, _, _, rfl, rfl, ?_⟩
    unfold rowsD
    simp only [cx_K, nox_K, dRet, dRetN, dAnd, dOr, dNot, dCB, dCons, dVar, dC, dNil, dSeq, dAsg, dgName, dIfS, dNever, dTest, dAndT, dOrT, dNotT, dIf, dBin, dUn, dChain, dstart, dPar, dPar3, dDrop, dFor, dIter, dRng1, dRng2, dNext, dTup, dLst, dCall, dMeth, dProp, dFld, dSetF, dM, dJoined, dJs, dLc, dDc, dSlice, dPart, dNoP, dRetF, dYes, dgSub, dwipe, dEnum, dZip, dTxt, ownD, dMethK, q_plus_int, q_plus_str, q_plus_tup, q_plus_lst, q_fII, q_minus, q_fdiv, q_mod, q_pow, q_mul, q_rep, q_ord_int, q_ord_str, q_len_str, q_len_tup, q_len_lst, q_len_scr, q_len_ref, q_neg, q_fmt_int, q_fmt_str, q_str_int, q_str_str, q_int_int, q_int_bl, q_int_str, q_bool_int, q_bool_bl, q_abs, q_max, q_min, q_divmod, q_ix_tup, q_ix_lst, q_ix_ref, q_ix_scr, q_ix_str, q_sl_tup, q_sl_str, q_sl_lst, q_sl_scr, q_tuple_lst, q_tuple_tup, q_tuple_ref, q_in_dic, q_in_tup, q_in_ref, q_in_lst, q_items_lst, q_items_tup, q_items_scr, q_items_str, q_ins, q_ty_int, q_ty_str, q_ty_tup, q_ty_lst, q_ty_non, q_ty_bl, q_ty_ins, q_all, q_gtup, q_gcons, q_gnil, q_join, q_append, q_count, q_isdigit, q_split, ltD, leD, gtD, geD, isStrD, valN, clsD, List.map_cons, List.map_nil, List.length_cons, List.length_nil, List.replicate_zero, List.replicate_succ, List.cons_append, List.nil_append, List.append_nil, List.getElem?_cons_zero, List.getElem?_cons_succ, List.set_cons_zero, List.set_cons_succ, List.zip_cons_cons, List.zip_nil_left, List.zip_nil_right, List.lookup_cons, List.lookup_nil, Option.some.injEq, exists_eq_left', exists_eq_left, exists_eq', exists_eq, HD.D.bl.injEq, HD.D.int.injEq, HD.D.str.injEq, HD.D.tup.injEq, HD.D.lst.injEq, HD.D.ref.injEq, List.cons.injEq, and_true, true_and, if_true, if_false, Bool.false_eq_true, ite_true, ite_false, Bool.not_true, Bool.not_false, Int.cast_ofNat_Int, beq_self_eq_true, Nat.sub_self, Nat.reduceSub, Nat.reduceAdd, reduceIte]
    have up := ok.up
    have ch : ∀ q ∈ rs, q.1 ≤ 90 := fun q hq => (ok.ch q hq).2
    clear ok
    generalize D.ins (gloA (Str.ofString "Plan") K) [Str.ofString "length", Str.ofString "pairs"] [D.int ↑wd, D.tup (List.map rowD rs)] = S0
    generalize (none : Option HD.D) = x1
    generalize hx2 : x1 = x2
    have hx : [some S0, some (D.str (chS p.fst)), x2, x2] = [some S0, some (D.str (chS p.fst)), x1, x2] := by rw [hx2]
    rw [hx]
    clear hx hx2
    have c0 := ch p hp
    induction rs generalizing x1 x2 with
    | nil => cases hp
    | cons q rs ih =>
      rw [List.map_cons] at up
      obtain ⟨up1, up2⟩ := List.pairwise_cons.mp up
      simp only [forD, List.map_cons]
      rw [show rowD q = .tup [.str (chS q.1), intsD q.2] from rfl]
      simp only [cx_K, nox_K, dRet, dRetN, dAnd, dOr, dNot, dCB, dCons, dVar, dC, dNil, dSeq, dAsg, dgName, dIfS, dNever, dTest, dAndT, dOrT, dNotT, dIf, dBin, dUn, dChain, dstart, dPar, dPar3, dDrop, dFor, dIter, dRng1, dRng2, dNext, dTup, dLst, dCall, dMeth, dProp, dFld, dSetF, dM, dJoined, dJs, dLc, dDc, dSlice, dPart, dNoP, dRetF, dYes, dgSub, dwipe, dEnum, dZip, dTxt, ownD, dMethK, q_plus_int, q_plus_str, q_plus_tup, q_plus_lst, q_fII, q_minus, q_fdiv, q_mod, q_pow, q_mul, q_rep, q_ord_int, q_ord_str, q_len_str, q_len_tup, q_len_lst, q_len_scr, q_len_ref, q_neg, q_fmt_int, q_fmt_str, q_str_int, q_str_str, q_int_int, q_int_bl, q_int_str, q_bool_int, q_bool_bl, q_abs, q_max, q_min, q_divmod, q_ix_tup, q_ix_lst, q_ix_ref, q_ix_scr, q_ix_str, q_sl_tup, q_sl_str, q_sl_lst, q_sl_scr, q_tuple_lst, q_tuple_tup, q_tuple_ref, q_in_dic, q_in_tup, q_in_ref, q_in_lst, q_items_lst, q_items_tup, q_items_scr, q_items_str, q_ins, q_ty_int, q_ty_str, q_ty_tup, q_ty_lst, q_ty_non, q_ty_bl, q_ty_ins, q_all, q_gtup, q_gcons, q_gnil, q_join, q_append, q_count, q_isdigit, q_split, ltD, leD, gtD, geD, isStrD, valN, clsD, List.map_cons, List.map_nil, List.length_cons, List.length_nil, List.replicate_zero, List.replicate_succ, List.cons_append, List.nil_append, List.append_nil, List.getElem?_cons_zero, List.getElem?_cons_succ, List.set_cons_zero, List.set_cons_succ, List.zip_cons_cons, List.zip_nil_left, List.zip_nil_right, List.lookup_cons, List.lookup_nil, Option.some.injEq, exists_eq_left', exists_eq_left, exists_eq', exists_eq, HD.D.bl.injEq, HD.D.int.injEq, HD.D.str.injEq, HD.D.tup.injEq, HD.D.lst.injEq, HD.D.ref.injEq, List.cons.injEq, and_true, true_and, if_true, if_false, Bool.false_eq_true, ite_true, ite_false, Bool.not_true, Bool.not_false, Int.cast_ofNat_Int, beq_self_eq_true, Nat.sub_self, Nat.reduceSub, Nat.reduceAdd, reduceIte]
      have cq := ch q List.mem_cons_self
      refine eqD_str ?_
      simp only [cx_K, nox_K, dRet, dRetN, dAnd, dOr, dNot, dCB, dCons, dVar, dC, dNil, dSeq, dAsg, dgName, dIfS, dNever, dTest, dAndT, dOrT, dNotT, dIf, dBin, dUn, dChain, dstart, dPar, dPar3, dDrop, dFor, dIter, dRng1, dRng2, dNext, dTup, dLst, dCall, dMeth, dProp, dFld, dSetF, dM, dJoined, dJs, dLc, dDc, dSlice, dPart, dNoP, dRetF, dYes, dgSub, dwipe, dEnum, dZip, dTxt, ownD, dMethK, q_plus_int, q_plus_str, q_plus_tup, q_plus_lst, q_fII, q_minus, q_fdiv, q_mod, q_pow, q_mul, q_rep, q_ord_int, q_ord_str, q_len_str, q_len_tup, q_len_lst, q_len_scr, q_len_ref, q_neg, q_fmt_int, q_fmt_str, q_str_int, q_str_str, q_int_int, q_int_bl, q_int_str, q_bool_int, q_bool_bl, q_abs, q_max, q_min, q_divmod, q_ix_tup, q_ix_lst, q_ix_ref, q_ix_scr, q_ix_str, q_sl_tup, q_sl_str, q_sl_lst, q_sl_scr, q_tuple_lst, q_tuple_tup, q_tuple_ref, q_in_dic, q_in_tup, q_in_ref, q_in_lst, q_items_lst, q_items_tup, q_items_scr, q_items_str, q_ins, q_ty_int, q_ty_str, q_ty_tup, q_ty_lst, q_ty_non, q_ty_bl, q_ty_ins, q_all, q_gtup, q_gcons, q_gnil, q_join, q_append, q_count, q_isdigit, q_split, ltD, leD, gtD, geD, isStrD, valN, clsD, List.map_cons, List.map_nil, List.length_cons, List.length_nil, List.replicate_zero, List.replicate_succ, List.cons_append, List.nil_append, List.append_nil, List.getElem?_cons_zero, List.getElem?_cons_succ, List.set_cons_zero, List.set_cons_succ, List.zip_cons_cons, List.zip_nil_left, List.zip_nil_right, List.lookup_cons, List.lookup_nil, Option.some.injEq, exists_eq_left', exists_eq_left, exists_eq', exists_eq, HD.D.bl.injEq, HD.D.int.injEq, HD.D.str.injEq, HD.D.tup.injEq, HD.D.lst.injEq, HD.D.ref.injEq, List.cons.injEq, and_true, true_and, if_true, if_false, Bool.false_eq_true, ite_true, ite_false, Bool.not_true, Bool.not_false, Int.cast_ofNat_Int, beq_self_eq_true, Nat.sub_self, Nat.reduceSub, Nat.reduceAdd, reduceIte]
      by_cases z : q.1 = p.1
      · have e : q = p := by
          rcases List.mem_cons.mp hp with e | e
          · exact e.symm
          · have := up1 p.1 (List.mem_map_of_mem e)
            omega
        subst e
        simp only [cx_K, nox_K, dRet, dRetN, dAnd, dOr, dNot, dCB, dCons, dVar, dC, dNil, dSeq, dAsg, dgName, dIfS, dNever, dTest, dAndT, dOrT, dNotT, dIf, dBin, dUn, dChain, dstart, dPar, dPar3, dDrop, dFor, dIter, dRng1, dRng2, dNext, dTup, dLst, dCall, dMeth, dProp, dFld, dSetF, dM, dJoined, dJs, dLc, dDc, dSlice, dPart, dNoP, dRetF, dYes, dgSub, dwipe, dEnum, dZip, dTxt, ownD, dMethK, q_plus_int, q_plus_str, q_plus_tup, q_plus_lst, q_fII, q_minus, q_fdiv, q_mod, q_pow, q_mul, q_rep, q_ord_int, q_ord_str, q_len_str, q_len_tup, q_len_lst, q_len_scr, q_len_ref, q_neg, q_fmt_int, q_fmt_str, q_str_int, q_str_str, q_int_int, q_int_bl, q_int_str, q_bool_int, q_bool_bl, q_abs, q_max, q_min, q_divmod, q_ix_tup, q_ix_lst, q_ix_ref, q_ix_scr, q_ix_str, q_sl_tup, q_sl_str, q_sl_lst, q_sl_scr, q_tuple_lst, q_tuple_tup, q_tuple_ref, q_in_dic, q_in_tup, q_in_ref, q_in_lst, q_items_lst, q_items_tup, q_items_scr, q_items_str, q_ins, q_ty_int, q_ty_str, q_ty_tup, q_ty_lst, q_ty_non, q_ty_bl, q_ty_ins, q_all, q_gtup, q_gcons, q_gnil, q_join, q_append, q_count, q_isdigit, q_split, ltD, leD, gtD, geD, isStrD, valN, clsD, List.map_cons, List.map_nil, List.length_cons, List.length_nil, List.replicate_zero, List.replicate_succ, List.cons_append, List.nil_append, List.append_nil, List.getElem?_cons_zero, List.getElem?_cons_succ, List.set_cons_zero, List.set_cons_succ, List.zip_cons_cons, List.zip_nil_left, List.zip_nil_right, List.lookup_cons, List.lookup_nil, Option.some.injEq, exists_eq_left', exists_eq_left, exists_eq', exists_eq, HD.D.bl.injEq, HD.D.int.injEq, HD.D.str.injEq, HD.D.tup.injEq, HD.D.lst.injEq, HD.D.ref.injEq, List.cons.injEq, and_true, true_and, if_true, if_false, Bool.false_eq_true, ite_true, ite_false, Bool.not_true, Bool.not_false, Int.cast_ofNat_Int, beq_self_eq_true, Nat.sub_self, Nat.reduceSub, Nat.reduceAdd, reduceIte]
        exact Ret.of h
      · have e1 : (chS q.1 == chS p.1) = false := by
          refine beq_eq_false_iff_ne.mpr fun e => z ?_
          unfold chS at e
          simpa using e
        rw [e1]
        simp only [cx_K, nox_K, dRet, dRetN, dAnd, dOr, dNot, dCB, dCons, dVar, dC, dNil, dSeq, dAsg, dgName, dIfS, dNever, dTest, dAndT, dOrT, dNotT, dIf, dBin, dUn, dChain, dstart, dPar, dPar3, dDrop, dFor, dIter, dRng1, dRng2, dNext, dTup, dLst, dCall, dMeth, dProp, dFld, dSetF, dM, dJoined, dJs, dLc, dDc, dSlice, dPart, dNoP, dRetF, dYes, dgSub, dwipe, dEnum, dZip, dTxt, ownD, dMethK, q_plus_int, q_plus_str, q_plus_tup, q_plus_lst, q_fII, q_minus, q_fdiv, q_mod, q_pow, q_mul, q_rep, q_ord_int, q_ord_str, q_len_str, q_len_tup, q_len_lst, q_len_scr, q_len_ref, q_neg, q_fmt_int, q_fmt_str, q_str_int, q_str_str, q_int_int, q_int_bl, q_int_str, q_bool_int, q_bool_bl, q_abs, q_max, q_min, q_divmod, q_ix_tup, q_ix_lst, q_ix_ref, q_ix_scr, q_ix_str, q_sl_tup, q_sl_str, q_sl_lst, q_sl_scr, q_tuple_lst, q_tuple_tup, q_tuple_ref, q_in_dic, q_in_tup, q_in_ref, q_in_lst, q_items_lst, q_items_tup, q_items_scr, q_items_str, q_ins, q_ty_int, q_ty_str, q_ty_tup, q_ty_lst, q_ty_non, q_ty_bl, q_ty_ins, q_all, q_gtup, q_gcons, q_gnil, q_join, q_append, q_count, q_isdigit, q_split, ltD, leD, gtD, geD, isStrD, valN, clsD, List.map_cons, List.map_nil, List.length_cons, List.length_nil, List.replicate_zero, List.replicate_succ, List.cons_append, List.nil_append, List.append_nil, List.getElem?_cons_zero, List.getElem?_cons_succ, List.set_cons_zero, List.set_cons_succ, List.zip_cons_cons, List.zip_nil_left, List.zip_nil_right, List.lookup_cons, List.lookup_nil, Option.some.injEq, exists_eq_left', exists_eq_left, exists_eq', exists_eq, HD.D.bl.injEq, HD.D.int.injEq, HD.D.str.injEq, HD.D.tup.injEq, HD.D.lst.injEq, HD.D.ref.injEq, List.cons.injEq, and_true, true_and, if_true, if_false, Bool.false_eq_true, ite_true, ite_false, Bool.not_true, Bool.not_false, Int.cast_ofNat_Int, beq_self_eq_true, Nat.sub_self, Nat.reduceSub, Nat.reduceAdd, reduceIte]
        rcases List.mem_cons.mp hp with e | e
        · exact absurd (by rw [e]) z
        · exact ih e up2 (fun q hq => ch q (List.mem_cons_of_mem _ hq)) _ _
theorem m_Plan_ticks (F : Fc K mg) : MetD P w K mg base 1 (gloA "Plan" K) "ticks" (c_ticks (gloA "Plan" K)) [] := by
  obtain ⟨fd, D⟩ := F.d_Plan_ticks
  refine metD_N D (fn_Plan_ticks F D) F.cl_Plan F.me_Plan_ticks ?_
  exact fun _ _ _ _ _ _ us hl => match us, hl with | [_, _], _ => rfl
def c_marks (C : Addr) : DSp := fun ds M P => ∃ (rs : Rw) (wd : Nat) (p : Nat × List Nat), ds = [planD C wd rs, .str (chS p.1)] ∧ (OkRs wd rs ∧ p ∈ rs ∧ wd ≤ 10000) ∧ P (.str (marksT p.2 wd)) M
theorem sc_Plan_marks : FnScope ["self", "name"] ["self", "name"] (defScope (inClass (top 19) 7)) := ⟨rfl, rfl, rfl, by decide +kernel, rfl, by decide +kernel, by decide +kernel⟩
theorem fn_Plan_marks (F : Fc K mg) {fd : FuncData} (dF : FunD K "marks" "Plan.marks" (defArgs (inClass (top 19) 7)) (defBody (inClass (top 19) 7)) (defScope (inClass (top 19) 7)) [] [] ((metA "Plan" "marks") K) fd) : FnG P w K mg base 2 ((metA "Plan" "marks") K) fd ["self", "name"] (spOf K (c_marks (gloA "Plan" K))) := by
  have nd := sc_Plan_marks.nd
  refine fnG_D dF sc_Plan_marks (fun ds M R h => ?_) fun cd A outer s H hr => ⟨_, (b_one (s_ret (j_call (cal_marks_of F) hr (by decide) (a_cons (j_meth (m_Plan_ticks F) hr (by decide) (jv 0) (a_cons (jv 1) a_nil)) (a_cons (j_fld F.cl_Plan F.na_Plan_length (jv 0)) a_nil))))), ?_⟩
  · obtain ⟨_, _, _, rfl, _⟩ := h; rfl
  · intro ds M R h
    obtain ⟨rs, wd, p, rfl, ⟨ok, hp, hw⟩, h⟩ := h
    unfold planD
    simp only [cx_K, nox_K, dRet, dRetN, dAnd, dOr, dNot, dCB, dCons, dVar, dC, dNil, dSeq, dAsg, dgName, dIfS, dNever, dTest, dAndT, dOrT, dNotT, dIf, dBin, dUn, dChain, dstart, dPar, dPar3, dDrop, dFor, dIter, dRng1, dRng2, dNext, dTup, dLst, dCall, dMeth, dProp, dFld, dSetF, dM, dJoined, dJs, dLc, dDc, dSlice, dPart, dNoP, dRetF, dYes, dgSub, dwipe, dEnum, dZip, dTxt, ownD, dMethK, q_plus_int, q_plus_str, q_plus_tup, q_plus_lst, q_fII, q_minus, q_fdiv, q_mod, q_pow, q_mul, q_rep, q_ord_int, q_ord_str, q_len_str, q_len_tup, q_len_lst, q_len_scr, q_len_ref, q_neg, q_fmt_int, q_fmt_str, q_str_int, q_str_str, q_int_int, q_int_bl, q_int_str, q_bool_int, q_bool_bl, q_abs, q_max, q_min, q_divmod, q_ix_tup, q_ix_lst, q_ix_ref, q_ix_scr, q_ix_str, q_sl_tup, q_sl_str, q_sl_lst, q_sl_scr, q_tuple_lst, q_tuple_tup, q_tuple_ref, q_in_dic, q_in_tup, q_in_ref, q_in_lst, q_items_lst, q_items_tup, q_items_scr, q_items_str, q_ins, q_ty_int, q_ty_str, q_ty_tup, q_ty_lst, q_ty_non, q_ty_bl, q_ty_ins, q_all, q_gtup, q_gcons, q_gnil, q_join, q_append, q_count, q_isdigit, q_split, ltD, leD, gtD, geD, isStrD, valN, clsD, List.map_cons, List.map_nil, List.length_cons, List.length_nil, List.replicate_zero, List.replicate_succ, List.cons_append, List.nil_append, List.append_nil, List.getElem?_cons_zero, List.getElem?_cons_succ, List.set_cons_zero, List.set_cons_succ, List.zip_cons_cons, List.zip_nil_left, List.zip_nil_right, List.lookup_cons, List.lookup_nil, Option.some.injEq, exists_eq_left', exists_eq_left, exists_eq', exists_eq, HD.D.bl.injEq, HD.D.int.injEq, HD.D.str.injEq, HD.D.tup.injEq, HD.D.lst.injEq, HD.D.ref.injEq, List.cons.injEq, and_true, true_and, if_true, if_false, Bool.false_eq_true, ite_true, ite_false, Bool.not_true, Bool.not_false, Int.cast_ofNat_Int, beq_self_eq_true, Nat.sub_self, Nat.reduceSub, Nat.reduceAdd, reduceIte]
    refine ⟨_, _, rfl, rfl, rs, wd, p, rfl, ⟨ok, hp⟩, _, _, _, rfl, rfl, p.2, wd, rfl, ⟨ok.ok p hp, hw⟩, Ret.of h⟩
theorem m_Plan_marks (F : Fc K mg) : MetD P w K mg base 2 (gloA "Plan" K) "marks" (c_marks (gloA "Plan" K)) [] := by
  obtain ⟨fd, D⟩ := F.d_Plan_marks
  refine metD_N D (fn_Plan_marks F D) F.cl_Plan F.me_Plan_marks ?_
  exact fun _ _ _ _ _ _ us hl => match us, hl with | [_, _], _ => rfl
theorem row_sm {wd : Nat} {r : List Nat} (ok : OkR wd r) (hw : wd ≤ 10000) {k : Nat} : Sm (intsD r) (k + 1) (wd * 41) := by
  unfold intsD
  refine Sm.tup _ _ _ 40 (fun d hd => ?_) ?_
  · obtain ⟨t, ht, rfl⟩ := List.mem_map.mp hd
    have := ok.lt t ht
    exact Sm.int _ _ _ (by rw [Int.natAbs_natCast]; omega) (by omega)
  · have := ok.len
    rw [List.length_map]
    omega
theorem sm_up {d : D} {k n m : Nat} (h : Sm d k n) (hm : n ≤ m) : Sm d k m := by
  cases h with
  | non => exact .non _ _
  | bl => exact .bl _ _ _
  | int i _ _ h1 h2 => exact .int i _ _ h1 (by omega)
  | str x _ _ h1 h2 => exact .str x _ _ h1 (by omega)
  | lst ds k _ j h1 h2 => exact .lst ds k _ j h1 (by omega)
  | tup ds k _ j h1 h2 => exact .tup ds k _ j h1 (by omega)
theorem rows_sm {wd : Nat} {rs : Rw} (ok : OkRs wd rs) (hw : wd ≤ 10000) {k : Nat} : Sm (rowsD rs) (k + 3) (26 * (wd * 82 + 5)) := by
  unfold rowsD
  refine Sm.tup _ _ _ (wd * 82 + 4) (fun d hd => ?_) ?_
  · obtain ⟨p, hp, rfl⟩ := List.mem_map.mp hd
    unfold rowD
    have c := ok.ch p hp
    refine Sm.tup _ _ _ (wd * 41 + 1) (fun e he => ?_) (by simp only [List.length_cons, List.length_nil]; omega)
    rcases List.mem_cons.mp he with rfl | he
    · exact Sm.str _ _ _ (strOk_ch c.2) (by rw [chS_len]; omega)
    · rw [List.mem_singleton] at he
      subst he
      exact sm_up (row_sm (ok.ok p hp) hw) (by omega)
  · rw [List.length_map]
    exact Nat.mul_le_mul (rs_len ok) (by omega)
def intsP (r : List Nat) : PyData := .tuple (r.map fun (t : Nat) => PyData.int (t : Int))
def rowP (p : Nat × List Nat) : PyData := .tuple [.str (chS p.1), intsP p.2]
def rowsP (rs : Rw) : PyData := .tuple (rs.map rowP)
theorem ints_py (r : List Nat) : toPy (intsD r) = some (intsP r) := by
  have e : toPyL (r.map fun (t : Nat) => D.int (t : Int)) = some (r.map fun (t : Nat) => PyData.int (t : Int)) := by
    induction r with
    | nil => unfold toPyL; rfl
    | cons t r ih =>
      rw [List.map_cons]
      unfold toPyL toPy
      rw [ih]
      rfl
  unfold intsD intsP toPy
  rw [e]
  rfl
theorem row_py (p : Nat × List Nat) : toPy (rowD p) = some (rowP p) := by
  unfold rowD rowP toPy
  unfold toPyL toPyL toPyL
  rw [ints_py]
  unfold toPy
  rfl
theorem rows_py (rs : Rw) : toPy (rowsD rs) = some (rowsP rs) := by
  have e : toPyL (rs.map rowD) = some (rs.map rowP) := by
    induction rs with
    | nil => unfold toPyL; rfl
    | cons t r ih =>
      rw [List.map_cons]
      unfold toPyL
      rw [ih, row_py]
      rfl
  unfold rowsD rowsP toPy
  rw [e]
  rfl
theorem ints_eqv : ∀ r s : List Nat, PyData.eqvAll (r.map fun (t : Nat) => PyData.int (t : Int)) (s.map fun (t : Nat) => PyData.int (t : Int)) = decide (r = s)
  | [], [] => by unfold PyData.eqvAll; rfl
  | [], _ :: _ => by unfold PyData.eqvAll; rfl
  | _ :: _, [] => by unfold PyData.eqvAll; rfl
  | t :: r, u :: s => by
    rw [List.map_cons, List.map_cons]
    unfold PyData.eqvAll
    rw [ints_eqv r s]
    unfold PyData.eqv
    by_cases z : t = u
    · subst z
      simp
    · have e : ((t : Int) == (u : Int)) = false := by
        refine beq_eq_false_iff_ne.mpr fun e => z (by omega)
      rw [e]
      simp [z]
theorem row_eqv (p q : Nat × List Nat) : PyData.eqv (rowP p) (rowP q) = decide (p = q) := by
  obtain ⟨a, r⟩ := p
  obtain ⟨b, s⟩ := q
  unfold rowP PyData.eqv
  unfold PyData.eqvAll PyData.eqvAll PyData.eqvAll
  unfold intsP PyData.eqv
  rw [ints_eqv]
  by_cases z : a = b
  · subst z
    simp
  · have e : (chS a == chS b) = false := by
      refine beq_eq_false_iff_ne.mpr fun e => z ?_
      unfold chS at e
      simpa using e
    rw [e]
    simp [z]
theorem rows_eqvA : ∀ rs qs : Rw, PyData.eqvAll (rs.map rowP) (qs.map rowP) = decide (rs = qs)
  | [], [] => by unfold PyData.eqvAll; rfl
  | [], _ :: _ => by unfold PyData.eqvAll; rfl
  | _ :: _, [] => by unfold PyData.eqvAll; rfl
  | p :: rs, q :: qs => by
    rw [List.map_cons, List.map_cons]
    unfold PyData.eqvAll
    rw [row_eqv, rows_eqvA rs qs]
    simp
theorem rows_eqv {rs qs : Rw} {p q : PyData} (h1 : toPy (rowsD rs) = some p) (h2 : toPy (rowsD qs) = some q) : PyData.eqv p q = decide (rs = qs) := by
  rw [rows_py] at h1 h2
  cases h1
  cases h2
  unfold rowsP PyData.eqv
  exact rows_eqvA rs qs
def plainB (d : D) : Prop := (d = .non ∨ (∃ i, d = .int i) ∨ (∃ ds, d = .tup ds) ∨ ∃ x, d = .str x)
def c_eq (C : Addr) : DSp := fun ds M P => ∃ (rs : Rw) (wd : Nat) (y : D), ds = [planD C wd rs, y] ∧ (OkRs wd rs ∧ wd ≤ 10000) ∧
  ((plainB y ∧ P (.bl false) M) ∨ ∃ (qs : Rw) (wq : Nat), y = planD C wq qs ∧ OkRs wq qs ∧ wq ≤ 10000 ∧ P (.bl (decide (wd = wq) && decide (rs = qs))) M)
theorem sc_Plan_eq : FnScope ["self", "other"] ["self", "other"] (defScope (inClass (top 19) 9)) := ⟨rfl, rfl, rfl, by decide +kernel, rfl, by decide +kernel, by decide +kernel⟩
theorem fn_Plan_eq (F : Fc K mg) {fd : FuncData} (dF : FunD K "__eq__" "Plan.__eq__" (defArgs (inClass (top 19) 9)) (defBody (inClass (top 19) 9)) (defScope (inClass (top 19) 9)) [] [] ((metA "Plan" "__eq__") K) fd) : FnG P w K mg base 1 ((metA "Plan" "__eq__") K) fd ["self", "other"] (spOf K (c_eq (gloA "Plan" K))) := by
  have nd := sc_Plan_eq.nd
  refine fnG_D dF sc_Plan_eq (fun ds M R h => ?_) fun cd A outer s H hr => ⟨_, (b_one (s_ret (j_and (j_cb call_isi lc_isi F.n_isinstance rfl (a_cons (jv 1) (a_cons (j_glob (d := .ref (gloA "Plan" K)) (v := .ref (gloA "Plan" K)) rfl ⟨_, F.g_Plan, rfl⟩ (by decide) fun _ => of_ref _) a_nil)) rfl (by decide) (by decide) rfl rfl) (j_and (j_eq hr.rm.units (j_fld F.cl_Plan F.na_Plan_length (jv 0)) (j_fld F.cl_Plan F.na_Plan_length (jv 1))) (j_one (j_eq hr.rm.units (j_fld F.cl_Plan F.na_Plan_pairs (jv 0)) (j_fld F.cl_Plan F.na_Plan_pairs (jv 1)))))))), ?_⟩
  · obtain ⟨_, _, _, rfl, _⟩ := h; rfl
  · intro ds M R h
    obtain ⟨rs, wd, y, rfl, ⟨ok, hw⟩, h⟩ := h
    unfold planD
    simp only [dRet, dAnd, dCB, dCons, dVar, dC, dNil, dstart, dBin, dFld, List.map_cons, List.map_nil, List.cons_append, List.nil_append, List.getElem?_cons_zero, List.getElem?_cons_succ, Option.some.injEq, exists_eq_left', List.length_cons, List.length_nil]
    rcases h with ⟨hp, h⟩ | ⟨qs, wq, rfl, okq, hq, h⟩
    · have key : ∃ t ∈ ["NoneType", "int", "tuple", "str"], tyD M y = some (.type t) := by
        rcases hp with e | ⟨i, e⟩ | ⟨ds, e⟩ | ⟨x, e⟩ <;> subst e
        · exact ⟨"NoneType", by simp, rfl⟩
        · exact ⟨"int", by simp, rfl⟩
        · exact ⟨"tuple", by simp, rfl⟩
        · exact ⟨"str", by simp, rfl⟩
      obtain ⟨t, ht, e⟩ := key
      exact ⟨_, _, _, e, fun _ z => (by cases z), rfl, F.kit_ty t ht, false, rfl, Ret.of h⟩
    · refine ⟨_, _, _, rfl, fun C z => ?_, rfl, F.kit_Plan, true, rfl, ?_⟩
      · cases z
        exact F.ti_Plan
      · rw [if_pos rfl]
        unfold planD
        have sz := rows_sm ok hw (k := 0)
        have sq := rows_sm okq hq (k := 0)
        refine ⟨_, _, _, if_pos rfl, rfl, _, _, _, if_pos rfl, rfl, eqD_int ?_⟩
        simp only [if_false, Bool.false_eq_true, D.bl.injEq, exists_eq_left']
        by_cases z : wd = wq
        · subst z
          rw [if_pos (by simp)]
          refine ⟨_, _, _, if_pos rfl, rfl, _, _, _, if_pos rfl, rfl, ?_⟩
          by_cases z2 : rs = qs
          · subst z2
            refine eqD_same sz (by omega) ?_
            simpa using Ret.of h
          · refine eqD_sm sz sq (by omega) (by omega) fun q r h1 h2 => ?_
            rw [rows_eqv h1 h2]
            have h' := Ret.of h
            simpa using h'
        · rw [if_neg (fun e => z (by have := eq_of_beq e; omega))]
          have e : decide (wd = wq) = false := decide_eq_false z
          rw [e, Bool.false_and] at h
          exact Ret.of h
theorem s_Plan_eq (F : Fc K mg) : SpcD P w K mg base 1 (gloA "Plan" K) "__eq__" (c_eq (gloA "Plan" K)) := by
  obtain ⟨fd, D⟩ := F.d_Plan_eq
  refine spcD_N D (fn_Plan_eq F D) F.sp_Plan_eq F.sf_Plan_eq ?_
  exact fun _ _ _ _ _ _ us hl => match us, hl with | [_, _], _ => rfl
def c_str (C : Addr) : DSp := fun ds M P => ∃ (rs : Rw) (wd : Nat), ds = [planD C wd rs] ∧ (OkRs wd rs ∧ wd ≤ 10000) ∧ P (.str (textT wd rs)) M
theorem sc_Plan_str : FnScope ["self"] ["self"] (defScope (inClass (top 19) 10)) := ⟨rfl, rfl, rfl, by decide +kernel, rfl, by decide +kernel, by decide +kernel⟩
theorem fn_Plan_str (F : Fc K mg) {fd : FuncData} (dF : FunD K "__str__" "Plan.__str__" (defArgs (inClass (top 19) 10)) (defBody (inClass (top 19) 10)) (defScope (inClass (top 19) 10)) [] [] ((metA "Plan" "__str__") K) fd) : FnG P w K mg base 4 ((metA "Plan" "__str__") K) fd ["self"] (spOf K (c_str (gloA "Plan" K))) := by
  have nd := sc_Plan_str.nd
  refine fnG_D dF sc_Plan_str (fun ds M R h => ?_) fun cd A outer s H hr => ⟨_, (b_one (s_ret (j_ct (call_str_int.or SkE.call_str_str) lc_str F.n_str rfl (a_cons (j_prop (p_Plan_text F) hr (by decide) (jv 0)) a_nil) rfl (by decide) (by decide) rfl rfl))), ?_⟩
  · obtain ⟨_, _, rfl, _⟩ := h; rfl
  · intro ds M R h
    obtain ⟨rs, wd, rfl, ⟨ok, hw⟩, h⟩ := h
    unfold planD
    simp only [cx_K, nox_K, dRet, dRetN, dAnd, dOr, dNot, dCB, dCons, dVar, dC, dNil, dSeq, dAsg, dgName, dIfS, dNever, dTest, dAndT, dOrT, dNotT, dIf, dBin, dUn, dChain, dstart, dPar, dPar3, dDrop, dFor, dIter, dRng1, dRng2, dNext, dTup, dLst, dCall, dMeth, dProp, dFld, dSetF, dM, dJoined, dJs, dLc, dDc, dSlice, dPart, dNoP, dRetF, dYes, dgSub, dwipe, dEnum, dZip, dTxt, ownD, dMethK, q_plus_int, q_plus_str, q_plus_tup, q_plus_lst, q_fII, q_minus, q_fdiv, q_mod, q_pow, q_mul, q_rep, q_ord_int, q_ord_str, q_len_str, q_len_tup, q_len_lst, q_len_scr, q_len_ref, q_neg, q_fmt_int, q_fmt_str, q_str_int, q_str_str, q_int_int, q_int_bl, q_int_str, q_bool_int, q_bool_bl, q_abs, q_max, q_min, q_divmod, q_ix_tup, q_ix_lst, q_ix_ref, q_ix_scr, q_ix_str, q_sl_tup, q_sl_str, q_sl_lst, q_sl_scr, q_tuple_lst, q_tuple_tup, q_tuple_ref, q_in_dic, q_in_tup, q_in_ref, q_in_lst, q_items_lst, q_items_tup, q_items_scr, q_items_str, q_ins, q_ty_int, q_ty_str, q_ty_tup, q_ty_lst, q_ty_non, q_ty_bl, q_ty_ins, q_all, q_gtup, q_gcons, q_gnil, q_join, q_append, q_count, q_isdigit, q_split, ltD, leD, gtD, geD, isStrD, valN, clsD, List.map_cons, List.map_nil, List.length_cons, List.length_nil, List.replicate_zero, List.replicate_succ, List.cons_append, List.nil_append, List.append_nil, List.getElem?_cons_zero, List.getElem?_cons_succ, List.set_cons_zero, List.set_cons_succ, List.zip_cons_cons, List.zip_nil_left, List.zip_nil_right, List.lookup_cons, List.lookup_nil, Option.some.injEq, exists_eq_left', exists_eq_left, exists_eq', exists_eq, HD.D.bl.injEq, HD.D.int.injEq, HD.D.str.injEq, HD.D.tup.injEq, HD.D.lst.injEq, HD.D.ref.injEq, List.cons.injEq, and_true, true_and, if_true, if_false, Bool.false_eq_true, ite_true, ite_false, Bool.not_true, Bool.not_false, Int.cast_ofNat_Int, beq_self_eq_true, Nat.sub_self, Nat.reduceSub, Nat.reduceAdd, reduceIte]
    refine ⟨_, _, rfl, rs, wd, rfl, ⟨ok, hw⟩, Ret.of h⟩
theorem s_Plan_str (F : Fc K mg) : SpcD P w K mg base 4 (gloA "Plan" K) "__str__" (c_str (gloA "Plan" K)) := by
  obtain ⟨fd, D⟩ := F.d_Plan_str
  refine spcD_N D (fn_Plan_str F D) F.sp_Plan_str F.sf_Plan_str ?_
  exact fun _ _ _ _ _ _ us hl => match us, hl with | [_], _ => rfl
def reprT (wd : Nat) : Str := ((Str.empty ++ Str.ofString "Plan(") ++ Str.ofString (toString (wd : Int))) ++ Str.ofString " ticks)"
def c_repr (C : Addr) : DSp := fun ds M P => ∃ (rs : Rw) (wd : Nat), ds = [planD C wd rs] ∧ wd ≤ 10000 ∧ P (.str (reprT wd)) M
theorem sc_Plan_repr : FnScope ["self"] ["self"] (defScope (inClass (top 19) 11)) := ⟨rfl, rfl, rfl, by decide +kernel, rfl, by decide +kernel, by decide +kernel⟩
theorem fn_Plan_repr (F : Fc K mg) {fd : FuncData} (dF : FunD K "__repr__" "Plan.__repr__" (defArgs (inClass (top 19) 11)) (defBody (inClass (top 19) 11)) (defScope (inClass (top 19) 11)) [] [] ((metA "Plan" "__repr__") K) fd) : FnG P w K mg base 1 ((metA "Plan" "__repr__") K) fd ["self"] (spOf K (c_repr (gloA "Plan" K))) := by
  have nd := sc_Plan_repr.nd
  refine fnG_D dF sc_Plan_repr (fun ds M R h => ?_) fun cd A outer s H hr => ⟨_, (b_one (s_ret (j_joined (f_cons j_str (f_cons (j_fmt (j_fld F.cl_Plan F.na_Plan_length (jv 0))) (f_cons j_str f_nil)))))), ?_⟩
  · obtain ⟨_, _, rfl, _⟩ := h; rfl
  · intro ds M R h
    obtain ⟨rs, wd, rfl, hw, h⟩ := h
    have sl := sl24
    have e3 := num_len hw
    have e0 : Str.empty.length = 0 := rfl
    have e1 : (Str.ofString "Plan(").length = 5 := rfl
    have e2 : (Str.ofString " ticks)").length = 7 := rfl
    unfold planD
    simp only [cx_K, nox_K, dRet, dRetN, dAnd, dOr, dNot, dCB, dCons, dVar, dC, dNil, dSeq, dAsg, dgName, dIfS, dNever, dTest, dAndT, dOrT, dNotT, dIf, dBin, dUn, dChain, dstart, dPar, dPar3, dDrop, dFor, dIter, dRng1, dRng2, dNext, dTup, dLst, dCall, dMeth, dProp, dFld, dSetF, dM, dJoined, dJs, dLc, dDc, dSlice, dPart, dNoP, dRetF, dYes, dgSub, dwipe, dEnum, dZip, dTxt, ownD, dMethK, q_plus_int, q_plus_str, q_plus_tup, q_plus_lst, q_fII, q_minus, q_fdiv, q_mod, q_pow, q_mul, q_rep, q_ord_int, q_ord_str, q_len_str, q_len_tup, q_len_lst, q_len_scr, q_len_ref, q_neg, q_fmt_int, q_fmt_str, q_str_int, q_str_str, q_int_int, q_int_bl, q_int_str, q_bool_int, q_bool_bl, q_abs, q_max, q_min, q_divmod, q_ix_tup, q_ix_lst, q_ix_ref, q_ix_scr, q_ix_str, q_sl_tup, q_sl_str, q_sl_lst, q_sl_scr, q_tuple_lst, q_tuple_tup, q_tuple_ref, q_in_dic, q_in_tup, q_in_ref, q_in_lst, q_items_lst, q_items_tup, q_items_scr, q_items_str, q_ins, q_ty_int, q_ty_str, q_ty_tup, q_ty_lst, q_ty_non, q_ty_bl, q_ty_ins, q_all, q_gtup, q_gcons, q_gnil, q_join, q_append, q_count, q_isdigit, q_split, ltD, leD, gtD, geD, isStrD, valN, clsD, List.map_cons, List.map_nil, List.length_cons, List.length_nil, List.replicate_zero, List.replicate_succ, List.cons_append, List.nil_append, List.append_nil, List.getElem?_cons_zero, List.getElem?_cons_succ, List.set_cons_zero, List.set_cons_succ, List.zip_cons_cons, List.zip_nil_left, List.zip_nil_right, List.lookup_cons, List.lookup_nil, Option.some.injEq, exists_eq_left', exists_eq_left, exists_eq', exists_eq, HD.D.bl.injEq, HD.D.int.injEq, HD.D.str.injEq, HD.D.tup.injEq, HD.D.lst.injEq, HD.D.ref.injEq, List.cons.injEq, and_true, true_and, if_true, if_false, Bool.false_eq_true, ite_true, ite_false, Bool.not_true, Bool.not_false, Int.cast_ofNat_Int, beq_self_eq_true, Nat.sub_self, Nat.reduceSub, Nat.reduceAdd, reduceIte]
    refine ⟨by rw [Str.length_append]; omega, _, _, _, rfl, rfl, ?_⟩
    simp only [cx_K, nox_K, dRet, dRetN, dAnd, dOr, dNot, dCB, dCons, dVar, dC, dNil, dSeq, dAsg, dgName, dIfS, dNever, dTest, dAndT, dOrT, dNotT, dIf, dBin, dUn, dChain, dstart, dPar, dPar3, dDrop, dFor, dIter, dRng1, dRng2, dNext, dTup, dLst, dCall, dMeth, dProp, dFld, dSetF, dM, dJoined, dJs, dLc, dDc, dSlice, dPart, dNoP, dRetF, dYes, dgSub, dwipe, dEnum, dZip, dTxt, ownD, dMethK, q_plus_int, q_plus_str, q_plus_tup, q_plus_lst, q_fII, q_minus, q_fdiv, q_mod, q_pow, q_mul, q_rep, q_ord_int, q_ord_str, q_len_str, q_len_tup, q_len_lst, q_len_scr, q_len_ref, q_neg, q_fmt_int, q_fmt_str, q_str_int, q_str_str, q_int_int, q_int_bl, q_int_str, q_bool_int, q_bool_bl, q_abs, q_max, q_min, q_divmod, q_ix_tup, q_ix_lst, q_ix_ref, q_ix_scr, q_ix_str, q_sl_tup, q_sl_str, q_sl_lst, q_sl_scr, q_tuple_lst, q_tuple_tup, q_tuple_ref, q_in_dic, q_in_tup, q_in_ref, q_in_lst, q_items_lst, q_items_tup, q_items_scr, q_items_str, q_ins, q_ty_int, q_ty_str, q_ty_tup, q_ty_lst, q_ty_non, q_ty_bl, q_ty_ins, q_all, q_gtup, q_gcons, q_gnil, q_join, q_append, q_count, q_isdigit, q_split, ltD, leD, gtD, geD, isStrD, valN, clsD, List.map_cons, List.map_nil, List.length_cons, List.length_nil, List.replicate_zero, List.replicate_succ, List.cons_append, List.nil_append, List.append_nil, List.getElem?_cons_zero, List.getElem?_cons_succ, List.set_cons_zero, List.set_cons_succ, List.zip_cons_cons, List.zip_nil_left, List.zip_nil_right, List.lookup_cons, List.lookup_nil, Option.some.injEq, exists_eq_left', exists_eq_left, exists_eq', exists_eq, HD.D.bl.injEq, HD.D.int.injEq, HD.D.str.injEq, HD.D.tup.injEq, HD.D.lst.injEq, HD.D.ref.injEq, List.cons.injEq, and_true, true_and, if_true, if_false, Bool.false_eq_true, ite_true, ite_false, Bool.not_true, Bool.not_false, Int.cast_ofNat_Int, beq_self_eq_true, Nat.sub_self, Nat.reduceSub, Nat.reduceAdd, reduceIte]
    refine ⟨log2_small hw, by rw [Str.length_append, Str.length_append]; omega, by rw [Str.length_append, Str.length_append, Str.length_append]; omega, Ret.of h⟩
theorem s_Plan_repr (F : Fc K mg) : SpcD P w K mg base 1 (gloA "Plan" K) "__repr__" (c_repr (gloA "Plan" K)) := by
  obtain ⟨fd, D⟩ := F.d_Plan_repr
  refine spcD_N D (fn_Plan_repr F D) F.sp_Plan_repr F.sf_Plan_repr ?_
  exact fun _ _ _ _ _ _ us hl => match us, hl with | [_], _ => rfl
end K02

namespace K02
open PySem PySem.Spec PyProof.Rows L2 HD
variable {P : Program} {w : World} {K : PySem.W.Frag} {mg : Str → Option Value} {base : Heap}
/-! Plan(..), plan.ticks(name=..) -/
theorem nil_rep (F : Fc K mg) (Hm : Hp) : RepL K Hm [.tup []] [V.ref (dfltA (metA "Plan" "__init__") 0 K)] := RepL.cons (nilB_ok F.nil_Plan Hm) RepL.nil
theorem mk_Plan_2 (F : Fc K mg) : MakD P w K mg base 5 "Plan" (gloA "Plan" K) (c_init (gloA "Plan" K)) [] := by
  obtain ⟨fd, dF⟩ := F.d_Plan_init
  refine makD_D 3 1 dF (fn_Plan_init F dF) F.mk_Plan F.g_Plan (by simp) rfl (fun T kV doc pm an cdv ct us its h1 h2 => ?_) (fun _ => RepL.nil)
  match us, its, h1, h2 with
  | [a, b, c], [d], _, _ => exact ⟨_, rfl, rfl⟩
theorem mk_Plan_1 (F : Fc K mg) : MakD P w K mg base 5 "Plan" (gloA "Plan" K) (c_init (gloA "Plan" K)) [.tup []] := by
  obtain ⟨fd, dF⟩ := F.d_Plan_init
  refine makD_D 2 0 dF (fn_Plan_init F dF) F.mk_Plan F.g_Plan (by simp) rfl (fun T kV doc pm an cdv ct us its h1 h2 => ?_) (fun Hm => nil_rep F Hm)
  match us, its, h1, h2 with
  | [a, b], [d], _, _ => exact ⟨_, rfl, rfl⟩
theorem mk_Plan_k_rows_size (F : Fc K mg) : MakK P w K mg base 5 "Plan" (gloA "Plan" K) (c_init (gloA "Plan" K)) 0 ["rows", "size"] List.reverse := by
  obtain ⟨fd, dF⟩ := F.d_Plan_init
  refine ⟨_, fd, _, F.mk_Plan, fn_Plan_init F dF, F.g_Plan, kwB_D (g := fun ws _ => ws.reverse) dF (by simp) (fun T kV doc pm an cdv ct us ws its h1 h2 h3 => ?_) (fun zs ws its r _ => vals_reverse r) (fun Hm es zs r => RepL.reverse r)⟩
  match us, ws, its, h1, h2, h3 with
  | [a], [b, c], [d], _, _, _ => exact ⟨_, rfl, rfl⟩
theorem mk_Plan_k_size (F : Fc K mg) : MakK P w K mg base 5 "Plan" (gloA "Plan" K) (c_init (gloA "Plan" K)) 0 ["size"] (· ++ [.tup []]) := by
  obtain ⟨fd, dF⟩ := F.d_Plan_init
  refine ⟨_, fd, _, F.mk_Plan, fn_Plan_init F dF, F.g_Plan, kwB_D (g := fun ws its => ws ++ its) dF (by simp) (fun T kV doc pm an cdv ct us ws its h1 h2 h3 => ?_) (fun zs ws its r q => Vals.append r q) (fun Hm es zs r => RepL.append r (nil_rep F Hm))⟩
  match us, ws, its, h1, h2, h3 with
  | [a], [b], [d], _, _, _ => exact ⟨_, rfl, rfl⟩
theorem m_Plan_ticks_k_name (F : Fc K mg) : MetK P w K mg base 1 (gloA "Plan" K) "ticks" (c_ticks (gloA "Plan" K)) 0 ["name"] id := by
  obtain ⟨fd, dF⟩ := F.d_Plan_ticks
  refine ⟨_, fd, _, F.cl_Plan, F.me_Plan_ticks, fn_Plan_ticks F dF, kwB_N (g := id) (gV := id) dF (fun kV doc pm an cdv ct us ws h1 h2 => ?_) (fun zs ws r => r) (fun Hm es zs r => r)⟩
  match us, ws, h1, h2 with
  | [a], [b], _, _ => rfl
theorem m_Plan_marks_k_name (F : Fc K mg) : MetK P w K mg base 2 (gloA "Plan" K) "marks" (c_marks (gloA "Plan" K)) 0 ["name"] id := by
  obtain ⟨fd, dF⟩ := F.d_Plan_marks
  refine ⟨_, fd, _, F.cl_Plan, F.me_Plan_marks, fn_Plan_marks F dF, kwB_N (g := id) (gV := id) dF (fun kV doc pm an cdv ct us ws h1 h2 => ?_) (fun zs ws r => r) (fun Hm es zs r => r)⟩
  match us, ws, h1, h2 with
  | [a], [b], _, _ => rfl
/-! the drawing -/
structure Pv (g st n : Int) : Prop where
  g0 : 0 ≤ g
  s0 : 0 ≤ st
  s1 : st < 1000000007
  n0 : 0 ≤ n
def puL (g st n : Int) : MO := .lst [.int g, .int st, .int n]
def c_roll : DSp := fun ds M P => ∃ (a : Addr) (m g st n : Int), ds = [.ref a, .int m] ∧ (M a = some (puL g st n) ∧ Pv g st n ∧ 0 < m ∧ m < 1073741824) ∧ ∀ r g' st' n', 0 ≤ r → r < m → Pv g' st' n' → P (.int r) (mput M a (puL g' st' n'))
theorem sc_law_roll : FnScope ["_law_purse_here", "_law_many", "_law_state", "_law_digit"] ["_law_purse_here", "_law_many"] (defScope (top 23)) := ⟨rfl, rfl, rfl, by decide +kernel, rfl, by decide +kernel, by decide +kernel⟩
theorem fn_law_roll (F : Fc K mg) {fd : FuncData} (dF : FunD K "_law_roll" "_law_roll" (defArgs (top 23)) (defBody (top 23)) (defScope (top 23)) [] [] ((gloA "_law_roll") K) fd) : FnG P w K mg base 1 ((gloA "_law_roll") K) fd ["_law_purse_here", "_law_many"] (spOf K c_roll) := by
  have nd := sc_law_roll.nd
  refine fnG_D dF sc_law_roll (fun ds M R h => ?_) fun cd A outer s H hr => ⟨_, (b_cons (s_asg (j_add (j_ix (jv 0) j_int) j_int) (g_sub (jv 0) j_int))
      (b_cons (s_set (i := 2) nd rfl (by first | exact .inl rfl | exact .inr rfl) (j_ct (call_int1.or call_int_str) lc_int F.n_int rfl (a_cons (j_ix (jv 0) j_int) a_nil) rfl (by decide) (by decide) rfl rfl))
      (b_cons (s_asg (j_mod (j_ct (call_int1.or call_int_str) lc_int F.n_int rfl (a_cons (j_add (j_mul (j_add (jv 2) (j_ix (jv 0) j_int)) (j_add (j_mod (j_ct (call_int1.or call_int_str) lc_int F.n_int rfl (a_cons (jv 2) a_nil) rfl (by decide) (by decide) rfl rfl) j_int) j_int)) j_int) a_nil) rfl (by decide) (by decide) rfl rfl) j_int) (g_sub (jv 0) j_int))
      (b_cons (s_if (t_gt (j_ix (jv 0) j_int) j_int)
      (b_cons (s_asg (j_cb call_divmod lc_divmod F.n_divmod rfl (a_cons (j_ix (jv 0) j_int) (a_cons (jv 1) a_nil)) rfl (by decide) (by decide) rfl rfl) (g_tup (n := 2) rfl (gs_cons (g_sub (jv 0) j_int) (gs_cons (g_name (i := 3) nd rfl (by first | exact .inl rfl | exact .inr rfl)) gs_nil))))
      (b_one (s_ret (jv 3))))
      b_nil)
      (b_one (s_ret (j_mod (j_ct (call_int1.or call_int_str) lc_int F.n_int rfl (a_cons (j_fdiv (j_ix (jv 0) j_int) j_int) a_nil) rfl (by decide) (by decide) rfl rfl) (jv 1)))))))), ?_⟩
  · obtain ⟨_, _, _, _, _, rfl, _⟩ := h; rfl
  · intro ds M R h
    obtain ⟨a, m, g, st, n, rfl, ⟨hm, pv, m0, m1⟩, h⟩ := h
    unfold puL at hm
    obtain ⟨g0, s0, s1, n0⟩ := pv
    refine seq_step fun N hN => ?_
    simp only [cx_K, nox_K, dRet, dRetN, dAnd, dOr, dNot, dCB, dCons, dVar, dC, dNil, dSeq, dAsg, dgName, dIfS, dNever, dTest, dAndT, dOrT, dNotT, dIf, dBin, dUn, dChain, dstart, dPar, dPar3, dDrop, dFor, dIter, dRng1, dRng2, dNext, dTup, dLst, dCall, dMeth, dProp, dFld, dSetF, dM, dJoined, dJs, dLc, dDc, dSlice, dPart, dNoP, dRetF, dYes, dgSub, dwipe, dEnum, dZip, dTxt, ownD, dMethK, q_plus_int, q_plus_str, q_plus_tup, q_plus_lst, q_fII, q_minus, q_fdiv, q_mod, q_pow, q_mul, q_rep, q_ord_int, q_ord_str, q_len_str, q_len_tup, q_len_lst, q_len_scr, q_len_ref, q_neg, q_fmt_int, q_fmt_str, q_str_int, q_str_str, q_int_int, q_int_bl, q_int_str, q_bool_int, q_bool_bl, q_abs, q_max, q_min, q_divmod, q_ix_tup, q_ix_lst, q_ix_ref, q_ix_scr, q_ix_str, q_sl_tup, q_sl_str, q_sl_lst, q_sl_scr, q_tuple_lst, q_tuple_tup, q_tuple_ref, q_in_dic, q_in_tup, q_in_ref, q_in_lst, q_items_lst, q_items_tup, q_items_scr, q_items_str, q_ins, q_ty_int, q_ty_str, q_ty_tup, q_ty_lst, q_ty_non, q_ty_bl, q_ty_ins, q_all, q_gtup, q_gcons, q_gnil, q_join, q_append, q_count, q_isdigit, q_split, ltD, leD, gtD, geD, isStrD, valN, clsD, List.map_cons, List.map_nil, List.length_cons, List.length_nil, List.replicate_zero, List.replicate_succ, List.cons_append, List.nil_append, List.append_nil, List.getElem?_cons_zero, List.getElem?_cons_succ, List.set_cons_zero, List.set_cons_succ, List.zip_cons_cons, List.zip_nil_left, List.zip_nil_right, List.lookup_cons, List.lookup_nil, Option.some.injEq, exists_eq_left', exists_eq_left, exists_eq', exists_eq, HD.D.bl.injEq, HD.D.int.injEq, HD.D.str.injEq, HD.D.tup.injEq, HD.D.lst.injEq, HD.D.ref.injEq, List.cons.injEq, and_true, true_and, if_true, if_false, Bool.false_eq_true, ite_true, ite_false, Bool.not_true, Bool.not_false, Int.cast_ofNat_Int, beq_self_eq_true, Nat.sub_self, Nat.reduceSub, Nat.reduceAdd, reduceIte]
    refine ⟨_, _, seqL_ref hm, rfl, ?_⟩
    simp only [cx_K, nox_K, dRet, dRetN, dAnd, dOr, dNot, dCB, dCons, dVar, dC, dNil, dSeq, dAsg, dgName, dIfS, dNever, dTest, dAndT, dOrT, dNotT, dIf, dBin, dUn, dChain, dstart, dPar, dPar3, dDrop, dFor, dIter, dRng1, dRng2, dNext, dTup, dLst, dCall, dMeth, dProp, dFld, dSetF, dM, dJoined, dJs, dLc, dDc, dSlice, dPart, dNoP, dRetF, dYes, dgSub, dwipe, dEnum, dZip, dTxt, ownD, dMethK, q_plus_int, q_plus_str, q_plus_tup, q_plus_lst, q_fII, q_minus, q_fdiv, q_mod, q_pow, q_mul, q_rep, q_ord_int, q_ord_str, q_len_str, q_len_tup, q_len_lst, q_len_scr, q_len_ref, q_neg, q_fmt_int, q_fmt_str, q_str_int, q_str_str, q_int_int, q_int_bl, q_int_str, q_bool_int, q_bool_bl, q_abs, q_max, q_min, q_divmod, q_ix_tup, q_ix_lst, q_ix_ref, q_ix_scr, q_ix_str, q_sl_tup, q_sl_str, q_sl_lst, q_sl_scr, q_tuple_lst, q_tuple_tup, q_tuple_ref, q_in_dic, q_in_tup, q_in_ref, q_in_lst, q_items_lst, q_items_tup, q_items_scr, q_items_str, q_ins, q_ty_int, q_ty_str, q_ty_tup, q_ty_lst, q_ty_non, q_ty_bl, q_ty_ins, q_all, q_gtup, q_gcons, q_gnil, q_join, q_append, q_count, q_isdigit, q_split, ltD, leD, gtD, geD, isStrD, valN, clsD, List.map_cons, List.map_nil, List.length_cons, List.length_nil, List.replicate_zero, List.replicate_succ, List.cons_append, List.nil_append, List.append_nil, List.getElem?_cons_zero, List.getElem?_cons_succ, List.set_cons_zero, List.set_cons_succ, List.zip_cons_cons, List.zip_nil_left, List.zip_nil_right, List.lookup_cons, List.lookup_nil, Option.some.injEq, exists_eq_left', exists_eq_left, exists_eq', exists_eq, HD.D.bl.injEq, HD.D.int.injEq, HD.D.str.injEq, HD.D.tup.injEq, HD.D.lst.injEq, HD.D.ref.injEq, List.cons.injEq, and_true, true_and, if_true, if_false, Bool.false_eq_true, ite_true, ite_false, Bool.not_true, Bool.not_false, Int.cast_ofNat_Int, beq_self_eq_true, Nat.sub_self, Nat.reduceSub, Nat.reduceAdd, reduceIte]
    refine ⟨_, _, _, _, rfl, rfl, hm, rfl, ?_⟩
    refine hN _ _ ?_
    clear hN N
    have hm1 : mput M a (.lst [.int g, .int st, .int (n + 1)]) a = some (.lst [.int g, .int st, .int (n + 1)]) := mput_same
    show dSeq _ _ _ _ (mput M a (.lst [.int g, .int st, .int (n + 1)]))
    refine seq_step fun N hN => ?_
    simp only [cx_K, nox_K, dRet, dRetN, dAnd, dOr, dNot, dCB, dCons, dVar, dC, dNil, dSeq, dAsg, dgName, dIfS, dNever, dTest, dAndT, dOrT, dNotT, dIf, dBin, dUn, dChain, dstart, dPar, dPar3, dDrop, dFor, dIter, dRng1, dRng2, dNext, dTup, dLst, dCall, dMeth, dProp, dFld, dSetF, dM, dJoined, dJs, dLc, dDc, dSlice, dPart, dNoP, dRetF, dYes, dgSub, dwipe, dEnum, dZip, dTxt, ownD, dMethK, q_plus_int, q_plus_str, q_plus_tup, q_plus_lst, q_fII, q_minus, q_fdiv, q_mod, q_pow, q_mul, q_rep, q_ord_int, q_ord_str, q_len_str, q_len_tup, q_len_lst, q_len_scr, q_len_ref, q_neg, q_fmt_int, q_fmt_str, q_str_int, q_str_str, q_int_int, q_int_bl, q_int_str, q_bool_int, q_bool_bl, q_abs, q_max, q_min, q_divmod, q_ix_tup, q_ix_lst, q_ix_ref, q_ix_scr, q_ix_str, q_sl_tup, q_sl_str, q_sl_lst, q_sl_scr, q_tuple_lst, q_tuple_tup, q_tuple_ref, q_in_dic, q_in_tup, q_in_ref, q_in_lst, q_items_lst, q_items_tup, q_items_scr, q_items_str, q_ins, q_ty_int, q_ty_str, q_ty_tup, q_ty_lst, q_ty_non, q_ty_bl, q_ty_ins, q_all, q_gtup, q_gcons, q_gnil, q_join, q_append, q_count, q_isdigit, q_split, ltD, leD, gtD, geD, isStrD, valN, clsD, List.map_cons, List.map_nil, List.length_cons, List.length_nil, List.replicate_zero, List.replicate_succ, List.cons_append, List.nil_append, List.append_nil, List.getElem?_cons_zero, List.getElem?_cons_succ, List.set_cons_zero, List.set_cons_succ, List.zip_cons_cons, List.zip_nil_left, List.zip_nil_right, List.lookup_cons, List.lookup_nil, Option.some.injEq, exists_eq_left', exists_eq_left, exists_eq', exists_eq, HD.D.bl.injEq, HD.D.int.injEq, HD.D.str.injEq, HD.D.tup.injEq, HD.D.lst.injEq, HD.D.ref.injEq, List.cons.injEq, and_true, true_and, if_true, if_false, Bool.false_eq_true, ite_true, ite_false, Bool.not_true, Bool.not_false, Int.cast_ofNat_Int, beq_self_eq_true, Nat.sub_self, Nat.reduceSub, Nat.reduceAdd, reduceIte]
    refine ⟨_, _, seqL_ref hm1, rfl, ?_⟩
    simp only [cx_K, nox_K, dRet, dRetN, dAnd, dOr, dNot, dCB, dCons, dVar, dC, dNil, dSeq, dAsg, dgName, dIfS, dNever, dTest, dAndT, dOrT, dNotT, dIf, dBin, dUn, dChain, dstart, dPar, dPar3, dDrop, dFor, dIter, dRng1, dRng2, dNext, dTup, dLst, dCall, dMeth, dProp, dFld, dSetF, dM, dJoined, dJs, dLc, dDc, dSlice, dPart, dNoP, dRetF, dYes, dgSub, dwipe, dEnum, dZip, dTxt, ownD, dMethK, q_plus_int, q_plus_str, q_plus_tup, q_plus_lst, q_fII, q_minus, q_fdiv, q_mod, q_pow, q_mul, q_rep, q_ord_int, q_ord_str, q_len_str, q_len_tup, q_len_lst, q_len_scr, q_len_ref, q_neg, q_fmt_int, q_fmt_str, q_str_int, q_str_str, q_int_int, q_int_bl, q_int_str, q_bool_int, q_bool_bl, q_abs, q_max, q_min, q_divmod, q_ix_tup, q_ix_lst, q_ix_ref, q_ix_scr, q_ix_str, q_sl_tup, q_sl_str, q_sl_lst, q_sl_scr, q_tuple_lst, q_tuple_tup, q_tuple_ref, q_in_dic, q_in_tup, q_in_ref, q_in_lst, q_items_lst, q_items_tup, q_items_scr, q_items_str, q_ins, q_ty_int, q_ty_str, q_ty_tup, q_ty_lst, q_ty_non, q_ty_bl, q_ty_ins, q_all, q_gtup, q_gcons, q_gnil, q_join, q_append, q_count, q_isdigit, q_split, ltD, leD, gtD, geD, isStrD, valN, clsD, List.map_cons, List.map_nil, List.length_cons, List.length_nil, List.replicate_zero, List.replicate_succ, List.cons_append, List.nil_append, List.append_nil, List.getElem?_cons_zero, List.getElem?_cons_succ, List.set_cons_zero, List.set_cons_succ, List.zip_cons_cons, List.zip_nil_left, List.zip_nil_right, List.lookup_cons, List.lookup_nil, Option.some.injEq, exists_eq_left', exists_eq_left, exists_eq', exists_eq, HD.D.bl.injEq, HD.D.int.injEq, HD.D.str.injEq, HD.D.tup.injEq, HD.D.lst.injEq, HD.D.ref.injEq, List.cons.injEq, and_true, true_and, if_true, if_false, Bool.false_eq_true, ite_true, ite_false, Bool.not_true, Bool.not_false, Int.cast_ofNat_Int, beq_self_eq_true, Nat.sub_self, Nat.reduceSub, Nat.reduceAdd, reduceIte]
    refine hN _ _ ?_
    clear hN N
    refine seq_step fun N hN => ?_
    simp only [cx_K, nox_K, dRet, dRetN, dAnd, dOr, dNot, dCB, dCons, dVar, dC, dNil, dSeq, dAsg, dgName, dIfS, dNever, dTest, dAndT, dOrT, dNotT, dIf, dBin, dUn, dChain, dstart, dPar, dPar3, dDrop, dFor, dIter, dRng1, dRng2, dNext, dTup, dLst, dCall, dMeth, dProp, dFld, dSetF, dM, dJoined, dJs, dLc, dDc, dSlice, dPart, dNoP, dRetF, dYes, dgSub, dwipe, dEnum, dZip, dTxt, ownD, dMethK, q_plus_int, q_plus_str, q_plus_tup, q_plus_lst, q_fII, q_minus, q_fdiv, q_mod, q_pow, q_mul, q_rep, q_ord_int, q_ord_str, q_len_str, q_len_tup, q_len_lst, q_len_scr, q_len_ref, q_neg, q_fmt_int, q_fmt_str, q_str_int, q_str_str, q_int_int, q_int_bl, q_int_str, q_bool_int, q_bool_bl, q_abs, q_max, q_min, q_divmod, q_ix_tup, q_ix_lst, q_ix_ref, q_ix_scr, q_ix_str, q_sl_tup, q_sl_str, q_sl_lst, q_sl_scr, q_tuple_lst, q_tuple_tup, q_tuple_ref, q_in_dic, q_in_tup, q_in_ref, q_in_lst, q_items_lst, q_items_tup, q_items_scr, q_items_str, q_ins, q_ty_int, q_ty_str, q_ty_tup, q_ty_lst, q_ty_non, q_ty_bl, q_ty_ins, q_all, q_gtup, q_gcons, q_gnil, q_join, q_append, q_count, q_isdigit, q_split, ltD, leD, gtD, geD, isStrD, valN, clsD, List.map_cons, List.map_nil, List.length_cons, List.length_nil, List.replicate_zero, List.replicate_succ, List.cons_append, List.nil_append, List.append_nil, List.getElem?_cons_zero, List.getElem?_cons_succ, List.set_cons_zero, List.set_cons_succ, List.zip_cons_cons, List.zip_nil_left, List.zip_nil_right, List.lookup_cons, List.lookup_nil, Option.some.injEq, exists_eq_left', exists_eq_left, exists_eq', exists_eq, HD.D.bl.injEq, HD.D.int.injEq, HD.D.str.injEq, HD.D.tup.injEq, HD.D.lst.injEq, HD.D.ref.injEq, List.cons.injEq, and_true, true_and, if_true, if_false, Bool.false_eq_true, ite_true, ite_false, Bool.not_true, Bool.not_false, Int.cast_ofNat_Int, beq_self_eq_true, Nat.sub_self, Nat.reduceSub, Nat.reduceAdd, reduceIte]
    refine ⟨_, _, seqL_ref hm1, rfl, ?_⟩
    simp only [cx_K, nox_K, dRet, dRetN, dAnd, dOr, dNot, dCB, dCons, dVar, dC, dNil, dSeq, dAsg, dgName, dIfS, dNever, dTest, dAndT, dOrT, dNotT, dIf, dBin, dUn, dChain, dstart, dPar, dPar3, dDrop, dFor, dIter, dRng1, dRng2, dNext, dTup, dLst, dCall, dMeth, dProp, dFld, dSetF, dM, dJoined, dJs, dLc, dDc, dSlice, dPart, dNoP, dRetF, dYes, dgSub, dwipe, dEnum, dZip, dTxt, ownD, dMethK, q_plus_int, q_plus_str, q_plus_tup, q_plus_lst, q_fII, q_minus, q_fdiv, q_mod, q_pow, q_mul, q_rep, q_ord_int, q_ord_str, q_len_str, q_len_tup, q_len_lst, q_len_scr, q_len_ref, q_neg, q_fmt_int, q_fmt_str, q_str_int, q_str_str, q_int_int, q_int_bl, q_int_str, q_bool_int, q_bool_bl, q_abs, q_max, q_min, q_divmod, q_ix_tup, q_ix_lst, q_ix_ref, q_ix_scr, q_ix_str, q_sl_tup, q_sl_str, q_sl_lst, q_sl_scr, q_tuple_lst, q_tuple_tup, q_tuple_ref, q_in_dic, q_in_tup, q_in_ref, q_in_lst, q_items_lst, q_items_tup, q_items_scr, q_items_str, q_ins, q_ty_int, q_ty_str, q_ty_tup, q_ty_lst, q_ty_non, q_ty_bl, q_ty_ins, q_all, q_gtup, q_gcons, q_gnil, q_join, q_append, q_count, q_isdigit, q_split, ltD, leD, gtD, geD, isStrD, valN, clsD, List.map_cons, List.map_nil, List.length_cons, List.length_nil, List.replicate_zero, List.replicate_succ, List.cons_append, List.nil_append, List.append_nil, List.getElem?_cons_zero, List.getElem?_cons_succ, List.set_cons_zero, List.set_cons_succ, List.zip_cons_cons, List.zip_nil_left, List.zip_nil_right, List.lookup_cons, List.lookup_nil, Option.some.injEq, exists_eq_left', exists_eq_left, exists_eq', exists_eq, HD.D.bl.injEq, HD.D.int.injEq, HD.D.str.injEq, HD.D.tup.injEq, HD.D.lst.injEq, HD.D.ref.injEq, List.cons.injEq, and_true, true_and, if_true, if_false, Bool.false_eq_true, ite_true, ite_false, Bool.not_true, Bool.not_false, Int.cast_ofNat_Int, beq_self_eq_true, Nat.sub_self, Nat.reduceSub, Nat.reduceAdd, reduceIte]
    have c1 : 0 ≤ st % 46337 ∧ st % 46337 < 46337 := ⟨Int.emod_nonneg _ (by decide), Int.emod_lt_of_pos _ (by decide)⟩
    refine ⟨by decide, .inr ⟨by omega, by omega⟩, by decide, ?_⟩
    generalize hv : ((st + (n + 1)) * (st % 46337 + 30011) + 90001) % 1000000007 = v
    have v0 : 0 ≤ v := by rw [← hv]; exact Int.emod_nonneg _ (by decide)
    have v1 : v < 1000000007 := by rw [← hv]; exact Int.emod_lt_of_pos _ (by decide)
    refine ⟨_, _, _, _, rfl, rfl, hm1, rfl, ?_⟩
    refine hN _ _ ?_
    clear hN N
    rw [mput_mput]
    have hm2 : mput M a (.lst [.int g, .int v, .int (n + 1)]) a = some (.lst [.int g, .int v, .int (n + 1)]) := mput_same
    show dSeq _ _ _ _ (mput M a (.lst [.int g, .int v, .int (n + 1)]))
    refine seq_step fun N hN => ?_
    simp only [cx_K, nox_K, dRet, dRetN, dAnd, dOr, dNot, dCB, dCons, dVar, dC, dNil, dSeq, dAsg, dgName, dIfS, dNever, dTest, dAndT, dOrT, dNotT, dIf, dBin, dUn, dChain, dstart, dPar, dPar3, dDrop, dFor, dIter, dRng1, dRng2, dNext, dTup, dLst, dCall, dMeth, dProp, dFld, dSetF, dM, dJoined, dJs, dLc, dDc, dSlice, dPart, dNoP, dRetF, dYes, dgSub, dwipe, dEnum, dZip, dTxt, ownD, dMethK, q_plus_int, q_plus_str, q_plus_tup, q_plus_lst, q_fII, q_minus, q_fdiv, q_mod, q_pow, q_mul, q_rep, q_ord_int, q_ord_str, q_len_str, q_len_tup, q_len_lst, q_len_scr, q_len_ref, q_neg, q_fmt_int, q_fmt_str, q_str_int, q_str_str, q_int_int, q_int_bl, q_int_str, q_bool_int, q_bool_bl, q_abs, q_max, q_min, q_divmod, q_ix_tup, q_ix_lst, q_ix_ref, q_ix_scr, q_ix_str, q_sl_tup, q_sl_str, q_sl_lst, q_sl_scr, q_tuple_lst, q_tuple_tup, q_tuple_ref, q_in_dic, q_in_tup, q_in_ref, q_in_lst, q_items_lst, q_items_tup, q_items_scr, q_items_str, q_ins, q_ty_int, q_ty_str, q_ty_tup, q_ty_lst, q_ty_non, q_ty_bl, q_ty_ins, q_all, q_gtup, q_gcons, q_gnil, q_join, q_append, q_count, q_isdigit, q_split, ltD, leD, gtD, geD, isStrD, valN, clsD, List.map_cons, List.map_nil, List.length_cons, List.length_nil, List.replicate_zero, List.replicate_succ, List.cons_append, List.nil_append, List.append_nil, List.getElem?_cons_zero, List.getElem?_cons_succ, List.set_cons_zero, List.set_cons_succ, List.zip_cons_cons, List.zip_nil_left, List.zip_nil_right, List.lookup_cons, List.lookup_nil, Option.some.injEq, exists_eq_left', exists_eq_left, exists_eq', exists_eq, HD.D.bl.injEq, HD.D.int.injEq, HD.D.str.injEq, HD.D.tup.injEq, HD.D.lst.injEq, HD.D.ref.injEq, List.cons.injEq, and_true, true_and, if_true, if_false, Bool.false_eq_true, ite_true, ite_false, Bool.not_true, Bool.not_false, Int.cast_ofNat_Int, beq_self_eq_true, Nat.sub_self, Nat.reduceSub, Nat.reduceAdd, reduceIte]
    refine ⟨_, _, seqL_ref hm2, rfl, ?_⟩
    simp only [cx_K, nox_K, dRet, dRetN, dAnd, dOr, dNot, dCB, dCons, dVar, dC, dNil, dSeq, dAsg, dgName, dIfS, dNever, dTest, dAndT, dOrT, dNotT, dIf, dBin, dUn, dChain, dstart, dPar, dPar3, dDrop, dFor, dIter, dRng1, dRng2, dNext, dTup, dLst, dCall, dMeth, dProp, dFld, dSetF, dM, dJoined, dJs, dLc, dDc, dSlice, dPart, dNoP, dRetF, dYes, dgSub, dwipe, dEnum, dZip, dTxt, ownD, dMethK, q_plus_int, q_plus_str, q_plus_tup, q_plus_lst, q_fII, q_minus, q_fdiv, q_mod, q_pow, q_mul, q_rep, q_ord_int, q_ord_str, q_len_str, q_len_tup, q_len_lst, q_len_scr, q_len_ref, q_neg, q_fmt_int, q_fmt_str, q_str_int, q_str_str, q_int_int, q_int_bl, q_int_str, q_bool_int, q_bool_bl, q_abs, q_max, q_min, q_divmod, q_ix_tup, q_ix_lst, q_ix_ref, q_ix_scr, q_ix_str, q_sl_tup, q_sl_str, q_sl_lst, q_sl_scr, q_tuple_lst, q_tuple_tup, q_tuple_ref, q_in_dic, q_in_tup, q_in_ref, q_in_lst, q_items_lst, q_items_tup, q_items_scr, q_items_str, q_ins, q_ty_int, q_ty_str, q_ty_tup, q_ty_lst, q_ty_non, q_ty_bl, q_ty_ins, q_all, q_gtup, q_gcons, q_gnil, q_join, q_append, q_count, q_isdigit, q_split, ltD, leD, gtD, geD, isStrD, valN, clsD, List.map_cons, List.map_nil, List.length_cons, List.length_nil, List.replicate_zero, List.replicate_succ, List.cons_append, List.nil_append, List.append_nil, List.getElem?_cons_zero, List.getElem?_cons_succ, List.set_cons_zero, List.set_cons_succ, List.zip_cons_cons, List.zip_nil_left, List.zip_nil_right, List.lookup_cons, List.lookup_nil, Option.some.injEq, exists_eq_left', exists_eq_left, exists_eq', exists_eq, HD.D.bl.injEq, HD.D.int.injEq, HD.D.str.injEq, HD.D.tup.injEq, HD.D.lst.injEq, HD.D.ref.injEq, List.cons.injEq, and_true, true_and, if_true, if_false, Bool.false_eq_true, ite_true, ite_false, Bool.not_true, Bool.not_false, Int.cast_ofNat_Int, beq_self_eq_true, Nat.sub_self, Nat.reduceSub, Nat.reduceAdd, reduceIte]
    by_cases z : 0 < g
    · rw [if_pos (decide_eq_true z)]
      refine ⟨_, _, seqL_ref hm2, rfl, ?_⟩
      simp only [cx_K, nox_K, dRet, dRetN, dAnd, dOr, dNot, dCB, dCons, dVar, dC, dNil, dSeq, dAsg, dgName, dIfS, dNever, dTest, dAndT, dOrT, dNotT, dIf, dBin, dUn, dChain, dstart, dPar, dPar3, dDrop, dFor, dIter, dRng1, dRng2, dNext, dTup, dLst, dCall, dMeth, dProp, dFld, dSetF, dM, dJoined, dJs, dLc, dDc, dSlice, dPart, dNoP, dRetF, dYes, dgSub, dwipe, dEnum, dZip, dTxt, ownD, dMethK, q_plus_int, q_plus_str, q_plus_tup, q_plus_lst, q_fII, q_minus, q_fdiv, q_mod, q_pow, q_mul, q_rep, q_ord_int, q_ord_str, q_len_str, q_len_tup, q_len_lst, q_len_scr, q_len_ref, q_neg, q_fmt_int, q_fmt_str, q_str_int, q_str_str, q_int_int, q_int_bl, q_int_str, q_bool_int, q_bool_bl, q_abs, q_max, q_min, q_divmod, q_ix_tup, q_ix_lst, q_ix_ref, q_ix_scr, q_ix_str, q_sl_tup, q_sl_str, q_sl_lst, q_sl_scr, q_tuple_lst, q_tuple_tup, q_tuple_ref, q_in_dic, q_in_tup, q_in_ref, q_in_lst, q_items_lst, q_items_tup, q_items_scr, q_items_str, q_ins, q_ty_int, q_ty_str, q_ty_tup, q_ty_lst, q_ty_non, q_ty_bl, q_ty_ins, q_all, q_gtup, q_gcons, q_gnil, q_join, q_append, q_count, q_isdigit, q_split, ltD, leD, gtD, geD, isStrD, valN, clsD, List.map_cons, List.map_nil, List.length_cons, List.length_nil, List.replicate_zero, List.replicate_succ, List.cons_append, List.nil_append, List.append_nil, List.getElem?_cons_zero, List.getElem?_cons_succ, List.set_cons_zero, List.set_cons_succ, List.zip_cons_cons, List.zip_nil_left, List.zip_nil_right, List.lookup_cons, List.lookup_nil, Option.some.injEq, exists_eq_left', exists_eq_left, exists_eq', exists_eq, HD.D.bl.injEq, HD.D.int.injEq, HD.D.str.injEq, HD.D.tup.injEq, HD.D.lst.injEq, HD.D.ref.injEq, List.cons.injEq, and_true, true_and, if_true, if_false, Bool.false_eq_true, ite_true, ite_false, Bool.not_true, Bool.not_false, Int.cast_ofNat_Int, beq_self_eq_true, Nat.sub_self, Nat.reduceSub, Nat.reduceAdd, reduceIte]
      refine ⟨⟨m0, m1⟩, _, _, _, _, rfl, rfl, hm2, rfl, ?_⟩
      rw [mput_mput]
      refine Ret.of (h _ (g / m) v (n + 1) (Int.emod_nonneg _ (by omega)) (Int.emod_lt_of_pos _ m0) ⟨Int.ediv_nonneg g0 (by omega), v0, v1, by omega⟩)
    · rw [if_neg (fun e => z (of_decide_eq_true e))]
      refine hN _ _ ?_
      clear hN N
      simp only [cx_K, nox_K, dRet, dRetN, dAnd, dOr, dNot, dCB, dCons, dVar, dC, dNil, dSeq, dAsg, dgName, dIfS, dNever, dTest, dAndT, dOrT, dNotT, dIf, dBin, dUn, dChain, dstart, dPar, dPar3, dDrop, dFor, dIter, dRng1, dRng2, dNext, dTup, dLst, dCall, dMeth, dProp, dFld, dSetF, dM, dJoined, dJs, dLc, dDc, dSlice, dPart, dNoP, dRetF, dYes, dgSub, dwipe, dEnum, dZip, dTxt, ownD, dMethK, q_plus_int, q_plus_str, q_plus_tup, q_plus_lst, q_fII, q_minus, q_fdiv, q_mod, q_pow, q_mul, q_rep, q_ord_int, q_ord_str, q_len_str, q_len_tup, q_len_lst, q_len_scr, q_len_ref, q_neg, q_fmt_int, q_fmt_str, q_str_int, q_str_str, q_int_int, q_int_bl, q_int_str, q_bool_int, q_bool_bl, q_abs, q_max, q_min, q_divmod, q_ix_tup, q_ix_lst, q_ix_ref, q_ix_scr, q_ix_str, q_sl_tup, q_sl_str, q_sl_lst, q_sl_scr, q_tuple_lst, q_tuple_tup, q_tuple_ref, q_in_dic, q_in_tup, q_in_ref, q_in_lst, q_items_lst, q_items_tup, q_items_scr, q_items_str, q_ins, q_ty_int, q_ty_str, q_ty_tup, q_ty_lst, q_ty_non, q_ty_bl, q_ty_ins, q_all, q_gtup, q_gcons, q_gnil, q_join, q_append, q_count, q_isdigit, q_split, ltD, leD, gtD, geD, isStrD, valN, clsD, List.map_cons, List.map_nil, List.length_cons, List.length_nil, List.replicate_zero, List.replicate_succ, List.cons_append, List.nil_append, List.append_nil, List.getElem?_cons_zero, List.getElem?_cons_succ, List.set_cons_zero, List.set_cons_succ, List.zip_cons_cons, List.zip_nil_left, List.zip_nil_right, List.lookup_cons, List.lookup_nil, Option.some.injEq, exists_eq_left', exists_eq_left, exists_eq', exists_eq, HD.D.bl.injEq, HD.D.int.injEq, HD.D.str.injEq, HD.D.tup.injEq, HD.D.lst.injEq, HD.D.ref.injEq, List.cons.injEq, and_true, true_and, if_true, if_false, Bool.false_eq_true, ite_true, ite_false, Bool.not_true, Bool.not_false, Int.cast_ofNat_Int, beq_self_eq_true, Nat.sub_self, Nat.reduceSub, Nat.reduceAdd, reduceIte]
      refine ⟨_, _, seqL_ref hm2, rfl, ?_⟩
      simp only [cx_K, nox_K, dRet, dRetN, dAnd, dOr, dNot, dCB, dCons, dVar, dC, dNil, dSeq, dAsg, dgName, dIfS, dNever, dTest, dAndT, dOrT, dNotT, dIf, dBin, dUn, dChain, dstart, dPar, dPar3, dDrop, dFor, dIter, dRng1, dRng2, dNext, dTup, dLst, dCall, dMeth, dProp, dFld, dSetF, dM, dJoined, dJs, dLc, dDc, dSlice, dPart, dNoP, dRetF, dYes, dgSub, dwipe, dEnum, dZip, dTxt, ownD, dMethK, q_plus_int, q_plus_str, q_plus_tup, q_plus_lst, q_fII, q_minus, q_fdiv, q_mod, q_pow, q_mul, q_rep, q_ord_int, q_ord_str, q_len_str, q_len_tup, q_len_lst, q_len_scr, q_len_ref, q_neg, q_fmt_int, q_fmt_str, q_str_int, q_str_str, q_int_int, q_int_bl, q_int_str, q_bool_int, q_bool_bl, q_abs, q_max, q_min, q_divmod, q_ix_tup, q_ix_lst, q_ix_ref, q_ix_scr, q_ix_str, q_sl_tup, q_sl_str, q_sl_lst, q_sl_scr, q_tuple_lst, q_tuple_tup, q_tuple_ref, q_in_dic, q_in_tup, q_in_ref, q_in_lst, q_items_lst, q_items_tup, q_items_scr, q_items_str, q_ins, q_ty_int, q_ty_str, q_ty_tup, q_ty_lst, q_ty_non, q_ty_bl, q_ty_ins, q_all, q_gtup, q_gcons, q_gnil, q_join, q_append, q_count, q_isdigit, q_split, ltD, leD, gtD, geD, isStrD, valN, clsD, List.map_cons, List.map_nil, List.length_cons, List.length_nil, List.replicate_zero, List.replicate_succ, List.cons_append, List.nil_append, List.append_nil, List.getElem?_cons_zero, List.getElem?_cons_succ, List.set_cons_zero, List.set_cons_succ, List.zip_cons_cons, List.zip_nil_left, List.zip_nil_right, List.lookup_cons, List.lookup_nil, Option.some.injEq, exists_eq_left', exists_eq_left, exists_eq', exists_eq, HD.D.bl.injEq, HD.D.int.injEq, HD.D.str.injEq, HD.D.tup.injEq, HD.D.lst.injEq, HD.D.ref.injEq, List.cons.injEq, and_true, true_and, if_true, if_false, Bool.false_eq_true, ite_true, ite_false, Bool.not_true, Bool.not_false, Int.cast_ofNat_Int, beq_self_eq_true, Nat.sub_self, Nat.reduceSub, Nat.reduceAdd, reduceIte]
      refine ⟨⟨by decide, by decide⟩, m0, ?_⟩
      refine Ret.of (h _ g v (n + 1) (Int.emod_nonneg _ (by omega)) (Int.emod_lt_of_pos _ m0) ⟨g0, v0, v1, by omega⟩)
theorem cal__law_roll (F : Fc K mg) : CalD P w K mg base 1 "_law_roll" c_roll [] := by
  obtain ⟨fd, D⟩ := F.d_law_roll
  refine calD_N D (fn_law_roll F D) F.g__law_roll ?_
  exact fun _ _ _ _ _ _ us hl => match us, hl with | [_, _], _ => rfl
theorem Ret_put {R : D → Mm → Prop} {d : D} {M : Mm} {a b : Addr} {m n : MO} (hb : M b = none) (h : R d (mput M a m)) : Ret R d (mput (mput M b n) a m) := by
  refine ⟨mput M a m, fun x q e => ?_, h⟩
  unfold mput at e ⊢
  by_cases h1 : x = a
  · rw [if_pos h1] at e ⊢
    exact e
  · rw [if_neg h1] at e ⊢
    by_cases h2 : x = b
    · subst h2
      rw [hb] at e
      cases e
    · rw [if_neg h2]
      exact e
def lettersD (cs : List Nat) : D := .lst (cs.map fun c => D.str (chS c))
structure OkC (cs : List Nat) : Prop where
  up : cs.Pairwise (· < ·)
  ch : ∀ c ∈ cs, 65 ≤ c ∧ c ≤ 90
theorem mput_id {M : Mm} {a : Addr} {m : MO} (h : M a = some m) : mput M a m = M := by
  funext x
  unfold mput
  by_cases e : x = a
  · rw [if_pos e, e, h]
  · rw [if_neg e]
def strsD (cs : List Nat) : List D := cs.map fun c => D.str (chS c)
theorem mem_strs (c : Nat) (cs : List Nat) : memD (.str (chS c)) (strsD cs) = cs.contains c := by
  unfold memD strsD
  induction cs with
  | nil => rfl
  | cons d cs ih =>
    rw [List.map_cons, List.any_cons, ih, List.contains_cons]
    congr 1
    show eqV (.str (chS d)) (.str (chS c)) = (c == d)
    by_cases z : c = d
    · subst z
      unfold eqV
      simp
    · have z1 : (c == d) = false := by simpa using z
      rw [z1]
      unfold eqV chS
      simp
      exact fun e => z e.symm
theorem flat_strs (cs : List Nat) : (strsD cs).all flatD = true := by
  unfold strsD
  induction cs with
  | nil => rfl
  | cons c cs ih => rw [List.map_cons, List.all_cons, ih]; rfl
def AZ : List Nat := (Str.ofString "ABCDEFGHIJKLMNOPQRSTUVWXYZ").cps.toList
theorem AZ_eq : AZ = (List.range 26).map (· + 65) := by decide +kernel
theorem AZ_nd : AZ.Nodup := by decide +kernel
theorem AZ_len : AZ.length = 26 := by decide +kernel
theorem AZ_mem {c : Nat} (h : c ∈ AZ) : 65 ≤ c ∧ c ≤ 90 := by
  rw [AZ_eq] at h
  obtain ⟨i, hi, rfl⟩ := List.mem_map.mp h
  have := List.mem_range.mp hi
  omega
def restOf (F : List Nat) : List Nat := AZ.filter fun c => !F.contains c
theorem rest_pos {F : List Nat} (h : F.length < 26) : 0 < (restOf F).length := by
  rcases Nat.eq_zero_or_pos (restOf F).length with z | z
  · exfalso
    have e := List.length_eq_zero_iff.mp z
    have sub : AZ ⊆ F := fun c hc => by
      by_cases m : c ∈ F
      · exact m
      · have : c ∈ restOf F := List.mem_filter.mpr ⟨hc, by simpa using m⟩
        rw [e] at this
        cases this
    have := List.Nodup.length_le_of_subset AZ_nd sub
    rw [AZ_len] at this
    omega
  · exact z
theorem rest_le (F : List Nat) : (restOf F).length ≤ 26 := by
  have := List.length_filter_le (fun c => !F.contains c) AZ
  rw [AZ_len] at this
  exact this
theorem rest_map (F : List Nat) : AZ.filterMap (fun c => if F.contains c = true then none else some (D.str (chS c))) = strsD (restOf F) := by
  unfold restOf strsD
  generalize AZ = l
  induction l with
  | nil => rfl
  | cons c l ih =>
    cases z : F.contains c with
    | true =>
      rw [List.filterMap_cons_none (by rw [z]; rfl), List.filter_cons_of_neg (by rw [z]; simp), ih]
    | false =>
      rw [List.filterMap_cons_some (b := D.str (chS c)) (by rw [z]; rfl), List.filter_cons_of_pos (by rw [z]; rfl), List.map_cons, ih]
theorem at_strs {cs : List Nat} {r : Int} (h0 : 0 ≤ r) (h1 : r < cs.length) : ∃ c ∈ cs, atI (strsD cs) r = some (.str (chS c)) := by
  have hl : r.toNat < cs.length := by omega
  refine ⟨cs[r.toNat], List.getElem_mem hl, ?_⟩
  unfold atI ixN strsD
  rw [List.length_map, if_pos h0, if_pos h1]
  simp [hl]
theorem rgD_succ (lo : Int) (n : Nat) : rgD lo (n + 1) = D.int lo :: rgD (lo + 1) n := by
  unfold rgD
  rw [List.range_succ_eq_map, List.map_cons, List.map_map]
  congr 1
  · rw [Int.natCast_zero, Int.add_zero]
  · refine List.map_congr_left fun k _ => ?_
    show D.int (lo + ((k + 1 : Nat) : Int)) = D.int (lo + 1 + (k : Int))
    congr 1
    omega
theorem chS_inj {a b : Nat} (h : chS a = chS b) : a = b := by
  unfold chS at h
  simpa using h
theorem perm_chS {ys : List Str} {F : List Nat} (h : ys.Perm (F.map chS)) : ∃ cs : List Nat, ys = cs.map chS ∧ cs.Perm F := by
  refine ⟨ys.map fun s => s.cps.getD 0 0, ?_, ?_⟩
  · rw [List.map_map]
    have e : ∀ y ∈ ys, (chS ∘ fun s : Str => s.cps.getD 0 0) y = y := fun y hy => by
      obtain ⟨c, _, rfl⟩ := List.mem_map.mp (h.mem_iff.mp hy)
      rfl
    conv => lhs; rw [← List.map_id ys]
    exact (List.map_congr_left e).symm
  · have e := h.map fun s : Str => s.cps.getD 0 0
    rw [List.map_map] at e
    have e2 : F.map ((fun s : Str => s.cps.getD 0 0) ∘ chS) = F := by
      conv => rhs; rw [← List.map_id F]
      exact List.map_congr_left fun c _ => rfl
    rw [e2] at e
    exact e
theorem rising_chS : ∀ (cs : List Nat) (c : Nat), risingS (chS c) (cs.map chS) = true → (∀ d ∈ cs, c ≤ d) ∧ cs.Pairwise (· ≤ ·)
  | [], c, _ => ⟨fun d hd => (by cases hd), List.Pairwise.nil⟩
  | d :: cs, c, h => by
    rw [List.map_cons] at h
    unfold risingS at h
    obtain ⟨h1, h2⟩ := Bool.and_eq_true_iff.mp h
    obtain ⟨r1, r2⟩ := rising_chS cs d h2
    have e : c ≤ d := by
      have e1 : ltCps [d] [c] = false := by
        cases z : ltCps [d] [c] with
        | false => rfl
        | true =>
          have h1' : (!ltCps [d] [c]) = true := h1
          rw [z] at h1'
          cases h1'
      unfold ltCps at e1
      simp at e1
      omega
    refine ⟨fun x hx => ?_, List.pairwise_cons.mpr ⟨r1, r2⟩⟩
    rcases List.mem_cons.mp hx with rfl | hx
    · exact e
    · exact Nat.le_trans e (r1 x hx)
theorem sortedS_chS {cs : List Nat} (h : sortedS (cs.map chS) = true) (nd : cs.Nodup) : cs.Pairwise (· < ·) := by
  have p : cs.Pairwise (· ≤ ·) := by
    cases cs with
    | nil => exact List.Pairwise.nil
    | cons c cs =>
      obtain ⟨r1, r2⟩ := rising_chS cs c h
      exact List.pairwise_cons.mpr ⟨r1, r2⟩
  exact (List.pairwise_and_iff.mpr ⟨p, nd⟩).imp fun ⟨h1, h2⟩ => by omega
def c_letters : DSp := fun ds M P => ∃ (a : Addr) (k : Nat) (g st n : Int), ds = [.ref a, .int k] ∧ (M a = some (puL g st n) ∧ Pv g st n ∧ k ≤ 26) ∧ ∀ cs g' st' n', cs.length = k → OkC cs → Pv g' st' n' → P (lettersD cs) (mput M a (puL g' st' n'))
theorem sc_law_letters : FnScope ["_law_purse_here", "_law_many", "_law_found", "_law_turn", "_law_left", "_law_letter"] ["_law_purse_here", "_law_many"] (defScope (top 24)) := ⟨rfl, rfl, rfl, by decide +kernel, rfl, by decide +kernel, by decide +kernel⟩
theorem fn_law_letters (F : Fc K mg) {fd : FuncData} (dF : FunD K "_law_letters" "_law_letters" (defArgs (top 24)) (defBody (top 24)) (defScope (top 24)) [] [] ((gloA "_law_letters") K) fd) : FnG P w K mg base 2 ((gloA "_law_letters") K) fd ["_law_purse_here", "_law_many"] (spOf K c_letters) := by
  have nd := sc_law_letters.nd
  refine fnG_D dF sc_law_letters (fun ds M R h => ?_) fun cd A outer s H hr => ⟨_, (b_cons (s_set (i := 2) nd rfl (by first | exact .inl rfl | exact .inr rfl) (j_lstM a_nil))
      (b_cons (s_for PassesOwn.never rfl (i_rng1 F.n_range (jv 1)) (g_name (i := 3) nd rfl (by first | exact .inl rfl | exact .inr rfl))
      (b_cons (s_setLc rfl nd (i := 4) rfl rfl rfl (own := [("_law_letter", 5)]) (by show BlkOk ["_law_purse_here", "_law_many", "_law_found", "_law_turn", "_law_left", "_law_letter"] (defScope (top 24)) _ [("_law_letter", 5)]; constructor <;> first | rfl | decide +kernel) (i_any j_str) (fun _ _ _ _ _ => (gw_name (i := 5) nd rfl (by first | exact .inl rfl | exact .inr rfl) (by decide))) (fun _ _ _ _ _ => (ts_one (t_nin (hu_of hr.rm) (jv 5) (jv 2)))) (fun _ _ _ _ _ => (jv 5)))
      (b_one (s_expr (j_append (jv 2) (j_ix (jv 4) (j_call (cal__law_roll F) hr (by decide) (a_cons (jv 0) (a_cons (j_cb call_len lc_len F.n_len rfl (a_cons (jv 4) a_nil) rfl (by decide) (by decide) rfl rfl) a_nil)))))))))
      (b_one (s_ret (j_cb (cr_sortedTI.or (cr_sortedI.or cr_sortedS)) lc_sortedT F.n_sorted rfl (a_cons (jv 2) a_nil) rfl (by decide) (by decide) rfl rfl))))), ?_⟩
  · obtain ⟨_, _, _, _, _, rfl, _⟩ := h; rfl
  · intro ds M R h
    obtain ⟨a, k, g, st, n, rfl, ⟨hm, pv, hk⟩, h⟩ := h
    refine seq_step fun N hN => ?_
    simp only [cx_K, nox_K, dRet, dRetN, dAnd, dOr, dNot, dCB, dCons, dVar, dC, dNil, dSeq, dAsg, dgName, dIfS, dNever, dTest, dAndT, dOrT, dNotT, dIf, dBin, dUn, dChain, dstart, dPar, dPar3, dDrop, dFor, dIter, dRng1, dRng2, dNext, dTup, dLst, dCall, dMeth, dProp, dFld, dSetF, dM, dJoined, dJs, dLc, dDc, dSlice, dPart, dNoP, dRetF, dYes, dgSub, dwipe, dEnum, dZip, dTxt, ownD, dMethK, q_plus_int, q_plus_str, q_plus_tup, q_plus_lst, q_fII, q_minus, q_fdiv, q_mod, q_pow, q_mul, q_rep, q_ord_int, q_ord_str, q_len_str, q_len_tup, q_len_lst, q_len_scr, q_len_ref, q_neg, q_fmt_int, q_fmt_str, q_str_int, q_str_str, q_int_int, q_int_bl, q_int_str, q_bool_int, q_bool_bl, q_abs, q_max, q_min, q_divmod, q_ix_tup, q_ix_lst, q_ix_ref, q_ix_scr, q_ix_str, q_sl_tup, q_sl_str, q_sl_lst, q_sl_scr, q_tuple_lst, q_tuple_tup, q_tuple_ref, q_in_dic, q_in_tup, q_in_ref, q_in_lst, q_items_lst, q_items_tup, q_items_scr, q_items_str, q_ins, q_ty_int, q_ty_str, q_ty_tup, q_ty_lst, q_ty_non, q_ty_bl, q_ty_ins, q_all, q_gtup, q_gcons, q_gnil, q_join, q_append, q_count, q_isdigit, q_split, ltD, leD, gtD, geD, isStrD, valN, clsD, List.map_cons, List.map_nil, List.length_cons, List.length_nil, List.replicate_zero, List.replicate_succ, List.cons_append, List.nil_append, List.append_nil, List.getElem?_cons_zero, List.getElem?_cons_succ, List.set_cons_zero, List.set_cons_succ, List.zip_cons_cons, List.zip_nil_left, List.zip_nil_right, List.lookup_cons, List.lookup_nil, Option.some.injEq, exists_eq_left', exists_eq_left, exists_eq', exists_eq, HD.D.bl.injEq, HD.D.int.injEq, HD.D.str.injEq, HD.D.tup.injEq, HD.D.lst.injEq, HD.D.ref.injEq, List.cons.injEq, and_true, true_and, if_true, if_false, Bool.false_eq_true, ite_true, ite_false, Bool.not_true, Bool.not_false, Int.cast_ofNat_Int, beq_self_eq_true, Nat.sub_self, Nat.reduceSub, Nat.reduceAdd, reduceIte]
    refine ⟨by decide, fun b hb => ?_⟩
    refine hN _ _ ?_
    clear hN N
    have hab : b ≠ a := by
      rintro rfl
      rw [hm] at hb
      cases hb
    refine seq_step fun N hN => ?_
    simp only [cx_K, nox_K, dRet, dRetN, dAnd, dOr, dNot, dCB, dCons, dVar, dC, dNil, dSeq, dAsg, dgName, dIfS, dNever, dTest, dAndT, dOrT, dNotT, dIf, dBin, dUn, dChain, dstart, dPar, dPar3, dDrop, dFor, dIter, dRng1, dRng2, dNext, dTup, dLst, dCall, dMeth, dProp, dFld, dSetF, dM, dJoined, dJs, dLc, dDc, dSlice, dPart, dNoP, dRetF, dYes, dgSub, dwipe, dEnum, dZip, dTxt, ownD, dMethK, q_plus_int, q_plus_str, q_plus_tup, q_plus_lst, q_fII, q_minus, q_fdiv, q_mod, q_pow, q_mul, q_rep, q_ord_int, q_ord_str, q_len_str, q_len_tup, q_len_lst, q_len_scr, q_len_ref, q_neg, q_fmt_int, q_fmt_str, q_str_int, q_str_str, q_int_int, q_int_bl, q_int_str, q_bool_int, q_bool_bl, q_abs, q_max, q_min, q_divmod, q_ix_tup, q_ix_lst, q_ix_ref, q_ix_scr, q_ix_str, q_sl_tup, q_sl_str, q_sl_lst, q_sl_scr, q_tuple_lst, q_tuple_tup, q_tuple_ref, q_in_dic, q_in_tup, q_in_ref, q_in_lst, q_items_lst, q_items_tup, q_items_scr, q_items_str, q_ins, q_ty_int, q_ty_str, q_ty_tup, q_ty_lst, q_ty_non, q_ty_bl, q_ty_ins, q_all, q_gtup, q_gcons, q_gnil, q_join, q_append, q_count, q_isdigit, q_split, ltD, leD, gtD, geD, isStrD, valN, clsD, List.map_cons, List.map_nil, List.length_cons, List.length_nil, List.replicate_zero, List.replicate_succ, List.cons_append, List.nil_append, List.append_nil, List.getElem?_cons_zero, List.getElem?_cons_succ, List.set_cons_zero, List.set_cons_succ, List.zip_cons_cons, List.zip_nil_left, List.zip_nil_right, List.lookup_cons, List.lookup_nil, Option.some.injEq, exists_eq_left', exists_eq_left, exists_eq', exists_eq, HD.D.bl.injEq, HD.D.int.injEq, HD.D.str.injEq, HD.D.tup.injEq, HD.D.lst.injEq, HD.D.ref.injEq, List.cons.injEq, and_true, true_and, if_true, if_false, Bool.false_eq_true, ite_true, ite_false, Bool.not_true, Bool.not_false, Int.cast_ofNat_Int, beq_self_eq_true, Nat.sub_self, Nat.reduceSub, Nat.reduceAdd, reduceIte]
    refine ⟨by omega, by omega, ?_⟩
    rw [Int.toNat_natCast]
    have key : ∀ (j : Nat) (lo : Int) (F : List Nat) (x3 x4 x5 : Option D) (g st n : Int), F.length + j = k → F.Nodup → (∀ c ∈ F, 65 ≤ c ∧ c ≤ 90) → Pv g st n →
        forD (dgName 3) (dSeq (dAsg (dLc (dIter (dC (D.str (Str.ofString "ABCDEFGHIJKLMNOPQRSTUVWXYZ")))) (dgName 5) (dTest (dBin (inD true) (dVar 5) (dVar 2))) (dVar 5) [5]) (dgName 4))
          (dDrop (dM isLstD appendD (dVar 2) (dCons (dBin idxD (dVar 4) (dCall c_roll [] (dCons (dVar 0) (dCons (dCB lenD (dCons (dVar 4) dNil)) dNil)))) dNil))))
          { nx := N, rt := Ret R } (rgD lo j) [some (D.ref a), some (D.int (k : Int)), some (D.ref b), x3, x4, x5] (mput (mput M b (MO.lst (strsD F))) a (puL g st n)) := by
      intro j
      induction j with
      | zero =>
        intro lo F x3 x4 x5 g st n hl nd2 ch pv
        have e1 : rgD lo 0 = [] := rfl
        rw [e1]
        simp only [forD]
        refine hN _ _ ?_
        clear hN N
        simp only [cx_K, nox_K, dRet, dRetN, dAnd, dOr, dNot, dCB, dCons, dVar, dC, dNil, dSeq, dAsg, dgName, dIfS, dNever, dTest, dAndT, dOrT, dNotT, dIf, dBin, dUn, dChain, dstart, dPar, dPar3, dDrop, dFor, dIter, dRng1, dRng2, dNext, dTup, dLst, dCall, dMeth, dProp, dFld, dSetF, dM, dJoined, dJs, dLc, dDc, dSlice, dPart, dNoP, dRetF, dYes, dgSub, dwipe, dEnum, dZip, dTxt, ownD, dMethK, q_plus_int, q_plus_str, q_plus_tup, q_plus_lst, q_fII, q_minus, q_fdiv, q_mod, q_pow, q_mul, q_rep, q_ord_int, q_ord_str, q_len_str, q_len_tup, q_len_lst, q_len_scr, q_len_ref, q_neg, q_fmt_int, q_fmt_str, q_str_int, q_str_str, q_int_int, q_int_bl, q_int_str, q_bool_int, q_bool_bl, q_abs, q_max, q_min, q_divmod, q_ix_tup, q_ix_lst, q_ix_ref, q_ix_scr, q_ix_str, q_sl_tup, q_sl_str, q_sl_lst, q_sl_scr, q_tuple_lst, q_tuple_tup, q_tuple_ref, q_in_dic, q_in_tup, q_in_ref, q_in_lst, q_items_lst, q_items_tup, q_items_scr, q_items_str, q_ins, q_ty_int, q_ty_str, q_ty_tup, q_ty_lst, q_ty_non, q_ty_bl, q_ty_ins, q_all, q_gtup, q_gcons, q_gnil, q_join, q_append, q_count, q_isdigit, q_split, ltD, leD, gtD, geD, isStrD, valN, clsD, List.map_cons, List.map_nil, List.length_cons, List.length_nil, List.replicate_zero, List.replicate_succ, List.cons_append, List.nil_append, List.append_nil, List.getElem?_cons_zero, List.getElem?_cons_succ, List.set_cons_zero, List.set_cons_succ, List.zip_cons_cons, List.zip_nil_left, List.zip_nil_right, List.lookup_cons, List.lookup_nil, Option.some.injEq, exists_eq_left', exists_eq_left, exists_eq', exists_eq, HD.D.bl.injEq, HD.D.int.injEq, HD.D.str.injEq, HD.D.tup.injEq, HD.D.lst.injEq, HD.D.ref.injEq, List.cons.injEq, and_true, true_and, if_true, if_false, Bool.false_eq_true, ite_true, ite_false, Bool.not_true, Bool.not_false, Int.cast_ofNat_Int, beq_self_eq_true, Nat.sub_self, Nat.reduceSub, Nat.reduceAdd, reduceIte]
        have hmb : (mput (mput M b (MO.lst (strsD F))) a (puL g st n)) b = some (.lst (strsD F)) := by rw [mput_ne hab]; exact mput_same
        refine Or.inr ⟨F.map chS, ?_, by rw [List.length_map]; omega, fun ys hp hs => ?_⟩
        · rw [seqL_ref hmb]
          unfold strsD
          rw [List.map_map]
          rfl
        · obtain ⟨cs, rfl, hcs⟩ := perm_chS hp
          have up := sortedS_chS hs (hcs.nodup_iff.mpr nd2)
          have e3 : (cs.map chS).map D.str = strsD cs := by unfold strsD; rw [List.map_map]; rfl
          rw [e3]
          refine Ret_put hb (h cs g st n (by rw [hcs.length_eq]; omega) ⟨up, fun c hc => ch c (hcs.mem_iff.mp hc)⟩ pv)
      | succ j ih =>
        intro lo F x3 x4 x5 g st n hl nd2 ch pv
        rw [rgD_succ]
        simp only [forD]
        have hmb : ∀ g st n, (mput (mput M b (MO.lst (strsD F))) a (puL g st n)) b = some (.lst (strsD F)) := fun g st n => by rw [mput_ne hab]; exact mput_same
        simp only [dgName, List.set_cons_succ, List.set_cons_zero]
        refine seq_step fun N hN => ?_
        simp only [cx_K, nox_K, dRet, dRetN, dAnd, dOr, dNot, dCB, dCons, dVar, dC, dNil, dSeq, dAsg, dgName, dIfS, dNever, dTest, dAndT, dOrT, dNotT, dIf, dBin, dUn, dChain, dstart, dPar, dPar3, dDrop, dFor, dIter, dRng1, dRng2, dNext, dTup, dLst, dCall, dMeth, dProp, dFld, dSetF, dM, dJoined, dJs, dLc, dDc, dSlice, dPart, dNoP, dRetF, dYes, dgSub, dwipe, dEnum, dZip, dTxt, ownD, dMethK, q_plus_int, q_plus_str, q_plus_tup, q_plus_lst, q_fII, q_minus, q_fdiv, q_mod, q_pow, q_mul, q_rep, q_ord_int, q_ord_str, q_len_str, q_len_tup, q_len_lst, q_len_scr, q_len_ref, q_neg, q_fmt_int, q_fmt_str, q_str_int, q_str_str, q_int_int, q_int_bl, q_int_str, q_bool_int, q_bool_bl, q_abs, q_max, q_min, q_divmod, q_ix_tup, q_ix_lst, q_ix_ref, q_ix_scr, q_ix_str, q_sl_tup, q_sl_str, q_sl_lst, q_sl_scr, q_tuple_lst, q_tuple_tup, q_tuple_ref, q_in_dic, q_in_tup, q_in_ref, q_in_lst, q_items_lst, q_items_tup, q_items_scr, q_items_str, q_ins, q_ty_int, q_ty_str, q_ty_tup, q_ty_lst, q_ty_non, q_ty_bl, q_ty_ins, q_all, q_gtup, q_gcons, q_gnil, q_join, q_append, q_count, q_isdigit, q_split, ltD, leD, gtD, geD, isStrD, valN, clsD, List.map_cons, List.map_nil, List.length_cons, List.length_nil, List.replicate_zero, List.replicate_succ, List.cons_append, List.nil_append, List.append_nil, List.getElem?_cons_zero, List.getElem?_cons_succ, List.set_cons_zero, List.set_cons_succ, List.zip_cons_cons, List.zip_nil_left, List.zip_nil_right, List.lookup_cons, List.lookup_nil, Option.some.injEq, exists_eq_left', exists_eq_left, exists_eq', exists_eq, HD.D.bl.injEq, HD.D.int.injEq, HD.D.str.injEq, HD.D.tup.injEq, HD.D.lst.injEq, HD.D.ref.injEq, List.cons.injEq, and_true, true_and, if_true, if_false, Bool.false_eq_true, ite_true, ite_false, Bool.not_true, Bool.not_false, Int.cast_ofNat_Int, beq_self_eq_true, Nat.sub_self, Nat.reduceSub, Nat.reduceAdd, reduceIte]
        show lcD _ _ _ _ (AZ.map fun c => D.str (chS c)) [] _ _
        refine lcD_map (fun c => D.str (chS c)) (fun c => if F.contains c = true then none else some (D.str (chS c))) AZ (fun c hc K1 K0 kk => ?_) [] _ (by rw [AZ_len]; decide) ?_
        · simp only [cx_K, nox_K, dRet, dRetN, dAnd, dOr, dNot, dCB, dCons, dVar, dC, dNil, dSeq, dAsg, dgName, dIfS, dNever, dTest, dAndT, dOrT, dNotT, dIf, dBin, dUn, dChain, dstart, dPar, dPar3, dDrop, dFor, dIter, dRng1, dRng2, dNext, dTup, dLst, dCall, dMeth, dProp, dFld, dSetF, dM, dJoined, dJs, dLc, dDc, dSlice, dPart, dNoP, dRetF, dYes, dgSub, dwipe, dEnum, dZip, dTxt, ownD, dMethK, q_plus_int, q_plus_str, q_plus_tup, q_plus_lst, q_fII, q_minus, q_fdiv, q_mod, q_pow, q_mul, q_rep, q_ord_int, q_ord_str, q_len_str, q_len_tup, q_len_lst, q_len_scr, q_len_ref, q_neg, q_fmt_int, q_fmt_str, q_str_int, q_str_str, q_int_int, q_int_bl, q_int_str, q_bool_int, q_bool_bl, q_abs, q_max, q_min, q_divmod, q_ix_tup, q_ix_lst, q_ix_ref, q_ix_scr, q_ix_str, q_sl_tup, q_sl_str, q_sl_lst, q_sl_scr, q_tuple_lst, q_tuple_tup, q_tuple_ref, q_in_dic, q_in_tup, q_in_ref, q_in_lst, q_items_lst, q_items_tup, q_items_scr, q_items_str, q_ins, q_ty_int, q_ty_str, q_ty_tup, q_ty_lst, q_ty_non, q_ty_bl, q_ty_ins, q_all, q_gtup, q_gcons, q_gnil, q_join, q_append, q_count, q_isdigit, q_split, ltD, leD, gtD, geD, isStrD, valN, clsD, List.map_cons, List.map_nil, List.length_cons, List.length_nil, List.replicate_zero, List.replicate_succ, List.cons_append, List.nil_append, List.append_nil, List.getElem?_cons_zero, List.getElem?_cons_succ, List.set_cons_zero, List.set_cons_succ, List.zip_cons_cons, List.zip_nil_left, List.zip_nil_right, List.lookup_cons, List.lookup_nil, Option.some.injEq, exists_eq_left', exists_eq_left, exists_eq', exists_eq, HD.D.bl.injEq, HD.D.int.injEq, HD.D.str.injEq, HD.D.tup.injEq, HD.D.lst.injEq, HD.D.ref.injEq, List.cons.injEq, and_true, true_and, if_true, if_false, Bool.false_eq_true, ite_true, ite_false, Bool.not_true, Bool.not_false, Int.cast_ofNat_Int, beq_self_eq_true, Nat.sub_self, Nat.reduceSub, Nat.reduceAdd, reduceIte]
          refine ⟨_, seqL_ref (hmb g st n), rfl, flat_strs F, ?_⟩
          rw [mem_strs]
          cases z : F.contains c with
          | true =>
            rw [z] at kk
            exact kk
          | false =>
            rw [z] at kk
            exact kk
        · rw [List.nil_append, rest_map]
          refine hN _ _ ?_
          clear hN N
          simp only [cx_K, nox_K, dRet, dRetN, dAnd, dOr, dNot, dCB, dCons, dVar, dC, dNil, dSeq, dAsg, dgName, dIfS, dNever, dTest, dAndT, dOrT, dNotT, dIf, dBin, dUn, dChain, dstart, dPar, dPar3, dDrop, dFor, dIter, dRng1, dRng2, dNext, dTup, dLst, dCall, dMeth, dProp, dFld, dSetF, dM, dJoined, dJs, dLc, dDc, dSlice, dPart, dNoP, dRetF, dYes, dgSub, dwipe, dEnum, dZip, dTxt, ownD, dMethK, q_plus_int, q_plus_str, q_plus_tup, q_plus_lst, q_fII, q_minus, q_fdiv, q_mod, q_pow, q_mul, q_rep, q_ord_int, q_ord_str, q_len_str, q_len_tup, q_len_lst, q_len_scr, q_len_ref, q_neg, q_fmt_int, q_fmt_str, q_str_int, q_str_str, q_int_int, q_int_bl, q_int_str, q_bool_int, q_bool_bl, q_abs, q_max, q_min, q_divmod, q_ix_tup, q_ix_lst, q_ix_ref, q_ix_scr, q_ix_str, q_sl_tup, q_sl_str, q_sl_lst, q_sl_scr, q_tuple_lst, q_tuple_tup, q_tuple_ref, q_in_dic, q_in_tup, q_in_ref, q_in_lst, q_items_lst, q_items_tup, q_items_scr, q_items_str, q_ins, q_ty_int, q_ty_str, q_ty_tup, q_ty_lst, q_ty_non, q_ty_bl, q_ty_ins, q_all, q_gtup, q_gcons, q_gnil, q_join, q_append, q_count, q_isdigit, q_split, ltD, leD, gtD, geD, isStrD, valN, clsD, List.map_cons, List.map_nil, List.length_cons, List.length_nil, List.replicate_zero, List.replicate_succ, List.cons_append, List.nil_append, List.append_nil, List.getElem?_cons_zero, List.getElem?_cons_succ, List.set_cons_zero, List.set_cons_succ, List.zip_cons_cons, List.zip_nil_left, List.zip_nil_right, List.lookup_cons, List.lookup_nil, Option.some.injEq, exists_eq_left', exists_eq_left, exists_eq', exists_eq, HD.D.bl.injEq, HD.D.int.injEq, HD.D.str.injEq, HD.D.tup.injEq, HD.D.lst.injEq, HD.D.ref.injEq, List.cons.injEq, and_true, true_and, if_true, if_false, Bool.false_eq_true, ite_true, ite_false, Bool.not_true, Bool.not_false, Int.cast_ofNat_Int, beq_self_eq_true, Nat.sub_self, Nat.reduceSub, Nat.reduceAdd, reduceIte]
          refine ⟨⟨_, seqL_ref (hmb g st n)⟩, ?_⟩
          have hF : F.length < 26 := by omega
          have rp := rest_pos hF
          have rl := rest_le F
          have hlen : (strsD (restOf F)).length = (restOf F).length := by unfold strsD; rw [List.length_map]
          refine ⟨a, _, g, st, n, rfl, ⟨mput_same, pv, by rw [hlen]; omega, by rw [hlen]; omega⟩, fun r g' st' n' h0 h1 pv' => ?_⟩
          rw [mput_mput]
          rw [hlen] at h1
          obtain ⟨c, hc, ec⟩ := at_strs h0 h1
          simp only [cx_K, nox_K, dRet, dRetN, dAnd, dOr, dNot, dCB, dCons, dVar, dC, dNil, dSeq, dAsg, dgName, dIfS, dNever, dTest, dAndT, dOrT, dNotT, dIf, dBin, dUn, dChain, dstart, dPar, dPar3, dDrop, dFor, dIter, dRng1, dRng2, dNext, dTup, dLst, dCall, dMeth, dProp, dFld, dSetF, dM, dJoined, dJs, dLc, dDc, dSlice, dPart, dNoP, dRetF, dYes, dgSub, dwipe, dEnum, dZip, dTxt, ownD, dMethK, q_plus_int, q_plus_str, q_plus_tup, q_plus_lst, q_fII, q_minus, q_fdiv, q_mod, q_pow, q_mul, q_rep, q_ord_int, q_ord_str, q_len_str, q_len_tup, q_len_lst, q_len_scr, q_len_ref, q_neg, q_fmt_int, q_fmt_str, q_str_int, q_str_str, q_int_int, q_int_bl, q_int_str, q_bool_int, q_bool_bl, q_abs, q_max, q_min, q_divmod, q_ix_tup, q_ix_lst, q_ix_ref, q_ix_scr, q_ix_str, q_sl_tup, q_sl_str, q_sl_lst, q_sl_scr, q_tuple_lst, q_tuple_tup, q_tuple_ref, q_in_dic, q_in_tup, q_in_ref, q_in_lst, q_items_lst, q_items_tup, q_items_scr, q_items_str, q_ins, q_ty_int, q_ty_str, q_ty_tup, q_ty_lst, q_ty_non, q_ty_bl, q_ty_ins, q_all, q_gtup, q_gcons, q_gnil, q_join, q_append, q_count, q_isdigit, q_split, ltD, leD, gtD, geD, isStrD, valN, clsD, List.map_cons, List.map_nil, List.length_cons, List.length_nil, List.replicate_zero, List.replicate_succ, List.cons_append, List.nil_append, List.append_nil, List.getElem?_cons_zero, List.getElem?_cons_succ, List.set_cons_zero, List.set_cons_succ, List.zip_cons_cons, List.zip_nil_left, List.zip_nil_right, List.lookup_cons, List.lookup_nil, Option.some.injEq, exists_eq_left', exists_eq_left, exists_eq', exists_eq, HD.D.bl.injEq, HD.D.int.injEq, HD.D.str.injEq, HD.D.tup.injEq, HD.D.lst.injEq, HD.D.ref.injEq, List.cons.injEq, and_true, true_and, if_true, if_false, Bool.false_eq_true, ite_true, ite_false, Bool.not_true, Bool.not_false, Int.cast_ofNat_Int, beq_self_eq_true, Nat.sub_self, Nat.reduceSub, Nat.reduceAdd, reduceIte]
          refine ⟨_, ec, ?_⟩
          refine ⟨_, hmb g' st' n', by unfold strsD; rw [List.length_map, sl24]; omega, ?_⟩
          have e2 : mput (mput (mput M b (MO.lst (strsD F))) a (puL g' st' n')) b (.lst (strsD F ++ [D.str (chS c)])) = mput (mput M b (MO.lst (strsD (F ++ [c])))) a (puL g' st' n') := by
            rw [mput_comm hab.symm, mput_mput]
            unfold strsD
            rw [List.map_append]
            rfl
          rw [e2]
          obtain ⟨cA, cF⟩ := List.mem_filter.mp hc
          have nF : c ∉ F := by simpa using cF
          refine ih _ (F ++ [c]) _ _ _ g' st' n' (by rw [List.length_append, List.length_singleton]; omega) ?_ (fun d hd => ?_) pv'
          · exact List.nodup_append.mpr ⟨nd2, by simp, fun x hx y hy e => by rw [List.mem_singleton] at hy; subst e; subst hy; exact nF hx⟩
          · rcases List.mem_append.mp hd with z | z
            · exact ch d z
            · rw [List.mem_singleton] at z
              subst z
              exact AZ_mem cA
    have e0 : mput M b (.lst []) = mput (mput M b (MO.lst (strsD []))) a (puL g st n) := (mput_id (by rw [mput_ne hab.symm]; exact hm)).symm
    rw [e0]
    exact key k 0 [] none none none g st n (by simp) List.nodup_nil (fun c hc => by cases hc) pv
theorem cal__law_letters (F : Fc K mg) : CalD P w K mg base 2 "_law_letters" c_letters [] := by
  obtain ⟨fd, D⟩ := F.d_law_letters
  refine calD_N D (fn_law_letters F D) F.g__law_letters ?_
  exact fun _ _ _ _ _ _ us hl => match us, hl with | [_, _], _ => rfl
end K02

namespace K02
open PySem PySem.Spec PyProof.Rows L2 HD
variable {P : Program} {w : World} {K : PySem.W.Frag} {mg : Str → Option Value} {base : Heap}
def intsL (r : List Nat) : List D := r.map fun (t : Nat) => D.int (t : Int)
theorem at_ints {xs : List Int} {r : Int} (h0 : 0 ≤ r) (h1 : r < xs.length) : ∃ v ∈ xs, atI (xs.map D.int) r = some (.int v) := by
  have hl : r.toNat < xs.length := by omega
  refine ⟨xs[r.toNat], List.getElem_mem hl, ?_⟩
  unfold atI ixN
  rw [List.length_map, if_pos h0, if_pos h1]
  simp [hl]
def c_set : DSp := fun ds M P => ∃ (a : Addr) (wd : Nat) (g st n : Int), ds = [.ref a, .int wd] ∧ (M a = some (puL g st n) ∧ Pv g st n ∧ wd ≤ 60) ∧ ∀ r g' st' n', OkR wd r → Pv g' st' n' → P (intsD r) (mput M a (puL g' st' n'))
theorem sc_law_set : FnScope ["_law_purse_here", "_law_wide", "_law_way", "_law_level", "_law_found", "_law_inside", "_law_t"] ["_law_purse_here", "_law_wide"] (defScope (top 25)) := ⟨rfl, rfl, rfl, by decide +kernel, rfl, by decide +kernel, by decide +kernel⟩
theorem fn_law_set (F : Fc K mg) {fd : FuncData} (dF : FunD K "_law_set" "_law_set" (defArgs (top 25)) (defBody (top 25)) (defScope (top 25)) [] [] ((gloA "_law_set") K) fd) : FnG P w K mg base 2 ((gloA "_law_set") K) fd ["_law_purse_here", "_law_wide"] (spOf K c_set) := by
  have nd := sc_law_set.nd
  refine fnG_D dF sc_law_set (fun ds M R h => ?_) fun cd A outer s H hr => ⟨_, (b_cons (s_par (i := 2) (j := 3) rfl nd rfl rfl (by decide) rfl rfl (a_cons (j_call (cal__law_roll F) hr (by decide) (a_cons (jv 0) (a_cons j_int a_nil))) (a_cons (j_ix (j_lst (a_cons j_int (a_cons j_int (a_cons j_int (a_cons j_int (a_cons j_int a_nil)))))) (j_call (cal__law_roll F) hr (by decide) (a_cons (jv 0) (a_cons j_int a_nil)))) a_nil)))
      (b_cons (s_par (i := 4) (j := 5) rfl nd rfl rfl (by decide) rfl rfl (a_cons (j_lstM a_nil) (a_cons j_bl a_nil)))
      (b_cons (s_for PassesOwn.never rfl (i_rng1 F.n_range (jv 1)) (g_name (i := 6) nd rfl (by first | exact .inl rfl | exact .inr rfl))
      (b_cons (s_if (t_eq hr.rm.units (jv 2) j_int)
      (b_one (s_set (i := 5) nd rfl (by first | exact .inl rfl | exact .inr rfl) (j_lt (j_call (cal__law_roll F) hr (by decide) (a_cons (jv 0) (a_cons j_int a_nil))) (jv 3))))
      (b_one (s_if (t_eq hr.rm.units (j_call (cal__law_roll F) hr (by decide) (a_cons (jv 0) (a_cons j_int a_nil))) j_int)
      (b_one (s_set (i := 5) nd rfl (by first | exact .inl rfl | exact .inr rfl) (j_not (jv 5))))
      b_nil)))
      (b_one (s_if (jt_val (jv 5))
      (b_one (s_expr (j_append (jv 4) (jv 6))))
      b_nil))))
      (b_one (s_ret (j_ct call_tuple_of lc_tuple F.n_tuple rfl (a_cons (jv 4) a_nil) rfl (by decide) (by decide) rfl rfl)))))), ?_⟩
  · obtain ⟨_, _, _, _, _, rfl, _⟩ := h; rfl
  · intro ds M R h
    obtain ⟨a, wd, g, st, n, rfl, ⟨hm, pv, hk⟩, h⟩ := h
    refine seq_step fun N hN => ?_
    simp only [cx_K, nox_K, dRet, dRetN, dAnd, dOr, dNot, dCB, dCons, dVar, dC, dNil, dSeq, dAsg, dgName, dIfS, dNever, dTest, dAndT, dOrT, dNotT, dIf, dBin, dUn, dChain, dstart, dPar, dPar3, dDrop, dFor, dIter, dRng1, dRng2, dNext, dTup, dLst, dCall, dMeth, dProp, dFld, dSetF, dM, dJoined, dJs, dLc, dDc, dSlice, dPart, dNoP, dRetF, dYes, dgSub, dwipe, dEnum, dZip, dTxt, ownD, dMethK, q_plus_int, q_plus_str, q_plus_tup, q_plus_lst, q_fII, q_minus, q_fdiv, q_mod, q_pow, q_mul, q_rep, q_ord_int, q_ord_str, q_len_str, q_len_tup, q_len_lst, q_len_scr, q_len_ref, q_neg, q_fmt_int, q_fmt_str, q_str_int, q_str_str, q_int_int, q_int_bl, q_int_str, q_bool_int, q_bool_bl, q_abs, q_max, q_min, q_divmod, q_ix_tup, q_ix_lst, q_ix_ref, q_ix_scr, q_ix_str, q_sl_tup, q_sl_str, q_sl_lst, q_sl_scr, q_tuple_lst, q_tuple_tup, q_tuple_ref, q_in_dic, q_in_tup, q_in_ref, q_in_lst, q_items_lst, q_items_tup, q_items_scr, q_items_str, q_ins, q_ty_int, q_ty_str, q_ty_tup, q_ty_lst, q_ty_non, q_ty_bl, q_ty_ins, q_all, q_gtup, q_gcons, q_gnil, q_join, q_append, q_count, q_isdigit, q_split, ltD, leD, gtD, geD, isStrD, valN, clsD, List.map_cons, List.map_nil, List.length_cons, List.length_nil, List.replicate_zero, List.replicate_succ, List.cons_append, List.nil_append, List.append_nil, List.getElem?_cons_zero, List.getElem?_cons_succ, List.set_cons_zero, List.set_cons_succ, List.zip_cons_cons, List.zip_nil_left, List.zip_nil_right, List.lookup_cons, List.lookup_nil, Option.some.injEq, exists_eq_left', exists_eq_left, exists_eq', exists_eq, HD.D.bl.injEq, HD.D.int.injEq, HD.D.str.injEq, HD.D.tup.injEq, HD.D.lst.injEq, HD.D.ref.injEq, List.cons.injEq, and_true, true_and, if_true, if_false, Bool.false_eq_true, ite_true, ite_false, Bool.not_true, Bool.not_false, Int.cast_ofNat_Int, beq_self_eq_true, Nat.sub_self, Nat.reduceSub, Nat.reduceAdd, reduceIte]
    refine ⟨a, 3, g, st, n, rfl, ⟨hm, pv, by decide, by decide⟩, fun way g1 st1 n1 w0 w1 pv1 => ?_⟩
    refine ⟨by decide, a, 5, g1, st1, n1, rfl, ⟨mput_same, pv1, by decide, by decide⟩, fun r5 g2 st2 n2 r0 r1 pv2 => ?_⟩
    rw [mput_mput]
    simp only [cx_K, nox_K, dRet, dRetN, dAnd, dOr, dNot, dCB, dCons, dVar, dC, dNil, dSeq, dAsg, dgName, dIfS, dNever, dTest, dAndT, dOrT, dNotT, dIf, dBin, dUn, dChain, dstart, dPar, dPar3, dDrop, dFor, dIter, dRng1, dRng2, dNext, dTup, dLst, dCall, dMeth, dProp, dFld, dSetF, dM, dJoined, dJs, dLc, dDc, dSlice, dPart, dNoP, dRetF, dYes, dgSub, dwipe, dEnum, dZip, dTxt, ownD, dMethK, q_plus_int, q_plus_str, q_plus_tup, q_plus_lst, q_fII, q_minus, q_fdiv, q_mod, q_pow, q_mul, q_rep, q_ord_int, q_ord_str, q_len_str, q_len_tup, q_len_lst, q_len_scr, q_len_ref, q_neg, q_fmt_int, q_fmt_str, q_str_int, q_str_str, q_int_int, q_int_bl, q_int_str, q_bool_int, q_bool_bl, q_abs, q_max, q_min, q_divmod, q_ix_tup, q_ix_lst, q_ix_ref, q_ix_scr, q_ix_str, q_sl_tup, q_sl_str, q_sl_lst, q_sl_scr, q_tuple_lst, q_tuple_tup, q_tuple_ref, q_in_dic, q_in_tup, q_in_ref, q_in_lst, q_items_lst, q_items_tup, q_items_scr, q_items_str, q_ins, q_ty_int, q_ty_str, q_ty_tup, q_ty_lst, q_ty_non, q_ty_bl, q_ty_ins, q_all, q_gtup, q_gcons, q_gnil, q_join, q_append, q_count, q_isdigit, q_split, ltD, leD, gtD, geD, isStrD, valN, clsD, List.map_cons, List.map_nil, List.length_cons, List.length_nil, List.replicate_zero, List.replicate_succ, List.cons_append, List.nil_append, List.append_nil, List.getElem?_cons_zero, List.getElem?_cons_succ, List.set_cons_zero, List.set_cons_succ, List.zip_cons_cons, List.zip_nil_left, List.zip_nil_right, List.lookup_cons, List.lookup_nil, Option.some.injEq, exists_eq_left', exists_eq_left, exists_eq', exists_eq, HD.D.bl.injEq, HD.D.int.injEq, HD.D.str.injEq, HD.D.tup.injEq, HD.D.lst.injEq, HD.D.ref.injEq, List.cons.injEq, and_true, true_and, if_true, if_false, Bool.false_eq_true, ite_true, ite_false, Bool.not_true, Bool.not_false, Int.cast_ofNat_Int, beq_self_eq_true, Nat.sub_self, Nat.reduceSub, Nat.reduceAdd, reduceIte]
    obtain ⟨lv, _, el⟩ := at_ints (xs := [2, 1, 3, 0, 4]) r0 r1
    refine ⟨_, el, _, _, ⟨rfl, rfl⟩, ?_⟩
    refine hN _ _ ?_
    clear hN N
    refine seq_step fun N hN => ?_
    simp only [cx_K, nox_K, dRet, dRetN, dAnd, dOr, dNot, dCB, dCons, dVar, dC, dNil, dSeq, dAsg, dgName, dIfS, dNever, dTest, dAndT, dOrT, dNotT, dIf, dBin, dUn, dChain, dstart, dPar, dPar3, dDrop, dFor, dIter, dRng1, dRng2, dNext, dTup, dLst, dCall, dMeth, dProp, dFld, dSetF, dM, dJoined, dJs, dLc, dDc, dSlice, dPart, dNoP, dRetF, dYes, dgSub, dwipe, dEnum, dZip, dTxt, ownD, dMethK, q_plus_int, q_plus_str, q_plus_tup, q_plus_lst, q_fII, q_minus, q_fdiv, q_mod, q_pow, q_mul, q_rep, q_ord_int, q_ord_str, q_len_str, q_len_tup, q_len_lst, q_len_scr, q_len_ref, q_neg, q_fmt_int, q_fmt_str, q_str_int, q_str_str, q_int_int, q_int_bl, q_int_str, q_bool_int, q_bool_bl, q_abs, q_max, q_min, q_divmod, q_ix_tup, q_ix_lst, q_ix_ref, q_ix_scr, q_ix_str, q_sl_tup, q_sl_str, q_sl_lst, q_sl_scr, q_tuple_lst, q_tuple_tup, q_tuple_ref, q_in_dic, q_in_tup, q_in_ref, q_in_lst, q_items_lst, q_items_tup, q_items_scr, q_items_str, q_ins, q_ty_int, q_ty_str, q_ty_tup, q_ty_lst, q_ty_non, q_ty_bl, q_ty_ins, q_all, q_gtup, q_gcons, q_gnil, q_join, q_append, q_count, q_isdigit, q_split, ltD, leD, gtD, geD, isStrD, valN, clsD, List.map_cons, List.map_nil, List.length_cons, List.length_nil, List.replicate_zero, List.replicate_succ, List.cons_append, List.nil_append, List.append_nil, List.getElem?_cons_zero, List.getElem?_cons_succ, List.set_cons_zero, List.set_cons_succ, List.zip_cons_cons, List.zip_nil_left, List.zip_nil_right, List.lookup_cons, List.lookup_nil, Option.some.injEq, exists_eq_left', exists_eq_left, exists_eq', exists_eq, HD.D.bl.injEq, HD.D.int.injEq, HD.D.str.injEq, HD.D.tup.injEq, HD.D.lst.injEq, HD.D.ref.injEq, List.cons.injEq, and_true, true_and, if_true, if_false, Bool.false_eq_true, ite_true, ite_false, Bool.not_true, Bool.not_false, Int.cast_ofNat_Int, beq_self_eq_true, Nat.sub_self, Nat.reduceSub, Nat.reduceAdd, reduceIte]
    refine ⟨by decide, fun b hb => ⟨_, _, ⟨rfl, rfl⟩, ?_⟩⟩
    have hab : b ≠ a := by
      rintro rfl
      rw [mput_same] at hb
      cases hb
    have hb0 : M b = none := by rw [mput_ne hab] at hb; exact hb
    refine hN _ _ ?_
    clear hN N
    refine seq_step fun N hN => ?_
    simp only [cx_K, nox_K, dRet, dRetN, dAnd, dOr, dNot, dCB, dCons, dVar, dC, dNil, dSeq, dAsg, dgName, dIfS, dNever, dTest, dAndT, dOrT, dNotT, dIf, dBin, dUn, dChain, dstart, dPar, dPar3, dDrop, dFor, dIter, dRng1, dRng2, dNext, dTup, dLst, dCall, dMeth, dProp, dFld, dSetF, dM, dJoined, dJs, dLc, dDc, dSlice, dPart, dNoP, dRetF, dYes, dgSub, dwipe, dEnum, dZip, dTxt, ownD, dMethK, q_plus_int, q_plus_str, q_plus_tup, q_plus_lst, q_fII, q_minus, q_fdiv, q_mod, q_pow, q_mul, q_rep, q_ord_int, q_ord_str, q_len_str, q_len_tup, q_len_lst, q_len_scr, q_len_ref, q_neg, q_fmt_int, q_fmt_str, q_str_int, q_str_str, q_int_int, q_int_bl, q_int_str, q_bool_int, q_bool_bl, q_abs, q_max, q_min, q_divmod, q_ix_tup, q_ix_lst, q_ix_ref, q_ix_scr, q_ix_str, q_sl_tup, q_sl_str, q_sl_lst, q_sl_scr, q_tuple_lst, q_tuple_tup, q_tuple_ref, q_in_dic, q_in_tup, q_in_ref, q_in_lst, q_items_lst, q_items_tup, q_items_scr, q_items_str, q_ins, q_ty_int, q_ty_str, q_ty_tup, q_ty_lst, q_ty_non, q_ty_bl, q_ty_ins, q_all, q_gtup, q_gcons, q_gnil, q_join, q_append, q_count, q_isdigit, q_split, ltD, leD, gtD, geD, isStrD, valN, clsD, List.map_cons, List.map_nil, List.length_cons, List.length_nil, List.replicate_zero, List.replicate_succ, List.cons_append, List.nil_append, List.append_nil, List.getElem?_cons_zero, List.getElem?_cons_succ, List.set_cons_zero, List.set_cons_succ, List.zip_cons_cons, List.zip_nil_left, List.zip_nil_right, List.lookup_cons, List.lookup_nil, Option.some.injEq, exists_eq_left', exists_eq_left, exists_eq', exists_eq, HD.D.bl.injEq, HD.D.int.injEq, HD.D.str.injEq, HD.D.tup.injEq, HD.D.lst.injEq, HD.D.ref.injEq, List.cons.injEq, and_true, true_and, if_true, if_false, Bool.false_eq_true, ite_true, ite_false, Bool.not_true, Bool.not_false, Int.cast_ofNat_Int, beq_self_eq_true, Nat.sub_self, Nat.reduceSub, Nat.reduceAdd, reduceIte]
    refine ⟨by omega, by omega, ?_⟩
    rw [Int.toNat_natCast]
    rw [mput_comm hab.symm]
    have e0 : (MO.lst []) = MO.lst (intsL []) := rfl
    rw [e0]
    refine (?key : ∀ (j lo : Nat) (F : List Nat) (ins : Bool) (x6 : Option D) (g st n : Int), lo + j = wd → F.Pairwise (· < ·) → (∀ t ∈ F, t < lo) → Pv g st n → forD ?G ?B ?E (rgD (lo : Int) j) [some (D.ref a), some (D.int (wd : Int)), some (D.int way), some (D.int lv), some (D.ref b), some (D.bl ins), x6] (mput (mput M b (MO.lst (intsL F))) a (puL g st n))) wd 0 [] false none g2 st2 n2 (by omega) .nil (fun t ht => by cases ht) pv2
    intro j
    induction j with
    | zero =>
      intro lo F ins x6 g st n hl up lt pv
      rw [show rgD (lo : Int) 0 = [] from rfl]
      simp only [forD]
      refine hN _ _ ?_
      clear hN N
      simp only [cx_K, nox_K, dRet, dRetN, dAnd, dOr, dNot, dCB, dCons, dVar, dC, dNil, dSeq, dAsg, dgName, dIfS, dNever, dTest, dAndT, dOrT, dNotT, dIf, dBin, dUn, dChain, dstart, dPar, dPar3, dDrop, dFor, dIter, dRng1, dRng2, dNext, dTup, dLst, dCall, dMeth, dProp, dFld, dSetF, dM, dJoined, dJs, dLc, dDc, dSlice, dPart, dNoP, dRetF, dYes, dgSub, dwipe, dEnum, dZip, dTxt, ownD, dMethK, q_plus_int, q_plus_str, q_plus_tup, q_plus_lst, q_fII, q_minus, q_fdiv, q_mod, q_pow, q_mul, q_rep, q_ord_int, q_ord_str, q_len_str, q_len_tup, q_len_lst, q_len_scr, q_len_ref, q_neg, q_fmt_int, q_fmt_str, q_str_int, q_str_str, q_int_int, q_int_bl, q_int_str, q_bool_int, q_bool_bl, q_abs, q_max, q_min, q_divmod, q_ix_tup, q_ix_lst, q_ix_ref, q_ix_scr, q_ix_str, q_sl_tup, q_sl_str, q_sl_lst, q_sl_scr, q_tuple_lst, q_tuple_tup, q_tuple_ref, q_in_dic, q_in_tup, q_in_ref, q_in_lst, q_items_lst, q_items_tup, q_items_scr, q_items_str, q_ins, q_ty_int, q_ty_str, q_ty_tup, q_ty_lst, q_ty_non, q_ty_bl, q_ty_ins, q_all, q_gtup, q_gcons, q_gnil, q_join, q_append, q_count, q_isdigit, q_split, ltD, leD, gtD, geD, isStrD, valN, clsD, List.map_cons, List.map_nil, List.length_cons, List.length_nil, List.replicate_zero, List.replicate_succ, List.cons_append, List.nil_append, List.append_nil, List.getElem?_cons_zero, List.getElem?_cons_succ, List.set_cons_zero, List.set_cons_succ, List.zip_cons_cons, List.zip_nil_left, List.zip_nil_right, List.lookup_cons, List.lookup_nil, Option.some.injEq, exists_eq_left', exists_eq_left, exists_eq', exists_eq, HD.D.bl.injEq, HD.D.int.injEq, HD.D.str.injEq, HD.D.tup.injEq, HD.D.lst.injEq, HD.D.ref.injEq, List.cons.injEq, and_true, true_and, if_true, if_false, Bool.false_eq_true, ite_true, ite_false, Bool.not_true, Bool.not_false, Int.cast_ofNat_Int, beq_self_eq_true, Nat.sub_self, Nat.reduceSub, Nat.reduceAdd, reduceIte]
      have hmb : (mput (mput M b (MO.lst (intsL F))) a (puL g st n)) b = some (.lst (intsL F)) := by rw [mput_ne hab]; exact mput_same
      refine ⟨_, seqL_ref hmb, ?_⟩
      have e1 : wd = lo := by omega
      subst e1
      exact Ret_put hb0 (h F g st n ⟨up, lt⟩ pv)
    | succ j ih =>
      intro lo F ins x6 g st n hl up lt pv
      rw [rgD_succ]
      simp only [forD, dgName, List.set_cons_succ, List.set_cons_zero]
      refine seq_step fun N hN => ?_
      simp only [cx_K, nox_K, dRet, dRetN, dAnd, dOr, dNot, dCB, dCons, dVar, dC, dNil, dSeq, dAsg, dgName, dIfS, dNever, dTest, dAndT, dOrT, dNotT, dIf, dBin, dUn, dChain, dstart, dPar, dPar3, dDrop, dFor, dIter, dRng1, dRng2, dNext, dTup, dLst, dCall, dMeth, dProp, dFld, dSetF, dM, dJoined, dJs, dLc, dDc, dSlice, dPart, dNoP, dRetF, dYes, dgSub, dwipe, dEnum, dZip, dTxt, ownD, dMethK, q_plus_int, q_plus_str, q_plus_tup, q_plus_lst, q_fII, q_minus, q_fdiv, q_mod, q_pow, q_mul, q_rep, q_ord_int, q_ord_str, q_len_str, q_len_tup, q_len_lst, q_len_scr, q_len_ref, q_neg, q_fmt_int, q_fmt_str, q_str_int, q_str_str, q_int_int, q_int_bl, q_int_str, q_bool_int, q_bool_bl, q_abs, q_max, q_min, q_divmod, q_ix_tup, q_ix_lst, q_ix_ref, q_ix_scr, q_ix_str, q_sl_tup, q_sl_str, q_sl_lst, q_sl_scr, q_tuple_lst, q_tuple_tup, q_tuple_ref, q_in_dic, q_in_tup, q_in_ref, q_in_lst, q_items_lst, q_items_tup, q_items_scr, q_items_str, q_ins, q_ty_int, q_ty_str, q_ty_tup, q_ty_lst, q_ty_non, q_ty_bl, q_ty_ins, q_all, q_gtup, q_gcons, q_gnil, q_join, q_append, q_count, q_isdigit, q_split, ltD, leD, gtD, geD, isStrD, valN, clsD, List.map_cons, List.map_nil, List.length_cons, List.length_nil, List.replicate_zero, List.replicate_succ, List.cons_append, List.nil_append, List.append_nil, List.getElem?_cons_zero, List.getElem?_cons_succ, List.set_cons_zero, List.set_cons_succ, List.zip_cons_cons, List.zip_nil_left, List.zip_nil_right, List.lookup_cons, List.lookup_nil, Option.some.injEq, exists_eq_left', exists_eq_left, exists_eq', exists_eq, HD.D.bl.injEq, HD.D.int.injEq, HD.D.str.injEq, HD.D.tup.injEq, HD.D.lst.injEq, HD.D.ref.injEq, List.cons.injEq, and_true, true_and, if_true, if_false, Bool.false_eq_true, ite_true, ite_false, Bool.not_true, Bool.not_false, Int.cast_ofNat_Int, beq_self_eq_true, Nat.sub_self, Nat.reduceSub, Nat.reduceAdd, reduceIte]
      have nxt : ∀ (i2 : Bool) (g st n : Int), Pv g st n → N [some (D.ref a), some (D.int (wd : Int)), some (D.int way), some (D.int lv), some (D.ref b), some (D.bl i2), some (D.int (lo : Int))] (mput (mput M b (MO.lst (intsL F))) a (puL g st n)) := by
        intro i2 g st n pv
        refine hN _ _ ?_
        clear hN N
        simp only [cx_K, nox_K, dRet, dRetN, dAnd, dOr, dNot, dCB, dCons, dVar, dC, dNil, dSeq, dAsg, dgName, dIfS, dNever, dTest, dAndT, dOrT, dNotT, dIf, dBin, dUn, dChain, dstart, dPar, dPar3, dDrop, dFor, dIter, dRng1, dRng2, dNext, dTup, dLst, dCall, dMeth, dProp, dFld, dSetF, dM, dJoined, dJs, dLc, dDc, dSlice, dPart, dNoP, dRetF, dYes, dgSub, dwipe, dEnum, dZip, dTxt, ownD, dMethK, q_plus_int, q_plus_str, q_plus_tup, q_plus_lst, q_fII, q_minus, q_fdiv, q_mod, q_pow, q_mul, q_rep, q_ord_int, q_ord_str, q_len_str, q_len_tup, q_len_lst, q_len_scr, q_len_ref, q_neg, q_fmt_int, q_fmt_str, q_str_int, q_str_str, q_int_int, q_int_bl, q_int_str, q_bool_int, q_bool_bl, q_abs, q_max, q_min, q_divmod, q_ix_tup, q_ix_lst, q_ix_ref, q_ix_scr, q_ix_str, q_sl_tup, q_sl_str, q_sl_lst, q_sl_scr, q_tuple_lst, q_tuple_tup, q_tuple_ref, q_in_dic, q_in_tup, q_in_ref, q_in_lst, q_items_lst, q_items_tup, q_items_scr, q_items_str, q_ins, q_ty_int, q_ty_str, q_ty_tup, q_ty_lst, q_ty_non, q_ty_bl, q_ty_ins, q_all, q_gtup, q_gcons, q_gnil, q_join, q_append, q_count, q_isdigit, q_split, ltD, leD, gtD, geD, isStrD, valN, clsD, List.map_cons, List.map_nil, List.length_cons, List.length_nil, List.replicate_zero, List.replicate_succ, List.cons_append, List.nil_append, List.append_nil, List.getElem?_cons_zero, List.getElem?_cons_succ, List.set_cons_zero, List.set_cons_succ, List.zip_cons_cons, List.zip_nil_left, List.zip_nil_right, List.lookup_cons, List.lookup_nil, Option.some.injEq, exists_eq_left', exists_eq_left, exists_eq', exists_eq, HD.D.bl.injEq, HD.D.int.injEq, HD.D.str.injEq, HD.D.tup.injEq, HD.D.lst.injEq, HD.D.ref.injEq, List.cons.injEq, and_true, true_and, if_true, if_false, Bool.false_eq_true, ite_true, ite_false, Bool.not_true, Bool.not_false, Int.cast_ofNat_Int, beq_self_eq_true, Nat.sub_self, Nat.reduceSub, Nat.reduceAdd, reduceIte]
        have hmb : (mput (mput M b (MO.lst (intsL F))) a (puL g st n)) b = some (.lst (intsL F)) := by rw [mput_ne hab]; exact mput_same
        have e3 : (lo : Int) + 1 = ((lo + 1 : Nat) : Int) := by omega
        rw [e3]
        cases i2 with
        | true =>
          refine ⟨⟨_, seqL_ref hmb⟩, _, hmb, by unfold intsL; rw [List.length_map, sl24]; have := OkR.len (wd := lo) ⟨up, lt⟩; omega, ?_⟩
          have e2 : mput (mput (mput M b (MO.lst (intsL F))) a (puL g st n)) b (.lst (intsL F ++ [D.int (lo : Int)])) = mput (mput M b (MO.lst (intsL (F ++ [lo])))) a (puL g st n) := by
            rw [mput_comm hab.symm, mput_mput]
            unfold intsL
            rw [List.map_append]
            rfl
          rw [e2]
          refine ih (lo + 1) (F ++ [lo]) _ _ g st n (by omega) ?_ (fun t ht => ?_) pv
          · refine List.pairwise_append.mpr ⟨up, List.pairwise_singleton _ _, fun x hx y hy => ?_⟩
            rw [List.mem_singleton] at hy
            subst hy
            exact lt x hx
          · rcases List.mem_append.mp ht with z | z
            · have := lt t z
              omega
            · rw [List.mem_singleton] at z
              omega
        | false =>
          refine ih (lo + 1) F _ _ g st n (by omega) up (fun t ht => ?_) pv
          have := lt t ht
          omega
      clear hN
      refine eqD_int ?_
      by_cases z : way = 0
      · have e : (way == 0) = true := by simpa using z
        rw [e]
        simp only [cx_K, nox_K, dRet, dRetN, dAnd, dOr, dNot, dCB, dCons, dVar, dC, dNil, dSeq, dAsg, dgName, dIfS, dNever, dTest, dAndT, dOrT, dNotT, dIf, dBin, dUn, dChain, dstart, dPar, dPar3, dDrop, dFor, dIter, dRng1, dRng2, dNext, dTup, dLst, dCall, dMeth, dProp, dFld, dSetF, dM, dJoined, dJs, dLc, dDc, dSlice, dPart, dNoP, dRetF, dYes, dgSub, dwipe, dEnum, dZip, dTxt, ownD, dMethK, q_plus_int, q_plus_str, q_plus_tup, q_plus_lst, q_fII, q_minus, q_fdiv, q_mod, q_pow, q_mul, q_rep, q_ord_int, q_ord_str, q_len_str, q_len_tup, q_len_lst, q_len_scr, q_len_ref, q_neg, q_fmt_int, q_fmt_str, q_str_int, q_str_str, q_int_int, q_int_bl, q_int_str, q_bool_int, q_bool_bl, q_abs, q_max, q_min, q_divmod, q_ix_tup, q_ix_lst, q_ix_ref, q_ix_scr, q_ix_str, q_sl_tup, q_sl_str, q_sl_lst, q_sl_scr, q_tuple_lst, q_tuple_tup, q_tuple_ref, q_in_dic, q_in_tup, q_in_ref, q_in_lst, q_items_lst, q_items_tup, q_items_scr, q_items_str, q_ins, q_ty_int, q_ty_str, q_ty_tup, q_ty_lst, q_ty_non, q_ty_bl, q_ty_ins, q_all, q_gtup, q_gcons, q_gnil, q_join, q_append, q_count, q_isdigit, q_split, ltD, leD, gtD, geD, isStrD, valN, clsD, List.map_cons, List.map_nil, List.length_cons, List.length_nil, List.replicate_zero, List.replicate_succ, List.cons_append, List.nil_append, List.append_nil, List.getElem?_cons_zero, List.getElem?_cons_succ, List.set_cons_zero, List.set_cons_succ, List.zip_cons_cons, List.zip_nil_left, List.zip_nil_right, List.lookup_cons, List.lookup_nil, Option.some.injEq, exists_eq_left', exists_eq_left, exists_eq', exists_eq, HD.D.bl.injEq, HD.D.int.injEq, HD.D.str.injEq, HD.D.tup.injEq, HD.D.lst.injEq, HD.D.ref.injEq, List.cons.injEq, and_true, true_and, if_true, if_false, Bool.false_eq_true, ite_true, ite_false, Bool.not_true, Bool.not_false, Int.cast_ofNat_Int, beq_self_eq_true, Nat.sub_self, Nat.reduceSub, Nat.reduceAdd, reduceIte]
        refine ⟨a, 4, g, st, n, rfl, ⟨mput_same, pv, by decide, by decide⟩, fun r g' st' n' _ _ pv' => ?_⟩
        rw [mput_mput]
        simp only [cx_K, nox_K, dRet, dRetN, dAnd, dOr, dNot, dCB, dCons, dVar, dC, dNil, dSeq, dAsg, dgName, dIfS, dNever, dTest, dAndT, dOrT, dNotT, dIf, dBin, dUn, dChain, dstart, dPar, dPar3, dDrop, dFor, dIter, dRng1, dRng2, dNext, dTup, dLst, dCall, dMeth, dProp, dFld, dSetF, dM, dJoined, dJs, dLc, dDc, dSlice, dPart, dNoP, dRetF, dYes, dgSub, dwipe, dEnum, dZip, dTxt, ownD, dMethK, q_plus_int, q_plus_str, q_plus_tup, q_plus_lst, q_fII, q_minus, q_fdiv, q_mod, q_pow, q_mul, q_rep, q_ord_int, q_ord_str, q_len_str, q_len_tup, q_len_lst, q_len_scr, q_len_ref, q_neg, q_fmt_int, q_fmt_str, q_str_int, q_str_str, q_int_int, q_int_bl, q_int_str, q_bool_int, q_bool_bl, q_abs, q_max, q_min, q_divmod, q_ix_tup, q_ix_lst, q_ix_ref, q_ix_scr, q_ix_str, q_sl_tup, q_sl_str, q_sl_lst, q_sl_scr, q_tuple_lst, q_tuple_tup, q_tuple_ref, q_in_dic, q_in_tup, q_in_ref, q_in_lst, q_items_lst, q_items_tup, q_items_scr, q_items_str, q_ins, q_ty_int, q_ty_str, q_ty_tup, q_ty_lst, q_ty_non, q_ty_bl, q_ty_ins, q_all, q_gtup, q_gcons, q_gnil, q_join, q_append, q_count, q_isdigit, q_split, ltD, leD, gtD, geD, isStrD, valN, clsD, List.map_cons, List.map_nil, List.length_cons, List.length_nil, List.replicate_zero, List.replicate_succ, List.cons_append, List.nil_append, List.append_nil, List.getElem?_cons_zero, List.getElem?_cons_succ, List.set_cons_zero, List.set_cons_succ, List.zip_cons_cons, List.zip_nil_left, List.zip_nil_right, List.lookup_cons, List.lookup_nil, Option.some.injEq, exists_eq_left', exists_eq_left, exists_eq', exists_eq, HD.D.bl.injEq, HD.D.int.injEq, HD.D.str.injEq, HD.D.tup.injEq, HD.D.lst.injEq, HD.D.ref.injEq, List.cons.injEq, and_true, true_and, if_true, if_false, Bool.false_eq_true, ite_true, ite_false, Bool.not_true, Bool.not_false, Int.cast_ofNat_Int, beq_self_eq_true, Nat.sub_self, Nat.reduceSub, Nat.reduceAdd, reduceIte]
        exact nxt _ g' st' n' pv'
      · have e : (way == 0) = false := by simpa using z
        rw [e]
        simp only [cx_K, nox_K, dRet, dRetN, dAnd, dOr, dNot, dCB, dCons, dVar, dC, dNil, dSeq, dAsg, dgName, dIfS, dNever, dTest, dAndT, dOrT, dNotT, dIf, dBin, dUn, dChain, dstart, dPar, dPar3, dDrop, dFor, dIter, dRng1, dRng2, dNext, dTup, dLst, dCall, dMeth, dProp, dFld, dSetF, dM, dJoined, dJs, dLc, dDc, dSlice, dPart, dNoP, dRetF, dYes, dgSub, dwipe, dEnum, dZip, dTxt, ownD, dMethK, q_plus_int, q_plus_str, q_plus_tup, q_plus_lst, q_fII, q_minus, q_fdiv, q_mod, q_pow, q_mul, q_rep, q_ord_int, q_ord_str, q_len_str, q_len_tup, q_len_lst, q_len_scr, q_len_ref, q_neg, q_fmt_int, q_fmt_str, q_str_int, q_str_str, q_int_int, q_int_bl, q_int_str, q_bool_int, q_bool_bl, q_abs, q_max, q_min, q_divmod, q_ix_tup, q_ix_lst, q_ix_ref, q_ix_scr, q_ix_str, q_sl_tup, q_sl_str, q_sl_lst, q_sl_scr, q_tuple_lst, q_tuple_tup, q_tuple_ref, q_in_dic, q_in_tup, q_in_ref, q_in_lst, q_items_lst, q_items_tup, q_items_scr, q_items_str, q_ins, q_ty_int, q_ty_str, q_ty_tup, q_ty_lst, q_ty_non, q_ty_bl, q_ty_ins, q_all, q_gtup, q_gcons, q_gnil, q_join, q_append, q_count, q_isdigit, q_split, ltD, leD, gtD, geD, isStrD, valN, clsD, List.map_cons, List.map_nil, List.length_cons, List.length_nil, List.replicate_zero, List.replicate_succ, List.cons_append, List.nil_append, List.append_nil, List.getElem?_cons_zero, List.getElem?_cons_succ, List.set_cons_zero, List.set_cons_succ, List.zip_cons_cons, List.zip_nil_left, List.zip_nil_right, List.lookup_cons, List.lookup_nil, Option.some.injEq, exists_eq_left', exists_eq_left, exists_eq', exists_eq, HD.D.bl.injEq, HD.D.int.injEq, HD.D.str.injEq, HD.D.tup.injEq, HD.D.lst.injEq, HD.D.ref.injEq, List.cons.injEq, and_true, true_and, if_true, if_false, Bool.false_eq_true, ite_true, ite_false, Bool.not_true, Bool.not_false, Int.cast_ofNat_Int, beq_self_eq_true, Nat.sub_self, Nat.reduceSub, Nat.reduceAdd, reduceIte]
        refine ⟨a, 4, g, st, n, rfl, ⟨mput_same, pv, by decide, by decide⟩, fun r g' st' n' _ _ pv' => ?_⟩
        rw [mput_mput]
        refine eqD_int ?_
        simp only [cx_K, nox_K, dRet, dRetN, dAnd, dOr, dNot, dCB, dCons, dVar, dC, dNil, dSeq, dAsg, dgName, dIfS, dNever, dTest, dAndT, dOrT, dNotT, dIf, dBin, dUn, dChain, dstart, dPar, dPar3, dDrop, dFor, dIter, dRng1, dRng2, dNext, dTup, dLst, dCall, dMeth, dProp, dFld, dSetF, dM, dJoined, dJs, dLc, dDc, dSlice, dPart, dNoP, dRetF, dYes, dgSub, dwipe, dEnum, dZip, dTxt, ownD, dMethK, q_plus_int, q_plus_str, q_plus_tup, q_plus_lst, q_fII, q_minus, q_fdiv, q_mod, q_pow, q_mul, q_rep, q_ord_int, q_ord_str, q_len_str, q_len_tup, q_len_lst, q_len_scr, q_len_ref, q_neg, q_fmt_int, q_fmt_str, q_str_int, q_str_str, q_int_int, q_int_bl, q_int_str, q_bool_int, q_bool_bl, q_abs, q_max, q_min, q_divmod, q_ix_tup, q_ix_lst, q_ix_ref, q_ix_scr, q_ix_str, q_sl_tup, q_sl_str, q_sl_lst, q_sl_scr, q_tuple_lst, q_tuple_tup, q_tuple_ref, q_in_dic, q_in_tup, q_in_ref, q_in_lst, q_items_lst, q_items_tup, q_items_scr, q_items_str, q_ins, q_ty_int, q_ty_str, q_ty_tup, q_ty_lst, q_ty_non, q_ty_bl, q_ty_ins, q_all, q_gtup, q_gcons, q_gnil, q_join, q_append, q_count, q_isdigit, q_split, ltD, leD, gtD, geD, isStrD, valN, clsD, List.map_cons, List.map_nil, List.length_cons, List.length_nil, List.replicate_zero, List.replicate_succ, List.cons_append, List.nil_append, List.append_nil, List.getElem?_cons_zero, List.getElem?_cons_succ, List.set_cons_zero, List.set_cons_succ, List.zip_cons_cons, List.zip_nil_left, List.zip_nil_right, List.lookup_cons, List.lookup_nil, Option.some.injEq, exists_eq_left', exists_eq_left, exists_eq', exists_eq, HD.D.bl.injEq, HD.D.int.injEq, HD.D.str.injEq, HD.D.tup.injEq, HD.D.lst.injEq, HD.D.ref.injEq, List.cons.injEq, and_true, true_and, if_true, if_false, Bool.false_eq_true, ite_true, ite_false, Bool.not_true, Bool.not_false, Int.cast_ofNat_Int, beq_self_eq_true, Nat.sub_self, Nat.reduceSub, Nat.reduceAdd, reduceIte]
        by_cases z2 : (r == 0) = true
        · rw [z2]
          simp only [cx_K, nox_K, dRet, dRetN, dAnd, dOr, dNot, dCB, dCons, dVar, dC, dNil, dSeq, dAsg, dgName, dIfS, dNever, dTest, dAndT, dOrT, dNotT, dIf, dBin, dUn, dChain, dstart, dPar, dPar3, dDrop, dFor, dIter, dRng1, dRng2, dNext, dTup, dLst, dCall, dMeth, dProp, dFld, dSetF, dM, dJoined, dJs, dLc, dDc, dSlice, dPart, dNoP, dRetF, dYes, dgSub, dwipe, dEnum, dZip, dTxt, ownD, dMethK, q_plus_int, q_plus_str, q_plus_tup, q_plus_lst, q_fII, q_minus, q_fdiv, q_mod, q_pow, q_mul, q_rep, q_ord_int, q_ord_str, q_len_str, q_len_tup, q_len_lst, q_len_scr, q_len_ref, q_neg, q_fmt_int, q_fmt_str, q_str_int, q_str_str, q_int_int, q_int_bl, q_int_str, q_bool_int, q_bool_bl, q_abs, q_max, q_min, q_divmod, q_ix_tup, q_ix_lst, q_ix_ref, q_ix_scr, q_ix_str, q_sl_tup, q_sl_str, q_sl_lst, q_sl_scr, q_tuple_lst, q_tuple_tup, q_tuple_ref, q_in_dic, q_in_tup, q_in_ref, q_in_lst, q_items_lst, q_items_tup, q_items_scr, q_items_str, q_ins, q_ty_int, q_ty_str, q_ty_tup, q_ty_lst, q_ty_non, q_ty_bl, q_ty_ins, q_all, q_gtup, q_gcons, q_gnil, q_join, q_append, q_count, q_isdigit, q_split, ltD, leD, gtD, geD, isStrD, valN, clsD, List.map_cons, List.map_nil, List.length_cons, List.length_nil, List.replicate_zero, List.replicate_succ, List.cons_append, List.nil_append, List.append_nil, List.getElem?_cons_zero, List.getElem?_cons_succ, List.set_cons_zero, List.set_cons_succ, List.zip_cons_cons, List.zip_nil_left, List.zip_nil_right, List.lookup_cons, List.lookup_nil, Option.some.injEq, exists_eq_left', exists_eq_left, exists_eq', exists_eq, HD.D.bl.injEq, HD.D.int.injEq, HD.D.str.injEq, HD.D.tup.injEq, HD.D.lst.injEq, HD.D.ref.injEq, List.cons.injEq, and_true, true_and, if_true, if_false, Bool.false_eq_true, ite_true, ite_false, Bool.not_true, Bool.not_false, Int.cast_ofNat_Int, beq_self_eq_true, Nat.sub_self, Nat.reduceSub, Nat.reduceAdd, reduceIte]
          exact nxt _ g' st' n' pv'
        · have z3 : (r == 0) = false := by simpa using z2
          rw [z3]
          simp only [cx_K, nox_K, dRet, dRetN, dAnd, dOr, dNot, dCB, dCons, dVar, dC, dNil, dSeq, dAsg, dgName, dIfS, dNever, dTest, dAndT, dOrT, dNotT, dIf, dBin, dUn, dChain, dstart, dPar, dPar3, dDrop, dFor, dIter, dRng1, dRng2, dNext, dTup, dLst, dCall, dMeth, dProp, dFld, dSetF, dM, dJoined, dJs, dLc, dDc, dSlice, dPart, dNoP, dRetF, dYes, dgSub, dwipe, dEnum, dZip, dTxt, ownD, dMethK, q_plus_int, q_plus_str, q_plus_tup, q_plus_lst, q_fII, q_minus, q_fdiv, q_mod, q_pow, q_mul, q_rep, q_ord_int, q_ord_str, q_len_str, q_len_tup, q_len_lst, q_len_scr, q_len_ref, q_neg, q_fmt_int, q_fmt_str, q_str_int, q_str_str, q_int_int, q_int_bl, q_int_str, q_bool_int, q_bool_bl, q_abs, q_max, q_min, q_divmod, q_ix_tup, q_ix_lst, q_ix_ref, q_ix_scr, q_ix_str, q_sl_tup, q_sl_str, q_sl_lst, q_sl_scr, q_tuple_lst, q_tuple_tup, q_tuple_ref, q_in_dic, q_in_tup, q_in_ref, q_in_lst, q_items_lst, q_items_tup, q_items_scr, q_items_str, q_ins, q_ty_int, q_ty_str, q_ty_tup, q_ty_lst, q_ty_non, q_ty_bl, q_ty_ins, q_all, q_gtup, q_gcons, q_gnil, q_join, q_append, q_count, q_isdigit, q_split, ltD, leD, gtD, geD, isStrD, valN, clsD, List.map_cons, List.map_nil, List.length_cons, List.length_nil, List.replicate_zero, List.replicate_succ, List.cons_append, List.nil_append, List.append_nil, List.getElem?_cons_zero, List.getElem?_cons_succ, List.set_cons_zero, List.set_cons_succ, List.zip_cons_cons, List.zip_nil_left, List.zip_nil_right, List.lookup_cons, List.lookup_nil, Option.some.injEq, exists_eq_left', exists_eq_left, exists_eq', exists_eq, HD.D.bl.injEq, HD.D.int.injEq, HD.D.str.injEq, HD.D.tup.injEq, HD.D.lst.injEq, HD.D.ref.injEq, List.cons.injEq, and_true, true_and, if_true, if_false, Bool.false_eq_true, ite_true, ite_false, Bool.not_true, Bool.not_false, Int.cast_ofNat_Int, beq_self_eq_true, Nat.sub_self, Nat.reduceSub, Nat.reduceAdd, reduceIte]
          exact nxt _ g' st' n' pv'
theorem cal__law_set (F : Fc K mg) : CalD P w K mg base 2 "_law_set" c_set [] := by
  obtain ⟨fd, D⟩ := F.d_law_set
  refine calD_N D (fn_law_set F D) F.g__law_set ?_
  exact fun _ _ _ _ _ _ us hl => match us, hl with | [_, _], _ => rfl
/-! rows -/
def c_drawn_rows : DSp := fun ds M P => ∃ (a : Addr) (cs : List Nat) (wd : Nat) (g st n : Int), ds = [.ref a, lettersD cs, .int wd] ∧ (M a = some (puL g st n) ∧ Pv g st n ∧ wd ≤ 60 ∧ OkC cs) ∧
  ∀ rs g' st' n', rs.map (·.1) = cs → OkRs wd rs → Pv g' st' n' → P (rowsD rs) (mput M a (puL g' st' n'))
theorem sc_law_drawn_rows : FnScope ["_law_purse_here", "_law_letters_here", "_law_wide", "_law_found", "_law_letter"] ["_law_purse_here", "_law_letters_here", "_law_wide"] (defScope (top 26)) := ⟨rfl, rfl, rfl, by decide +kernel, rfl, by decide +kernel, by decide +kernel⟩
theorem fn_law_drawn_rows (F : Fc K mg) {fd : FuncData} (dF : FunD K "_law_drawn_rows" "_law_drawn_rows" (defArgs (top 26)) (defBody (top 26)) (defScope (top 26)) [] [] ((gloA "_law_drawn_rows") K) fd) : FnG P w K mg base 3 ((gloA "_law_drawn_rows") K) fd ["_law_purse_here", "_law_letters_here", "_law_wide"] (spOf K c_drawn_rows) := by
  have nd := sc_law_drawn_rows.nd
  refine fnG_D dF sc_law_drawn_rows (fun ds M R h => ?_) fun cd A outer s H hr => ⟨_, (b_cons (s_set (i := 3) nd rfl (by first | exact .inl rfl | exact .inr rfl) (j_lstM a_nil))
      (b_cons (s_for PassesOwn.never rfl (i_any (jv 1)) (g_name (i := 4) nd rfl (by first | exact .inl rfl | exact .inr rfl))
      (b_one (s_expr (j_append (jv 3) (j_tup (a_cons (jv 4) (a_cons (j_call (cal__law_set F) hr (by decide) (a_cons (jv 0) (a_cons (jv 2) a_nil))) a_nil)))))))
      (b_one (s_ret (j_ct call_tuple_of lc_tuple F.n_tuple rfl (a_cons (jv 3) a_nil) rfl (by decide) (by decide) rfl rfl))))), ?_⟩
  · obtain ⟨_, _, _, _, _, _, rfl, _⟩ := h; rfl
  · intro ds M R h
    obtain ⟨a, cs, wd, g, st, n, rfl, ⟨hm, pv, hw, ok⟩, h⟩ := h
    unfold lettersD
    have hcl : cs.length ≤ 26 := by
      have nd : cs.Nodup := ok.up.imp fun h => Nat.ne_of_lt h
      have e := List.Nodup.length_le_of_subset (l₁ := cs) (l₂ := AZ) nd (fun c hc => by
        have := ok.ch c hc
        rw [AZ_eq]
        exact List.mem_map.mpr ⟨c - 65, List.mem_range.mpr (by omega), by omega⟩)
      rw [AZ_len] at e
      exact e
    refine seq_step fun N hN => ?_
    simp only [cx_K, nox_K, dRet, dRetN, dAnd, dOr, dNot, dCB, dCons, dVar, dC, dNil, dSeq, dAsg, dgName, dIfS, dNever, dTest, dAndT, dOrT, dNotT, dIf, dBin, dUn, dChain, dstart, dPar, dPar3, dDrop, dFor, dIter, dRng1, dRng2, dNext, dTup, dLst, dCall, dMeth, dProp, dFld, dSetF, dM, dJoined, dJs, dLc, dDc, dSlice, dPart, dNoP, dRetF, dYes, dgSub, dwipe, dEnum, dZip, dTxt, ownD, dMethK, q_plus_int, q_plus_str, q_plus_tup, q_plus_lst, q_fII, q_minus, q_fdiv, q_mod, q_pow, q_mul, q_rep, q_ord_int, q_ord_str, q_len_str, q_len_tup, q_len_lst, q_len_scr, q_len_ref, q_neg, q_fmt_int, q_fmt_str, q_str_int, q_str_str, q_int_int, q_int_bl, q_int_str, q_bool_int, q_bool_bl, q_abs, q_max, q_min, q_divmod, q_ix_tup, q_ix_lst, q_ix_ref, q_ix_scr, q_ix_str, q_sl_tup, q_sl_str, q_sl_lst, q_sl_scr, q_tuple_lst, q_tuple_tup, q_tuple_ref, q_in_dic, q_in_tup, q_in_ref, q_in_lst, q_items_lst, q_items_tup, q_items_scr, q_items_str, q_ins, q_ty_int, q_ty_str, q_ty_tup, q_ty_lst, q_ty_non, q_ty_bl, q_ty_ins, q_all, q_gtup, q_gcons, q_gnil, q_join, q_append, q_count, q_isdigit, q_split, ltD, leD, gtD, geD, isStrD, valN, clsD, List.map_cons, List.map_nil, List.length_cons, List.length_nil, List.replicate_zero, List.replicate_succ, List.cons_append, List.nil_append, List.append_nil, List.getElem?_cons_zero, List.getElem?_cons_succ, List.set_cons_zero, List.set_cons_succ, List.zip_cons_cons, List.zip_nil_left, List.zip_nil_right, List.lookup_cons, List.lookup_nil, Option.some.injEq, exists_eq_left', exists_eq_left, exists_eq', exists_eq, HD.D.bl.injEq, HD.D.int.injEq, HD.D.str.injEq, HD.D.tup.injEq, HD.D.lst.injEq, HD.D.ref.injEq, List.cons.injEq, and_true, true_and, if_true, if_false, Bool.false_eq_true, ite_true, ite_false, Bool.not_true, Bool.not_false, Int.cast_ofNat_Int, beq_self_eq_true, Nat.sub_self, Nat.reduceSub, Nat.reduceAdd, reduceIte]
    refine ⟨by decide, fun b hb => ?_⟩
    have hab : b ≠ a := by
      rintro rfl
      rw [hm] at hb
      cases hb
    refine hN _ _ ?_
    clear hN N
    refine seq_step fun N hN => ?_
    simp only [cx_K, nox_K, dRet, dRetN, dAnd, dOr, dNot, dCB, dCons, dVar, dC, dNil, dSeq, dAsg, dgName, dIfS, dNever, dTest, dAndT, dOrT, dNotT, dIf, dBin, dUn, dChain, dstart, dPar, dPar3, dDrop, dFor, dIter, dRng1, dRng2, dNext, dTup, dLst, dCall, dMeth, dProp, dFld, dSetF, dM, dJoined, dJs, dLc, dDc, dSlice, dPart, dNoP, dRetF, dYes, dgSub, dwipe, dEnum, dZip, dTxt, ownD, dMethK, q_plus_int, q_plus_str, q_plus_tup, q_plus_lst, q_fII, q_minus, q_fdiv, q_mod, q_pow, q_mul, q_rep, q_ord_int, q_ord_str, q_len_str, q_len_tup, q_len_lst, q_len_scr, q_len_ref, q_neg, q_fmt_int, q_fmt_str, q_str_int, q_str_str, q_int_int, q_int_bl, q_int_str, q_bool_int, q_bool_bl, q_abs, q_max, q_min, q_divmod, q_ix_tup, q_ix_lst, q_ix_ref, q_ix_scr, q_ix_str, q_sl_tup, q_sl_str, q_sl_lst, q_sl_scr, q_tuple_lst, q_tuple_tup, q_tuple_ref, q_in_dic, q_in_tup, q_in_ref, q_in_lst, q_items_lst, q_items_tup, q_items_scr, q_items_str, q_ins, q_ty_int, q_ty_str, q_ty_tup, q_ty_lst, q_ty_non, q_ty_bl, q_ty_ins, q_all, q_gtup, q_gcons, q_gnil, q_join, q_append, q_count, q_isdigit, q_split, ltD, leD, gtD, geD, isStrD, valN, clsD, List.map_cons, List.map_nil, List.length_cons, List.length_nil, List.replicate_zero, List.replicate_succ, List.cons_append, List.nil_append, List.append_nil, List.getElem?_cons_zero, List.getElem?_cons_succ, List.set_cons_zero, List.set_cons_succ, List.zip_cons_cons, List.zip_nil_left, List.zip_nil_right, List.lookup_cons, List.lookup_nil, Option.some.injEq, exists_eq_left', exists_eq_left, exists_eq', exists_eq, HD.D.bl.injEq, HD.D.int.injEq, HD.D.str.injEq, HD.D.tup.injEq, HD.D.lst.injEq, HD.D.ref.injEq, List.cons.injEq, and_true, true_and, if_true, if_false, Bool.false_eq_true, ite_true, ite_false, Bool.not_true, Bool.not_false, Int.cast_ofNat_Int, beq_self_eq_true, Nat.sub_self, Nat.reduceSub, Nat.reduceAdd, reduceIte]
    have e0 : mput M b (.lst []) = mput (mput M b (MO.lst (([] : Rw).map rowD))) a (puL g st n) := (mput_id (by rw [mput_ne hab.symm]; exact hm)).symm
    rw [e0]
    generalize D.lst (cs.map fun c => D.str (chS c)) = L0
    refine (?key : ∀ (qs : List Nat) (F : Rw) (x4 : Option D) (g st n : Int), F.map (·.1) ++ qs = cs → (∀ p ∈ F, OkR wd p.2) → Pv g st n → forD ?G ?B ?E (qs.map fun c => D.str (chS c)) [some (D.ref a), some L0, some (D.int (wd : Int)), some (D.ref b), x4] (mput (mput M b (MO.lst (F.map rowD))) a (puL g st n))) cs [] none g st n rfl (fun p hp => by cases hp) pv
    intro qs
    induction qs with
    | nil =>
      intro F x4 g st n hl oks pv
      simp only [forD, List.map_nil]
      refine hN _ _ ?_
      clear hN N
      simp only [cx_K, nox_K, dRet, dRetN, dAnd, dOr, dNot, dCB, dCons, dVar, dC, dNil, dSeq, dAsg, dgName, dIfS, dNever, dTest, dAndT, dOrT, dNotT, dIf, dBin, dUn, dChain, dstart, dPar, dPar3, dDrop, dFor, dIter, dRng1, dRng2, dNext, dTup, dLst, dCall, dMeth, dProp, dFld, dSetF, dM, dJoined, dJs, dLc, dDc, dSlice, dPart, dNoP, dRetF, dYes, dgSub, dwipe, dEnum, dZip, dTxt, ownD, dMethK, q_plus_int, q_plus_str, q_plus_tup, q_plus_lst, q_fII, q_minus, q_fdiv, q_mod, q_pow, q_mul, q_rep, q_ord_int, q_ord_str, q_len_str, q_len_tup, q_len_lst, q_len_scr, q_len_ref, q_neg, q_fmt_int, q_fmt_str, q_str_int, q_str_str, q_int_int, q_int_bl, q_int_str, q_bool_int, q_bool_bl, q_abs, q_max, q_min, q_divmod, q_ix_tup, q_ix_lst, q_ix_ref, q_ix_scr, q_ix_str, q_sl_tup, q_sl_str, q_sl_lst, q_sl_scr, q_tuple_lst, q_tuple_tup, q_tuple_ref, q_in_dic, q_in_tup, q_in_ref, q_in_lst, q_items_lst, q_items_tup, q_items_scr, q_items_str, q_ins, q_ty_int, q_ty_str, q_ty_tup, q_ty_lst, q_ty_non, q_ty_bl, q_ty_ins, q_all, q_gtup, q_gcons, q_gnil, q_join, q_append, q_count, q_isdigit, q_split, ltD, leD, gtD, geD, isStrD, valN, clsD, List.map_cons, List.map_nil, List.length_cons, List.length_nil, List.replicate_zero, List.replicate_succ, List.cons_append, List.nil_append, List.append_nil, List.getElem?_cons_zero, List.getElem?_cons_succ, List.set_cons_zero, List.set_cons_succ, List.zip_cons_cons, List.zip_nil_left, List.zip_nil_right, List.lookup_cons, List.lookup_nil, Option.some.injEq, exists_eq_left', exists_eq_left, exists_eq', exists_eq, HD.D.bl.injEq, HD.D.int.injEq, HD.D.str.injEq, HD.D.tup.injEq, HD.D.lst.injEq, HD.D.ref.injEq, List.cons.injEq, and_true, true_and, if_true, if_false, Bool.false_eq_true, ite_true, ite_false, Bool.not_true, Bool.not_false, Int.cast_ofNat_Int, beq_self_eq_true, Nat.sub_self, Nat.reduceSub, Nat.reduceAdd, reduceIte]
      have hmb : (mput (mput M b (MO.lst (F.map rowD))) a (puL g st n)) b = some (.lst (F.map rowD)) := by rw [mput_ne hab]; exact mput_same
      refine ⟨_, seqL_ref hmb, ?_⟩
      rw [List.append_nil] at hl
      refine Ret_put hb (h F g st n hl ⟨?_, fun p hp => ?_, oks⟩ pv)
      · rw [hl]
        exact ok.up
      · exact ok.ch p.1 (by rw [← hl]; exact List.mem_map_of_mem hp)
    | cons c qs ih =>
      intro F x4 g st n hl oks pv
      have hmb : ∀ g st n, (mput (mput M b (MO.lst (F.map rowD))) a (puL g st n)) b = some (.lst (F.map rowD)) := fun g st n => by rw [mput_ne hab]; exact mput_same
      simp only [forD, List.map_cons]
      simp only [cx_K, nox_K, dRet, dRetN, dAnd, dOr, dNot, dCB, dCons, dVar, dC, dNil, dSeq, dAsg, dgName, dIfS, dNever, dTest, dAndT, dOrT, dNotT, dIf, dBin, dUn, dChain, dstart, dPar, dPar3, dDrop, dFor, dIter, dRng1, dRng2, dNext, dTup, dLst, dCall, dMeth, dProp, dFld, dSetF, dM, dJoined, dJs, dLc, dDc, dSlice, dPart, dNoP, dRetF, dYes, dgSub, dwipe, dEnum, dZip, dTxt, ownD, dMethK, q_plus_int, q_plus_str, q_plus_tup, q_plus_lst, q_fII, q_minus, q_fdiv, q_mod, q_pow, q_mul, q_rep, q_ord_int, q_ord_str, q_len_str, q_len_tup, q_len_lst, q_len_scr, q_len_ref, q_neg, q_fmt_int, q_fmt_str, q_str_int, q_str_str, q_int_int, q_int_bl, q_int_str, q_bool_int, q_bool_bl, q_abs, q_max, q_min, q_divmod, q_ix_tup, q_ix_lst, q_ix_ref, q_ix_scr, q_ix_str, q_sl_tup, q_sl_str, q_sl_lst, q_sl_scr, q_tuple_lst, q_tuple_tup, q_tuple_ref, q_in_dic, q_in_tup, q_in_ref, q_in_lst, q_items_lst, q_items_tup, q_items_scr, q_items_str, q_ins, q_ty_int, q_ty_str, q_ty_tup, q_ty_lst, q_ty_non, q_ty_bl, q_ty_ins, q_all, q_gtup, q_gcons, q_gnil, q_join, q_append, q_count, q_isdigit, q_split, ltD, leD, gtD, geD, isStrD, valN, clsD, List.map_cons, List.map_nil, List.length_cons, List.length_nil, List.replicate_zero, List.replicate_succ, List.cons_append, List.nil_append, List.append_nil, List.getElem?_cons_zero, List.getElem?_cons_succ, List.set_cons_zero, List.set_cons_succ, List.zip_cons_cons, List.zip_nil_left, List.zip_nil_right, List.lookup_cons, List.lookup_nil, Option.some.injEq, exists_eq_left', exists_eq_left, exists_eq', exists_eq, HD.D.bl.injEq, HD.D.int.injEq, HD.D.str.injEq, HD.D.tup.injEq, HD.D.lst.injEq, HD.D.ref.injEq, List.cons.injEq, and_true, true_and, if_true, if_false, Bool.false_eq_true, ite_true, ite_false, Bool.not_true, Bool.not_false, Int.cast_ofNat_Int, beq_self_eq_true, Nat.sub_self, Nat.reduceSub, Nat.reduceAdd, reduceIte]
      refine ⟨⟨_, seqL_ref (hmb g st n)⟩, a, wd, g, st, n, rfl, ⟨mput_same, pv, hw⟩, fun r g' st' n' okr pv' => ?_⟩
      rw [mput_mput]
      have hl2 := congrArg List.length hl
      simp only [List.length_append, List.length_map, List.length_cons] at hl2
      refine ⟨by decide, _, hmb g' st' n', by rw [List.length_map, sl24]; omega, ?_⟩
      have e2 : mput (mput (mput M b (MO.lst (F.map rowD))) a (puL g' st' n')) b (.lst (F.map rowD ++ [D.tup [D.str (chS c), intsD r]])) = mput (mput M b (MO.lst ((F ++ [(c, r)]).map rowD))) a (puL g' st' n') := by
        rw [mput_comm hab.symm, mput_mput, List.map_append]
        rfl
      rw [e2]
      refine ih (F ++ [(c, r)]) _ g' st' n' (by rw [List.map_append]; simpa using hl) (fun p hp => ?_) pv'
      rcases List.mem_append.mp hp with z | z
      · exact oks p z
      · rw [List.mem_singleton] at z
        subst z
        exact okr
theorem cal__law_drawn_rows (F : Fc K mg) : CalD P w K mg base 3 "_law_drawn_rows" c_drawn_rows [] := by
  obtain ⟨fd, D⟩ := F.d_law_drawn_rows
  refine calD_N D (fn_law_drawn_rows F D) F.g__law_drawn_rows ?_
  exact fun _ _ _ _ _ _ us hl => match us, hl with | [_, _, _], _ => rfl
theorem sc_law_marks : FnScope ["_law_row", "_law_wide", "_law_inside", "_law_t"] ["_law_row", "_law_wide"] (defScope (top 27)) := ⟨rfl, rfl, rfl, by decide +kernel, rfl, by decide +kernel, by decide +kernel⟩
theorem fn_law_marks (F : Fc K mg) {fd : FuncData} (dF : FunD K "_law_marks" "_law_marks" (defArgs (top 27)) (defBody (top 27)) (defScope (top 27)) [] [] ((gloA "_law_marks") K) fd) : FnG P w K mg base 1 ((gloA "_law_marks") K) fd ["_law_row", "_law_wide"] (spOf K c_marks_of) := by
  have nd := sc_law_marks.nd
  refine fnG_D dF sc_law_marks (fun ds M R h => ?_) fun cd A outer s H hr => ⟨_, (b_cons (s_set (i := 2) nd rfl (by first | exact .inl rfl | exact .inr rfl) (j_ct (call_dictP rfl) lc_dict F.n_dict rfl (a_cons (j_lc rfl nd (own := [("_law_t", 3)]) (by show BlkOk ["_law_row", "_law_wide", "_law_inside", "_law_t"] (defScope (top 27)) _ [("_law_t", 3)]; constructor <;> first | rfl | decide +kernel) (i_any (jv 0)) (fun _ _ _ _ _ => (gw_name (i := 3) nd rfl (by first | exact .inl rfl | exact .inr rfl) (by decide))) (fun _ _ _ _ _ => ts_nil) (fun _ _ _ _ _ => (j_tup (a_cons (jv 3) (a_cons j_bl a_nil))))) a_nil) rfl (by decide) (by decide) rfl rfl))
      (b_one (s_ret (j_join j_str (j_lc rfl nd (own := [("_law_t", 3)]) (by show BlkOk ["_law_row", "_law_wide", "_law_inside", "_law_t"] (defScope (top 27)) _ [("_law_t", 3)]; constructor <;> first | rfl | decide +kernel) (i_rng1 F.n_range (jv 1)) (fun _ _ _ _ _ => (gw_name (i := 3) nd rfl (by first | exact .inl rfl | exact .inr rfl) (by decide))) (fun _ _ _ _ _ => ts_nil) (fun _ _ _ _ _ => (j_ifx (t_in (hu_of hr.rm) (jv 3) (jv 2)) j_str j_str))))))), ?_⟩
  · obtain ⟨_, _, rfl, _⟩ := h; rfl
  · intro ds M R h
    obtain ⟨r, wd, rfl, ⟨ok, hw⟩, h⟩ := h
    unfold intsD
    have sl := sl24
    have rl := ok.len
    refine seq_step fun N hN => ?_
    simp only [cx_K, nox_K, dRet, dRetN, dAnd, dOr, dNot, dCB, dCons, dVar, dC, dNil, dSeq, dAsg, dgName, dIfS, dNever, dTest, dAndT, dOrT, dNotT, dIf, dBin, dUn, dChain, dstart, dPar, dPar3, dDrop, dFor, dIter, dRng1, dRng2, dNext, dTup, dLst, dCall, dMeth, dProp, dFld, dSetF, dM, dJoined, dJs, dLc, dDc, dSlice, dPart, dNoP, dRetF, dYes, dgSub, dwipe, dEnum, dZip, dTxt, ownD, dMethK, q_plus_int, q_plus_str, q_plus_tup, q_plus_lst, q_fII, q_minus, q_fdiv, q_mod, q_pow, q_mul, q_rep, q_ord_int, q_ord_str, q_len_str, q_len_tup, q_len_lst, q_len_scr, q_len_ref, q_neg, q_fmt_int, q_fmt_str, q_str_int, q_str_str, q_int_int, q_int_bl, q_int_str, q_bool_int, q_bool_bl, q_abs, q_max, q_min, q_divmod, q_ix_tup, q_ix_lst, q_ix_ref, q_ix_scr, q_ix_str, q_sl_tup, q_sl_str, q_sl_lst, q_sl_scr, q_tuple_lst, q_tuple_tup, q_tuple_ref, q_in_dic, q_in_tup, q_in_ref, q_in_lst, q_items_lst, q_items_tup, q_items_scr, q_items_str, q_ins, q_ty_int, q_ty_str, q_ty_tup, q_ty_lst, q_ty_non, q_ty_bl, q_ty_ins, q_all, q_gtup, q_gcons, q_gnil, q_join, q_append, q_count, q_isdigit, q_split, ltD, leD, gtD, geD, isStrD, valN, clsD, List.map_cons, List.map_nil, List.length_cons, List.length_nil, List.replicate_zero, List.replicate_succ, List.cons_append, List.nil_append, List.append_nil, List.getElem?_cons_zero, List.getElem?_cons_succ, List.set_cons_zero, List.set_cons_succ, List.zip_cons_cons, List.zip_nil_left, List.zip_nil_right, List.lookup_cons, List.lookup_nil, Option.some.injEq, exists_eq_left', exists_eq_left, exists_eq', exists_eq, HD.D.bl.injEq, HD.D.int.injEq, HD.D.str.injEq, HD.D.tup.injEq, HD.D.lst.injEq, HD.D.ref.injEq, List.cons.injEq, and_true, true_and, if_true, if_false, Bool.false_eq_true, ite_true, ite_false, Bool.not_true, Bool.not_false, Int.cast_ofNat_Int, beq_self_eq_true, Nat.sub_self, Nat.reduceSub, Nat.reduceAdd, reduceIte]
    refine lcD_all (fun (t : Nat) => D.int (t : Int)) (fun (t : Nat) => D.tup [D.int (t : Int), D.bl true]) r (fun t ht K1 k => ?_) _ (by omega) ?_
    · simp only [cx_K, nox_K, dRet, dRetN, dAnd, dOr, dNot, dCB, dCons, dVar, dC, dNil, dSeq, dAsg, dgName, dIfS, dNever, dTest, dAndT, dOrT, dNotT, dIf, dBin, dUn, dChain, dstart, dPar, dPar3, dDrop, dFor, dIter, dRng1, dRng2, dNext, dTup, dLst, dCall, dMeth, dProp, dFld, dSetF, dM, dJoined, dJs, dLc, dDc, dSlice, dPart, dNoP, dRetF, dYes, dgSub, dwipe, dEnum, dZip, dTxt, ownD, dMethK, q_plus_int, q_plus_str, q_plus_tup, q_plus_lst, q_fII, q_minus, q_fdiv, q_mod, q_pow, q_mul, q_rep, q_ord_int, q_ord_str, q_len_str, q_len_tup, q_len_lst, q_len_scr, q_len_ref, q_neg, q_fmt_int, q_fmt_str, q_str_int, q_str_str, q_int_int, q_int_bl, q_int_str, q_bool_int, q_bool_bl, q_abs, q_max, q_min, q_divmod, q_ix_tup, q_ix_lst, q_ix_ref, q_ix_scr, q_ix_str, q_sl_tup, q_sl_str, q_sl_lst, q_sl_scr, q_tuple_lst, q_tuple_tup, q_tuple_ref, q_in_dic, q_in_tup, q_in_ref, q_in_lst, q_items_lst, q_items_tup, q_items_scr, q_items_str, q_ins, q_ty_int, q_ty_str, q_ty_tup, q_ty_lst, q_ty_non, q_ty_bl, q_ty_ins, q_all, q_gtup, q_gcons, q_gnil, q_join, q_append, q_count, q_isdigit, q_split, ltD, leD, gtD, geD, isStrD, valN, clsD, List.map_cons, List.map_nil, List.length_cons, List.length_nil, List.replicate_zero, List.replicate_succ, List.cons_append, List.nil_append, List.append_nil, List.getElem?_cons_zero, List.getElem?_cons_succ, List.set_cons_zero, List.set_cons_succ, List.zip_cons_cons, List.zip_nil_left, List.zip_nil_right, List.lookup_cons, List.lookup_nil, Option.some.injEq, exists_eq_left', exists_eq_left, exists_eq', exists_eq, HD.D.bl.injEq, HD.D.int.injEq, HD.D.str.injEq, HD.D.tup.injEq, HD.D.lst.injEq, HD.D.ref.injEq, List.cons.injEq, and_true, true_and, if_true, if_false, Bool.false_eq_true, ite_true, ite_false, Bool.not_true, Bool.not_false, Int.cast_ofNat_Int, beq_self_eq_true, Nat.sub_self, Nat.reduceSub, Nat.reduceAdd, reduceIte]
      exact ⟨by decide, k⟩
    · refine ⟨r.map fun (t : Nat) => (Sum.inl (t : Int), D.bl true), ?_, ?_⟩
      · rw [List.map_map]
        rfl
      · have em := mergeD_ints r [] (by simpa using ok.nd)
        simp only [List.map_nil, List.nil_append] at em
        rw [em]
        refine hN _ _ ?_
        clear hN N
        simp only [cx_K, nox_K, dRet, dRetN, dAnd, dOr, dNot, dCB, dCons, dVar, dC, dNil, dSeq, dAsg, dgName, dIfS, dNever, dTest, dAndT, dOrT, dNotT, dIf, dBin, dUn, dChain, dstart, dPar, dPar3, dDrop, dFor, dIter, dRng1, dRng2, dNext, dTup, dLst, dCall, dMeth, dProp, dFld, dSetF, dM, dJoined, dJs, dLc, dDc, dSlice, dPart, dNoP, dRetF, dYes, dgSub, dwipe, dEnum, dZip, dTxt, ownD, dMethK, q_plus_int, q_plus_str, q_plus_tup, q_plus_lst, q_fII, q_minus, q_fdiv, q_mod, q_pow, q_mul, q_rep, q_ord_int, q_ord_str, q_len_str, q_len_tup, q_len_lst, q_len_scr, q_len_ref, q_neg, q_fmt_int, q_fmt_str, q_str_int, q_str_str, q_int_int, q_int_bl, q_int_str, q_bool_int, q_bool_bl, q_abs, q_max, q_min, q_divmod, q_ix_tup, q_ix_lst, q_ix_ref, q_ix_scr, q_ix_str, q_sl_tup, q_sl_str, q_sl_lst, q_sl_scr, q_tuple_lst, q_tuple_tup, q_tuple_ref, q_in_dic, q_in_tup, q_in_ref, q_in_lst, q_items_lst, q_items_tup, q_items_scr, q_items_str, q_ins, q_ty_int, q_ty_str, q_ty_tup, q_ty_lst, q_ty_non, q_ty_bl, q_ty_ins, q_all, q_gtup, q_gcons, q_gnil, q_join, q_append, q_count, q_isdigit, q_split, ltD, leD, gtD, geD, isStrD, valN, clsD, List.map_cons, List.map_nil, List.length_cons, List.length_nil, List.replicate_zero, List.replicate_succ, List.cons_append, List.nil_append, List.append_nil, List.getElem?_cons_zero, List.getElem?_cons_succ, List.set_cons_zero, List.set_cons_succ, List.zip_cons_cons, List.zip_nil_left, List.zip_nil_right, List.lookup_cons, List.lookup_nil, Option.some.injEq, exists_eq_left', exists_eq_left, exists_eq', exists_eq, HD.D.bl.injEq, HD.D.int.injEq, HD.D.str.injEq, HD.D.tup.injEq, HD.D.lst.injEq, HD.D.ref.injEq, List.cons.injEq, and_true, true_and, if_true, if_false, Bool.false_eq_true, ite_true, ite_false, Bool.not_true, Bool.not_false, Int.cast_ofNat_Int, beq_self_eq_true, Nat.sub_self, Nat.reduceSub, Nat.reduceAdd, reduceIte]
        refine ⟨by omega, by omega, ?_⟩
        rw [Int.toNat_natCast, rgD_map]
        refine lcD_all _ (fun (t : Nat) => D.str (markS r t)) _ (fun t ht K1 k => ?_) _ (by rw [List.length_range]; omega) ?_
        · simp only [cx_K, nox_K, dRet, dRetN, dAnd, dOr, dNot, dCB, dCons, dVar, dC, dNil, dSeq, dAsg, dgName, dIfS, dNever, dTest, dAndT, dOrT, dNotT, dIf, dBin, dUn, dChain, dstart, dPar, dPar3, dDrop, dFor, dIter, dRng1, dRng2, dNext, dTup, dLst, dCall, dMeth, dProp, dFld, dSetF, dM, dJoined, dJs, dLc, dDc, dSlice, dPart, dNoP, dRetF, dYes, dgSub, dwipe, dEnum, dZip, dTxt, ownD, dMethK, q_plus_int, q_plus_str, q_plus_tup, q_plus_lst, q_fII, q_minus, q_fdiv, q_mod, q_pow, q_mul, q_rep, q_ord_int, q_ord_str, q_len_str, q_len_tup, q_len_lst, q_len_scr, q_len_ref, q_neg, q_fmt_int, q_fmt_str, q_str_int, q_str_str, q_int_int, q_int_bl, q_int_str, q_bool_int, q_bool_bl, q_abs, q_max, q_min, q_divmod, q_ix_tup, q_ix_lst, q_ix_ref, q_ix_scr, q_ix_str, q_sl_tup, q_sl_str, q_sl_lst, q_sl_scr, q_tuple_lst, q_tuple_tup, q_tuple_ref, q_in_dic, q_in_tup, q_in_ref, q_in_lst, q_items_lst, q_items_tup, q_items_scr, q_items_str, q_ins, q_ty_int, q_ty_str, q_ty_tup, q_ty_lst, q_ty_non, q_ty_bl, q_ty_ins, q_all, q_gtup, q_gcons, q_gnil, q_join, q_append, q_count, q_isdigit, q_split, ltD, leD, gtD, geD, isStrD, valN, clsD, List.map_cons, List.map_nil, List.length_cons, List.length_nil, List.replicate_zero, List.replicate_succ, List.cons_append, List.nil_append, List.append_nil, List.getElem?_cons_zero, List.getElem?_cons_succ, List.set_cons_zero, List.set_cons_succ, List.zip_cons_cons, List.zip_nil_left, List.zip_nil_right, List.lookup_cons, List.lookup_nil, Option.some.injEq, exists_eq_left', exists_eq_left, exists_eq', exists_eq, HD.D.bl.injEq, HD.D.int.injEq, HD.D.str.injEq, HD.D.tup.injEq, HD.D.lst.injEq, HD.D.ref.injEq, List.cons.injEq, and_true, true_and, if_true, if_false, Bool.false_eq_true, ite_true, ite_false, Bool.not_true, Bool.not_false, Int.cast_ofNat_Int, beq_self_eq_true, Nat.sub_self, Nat.reduceSub, Nat.reduceAdd, reduceIte]
          refine ⟨Sum.inl (t : Int), rfl, ?_⟩
          rw [hasK_inl]
          unfold markS at k
          cases z : r.contains t with
          | true =>
            rw [z] at k
            first | exact k | exact ⟨true, rfl, k⟩
          | false =>
            rw [z] at k
            first | exact k | exact ⟨false, rfl, k⟩
        · refine ⟨(List.range wd).map (markS r), .inl ?_, marks_fit r wd hw, Ret.of h⟩
          rw [List.map_map]
          rfl
theorem cal__law_marks (F : Fc K mg) : CalD P w K mg base 1 "_law_marks" c_marks_of [] := by
  obtain ⟨fd, D⟩ := F.d_law_marks
  refine calD_N D (fn_law_marks F D) F.g__law_marks ?_
  exact fun _ _ _ _ _ _ us hl => match us, hl with | [_, _], _ => rfl
def c_plan_text : DSp := fun ds M P => ∃ (rs : Rw) (wd : Nat), ds = [.int wd, rowsD rs] ∧ (OkRs wd rs ∧ wd ≤ 60) ∧ P (.str (textT wd rs)) M
theorem sc_law_plan_text : FnScope ["_law_wide", "_law_drawn_here", "_law_lines", "_law_letter", "_law_row"] ["_law_wide", "_law_drawn_here"] (defScope (top 28)) := ⟨rfl, rfl, rfl, by decide +kernel, rfl, by decide +kernel, by decide +kernel⟩
theorem fn_law_plan_text (F : Fc K mg) {fd : FuncData} (dF : FunD K "_law_plan_text" "_law_plan_text" (defArgs (top 28)) (defBody (top 28)) (defScope (top 28)) [] [] ((gloA "_law_plan_text") K) fd) : FnG P w K mg base 2 ((gloA "_law_plan_text") K) fd ["_law_wide", "_law_drawn_here"] (spOf K c_plan_text) := by
  have nd := sc_law_plan_text.nd
  refine fnG_D dF sc_law_plan_text (fun ds M R h => ?_) fun cd A outer s H hr => ⟨_, (b_cons (s_setLc rfl nd (i := 2) rfl rfl rfl (own := [("_law_letter", 3), ("_law_row", 4)]) (by show BlkOk ["_law_wide", "_law_drawn_here", "_law_lines", "_law_letter", "_law_row"] (defScope (top 28)) _ [("_law_letter", 3), ("_law_row", 4)]; constructor <;> first | rfl | decide +kernel) (i_any (jv 1)) (fun _ _ _ _ _ => (gw_tup (n := 2) rfl (gsw_cons (gw_name (i := 3) nd rfl (by first | exact .inl rfl | exact .inr rfl) (by decide)) (gsw_cons (gw_name (i := 4) nd rfl (by first | exact .inl rfl | exact .inr rfl) (by decide)) gsw_nil)))) (fun _ _ _ _ _ => ts_nil) (fun _ _ _ _ _ => (j_add (j_add (jv 3) j_str) (j_call (cal__law_marks F) hr (by decide) (a_cons (jv 4) (a_cons (jv 0) a_nil))))))
      (b_one (s_ret (j_join j_str (j_add (j_lst (a_cons (j_ct (call_str_int.or SkE.call_str_str) lc_str F.n_str rfl (a_cons (jv 0) a_nil) rfl (by decide) (by decide) rfl rfl) a_nil)) (jv 2)))))), ?_⟩
  · obtain ⟨_, _, rfl, _⟩ := h; rfl
  · intro ds M R h
    obtain ⟨rs, wd, rfl, ⟨ok, hw⟩, h⟩ := h
    have hl := rs_len ok
    have sl := sl24
    unfold rowsD
    refine seq_step fun N hN => ?_
    simp only [cx_K, nox_K, dRet, dRetN, dAnd, dOr, dNot, dCB, dCons, dVar, dC, dNil, dSeq, dAsg, dgName, dIfS, dNever, dTest, dAndT, dOrT, dNotT, dIf, dBin, dUn, dChain, dstart, dPar, dPar3, dDrop, dFor, dIter, dRng1, dRng2, dNext, dTup, dLst, dCall, dMeth, dProp, dFld, dSetF, dM, dJoined, dJs, dLc, dDc, dSlice, dPart, dNoP, dRetF, dYes, dgSub, dwipe, dEnum, dZip, dTxt, ownD, dMethK, q_plus_int, q_plus_str, q_plus_tup, q_plus_lst, q_fII, q_minus, q_fdiv, q_mod, q_pow, q_mul, q_rep, q_ord_int, q_ord_str, q_len_str, q_len_tup, q_len_lst, q_len_scr, q_len_ref, q_neg, q_fmt_int, q_fmt_str, q_str_int, q_str_str, q_int_int, q_int_bl, q_int_str, q_bool_int, q_bool_bl, q_abs, q_max, q_min, q_divmod, q_ix_tup, q_ix_lst, q_ix_ref, q_ix_scr, q_ix_str, q_sl_tup, q_sl_str, q_sl_lst, q_sl_scr, q_tuple_lst, q_tuple_tup, q_tuple_ref, q_in_dic, q_in_tup, q_in_ref, q_in_lst, q_items_lst, q_items_tup, q_items_scr, q_items_str, q_ins, q_ty_int, q_ty_str, q_ty_tup, q_ty_lst, q_ty_non, q_ty_bl, q_ty_ins, q_all, q_gtup, q_gcons, q_gnil, q_join, q_append, q_count, q_isdigit, q_split, ltD, leD, gtD, geD, isStrD, valN, clsD, List.map_cons, List.map_nil, List.length_cons, List.length_nil, List.replicate_zero, List.replicate_succ, List.cons_append, List.nil_append, List.append_nil, List.getElem?_cons_zero, List.getElem?_cons_succ, List.set_cons_zero, List.set_cons_succ, List.zip_cons_cons, List.zip_nil_left, List.zip_nil_right, List.lookup_cons, List.lookup_nil, Option.some.injEq, exists_eq_left', exists_eq_left, exists_eq', exists_eq, HD.D.bl.injEq, HD.D.int.injEq, HD.D.str.injEq, HD.D.tup.injEq, HD.D.lst.injEq, HD.D.ref.injEq, List.cons.injEq, and_true, true_and, if_true, if_false, Bool.false_eq_true, ite_true, ite_false, Bool.not_true, Bool.not_false, Int.cast_ofNat_Int, beq_self_eq_true, Nat.sub_self, Nat.reduceSub, Nat.reduceAdd, reduceIte]
    refine lcD_all rowD (fun p => D.str (lineT wd p)) _ (fun p hp K1 k => ?_) _ (by omega) ?_
    · unfold rowD
      simp only [cx_K, nox_K, dRet, dRetN, dAnd, dOr, dNot, dCB, dCons, dVar, dC, dNil, dSeq, dAsg, dgName, dIfS, dNever, dTest, dAndT, dOrT, dNotT, dIf, dBin, dUn, dChain, dstart, dPar, dPar3, dDrop, dFor, dIter, dRng1, dRng2, dNext, dTup, dLst, dCall, dMeth, dProp, dFld, dSetF, dM, dJoined, dJs, dLc, dDc, dSlice, dPart, dNoP, dRetF, dYes, dgSub, dwipe, dEnum, dZip, dTxt, ownD, dMethK, q_plus_int, q_plus_str, q_plus_tup, q_plus_lst, q_fII, q_minus, q_fdiv, q_mod, q_pow, q_mul, q_rep, q_ord_int, q_ord_str, q_len_str, q_len_tup, q_len_lst, q_len_scr, q_len_ref, q_neg, q_fmt_int, q_fmt_str, q_str_int, q_str_str, q_int_int, q_int_bl, q_int_str, q_bool_int, q_bool_bl, q_abs, q_max, q_min, q_divmod, q_ix_tup, q_ix_lst, q_ix_ref, q_ix_scr, q_ix_str, q_sl_tup, q_sl_str, q_sl_lst, q_sl_scr, q_tuple_lst, q_tuple_tup, q_tuple_ref, q_in_dic, q_in_tup, q_in_ref, q_in_lst, q_items_lst, q_items_tup, q_items_scr, q_items_str, q_ins, q_ty_int, q_ty_str, q_ty_tup, q_ty_lst, q_ty_non, q_ty_bl, q_ty_ins, q_all, q_gtup, q_gcons, q_gnil, q_join, q_append, q_count, q_isdigit, q_split, ltD, leD, gtD, geD, isStrD, valN, clsD, List.map_cons, List.map_nil, List.length_cons, List.length_nil, List.replicate_zero, List.replicate_succ, List.cons_append, List.nil_append, List.append_nil, List.getElem?_cons_zero, List.getElem?_cons_succ, List.set_cons_zero, List.set_cons_succ, List.zip_cons_cons, List.zip_nil_left, List.zip_nil_right, List.lookup_cons, List.lookup_nil, Option.some.injEq, exists_eq_left', exists_eq_left, exists_eq', exists_eq, HD.D.bl.injEq, HD.D.int.injEq, HD.D.str.injEq, HD.D.tup.injEq, HD.D.lst.injEq, HD.D.ref.injEq, List.cons.injEq, and_true, true_and, if_true, if_false, Bool.false_eq_true, ite_true, ite_false, Bool.not_true, Bool.not_false, Int.cast_ofNat_Int, beq_self_eq_true, Nat.sub_self, Nat.reduceSub, Nat.reduceAdd, reduceIte]
      have c1 := chS_len p.1
      have e2 : (Str.ofString " ").length = 1 := rfl
      refine ⟨by omega, _, _, rfl, ⟨ok.ok p hp, by omega⟩, ?_⟩
      simp only [cx_K, nox_K, dRet, dRetN, dAnd, dOr, dNot, dCB, dCons, dVar, dC, dNil, dSeq, dAsg, dgName, dIfS, dNever, dTest, dAndT, dOrT, dNotT, dIf, dBin, dUn, dChain, dstart, dPar, dPar3, dDrop, dFor, dIter, dRng1, dRng2, dNext, dTup, dLst, dCall, dMeth, dProp, dFld, dSetF, dM, dJoined, dJs, dLc, dDc, dSlice, dPart, dNoP, dRetF, dYes, dgSub, dwipe, dEnum, dZip, dTxt, ownD, dMethK, q_plus_int, q_plus_str, q_plus_tup, q_plus_lst, q_fII, q_minus, q_fdiv, q_mod, q_pow, q_mul, q_rep, q_ord_int, q_ord_str, q_len_str, q_len_tup, q_len_lst, q_len_scr, q_len_ref, q_neg, q_fmt_int, q_fmt_str, q_str_int, q_str_str, q_int_int, q_int_bl, q_int_str, q_bool_int, q_bool_bl, q_abs, q_max, q_min, q_divmod, q_ix_tup, q_ix_lst, q_ix_ref, q_ix_scr, q_ix_str, q_sl_tup, q_sl_str, q_sl_lst, q_sl_scr, q_tuple_lst, q_tuple_tup, q_tuple_ref, q_in_dic, q_in_tup, q_in_ref, q_in_lst, q_items_lst, q_items_tup, q_items_scr, q_items_str, q_ins, q_ty_int, q_ty_str, q_ty_tup, q_ty_lst, q_ty_non, q_ty_bl, q_ty_ins, q_all, q_gtup, q_gcons, q_gnil, q_join, q_append, q_count, q_isdigit, q_split, ltD, leD, gtD, geD, isStrD, valN, clsD, List.map_cons, List.map_nil, List.length_cons, List.length_nil, List.replicate_zero, List.replicate_succ, List.cons_append, List.nil_append, List.append_nil, List.getElem?_cons_zero, List.getElem?_cons_succ, List.set_cons_zero, List.set_cons_succ, List.zip_cons_cons, List.zip_nil_left, List.zip_nil_right, List.lookup_cons, List.lookup_nil, Option.some.injEq, exists_eq_left', exists_eq_left, exists_eq', exists_eq, HD.D.bl.injEq, HD.D.int.injEq, HD.D.str.injEq, HD.D.tup.injEq, HD.D.lst.injEq, HD.D.ref.injEq, List.cons.injEq, and_true, true_and, if_true, if_false, Bool.false_eq_true, ite_true, ite_false, Bool.not_true, Bool.not_false, Int.cast_ofNat_Int, beq_self_eq_true, Nat.sub_self, Nat.reduceSub, Nat.reduceAdd, reduceIte]
      refine ⟨by rw [Str.length_append, marksT_len]; omega, ?_⟩
      have e3 : Str.empty ++ chS p.1 = chS p.1 := rfl
      unfold lineT at k
      rw [e3] at k
      exact k
    · skip
      refine hN _ _ ?_
      clear hN N
      simp only [cx_K, nox_K, dRet, dRetN, dAnd, dOr, dNot, dCB, dCons, dVar, dC, dNil, dSeq, dAsg, dgName, dIfS, dNever, dTest, dAndT, dOrT, dNotT, dIf, dBin, dUn, dChain, dstart, dPar, dPar3, dDrop, dFor, dIter, dRng1, dRng2, dNext, dTup, dLst, dCall, dMeth, dProp, dFld, dSetF, dM, dJoined, dJs, dLc, dDc, dSlice, dPart, dNoP, dRetF, dYes, dgSub, dwipe, dEnum, dZip, dTxt, ownD, dMethK, q_plus_int, q_plus_str, q_plus_tup, q_plus_lst, q_fII, q_minus, q_fdiv, q_mod, q_pow, q_mul, q_rep, q_ord_int, q_ord_str, q_len_str, q_len_tup, q_len_lst, q_len_scr, q_len_ref, q_neg, q_fmt_int, q_fmt_str, q_str_int, q_str_str, q_int_int, q_int_bl, q_int_str, q_bool_int, q_bool_bl, q_abs, q_max, q_min, q_divmod, q_ix_tup, q_ix_lst, q_ix_ref, q_ix_scr, q_ix_str, q_sl_tup, q_sl_str, q_sl_lst, q_sl_scr, q_tuple_lst, q_tuple_tup, q_tuple_ref, q_in_dic, q_in_tup, q_in_ref, q_in_lst, q_items_lst, q_items_tup, q_items_scr, q_items_str, q_ins, q_ty_int, q_ty_str, q_ty_tup, q_ty_lst, q_ty_non, q_ty_bl, q_ty_ins, q_all, q_gtup, q_gcons, q_gnil, q_join, q_append, q_count, q_isdigit, q_split, ltD, leD, gtD, geD, isStrD, valN, clsD, List.map_cons, List.map_nil, List.length_cons, List.length_nil, List.replicate_zero, List.replicate_succ, List.cons_append, List.nil_append, List.append_nil, List.getElem?_cons_zero, List.getElem?_cons_succ, List.set_cons_zero, List.set_cons_succ, List.zip_cons_cons, List.zip_nil_left, List.zip_nil_right, List.lookup_cons, List.lookup_nil, Option.some.injEq, exists_eq_left', exists_eq_left, exists_eq', exists_eq, HD.D.bl.injEq, HD.D.int.injEq, HD.D.str.injEq, HD.D.tup.injEq, HD.D.lst.injEq, HD.D.ref.injEq, List.cons.injEq, and_true, true_and, if_true, if_false, Bool.false_eq_true, ite_true, ite_false, Bool.not_true, Bool.not_false, Int.cast_ofNat_Int, beq_self_eq_true, Nat.sub_self, Nat.reduceSub, Nat.reduceAdd, reduceIte]
      refine ⟨log2_small (by omega), by omega, by rw [List.length_map]; omega, linesT wd rs, .inl ?_, lines_fit ok (by omega), Ret.of h⟩
      unfold linesT
      rw [List.map_cons, List.map_map]
      rfl
theorem cal__law_plan_text (F : Fc K mg) : CalD P w K mg base 2 "_law_plan_text" c_plan_text [] := by
  obtain ⟨fd, D⟩ := F.d_law_plan_text
  refine calD_N D (fn_law_plan_text F D) F.g__law_plan_text ?_
  exact fun _ _ _ _ _ _ us hl => match us, hl with | [_, _], _ => rfl
end K02

namespace K02
open PySem PySem.Spec PyProof.Rows L2 HD
variable {P : Program} {w : World} {K : PySem.W.Frag} {mg : Str → Option Value} {base : Heap}
def c_drawn : DSp := fun ds M P => ∃ (a : Addr) (g st n : Int), ds = [.ref a] ∧ (M a = some (puL g st n) ∧ Pv g st n) ∧ ∀ wd rs g' st' n', wd ≤ 60 → OkRs wd rs → Pv g' st' n' → P (.tup [.int (wd : Nat), rowsD rs]) (mput M a (puL g' st' n'))
theorem nat_of {v : Int} {xs : List Int} (h : v ∈ xs) (b : Nat) (hx : xs.all (fun i => decide (0 ≤ i) && decide (i ≤ b)) = true) : ∃ k : Nat, v = (k : Int) ∧ k ≤ b := by
  have e := List.all_eq_true.mp hx v h
  obtain ⟨e1, e2⟩ := Bool.and_eq_true_iff.mp e
  have e3 := of_decide_eq_true e1
  have e4 := of_decide_eq_true e2
  exact ⟨v.toNat, by omega, by omega⟩
theorem sc_law_drawn : FnScope ["_law_purse_here", "_law_wide", "_law_letters_here"] ["_law_purse_here"] (defScope (top 29)) := ⟨rfl, rfl, rfl, by decide +kernel, rfl, by decide +kernel, by decide +kernel⟩
theorem fn_law_drawn (F : Fc K mg) {fd : FuncData} (dF : FunD K "_law_drawn" "_law_drawn" (defArgs (top 29)) (defBody (top 29)) (defScope (top 29)) [] [] ((gloA "_law_drawn") K) fd) : FnG P w K mg base 4 ((gloA "_law_drawn") K) fd ["_law_purse_here"] (spOf K c_drawn) := by
  have nd := sc_law_drawn.nd
  refine fnG_D dF sc_law_drawn (fun ds M R h => ?_) fun cd A outer s H hr => ⟨_, (b_cons (s_set (i := 1) nd rfl (by first | exact .inl rfl | exact .inr rfl) (j_ix (j_lst (a_cons j_int (a_cons j_int (a_cons j_int (a_cons j_int (a_cons j_int (a_cons j_int (a_cons j_int (a_cons j_int a_nil))))))))) (j_call (cal__law_roll F) hr (by decide) (a_cons (jv 0) (a_cons j_int a_nil)))))
      (b_cons (s_set (i := 2) nd rfl (by first | exact .inl rfl | exact .inr rfl) (j_call (cal__law_letters F) hr (by decide) (a_cons (jv 0) (a_cons (j_ix (j_lst (a_cons j_int (a_cons j_int (a_cons j_int (a_cons j_int (a_cons j_int (a_cons j_int a_nil))))))) (j_call (cal__law_roll F) hr (by decide) (a_cons (jv 0) (a_cons j_int a_nil)))) a_nil))))
      (b_one (s_ret (j_tup (a_cons (jv 1) (a_cons (j_call (cal__law_drawn_rows F) hr (by decide) (a_cons (jv 0) (a_cons (jv 2) (a_cons (jv 1) a_nil)))) a_nil))))))), ?_⟩
  · obtain ⟨_, _, _, _, rfl, _⟩ := h; rfl
  · intro ds M R h
    obtain ⟨a, g, st, n, rfl, ⟨hm, pv⟩, h⟩ := h
    refine seq_step fun N hN => ?_
    simp only [cx_K, nox_K, dRet, dRetN, dAnd, dOr, dNot, dCB, dCons, dVar, dC, dNil, dSeq, dAsg, dgName, dIfS, dNever, dTest, dAndT, dOrT, dNotT, dIf, dBin, dUn, dChain, dstart, dPar, dPar3, dDrop, dFor, dIter, dRng1, dRng2, dNext, dTup, dLst, dCall, dMeth, dProp, dFld, dSetF, dM, dJoined, dJs, dLc, dDc, dSlice, dPart, dNoP, dRetF, dYes, dgSub, dwipe, dEnum, dZip, dTxt, ownD, dMethK, q_plus_int, q_plus_str, q_plus_tup, q_plus_lst, q_fII, q_minus, q_fdiv, q_mod, q_pow, q_mul, q_rep, q_ord_int, q_ord_str, q_len_str, q_len_tup, q_len_lst, q_len_scr, q_len_ref, q_neg, q_fmt_int, q_fmt_str, q_str_int, q_str_str, q_int_int, q_int_bl, q_int_str, q_bool_int, q_bool_bl, q_abs, q_max, q_min, q_divmod, q_ix_tup, q_ix_lst, q_ix_ref, q_ix_scr, q_ix_str, q_sl_tup, q_sl_str, q_sl_lst, q_sl_scr, q_tuple_lst, q_tuple_tup, q_tuple_ref, q_in_dic, q_in_tup, q_in_ref, q_in_lst, q_items_lst, q_items_tup, q_items_scr, q_items_str, q_ins, q_ty_int, q_ty_str, q_ty_tup, q_ty_lst, q_ty_non, q_ty_bl, q_ty_ins, q_all, q_gtup, q_gcons, q_gnil, q_join, q_append, q_count, q_isdigit, q_split, ltD, leD, gtD, geD, isStrD, valN, clsD, List.map_cons, List.map_nil, List.length_cons, List.length_nil, List.replicate_zero, List.replicate_succ, List.cons_append, List.nil_append, List.append_nil, List.getElem?_cons_zero, List.getElem?_cons_succ, List.set_cons_zero, List.set_cons_succ, List.zip_cons_cons, List.zip_nil_left, List.zip_nil_right, List.lookup_cons, List.lookup_nil, Option.some.injEq, exists_eq_left', exists_eq_left, exists_eq', exists_eq, HD.D.bl.injEq, HD.D.int.injEq, HD.D.str.injEq, HD.D.tup.injEq, HD.D.lst.injEq, HD.D.ref.injEq, List.cons.injEq, and_true, true_and, if_true, if_false, Bool.false_eq_true, ite_true, ite_false, Bool.not_true, Bool.not_false, Int.cast_ofNat_Int, beq_self_eq_true, Nat.sub_self, Nat.reduceSub, Nat.reduceAdd, reduceIte]
    refine ⟨by decide, a, 8, g, st, n, rfl, ⟨hm, pv, by decide, by decide⟩, fun r8 g1 st1 n1 r0 r1 pv1 => ?_⟩
    simp only [cx_K, nox_K, dRet, dRetN, dAnd, dOr, dNot, dCB, dCons, dVar, dC, dNil, dSeq, dAsg, dgName, dIfS, dNever, dTest, dAndT, dOrT, dNotT, dIf, dBin, dUn, dChain, dstart, dPar, dPar3, dDrop, dFor, dIter, dRng1, dRng2, dNext, dTup, dLst, dCall, dMeth, dProp, dFld, dSetF, dM, dJoined, dJs, dLc, dDc, dSlice, dPart, dNoP, dRetF, dYes, dgSub, dwipe, dEnum, dZip, dTxt, ownD, dMethK, q_plus_int, q_plus_str, q_plus_tup, q_plus_lst, q_fII, q_minus, q_fdiv, q_mod, q_pow, q_mul, q_rep, q_ord_int, q_ord_str, q_len_str, q_len_tup, q_len_lst, q_len_scr, q_len_ref, q_neg, q_fmt_int, q_fmt_str, q_str_int, q_str_str, q_int_int, q_int_bl, q_int_str, q_bool_int, q_bool_bl, q_abs, q_max, q_min, q_divmod, q_ix_tup, q_ix_lst, q_ix_ref, q_ix_scr, q_ix_str, q_sl_tup, q_sl_str, q_sl_lst, q_sl_scr, q_tuple_lst, q_tuple_tup, q_tuple_ref, q_in_dic, q_in_tup, q_in_ref, q_in_lst, q_items_lst, q_items_tup, q_items_scr, q_items_str, q_ins, q_ty_int, q_ty_str, q_ty_tup, q_ty_lst, q_ty_non, q_ty_bl, q_ty_ins, q_all, q_gtup, q_gcons, q_gnil, q_join, q_append, q_count, q_isdigit, q_split, ltD, leD, gtD, geD, isStrD, valN, clsD, List.map_cons, List.map_nil, List.length_cons, List.length_nil, List.replicate_zero, List.replicate_succ, List.cons_append, List.nil_append, List.append_nil, List.getElem?_cons_zero, List.getElem?_cons_succ, List.set_cons_zero, List.set_cons_succ, List.zip_cons_cons, List.zip_nil_left, List.zip_nil_right, List.lookup_cons, List.lookup_nil, Option.some.injEq, exists_eq_left', exists_eq_left, exists_eq', exists_eq, HD.D.bl.injEq, HD.D.int.injEq, HD.D.str.injEq, HD.D.tup.injEq, HD.D.lst.injEq, HD.D.ref.injEq, List.cons.injEq, and_true, true_and, if_true, if_false, Bool.false_eq_true, ite_true, ite_false, Bool.not_true, Bool.not_false, Int.cast_ofNat_Int, beq_self_eq_true, Nat.sub_self, Nat.reduceSub, Nat.reduceAdd, reduceIte]
    obtain ⟨v, hv, ev⟩ := at_ints (xs := [5, 0, 1, 2, 9, 17, 33, 60]) r0 r1
    obtain ⟨wd, rfl, hw⟩ := nat_of hv 60 (by decide)
    refine ⟨_, ev, ?_⟩
    refine hN _ _ ?_
    clear hN N
    refine seq_step fun N hN => ?_
    simp only [cx_K, nox_K, dRet, dRetN, dAnd, dOr, dNot, dCB, dCons, dVar, dC, dNil, dSeq, dAsg, dgName, dIfS, dNever, dTest, dAndT, dOrT, dNotT, dIf, dBin, dUn, dChain, dstart, dPar, dPar3, dDrop, dFor, dIter, dRng1, dRng2, dNext, dTup, dLst, dCall, dMeth, dProp, dFld, dSetF, dM, dJoined, dJs, dLc, dDc, dSlice, dPart, dNoP, dRetF, dYes, dgSub, dwipe, dEnum, dZip, dTxt, ownD, dMethK, q_plus_int, q_plus_str, q_plus_tup, q_plus_lst, q_fII, q_minus, q_fdiv, q_mod, q_pow, q_mul, q_rep, q_ord_int, q_ord_str, q_len_str, q_len_tup, q_len_lst, q_len_scr, q_len_ref, q_neg, q_fmt_int, q_fmt_str, q_str_int, q_str_str, q_int_int, q_int_bl, q_int_str, q_bool_int, q_bool_bl, q_abs, q_max, q_min, q_divmod, q_ix_tup, q_ix_lst, q_ix_ref, q_ix_scr, q_ix_str, q_sl_tup, q_sl_str, q_sl_lst, q_sl_scr, q_tuple_lst, q_tuple_tup, q_tuple_ref, q_in_dic, q_in_tup, q_in_ref, q_in_lst, q_items_lst, q_items_tup, q_items_scr, q_items_str, q_ins, q_ty_int, q_ty_str, q_ty_tup, q_ty_lst, q_ty_non, q_ty_bl, q_ty_ins, q_all, q_gtup, q_gcons, q_gnil, q_join, q_append, q_count, q_isdigit, q_split, ltD, leD, gtD, geD, isStrD, valN, clsD, List.map_cons, List.map_nil, List.length_cons, List.length_nil, List.replicate_zero, List.replicate_succ, List.cons_append, List.nil_append, List.append_nil, List.getElem?_cons_zero, List.getElem?_cons_succ, List.set_cons_zero, List.set_cons_succ, List.zip_cons_cons, List.zip_nil_left, List.zip_nil_right, List.lookup_cons, List.lookup_nil, Option.some.injEq, exists_eq_left', exists_eq_left, exists_eq', exists_eq, HD.D.bl.injEq, HD.D.int.injEq, HD.D.str.injEq, HD.D.tup.injEq, HD.D.lst.injEq, HD.D.ref.injEq, List.cons.injEq, and_true, true_and, if_true, if_false, Bool.false_eq_true, ite_true, ite_false, Bool.not_true, Bool.not_false, Int.cast_ofNat_Int, beq_self_eq_true, Nat.sub_self, Nat.reduceSub, Nat.reduceAdd, reduceIte]
    refine ⟨by decide, a, 6, g1, st1, n1, rfl, ⟨mput_same, pv1, by decide, by decide⟩, fun r6 g2 st2 n2 s0 s1 pv2 => ?_⟩
    rw [mput_mput]
    simp only [cx_K, nox_K, dRet, dRetN, dAnd, dOr, dNot, dCB, dCons, dVar, dC, dNil, dSeq, dAsg, dgName, dIfS, dNever, dTest, dAndT, dOrT, dNotT, dIf, dBin, dUn, dChain, dstart, dPar, dPar3, dDrop, dFor, dIter, dRng1, dRng2, dNext, dTup, dLst, dCall, dMeth, dProp, dFld, dSetF, dM, dJoined, dJs, dLc, dDc, dSlice, dPart, dNoP, dRetF, dYes, dgSub, dwipe, dEnum, dZip, dTxt, ownD, dMethK, q_plus_int, q_plus_str, q_plus_tup, q_plus_lst, q_fII, q_minus, q_fdiv, q_mod, q_pow, q_mul, q_rep, q_ord_int, q_ord_str, q_len_str, q_len_tup, q_len_lst, q_len_scr, q_len_ref, q_neg, q_fmt_int, q_fmt_str, q_str_int, q_str_str, q_int_int, q_int_bl, q_int_str, q_bool_int, q_bool_bl, q_abs, q_max, q_min, q_divmod, q_ix_tup, q_ix_lst, q_ix_ref, q_ix_scr, q_ix_str, q_sl_tup, q_sl_str, q_sl_lst, q_sl_scr, q_tuple_lst, q_tuple_tup, q_tuple_ref, q_in_dic, q_in_tup, q_in_ref, q_in_lst, q_items_lst, q_items_tup, q_items_scr, q_items_str, q_ins, q_ty_int, q_ty_str, q_ty_tup, q_ty_lst, q_ty_non, q_ty_bl, q_ty_ins, q_all, q_gtup, q_gcons, q_gnil, q_join, q_append, q_count, q_isdigit, q_split, ltD, leD, gtD, geD, isStrD, valN, clsD, List.map_cons, List.map_nil, List.length_cons, List.length_nil, List.replicate_zero, List.replicate_succ, List.cons_append, List.nil_append, List.append_nil, List.getElem?_cons_zero, List.getElem?_cons_succ, List.set_cons_zero, List.set_cons_succ, List.zip_cons_cons, List.zip_nil_left, List.zip_nil_right, List.lookup_cons, List.lookup_nil, Option.some.injEq, exists_eq_left', exists_eq_left, exists_eq', exists_eq, HD.D.bl.injEq, HD.D.int.injEq, HD.D.str.injEq, HD.D.tup.injEq, HD.D.lst.injEq, HD.D.ref.injEq, List.cons.injEq, and_true, true_and, if_true, if_false, Bool.false_eq_true, ite_true, ite_false, Bool.not_true, Bool.not_false, Int.cast_ofNat_Int, beq_self_eq_true, Nat.sub_self, Nat.reduceSub, Nat.reduceAdd, reduceIte]
    obtain ⟨v, hv, ev⟩ := at_ints (xs := [2, 1, 0, 3, 5, 26]) s0 s1
    obtain ⟨k, rfl, hk⟩ := nat_of hv 26 (by decide)
    refine ⟨_, ev, a, k, g2, st2, n2, rfl, ⟨mput_same, pv2, hk⟩, fun cs g3 st3 n3 hl ok pv3 => ?_⟩
    rw [mput_mput]
    refine hN _ _ ?_
    clear hN N
    simp only [cx_K, nox_K, dRet, dRetN, dAnd, dOr, dNot, dCB, dCons, dVar, dC, dNil, dSeq, dAsg, dgName, dIfS, dNever, dTest, dAndT, dOrT, dNotT, dIf, dBin, dUn, dChain, dstart, dPar, dPar3, dDrop, dFor, dIter, dRng1, dRng2, dNext, dTup, dLst, dCall, dMeth, dProp, dFld, dSetF, dM, dJoined, dJs, dLc, dDc, dSlice, dPart, dNoP, dRetF, dYes, dgSub, dwipe, dEnum, dZip, dTxt, ownD, dMethK, q_plus_int, q_plus_str, q_plus_tup, q_plus_lst, q_fII, q_minus, q_fdiv, q_mod, q_pow, q_mul, q_rep, q_ord_int, q_ord_str, q_len_str, q_len_tup, q_len_lst, q_len_scr, q_len_ref, q_neg, q_fmt_int, q_fmt_str, q_str_int, q_str_str, q_int_int, q_int_bl, q_int_str, q_bool_int, q_bool_bl, q_abs, q_max, q_min, q_divmod, q_ix_tup, q_ix_lst, q_ix_ref, q_ix_scr, q_ix_str, q_sl_tup, q_sl_str, q_sl_lst, q_sl_scr, q_tuple_lst, q_tuple_tup, q_tuple_ref, q_in_dic, q_in_tup, q_in_ref, q_in_lst, q_items_lst, q_items_tup, q_items_scr, q_items_str, q_ins, q_ty_int, q_ty_str, q_ty_tup, q_ty_lst, q_ty_non, q_ty_bl, q_ty_ins, q_all, q_gtup, q_gcons, q_gnil, q_join, q_append, q_count, q_isdigit, q_split, ltD, leD, gtD, geD, isStrD, valN, clsD, List.map_cons, List.map_nil, List.length_cons, List.length_nil, List.replicate_zero, List.replicate_succ, List.cons_append, List.nil_append, List.append_nil, List.getElem?_cons_zero, List.getElem?_cons_succ, List.set_cons_zero, List.set_cons_succ, List.zip_cons_cons, List.zip_nil_left, List.zip_nil_right, List.lookup_cons, List.lookup_nil, Option.some.injEq, exists_eq_left', exists_eq_left, exists_eq', exists_eq, HD.D.bl.injEq, HD.D.int.injEq, HD.D.str.injEq, HD.D.tup.injEq, HD.D.lst.injEq, HD.D.ref.injEq, List.cons.injEq, and_true, true_and, if_true, if_false, Bool.false_eq_true, ite_true, ite_false, Bool.not_true, Bool.not_false, Int.cast_ofNat_Int, beq_self_eq_true, Nat.sub_self, Nat.reduceSub, Nat.reduceAdd, reduceIte]
    refine ⟨a, cs, wd, g3, st3, n3, rfl, ⟨mput_same, pv3, hw, ok⟩, fun rs g4 st4 n4 hc okr pv4 => ?_⟩
    rw [mput_mput]
    exact ⟨by decide, Ret.of (h wd rs g4 st4 n4 hw okr pv4)⟩
theorem cal__law_drawn (F : Fc K mg) : CalD P w K mg base 4 "_law_drawn" c_drawn [] := by
  obtain ⟨fd, D⟩ := F.d_law_drawn
  refine calD_N D (fn_law_drawn F D) F.g__law_drawn ?_
  exact fun _ _ _ _ _ _ us hl => match us, hl with | [_], _ => rfl
/-! a tick more or fewer -/
theorem mem_ints (t : Nat) (r : List Nat) : memD (.int (t : Int)) (r.map fun (u : Nat) => D.int (u : Int)) = r.contains t := by
  unfold memD
  induction r with
  | nil => rfl
  | cons u r ih =>
    rw [List.map_cons, List.any_cons, ih, List.contains_cons]
    congr 1
    show eqV (.int (u : Int)) (.int (t : Int)) = (t == u)
    by_cases z : t = u
    · subst z
      unfold eqV
      simp
    · have z1 : (t == u) = false := by simpa using z
      rw [z1]
      unfold eqV
      simp
      omega
theorem flat_ints (r : List Nat) : (r.map fun (u : Nat) => D.int (u : Int)).all flatD = true := by
  induction r with
  | nil => rfl
  | cons u r ih => rw [List.map_cons, List.all_cons, ih]; rfl
theorem perm_nat {ms : List Int} {F : List Nat} (h : ms.Perm (F.map fun (t : Nat) => (t : Int))) : ∃ cs : List Nat, ms = cs.map (fun (t : Nat) => (t : Int)) ∧ cs.Perm F := by
  refine ⟨ms.map Int.toNat, ?_, ?_⟩
  · rw [List.map_map]
    have e : ∀ y ∈ ms, ((fun (t : Nat) => (t : Int)) ∘ Int.toNat) y = y := fun y hy => by
      obtain ⟨c, _, rfl⟩ := List.mem_map.mp (h.mem_iff.mp hy)
      rfl
    conv => lhs; rw [← List.map_id ms]
    exact (List.map_congr_left e).symm
  · have e := h.map Int.toNat
    rw [List.map_map] at e
    have e2 : F.map (Int.toNat ∘ fun (t : Nat) => (t : Int)) = F := by
      conv => rhs; rw [← List.map_id F]
      exact List.map_congr_left fun c _ => rfl
    rw [e2] at e
    exact e
def c_turned : DSp := fun ds M P => ∃ (r : List Nat) (t wd : Nat), ds = [intsD r, .int t] ∧ (OkR wd r ∧ t < wd ∧ wd ≤ 60) ∧ ∀ r', OkR wd r' → r' ≠ r → P (intsD r') M
theorem sc_law_turned : FnScope ["_law_row", "_law_t", "_law_s"] ["_law_row", "_law_t"] (defScope (top 30)) := ⟨rfl, rfl, rfl, by decide +kernel, rfl, by decide +kernel, by decide +kernel⟩
theorem fn_law_turned (F : Fc K mg) {fd : FuncData} (dF : FunD K "_law_turned" "_law_turned" (defArgs (top 30)) (defBody (top 30)) (defScope (top 30)) [] [] ((gloA "_law_turned") K) fd) : FnG P w K mg base 1 ((gloA "_law_turned") K) fd ["_law_row", "_law_t"] (spOf K c_turned) := by
  have nd := sc_law_turned.nd
  refine fnG_D dF sc_law_turned (fun ds M R h => ?_) fun cd A outer s H hr => ⟨_, (b_one (s_ret (j_ifx (t_in (hu_of hr.rm) (jv 1) (jv 0)) (j_ct call_tuple_of lc_tuple F.n_tuple rfl (a_cons (j_lc rfl nd (own := [("_law_s", 2)]) (by show BlkOk ["_law_row", "_law_t", "_law_s"] (defScope (top 30)) _ [("_law_s", 2)]; constructor <;> first | rfl | decide +kernel) (i_any (jv 0)) (fun _ _ _ _ _ => (gw_name (i := 2) nd rfl (by first | exact .inl rfl | exact .inr rfl) (by decide))) (fun _ _ _ _ _ => (ts_one (t_ne hr.rm.units (jv 2) (jv 1)))) (fun _ _ _ _ _ => (jv 2))) a_nil) rfl (by decide) (by decide) rfl rfl) (j_ct call_tuple_of lc_tuple F.n_tuple rfl (a_cons (j_cb (cr_sortedTI.or (cr_sortedI.or cr_sortedS)) lc_sortedT F.n_sorted rfl (a_cons (j_add (jv 0) (j_tup (a_cons (jv 1) a_nil))) a_nil) rfl (by decide) (by decide) rfl rfl) a_nil) rfl (by decide) (by decide) rfl rfl)))), ?_⟩
  · obtain ⟨_, _, _, rfl, _⟩ := h; rfl
  · intro ds M R h
    obtain ⟨r, t, wd, rfl, ⟨ok, ht, hw⟩, h⟩ := h
    have hl := ok.len
    have sl := sl24
    unfold intsD
    simp only [cx_K, nox_K, dRet, dRetN, dAnd, dOr, dNot, dCB, dCons, dVar, dC, dNil, dSeq, dAsg, dgName, dIfS, dNever, dTest, dAndT, dOrT, dNotT, dIf, dBin, dUn, dChain, dstart, dPar, dPar3, dDrop, dFor, dIter, dRng1, dRng2, dNext, dTup, dLst, dCall, dMeth, dProp, dFld, dSetF, dM, dJoined, dJs, dLc, dDc, dSlice, dPart, dNoP, dRetF, dYes, dgSub, dwipe, dEnum, dZip, dTxt, ownD, dMethK, q_plus_int, q_plus_str, q_plus_tup, q_plus_lst, q_fII, q_minus, q_fdiv, q_mod, q_pow, q_mul, q_rep, q_ord_int, q_ord_str, q_len_str, q_len_tup, q_len_lst, q_len_scr, q_len_ref, q_neg, q_fmt_int, q_fmt_str, q_str_int, q_str_str, q_int_int, q_int_bl, q_int_str, q_bool_int, q_bool_bl, q_abs, q_max, q_min, q_divmod, q_ix_tup, q_ix_lst, q_ix_ref, q_ix_scr, q_ix_str, q_sl_tup, q_sl_str, q_sl_lst, q_sl_scr, q_tuple_lst, q_tuple_tup, q_tuple_ref, q_in_dic, q_in_tup, q_in_ref, q_in_lst, q_items_lst, q_items_tup, q_items_scr, q_items_str, q_ins, q_ty_int, q_ty_str, q_ty_tup, q_ty_lst, q_ty_non, q_ty_bl, q_ty_ins, q_all, q_gtup, q_gcons, q_gnil, q_join, q_append, q_count, q_isdigit, q_split, ltD, leD, gtD, geD, isStrD, valN, clsD, List.map_cons, List.map_nil, List.length_cons, List.length_nil, List.replicate_zero, List.replicate_succ, List.cons_append, List.nil_append, List.append_nil, List.getElem?_cons_zero, List.getElem?_cons_succ, List.set_cons_zero, List.set_cons_succ, List.zip_cons_cons, List.zip_nil_left, List.zip_nil_right, List.lookup_cons, List.lookup_nil, Option.some.injEq, exists_eq_left', exists_eq_left, exists_eq', exists_eq, HD.D.bl.injEq, HD.D.int.injEq, HD.D.str.injEq, HD.D.tup.injEq, HD.D.lst.injEq, HD.D.ref.injEq, List.cons.injEq, and_true, true_and, if_true, if_false, Bool.false_eq_true, ite_true, ite_false, Bool.not_true, Bool.not_false, Int.cast_ofNat_Int, beq_self_eq_true, Nat.sub_self, Nat.reduceSub, Nat.reduceAdd, reduceIte]
    refine ⟨rfl, flat_ints r, ?_⟩
    rw [mem_ints]
    by_cases z : r.contains t = true
    · rw [if_pos z]
      refine lcD_map (fun (u : Nat) => D.int (u : Int)) (fun u => if u = t then none else some (D.int (u : Int))) r (fun u hu K1 K0 kk => ?_) [] _ (by rw [List.length_nil]; omega) ?_
      · simp only [cx_K, nox_K, dRet, dRetN, dAnd, dOr, dNot, dCB, dCons, dVar, dC, dNil, dSeq, dAsg, dgName, dIfS, dNever, dTest, dAndT, dOrT, dNotT, dIf, dBin, dUn, dChain, dstart, dPar, dPar3, dDrop, dFor, dIter, dRng1, dRng2, dNext, dTup, dLst, dCall, dMeth, dProp, dFld, dSetF, dM, dJoined, dJs, dLc, dDc, dSlice, dPart, dNoP, dRetF, dYes, dgSub, dwipe, dEnum, dZip, dTxt, ownD, dMethK, q_plus_int, q_plus_str, q_plus_tup, q_plus_lst, q_fII, q_minus, q_fdiv, q_mod, q_pow, q_mul, q_rep, q_ord_int, q_ord_str, q_len_str, q_len_tup, q_len_lst, q_len_scr, q_len_ref, q_neg, q_fmt_int, q_fmt_str, q_str_int, q_str_str, q_int_int, q_int_bl, q_int_str, q_bool_int, q_bool_bl, q_abs, q_max, q_min, q_divmod, q_ix_tup, q_ix_lst, q_ix_ref, q_ix_scr, q_ix_str, q_sl_tup, q_sl_str, q_sl_lst, q_sl_scr, q_tuple_lst, q_tuple_tup, q_tuple_ref, q_in_dic, q_in_tup, q_in_ref, q_in_lst, q_items_lst, q_items_tup, q_items_scr, q_items_str, q_ins, q_ty_int, q_ty_str, q_ty_tup, q_ty_lst, q_ty_non, q_ty_bl, q_ty_ins, q_all, q_gtup, q_gcons, q_gnil, q_join, q_append, q_count, q_isdigit, q_split, ltD, leD, gtD, geD, isStrD, valN, clsD, List.map_cons, List.map_nil, List.length_cons, List.length_nil, List.replicate_zero, List.replicate_succ, List.cons_append, List.nil_append, List.append_nil, List.getElem?_cons_zero, List.getElem?_cons_succ, List.set_cons_zero, List.set_cons_succ, List.zip_cons_cons, List.zip_nil_left, List.zip_nil_right, List.lookup_cons, List.lookup_nil, Option.some.injEq, exists_eq_left', exists_eq_left, exists_eq', exists_eq, HD.D.bl.injEq, HD.D.int.injEq, HD.D.str.injEq, HD.D.tup.injEq, HD.D.lst.injEq, HD.D.ref.injEq, List.cons.injEq, and_true, true_and, if_true, if_false, Bool.false_eq_true, ite_true, ite_false, Bool.not_true, Bool.not_false, Int.cast_ofNat_Int, beq_self_eq_true, Nat.sub_self, Nat.reduceSub, Nat.reduceAdd, reduceIte]
        refine eqD_int ?_
        by_cases y : u = t
        · rw [if_pos y] at kk
          have e : ((u : Int) == (t : Int)) = true := by subst y; simp
          rw [e]
          exact ⟨_, rfl, kk⟩
        · rw [if_neg y] at kk
          have e : ((u : Int) == (t : Int)) = false := beq_eq_false_iff_ne.mpr (by omega)
          rw [e]
          exact ⟨_, rfl, kk⟩
      · rw [List.nil_append]
        have e : r.filterMap (fun u => if u = t then none else some (D.int (u : Int))) = (r.filter fun u => decide (u ≠ t)).map fun (u : Nat) => D.int (u : Int) := by
          clear ok z h hl
          induction r with
          | nil => rfl
          | cons u r ih =>
            by_cases y : u = t
            · rw [List.filterMap_cons_none (by rw [if_pos y]), List.filter_cons_of_neg (by simpa using y), ih]
            · rw [List.filterMap_cons_some (b := D.int (u : Int)) (by rw [if_neg y]), List.filter_cons_of_pos (by simpa using y), List.map_cons, ih]
        rw [e]
        have hm : t ∈ r := by simpa using z
        refine Ret.of (h (r.filter fun u => decide (u ≠ t)) ⟨ok.up.sublist List.filter_sublist, fun u hu => ok.lt u (List.mem_filter.mp hu).1⟩ fun e2 => ?_)
        rw [← e2] at hm
        exact of_decide_eq_true (List.mem_filter.mp hm).2 rfl
    · rw [if_neg z]
      have hn : t ∉ r := by simpa using z
      refine ⟨by decide, by rw [List.length_map]; omega, r.map (fun (u : Nat) => (u : Int)) ++ [(t : Int)], ?_, fun ms hp hs => ?_⟩
      · rw [List.map_append, List.map_map]
        rfl
      · have e0 : r.map (fun (u : Nat) => (u : Int)) ++ [(t : Int)] = (r ++ [t]).map (fun (u : Nat) => (u : Int)) := by rw [List.map_append]; rfl
        rw [e0] at hp
        obtain ⟨cs, rfl, hcs⟩ := perm_nat hp
        have nd : (r ++ [t]).Nodup := List.nodup_append.mpr ⟨ok.nd, by simp, fun x hx y hy e => by rw [List.mem_singleton] at hy; subst e; subst hy; exact hn hx⟩
        have up : cs.Pairwise (· < ·) := by
          have p : cs.Pairwise (· ≤ ·) := (List.pairwise_map.mp hs).imp fun h => by omega
          exact (List.pairwise_and_iff.mpr ⟨p, hcs.nodup_iff.mpr nd⟩).imp fun ⟨h1, h2⟩ => by omega
        rw [List.map_map]
        simp only [cx_K, nox_K, dRet, dRetN, dAnd, dOr, dNot, dCB, dCons, dVar, dC, dNil, dSeq, dAsg, dgName, dIfS, dNever, dTest, dAndT, dOrT, dNotT, dIf, dBin, dUn, dChain, dstart, dPar, dPar3, dDrop, dFor, dIter, dRng1, dRng2, dNext, dTup, dLst, dCall, dMeth, dProp, dFld, dSetF, dM, dJoined, dJs, dLc, dDc, dSlice, dPart, dNoP, dRetF, dYes, dgSub, dwipe, dEnum, dZip, dTxt, ownD, dMethK, q_plus_int, q_plus_str, q_plus_tup, q_plus_lst, q_fII, q_minus, q_fdiv, q_mod, q_pow, q_mul, q_rep, q_ord_int, q_ord_str, q_len_str, q_len_tup, q_len_lst, q_len_scr, q_len_ref, q_neg, q_fmt_int, q_fmt_str, q_str_int, q_str_str, q_int_int, q_int_bl, q_int_str, q_bool_int, q_bool_bl, q_abs, q_max, q_min, q_divmod, q_ix_tup, q_ix_lst, q_ix_ref, q_ix_scr, q_ix_str, q_sl_tup, q_sl_str, q_sl_lst, q_sl_scr, q_tuple_lst, q_tuple_tup, q_tuple_ref, q_in_dic, q_in_tup, q_in_ref, q_in_lst, q_items_lst, q_items_tup, q_items_scr, q_items_str, q_ins, q_ty_int, q_ty_str, q_ty_tup, q_ty_lst, q_ty_non, q_ty_bl, q_ty_ins, q_all, q_gtup, q_gcons, q_gnil, q_join, q_append, q_count, q_isdigit, q_split, ltD, leD, gtD, geD, isStrD, valN, clsD, List.map_cons, List.map_nil, List.length_cons, List.length_nil, List.replicate_zero, List.replicate_succ, List.cons_append, List.nil_append, List.append_nil, List.getElem?_cons_zero, List.getElem?_cons_succ, List.set_cons_zero, List.set_cons_succ, List.zip_cons_cons, List.zip_nil_left, List.zip_nil_right, List.lookup_cons, List.lookup_nil, Option.some.injEq, exists_eq_left', exists_eq_left, exists_eq', exists_eq, HD.D.bl.injEq, HD.D.int.injEq, HD.D.str.injEq, HD.D.tup.injEq, HD.D.lst.injEq, HD.D.ref.injEq, List.cons.injEq, and_true, true_and, if_true, if_false, Bool.false_eq_true, ite_true, ite_false, Bool.not_true, Bool.not_false, Int.cast_ofNat_Int, beq_self_eq_true, Nat.sub_self, Nat.reduceSub, Nat.reduceAdd, reduceIte]
        refine Ret.of (h cs ⟨up, fun u hu => ?_⟩ fun e2 => ?_)
        · rcases List.mem_append.mp (hcs.mem_iff.mp hu) with y | y
          · exact ok.lt u y
          · rw [List.mem_singleton] at y
            omega
        · have := hcs.mem_iff.mpr (List.mem_append_right r (List.mem_singleton.mpr rfl))
          rw [e2] at this
          exact hn this
theorem cal__law_turned (F : Fc K mg) : CalD P w K mg base 1 "_law_turned" c_turned [] := by
  obtain ⟨fd, D⟩ := F.d_law_turned
  refine calD_N D (fn_law_turned F D) F.g__law_turned ?_
  exact fun _ _ _ _ _ _ us hl => match us, hl with | [_, _], _ => rfl
end K02

namespace K02
open PySem PySem.Spec PyProof.Rows L2 HD
variable {P : Program} {w : World} {K : PySem.W.Frag} {mg : Str → Option Value} {base : Heap}
theorem marks_ok (r : List Nat) (wd : Nat) : PyData.strOk (marksT r wd) = true := by
  unfold marksT
  refine strOk_join (by decide +kernel) fun t ht => ?_
  obtain ⟨u, _, rfl⟩ := List.mem_map.mp ht
  unfold markS
  split <;> decide +kernel
theorem line_ok {wd : Nat} {p : Nat × List Nat} (h : p.1 ≤ 90) : PyData.strOk (lineT wd p) = true := by
  unfold lineT
  exact strOk_app (strOk_app (strOk_app (by decide +kernel) (strOk_ch h)) (by decide +kernel)) (marks_ok _ _)
theorem text_ok {wd : Nat} {rs : Rw} (ok : OkRs wd rs) : PyData.strOk (textT wd rs) = true := by
  unfold textT
  refine strOk_join (by decide +kernel) fun t ht => ?_
  rcases List.mem_cons.mp ht with rfl | ht
  · exact strOk_num _
  · obtain ⟨p, hp, rfl⟩ := List.mem_map.mp ht
    exact line_ok (ok.ch p hp).2
theorem text_len {wd : Nat} {rs : Rw} (ok : OkRs wd rs) (hw : wd ≤ 60) : (textT wd rs).length ≤ 1700 := by
  have hl := rs_len ok
  have e1 : (Str.ofString "\n").length = 1 := rfl
  unfold textT Txt.join
  rw [size_glued, e1, List.map_cons, List.sum_cons, List.map_map, List.length_cons, List.length_map]
  have e2 := sum_le (f := (fun x => x.length) ∘ lineT wd) (b := 62) (xs := rs) fun p _ => by
    show (lineT wd p).length ≤ _
    rw [lineT_len]
    omega
  have e3 := num_len (n := wd) (by omega)
  have e4 : rs.length * 62 ≤ 26 * 62 := Nat.mul_le_mul hl (by omega)
  omega
theorem text_sm {wd : Nat} {rs : Rw} (ok : OkRs wd rs) (hw : wd ≤ 60) {k : Nat} : Sm (.str (textT wd rs)) k 1700 := Sm.str _ _ _ (text_ok ok) (text_len ok hw)
theorem names_sm {wd : Nat} {rs : Rw} (ok : OkRs wd rs) {k : Nat} : Sm (namesD rs) (k + 1) 52 := by
  unfold namesD
  refine Sm.tup _ _ _ 1 (fun d hd => ?_) ?_
  · obtain ⟨p, hp, rfl⟩ := List.mem_map.mp hd
    exact Sm.str _ _ _ (strOk_ch (ok.ch p hp).2) (by rw [chS_len]; omega)
  · rw [List.length_map]
    have := rs_len ok
    omega
theorem repr_ok (wd : Nat) : PyData.strOk (reprT wd) = true := by
  unfold reprT
  exact strOk_app (strOk_app (strOk_app (by decide +kernel) (by decide +kernel)) (strOk_num _)) (by decide +kernel)
theorem repr_len {wd : Nat} (hw : wd ≤ 60) : (reprT wd).length ≤ 18 := by
  have e3 := num_len (n := wd) (by omega)
  have e0 : Str.empty.length = 0 := rfl
  have e1 : (Str.ofString "Plan(").length = 5 := rfl
  have e2 : (Str.ofString " ticks)").length = 7 := rfl
  unfold reprT
  rw [Str.length_append, Str.length_append, Str.length_append]
  omega
def toldD (wd : Nat) (rs : Rw) : D := .lst [.int (wd : Int), rowsD rs, namesD rs, .str (textT wd rs), .str (textT wd rs), .str (reprT wd)]
theorem told_sm {wd : Nat} {rs : Rw} (ok : OkRs wd rs) (hw : wd ≤ 60) : Sm (toldD wd rs) 10 1000000 := by
  unfold toldD
  refine Sm.lst _ 9 _ 130000 (fun d hd => ?_) (by simp only [List.length_cons, List.length_nil]; omega)
  have hb : 26 * (wd * 82 + 5) ≤ 130000 := by omega
  simp only [List.mem_cons, List.not_mem_nil, or_false] at hd
  rcases hd with rfl | rfl | rfl | rfl | rfl | rfl
  · exact Sm.int _ _ _ (by rw [Int.natAbs_natCast]; omega) (by omega)
  · exact sm_up (rows_sm ok (by omega) (k := 6)) hb
  · exact sm_up (names_sm ok (k := 8)) (by omega)
  · exact sm_up (text_sm ok hw) (by omega)
  · exact sm_up (text_sm ok hw) (by omega)
  · exact Sm.str _ _ _ (repr_ok wd) (by have := repr_len hw; omega)
def fourD (r : List Nat) (wd : Nat) : D := .lst [intsD r, intsD r, .str (marksT r wd), .str (marksT r wd)]
theorem four_sm {wd : Nat} {r : List Nat} (ok : OkR wd r) (hw : wd ≤ 60) : Sm (fourD r wd) 10 1000000 := by
  unfold fourD
  refine Sm.lst _ 9 _ 130000 (fun d hd => ?_) (by simp only [List.length_cons, List.length_nil]; omega)
  simp only [List.mem_cons, List.not_mem_nil, or_false] at hd
  rcases hd with rfl | rfl | rfl | rfl
  · exact sm_up (row_sm ok (by omega) (k := 8)) (by omega)
  · exact sm_up (row_sm ok (by omega) (k := 8)) (by omega)
  · exact Sm.str _ _ _ (marks_ok _ _) (by rw [marksT_len]; omega)
  · exact Sm.str _ _ _ (marks_ok _ _) (by rw [marksT_len]; omega)
def c_is (C : Addr) : DSp := fun ds M P => ∃ (rs : Rw) (wd : Nat), ds = [planD C wd rs, .int wd, rowsD rs] ∧ (OkRs wd rs ∧ wd ≤ 60) ∧ P (.bl true) M
theorem sc_law_is : FnScope ["_law_mine", "_law_wide", "_law_drawn_here", "_law_told", "_law_due", "_law_letters_here", "_law_letter", "_law_row"] ["_law_mine", "_law_wide", "_law_drawn_here"] (defScope (top 31)) := ⟨rfl, rfl, rfl, by decide +kernel, rfl, by decide +kernel, by decide +kernel⟩
theorem fn_law_is (F : Fc K mg) {fd : FuncData} (dF : FunD K "_law_is" "_law_is" (defArgs (top 31)) (defBody (top 31)) (defScope (top 31)) [] [] ((gloA "_law_is") K) fd) : FnG P w K mg base 7 ((gloA "_law_is") K) fd ["_law_mine", "_law_wide", "_law_drawn_here"] (spOf K (c_is (gloA "Plan" K))) := by
  have nd := sc_law_is.nd
  refine fnG_D dF sc_law_is (fun ds M R h => ?_) fun cd A outer s H hr => ⟨_, (b_cons (s_set (i := 3) nd rfl (by first | exact .inl rfl | exact .inr rfl) (j_lst (a_cons (j_prop (p_Plan_size F) hr (by decide) (jv 0)) (a_cons (j_prop (p_Plan_rows F) hr (by decide) (jv 0)) (a_cons (j_prop (p_Plan_names F) hr (by decide) (jv 0)) (a_cons (j_prop (p_Plan_text F) hr (by decide) (jv 0)) (a_cons (j_strO (s_Plan_str F) hr (by decide) F.n_str (a_cons (jv 0) a_nil)) (a_cons (j_reprO (s_Plan_repr F) hr (by decide) F.n_repr (a_cons (jv 0) a_nil)) a_nil))))))))
      (b_cons (s_set (i := 4) nd rfl (by first | exact .inl rfl | exact .inr rfl) (j_call (cal__law_plan_text F) hr (by decide) (a_cons (jv 1) (a_cons (jv 2) a_nil))))
      (b_cons (s_set (i := 5) nd rfl (by first | exact .inl rfl | exact .inr rfl) (j_ct call_tuple_of lc_tuple F.n_tuple rfl (a_cons (j_lc rfl nd (own := [("_law_letter", 6), ("_law_row", 7)]) (by show BlkOk ["_law_mine", "_law_wide", "_law_drawn_here", "_law_told", "_law_due", "_law_letters_here", "_law_letter", "_law_row"] (defScope (top 31)) _ [("_law_letter", 6), ("_law_row", 7)]; constructor <;> first | rfl | decide +kernel) (i_any (jv 2)) (fun _ _ _ _ _ => (gw_tup (n := 2) rfl (gsw_cons (gw_name (i := 6) nd rfl (by first | exact .inl rfl | exact .inr rfl) (by decide)) (gsw_cons (gw_name (i := 7) nd rfl (by first | exact .inl rfl | exact .inr rfl) (by decide)) gsw_nil)))) (fun _ _ _ _ _ => ts_nil) (fun _ _ _ _ _ => (jv 6))) a_nil) rfl (by decide) (by decide) rfl rfl))
      (b_cons (s_if (t_ne hr.rm.units (j_cb (call_reprD hr) lc_repr F.n_repr rfl (a_cons (jv 3) a_nil) rfl (by decide) (by decide) rfl rfl) (j_cb (call_reprD hr) lc_repr F.n_repr rfl (a_cons (j_lst (a_cons (jv 1) (a_cons (jv 2) (a_cons (jv 5) (a_cons (jv 4) (a_cons (jv 4) (a_cons (j_add (j_add j_str (j_ct (call_str_int.or SkE.call_str_str) lc_str F.n_str rfl (a_cons (jv 1) a_nil) rfl (by decide) (by decide) rfl rfl)) j_str) a_nil))))))) a_nil) rfl (by decide) (by decide) rfl rfl))
      (b_one (s_ret j_bl))
      b_nil)
      (b_cons (s_for PassesOwn.never rfl (i_any (jv 2)) (g_tup (n := 2) rfl (gs_cons (g_name (i := 6) nd rfl (by first | exact .inl rfl | exact .inr rfl)) (gs_cons (g_name (i := 7) nd rfl (by first | exact .inl rfl | exact .inr rfl)) gs_nil)))
      (b_cons (s_set (i := 3) nd rfl (by first | exact .inl rfl | exact .inr rfl) (j_lst (a_cons (j_meth (m_Plan_ticks F) hr (by decide) (jv 0) (a_cons (jv 6) a_nil)) (a_cons (j_methK0 (m_Plan_ticks_k_name F) hr (by decide) (jv 0) (k_cons (jv 6) k_nil)) (a_cons (j_meth (m_Plan_marks F) hr (by decide) (jv 0) (a_cons (jv 6) a_nil)) (a_cons (j_methK0 (m_Plan_marks_k_name F) hr (by decide) (jv 0) (k_cons (jv 6) k_nil)) a_nil))))))
      (b_one (s_if (t_ne hr.rm.units (j_cb (call_reprD hr) lc_repr F.n_repr rfl (a_cons (jv 3) a_nil) rfl (by decide) (by decide) rfl rfl) (j_cb (call_reprD hr) lc_repr F.n_repr rfl (a_cons (j_add (j_lst (a_cons (jv 7) (a_cons (jv 7) a_nil))) (j_mul (j_lst (a_cons (j_call (cal__law_marks F) hr (by decide) (a_cons (jv 7) (a_cons (jv 1) a_nil))) a_nil)) j_int)) a_nil) rfl (by decide) (by decide) rfl rfl))
      (b_one (s_ret j_bl))
      b_nil))))
      (b_one (s_ret j_bl))))))), ?_⟩
  · obtain ⟨_, _, rfl, _⟩ := h; rfl
  · intro ds M R h
    obtain ⟨rs, wd, rfl, ⟨ok, hw⟩, h⟩ := h
    have hl := rs_len ok
    have sl := sl24
    have ip : ∀ M : Mm, insD M (gloA "Plan" K) (planD (gloA "Plan" K) wd rs) = some ((["length", "pairs"] : List Str), [.int (wd : Int), rowsD rs]) := fun M => if_pos rfl
    refine seq_step fun N hN => ?_
    simp only [cx_K, nox_K, dRet, dRetN, dAnd, dOr, dNot, dCB, dCons, dVar, dC, dNil, dSeq, dAsg, dgName, dIfS, dNever, dTest, dAndT, dOrT, dNotT, dIf, dBin, dUn, dChain, dstart, dPar, dPar3, dDrop, dFor, dIter, dRng1, dRng2, dNext, dTup, dLst, dCall, dMeth, dProp, dFld, dSetF, dM, dJoined, dJs, dLc, dDc, dSlice, dPart, dNoP, dRetF, dYes, dgSub, dwipe, dEnum, dZip, dTxt, ownD, dMethK, q_plus_int, q_plus_str, q_plus_tup, q_plus_lst, q_fII, q_minus, q_fdiv, q_mod, q_pow, q_mul, q_rep, q_ord_int, q_ord_str, q_len_str, q_len_tup, q_len_lst, q_len_scr, q_len_ref, q_neg, q_fmt_int, q_fmt_str, q_str_int, q_str_str, q_int_int, q_int_bl, q_int_str, q_bool_int, q_bool_bl, q_abs, q_max, q_min, q_divmod, q_ix_tup, q_ix_lst, q_ix_ref, q_ix_scr, q_ix_str, q_sl_tup, q_sl_str, q_sl_lst, q_sl_scr, q_tuple_lst, q_tuple_tup, q_tuple_ref, q_in_dic, q_in_tup, q_in_ref, q_in_lst, q_items_lst, q_items_tup, q_items_scr, q_items_str, q_ins, q_ty_int, q_ty_str, q_ty_tup, q_ty_lst, q_ty_non, q_ty_bl, q_ty_ins, q_all, q_gtup, q_gcons, q_gnil, q_join, q_append, q_count, q_isdigit, q_split, ltD, leD, gtD, geD, isStrD, valN, clsD, List.map_cons, List.map_nil, List.length_cons, List.length_nil, List.replicate_zero, List.replicate_succ, List.cons_append, List.nil_append, List.append_nil, List.getElem?_cons_zero, List.getElem?_cons_succ, List.set_cons_zero, List.set_cons_succ, List.zip_cons_cons, List.zip_nil_left, List.zip_nil_right, List.lookup_cons, List.lookup_nil, Option.some.injEq, exists_eq_left', exists_eq_left, exists_eq', exists_eq, HD.D.bl.injEq, HD.D.int.injEq, HD.D.str.injEq, HD.D.tup.injEq, HD.D.lst.injEq, HD.D.ref.injEq, List.cons.injEq, and_true, true_and, if_true, if_false, Bool.false_eq_true, ite_true, ite_false, Bool.not_true, Bool.not_false, Int.cast_ofNat_Int, beq_self_eq_true, Nat.sub_self, Nat.reduceSub, Nat.reduceAdd, reduceIte]
    refine ⟨_, _, ip M, rs, wd, rfl, ?_⟩
    refine ⟨_, _, ip M, rs, wd, rfl, ?_⟩
    refine ⟨_, _, ip M, rs, wd, rfl, ok, ?_⟩
    refine ⟨_, _, ip M, rs, wd, rfl, ⟨ok, by omega⟩, ?_⟩
    refine ⟨_, _, _, rfl, ip M, rs, wd, rfl, ⟨ok, by omega⟩, _, rfl, ?_⟩
    refine ⟨_, _, _, rfl, ip M, rs, wd, rfl, by omega, _, rfl, ?_⟩
    refine ⟨by decide, ?_⟩
    refine hN _ _ ?_
    clear hN N
    refine seq_step fun N hN => ?_
    simp only [cx_K, nox_K, dRet, dRetN, dAnd, dOr, dNot, dCB, dCons, dVar, dC, dNil, dSeq, dAsg, dgName, dIfS, dNever, dTest, dAndT, dOrT, dNotT, dIf, dBin, dUn, dChain, dstart, dPar, dPar3, dDrop, dFor, dIter, dRng1, dRng2, dNext, dTup, dLst, dCall, dMeth, dProp, dFld, dSetF, dM, dJoined, dJs, dLc, dDc, dSlice, dPart, dNoP, dRetF, dYes, dgSub, dwipe, dEnum, dZip, dTxt, ownD, dMethK, q_plus_int, q_plus_str, q_plus_tup, q_plus_lst, q_fII, q_minus, q_fdiv, q_mod, q_pow, q_mul, q_rep, q_ord_int, q_ord_str, q_len_str, q_len_tup, q_len_lst, q_len_scr, q_len_ref, q_neg, q_fmt_int, q_fmt_str, q_str_int, q_str_str, q_int_int, q_int_bl, q_int_str, q_bool_int, q_bool_bl, q_abs, q_max, q_min, q_divmod, q_ix_tup, q_ix_lst, q_ix_ref, q_ix_scr, q_ix_str, q_sl_tup, q_sl_str, q_sl_lst, q_sl_scr, q_tuple_lst, q_tuple_tup, q_tuple_ref, q_in_dic, q_in_tup, q_in_ref, q_in_lst, q_items_lst, q_items_tup, q_items_scr, q_items_str, q_ins, q_ty_int, q_ty_str, q_ty_tup, q_ty_lst, q_ty_non, q_ty_bl, q_ty_ins, q_all, q_gtup, q_gcons, q_gnil, q_join, q_append, q_count, q_isdigit, q_split, ltD, leD, gtD, geD, isStrD, valN, clsD, List.map_cons, List.map_nil, List.length_cons, List.length_nil, List.replicate_zero, List.replicate_succ, List.cons_append, List.nil_append, List.append_nil, List.getElem?_cons_zero, List.getElem?_cons_succ, List.set_cons_zero, List.set_cons_succ, List.zip_cons_cons, List.zip_nil_left, List.zip_nil_right, List.lookup_cons, List.lookup_nil, Option.some.injEq, exists_eq_left', exists_eq_left, exists_eq', exists_eq, HD.D.bl.injEq, HD.D.int.injEq, HD.D.str.injEq, HD.D.tup.injEq, HD.D.lst.injEq, HD.D.ref.injEq, List.cons.injEq, and_true, true_and, if_true, if_false, Bool.false_eq_true, ite_true, ite_false, Bool.not_true, Bool.not_false, Int.cast_ofNat_Int, beq_self_eq_true, Nat.sub_self, Nat.reduceSub, Nat.reduceAdd, reduceIte]
    refine ⟨rs, wd, rfl, ⟨ok, hw⟩, ?_⟩
    refine hN _ _ ?_
    clear hN N
    refine seq_step fun N hN => ?_
    simp only [cx_K, nox_K, dRet, dRetN, dAnd, dOr, dNot, dCB, dCons, dVar, dC, dNil, dSeq, dAsg, dgName, dIfS, dNever, dTest, dAndT, dOrT, dNotT, dIf, dBin, dUn, dChain, dstart, dPar, dPar3, dDrop, dFor, dIter, dRng1, dRng2, dNext, dTup, dLst, dCall, dMeth, dProp, dFld, dSetF, dM, dJoined, dJs, dLc, dDc, dSlice, dPart, dNoP, dRetF, dYes, dgSub, dwipe, dEnum, dZip, dTxt, ownD, dMethK, q_plus_int, q_plus_str, q_plus_tup, q_plus_lst, q_fII, q_minus, q_fdiv, q_mod, q_pow, q_mul, q_rep, q_ord_int, q_ord_str, q_len_str, q_len_tup, q_len_lst, q_len_scr, q_len_ref, q_neg, q_fmt_int, q_fmt_str, q_str_int, q_str_str, q_int_int, q_int_bl, q_int_str, q_bool_int, q_bool_bl, q_abs, q_max, q_min, q_divmod, q_ix_tup, q_ix_lst, q_ix_ref, q_ix_scr, q_ix_str, q_sl_tup, q_sl_str, q_sl_lst, q_sl_scr, q_tuple_lst, q_tuple_tup, q_tuple_ref, q_in_dic, q_in_tup, q_in_ref, q_in_lst, q_items_lst, q_items_tup, q_items_scr, q_items_str, q_ins, q_ty_int, q_ty_str, q_ty_tup, q_ty_lst, q_ty_non, q_ty_bl, q_ty_ins, q_all, q_gtup, q_gcons, q_gnil, q_join, q_append, q_count, q_isdigit, q_split, ltD, leD, gtD, geD, isStrD, valN, clsD, List.map_cons, List.map_nil, List.length_cons, List.length_nil, List.replicate_zero, List.replicate_succ, List.cons_append, List.nil_append, List.append_nil, List.getElem?_cons_zero, List.getElem?_cons_succ, List.set_cons_zero, List.set_cons_succ, List.zip_cons_cons, List.zip_nil_left, List.zip_nil_right, List.lookup_cons, List.lookup_nil, Option.some.injEq, exists_eq_left', exists_eq_left, exists_eq', exists_eq, HD.D.bl.injEq, HD.D.int.injEq, HD.D.str.injEq, HD.D.tup.injEq, HD.D.lst.injEq, HD.D.ref.injEq, List.cons.injEq, and_true, true_and, if_true, if_false, Bool.false_eq_true, ite_true, ite_false, Bool.not_true, Bool.not_false, Int.cast_ofNat_Int, beq_self_eq_true, Nat.sub_self, Nat.reduceSub, Nat.reduceAdd, reduceIte]
    refine ⟨rs.map rowD, rfl, ?_⟩
    refine lcD_all rowD (fun p => D.str (chS p.1)) _ (fun p hp K1 k => ?_) _ (by omega) ?_
    · unfold rowD
      simp only [cx_K, nox_K, dRet, dRetN, dAnd, dOr, dNot, dCB, dCons, dVar, dC, dNil, dSeq, dAsg, dgName, dIfS, dNever, dTest, dAndT, dOrT, dNotT, dIf, dBin, dUn, dChain, dstart, dPar, dPar3, dDrop, dFor, dIter, dRng1, dRng2, dNext, dTup, dLst, dCall, dMeth, dProp, dFld, dSetF, dM, dJoined, dJs, dLc, dDc, dSlice, dPart, dNoP, dRetF, dYes, dgSub, dwipe, dEnum, dZip, dTxt, ownD, dMethK, q_plus_int, q_plus_str, q_plus_tup, q_plus_lst, q_fII, q_minus, q_fdiv, q_mod, q_pow, q_mul, q_rep, q_ord_int, q_ord_str, q_len_str, q_len_tup, q_len_lst, q_len_scr, q_len_ref, q_neg, q_fmt_int, q_fmt_str, q_str_int, q_str_str, q_int_int, q_int_bl, q_int_str, q_bool_int, q_bool_bl, q_abs, q_max, q_min, q_divmod, q_ix_tup, q_ix_lst, q_ix_ref, q_ix_scr, q_ix_str, q_sl_tup, q_sl_str, q_sl_lst, q_sl_scr, q_tuple_lst, q_tuple_tup, q_tuple_ref, q_in_dic, q_in_tup, q_in_ref, q_in_lst, q_items_lst, q_items_tup, q_items_scr, q_items_str, q_ins, q_ty_int, q_ty_str, q_ty_tup, q_ty_lst, q_ty_non, q_ty_bl, q_ty_ins, q_all, q_gtup, q_gcons, q_gnil, q_join, q_append, q_count, q_isdigit, q_split, ltD, leD, gtD, geD, isStrD, valN, clsD, List.map_cons, List.map_nil, List.length_cons, List.length_nil, List.replicate_zero, List.replicate_succ, List.cons_append, List.nil_append, List.append_nil, List.getElem?_cons_zero, List.getElem?_cons_succ, List.set_cons_zero, List.set_cons_succ, List.zip_cons_cons, List.zip_nil_left, List.zip_nil_right, List.lookup_cons, List.lookup_nil, Option.some.injEq, exists_eq_left', exists_eq_left, exists_eq', exists_eq, HD.D.bl.injEq, HD.D.int.injEq, HD.D.str.injEq, HD.D.tup.injEq, HD.D.lst.injEq, HD.D.ref.injEq, List.cons.injEq, and_true, true_and, if_true, if_false, Bool.false_eq_true, ite_true, ite_false, Bool.not_true, Bool.not_false, Int.cast_ofNat_Int, beq_self_eq_true, Nat.sub_self, Nat.reduceSub, Nat.reduceAdd, reduceIte]
      exact k
    refine hN _ _ ?_
    clear hN N
    refine seq_step fun N hN => ?_
    simp only [cx_K, nox_K, dRet, dRetN, dAnd, dOr, dNot, dCB, dCons, dVar, dC, dNil, dSeq, dAsg, dgName, dIfS, dNever, dTest, dAndT, dOrT, dNotT, dIf, dBin, dUn, dChain, dstart, dPar, dPar3, dDrop, dFor, dIter, dRng1, dRng2, dNext, dTup, dLst, dCall, dMeth, dProp, dFld, dSetF, dM, dJoined, dJs, dLc, dDc, dSlice, dPart, dNoP, dRetF, dYes, dgSub, dwipe, dEnum, dZip, dTxt, ownD, dMethK, q_plus_int, q_plus_str, q_plus_tup, q_plus_lst, q_fII, q_minus, q_fdiv, q_mod, q_pow, q_mul, q_rep, q_ord_int, q_ord_str, q_len_str, q_len_tup, q_len_lst, q_len_scr, q_len_ref, q_neg, q_fmt_int, q_fmt_str, q_str_int, q_str_str, q_int_int, q_int_bl, q_int_str, q_bool_int, q_bool_bl, q_abs, q_max, q_min, q_divmod, q_ix_tup, q_ix_lst, q_ix_ref, q_ix_scr, q_ix_str, q_sl_tup, q_sl_str, q_sl_lst, q_sl_scr, q_tuple_lst, q_tuple_tup, q_tuple_ref, q_in_dic, q_in_tup, q_in_ref, q_in_lst, q_items_lst, q_items_tup, q_items_scr, q_items_str, q_ins, q_ty_int, q_ty_str, q_ty_tup, q_ty_lst, q_ty_non, q_ty_bl, q_ty_ins, q_all, q_gtup, q_gcons, q_gnil, q_join, q_append, q_count, q_isdigit, q_split, ltD, leD, gtD, geD, isStrD, valN, clsD, List.map_cons, List.map_nil, List.length_cons, List.length_nil, List.replicate_zero, List.replicate_succ, List.cons_append, List.nil_append, List.append_nil, List.getElem?_cons_zero, List.getElem?_cons_succ, List.set_cons_zero, List.set_cons_succ, List.zip_cons_cons, List.zip_nil_left, List.zip_nil_right, List.lookup_cons, List.lookup_nil, Option.some.injEq, exists_eq_left', exists_eq_left, exists_eq', exists_eq, HD.D.bl.injEq, HD.D.int.injEq, HD.D.str.injEq, HD.D.tup.injEq, HD.D.lst.injEq, HD.D.ref.injEq, List.cons.injEq, and_true, true_and, if_true, if_false, Bool.false_eq_true, ite_true, ite_false, Bool.not_true, Bool.not_false, Int.cast_ofNat_Int, beq_self_eq_true, Nat.sub_self, Nat.reduceSub, Nat.reduceAdd, reduceIte]
    have rd : D.lst [D.int (wd : Int), rowsD rs, namesD rs, D.str (textT wd rs), D.str (textT wd rs), D.str (reprT wd)] = toldD wd rs := rfl
    rw [rd]
    refine repr_sm (told_sm ok hw) (by omega) (by omega) ?_
    refine ⟨log2_small (by omega), ?_⟩
    have e1 : (Str.ofString "Plan(").length = 5 := rfl
    have e2 : (Str.ofString " ticks)").length = 7 := rfl
    have e3 := num_len (n := wd) (by omega)
    refine ⟨by omega, by rw [Str.length_append]; omega, by decide, ?_⟩
    refine repr_sm (d := toldD wd rs) (told_sm ok hw) (by omega) (by omega) ?_
    refine eqD_str ?_
    simp only [cx_K, nox_K, dRet, dRetN, dAnd, dOr, dNot, dCB, dCons, dVar, dC, dNil, dSeq, dAsg, dgName, dIfS, dNever, dTest, dAndT, dOrT, dNotT, dIf, dBin, dUn, dChain, dstart, dPar, dPar3, dDrop, dFor, dIter, dRng1, dRng2, dNext, dTup, dLst, dCall, dMeth, dProp, dFld, dSetF, dM, dJoined, dJs, dLc, dDc, dSlice, dPart, dNoP, dRetF, dYes, dgSub, dwipe, dEnum, dZip, dTxt, ownD, dMethK, q_plus_int, q_plus_str, q_plus_tup, q_plus_lst, q_fII, q_minus, q_fdiv, q_mod, q_pow, q_mul, q_rep, q_ord_int, q_ord_str, q_len_str, q_len_tup, q_len_lst, q_len_scr, q_len_ref, q_neg, q_fmt_int, q_fmt_str, q_str_int, q_str_str, q_int_int, q_int_bl, q_int_str, q_bool_int, q_bool_bl, q_abs, q_max, q_min, q_divmod, q_ix_tup, q_ix_lst, q_ix_ref, q_ix_scr, q_ix_str, q_sl_tup, q_sl_str, q_sl_lst, q_sl_scr, q_tuple_lst, q_tuple_tup, q_tuple_ref, q_in_dic, q_in_tup, q_in_ref, q_in_lst, q_items_lst, q_items_tup, q_items_scr, q_items_str, q_ins, q_ty_int, q_ty_str, q_ty_tup, q_ty_lst, q_ty_non, q_ty_bl, q_ty_ins, q_all, q_gtup, q_gcons, q_gnil, q_join, q_append, q_count, q_isdigit, q_split, ltD, leD, gtD, geD, isStrD, valN, clsD, List.map_cons, List.map_nil, List.length_cons, List.length_nil, List.replicate_zero, List.replicate_succ, List.cons_append, List.nil_append, List.append_nil, List.getElem?_cons_zero, List.getElem?_cons_succ, List.set_cons_zero, List.set_cons_succ, List.zip_cons_cons, List.zip_nil_left, List.zip_nil_right, List.lookup_cons, List.lookup_nil, Option.some.injEq, exists_eq_left', exists_eq_left, exists_eq', exists_eq, HD.D.bl.injEq, HD.D.int.injEq, HD.D.str.injEq, HD.D.tup.injEq, HD.D.lst.injEq, HD.D.ref.injEq, List.cons.injEq, and_true, true_and, if_true, if_false, Bool.false_eq_true, ite_true, ite_false, Bool.not_true, Bool.not_false, Int.cast_ofNat_Int, beq_self_eq_true, Nat.sub_self, Nat.reduceSub, Nat.reduceAdd, reduceIte]
    refine hN _ _ ?_
    clear hN N
    refine seq_step fun N hN => ?_
    simp only [cx_K, nox_K, dRet, dRetN, dAnd, dOr, dNot, dCB, dCons, dVar, dC, dNil, dSeq, dAsg, dgName, dIfS, dNever, dTest, dAndT, dOrT, dNotT, dIf, dBin, dUn, dChain, dstart, dPar, dPar3, dDrop, dFor, dIter, dRng1, dRng2, dNext, dTup, dLst, dCall, dMeth, dProp, dFld, dSetF, dM, dJoined, dJs, dLc, dDc, dSlice, dPart, dNoP, dRetF, dYes, dgSub, dwipe, dEnum, dZip, dTxt, ownD, dMethK, q_plus_int, q_plus_str, q_plus_tup, q_plus_lst, q_fII, q_minus, q_fdiv, q_mod, q_pow, q_mul, q_rep, q_ord_int, q_ord_str, q_len_str, q_len_tup, q_len_lst, q_len_scr, q_len_ref, q_neg, q_fmt_int, q_fmt_str, q_str_int, q_str_str, q_int_int, q_int_bl, q_int_str, q_bool_int, q_bool_bl, q_abs, q_max, q_min, q_divmod, q_ix_tup, q_ix_lst, q_ix_ref, q_ix_scr, q_ix_str, q_sl_tup, q_sl_str, q_sl_lst, q_sl_scr, q_tuple_lst, q_tuple_tup, q_tuple_ref, q_in_dic, q_in_tup, q_in_ref, q_in_lst, q_items_lst, q_items_tup, q_items_scr, q_items_str, q_ins, q_ty_int, q_ty_str, q_ty_tup, q_ty_lst, q_ty_non, q_ty_bl, q_ty_ins, q_all, q_gtup, q_gcons, q_gnil, q_join, q_append, q_count, q_isdigit, q_split, ltD, leD, gtD, geD, isStrD, valN, clsD, List.map_cons, List.map_nil, List.length_cons, List.length_nil, List.replicate_zero, List.replicate_succ, List.cons_append, List.nil_append, List.append_nil, List.getElem?_cons_zero, List.getElem?_cons_succ, List.set_cons_zero, List.set_cons_succ, List.zip_cons_cons, List.zip_nil_left, List.zip_nil_right, List.lookup_cons, List.lookup_nil, Option.some.injEq, exists_eq_left', exists_eq_left, exists_eq', exists_eq, HD.D.bl.injEq, HD.D.int.injEq, HD.D.str.injEq, HD.D.tup.injEq, HD.D.lst.injEq, HD.D.ref.injEq, List.cons.injEq, and_true, true_and, if_true, if_false, Bool.false_eq_true, ite_true, ite_false, Bool.not_true, Bool.not_false, Int.cast_ofNat_Int, beq_self_eq_true, Nat.sub_self, Nat.reduceSub, Nat.reduceAdd, reduceIte]
    refine ⟨rs.map rowD, rfl, ?_⟩
    generalize D.tup (rs.map fun p => D.str (chS p.1)) = L5
    generalize D.str (textT wd rs) = L4
    refine (?key : ∀ (qs : Rw) (x3 : D) (x6 x7 : Option D), (∀ p ∈ qs, p ∈ rs) → forD ?G ?B ?E (qs.map rowD) [some (planD (gloA "Plan" K) wd rs), some (D.int (wd : Int)), some (rowsD rs), some x3, some L4, some L5, x6, x7] M) rs _ none none (fun p hp => hp)
    intro qs
    induction qs with
    | nil =>
      intro x3 x6 x7 _
      simp only [forD, List.map_nil]
      refine hN _ _ ?_
      clear hN N
      simp only [cx_K, nox_K, dRet, dRetN, dAnd, dOr, dNot, dCB, dCons, dVar, dC, dNil, dSeq, dAsg, dgName, dIfS, dNever, dTest, dAndT, dOrT, dNotT, dIf, dBin, dUn, dChain, dstart, dPar, dPar3, dDrop, dFor, dIter, dRng1, dRng2, dNext, dTup, dLst, dCall, dMeth, dProp, dFld, dSetF, dM, dJoined, dJs, dLc, dDc, dSlice, dPart, dNoP, dRetF, dYes, dgSub, dwipe, dEnum, dZip, dTxt, ownD, dMethK, q_plus_int, q_plus_str, q_plus_tup, q_plus_lst, q_fII, q_minus, q_fdiv, q_mod, q_pow, q_mul, q_rep, q_ord_int, q_ord_str, q_len_str, q_len_tup, q_len_lst, q_len_scr, q_len_ref, q_neg, q_fmt_int, q_fmt_str, q_str_int, q_str_str, q_int_int, q_int_bl, q_int_str, q_bool_int, q_bool_bl, q_abs, q_max, q_min, q_divmod, q_ix_tup, q_ix_lst, q_ix_ref, q_ix_scr, q_ix_str, q_sl_tup, q_sl_str, q_sl_lst, q_sl_scr, q_tuple_lst, q_tuple_tup, q_tuple_ref, q_in_dic, q_in_tup, q_in_ref, q_in_lst, q_items_lst, q_items_tup, q_items_scr, q_items_str, q_ins, q_ty_int, q_ty_str, q_ty_tup, q_ty_lst, q_ty_non, q_ty_bl, q_ty_ins, q_all, q_gtup, q_gcons, q_gnil, q_join, q_append, q_count, q_isdigit, q_split, ltD, leD, gtD, geD, isStrD, valN, clsD, List.map_cons, List.map_nil, List.length_cons, List.length_nil, List.replicate_zero, List.replicate_succ, List.cons_append, List.nil_append, List.append_nil, List.getElem?_cons_zero, List.getElem?_cons_succ, List.set_cons_zero, List.set_cons_succ, List.zip_cons_cons, List.zip_nil_left, List.zip_nil_right, List.lookup_cons, List.lookup_nil, Option.some.injEq, exists_eq_left', exists_eq_left, exists_eq', exists_eq, HD.D.bl.injEq, HD.D.int.injEq, HD.D.str.injEq, HD.D.tup.injEq, HD.D.lst.injEq, HD.D.ref.injEq, List.cons.injEq, and_true, true_and, if_true, if_false, Bool.false_eq_true, ite_true, ite_false, Bool.not_true, Bool.not_false, Int.cast_ofNat_Int, beq_self_eq_true, Nat.sub_self, Nat.reduceSub, Nat.reduceAdd, reduceIte]
      exact Ret.of h
    | cons p qs ih =>
      intro x3 x6 x7 sub
      have hp := sub p List.mem_cons_self
      have okp := ok.ok p hp
      rw [List.map_cons]
      simp only [forD]
      rw [show rowD p = .tup [.str (chS p.1), intsD p.2] from rfl]
      simp only [cx_K, nox_K, dRet, dRetN, dAnd, dOr, dNot, dCB, dCons, dVar, dC, dNil, dSeq, dAsg, dgName, dIfS, dNever, dTest, dAndT, dOrT, dNotT, dIf, dBin, dUn, dChain, dstart, dPar, dPar3, dDrop, dFor, dIter, dRng1, dRng2, dNext, dTup, dLst, dCall, dMeth, dProp, dFld, dSetF, dM, dJoined, dJs, dLc, dDc, dSlice, dPart, dNoP, dRetF, dYes, dgSub, dwipe, dEnum, dZip, dTxt, ownD, dMethK, q_plus_int, q_plus_str, q_plus_tup, q_plus_lst, q_fII, q_minus, q_fdiv, q_mod, q_pow, q_mul, q_rep, q_ord_int, q_ord_str, q_len_str, q_len_tup, q_len_lst, q_len_scr, q_len_ref, q_neg, q_fmt_int, q_fmt_str, q_str_int, q_str_str, q_int_int, q_int_bl, q_int_str, q_bool_int, q_bool_bl, q_abs, q_max, q_min, q_divmod, q_ix_tup, q_ix_lst, q_ix_ref, q_ix_scr, q_ix_str, q_sl_tup, q_sl_str, q_sl_lst, q_sl_scr, q_tuple_lst, q_tuple_tup, q_tuple_ref, q_in_dic, q_in_tup, q_in_ref, q_in_lst, q_items_lst, q_items_tup, q_items_scr, q_items_str, q_ins, q_ty_int, q_ty_str, q_ty_tup, q_ty_lst, q_ty_non, q_ty_bl, q_ty_ins, q_all, q_gtup, q_gcons, q_gnil, q_join, q_append, q_count, q_isdigit, q_split, ltD, leD, gtD, geD, isStrD, valN, clsD, List.map_cons, List.map_nil, List.length_cons, List.length_nil, List.replicate_zero, List.replicate_succ, List.cons_append, List.nil_append, List.append_nil, List.getElem?_cons_zero, List.getElem?_cons_succ, List.set_cons_zero, List.set_cons_succ, List.zip_cons_cons, List.zip_nil_left, List.zip_nil_right, List.lookup_cons, List.lookup_nil, Option.some.injEq, exists_eq_left', exists_eq_left, exists_eq', exists_eq, HD.D.bl.injEq, HD.D.int.injEq, HD.D.str.injEq, HD.D.tup.injEq, HD.D.lst.injEq, HD.D.ref.injEq, List.cons.injEq, and_true, true_and, if_true, if_false, Bool.false_eq_true, ite_true, ite_false, Bool.not_true, Bool.not_false, Int.cast_ofNat_Int, beq_self_eq_true, Nat.sub_self, Nat.reduceSub, Nat.reduceAdd, reduceIte]
      refine ⟨_, _, ip M, rfl, rs, wd, p, rfl, ⟨ok, hp⟩, ?_⟩
      refine ⟨_, _, ip M, rfl, rs, wd, p, rfl, ⟨ok, hp⟩, ?_⟩
      refine ⟨_, _, ip M, rfl, rs, wd, p, rfl, ⟨ok, hp, by omega⟩, ?_⟩
      refine ⟨_, _, ip M, rfl, rs, wd, p, rfl, ⟨ok, hp, by omega⟩, ?_⟩
      refine ⟨by omega, ?_⟩
      refine repr_sm (d := fourD p.2 wd) (four_sm okp hw) (by omega) (by omega) ?_
      refine ⟨by omega, p.2, wd, rfl, ⟨okp, by omega⟩, ?_⟩
      refine ⟨by omega, by omega, by omega, by have e : Int.toNat 2 = 2 := rfl; omega, by show 2 + 2 ≤ sizeLine; omega, ?_⟩
      refine repr_sm (d := fourD p.2 wd) (four_sm okp hw) (by omega) (by omega) ?_
      refine eqD_str ?_
      simp only [cx_K, nox_K, dRet, dRetN, dAnd, dOr, dNot, dCB, dCons, dVar, dC, dNil, dSeq, dAsg, dgName, dIfS, dNever, dTest, dAndT, dOrT, dNotT, dIf, dBin, dUn, dChain, dstart, dPar, dPar3, dDrop, dFor, dIter, dRng1, dRng2, dNext, dTup, dLst, dCall, dMeth, dProp, dFld, dSetF, dM, dJoined, dJs, dLc, dDc, dSlice, dPart, dNoP, dRetF, dYes, dgSub, dwipe, dEnum, dZip, dTxt, ownD, dMethK, q_plus_int, q_plus_str, q_plus_tup, q_plus_lst, q_fII, q_minus, q_fdiv, q_mod, q_pow, q_mul, q_rep, q_ord_int, q_ord_str, q_len_str, q_len_tup, q_len_lst, q_len_scr, q_len_ref, q_neg, q_fmt_int, q_fmt_str, q_str_int, q_str_str, q_int_int, q_int_bl, q_int_str, q_bool_int, q_bool_bl, q_abs, q_max, q_min, q_divmod, q_ix_tup, q_ix_lst, q_ix_ref, q_ix_scr, q_ix_str, q_sl_tup, q_sl_str, q_sl_lst, q_sl_scr, q_tuple_lst, q_tuple_tup, q_tuple_ref, q_in_dic, q_in_tup, q_in_ref, q_in_lst, q_items_lst, q_items_tup, q_items_scr, q_items_str, q_ins, q_ty_int, q_ty_str, q_ty_tup, q_ty_lst, q_ty_non, q_ty_bl, q_ty_ins, q_all, q_gtup, q_gcons, q_gnil, q_join, q_append, q_count, q_isdigit, q_split, ltD, leD, gtD, geD, isStrD, valN, clsD, List.map_cons, List.map_nil, List.length_cons, List.length_nil, List.replicate_zero, List.replicate_succ, List.cons_append, List.nil_append, List.append_nil, List.getElem?_cons_zero, List.getElem?_cons_succ, List.set_cons_zero, List.set_cons_succ, List.zip_cons_cons, List.zip_nil_left, List.zip_nil_right, List.lookup_cons, List.lookup_nil, Option.some.injEq, exists_eq_left', exists_eq_left, exists_eq', exists_eq, HD.D.bl.injEq, HD.D.int.injEq, HD.D.str.injEq, HD.D.tup.injEq, HD.D.lst.injEq, HD.D.ref.injEq, List.cons.injEq, and_true, true_and, if_true, if_false, Bool.false_eq_true, ite_true, ite_false, Bool.not_true, Bool.not_false, Int.cast_ofNat_Int, beq_self_eq_true, Nat.sub_self, Nat.reduceSub, Nat.reduceAdd, reduceIte]
      exact ih _ _ _ fun q hq => sub q (List.mem_cons_of_mem _ hq)
theorem cal__law_is (F : Fc K mg) : CalD P w K mg base 7 "_law_is" (c_is (gloA "Plan" K)) [] := by
  obtain ⟨fd, D⟩ := F.d_law_is
  refine calD_N D (fn_law_is F D) F.g__law_is ?_
  exact fun _ _ _ _ _ _ us hl => match us, hl with | [_, _, _], _ => rfl
end K02

namespace K02
open PySem PySem.Spec PyProof.Rows L2 HD
variable {P : Program} {w : World} {K : PySem.W.Frag} {mg : Str → Option Value} {base : Heap}
theorem init_ok {C : Addr} {M : Mm} {x : Addr} {wd : Nat} {rs : Rw} {Q : List Str → List D → Mm → Prop} (hx : M x = none) (ok : OkRs wd rs) (hw : wd ≤ 10000) (p : Q ["length", "pairs"] [.int (wd : Int), rowsD rs] (mput M x (.ins C ["length", "pairs"] [.int (wd : Int), rowsD rs]))) :
    c_init C [.ref x, .int (wd : Int), rowsD rs] (mput M x (.ins C [] [])) (fun d M2 => d = .non ∧ ∃ ns ds, M2 x = some (.ins C ns ds) ∧ Q ns ds M2) := by
  refine ⟨x, rs, wd, rfl, ⟨mput_same, ok, hw⟩, rfl, _, _, mput_same, ?_⟩
  rw [mput_mput]
  exact p
theorem OkRs.nil (wd : Nat) : OkRs wd [] := ⟨List.Pairwise.nil, fun p hp => by (cases hp), fun p hp => by (cases hp)⟩
theorem OkRs.more {wd wq : Nat} {rs : Rw} (h : OkRs wd rs) (hw : wd ≤ wq) : OkRs wq rs := ⟨h.up, h.ch, fun p hp => ⟨(h.ok p hp).up, fun t ht => Nat.lt_of_lt_of_le ((h.ok p hp).lt t ht) hw⟩⟩
/-- no plan, or another one -/
def Other (C : Addr) (wd : Nat) (rs : Rw) (d : D) : Prop := plainB d ∨ ∃ wq qs, d = planD C wq qs ∧ OkRs wq qs ∧ wq ≤ 10000 ∧ ¬ (wd = wq ∧ rs = qs)
theorem eq_other {C : Addr} {wd : Nat} {rs : Rw} {d : D} {M : Mm} {P : D → Mm → Prop} (ok : OkRs wd rs) (hw : wd ≤ 60) (h : Other C wd rs d) (p : P (.bl false) M) : c_eq C [planD C wd rs, d] M P := by
  refine ⟨rs, wd, d, rfl, ⟨ok, by omega⟩, ?_⟩
  rcases h with h | ⟨wq, qs, rfl, okq, hq, hn⟩
  · exact .inl ⟨h, p⟩
  · refine .inr ⟨qs, wq, rfl, okq, hq, ?_⟩
    have e : (decide (wd = wq) && decide (rs = qs)) = false := by
      cases z : (decide (wd = wq) && decide (rs = qs)) with
      | false => rfl
      | true =>
        obtain ⟨z1, z2⟩ := Bool.and_eq_true_iff.mp z
        exact absurd ⟨of_decide_eq_true z1, of_decide_eq_true z2⟩ hn
    rw [e]
    exact p
theorem ty_other {C : Addr} {wd : Nat} {rs : Rw} {d : D} {M : Mm} (F : Fc K mg) (hC : C = gloA "Plan" K) (h : Other C wd rs d) : ∃ t, tyD M d = some t ∧ (∀ C', t = .ref C' → TyI K C') ∧ PySem.W.notFirst K C t = true := by
  subst hC
  rcases h with h | ⟨wq, qs, rfl, _⟩
  · have key : ∃ t ∈ ["NoneType", "int", "tuple", "str"], tyD M d = some (.type t) := by
      rcases h with e | ⟨i, e⟩ | ⟨ds, e⟩ | ⟨x, e⟩ <;> subst e
      · exact ⟨"NoneType", by simp, rfl⟩
      · exact ⟨"int", by simp, rfl⟩
      · exact ⟨"tuple", by simp, rfl⟩
      · exact ⟨"str", by simp, rfl⟩
    obtain ⟨t, ht, e⟩ := key
    exact ⟨_, e, fun _ z => (by cases z), F.nf_ty t ht⟩
  · refine ⟨_, rfl, fun C' z => ?_, ?_⟩
    · cases z
      exact F.ti_Plan
    · unfold PySem.W.notFirst
      simp
theorem cut_rows (rs : Rw) {i : Nat} (h : i < rs.length) : cutL (rs.map rowD) none (some (i : Int)) = (rs.take i).map rowD ∧ cutL (rs.map rowD) (some ((i : Int) + 1)) none = (rs.drop (i + 1)).map rowD := by
  unfold cutL
  have e : (i : Int) + 1 = ((i + 1 : Nat) : Int) := by omega
  rw [e, HT.sIx_nat, HT.sIx_nat, HT.sIx_none, HT.sIx_none, List.length_map]
  constructor
  · rw [List.drop_zero, Nat.sub_zero, Nat.min_eq_left (by omega), List.map_take]
  · rw [Nat.min_eq_left (by omega), ← List.map_drop, List.take_of_length_le (by rw [List.length_map, List.length_drop]; omega)]
/-! what is another plan -/
theorem OkRs.sub {wd : Nat} {rs qs : Rw} (h : OkRs wd rs) (s : qs.Sublist rs) : OkRs wd qs :=
  ⟨h.up.sublist (s.map _), fun p hp => h.ch p (s.subset hp), fun p hp => h.ok p (s.subset hp)⟩
theorem cut_sub (rs : Rw) (i : Nat) : (rs.take i ++ rs.drop (i + 1)).Sublist rs := by
  have e : rs.take i ++ rs.drop i = rs := List.take_append_drop i rs
  have s : (rs.drop (i + 1)).Sublist (rs.drop i) := by
    rw [← List.drop_drop]
    exact List.drop_sublist _ _
  have s2 := (List.Sublist.refl (rs.take i)).append s
  rw [e] at s2
  exact s2
theorem at_rows (rs : Rw) {i : Nat} (h : i < rs.length) : atI (rs.map rowD) (i : Int) = some (rowD rs[i]) := by
  unfold atI ixN
  rw [List.length_map, if_pos (by omega), if_pos (by omega)]
  simp [h]
theorem swap_ok {wd : Nat} {rs : Rw} (h : OkRs wd rs) {i : Nat} (hi : i < rs.length) {r : List Nat} (ok : OkR wd r) : OkRs wd (rs.take i ++ (rs[i].1, r) :: rs.drop (i + 1)) := by
  have e : rs.take i ++ rs[i] :: rs.drop (i + 1) = rs := by rw [List.getElem_cons_drop, List.take_append_drop]
  have e2 : (rs.take i ++ (rs[i].1, r) :: rs.drop (i + 1)).map (·.1) = rs.map (·.1) := by
    conv => rhs; rw [← e]
    simp only [List.map_append, List.map_cons]
  refine ⟨by rw [e2]; exact h.up, fun p hp => ?_, fun p hp => ?_⟩
  · rcases List.mem_append.mp hp with z | z
    · exact h.ch p (List.mem_of_mem_take z)
    · rcases List.mem_cons.mp z with rfl | z
      · exact (h.ch rs[i] (List.getElem_mem hi) :)
      · exact h.ch p (List.mem_of_mem_drop z)
  · rcases List.mem_append.mp hp with z | z
    · exact h.ok p (List.mem_of_mem_take z)
    · rcases List.mem_cons.mp z with rfl | z
      · exact ok
      · exact h.ok p (List.mem_of_mem_drop z)
theorem swap_ne {rs : Rw} {i : Nat} (hi : i < rs.length) {r : List Nat} (hn : r ≠ rs[i].2) : rs ≠ rs.take i ++ (rs[i].1, r) :: rs.drop (i + 1) := by
  intro e
  have e0 : rs.take i ++ rs[i] :: rs.drop (i + 1) = rs := by rw [List.getElem_cons_drop, List.take_append_drop]
  have e1 := e0.trans e
  have e2 := List.append_cancel_left e1
  injection e2 with e3 _
  exact hn (congrArg Prod.snd e3).symm
def c_unlike (C : Addr) : DSp := fun ds M P => ∃ (a : Addr) (rs : Rw) (wd : Nat) (g st n : Int), ds = [.ref a, planD C wd rs, .int wd, rowsD rs] ∧ (M a = some (puL g st n) ∧ Pv g st n ∧ OkRs wd rs ∧ wd ≤ 60) ∧ ∀ M', P (.bl true) M'
theorem sc_law_unlike : FnScope ["_law_purse_here", "_law_mine", "_law_wide", "_law_drawn_here", "_law_some", "_law_at", "_law_letter", "_law_row", "_law_near", "_law_thing"] ["_law_purse_here", "_law_mine", "_law_wide", "_law_drawn_here"] (defScope (top 32)) := ⟨rfl, rfl, rfl, by decide +kernel, rfl, by decide +kernel, by decide +kernel⟩
theorem fn_law_unlike (F : Fc K mg) {fd : FuncData} (dF : FunD K "_law_unlike" "_law_unlike" (defArgs (top 32)) (defBody (top 32)) (defScope (top 32)) [] [] ((gloA "_law_unlike") K) fd) : FnG P w K mg base 7 ((gloA "_law_unlike") K) fd ["_law_purse_here", "_law_mine", "_law_wide", "_law_drawn_here"] (spOf K (c_unlike (gloA "Plan" K))) := by
  have nd := sc_law_unlike.nd
  refine fnG_D dF sc_law_unlike (fun ds M R h => ?_) fun cd A outer s H hr => ⟨_, (b_cons (s_set (i := 4) nd rfl (by first | exact .inl rfl | exact .inr rfl) (j_lst (a_cons (j_make (mk_Plan_2 F) hr (by decide) (a_cons (j_add (jv 2) j_int) (a_cons (jv 3) a_nil))) (a_cons (j_make (mk_Plan_1 F) hr (by decide) (a_cons (j_add (jv 2) j_int) a_nil)) (a_cons j_non (a_cons (jv 2) (a_cons (jv 3) (a_cons (j_tup (a_cons (jv 2) (a_cons (jv 3) a_nil))) (a_cons (j_prop (p_Plan_text F) hr (by decide) (jv 1)) a_nil)))))))))
      (b_cons (s_if (t_ne hr.rm.units (jv 3) (j_tup a_nil))
      (b_cons (s_set (i := 5) nd rfl (by first | exact .inl rfl | exact .inr rfl) (j_call (cal__law_roll F) hr (by decide) (a_cons (jv 0) (a_cons (j_cb call_len lc_len F.n_len rfl (a_cons (jv 3) a_nil) rfl (by decide) (by decide) rfl rfl) a_nil))))
      (b_one (s_set (i := 4) nd rfl (by first | exact .inl rfl | exact .inr rfl) (j_add (jv 4) (j_lst (a_cons (j_make (mk_Plan_2 F) hr (by decide) (a_cons (jv 2) (a_cons (j_add (j_slice (jv 3) o_no (o_so (jv 5))) (j_slice (jv 3) (o_so (j_add (jv 5) j_int)) o_no)) a_nil))) a_nil))))))
      b_nil)
      (b_cons (s_if (JW.jt (w_and (t_ne hr.rm.units (jv 3) (j_tup a_nil)) (w_and1 (t_gt (jv 2) j_int))))
      (b_cons (s_asg (j_ix (jv 3) (jv 5)) (g_tup (n := 2) rfl (gs_cons (g_name (i := 6) nd rfl (by first | exact .inl rfl | exact .inr rfl)) (gs_cons (g_name (i := 7) nd rfl (by first | exact .inl rfl | exact .inr rfl)) gs_nil))))
      (b_cons (s_set (i := 8) nd rfl (by first | exact .inl rfl | exact .inr rfl) (j_tup (a_cons (jv 6) (a_cons (j_call (cal__law_turned F) hr (by decide) (a_cons (jv 7) (a_cons (j_call (cal__law_roll F) hr (by decide) (a_cons (jv 0) (a_cons (jv 2) a_nil))) a_nil))) a_nil))))
      (b_one (s_set (i := 4) nd rfl (by first | exact .inl rfl | exact .inr rfl) (j_add (jv 4) (j_lst (a_cons (j_make (mk_Plan_2 F) hr (by decide) (a_cons (jv 2) (a_cons (j_add (j_add (j_slice (jv 3) o_no (o_so (jv 5))) (j_tup (a_cons (jv 8) a_nil))) (j_slice (jv 3) (o_so (j_add (jv 5) j_int)) o_no)) a_nil))) a_nil)))))))
      b_nil)
      (b_one (s_ret (j_not (j_cb (cr_any rfl) lc_any F.n_any rfl (a_cons (j_lc rfl nd (own := [("_law_thing", 9)]) (by show BlkOk ["_law_purse_here", "_law_mine", "_law_wide", "_law_drawn_here", "_law_some", "_law_at", "_law_letter", "_law_row", "_law_near", "_law_thing"] (defScope (top 32)) _ [("_law_thing", 9)]; constructor <;> first | rfl | decide +kernel) (i_any (jv 4)) (fun _ _ _ _ _ => (gw_name (i := 9) nd rfl (by first | exact .inl rfl | exact .inr rfl) (by decide))) (fun _ _ _ _ _ => ts_nil) (fun _ _ _ _ _ => (j_or (j_ownK K rfl (s_Plan_eq F) hr (by decide) (jv 1) (jv 9)) (j_one (j_not (j_ownNK K rfl (s_Plan_eq F) F.ne_Plan F.ti_Plan.hm hr (by decide) (jv 1) (jv 9))))))) a_nil) rfl (by decide) (by decide) rfl rfl))))))), ?_⟩
  · obtain ⟨_, _, _, _, _, _, rfl, _⟩ := h; rfl
  · intro ds M R h
    obtain ⟨a, rs, wd, g, st, n, rfl, ⟨hm, pv, ok, hw⟩, h⟩ := h
    have hl := rs_len ok
    have sl := sl24
    have ip : ∀ M : Mm, insD M (gloA "Plan" K) (planD (gloA "Plan" K) wd rs) = some ((["length", "pairs"] : List Str), [.int (wd : Int), rowsD rs]) := fun M => if_pos rfl
    refine seq_step fun N hN => ?_
    simp only [cx_K, nox_K, dRet, dRetN, dAnd, dOr, dNot, dCB, dCons, dVar, dC, dNil, dSeq, dAsg, dgName, dIfS, dNever, dTest, dAndT, dOrT, dNotT, dIf, dBin, dUn, dChain, dstart, dPar, dPar3, dDrop, dFor, dIter, dRng1, dRng2, dNext, dTup, dLst, dCall, dMeth, dProp, dFld, dSetF, dM, dJoined, dJs, dLc, dDc, dSlice, dPart, dNoP, dRetF, dYes, dgSub, dwipe, dEnum, dZip, dTxt, ownD, dMethK, q_plus_int, q_plus_str, q_plus_tup, q_plus_lst, q_fII, q_minus, q_fdiv, q_mod, q_pow, q_mul, q_rep, q_ord_int, q_ord_str, q_len_str, q_len_tup, q_len_lst, q_len_scr, q_len_ref, q_neg, q_fmt_int, q_fmt_str, q_str_int, q_str_str, q_int_int, q_int_bl, q_int_str, q_bool_int, q_bool_bl, q_abs, q_max, q_min, q_divmod, q_ix_tup, q_ix_lst, q_ix_ref, q_ix_scr, q_ix_str, q_sl_tup, q_sl_str, q_sl_lst, q_sl_scr, q_tuple_lst, q_tuple_tup, q_tuple_ref, q_in_dic, q_in_tup, q_in_ref, q_in_lst, q_items_lst, q_items_tup, q_items_scr, q_items_str, q_ins, q_ty_int, q_ty_str, q_ty_tup, q_ty_lst, q_ty_non, q_ty_bl, q_ty_ins, q_all, q_gtup, q_gcons, q_gnil, q_join, q_append, q_count, q_isdigit, q_split, ltD, leD, gtD, geD, isStrD, valN, clsD, List.map_cons, List.map_nil, List.length_cons, List.length_nil, List.replicate_zero, List.replicate_succ, List.cons_append, List.nil_append, List.append_nil, List.getElem?_cons_zero, List.getElem?_cons_succ, List.set_cons_zero, List.set_cons_succ, List.zip_cons_cons, List.zip_nil_left, List.zip_nil_right, List.lookup_cons, List.lookup_nil, Option.some.injEq, exists_eq_left', exists_eq_left, exists_eq', exists_eq, HD.D.bl.injEq, HD.D.int.injEq, HD.D.str.injEq, HD.D.tup.injEq, HD.D.lst.injEq, HD.D.ref.injEq, List.cons.injEq, and_true, true_and, if_true, if_false, Bool.false_eq_true, ite_true, ite_false, Bool.not_true, Bool.not_false, Int.cast_ofNat_Int, beq_self_eq_true, Nat.sub_self, Nat.reduceSub, Nat.reduceAdd, reduceIte]
    simp only [dMake]
    simp only [cx_K, nox_K, dRet, dRetN, dAnd, dOr, dNot, dCB, dCons, dVar, dC, dNil, dSeq, dAsg, dgName, dIfS, dNever, dTest, dAndT, dOrT, dNotT, dIf, dBin, dUn, dChain, dstart, dPar, dPar3, dDrop, dFor, dIter, dRng1, dRng2, dNext, dTup, dLst, dCall, dMeth, dProp, dFld, dSetF, dM, dJoined, dJs, dLc, dDc, dSlice, dPart, dNoP, dRetF, dYes, dgSub, dwipe, dEnum, dZip, dTxt, ownD, dMethK, q_plus_int, q_plus_str, q_plus_tup, q_plus_lst, q_fII, q_minus, q_fdiv, q_mod, q_pow, q_mul, q_rep, q_ord_int, q_ord_str, q_len_str, q_len_tup, q_len_lst, q_len_scr, q_len_ref, q_neg, q_fmt_int, q_fmt_str, q_str_int, q_str_str, q_int_int, q_int_bl, q_int_str, q_bool_int, q_bool_bl, q_abs, q_max, q_min, q_divmod, q_ix_tup, q_ix_lst, q_ix_ref, q_ix_scr, q_ix_str, q_sl_tup, q_sl_str, q_sl_lst, q_sl_scr, q_tuple_lst, q_tuple_tup, q_tuple_ref, q_in_dic, q_in_tup, q_in_ref, q_in_lst, q_items_lst, q_items_tup, q_items_scr, q_items_str, q_ins, q_ty_int, q_ty_str, q_ty_tup, q_ty_lst, q_ty_non, q_ty_bl, q_ty_ins, q_all, q_gtup, q_gcons, q_gnil, q_join, q_append, q_count, q_isdigit, q_split, ltD, leD, gtD, geD, isStrD, valN, clsD, List.map_cons, List.map_nil, List.length_cons, List.length_nil, List.replicate_zero, List.replicate_succ, List.cons_append, List.nil_append, List.append_nil, List.getElem?_cons_zero, List.getElem?_cons_succ, List.set_cons_zero, List.set_cons_succ, List.zip_cons_cons, List.zip_nil_left, List.zip_nil_right, List.lookup_cons, List.lookup_nil, Option.some.injEq, exists_eq_left', exists_eq_left, exists_eq', exists_eq, HD.D.bl.injEq, HD.D.int.injEq, HD.D.str.injEq, HD.D.tup.injEq, HD.D.lst.injEq, HD.D.ref.injEq, List.cons.injEq, and_true, true_and, if_true, if_false, Bool.false_eq_true, ite_true, ite_false, Bool.not_true, Bool.not_false, Int.cast_ofNat_Int, beq_self_eq_true, Nat.sub_self, Nat.reduceSub, Nat.reduceAdd, reduceIte]
    intro x1 hx1
    refine init_ok (wd := wd + 1) (rs := rs) hx1 (ok.more (by omega)) (by omega) ?_
    rw [mdel_mput hx1]
    intro x2 hx2
    refine init_ok (wd := wd + 1) (rs := []) hx2 (OkRs.nil _) (by omega) ?_
    rw [mdel_mput hx2]
    rw [show D.ins (gloA "Plan" K) ["length", "pairs"] [.int ((wd + 1 : Nat) : Int), rowsD rs] = planD (gloA "Plan" K) (wd + 1) rs from rfl, show D.ins (gloA "Plan" K) ["length", "pairs"] [.int ((wd + 1 : Nat) : Int), rowsD []] = planD (gloA "Plan" K) (wd + 1) [] from rfl]
    refine ⟨by omega, _, _, ip M, rs, wd, rfl, ⟨ok, by omega⟩, ?_⟩
    refine ⟨by omega, ?_⟩
    have o1 : ∀ d ∈ [planD (gloA "Plan" K) (wd + 1) rs, planD (gloA "Plan" K) (wd + 1) [], .non, .int (wd : Int), rowsD rs, .tup [.int (wd : Int), rowsD rs], .str (textT wd rs)], Other (gloA "Plan" K) wd rs d := by
      intro d hd
      simp only [List.mem_cons, List.not_mem_nil, or_false] at hd
      rcases hd with rfl | rfl | rfl | rfl | rfl | rfl | rfl
      · exact .inr ⟨wd + 1, rs, rfl, ok.more (by omega), by omega, fun ⟨e, _⟩ => by omega⟩
      · exact .inr ⟨wd + 1, [], rfl, OkRs.nil _, by omega, fun ⟨e, _⟩ => by omega⟩
      · exact .inl (.inl rfl)
      · exact .inl (.inr (.inl ⟨_, rfl⟩))
      · exact .inl (.inr (.inr (.inl ⟨_, rfl⟩)))
      · exact .inl (.inr (.inr (.inl ⟨_, rfl⟩)))
      · exact .inl (.inr (.inr (.inr ⟨_, rfl⟩)))
    have l1 : [planD (gloA "Plan" K) (wd + 1) rs, planD (gloA "Plan" K) (wd + 1) [], .non, .int (wd : Int), rowsD rs, .tup [.int (wd : Int), rowsD rs], .str (textT wd rs)].length ≤ 50 := by simp only [List.length_cons, List.length_nil]; omega
    generalize [planD (gloA "Plan" K) (wd + 1) rs, planD (gloA "Plan" K) (wd + 1) [], .non, .int (wd : Int), rowsD rs, .tup [.int (wd : Int), rowsD rs], .str (textT wd rs)] = L1 at o1 l1 ⊢
    have fin : ∀ (L : List D) (x5 x6 x7 x8 x9 : Option D) (M : Mm), (∀ d ∈ L, Other (gloA "Plan" K) wd rs d) → L.length ≤ 100 →
        dRet (dNot (dCB (allD fun bs => bs.any id) (dCons (dLc (dIter (dVar 4)) (dgName 9) dYes (dOr (ownD K (gloA "Plan" K) (c_eq (gloA "Plan" K)) false (dVar 1) (dVar 9)) (dNot (ownD K (gloA "Plan" K) (c_eq (gloA "Plan" K)) true (dVar 1) (dVar 9)))) [9]) dNil)))
          { nx := fun _ M' => Ret R .non M', rt := Ret R } [some (.ref a), some (planD (gloA "Plan" K) wd rs), some (.int (wd : Int)), some (rowsD rs), some (.lst L), x5, x6, x7, x8, x9] M := by
      intro L x5 x6 x7 x8 x9 M ho hz
      simp only [cx_K, nox_K, dRet, dRetN, dAnd, dOr, dNot, dCB, dCons, dVar, dC, dNil, dSeq, dAsg, dgName, dIfS, dNever, dTest, dAndT, dOrT, dNotT, dIf, dBin, dUn, dChain, dstart, dPar, dPar3, dDrop, dFor, dIter, dRng1, dRng2, dNext, dTup, dLst, dCall, dMeth, dProp, dFld, dSetF, dM, dJoined, dJs, dLc, dDc, dSlice, dPart, dNoP, dRetF, dYes, dgSub, dwipe, dEnum, dZip, dTxt, ownD, dMethK, q_plus_int, q_plus_str, q_plus_tup, q_plus_lst, q_fII, q_minus, q_fdiv, q_mod, q_pow, q_mul, q_rep, q_ord_int, q_ord_str, q_len_str, q_len_tup, q_len_lst, q_len_scr, q_len_ref, q_neg, q_fmt_int, q_fmt_str, q_str_int, q_str_str, q_int_int, q_int_bl, q_int_str, q_bool_int, q_bool_bl, q_abs, q_max, q_min, q_divmod, q_ix_tup, q_ix_lst, q_ix_ref, q_ix_scr, q_ix_str, q_sl_tup, q_sl_str, q_sl_lst, q_sl_scr, q_tuple_lst, q_tuple_tup, q_tuple_ref, q_in_dic, q_in_tup, q_in_ref, q_in_lst, q_items_lst, q_items_tup, q_items_scr, q_items_str, q_ins, q_ty_int, q_ty_str, q_ty_tup, q_ty_lst, q_ty_non, q_ty_bl, q_ty_ins, q_all, q_gtup, q_gcons, q_gnil, q_join, q_append, q_count, q_isdigit, q_split, ltD, leD, gtD, geD, isStrD, valN, clsD, List.map_cons, List.map_nil, List.length_cons, List.length_nil, List.replicate_zero, List.replicate_succ, List.cons_append, List.nil_append, List.append_nil, List.getElem?_cons_zero, List.getElem?_cons_succ, List.set_cons_zero, List.set_cons_succ, List.zip_cons_cons, List.zip_nil_left, List.zip_nil_right, List.lookup_cons, List.lookup_nil, Option.some.injEq, exists_eq_left', exists_eq_left, exists_eq', exists_eq, HD.D.bl.injEq, HD.D.int.injEq, HD.D.str.injEq, HD.D.tup.injEq, HD.D.lst.injEq, HD.D.ref.injEq, List.cons.injEq, and_true, true_and, if_true, if_false, Bool.false_eq_true, ite_true, ite_false, Bool.not_true, Bool.not_false, Int.cast_ofNat_Int, beq_self_eq_true, Nat.sub_self, Nat.reduceSub, Nat.reduceAdd, reduceIte]
      have eL : L = L.map (fun d : D => d) := (List.map_id' L).symm
      rw [eL]
      refine lcD_all (fun d : D => d) (fun _ => D.bl false) L (fun d hd K1 k => ?_) _ (by omega) ?_
      · obtain ⟨t, g1, g2, g3⟩ := ty_other (M := M) F rfl (ho d hd)
        simp only [cx_K, nox_K, dRet, dRetN, dAnd, dOr, dNot, dCB, dCons, dVar, dC, dNil, dSeq, dAsg, dgName, dIfS, dNever, dTest, dAndT, dOrT, dNotT, dIf, dBin, dUn, dChain, dstart, dPar, dPar3, dDrop, dFor, dIter, dRng1, dRng2, dNext, dTup, dLst, dCall, dMeth, dProp, dFld, dSetF, dM, dJoined, dJs, dLc, dDc, dSlice, dPart, dNoP, dRetF, dYes, dgSub, dwipe, dEnum, dZip, dTxt, ownD, dMethK, q_plus_int, q_plus_str, q_plus_tup, q_plus_lst, q_fII, q_minus, q_fdiv, q_mod, q_pow, q_mul, q_rep, q_ord_int, q_ord_str, q_len_str, q_len_tup, q_len_lst, q_len_scr, q_len_ref, q_neg, q_fmt_int, q_fmt_str, q_str_int, q_str_str, q_int_int, q_int_bl, q_int_str, q_bool_int, q_bool_bl, q_abs, q_max, q_min, q_divmod, q_ix_tup, q_ix_lst, q_ix_ref, q_ix_scr, q_ix_str, q_sl_tup, q_sl_str, q_sl_lst, q_sl_scr, q_tuple_lst, q_tuple_tup, q_tuple_ref, q_in_dic, q_in_tup, q_in_ref, q_in_lst, q_items_lst, q_items_tup, q_items_scr, q_items_str, q_ins, q_ty_int, q_ty_str, q_ty_tup, q_ty_lst, q_ty_non, q_ty_bl, q_ty_ins, q_all, q_gtup, q_gcons, q_gnil, q_join, q_append, q_count, q_isdigit, q_split, ltD, leD, gtD, geD, isStrD, valN, clsD, List.map_cons, List.map_nil, List.length_cons, List.length_nil, List.replicate_zero, List.replicate_succ, List.cons_append, List.nil_append, List.append_nil, List.getElem?_cons_zero, List.getElem?_cons_succ, List.set_cons_zero, List.set_cons_succ, List.zip_cons_cons, List.zip_nil_left, List.zip_nil_right, List.lookup_cons, List.lookup_nil, Option.some.injEq, exists_eq_left', exists_eq_left, exists_eq', exists_eq, HD.D.bl.injEq, HD.D.int.injEq, HD.D.str.injEq, HD.D.tup.injEq, HD.D.lst.injEq, HD.D.ref.injEq, List.cons.injEq, and_true, true_and, if_true, if_false, Bool.false_eq_true, ite_true, ite_false, Bool.not_true, Bool.not_false, Int.cast_ofNat_Int, beq_self_eq_true, Nat.sub_self, Nat.reduceSub, Nat.reduceAdd, reduceIte]
        refine ⟨_, _, t, ip M, g1, g2, g3, eq_other ok hw (ho d hd) ⟨false, rfl, ?_⟩⟩
        simp only [cx_K, nox_K, dRet, dRetN, dAnd, dOr, dNot, dCB, dCons, dVar, dC, dNil, dSeq, dAsg, dgName, dIfS, dNever, dTest, dAndT, dOrT, dNotT, dIf, dBin, dUn, dChain, dstart, dPar, dPar3, dDrop, dFor, dIter, dRng1, dRng2, dNext, dTup, dLst, dCall, dMeth, dProp, dFld, dSetF, dM, dJoined, dJs, dLc, dDc, dSlice, dPart, dNoP, dRetF, dYes, dgSub, dwipe, dEnum, dZip, dTxt, ownD, dMethK, q_plus_int, q_plus_str, q_plus_tup, q_plus_lst, q_fII, q_minus, q_fdiv, q_mod, q_pow, q_mul, q_rep, q_ord_int, q_ord_str, q_len_str, q_len_tup, q_len_lst, q_len_scr, q_len_ref, q_neg, q_fmt_int, q_fmt_str, q_str_int, q_str_str, q_int_int, q_int_bl, q_int_str, q_bool_int, q_bool_bl, q_abs, q_max, q_min, q_divmod, q_ix_tup, q_ix_lst, q_ix_ref, q_ix_scr, q_ix_str, q_sl_tup, q_sl_str, q_sl_lst, q_sl_scr, q_tuple_lst, q_tuple_tup, q_tuple_ref, q_in_dic, q_in_tup, q_in_ref, q_in_lst, q_items_lst, q_items_tup, q_items_scr, q_items_str, q_ins, q_ty_int, q_ty_str, q_ty_tup, q_ty_lst, q_ty_non, q_ty_bl, q_ty_ins, q_all, q_gtup, q_gcons, q_gnil, q_join, q_append, q_count, q_isdigit, q_split, ltD, leD, gtD, geD, isStrD, valN, clsD, List.map_cons, List.map_nil, List.length_cons, List.length_nil, List.replicate_zero, List.replicate_succ, List.cons_append, List.nil_append, List.append_nil, List.getElem?_cons_zero, List.getElem?_cons_succ, List.set_cons_zero, List.set_cons_succ, List.zip_cons_cons, List.zip_nil_left, List.zip_nil_right, List.lookup_cons, List.lookup_nil, Option.some.injEq, exists_eq_left', exists_eq_left, exists_eq', exists_eq, HD.D.bl.injEq, HD.D.int.injEq, HD.D.str.injEq, HD.D.tup.injEq, HD.D.lst.injEq, HD.D.ref.injEq, List.cons.injEq, and_true, true_and, if_true, if_false, Bool.false_eq_true, ite_true, ite_false, Bool.not_true, Bool.not_false, Int.cast_ofNat_Int, beq_self_eq_true, Nat.sub_self, Nat.reduceSub, Nat.reduceAdd, reduceIte]
        refine ⟨_, _, t, ip M, g1, g2, g3, eq_other ok hw (ho d hd) ⟨false, rfl, ?_⟩⟩
        simp only [cx_K, nox_K, dRet, dRetN, dAnd, dOr, dNot, dCB, dCons, dVar, dC, dNil, dSeq, dAsg, dgName, dIfS, dNever, dTest, dAndT, dOrT, dNotT, dIf, dBin, dUn, dChain, dstart, dPar, dPar3, dDrop, dFor, dIter, dRng1, dRng2, dNext, dTup, dLst, dCall, dMeth, dProp, dFld, dSetF, dM, dJoined, dJs, dLc, dDc, dSlice, dPart, dNoP, dRetF, dYes, dgSub, dwipe, dEnum, dZip, dTxt, ownD, dMethK, q_plus_int, q_plus_str, q_plus_tup, q_plus_lst, q_fII, q_minus, q_fdiv, q_mod, q_pow, q_mul, q_rep, q_ord_int, q_ord_str, q_len_str, q_len_tup, q_len_lst, q_len_scr, q_len_ref, q_neg, q_fmt_int, q_fmt_str, q_str_int, q_str_str, q_int_int, q_int_bl, q_int_str, q_bool_int, q_bool_bl, q_abs, q_max, q_min, q_divmod, q_ix_tup, q_ix_lst, q_ix_ref, q_ix_scr, q_ix_str, q_sl_tup, q_sl_str, q_sl_lst, q_sl_scr, q_tuple_lst, q_tuple_tup, q_tuple_ref, q_in_dic, q_in_tup, q_in_ref, q_in_lst, q_items_lst, q_items_tup, q_items_scr, q_items_str, q_ins, q_ty_int, q_ty_str, q_ty_tup, q_ty_lst, q_ty_non, q_ty_bl, q_ty_ins, q_all, q_gtup, q_gcons, q_gnil, q_join, q_append, q_count, q_isdigit, q_split, ltD, leD, gtD, geD, isStrD, valN, clsD, List.map_cons, List.map_nil, List.length_cons, List.length_nil, List.replicate_zero, List.replicate_succ, List.cons_append, List.nil_append, List.append_nil, List.getElem?_cons_zero, List.getElem?_cons_succ, List.set_cons_zero, List.set_cons_succ, List.zip_cons_cons, List.zip_nil_left, List.zip_nil_right, List.lookup_cons, List.lookup_nil, Option.some.injEq, exists_eq_left', exists_eq_left, exists_eq', exists_eq, HD.D.bl.injEq, HD.D.int.injEq, HD.D.str.injEq, HD.D.tup.injEq, HD.D.lst.injEq, HD.D.ref.injEq, List.cons.injEq, and_true, true_and, if_true, if_false, Bool.false_eq_true, ite_true, ite_false, Bool.not_true, Bool.not_false, Int.cast_ofNat_Int, beq_self_eq_true, Nat.sub_self, Nat.reduceSub, Nat.reduceAdd, reduceIte]
        exact k
      · have e1 : L.map (fun _ => D.bl false) = (L.map fun _ => false).map D.bl := by
          rw [List.map_map]
          rfl
        rw [e1, q_all]
        have e2 : (L.map fun _ => false).any id = false := by
          clear ho hz eL e1
          induction L with
          | nil => rfl
          | cons d L ih => rw [List.map_cons, List.any_cons, ih]; rfl
        rw [e2]
        exact ⟨_, rfl, Ret.of (h M)⟩
    have neq : ∀ (M : Mm) (P : D → Prop), P (.bl (!decide (rs = []))) → eqD true M (rowsD rs) (.tup []) P := fun M P p => by
      show eqD true M (rowsD rs) (rowsD []) P
      refine eqD_sm (rows_sm ok (by omega) (k := 0)) (rows_sm (OkRs.nil wd) (by omega) (k := 0)) (by omega) (by omega) fun q r h1 h2 => ?_
      rw [rows_eqv h1 h2]
      exact p
    refine hN _ _ ?_
    clear hN N
    refine seq_step fun N hN => ?_
    simp only [cx_K, nox_K, dRet, dRetN, dAnd, dOr, dNot, dCB, dCons, dVar, dC, dNil, dSeq, dAsg, dgName, dIfS, dNever, dTest, dAndT, dOrT, dNotT, dIf, dBin, dUn, dChain, dstart, dPar, dPar3, dDrop, dFor, dIter, dRng1, dRng2, dNext, dTup, dLst, dCall, dMeth, dProp, dFld, dSetF, dM, dJoined, dJs, dLc, dDc, dSlice, dPart, dNoP, dRetF, dYes, dgSub, dwipe, dEnum, dZip, dTxt, ownD, dMethK, q_plus_int, q_plus_str, q_plus_tup, q_plus_lst, q_fII, q_minus, q_fdiv, q_mod, q_pow, q_mul, q_rep, q_ord_int, q_ord_str, q_len_str, q_len_tup, q_len_lst, q_len_scr, q_len_ref, q_neg, q_fmt_int, q_fmt_str, q_str_int, q_str_str, q_int_int, q_int_bl, q_int_str, q_bool_int, q_bool_bl, q_abs, q_max, q_min, q_divmod, q_ix_tup, q_ix_lst, q_ix_ref, q_ix_scr, q_ix_str, q_sl_tup, q_sl_str, q_sl_lst, q_sl_scr, q_tuple_lst, q_tuple_tup, q_tuple_ref, q_in_dic, q_in_tup, q_in_ref, q_in_lst, q_items_lst, q_items_tup, q_items_scr, q_items_str, q_ins, q_ty_int, q_ty_str, q_ty_tup, q_ty_lst, q_ty_non, q_ty_bl, q_ty_ins, q_all, q_gtup, q_gcons, q_gnil, q_join, q_append, q_count, q_isdigit, q_split, ltD, leD, gtD, geD, isStrD, valN, clsD, List.map_cons, List.map_nil, List.length_cons, List.length_nil, List.replicate_zero, List.replicate_succ, List.cons_append, List.nil_append, List.append_nil, List.getElem?_cons_zero, List.getElem?_cons_succ, List.set_cons_zero, List.set_cons_succ, List.zip_cons_cons, List.zip_nil_left, List.zip_nil_right, List.lookup_cons, List.lookup_nil, Option.some.injEq, exists_eq_left', exists_eq_left, exists_eq', exists_eq, HD.D.bl.injEq, HD.D.int.injEq, HD.D.str.injEq, HD.D.tup.injEq, HD.D.lst.injEq, HD.D.ref.injEq, List.cons.injEq, and_true, true_and, if_true, if_false, Bool.false_eq_true, ite_true, ite_false, Bool.not_true, Bool.not_false, Int.cast_ofNat_Int, beq_self_eq_true, Nat.sub_self, Nat.reduceSub, Nat.reduceAdd, reduceIte]
    refine ⟨by omega, neq _ _ ?_⟩
    simp only [cx_K, nox_K, dRet, dRetN, dAnd, dOr, dNot, dCB, dCons, dVar, dC, dNil, dSeq, dAsg, dgName, dIfS, dNever, dTest, dAndT, dOrT, dNotT, dIf, dBin, dUn, dChain, dstart, dPar, dPar3, dDrop, dFor, dIter, dRng1, dRng2, dNext, dTup, dLst, dCall, dMeth, dProp, dFld, dSetF, dM, dJoined, dJs, dLc, dDc, dSlice, dPart, dNoP, dRetF, dYes, dgSub, dwipe, dEnum, dZip, dTxt, ownD, dMethK, q_plus_int, q_plus_str, q_plus_tup, q_plus_lst, q_fII, q_minus, q_fdiv, q_mod, q_pow, q_mul, q_rep, q_ord_int, q_ord_str, q_len_str, q_len_tup, q_len_lst, q_len_scr, q_len_ref, q_neg, q_fmt_int, q_fmt_str, q_str_int, q_str_str, q_int_int, q_int_bl, q_int_str, q_bool_int, q_bool_bl, q_abs, q_max, q_min, q_divmod, q_ix_tup, q_ix_lst, q_ix_ref, q_ix_scr, q_ix_str, q_sl_tup, q_sl_str, q_sl_lst, q_sl_scr, q_tuple_lst, q_tuple_tup, q_tuple_ref, q_in_dic, q_in_tup, q_in_ref, q_in_lst, q_items_lst, q_items_tup, q_items_scr, q_items_str, q_ins, q_ty_int, q_ty_str, q_ty_tup, q_ty_lst, q_ty_non, q_ty_bl, q_ty_ins, q_all, q_gtup, q_gcons, q_gnil, q_join, q_append, q_count, q_isdigit, q_split, ltD, leD, gtD, geD, isStrD, valN, clsD, List.map_cons, List.map_nil, List.length_cons, List.length_nil, List.replicate_zero, List.replicate_succ, List.cons_append, List.nil_append, List.append_nil, List.getElem?_cons_zero, List.getElem?_cons_succ, List.set_cons_zero, List.set_cons_succ, List.zip_cons_cons, List.zip_nil_left, List.zip_nil_right, List.lookup_cons, List.lookup_nil, Option.some.injEq, exists_eq_left', exists_eq_left, exists_eq', exists_eq, HD.D.bl.injEq, HD.D.int.injEq, HD.D.str.injEq, HD.D.tup.injEq, HD.D.lst.injEq, HD.D.ref.injEq, List.cons.injEq, and_true, true_and, if_true, if_false, Bool.false_eq_true, ite_true, ite_false, Bool.not_true, Bool.not_false, Int.cast_ofNat_Int, beq_self_eq_true, Nat.sub_self, Nat.reduceSub, Nat.reduceAdd, reduceIte]
    by_cases z : rs = []
    · rw [decide_eq_true z]
      simp only [cx_K, nox_K, dRet, dRetN, dAnd, dOr, dNot, dCB, dCons, dVar, dC, dNil, dSeq, dAsg, dgName, dIfS, dNever, dTest, dAndT, dOrT, dNotT, dIf, dBin, dUn, dChain, dstart, dPar, dPar3, dDrop, dFor, dIter, dRng1, dRng2, dNext, dTup, dLst, dCall, dMeth, dProp, dFld, dSetF, dM, dJoined, dJs, dLc, dDc, dSlice, dPart, dNoP, dRetF, dYes, dgSub, dwipe, dEnum, dZip, dTxt, ownD, dMethK, q_plus_int, q_plus_str, q_plus_tup, q_plus_lst, q_fII, q_minus, q_fdiv, q_mod, q_pow, q_mul, q_rep, q_ord_int, q_ord_str, q_len_str, q_len_tup, q_len_lst, q_len_scr, q_len_ref, q_neg, q_fmt_int, q_fmt_str, q_str_int, q_str_str, q_int_int, q_int_bl, q_int_str, q_bool_int, q_bool_bl, q_abs, q_max, q_min, q_divmod, q_ix_tup, q_ix_lst, q_ix_ref, q_ix_scr, q_ix_str, q_sl_tup, q_sl_str, q_sl_lst, q_sl_scr, q_tuple_lst, q_tuple_tup, q_tuple_ref, q_in_dic, q_in_tup, q_in_ref, q_in_lst, q_items_lst, q_items_tup, q_items_scr, q_items_str, q_ins, q_ty_int, q_ty_str, q_ty_tup, q_ty_lst, q_ty_non, q_ty_bl, q_ty_ins, q_all, q_gtup, q_gcons, q_gnil, q_join, q_append, q_count, q_isdigit, q_split, ltD, leD, gtD, geD, isStrD, valN, clsD, List.map_cons, List.map_nil, List.length_cons, List.length_nil, List.replicate_zero, List.replicate_succ, List.cons_append, List.nil_append, List.append_nil, List.getElem?_cons_zero, List.getElem?_cons_succ, List.set_cons_zero, List.set_cons_succ, List.zip_cons_cons, List.zip_nil_left, List.zip_nil_right, List.lookup_cons, List.lookup_nil, Option.some.injEq, exists_eq_left', exists_eq_left, exists_eq', exists_eq, HD.D.bl.injEq, HD.D.int.injEq, HD.D.str.injEq, HD.D.tup.injEq, HD.D.lst.injEq, HD.D.ref.injEq, List.cons.injEq, and_true, true_and, if_true, if_false, Bool.false_eq_true, ite_true, ite_false, Bool.not_true, Bool.not_false, Int.cast_ofNat_Int, beq_self_eq_true, Nat.sub_self, Nat.reduceSub, Nat.reduceAdd, reduceIte]
      refine hN _ _ ?_
      clear hN N
      refine seq_step fun N hN => ?_
      simp only [cx_K, nox_K, dRet, dRetN, dAnd, dOr, dNot, dCB, dCons, dVar, dC, dNil, dSeq, dAsg, dgName, dIfS, dNever, dTest, dAndT, dOrT, dNotT, dIf, dBin, dUn, dChain, dstart, dPar, dPar3, dDrop, dFor, dIter, dRng1, dRng2, dNext, dTup, dLst, dCall, dMeth, dProp, dFld, dSetF, dM, dJoined, dJs, dLc, dDc, dSlice, dPart, dNoP, dRetF, dYes, dgSub, dwipe, dEnum, dZip, dTxt, ownD, dMethK, q_plus_int, q_plus_str, q_plus_tup, q_plus_lst, q_fII, q_minus, q_fdiv, q_mod, q_pow, q_mul, q_rep, q_ord_int, q_ord_str, q_len_str, q_len_tup, q_len_lst, q_len_scr, q_len_ref, q_neg, q_fmt_int, q_fmt_str, q_str_int, q_str_str, q_int_int, q_int_bl, q_int_str, q_bool_int, q_bool_bl, q_abs, q_max, q_min, q_divmod, q_ix_tup, q_ix_lst, q_ix_ref, q_ix_scr, q_ix_str, q_sl_tup, q_sl_str, q_sl_lst, q_sl_scr, q_tuple_lst, q_tuple_tup, q_tuple_ref, q_in_dic, q_in_tup, q_in_ref, q_in_lst, q_items_lst, q_items_tup, q_items_scr, q_items_str, q_ins, q_ty_int, q_ty_str, q_ty_tup, q_ty_lst, q_ty_non, q_ty_bl, q_ty_ins, q_all, q_gtup, q_gcons, q_gnil, q_join, q_append, q_count, q_isdigit, q_split, ltD, leD, gtD, geD, isStrD, valN, clsD, List.map_cons, List.map_nil, List.length_cons, List.length_nil, List.replicate_zero, List.replicate_succ, List.cons_append, List.nil_append, List.append_nil, List.getElem?_cons_zero, List.getElem?_cons_succ, List.set_cons_zero, List.set_cons_succ, List.zip_cons_cons, List.zip_nil_left, List.zip_nil_right, List.lookup_cons, List.lookup_nil, Option.some.injEq, exists_eq_left', exists_eq_left, exists_eq', exists_eq, HD.D.bl.injEq, HD.D.int.injEq, HD.D.str.injEq, HD.D.tup.injEq, HD.D.lst.injEq, HD.D.ref.injEq, List.cons.injEq, and_true, true_and, if_true, if_false, Bool.false_eq_true, ite_true, ite_false, Bool.not_true, Bool.not_false, Int.cast_ofNat_Int, beq_self_eq_true, Nat.sub_self, Nat.reduceSub, Nat.reduceAdd, reduceIte]
      refine ⟨by omega, neq _ _ ?_⟩
      rw [decide_eq_true z]
      simp only [cx_K, nox_K, dRet, dRetN, dAnd, dOr, dNot, dCB, dCons, dVar, dC, dNil, dSeq, dAsg, dgName, dIfS, dNever, dTest, dAndT, dOrT, dNotT, dIf, dBin, dUn, dChain, dstart, dPar, dPar3, dDrop, dFor, dIter, dRng1, dRng2, dNext, dTup, dLst, dCall, dMeth, dProp, dFld, dSetF, dM, dJoined, dJs, dLc, dDc, dSlice, dPart, dNoP, dRetF, dYes, dgSub, dwipe, dEnum, dZip, dTxt, ownD, dMethK, q_plus_int, q_plus_str, q_plus_tup, q_plus_lst, q_fII, q_minus, q_fdiv, q_mod, q_pow, q_mul, q_rep, q_ord_int, q_ord_str, q_len_str, q_len_tup, q_len_lst, q_len_scr, q_len_ref, q_neg, q_fmt_int, q_fmt_str, q_str_int, q_str_str, q_int_int, q_int_bl, q_int_str, q_bool_int, q_bool_bl, q_abs, q_max, q_min, q_divmod, q_ix_tup, q_ix_lst, q_ix_ref, q_ix_scr, q_ix_str, q_sl_tup, q_sl_str, q_sl_lst, q_sl_scr, q_tuple_lst, q_tuple_tup, q_tuple_ref, q_in_dic, q_in_tup, q_in_ref, q_in_lst, q_items_lst, q_items_tup, q_items_scr, q_items_str, q_ins, q_ty_int, q_ty_str, q_ty_tup, q_ty_lst, q_ty_non, q_ty_bl, q_ty_ins, q_all, q_gtup, q_gcons, q_gnil, q_join, q_append, q_count, q_isdigit, q_split, ltD, leD, gtD, geD, isStrD, valN, clsD, List.map_cons, List.map_nil, List.length_cons, List.length_nil, List.replicate_zero, List.replicate_succ, List.cons_append, List.nil_append, List.append_nil, List.getElem?_cons_zero, List.getElem?_cons_succ, List.set_cons_zero, List.set_cons_succ, List.zip_cons_cons, List.zip_nil_left, List.zip_nil_right, List.lookup_cons, List.lookup_nil, Option.some.injEq, exists_eq_left', exists_eq_left, exists_eq', exists_eq, HD.D.bl.injEq, HD.D.int.injEq, HD.D.str.injEq, HD.D.tup.injEq, HD.D.lst.injEq, HD.D.ref.injEq, List.cons.injEq, and_true, true_and, if_true, if_false, Bool.false_eq_true, ite_true, ite_false, Bool.not_true, Bool.not_false, Int.cast_ofNat_Int, beq_self_eq_true, Nat.sub_self, Nat.reduceSub, Nat.reduceAdd, reduceIte]
      refine hN _ _ ?_
      clear hN N
      exact fin L1 _ _ _ _ _ M o1 (by omega)
    · rw [decide_eq_false z]
      simp only [cx_K, nox_K, dRet, dRetN, dAnd, dOr, dNot, dCB, dCons, dVar, dC, dNil, dSeq, dAsg, dgName, dIfS, dNever, dTest, dAndT, dOrT, dNotT, dIf, dBin, dUn, dChain, dstart, dPar, dPar3, dDrop, dFor, dIter, dRng1, dRng2, dNext, dTup, dLst, dCall, dMeth, dProp, dFld, dSetF, dM, dJoined, dJs, dLc, dDc, dSlice, dPart, dNoP, dRetF, dYes, dgSub, dwipe, dEnum, dZip, dTxt, ownD, dMethK, q_plus_int, q_plus_str, q_plus_tup, q_plus_lst, q_fII, q_minus, q_fdiv, q_mod, q_pow, q_mul, q_rep, q_ord_int, q_ord_str, q_len_str, q_len_tup, q_len_lst, q_len_scr, q_len_ref, q_neg, q_fmt_int, q_fmt_str, q_str_int, q_str_str, q_int_int, q_int_bl, q_int_str, q_bool_int, q_bool_bl, q_abs, q_max, q_min, q_divmod, q_ix_tup, q_ix_lst, q_ix_ref, q_ix_scr, q_ix_str, q_sl_tup, q_sl_str, q_sl_lst, q_sl_scr, q_tuple_lst, q_tuple_tup, q_tuple_ref, q_in_dic, q_in_tup, q_in_ref, q_in_lst, q_items_lst, q_items_tup, q_items_scr, q_items_str, q_ins, q_ty_int, q_ty_str, q_ty_tup, q_ty_lst, q_ty_non, q_ty_bl, q_ty_ins, q_all, q_gtup, q_gcons, q_gnil, q_join, q_append, q_count, q_isdigit, q_split, ltD, leD, gtD, geD, isStrD, valN, clsD, List.map_cons, List.map_nil, List.length_cons, List.length_nil, List.replicate_zero, List.replicate_succ, List.cons_append, List.nil_append, List.append_nil, List.getElem?_cons_zero, List.getElem?_cons_succ, List.set_cons_zero, List.set_cons_succ, List.zip_cons_cons, List.zip_nil_left, List.zip_nil_right, List.lookup_cons, List.lookup_nil, Option.some.injEq, exists_eq_left', exists_eq_left, exists_eq', exists_eq, HD.D.bl.injEq, HD.D.int.injEq, HD.D.str.injEq, HD.D.tup.injEq, HD.D.lst.injEq, HD.D.ref.injEq, List.cons.injEq, and_true, true_and, if_true, if_false, Bool.false_eq_true, ite_true, ite_false, Bool.not_true, Bool.not_false, Int.cast_ofNat_Int, beq_self_eq_true, Nat.sub_self, Nat.reduceSub, Nat.reduceAdd, reduceIte]
      have rp : 0 < rs.length := List.length_pos_iff.mpr z
      have sA : ∀ (M : Mm) (lo hi : Option Int) (P : D → Prop), sliceD M (rowsD rs) lo hi P = P (.tup (cutL (rs.map rowD) lo hi)) := fun _ _ _ _ => rfl
      have sL : ∀ (M : Mm) (P : D → Prop), lenD M [rowsD rs] P = P (.int (((rs.map rowD).length : Nat) : Int)) := fun _ _ => rfl
      rw [sL, List.length_map]
      refine ⟨a, _, g, st, n, rfl, ⟨hm, pv, by omega, by omega⟩, fun r g1 st1 n1 r0 r1 pv1 => ?_⟩
      obtain ⟨i, rfl⟩ : ∃ i : Nat, r = i := ⟨r.toNat, by omega⟩
      have hi : i < rs.length := by omega
      obtain ⟨k1, k2⟩ := cut_rows rs hi
      have tl := List.length_take_le i rs
      have dl : (rs.drop (i + 1)).length ≤ rs.length := by rw [List.length_drop]; omega
      simp only [dMake]
      simp only [cx_K, nox_K, dRet, dRetN, dAnd, dOr, dNot, dCB, dCons, dVar, dC, dNil, dSeq, dAsg, dgName, dIfS, dNever, dTest, dAndT, dOrT, dNotT, dIf, dBin, dUn, dChain, dstart, dPar, dPar3, dDrop, dFor, dIter, dRng1, dRng2, dNext, dTup, dLst, dCall, dMeth, dProp, dFld, dSetF, dM, dJoined, dJs, dLc, dDc, dSlice, dPart, dNoP, dRetF, dYes, dgSub, dwipe, dEnum, dZip, dTxt, ownD, dMethK, q_plus_int, q_plus_str, q_plus_tup, q_plus_lst, q_fII, q_minus, q_fdiv, q_mod, q_pow, q_mul, q_rep, q_ord_int, q_ord_str, q_len_str, q_len_tup, q_len_lst, q_len_scr, q_len_ref, q_neg, q_fmt_int, q_fmt_str, q_str_int, q_str_str, q_int_int, q_int_bl, q_int_str, q_bool_int, q_bool_bl, q_abs, q_max, q_min, q_divmod, q_ix_tup, q_ix_lst, q_ix_ref, q_ix_scr, q_ix_str, q_sl_tup, q_sl_str, q_sl_lst, q_sl_scr, q_tuple_lst, q_tuple_tup, q_tuple_ref, q_in_dic, q_in_tup, q_in_ref, q_in_lst, q_items_lst, q_items_tup, q_items_scr, q_items_str, q_ins, q_ty_int, q_ty_str, q_ty_tup, q_ty_lst, q_ty_non, q_ty_bl, q_ty_ins, q_all, q_gtup, q_gcons, q_gnil, q_join, q_append, q_count, q_isdigit, q_split, ltD, leD, gtD, geD, isStrD, valN, clsD, List.map_cons, List.map_nil, List.length_cons, List.length_nil, List.replicate_zero, List.replicate_succ, List.cons_append, List.nil_append, List.append_nil, List.getElem?_cons_zero, List.getElem?_cons_succ, List.set_cons_zero, List.set_cons_succ, List.zip_cons_cons, List.zip_nil_left, List.zip_nil_right, List.lookup_cons, List.lookup_nil, Option.some.injEq, exists_eq_left', exists_eq_left, exists_eq', exists_eq, HD.D.bl.injEq, HD.D.int.injEq, HD.D.str.injEq, HD.D.tup.injEq, HD.D.lst.injEq, HD.D.ref.injEq, List.cons.injEq, and_true, true_and, if_true, if_false, Bool.false_eq_true, ite_true, ite_false, Bool.not_true, Bool.not_false, Int.cast_ofNat_Int, beq_self_eq_true, Nat.sub_self, Nat.reduceSub, Nat.reduceAdd, reduceIte]
      simp only [sA]
      rw [k1, k2]
      simp only [cx_K, nox_K, dRet, dRetN, dAnd, dOr, dNot, dCB, dCons, dVar, dC, dNil, dSeq, dAsg, dgName, dIfS, dNever, dTest, dAndT, dOrT, dNotT, dIf, dBin, dUn, dChain, dstart, dPar, dPar3, dDrop, dFor, dIter, dRng1, dRng2, dNext, dTup, dLst, dCall, dMeth, dProp, dFld, dSetF, dM, dJoined, dJs, dLc, dDc, dSlice, dPart, dNoP, dRetF, dYes, dgSub, dwipe, dEnum, dZip, dTxt, ownD, dMethK, q_plus_int, q_plus_str, q_plus_tup, q_plus_lst, q_fII, q_minus, q_fdiv, q_mod, q_pow, q_mul, q_rep, q_ord_int, q_ord_str, q_len_str, q_len_tup, q_len_lst, q_len_scr, q_len_ref, q_neg, q_fmt_int, q_fmt_str, q_str_int, q_str_str, q_int_int, q_int_bl, q_int_str, q_bool_int, q_bool_bl, q_abs, q_max, q_min, q_divmod, q_ix_tup, q_ix_lst, q_ix_ref, q_ix_scr, q_ix_str, q_sl_tup, q_sl_str, q_sl_lst, q_sl_scr, q_tuple_lst, q_tuple_tup, q_tuple_ref, q_in_dic, q_in_tup, q_in_ref, q_in_lst, q_items_lst, q_items_tup, q_items_scr, q_items_str, q_ins, q_ty_int, q_ty_str, q_ty_tup, q_ty_lst, q_ty_non, q_ty_bl, q_ty_ins, q_all, q_gtup, q_gcons, q_gnil, q_join, q_append, q_count, q_isdigit, q_split, ltD, leD, gtD, geD, isStrD, valN, clsD, List.map_cons, List.map_nil, List.length_cons, List.length_nil, List.replicate_zero, List.replicate_succ, List.cons_append, List.nil_append, List.append_nil, List.getElem?_cons_zero, List.getElem?_cons_succ, List.set_cons_zero, List.set_cons_succ, List.zip_cons_cons, List.zip_nil_left, List.zip_nil_right, List.lookup_cons, List.lookup_nil, Option.some.injEq, exists_eq_left', exists_eq_left, exists_eq', exists_eq, HD.D.bl.injEq, HD.D.int.injEq, HD.D.str.injEq, HD.D.tup.injEq, HD.D.lst.injEq, HD.D.ref.injEq, List.cons.injEq, and_true, true_and, if_true, if_false, Bool.false_eq_true, ite_true, ite_false, Bool.not_true, Bool.not_false, Int.cast_ofNat_Int, beq_self_eq_true, Nat.sub_self, Nat.reduceSub, Nat.reduceAdd, reduceIte]
      refine ⟨by rw [List.length_map, List.length_map]; omega, ?_⟩
      rw [← List.map_append]
      intro x3 hx3
      refine init_ok (wd := wd) (rs := rs.take i ++ rs.drop (i + 1)) hx3 (ok.sub (cut_sub rs i)) (by omega) ?_
      rw [mdel_mput hx3]
      refine ⟨by omega, by omega, ?_⟩
      have o2 : ∀ d ∈ L1 ++ [planD (gloA "Plan" K) wd (rs.take i ++ rs.drop (i + 1))], Other (gloA "Plan" K) wd rs d := fun d hd => by
        rcases List.mem_append.mp hd with y | y
        · exact o1 d y
        · rw [List.mem_singleton] at y
          subst y
          refine .inr ⟨wd, _, rfl, ok.sub (cut_sub rs i), by omega, fun ⟨_, e⟩ => ?_⟩
          have := congrArg List.length e
          rw [List.length_append, List.length_take, List.length_drop] at this
          omega
      have l2 : (L1 ++ [planD (gloA "Plan" K) wd (rs.take i ++ rs.drop (i + 1))]).length ≤ 60 := by rw [List.length_append, List.length_singleton]; omega
      rw [show D.ins (gloA "Plan" K) ["length", "pairs"] [.int (wd : Int), rowsD (rs.take i ++ rs.drop (i + 1))] = planD (gloA "Plan" K) wd (rs.take i ++ rs.drop (i + 1)) from rfl]
      generalize L1 ++ [planD (gloA "Plan" K) wd (rs.take i ++ rs.drop (i + 1))] = L2 at o2 l2 ⊢
      refine hN _ _ ?_
      clear hN N
      refine seq_step fun N hN => ?_
      simp only [cx_K, nox_K, dRet, dRetN, dAnd, dOr, dNot, dCB, dCons, dVar, dC, dNil, dSeq, dAsg, dgName, dIfS, dNever, dTest, dAndT, dOrT, dNotT, dIf, dBin, dUn, dChain, dstart, dPar, dPar3, dDrop, dFor, dIter, dRng1, dRng2, dNext, dTup, dLst, dCall, dMeth, dProp, dFld, dSetF, dM, dJoined, dJs, dLc, dDc, dSlice, dPart, dNoP, dRetF, dYes, dgSub, dwipe, dEnum, dZip, dTxt, ownD, dMethK, q_plus_int, q_plus_str, q_plus_tup, q_plus_lst, q_fII, q_minus, q_fdiv, q_mod, q_pow, q_mul, q_rep, q_ord_int, q_ord_str, q_len_str, q_len_tup, q_len_lst, q_len_scr, q_len_ref, q_neg, q_fmt_int, q_fmt_str, q_str_int, q_str_str, q_int_int, q_int_bl, q_int_str, q_bool_int, q_bool_bl, q_abs, q_max, q_min, q_divmod, q_ix_tup, q_ix_lst, q_ix_ref, q_ix_scr, q_ix_str, q_sl_tup, q_sl_str, q_sl_lst, q_sl_scr, q_tuple_lst, q_tuple_tup, q_tuple_ref, q_in_dic, q_in_tup, q_in_ref, q_in_lst, q_items_lst, q_items_tup, q_items_scr, q_items_str, q_ins, q_ty_int, q_ty_str, q_ty_tup, q_ty_lst, q_ty_non, q_ty_bl, q_ty_ins, q_all, q_gtup, q_gcons, q_gnil, q_join, q_append, q_count, q_isdigit, q_split, ltD, leD, gtD, geD, isStrD, valN, clsD, List.map_cons, List.map_nil, List.length_cons, List.length_nil, List.replicate_zero, List.replicate_succ, List.cons_append, List.nil_append, List.append_nil, List.getElem?_cons_zero, List.getElem?_cons_succ, List.set_cons_zero, List.set_cons_succ, List.zip_cons_cons, List.zip_nil_left, List.zip_nil_right, List.lookup_cons, List.lookup_nil, Option.some.injEq, exists_eq_left', exists_eq_left, exists_eq', exists_eq, HD.D.bl.injEq, HD.D.int.injEq, HD.D.str.injEq, HD.D.tup.injEq, HD.D.lst.injEq, HD.D.ref.injEq, List.cons.injEq, and_true, true_and, if_true, if_false, Bool.false_eq_true, ite_true, ite_false, Bool.not_true, Bool.not_false, Int.cast_ofNat_Int, beq_self_eq_true, Nat.sub_self, Nat.reduceSub, Nat.reduceAdd, reduceIte]
      refine ⟨by omega, neq _ _ ?_⟩
      rw [decide_eq_false z]
      simp only [cx_K, nox_K, dRet, dRetN, dAnd, dOr, dNot, dCB, dCons, dVar, dC, dNil, dSeq, dAsg, dgName, dIfS, dNever, dTest, dAndT, dOrT, dNotT, dIf, dBin, dUn, dChain, dstart, dPar, dPar3, dDrop, dFor, dIter, dRng1, dRng2, dNext, dTup, dLst, dCall, dMeth, dProp, dFld, dSetF, dM, dJoined, dJs, dLc, dDc, dSlice, dPart, dNoP, dRetF, dYes, dgSub, dwipe, dEnum, dZip, dTxt, ownD, dMethK, q_plus_int, q_plus_str, q_plus_tup, q_plus_lst, q_fII, q_minus, q_fdiv, q_mod, q_pow, q_mul, q_rep, q_ord_int, q_ord_str, q_len_str, q_len_tup, q_len_lst, q_len_scr, q_len_ref, q_neg, q_fmt_int, q_fmt_str, q_str_int, q_str_str, q_int_int, q_int_bl, q_int_str, q_bool_int, q_bool_bl, q_abs, q_max, q_min, q_divmod, q_ix_tup, q_ix_lst, q_ix_ref, q_ix_scr, q_ix_str, q_sl_tup, q_sl_str, q_sl_lst, q_sl_scr, q_tuple_lst, q_tuple_tup, q_tuple_ref, q_in_dic, q_in_tup, q_in_ref, q_in_lst, q_items_lst, q_items_tup, q_items_scr, q_items_str, q_ins, q_ty_int, q_ty_str, q_ty_tup, q_ty_lst, q_ty_non, q_ty_bl, q_ty_ins, q_all, q_gtup, q_gcons, q_gnil, q_join, q_append, q_count, q_isdigit, q_split, ltD, leD, gtD, geD, isStrD, valN, clsD, List.map_cons, List.map_nil, List.length_cons, List.length_nil, List.replicate_zero, List.replicate_succ, List.cons_append, List.nil_append, List.append_nil, List.getElem?_cons_zero, List.getElem?_cons_succ, List.set_cons_zero, List.set_cons_succ, List.zip_cons_cons, List.zip_nil_left, List.zip_nil_right, List.lookup_cons, List.lookup_nil, Option.some.injEq, exists_eq_left', exists_eq_left, exists_eq', exists_eq, HD.D.bl.injEq, HD.D.int.injEq, HD.D.str.injEq, HD.D.tup.injEq, HD.D.lst.injEq, HD.D.ref.injEq, List.cons.injEq, and_true, true_and, if_true, if_false, Bool.false_eq_true, ite_true, ite_false, Bool.not_true, Bool.not_false, Int.cast_ofNat_Int, beq_self_eq_true, Nat.sub_self, Nat.reduceSub, Nat.reduceAdd, reduceIte]
      by_cases w0 : (0 : Int) < (wd : Int)
      · rw [if_pos (decide_eq_true w0)]
        have sX : ∀ (M : Mm) (P : D → Prop), idxD M (rowsD rs) (.int (i : Int)) P = ∃ d, atI (rs.map rowD) (i : Int) = some d ∧ P d := fun _ _ => rfl
        rw [sX]
        refine ⟨_, at_rows rs hi, ?_⟩
        rw [show rowD rs[i] = .tup [.str (chS rs[i].1), intsD rs[i].2] from rfl]
        simp only [cx_K, nox_K, dRet, dRetN, dAnd, dOr, dNot, dCB, dCons, dVar, dC, dNil, dSeq, dAsg, dgName, dIfS, dNever, dTest, dAndT, dOrT, dNotT, dIf, dBin, dUn, dChain, dstart, dPar, dPar3, dDrop, dFor, dIter, dRng1, dRng2, dNext, dTup, dLst, dCall, dMeth, dProp, dFld, dSetF, dM, dJoined, dJs, dLc, dDc, dSlice, dPart, dNoP, dRetF, dYes, dgSub, dwipe, dEnum, dZip, dTxt, ownD, dMethK, q_plus_int, q_plus_str, q_plus_tup, q_plus_lst, q_fII, q_minus, q_fdiv, q_mod, q_pow, q_mul, q_rep, q_ord_int, q_ord_str, q_len_str, q_len_tup, q_len_lst, q_len_scr, q_len_ref, q_neg, q_fmt_int, q_fmt_str, q_str_int, q_str_str, q_int_int, q_int_bl, q_int_str, q_bool_int, q_bool_bl, q_abs, q_max, q_min, q_divmod, q_ix_tup, q_ix_lst, q_ix_ref, q_ix_scr, q_ix_str, q_sl_tup, q_sl_str, q_sl_lst, q_sl_scr, q_tuple_lst, q_tuple_tup, q_tuple_ref, q_in_dic, q_in_tup, q_in_ref, q_in_lst, q_items_lst, q_items_tup, q_items_scr, q_items_str, q_ins, q_ty_int, q_ty_str, q_ty_tup, q_ty_lst, q_ty_non, q_ty_bl, q_ty_ins, q_all, q_gtup, q_gcons, q_gnil, q_join, q_append, q_count, q_isdigit, q_split, ltD, leD, gtD, geD, isStrD, valN, clsD, List.map_cons, List.map_nil, List.length_cons, List.length_nil, List.replicate_zero, List.replicate_succ, List.cons_append, List.nil_append, List.append_nil, List.getElem?_cons_zero, List.getElem?_cons_succ, List.set_cons_zero, List.set_cons_succ, List.zip_cons_cons, List.zip_nil_left, List.zip_nil_right, List.lookup_cons, List.lookup_nil, Option.some.injEq, exists_eq_left', exists_eq_left, exists_eq', exists_eq, HD.D.bl.injEq, HD.D.int.injEq, HD.D.str.injEq, HD.D.tup.injEq, HD.D.lst.injEq, HD.D.ref.injEq, List.cons.injEq, and_true, true_and, if_true, if_false, Bool.false_eq_true, ite_true, ite_false, Bool.not_true, Bool.not_false, Int.cast_ofNat_Int, beq_self_eq_true, Nat.sub_self, Nat.reduceSub, Nat.reduceAdd, reduceIte]
        have hp := List.getElem_mem hi
        refine ⟨a, wd, g1, st1, n1, rfl, ⟨mput_same, pv1, by omega, by omega⟩, fun r g2 st2 n2 r0 r1 pv2 => ?_⟩
        obtain ⟨t, rfl⟩ : ∃ t : Nat, r = t := ⟨r.toNat, by omega⟩
        refine ⟨rs[i].2, t, wd, rfl, ⟨ok.ok _ hp, by omega, hw⟩, fun r' okr nr => ?_⟩
        refine ⟨by omega, ?_⟩
        simp only [dMake]
        simp only [cx_K, nox_K, dRet, dRetN, dAnd, dOr, dNot, dCB, dCons, dVar, dC, dNil, dSeq, dAsg, dgName, dIfS, dNever, dTest, dAndT, dOrT, dNotT, dIf, dBin, dUn, dChain, dstart, dPar, dPar3, dDrop, dFor, dIter, dRng1, dRng2, dNext, dTup, dLst, dCall, dMeth, dProp, dFld, dSetF, dM, dJoined, dJs, dLc, dDc, dSlice, dPart, dNoP, dRetF, dYes, dgSub, dwipe, dEnum, dZip, dTxt, ownD, dMethK, q_plus_int, q_plus_str, q_plus_tup, q_plus_lst, q_fII, q_minus, q_fdiv, q_mod, q_pow, q_mul, q_rep, q_ord_int, q_ord_str, q_len_str, q_len_tup, q_len_lst, q_len_scr, q_len_ref, q_neg, q_fmt_int, q_fmt_str, q_str_int, q_str_str, q_int_int, q_int_bl, q_int_str, q_bool_int, q_bool_bl, q_abs, q_max, q_min, q_divmod, q_ix_tup, q_ix_lst, q_ix_ref, q_ix_scr, q_ix_str, q_sl_tup, q_sl_str, q_sl_lst, q_sl_scr, q_tuple_lst, q_tuple_tup, q_tuple_ref, q_in_dic, q_in_tup, q_in_ref, q_in_lst, q_items_lst, q_items_tup, q_items_scr, q_items_str, q_ins, q_ty_int, q_ty_str, q_ty_tup, q_ty_lst, q_ty_non, q_ty_bl, q_ty_ins, q_all, q_gtup, q_gcons, q_gnil, q_join, q_append, q_count, q_isdigit, q_split, ltD, leD, gtD, geD, isStrD, valN, clsD, List.map_cons, List.map_nil, List.length_cons, List.length_nil, List.replicate_zero, List.replicate_succ, List.cons_append, List.nil_append, List.append_nil, List.getElem?_cons_zero, List.getElem?_cons_succ, List.set_cons_zero, List.set_cons_succ, List.zip_cons_cons, List.zip_nil_left, List.zip_nil_right, List.lookup_cons, List.lookup_nil, Option.some.injEq, exists_eq_left', exists_eq_left, exists_eq', exists_eq, HD.D.bl.injEq, HD.D.int.injEq, HD.D.str.injEq, HD.D.tup.injEq, HD.D.lst.injEq, HD.D.ref.injEq, List.cons.injEq, and_true, true_and, if_true, if_false, Bool.false_eq_true, ite_true, ite_false, Bool.not_true, Bool.not_false, Int.cast_ofNat_Int, beq_self_eq_true, Nat.sub_self, Nat.reduceSub, Nat.reduceAdd, reduceIte]
        simp only [sA]
        rw [k1, k2]
        simp only [cx_K, nox_K, dRet, dRetN, dAnd, dOr, dNot, dCB, dCons, dVar, dC, dNil, dSeq, dAsg, dgName, dIfS, dNever, dTest, dAndT, dOrT, dNotT, dIf, dBin, dUn, dChain, dstart, dPar, dPar3, dDrop, dFor, dIter, dRng1, dRng2, dNext, dTup, dLst, dCall, dMeth, dProp, dFld, dSetF, dM, dJoined, dJs, dLc, dDc, dSlice, dPart, dNoP, dRetF, dYes, dgSub, dwipe, dEnum, dZip, dTxt, ownD, dMethK, q_plus_int, q_plus_str, q_plus_tup, q_plus_lst, q_fII, q_minus, q_fdiv, q_mod, q_pow, q_mul, q_rep, q_ord_int, q_ord_str, q_len_str, q_len_tup, q_len_lst, q_len_scr, q_len_ref, q_neg, q_fmt_int, q_fmt_str, q_str_int, q_str_str, q_int_int, q_int_bl, q_int_str, q_bool_int, q_bool_bl, q_abs, q_max, q_min, q_divmod, q_ix_tup, q_ix_lst, q_ix_ref, q_ix_scr, q_ix_str, q_sl_tup, q_sl_str, q_sl_lst, q_sl_scr, q_tuple_lst, q_tuple_tup, q_tuple_ref, q_in_dic, q_in_tup, q_in_ref, q_in_lst, q_items_lst, q_items_tup, q_items_scr, q_items_str, q_ins, q_ty_int, q_ty_str, q_ty_tup, q_ty_lst, q_ty_non, q_ty_bl, q_ty_ins, q_all, q_gtup, q_gcons, q_gnil, q_join, q_append, q_count, q_isdigit, q_split, ltD, leD, gtD, geD, isStrD, valN, clsD, List.map_cons, List.map_nil, List.length_cons, List.length_nil, List.replicate_zero, List.replicate_succ, List.cons_append, List.nil_append, List.append_nil, List.getElem?_cons_zero, List.getElem?_cons_succ, List.set_cons_zero, List.set_cons_succ, List.zip_cons_cons, List.zip_nil_left, List.zip_nil_right, List.lookup_cons, List.lookup_nil, Option.some.injEq, exists_eq_left', exists_eq_left, exists_eq', exists_eq, HD.D.bl.injEq, HD.D.int.injEq, HD.D.str.injEq, HD.D.tup.injEq, HD.D.lst.injEq, HD.D.ref.injEq, List.cons.injEq, and_true, true_and, if_true, if_false, Bool.false_eq_true, ite_true, ite_false, Bool.not_true, Bool.not_false, Int.cast_ofNat_Int, beq_self_eq_true, Nat.sub_self, Nat.reduceSub, Nat.reduceAdd, reduceIte]
        refine ⟨by omega, by rw [List.length_map]; omega, by rw [List.length_append, List.length_map, List.length_singleton, List.length_map]; omega, ?_⟩
        have e5 : (rs.take i).map rowD ++ [D.tup [D.str (chS rs[i].1), intsD r']] ++ (rs.drop (i + 1)).map rowD = (rs.take i ++ (rs[i].1, r') :: rs.drop (i + 1)).map rowD := by
          rw [List.map_append, List.map_cons, List.append_assoc]
          rfl
        rw [e5]
        intro x4 hx4
        refine init_ok (wd := wd) (rs := rs.take i ++ (rs[i].1, r') :: rs.drop (i + 1)) hx4 (swap_ok ok hi okr) (by omega) ?_
        rw [mdel_mput hx4]
        refine ⟨by omega, by omega, ?_⟩
        refine hN _ _ ?_
        clear hN N
        refine fin (L2 ++ [planD (gloA "Plan" K) wd (rs.take i ++ (rs[i].1, r') :: rs.drop (i + 1))]) _ _ _ _ _ _ (fun d hd => ?_) (by rw [List.length_append, List.length_singleton]; omega)
        rcases List.mem_append.mp hd with y | y
        · exact o2 d y
        · rw [List.mem_singleton] at y
          subst y
          exact .inr ⟨wd, _, rfl, swap_ok ok hi okr, by omega, fun ⟨_, e⟩ => swap_ne hi nr e⟩
      · rw [if_neg (fun e => w0 (of_decide_eq_true e))]
        refine hN _ _ ?_
        clear hN N
        exact fin L2 _ _ _ _ _ _ o2 (by omega)
theorem cal__law_unlike (F : Fc K mg) : CalD P w K mg base 7 "_law_unlike" (c_unlike (gloA "Plan" K)) [] := by
  obtain ⟨fd, D⟩ := F.d_law_unlike
  refine calD_N D (fn_law_unlike F D) F.g__law_unlike ?_
  exact fun _ _ _ _ _ _ us hl => match us, hl with | [_, _, _, _], _ => rfl
end K02

namespace K02
open PySem PySem.Spec PyProof.Rows L2 HD
variable {P : Program} {w : World} {K : PySem.W.Frag} {mg : Str → Option Value} {base : Heap}
theorem eq_self {C : Addr} {wd : Nat} {rs : Rw} {M : Mm} {P : D → Mm → Prop} (ok : OkRs wd rs) (hw : wd ≤ 10000) (p : P (.bl true) M) : c_eq C [planD C wd rs, planD C wd rs] M P := by
  refine ⟨rs, wd, _, rfl, ⟨ok, hw⟩, .inr ⟨rs, wd, rfl, ok, hw, ?_⟩⟩
  have e : (decide (wd = wd) && decide (rs = rs)) = true := by simp
  rw [e]
  exact p
theorem ty_plan {wd : Nat} {rs : Rw} {M : Mm} (F : Fc K mg) : ∃ t, tyD M (planD (gloA "Plan" K) wd rs) = some t ∧ (∀ C', t = .ref C' → TyI K C') ∧ PySem.W.notFirst K (gloA "Plan" K) t = true := by
  refine ⟨_, rfl, fun C' z => ?_, ?_⟩
  · cases z
    exact F.ti_Plan
  · unfold PySem.W.notFirst
    simp
def c_right : DSp := fun ds M P => ∃ (a : Addr) (g st n : Int), ds = [.ref a] ∧ (M a = some (puL g st n) ∧ Pv g st n) ∧ ∀ M', P (.bl true) M'
theorem sc_law_right : FnScope ["_law_purse_here", "_law_wide", "_law_drawn_here", "_law_mine", "_law_mate"] ["_law_purse_here"] (defScope (top 33)) := ⟨rfl, rfl, rfl, by decide +kernel, rfl, by decide +kernel, by decide +kernel⟩
theorem fn_law_right (F : Fc K mg) {fd : FuncData} (dF : FunD K "_law_right" "_law_right" (defArgs (top 33)) (defBody (top 33)) (defScope (top 33)) [] [] ((gloA "_law_right") K) fd) : FnG P w K mg base 8 ((gloA "_law_right") K) fd ["_law_purse_here"] (spOf K c_right) := by
  have nd := sc_law_right.nd
  refine fnG_D dF sc_law_right (fun ds M R h => ?_) fun cd A outer s H hr => ⟨_, (b_cons (s_asg (j_call (cal__law_drawn F) hr (by decide) (a_cons (jv 0) a_nil)) (g_tup (n := 2) rfl (gs_cons (g_name (i := 1) nd rfl (by first | exact .inl rfl | exact .inr rfl)) (gs_cons (g_name (i := 2) nd rfl (by first | exact .inl rfl | exact .inr rfl)) gs_nil))))
      (b_cons (s_par (i := 3) (j := 4) rfl nd rfl rfl (by decide) rfl rfl (a_cons (j_make (mk_Plan_2 F) hr (by decide) (a_cons (jv 1) (a_cons (jv 2) a_nil))) (a_cons (j_makeK0 (mk_Plan_k_rows_size F) hr (by decide) (k_cons (jv 2) (k_cons (jv 1) k_nil))) a_nil)))
      (b_cons (s_if (JW.jt (w_or (t_not (t_ownK K rfl (s_Plan_eq F) hr (by decide) (jv 3) (jv 4))) (w_or (t_ownNK K rfl (s_Plan_eq F) F.ne_Plan F.ti_Plan.hm hr (by decide) (jv 3) (jv 4)) (w_or1 (t_ownNK K rfl (s_Plan_eq F) F.ne_Plan F.ti_Plan.hm hr (by decide) (j_make (mk_Plan_2 F) hr (by decide) (a_cons (jv 1) (a_cons (j_tup a_nil) a_nil))) (j_makeK0 (mk_Plan_k_size F) hr (by decide) (k_cons (jv 1) k_nil)))))))
      (b_one (s_ret j_bl))
      b_nil)
      (b_cons (s_if (JW.jt (w_or (t_not (jt_val (j_call (cal__law_is F) hr (by decide) (a_cons (jv 3) (a_cons (jv 1) (a_cons (jv 2) a_nil)))))) (w_or1 (t_not (jt_val (j_call (cal__law_unlike F) hr (by decide) (a_cons (jv 0) (a_cons (jv 3) (a_cons (jv 1) (a_cons (jv 2) a_nil))))))))))
      (b_one (s_ret j_bl))
      b_nil)
      (b_one (s_ret (j_and (j_call (cal__law_is F) hr (by decide) (a_cons (j_make (mk_Plan_1 F) hr (by decide) (a_cons (jv 1) a_nil)) (a_cons (jv 1) (a_cons (j_tup a_nil) a_nil)))) (j_and (j_call (cal__law_is F) hr (by decide) (a_cons (jv 4) (a_cons (jv 1) (a_cons (jv 2) a_nil)))) (j_one (j_call (cal__law_is F) hr (by decide) (a_cons (jv 3) (a_cons (jv 1) (a_cons (jv 2) a_nil))))))))))))), ?_⟩
  · obtain ⟨_, _, _, _, rfl, _⟩ := h; rfl
  · intro ds M R h
    obtain ⟨a, g, st, n, rfl, ⟨hm, pv⟩, h⟩ := h
    have sl := sl24
    refine seq_step fun N hN => ?_
    simp only [cx_K, nox_K, dRet, dRetN, dAnd, dOr, dNot, dCB, dCons, dVar, dC, dNil, dSeq, dAsg, dgName, dIfS, dNever, dTest, dAndT, dOrT, dNotT, dIf, dBin, dUn, dChain, dstart, dPar, dPar3, dDrop, dFor, dIter, dRng1, dRng2, dNext, dTup, dLst, dCall, dMeth, dProp, dFld, dSetF, dM, dJoined, dJs, dLc, dDc, dSlice, dPart, dNoP, dRetF, dYes, dgSub, dwipe, dEnum, dZip, dTxt, ownD, dMethK, q_plus_int, q_plus_str, q_plus_tup, q_plus_lst, q_fII, q_minus, q_fdiv, q_mod, q_pow, q_mul, q_rep, q_ord_int, q_ord_str, q_len_str, q_len_tup, q_len_lst, q_len_scr, q_len_ref, q_neg, q_fmt_int, q_fmt_str, q_str_int, q_str_str, q_int_int, q_int_bl, q_int_str, q_bool_int, q_bool_bl, q_abs, q_max, q_min, q_divmod, q_ix_tup, q_ix_lst, q_ix_ref, q_ix_scr, q_ix_str, q_sl_tup, q_sl_str, q_sl_lst, q_sl_scr, q_tuple_lst, q_tuple_tup, q_tuple_ref, q_in_dic, q_in_tup, q_in_ref, q_in_lst, q_items_lst, q_items_tup, q_items_scr, q_items_str, q_ins, q_ty_int, q_ty_str, q_ty_tup, q_ty_lst, q_ty_non, q_ty_bl, q_ty_ins, q_all, q_gtup, q_gcons, q_gnil, q_join, q_append, q_count, q_isdigit, q_split, ltD, leD, gtD, geD, isStrD, valN, clsD, List.map_cons, List.map_nil, List.length_cons, List.length_nil, List.replicate_zero, List.replicate_succ, List.cons_append, List.nil_append, List.append_nil, List.getElem?_cons_zero, List.getElem?_cons_succ, List.set_cons_zero, List.set_cons_succ, List.zip_cons_cons, List.zip_nil_left, List.zip_nil_right, List.lookup_cons, List.lookup_nil, Option.some.injEq, exists_eq_left', exists_eq_left, exists_eq', exists_eq, HD.D.bl.injEq, HD.D.int.injEq, HD.D.str.injEq, HD.D.tup.injEq, HD.D.lst.injEq, HD.D.ref.injEq, List.cons.injEq, and_true, true_and, if_true, if_false, Bool.false_eq_true, ite_true, ite_false, Bool.not_true, Bool.not_false, Int.cast_ofNat_Int, beq_self_eq_true, Nat.sub_self, Nat.reduceSub, Nat.reduceAdd, reduceIte]
    refine ⟨a, g, st, n, rfl, ⟨hm, pv⟩, fun wd rs g1 st1 n1 hw ok pv1 => ?_⟩
    simp only [cx_K, nox_K, dRet, dRetN, dAnd, dOr, dNot, dCB, dCons, dVar, dC, dNil, dSeq, dAsg, dgName, dIfS, dNever, dTest, dAndT, dOrT, dNotT, dIf, dBin, dUn, dChain, dstart, dPar, dPar3, dDrop, dFor, dIter, dRng1, dRng2, dNext, dTup, dLst, dCall, dMeth, dProp, dFld, dSetF, dM, dJoined, dJs, dLc, dDc, dSlice, dPart, dNoP, dRetF, dYes, dgSub, dwipe, dEnum, dZip, dTxt, ownD, dMethK, q_plus_int, q_plus_str, q_plus_tup, q_plus_lst, q_fII, q_minus, q_fdiv, q_mod, q_pow, q_mul, q_rep, q_ord_int, q_ord_str, q_len_str, q_len_tup, q_len_lst, q_len_scr, q_len_ref, q_neg, q_fmt_int, q_fmt_str, q_str_int, q_str_str, q_int_int, q_int_bl, q_int_str, q_bool_int, q_bool_bl, q_abs, q_max, q_min, q_divmod, q_ix_tup, q_ix_lst, q_ix_ref, q_ix_scr, q_ix_str, q_sl_tup, q_sl_str, q_sl_lst, q_sl_scr, q_tuple_lst, q_tuple_tup, q_tuple_ref, q_in_dic, q_in_tup, q_in_ref, q_in_lst, q_items_lst, q_items_tup, q_items_scr, q_items_str, q_ins, q_ty_int, q_ty_str, q_ty_tup, q_ty_lst, q_ty_non, q_ty_bl, q_ty_ins, q_all, q_gtup, q_gcons, q_gnil, q_join, q_append, q_count, q_isdigit, q_split, ltD, leD, gtD, geD, isStrD, valN, clsD, List.map_cons, List.map_nil, List.length_cons, List.length_nil, List.replicate_zero, List.replicate_succ, List.cons_append, List.nil_append, List.append_nil, List.getElem?_cons_zero, List.getElem?_cons_succ, List.set_cons_zero, List.set_cons_succ, List.zip_cons_cons, List.zip_nil_left, List.zip_nil_right, List.lookup_cons, List.lookup_nil, Option.some.injEq, exists_eq_left', exists_eq_left, exists_eq', exists_eq, HD.D.bl.injEq, HD.D.int.injEq, HD.D.str.injEq, HD.D.tup.injEq, HD.D.lst.injEq, HD.D.ref.injEq, List.cons.injEq, and_true, true_and, if_true, if_false, Bool.false_eq_true, ite_true, ite_false, Bool.not_true, Bool.not_false, Int.cast_ofNat_Int, beq_self_eq_true, Nat.sub_self, Nat.reduceSub, Nat.reduceAdd, reduceIte]
    have ip : ∀ (M : Mm) (rs : Rw), insD M (gloA "Plan" K) (planD (gloA "Plan" K) wd rs) = some ((["length", "pairs"] : List Str), [.int (wd : Int), rowsD rs]) := fun M rs => if_pos rfl
    have pl : ∀ rs : Rw, D.ins (gloA "Plan" K) ["length", "pairs"] [.int (wd : Int), rowsD rs] = planD (gloA "Plan" K) wd rs := fun _ => rfl
    refine hN _ _ ?_
    clear hN N
    refine seq_step fun N hN => ?_
    simp only [cx_K, nox_K, dRet, dRetN, dAnd, dOr, dNot, dCB, dCons, dVar, dC, dNil, dSeq, dAsg, dgName, dIfS, dNever, dTest, dAndT, dOrT, dNotT, dIf, dBin, dUn, dChain, dstart, dPar, dPar3, dDrop, dFor, dIter, dRng1, dRng2, dNext, dTup, dLst, dCall, dMeth, dProp, dFld, dSetF, dM, dJoined, dJs, dLc, dDc, dSlice, dPart, dNoP, dRetF, dYes, dgSub, dwipe, dEnum, dZip, dTxt, ownD, dMethK, q_plus_int, q_plus_str, q_plus_tup, q_plus_lst, q_fII, q_minus, q_fdiv, q_mod, q_pow, q_mul, q_rep, q_ord_int, q_ord_str, q_len_str, q_len_tup, q_len_lst, q_len_scr, q_len_ref, q_neg, q_fmt_int, q_fmt_str, q_str_int, q_str_str, q_int_int, q_int_bl, q_int_str, q_bool_int, q_bool_bl, q_abs, q_max, q_min, q_divmod, q_ix_tup, q_ix_lst, q_ix_ref, q_ix_scr, q_ix_str, q_sl_tup, q_sl_str, q_sl_lst, q_sl_scr, q_tuple_lst, q_tuple_tup, q_tuple_ref, q_in_dic, q_in_tup, q_in_ref, q_in_lst, q_items_lst, q_items_tup, q_items_scr, q_items_str, q_ins, q_ty_int, q_ty_str, q_ty_tup, q_ty_lst, q_ty_non, q_ty_bl, q_ty_ins, q_all, q_gtup, q_gcons, q_gnil, q_join, q_append, q_count, q_isdigit, q_split, ltD, leD, gtD, geD, isStrD, valN, clsD, List.map_cons, List.map_nil, List.length_cons, List.length_nil, List.replicate_zero, List.replicate_succ, List.cons_append, List.nil_append, List.append_nil, List.getElem?_cons_zero, List.getElem?_cons_succ, List.set_cons_zero, List.set_cons_succ, List.zip_cons_cons, List.zip_nil_left, List.zip_nil_right, List.lookup_cons, List.lookup_nil, Option.some.injEq, exists_eq_left', exists_eq_left, exists_eq', exists_eq, HD.D.bl.injEq, HD.D.int.injEq, HD.D.str.injEq, HD.D.tup.injEq, HD.D.lst.injEq, HD.D.ref.injEq, List.cons.injEq, and_true, true_and, if_true, if_false, Bool.false_eq_true, ite_true, ite_false, Bool.not_true, Bool.not_false, Int.cast_ofNat_Int, beq_self_eq_true, Nat.sub_self, Nat.reduceSub, Nat.reduceAdd, reduceIte]
    simp only [dMake, dMakeK]
    simp only [cx_K, nox_K, dRet, dRetN, dAnd, dOr, dNot, dCB, dCons, dVar, dC, dNil, dSeq, dAsg, dgName, dIfS, dNever, dTest, dAndT, dOrT, dNotT, dIf, dBin, dUn, dChain, dstart, dPar, dPar3, dDrop, dFor, dIter, dRng1, dRng2, dNext, dTup, dLst, dCall, dMeth, dProp, dFld, dSetF, dM, dJoined, dJs, dLc, dDc, dSlice, dPart, dNoP, dRetF, dYes, dgSub, dwipe, dEnum, dZip, dTxt, ownD, dMethK, q_plus_int, q_plus_str, q_plus_tup, q_plus_lst, q_fII, q_minus, q_fdiv, q_mod, q_pow, q_mul, q_rep, q_ord_int, q_ord_str, q_len_str, q_len_tup, q_len_lst, q_len_scr, q_len_ref, q_neg, q_fmt_int, q_fmt_str, q_str_int, q_str_str, q_int_int, q_int_bl, q_int_str, q_bool_int, q_bool_bl, q_abs, q_max, q_min, q_divmod, q_ix_tup, q_ix_lst, q_ix_ref, q_ix_scr, q_ix_str, q_sl_tup, q_sl_str, q_sl_lst, q_sl_scr, q_tuple_lst, q_tuple_tup, q_tuple_ref, q_in_dic, q_in_tup, q_in_ref, q_in_lst, q_items_lst, q_items_tup, q_items_scr, q_items_str, q_ins, q_ty_int, q_ty_str, q_ty_tup, q_ty_lst, q_ty_non, q_ty_bl, q_ty_ins, q_all, q_gtup, q_gcons, q_gnil, q_join, q_append, q_count, q_isdigit, q_split, ltD, leD, gtD, geD, isStrD, valN, clsD, List.map_cons, List.map_nil, List.length_cons, List.length_nil, List.replicate_zero, List.replicate_succ, List.cons_append, List.nil_append, List.append_nil, List.getElem?_cons_zero, List.getElem?_cons_succ, List.set_cons_zero, List.set_cons_succ, List.zip_cons_cons, List.zip_nil_left, List.zip_nil_right, List.lookup_cons, List.lookup_nil, Option.some.injEq, exists_eq_left', exists_eq_left, exists_eq', exists_eq, HD.D.bl.injEq, HD.D.int.injEq, HD.D.str.injEq, HD.D.tup.injEq, HD.D.lst.injEq, HD.D.ref.injEq, List.cons.injEq, and_true, true_and, if_true, if_false, Bool.false_eq_true, ite_true, ite_false, Bool.not_true, Bool.not_false, Int.cast_ofNat_Int, beq_self_eq_true, Nat.sub_self, Nat.reduceSub, Nat.reduceAdd, reduceIte]
    intro x1 hx1
    refine init_ok (wd := wd) (rs := rs) hx1 ok (by omega) ?_
    rw [mdel_mput hx1, pl]
    intro x2 hx2
    refine init_ok (wd := wd) (rs := rs) hx2 ok (by omega) ?_
    rw [mdel_mput hx2, pl]
    refine ⟨_, _, ⟨rfl, rfl⟩, ?_⟩
    refine hN _ _ ?_
    clear hN N
    refine seq_step fun N hN => ?_
    simp only [cx_K, nox_K, dRet, dRetN, dAnd, dOr, dNot, dCB, dCons, dVar, dC, dNil, dSeq, dAsg, dgName, dIfS, dNever, dTest, dAndT, dOrT, dNotT, dIf, dBin, dUn, dChain, dstart, dPar, dPar3, dDrop, dFor, dIter, dRng1, dRng2, dNext, dTup, dLst, dCall, dMeth, dProp, dFld, dSetF, dM, dJoined, dJs, dLc, dDc, dSlice, dPart, dNoP, dRetF, dYes, dgSub, dwipe, dEnum, dZip, dTxt, ownD, dMethK, q_plus_int, q_plus_str, q_plus_tup, q_plus_lst, q_fII, q_minus, q_fdiv, q_mod, q_pow, q_mul, q_rep, q_ord_int, q_ord_str, q_len_str, q_len_tup, q_len_lst, q_len_scr, q_len_ref, q_neg, q_fmt_int, q_fmt_str, q_str_int, q_str_str, q_int_int, q_int_bl, q_int_str, q_bool_int, q_bool_bl, q_abs, q_max, q_min, q_divmod, q_ix_tup, q_ix_lst, q_ix_ref, q_ix_scr, q_ix_str, q_sl_tup, q_sl_str, q_sl_lst, q_sl_scr, q_tuple_lst, q_tuple_tup, q_tuple_ref, q_in_dic, q_in_tup, q_in_ref, q_in_lst, q_items_lst, q_items_tup, q_items_scr, q_items_str, q_ins, q_ty_int, q_ty_str, q_ty_tup, q_ty_lst, q_ty_non, q_ty_bl, q_ty_ins, q_all, q_gtup, q_gcons, q_gnil, q_join, q_append, q_count, q_isdigit, q_split, ltD, leD, gtD, geD, isStrD, valN, clsD, List.map_cons, List.map_nil, List.length_cons, List.length_nil, List.replicate_zero, List.replicate_succ, List.cons_append, List.nil_append, List.append_nil, List.getElem?_cons_zero, List.getElem?_cons_succ, List.set_cons_zero, List.set_cons_succ, List.zip_cons_cons, List.zip_nil_left, List.zip_nil_right, List.lookup_cons, List.lookup_nil, Option.some.injEq, exists_eq_left', exists_eq_left, exists_eq', exists_eq, HD.D.bl.injEq, HD.D.int.injEq, HD.D.str.injEq, HD.D.tup.injEq, HD.D.lst.injEq, HD.D.ref.injEq, List.cons.injEq, and_true, true_and, if_true, if_false, Bool.false_eq_true, ite_true, ite_false, Bool.not_true, Bool.not_false, Int.cast_ofNat_Int, beq_self_eq_true, Nat.sub_self, Nat.reduceSub, Nat.reduceAdd, reduceIte]
    simp only [dMake, dMakeK]
    simp only [cx_K, nox_K, dRet, dRetN, dAnd, dOr, dNot, dCB, dCons, dVar, dC, dNil, dSeq, dAsg, dgName, dIfS, dNever, dTest, dAndT, dOrT, dNotT, dIf, dBin, dUn, dChain, dstart, dPar, dPar3, dDrop, dFor, dIter, dRng1, dRng2, dNext, dTup, dLst, dCall, dMeth, dProp, dFld, dSetF, dM, dJoined, dJs, dLc, dDc, dSlice, dPart, dNoP, dRetF, dYes, dgSub, dwipe, dEnum, dZip, dTxt, ownD, dMethK, q_plus_int, q_plus_str, q_plus_tup, q_plus_lst, q_fII, q_minus, q_fdiv, q_mod, q_pow, q_mul, q_rep, q_ord_int, q_ord_str, q_len_str, q_len_tup, q_len_lst, q_len_scr, q_len_ref, q_neg, q_fmt_int, q_fmt_str, q_str_int, q_str_str, q_int_int, q_int_bl, q_int_str, q_bool_int, q_bool_bl, q_abs, q_max, q_min, q_divmod, q_ix_tup, q_ix_lst, q_ix_ref, q_ix_scr, q_ix_str, q_sl_tup, q_sl_str, q_sl_lst, q_sl_scr, q_tuple_lst, q_tuple_tup, q_tuple_ref, q_in_dic, q_in_tup, q_in_ref, q_in_lst, q_items_lst, q_items_tup, q_items_scr, q_items_str, q_ins, q_ty_int, q_ty_str, q_ty_tup, q_ty_lst, q_ty_non, q_ty_bl, q_ty_ins, q_all, q_gtup, q_gcons, q_gnil, q_join, q_append, q_count, q_isdigit, q_split, ltD, leD, gtD, geD, isStrD, valN, clsD, List.map_cons, List.map_nil, List.length_cons, List.length_nil, List.replicate_zero, List.replicate_succ, List.cons_append, List.nil_append, List.append_nil, List.getElem?_cons_zero, List.getElem?_cons_succ, List.set_cons_zero, List.set_cons_succ, List.zip_cons_cons, List.zip_nil_left, List.zip_nil_right, List.lookup_cons, List.lookup_nil, Option.some.injEq, exists_eq_left', exists_eq_left, exists_eq', exists_eq, HD.D.bl.injEq, HD.D.int.injEq, HD.D.str.injEq, HD.D.tup.injEq, HD.D.lst.injEq, HD.D.ref.injEq, List.cons.injEq, and_true, true_and, if_true, if_false, Bool.false_eq_true, ite_true, ite_false, Bool.not_true, Bool.not_false, Int.cast_ofNat_Int, beq_self_eq_true, Nat.sub_self, Nat.reduceSub, Nat.reduceAdd, reduceIte]
    obtain ⟨t1, q1, q2, q3⟩ := ty_plan (wd := wd) (rs := rs) (M := mput M a (puL g1 st1 n1)) F
    refine ⟨_, _, t1, ip _ rs, q1, q2, q3, eq_self ok (by omega) ⟨true, rfl, ?_⟩⟩
    simp only [cx_K, nox_K, dRet, dRetN, dAnd, dOr, dNot, dCB, dCons, dVar, dC, dNil, dSeq, dAsg, dgName, dIfS, dNever, dTest, dAndT, dOrT, dNotT, dIf, dBin, dUn, dChain, dstart, dPar, dPar3, dDrop, dFor, dIter, dRng1, dRng2, dNext, dTup, dLst, dCall, dMeth, dProp, dFld, dSetF, dM, dJoined, dJs, dLc, dDc, dSlice, dPart, dNoP, dRetF, dYes, dgSub, dwipe, dEnum, dZip, dTxt, ownD, dMethK, q_plus_int, q_plus_str, q_plus_tup, q_plus_lst, q_fII, q_minus, q_fdiv, q_mod, q_pow, q_mul, q_rep, q_ord_int, q_ord_str, q_len_str, q_len_tup, q_len_lst, q_len_scr, q_len_ref, q_neg, q_fmt_int, q_fmt_str, q_str_int, q_str_str, q_int_int, q_int_bl, q_int_str, q_bool_int, q_bool_bl, q_abs, q_max, q_min, q_divmod, q_ix_tup, q_ix_lst, q_ix_ref, q_ix_scr, q_ix_str, q_sl_tup, q_sl_str, q_sl_lst, q_sl_scr, q_tuple_lst, q_tuple_tup, q_tuple_ref, q_in_dic, q_in_tup, q_in_ref, q_in_lst, q_items_lst, q_items_tup, q_items_scr, q_items_str, q_ins, q_ty_int, q_ty_str, q_ty_tup, q_ty_lst, q_ty_non, q_ty_bl, q_ty_ins, q_all, q_gtup, q_gcons, q_gnil, q_join, q_append, q_count, q_isdigit, q_split, ltD, leD, gtD, geD, isStrD, valN, clsD, List.map_cons, List.map_nil, List.length_cons, List.length_nil, List.replicate_zero, List.replicate_succ, List.cons_append, List.nil_append, List.append_nil, List.getElem?_cons_zero, List.getElem?_cons_succ, List.set_cons_zero, List.set_cons_succ, List.zip_cons_cons, List.zip_nil_left, List.zip_nil_right, List.lookup_cons, List.lookup_nil, Option.some.injEq, exists_eq_left', exists_eq_left, exists_eq', exists_eq, HD.D.bl.injEq, HD.D.int.injEq, HD.D.str.injEq, HD.D.tup.injEq, HD.D.lst.injEq, HD.D.ref.injEq, List.cons.injEq, and_true, true_and, if_true, if_false, Bool.false_eq_true, ite_true, ite_false, Bool.not_true, Bool.not_false, Int.cast_ofNat_Int, beq_self_eq_true, Nat.sub_self, Nat.reduceSub, Nat.reduceAdd, reduceIte]
    refine ⟨_, _, t1, ip _ rs, q1, q2, q3, eq_self ok (by omega) ⟨true, rfl, ?_⟩⟩
    simp only [cx_K, nox_K, dRet, dRetN, dAnd, dOr, dNot, dCB, dCons, dVar, dC, dNil, dSeq, dAsg, dgName, dIfS, dNever, dTest, dAndT, dOrT, dNotT, dIf, dBin, dUn, dChain, dstart, dPar, dPar3, dDrop, dFor, dIter, dRng1, dRng2, dNext, dTup, dLst, dCall, dMeth, dProp, dFld, dSetF, dM, dJoined, dJs, dLc, dDc, dSlice, dPart, dNoP, dRetF, dYes, dgSub, dwipe, dEnum, dZip, dTxt, ownD, dMethK, q_plus_int, q_plus_str, q_plus_tup, q_plus_lst, q_fII, q_minus, q_fdiv, q_mod, q_pow, q_mul, q_rep, q_ord_int, q_ord_str, q_len_str, q_len_tup, q_len_lst, q_len_scr, q_len_ref, q_neg, q_fmt_int, q_fmt_str, q_str_int, q_str_str, q_int_int, q_int_bl, q_int_str, q_bool_int, q_bool_bl, q_abs, q_max, q_min, q_divmod, q_ix_tup, q_ix_lst, q_ix_ref, q_ix_scr, q_ix_str, q_sl_tup, q_sl_str, q_sl_lst, q_sl_scr, q_tuple_lst, q_tuple_tup, q_tuple_ref, q_in_dic, q_in_tup, q_in_ref, q_in_lst, q_items_lst, q_items_tup, q_items_scr, q_items_str, q_ins, q_ty_int, q_ty_str, q_ty_tup, q_ty_lst, q_ty_non, q_ty_bl, q_ty_ins, q_all, q_gtup, q_gcons, q_gnil, q_join, q_append, q_count, q_isdigit, q_split, ltD, leD, gtD, geD, isStrD, valN, clsD, List.map_cons, List.map_nil, List.length_cons, List.length_nil, List.replicate_zero, List.replicate_succ, List.cons_append, List.nil_append, List.append_nil, List.getElem?_cons_zero, List.getElem?_cons_succ, List.set_cons_zero, List.set_cons_succ, List.zip_cons_cons, List.zip_nil_left, List.zip_nil_right, List.lookup_cons, List.lookup_nil, Option.some.injEq, exists_eq_left', exists_eq_left, exists_eq', exists_eq, HD.D.bl.injEq, HD.D.int.injEq, HD.D.str.injEq, HD.D.tup.injEq, HD.D.lst.injEq, HD.D.ref.injEq, List.cons.injEq, and_true, true_and, if_true, if_false, Bool.false_eq_true, ite_true, ite_false, Bool.not_true, Bool.not_false, Int.cast_ofNat_Int, beq_self_eq_true, Nat.sub_self, Nat.reduceSub, Nat.reduceAdd, reduceIte]
    refine ⟨by omega, fun x3 hx3 => ?_⟩
    refine init_ok (wd := wd) (rs := []) hx3 (OkRs.nil _) (by omega) ?_
    rw [mdel_mput hx3]
    intro x4 hx4
    refine init_ok (wd := wd) (rs := []) hx4 (OkRs.nil _) (by omega) ?_
    rw [mdel_mput hx4, pl]
    have q5' : ∀ C', Value.ref (gloA "Plan" K) = .ref C' → TyI K C' := fun C' z => by cases z; exact F.ti_Plan
    have q6' : PySem.W.notFirst K (gloA "Plan" K) (.ref (gloA "Plan" K)) = true := by unfold PySem.W.notFirst; simp
    refine ⟨_, _, _, rfl, rfl, q5', q6', eq_self (OkRs.nil wd) (by omega) ⟨true, rfl, ?_⟩⟩
    simp only [cx_K, nox_K, dRet, dRetN, dAnd, dOr, dNot, dCB, dCons, dVar, dC, dNil, dSeq, dAsg, dgName, dIfS, dNever, dTest, dAndT, dOrT, dNotT, dIf, dBin, dUn, dChain, dstart, dPar, dPar3, dDrop, dFor, dIter, dRng1, dRng2, dNext, dTup, dLst, dCall, dMeth, dProp, dFld, dSetF, dM, dJoined, dJs, dLc, dDc, dSlice, dPart, dNoP, dRetF, dYes, dgSub, dwipe, dEnum, dZip, dTxt, ownD, dMethK, q_plus_int, q_plus_str, q_plus_tup, q_plus_lst, q_fII, q_minus, q_fdiv, q_mod, q_pow, q_mul, q_rep, q_ord_int, q_ord_str, q_len_str, q_len_tup, q_len_lst, q_len_scr, q_len_ref, q_neg, q_fmt_int, q_fmt_str, q_str_int, q_str_str, q_int_int, q_int_bl, q_int_str, q_bool_int, q_bool_bl, q_abs, q_max, q_min, q_divmod, q_ix_tup, q_ix_lst, q_ix_ref, q_ix_scr, q_ix_str, q_sl_tup, q_sl_str, q_sl_lst, q_sl_scr, q_tuple_lst, q_tuple_tup, q_tuple_ref, q_in_dic, q_in_tup, q_in_ref, q_in_lst, q_items_lst, q_items_tup, q_items_scr, q_items_str, q_ins, q_ty_int, q_ty_str, q_ty_tup, q_ty_lst, q_ty_non, q_ty_bl, q_ty_ins, q_all, q_gtup, q_gcons, q_gnil, q_join, q_append, q_count, q_isdigit, q_split, ltD, leD, gtD, geD, isStrD, valN, clsD, List.map_cons, List.map_nil, List.length_cons, List.length_nil, List.replicate_zero, List.replicate_succ, List.cons_append, List.nil_append, List.append_nil, List.getElem?_cons_zero, List.getElem?_cons_succ, List.set_cons_zero, List.set_cons_succ, List.zip_cons_cons, List.zip_nil_left, List.zip_nil_right, List.lookup_cons, List.lookup_nil, Option.some.injEq, exists_eq_left', exists_eq_left, exists_eq', exists_eq, HD.D.bl.injEq, HD.D.int.injEq, HD.D.str.injEq, HD.D.tup.injEq, HD.D.lst.injEq, HD.D.ref.injEq, List.cons.injEq, and_true, true_and, if_true, if_false, Bool.false_eq_true, ite_true, ite_false, Bool.not_true, Bool.not_false, Int.cast_ofNat_Int, beq_self_eq_true, Nat.sub_self, Nat.reduceSub, Nat.reduceAdd, reduceIte]
    refine hN _ _ ?_
    clear hN N
    refine seq_step fun N hN => ?_
    simp only [cx_K, nox_K, dRet, dRetN, dAnd, dOr, dNot, dCB, dCons, dVar, dC, dNil, dSeq, dAsg, dgName, dIfS, dNever, dTest, dAndT, dOrT, dNotT, dIf, dBin, dUn, dChain, dstart, dPar, dPar3, dDrop, dFor, dIter, dRng1, dRng2, dNext, dTup, dLst, dCall, dMeth, dProp, dFld, dSetF, dM, dJoined, dJs, dLc, dDc, dSlice, dPart, dNoP, dRetF, dYes, dgSub, dwipe, dEnum, dZip, dTxt, ownD, dMethK, q_plus_int, q_plus_str, q_plus_tup, q_plus_lst, q_fII, q_minus, q_fdiv, q_mod, q_pow, q_mul, q_rep, q_ord_int, q_ord_str, q_len_str, q_len_tup, q_len_lst, q_len_scr, q_len_ref, q_neg, q_fmt_int, q_fmt_str, q_str_int, q_str_str, q_int_int, q_int_bl, q_int_str, q_bool_int, q_bool_bl, q_abs, q_max, q_min, q_divmod, q_ix_tup, q_ix_lst, q_ix_ref, q_ix_scr, q_ix_str, q_sl_tup, q_sl_str, q_sl_lst, q_sl_scr, q_tuple_lst, q_tuple_tup, q_tuple_ref, q_in_dic, q_in_tup, q_in_ref, q_in_lst, q_items_lst, q_items_tup, q_items_scr, q_items_str, q_ins, q_ty_int, q_ty_str, q_ty_tup, q_ty_lst, q_ty_non, q_ty_bl, q_ty_ins, q_all, q_gtup, q_gcons, q_gnil, q_join, q_append, q_count, q_isdigit, q_split, ltD, leD, gtD, geD, isStrD, valN, clsD, List.map_cons, List.map_nil, List.length_cons, List.length_nil, List.replicate_zero, List.replicate_succ, List.cons_append, List.nil_append, List.append_nil, List.getElem?_cons_zero, List.getElem?_cons_succ, List.set_cons_zero, List.set_cons_succ, List.zip_cons_cons, List.zip_nil_left, List.zip_nil_right, List.lookup_cons, List.lookup_nil, Option.some.injEq, exists_eq_left', exists_eq_left, exists_eq', exists_eq, HD.D.bl.injEq, HD.D.int.injEq, HD.D.str.injEq, HD.D.tup.injEq, HD.D.lst.injEq, HD.D.ref.injEq, List.cons.injEq, and_true, true_and, if_true, if_false, Bool.false_eq_true, ite_true, ite_false, Bool.not_true, Bool.not_false, Int.cast_ofNat_Int, beq_self_eq_true, Nat.sub_self, Nat.reduceSub, Nat.reduceAdd, reduceIte]
    refine ⟨rs, wd, rfl, ⟨ok, hw⟩, ?_⟩
    simp only [cx_K, nox_K, dRet, dRetN, dAnd, dOr, dNot, dCB, dCons, dVar, dC, dNil, dSeq, dAsg, dgName, dIfS, dNever, dTest, dAndT, dOrT, dNotT, dIf, dBin, dUn, dChain, dstart, dPar, dPar3, dDrop, dFor, dIter, dRng1, dRng2, dNext, dTup, dLst, dCall, dMeth, dProp, dFld, dSetF, dM, dJoined, dJs, dLc, dDc, dSlice, dPart, dNoP, dRetF, dYes, dgSub, dwipe, dEnum, dZip, dTxt, ownD, dMethK, q_plus_int, q_plus_str, q_plus_tup, q_plus_lst, q_fII, q_minus, q_fdiv, q_mod, q_pow, q_mul, q_rep, q_ord_int, q_ord_str, q_len_str, q_len_tup, q_len_lst, q_len_scr, q_len_ref, q_neg, q_fmt_int, q_fmt_str, q_str_int, q_str_str, q_int_int, q_int_bl, q_int_str, q_bool_int, q_bool_bl, q_abs, q_max, q_min, q_divmod, q_ix_tup, q_ix_lst, q_ix_ref, q_ix_scr, q_ix_str, q_sl_tup, q_sl_str, q_sl_lst, q_sl_scr, q_tuple_lst, q_tuple_tup, q_tuple_ref, q_in_dic, q_in_tup, q_in_ref, q_in_lst, q_items_lst, q_items_tup, q_items_scr, q_items_str, q_ins, q_ty_int, q_ty_str, q_ty_tup, q_ty_lst, q_ty_non, q_ty_bl, q_ty_ins, q_all, q_gtup, q_gcons, q_gnil, q_join, q_append, q_count, q_isdigit, q_split, ltD, leD, gtD, geD, isStrD, valN, clsD, List.map_cons, List.map_nil, List.length_cons, List.length_nil, List.replicate_zero, List.replicate_succ, List.cons_append, List.nil_append, List.append_nil, List.getElem?_cons_zero, List.getElem?_cons_succ, List.set_cons_zero, List.set_cons_succ, List.zip_cons_cons, List.zip_nil_left, List.zip_nil_right, List.lookup_cons, List.lookup_nil, Option.some.injEq, exists_eq_left', exists_eq_left, exists_eq', exists_eq, HD.D.bl.injEq, HD.D.int.injEq, HD.D.str.injEq, HD.D.tup.injEq, HD.D.lst.injEq, HD.D.ref.injEq, List.cons.injEq, and_true, true_and, if_true, if_false, Bool.false_eq_true, ite_true, ite_false, Bool.not_true, Bool.not_false, Int.cast_ofNat_Int, beq_self_eq_true, Nat.sub_self, Nat.reduceSub, Nat.reduceAdd, reduceIte]
    refine ⟨a, rs, wd, g1, st1, n1, rfl, ⟨mput_same, pv1, ok, hw⟩, fun M2 => ?_⟩
    simp only [cx_K, nox_K, dRet, dRetN, dAnd, dOr, dNot, dCB, dCons, dVar, dC, dNil, dSeq, dAsg, dgName, dIfS, dNever, dTest, dAndT, dOrT, dNotT, dIf, dBin, dUn, dChain, dstart, dPar, dPar3, dDrop, dFor, dIter, dRng1, dRng2, dNext, dTup, dLst, dCall, dMeth, dProp, dFld, dSetF, dM, dJoined, dJs, dLc, dDc, dSlice, dPart, dNoP, dRetF, dYes, dgSub, dwipe, dEnum, dZip, dTxt, ownD, dMethK, q_plus_int, q_plus_str, q_plus_tup, q_plus_lst, q_fII, q_minus, q_fdiv, q_mod, q_pow, q_mul, q_rep, q_ord_int, q_ord_str, q_len_str, q_len_tup, q_len_lst, q_len_scr, q_len_ref, q_neg, q_fmt_int, q_fmt_str, q_str_int, q_str_str, q_int_int, q_int_bl, q_int_str, q_bool_int, q_bool_bl, q_abs, q_max, q_min, q_divmod, q_ix_tup, q_ix_lst, q_ix_ref, q_ix_scr, q_ix_str, q_sl_tup, q_sl_str, q_sl_lst, q_sl_scr, q_tuple_lst, q_tuple_tup, q_tuple_ref, q_in_dic, q_in_tup, q_in_ref, q_in_lst, q_items_lst, q_items_tup, q_items_scr, q_items_str, q_ins, q_ty_int, q_ty_str, q_ty_tup, q_ty_lst, q_ty_non, q_ty_bl, q_ty_ins, q_all, q_gtup, q_gcons, q_gnil, q_join, q_append, q_count, q_isdigit, q_split, ltD, leD, gtD, geD, isStrD, valN, clsD, List.map_cons, List.map_nil, List.length_cons, List.length_nil, List.replicate_zero, List.replicate_succ, List.cons_append, List.nil_append, List.append_nil, List.getElem?_cons_zero, List.getElem?_cons_succ, List.set_cons_zero, List.set_cons_succ, List.zip_cons_cons, List.zip_nil_left, List.zip_nil_right, List.lookup_cons, List.lookup_nil, Option.some.injEq, exists_eq_left', exists_eq_left, exists_eq', exists_eq, HD.D.bl.injEq, HD.D.int.injEq, HD.D.str.injEq, HD.D.tup.injEq, HD.D.lst.injEq, HD.D.ref.injEq, List.cons.injEq, and_true, true_and, if_true, if_false, Bool.false_eq_true, ite_true, ite_false, Bool.not_true, Bool.not_false, Int.cast_ofNat_Int, beq_self_eq_true, Nat.sub_self, Nat.reduceSub, Nat.reduceAdd, reduceIte]
    refine hN _ _ ?_
    clear hN N
    simp only [cx_K, nox_K, dRet, dRetN, dAnd, dOr, dNot, dCB, dCons, dVar, dC, dNil, dSeq, dAsg, dgName, dIfS, dNever, dTest, dAndT, dOrT, dNotT, dIf, dBin, dUn, dChain, dstart, dPar, dPar3, dDrop, dFor, dIter, dRng1, dRng2, dNext, dTup, dLst, dCall, dMeth, dProp, dFld, dSetF, dM, dJoined, dJs, dLc, dDc, dSlice, dPart, dNoP, dRetF, dYes, dgSub, dwipe, dEnum, dZip, dTxt, ownD, dMethK, q_plus_int, q_plus_str, q_plus_tup, q_plus_lst, q_fII, q_minus, q_fdiv, q_mod, q_pow, q_mul, q_rep, q_ord_int, q_ord_str, q_len_str, q_len_tup, q_len_lst, q_len_scr, q_len_ref, q_neg, q_fmt_int, q_fmt_str, q_str_int, q_str_str, q_int_int, q_int_bl, q_int_str, q_bool_int, q_bool_bl, q_abs, q_max, q_min, q_divmod, q_ix_tup, q_ix_lst, q_ix_ref, q_ix_scr, q_ix_str, q_sl_tup, q_sl_str, q_sl_lst, q_sl_scr, q_tuple_lst, q_tuple_tup, q_tuple_ref, q_in_dic, q_in_tup, q_in_ref, q_in_lst, q_items_lst, q_items_tup, q_items_scr, q_items_str, q_ins, q_ty_int, q_ty_str, q_ty_tup, q_ty_lst, q_ty_non, q_ty_bl, q_ty_ins, q_all, q_gtup, q_gcons, q_gnil, q_join, q_append, q_count, q_isdigit, q_split, ltD, leD, gtD, geD, isStrD, valN, clsD, List.map_cons, List.map_nil, List.length_cons, List.length_nil, List.replicate_zero, List.replicate_succ, List.cons_append, List.nil_append, List.append_nil, List.getElem?_cons_zero, List.getElem?_cons_succ, List.set_cons_zero, List.set_cons_succ, List.zip_cons_cons, List.zip_nil_left, List.zip_nil_right, List.lookup_cons, List.lookup_nil, Option.some.injEq, exists_eq_left', exists_eq_left, exists_eq', exists_eq, HD.D.bl.injEq, HD.D.int.injEq, HD.D.str.injEq, HD.D.tup.injEq, HD.D.lst.injEq, HD.D.ref.injEq, List.cons.injEq, and_true, true_and, if_true, if_false, Bool.false_eq_true, ite_true, ite_false, Bool.not_true, Bool.not_false, Int.cast_ofNat_Int, beq_self_eq_true, Nat.sub_self, Nat.reduceSub, Nat.reduceAdd, reduceIte]
    simp only [dMake]
    simp only [cx_K, nox_K, dRet, dRetN, dAnd, dOr, dNot, dCB, dCons, dVar, dC, dNil, dSeq, dAsg, dgName, dIfS, dNever, dTest, dAndT, dOrT, dNotT, dIf, dBin, dUn, dChain, dstart, dPar, dPar3, dDrop, dFor, dIter, dRng1, dRng2, dNext, dTup, dLst, dCall, dMeth, dProp, dFld, dSetF, dM, dJoined, dJs, dLc, dDc, dSlice, dPart, dNoP, dRetF, dYes, dgSub, dwipe, dEnum, dZip, dTxt, ownD, dMethK, q_plus_int, q_plus_str, q_plus_tup, q_plus_lst, q_fII, q_minus, q_fdiv, q_mod, q_pow, q_mul, q_rep, q_ord_int, q_ord_str, q_len_str, q_len_tup, q_len_lst, q_len_scr, q_len_ref, q_neg, q_fmt_int, q_fmt_str, q_str_int, q_str_str, q_int_int, q_int_bl, q_int_str, q_bool_int, q_bool_bl, q_abs, q_max, q_min, q_divmod, q_ix_tup, q_ix_lst, q_ix_ref, q_ix_scr, q_ix_str, q_sl_tup, q_sl_str, q_sl_lst, q_sl_scr, q_tuple_lst, q_tuple_tup, q_tuple_ref, q_in_dic, q_in_tup, q_in_ref, q_in_lst, q_items_lst, q_items_tup, q_items_scr, q_items_str, q_ins, q_ty_int, q_ty_str, q_ty_tup, q_ty_lst, q_ty_non, q_ty_bl, q_ty_ins, q_all, q_gtup, q_gcons, q_gnil, q_join, q_append, q_count, q_isdigit, q_split, ltD, leD, gtD, geD, isStrD, valN, clsD, List.map_cons, List.map_nil, List.length_cons, List.length_nil, List.replicate_zero, List.replicate_succ, List.cons_append, List.nil_append, List.append_nil, List.getElem?_cons_zero, List.getElem?_cons_succ, List.set_cons_zero, List.set_cons_succ, List.zip_cons_cons, List.zip_nil_left, List.zip_nil_right, List.lookup_cons, List.lookup_nil, Option.some.injEq, exists_eq_left', exists_eq_left, exists_eq', exists_eq, HD.D.bl.injEq, HD.D.int.injEq, HD.D.str.injEq, HD.D.tup.injEq, HD.D.lst.injEq, HD.D.ref.injEq, List.cons.injEq, and_true, true_and, if_true, if_false, Bool.false_eq_true, ite_true, ite_false, Bool.not_true, Bool.not_false, Int.cast_ofNat_Int, beq_self_eq_true, Nat.sub_self, Nat.reduceSub, Nat.reduceAdd, reduceIte]
    intro x5 hx5
    refine init_ok (wd := wd) (rs := []) hx5 (OkRs.nil _) (by omega) ?_
    rw [mdel_mput hx5]
    refine ⟨by omega, [], wd, rfl, ⟨OkRs.nil _, hw⟩, ?_⟩
    simp only [cx_K, nox_K, dRet, dRetN, dAnd, dOr, dNot, dCB, dCons, dVar, dC, dNil, dSeq, dAsg, dgName, dIfS, dNever, dTest, dAndT, dOrT, dNotT, dIf, dBin, dUn, dChain, dstart, dPar, dPar3, dDrop, dFor, dIter, dRng1, dRng2, dNext, dTup, dLst, dCall, dMeth, dProp, dFld, dSetF, dM, dJoined, dJs, dLc, dDc, dSlice, dPart, dNoP, dRetF, dYes, dgSub, dwipe, dEnum, dZip, dTxt, ownD, dMethK, q_plus_int, q_plus_str, q_plus_tup, q_plus_lst, q_fII, q_minus, q_fdiv, q_mod, q_pow, q_mul, q_rep, q_ord_int, q_ord_str, q_len_str, q_len_tup, q_len_lst, q_len_scr, q_len_ref, q_neg, q_fmt_int, q_fmt_str, q_str_int, q_str_str, q_int_int, q_int_bl, q_int_str, q_bool_int, q_bool_bl, q_abs, q_max, q_min, q_divmod, q_ix_tup, q_ix_lst, q_ix_ref, q_ix_scr, q_ix_str, q_sl_tup, q_sl_str, q_sl_lst, q_sl_scr, q_tuple_lst, q_tuple_tup, q_tuple_ref, q_in_dic, q_in_tup, q_in_ref, q_in_lst, q_items_lst, q_items_tup, q_items_scr, q_items_str, q_ins, q_ty_int, q_ty_str, q_ty_tup, q_ty_lst, q_ty_non, q_ty_bl, q_ty_ins, q_all, q_gtup, q_gcons, q_gnil, q_join, q_append, q_count, q_isdigit, q_split, ltD, leD, gtD, geD, isStrD, valN, clsD, List.map_cons, List.map_nil, List.length_cons, List.length_nil, List.replicate_zero, List.replicate_succ, List.cons_append, List.nil_append, List.append_nil, List.getElem?_cons_zero, List.getElem?_cons_succ, List.set_cons_zero, List.set_cons_succ, List.zip_cons_cons, List.zip_nil_left, List.zip_nil_right, List.lookup_cons, List.lookup_nil, Option.some.injEq, exists_eq_left', exists_eq_left, exists_eq', exists_eq, HD.D.bl.injEq, HD.D.int.injEq, HD.D.str.injEq, HD.D.tup.injEq, HD.D.lst.injEq, HD.D.ref.injEq, List.cons.injEq, and_true, true_and, if_true, if_false, Bool.false_eq_true, ite_true, ite_false, Bool.not_true, Bool.not_false, Int.cast_ofNat_Int, beq_self_eq_true, Nat.sub_self, Nat.reduceSub, Nat.reduceAdd, reduceIte]
    refine ⟨rs, wd, rfl, ⟨ok, hw⟩, ?_⟩
    simp only [cx_K, nox_K, dRet, dRetN, dAnd, dOr, dNot, dCB, dCons, dVar, dC, dNil, dSeq, dAsg, dgName, dIfS, dNever, dTest, dAndT, dOrT, dNotT, dIf, dBin, dUn, dChain, dstart, dPar, dPar3, dDrop, dFor, dIter, dRng1, dRng2, dNext, dTup, dLst, dCall, dMeth, dProp, dFld, dSetF, dM, dJoined, dJs, dLc, dDc, dSlice, dPart, dNoP, dRetF, dYes, dgSub, dwipe, dEnum, dZip, dTxt, ownD, dMethK, q_plus_int, q_plus_str, q_plus_tup, q_plus_lst, q_fII, q_minus, q_fdiv, q_mod, q_pow, q_mul, q_rep, q_ord_int, q_ord_str, q_len_str, q_len_tup, q_len_lst, q_len_scr, q_len_ref, q_neg, q_fmt_int, q_fmt_str, q_str_int, q_str_str, q_int_int, q_int_bl, q_int_str, q_bool_int, q_bool_bl, q_abs, q_max, q_min, q_divmod, q_ix_tup, q_ix_lst, q_ix_ref, q_ix_scr, q_ix_str, q_sl_tup, q_sl_str, q_sl_lst, q_sl_scr, q_tuple_lst, q_tuple_tup, q_tuple_ref, q_in_dic, q_in_tup, q_in_ref, q_in_lst, q_items_lst, q_items_tup, q_items_scr, q_items_str, q_ins, q_ty_int, q_ty_str, q_ty_tup, q_ty_lst, q_ty_non, q_ty_bl, q_ty_ins, q_all, q_gtup, q_gcons, q_gnil, q_join, q_append, q_count, q_isdigit, q_split, ltD, leD, gtD, geD, isStrD, valN, clsD, List.map_cons, List.map_nil, List.length_cons, List.length_nil, List.replicate_zero, List.replicate_succ, List.cons_append, List.nil_append, List.append_nil, List.getElem?_cons_zero, List.getElem?_cons_succ, List.set_cons_zero, List.set_cons_succ, List.zip_cons_cons, List.zip_nil_left, List.zip_nil_right, List.lookup_cons, List.lookup_nil, Option.some.injEq, exists_eq_left', exists_eq_left, exists_eq', exists_eq, HD.D.bl.injEq, HD.D.int.injEq, HD.D.str.injEq, HD.D.tup.injEq, HD.D.lst.injEq, HD.D.ref.injEq, List.cons.injEq, and_true, true_and, if_true, if_false, Bool.false_eq_true, ite_true, ite_false, Bool.not_true, Bool.not_false, Int.cast_ofNat_Int, beq_self_eq_true, Nat.sub_self, Nat.reduceSub, Nat.reduceAdd, reduceIte]
    exact ⟨rs, wd, rfl, ⟨ok, hw⟩, Ret.of (h M2)⟩
theorem cal__law_right (F : Fc K mg) : CalD P w K mg base 8 "_law_right" c_right [] := by
  obtain ⟨fd, D⟩ := F.d_law_right
  refine calD_N D (fn_law_right F D) F.g__law_right ?_
  exact fun _ _ _ _ _ _ us hl => match us, hl with | [_], _ => rfl
def c_cell : DSp := fun ds M P => ∃ (zs : List Int) (t : Nat), ds = [.scr zs, .int t] ∧ t ≤ 8 ∧ ∀ v, P (.int v) M
theorem sc_law_cell : FnScope ["_law_script", "_law_at", "_law_mixed", "_law_cell_here"] ["_law_script", "_law_at"] (defScope (top 21)) := ⟨rfl, rfl, rfl, by decide +kernel, rfl, by decide +kernel, by decide +kernel⟩
theorem fn_law_cell (F : Fc K mg) {fd : FuncData} (dF : FunD K "_law_cell" "_law_cell" (defArgs (top 21)) (defBody (top 21)) (defScope (top 21)) [] [] ((gloA "_law_cell") K) fd) : FnG P w K mg base 1 ((gloA "_law_cell") K) fd ["_law_script", "_law_at"] (spOf K c_cell) := by
  have nd := sc_law_cell.nd
  refine fnG_D dF sc_law_cell (fun ds M R h => ?_) fun cd A outer s H hr => ⟨_, (b_cons (s_if (t_lt (jv 1) (j_cb call_len lc_len F.n_len rfl (a_cons (jv 0) a_nil) rfl (by decide) (by decide) rfl rfl))
      (b_one (s_ret (j_ix (jv 0) (jv 1))))
      b_nil)
      (b_cons (s_set (i := 2) nd rfl (by first | exact .inl rfl | exact .inr rfl) (j_add (j_add (j_mul (j_mul j_int (jv 1)) (jv 1)) (j_mul j_int (jv 1))) j_int))
      (b_cons (s_for PassesOwn.never rfl (i_any (j_slice (jv 0) o_no (o_so j_int))) (g_name (i := 3) nd rfl (by first | exact .inl rfl | exact .inr rfl))
      (b_one (s_set (i := 2) nd rfl (by first | exact .inl rfl | exact .inr rfl) (j_mod (j_ct (call_int1.or call_int_str) lc_int F.n_int rfl (a_cons (j_add (j_mul (jv 2) j_int) (jv 3)) a_nil) rfl (by decide) (by decide) rfl rfl) j_int))))
      (b_one (s_ret (jv 2)))))), ?_⟩
  · obtain ⟨_, _, rfl, _⟩ := h; rfl
  · intro ds M R h
    obtain ⟨zs, t, rfl, ht, h⟩ := h
    refine seq_step fun N hN => ?_
    simp only [cx_K, nox_K, dRet, dRetN, dAnd, dOr, dNot, dCB, dCons, dVar, dC, dNil, dSeq, dAsg, dgName, dIfS, dNever, dTest, dAndT, dOrT, dNotT, dIf, dBin, dUn, dChain, dstart, dPar, dPar3, dDrop, dFor, dIter, dRng1, dRng2, dNext, dTup, dLst, dCall, dMeth, dProp, dFld, dSetF, dM, dJoined, dJs, dLc, dDc, dSlice, dPart, dNoP, dRetF, dYes, dgSub, dwipe, dEnum, dZip, dTxt, ownD, dMethK, q_plus_int, q_plus_str, q_plus_tup, q_plus_lst, q_fII, q_minus, q_fdiv, q_mod, q_pow, q_mul, q_rep, q_ord_int, q_ord_str, q_len_str, q_len_tup, q_len_lst, q_len_scr, q_len_ref, q_neg, q_fmt_int, q_fmt_str, q_str_int, q_str_str, q_int_int, q_int_bl, q_int_str, q_bool_int, q_bool_bl, q_abs, q_max, q_min, q_divmod, q_ix_tup, q_ix_lst, q_ix_ref, q_ix_scr, q_ix_str, q_sl_tup, q_sl_str, q_sl_lst, q_sl_scr, q_tuple_lst, q_tuple_tup, q_tuple_ref, q_in_dic, q_in_tup, q_in_ref, q_in_lst, q_items_lst, q_items_tup, q_items_scr, q_items_str, q_ins, q_ty_int, q_ty_str, q_ty_tup, q_ty_lst, q_ty_non, q_ty_bl, q_ty_ins, q_all, q_gtup, q_gcons, q_gnil, q_join, q_append, q_count, q_isdigit, q_split, ltD, leD, gtD, geD, isStrD, valN, clsD, List.map_cons, List.map_nil, List.length_cons, List.length_nil, List.replicate_zero, List.replicate_succ, List.cons_append, List.nil_append, List.append_nil, List.getElem?_cons_zero, List.getElem?_cons_succ, List.set_cons_zero, List.set_cons_succ, List.zip_cons_cons, List.zip_nil_left, List.zip_nil_right, List.lookup_cons, List.lookup_nil, Option.some.injEq, exists_eq_left', exists_eq_left, exists_eq', exists_eq, HD.D.bl.injEq, HD.D.int.injEq, HD.D.str.injEq, HD.D.tup.injEq, HD.D.lst.injEq, HD.D.ref.injEq, List.cons.injEq, and_true, true_and, if_true, if_false, Bool.false_eq_true, ite_true, ite_false, Bool.not_true, Bool.not_false, Int.cast_ofNat_Int, beq_self_eq_true, Nat.sub_self, Nat.reduceSub, Nat.reduceAdd, reduceIte]
    by_cases z : (t : Int) < (zs.length : Int)
    · rw [if_pos (decide_eq_true z)]
      obtain ⟨v, _, ev⟩ := at_ints (xs := zs) (r := (t : Int)) (by omega) z
      exact ⟨_, ev, Ret.of (h v)⟩
    · rw [if_neg (fun e => z (of_decide_eq_true e))]
      refine hN _ _ ?_
      clear hN N
      refine seq_step fun N hN => ?_
      simp only [cx_K, nox_K, dRet, dRetN, dAnd, dOr, dNot, dCB, dCons, dVar, dC, dNil, dSeq, dAsg, dgName, dIfS, dNever, dTest, dAndT, dOrT, dNotT, dIf, dBin, dUn, dChain, dstart, dPar, dPar3, dDrop, dFor, dIter, dRng1, dRng2, dNext, dTup, dLst, dCall, dMeth, dProp, dFld, dSetF, dM, dJoined, dJs, dLc, dDc, dSlice, dPart, dNoP, dRetF, dYes, dgSub, dwipe, dEnum, dZip, dTxt, ownD, dMethK, q_plus_int, q_plus_str, q_plus_tup, q_plus_lst, q_fII, q_minus, q_fdiv, q_mod, q_pow, q_mul, q_rep, q_ord_int, q_ord_str, q_len_str, q_len_tup, q_len_lst, q_len_scr, q_len_ref, q_neg, q_fmt_int, q_fmt_str, q_str_int, q_str_str, q_int_int, q_int_bl, q_int_str, q_bool_int, q_bool_bl, q_abs, q_max, q_min, q_divmod, q_ix_tup, q_ix_lst, q_ix_ref, q_ix_scr, q_ix_str, q_sl_tup, q_sl_str, q_sl_lst, q_sl_scr, q_tuple_lst, q_tuple_tup, q_tuple_ref, q_in_dic, q_in_tup, q_in_ref, q_in_lst, q_items_lst, q_items_tup, q_items_scr, q_items_str, q_ins, q_ty_int, q_ty_str, q_ty_tup, q_ty_lst, q_ty_non, q_ty_bl, q_ty_ins, q_all, q_gtup, q_gcons, q_gnil, q_join, q_append, q_count, q_isdigit, q_split, ltD, leD, gtD, geD, isStrD, valN, clsD, List.map_cons, List.map_nil, List.length_cons, List.length_nil, List.replicate_zero, List.replicate_succ, List.cons_append, List.nil_append, List.append_nil, List.getElem?_cons_zero, List.getElem?_cons_succ, List.set_cons_zero, List.set_cons_succ, List.zip_cons_cons, List.zip_nil_left, List.zip_nil_right, List.lookup_cons, List.lookup_nil, Option.some.injEq, exists_eq_left', exists_eq_left, exists_eq', exists_eq, HD.D.bl.injEq, HD.D.int.injEq, HD.D.str.injEq, HD.D.tup.injEq, HD.D.lst.injEq, HD.D.ref.injEq, List.cons.injEq, and_true, true_and, if_true, if_false, Bool.false_eq_true, ite_true, ite_false, Bool.not_true, Bool.not_false, Int.cast_ofNat_Int, beq_self_eq_true, Nat.sub_self, Nat.reduceSub, Nat.reduceAdd, reduceIte]
      refine ⟨.inl ⟨by decide, by decide⟩, .inr ⟨by omega, by omega⟩, .inl ⟨by decide, by decide⟩, ?_⟩
      refine hN _ _ ?_
      clear hN N
      refine seq_step fun N hN => ?_
      simp only [cx_K, nox_K, dRet, dRetN, dAnd, dOr, dNot, dCB, dCons, dVar, dC, dNil, dSeq, dAsg, dgName, dIfS, dNever, dTest, dAndT, dOrT, dNotT, dIf, dBin, dUn, dChain, dstart, dPar, dPar3, dDrop, dFor, dIter, dRng1, dRng2, dNext, dTup, dLst, dCall, dMeth, dProp, dFld, dSetF, dM, dJoined, dJs, dLc, dDc, dSlice, dPart, dNoP, dRetF, dYes, dgSub, dwipe, dEnum, dZip, dTxt, ownD, dMethK, q_plus_int, q_plus_str, q_plus_tup, q_plus_lst, q_fII, q_minus, q_fdiv, q_mod, q_pow, q_mul, q_rep, q_ord_int, q_ord_str, q_len_str, q_len_tup, q_len_lst, q_len_scr, q_len_ref, q_neg, q_fmt_int, q_fmt_str, q_str_int, q_str_str, q_int_int, q_int_bl, q_int_str, q_bool_int, q_bool_bl, q_abs, q_max, q_min, q_divmod, q_ix_tup, q_ix_lst, q_ix_ref, q_ix_scr, q_ix_str, q_sl_tup, q_sl_str, q_sl_lst, q_sl_scr, q_tuple_lst, q_tuple_tup, q_tuple_ref, q_in_dic, q_in_tup, q_in_ref, q_in_lst, q_items_lst, q_items_tup, q_items_scr, q_items_str, q_ins, q_ty_int, q_ty_str, q_ty_tup, q_ty_lst, q_ty_non, q_ty_bl, q_ty_ins, q_all, q_gtup, q_gcons, q_gnil, q_join, q_append, q_count, q_isdigit, q_split, ltD, leD, gtD, geD, isStrD, valN, clsD, List.map_cons, List.map_nil, List.length_cons, List.length_nil, List.replicate_zero, List.replicate_succ, List.cons_append, List.nil_append, List.append_nil, List.getElem?_cons_zero, List.getElem?_cons_succ, List.set_cons_zero, List.set_cons_succ, List.zip_cons_cons, List.zip_nil_left, List.zip_nil_right, List.lookup_cons, List.lookup_nil, Option.some.injEq, exists_eq_left', exists_eq_left, exists_eq', exists_eq, HD.D.bl.injEq, HD.D.int.injEq, HD.D.str.injEq, HD.D.tup.injEq, HD.D.lst.injEq, HD.D.ref.injEq, List.cons.injEq, and_true, true_and, if_true, if_false, Bool.false_eq_true, ite_true, ite_false, Bool.not_true, Bool.not_false, Int.cast_ofNat_Int, beq_self_eq_true, Nat.sub_self, Nat.reduceSub, Nat.reduceAdd, reduceIte]
      have cz : ∃ us : List Int, cutL (zs.map D.int) none (some 3) = us.map D.int := ⟨cutL zs none (some 3), by unfold cutL; rw [List.length_map, List.map_take, List.map_drop]⟩
      obtain ⟨us, eu⟩ := cz
      rw [eu]
      clear eu
      generalize 7741 * (t : Int) * (t : Int) + 15013 * (t : Int) + 911 = mx
      generalize (none : Option HD.D) = x3
      induction us generalizing mx x3 with
      | nil =>
        simp only [forD, List.map_nil]
        refine hN _ _ ?_
        clear hN N
        simp only [cx_K, nox_K, dRet, dRetN, dAnd, dOr, dNot, dCB, dCons, dVar, dC, dNil, dSeq, dAsg, dgName, dIfS, dNever, dTest, dAndT, dOrT, dNotT, dIf, dBin, dUn, dChain, dstart, dPar, dPar3, dDrop, dFor, dIter, dRng1, dRng2, dNext, dTup, dLst, dCall, dMeth, dProp, dFld, dSetF, dM, dJoined, dJs, dLc, dDc, dSlice, dPart, dNoP, dRetF, dYes, dgSub, dwipe, dEnum, dZip, dTxt, ownD, dMethK, q_plus_int, q_plus_str, q_plus_tup, q_plus_lst, q_fII, q_minus, q_fdiv, q_mod, q_pow, q_mul, q_rep, q_ord_int, q_ord_str, q_len_str, q_len_tup, q_len_lst, q_len_scr, q_len_ref, q_neg, q_fmt_int, q_fmt_str, q_str_int, q_str_str, q_int_int, q_int_bl, q_int_str, q_bool_int, q_bool_bl, q_abs, q_max, q_min, q_divmod, q_ix_tup, q_ix_lst, q_ix_ref, q_ix_scr, q_ix_str, q_sl_tup, q_sl_str, q_sl_lst, q_sl_scr, q_tuple_lst, q_tuple_tup, q_tuple_ref, q_in_dic, q_in_tup, q_in_ref, q_in_lst, q_items_lst, q_items_tup, q_items_scr, q_items_str, q_ins, q_ty_int, q_ty_str, q_ty_tup, q_ty_lst, q_ty_non, q_ty_bl, q_ty_ins, q_all, q_gtup, q_gcons, q_gnil, q_join, q_append, q_count, q_isdigit, q_split, ltD, leD, gtD, geD, isStrD, valN, clsD, List.map_cons, List.map_nil, List.length_cons, List.length_nil, List.replicate_zero, List.replicate_succ, List.cons_append, List.nil_append, List.append_nil, List.getElem?_cons_zero, List.getElem?_cons_succ, List.set_cons_zero, List.set_cons_succ, List.zip_cons_cons, List.zip_nil_left, List.zip_nil_right, List.lookup_cons, List.lookup_nil, Option.some.injEq, exists_eq_left', exists_eq_left, exists_eq', exists_eq, HD.D.bl.injEq, HD.D.int.injEq, HD.D.str.injEq, HD.D.tup.injEq, HD.D.lst.injEq, HD.D.ref.injEq, List.cons.injEq, and_true, true_and, if_true, if_false, Bool.false_eq_true, ite_true, ite_false, Bool.not_true, Bool.not_false, Int.cast_ofNat_Int, beq_self_eq_true, Nat.sub_self, Nat.reduceSub, Nat.reduceAdd, reduceIte]
        exact Ret.of (h mx)
      | cons u us ih =>
        simp only [forD, List.map_cons]
        simp only [cx_K, nox_K, dRet, dRetN, dAnd, dOr, dNot, dCB, dCons, dVar, dC, dNil, dSeq, dAsg, dgName, dIfS, dNever, dTest, dAndT, dOrT, dNotT, dIf, dBin, dUn, dChain, dstart, dPar, dPar3, dDrop, dFor, dIter, dRng1, dRng2, dNext, dTup, dLst, dCall, dMeth, dProp, dFld, dSetF, dM, dJoined, dJs, dLc, dDc, dSlice, dPart, dNoP, dRetF, dYes, dgSub, dwipe, dEnum, dZip, dTxt, ownD, dMethK, q_plus_int, q_plus_str, q_plus_tup, q_plus_lst, q_fII, q_minus, q_fdiv, q_mod, q_pow, q_mul, q_rep, q_ord_int, q_ord_str, q_len_str, q_len_tup, q_len_lst, q_len_scr, q_len_ref, q_neg, q_fmt_int, q_fmt_str, q_str_int, q_str_str, q_int_int, q_int_bl, q_int_str, q_bool_int, q_bool_bl, q_abs, q_max, q_min, q_divmod, q_ix_tup, q_ix_lst, q_ix_ref, q_ix_scr, q_ix_str, q_sl_tup, q_sl_str, q_sl_lst, q_sl_scr, q_tuple_lst, q_tuple_tup, q_tuple_ref, q_in_dic, q_in_tup, q_in_ref, q_in_lst, q_items_lst, q_items_tup, q_items_scr, q_items_str, q_ins, q_ty_int, q_ty_str, q_ty_tup, q_ty_lst, q_ty_non, q_ty_bl, q_ty_ins, q_all, q_gtup, q_gcons, q_gnil, q_join, q_append, q_count, q_isdigit, q_split, ltD, leD, gtD, geD, isStrD, valN, clsD, List.map_cons, List.map_nil, List.length_cons, List.length_nil, List.replicate_zero, List.replicate_succ, List.cons_append, List.nil_append, List.append_nil, List.getElem?_cons_zero, List.getElem?_cons_succ, List.set_cons_zero, List.set_cons_succ, List.zip_cons_cons, List.zip_nil_left, List.zip_nil_right, List.lookup_cons, List.lookup_nil, Option.some.injEq, exists_eq_left', exists_eq_left, exists_eq', exists_eq, HD.D.bl.injEq, HD.D.int.injEq, HD.D.str.injEq, HD.D.tup.injEq, HD.D.lst.injEq, HD.D.ref.injEq, List.cons.injEq, and_true, true_and, if_true, if_false, Bool.false_eq_true, ite_true, ite_false, Bool.not_true, Bool.not_false, Int.cast_ofNat_Int, beq_self_eq_true, Nat.sub_self, Nat.reduceSub, Nat.reduceAdd, reduceIte]
        exact ⟨.inr ⟨by decide, by decide⟩, by decide, ih _ _⟩
theorem cal__law_cell (F : Fc K mg) : CalD P w K mg base 1 "_law_cell" c_cell [] := by
  obtain ⟨fd, D⟩ := F.d_law_cell
  refine calD_N D (fn_law_cell F D) F.g__law_cell ?_
  exact fun _ _ _ _ _ _ us hl => match us, hl with | [_, _], _ => rfl
def c_purse : DSp := fun ds M P => ∃ c : Int, ds = [.int c] ∧ ∀ a g st n, M a = none → Pv g st n → P (.ref a) (mput M a (puL g st n))
theorem sc_law_purse : FnScope ["_law_cell_here", "_law_great"] ["_law_cell_here"] (defScope (top 22)) := ⟨rfl, rfl, rfl, by decide +kernel, rfl, by decide +kernel, by decide +kernel⟩
theorem fn_law_purse (F : Fc K mg) {fd : FuncData} (dF : FunD K "_law_purse" "_law_purse" (defArgs (top 22)) (defBody (top 22)) (defScope (top 22)) [] [] ((gloA "_law_purse") K) fd) : FnG P w K mg base 1 ((gloA "_law_purse") K) fd ["_law_cell_here"] (spOf K c_purse) := by
  have nd := sc_law_purse.nd
  refine fnG_D dF sc_law_purse (fun ds M R h => ?_) fun cd A outer s H hr => ⟨_, (b_cons (s_set (i := 1) nd rfl (by first | exact .inl rfl | exact .inr rfl) (j_ifx (JW.jt (w_or (t_lt (jv 0) j_int) (w_or1 (t_ge (jv 0) (j_pow j_int j_int))))) (j_cb call_abs lc_abs F.n_abs rfl (a_cons (jv 0) a_nil) rfl (by decide) (by decide) rfl rfl) j_int))
      (b_one (s_ret (j_lstM (a_cons (jv 1) (a_cons (j_mod (j_ct (call_int1.or call_int_str) lc_int F.n_int rfl (a_cons (j_add (j_mul (j_mod (j_ct (call_int1.or call_int_str) lc_int F.n_int rfl (a_cons (jv 0) a_nil) rfl (by decide) (by decide) rfl rfl) j_int) j_int) j_int) a_nil) rfl (by decide) (by decide) rfl rfl) j_int) (a_cons j_int a_nil))))))), ?_⟩
  · obtain ⟨_, rfl, _⟩ := h; rfl
  · intro ds M R h
    obtain ⟨c, rfl, h⟩ := h
    refine seq_step fun N hN => ?_
    have nxt : ∀ g : Int, 0 ≤ g → N [some (.int c), some (.int g)] M := by
      intro g hg
      refine hN _ _ ?_
      clear hN N
      simp only [cx_K, nox_K, dRet, dRetN, dAnd, dOr, dNot, dCB, dCons, dVar, dC, dNil, dSeq, dAsg, dgName, dIfS, dNever, dTest, dAndT, dOrT, dNotT, dIf, dBin, dUn, dChain, dstart, dPar, dPar3, dDrop, dFor, dIter, dRng1, dRng2, dNext, dTup, dLst, dCall, dMeth, dProp, dFld, dSetF, dM, dJoined, dJs, dLc, dDc, dSlice, dPart, dNoP, dRetF, dYes, dgSub, dwipe, dEnum, dZip, dTxt, ownD, dMethK, q_plus_int, q_plus_str, q_plus_tup, q_plus_lst, q_fII, q_minus, q_fdiv, q_mod, q_pow, q_mul, q_rep, q_ord_int, q_ord_str, q_len_str, q_len_tup, q_len_lst, q_len_scr, q_len_ref, q_neg, q_fmt_int, q_fmt_str, q_str_int, q_str_str, q_int_int, q_int_bl, q_int_str, q_bool_int, q_bool_bl, q_abs, q_max, q_min, q_divmod, q_ix_tup, q_ix_lst, q_ix_ref, q_ix_scr, q_ix_str, q_sl_tup, q_sl_str, q_sl_lst, q_sl_scr, q_tuple_lst, q_tuple_tup, q_tuple_ref, q_in_dic, q_in_tup, q_in_ref, q_in_lst, q_items_lst, q_items_tup, q_items_scr, q_items_str, q_ins, q_ty_int, q_ty_str, q_ty_tup, q_ty_lst, q_ty_non, q_ty_bl, q_ty_ins, q_all, q_gtup, q_gcons, q_gnil, q_join, q_append, q_count, q_isdigit, q_split, ltD, leD, gtD, geD, isStrD, valN, clsD, List.map_cons, List.map_nil, List.length_cons, List.length_nil, List.replicate_zero, List.replicate_succ, List.cons_append, List.nil_append, List.append_nil, List.getElem?_cons_zero, List.getElem?_cons_succ, List.set_cons_zero, List.set_cons_succ, List.zip_cons_cons, List.zip_nil_left, List.zip_nil_right, List.lookup_cons, List.lookup_nil, Option.some.injEq, exists_eq_left', exists_eq_left, exists_eq', exists_eq, HD.D.bl.injEq, HD.D.int.injEq, HD.D.str.injEq, HD.D.tup.injEq, HD.D.lst.injEq, HD.D.ref.injEq, List.cons.injEq, and_true, true_and, if_true, if_false, Bool.false_eq_true, ite_true, ite_false, Bool.not_true, Bool.not_false, Int.cast_ofNat_Int, beq_self_eq_true, Nat.sub_self, Nat.reduceSub, Nat.reduceAdd, reduceIte]
      simp only [dLstM]
      simp only [cx_K, nox_K, dRet, dRetN, dAnd, dOr, dNot, dCB, dCons, dVar, dC, dNil, dSeq, dAsg, dgName, dIfS, dNever, dTest, dAndT, dOrT, dNotT, dIf, dBin, dUn, dChain, dstart, dPar, dPar3, dDrop, dFor, dIter, dRng1, dRng2, dNext, dTup, dLst, dCall, dMeth, dProp, dFld, dSetF, dM, dJoined, dJs, dLc, dDc, dSlice, dPart, dNoP, dRetF, dYes, dgSub, dwipe, dEnum, dZip, dTxt, ownD, dMethK, q_plus_int, q_plus_str, q_plus_tup, q_plus_lst, q_fII, q_minus, q_fdiv, q_mod, q_pow, q_mul, q_rep, q_ord_int, q_ord_str, q_len_str, q_len_tup, q_len_lst, q_len_scr, q_len_ref, q_neg, q_fmt_int, q_fmt_str, q_str_int, q_str_str, q_int_int, q_int_bl, q_int_str, q_bool_int, q_bool_bl, q_abs, q_max, q_min, q_divmod, q_ix_tup, q_ix_lst, q_ix_ref, q_ix_scr, q_ix_str, q_sl_tup, q_sl_str, q_sl_lst, q_sl_scr, q_tuple_lst, q_tuple_tup, q_tuple_ref, q_in_dic, q_in_tup, q_in_ref, q_in_lst, q_items_lst, q_items_tup, q_items_scr, q_items_str, q_ins, q_ty_int, q_ty_str, q_ty_tup, q_ty_lst, q_ty_non, q_ty_bl, q_ty_ins, q_all, q_gtup, q_gcons, q_gnil, q_join, q_append, q_count, q_isdigit, q_split, ltD, leD, gtD, geD, isStrD, valN, clsD, List.map_cons, List.map_nil, List.length_cons, List.length_nil, List.replicate_zero, List.replicate_succ, List.cons_append, List.nil_append, List.append_nil, List.getElem?_cons_zero, List.getElem?_cons_succ, List.set_cons_zero, List.set_cons_succ, List.zip_cons_cons, List.zip_nil_left, List.zip_nil_right, List.lookup_cons, List.lookup_nil, Option.some.injEq, exists_eq_left', exists_eq_left, exists_eq', exists_eq, HD.D.bl.injEq, HD.D.int.injEq, HD.D.str.injEq, HD.D.tup.injEq, HD.D.lst.injEq, HD.D.ref.injEq, List.cons.injEq, and_true, true_and, if_true, if_false, Bool.false_eq_true, ite_true, ite_false, Bool.not_true, Bool.not_false, Int.cast_ofNat_Int, beq_self_eq_true, Nat.sub_self, Nat.reduceSub, Nat.reduceAdd, reduceIte]
      refine ⟨by decide, .inr ⟨by decide, by decide⟩, by decide, by decide, fun a ha => Ret.of (h a g _ 0 ha ⟨hg, Int.emod_nonneg _ (by decide), Int.emod_lt_of_pos _ (by decide), by omega⟩)⟩
    simp only [cx_K, nox_K, dRet, dRetN, dAnd, dOr, dNot, dCB, dCons, dVar, dC, dNil, dSeq, dAsg, dgName, dIfS, dNever, dTest, dAndT, dOrT, dNotT, dIf, dBin, dUn, dChain, dstart, dPar, dPar3, dDrop, dFor, dIter, dRng1, dRng2, dNext, dTup, dLst, dCall, dMeth, dProp, dFld, dSetF, dM, dJoined, dJs, dLc, dDc, dSlice, dPart, dNoP, dRetF, dYes, dgSub, dwipe, dEnum, dZip, dTxt, ownD, dMethK, q_plus_int, q_plus_str, q_plus_tup, q_plus_lst, q_fII, q_minus, q_fdiv, q_mod, q_pow, q_mul, q_rep, q_ord_int, q_ord_str, q_len_str, q_len_tup, q_len_lst, q_len_scr, q_len_ref, q_neg, q_fmt_int, q_fmt_str, q_str_int, q_str_str, q_int_int, q_int_bl, q_int_str, q_bool_int, q_bool_bl, q_abs, q_max, q_min, q_divmod, q_ix_tup, q_ix_lst, q_ix_ref, q_ix_scr, q_ix_str, q_sl_tup, q_sl_str, q_sl_lst, q_sl_scr, q_tuple_lst, q_tuple_tup, q_tuple_ref, q_in_dic, q_in_tup, q_in_ref, q_in_lst, q_items_lst, q_items_tup, q_items_scr, q_items_str, q_ins, q_ty_int, q_ty_str, q_ty_tup, q_ty_lst, q_ty_non, q_ty_bl, q_ty_ins, q_all, q_gtup, q_gcons, q_gnil, q_join, q_append, q_count, q_isdigit, q_split, ltD, leD, gtD, geD, isStrD, valN, clsD, List.map_cons, List.map_nil, List.length_cons, List.length_nil, List.replicate_zero, List.replicate_succ, List.cons_append, List.nil_append, List.append_nil, List.getElem?_cons_zero, List.getElem?_cons_succ, List.set_cons_zero, List.set_cons_succ, List.zip_cons_cons, List.zip_nil_left, List.zip_nil_right, List.lookup_cons, List.lookup_nil, Option.some.injEq, exists_eq_left', exists_eq_left, exists_eq', exists_eq, HD.D.bl.injEq, HD.D.int.injEq, HD.D.str.injEq, HD.D.tup.injEq, HD.D.lst.injEq, HD.D.ref.injEq, List.cons.injEq, and_true, true_and, if_true, if_false, Bool.false_eq_true, ite_true, ite_false, Bool.not_true, Bool.not_false, Int.cast_ofNat_Int, beq_self_eq_true, Nat.sub_self, Nat.reduceSub, Nat.reduceAdd, reduceIte]
    by_cases z : c < 0
    · rw [if_pos (decide_eq_true z), if_pos z]
      exact nxt _ (by omega)
    · rw [if_neg (fun e => z (of_decide_eq_true e)), if_neg z]
      refine ⟨⟨by decide, by decide, by decide⟩, ?_⟩
      split
      · exact nxt _ (by omega)
      · exact nxt _ (by omega)
theorem cal__law_purse (F : Fc K mg) : CalD P w K mg base 1 "_law_purse" c_purse [] := by
  obtain ⟨fd, D⟩ := F.d_law_purse
  refine calD_N D (fn_law_purse F D) F.g__law_purse ?_
  exact fun _ _ _ _ _ _ us hl => match us, hl with | [_], _ => rfl
end K02

namespace K02
open PySem PySem.Spec PyProof.Rows L2 HD
variable {P : Program} {w : World} {K : PySem.W.Frag} {mg : Str → Option Value} {base : Heap}
theorem lcD_inv {g : DG} {tt : DT} {te : DE} {s : DSt} {Good : D → Prop} {I : Mm → Prop} : ∀ (xs : List D) (_ : ∀ x ∈ xs, ∀ M, I M → ∀ (K1 : D → Mm → Prop) (K0 : Mm → Prop), (∀ y M', Good y → I M' → K1 y M') → g x s M fun s2 M2 => tt s2 M2 fun b M3 => if b = true then te s2 M3 K1 else K0 M3)
    (acc : List D) (M : Mm) (P : List D → Mm → Prop), acc.length + xs.length ≤ sizeLine → (∀ y ∈ acc, Good y) → I M → (∀ ys M', (∀ y ∈ ys, Good y) → ys.length = acc.length + xs.length → I M' → P ys M') → lcD g tt te s xs acc M P
  | [], _, acc, M, P, _, ha, hi, p => p acc M ha (by simp) hi
  | x :: xs, h, acc, M, P, hl, ha, hi, p => by
    rw [List.length_cons] at hl
    simp only [lcD]
    refine h x List.mem_cons_self M hi _ _ fun y M' hy hi' => ⟨by omega, ?_⟩
    refine lcD_inv xs (fun z hz => h z (List.mem_cons_of_mem _ hz)) (acc ++ [y]) M' P (by rw [List.length_append, List.length_singleton]; omega) (fun z hz => ?_) hi' fun ys M2 hy2 hl2 hi2 => p ys M2 hy2 (by rw [hl2, List.length_append, List.length_singleton, List.length_cons]; omega) hi2
    rcases List.mem_append.mp hz with q | q
    · exact ha z q
    · rw [List.mem_singleton] at q
      subst q
      exact hy
theorem okR_of {wd : Nat} {r : List Nat} (h1 : decide (r.Pairwise (· < ·)) = true) (h2 : r.all (fun t => decide (t < wd)) = true) : OkR wd r :=
  ⟨of_decide_eq_true h1, fun t ht => of_decide_eq_true (List.all_eq_true.mp h2 t ht)⟩
theorem okRs_of {wd : Nat} {rs : Rw} (h1 : decide ((rs.map (·.1)).Pairwise (· < ·)) = true) (h2 : rs.all (fun p => decide (65 ≤ p.1) && decide (p.1 ≤ 90)) = true) (h3 : rs.all (fun p => decide (p.2.Pairwise (· < ·)) && p.2.all (fun t => decide (t < wd))) = true) : OkRs wd rs :=
  ⟨of_decide_eq_true h1, fun p hp => by
    obtain ⟨e1, e2⟩ := Bool.and_eq_true_iff.mp (List.all_eq_true.mp h2 p hp)
    exact ⟨of_decide_eq_true e1, of_decide_eq_true e2⟩, fun p hp => by
    obtain ⟨e1, e2⟩ := Bool.and_eq_true_iff.mp (List.all_eq_true.mp h3 p hp)
    exact okR_of e1 e2⟩
def R0 : Rw := [(66, [0, 3]), (81, [])]
def RA : Rw := [(65, [])]
theorem ok0 : OkRs 4 R0 := okRs_of (by decide) (by decide) (by decide)
theorem okA : OkRs 0 RA := okRs_of (by decide) (by decide) (by decide)
theorem texts_sm (xs : List Str) (h : xs.all PyData.strOk = true) (hl : xs.all (fun x => decide (x.length ≤ 1000)) = true) (n : xs.length ≤ 100) : Sm (.lst (xs.map D.str)) 1 200000 := by
  refine Sm.lst _ 0 _ 1000 (fun d hd => ?_) (by rw [List.length_map]; omega)
  obtain ⟨x, hx, rfl⟩ := List.mem_map.mp hd
  exact Sm.str _ _ _ (List.all_eq_true.mp h x hx) (of_decide_eq_true (List.all_eq_true.mp hl x hx))
theorem q_is {neg a b : Bool} {M : Mm} {P : D → Prop} : isD neg M (.bl a) (.bl b) P = P (.bl (if neg then !decide (a = b) else decide (a = b))) := rfl
def c_law : DSp := fun ds M P => ∃ zs : List Int, ds = [.scr zs] ∧ zs.length ≤ 63 ∧ ∀ M', P (.bl true) M'
theorem sc_law : FnScope ["_law_script", "_law_mine", "_law_cells", "_law_at", "_law_cell_here"] ["_law_script"] (defScope (top 34)) := ⟨rfl, rfl, rfl, by decide +kernel, rfl, by decide +kernel, by decide +kernel⟩
theorem fn_law (F : Fc K mg) {fd : FuncData} (dF : FunD K "law" "law" (defArgs (top 34)) (defBody (top 34)) (defScope (top 34)) [] [] ((gloA "law") K) fd) : FnG P w K mg base 9 ((gloA "law") K) fd ["_law_script"] (spOf K c_law) := by
  have nd := sc_law.nd
  refine fnG_D dF sc_law (fun ds M R h => ?_) fun cd A outer s H hr => ⟨_, (b_cons (s_set (i := 1) nd rfl (by first | exact .inl rfl | exact .inr rfl) (j_make (mk_Plan_2 F) hr (by decide) (a_cons j_int (a_cons (j_tup (a_cons (j_tup (a_cons j_str (a_cons (j_tup (a_cons j_int (a_cons j_int a_nil))) a_nil))) (a_cons (j_tup (a_cons j_str (a_cons (j_tup a_nil) a_nil))) a_nil))) a_nil))))
      (b_cons (s_if (t_ne hr.rm.units (j_lst (a_cons (j_prop (p_Plan_text F) hr (by decide) (jv 1)) (a_cons (j_meth (m_Plan_marks F) hr (by decide) (jv 1) (a_cons j_str a_nil)) (a_cons (j_meth (m_Plan_marks F) hr (by decide) (jv 1) (a_cons j_str a_nil)) a_nil)))) (j_lst (a_cons j_str (a_cons j_str (a_cons j_str a_nil)))))
      (b_one (s_ret j_bl))
      b_nil)
      (b_cons (s_if (t_ne hr.rm.units (j_lst (a_cons (j_prop (p_Plan_text F) hr (by decide) (j_make (mk_Plan_2 F) hr (by decide) (a_cons j_int (a_cons (j_tup (a_cons (j_tup (a_cons j_str (a_cons (j_tup a_nil) a_nil))) a_nil)) a_nil)))) (a_cons (j_prop (p_Plan_text F) hr (by decide) (j_make (mk_Plan_1 F) hr (by decide) (a_cons j_int a_nil))) (a_cons (j_reprO (s_Plan_repr F) hr (by decide) F.n_repr (a_cons (j_make (mk_Plan_1 F) hr (by decide) (a_cons j_int a_nil)) a_nil)) a_nil)))) (j_lst (a_cons j_str (a_cons j_str (a_cons j_str a_nil)))))
      (b_one (s_ret j_bl))
      b_nil)
      (b_cons (s_if (JW.jt (w_or (t_isn (j_ct (call_boolO F.nb_Plan) lc_boolO F.n_bool rfl (a_cons (j_make (mk_Plan_1 F) hr (by decide) (a_cons j_int a_nil)) a_nil) rfl (by decide) (by decide) rfl rfl) j_bl) (w_or1 (t_isn (j_ct (call_boolO F.nb_Plan) lc_boolO F.n_bool rfl (a_cons (jv 1) a_nil) rfl (by decide) (by decide) rfl rfl) j_bl))))
      (b_one (s_ret j_bl))
      b_nil)
      (b_cons (s_setLc rfl nd (i := 2) rfl rfl rfl (own := [("_law_at", 3)]) (by show BlkOk ["_law_script", "_law_mine", "_law_cells", "_law_at", "_law_cell_here"] (defScope (top 34)) _ [("_law_at", 3)]; constructor <;> first | rfl | decide +kernel) (i_rng1 F.n_range (j_cb ((call_max2 rfl).or (cr_max rfl)) lc_max F.n_max rfl (a_cons j_int (a_cons (j_cb ((call_min2 rfl).or (cr_min rfl)) lc_min F.n_min rfl (a_cons (j_cb call_len lc_len F.n_len rfl (a_cons (jv 0) a_nil) rfl (by decide) (by decide) rfl rfl) (a_cons j_int a_nil)) rfl (by decide) (by decide) rfl rfl) a_nil)) rfl (by decide) (by decide) rfl rfl)) (fun _ _ _ _ _ => (gw_name (i := 3) nd rfl (by first | exact .inl rfl | exact .inr rfl) (by decide))) (fun _ _ _ _ _ => ts_nil) (fun _ _ _ _ _ => (j_call (cal__law_cell F) hr (by decide) (a_cons (jv 0) (a_cons (jv 3) a_nil)))))
      (b_one (s_ret (j_cb (cr_all rfl) lc_all F.n_all rfl (a_cons (j_lc rfl nd (own := [("_law_cell_here", 4)]) (by show BlkOk ["_law_script", "_law_mine", "_law_cells", "_law_at", "_law_cell_here"] (defScope (top 34)) _ [("_law_cell_here", 4)]; constructor <;> first | rfl | decide +kernel) (i_any (jv 2)) (fun _ _ _ _ _ => (gw_name (i := 4) nd rfl (by first | exact .inl rfl | exact .inr rfl) (by decide))) (fun _ _ _ _ _ => ts_nil) (fun _ _ _ _ _ => (j_call (cal__law_right F) hr (by decide) (a_cons (j_call (cal__law_purse F) hr (by decide) (a_cons (jv 4) a_nil)) a_nil)))) a_nil) rfl (by decide) (by decide) rfl rfl)))))))), ?_⟩
  · obtain ⟨_, rfl, _⟩ := h; rfl
  · intro ds M R h
    obtain ⟨zs, rfl, hz, h⟩ := h
    have sl := sl24
    refine seq_step fun N hN => ?_
    simp only [cx_K, nox_K, dRet, dRetN, dAnd, dOr, dNot, dCB, dCons, dVar, dC, dNil, dSeq, dAsg, dgName, dIfS, dNever, dTest, dAndT, dOrT, dNotT, dIf, dBin, dUn, dChain, dstart, dPar, dPar3, dDrop, dFor, dIter, dRng1, dRng2, dNext, dTup, dLst, dCall, dMeth, dProp, dFld, dSetF, dM, dJoined, dJs, dLc, dDc, dSlice, dPart, dNoP, dRetF, dYes, dgSub, dwipe, dEnum, dZip, dTxt, ownD, dMethK, q_plus_int, q_plus_str, q_plus_tup, q_plus_lst, q_fII, q_minus, q_fdiv, q_mod, q_pow, q_mul, q_rep, q_ord_int, q_ord_str, q_len_str, q_len_tup, q_len_lst, q_len_scr, q_len_ref, q_neg, q_fmt_int, q_fmt_str, q_str_int, q_str_str, q_int_int, q_int_bl, q_int_str, q_bool_int, q_bool_bl, q_abs, q_max, q_min, q_divmod, q_ix_tup, q_ix_lst, q_ix_ref, q_ix_scr, q_ix_str, q_sl_tup, q_sl_str, q_sl_lst, q_sl_scr, q_tuple_lst, q_tuple_tup, q_tuple_ref, q_in_dic, q_in_tup, q_in_ref, q_in_lst, q_items_lst, q_items_tup, q_items_scr, q_items_str, q_ins, q_ty_int, q_ty_str, q_ty_tup, q_ty_lst, q_ty_non, q_ty_bl, q_ty_ins, q_all, q_gtup, q_gcons, q_gnil, q_join, q_append, q_count, q_isdigit, q_split, ltD, leD, gtD, geD, isStrD, valN, clsD, List.map_cons, List.map_nil, List.length_cons, List.length_nil, List.replicate_zero, List.replicate_succ, List.cons_append, List.nil_append, List.append_nil, List.getElem?_cons_zero, List.getElem?_cons_succ, List.set_cons_zero, List.set_cons_succ, List.zip_cons_cons, List.zip_nil_left, List.zip_nil_right, List.lookup_cons, List.lookup_nil, Option.some.injEq, exists_eq_left', exists_eq_left, exists_eq', exists_eq, HD.D.bl.injEq, HD.D.int.injEq, HD.D.str.injEq, HD.D.tup.injEq, HD.D.lst.injEq, HD.D.ref.injEq, List.cons.injEq, and_true, true_and, if_true, if_false, Bool.false_eq_true, ite_true, ite_false, Bool.not_true, Bool.not_false, Int.cast_ofNat_Int, beq_self_eq_true, Nat.sub_self, Nat.reduceSub, Nat.reduceAdd, reduceIte]
    simp only [dMake]
    simp only [cx_K, nox_K, dRet, dRetN, dAnd, dOr, dNot, dCB, dCons, dVar, dC, dNil, dSeq, dAsg, dgName, dIfS, dNever, dTest, dAndT, dOrT, dNotT, dIf, dBin, dUn, dChain, dstart, dPar, dPar3, dDrop, dFor, dIter, dRng1, dRng2, dNext, dTup, dLst, dCall, dMeth, dProp, dFld, dSetF, dM, dJoined, dJs, dLc, dDc, dSlice, dPart, dNoP, dRetF, dYes, dgSub, dwipe, dEnum, dZip, dTxt, ownD, dMethK, q_plus_int, q_plus_str, q_plus_tup, q_plus_lst, q_fII, q_minus, q_fdiv, q_mod, q_pow, q_mul, q_rep, q_ord_int, q_ord_str, q_len_str, q_len_tup, q_len_lst, q_len_scr, q_len_ref, q_neg, q_fmt_int, q_fmt_str, q_str_int, q_str_str, q_int_int, q_int_bl, q_int_str, q_bool_int, q_bool_bl, q_abs, q_max, q_min, q_divmod, q_ix_tup, q_ix_lst, q_ix_ref, q_ix_scr, q_ix_str, q_sl_tup, q_sl_str, q_sl_lst, q_sl_scr, q_tuple_lst, q_tuple_tup, q_tuple_ref, q_in_dic, q_in_tup, q_in_ref, q_in_lst, q_items_lst, q_items_tup, q_items_scr, q_items_str, q_ins, q_ty_int, q_ty_str, q_ty_tup, q_ty_lst, q_ty_non, q_ty_bl, q_ty_ins, q_all, q_gtup, q_gcons, q_gnil, q_join, q_append, q_count, q_isdigit, q_split, ltD, leD, gtD, geD, isStrD, valN, clsD, List.map_cons, List.map_nil, List.length_cons, List.length_nil, List.replicate_zero, List.replicate_succ, List.cons_append, List.nil_append, List.append_nil, List.getElem?_cons_zero, List.getElem?_cons_succ, List.set_cons_zero, List.set_cons_succ, List.zip_cons_cons, List.zip_nil_left, List.zip_nil_right, List.lookup_cons, List.lookup_nil, Option.some.injEq, exists_eq_left', exists_eq_left, exists_eq', exists_eq, HD.D.bl.injEq, HD.D.int.injEq, HD.D.str.injEq, HD.D.tup.injEq, HD.D.lst.injEq, HD.D.ref.injEq, List.cons.injEq, and_true, true_and, if_true, if_false, Bool.false_eq_true, ite_true, ite_false, Bool.not_true, Bool.not_false, Int.cast_ofNat_Int, beq_self_eq_true, Nat.sub_self, Nat.reduceSub, Nat.reduceAdd, reduceIte]
    refine ⟨by omega, by omega, by omega, by omega, by omega, fun x1 hx1 => ?_⟩
    refine init_ok (wd := 4) (rs := R0) hx1 ok0 (by omega) ?_
    rw [mdel_mput hx1]
    rw [show D.ins (gloA "Plan" K) ["length", "pairs"] [.int ((4 : Nat) : Int), rowsD R0] = planD (gloA "Plan" K) 4 R0 from rfl]
    have ip : ∀ (M : Mm) (wd : Nat) (rs : Rw), insD M (gloA "Plan" K) (planD (gloA "Plan" K) wd rs) = some ((["length", "pairs"] : List Str), [.int (wd : Int), rowsD rs]) := fun M wd rs => if_pos rfl
    refine hN _ _ ?_
    clear hN N
    refine seq_step fun N hN => ?_
    simp only [cx_K, nox_K, dRet, dRetN, dAnd, dOr, dNot, dCB, dCons, dVar, dC, dNil, dSeq, dAsg, dgName, dIfS, dNever, dTest, dAndT, dOrT, dNotT, dIf, dBin, dUn, dChain, dstart, dPar, dPar3, dDrop, dFor, dIter, dRng1, dRng2, dNext, dTup, dLst, dCall, dMeth, dProp, dFld, dSetF, dM, dJoined, dJs, dLc, dDc, dSlice, dPart, dNoP, dRetF, dYes, dgSub, dwipe, dEnum, dZip, dTxt, ownD, dMethK, q_plus_int, q_plus_str, q_plus_tup, q_plus_lst, q_fII, q_minus, q_fdiv, q_mod, q_pow, q_mul, q_rep, q_ord_int, q_ord_str, q_len_str, q_len_tup, q_len_lst, q_len_scr, q_len_ref, q_neg, q_fmt_int, q_fmt_str, q_str_int, q_str_str, q_int_int, q_int_bl, q_int_str, q_bool_int, q_bool_bl, q_abs, q_max, q_min, q_divmod, q_ix_tup, q_ix_lst, q_ix_ref, q_ix_scr, q_ix_str, q_sl_tup, q_sl_str, q_sl_lst, q_sl_scr, q_tuple_lst, q_tuple_tup, q_tuple_ref, q_in_dic, q_in_tup, q_in_ref, q_in_lst, q_items_lst, q_items_tup, q_items_scr, q_items_str, q_ins, q_ty_int, q_ty_str, q_ty_tup, q_ty_lst, q_ty_non, q_ty_bl, q_ty_ins, q_all, q_gtup, q_gcons, q_gnil, q_join, q_append, q_count, q_isdigit, q_split, ltD, leD, gtD, geD, isStrD, valN, clsD, List.map_cons, List.map_nil, List.length_cons, List.length_nil, List.replicate_zero, List.replicate_succ, List.cons_append, List.nil_append, List.append_nil, List.getElem?_cons_zero, List.getElem?_cons_succ, List.set_cons_zero, List.set_cons_succ, List.zip_cons_cons, List.zip_nil_left, List.zip_nil_right, List.lookup_cons, List.lookup_nil, Option.some.injEq, exists_eq_left', exists_eq_left, exists_eq', exists_eq, HD.D.bl.injEq, HD.D.int.injEq, HD.D.str.injEq, HD.D.tup.injEq, HD.D.lst.injEq, HD.D.ref.injEq, List.cons.injEq, and_true, true_and, if_true, if_false, Bool.false_eq_true, ite_true, ite_false, Bool.not_true, Bool.not_false, Int.cast_ofNat_Int, beq_self_eq_true, Nat.sub_self, Nat.reduceSub, Nat.reduceAdd, reduceIte]
    refine ⟨_, _, ip _ 4 R0, R0, 4, rfl, ⟨ok0, by omega⟩, ?_⟩
    refine ⟨_, _, ip _ 4 R0, rfl, R0, 4, (66, [0, 3]), rfl, ⟨ok0, by decide, by omega⟩, ?_⟩
    refine ⟨_, _, ip _ 4 R0, rfl, R0, 4, (81, []), rfl, ⟨ok0, by decide, by omega⟩, ?_⟩
    refine ⟨by omega, by omega, ?_⟩
    have e1 : textT 4 R0 = Str.ofString "4\nB #..#\nQ ...." := by decide +kernel
    have e2 : marksT [0, 3] 4 = Str.ofString "#..#" := by decide +kernel
    have e3 : marksT [] 4 = Str.ofString "...." := by decide +kernel
    rw [e1, e2, e3]
    refine eqD_same (texts_sm [Str.ofString "4\nB #..#\nQ ....", Str.ofString "#..#", Str.ofString "...."] (by decide +kernel) (by decide +kernel) (by decide)) (by omega) ?_
    simp only [cx_K, nox_K, dRet, dRetN, dAnd, dOr, dNot, dCB, dCons, dVar, dC, dNil, dSeq, dAsg, dgName, dIfS, dNever, dTest, dAndT, dOrT, dNotT, dIf, dBin, dUn, dChain, dstart, dPar, dPar3, dDrop, dFor, dIter, dRng1, dRng2, dNext, dTup, dLst, dCall, dMeth, dProp, dFld, dSetF, dM, dJoined, dJs, dLc, dDc, dSlice, dPart, dNoP, dRetF, dYes, dgSub, dwipe, dEnum, dZip, dTxt, ownD, dMethK, q_plus_int, q_plus_str, q_plus_tup, q_plus_lst, q_fII, q_minus, q_fdiv, q_mod, q_pow, q_mul, q_rep, q_ord_int, q_ord_str, q_len_str, q_len_tup, q_len_lst, q_len_scr, q_len_ref, q_neg, q_fmt_int, q_fmt_str, q_str_int, q_str_str, q_int_int, q_int_bl, q_int_str, q_bool_int, q_bool_bl, q_abs, q_max, q_min, q_divmod, q_ix_tup, q_ix_lst, q_ix_ref, q_ix_scr, q_ix_str, q_sl_tup, q_sl_str, q_sl_lst, q_sl_scr, q_tuple_lst, q_tuple_tup, q_tuple_ref, q_in_dic, q_in_tup, q_in_ref, q_in_lst, q_items_lst, q_items_tup, q_items_scr, q_items_str, q_ins, q_ty_int, q_ty_str, q_ty_tup, q_ty_lst, q_ty_non, q_ty_bl, q_ty_ins, q_all, q_gtup, q_gcons, q_gnil, q_join, q_append, q_count, q_isdigit, q_split, ltD, leD, gtD, geD, isStrD, valN, clsD, List.map_cons, List.map_nil, List.length_cons, List.length_nil, List.replicate_zero, List.replicate_succ, List.cons_append, List.nil_append, List.append_nil, List.getElem?_cons_zero, List.getElem?_cons_succ, List.set_cons_zero, List.set_cons_succ, List.zip_cons_cons, List.zip_nil_left, List.zip_nil_right, List.lookup_cons, List.lookup_nil, Option.some.injEq, exists_eq_left', exists_eq_left, exists_eq', exists_eq, HD.D.bl.injEq, HD.D.int.injEq, HD.D.str.injEq, HD.D.tup.injEq, HD.D.lst.injEq, HD.D.ref.injEq, List.cons.injEq, and_true, true_and, if_true, if_false, Bool.false_eq_true, ite_true, ite_false, Bool.not_true, Bool.not_false, Int.cast_ofNat_Int, beq_self_eq_true, Nat.sub_self, Nat.reduceSub, Nat.reduceAdd, reduceIte]
    refine hN _ _ ?_
    clear hN N
    refine seq_step fun N hN => ?_
    simp only [cx_K, nox_K, dRet, dRetN, dAnd, dOr, dNot, dCB, dCons, dVar, dC, dNil, dSeq, dAsg, dgName, dIfS, dNever, dTest, dAndT, dOrT, dNotT, dIf, dBin, dUn, dChain, dstart, dPar, dPar3, dDrop, dFor, dIter, dRng1, dRng2, dNext, dTup, dLst, dCall, dMeth, dProp, dFld, dSetF, dM, dJoined, dJs, dLc, dDc, dSlice, dPart, dNoP, dRetF, dYes, dgSub, dwipe, dEnum, dZip, dTxt, ownD, dMethK, q_plus_int, q_plus_str, q_plus_tup, q_plus_lst, q_fII, q_minus, q_fdiv, q_mod, q_pow, q_mul, q_rep, q_ord_int, q_ord_str, q_len_str, q_len_tup, q_len_lst, q_len_scr, q_len_ref, q_neg, q_fmt_int, q_fmt_str, q_str_int, q_str_str, q_int_int, q_int_bl, q_int_str, q_bool_int, q_bool_bl, q_abs, q_max, q_min, q_divmod, q_ix_tup, q_ix_lst, q_ix_ref, q_ix_scr, q_ix_str, q_sl_tup, q_sl_str, q_sl_lst, q_sl_scr, q_tuple_lst, q_tuple_tup, q_tuple_ref, q_in_dic, q_in_tup, q_in_ref, q_in_lst, q_items_lst, q_items_tup, q_items_scr, q_items_str, q_ins, q_ty_int, q_ty_str, q_ty_tup, q_ty_lst, q_ty_non, q_ty_bl, q_ty_ins, q_all, q_gtup, q_gcons, q_gnil, q_join, q_append, q_count, q_isdigit, q_split, ltD, leD, gtD, geD, isStrD, valN, clsD, List.map_cons, List.map_nil, List.length_cons, List.length_nil, List.replicate_zero, List.replicate_succ, List.cons_append, List.nil_append, List.append_nil, List.getElem?_cons_zero, List.getElem?_cons_succ, List.set_cons_zero, List.set_cons_succ, List.zip_cons_cons, List.zip_nil_left, List.zip_nil_right, List.lookup_cons, List.lookup_nil, Option.some.injEq, exists_eq_left', exists_eq_left, exists_eq', exists_eq, HD.D.bl.injEq, HD.D.int.injEq, HD.D.str.injEq, HD.D.tup.injEq, HD.D.lst.injEq, HD.D.ref.injEq, List.cons.injEq, and_true, true_and, if_true, if_false, Bool.false_eq_true, ite_true, ite_false, Bool.not_true, Bool.not_false, Int.cast_ofNat_Int, beq_self_eq_true, Nat.sub_self, Nat.reduceSub, Nat.reduceAdd, reduceIte]
    simp only [dMake]
    simp only [cx_K, nox_K, dRet, dRetN, dAnd, dOr, dNot, dCB, dCons, dVar, dC, dNil, dSeq, dAsg, dgName, dIfS, dNever, dTest, dAndT, dOrT, dNotT, dIf, dBin, dUn, dChain, dstart, dPar, dPar3, dDrop, dFor, dIter, dRng1, dRng2, dNext, dTup, dLst, dCall, dMeth, dProp, dFld, dSetF, dM, dJoined, dJs, dLc, dDc, dSlice, dPart, dNoP, dRetF, dYes, dgSub, dwipe, dEnum, dZip, dTxt, ownD, dMethK, q_plus_int, q_plus_str, q_plus_tup, q_plus_lst, q_fII, q_minus, q_fdiv, q_mod, q_pow, q_mul, q_rep, q_ord_int, q_ord_str, q_len_str, q_len_tup, q_len_lst, q_len_scr, q_len_ref, q_neg, q_fmt_int, q_fmt_str, q_str_int, q_str_str, q_int_int, q_int_bl, q_int_str, q_bool_int, q_bool_bl, q_abs, q_max, q_min, q_divmod, q_ix_tup, q_ix_lst, q_ix_ref, q_ix_scr, q_ix_str, q_sl_tup, q_sl_str, q_sl_lst, q_sl_scr, q_tuple_lst, q_tuple_tup, q_tuple_ref, q_in_dic, q_in_tup, q_in_ref, q_in_lst, q_items_lst, q_items_tup, q_items_scr, q_items_str, q_ins, q_ty_int, q_ty_str, q_ty_tup, q_ty_lst, q_ty_non, q_ty_bl, q_ty_ins, q_all, q_gtup, q_gcons, q_gnil, q_join, q_append, q_count, q_isdigit, q_split, ltD, leD, gtD, geD, isStrD, valN, clsD, List.map_cons, List.map_nil, List.length_cons, List.length_nil, List.replicate_zero, List.replicate_succ, List.cons_append, List.nil_append, List.append_nil, List.getElem?_cons_zero, List.getElem?_cons_succ, List.set_cons_zero, List.set_cons_succ, List.zip_cons_cons, List.zip_nil_left, List.zip_nil_right, List.lookup_cons, List.lookup_nil, Option.some.injEq, exists_eq_left', exists_eq_left, exists_eq', exists_eq, HD.D.bl.injEq, HD.D.int.injEq, HD.D.str.injEq, HD.D.tup.injEq, HD.D.lst.injEq, HD.D.ref.injEq, List.cons.injEq, and_true, true_and, if_true, if_false, Bool.false_eq_true, ite_true, ite_false, Bool.not_true, Bool.not_false, Int.cast_ofNat_Int, beq_self_eq_true, Nat.sub_self, Nat.reduceSub, Nat.reduceAdd, reduceIte]
    refine ⟨by omega, by omega, by omega, fun x2 hx2 => ?_⟩
    refine init_ok (wd := 0) (rs := RA) hx2 okA (by omega) ?_
    rw [mdel_mput hx2]
    refine ⟨_, _, rfl, RA, 0, rfl, ⟨okA, by omega⟩, fun x3 hx3 => ?_⟩
    refine init_ok (wd := 10000) (rs := []) hx3 (OkRs.nil _) (by omega) ?_
    rw [mdel_mput hx3]
    refine ⟨_, _, rfl, [], 10000, rfl, ⟨OkRs.nil _, by omega⟩, fun x4 hx4 => ?_⟩
    refine init_ok (wd := 1) (rs := []) hx4 (OkRs.nil _) (by omega) ?_
    rw [mdel_mput hx4]
    refine ⟨_, _, _, rfl, if_pos rfl, [], 1, rfl, by omega, _, rfl, ?_⟩
    have e4 : textT 0 RA = Str.ofString "0\nA " := by decide +kernel
    have e5 : textT 10000 [] = Str.ofString "10000" := by decide +kernel
    have e6 : reprT 1 = Str.ofString "Plan(1 ticks)" := by decide +kernel
    rw [e4, e5, e6]
    refine ⟨by omega, by omega, ?_⟩
    refine eqD_same (texts_sm [Str.ofString "0\nA ", Str.ofString "10000", Str.ofString "Plan(1 ticks)"] (by decide +kernel) (by decide +kernel) (by decide)) (by omega) ?_
    simp only [cx_K, nox_K, dRet, dRetN, dAnd, dOr, dNot, dCB, dCons, dVar, dC, dNil, dSeq, dAsg, dgName, dIfS, dNever, dTest, dAndT, dOrT, dNotT, dIf, dBin, dUn, dChain, dstart, dPar, dPar3, dDrop, dFor, dIter, dRng1, dRng2, dNext, dTup, dLst, dCall, dMeth, dProp, dFld, dSetF, dM, dJoined, dJs, dLc, dDc, dSlice, dPart, dNoP, dRetF, dYes, dgSub, dwipe, dEnum, dZip, dTxt, ownD, dMethK, q_plus_int, q_plus_str, q_plus_tup, q_plus_lst, q_fII, q_minus, q_fdiv, q_mod, q_pow, q_mul, q_rep, q_ord_int, q_ord_str, q_len_str, q_len_tup, q_len_lst, q_len_scr, q_len_ref, q_neg, q_fmt_int, q_fmt_str, q_str_int, q_str_str, q_int_int, q_int_bl, q_int_str, q_bool_int, q_bool_bl, q_abs, q_max, q_min, q_divmod, q_ix_tup, q_ix_lst, q_ix_ref, q_ix_scr, q_ix_str, q_sl_tup, q_sl_str, q_sl_lst, q_sl_scr, q_tuple_lst, q_tuple_tup, q_tuple_ref, q_in_dic, q_in_tup, q_in_ref, q_in_lst, q_items_lst, q_items_tup, q_items_scr, q_items_str, q_ins, q_ty_int, q_ty_str, q_ty_tup, q_ty_lst, q_ty_non, q_ty_bl, q_ty_ins, q_all, q_gtup, q_gcons, q_gnil, q_join, q_append, q_count, q_isdigit, q_split, ltD, leD, gtD, geD, isStrD, valN, clsD, List.map_cons, List.map_nil, List.length_cons, List.length_nil, List.replicate_zero, List.replicate_succ, List.cons_append, List.nil_append, List.append_nil, List.getElem?_cons_zero, List.getElem?_cons_succ, List.set_cons_zero, List.set_cons_succ, List.zip_cons_cons, List.zip_nil_left, List.zip_nil_right, List.lookup_cons, List.lookup_nil, Option.some.injEq, exists_eq_left', exists_eq_left, exists_eq', exists_eq, HD.D.bl.injEq, HD.D.int.injEq, HD.D.str.injEq, HD.D.tup.injEq, HD.D.lst.injEq, HD.D.ref.injEq, List.cons.injEq, and_true, true_and, if_true, if_false, Bool.false_eq_true, ite_true, ite_false, Bool.not_true, Bool.not_false, Int.cast_ofNat_Int, beq_self_eq_true, Nat.sub_self, Nat.reduceSub, Nat.reduceAdd, reduceIte]
    refine hN _ _ ?_
    clear hN N
    refine seq_step fun N hN => ?_
    simp only [cx_K, nox_K, dRet, dRetN, dAnd, dOr, dNot, dCB, dCons, dVar, dC, dNil, dSeq, dAsg, dgName, dIfS, dNever, dTest, dAndT, dOrT, dNotT, dIf, dBin, dUn, dChain, dstart, dPar, dPar3, dDrop, dFor, dIter, dRng1, dRng2, dNext, dTup, dLst, dCall, dMeth, dProp, dFld, dSetF, dM, dJoined, dJs, dLc, dDc, dSlice, dPart, dNoP, dRetF, dYes, dgSub, dwipe, dEnum, dZip, dTxt, ownD, dMethK, q_plus_int, q_plus_str, q_plus_tup, q_plus_lst, q_fII, q_minus, q_fdiv, q_mod, q_pow, q_mul, q_rep, q_ord_int, q_ord_str, q_len_str, q_len_tup, q_len_lst, q_len_scr, q_len_ref, q_neg, q_fmt_int, q_fmt_str, q_str_int, q_str_str, q_int_int, q_int_bl, q_int_str, q_bool_int, q_bool_bl, q_abs, q_max, q_min, q_divmod, q_ix_tup, q_ix_lst, q_ix_ref, q_ix_scr, q_ix_str, q_sl_tup, q_sl_str, q_sl_lst, q_sl_scr, q_tuple_lst, q_tuple_tup, q_tuple_ref, q_in_dic, q_in_tup, q_in_ref, q_in_lst, q_items_lst, q_items_tup, q_items_scr, q_items_str, q_ins, q_ty_int, q_ty_str, q_ty_tup, q_ty_lst, q_ty_non, q_ty_bl, q_ty_ins, q_all, q_gtup, q_gcons, q_gnil, q_join, q_append, q_count, q_isdigit, q_split, ltD, leD, gtD, geD, isStrD, valN, clsD, List.map_cons, List.map_nil, List.length_cons, List.length_nil, List.replicate_zero, List.replicate_succ, List.cons_append, List.nil_append, List.append_nil, List.getElem?_cons_zero, List.getElem?_cons_succ, List.set_cons_zero, List.set_cons_succ, List.zip_cons_cons, List.zip_nil_left, List.zip_nil_right, List.lookup_cons, List.lookup_nil, Option.some.injEq, exists_eq_left', exists_eq_left, exists_eq', exists_eq, HD.D.bl.injEq, HD.D.int.injEq, HD.D.str.injEq, HD.D.tup.injEq, HD.D.lst.injEq, HD.D.ref.injEq, List.cons.injEq, and_true, true_and, if_true, if_false, Bool.false_eq_true, ite_true, ite_false, Bool.not_true, Bool.not_false, Int.cast_ofNat_Int, beq_self_eq_true, Nat.sub_self, Nat.reduceSub, Nat.reduceAdd, reduceIte]
    simp only [dMake]
    simp only [cx_K, nox_K, dRet, dRetN, dAnd, dOr, dNot, dCB, dCons, dVar, dC, dNil, dSeq, dAsg, dgName, dIfS, dNever, dTest, dAndT, dOrT, dNotT, dIf, dBin, dUn, dChain, dstart, dPar, dPar3, dDrop, dFor, dIter, dRng1, dRng2, dNext, dTup, dLst, dCall, dMeth, dProp, dFld, dSetF, dM, dJoined, dJs, dLc, dDc, dSlice, dPart, dNoP, dRetF, dYes, dgSub, dwipe, dEnum, dZip, dTxt, ownD, dMethK, q_plus_int, q_plus_str, q_plus_tup, q_plus_lst, q_fII, q_minus, q_fdiv, q_mod, q_pow, q_mul, q_rep, q_ord_int, q_ord_str, q_len_str, q_len_tup, q_len_lst, q_len_scr, q_len_ref, q_neg, q_fmt_int, q_fmt_str, q_str_int, q_str_str, q_int_int, q_int_bl, q_int_str, q_bool_int, q_bool_bl, q_abs, q_max, q_min, q_divmod, q_ix_tup, q_ix_lst, q_ix_ref, q_ix_scr, q_ix_str, q_sl_tup, q_sl_str, q_sl_lst, q_sl_scr, q_tuple_lst, q_tuple_tup, q_tuple_ref, q_in_dic, q_in_tup, q_in_ref, q_in_lst, q_items_lst, q_items_tup, q_items_scr, q_items_str, q_ins, q_ty_int, q_ty_str, q_ty_tup, q_ty_lst, q_ty_non, q_ty_bl, q_ty_ins, q_all, q_gtup, q_gcons, q_gnil, q_join, q_append, q_count, q_isdigit, q_split, ltD, leD, gtD, geD, isStrD, valN, clsD, List.map_cons, List.map_nil, List.length_cons, List.length_nil, List.replicate_zero, List.replicate_succ, List.cons_append, List.nil_append, List.append_nil, List.getElem?_cons_zero, List.getElem?_cons_succ, List.set_cons_zero, List.set_cons_succ, List.zip_cons_cons, List.zip_nil_left, List.zip_nil_right, List.lookup_cons, List.lookup_nil, Option.some.injEq, exists_eq_left', exists_eq_left, exists_eq', exists_eq, HD.D.bl.injEq, HD.D.int.injEq, HD.D.str.injEq, HD.D.tup.injEq, HD.D.lst.injEq, HD.D.ref.injEq, List.cons.injEq, and_true, true_and, if_true, if_false, Bool.false_eq_true, ite_true, ite_false, Bool.not_true, Bool.not_false, Int.cast_ofNat_Int, beq_self_eq_true, Nat.sub_self, Nat.reduceSub, Nat.reduceAdd, reduceIte]
    intro x5 hx5
    refine init_ok (wd := 0) (rs := []) hx5 (OkRs.nil _) (by omega) ?_
    rw [mdel_mput hx5]
    refine ⟨_, _, if_pos rfl, ?_⟩
    simp only [q_is]
    simp only [cx_K, nox_K, dRet, dRetN, dAnd, dOr, dNot, dCB, dCons, dVar, dC, dNil, dSeq, dAsg, dgName, dIfS, dNever, dTest, dAndT, dOrT, dNotT, dIf, dBin, dUn, dChain, dstart, dPar, dPar3, dDrop, dFor, dIter, dRng1, dRng2, dNext, dTup, dLst, dCall, dMeth, dProp, dFld, dSetF, dM, dJoined, dJs, dLc, dDc, dSlice, dPart, dNoP, dRetF, dYes, dgSub, dwipe, dEnum, dZip, dTxt, ownD, dMethK, q_plus_int, q_plus_str, q_plus_tup, q_plus_lst, q_fII, q_minus, q_fdiv, q_mod, q_pow, q_mul, q_rep, q_ord_int, q_ord_str, q_len_str, q_len_tup, q_len_lst, q_len_scr, q_len_ref, q_neg, q_fmt_int, q_fmt_str, q_str_int, q_str_str, q_int_int, q_int_bl, q_int_str, q_bool_int, q_bool_bl, q_abs, q_max, q_min, q_divmod, q_ix_tup, q_ix_lst, q_ix_ref, q_ix_scr, q_ix_str, q_sl_tup, q_sl_str, q_sl_lst, q_sl_scr, q_tuple_lst, q_tuple_tup, q_tuple_ref, q_in_dic, q_in_tup, q_in_ref, q_in_lst, q_items_lst, q_items_tup, q_items_scr, q_items_str, q_ins, q_ty_int, q_ty_str, q_ty_tup, q_ty_lst, q_ty_non, q_ty_bl, q_ty_ins, q_all, q_gtup, q_gcons, q_gnil, q_join, q_append, q_count, q_isdigit, q_split, ltD, leD, gtD, geD, isStrD, valN, clsD, List.map_cons, List.map_nil, List.length_cons, List.length_nil, List.replicate_zero, List.replicate_succ, List.cons_append, List.nil_append, List.append_nil, List.getElem?_cons_zero, List.getElem?_cons_succ, List.set_cons_zero, List.set_cons_succ, List.zip_cons_cons, List.zip_nil_left, List.zip_nil_right, List.lookup_cons, List.lookup_nil, Option.some.injEq, exists_eq_left', exists_eq_left, exists_eq', exists_eq, HD.D.bl.injEq, HD.D.int.injEq, HD.D.str.injEq, HD.D.tup.injEq, HD.D.lst.injEq, HD.D.ref.injEq, List.cons.injEq, and_true, true_and, if_true, if_false, Bool.false_eq_true, ite_true, ite_false, Bool.not_true, Bool.not_false, Int.cast_ofNat_Int, beq_self_eq_true, Nat.sub_self, Nat.reduceSub, Nat.reduceAdd, reduceIte]
    rw [if_neg (by simp)]
    refine ⟨_, _, ip _ 4 R0, ?_⟩
    simp only [q_is]
    simp only [cx_K, nox_K, dRet, dRetN, dAnd, dOr, dNot, dCB, dCons, dVar, dC, dNil, dSeq, dAsg, dgName, dIfS, dNever, dTest, dAndT, dOrT, dNotT, dIf, dBin, dUn, dChain, dstart, dPar, dPar3, dDrop, dFor, dIter, dRng1, dRng2, dNext, dTup, dLst, dCall, dMeth, dProp, dFld, dSetF, dM, dJoined, dJs, dLc, dDc, dSlice, dPart, dNoP, dRetF, dYes, dgSub, dwipe, dEnum, dZip, dTxt, ownD, dMethK, q_plus_int, q_plus_str, q_plus_tup, q_plus_lst, q_fII, q_minus, q_fdiv, q_mod, q_pow, q_mul, q_rep, q_ord_int, q_ord_str, q_len_str, q_len_tup, q_len_lst, q_len_scr, q_len_ref, q_neg, q_fmt_int, q_fmt_str, q_str_int, q_str_str, q_int_int, q_int_bl, q_int_str, q_bool_int, q_bool_bl, q_abs, q_max, q_min, q_divmod, q_ix_tup, q_ix_lst, q_ix_ref, q_ix_scr, q_ix_str, q_sl_tup, q_sl_str, q_sl_lst, q_sl_scr, q_tuple_lst, q_tuple_tup, q_tuple_ref, q_in_dic, q_in_tup, q_in_ref, q_in_lst, q_items_lst, q_items_tup, q_items_scr, q_items_str, q_ins, q_ty_int, q_ty_str, q_ty_tup, q_ty_lst, q_ty_non, q_ty_bl, q_ty_ins, q_all, q_gtup, q_gcons, q_gnil, q_join, q_append, q_count, q_isdigit, q_split, ltD, leD, gtD, geD, isStrD, valN, clsD, List.map_cons, List.map_nil, List.length_cons, List.length_nil, List.replicate_zero, List.replicate_succ, List.cons_append, List.nil_append, List.append_nil, List.getElem?_cons_zero, List.getElem?_cons_succ, List.set_cons_zero, List.set_cons_succ, List.zip_cons_cons, List.zip_nil_left, List.zip_nil_right, List.lookup_cons, List.lookup_nil, Option.some.injEq, exists_eq_left', exists_eq_left, exists_eq', exists_eq, HD.D.bl.injEq, HD.D.int.injEq, HD.D.str.injEq, HD.D.tup.injEq, HD.D.lst.injEq, HD.D.ref.injEq, List.cons.injEq, and_true, true_and, if_true, if_false, Bool.false_eq_true, ite_true, ite_false, Bool.not_true, Bool.not_false, Int.cast_ofNat_Int, beq_self_eq_true, Nat.sub_self, Nat.reduceSub, Nat.reduceAdd, reduceIte]
    rw [if_neg (by simp)]
    refine hN _ _ ?_
    clear hN N
    refine seq_step fun N hN => ?_
    simp only [cx_K, nox_K, dRet, dRetN, dAnd, dOr, dNot, dCB, dCons, dVar, dC, dNil, dSeq, dAsg, dgName, dIfS, dNever, dTest, dAndT, dOrT, dNotT, dIf, dBin, dUn, dChain, dstart, dPar, dPar3, dDrop, dFor, dIter, dRng1, dRng2, dNext, dTup, dLst, dCall, dMeth, dProp, dFld, dSetF, dM, dJoined, dJs, dLc, dDc, dSlice, dPart, dNoP, dRetF, dYes, dgSub, dwipe, dEnum, dZip, dTxt, ownD, dMethK, q_plus_int, q_plus_str, q_plus_tup, q_plus_lst, q_fII, q_minus, q_fdiv, q_mod, q_pow, q_mul, q_rep, q_ord_int, q_ord_str, q_len_str, q_len_tup, q_len_lst, q_len_scr, q_len_ref, q_neg, q_fmt_int, q_fmt_str, q_str_int, q_str_str, q_int_int, q_int_bl, q_int_str, q_bool_int, q_bool_bl, q_abs, q_max, q_min, q_divmod, q_ix_tup, q_ix_lst, q_ix_ref, q_ix_scr, q_ix_str, q_sl_tup, q_sl_str, q_sl_lst, q_sl_scr, q_tuple_lst, q_tuple_tup, q_tuple_ref, q_in_dic, q_in_tup, q_in_ref, q_in_lst, q_items_lst, q_items_tup, q_items_scr, q_items_str, q_ins, q_ty_int, q_ty_str, q_ty_tup, q_ty_lst, q_ty_non, q_ty_bl, q_ty_ins, q_all, q_gtup, q_gcons, q_gnil, q_join, q_append, q_count, q_isdigit, q_split, ltD, leD, gtD, geD, isStrD, valN, clsD, List.map_cons, List.map_nil, List.length_cons, List.length_nil, List.replicate_zero, List.replicate_succ, List.cons_append, List.nil_append, List.append_nil, List.getElem?_cons_zero, List.getElem?_cons_succ, List.set_cons_zero, List.set_cons_succ, List.zip_cons_cons, List.zip_nil_left, List.zip_nil_right, List.lookup_cons, List.lookup_nil, Option.some.injEq, exists_eq_left', exists_eq_left, exists_eq', exists_eq, HD.D.bl.injEq, HD.D.int.injEq, HD.D.str.injEq, HD.D.tup.injEq, HD.D.lst.injEq, HD.D.ref.injEq, List.cons.injEq, and_true, true_and, if_true, if_false, Bool.false_eq_true, ite_true, ite_false, Bool.not_true, Bool.not_false, Int.cast_ofNat_Int, beq_self_eq_true, Nat.sub_self, Nat.reduceSub, Nat.reduceAdd, reduceIte]
    generalize hn : (if (if (8 : Int) < (zs.length : Int) then 8 else (zs.length : Int)) > 2 then (if (8 : Int) < (zs.length : Int) then 8 else (zs.length : Int)) else 2) = n
    have nb : 2 ≤ n ∧ n ≤ 8 := by
      rw [← hn]
      split <;> split at * <;> omega
    refine ⟨by omega, by omega, ?_⟩
    rw [rgD_map]
    refine lcD_inv (Good := fun y => ∃ v, y = D.int v) (I := fun M' => M' = M) _ (fun x hx M1 hM K1 K0 k => ?_) [] M _ (by rw [List.length_map, List.length_range, List.length_nil]; omega) (fun y hy => by cases hy) rfl fun ys M1 hy hl hM => ?_
    · obtain ⟨i, hi, rfl⟩ := List.mem_map.mp hx
      have hi2 := List.mem_range.mp hi
      simp only [cx_K, nox_K, dRet, dRetN, dAnd, dOr, dNot, dCB, dCons, dVar, dC, dNil, dSeq, dAsg, dgName, dIfS, dNever, dTest, dAndT, dOrT, dNotT, dIf, dBin, dUn, dChain, dstart, dPar, dPar3, dDrop, dFor, dIter, dRng1, dRng2, dNext, dTup, dLst, dCall, dMeth, dProp, dFld, dSetF, dM, dJoined, dJs, dLc, dDc, dSlice, dPart, dNoP, dRetF, dYes, dgSub, dwipe, dEnum, dZip, dTxt, ownD, dMethK, q_plus_int, q_plus_str, q_plus_tup, q_plus_lst, q_fII, q_minus, q_fdiv, q_mod, q_pow, q_mul, q_rep, q_ord_int, q_ord_str, q_len_str, q_len_tup, q_len_lst, q_len_scr, q_len_ref, q_neg, q_fmt_int, q_fmt_str, q_str_int, q_str_str, q_int_int, q_int_bl, q_int_str, q_bool_int, q_bool_bl, q_abs, q_max, q_min, q_divmod, q_ix_tup, q_ix_lst, q_ix_ref, q_ix_scr, q_ix_str, q_sl_tup, q_sl_str, q_sl_lst, q_sl_scr, q_tuple_lst, q_tuple_tup, q_tuple_ref, q_in_dic, q_in_tup, q_in_ref, q_in_lst, q_items_lst, q_items_tup, q_items_scr, q_items_str, q_ins, q_ty_int, q_ty_str, q_ty_tup, q_ty_lst, q_ty_non, q_ty_bl, q_ty_ins, q_all, q_gtup, q_gcons, q_gnil, q_join, q_append, q_count, q_isdigit, q_split, ltD, leD, gtD, geD, isStrD, valN, clsD, List.map_cons, List.map_nil, List.length_cons, List.length_nil, List.replicate_zero, List.replicate_succ, List.cons_append, List.nil_append, List.append_nil, List.getElem?_cons_zero, List.getElem?_cons_succ, List.set_cons_zero, List.set_cons_succ, List.zip_cons_cons, List.zip_nil_left, List.zip_nil_right, List.lookup_cons, List.lookup_nil, Option.some.injEq, exists_eq_left', exists_eq_left, exists_eq', exists_eq, HD.D.bl.injEq, HD.D.int.injEq, HD.D.str.injEq, HD.D.tup.injEq, HD.D.lst.injEq, HD.D.ref.injEq, List.cons.injEq, and_true, true_and, if_true, if_false, Bool.false_eq_true, ite_true, ite_false, Bool.not_true, Bool.not_false, Int.cast_ofNat_Int, beq_self_eq_true, Nat.sub_self, Nat.reduceSub, Nat.reduceAdd, reduceIte]
      exact ⟨zs, i, rfl, by omega, fun v => k _ _ ⟨v, rfl⟩ hM⟩
    · skip
      refine hN _ _ ?_
      clear hN N
      simp only [cx_K, nox_K, dRet, dRetN, dAnd, dOr, dNot, dCB, dCons, dVar, dC, dNil, dSeq, dAsg, dgName, dIfS, dNever, dTest, dAndT, dOrT, dNotT, dIf, dBin, dUn, dChain, dstart, dPar, dPar3, dDrop, dFor, dIter, dRng1, dRng2, dNext, dTup, dLst, dCall, dMeth, dProp, dFld, dSetF, dM, dJoined, dJs, dLc, dDc, dSlice, dPart, dNoP, dRetF, dYes, dgSub, dwipe, dEnum, dZip, dTxt, ownD, dMethK, q_plus_int, q_plus_str, q_plus_tup, q_plus_lst, q_fII, q_minus, q_fdiv, q_mod, q_pow, q_mul, q_rep, q_ord_int, q_ord_str, q_len_str, q_len_tup, q_len_lst, q_len_scr, q_len_ref, q_neg, q_fmt_int, q_fmt_str, q_str_int, q_str_str, q_int_int, q_int_bl, q_int_str, q_bool_int, q_bool_bl, q_abs, q_max, q_min, q_divmod, q_ix_tup, q_ix_lst, q_ix_ref, q_ix_scr, q_ix_str, q_sl_tup, q_sl_str, q_sl_lst, q_sl_scr, q_tuple_lst, q_tuple_tup, q_tuple_ref, q_in_dic, q_in_tup, q_in_ref, q_in_lst, q_items_lst, q_items_tup, q_items_scr, q_items_str, q_ins, q_ty_int, q_ty_str, q_ty_tup, q_ty_lst, q_ty_non, q_ty_bl, q_ty_ins, q_all, q_gtup, q_gcons, q_gnil, q_join, q_append, q_count, q_isdigit, q_split, ltD, leD, gtD, geD, isStrD, valN, clsD, List.map_cons, List.map_nil, List.length_cons, List.length_nil, List.replicate_zero, List.replicate_succ, List.cons_append, List.nil_append, List.append_nil, List.getElem?_cons_zero, List.getElem?_cons_succ, List.set_cons_zero, List.set_cons_succ, List.zip_cons_cons, List.zip_nil_left, List.zip_nil_right, List.lookup_cons, List.lookup_nil, Option.some.injEq, exists_eq_left', exists_eq_left, exists_eq', exists_eq, HD.D.bl.injEq, HD.D.int.injEq, HD.D.str.injEq, HD.D.tup.injEq, HD.D.lst.injEq, HD.D.ref.injEq, List.cons.injEq, and_true, true_and, if_true, if_false, Bool.false_eq_true, ite_true, ite_false, Bool.not_true, Bool.not_false, Int.cast_ofNat_Int, beq_self_eq_true, Nat.sub_self, Nat.reduceSub, Nat.reduceAdd, reduceIte]
      rw [List.length_map, List.length_range, List.length_nil] at hl
      refine lcD_inv (Good := fun y => y = D.bl true) (I := fun _ => True) _ (fun x hx M2 _ K1 K0 k => ?_) [] M1 _ (by rw [List.length_nil]; omega) (fun y hy => by cases hy) trivial fun ys2 M2 hy2 hl2 _ => ?_
      · obtain ⟨v, rfl⟩ := hy x hx
        simp only [cx_K, nox_K, dRet, dRetN, dAnd, dOr, dNot, dCB, dCons, dVar, dC, dNil, dSeq, dAsg, dgName, dIfS, dNever, dTest, dAndT, dOrT, dNotT, dIf, dBin, dUn, dChain, dstart, dPar, dPar3, dDrop, dFor, dIter, dRng1, dRng2, dNext, dTup, dLst, dCall, dMeth, dProp, dFld, dSetF, dM, dJoined, dJs, dLc, dDc, dSlice, dPart, dNoP, dRetF, dYes, dgSub, dwipe, dEnum, dZip, dTxt, ownD, dMethK, q_plus_int, q_plus_str, q_plus_tup, q_plus_lst, q_fII, q_minus, q_fdiv, q_mod, q_pow, q_mul, q_rep, q_ord_int, q_ord_str, q_len_str, q_len_tup, q_len_lst, q_len_scr, q_len_ref, q_neg, q_fmt_int, q_fmt_str, q_str_int, q_str_str, q_int_int, q_int_bl, q_int_str, q_bool_int, q_bool_bl, q_abs, q_max, q_min, q_divmod, q_ix_tup, q_ix_lst, q_ix_ref, q_ix_scr, q_ix_str, q_sl_tup, q_sl_str, q_sl_lst, q_sl_scr, q_tuple_lst, q_tuple_tup, q_tuple_ref, q_in_dic, q_in_tup, q_in_ref, q_in_lst, q_items_lst, q_items_tup, q_items_scr, q_items_str, q_ins, q_ty_int, q_ty_str, q_ty_tup, q_ty_lst, q_ty_non, q_ty_bl, q_ty_ins, q_all, q_gtup, q_gcons, q_gnil, q_join, q_append, q_count, q_isdigit, q_split, ltD, leD, gtD, geD, isStrD, valN, clsD, List.map_cons, List.map_nil, List.length_cons, List.length_nil, List.replicate_zero, List.replicate_succ, List.cons_append, List.nil_append, List.append_nil, List.getElem?_cons_zero, List.getElem?_cons_succ, List.set_cons_zero, List.set_cons_succ, List.zip_cons_cons, List.zip_nil_left, List.zip_nil_right, List.lookup_cons, List.lookup_nil, Option.some.injEq, exists_eq_left', exists_eq_left, exists_eq', exists_eq, HD.D.bl.injEq, HD.D.int.injEq, HD.D.str.injEq, HD.D.tup.injEq, HD.D.lst.injEq, HD.D.ref.injEq, List.cons.injEq, and_true, true_and, if_true, if_false, Bool.false_eq_true, ite_true, ite_false, Bool.not_true, Bool.not_false, Int.cast_ofNat_Int, beq_self_eq_true, Nat.sub_self, Nat.reduceSub, Nat.reduceAdd, reduceIte]
        refine ⟨v, rfl, fun a g st n ha pv => ⟨a, g, st, n, rfl, ⟨mput_same, pv⟩, fun M' => k _ _ rfl trivial⟩⟩
      · have e1 : ys2 = (ys2.map fun _ => true).map D.bl := by
          rw [List.map_map]
          clear hl2
          induction ys2 with
          | nil => rfl
          | cons y ys2 ih =>
            rw [List.map_cons, hy2 y List.mem_cons_self, ← ih fun z hz => hy2 z (List.mem_cons_of_mem _ hz)]
            rfl
        rw [e1, q_all]
        have e2 : (ys2.map fun _ => true).all id = true := by
          clear e1 hl2 hy2
          induction ys2 with
          | nil => rfl
          | cons y ys2 ih => rw [List.map_cons, List.all_cons, ih]; rfl
        rw [e2]
        exact Ret.of (h M2)
theorem cal_law (F : Fc K mg) : CalD P w K mg base 9 "law" c_law [] := by
  obtain ⟨fd, D⟩ := F.d_law
  refine calD_N D (fn_law F D) F.g_law ?_
  exact fun _ _ _ _ _ _ us hl => match us, hl with | [_], _ => rfl
end K02

set_option maxHeartbeats 0
namespace K02
open PySem PySem.Spec PyProof.Rows L2 HD
def facts : List (PySem.W.Frag → Bool) := [
  fun K => (He.Fa.free "isinstance").ok K,
  fun K => (He.Fa.free "int").ok K,
  fun K => (He.Fa.free "bool").ok K,
  fun K => (He.Fa.free "str").ok K,
  fun K => (He.Fa.free "len").ok K,
  fun K => (He.Fa.free "tuple").ok K,
  fun K => (He.Fa.free "range").ok K,
  fun K => (He.Fa.free "max").ok K,
  fun K => (He.Fa.free "min").ok K,
  fun K => (He.Fa.free "abs").ok K,
  fun K => (He.Fa.free "divmod").ok K,
  fun K => (He.Fa.free "sorted").ok K,
  fun K => (He.Fa.free "dict").ok K,
  fun K => (He.Fa.free "all").ok K,
  fun K => (He.Fa.free "any").ok K,
  fun K => (He.Fa.free "repr").ok K,
  fun K => (He.Fa.int "MOST_TICKS" 10000).ok K,
  fun K => (He.Fa.glo "Plan").ok K,
  fun K => (He.Fa.glo "is_integer").ok K,
  fun K => (He.Fa.glo "is_number").ok K,
  fun K => (He.Fa.glo "is_name").ok K,
  fun K => (He.Fa.glo "are_ticks").ok K,
  fun K => (He.Fa.glo "marks_of").ok K,
  fun K => (He.Fa.glo "are_rows").ok K,
  fun K => (He.Fa.glo "_law_cell").ok K,
  fun K => (He.Fa.glo "_law_purse").ok K,
  fun K => (He.Fa.glo "_law_roll").ok K,
  fun K => (He.Fa.glo "_law_letters").ok K,
  fun K => (He.Fa.glo "_law_set").ok K,
  fun K => (He.Fa.glo "_law_drawn_rows").ok K,
  fun K => (He.Fa.glo "_law_marks").ok K,
  fun K => (He.Fa.glo "_law_plan_text").ok K,
  fun K => (He.Fa.glo "_law_drawn").ok K,
  fun K => (He.Fa.glo "_law_turned").ok K,
  fun K => (He.Fa.glo "_law_is").ok K,
  fun K => (He.Fa.glo "_law_unlike").ok K,
  fun K => (He.Fa.glo "_law_right").ok K,
  fun K => (He.Fa.glo "law").ok K,
  fun K => (He.Fa.cls "Plan").ok K,
  fun K => (He.Fa.noat "Plan" "length").ok K,
  fun K => (He.Fa.noat "Plan" "pairs").ok K,
  fun K => tyiB "Plan" K,
  fun K => noB "Plan" "__bool__" K,
  fun K => noB "Plan" "__len__" K,
  fun K => neB "Plan" K,
  fun K => (He.Fa.mkr "Plan").ok K,
  fun K => nilB (dfltA (metA "Plan" "__init__") 0) K,
  fun K => kitO (clV "Plan") (clV "Plan") true K,
  fun K => kitO (tyV' "NoneType") (clV "Plan") false K,
  fun K => kitO (tyV' "int") (clV "Plan") false K,
  fun K => kitO (tyV' "tuple") (clV "Plan") false K,
  fun K => kitO (tyV' "str") (clV "Plan") false K,
  fun K => firstB "Plan" (tyV' "NoneType") K,
  fun K => firstB "Plan" (tyV' "int") K,
  fun K => firstB "Plan" (tyV' "tuple") K,
  fun K => firstB "Plan" (tyV' "str") K,
  fun K => propB "Plan" "size" K,
  fun K => propB "Plan" "rows" K,
  fun K => propB "Plan" "names" K,
  fun K => propB "Plan" "text" K,
  fun K => (He.Fa.meth "Plan" "ticks").ok K,
  fun K => (He.Fa.meth "Plan" "marks").ok K,
  fun K => spcB "Plan" "__eq__" K,
  fun K => spcB "Plan" "__eq__" K,
  fun K => spcB "Plan" "__str__" K,
  fun K => spcB "Plan" "__str__" K,
  fun K => spcB "Plan" "__repr__" K,
  fun K => spcB "Plan" "__repr__" K]
def defs : List DefX := [
  ⟨(gloA "is_integer"), "is_integer", "is_integer", defArgs (top 10), defBody (top 10), defScope (top 10), fun _ => []⟩,
  ⟨(gloA "is_number"), "is_number", "is_number", defArgs (top 11), defBody (top 11), defScope (top 11), fun _ => []⟩,
  ⟨(gloA "is_name"), "is_name", "is_name", defArgs (top 13), defBody (top 13), defScope (top 13), fun _ => []⟩,
  ⟨(gloA "are_ticks"), "are_ticks", "are_ticks", defArgs (top 14), defBody (top 14), defScope (top 14), fun _ => []⟩,
  ⟨(gloA "marks_of"), "marks_of", "marks_of", defArgs (top 16), defBody (top 16), defScope (top 16), fun _ => []⟩,
  ⟨(gloA "are_rows"), "are_rows", "are_rows", defArgs (top 17), defBody (top 17), defScope (top 17), fun _ => []⟩,
  ⟨(gloA "_law_cell"), "_law_cell", "_law_cell", defArgs (top 21), defBody (top 21), defScope (top 21), fun _ => []⟩,
  ⟨(gloA "_law_purse"), "_law_purse", "_law_purse", defArgs (top 22), defBody (top 22), defScope (top 22), fun _ => []⟩,
  ⟨(gloA "_law_roll"), "_law_roll", "_law_roll", defArgs (top 23), defBody (top 23), defScope (top 23), fun _ => []⟩,
  ⟨(gloA "_law_letters"), "_law_letters", "_law_letters", defArgs (top 24), defBody (top 24), defScope (top 24), fun _ => []⟩,
  ⟨(gloA "_law_set"), "_law_set", "_law_set", defArgs (top 25), defBody (top 25), defScope (top 25), fun _ => []⟩,
  ⟨(gloA "_law_drawn_rows"), "_law_drawn_rows", "_law_drawn_rows", defArgs (top 26), defBody (top 26), defScope (top 26), fun _ => []⟩,
  ⟨(gloA "_law_marks"), "_law_marks", "_law_marks", defArgs (top 27), defBody (top 27), defScope (top 27), fun _ => []⟩,
  ⟨(gloA "_law_plan_text"), "_law_plan_text", "_law_plan_text", defArgs (top 28), defBody (top 28), defScope (top 28), fun _ => []⟩,
  ⟨(gloA "_law_drawn"), "_law_drawn", "_law_drawn", defArgs (top 29), defBody (top 29), defScope (top 29), fun _ => []⟩,
  ⟨(gloA "_law_turned"), "_law_turned", "_law_turned", defArgs (top 30), defBody (top 30), defScope (top 30), fun _ => []⟩,
  ⟨(gloA "_law_is"), "_law_is", "_law_is", defArgs (top 31), defBody (top 31), defScope (top 31), fun _ => []⟩,
  ⟨(gloA "_law_unlike"), "_law_unlike", "_law_unlike", defArgs (top 32), defBody (top 32), defScope (top 32), fun _ => []⟩,
  ⟨(gloA "_law_right"), "_law_right", "_law_right", defArgs (top 33), defBody (top 33), defScope (top 33), fun _ => []⟩,
  ⟨(gloA "law"), "law", "law", defArgs (top 34), defBody (top 34), defScope (top 34), fun _ => []⟩,
  ⟨(metA "Plan" "__init__"), "__init__", "Plan.__init__", defArgs (inClass (top 19) 0), defBody (inClass (top 19) 0), defScope (inClass (top 19) 0), fun K => [.ref (dfltA (metA "Plan" "__init__") 0 K)]⟩,
  ⟨(getA "Plan" "size"), "size", "Plan.size", defArgs (inClass (top 19) 2), defBody (inClass (top 19) 2), defScope (inClass (top 19) 2), fun _ => []⟩,
  ⟨(getA "Plan" "rows"), "rows", "Plan.rows", defArgs (inClass (top 19) 3), defBody (inClass (top 19) 3), defScope (inClass (top 19) 3), fun _ => []⟩,
  ⟨(getA "Plan" "names"), "names", "Plan.names", defArgs (inClass (top 19) 4), defBody (inClass (top 19) 4), defScope (inClass (top 19) 4), fun _ => []⟩,
  ⟨(getA "Plan" "text"), "text", "Plan.text", defArgs (inClass (top 19) 5), defBody (inClass (top 19) 5), defScope (inClass (top 19) 5), fun _ => []⟩,
  ⟨(metA "Plan" "ticks"), "ticks", "Plan.ticks", defArgs (inClass (top 19) 6), defBody (inClass (top 19) 6), defScope (inClass (top 19) 6), fun _ => []⟩,
  ⟨(metA "Plan" "marks"), "marks", "Plan.marks", defArgs (inClass (top 19) 7), defBody (inClass (top 19) 7), defScope (inClass (top 19) 7), fun _ => []⟩,
  ⟨(metA "Plan" "__eq__"), "__eq__", "Plan.__eq__", defArgs (inClass (top 19) 9), defBody (inClass (top 19) 9), defScope (inClass (top 19) 9), fun _ => []⟩,
  ⟨(metA "Plan" "__str__"), "__str__", "Plan.__str__", defArgs (inClass (top 19) 10), defBody (inClass (top 19) 10), defScope (inClass (top 19) 10), fun _ => []⟩,
  ⟨(metA "Plan" "__repr__"), "__repr__", "Plan.__repr__", defArgs (inClass (top 19) 11), defBody (inClass (top 19) 11), defScope (inClass (top 19) 11), fun _ => []⟩]
theorem fc_of {K : PySem.W.Frag} {h : Heap} {mg : Str → Option Value} (X : K.In h) (G : h.Ns mainGlobals mg) (c : SaysX facts defs K) : Fc K mg where
  n_isinstance := He.free_ok X G (c.fact 0 (f := fun K => (He.Fa.free "isinstance").ok K) rfl)
  n_int := He.free_ok X G (c.fact 1 (f := fun K => (He.Fa.free "int").ok K) rfl)
  n_bool := He.free_ok X G (c.fact 2 (f := fun K => (He.Fa.free "bool").ok K) rfl)
  n_str := He.free_ok X G (c.fact 3 (f := fun K => (He.Fa.free "str").ok K) rfl)
  n_len := He.free_ok X G (c.fact 4 (f := fun K => (He.Fa.free "len").ok K) rfl)
  n_tuple := He.free_ok X G (c.fact 5 (f := fun K => (He.Fa.free "tuple").ok K) rfl)
  n_range := He.free_ok X G (c.fact 6 (f := fun K => (He.Fa.free "range").ok K) rfl)
  n_max := He.free_ok X G (c.fact 7 (f := fun K => (He.Fa.free "max").ok K) rfl)
  n_min := He.free_ok X G (c.fact 8 (f := fun K => (He.Fa.free "min").ok K) rfl)
  n_abs := He.free_ok X G (c.fact 9 (f := fun K => (He.Fa.free "abs").ok K) rfl)
  n_divmod := He.free_ok X G (c.fact 10 (f := fun K => (He.Fa.free "divmod").ok K) rfl)
  n_sorted := He.free_ok X G (c.fact 11 (f := fun K => (He.Fa.free "sorted").ok K) rfl)
  n_dict := He.free_ok X G (c.fact 12 (f := fun K => (He.Fa.free "dict").ok K) rfl)
  n_all := He.free_ok X G (c.fact 13 (f := fun K => (He.Fa.free "all").ok K) rfl)
  n_any := He.free_ok X G (c.fact 14 (f := fun K => (He.Fa.free "any").ok K) rfl)
  n_repr := He.free_ok X G (c.fact 15 (f := fun K => (He.Fa.free "repr").ok K) rfl)
  i_MOST_TICKS := (let ⟨t, e⟩ := He.int_ok X G (c.fact 16 (f := fun K => (He.Fa.int "MOST_TICKS" 10000).ok K) rfl); ⟨_, e, t, rfl⟩)
  g_Plan := He.glo_ok X G (c.fact 17 (f := fun K => (He.Fa.glo "Plan").ok K) rfl)
  g_is_integer := He.glo_ok X G (c.fact 18 (f := fun K => (He.Fa.glo "is_integer").ok K) rfl)
  g_is_number := He.glo_ok X G (c.fact 19 (f := fun K => (He.Fa.glo "is_number").ok K) rfl)
  g_is_name := He.glo_ok X G (c.fact 20 (f := fun K => (He.Fa.glo "is_name").ok K) rfl)
  g_are_ticks := He.glo_ok X G (c.fact 21 (f := fun K => (He.Fa.glo "are_ticks").ok K) rfl)
  g_marks_of := He.glo_ok X G (c.fact 22 (f := fun K => (He.Fa.glo "marks_of").ok K) rfl)
  g_are_rows := He.glo_ok X G (c.fact 23 (f := fun K => (He.Fa.glo "are_rows").ok K) rfl)
  g__law_cell := He.glo_ok X G (c.fact 24 (f := fun K => (He.Fa.glo "_law_cell").ok K) rfl)
  g__law_purse := He.glo_ok X G (c.fact 25 (f := fun K => (He.Fa.glo "_law_purse").ok K) rfl)
  g__law_roll := He.glo_ok X G (c.fact 26 (f := fun K => (He.Fa.glo "_law_roll").ok K) rfl)
  g__law_letters := He.glo_ok X G (c.fact 27 (f := fun K => (He.Fa.glo "_law_letters").ok K) rfl)
  g__law_set := He.glo_ok X G (c.fact 28 (f := fun K => (He.Fa.glo "_law_set").ok K) rfl)
  g__law_drawn_rows := He.glo_ok X G (c.fact 29 (f := fun K => (He.Fa.glo "_law_drawn_rows").ok K) rfl)
  g__law_marks := He.glo_ok X G (c.fact 30 (f := fun K => (He.Fa.glo "_law_marks").ok K) rfl)
  g__law_plan_text := He.glo_ok X G (c.fact 31 (f := fun K => (He.Fa.glo "_law_plan_text").ok K) rfl)
  g__law_drawn := He.glo_ok X G (c.fact 32 (f := fun K => (He.Fa.glo "_law_drawn").ok K) rfl)
  g__law_turned := He.glo_ok X G (c.fact 33 (f := fun K => (He.Fa.glo "_law_turned").ok K) rfl)
  g__law_is := He.glo_ok X G (c.fact 34 (f := fun K => (He.Fa.glo "_law_is").ok K) rfl)
  g__law_unlike := He.glo_ok X G (c.fact 35 (f := fun K => (He.Fa.glo "_law_unlike").ok K) rfl)
  g__law_right := He.glo_ok X G (c.fact 36 (f := fun K => (He.Fa.glo "_law_right").ok K) rfl)
  g_law := He.glo_ok X G (c.fact 37 (f := fun K => (He.Fa.glo "law").ok K) rfl)
  d_is_integer := c.def_ 0 (d := ⟨(gloA "is_integer"), "is_integer", "is_integer", defArgs (top 10), defBody (top 10), defScope (top 10), fun _ => []⟩) rfl
  d_is_number := c.def_ 1 (d := ⟨(gloA "is_number"), "is_number", "is_number", defArgs (top 11), defBody (top 11), defScope (top 11), fun _ => []⟩) rfl
  d_is_name := c.def_ 2 (d := ⟨(gloA "is_name"), "is_name", "is_name", defArgs (top 13), defBody (top 13), defScope (top 13), fun _ => []⟩) rfl
  d_are_ticks := c.def_ 3 (d := ⟨(gloA "are_ticks"), "are_ticks", "are_ticks", defArgs (top 14), defBody (top 14), defScope (top 14), fun _ => []⟩) rfl
  d_marks_of := c.def_ 4 (d := ⟨(gloA "marks_of"), "marks_of", "marks_of", defArgs (top 16), defBody (top 16), defScope (top 16), fun _ => []⟩) rfl
  d_are_rows := c.def_ 5 (d := ⟨(gloA "are_rows"), "are_rows", "are_rows", defArgs (top 17), defBody (top 17), defScope (top 17), fun _ => []⟩) rfl
  d_law_cell := c.def_ 6 (d := ⟨(gloA "_law_cell"), "_law_cell", "_law_cell", defArgs (top 21), defBody (top 21), defScope (top 21), fun _ => []⟩) rfl
  d_law_purse := c.def_ 7 (d := ⟨(gloA "_law_purse"), "_law_purse", "_law_purse", defArgs (top 22), defBody (top 22), defScope (top 22), fun _ => []⟩) rfl
  d_law_roll := c.def_ 8 (d := ⟨(gloA "_law_roll"), "_law_roll", "_law_roll", defArgs (top 23), defBody (top 23), defScope (top 23), fun _ => []⟩) rfl
  d_law_letters := c.def_ 9 (d := ⟨(gloA "_law_letters"), "_law_letters", "_law_letters", defArgs (top 24), defBody (top 24), defScope (top 24), fun _ => []⟩) rfl
  d_law_set := c.def_ 10 (d := ⟨(gloA "_law_set"), "_law_set", "_law_set", defArgs (top 25), defBody (top 25), defScope (top 25), fun _ => []⟩) rfl
  d_law_drawn_rows := c.def_ 11 (d := ⟨(gloA "_law_drawn_rows"), "_law_drawn_rows", "_law_drawn_rows", defArgs (top 26), defBody (top 26), defScope (top 26), fun _ => []⟩) rfl
  d_law_marks := c.def_ 12 (d := ⟨(gloA "_law_marks"), "_law_marks", "_law_marks", defArgs (top 27), defBody (top 27), defScope (top 27), fun _ => []⟩) rfl
  d_law_plan_text := c.def_ 13 (d := ⟨(gloA "_law_plan_text"), "_law_plan_text", "_law_plan_text", defArgs (top 28), defBody (top 28), defScope (top 28), fun _ => []⟩) rfl
  d_law_drawn := c.def_ 14 (d := ⟨(gloA "_law_drawn"), "_law_drawn", "_law_drawn", defArgs (top 29), defBody (top 29), defScope (top 29), fun _ => []⟩) rfl
  d_law_turned := c.def_ 15 (d := ⟨(gloA "_law_turned"), "_law_turned", "_law_turned", defArgs (top 30), defBody (top 30), defScope (top 30), fun _ => []⟩) rfl
  d_law_is := c.def_ 16 (d := ⟨(gloA "_law_is"), "_law_is", "_law_is", defArgs (top 31), defBody (top 31), defScope (top 31), fun _ => []⟩) rfl
  d_law_unlike := c.def_ 17 (d := ⟨(gloA "_law_unlike"), "_law_unlike", "_law_unlike", defArgs (top 32), defBody (top 32), defScope (top 32), fun _ => []⟩) rfl
  d_law_right := c.def_ 18 (d := ⟨(gloA "_law_right"), "_law_right", "_law_right", defArgs (top 33), defBody (top 33), defScope (top 33), fun _ => []⟩) rfl
  d_law := c.def_ 19 (d := ⟨(gloA "law"), "law", "law", defArgs (top 34), defBody (top 34), defScope (top 34), fun _ => []⟩) rfl
  d_Plan_init := c.def_ 20 (d := ⟨(metA "Plan" "__init__"), "__init__", "Plan.__init__", defArgs (inClass (top 19) 0), defBody (inClass (top 19) 0), defScope (inClass (top 19) 0), fun K => [.ref (dfltA (metA "Plan" "__init__") 0 K)]⟩) rfl
  d_Plan_size := c.def_ 21 (d := ⟨(getA "Plan" "size"), "size", "Plan.size", defArgs (inClass (top 19) 2), defBody (inClass (top 19) 2), defScope (inClass (top 19) 2), fun _ => []⟩) rfl
  d_Plan_rows := c.def_ 22 (d := ⟨(getA "Plan" "rows"), "rows", "Plan.rows", defArgs (inClass (top 19) 3), defBody (inClass (top 19) 3), defScope (inClass (top 19) 3), fun _ => []⟩) rfl
  d_Plan_names := c.def_ 23 (d := ⟨(getA "Plan" "names"), "names", "Plan.names", defArgs (inClass (top 19) 4), defBody (inClass (top 19) 4), defScope (inClass (top 19) 4), fun _ => []⟩) rfl
  d_Plan_text := c.def_ 24 (d := ⟨(getA "Plan" "text"), "text", "Plan.text", defArgs (inClass (top 19) 5), defBody (inClass (top 19) 5), defScope (inClass (top 19) 5), fun _ => []⟩) rfl
  d_Plan_ticks := c.def_ 25 (d := ⟨(metA "Plan" "ticks"), "ticks", "Plan.ticks", defArgs (inClass (top 19) 6), defBody (inClass (top 19) 6), defScope (inClass (top 19) 6), fun _ => []⟩) rfl
  d_Plan_marks := c.def_ 26 (d := ⟨(metA "Plan" "marks"), "marks", "Plan.marks", defArgs (inClass (top 19) 7), defBody (inClass (top 19) 7), defScope (inClass (top 19) 7), fun _ => []⟩) rfl
  d_Plan_eq := c.def_ 27 (d := ⟨(metA "Plan" "__eq__"), "__eq__", "Plan.__eq__", defArgs (inClass (top 19) 9), defBody (inClass (top 19) 9), defScope (inClass (top 19) 9), fun _ => []⟩) rfl
  d_Plan_str := c.def_ 28 (d := ⟨(metA "Plan" "__str__"), "__str__", "Plan.__str__", defArgs (inClass (top 19) 10), defBody (inClass (top 19) 10), defScope (inClass (top 19) 10), fun _ => []⟩) rfl
  d_Plan_repr := c.def_ 29 (d := ⟨(metA "Plan" "__repr__"), "__repr__", "Plan.__repr__", defArgs (inClass (top 19) 11), defBody (inClass (top 19) 11), defScope (inClass (top 19) 11), fun _ => []⟩) rfl
  cl_Plan := He.cls_ok (c.fact 38 (f := fun K => (He.Fa.cls "Plan").ok K) rfl)
  na_Plan_length := He.noat_ok (c.fact 39 (f := fun K => (He.Fa.noat "Plan" "length").ok K) rfl)
  na_Plan_pairs := He.noat_ok (c.fact 40 (f := fun K => (He.Fa.noat "Plan" "pairs").ok K) rfl)
  ti_Plan := tyiB_ok (c.fact 41 (f := fun K => tyiB "Plan" K) rfl)
  nb_Plan := ⟨of_decide_eq_true (c.fact 42 (f := fun K => noB "Plan" "__bool__" K) rfl), of_decide_eq_true (c.fact 43 (f := fun K => noB "Plan" "__len__" K) rfl)⟩
  ne_Plan := of_decide_eq_true (c.fact 44 (f := fun K => neB "Plan" K) rfl)
  mk_Plan := He.mkr_ok (c.fact 45 (f := fun K => (He.Fa.mkr "Plan").ok K) rfl)
  nil_Plan := c.fact 46 (f := fun K => nilB (dfltA (metA "Plan" "__init__") 0) K) rfl
  kit_Plan := of_decide_eq_true (c.fact 47 (f := fun K => kitO (clV "Plan") (clV "Plan") true K) rfl)
  kit_ty := fun t ht => by
    simp only [List.mem_cons, List.not_mem_nil, or_false] at ht
    rcases ht with rfl | rfl | rfl | rfl
    · exact of_decide_eq_true (c.fact 48 (f := fun K => kitO (tyV' "NoneType") (clV "Plan") false K) rfl)
    · exact of_decide_eq_true (c.fact 49 (f := fun K => kitO (tyV' "int") (clV "Plan") false K) rfl)
    · exact of_decide_eq_true (c.fact 50 (f := fun K => kitO (tyV' "tuple") (clV "Plan") false K) rfl)
    · exact of_decide_eq_true (c.fact 51 (f := fun K => kitO (tyV' "str") (clV "Plan") false K) rfl)
  nf_ty := fun t ht => by
    simp only [List.mem_cons, List.not_mem_nil, or_false] at ht
    rcases ht with rfl | rfl | rfl | rfl
    · exact (c.fact 52 (f := fun K => firstB "Plan" (tyV' "NoneType") K) rfl)
    · exact (c.fact 53 (f := fun K => firstB "Plan" (tyV' "int") K) rfl)
    · exact (c.fact 54 (f := fun K => firstB "Plan" (tyV' "tuple") K) rfl)
    · exact (c.fact 55 (f := fun K => firstB "Plan" (tyV' "str") K) rfl)
  pr_Plan_size := propB_ok (c.fact 56 (f := fun K => propB "Plan" "size" K) rfl)
  pr_Plan_rows := propB_ok (c.fact 57 (f := fun K => propB "Plan" "rows" K) rfl)
  pr_Plan_names := propB_ok (c.fact 58 (f := fun K => propB "Plan" "names" K) rfl)
  pr_Plan_text := propB_ok (c.fact 59 (f := fun K => propB "Plan" "text" K) rfl)
  me_Plan_ticks := He.meth_ok (c.fact 60 (f := fun K => (He.Fa.meth "Plan" "ticks").ok K) rfl)
  me_Plan_marks := He.meth_ok (c.fact 61 (f := fun K => (He.Fa.meth "Plan" "marks").ok K) rfl)
  sp_Plan_eq := of_decide_eq_true (and2 (c.fact 62 (f := fun K => spcB "Plan" "__eq__" K) rfl)).1
  sf_Plan_eq := (and2 (c.fact 63 (f := fun K => spcB "Plan" "__eq__" K) rfl)).2
  sp_Plan_str := of_decide_eq_true (and2 (c.fact 64 (f := fun K => spcB "Plan" "__str__" K) rfl)).1
  sf_Plan_str := (and2 (c.fact 65 (f := fun K => spcB "Plan" "__str__" K) rfl)).2
  sp_Plan_repr := of_decide_eq_true (and2 (c.fact 66 (f := fun K => spcB "Plan" "__repr__" K) rfl)).1
  sf_Plan_repr := (and2 (c.fact 67 (f := fun K => spcB "Plan" "__repr__" K) rfl)).2
def others : List Str := ["_wall", "WrongValue", "InvalidText", "InvalidNumber", "InvalidRows", "WrongMoment", "UnknownName", "MOST_TICKS", "is_integer", "is_number", "number_in", "is_name", "are_ticks", "marks_of", "are_rows", "row_in", "Plan", "_law_cell", "_law_purse", "_law_roll", "_law_letters", "_law_set", "_law_drawn_rows", "_law_marks", "_law_plan_text", "_law_drawn", "_law_turned", "_law_is", "_law_unlike", "_law_right"]
abbrev RR : PySem.W.OpenRow := PySem.W.OpenLaw.row PySem.Challenge.rw_spansieve_k02_plans_made
abbrev hk : PySem.W.Hook := hookX 6 facts defs
def ob (s : PySem.W.SharedT) : He.AlD := obsXG 6 facts defs (HandSHeadRun.getT s)
theorem ob_eq (s : PySem.W.SharedT) : ob s = hk.obs s.abs := obsXG_eq (HandSHeadRun.getT_eq s)
theorem runs (w : World) : HandSHeadRun.RunEq RR (PySem.W.view RR.prog [34]) hk ob 4000 others w := by
  intro os
  kernel_rfl
end K02
open PySem PySem.W PySem.Calls PyProof.Rows
theorem PySem.Challenge.cw_spansieve_k02_plans_made_holds : PySem.Challenge.rw_spansieve_k02_plans_made.Holds := by
  w_on; o_law
  refine HandSHeadRun.head_any (r := OpenLaw.row PySem.Challenge.rw_spansieve_k02_plans_made) (q := view (OpenLaw.row PySem.Challenge.rw_spansieve_k02_plans_made).prog [34]) (H := K02.hk) (ob := K02.ob) (M := 4000) (loose := K02.others) (d := HandSHeadRun.topDef (OpenLaw.row PySem.Challenge.rw_spansieve_k02_plans_made).prog 34) (kwd := []) K02.ob_eq
    (by kernel_rfl) (fun s => by kernel_rfl) K02.runs (by kernel_rfl) (by kernel_rfl) (by kernel_rfl) (by rfl) (by first | assumption | decide +kernel) (by decide +kernel) ⟨rfl, rfl, rfl, rfl, rfl, by decide +kernel⟩ ?hw ?hc
  case hw => w_witness2
  case hc =>
    refine HD.walkG (l := PySem.Challenge.rw_spansieve_k02_plans_made) (n := 63) (k := 9) (pn := "_law_script") rfl (by decide) (by kernel_rfl) ⟨⟨rfl, by decide, by decide⟩, rfl⟩ ?F
    intro w mg fa h Y G hmg0
    obtain ⟨K, KX, c⟩ := Y
    have F := K02.fc_of KX G c
    have hmg : mg ("law" : PySem.Str) = some (.ref fa) := by
      have e : (HandSHeadRun.topDef (OpenLaw.row PySem.Challenge.rw_spansieve_k02_plans_made).prog 34).name = ("law" : PySem.Str) := by kernel_rfl
      rw [← e]
      exact hmg0
    have ef := hmg.symm.trans F.g_law
    cases ef
    obtain ⟨fd, dF⟩ := F.d_law
    have b := L2.FunD.bindsA (ps := ["_law_script"]) dF fun _ _ _ _ _ _ us hl => match us, hl with | [_], _ => rfl
    exact ⟨K, fd, K02.c_law, KX, fun s v => b s [v] rfl, fun zs hz => ⟨zs, rfl, hz, fun _ => rfl⟩, fun bs _ _ => K02.fn_law F dF⟩
