import PyProof.Rows.All
import Wide.All
import OpenK.AllK
import Wide.FinOn
import HandS.ForMost
import HandS.ForExc
import HandS.Evl
import HandS.IsInst
import HandS.Wide
import HandS.Style
import HandS.Conv
import HandS.SetFor
import HandS.Deep
import HandS.SortInts
import HandS.TryOnly
import KE.KExcLine
import KE.RegKIsAll
import PySem.Challenge.RW_weighvote_k04_whole_ranked
set_option Elab.async false
set_option linter.all false
set_option maxRecDepth 100000
set_option maxHeartbeats 4000000
/-! Values without a heap: what stands in a slot is data (fz), a list of one's own that may still be changed (ow), an object being made (ob), or not known (un). -/
namespace Wv
open PySem L2
open Evl (Ex fresh_back ex_l)

inductive D where
  | non | bl (b : Bool) | int (i : Int) | str (x : Str) | ty (n : String)
  | lst (xs : List D) | tup (xs : List D)
  | obj (C : Addr) (ns : List Str) (ds : List D)
  | fn (a : Addr) | scr (ns : List Int) | emp

mutual
def Den (K : PySem.W.Frag) (H : Hp) : D → V → Prop
  | .non, v => v = .non
  | .bl b, v => v = .bl b
  | .int i, v => v = .int i
  | .str x, v => v = .str x
  | .ty n, v => v = .ty n
  | .lst xs, v => ∃ a vs, v = .ref a ∧ H a = some (.lst vs) ∧ DenL K H xs vs
  | .tup xs, v => ∃ a vs, v = .ref a ∧ H a = some (.tup vs) ∧ DenL K H xs vs
  | .obj C ns ds, v => ∃ a dx vs, v = .ref a ∧ H a = some (.ins C dx (ns.zip vs)) ∧ ns.length = vs.length ∧ DenL K H ds vs
  | .fn a, v => v = .ref a
  | .scr ns, v => ∃ a, v = .ref a ∧ SqL K H a (ns.map V.int)
  | .emp, v => ∃ a, v = .ref a ∧ H a = some (.dK [])
def DenL (K : PySem.W.Frag) (H : Hp) : List D → List V → Prop
  | [], vs => vs = []
  | d :: ds, vs => ∃ v r, vs = v :: r ∧ Den K H d v ∧ DenL K H ds r
end

section
variable {K : PySem.W.Frag} {H H' B B' B'' H'' : Hp}
mutual
theorem den_mono (e : Ex H H') : ∀ {d : D} {v : V}, Den K H d v → Den K H' d v
  | .non, _, h => by simpa only [Den] using h
  | .bl _, _, h => by simpa only [Den] using h
  | .int _, _, h => by simpa only [Den] using h
  | .str _, _, h => by simpa only [Den] using h
  | .ty _, _, h => by simpa only [Den] using h
  | .fn _, _, h => by simpa only [Den] using h
  | .lst xs, v, h => by
    simp only [Den] at h ⊢
    obtain ⟨a, vs, h1, h2, h3⟩ := h
    exact ⟨a, vs, h1, e a _ h2, denL_mono e h3⟩
  | .tup xs, v, h => by
    simp only [Den] at h ⊢
    obtain ⟨a, vs, h1, h2, h3⟩ := h
    exact ⟨a, vs, h1, e a _ h2, denL_mono e h3⟩
  | .obj C ns ds, v, h => by
    simp only [Den] at h ⊢
    obtain ⟨a, dx, vs, h1, h2, h4, h3⟩ := h
    exact ⟨a, dx, vs, h1, e a _ h2, h4, denL_mono e h3⟩
  | .emp, v, h => by
    simp only [Den] at h ⊢
    obtain ⟨a, h1, h2⟩ := h
    exact ⟨a, h1, e a _ h2⟩
  | .scr ns, v, h => by
    simp only [Den] at h ⊢
    obtain ⟨a, h1, h2⟩ := h
    exact ⟨a, h1, ex_l e h2⟩
theorem denL_mono (e : Ex H H') : ∀ {ds : List D} {vs : List V}, DenL K H ds vs → DenL K H' ds vs
  | [], _, h => by simpa only [DenL] using h
  | d :: ds, vs, h => by
    simp only [DenL] at h ⊢
    obtain ⟨v, r, h1, h2, h3⟩ := h
    exact ⟨v, r, h1, den_mono e h2, denL_mono e h3⟩
end
theorem denL_nil : DenL K H [] [] := by simp only [DenL]
theorem denL_cons {d : D} {v : V} {ds : List D} {vs : List V} (h : Den K H d v) (t : DenL K H ds vs) : DenL K H (d :: ds) (v :: vs) := by
  simp only [DenL]
  exact ⟨v, vs, rfl, h, t⟩
theorem denL_inv {d : D} {ds : List D} {vs : List V} (h : DenL K H (d :: ds) vs) : ∃ v r, vs = v :: r ∧ Den K H d v ∧ DenL K H ds r := by
  simpa only [DenL] using h
theorem denL_inv0 {vs : List V} (h : DenL K H [] vs) : vs = [] := by
  simpa only [DenL] using h
theorem denL_len : ∀ {ds : List D} {vs : List V}, DenL K H ds vs → ds.length = vs.length
  | [], vs, h => by rw [denL_inv0 h] <;> rfl
  | d :: ds, vs, h => by
    obtain ⟨v, r, rfl, _, h3⟩ := denL_inv h
    simp only [List.length_cons, denL_len h3]
theorem denL_app : ∀ {ds es : List D} {vs us : List V}, DenL K H ds vs → DenL K H es us → DenL K H (ds ++ es) (vs ++ us)
  | [], _, vs, _, h, h' => by
    rw [denL_inv0 h]
    exact h'
  | d :: ds, es, vs, us, h, h' => by
    obtain ⟨v, r, rfl, h2, h3⟩ := denL_inv h
    exact denL_cons h2 (denL_app h3 h')
theorem denL_get : ∀ {ds : List D} {vs : List V} {i : Nat} {d : D}, DenL K H ds vs → ds[i]? = some d → ∃ v, vs[i]? = some v ∧ Den K H d v
  | [], _, i, _, _, e => by simp at e
  | d :: ds, vs, 0, d', h, e => by
    obtain ⟨v, r, rfl, h2, h3⟩ := denL_inv h
    simp at e
    subst e
    exact ⟨v, rfl, h2⟩
  | d :: ds, vs, i + 1, d', h, e => by
    obtain ⟨v, r, rfl, h2, h3⟩ := denL_inv h
    obtain ⟨u, h4, h5⟩ := denL_get (i := i) h3 (by simpa using e)
    exact ⟨u, by simpa using h4, h5⟩
theorem denL_getV : ∀ {ds : List D} {vs : List V} {i : Nat} {v : V}, DenL K H ds vs → vs[i]? = some v → ∃ d, ds[i]? = some d ∧ Den K H d v
  | [], vs, i, _, h, e => by
    rw [denL_inv0 h] at e
    simp at e
  | d :: ds, vs, 0, v', h, e => by
    obtain ⟨v, r, rfl, h2, h3⟩ := denL_inv h
    simp at e
    subst e
    exact ⟨d, rfl, h2⟩
  | d :: ds, vs, i + 1, d', h, e => by
    obtain ⟨v, r, rfl, h2, h3⟩ := denL_inv h
    obtain ⟨u, h4, h5⟩ := denL_getV (i := i) h3 (by simpa using e)
    exact ⟨u, by simpa using h4, h5⟩
theorem denL_set : ∀ {ds : List D} {vs : List V} {i : Nat} {d : D} {v : V}, DenL K H ds vs → Den K H d v → DenL K H (ds.set i d) (vs.set i v)
  | [], _, i, _, _, h, _ => by
    rw [denL_inv0 h]
    exact denL_nil
  | d :: ds, vs, 0, d', _, h, e => by
    obtain ⟨v, r, rfl, h2, h3⟩ := denL_inv h
    exact denL_cons e h3
  | d :: ds, vs, i + 1, d', _, h, e => by
    obtain ⟨v, r, rfl, h2, h3⟩ := denL_inv h
    exact denL_cons h2 (denL_set h3 e)
theorem denL_take : ∀ {ds : List D} {vs : List V} (n : Nat), DenL K H ds vs → DenL K H (ds.take n) (vs.take n)
  | ds, vs, 0, h => by simpa using denL_nil
  | [], vs, n + 1, h => by
    rw [denL_inv0 h]
    exact denL_nil
  | d :: ds, vs, n + 1, h => by
    obtain ⟨v, r, rfl, h2, h3⟩ := denL_inv h
    exact denL_cons h2 (denL_take n h3)
theorem denL_drop : ∀ {ds : List D} {vs : List V} (n : Nat), DenL K H ds vs → DenL K H (ds.drop n) (vs.drop n)
  | ds, vs, 0, h => by simpa using h
  | [], vs, n + 1, h => by
    rw [denL_inv0 h]
    exact denL_nil
  | d :: ds, vs, n + 1, h => by
    obtain ⟨v, r, rfl, h2, h3⟩ := denL_inv h
    exact denL_drop n h3
theorem denL_ints : ∀ {ns : List Int} {vs : List V}, DenL K H (ns.map D.int) vs → vs = ns.map V.int
  | [], vs, h => denL_inv0 h
  | n :: ns, vs, h => by
    obtain ⟨v, r, rfl, h2, h3⟩ := denL_inv h
    rw [denL_ints h3]
    simp only [Den] at h2
    rw [h2]
    rfl
theorem denL_bls : ∀ {ns : List Bool} {vs : List V}, DenL K H (ns.map D.bl) vs → vs = ns.map V.bl
  | [], vs, h => denL_inv0 h
  | n :: ns, vs, h => by
    obtain ⟨v, r, rfl, h2, h3⟩ := denL_inv h
    rw [denL_bls h3]
    simp only [Den] at h2
    rw [h2]
    rfl
theorem denL_strs : ∀ {ns : List Str} {vs : List V}, DenL K H (ns.map D.str) vs → vs = ns.map V.str
  | [], vs, h => denL_inv0 h
  | n :: ns, vs, h => by
    obtain ⟨v, r, rfl, h2, h3⟩ := denL_inv h
    rw [denL_strs h3]
    simp only [Den] at h2
    rw [h2]
    rfl
theorem den_int {i : Int} {v : V} (h : Den K H (.int i) v) : v = .int i := by simpa only [Den] using h
theorem den_bl {i : Bool} {v : V} (h : Den K H (.bl i) v) : v = .bl i := by simpa only [Den] using h
theorem den_str {i : Str} {v : V} (h : Den K H (.str i) v) : v = .str i := by simpa only [Den] using h
theorem den_non {v : V} (h : Den K H .non v) : v = .non := by simpa only [Den] using h
theorem den_fn {a : Addr} {v : V} (h : Den K H (.fn a) v) : v = .ref a := by simpa only [Den] using h
theorem den_lst {xs : List D} {v : V} (h : Den K H (.lst xs) v) : ∃ a vs, v = .ref a ∧ H a = some (.lst vs) ∧ DenL K H xs vs := by simpa only [Den] using h
theorem den_tup {xs : List D} {v : V} (h : Den K H (.tup xs) v) : ∃ a vs, v = .ref a ∧ H a = some (.tup vs) ∧ DenL K H xs vs := by simpa only [Den] using h
theorem den_obj {C : Addr} {ns : List Str} {xs : List D} {v : V} (h : Den K H (.obj C ns xs) v) : ∃ a dx vs, v = .ref a ∧ H a = some (.ins C dx (ns.zip vs)) ∧ ns.length = vs.length ∧ DenL K H xs vs := by simpa only [Den] using h
theorem den_scr {xs : List Int} {v : V} (h : Den K H (.scr xs) v) : ∃ a, v = .ref a ∧ SqL K H a (xs.map V.int) := by simpa only [Den] using h
theorem mk_int (i : Int) : Den K H (.int i) (.int i) := by simp only [Den]
theorem mk_bl (i : Bool) : Den K H (.bl i) (.bl i) := by simp only [Den]
theorem mk_str (i : Str) : Den K H (.str i) (.str i) := by simp only [Den]
theorem mk_non : Den K H .non .non := by simp only [Den]
theorem den_emp {v : V} (h : Den K H .emp v) : ∃ a, v = .ref a ∧ H a = some (.dK []) := by simpa only [Den] using h
theorem mk_fn (a : Addr) : Den K H (.fn a) (.ref a) := by simp only [Den]
theorem mk_ty (a : String) : Den K H (.ty a) (.ty a) := by simp only [Den]
theorem mk_lst {a : Addr} {vs : List V} {xs : List D} (h : H a = some (.lst vs)) (t : DenL K H xs vs) : Den K H (.lst xs) (.ref a) := by
  simp only [Den]
  exact ⟨a, vs, rfl, h, t⟩
theorem mk_tup {a : Addr} {vs : List V} {xs : List D} (h : H a = some (.tup vs)) (t : DenL K H xs vs) : Den K H (.tup xs) (.ref a) := by
  simp only [Den]
  exact ⟨a, vs, rfl, h, t⟩
theorem mk_obj {a C dx : Addr} {ns : List Str} {vs : List V} {xs : List D} (h : H a = some (.ins C dx (ns.zip vs))) (l : ns.length = vs.length) (t : DenL K H xs vs) : Den K H (.obj C ns xs) (.ref a) := by
  simp only [Den]
  exact ⟨a, dx, vs, rfl, h, l, t⟩

/-! ### growth: B the data's heap, H the whole one -/
structure Gr (B H B' H' : Hp) : Prop where
  eb : Ex B B'
  eh : Ex H H'
  sub : Ex B' H'
  out : ∀ p, B p = none → H p ≠ none → B' p = none
theorem Gr.refl (h : Ex B H) : Gr B H B H := ⟨Ex.refl _, Ex.refl _, h, fun _ h _ => h⟩
theorem Gr.trans (a : Gr B H B' H') (b : Gr B' H' B'' H'') : Gr B H B'' H'' :=
  ⟨a.eb.trans b.eb, a.eh.trans b.eh, b.sub, fun p h1 h2 => b.out p (a.out p h1 h2) fun z => h2 (fresh_back a.eh z)⟩
theorem Gr.back (a : Gr B H B' H') {p : Addr} (h : H' p = none) : H p = none := fresh_back a.eh h
/-- a new object at p becomes data -/
theorem Gr.fz {p : Addr} {o : HO} (a : Gr B H B' H') (s : Ex B H) (h0 : H p = none) (h1 : B' p = none) (h2 : H' p = some o) : Gr B H (upd B' p o) H' := by
  refine ⟨fun q u e => ?_, a.eh, fun q u e => ?_, fun q e1 e2 => ?_⟩
  · rw [upd_ne (ne_of_none (s q u e) h0)]
    exact a.eb q u e
  · by_cases z : q = p
    · subst z
      rw [upd_same] at e
      cases e
      exact h2
    · rw [upd_ne z] at e
      exact a.sub q u e
  · have z : q ≠ p := fun z => e2 (by rw [z]; exact h0)
    rw [upd_ne z]
    exact a.out q e1 e2
theorem ex_upd {p : Addr} {o : HO} (h : B p = none) : Ex B (upd B p o) := Ex.new h
/-- a new object p is laid (into H alone) -/
theorem Gr.lay {p : Addr} {o : HO} (s : Ex B H) (h0 : H p = none) : Gr B H B (upd H p o) :=
  ⟨Ex.refl _, Ex.new h0, s.trans (Ex.new h0), fun _ h _ => h⟩
/-- .. as data -/
theorem Gr.layB {p : Addr} {o : HO} (s : Ex B H) (h0 : H p = none) : Gr B H (upd B p o) (upd H p o) :=
  (Gr.lay s h0).fz s h0 (fresh_back s h0) upd_same

/-! ### results -/
inductive Rs where
  | dat (d : D) | new (xs : List D) | exc (C : Addr) | frs (d : D)
/-- a heap of new objects alone -/
def New (N H : Hp) : Prop := ∀ p o, N p = some o → H p = none
def Post (K : PySem.W.Frag) (E : XK) (B H : Hp) (Q : VK) : Rs → Prop
  | .dat d => ∀ v B' H', Gr B H B' H' → Den K B' d v → Q v H'
  | .new xs => ∀ p vs B' H', Gr B H B' H' → H p = none → B' p = none → H' p = some (.lst vs) → DenL K B' xs vs → Q (.ref p) H'
  | .exc C => ∀ B' H', Gr B H B' H' → E (.ref C) none H'
  | .frs d => ∀ v N B' H', Gr B H B' H' → Ex N B' → New N H → Den K N d v → Q v H'
theorem Post.shift {E : XK} {Q : VK} {r : Rs} (g : Gr B H B' H') (h : Post K E B H Q r) : Post K E B' H' Q r := by
  cases r with
  | dat d => exact fun v B2 H2 g2 => h v B2 H2 (g.trans g2)
  | new xs => exact fun p vs B2 H2 g2 h0 => h p vs B2 H2 (g.trans g2) (g.back h0)
  | exc C => exact fun B2 H2 g2 => h B2 H2 (g.trans g2)
  | frs d => exact fun v N B2 H2 g2 e n => h v N B2 H2 (g.trans g2) e fun p o z => g.back (n p o z)
/-- a promise by its data: f (arguments) (result) -/
def SpR (K : PySem.W.Frag) (f : List D → Rs → Prop) : Sp := fun vs H Q E => ∃ B ds r, Ex B H ∧ DenL K B ds vs ∧ f ds r ∧ Post K E B H Q r

/-! ### states -/
inductive Sl where
  | un | fz (d : D) | ow (xs : List D) | ob (p0 C : Addr) (ns : List Str) (ds : List D) | rg (N : Hp) (d : D)
/-- one's own list, one's own object -/
def Sl.own : Sl → Bool
  | .ow _ => true | .ob _ _ _ _ => true | _ => false
structure SD (K : PySem.W.Frag) (B0 H0 B H : Hp) (σ : L2.St) (sl : List Sl) : Prop where
  gr : Gr B0 H0 B H
  len : σ.length = sl.length
  fz : ∀ (i : Nat) (d : D), sl[i]? = some (.fz d) → ∃ v, σ[i]? = some (some v) ∧ Den K B d v
  ow : ∀ (i : Nat) (xs : List D), sl[i]? = some (.ow xs) → ∃ p vs, σ[i]? = some (some (.ref p)) ∧ H0 p = none ∧ B p = none ∧ H p = some (.lst vs) ∧ DenL K B xs vs
  ob : ∀ (i : Nat) (p0 C : Addr) (ns : List Str) (ds : List D), sl[i]? = some (.ob p0 C ns ds) → ∃ p dx vs, (σ[i]? = some (some (.ref p)) ∧ p = p0) ∧ H0 p = none ∧ B p = none ∧ H p = some (.ins C dx (ns.zip vs)) ∧ ns.length = vs.length ∧ ∃ N, Ex N B ∧ New N H0 ∧ DenL K N ds vs
  ap : ∀ (i j : Nat) (xs ys : List D) (p : Addr), sl[i]? = some (.ow xs) → sl[j]? = some (.ow ys) → σ[i]? = some (some (.ref p)) → σ[j]? = some (some (.ref p)) → i = j
  rg : ∀ (i : Nat) (N : Hp) (d : D), sl[i]? = some (.rg N d) → ∃ v, σ[i]? = some (some v) ∧ New N H0 ∧ (∀ p o, N p = some o → B p = none) ∧ Ex N H ∧ Den K N d v ∧ ∀ (j : Nat) (x : Sl) (p : Addr), sl[j]? = some x → x.own = true → σ[j]? = some (some (.ref p)) → N p = none
end

section
variable {K : PySem.W.Frag} {B0 H0 B H B' H' : Hp} {σ : L2.St} {sl : List Sl}
theorem SD.sub (s : SD K B0 H0 B H σ sl) : Ex B H := s.gr.sub
theorem SD.grow (s : SD K B0 H0 B H σ sl) (g : Gr B H B' H') : SD K B0 H0 B' H' σ sl := by
  refine ⟨s.gr.trans g, s.len, fun i d h => ?_, fun i xs h => ?_, fun i p0 C ns ds h => ?_, s.ap, fun i N d h => ?_⟩
  · obtain ⟨v, h1, h2⟩ := s.fz i d h
    exact ⟨v, h1, den_mono g.eb h2⟩
  · obtain ⟨p, vs, h1, h2, h3, h4, h5⟩ := s.ow i xs h
    exact ⟨p, vs, h1, h2, g.out p h3 (by rw [h4]; simp), g.eh p _ h4, denL_mono g.eb h5⟩
  · obtain ⟨p, dx, vs, h1, h2, h3, h4, h6, h5⟩ := s.ob i p0 C ns ds h
    obtain ⟨N, n1, n2, n3⟩ := h5
    exact ⟨p, dx, vs, h1, h2, g.out p h3 (by rw [h4]; simp), g.eh p _ h4, h6, N, n1.trans g.eb, n2, n3⟩
  · obtain ⟨v, h1, h2, h3, h4, h5, h6⟩ := s.rg i N d h
    exact ⟨v, h1, h2, fun p o z => g.out p (h3 p o z) (by rw [h4 p o z]; simp), h4.trans g.eh, h5, h6⟩
/-- what may be forgotten -/
def Fgt (sl sl' : List Sl) : Prop := sl.length = sl'.length ∧ ∀ i : Nat, sl'[i]? = some .un ∨ sl'[i]? = sl[i]?
theorem Fgt.refl (sl : List Sl) : Fgt sl sl := ⟨rfl, fun _ => .inr rfl⟩
theorem Fgt.nil : Fgt [] [] := Fgt.refl []
theorem Fgt.keep {a : Sl} {l l' : List Sl} (h : Fgt l l') : Fgt (a :: l) (a :: l') := ⟨by simp [h.1], fun i => by
  cases i with
  | zero => exact .inr rfl
  | succ i => simpa using h.2 i⟩
theorem Fgt.drop {a : Sl} {l l' : List Sl} (h : Fgt l l') : Fgt (a :: l) (.un :: l') := ⟨by simp [h.1], fun i => by
  cases i with
  | zero => exact .inl rfl
  | succ i => simpa using h.2 i⟩
theorem SD.fgt {sl' : List Sl} (s : SD K B0 H0 B H σ sl) (f : Fgt sl sl') : SD K B0 H0 B H σ sl' := by
  have k : ∀ (i : Nat) (x : Sl), x ≠ .un → sl'[i]? = some x → sl[i]? = some x := fun i x hx h => by
    rcases f.2 i with z | z
    · rw [z] at h
      exact absurd (Option.some.inj h).symm hx
    · rw [← z]
      exact h
  exact ⟨s.gr, s.len.trans f.1, fun i d h => s.fz i d (k i _ (by simp) h), fun i xs h => s.ow i xs (k i _ (by simp) h), fun i p0 C ns ds h => s.ob i p0 C ns ds (k i _ (by simp) h),
    fun i j xs ys p h1 h2 => s.ap i j xs ys p (k i _ (by simp) h1) (k j _ (by simp) h2), fun i N d h => by
      obtain ⟨v, h1, h2, h3, h4, h5, h6⟩ := s.rg i N d (k i _ (by simp) h)
      exact ⟨v, h1, h2, h3, h4, h5, fun j x p e1 e2 e3 => h6 j x p (k j x (fun z => by rw [z] at e2; cases e2) e1) e2 e3⟩⟩
theorem SD.setFz {i : Nat} {d : D} {v : V} (s : SD K B0 H0 B H σ sl) (h : Den K B d v) : SD K B0 H0 B H (σ.set i (some v)) (sl.set i (.fz d)) := by
  have ne : ∀ (j : Nat) (x : Sl), (∀ d, x ≠ .fz d) → (sl.set i (.fz d))[j]? = some x → j ≠ i ∧ sl[j]? = some x := fun j x hx e => by
    by_cases z : j = i
    · subst z
      by_cases hl : j < sl.length
      · rw [List.getElem?_set_self hl] at e
        exact absurd (Option.some.inj e).symm (hx d)
      · rw [List.getElem?_eq_none (by simpa using hl)] at e
        cases e
    · exact ⟨z, by rw [List.getElem?_set_ne (Ne.symm z)] at e; exact e⟩
  refine ⟨s.gr, by simpa using s.len, fun j d' e => ?_, fun j xs e => ?_, fun j p0 C ns ds e => ?_, fun j k xs ys p e1 e2 e3 e4 => ?_, fun j N d' e => ?_⟩
  · by_cases z : j = i
    · subst z
      by_cases hl : j < sl.length
      · rw [List.getElem?_set_self hl] at e
        cases e
        exact ⟨v, by rw [List.getElem?_set_self (by rw [s.len]; exact hl)], h⟩
      · rw [List.getElem?_eq_none (by simpa using hl)] at e
        cases e
    · rw [List.getElem?_set_ne (Ne.symm z)] at e ⊢
      exact s.fz j d' e
  · obtain ⟨z, e⟩ := ne j _ (by simp) e
    rw [List.getElem?_set_ne (Ne.symm z)]
    exact s.ow j xs e
  · obtain ⟨z, e⟩ := ne j _ (by simp) e
    rw [List.getElem?_set_ne (Ne.symm z)]
    exact s.ob j p0 C ns ds e
  · obtain ⟨z1, e1⟩ := ne j _ (by simp) e1
    obtain ⟨z2, e2⟩ := ne k _ (by simp) e2
    rw [List.getElem?_set_ne (Ne.symm z1)] at e3
    rw [List.getElem?_set_ne (Ne.symm z2)] at e4
    exact s.ap j k xs ys p e1 e2 e3 e4
  · obtain ⟨z, e⟩ := ne j _ (by simp) e
    obtain ⟨v', h1, h2, h3, h4, h5, h6⟩ := s.rg j N _ e
    refine ⟨v', by rw [List.getElem?_set_ne (Ne.symm z)]; exact h1, h2, h3, h4, h5, fun k x p e1 e2 e3 => ?_⟩
    obtain ⟨z1, e1⟩ := ne k x (by cases x <;> first | (simp [Sl.own] at e2; done) | simp) e1
    rw [List.getElem?_set_ne (Ne.symm z1)] at e3
    exact h6 k x p e1 e2 e3
theorem SD.setUn {i : Nat} {v : Option V} (s : SD K B0 H0 B H σ sl) : SD K B0 H0 B H (σ.set i v) (sl.set i .un) := by
  have ne : ∀ (j : Nat) (x : Sl), x ≠ .un → (sl.set i .un)[j]? = some x → j ≠ i ∧ sl[j]? = some x := fun j x hx e => by
    by_cases z : j = i
    · subst z
      by_cases hl : j < sl.length
      · rw [List.getElem?_set_self hl] at e
        exact absurd (Option.some.inj e).symm hx
      · rw [List.getElem?_eq_none (by simpa using hl)] at e
        cases e
    · exact ⟨z, by rw [List.getElem?_set_ne (Ne.symm z)] at e; exact e⟩
  refine ⟨s.gr, by simpa using s.len, fun j d' e => ?_, fun j xs e => ?_, fun j p0 C ns ds e => ?_, fun j k xs ys p e1 e2 e3 e4 => ?_, fun j N d' e => ?_⟩
  · obtain ⟨z, e⟩ := ne j _ (by simp) e
    rw [List.getElem?_set_ne (Ne.symm z)]
    exact s.fz j _ e
  · obtain ⟨z, e⟩ := ne j _ (by simp) e
    rw [List.getElem?_set_ne (Ne.symm z)]
    exact s.ow j xs e
  · obtain ⟨z, e⟩ := ne j _ (by simp) e
    rw [List.getElem?_set_ne (Ne.symm z)]
    exact s.ob j p0 C ns ds e
  · obtain ⟨z1, e1⟩ := ne j _ (by simp) e1
    obtain ⟨z2, e2⟩ := ne k _ (by simp) e2
    rw [List.getElem?_set_ne (Ne.symm z1)] at e3
    rw [List.getElem?_set_ne (Ne.symm z2)] at e4
    exact s.ap j k xs ys p e1 e2 e3 e4
  · obtain ⟨z, e⟩ := ne j _ (by simp) e
    obtain ⟨v', h1, h2, h3, h4, h5, h6⟩ := s.rg j N _ e
    refine ⟨v', by rw [List.getElem?_set_ne (Ne.symm z)]; exact h1, h2, h3, h4, h5, fun k x p e1 e2 e3 => ?_⟩
    obtain ⟨z1, e1⟩ := ne k x (by cases x <;> first | (simp [Sl.own] at e2; done) | simp) e1
    rw [List.getElem?_set_ne (Ne.symm z1)] at e3
    exact h6 k x p e1 e2 e3
/-- a list of one's own comes to slot i: p is new to all that stood ahead -/
theorem SD.setOw {i : Nat} {p : Addr} {vs : List V} {xs : List D} (s : SD K B0 H0 B H σ sl) (h0 : H0 p = none) (h1 : B p = none) (h2 : H p = some (.lst vs)) (h3 : DenL K B xs vs)
    (hn : ∀ (j : Nat) (ys : List D), j ≠ i → sl[j]? = some (.ow ys) → σ[j]? ≠ some (some (.ref p))) (hr : ∀ (j : Nat) (N : Hp) (d : D), sl[j]? = some (.rg N d) → ∃ v, σ[j]? = some (some v) ∧ New N H0 ∧ (∀ p o, N p = some o → B p = none) ∧ Ex N H ∧ Den K N d v ∧ (∀ (j : Nat) (x : Sl) (p : Addr), sl[j]? = some x → x.own = true → σ[j]? = some (some (.ref p)) → N p = none) ∧ N p = none) : SD K B0 H0 B H (σ.set i (some (.ref p))) (sl.set i (.ow xs)) := by
  have at_ : ∀ (j : Nat) (x : Sl), (sl.set i (.ow xs))[j]? = some x → (j = i ∧ x = .ow xs ∧ (σ.set i (some (V.ref p)))[j]? = some (some (.ref p))) ∨ (j ≠ i ∧ sl[j]? = some x ∧ (σ.set i (some (V.ref p)))[j]? = σ[j]?) := fun j x e => by
    by_cases z : j = i
    · subst z
      by_cases hl : j < sl.length
      · rw [List.getElem?_set_self hl] at e
        exact .inl ⟨rfl, (Option.some.inj e).symm, by rw [List.getElem?_set_self (by rw [s.len]; exact hl)]⟩
      · rw [List.getElem?_eq_none (by simpa using hl)] at e
        cases e
    · rw [List.getElem?_set_ne (Ne.symm z)] at e
      exact .inr ⟨z, e, by rw [List.getElem?_set_ne (Ne.symm z)]⟩
  refine ⟨s.gr, by simpa using s.len, fun j d' e => ?_, fun j ys e => ?_, fun j p0 C ns ds e => ?_, fun j k ys zs q e1 e2 e3 e4 => ?_, fun j N d' e => ?_⟩
  · rcases at_ j _ e with ⟨_, z, _⟩ | ⟨_, z, w⟩
    · cases z
    · rw [w]
      exact s.fz j _ z
  · rcases at_ j _ e with ⟨_, z, w⟩ | ⟨_, z, w⟩
    · cases z
      rw [w]
      exact ⟨p, vs, rfl, h0, h1, h2, h3⟩
    · rw [w]
      exact s.ow j _ z
  · rcases at_ j _ e with ⟨_, z, _⟩ | ⟨_, z, w⟩
    · cases z
    · rw [w]
      exact s.ob j _ _ _ _ z
  · rcases at_ j _ e1 with ⟨a1, z1, w1⟩ | ⟨a1, z1, w1⟩
    · rcases at_ k _ e2 with ⟨a2, z2, w2⟩ | ⟨a2, z2, w2⟩
      · rw [a1, a2]
      · rw [w1] at e3
        cases e3
        rw [w2] at e4
        exact absurd e4 (hn k zs a2 z2)
    · rcases at_ k _ e2 with ⟨a2, z2, w2⟩ | ⟨a2, z2, w2⟩
      · rw [w2] at e4
        cases e4
        rw [w1] at e3
        exact absurd e3 (hn j ys a1 z1)
      · rw [w1] at e3
        rw [w2] at e4
        exact s.ap j k ys zs q z1 z2 e3 e4
  · rcases at_ j _ e with ⟨_, z, _⟩ | ⟨_, z, w⟩
    · cases z
    · obtain ⟨v', g1, g2, g3, g4, g5, g6, g7⟩ := hr j _ _ z
      refine ⟨v', by rw [w]; exact g1, g2, g3, g4, g5, fun k x q e1 e2 e3 => ?_⟩
      rcases at_ k _ e1 with ⟨a1, z1, w1⟩ | ⟨a1, z1, w1⟩
      · rw [w1] at e3
        cases e3
        exact g7
      · rw [w1] at e3
        exact g6 k x q z1 e2 e3
/-- a new list (new to H, where the state stood) -/
theorem SD.setNew {i : Nat} {p : Addr} {vs : List V} {xs : List D} (s : SD K B0 H0 B H σ sl) (g : Gr B H B' H') (h0 : H p = none) (h1 : B' p = none) (h2 : H' p = some (.lst vs)) (h3 : DenL K B' xs vs) :
    SD K B0 H0 B' H' (σ.set i (some (.ref p))) (sl.set i (.ow xs)) :=
  (s.grow g).setOw (s.gr.back h0) h1 h2 h3 (fun j ys _ e z => by
    obtain ⟨q, us, e1, _, _, e2, _⟩ := s.ow j ys e
    rw [z] at e1
    cases e1
    rw [h0] at e2
    cases e2) fun j N d e => by
    obtain ⟨v, g1, g2, g3, g4, g5, g6⟩ := s.rg j N d e
    exact ⟨v, g1, g2, fun q o z => g.out q (g3 q o z) (by rw [g4 q o z]; simp), g4.trans g.eh, g5, g6, fresh_back g4 h0⟩
/-- one's own list at slot i is changed -/
theorem SD.mut {i : Nat} {p : Addr} {xs ys : List D} {us : List V} (s : SD K B0 H0 B H σ sl) (hi : sl[i]? = some (.ow xs)) (hp : σ[i]? = some (some (.ref p))) (h3 : DenL K B ys us) :
    SD K B0 H0 B (upd H p (.lst us)) σ (sl.set i (.ow ys)) := by
  obtain ⟨q, vs, e1, e2, e3, e4, e5⟩ := s.ow i xs hi
  rw [hp] at e1
  cases e1
  have hl : i < sl.length := (List.getElem?_eq_some_iff.mp hi).1
  have nb : ∀ a o, B a = some o → a ≠ p := fun a o h z => by
    rw [z, e3] at h
    cases h
  have at_ : ∀ (j : Nat) (x : Sl), (sl.set i (.ow ys))[j]? = some x → (j = i ∧ x = .ow ys) ∨ (j ≠ i ∧ sl[j]? = some x) := fun j x e => by
    by_cases z : j = i
    · subst z
      rw [List.getElem?_set_self hl] at e
      exact .inl ⟨rfl, (Option.some.inj e).symm⟩
    · rw [List.getElem?_set_ne (Ne.symm z)] at e
      exact .inr ⟨z, e⟩
  refine ⟨⟨s.gr.eb, fun a o h => ?_, fun a o h => ?_, s.gr.out⟩, by simpa using s.len, fun j d' e => ?_, fun j zs e => ?_, fun j p0 C ns ds e => ?_, fun j k zs ws r f1 f2 f3 f4 => ?_, fun j N d' e => ?_⟩
  · rw [upd_ne (ne_of_none h e2)]
    exact s.gr.eh a o h
  · rw [upd_ne (nb a o h)]
    exact s.gr.sub a o h
  · rcases at_ j _ e with ⟨_, z⟩ | ⟨_, z⟩
    · cases z
    · exact s.fz j _ z
  · rcases at_ j _ e with ⟨a, z⟩ | ⟨a, z⟩
    · cases z
      subst a
      exact ⟨p, us, hp, e2, e3, upd_same, h3⟩
    · obtain ⟨r, ws, f1, f2, f3, f4, f5⟩ := s.ow j zs z
      refine ⟨r, ws, f1, f2, f3, ?_, f5⟩
      rw [upd_ne]
      · exact f4
      · rintro rfl
        exact a (s.ap j i zs xs r z hi f1 hp)
  · rcases at_ j _ e with ⟨_, z⟩ | ⟨_, z⟩
    · cases z
    · obtain ⟨r, dx, ws, f1, f2, f3, f4, f6, f5⟩ := s.ob j _ _ _ _ z
      refine ⟨r, dx, ws, f1, f2, f3, ?_, f6, f5⟩
      rw [upd_ne]
      · exact f4
      · rintro rfl
        rw [e4] at f4
        cases f4
  · have g1 : ∃ xs', sl[j]? = some (.ow xs') := by
      rcases at_ j _ f1 with ⟨a, _⟩ | ⟨_, z⟩
      · exact ⟨xs, by rw [a]; exact hi⟩
      · exact ⟨zs, z⟩
    have g2 : ∃ xs', sl[k]? = some (.ow xs') := by
      rcases at_ k _ f2 with ⟨a, _⟩ | ⟨_, z⟩
      · exact ⟨xs, by rw [a]; exact hi⟩
      · exact ⟨ws, z⟩
    obtain ⟨x1, g1⟩ := g1
    obtain ⟨x2, g2⟩ := g2
    exact s.ap j k x1 x2 r g1 g2 f3 f4
  · rcases at_ j _ e with ⟨_, z⟩ | ⟨_, z⟩
    · cases z
    · obtain ⟨v', g1, g2, g3, g4, g5, g6⟩ := s.rg j N _ z
      refine ⟨v', g1, g2, g3, fun a o h => ?_, g5, fun k x q f1 f2 f3 => ?_⟩
      · have np : N p = none := g6 i _ p hi rfl hp
        rw [upd_ne (ne_of_none h np)]
        exact g4 a o h
      · rcases at_ k _ f1 with ⟨a, _⟩ | ⟨_, w⟩
        · subst a
          exact g6 k _ q hi rfl f3
        · exact g6 k x q w f2 f3
/-- one's own list becomes data -/
theorem SD.fix {i : Nat} {xs : List D} (s : SD K B0 H0 B H σ sl) (hi : sl[i]? = some (.ow xs)) : ∃ B', Ex B B' ∧ SD K B0 H0 B' H σ (sl.set i (.fz (.lst xs))) := by
  obtain ⟨p, vs, e1, e2, e3, e4, e5⟩ := s.ow i xs hi
  have hl : i < sl.length := (List.getElem?_eq_some_iff.mp hi).1
  refine ⟨upd B p (.lst vs), Ex.new e3, ?_⟩
  have at_ : ∀ (j : Nat) (x : Sl), (sl.set i (.fz (.lst xs)))[j]? = some x → (j = i ∧ x = .fz (.lst xs)) ∨ (j ≠ i ∧ sl[j]? = some x) := fun j x e => by
    by_cases z : j = i
    · subst z
      rw [List.getElem?_set_self hl] at e
      exact .inl ⟨rfl, (Option.some.inj e).symm⟩
    · rw [List.getElem?_set_ne (Ne.symm z)] at e
      exact .inr ⟨z, e⟩
  refine ⟨⟨s.gr.eb.trans (Ex.new e3), s.gr.eh, fun a o h => ?_, fun q h1 h2 => ?_⟩, by simpa using s.len, fun j d' e => ?_, fun j zs e => ?_, fun j p0 C ns ds e => ?_, fun j k zs ws r f1 f2 f3 f4 => ?_, fun j N d' e => ?_⟩
  · by_cases z : a = p
    · subst z
      rw [upd_same] at h
      cases h
      exact e4
    · rw [upd_ne z] at h
      exact s.gr.sub a o h
  · rw [upd_ne]
    · exact s.gr.out q h1 h2
    · rintro rfl
      exact h2 e2
  · rcases at_ j _ e with ⟨a, z⟩ | ⟨_, z⟩
    · cases z
      subst a
      exact ⟨_, e1, mk_lst upd_same (denL_mono (Ex.new e3) e5)⟩
    · obtain ⟨v, f1, f2⟩ := s.fz j _ z
      exact ⟨v, f1, den_mono (Ex.new e3) f2⟩
  · rcases at_ j _ e with ⟨a, z⟩ | ⟨a, z⟩
    · cases z
    · obtain ⟨r, ws, f1, f2, f3, f4, f5⟩ := s.ow j zs z
      refine ⟨r, ws, f1, f2, ?_, f4, denL_mono (Ex.new e3) f5⟩
      rw [upd_ne]
      · exact f3
      · rintro rfl
        exact a (s.ap j i zs xs r z hi f1 e1)
  · rcases at_ j _ e with ⟨_, z⟩ | ⟨_, z⟩
    · cases z
    · obtain ⟨r, dx, ws, f1, f2, f3, f4, f6, f5⟩ := s.ob j _ _ _ _ z
      obtain ⟨N, n1, n2, n3⟩ := f5
      refine ⟨r, dx, ws, f1, f2, ?_, f4, f6, N, n1.trans (Ex.new e3), n2, n3⟩
      rw [upd_ne]
      · exact f3
      · rintro rfl
        rw [e4] at f4
        cases f4
  · rcases at_ j _ f1 with ⟨_, z⟩ | ⟨_, z1⟩
    · cases z
    · rcases at_ k _ f2 with ⟨_, z⟩ | ⟨_, z2⟩
      · cases z
      · exact s.ap j k zs ws r z1 z2 f3 f4
  · rcases at_ j _ e with ⟨_, z⟩ | ⟨_, z⟩
    · cases z
    · obtain ⟨v', g1, g2, g3, g4, g5, g6⟩ := s.rg j N _ z
      refine ⟨v', g1, g2, fun a o h => ?_, g4, g5, fun k x q f1 f2 f3 => ?_⟩
      · rw [upd_ne (ne_of_none h (g6 i _ p hi rfl e1))]
        exact g3 a o h
      · rcases at_ k _ f1 with ⟨_, z⟩ | ⟨_, w⟩
        · rw [z] at f2
          cases f2
        · exact g6 k x q w f2 f3
end
end Wv
namespace Wv
open PySem L2
open Evl (Ex fresh_back ex_l)

/-! ### what evaluates to what -/
def EvR (K : PySem.W.Frag) (E : XK) (te : TE) (sl : List Sl) (r : Rs) : Prop := ∀ B0 H0 B H σ, SD K B0 H0 B H σ sl → ∀ Q : VK, Post K E B H Q r → te σ H Q
def EvT (K : PySem.W.Frag) (tt : TT) (sl : List Sl) (b : Bool) : Prop := ∀ B0 H0 B H σ, SD K B0 H0 B H σ sl → ∀ Q : Bool → Hp → Prop, (∀ B' H', Gr B H B' H' → Q b H') → tt σ H Q
def EvA (K : PySem.W.Frag) (ta : TA) (sl : List Sl) (ds : List D) : Prop := ∀ B0 H0 B H σ, SD K B0 H0 B H σ sl → ∀ Q : List V → Hp → Prop, (∀ vs B' H', Gr B H B' H' → DenL K B' ds vs → Q vs H') → ta σ H Q
def EvO (K : PySem.W.Frag) (to : TO) (sl : List Sl) (o : Option Int) : Prop := ∀ B0 H0 B H σ, SD K B0 H0 B H σ sl → ∀ Q : Option Int → Hp → Prop, (∀ B' H', Gr B H B' H' → Q o H') → to σ H Q
def OpD (K : PySem.W.Frag) (r : R2) (x y : D) (z : Rs) : Prop := ∀ B H vx vy, Ex B H → Den K B x vx → Den K B y vy → ∀ (E : XK) (Q : VK), Post K E B H Q z → r vx vy H Q
def UnD (K : PySem.W.Frag) (r : V → Hp → VK → Prop) (x : D) (z : Rs) : Prop := ∀ B H vx, Ex B H → Den K B x vx → ∀ (E : XK) (Q : VK), Post K E B H Q z → r vx H Q
/-- a built-in by its arguments -/
def CbD (K : PySem.W.Frag) (r : List V → Hp → VK → Prop) (ds : List D) (z : Rs) : Prop := ∀ B H vs, Ex B H → DenL K B ds vs → ∀ (E : XK) (Q : VK), Post K E B H Q z → r vs H Q
/-- a built-in method -/
def MtD (K : PySem.W.Frag) (T : String) (r : V → List V → Hp → VK → Prop) (x : D) (ds : List D) (z : Rs) : Prop := ∀ B H v vs, Ex B H → Den K B x v → DenL K B ds vs → ∀ (E : XK) (Q : VK), Post K E B H Q z → tyV K T v H ∧ r v vs H Q
section
variable {K : PySem.W.Frag} {E E' : XK} {B0 H0 B H B' H' : Hp} {σ : L2.St} {sl : List Sl} {ta tb tc te : TE} {t u : TT} {x y z d : D} {xs ys ds : List D} {r r' : R2} {s : Rs} {tr : TA}
theorem post_v {v : V} {Q : VK} (g : Ex B H) (h : Post K E B H Q (.dat d)) (dv : Den K B d v) : Q v H := h v B H (Gr.refl g) dv
theorem EvR.fz (h : EvR K E te sl (.new xs)) : EvR K E te sl (.dat (.lst xs)) := fun B0 H0 B H σ s Q q => h B0 H0 B H σ s Q fun p vs B' H' g h0 h1 h2 h3 =>
  q _ _ _ (g.fz s.sub h0 h1 h2) (mk_lst upd_same (denL_mono (ex_upd h1) h3))
/-- the data of new objects is data -/
theorem EvR.ofF (h : EvR K E te sl (.frs d)) : EvR K E te sl (.dat d) := fun B0 H0 B H σ s Q q => h B0 H0 B H σ s Q fun v N B' H' g e n dv => q v B' H' g (den_mono e dv)
theorem ev_isF (h : EvR K E te sl (.frs d)) (e : d = x) : EvR K E te sl (.frs x) := by
  rw [← e]
  exact h
/-- what holds no address -/
def sca : D → Bool
  | .non => true | .bl _ => true | .int _ => true | .str _ => true | .ty _ => true | .fn _ => true | _ => false
theorem den_sca (h : sca d = true) {v : V} (e : Den K H d v) : Den K B d v := by
  cases d with
  | non => rw [den_non e]; exact mk_non
  | bl b => rw [den_bl e]; exact mk_bl b
  | int b => rw [den_int e]; exact mk_int b
  | str b => rw [den_str e]; exact mk_str b
  | ty b => simpa only [Den] using e
  | fn b => rw [den_fn e]; exact mk_fn b
  | _ => cases h
theorem denL_sca : ∀ {ds : List D} {vs : List V}, (∀ d ∈ ds, sca d = true) → DenL K H ds vs → DenL K B ds vs
  | [], _, _, h => by
    rw [denL_inv0 h]
    exact denL_nil
  | d :: ds, vs, hs, h => by
    obtain ⟨v, r, rfl, h2, h3⟩ := denL_inv h
    exact denL_cons (den_sca (hs d List.mem_cons_self) h2) (denL_sca (fun d hd => hs d (List.mem_cons_of_mem _ hd)) h3)
theorem EvR.frsS (h : EvR K E te sl (.dat d)) (hs : sca d = true) : EvR K E te sl (.frs d) := fun B0 H0 B H σ s Q q => h B0 H0 B H σ s Q fun v B' H' g dv =>
  q v (fun _ => none) B' H' g (fun _ _ z => nomatch z) (fun _ _ z => nomatch z) (den_sca hs dv)
theorem EvR.frsL (h : EvR K E te sl (.new xs)) (hs : ∀ d ∈ xs, sca d = true) : EvR K E te sl (.frs (.lst xs)) := fun B0 H0 B H σ s Q q => h B0 H0 B H σ s Q fun p vs B' H' g h0 h1 h2 h3 => by
  refine q (.ref p) (upd (fun _ => none) p (.lst vs)) _ _ (g.fz s.sub h0 h1 h2) (fun a o z => ?_) (fun a o z => ?_) (mk_lst upd_same (denL_sca hs h3))
  · by_cases e : a = p
    · subst e
      rw [upd_same] at z ⊢
      exact z
    · rw [upd_ne e] at z
      cases z
  · by_cases e : a = p
    · rw [e]
      exact h0
    · rw [upd_ne e] at z
      cases z
theorem ev_is (h : EvR K E te sl (.dat d)) (e : d = x) : EvR K E te sl (.dat x) := by
  rw [← e]
  exact h
theorem ev_isN (h : EvR K E te sl (.new xs)) (e : xs = ys) : EvR K E te sl (.new ys) := by
  rw [← e]
  exact h
theorem et_is {a b : Bool} (h : EvT K t sl a) (e : a = b) : EvT K t sl b := by
  rw [← e]
  exact h
theorem ev_var {i : Nat} (h : sl[i]? = some (.fz d)) : EvR K E (tVar i) sl (.dat d) := fun B0 H0 B H σ s Q q => by
  obtain ⟨v, h1, h2⟩ := s.fz i d h
  exact ⟨v, h1, post_v s.sub q h2⟩
theorem ev_int {i : Int} : EvR K E (tC (.int i)) sl (.dat (.int i)) := fun B0 H0 B H σ s Q q => post_v s.sub q (mk_int i)
theorem ev_bl {i : Bool} : EvR K E (tC (.bl i)) sl (.dat (.bl i)) := fun B0 H0 B H σ s Q q => post_v s.sub q (mk_bl i)
theorem ev_str {i : Str} : EvR K E (tC (.str i)) sl (.dat (.str i)) := fun B0 H0 B H σ s Q q => post_v s.sub q (mk_str i)
theorem ev_non : EvR K E (tC .non) sl (.dat .non) := fun B0 H0 B H σ s Q q => post_v s.sub q mk_non
theorem ev_fn {a : Addr} : EvR K E (tC (.ref a)) sl (.dat (.fn a)) := fun B0 H0 B H σ s Q q => post_v s.sub q (mk_fn a)
theorem ev_ty {a : String} : EvR K E (tC (.ty a)) sl (.dat (.ty a)) := fun B0 H0 B H σ s Q q => post_v s.sub q (mk_ty a)
theorem ev_op (ha : EvR K E ta sl (.dat x)) (hb : EvR K E tb sl (.dat y)) (ho : OpD K r x y s) : EvR K E (tOp r ta tb) sl s := fun B0 H0 B H σ sd Q q =>
  ha B0 H0 B H σ sd _ fun v B1 H1 g1 d1 => hb B0 H0 B1 H1 σ (sd.grow g1) _ fun w B2 H2 g2 d2 => ho B2 H2 v w g2.sub (den_mono g2.eb d1) d2 E Q ((q.shift g1).shift g2)
theorem ev_un {f : V → Hp → VK → Prop} (ha : EvR K E ta sl (.dat x)) (ho : UnD K f x s) : EvR K E (tUn f ta) sl s := fun B0 H0 B H σ sd Q q =>
  ha B0 H0 B H σ sd _ fun v B1 H1 g1 d1 => ho B1 H1 v g1.sub d1 E Q (q.shift g1)
/-! operators -/
theorem od_i {g : Int → Int → Int} {i j : Int} : OpD K (rI0 fun i j => .int (g i j)) (.int i) (.int j) (.dat (.int (g i j))) := fun B H vx vy e dx dy E Q q => by
  rw [den_int dx, den_int dy]
  exact ⟨i, j, rfl, rfl, post_v e q (mk_int _)⟩
theorem od_b {g : Int → Int → Bool} {i j : Int} : OpD K (rI0 fun i j => .bl (g i j)) (.int i) (.int j) (.dat (.bl (g i j))) := fun B H vx vy e dx dy E Q q => by
  rw [den_int dx, den_int dy]
  exact ⟨i, j, rfl, rfl, post_v e q (mk_bl _)⟩
theorem od_ic {C : Int → Int → Prop} {g : Int → Int → Int} {i j : Int} (hc : C i j) : OpD K (rI C fun i j => .int (g i j)) (.int i) (.int j) (.dat (.int (g i j))) := fun B H vx vy e dx dy E Q q => by
  rw [den_int dx, den_int dy]
  exact ⟨i, j, rfl, rfl, hc, post_v e q (mk_int _)⟩
theorem ud_i {g : Int → Int} {i : Int} : UnD K (rU fun i => .int (g i)) (.int i) (.dat (.int (g i))) := fun B H vx e dx E Q q => by
  rw [den_int dx]
  exact ⟨i, rfl, post_v e q (mk_int _)⟩
theorem od_eqI {i j : Int} : OpD K rEq (.int i) (.int j) (.dat (.bl (decide (i = j)))) := fun B H vx vy e dx dy E Q q => by
  rw [den_int dx, den_int dy]
  refine ⟨rfl, post_v e q ?_⟩
  rw [show decide (V.int i = V.int j) = decide (i = j) by simp]
  exact mk_bl _
theorem od_neI {i j : Int} : OpD K rNe (.int i) (.int j) (.dat (.bl (!decide (i = j)))) := fun B H vx vy e dx dy E Q q => by
  rw [den_int dx, den_int dy]
  refine ⟨rfl, post_v e q ?_⟩
  rw [show decide (V.int i = V.int j) = decide (i = j) by simp]
  exact mk_bl _
theorem od_eqB {i j : Bool} : OpD K rEq (.bl i) (.bl j) (.dat (.bl (decide (i = j)))) := fun B H vx vy e dx dy E Q q => by
  rw [den_bl dx, den_bl dy]
  refine ⟨rfl, post_v e q ?_⟩
  rw [show decide (V.bl i = V.bl j) = decide (i = j) by simp]
  exact mk_bl _
theorem od_neB {i j : Bool} : OpD K rNe (.bl i) (.bl j) (.dat (.bl (!decide (i = j)))) := fun B H vx vy e dx dy E Q q => by
  rw [den_bl dx, den_bl dy]
  refine ⟨rfl, post_v e q ?_⟩
  rw [show decide (V.bl i = V.bl j) = decide (i = j) by simp]
  exact mk_bl _
theorem od_eqS {i j : Str} : OpD K rEq (.str i) (.str j) (.dat (.bl (decide (i = j)))) := fun B H vx vy e dx dy E Q q => by
  rw [den_str dx, den_str dy]
  refine ⟨rfl, post_v e q ?_⟩
  rw [show decide (V.str i = V.str j) = decide (i = j) by simp]
  exact mk_bl _
theorem od_neS {i j : Str} : OpD K rNe (.str i) (.str j) (.dat (.bl (!decide (i = j)))) := fun B H vx vy e dx dy E Q q => by
  rw [den_str dx, den_str dy]
  refine ⟨rfl, post_v e q ?_⟩
  rw [show decide (V.str i = V.str j) = decide (i = j) by simp]
  exact mk_bl _
/-! an item -/
theorem atI_of {α : Type} {xs : List α} {i : Int} {v : α} (h0 : 0 ≤ i) (h : xs[i.toNat]? = some v) : atI xs i = some v := by
  have e : i = ((i.toNat : Nat) : Int) := by omega
  rw [e]
  exact atI_nat h
theorem od_ixL {i : Int} (h0 : 0 ≤ i) (h : xs[i.toNat]? = some d) : OpD K (rIxL K) (.lst xs) (.int i) (.dat d) := fun B H vx vy e dx dy E Q q => by
  obtain ⟨a, vs, rfl, h1, h2⟩ := den_lst dx
  rw [den_int dy]
  obtain ⟨v, h3, h4⟩ := denL_get h2 h
  exact ⟨a, vs, i, v, rfl, rfl, SqL.of (e a _ h1), atI_of h0 h3, post_v e q h4⟩
theorem od_ixT {i : Int} (h0 : 0 ≤ i) (h : xs[i.toNat]? = some d) : OpD K (rIxT K) (.tup xs) (.int i) (.dat d) := fun B H vx vy e dx dy E Q q => by
  obtain ⟨a, vs, rfl, h1, h2⟩ := den_tup dx
  rw [den_int dy]
  obtain ⟨v, h3, h4⟩ := denL_get h2 h
  exact ⟨a, vs, i, v, rfl, rfl, SqT.of (e a _ h1), atI_of h0 h3, post_v e q h4⟩
theorem od_ixR {ns : List Int} {i j : Int} (h0 : 0 ≤ i) (h : ns[i.toNat]? = some j) : OpD K (rIxL K) (.scr ns) (.int i) (.dat (.int j)) := fun B H vx vy e dx dy E Q q => by
  obtain ⟨a, rfl, h1⟩ := den_scr dx
  rw [den_int dy]
  exact ⟨a, _, i, .int j, rfl, rfl, ex_l e h1, atI_of h0 (by rw [List.getElem?_map, h]; rfl), post_v e q (mk_int j)⟩
/-! lists joined -/
theorem od_cat (hz : xs.length + ys.length ≤ sizeLine) : OpD K rCat (.lst xs) (.lst ys) (.new (xs ++ ys)) := fun B H vx vy e dx dy E Q q => by
  obtain ⟨a, vs, rfl, h1, h2⟩ := den_lst dx
  obtain ⟨b, us, rfl, h3, h4⟩ := den_lst dy
  exact ⟨a, b, vs, us, rfl, rfl, e a _ h1, e b _ h3, by rw [← denL_len h2, ← denL_len h4]; exact hz, fun p hp => q p _ _ _ (Gr.lay e hp) hp (fresh_back e hp) upd_same (denL_app h2 h4)⟩
/-! membership of scalars -/
def flatD : D → Bool
  | .non => true | .bl _ => true | .int _ => true | .str _ => true | _ => false
def inI (i : Int) (ns : List Int) : Bool := ns.any fun y => decide (y = i)
theorem inV_ints (i : Int) : ∀ ns : List Int, inV (.int i) (ns.map V.int) = decide (i ∈ ns)
  | [] => by simp [inV]
  | n :: ns => by
    have ih := inV_ints i ns
    unfold inV at ih ⊢
    rw [List.map_cons, List.any_cons, ih]
    have e : eqV (.int n) (.int i) = decide (n = i) := by
      first
        | rfl
        | (unfold eqV; simp)
        | simp [eqV]
    rw [e, Bool.eq_iff_iff]
    simp only [Bool.or_eq_true, decide_eq_true_eq, List.mem_cons]
    exact ⟨fun h => h.imp Eq.symm id, fun h => h.imp Eq.symm id⟩
theorem od_inI {neg : Bool} {i : Int} {ns : List Int} : OpD K (rIn K neg) (.int i) (.lst (ns.map D.int)) (.dat (.bl (if neg then !decide (i ∈ ns) else decide (i ∈ ns)))) := fun B H vx vy e dx dy E Q q => by
  obtain ⟨a, vs, rfl, h1, h2⟩ := den_lst dy
  rw [den_int dx]
  have e1 := denL_ints h2
  subst e1
  refine ⟨a, _, rfl, .inl (SqL.of (e a _ h1)), rfl, by simp [flatV], ?_⟩
  rw [inV_ints]
  exact post_v e q (mk_bl _)
/-! == of lists of ints, of truths, of texts, of lists of ints -/
theorem dp_ints : ∀ ns : List Int, DpAll K H (ns.map V.int) (ns.map PyData.int)
  | [] => .nil
  | n :: ns => .cons (.int n) (dp_ints ns)
theorem dp_bls : ∀ ns : List Bool, DpAll K H (ns.map V.bl) (ns.map PyData.bool)
  | [] => .nil
  | n :: ns => .cons (.bl n) (dp_bls ns)
theorem lay_ints : ∀ ns : List Int, PyData.canLayAll0 (ns.map PyData.int) = true
  | [] => by simp [PyData.canLayAll0]
  | n :: ns => by simp [PyData.canLayAll0, PyData.canLay0, lay_ints ns]
theorem dep_ints : ∀ ns : List Int, PyData.depthAll (ns.map PyData.int) = 0
  | [] => by simp [PyData.depthAll]
  | n :: ns => by simp [PyData.depthAll, PyData.depth, dep_ints ns]
theorem lay_bls : ∀ ns : List Bool, PyData.canLayAll0 (ns.map PyData.bool) = true
  | [] => by simp [PyData.canLayAll0]
  | n :: ns => by simp [PyData.canLayAll0, PyData.canLay0, lay_bls ns]
theorem dep_bls : ∀ ns : List Bool, PyData.depthAll (ns.map PyData.bool) = 0
  | [] => by simp [PyData.depthAll]
  | n :: ns => by simp [PyData.depthAll, PyData.depth, dep_bls ns]
theorem sh_ints (ns : List Int) : SeqAt.shaped (.list (ns.map PyData.int)) = true := by
  unfold SeqAt.shaped
  simp [PyData.canLay0, PyData.depth, lay_ints, dep_ints]
theorem sh_bls (ns : List Bool) : SeqAt.shaped (.list (ns.map PyData.bool)) = true := by
  unfold SeqAt.shaped
  simp [PyData.canLay0, PyData.depth, lay_bls, dep_bls]
theorem eqv_ints : ∀ ns ms : List Int, PyData.eqvAll (ns.map PyData.int) (ms.map PyData.int) = decide (ns = ms)
  | [], [] => by simp [PyData.eqvAll]
  | [], _ :: _ => by simp [PyData.eqvAll]
  | _ :: _, [] => by simp [PyData.eqvAll]
  | n :: ns, m :: ms => by
    simp only [List.map_cons, PyData.eqvAll, PyData.eqv, eqv_ints ns ms]
    rw [Bool.eq_iff_iff]
    simp
theorem eqv_bls : ∀ ns ms : List Bool, PyData.eqvAll (ns.map PyData.bool) (ms.map PyData.bool) = decide (ns = ms)
  | [], [] => by simp [PyData.eqvAll]
  | [], _ :: _ => by simp [PyData.eqvAll]
  | _ :: _, [] => by simp [PyData.eqvAll]
  | n :: ns, m :: ms => by
    simp only [List.map_cons, PyData.eqvAll, PyData.eqv, eqv_bls ns ms]
    rw [Bool.eq_iff_iff]
    simp
theorem od_eqL {ns ms : List Int} : OpD K (rEqD K) (.lst (ns.map D.int)) (.lst (ms.map D.int)) (.dat (.bl (decide (ns = ms)))) := fun B H vx vy e dx dy E Q q => by
  obtain ⟨a, vs, rfl, h1, h2⟩ := den_lst dx
  obtain ⟨b, us, rfl, h3, h4⟩ := den_lst dy
  rw [denL_ints h2] at h1
  rw [denL_ints h4] at h3
  refine ⟨_, _, .lst (SqL.of (e a _ h1)) (dp_ints ns), .lst (SqL.of (e b _ h3)) (dp_ints ms), sh_ints ns, sh_ints ms, ?_⟩
  simp only [PyData.eqv, eqv_ints]
  exact post_v e q (mk_bl _)
theorem od_neL {ns ms : List Int} : OpD K (rNeD K) (.lst (ns.map D.int)) (.lst (ms.map D.int)) (.dat (.bl (!decide (ns = ms)))) := fun B H vx vy e dx dy E Q q => by
  obtain ⟨a, vs, rfl, h1, h2⟩ := den_lst dx
  obtain ⟨b, us, rfl, h3, h4⟩ := den_lst dy
  rw [denL_ints h2] at h1
  rw [denL_ints h4] at h3
  refine ⟨_, _, .lst (SqL.of (e a _ h1)) (dp_ints ns), .lst (SqL.of (e b _ h3)) (dp_ints ms), sh_ints ns, sh_ints ms, ?_⟩
  simp only [PyData.eqv, eqv_ints]
  exact post_v e q (mk_bl _)
theorem od_eqLb {ns ms : List Bool} : OpD K (rEqD K) (.lst (ns.map D.bl)) (.lst (ms.map D.bl)) (.dat (.bl (decide (ns = ms)))) := fun B H vx vy e dx dy E Q q => by
  obtain ⟨a, vs, rfl, h1, h2⟩ := den_lst dx
  obtain ⟨b, us, rfl, h3, h4⟩ := den_lst dy
  rw [denL_bls h2] at h1
  rw [denL_bls h4] at h3
  refine ⟨_, _, .lst (SqL.of (e a _ h1)) (dp_bls ns), .lst (SqL.of (e b _ h3)) (dp_bls ms), sh_bls ns, sh_bls ms, ?_⟩
  simp only [PyData.eqv, eqv_bls]
  exact post_v e q (mk_bl _)
/-! chains -/
theorem ev_chain {a b : Bool} (ha : EvR K E ta sl (.dat x)) (hb : EvR K E tb sl (.dat y)) (hc : EvR K E tc sl (.dat z)) (h1 : OpD K r x y (.dat (.bl a))) (h2 : OpD K r' y z (.dat (.bl b))) : EvR K E (tChain r r' ta tb tc) sl (.dat (.bl (a && b))) := fun B0 H0 B H σ sd Q q =>
  ha B0 H0 B H σ sd _ fun v B1 H1 g1 d1 => hb B0 H0 B1 H1 σ (sd.grow g1) _ fun w B2 H2 g2 d2 => h1 B2 H2 v w g2.sub (den_mono g2.eb d1) d2 E _ fun k B3 H3 g3 d3 => by
    rw [den_bl d3]
    refine ⟨a, rfl, ?_⟩
    cases a with
    | true =>
      rw [if_pos rfl]
      exact hc B0 H0 B3 H3 σ (((sd.grow g1).grow g2).grow g3) _ fun u B4 H4 g4 d4 => h2 B4 H4 w u g4.sub (den_mono (g3.eb.trans g4.eb) d2) d4 E Q (((q.shift g1).shift g2).shift g3 |>.shift g4)
    | false =>
      rw [if_neg Bool.false_ne_true]
      exact post_v g3.sub (((q.shift g1).shift g2).shift g3) (mk_bl _)
/-! tests -/
theorem et_test {b : Bool} (h : EvR K E0 te sl (.dat (.bl b))) : EvT K (tTest te) sl b := fun B0 H0 B H σ sd Q q => h B0 H0 B H σ sd _ fun v B1 H1 g1 d1 => ⟨b, den_bl d1, q _ _ g1⟩
theorem et_B {b : Bool} (h : EvR K E0 te sl (.dat (.bl b))) : EvT K (tB te) sl b := fun B0 H0 B H σ sd Q q => h B0 H0 B H σ sd _ fun v B1 H1 g1 d1 => ⟨b, den_bl d1, q _ _ g1⟩
theorem et_yes : EvT K tYes sl true := fun B0 H0 B H σ sd Q q => q B H (Gr.refl sd.sub)
theorem et_and {a b : Bool} (h1 : EvT K t sl a) (h2 : a = true → EvT K u sl b) : EvT K (tAnd t u) sl (a && b) := fun B0 H0 B H σ sd Q q => h1 B0 H0 B H σ sd _ fun B1 H1 g1 => by
  cases a with
  | true =>
    rw [if_pos rfl]
    exact h2 rfl B0 H0 B1 H1 σ (sd.grow g1) Q fun B2 H2 g2 => q _ _ (g1.trans g2)
  | false =>
    rw [if_neg Bool.false_ne_true]
    exact q _ _ g1
theorem et_or {a b : Bool} (h1 : EvT K t sl a) (h2 : a = false → EvT K u sl b) : EvT K (tOr t u) sl (a || b) := fun B0 H0 B H σ sd Q q => h1 B0 H0 B H σ sd _ fun B1 H1 g1 => by
  cases a with
  | true =>
    rw [if_pos rfl]
    exact q _ _ g1
  | false =>
    rw [if_neg Bool.false_ne_true]
    exact h2 rfl B0 H0 B1 H1 σ (sd.grow g1) Q fun B2 H2 g2 => q _ _ (g1.trans g2)
theorem et_not {a : Bool} (h1 : EvT K t sl a) : EvT K (tNot t) sl (!a) := fun B0 H0 B H σ sd Q q => h1 B0 H0 B H σ sd _ fun B1 H1 g1 => q _ _ g1
theorem ev_andV {a b : Bool} (h1 : EvR K E ta sl (.dat (.bl a))) (h2 : a = true → EvR K E tb sl (.dat (.bl b))) : EvR K E (tAndV ta tb) sl (.dat (.bl (a && b))) := fun B0 H0 B H σ sd Q q => h1 B0 H0 B H σ sd _ fun v B1 H1 g1 d1 => ⟨a, den_bl d1, by
  cases a with
  | true =>
    rw [if_pos rfl]
    exact h2 rfl B0 H0 B1 H1 σ (sd.grow g1) Q (q.shift g1)
  | false =>
    rw [if_neg Bool.false_ne_true]
    exact post_v g1.sub (q.shift g1) (mk_bl _)⟩
theorem ev_orV {a b : Bool} (h1 : EvR K E ta sl (.dat (.bl a))) (h2 : a = false → EvR K E tb sl (.dat (.bl b))) : EvR K E (tOrV ta tb) sl (.dat (.bl (a || b))) := fun B0 H0 B H σ sd Q q => h1 B0 H0 B H σ sd _ fun v B1 H1 g1 d1 => ⟨a, den_bl d1, by
  cases a with
  | true =>
    rw [if_pos rfl]
    exact post_v g1.sub (q.shift g1) (mk_bl _)
  | false =>
    rw [if_neg Bool.false_ne_true]
    exact h2 rfl B0 H0 B1 H1 σ (sd.grow g1) Q (q.shift g1)⟩
theorem ev_notV {a : Bool} (h1 : EvR K E ta sl (.dat (.bl a))) : EvR K E (tNotV ta) sl (.dat (.bl (!a))) := fun B0 H0 B H σ sd Q q => h1 B0 H0 B H σ sd _ fun v B1 H1 g1 d1 => ⟨a, den_bl d1, post_v g1.sub (q.shift g1) (mk_bl _)⟩
theorem ev_if {b : Bool} {s1 : Rs} (h : EvT K t sl b) (h1 : b = true → EvR K E ta sl s1) (h2 : b = false → EvR K E tb sl s1) : EvR K E (tIf t ta tb) sl s1 := fun B0 H0 B H σ sd Q q => h B0 H0 B H σ sd _ fun B1 H1 g1 => by
  cases b with
  | true =>
    rw [if_pos rfl]
    exact h1 rfl B0 H0 B1 H1 σ (sd.grow g1) Q (q.shift g1)
  | false =>
    rw [if_neg Bool.false_ne_true]
    exact h2 rfl B0 H0 B1 H1 σ (sd.grow g1) Q (q.shift g1)
/-! arguments -/
theorem ea_nil : EvA K tNil sl [] := fun B0 H0 B H σ sd Q q => q [] B H (Gr.refl sd.sub) denL_nil
theorem ea_cons (h : EvR K E0 ta sl (.dat x)) (hr : EvA K tr sl ds) : EvA K (tCons ta tr) sl (x :: ds) := fun B0 H0 B H σ sd Q q =>
  h B0 H0 B H σ sd _ fun v B1 H1 g1 d1 => hr B0 H0 B1 H1 σ (sd.grow g1) _ fun vs B2 H2 g2 d2 => q _ _ _ (g1.trans g2) (denL_cons (den_mono g2.eb d1) d2)
theorem ev_tup (h : EvA K tr sl ds) (hl : ds.length ≤ sizeLine) : EvR K E (tTup tr) sl (.dat (.tup ds)) := fun B0 H0 B H σ sd Q q =>
  h B0 H0 B H σ sd _ fun vs B1 H1 g1 d1 => ⟨by rw [← denL_len d1]; exact hl, fun p hp => q _ _ _ (g1.trans (Gr.layB g1.sub hp)) (mk_tup upd_same (denL_mono (ex_upd (fresh_back g1.sub hp)) d1))⟩
theorem ev_lst (h : EvA K tr sl ds) (hl : ds.length ≤ sizeLine) : EvR K E (tLst tr) sl (.new ds) := fun B0 H0 B H σ sd Q q =>
  h B0 H0 B H σ sd _ fun vs B1 H1 g1 d1 => ⟨by rw [← denL_len d1]; exact hl, fun p hp => q p vs _ _ (g1.trans (Gr.lay g1.sub hp)) (g1.back hp) (fresh_back g1.sub hp) upd_same d1⟩
/-! fields -/
theorem lk_zip : ∀ {ns : List Str} {ds : List D} {vs : List V} {f : Str}, DenL K B ds vs → (ns.zip ds).lookup f = some d → ∃ v, (ns.zip vs).lookup f = some v ∧ Den K B d v
  | [], _, _, _, _, h => by simp at h
  | n :: ns, [], _, _, _, h => by simp at h
  | n :: ns, x :: ds, vs, f, hd, h => by
    obtain ⟨v, r, rfl, h2, h3⟩ := denL_inv hd
    rw [List.zip_cons_cons, List.lookup_cons] at h ⊢
    cases e : f == n with
    | true =>
      rw [e] at h
      cases h
      exact ⟨v, rfl, h2⟩
    | false =>
      rw [e] at h
      exact lk_zip h3 h
theorem ev_fld {C : Addr} {ns : List Str} {f : Str} (ha : EvR K E ta sl (.dat (.obj C ns ds))) (cl : Cls K C) (na : NoAttr K C f) (h : (ns.zip ds).lookup f = some d) : EvR K E (tFld K ta f) sl (.dat d) := fun B0 H0 B H σ sd Q q =>
  ha B0 H0 B H σ sd _ fun v B1 H1 g1 d1 => by
    obtain ⟨a, dx, vs, rfl, h1, _, h2⟩ := den_obj d1
    obtain ⟨u, h3, h4⟩ := lk_zip h2 h
    exact ⟨a, C, dx, _, u, rfl, g1.sub a _ h1, cl, na, h3, post_v g1.sub (q.shift g1) h4⟩
/-! calls -/
theorem sp_go {f : List D → Rs → Prop} {vs : List V} {Q : VK} (sd : Ex B H) (h : DenL K B ds vs) (hf : f ds s) (q : Post K E B H Q s) : SpR K f vs H Q E := ⟨B, ds, s, sd, h, hf, q⟩
theorem Post.any {Q : VK} (h : Post K E B H Q s) (hn : ∀ C, s ≠ .exc C) : Post K E' B H Q s := by
  cases s with
  | dat d => exact h
  | new xs => exact h
  | frs d => exact h
  | exc C => exact absurd rfl (hn C)
theorem ev_callG {f : List D → Rs → Prop} (ha : EvA K tr sl ds) (hf : f ds s) (hn : (∀ C, s ≠ .exc C) ∨ E = E') : EvR K E (tCall (SpR K f) [] E' tr) sl s := fun B0 H0 B H σ sd Q q =>
  ha B0 H0 B H σ sd _ fun vs B1 H1 g1 d1 => by
    rw [List.append_nil]
    rcases hn with z | z
    · exact sp_go g1.sub d1 hf ((q.shift g1).any z)
    · subst z
      exact sp_go g1.sub d1 hf (q.shift g1)
theorem ev_call {f : List D → Rs → Prop} (ha : EvA K tr sl ds) (hf : f ds (.dat d)) : EvR K E (tCall (SpR K f) [] E' tr) sl (.dat d) := ev_callG ha hf (.inl fun _ z => nomatch z)
theorem ev_callN {f : List D → Rs → Prop} (ha : EvA K tr sl ds) (hf : f ds (.new xs)) : EvR K E (tCall (SpR K f) [] E' tr) sl (.new xs) := ev_callG ha hf (.inl fun _ z => nomatch z)
theorem ev_callX {f : List D → Rs → Prop} {C : Addr} (ha : EvA K tr sl ds) (hf : f ds (.exc C)) : EvR K E (tCall (SpR K f) [] E tr) sl (.exc C) := ev_callG ha hf (.inr rfl)
theorem lk_zipN : ∀ {ns : List Str} {vs : List V} {f : Str}, f ∉ ns → (ns.zip vs).lookup f = none
  | [], _, _, _ => by simp
  | n :: ns, [], _, _ => by simp
  | n :: ns, x :: ds, f, h => by
    rw [List.zip_cons_cons, List.lookup_cons]
    have e : (f == n) = false := by
      rw [beq_eq_false_iff_ne]
      exact fun z => h (by rw [z]; exact List.mem_cons_self)
    rw [e]
    exact lk_zipN fun z => h (List.mem_cons_of_mem _ z)
theorem ev_methG {f : List D → Rs → Prop} {C : Addr} {ns : List Str} {xs : List D} {m : Str} (ho : EvR K E ta sl (.dat (.obj C ns xs))) (hm : m ∉ ns) (ha : EvA K tr sl ds) (hf : f (.obj C ns xs :: ds) s) (hn : (∀ C, s ≠ .exc C) ∨ E = E') : EvR K E (tMeth C m (SpR K f) [] E' ta tr) sl s := fun B0 H0 B H σ sd Q q =>
  ho B0 H0 B H σ sd _ fun v B1 H1 g1 d1 => by
    obtain ⟨a, dx, vs, rfl, h1, _, h2⟩ := den_obj d1
    refine ⟨a, dx, _, rfl, g1.sub a _ h1, lk_zipN hm, ha B0 H0 B1 H1 σ (sd.grow g1) _ fun us B2 H2 g2 d2 => ?_⟩
    rw [List.append_nil]
    rcases hn with z | z
    · exact sp_go g2.sub (denL_cons (den_mono g2.eb d1) d2) hf (((q.shift g1).shift g2).any z)
    · subst z
      exact sp_go g2.sub (denL_cons (den_mono g2.eb d1) d2) hf ((q.shift g1).shift g2)
theorem ev_meth {f : List D → Rs → Prop} {C : Addr} {ns : List Str} {xs : List D} {m : Str} (ho : EvR K E ta sl (.dat (.obj C ns xs))) (hm : m ∉ ns) (ha : EvA K tr sl ds) (hf : f (.obj C ns xs :: ds) (.dat d)) : EvR K E (tMeth C m (SpR K f) [] E' ta tr) sl (.dat d) := ev_methG ho hm ha hf (.inl fun _ z => nomatch z)
theorem ev_methN {f : List D → Rs → Prop} {C : Addr} {ns : List Str} {xs ys : List D} {m : Str} (ho : EvR K E ta sl (.dat (.obj C ns xs))) (hm : m ∉ ns) (ha : EvA K tr sl ds) (hf : f (.obj C ns xs :: ds) (.new ys)) : EvR K E (tMeth C m (SpR K f) [] E' ta tr) sl (.new ys) := ev_methG ho hm ha hf (.inl fun _ z => nomatch z)
theorem ev_methX {f : List D → Rs → Prop} {C C' : Addr} {ns : List Str} {xs : List D} {m : Str} (ho : EvR K E ta sl (.dat (.obj C ns xs))) (hm : m ∉ ns) (ha : EvA K tr sl ds) (hf : f (.obj C ns xs :: ds) (.exc C')) : EvR K E (tMeth C m (SpR K f) [] E ta tr) sl (.exc C') := ev_methG ho hm ha hf (.inr rfl)
/-! an object made: the __init__'s promise -/
inductive Ri where
  | ok (ns : List Str) (ds : List D) | exc (C : Addr)
def PostI (K : PySem.W.Frag) (E : XK) (C x dx : Addr) (B H : Hp) (Q : VK) : Ri → Prop
  | .ok ns ds => ∀ dx' vs B' H', Gr B H B' H' → B' x = none → H' x = some (.ins C dx' (ns.zip vs)) → ns.length = vs.length → (∃ N, Ex N B' ∧ New N H ∧ DenL K N ds vs) → Q .non H'
  | .exc C' => ∀ B' H', Gr B H B' H' → E (.ref C') none H'
/-- H: the heap without the new object -/
def SpI (K : PySem.W.Frag) (C : Addr) (f : List D → Ri → Prop) : Sp := fun us H1 Q E => ∃ B H x dx vs ds r, us = .ref x :: vs ∧ Ex B H ∧ H x = none ∧ H1 = upd H x (.ins C dx []) ∧ DenL K B ds vs ∧ f ds r ∧ PostI K E C x dx B H Q r
def Ri.rs (C : Addr) : Ri → Rs
  | .ok ns ds => .frs (.obj C ns ds) | .exc C' => .exc C'
theorem ev_makeG {f : List D → Ri → Prop} {C : Addr} {ri : Ri} (ha : EvA K tr sl ds) (hf : f ds ri) (hn : (∀ C, ri ≠ .exc C) ∨ E = E') : EvR K E (tMake C (SpI K C f) [] E' tr) sl (ri.rs C) := fun B0 H0 B H σ sd Q q =>
  ha B0 H0 B H σ sd _ fun vs B1 H1 g1 d1 x dx nx ndx nex => by
    rw [List.append_nil]
    have nx2 : upd H1 dx (.own x) x = none := by rw [upd_ne (Ne.symm nex)]; exact nx
    have g2 : Gr B1 H1 B1 (upd H1 dx (.own x)) := Gr.lay g1.sub ndx
    refine ⟨B1, upd H1 dx (.own x), x, dx, vs, ds, ri, rfl, g2.sub, nx2, rfl, d1, hf, ?_⟩
    cases ri with
    | ok ns es =>
      intro dx' us B3 H3 g3 b3 h3 hl d3
      obtain ⟨N, n1, n2, n3⟩ := d3
      have nN : N x = none := fresh_back n1 b3
      refine ⟨rfl, q _ (upd N x (.ins C dx' (ns.zip us))) _ _ (((g1.trans g2).trans g3).fz sd.sub (g1.back nx) b3 h3) (fun a o z => ?_) (fun a o z => ?_) (mk_obj upd_same hl (denL_mono (ex_upd nN) n3))⟩
      · by_cases e : a = x
        · subst e
          rw [upd_same] at z ⊢
          exact z
        · rw [upd_ne e] at z ⊢
          exact n1 a o z
      · by_cases e : a = x
        · rw [e]
          exact g1.back nx
        · rw [upd_ne e] at z
          exact (g1.trans g2).back (n2 a o z)
    | exc C' =>
      rcases hn with z | z
      · exact absurd rfl (z C')
      · subst z
        exact fun B3 H3 g3 => q B3 H3 ((g1.trans g2).trans g3)
theorem ev_make {f : List D → Ri → Prop} {C : Addr} {ns : List Str} {es : List D} (ha : EvA K tr sl ds) (hf : f ds (.ok ns es)) : EvR K E (tMake C (SpI K C f) [] E' tr) sl (.frs (.obj C ns es)) := ev_makeG ha hf (.inl fun _ z => nomatch z)
theorem ev_makeX {f : List D → Ri → Prop} {C C' : Addr} (ha : EvA K tr sl ds) (hf : f ds (.exc C')) : EvR K E (tMake C (SpI K C f) [] E tr) sl (.exc C') := ev_makeG ha hf (.inr rfl)
/-! built-ins -/
theorem ev_cb {f : List V → Hp → VK → Prop} (ha : EvA K tr sl ds) (hf : CbD K f ds s) : EvR K E (tCB f tr) sl s := fun B0 H0 B H σ sd Q q =>
  ha B0 H0 B H σ sd _ fun vs B1 H1 g1 d1 => hf B1 H1 vs g1.sub d1 E Q (q.shift g1)
theorem ev_bm {T : String} {f : V → List V → Hp → VK → Prop} (ho : EvR K E ta sl (.dat x)) (ha : EvA K tr sl ds) (hf : MtD K T f x ds s) (hty : ∀ B H v, Ex B H → Den K B x v → tyV K T v H) : EvR K E (tBM K T f ta tr) sl s := fun B0 H0 B H σ sd Q q =>
  ho B0 H0 B H σ sd _ fun v B1 H1 g1 d1 => ⟨hty B1 H1 v g1.sub d1, ha B0 H0 B1 H1 σ (sd.grow g1) _ fun vs B2 H2 g2 d2 => (hf B2 H2 v vs g2.sub (den_mono g2.eb d1) d2 E Q ((q.shift g1).shift g2)).2⟩
theorem ev_bm0 {T : String} {f : V → List V → Hp → VK → Prop} (ho : EvR K E ta sl (.dat x)) (hf : MtD K T f x [] s) : EvR K E (tBM0 K T f ta) sl s := fun B0 H0 B H σ sd Q q =>
  ho B0 H0 B H σ sd _ fun v B1 H1 g1 d1 => hf B1 H1 v [] g1.sub d1 denL_nil E Q (q.shift g1)
theorem denL_one {vs : List V} (h : DenL K B [x] vs) : ∃ v, vs = [v] ∧ Den K B x v := by
  obtain ⟨v, r, rfl, h1, h2⟩ := denL_inv h
  rw [denL_inv0 h2]
  exact ⟨v, rfl, h1⟩
theorem denL_two {vs : List V} (h : DenL K B [x, y] vs) : ∃ v w, vs = [v, w] ∧ Den K B x v ∧ Den K B y w := by
  obtain ⟨v, r, rfl, h1, h2⟩ := denL_inv h
  obtain ⟨w, rfl, h3⟩ := denL_one h2
  exact ⟨v, w, rfl, h1, h3⟩
abbrev rLen (K : PySem.W.Frag) : List V → Hp → VK → Prop := fun xs H Q => ∃ p ys, xs = [V.ref p] ∧ (SqL K H p ys ∨ SqT K H p ys) ∧ Q (.int ys.length) H
theorem cb_len : CbD K (rLen K) [.lst xs] (.dat (.int (xs.length : Int))) := fun B H vs e d E Q q => by
  obtain ⟨v, rfl, h⟩ := denL_one d
  obtain ⟨a, us, rfl, h1, h2⟩ := den_lst h
  exact ⟨a, us, rfl, .inl (SqL.of (e a _ h1)), by rw [← denL_len h2]; exact post_v e q (mk_int _)⟩
theorem cb_lenT : CbD K (rLen K) [.tup xs] (.dat (.int (xs.length : Int))) := fun B H vs e d E Q q => by
  obtain ⟨v, rfl, h⟩ := denL_one d
  obtain ⟨a, us, rfl, h1, h2⟩ := den_tup h
  exact ⟨a, us, rfl, .inr (SqT.of (e a _ h1)), by rw [← denL_len h2]; exact post_v e q (mk_int _)⟩
theorem cb_lenR {ns : List Int} : CbD K (rLen K) [.scr ns] (.dat (.int (ns.length : Int))) := fun B H vs e d E Q q => by
  obtain ⟨v, rfl, h⟩ := denL_one d
  obtain ⟨a, rfl, h1⟩ := den_scr h
  refine ⟨a, _, rfl, .inl (ex_l e h1), ?_⟩
  rw [List.length_map]
  exact post_v e q (mk_int _)
theorem cb_sum {ns : List Int} : CbD K (rSum K) [.lst (ns.map D.int)] (.dat (.int ns.sum)) := fun B H vs e d E Q q => by
  obtain ⟨v, rfl, h⟩ := denL_one d
  obtain ⟨a, us, rfl, h1, h2⟩ := den_lst h
  rw [denL_ints h2] at h1
  exact ⟨a, ns, rfl, SqL.of (e a _ h1), post_v e q (mk_int _)⟩
theorem cb_any {ns : List Bool} : CbD K (rAny K) [.lst (ns.map D.bl)] (.dat (.bl (ns.any id))) := fun B H vs e d E Q q => by
  obtain ⟨v, rfl, h⟩ := denL_one d
  obtain ⟨a, us, rfl, h1, h2⟩ := den_lst h
  rw [denL_bls h2] at h1
  exact ⟨a, ns, rfl, SqL.of (e a _ h1), post_v e q (mk_bl _)⟩
theorem cb_all {ns : List Bool} : CbD K (rAll K) [.lst (ns.map D.bl)] (.dat (.bl (ns.all id))) := fun B H vs e d E Q q => by
  obtain ⟨v, rfl, h⟩ := denL_one d
  obtain ⟨a, us, rfl, h1, h2⟩ := den_lst h
  rw [denL_bls h2] at h1
  exact ⟨a, ns, rfl, SqL.of (e a _ h1), post_v e q (mk_bl _)⟩
abbrev rListOf (K : PySem.W.Frag) : List V → Hp → VK → Prop := fun xs H Q => ∃ p ys, xs = [V.ref p] ∧ (SqL K H p ys ∨ SqT K H p ys) ∧ ∀ l, H l = none → Q (.ref l) (upd H l (.lst ys))
theorem cb_list : CbD K (rListOf K) [.lst xs] (.new xs) := fun B H vs e d E Q q => by
  obtain ⟨v, rfl, h⟩ := denL_one d
  obtain ⟨a, us, rfl, h1, h2⟩ := den_lst h
  exact ⟨a, us, rfl, .inl (SqL.of (e a _ h1)), fun p hp => q p us _ _ (Gr.lay e hp) hp (fresh_back e hp) upd_same h2⟩
/-! isinstance of a built-in class -/
inductive TyD : D → String → Prop where
  | non : TyD .non "NoneType" | bl (b : Bool) : TyD (.bl b) "bool" | int (i : Int) : TyD (.int i) "int" | str (x : Str) : TyD (.str x) "str"
  | lst (xs : List D) : TyD (.lst xs) "list" | tup (xs : List D) : TyD (.tup xs) "tuple" | emp : TyD .emp "dict"
theorem TyD.to {T : String} {v : V} (h : TyD x T) (e : Ex B H) (d : Den K B x v) : TyX K H v (.type T) := by
  cases h with
  | non => rw [den_non d]; exact .base .non
  | bl b => rw [den_bl d]; exact .base (.bl b)
  | int i => rw [den_int d]; exact .base (.int i)
  | str i => rw [den_str d]; exact .base (.str i)
  | lst xs =>
    obtain ⟨a, us, rfl, h1, h2⟩ := den_lst d
    exact .base (.lst (e a _ h1))
  | tup xs =>
    obtain ⟨a, us, rfl, h1, h2⟩ := den_tup d
    exact .base (.tup (e a _ h1))
  | emp =>
    obtain ⟨a, rfl, h1⟩ := den_emp d
    exact .base (.dK (e a _ h1))
theorem cb_isi {T C : String} {b : Bool} (h : TyD x T) (hb : kitB T C = some b) : CbD K (rIsi K) [x, .ty C] (.dat (.bl b)) := fun B H vs e d E Q q => by
  obtain ⟨v, w, rfl, h1, h2⟩ := denL_two d
  simp only [Den] at h2
  subst h2
  exact ⟨v, _, _, _, b, rfl, .ty C, h.to e h1, kit_ty hb, post_v e q (mk_bl _)⟩
/-! slices -/
theorem eo_none : EvO K tNoPart sl none := fun B0 H0 B H σ sd Q q => q B H (Gr.refl sd.sub)
theorem eo_some {i : Int} (h : EvR K E0 te sl (.dat (.int i))) : EvO K (tPart te) sl (some i) := fun B0 H0 B H σ sd Q q => h B0 H0 B H σ sd _ fun v B1 H1 g1 d1 => ⟨i, den_int d1, q _ _ g1⟩
def cutD (xs : List D) (lo hi : Option Int) : List D := (xs.drop (HT.sIx xs.length 0 lo)).take (HT.sIx xs.length xs.length hi - HT.sIx xs.length 0 lo)
theorem ev_sl {tl th : TO} {lo hi : Option Int} (h : EvR K E te sl (.dat (.lst xs))) (hl : EvO K tl sl lo) (hh : EvO K th sl hi) : EvR K E (tSl (rSlL K) te tl th) sl (.new (cutD xs lo hi)) := fun B0 H0 B H σ sd Q q =>
  h B0 H0 B H σ sd _ fun v B1 H1 g1 d1 => hl B0 H0 B1 H1 σ (sd.grow g1) _ fun B2 H2 g2 => hh B0 H0 B2 H2 σ ((sd.grow g1).grow g2) _ fun B3 H3 g3 => by
    obtain ⟨a, us, rfl, h1, h2⟩ := den_lst d1
    have d2 := denL_mono (g2.eb.trans g3.eb) h2
    refine ⟨a, us, rfl, SqL.of (g3.sub _ _ (g3.eb _ _ (g2.eb _ _ h1))), fun p hp => ?_⟩
    refine q p _ _ _ (((g1.trans g2).trans g3).trans (Gr.lay g3.sub hp)) (g1.back (g2.back (g3.back hp))) (fresh_back g3.sub hp) upd_same ?_
    unfold cutD cutV
    rw [denL_len h2]
    exact denL_take _ (denL_drop _ d2)
theorem denL_rev : ∀ {ds : List D} {vs : List V}, DenL K B ds vs → DenL K B ds.reverse vs.reverse
  | [], vs, h => by
    rw [denL_inv0 h]
    exact denL_nil
  | d :: ds, vs, h => by
    obtain ⟨v, r, rfl, h2, h3⟩ := denL_inv h
    rw [List.reverse_cons, List.reverse_cons]
    exact denL_app (denL_rev h3) (denL_cons h2 denL_nil)
theorem ev_revL (h : EvR K E te sl (.dat (.lst xs))) : EvR K E (tRevL K te) sl (.new xs.reverse) := fun B0 H0 B H σ sd Q q =>
  h B0 H0 B H σ sd _ fun v B1 H1 g1 d1 => by
    obtain ⟨a, us, rfl, h1, h2⟩ := den_lst d1
    exact ⟨a, us, rfl, SqL.of (g1.sub _ _ h1), fun p hp => q p _ _ _ (g1.trans (Gr.lay g1.sub hp)) (g1.back hp) (fresh_back g1.sub hp) upd_same (denL_rev h2)⟩
end

/-! ### what is walked -/
def JOk (K : PySem.W.Frag) (B : Hp) (xs : List D) (J : It) : Prop := ∀ i H2, Ex B H2 → (∀ d, xs[i]? = some d → J.go i H2 ∧ ∀ x H3, J.yld i H2 x H3 → H3 = H2 ∧ Den K B d x) ∧ (xs.length ≤ i → J.stop i H2)
def ItE (K : PySem.W.Frag) (ti : TI) (sl : List Sl) (xs : List D) : Prop := ∀ B0 H0 B H σ, SD K B0 H0 B H σ sl → ∀ R : It → Hp → Prop, (∀ J B' H', Gr B H B' H' → JOk K B' xs J → R J H') → ti σ H R
section
variable {K : PySem.W.Frag} {E E' : XK} {B0 H0 B H B' H' : Hp} {σ : L2.St} {sl : List Sl} {ta tb tc te : TE} {t u : TT} {x y z d : D} {xs ys ds : List D} {tr : TA}
theorem JOk.mono (h : JOk K B xs J) (e : Ex B B') : JOk K B' xs J := fun i H2 e2 => by
  obtain ⟨h1, h2⟩ := h i H2 (e.trans e2)
  refine ⟨fun d hd => ?_, h2⟩
  obtain ⟨h3, h4⟩ := h1 d hd
  refine ⟨h3, fun x H3 hy => ?_⟩
  obtain ⟨h5, h6⟩ := h4 x H3 hy
  exact ⟨h5, den_mono e h6⟩
theorem it_list (h : EvR K E0 te sl (.dat (.lst xs))) : ItE K (iList K te) sl xs := fun B0 H0 B H σ sd R q =>
  h B0 H0 B H σ sd _ fun v B1 H1 g1 d1 => by
    obtain ⟨a, us, rfl, h1, h2⟩ := den_lst d1
    refine ⟨a, rfl, ⟨us, SqL.of (g1.sub _ _ h1)⟩, q _ _ _ g1 fun i H2 e2 => ⟨fun d hd => ?_, fun hl => ⟨us, SqL.of (e2 _ _ h1), by rw [← denL_len h2]; exact hl⟩⟩⟩
    obtain ⟨w, h3, h4⟩ := denL_get h2 hd
    refine ⟨⟨us, w, SqL.of (e2 _ _ h1), h3⟩, fun x H3 hy => ⟨hy.1, ?_⟩⟩
    have e := hy.2 us (SqL.of (e2 _ _ h1))
    rw [h3] at e
    cases e
    exact h4
theorem it_tup (h : EvR K E0 te sl (.dat (.tup xs))) : ItE K (iTup K te) sl xs := fun B0 H0 B H σ sd R q =>
  h B0 H0 B H σ sd _ fun v B1 H1 g1 d1 => by
    obtain ⟨a, us, rfl, h1, h2⟩ := den_tup d1
    refine ⟨a, rfl, ⟨us, SqT.of (g1.sub _ _ h1)⟩, q _ _ _ g1 fun i H2 e2 => ⟨fun d hd => ?_, fun hl => ⟨us, SqT.of (e2 _ _ h1), by rw [← denL_len h2]; exact hl⟩⟩⟩
    obtain ⟨w, h3, h4⟩ := denL_get h2 hd
    refine ⟨⟨us, w, SqT.of (e2 _ _ h1), h3⟩, fun x H3 hy => ⟨hy.1, ?_⟩⟩
    have e := hy.2 us (SqT.of (e2 _ _ h1))
    rw [h3] at e
    cases e
    exact h4
/-- the numbers from lo on, n of them -/
def rng (lo : Int) (n : Nat) : List Int := (List.range n).map fun (i : Nat) => lo + (i : Int)
theorem rng_len (lo : Int) (n : Nat) : (rng lo n).length = n := by simp [rng]
theorem rng_get {lo : Int} {n i : Nat} (h : i < n) : (rng lo n)[i]? = some (lo + (i : Int)) := by
  simp [rng, h]
theorem mem_rng {lo j : Int} {n : Nat} : j ∈ rng lo n ↔ lo ≤ j ∧ j < lo + n := by
  unfold rng
  rw [List.mem_map]
  constructor
  · rintro ⟨i, h, rfl⟩
    rw [List.mem_range] at h
    omega
  · rintro ⟨h1, h2⟩
    exact ⟨(j - lo).toNat, by rw [List.mem_range]; omega, by omega⟩
theorem jok_rng (lo : Int) (n : Nat) : JOk K B ((rng lo n).map D.int) (Itr lo n) := fun i H2 e2 => by
  refine ⟨fun d hd => ?_, fun hl => ?_⟩
  · have hi : i < n := by
      have z := (List.getElem?_eq_some_iff.mp hd).1
      rwa [List.length_map, rng_len] at z
    rw [List.getElem?_map, rng_get hi] at hd
    cases hd
    refine ⟨hi, fun x H3 hy => ⟨hy.1, ?_⟩⟩
    rw [hy.2]
    exact mk_int _
  · rw [List.length_map, rng_len] at hl
    exact hl
theorem it_rng1 {n : Int} (h : EvA K tr sl [.int n]) (hn : n < 2 ^ 62) (h0 : -(2 ^ 62) ≤ n := by omega) : ItE K (iRng1 tr) sl ((rng 0 n.toNat).map D.int) := fun B0 H0 B H σ sd R q =>
  h B0 H0 B H σ sd _ fun vs B1 H1 g1 d1 => by
    obtain ⟨v, rfl, h1⟩ := denL_one d1
    rw [den_int h1]
    exact ⟨n, rfl, h0, hn, q _ _ _ g1 (jok_rng 0 _)⟩
theorem it_rng2 {lo n : Int} (h : EvA K tr sl [.int lo, .int n]) (hl : -(2 ^ 62) ≤ lo ∧ lo < 2 ^ 62) (hn : -(2 ^ 62) ≤ n ∧ n < 2 ^ 62) : ItE K (iRng2 tr) sl ((rng lo (n - lo).toNat).map D.int) := fun B0 H0 B H σ sd R q =>
  h B0 H0 B H σ sd _ fun vs B1 H1 g1 d1 => by
    obtain ⟨v, w, rfl, h1, h2⟩ := denL_two d1
    rw [den_int h1, den_int h2]
    exact ⟨lo, n, rfl, ⟨hl.1, hl.2, hn.1, hn.2⟩, q _ _ _ g1 (jok_rng lo _)⟩
/-! ### comprehensions -/
def wipeS (sl : List Sl) : List Nat → List Sl
  | [] => sl
  | v :: vs => (wipeS sl vs).set v .un
theorem SD.wipe : ∀ (vs : List Nat), SD K B0 H0 B H σ sl → SD K B0 H0 B H (L2.wipe σ vs) (wipeS sl vs)
  | [], s => s
  | v :: vs, s => (SD.wipe vs s).setUn
theorem wipe_set {j : Nat} {x : Option V} : ∀ {vs : List Nat} (σ : L2.St), j ∈ vs → L2.wipe (σ.set j x) vs = L2.wipe σ vs
  | [], _, h => by simp at h
  | v :: vs, σ, h => by
    show (L2.wipe (σ.set j x) vs).set v none = (L2.wipe σ vs).set v none
    rcases List.mem_cons.mp h with e | e
    · subst e
      by_cases m : j ∈ vs
      · rw [wipe_set σ m]
      · have k : ∀ {vs : List Nat} (σ : L2.St), j ∉ vs → L2.wipe (σ.set j x) vs = (L2.wipe σ vs).set j x := by
          intro vs
          induction vs with
          | nil => intro σ _; rfl
          | cons w ws ih =>
            intro σ hm
            show (L2.wipe (σ.set j x) ws).set w none = ((L2.wipe σ ws).set w none).set j x
            rw [ih σ fun z => hm (List.mem_cons_of_mem _ z), List.set_comm]
            exact fun z => hm (by rw [z]; exact List.mem_cons_self)
        rw [k σ m, List.set_set]
    · rw [wipe_set σ e]
theorem wipe_len' (σ : L2.St) : ∀ vs : List Nat, (L2.wipe σ vs).length = σ.length := L2.wipe_length σ
theorem wipe_wipe (σ : L2.St) (vs : List Nat) : L2.wipe (L2.wipe σ vs) vs = L2.wipe σ vs := by
  have k : ∀ (us : List Nat) (σ : L2.St), (∀ v ∈ us, v ∈ vs) → L2.wipe (L2.wipe σ us) vs = L2.wipe σ vs := by
    intro us
    induction us with
    | nil => intro σ _; rfl
    | cons w ws ih =>
      intro σ hm
      show L2.wipe ((L2.wipe σ ws).set w none) vs = L2.wipe σ vs
      rw [wipe_set _ (hm w List.mem_cons_self)]
      exact ih σ fun v hv => hm v (List.mem_cons_of_mem _ hv)
  exact k vs σ fun _ h => h
def givenD (n : Nat) (f : Nat → Bool) (v : Nat → D) : List D := ((List.range n).filter f).map v
theorem givenD_yes {n : Nat} {f : Nat → Bool} {v : Nat → D} (h : f n = true) : givenD (n + 1) f v = givenD n f v ++ [v n] := by
  unfold givenD
  rw [List.range_succ, List.filter_append, List.map_append, List.filter_cons, if_pos h]
  rfl
theorem givenD_no {n : Nat} {f : Nat → Bool} {v : Nat → D} (h : f n = false) : givenD (n + 1) f v = givenD n f v := by
  unfold givenD
  rw [List.range_succ, List.filter_append, List.map_append, List.filter_cons, if_neg (by rw [h]; decide)]
  show _ ++ [] = _
  rw [List.append_nil]
theorem givenD_len (n : Nat) (f : Nat → Bool) (v : Nat → D) : (givenD n f v).length ≤ n := by
  unfold givenD
  rw [List.length_map]
  have h := List.length_filter_le f (List.range n)
  rw [List.length_range] at h
  exact h
theorem ev_lcI {ti : TI} {j : Nat} {vs : List Nat} (f : Nat → Bool) (v : Nat → D) (hi : ItE K ti sl xs) (hz : xs.length ≤ 1000000) (hj : j ∈ vs)
    (ht : ∀ (i : Nat) d, xs[i]? = some d → EvT K t ((wipeS sl vs).set j (.fz d)) (f i)) (he : ∀ (i : Nat) d, xs[i]? = some d → f i = true → EvR K E0 te ((wipeS sl vs).set j (.fz d)) (.dat (v i))) :
    EvR K E (tLc ti (gName j) t te vs) sl (.new (givenD xs.length f v)) := fun B0 H0 B H σ sd Q q => by
  refine hi B0 H0 B H σ sd _ fun J B1 H1 g1 jo Dl hD => ?_
  have sd1 := (sd.grow g1).wipe vs
  -- the list grows at Dl, which is no data's
  refine ⟨fun i m H2 => m = xs.length - i ∧ i ≤ xs.length ∧ ∃ B2 acc, Gr B1 H1 B2 H2 ∧ B2 Dl = none ∧ H2 Dl = some (.lst acc) ∧ DenL K B2 (givenD i f v) acc, ⟨xs.length, by simp, Nat.zero_le _, B1, [], Gr.lay g1.sub hD, fresh_back g1.sub hD, upd_same, denL_nil⟩, ?_⟩
  rintro i m H2 ⟨rfl, hi2, B2, acc, g2, b2, h2, d2⟩
  obtain ⟨jg, js⟩ := (jo.mono g2.eb) i H2 g2.sub
  by_cases hlt : i < xs.length
  · right
    have hx : xs[i]? = some xs[i] := by simp [hlt]
    obtain ⟨go, yl⟩ := jg _ hx
    refine ⟨go, fun H' => i + 1 ≤ xs.length ∧ ∃ B2 acc, Gr B1 H1 B2 H' ∧ B2 Dl = none ∧ H' Dl = some (.lst acc) ∧ DenL K B2 (givenD (i + 1) f v) acc, fun H' ⟨h1, h3⟩ => ⟨xs.length - (i + 1), by omega, rfl, h1, h3⟩, fun x H3 hy => ?_⟩
    obtain ⟨e3, dx⟩ := yl x H3 hy
    rw [e3]
    have sd2 : SD K B0 H0 B2 H2 ((L2.wipe σ vs).set j (some x)) ((wipeS sl vs).set j (.fz xs[i])) := (sd1.grow g2).setFz dx
    refine ⟨by rw [wipe_set _ hj, wipe_wipe], ?_⟩
    refine ht i _ hx B0 H0 B2 H2 _ sd2 _ fun B3 H3 g3 => ?_
    have b3 : B3 Dl = none := g3.out Dl b2 (by rw [h2]; simp)
    cases hf : f i with
    | false =>
      rw [if_neg Bool.false_ne_true]
      exact ⟨hlt, B3, acc, g2.trans g3, b3, g3.eh _ _ h2, by rw [givenD_no hf]; exact denL_mono g3.eb d2⟩
    | true =>
      rw [if_pos rfl]
      refine he i _ hx hf B0 H0 B3 H3 _ (sd2.grow g3) _ fun y B4 H4 g4 d4 => ?_
      have b4 : B4 Dl = none := g4.out Dl b3 (by rw [g3.eh _ _ h2]; simp)
      have h4 : H4 Dl = some (.lst acc) := g4.eh _ _ (g3.eh _ _ h2)
      have hacc : acc.length ≤ 1000000 := by
        rw [← denL_len d2]
        have := givenD_len i f v
        omega
      have sz : acc.length < sizeLine := by
        rw [sizeLine_eq]
        omega
      refine ⟨acc, h4, sz, hlt, B4, acc ++ [y], ?_, b4, upd_same, ?_⟩
      · have g := (g2.trans g3).trans g4
        refine ⟨g.eb, fun a o h => ?_, fun a o h => ?_, g.out⟩
        · rw [upd_ne (ne_of_none h hD)]
          exact g.eh a o h
        · rw [upd_ne (ne_of_none h b4)]
          exact g.sub a o h
      · rw [givenD_yes hf]
        exact denL_app (denL_mono (g3.eb.trans g4.eb) d2) (denL_cons d4 denL_nil)
  · left
    have e : i = xs.length := by omega
    subst e
    exact ⟨js (Nat.le_refl _), q _ _ _ _ (g1.trans g2) (g1.back hD) b2 h2 d2⟩
theorem givenD_eq {α : Type} (ys : List α) (f : α → Bool) (v : α → D) (g : Nat → Bool) (w : Nat → D) (h : ∀ i a, ys[i]? = some a → g i = f a ∧ w i = v a) : givenD ys.length g w = (ys.filter f).map v := by
  have k : ∀ n, n ≤ ys.length → givenD n g w = ((ys.take n).filter f).map v := by
    intro n
    induction n with
    | zero => intro _; simp [givenD]
    | succ n ih =>
      intro hn
      have hx : ys[n]? = some ys[n] := List.getElem?_eq_getElem hn
      obtain ⟨e1, e2⟩ := h n _ hx
      have et : ys.take (n + 1) = ys.take n ++ [ys[n]] := by
        rw [List.take_succ, hx]
        rfl
      rw [et, List.filter_append, List.map_append, ← ih (by omega)]
      cases hf : g n with
      | true =>
        rw [givenD_yes hf, List.filter_cons, if_pos (by rw [← e1]; exact hf), e2]
        rfl
      | false =>
        rw [givenD_no hf, List.filter_cons, if_neg (by rw [← e1, hf]; decide)]
        simp
  rw [k ys.length (Nat.le_refl _), List.take_length]
/-- over c of each of ys, with a test -/
theorem ev_lcF {α : Type} {ys : List α} {c : α → D} {f : α → Bool} {v : α → D} {ti : TI} {j : Nat} {vs : List Nat} (hi : ItE K ti sl (ys.map c)) (hz : ys.length ≤ 1000000) (hj : j ∈ vs)
    (ht : ∀ a, a ∈ ys → EvT K t ((wipeS sl vs).set j (.fz (c a))) (f a)) (he : ∀ a, a ∈ ys → f a = true → EvR K E0 te ((wipeS sl vs).set j (.fz (c a))) (.dat (v a))) :
    EvR K E (tLc ti (gName j) t te vs) sl (.new ((ys.filter f).map v)) := by
  cases ys with
  | nil =>
    have h := ev_lcI (E := E) (t := t) (te := te) (vs := vs) (fun _ => false) (fun _ => D.non) hi (by simp) hj (fun i d h => by simp at h) (fun i d h => by simp at h)
    simpa [givenD] using h
  | cons a0 ar =>
    have key := ev_lcI (E := E) (t := t) (te := te) (vs := vs) (fun i => f ((a0 :: ar)[i]?.getD a0)) (fun i => v ((a0 :: ar)[i]?.getD a0)) hi (by rw [List.length_map]; exact hz) hj
      (fun i d h => by
        rw [List.getElem?_map] at h
        cases e : (a0 :: ar)[i]? with
        | none => rw [e] at h; cases h
        | some a =>
          rw [e] at h
          cases h
          exact ht a (List.mem_of_getElem? e))
      (fun i d h hf => by
        rw [List.getElem?_map] at h
        cases e : (a0 :: ar)[i]? with
        | none => rw [e] at h; cases h
        | some a =>
          rw [e] at h
          cases h
          have hf' : f a = true := by simpa [e] using hf
          exact he a (List.mem_of_getElem? e) hf')
    rw [List.length_map, givenD_eq (a0 :: ar) f v _ _ (fun i a h => by simp [h])] at key
    exact key
/-- .. without one -/
theorem ev_lcM {α : Type} {ys : List α} {c : α → D} {v : α → D} {ti : TI} {j : Nat} {vs : List Nat} (hi : ItE K ti sl (ys.map c)) (hz : ys.length ≤ 1000000) (hj : j ∈ vs)
    (he : ∀ a, a ∈ ys → EvR K E0 te ((wipeS sl vs).set j (.fz (c a))) (.dat (v a))) : EvR K E (tLc ti (gName j) tYes te vs) sl (.new (ys.map v)) := by
  have h := ev_lcF (E := E) (f := fun _ => true) (t := tYes) hi hz hj (fun a _ => et_yes) (fun a ha _ => he a ha)
  rwa [List.filter_eq_self.mpr (fun _ _ => rfl)] at h
end
end Wv
namespace Wv
open PySem L2
open Evl (Ex fresh_back ex_l)

/-! ### statements -/
structure En where
  nx : List Sl → Prop
  rt : Rs → Prop
  bk : List Sl → Prop := fun _ => False
  ct : List Sl → Prop := fun _ => False
/-- .. a new list: new to Hf -/
def PostF (K : PySem.W.Frag) (E : XK) (B H Hf : Hp) (Q : VK) : Rs → Prop
  | .new xs => ∀ p vs B' H', Gr B H B' H' → Hf p = none → B' p = none → H' p = some (.lst vs) → DenL K B' xs vs → Q (.ref p) H'
  | .frs d => ∀ v N B' H', Gr B H B' H' → Ex N B' → New N Hf → Den K N d v → Q v H'
  | r => Post K E B H Q r
theorem PostF.post {K : PySem.W.Frag} {E : XK} {B H Hf : Hp} {Q : VK} {r : Rs} (h : PostF K E B H Hf Q r) (e : Ex Hf H) : Post K E B H Q r := by
  cases r with
  | new xs => exact fun p vs B' H' g h0 h1 h2 h3 => h p vs B' H' g (fresh_back e h0) h1 h2 h3
  | frs d => exact fun v N B' H' g e1 n dv => h v N B' H' g e1 (fun p o z => fresh_back e (n p o z)) dv
  | dat d => exact h
  | exc C => exact h
theorem PostF.shift {K : PySem.W.Frag} {E : XK} {B H B' H' Hf : Hp} {Q : VK} {r : Rs} (g : Gr B H B' H') (h : PostF K E B H Hf Q r) : PostF K E B' H' Hf Q r := by
  cases r with
  | new xs => exact fun p vs B2 H2 g2 h0 h1 h2 h3 => h p vs B2 H2 (g.trans g2) h0 h1 h2 h3
  | frs d => exact fun v N B2 H2 g2 e1 n dv => h v N B2 H2 (g.trans g2) e1 n dv
  | dat d => exact Post.shift (E := E) (r := .dat d) g h
  | exc C => exact Post.shift (K := K) (Q := Q) (E := E) (r := .exc C) g h
theorem PostF.of {K : PySem.W.Frag} {E : XK} {B H : Hp} {Q : VK} {r : Rs} (h : Post K E B H Q r) : PostF K E B H H Q r := by
  cases r with
  | new xs => exact h
  | frs d => exact h
  | dat d => exact h
  | exc C => exact h
structure Mt (K : PySem.W.Frag) (E : XK) (B0 H0 : Hp) (P : En) (D : Ends) : Prop where
  nx : ∀ B H σ sl, SD K B0 H0 B H σ sl → P.nx sl → D.nx σ H
  bk : ∀ B H σ sl, SD K B0 H0 B H σ sl → P.bk sl → D.bk σ H
  ct : ∀ B H σ sl, SD K B0 H0 B H σ sl → P.ct sl → D.ct σ H
  rt : ∀ r B H, Gr B0 H0 B H → P.rt r → PostF K E B H H0 D.rt r
def W (K : PySem.W.Frag) (E : XK) (t : TS) (sl : List Sl) (P : En) : Prop := ∀ B0 H0 B H σ D, SD K B0 H0 B H σ sl → Mt K E B0 H0 P D → t D σ H
/-- a target takes d -/
def GW (K : PySem.W.Frag) (g : TG) (d : D) (sl : List Sl) (P : List Sl → Prop) : Prop := ∀ B0 H0 B H σ v, SD K B0 H0 B H σ sl → Den K B d v → ∀ Q : L2.St → Hp → Prop, (∀ σ' sl', SD K B0 H0 B H σ' sl' → P sl' → Q σ' H) → g v σ H Q
def GWs (K : PySem.W.Frag) (g : TGs) (ds : List D) (sl : List Sl) (P : List Sl → Prop) : Prop := ∀ B0 H0 B H σ vs, SD K B0 H0 B H σ sl → DenL K B ds vs → ∀ Q : L2.St → Hp → Prop, (∀ σ' sl', SD K B0 H0 B H σ' sl' → P sl' → Q σ' H) → g vs σ H Q
section
variable {K : PySem.W.Frag} {E E' : XK} {B0 H0 B H B' H' B1 H1 : Hp} {σ : L2.St} {sl sl' : List Sl} {ta tb tc te : TE} {c : TT} {t u : TS} {x y z d : D} {xs ys ds : List D} {tr : TA} {P P' : En} {Dd : Ends}
theorem SD.rebase (s : SD K B0 H0 B H σ sl) : SD K B H0 B H σ sl :=
  ⟨⟨Ex.refl _, s.gr.eh, s.gr.sub, fun p h1 h2 => h1⟩, s.len, s.fz, s.ow, s.ob, s.ap, s.rg⟩
theorem gr_un (g0 : Gr B0 H0 B1 H1) (g : Gr B1 H0 B H) : Gr B0 H0 B H := ⟨g0.eb.trans g.eb, g.eh, g.sub, fun p h1 h2 => g.out p (g0.out p h1 h2) h2⟩
theorem SD.unbase (g0 : Gr B0 H0 B1 H1) (s : SD K B1 H0 B H σ sl) : SD K B0 H0 B H σ sl := ⟨gr_un g0 s.gr, s.len, s.fz, s.ow, s.ob, s.ap, s.rg⟩
theorem Mt.mono (h : Mt K E B0 H0 P Dd) (h1 : ∀ s, P'.nx s → P.nx s) (h2 : ∀ s, P'.bk s → P.bk s) (h3 : ∀ s, P'.ct s → P.ct s) (h4 : ∀ s, P'.rt s → P.rt s) : Mt K E B0 H0 P' Dd :=
  ⟨fun B H σ sl s q => h.nx B H σ sl s (h1 _ q), fun B H σ sl s q => h.bk B H σ sl s (h2 _ q), fun B H σ sl s q => h.ct B H σ sl s (h3 _ q), fun r B H g q => h.rt r B H g (h4 _ q)⟩
theorem w_mono (h : W K E t sl P') (h1 : ∀ s, P'.nx s → P.nx s) (h2 : ∀ s, P'.bk s → P.bk s) (h3 : ∀ s, P'.ct s → P.ct s) (h4 : ∀ s, P'.rt s → P.rt s) : W K E t sl P := fun B0 H0 B H σ D sd m => h B0 H0 B H σ D sd (m.mono h1 h2 h3 h4)
theorem w_fgt (f : Fgt sl sl') (h : W K E t sl' P) : W K E t sl P := fun B0 H0 B H σ D sd m => h B0 H0 B H σ D (sd.fgt f) m
theorem w_fix {i : Nat} (hi : sl[i]? = some (.ow xs)) (h : W K E t (sl.set i (.fz (.lst xs))) P) : W K E t sl P := fun B0 H0 B H σ D sd m => by
  obtain ⟨B', _, sd'⟩ := sd.fix hi
  exact h B0 H0 B' H σ D sd' m
theorem w_seq (h : W K E t sl { P with nx := fun s => W K E u s P }) : W K E (tSeq t u) sl P := fun B0 H0 B H σ D sd m =>
  h B0 H0 B H σ { D with nx := u D } sd ⟨fun B H σ sl s q => q B0 H0 B H σ D s m, m.bk, m.ct, m.rt⟩
theorem w_next (h : P.nx sl) : W K E tNext sl P := fun B0 H0 B H σ D sd m => m.nx B H σ sl sd h
theorem w_brk (h : P.bk sl) : W K E tBreak sl P := fun B0 H0 B H σ D sd m => m.bk B H σ sl sd h
theorem w_cnt (h : P.ct sl) : W K E tCont sl P := fun B0 H0 B H σ D sd m => m.ct B H σ sl sd h
theorem w_ret {r : Rs} (h : EvR K E te sl r) (k : P.rt r) : W K E (tRet te) sl P := fun B0 H0 B H σ D sd m => h B0 H0 B H σ sd D.rt ((m.rt r B H sd.gr k).post sd.gr.eh)
theorem w_retO {i : Nat} (hi : sl[i]? = some (.ow xs)) (k : P.rt (.new xs)) : W K E (tRet (tVar i)) sl P := fun B0 H0 B H σ D sd m => by
  obtain ⟨p, vs, h1, h2, h3, h4, h5⟩ := sd.ow i xs hi
  exact ⟨_, h1, m.rt _ B H sd.gr k p vs B H (Gr.refl sd.sub) h2 h3 h4 h5⟩
theorem w_retN (k : P.rt (.dat .non)) : W K E tRetN sl P := fun B0 H0 B H σ D sd m => post_v (E := E) sd.sub (m.rt _ B H sd.gr k) mk_non
theorem w_if {b : Bool} (h : EvT K c sl b) (h1 : b = true → W K E t sl P) (h2 : b = false → W K E u sl P) : W K E (tIfS c t u) sl P := fun B0 H0 B H σ D sd m =>
  h B0 H0 B H σ sd _ fun B1 H1 g1 => by
    cases b with
    | true =>
      rw [if_pos rfl]
      exact h1 rfl B0 H0 B1 H1 σ D (sd.grow g1) m
    | false =>
      rw [if_neg Bool.false_ne_true]
      exact h2 rfl B0 H0 B1 H1 σ D (sd.grow g1) m
theorem w_ifT (h : EvT K c sl true) (h1 : W K E t sl P) : W K E (tIfS c t u) sl P := w_if h (fun _ => h1) fun z => nomatch z
theorem w_ifF (h : EvT K c sl false) (h1 : W K E u sl P) : W K E (tIfS c t u) sl P := w_if h (fun z => nomatch z) fun _ => h1
theorem w_asg {i : Nat} (h : EvR K E te sl (.dat d)) (k : P.nx (sl.set i (.fz d))) : W K E (tAsg te (gName i)) sl P := fun B0 H0 B H σ D sd m =>
  h B0 H0 B H σ sd _ fun v B1 H1 g1 d1 => m.nx B1 H1 _ _ ((sd.grow g1).setFz d1) k
theorem w_asgN {i : Nat} (h : EvR K E te sl (.new xs)) (k : P.nx (sl.set i (.ow xs))) : W K E (tAsg te (gName i)) sl P := fun B0 H0 B H σ D sd m =>
  h B0 H0 B H σ sd _ fun p vs B1 H1 g1 h0 h1 h2 h3 => m.nx B1 H1 _ _ (sd.setNew g1 h0 h1 h2 h3) k
theorem w_asgX {g : TG} {C : Addr} (h : EvR K E te sl (.exc C)) (k : P.rt (.exc C)) : W K E (tAsg te g) sl P := fun B0 H0 B H σ D sd m =>
  h B0 H0 B H σ sd _ fun B1 H1 g1 => m.rt _ B H sd.gr k B1 H1 g1
theorem w_asgG {g : TG} (h : EvR K E te sl (.dat d)) (hg : GW K g d sl P.nx) : W K E (tAsg te g) sl P := fun B0 H0 B H σ D sd m =>
  h B0 H0 B H σ sd _ fun v B1 H1 g1 d1 => hg B0 H0 B1 H1 σ v (sd.grow g1) d1 D.nx fun σ' sl' s' p => m.nx B1 H1 σ' sl' s' p
theorem w_drop (h : EvR K E te sl (.dat d)) (k : P.nx sl) : W K E (tDrop te) sl P := fun B0 H0 B H σ D sd m =>
  h B0 H0 B H σ sd _ fun v B1 H1 g1 d1 => m.nx B1 H1 _ _ (sd.grow g1) k
theorem w_dropX {C : Addr} (h : EvR K E te sl (.exc C)) (k : P.rt (.exc C)) : W K E (tDrop te) sl P := fun B0 H0 B H σ D sd m =>
  h B0 H0 B H σ sd _ fun B1 H1 g1 => m.rt _ B H sd.gr k B1 H1 g1
theorem w_aug {i : Nat} {f : Int → Int → Int} {a b : Int} (hi : sl[i]? = some (.fz (.int a))) (h : EvR K E te sl (.dat (.int b))) (k : P.nx (sl.set i (.fz (.int (f a b))))) : W K E (tAug i te (ipI f)) sl P := fun B0 H0 B H σ D sd m => by
  obtain ⟨v, h1, h2⟩ := sd.fz i _ hi
  rw [den_int h2] at h1
  refine ⟨_, h1, h B0 H0 B H σ sd _ fun v B1 H1 g1 d1 => ?_⟩
  rw [den_int d1]
  exact ⟨a, b, rfl, rfl, m.nx B1 H1 _ _ ((sd.grow g1).setFz (mk_int _)) k⟩
theorem w_par {i j : Nat} {d1 d2 : D} (h : EvA K tr sl [d1, d2]) (k : P.nx ((sl.set i (.fz d1)).set j (.fz d2))) : W K E (tPar i j tr) sl P := fun B0 H0 B H σ D sd m =>
  h B0 H0 B H σ sd _ fun vs B1 H1 g1 dd => by
    obtain ⟨v, w, rfl, e1, e2⟩ := denL_two dd
    exact ⟨v, w, rfl, m.nx B1 H1 _ _ (((sd.grow g1).setFz e1).setFz e2) k⟩
/-- xs.append(e), xs one's own -/
theorem w_app {i : Nat} (hi : sl[i]? = some (.ow xs)) (h : EvR K E te sl (.dat d)) (hz : xs.length < 1000000) (k : P.nx (sl.set i (.ow (xs ++ [d])))) : W K E (tDrop (tBM K "list" rAppend (tVar i) (tCons te tNil))) sl P := fun B0 H0 B H σ D sd m => by
  obtain ⟨p, vs, h1, h2, h3, h4, h5⟩ := sd.ow i xs hi
  refine ⟨_, h1, .inl ⟨rfl, _, .inl (.inl h4)⟩, h B0 H0 B H σ sd _ fun v B1 H1 g1 d1 => ?_⟩
  obtain ⟨q, us, e1, e2, e3, e4, e5⟩ := (sd.grow g1).ow i xs hi
  rw [h1] at e1
  cases e1
  refine ⟨p, us, v, rfl, rfl, e4, ?_, m.nx _ _ _ _ ((sd.grow g1).mut hi h1 (denL_app e5 (denL_cons d1 denL_nil))) k⟩
  rw [← denL_len e5, sizeLine_eq]
  omega
/-- .. its elements alone matter: the appended thing may be read with one's own lists as data -/
def frS : Sl → Sl
  | .ow xs => .fz (.lst xs)
  | .rg _ d => .fz d
  | s => s
theorem SD.fr (s : SD K B0 H0 B H σ sl) (ho : ∀ p0 C ns es, Sl.ob p0 C ns es ∉ sl) : SD K H0 H0 H H σ (sl.map frS) ∧ Ex B H := by
  refine ⟨⟨⟨s.gr.eh, s.gr.eh, Ex.refl _, fun p h1 h2 => absurd h1 h2⟩, by simpa using s.len, fun i d e => ?_, fun i xs e => ?_, fun i p0 C ns es e => ?_, fun i j xs ys p e1 => ?_, fun i N d e => ?_⟩, s.sub⟩
  · rw [List.getElem?_map] at e
    cases q : sl[i]? with
    | none => rw [q] at e; cases e
    | some a =>
      rw [q] at e
      cases a with
      | un => cases e
      | ob p0 C ns es => cases e
      | fz d' =>
        cases e
        obtain ⟨v, h1, h2⟩ := s.fz i _ q
        exact ⟨v, h1, den_mono s.sub h2⟩
      | ow xs =>
        cases e
        obtain ⟨p, vs, h1, h2, h3, h4, h5⟩ := s.ow i xs q
        exact ⟨_, h1, mk_lst h4 (denL_mono s.sub h5)⟩
      | rg N d' =>
        cases e
        obtain ⟨v, h1, h2, h3, h4, h5, h6⟩ := s.rg i _ _ q
        exact ⟨v, h1, den_mono h4 h5⟩
  · rw [List.getElem?_map] at e
    cases q : sl[i]? with
    | none => rw [q] at e; cases e
    | some a => rw [q] at e; cases a <;> cases e
  · rw [List.getElem?_map] at e
    cases q : sl[i]? with
    | none => rw [q] at e; cases e
    | some a =>
      rw [q] at e
      cases a with
      | ob p0' C' ns' es' => exact absurd (List.mem_of_getElem? q) (ho _ _ _ _)
      | un => cases e
      | fz _ => cases e
      | ow _ => cases e
      | rg _ _ => cases e
  · rw [List.getElem?_map] at e1
    cases q : sl[i]? with
    | none => rw [q] at e1; cases e1
    | some a => rw [q] at e1; cases a <;> cases e1
  · rw [List.getElem?_map] at e
    cases q : sl[i]? with
    | none => rw [q] at e; cases e
    | some a => rw [q] at e; cases a <;> cases e
def noOb : List Sl → Bool
  | [] => true
  | .ob _ _ _ _ :: _ => false
  | _ :: l => noOb l
theorem noOb_mem : ∀ {sl : List Sl}, noOb sl = true → ∀ p0 C ns es, Sl.ob p0 C ns es ∉ sl
  | [], _, _, _, _, _, h => nomatch h
  | .un :: l, h, p0, C, ns, es, m => by
    rcases List.mem_cons.mp m with z | z
    · cases z
    · exact noOb_mem (sl := l) h p0 C ns es z
  | .fz d :: l, h, p0, C, ns, es, m => by
    rcases List.mem_cons.mp m with z | z
    · cases z
    · exact noOb_mem (sl := l) h p0 C ns es z
  | .ow d :: l, h, p0, C, ns, es, m => by
    rcases List.mem_cons.mp m with z | z
    · cases z
    · exact noOb_mem (sl := l) h p0 C ns es z
  | .rg _ d :: l, h, p0, C, ns, es, m => by
    rcases List.mem_cons.mp m with z | z
    · cases z
    · exact noOb_mem (sl := l) h p0 C ns es z
  | .ob _ _ _ _ :: l, h, p0, C, ns, es, m => by cases h
/-- an expression that reads one's own lists too, and gives a scalar -/
theorem gr_fr (s : SD K B0 H0 B H σ sl) (g : Gr H H B' H') : Gr B H B H' := ⟨Ex.refl _, g.eh, s.sub.trans g.eh, fun p h1 _ => h1⟩
theorem ev_fr (h : EvR K E te (sl.map frS) (.dat d)) (hs : sca d = true) (ho : noOb sl = true := by rfl) : EvR K E te sl (.dat d) := fun B0 H0 B H σ sd Q q =>
  h H0 H0 H H σ (sd.fr (noOb_mem ho)).1 Q fun v B1 H1 g1 d1 => q v B H1 (gr_fr sd g1) (den_sca hs d1)
theorem et_fr {b : Bool} (h : EvT K c (sl.map frS) b) (ho : noOb sl = true := by rfl) : EvT K c sl b := fun B0 H0 B H σ sd Q q =>
  h H0 H0 H H σ (sd.fr (noOb_mem ho)).1 Q fun B1 H1 g1 => q B H1 (gr_fr sd g1)
/-- .. a new list of scalars -/
theorem ev_frN (h : EvR K E te (sl.map frS) (.new xs)) (hs : ∀ d ∈ xs, sca d = true) (ho : noOb sl = true := by rfl) : EvR K E te sl (.new xs) := fun B0 H0 B H σ sd Q q =>
  h H0 H0 H H σ (sd.fr (noOb_mem ho)).1 Q fun p vs B1 H1 g1 h0 h1 h2 h3 => q p vs B H1 (gr_fr sd g1) h0 (fresh_back sd.sub h0) h2 (denL_sca hs h3)
/-- .. new objects alone -/
theorem ev_frF (h : EvR K E te (sl.map frS) (.frs d)) (ho : noOb sl = true := by rfl) : EvR K E te sl (.frs d) := fun B0 H0 B H σ sd Q q =>
  h H0 H0 H H σ (sd.fr (noOb_mem ho)).1 Q fun v N B1 H1 g1 e n dv => by
    have nb : ∀ p o, B p = some o → N p = none := fun p o z => by
      cases w : N p with
      | none => rfl
      | some u =>
        have := n p u w
        rw [sd.sub p o z] at this
        cases this
    refine q v N (fun p => match N p with | some o => some o | none => B p) H1 ⟨fun p o z => ?_, g1.eh, fun p o z => ?_, fun p h1 h2 => ?_⟩ (fun p o z => ?_) n dv
    · show (match N p with | some o => some o | none => B p) = some o
      rw [nb p o z]
      exact z
    · have z : (match N p with | some o => some o | none => B p) = some o := z
      cases w : N p with
      | none =>
        rw [w] at z
        exact g1.eh p o (sd.sub p o z)
      | some u =>
        rw [w] at z
        cases z
        exact g1.sub p _ (e p _ w)
    · show (match N p with | some o => some o | none => B p) = none
      cases w : N p with
      | none => exact h1
      | some u => exact absurd (n p u w) h2
    · show (match N p with | some o => some o | none => B p) = some o
      rw [z]
/-! targets -/
theorem gw_name {j : Nat} {P : List Sl → Prop} (h : P (sl.set j (.fz d))) : GW K (gName j) d sl P := fun B0 H0 B H σ v sd dv Q q => q _ _ (sd.setFz dv) h
theorem gws_nil {P : List Sl → Prop} (h : P sl) : GWs K gNil [] sl P := fun B0 H0 B H σ vs sd dv Q q => ⟨denL_inv0 dv, q _ _ sd h⟩
theorem gws_cons {g : TG} {gs : TGs} {P : List Sl → Prop} (h : GW K g d sl fun s => GWs K gs ds s P) : GWs K (gCons g gs) (d :: ds) sl P := fun B0 H0 B H σ vs sd dv Q q => by
  obtain ⟨v, r, rfl, h1, h2⟩ := denL_inv dv
  exact ⟨v, r, rfl, h B0 H0 B H σ v sd h1 _ fun σ' sl' s' hp => hp B0 H0 B H σ' r s' h2 Q q⟩
theorem gw_tup {gs : TGs} {n : Nat} {P : List Sl → Prop} (hn : ds.length = n) (h : GWs K gs ds sl P) : GW K (gTup K n gs) (.tup ds) sl P := fun B0 H0 B H σ v sd dv Q q => by
  obtain ⟨a, vs, rfl, h1, h2⟩ := den_tup dv
  exact ⟨a, vs, rfl, SqT.of (sd.sub a _ h1), by rw [← denL_len h2]; exact hn, h B0 H0 B H σ vs sd h2 Q q⟩
/-! for -/
theorem w_for {ti : TI} {g : TG} {tb : TS} (Iv : Nat → List Sl → Prop) (hi : ItE K ti sl xs) (h0 : Iv 0 sl)
    (hs : ∀ i d s, xs[i]? = some d → Iv i s → GW K g d s fun s2 => W K E tb s2 { nx := Iv (i + 1), ct := Iv (i + 1), bk := P.nx, rt := P.rt }) (hd : ∀ s, Iv xs.length s → P.nx s) : W K E (tFor ti g tb) sl P := fun B0 H0 B H σ D sd m =>
  hi B0 H0 B H σ sd _ fun J B1 H1 g1 jo => by
    have sd1 := sd.grow g1
    refine ⟨fun i n σ' H' => n = xs.length - i ∧ i ≤ xs.length ∧ ∃ B' sl', SD K B1 H0 B' H' σ' sl' ∧ Iv i sl', ⟨xs.length, by simp, Nat.zero_le _, B1, sl, sd1.rebase, h0⟩, ?_⟩
    rintro i n σ2 H2 ⟨rfl, hi2, B2, sl2, sd2, iv⟩
    obtain ⟨jg, js⟩ := jo i H2 (sd2.gr.eb.trans sd2.sub)
    by_cases hlt : i < xs.length
    · right
      have hx : xs[i]? = some xs[i] := List.getElem?_eq_getElem hlt
      obtain ⟨go, yl⟩ := jg _ hx
      refine ⟨go, fun σ' H' => ∃ B' sl', SD K B1 H0 B' H' σ' sl' ∧ Iv (i + 1) sl', fun σ' H' ⟨B', sl', s', q⟩ => ⟨xs.length - (i + 1), by omega, rfl, hlt, B', sl', s', q⟩, fun v H3 hy => ?_⟩
      obtain ⟨e3, dv⟩ := yl v H3 hy
      rw [e3]
      refine hs i _ sl2 hx iv B1 H0 B2 H2 σ2 v sd2 (den_mono sd2.gr.eb dv) _ fun σ3 sl3 sd3 hw => ?_
      refine hw B1 H0 B2 H2 σ3 _ sd3 ⟨fun B H σ sl s q => ⟨B, sl, s, q⟩, fun B H σ sl s q => m.nx B H σ sl (s.unbase sd1.gr) q, fun B H σ sl s q => ⟨B, sl, s, q⟩, fun r B H g q => m.rt r B H (gr_un sd1.gr g) q⟩
    · left
      have e : i = xs.length := by omega
      subst e
      exact ⟨js (Nat.le_refl _), m.nx B2 H2 σ2 sl2 (sd2.unbase sd1.gr) (hd sl2 iv)⟩
/-- the states by turns, a name as the target -/
theorem w_forS {α : Type} {ys : List α} {f : α → D} {ti : TI} {j : Nat} {tb : TS} (S : Nat → List Sl) (hi : ItE K ti sl (ys.map f)) (h0 : Fgt sl (S 0))
    (hs : ∀ i a, ys[i]? = some a → W K E tb ((S i).set j (.fz (f a))) { nx := fun s => Fgt s (S (i + 1)), ct := fun s => Fgt s (S (i + 1)), bk := P.nx, rt := P.rt }) (hd : ∀ s, Fgt s (S ys.length) → P.nx s) : W K E (tFor ti (gName j) tb) sl P := by
  refine w_for (fun i s => Fgt s (S i)) hi h0 (fun i d s h1 h2 => ?_) (fun s h => hd s (by rwa [List.length_map] at h))
  rw [List.getElem?_map] at h1
  cases e : ys[i]? with
  | none => rw [e] at h1; cases h1
  | some a =>
    rw [e] at h1
    cases h1
    refine gw_name (w_fgt ?_ (hs i a e))
    refine ⟨by simpa using h2.1, fun k => ?_⟩
    by_cases z : k = j
    · subst z
      by_cases hl : k < s.length
      · rw [List.getElem?_set_self hl, List.getElem?_set_self (by rw [← h2.1]; exact hl)]
        exact .inr rfl
      · have e1 : (s.set k (Sl.fz (f a)))[k]? = none := List.getElem?_eq_none (by simpa using hl)
        have e2 : ((S i).set k (Sl.fz (f a)))[k]? = none := List.getElem?_eq_none (by rw [List.length_set, ← h2.1]; omega)
        rw [e1, e2]
        exact .inr rfl
    · rw [List.getElem?_set_ne (Ne.symm z), List.getElem?_set_ne (Ne.symm z)]
      exact h2.2 k
theorem w_while {c : TT} {tb : TS} (Iv : Nat → List Sl → Prop) (m0 : Nat) (h0 : Iv m0 sl)
    (hs : ∀ m s, Iv m s → ∃ b, EvT K c s b ∧ (b = true → W K E tb s { nx := fun s' => ∃ m', m' < m ∧ Iv m' s', ct := fun s' => ∃ m', m' < m ∧ Iv m' s', bk := P.nx, rt := P.rt }) ∧ (b = false → P.nx s)) : W K E (tWhile c tb) sl P := fun B0 H0 B H σ D sd mt => by
  refine ⟨fun m σ' H' => ∃ B' sl', SD K B0 H0 B' H' σ' sl' ∧ Iv m sl', ⟨m0, B, sl, sd, h0⟩, ?_⟩
  rintro m σ1 H1 ⟨B1, sl1, sd1, iv⟩
  obtain ⟨b, hb, h1, h2⟩ := hs m sl1 iv
  refine hb B0 H0 B1 H1 σ1 sd1 _ fun B2 H2 g2 => ?_
  cases b with
  | true =>
    rw [if_pos rfl]
    refine ⟨fun σ' H' => ∃ m', m' < m ∧ ∃ B' sl', SD K B0 H0 B' H' σ' sl' ∧ Iv m' sl', fun σ' H' q => q, h1 rfl B0 H0 B2 H2 σ1 _ (sd1.grow g2) ⟨fun B H σ sl s ⟨m', hm, q⟩ => ⟨m', hm, B, sl, s, q⟩, mt.nx, fun B H σ sl s ⟨m', hm, q⟩ => ⟨m', hm, B, sl, s, q⟩, mt.rt⟩⟩
  | false =>
    rw [if_neg Bool.false_ne_true]
    exact mt.nx B2 H2 σ1 sl1 (sd1.grow g2) (h2 rfl)
/-! self.f = e -/
theorem putF_zip {f : Str} {v : V} : ∀ {ns : List Str} {vs : List V}, ns.length = vs.length → f ∉ ns → putF f v (ns.zip vs) = (ns ++ [f]).zip (vs ++ [v])
  | [], [], _, _ => rfl
  | [], _ :: _, h, _ => by simp at h
  | _ :: _, [], h, _ => by simp at h
  | n :: ns, w :: vs, h, hn => by
    have ih := putF_zip (f := f) (v := v) (ns := ns) (vs := vs) (by simpa using h) fun z => hn (List.mem_cons_of_mem _ z)
    rw [List.zip_cons_cons, List.cons_append, List.cons_append, List.zip_cons_cons]
    show (if n = f then (n, v) :: ns.zip vs else (n, w) :: putF f v (ns.zip vs)) = _
    rw [if_neg fun z => hn (by rw [z]; exact List.mem_cons_self), ih]
theorem w_fld {p0 C : Addr} {ns : List Str} {es : List D} {f : Str} (hi : sl[0]? = some (.ob p0 C ns es)) (cl : Cls K C) (na : NoAttr K C f) (hf : f ∉ ns) (hz : ns.length < 1000) (h : EvR K E te sl (.frs d)) (k : P.nx (sl.set 0 (.ob p0 C (ns ++ [f]) (es ++ [d])))) (ho : ∀ p0' C' ns' es', Sl.ob p0' C' ns' es' ∉ sl.tail := by simp) :
    W K E (sFld K (tVar 0) te f) sl P := fun B0 H0 B H σ D sd m =>
  h B0 H0 B H σ sd _ fun v Nv B1 H1 g1 ev nv d1 => by
    have s1 := sd.grow g1
    obtain ⟨p, dx, vs, e1, e2, e3, e4, e6, e5⟩ := s1.ob 0 p0 C ns es hi
    refine ⟨_, e1.1, p, C, dx, _, rfl, e4, cl, na, ?_, ?_⟩
    · rw [List.length_zip]
      omega
    · rw [putF_zip e6 hf]
      have hl : 0 < sl.length := (List.getElem?_eq_some_iff.mp hi).1
      have at_ : ∀ (j : Nat) (x : Sl), (sl.set 0 (.ob p0 C (ns ++ [f]) (es ++ [d])))[j]? = some x → (j = 0 ∧ x = .ob p0 C (ns ++ [f]) (es ++ [d])) ∨ (j ≠ 0 ∧ sl[j]? = some x) := fun j x e => by
        by_cases z : j = 0
        · subst z
          rw [List.getElem?_set_self hl] at e
          exact .inl ⟨rfl, (Option.some.inj e).symm⟩
        · rw [List.getElem?_set_ne (Ne.symm z)] at e
          exact .inr ⟨z, e⟩
      have nb : ∀ a o, B1 a = some o → a ≠ p := fun a o h z => by
        rw [z, e3] at h
        cases h
      refine m.nx B1 _ σ _ ⟨⟨s1.gr.eb, fun a o h => ?_, fun a o h => ?_, s1.gr.out⟩, by simpa using s1.len, fun j d' e => ?_, fun j zs e => ?_, fun j p0' C' ns' ds' e => ?_, fun j k' zs ws r f1 f2 f3 f4 => ?_, fun j N d' e => ?_⟩ k
      · rw [upd_ne (ne_of_none h e2)]
        exact s1.gr.eh a o h
      · rw [upd_ne (nb a o h)]
        exact s1.gr.sub a o h
      · rcases at_ j _ e with ⟨_, z⟩ | ⟨_, z⟩
        · cases z
        · exact s1.fz j _ z
      · rcases at_ j _ e with ⟨a, z⟩ | ⟨a, z⟩
        · cases z
        · obtain ⟨r, ws, f1, f2, f3, f4, f5⟩ := s1.ow j zs z
          refine ⟨r, ws, f1, f2, f3, ?_, f5⟩
          rw [upd_ne]
          · exact f4
          · rintro rfl
            rw [e4] at f4
            cases f4
      · rcases at_ j _ e with ⟨a, z⟩ | ⟨a, z⟩
        · cases z
          subst a
          obtain ⟨N, n1, n2, n3⟩ := e5
          refine ⟨p, dx, vs ++ [v], e1, e2, e3, upd_same, by simp [e6], fun a => match N a with | some o => some o | none => Nv a, fun a o z => ?_, fun a o z => ?_, denL_app (denL_mono (fun a o z => ?_) n3) (denL_cons (den_mono (fun a o z => ?_) d1) denL_nil)⟩
          · have z : (match N a with | some o => some o | none => Nv a) = some o := z
            cases w : N a with
            | none =>
              rw [w] at z
              exact ev a o z
            | some u =>
              rw [w] at z
              cases z
              exact n1 a _ w
          · have z : (match N a with | some o => some o | none => Nv a) = some o := z
            cases w : N a with
            | none =>
              rw [w] at z
              exact sd.gr.back (nv a o z)
            | some u => exact n2 a u w
          · show (match N a with | some o => some o | none => Nv a) = some o
            rw [z]
          · show (match N a with | some o => some o | none => Nv a) = some o
            cases w : N a with
            | none => exact z
            | some u =>
              exact (n1 a u w).symm.trans (ev a o z)
        · obtain ⟨r, dx', ws, f1, f2, f3, f4, f6, f5⟩ := s1.ob j _ _ _ _ z
          refine absurd (List.mem_of_getElem? (i := j - 1) (l := sl.tail) ?_) (ho p0' C' ns' ds')
          rw [List.getElem?_tail, show j - 1 + 1 = j by omega]
          exact z
      · rcases at_ j _ f1 with ⟨_, z⟩ | ⟨_, z1⟩
        · cases z
        · rcases at_ k' _ f2 with ⟨_, z⟩ | ⟨_, z2⟩
          · cases z
          · exact s1.ap j k' zs ws r z1 z2 f3 f4
      · rcases at_ j _ e with ⟨_, z⟩ | ⟨_, z⟩
        · cases z
        · obtain ⟨v', g1', g2, g3, g4, g5, g6⟩ := s1.rg j _ _ z
          refine ⟨v', g1', g2, g3, fun a o h => ?_, g5, fun k' x q f1 f2 f3 => ?_⟩
          · rw [upd_ne (ne_of_none h (g6 0 _ p hi rfl e1.1))]
            exact g4 a o h
          · rcases at_ k' _ f1 with ⟨a, _⟩ | ⟨_, w⟩
            · subst a
              exact g6 0 _ q hi rfl f3
            · exact g6 k' x q w f2 f3
/-! regions -/
theorem SD.setRg {i : Nat} {v : V} {N : Hp} (s : SD K B0 H0 B H σ sl) (n0 : New N H0) (nb : ∀ p o, N p = some o → B p = none) (nh : Ex N H) (nd : Den K N d v) (no : ∀ (j : Nat) (x : Sl) (p : Addr), sl[j]? = some x → x.own = true → σ[j]? = some (some (.ref p)) → N p = none) :
    SD K B0 H0 B H (σ.set i (some v)) (sl.set i (.rg N d)) := by
  have ne : ∀ (j : Nat) (x : Sl), (∀ N d, x ≠ .rg N d) → (sl.set i (.rg N d))[j]? = some x → j ≠ i ∧ sl[j]? = some x := fun j x hx e => by
    by_cases z : j = i
    · subst z
      by_cases hl : j < sl.length
      · rw [List.getElem?_set_self hl] at e
        exact absurd (Option.some.inj e).symm (hx _ d)
      · rw [List.getElem?_eq_none (by simpa using hl)] at e
        cases e
    · exact ⟨z, by rw [List.getElem?_set_ne (Ne.symm z)] at e; exact e⟩
  refine ⟨s.gr, by simpa using s.len, fun j d' e => ?_, fun j xs e => ?_, fun j p0 C ns ds e => ?_, fun j k xs ys p e1 e2 e3 e4 => ?_, fun j N' d' e => ?_⟩
  · obtain ⟨z, e⟩ := ne j _ (by simp) e
    rw [List.getElem?_set_ne (Ne.symm z)]
    exact s.fz j _ e
  · obtain ⟨z, e⟩ := ne j _ (by simp) e
    rw [List.getElem?_set_ne (Ne.symm z)]
    exact s.ow j xs e
  · obtain ⟨z, e⟩ := ne j _ (by simp) e
    rw [List.getElem?_set_ne (Ne.symm z)]
    exact s.ob j p0 C ns ds e
  · obtain ⟨z1, e1⟩ := ne j _ (by simp) e1
    obtain ⟨z2, e2⟩ := ne k _ (by simp) e2
    rw [List.getElem?_set_ne (Ne.symm z1)] at e3
    rw [List.getElem?_set_ne (Ne.symm z2)] at e4
    exact s.ap j k xs ys p e1 e2 e3 e4
  · by_cases z : j = i
    · subst z
      by_cases hl : j < sl.length
      · rw [List.getElem?_set_self hl] at e
        cases e
        refine ⟨v, by rw [List.getElem?_set_self (by rw [s.len]; exact hl)], n0, nb, nh, nd, fun k x p e1 e2 e3 => ?_⟩
        obtain ⟨z1, e1⟩ := ne k x (by cases x <;> first | (simp [Sl.own] at e2; done) | simp) e1
        rw [List.getElem?_set_ne (Ne.symm z1)] at e3
        exact no k x p e1 e2 e3
      · rw [List.getElem?_eq_none (by simpa using hl)] at e
        cases e
    · rw [List.getElem?_set_ne (Ne.symm z)] at e
      obtain ⟨v', g1, g2, g3, g4, g5, g6⟩ := s.rg j _ _ e
      refine ⟨v', by rw [List.getElem?_set_ne (Ne.symm z)]; exact g1, g2, g3, g4, g5, fun k x p e1 e2 e3 => ?_⟩
      obtain ⟨z1, e1⟩ := ne k x (by cases x <;> first | (simp [Sl.own] at e2; done) | simp) e1
      rw [List.getElem?_set_ne (Ne.symm z1)] at e3
      exact g6 k x p e1 e2 e3
/-- where one's own things lie, something lies -/
theorem SD.there (s : SD K B0 H0 B H σ sl) {j : Nat} {x : Sl} {p : Addr} (h1 : sl[j]? = some x) (h2 : x.own = true) (h3 : σ[j]? = some (some (.ref p))) : H p ≠ none := by
  cases x with
  | ow xs =>
    obtain ⟨q, us, e1, _, _, e2, _⟩ := s.ow j xs h1
    rw [h3] at e1
    cases e1
    rw [e2]
    simp
  | ob p0 C ns ds =>
    obtain ⟨q, dx, us, ⟨e1, _⟩, _, _, e2, _⟩ := s.ob j _ _ _ _ h1
    rw [h3] at e1
    cases e1
    rw [e2]
    simp
  | _ => cases h2
/-- no object in both -/
def Dsj (N N' : Hp) : Prop := ∀ p o, N p = some o → N' p = none
def NewTo (sl : List Sl) (N : Hp) : Prop := ∀ (j : Nat) (N' : Hp) (d : D), sl[j]? = some (.rg N' d) → Dsj N' N
theorem SD.newTo (s : SD K B0 H0 B H σ sl) {N : Hp} (n : New N H) : NewTo sl N := fun j N' d e p o z => by
  obtain ⟨v, h1, h2, h3, h4, h5, h6⟩ := s.rg j _ _ e
  cases w : N p with
  | none => rfl
  | some u =>
    have := n p u w
    rw [h4 p o z] at this
    cases this
theorem w_asgR {i : Nat} (h : EvR K E te sl (.frs d)) (k : ∀ N, NewTo sl N → P.nx (sl.set i (.rg N d))) : W K E (tAsg te (gName i)) sl P := fun B0 H0 B H σ D sd m =>
  h B0 H0 B H σ sd _ fun v N B1 H1 g1 e n dv => by
    have g : Gr B H B H1 := ⟨Ex.refl _, g1.eh, sd.sub.trans g1.eh, fun _ h _ => h⟩
    refine m.nx B H1 _ _ ((sd.grow g).setRg (fun p o z => sd.gr.back (n p o z)) (fun p o z => fresh_back sd.sub (n p o z)) (e.trans g1.sub) dv fun j x p h1 h2 h3 => ?_) (k N (sd.newTo n))
    cases w : N p with
    | none => rfl
    | some o => exact absurd (n p o w) (sd.there h1 h2 h3)
/-- arguments of new objects alone -/
def EvAF (K : PySem.W.Frag) (ta : TA) (sl : List Sl) (ds : List D) : Prop := ∀ B0 H0 B H σ, SD K B0 H0 B H σ sl → ∀ Q : List V → Hp → Prop, (∀ vs N B' H', Gr B H B' H' → Ex N B' → New N H → DenL K N ds vs → Q vs H') → ta σ H Q
theorem eaf_nil : EvAF K tNil sl [] := fun B0 H0 B H σ sd Q q => q [] (fun _ => none) B H (Gr.refl sd.sub) (fun _ _ z => nomatch z) (fun _ _ z => nomatch z) denL_nil
theorem eaf_cons (h : EvR K E0 ta sl (.frs x)) (hr : EvAF K tr sl ds) : EvAF K (tCons ta tr) sl (x :: ds) := fun B0 H0 B H σ sd Q q =>
  h B0 H0 B H σ sd _ fun v N1 B1 H1 g1 e1 n1 d1 => hr B0 H0 B1 H1 σ (sd.grow g1) _ fun vs N2 B2 H2 g2 e2 n2 d2 => by
    have a1 : Ex N1 (fun a => match N1 a with | some o => some o | none => N2 a) := fun a o z => by
      show (match N1 a with | some o => some o | none => N2 a) = some o
      rw [z]
    have a2 : Ex N2 (fun a => match N1 a with | some o => some o | none => N2 a) := fun a o z => by
      show (match N1 a with | some o => some o | none => N2 a) = some o
      cases w : N1 a with
      | none => exact z
      | some u => exact (g2.eb _ _ (e1 a u w)).symm.trans (e2 a o z)
    refine q _ (fun a => match N1 a with | some o => some o | none => N2 a) _ _ (g1.trans g2) (fun a o z => ?_) (fun a o z => ?_) (denL_cons (den_mono a1 d1) (denL_mono a2 d2))
    · have z : (match N1 a with | some o => some o | none => N2 a) = some o := z
      cases w : N1 a with
      | none =>
        rw [w] at z
        exact e2 a o z
      | some u =>
        rw [w] at z
        cases z
        exact g2.eb _ _ (e1 a _ w)
    · have z : (match N1 a with | some o => some o | none => N2 a) = some o := z
      cases w : N1 a with
      | none =>
        rw [w] at z
        exact g1.back (n2 a o z)
      | some u => exact n1 a u w
theorem frs_new {v : V} {N B' H' : Hp} {Q : VK} {p : Addr} {o : HO} (g : Gr B H B' H') (e : Ex N B') (n : New N H) (hp : H' p = none) : Gr B H (upd B' p o) (upd H' p o) ∧ Ex (upd N p o) (upd B' p o) ∧ New (upd N p o) H ∧ N p = none := by
  have bp : B' p = none := fresh_back g.sub hp
  have np : N p = none := fresh_back e bp
  refine ⟨g.trans (Gr.layB g.sub hp), fun a u z => ?_, fun a u z => ?_, np⟩
  · by_cases w : a = p
    · subst w
      rw [upd_same] at z ⊢
      exact z
    · rw [upd_ne w] at z ⊢
      exact e a u z
  · by_cases w : a = p
    · subst w
      exact g.back hp
    · rw [upd_ne w] at z
      exact n a u z
theorem ev_lstF (h : EvAF K tr sl ds) (hl : ds.length ≤ sizeLine) : EvR K E (tLst tr) sl (.frs (.lst ds)) := fun B0 H0 B H σ sd Q q =>
  h B0 H0 B H σ sd _ fun vs N B1 H1 g1 e1 n1 d1 => ⟨by rw [← denL_len d1]; exact hl, fun p hp => by
    obtain ⟨a, b, c, np⟩ := frs_new (v := .non) (Q := Q) (o := .lst vs) g1 e1 n1 hp
    exact q _ _ _ _ a b c (mk_lst upd_same (denL_mono (ex_upd np) d1))⟩
theorem ev_tupF (h : EvAF K tr sl ds) (hl : ds.length ≤ sizeLine) : EvR K E (tTup tr) sl (.frs (.tup ds)) := fun B0 H0 B H σ sd Q q =>
  h B0 H0 B H σ sd _ fun vs N B1 H1 g1 e1 n1 d1 => ⟨by rw [← denL_len d1]; exact hl, fun p hp => by
    obtain ⟨a, b, c, np⟩ := frs_new (v := .non) (Q := Q) (o := .tup vs) g1 e1 n1 hp
    exact q _ _ _ _ a b c (mk_tup upd_same (denL_mono (ex_upd np) d1))⟩
/-- an object that is nobody's here is changed -/
theorem SD.alter {q : Addr} {o : HO} (s : SD K B0 H0 B H σ sl) (hb : B q = none) (h0 : H0 q = none) (ho : ∀ (j : Nat) (x : Sl), sl[j]? = some x → x.own = true → σ[j]? ≠ some (some (.ref q))) (hr : ∀ (j : Nat) (N : Hp) (d : D), sl[j]? = some (.rg N d) → N q = none) : SD K B0 H0 B (upd H q o) σ sl := by
  refine ⟨⟨s.gr.eb, fun a u z => ?_, fun a u z => ?_, s.gr.out⟩, s.len, s.fz, fun j xs e => ?_, fun j p0 C ns ds e => ?_, s.ap, fun j N d e => ?_⟩
  · rw [upd_ne (ne_of_none z h0)]
    exact s.gr.eh a u z
  · rw [upd_ne (ne_of_none z hb)]
    exact s.gr.sub a u z
  · obtain ⟨p, vs, h1, h2, h3, h4, h5⟩ := s.ow j xs e
    refine ⟨p, vs, h1, h2, h3, ?_, h5⟩
    rw [upd_ne fun z => ho j _ e rfl (by rw [← z]; exact h1)]
    exact h4
  · obtain ⟨p, dx, vs, h1, h2, h3, h4, h6, h5⟩ := s.ob j p0 C ns ds e
    refine ⟨p, dx, vs, h1, h2, h3, ?_, h6, h5⟩
    rw [upd_ne fun z => ho j _ e rfl (by rw [← z]; exact h1.1)]
    exact h4
  · obtain ⟨v, h1, h2, h3, h4, h5, h6⟩ := s.rg j N d e
    refine ⟨v, h1, h2, h3, fun a u z => ?_, h5, h6⟩
    rw [upd_ne (ne_of_none z (hr j N d e))]
    exact h4 a u z
theorem fgt_un (sl : List Sl) (i : Nat) : Fgt sl (sl.set i .un) := ⟨by simp, fun k => by
  by_cases z : k = i
  · subst z
    by_cases hl : k < sl.length
    · exact .inl (by rw [List.getElem?_set_self hl])
    · have e1 : (sl.set k Sl.un)[k]? = none := List.getElem?_eq_none (by simpa using hl)
      have e2 : sl[k]? = none := List.getElem?_eq_none (by simpa using hl)
      rw [e1, e2]
      exact .inr rfl
  · exact .inr (by rw [List.getElem?_set_ne (Ne.symm z)])⟩
def noRg : List Sl → Bool
  | [] => true
  | .rg _ _ :: _ => false
  | _ :: l => noRg l
theorem noRg_at : ∀ {sl : List Sl}, noRg sl = true → ∀ (j : Nat) (N : Hp) (d : D), sl[j]? ≠ some (.rg N d)
  | [], _, j, N, d, h => by simp at h
  | s :: l, h, 0, N, d, e => by
    have e : s = .rg N d := by simpa using e
    subst e
    cases h
  | s :: l, h, j + 1, N, d, e => by
    have h' : noRg l = true := by cases s <;> first | exact h | cases h
    exact noRg_at h' j N d (by simpa using e)
theorem denL_intsV : ∀ {ns : List Int} {vs : List V} {N : Hp}, DenL K N (ns.map D.int) vs → ∀ q, V.ref q ∉ vs
  | ns, vs, N, h, q, m => by
    rw [denL_ints h] at m
    obtain ⟨n, _, e⟩ := List.mem_map.mp m
    cases e
/-- for x in xs: x.append(0), xs a list of one's own with lists of ints -/
theorem w_forApp0 {i j : Nat} {N : Hp} {xss : List (List Int)} (hi : sl[i]? = some (.rg N (.lst (xss.map fun xs => .lst (xs.map .int))))) (hij : i ≠ j) (hj : sl[j]? = some .un) (hr : noRg (sl.set i .un) = true) (hz : ∀ xs ∈ xss, xs.length ≤ 1000) (hn : xss.length ≤ 1000) (k : P.nx (sl.set i .un)) :
    W K E (tFor (iList K (tVar i)) (gName j) (tDrop (tBM K "list" rAppend (tVar j) (tCons (tC (.int 0)) tNil)))) sl P := fun B0 H0 B H σ D sd m => by
  obtain ⟨v, h1, h2, h3, h4, h5, h6⟩ := sd.rg i _ _ hi
  obtain ⟨a, vs, rfl, ha, hd⟩ := den_lst h5
  have hlen := denL_len hd
  rw [List.length_map] at hlen
  have jl : j < σ.length := by
    rw [sd.len]
    exact (List.getElem?_eq_some_iff.mp hj).1
  -- what stands in it
  have ins : ∀ u, u ∈ vs → ∃ q us, u = .ref q ∧ N q = some (.lst us) ∧ us.length ≤ 1000 ∧ ∀ r, V.ref r ∉ us := fun u hu => by
    obtain ⟨l, hl, e⟩ := List.getElem_of_mem hu
    obtain ⟨dd, e1, e2⟩ := denL_getV hd (List.getElem?_eq_some_iff.mpr ⟨hl, e⟩)
    rw [List.getElem?_map] at e1
    cases w : xss[l]? with
    | none => rw [w] at e1; cases e1
    | some xs =>
      rw [w] at e1
      cases e1
      obtain ⟨q, us, e3, e4, e5⟩ := den_lst e2
      refine ⟨q, us, e3, e4, ?_, denL_intsV e5⟩
      rw [← denL_len e5, List.length_map]
      exact hz xs (List.mem_of_getElem? w)
  have own_ : ∀ u q, u ∈ vs → u = V.ref q → q ≠ a := fun u q hu e z => by
    obtain ⟨q', us, e1, e2, _, e4⟩ := ins u hu
    rw [e] at e1
    cases e1
    rw [z, ha] at e2
    cases e2
    exact e4 a (by rw [← z]; rw [e] at hu; exact hu)
  refine ⟨_, h1, a, rfl, ⟨vs, SqL.of (h4 a _ ha)⟩, fun idx mm σ' H' => mm = vs.length - idx ∧ idx ≤ vs.length ∧ SD K B0 H0 B H' σ' (sl.set i .un) ∧ (∀ k, k ≠ j → σ'[k]? = σ[k]?) ∧ σ'.length = σ.length ∧ H' a = some (.lst vs) ∧ ∀ q, V.ref q ∈ vs → ∃ us, H' q = some (.lst us) ∧ us.length ≤ 1000 + idx, ⟨vs.length, by simp, Nat.zero_le _, sd.fgt (fgt_un sl i), fun _ _ => rfl, rfl, h4 a _ ha, fun q hq => ?_⟩, ?_⟩
  · obtain ⟨q', us, e1, e2, e3, _⟩ := ins _ hq
    cases e1
    exact ⟨us, h4 q _ e2, e3⟩
  rintro idx mm σ' H' ⟨rfl, hi2, s', hs', hl', ha', hq'⟩
  by_cases hlt : idx < vs.length
  · right
    refine ⟨⟨vs, vs[idx], SqL.of ha', List.getElem?_eq_getElem hlt⟩, fun σ2 H2 => idx + 1 ≤ vs.length ∧ SD K B0 H0 B H2 σ2 (sl.set i .un) ∧ (∀ k, k ≠ j → σ2[k]? = σ[k]?) ∧ σ2.length = σ.length ∧ H2 a = some (.lst vs) ∧ ∀ q, V.ref q ∈ vs → ∃ us, H2 q = some (.lst us) ∧ us.length ≤ 1000 + (idx + 1), fun σ2 H2 ⟨z1, z2⟩ => ⟨vs.length - (idx + 1), by omega, rfl, z1, z2⟩, fun x H3 hy => ?_⟩
    obtain ⟨e3, hx⟩ := hy
    rw [e3]
    have hx := hx vs (SqL.of ha')
    have hm : x ∈ vs := List.mem_of_getElem? hx
    obtain ⟨q, us0, rfl, nq, _, _⟩ := ins x hm
    obtain ⟨us, hq, hul⟩ := hq' q hm
    have hxj : (σ'.set j (some (V.ref q)))[j]? = some (some (.ref q)) := List.getElem?_set_self (by rw [hl']; exact jl)
    refine ⟨_, hxj, .inl ⟨rfl, _, .inl (.inl hq)⟩, q, us, .int 0, rfl, rfl, hq, ?_, hlt, ?_, fun k hk => ?_, by simpa using hl', ?_, fun r hr2 => ?_⟩
    · have : vs.length ≤ 1000 := by omega
      exact Nat.lt_of_le_of_lt (Nat.le_trans hul (show 1000 + idx ≤ 3000 by omega)) (by decide)
    · have sj : (sl.set i .un).set j .un = sl.set i .un := by
        apply List.ext_getElem?
        intro k
        by_cases z : k = j
        · subst z
          have : (sl.set i Sl.un)[k]? = some .un := by rw [List.getElem?_set_ne hij]; exact hj
          rw [List.getElem?_set_self (by rw [List.length_set, ← sd.len]; exact jl), this]
        · rw [List.getElem?_set_ne (Ne.symm z)]
      have s2 : SD K B0 H0 B H' (σ'.set j (some (V.ref q))) (sl.set i .un) := by
        have := s'.setUn (i := j) (v := some (V.ref q))
        rwa [sj] at this
      refine s2.alter (h3 q _ nq) (h2 q _ nq) (fun l x e1 e2 e4 => ?_) (fun j N d z => absurd z (noRg_at hr j N d))
      have lj : l ≠ j := fun z => by
        subst z
        rw [List.getElem?_set_ne hij, hj] at e1
        cases e1
        cases e2
      have li : l ≠ i := fun z => by
        subst z
        rw [List.getElem?_set_self (by rw [← sd.len]; exact (List.getElem?_eq_some_iff.mp h1).1)] at e1
        cases e1
        cases e2
      rw [List.getElem?_set_ne (Ne.symm lj), hs' l lj] at e4
      rw [List.getElem?_set_ne (Ne.symm li)] at e1
      rw [h6 l x q e1 e2 e4] at nq
      cases nq
    · rw [List.getElem?_set_ne (Ne.symm hk)]
      exact hs' k hk
    · rw [upd_ne (Ne.symm (own_ _ q hm rfl))]
      exact ha'
    · by_cases z : r = q
      · subst z
        exact ⟨_, upd_same, by rw [List.length_append, List.length_singleton]; omega⟩
      · obtain ⟨ws, f1, f2⟩ := hq' r hr2
        exact ⟨ws, by rw [upd_ne z]; exact f1, by omega⟩
  · left
    have e : idx = vs.length := by omega
    subst e
    exact ⟨⟨vs, SqL.of ha', Nat.le_refl _⟩, m.nx B H' σ' _ s' k⟩
end
end Wv
namespace Wv
open PySem L2
open Evl (Ex fresh_back ex_l)

/-! ### defs -/
/-- a def of the text, where it stands -/
def FnAt (K : PySem.W.Frag) (mg : Str → Option Value) (x : Str) (st : Stmt) (ps : List Str) : Prop := ∃ f fd, mg x = some (.ref f) ∧ Fun K x x st f fd ∧ Binds K fd ps []
def MtAt (K : PySem.W.Frag) (C : Addr) (m q : Str) (st : Stmt) (ps : List Str) : Prop := ∃ f fd, Meth K C m f ∧ Fun K m q st f fd ∧ Binds K fd ps []
def MkAt (K : PySem.W.Frag) (mg : Str → Option Value) (x : Str) (C : Addr) (q : Str) (st : Stmt) (ps : List Str) : Prop := ∃ f fd, mg x = some (.ref C) ∧ Mk K C f ∧ Fun K "__init__" q st f fd ∧ Binds K fd ps []
/-- a def that keeps its promise -/
def OkD (P : Program) (w : World) (K : PySem.W.Frag) (mg : Str → Option Value) (base : Heap) (CX : CXT) (k : Nat) (x : Str) (ps : List Str) (sp : Sp) : Prop := ∃ f fd, mg x = some (.ref f) ∧ PySem.W.keepIn K (.ref f) = true ∧ Binds K fd ps [] ∧ FnOk P w K mg base CX k f fd ps sp
def OkM (P : Program) (w : World) (K : PySem.W.Frag) (mg : Str → Option Value) (base : Heap) (CX : CXT) (k : Nat) (C : Addr) (m : Str) (ps : List Str) (sp : Sp) : Prop := ∃ f fd, Meth K C m f ∧ Binds K fd ps [] ∧ FnOk P w K mg base CX k f fd ps sp
def OkI (P : Program) (w : World) (K : PySem.W.Frag) (mg : Str → Option Value) (base : Heap) (CX : CXT) (k : Nat) (x : Str) (C : Addr) (ps : List Str) (sp : Sp) : Prop := ∃ f fd, mg x = some (.ref C) ∧ Mk K C f ∧ Binds K fd ps [] ∧ FnOk P w K mg base CX k f fd ps sp
section
variable {P : Program} {w : World} {K : PySem.W.Frag} {mg : Str → Option Value} {base : Heap} {CX : CXT} {k : Nat} {x m q : Str} {C : Addr} {ps : List Str} {sp : Sp} {st : Stmt}
theorem okD (h : FnAt K mg x st ps) (g : ∀ f fd, Fun K x x st f fd → FnOk P w K mg base CX k f fd ps sp) : OkD P w K mg base CX k x ps sp := by
  obtain ⟨f, fd, h1, h2, h3⟩ := h
  exact ⟨f, fd, h1, h2.kp, h3, g f fd h2⟩
theorem okM (h : MtAt K C m q st ps) (g : ∀ f fd, Fun K m q st f fd → FnOk P w K mg base CX k f fd ps sp) : OkM P w K mg base CX k C m ps sp := by
  obtain ⟨f, fd, h1, h2, h3⟩ := h
  exact ⟨f, fd, h1, h3, g f fd h2⟩
theorem okI (h : MkAt K mg x C q st ps) (g : ∀ f fd, Fun K "__init__" q st f fd → FnOk P w K mg base CX k f fd ps sp) : OkI P w K mg base CX k x C ps sp := by
  obtain ⟨f, fd, h1, h2, h3, h4⟩ := h
  exact ⟨f, fd, h1, h2, h4, g f fd h3⟩
end
section
variable {X : Cx} {CX : CXT} {k : Nat} {C : Addr} {ps : List Str} {sp : Sp} {E : XK} {x m : Str} {p pos apos : Pos} {e o : Expr} {es : List Expr} {ta : TE} {t : TA}
theorem pe_callD (G : OkD X.prog X.w X.K X.mg X.base CX k x ps sp) (hr : Room k X.A) (hg : Gl X x) (hx : Passes CX X E) (ha : PA X (e :: es) t) (hdb : (x == ("__debug__" : Str)) = false := by decide)
    (he : starEach (e :: es) X.env = (false, eval e X.env) :: starEach es X.env := by rfl) (hpl : (backTo pos (starEach es X.env)).any (·.1) = false := by rfl) : PE X (.Call (.Name x p) (e :: es) [] pos) (tCall sp [] E t) := by
  obtain ⟨f, fd, h1, h2, h3, h4⟩ := G
  exact pe_call h4 hr hg h1 h2 h3 .nil hx ha hdb he hpl
theorem pe_callD0 (G : OkD X.prog X.w X.K X.mg X.base CX k x ps sp) (hr : Room k X.A) (hg : Gl X x) (hx : Passes CX X E) (hdb : (x == ("__debug__" : Str)) = false := by decide) : PE X (.Call (.Name x p) [] [] pos) (tCall sp [] E tNil) := by
  obtain ⟨f, fd, h1, h2, h3, h4⟩ := G
  exact pe_call0 h4 hr hg h1 h2 h3 .nil hx hdb
theorem pe_methD {pl : Sem Bool} (he : PE X o ta) (c : Cls X.K C) (G : OkM X.prog X.w X.K X.mg X.base CX k C m ps sp) (hr : Room k X.A) (hx : Passes CX X E) (ha : PA X (e :: es) t)
    (hst : starEach (e :: es) X.env = (false, eval e X.env) :: starEach es X.env := by rfl) (hpl : (backTo pos (starEach es X.env)).any (·.1) = false := by rfl)
    (ht : eval (.Call (.Attribute o m apos) (e :: es) [] pos) X.env = (do
      let ov ← eval o X.env
      standAt apos.atName
      let (f, first) ← holding [ov] (getMethod ov m pl)
      callWith pos f first (backTo pos (starEach (e :: es) X.env)) (backToKw pos (keywordEach [] X.env))) := by rfl) :
    PE X (.Call (.Attribute o m apos) (e :: es) [] pos) (tMeth C m sp [] E ta t) := by
  obtain ⟨f, fd, h1, h2, h3⟩ := G
  exact pe_meth he c h1 h3 hr h2 .nil hx ha hst hpl ht
theorem pe_methD0 {pl : Sem Bool} (he : PE X o ta) (c : Cls X.K C) (G : OkM X.prog X.w X.K X.mg X.base CX k C m ps sp) (hr : Room k X.A) (hx : Passes CX X E)
    (ht : eval (.Call (.Attribute o m apos) [] [] pos) X.env = (do
      let ov ← eval o X.env
      standAt apos.atName
      let (f, first) ← holding [ov] (getMethod ov m pl)
      callWith pos f first (backTo pos (starEach [] X.env)) (backToKw pos (keywordEach [] X.env))) := by rfl) :
    PE X (.Call (.Attribute o m apos) [] [] pos) (tMeth C m sp [] E ta tNil) := by
  obtain ⟨f, fd, h1, h2, h3⟩ := G
  exact pe_meth0 he c h1 h3 hr h2 .nil hx ht
theorem pe_makeD (G : OkI X.prog X.w X.K X.mg X.base CX k x C ps sp) (hr : Room (k + 1) X.A) (hg : Gl X x) (hx : Passes CX X E) (ha : PA X (e :: es) t) (hdb : (x == ("__debug__" : Str)) = false := by decide)
    (he : starEach (e :: es) X.env = (false, eval e X.env) :: starEach es X.env := by rfl) (hpl : (backTo pos (starEach es X.env)).any (·.1) = false := by rfl) : PE X (.Call (.Name x p) (e :: es) [] pos) (tMake C sp [] E t) := by
  obtain ⟨f, fd, h1, h2, h3, h4⟩ := G
  exact pe_make h2 h4 hr hg h1 h3 .nil hx ha hdb he hpl
end

/-! ### a body, from its first state -/
def startS (N : List Str) (ds : List D) : List Sl := ds.map Sl.fz ++ List.replicate (N.length - ds.length) .un
section
variable {K : PySem.W.Frag} {E : XK} {H : Hp} {t : TS} {N : List Str} {vs : List V} {Q : VK} {f : List D → Rs → Prop} {C : Addr}
theorem sp_len {n : Nat} (h : ∀ ds r, f ds r → ds.length = n) : ∀ vs H Q E, SpR K f vs H Q E → vs.length = n := fun vs H Q E ⟨B, ds, r, e, hd, hf, q⟩ => by
  rw [← denL_len hd]
  exact h ds r hf
theorem sd_start {B : Hp} {ds : List D} (e : Ex B H) (hd : DenL K B ds vs) : SD K B H B H (L2.start N vs) (startS N ds) := by
  have hl := denL_len hd
  have at_ : ∀ (i : Nat) (x : Sl), x ≠ .un → (startS N ds)[i]? = some x → ∃ d, ds[i]? = some d ∧ x = .fz d := fun i x hx h => by
    unfold startS at h
    by_cases hi : i < ds.length
    · rw [List.getElem?_append_left (by simpa using hi), List.getElem?_map, List.getElem?_eq_getElem hi] at h
      exact ⟨_, List.getElem?_eq_getElem hi, (Option.some.inj h).symm⟩
    · rw [List.getElem?_append_right (by simpa using hi), List.getElem?_replicate] at h
      split at h
      · exact absurd (Option.some.inj h).symm hx
      · cases h
  refine ⟨Gr.refl e, ?_, fun i d h => ?_, fun i xs h => ?_, fun i p0 C ns ds h => ?_, fun i j xs ys p h => ?_, fun i N d h => ?_⟩
  · unfold L2.start startS
    simp [hl]
  · obtain ⟨d', h1, h2⟩ := at_ i _ (by simp) h
    cases h2
    obtain ⟨v, h3, h4⟩ := denL_get hd h1
    refine ⟨v, ?_, h4⟩
    unfold L2.start
    have hi : i < vs.length := (List.getElem?_eq_some_iff.mp h3).1
    rw [List.getElem?_append_left (by simpa using hi), List.getElem?_map, h3]
    rfl
  · obtain ⟨d', _, h2⟩ := at_ i _ (by simp) h
    cases h2
  · obtain ⟨d', _, h2⟩ := at_ i _ (by simp) h
    cases h2
  · obtain ⟨d', _, h2⟩ := at_ i _ (by simp) h
    cases h2
  · obtain ⟨d', _, h2⟩ := at_ i _ (by simp) h
    cases h2
theorem startS_rg (N : List Str) (ds : List D) : ∀ (j : Nat) (N' : Hp) (d : D), (startS N ds)[j]? ≠ some (.rg N' d) := fun j N' d h => by
  unfold startS at h
  have m := List.mem_of_getElem? h
  rcases List.mem_append.mp m with z | z
  · obtain ⟨d', _, e⟩ := List.mem_map.mp z
    cases e
  · have := List.eq_of_mem_replicate z
    cases this
/-- the body's own words, from the data of the arguments -/
theorem go_of (hw : ∀ ds r, f ds r → W K E t (startS N ds) { nx := fun _ => r = .dat .non, rt := fun r' => r' = r }) (h : SpR K f vs H Q E) : t { nx := fun _ H' => Q .non H', rt := Q } (L2.start N vs) H := by
  obtain ⟨B, ds, r, e, hd, hf, q⟩ := h
  refine hw ds r hf B H B H _ _ (sd_start e hd) ⟨fun B' H' σ sl s z => ?_, fun _ _ _ _ _ z => z.elim, fun _ _ _ _ _ z => z.elim, fun r' B' H' g z => ?_⟩
  · subst z
    exact post_v s.sub (q.shift s.gr) mk_non
  · subst z
    exact (PostF.of q).shift g
/-- an __init__ : slot 0 is the new object; nothing is handed back -/
theorem spI_len {fi : List D → Ri → Prop} {n : Nat} (h : ∀ ds r, fi ds r → ds.length + 1 = n) : ∀ vs H Q E, SpI K C fi vs H Q E → vs.length = n := fun vs H Q E ⟨B, H', x, dx, us, ds, r, e, _, _, _, hd, hf, q⟩ => by
  rw [e, List.length_cons, ← denL_len hd]
  exact h ds r hf
def startI (x C : Addr) (N : List Str) (ds : List D) : List Sl := .ob x C [] [] :: (ds.map Sl.fz ++ List.replicate (N.length - (ds.length + 1)) .un)
theorem SD.consOb {B0 H0 B H : Hp} {σ : L2.St} {sl : List Sl} {p C dx : Addr} {ns : List Str} {vs : List V} {ds : List D} (s : SD K B0 H0 B H σ sl) (h0 : H0 p = none) (h1 : B p = none) (h2 : H p = some (.ins C dx (ns.zip vs)))
    (h3 : ns.length = vs.length) (h4 : ∃ N, Ex N B ∧ New N H0 ∧ DenL K N ds vs) (hr : ∀ (j : Nat) (N : Hp) (d : D), sl[j]? ≠ some (.rg N d)) : SD K B0 H0 B H (some (.ref p) :: σ) (.ob p C ns ds :: sl) := by
  refine ⟨s.gr, by simpa using s.len, fun i d h => ?_, fun i xs h => ?_, fun i p0 C' ns' ds' h => ?_, fun i j xs ys q e1 e2 e3 e4 => ?_, fun i N d h => ?_⟩
  · cases i with
    | zero => cases h
    | succ i => exact s.fz i d (by simpa using h)
  · cases i with
    | zero => cases h
    | succ i => exact s.ow i xs (by simpa using h)
  · cases i with
    | zero =>
      cases h
      exact ⟨p, dx, vs, ⟨rfl, rfl⟩, h0, h1, h2, h3, h4⟩
    | succ i => exact s.ob i _ _ _ _ (by simpa using h)
  · cases i with
    | zero => cases e1
    | succ i =>
      cases j with
      | zero => cases e2
      | succ j => rw [s.ap i j xs ys q (by simpa using e1) (by simpa using e2) (by simpa using e3) (by simpa using e4)]
  · cases i with
    | zero => cases h
    | succ i => exact absurd (by simpa using h) (hr i _ d)
theorem goI_of {fi : List D → Ri → Prop} (hw : ∀ x ds r, fi ds r → W K E t (startI x C N ds) { nx := fun s => ∃ ns es, r = .ok ns es ∧ s[0]? = some (.ob x C ns es), rt := fun r' => ∃ C', r = .exc C' ∧ r' = .exc C' })
    (h : SpI K C fi vs H Q E) : t { nx := fun _ H' => Q .non H', rt := Q } (L2.start N vs) H := by
  obtain ⟨B, H', x, dx, us, ds, r, rfl, e, hx, rfl, hd, hf, q⟩ := h
  have hl := denL_len hd
  have bx : B x = none := fresh_back e hx
  have sd := (sd_start (N := N.tail) e hd).grow (Gr.lay (o := .ins C dx []) e hx)
  have e1 : L2.start N (V.ref x :: us) = some (V.ref x) :: L2.start N.tail us := by
    unfold L2.start
    rw [List.map_cons, List.cons_append, List.length_cons, List.length_tail, show N.length - (us.length + 1) = N.length - 1 - us.length by omega]
  have e2 : startI x C N ds = .ob x C [] [] :: startS N.tail ds := by
    unfold startI startS
    rw [List.length_tail, show N.length - (ds.length + 1) = N.length - 1 - ds.length by omega]
  have sd2 : SD K B H' B (upd H' x (.ins C dx [])) (L2.start N (V.ref x :: us)) (startI x C N ds) := by
    rw [e1, e2]
    exact sd.consOb (ns := []) (vs := []) hx bx upd_same rfl ⟨fun _ => none, fun _ _ z => (nomatch z), fun _ _ z => (nomatch z), denL_nil⟩ (startS_rg _ _)
  refine hw x ds r hf B H' B _ _ _ sd2 ⟨fun B' H2 σ sl s z => ?_, fun _ _ _ _ _ z => z.elim, fun _ _ _ _ _ z => z.elim, fun r' B' H2 g z => ?_⟩
  · obtain ⟨ns, es, rfl, h1⟩ := z
    obtain ⟨p, dx', ws, ⟨f1, f7⟩, f2, f3, f4, f5, f6⟩ := s.ob 0 _ _ _ _ h1
    subst f7
    exact q dx' ws B' H2 s.gr f3 f4 f5 f6
  · obtain ⟨C', rfl, rfl⟩ := z
    exact fun B2 H3 g2 => q B2 H3 (g.trans g2)
end
end Wv
namespace Wv
open PySem L2 PyProof.Rows
open Evl (Ex fresh_back ex_l)

/-! ### promises by their arguments' shapes -/
def R1 {a : Type} (c : a → D) (p : a → Prop) (g : a → Rs) : List D → Rs → Prop := fun ds r => ∃ x, ds = [c x] ∧ p x ∧ r = g x
def R2' {a b : Type} (c : a → D) (d : b → D) (p : a → b → Prop) (g : a → b → Rs) : List D → Rs → Prop := fun ds r => ∃ x y, ds = [c x, d y] ∧ p x y ∧ r = g x y
def R3 {a b c : Type} (ca : a → D) (cb : b → D) (cc : c → D) (p : a → b → c → Prop) (g : a → b → c → Rs) : List D → Rs → Prop := fun ds r => ∃ x y z, ds = [ca x, cb y, cc z] ∧ p x y z ∧ r = g x y z
def R4 {a b c d : Type} (ca : a → D) (cb : b → D) (cc : c → D) (cd : d → D) (p : a → b → c → d → Prop) (g : a → b → c → d → Rs) : List D → Rs → Prop := fun ds r => ∃ x y z u, ds = [ca x, cb y, cc z, cd u] ∧ p x y z u ∧ r = g x y z u
theorem R1.len {a : Type} {c : a → D} {p : a → Prop} {g : a → Rs} : ∀ ds r, R1 c p g ds r → ds.length = 1 := by
  rintro ds r ⟨x, rfl, _, _⟩
  rfl
theorem R2'.len {a b : Type} {c : a → D} {d : b → D} {p : a → b → Prop} {g : a → b → Rs} : ∀ ds r, R2' c d p g ds r → ds.length = 2 := by
  rintro ds r ⟨x, y, rfl, _, _⟩
  rfl
theorem R3.len {a b c : Type} {ca : a → D} {cb : b → D} {cc : c → D} {p : a → b → c → Prop} {g : a → b → c → Rs} : ∀ ds r, R3 ca cb cc p g ds r → ds.length = 3 := by
  rintro ds r ⟨x, y, z, rfl, _, _⟩
  rfl
theorem R4.len {a b c d : Type} {ca : a → D} {cb : b → D} {cc : c → D} {cd : d → D} {p : a → b → c → d → Prop} {g : a → b → c → d → Rs} : ∀ ds r, R4 ca cb cc cd p g ds r → ds.length = 4 := by
  rintro ds r ⟨x, y, z, u, rfl, _, _⟩
  rfl
theorem R1.mk {a : Type} {c : a → D} {p : a → Prop} {g : a → Rs} {x : a} (h : p x) : R1 c p g [c x] (g x) := ⟨x, rfl, h, rfl⟩
theorem R2'.mk {a b : Type} {c : a → D} {d : b → D} {p : a → b → Prop} {g : a → b → Rs} {x : a} {y : b} (h : p x y) : R2' c d p g [c x, d y] (g x y) := ⟨x, y, rfl, h, rfl⟩
theorem R3.mk {a b c : Type} {ca : a → D} {cb : b → D} {cc : c → D} {p : a → b → c → Prop} {g : a → b → c → Rs} {x : a} {y : b} {z : c} (h : p x y z) : R3 ca cb cc p g [ca x, cb y, cc z] (g x y z) := ⟨x, y, z, rfl, h, rfl⟩
theorem R4.mk {a b c d : Type} {ca : a → D} {cb : b → D} {cc : c → D} {cd : d → D} {p : a → b → c → d → Prop} {g : a → b → c → d → Rs} {x : a} {y : b} {z : c} {u : d} (h : p x y z u) : R4 ca cb cc cd p g [ca x, cb y, cc z, cd u] (g x y z u) := ⟨x, y, z, u, rfl, h, rfl⟩

/-! ### shapes -/
abbrev nat (n : Nat) : D := .int (n : Int)
abbrev natL (ns : List Nat) : D := .lst (ns.map nat)
abbrev intL (ns : List Int) : D := .lst (ns.map .int)
abbrev blL (bs : List Bool) : D := .lst (bs.map .bl)
/-- a council of n members with its table -/
abbrev cou (C : Addr) (n : Nat) (t : List Bool) : D := .obj C ["members", "table"] [nat n, blL t]
theorem nats_ints (ns : List Nat) : ns.map nat = (ns.map fun (n : Nat) => (n : Int)).map D.int := by
  rw [List.map_map]
  rfl
theorem lk_members (a b : D) : (List.zip (["members", "table"] : List Str) [a, b]).lookup ("members" : Str) = some a := by
  show List.lookup _ [(("members" : Str), a), (("table" : Str), b)] = _
  rw [List.lookup_cons, show (("members" : Str) == ("members" : Str)) = true by decide +kernel]
theorem lk_table (a b : D) : (List.zip (["members", "table"] : List Str) [a, b]).lookup ("table" : Str) = some b := by
  show List.lookup _ [(("members" : Str), a), (("table" : Str), b)] = _
  rw [List.lookup_cons, show (("table" : Str) == ("members" : Str)) = false by decide +kernel, List.lookup_cons, show (("table" : Str) == ("table" : Str)) = true by decide +kernel]

/-! ### numbers -/
theorem and_nat (a b : Nat) : Builtin.bitAnd (a : Int) (b : Int) = ((a &&& b : Nat) : Int) := by
  rw [bitAnd_pp (by omega) (by omega), Int.toNat_natCast, Int.toNat_natCast]
theorem or_nat (a b : Nat) : Builtin.bitOr (a : Int) (b : Int) = ((a ||| b : Nat) : Int) := by
  rw [Bits.bitOr_pp (by omega) (by omega), Int.toNat_natCast, Int.toNat_natCast]
theorem xor_nat (a b : Nat) : Builtin.bitXor (a : Int) (b : Int) = ((a ^^^ b : Nat) : Int) := by
  rw [Bits.bitXor_pp (by omega) (by omega), Int.toNat_natCast, Int.toNat_natCast]
theorem shl_nat (a k : Nat) : (a : Int) * (2 : Int) ^ ((k : Int)).toNat = ((a <<< k : Nat) : Int) := by
  rw [Int.toNat_natCast, Nat.shiftLeft_eq]
  exact Bits.natCast_mul_pow a k
theorem shl_one (k : Nat) : (1 : Int) * (2 : Int) ^ ((k : Int)).toNat = ((1 <<< k : Nat) : Int) := shl_nat 1 k
theorem shr_nat (a k : Nat) : (a : Int) / (2 : Int) ^ ((k : Int)).toNat = ((a >>> k : Nat) : Int) := by
  rw [Int.toNat_natCast, Nat.shiftRight_eq_div_pow, two_pow_cast, Int.natCast_ediv]
theorem bit_one (a : Nat) : Builtin.bitAnd (a : Int) 1 = ((a % 2 : Nat) : Int) := by
  rw [show (1 : Int) = ((1 : Nat) : Int) from rfl, and_nat, Nat.and_one_is_mod]
theorem bit_is (g k : Nat) : decide (Builtin.bitAnd ((g : Int) / (2 : Int) ^ ((k : Int)).toNat) 1 = 1) = g.testBit k := by
  rw [shr_nat, bit_one, Nat.testBit_eq_decide_div_mod_eq, Nat.shiftRight_eq_div_pow, decide_eq_decide]
  omega
theorem bit_no (g k : Nat) : decide (Builtin.bitAnd ((g : Int) / (2 : Int) ^ ((k : Int)).toNat) 1 = 0) = !g.testBit k := by
  rw [shr_nat, bit_one, Nat.testBit_eq_decide_div_mod_eq, Nat.shiftRight_eq_div_pow, ← decide_not, decide_eq_decide]
  omega
theorem holds_nat (a b : Nat) : decide (Builtin.bitAnd (a : Int) (b : Int) = (b : Int)) = decide (a &&& b = b) := by
  rw [and_nat, decide_eq_decide]
  omega

section
variable {K : PySem.W.Frag} {E E' : XK} {sl : List Sl} {ta tb tc te : TE} {t u : TT} {x y z d : D} {xs ys ds : List D} {r : R2} {tr : TA}
/-! ### ranges by naturals -/
theorem rng_nat (n : Nat) : (rng 0 n).map D.int = (List.range n).map nat := by
  unfold rng
  rw [List.map_map]
  refine List.map_congr_left fun i _ => ?_
  show D.int (0 + (i : Int)) = D.int (i : Int)
  rw [Int.zero_add]
theorem it_rngN {n : Nat} {m : Int} (h : EvA K tr sl [.int m]) (e : m = (n : Int)) (hn : n < 4000000000000000000) : ItE K (iRng1 tr) sl ((List.range n).map nat) := by
  subst e
  rw [← rng_nat]
  have q := it_rng1 h (by omega) (by omega)
  rwa [Int.toNat_natCast] at q
/-! ### items -/
theorem od_ixB {bs : List Bool} {g : Nat} (h : g < bs.length) : OpD K (rIxL K) (blL bs) (nat g) (.dat (.bl (bs.getD g false))) := od_ixL (by omega) (by
  rw [Int.toNat_natCast, List.getElem?_map, List.getElem?_eq_getElem h, List.getD_eq_getElem?_getD, List.getElem?_eq_getElem h]
  rfl)
theorem od_ixI {ns : List Int} {g : Nat} (h : g < ns.length) : OpD K (rIxL K) (intL ns) (nat g) (.dat (.int (ns.getD g 0))) := od_ixL (by omega) (by
  rw [Int.toNat_natCast, List.getElem?_map, List.getElem?_eq_getElem h, List.getD_eq_getElem?_getD, List.getElem?_eq_getElem h]
  rfl)
theorem od_ixN {ns : List Nat} {g : Nat} (h : g < ns.length) : OpD K (rIxL K) (natL ns) (nat g) (.dat (nat (ns.getD g 0))) := od_ixL (by omega) (by
  rw [Int.toNat_natCast, List.getElem?_map, List.getElem?_eq_getElem h, List.getD_eq_getElem?_getD, List.getElem?_eq_getElem h]
  rfl)
theorem od_to {d' : D} (h : OpD K r x y (.dat d)) (e : d = d') : OpD K r x y (.dat d') := by
  rw [← e]
  exact h
theorem od_y {y' : D} {s : Rs} (h : OpD K r x y s) (e : y' = y) : OpD K r x y' s := by
  rw [e]
  exact h
theorem ev_x (h : EvR K E te sl (.dat d)) (e : d = x) : EvR K E te sl (.dat x) := ev_is h e
theorem cb_anyM {α : Type} {as : List α} {f : α → Bool} : CbD K (rAny K) [.lst (as.map fun a => .bl (f a))] (.dat (.bl (as.any f))) := by
  have h := cb_any (K := K) (ns := as.map f)
  rw [List.map_map, List.any_map] at h
  exact h
theorem cb_allM {α : Type} {as : List α} {f : α → Bool} : CbD K (rAll K) [.lst (as.map fun a => .bl (f a))] (.dat (.bl (as.all f))) := by
  have h := cb_all (K := K) (ns := as.map f)
  rw [List.map_map, List.all_map] at h
  exact h
theorem cb_sumM {α : Type} {as : List α} {f : α → Int} : CbD K (rSum K) [.lst (as.map fun a => .int (f a))] (.dat (.int (as.map f).sum)) := by
  have h := cb_sum (K := K) (ns := as.map f)
  rw [List.map_map] at h
  exact h
/-! ### equalities of lists by naturals -/
theorem natI_inj : ∀ {ns ms : List Nat}, (ns.map fun (n : Nat) => (n : Int)) = (ms.map fun (n : Nat) => (n : Int)) → ns = ms
  | [], [], _ => rfl
  | [], _ :: _, h => by simp at h
  | _ :: _, [], h => by simp at h
  | n :: ns, m :: ms, h => by
    simp only [List.map_cons, List.cons.injEq] at h
    rw [natI_inj h.2, show n = m by omega]
theorem od_eqN {ns ms : List Nat} : OpD K (rEqD K) (natL ns) (natL ms) (.dat (.bl (decide (ns = ms)))) := by
  unfold natL
  rw [nats_ints, nats_ints]
  refine od_to od_eqL ?_
  rw [decide_eq_decide.mpr ⟨natI_inj, fun h => by rw [h]⟩]
theorem od_neN {ns ms : List Nat} : OpD K (rNeD K) (natL ns) (natL ms) (.dat (.bl (!decide (ns = ms)))) := by
  unfold natL
  rw [nats_ints, nats_ints]
  refine od_to od_neL ?_
  rw [decide_eq_decide.mpr ⟨natI_inj, fun h => by rw [h]⟩]
end
theorem hu64 {k : Nat} {A : Around} (hr : Room k A) : A.units + 64 < cLine := hr.units
end Wv
namespace Wv
theorem pw_nat (n : Nat) : (1 : Int) * (2 : Int) ^ ((n : Int)).toNat = ((2 ^ n : Nat) : Int) := by
  rw [Int.toNat_natCast]
  exact (Bits.natCast_mul_pow 1 n).trans (by rw [Nat.one_mul])
end Wv
namespace Wv
open PySem L2
/-- the first is False: the others aren't asked -/
theorem ev_andV' {K : PySem.W.Frag} {E : XK} {sl : List Sl} {ta tb : TE} (h1 : EvR K E ta sl (.dat (.bl false))) : EvR K E (tAndV ta tb) sl (.dat (.bl false)) := ev_andV (b := false) h1 fun z => nomatch z
end Wv
namespace Wv
open PySem L2
inductive Wi : D → Int → Int → Bool → Prop where
  | int (n lo hi : Int) : Wi (.int n) lo hi (decide (lo ≤ n) && decide (n ≤ hi))
  | bl (b : Bool) (lo hi : Int) : Wi (.bl b) lo hi false
  | no (x : D) (T : String) (lo hi : Int) (h : TyD x T) (hT : kitB T "int" = some false) : Wi x lo hi false
def c_within : List D → Rs → Prop := fun ds r => ∃ x lo hi b, ds = [x, .int lo, .int hi] ∧ Wi x lo hi b ∧ r = .dat (.bl b)
theorem c_within.len : ∀ ds r, c_within ds r → ds.length = 3 := by
  rintro ds r ⟨_, _, _, _, rfl, _⟩
  rfl
theorem c_within.i (n lo hi : Int) : c_within [.int n, .int lo, .int hi] (.dat (.bl (decide (lo ≤ n) && decide (n ≤ hi)))) := ⟨_, _, _, _, rfl, Wi.int _ _ _, rfl⟩
/-- promises over councils -/
def RC1 (C : Addr) (p : Nat → List Bool → Prop) (g : Nat → List Bool → Rs) : List D → Rs → Prop := fun ds r => ∃ n t, ds = [cou C n t] ∧ p n t ∧ r = g n t
def RC2 {a : Type} (C : Addr) (c : a → D) (p : Nat → List Bool → a → Prop) (g : Nat → List Bool → a → Rs) : List D → Rs → Prop := fun ds r => ∃ n t x, ds = [cou C n t, c x] ∧ p n t x ∧ r = g n t x
def RCC (C : Addr) (p : Nat → List Bool → Nat → List Bool → Prop) (g : Nat → List Bool → Nat → List Bool → Rs) : List D → Rs → Prop := fun ds r => ∃ n t m u, ds = [cou C n t, cou C m u] ∧ p n t m u ∧ r = g n t m u
theorem RC1.len {C : Addr} {p : Nat → List Bool → Prop} {g : Nat → List Bool → Rs} : ∀ ds r, RC1 C p g ds r → ds.length = 1 := by
  rintro ds r ⟨_, _, rfl, _⟩
  rfl
theorem RC2.len {a : Type} {C : Addr} {c : a → D} {p : Nat → List Bool → a → Prop} {g : Nat → List Bool → a → Rs} : ∀ ds r, RC2 C c p g ds r → ds.length = 2 := by
  rintro ds r ⟨_, _, _, rfl, _⟩
  rfl
theorem RCC.len {C : Addr} {p : Nat → List Bool → Nat → List Bool → Prop} {g : Nat → List Bool → Nat → List Bool → Rs} : ∀ ds r, RCC C p g ds r → ds.length = 2 := by
  rintro ds r ⟨_, _, _, _, rfl, _⟩
  rfl
theorem RC1.mk {C : Addr} {p : Nat → List Bool → Prop} {g : Nat → List Bool → Rs} {n : Nat} {t : List Bool} (h : p n t) : RC1 C p g [cou C n t] (g n t) := ⟨n, t, rfl, h, rfl⟩
theorem RC2.mk {a : Type} {C : Addr} {c : a → D} {p : Nat → List Bool → a → Prop} {g : Nat → List Bool → a → Rs} {n : Nat} {t : List Bool} {x : a} (h : p n t x) : RC2 C c p g [cou C n t, c x] (g n t x) := ⟨n, t, x, rfl, h, rfl⟩
theorem RCC.mk {C : Addr} {p : Nat → List Bool → Nat → List Bool → Prop} {g : Nat → List Bool → Nat → List Bool → Rs} {n m : Nat} {t u : List Bool} (h : p n t m u) : RCC C p g [cou C n t, cou C m u] (g n t m u) := ⟨n, t, m, u, rfl, h, rfl⟩
/-! ### what the program says, in plain words -/
/-- a group without each one of its members -/
def wo (g : Nat) : List Nat := ((List.range 5).filter fun k => g.testBit k).map fun k => g ^^^ 2 ^ k
/-- for each group whether it has all of some one -/
def tab (n : Nat) (gs : List Nat) : List Bool := (List.range (2 ^ n)).map fun g => gs.any fun o => decide (g &&& o = o)
def leastM (t : List Bool) : List Nat := (List.range t.length).filter fun g => t.getD g false && !((wo g).any fun l => t.getD l false)
def greatM (t : List Bool) : List Nat := (List.range t.length).filter fun g => !t.getD g false && ((wo ((t.length - 1) ^^^ g)).all fun l => t.getD ((t.length - 1) ^^^ l) false)
def wgt (ws : List Int) (g : Nat) : Int := (((List.range ws.length).filter fun k => g.testBit k).map fun k => ws.getD k 0).sum
theorem tab_len (n : Nat) (gs : List Nat) : (tab n gs).length = 2 ^ n := by simp [tab]
theorem pow_le (n : Nat) (h : n ≤ 5) : 2 ^ n ≤ 32 := Nat.pow_le_pow_right (by decide) h
theorem filt_yes {P : Nat → Bool} {i : Nat} (h : P i = true) : (List.range (i + 1)).filter P = (List.range i).filter P ++ [i] := by
  rw [List.range_succ, List.filter_append, List.filter_cons, if_pos h]
  rfl
theorem filt_no {P : Nat → Bool} {i : Nat} (h : P i = false) : (List.range (i + 1)).filter P = (List.range i).filter P := by
  rw [List.range_succ, List.filter_append, List.filter_cons, if_neg (by rw [h]; decide)]
  simp
theorem filt_len (P : Nat → Bool) (i : Nat) : ((List.range i).filter P).length ≤ i := by
  have h := List.length_filter_le P (List.range i)
  rwa [List.length_range] at h
theorem xor_bit_lt {g k : Nat} (h : g.testBit k = true) : g ^^^ 2 ^ k < g := by
  have hk : (g ^^^ 2 ^ k).testBit k = false := by
    rw [Nat.testBit_xor, Nat.testBit_two_pow, h]
    simp
  have le : g ^^^ 2 ^ k ≤ g := Nat.le_of_testBit fun i hi => by
    rw [Nat.testBit_xor, Nat.testBit_two_pow] at hi
    by_cases e : k = i
    · subst e
      rw [h]
    · rw [decide_eq_false e, Bool.xor_false] at hi
      exact hi
  rcases Nat.lt_or_eq_of_le le with l | e
  · exact l
  · rw [e, h] at hk
    cases hk
theorem wo_lt {g l : Nat} (h : l ∈ wo g) : l < g := by
  unfold wo at h
  rw [List.mem_map] at h
  obtain ⟨k, hk, rfl⟩ := h
  exact xor_bit_lt (List.mem_filter.mp hk).2
end Wv
namespace Wv
theorem lit0 : (0 : Int) = ((0 : Nat) : Int) := rfl
theorem lit1 : (1 : Int) = ((1 : Nat) : Int) := rfl
theorem lit2 : (2 : Int) = ((2 : Nat) : Int) := rfl
theorem lit3 : (3 : Int) = ((3 : Nat) : Int) := rfl
theorem lit4 : (4 : Int) = ((4 : Nat) : Int) := rfl
theorem lit5 : (5 : Int) = ((5 : Nat) : Int) := rfl
theorem lit6 : (6 : Int) = ((6 : Nat) : Int) := rfl
theorem lit7 : (7 : Int) = ((7 : Nat) : Int) := rfl
theorem lit8 : (8 : Int) = ((8 : Nat) : Int) := rfl
theorem lit31 : (31 : Int) = ((31 : Nat) : Int) := rfl
theorem lit32 : (32 : Int) = ((32 : Nat) : Int) := rfl
theorem lit40 : (40 : Int) = ((40 : Nat) : Int) := rfl
end Wv
namespace Wv
theorem wo_len (g : Nat) : (wo g).length ≤ 5 := by
  unfold wo
  rw [List.length_map]
  have h := List.length_filter_le (fun k => g.testBit k) (List.range 5)
  rwa [List.length_range] at h
theorem wo_big (g : Nat) : (wo g).length ≤ 1000000 := Nat.le_trans (wo_len g) (by decide)
end Wv
namespace Wv
open PySem L2
section
variable {K : PySem.W.Frag}
theorem od_andN {a b : Nat} : OpD K (rI0 fun i j => .int (Builtin.bitAnd i j)) (nat a) (nat b) (.dat (nat (a &&& b))) := od_to od_i (by rw [and_nat])
theorem od_orN {a b : Nat} : OpD K (rI0 fun i j => .int (Builtin.bitOr i j)) (nat a) (nat b) (.dat (nat (a ||| b))) := od_to od_i (by rw [or_nat])
theorem od_xorN {a b : Nat} : OpD K (rI0 fun i j => .int (Builtin.bitXor i j)) (nat a) (nat b) (.dat (nat (a ^^^ b))) := od_to od_i (by rw [xor_nat])
theorem od_shl1 {k : Nat} (h : k ≤ 1000000) : OpD K (rI CPow fun i j => .int (i * 2 ^ j.toNat)) (.int 1) (nat k) (.dat (nat (2 ^ k))) := od_to (od_ic ⟨by omega, by omega, by decide⟩) (by rw [pw_nat])
theorem dec_nat (a b : Nat) : decide ((a : Int) = (b : Int)) = decide (a = b) := decide_eq_decide.mpr ⟨fun h => by omega, fun h => by omega⟩
theorem od_eqNat {a b : Nat} : OpD K rEq (nat a) (nat b) (.dat (.bl (decide (a = b)))) := od_to od_eqI (by rw [dec_nat])
theorem od_neNat {a b : Nat} : OpD K rNe (nat a) (nat b) (.dat (.bl (!decide (a = b)))) := od_to od_neI (by rw [dec_nat])
end
end Wv
namespace Wv
open PySem L2
theorem cb_lenM {K : PySem.W.Frag} {α : Type} {as : List α} {f : α → D} : CbD K (rLen K) [.lst (as.map f)] (.dat (.int (as.length : Int))) := by
  have h := cb_len (K := K) (xs := as.map f)
  rwa [List.length_map] at h
end Wv
namespace Wv
open PySem L2
def c_Council_init : List D → Ri → Prop := fun ds r => ∃ n gs, ds = [nat n, natL gs] ∧ (1 ≤ n ∧ n ≤ 5 ∧ gs.length ≤ 1000 ∧ ∀ g ∈ gs, g < 2 ^ n) ∧ r = .ok ["members", "table"] [nat n, blL (tab n gs)]
theorem c_Council_init.mk {n : Nat} {gs : List Nat} (h1 : 1 ≤ n) (h5 : n ≤ 5) (hl : gs.length ≤ 1000) (hg : ∀ g ∈ gs, g < 2 ^ n) : c_Council_init [nat n, natL gs] (.ok ["members", "table"] [nat n, blL (tab n gs)]) := ⟨n, gs, rfl, ⟨h1, h5, hl, hg⟩, rfl⟩
end Wv
namespace Wv
open PySem L2
open Evl (Ex fresh_back)
/-! ### results of which only a property is told -/
def EvU (K : PySem.W.Frag) (te : TE) (sl : List Sl) (F : D → Prop) : Prop := ∀ B0 H0 B H σ, SD K B0 H0 B H σ sl → ∀ Q : VK, (∀ d, F d → ∀ v B' H', Gr B H B' H' → Den K B' d v → Q v H') → te σ H Q
def SpU (K : PySem.W.Frag) (f : List D → (D → Prop) → Prop) : Sp := fun vs H Q E => ∃ B ds F, Ex B H ∧ DenL K B ds vs ∧ f ds F ∧ ∀ d, F d → ∀ v B' H', Gr B H B' H' → Den K B' d v → Q v H'
section
variable {K : PySem.W.Frag} {E E' : XK} {sl : List Sl} {te : TE} {tr : TA} {ds : List D} {F : D → Prop} {P : En} {H : Hp} {t : TS} {N : List Str} {vs : List V} {Q : VK}
theorem ev_callU {f : List D → (D → Prop) → Prop} (ha : EvA K tr sl ds) (hf : f ds F) : EvU K (tCall (SpU K f) [] E' tr) sl F := fun B0 H0 B H σ sd Q q =>
  ha B0 H0 B H σ sd _ fun vs B1 H1 g1 d1 => by
    rw [List.append_nil]
    exact ⟨B1, ds, F, g1.sub, d1, hf, fun d hd v B' H' g dv => q d hd v B' H' (g1.trans g) dv⟩
theorem w_asgU {i : Nat} (h : EvU K te sl F) (k : ∀ d, F d → P.nx (sl.set i (.fz d))) : W K E (tAsg te (gName i)) sl P := fun B0 H0 B H σ D sd m =>
  h B0 H0 B H σ sd _ fun d hd v B1 H1 g1 d1 => m.nx B1 H1 _ _ ((sd.grow g1).setFz d1) (k d hd)
theorem spU_len {f : List D → (D → Prop) → Prop} {n : Nat} (h : ∀ ds F, f ds F → ds.length = n) : ∀ vs H Q E, SpU K f vs H Q E → vs.length = n := fun vs H Q E ⟨B, ds, r, e, hd, hf, q⟩ => by
  rw [← denL_len hd]
  exact h ds r hf
theorem goU_of {f : List D → (D → Prop) → Prop} (hw : ∀ ds F, f ds F → W K E t (startS N ds) { nx := fun _ => False, rt := fun r => ∃ d, r = .dat d ∧ F d }) (h : SpU K f vs H Q E) : t { nx := fun _ H' => Q .non H', rt := Q } (L2.start N vs) H := by
  obtain ⟨B, ds, F, e, hd, hf, q⟩ := h
  refine hw ds F hf B H B H _ _ (sd_start e hd) ⟨fun B' H' σ sl s z => z.elim, fun _ _ _ _ _ z => z.elim, fun _ _ _ _ _ z => z.elim, fun r' B' H' g z => ?_⟩
  obtain ⟨d, rfl, hF⟩ := z
  exact fun v B2 H2 g2 dv => q d hF v B2 H2 (g.trans g2) dv
end
/-! ### draws -/
def primesM : List Nat := [1000003, 1000033, 1000037, 1000039, 1000081, 1000099, 1000117, 1000121]
def blendM (c : Int) (k : Nat) : Int := c * 48271 + (k : Int) * 69621 + c / 1000003 % 1000003 * 40692
def drawM (c : Int) (k : Nat) (m : Int) : Nat := (blendM c k % ((primesM.getD (k % 8) 1 : Nat) : Int) % m).toNat
theorem drawM_lt (c : Int) (k : Nat) {m : Int} (h : 0 < m) : (drawM c k m : Int) < m := by
  unfold drawM
  have h1 := Int.emod_nonneg (blendM c k % ((primesM.getD (k % 8) 1 : Nat) : Int)) (show m ≠ 0 by omega)
  have h2 := Int.emod_lt_of_pos (blendM c k % ((primesM.getD (k % 8) 1 : Nat) : Int)) h
  omega
theorem drawM_nat (c : Int) (k : Nat) {m : Nat} (h : 0 < m) : drawM c k (m : Int) < m := by
  have := drawM_lt c k (m := (m : Int)) (by omega)
  omega
theorem primes_pos : ∀ k, k < 8 → 0 < primesM.getD k 1 := by decide
def c_law_cell_at : List D → Rs → Prop := R2' D.scr nat (fun _ _ => True) fun ns k => .dat (.int (ns.getD k 0))
def c_law_draw : List D → Rs → Prop := R3 D.int nat D.int (fun _ _ m => 0 < m) fun c k m => .dat (nat (drawM c k m))
/-- a told council -/
def ToldOk (m : Nat) (gs : List Nat) : Prop := 1 ≤ m ∧ m ≤ 5 ∧ gs.length ≤ 32 ∧ ∀ g ∈ gs, g < 2 ^ m
def c_law_told : List D → (D → Prop) → Prop := fun ds F => ∃ ns k, ds = [.scr ns, nat k] ∧ k ≤ 100 ∧ F = fun d => ∃ m gs, d = .tup [nat m, natL gs] ∧ ToldOk m gs
def c_law_table : List D → Rs → Prop := fun ds r => ∃ m gs, ds = [.tup [nat m, natL gs]] ∧ (m ≤ 5 ∧ gs.length ≤ 1000) ∧ r = .new ((tab m gs).map .bl)
def c_law_has : List D → Rs → Prop := R2' nat nat (fun _ k => k ≤ 1000) fun g k => .dat (.bl (g.testBit k))
def seatsM : List Nat := [3, 4, 5, 4, 2, 5, 1]
theorem seats_ok : ∀ k, k < 7 → 1 ≤ seatsM.getD k 0 ∧ seatsM.getD k 0 ≤ 5 := by decide
theorem od_ixTN {K : PySem.W.Frag} {ns : List Nat} {i : Int} (h0 : 0 ≤ i) (h : i.toNat < ns.length) : OpD K (rIxT K) (.tup (ns.map nat)) (.int i) (.dat (nat (ns.getD i.toNat 0))) := od_ixT h0 (by
  rw [List.getElem?_map, List.getElem?_eq_getElem h, List.getD_eq_getElem?_getD, List.getElem?_eq_getElem h]
  rfl)
end Wv
namespace Wv
open PySem L2
theorem fgt_set {s t : List Sl} {j : Nat} {x : Sl} (h : Fgt s t) : Fgt (s.set j x) (t.set j x) := by
  refine ⟨by simpa using h.1, fun k => ?_⟩
  by_cases z : k = j
  · subst z
    by_cases hl : k < s.length
    · rw [List.getElem?_set_self hl, List.getElem?_set_self (by rw [← h.1]; exact hl)]
      exact .inr rfl
    · have e1 : (s.set k x)[k]? = none := List.getElem?_eq_none (by simpa using hl)
      have e2 : (t.set k x)[k]? = none := List.getElem?_eq_none (by rw [List.length_set, ← h.1]; omega)
      rw [e1, e2]
      exact .inr rfl
  · rw [List.getElem?_set_ne (Ne.symm z), List.getElem?_set_ne (Ne.symm z)]
    exact h.2 k
section
variable {K : PySem.W.Frag} {E : XK} {sl : List Sl} {P : En}
/-- a loop whose states are told by a thing x of which I i holds -/
theorem w_forX {α β : Type} {ys : List α} {f : α → D} {ti : TI} {j : Nat} {tb : TS} (I : Nat → β → Prop) (S : β → List Sl) (hi : ItE K ti sl (ys.map f)) (b0 : β) (h0 : I 0 b0) (f0 : Fgt sl (S b0))
    (hs : ∀ i a b, ys[i]? = some a → I i b → W K E tb ((S b).set j (.fz (f a))) { nx := fun s => ∃ b', I (i + 1) b' ∧ Fgt s (S b'), ct := fun s => ∃ b', I (i + 1) b' ∧ Fgt s (S b'), bk := P.nx, rt := P.rt })
    (hd : ∀ s b, I ys.length b → Fgt s (S b) → P.nx s) : W K E (tFor ti (gName j) tb) sl P := by
  refine w_for (fun i s => ∃ b, I i b ∧ Fgt s (S b)) hi ⟨b0, h0, f0⟩ (fun i d s h1 h2 => ?_) (fun s h => ?_)
  · obtain ⟨b, hb, hf⟩ := h2
    rw [List.getElem?_map] at h1
    cases e : ys[i]? with
    | none => rw [e] at h1; cases h1
    | some a =>
      rw [e] at h1
      cases h1
      exact gw_name (w_fgt (fgt_set hf) (hs i a b e hb))
  · obtain ⟨b, hb, hf⟩ := h
    rw [List.length_map] at hb
    exact hd s b hb hf
/-- groups below M, at most one more a turn -/
def GsB (M i : Nat) (gs : List Nat) : Prop := gs.length ≤ i ∧ ∀ g ∈ gs, g < M
theorem GsB.nil {M : Nat} : GsB M 0 [] := ⟨Nat.le_refl _, fun _ h => nomatch h⟩
theorem GsB.up {M i : Nat} {gs : List Nat} (h : GsB M i gs) : GsB M (i + 1) gs := ⟨Nat.le_succ_of_le h.1, h.2⟩
theorem GsB.app {M i g : Nat} {gs : List Nat} (h : GsB M i gs) (hg : g < M) : GsB M (i + 1) (gs ++ [g]) := ⟨by rw [List.length_append]; exact Nat.succ_le_succ h.1, fun x hx => by
  rcases List.mem_append.mp hx with z | z
  · exact h.2 x z
  · rw [List.mem_singleton.mp z]
    exact hg⟩
theorem w_app1 {i : Nat} {gs : List Nat} {g : Nat} {te : TE} (hi : sl[i]? = some (.ow (gs.map nat))) (h : EvR K E te sl (.dat (nat g))) (hz : gs.length < 1000000) (k : P.nx (sl.set i (.ow ((gs ++ [g]).map nat)))) : W K E (tDrop (tBM K "list" rAppend (tVar i) (tCons te tNil))) sl P :=
  w_app hi h (by rwa [List.length_map]) (by rw [List.map_append] at k; exact k)
end
end Wv
namespace Wv
theorem c_law_table.mk {m : Nat} {gs : List Nat} (h5 : m ≤ 5) (hl : gs.length ≤ 1000) : c_law_table [.tup [nat m, natL gs]] (.new ((tab m gs).map .bl)) := ⟨m, gs, rfl, ⟨h5, hl⟩, rfl⟩
end Wv
namespace Wv
open PySem L2
/-- a statement, then the rest from what is known between -/
theorem w_seqM {K : PySem.W.Frag} {E : XK} {sl : List Sl} {P : En} {t u : TS} (M : List Sl → Prop) (h : W K E t sl { P with nx := M }) (k : ∀ s, M s → W K E u s P) : W K E (tSeq t u) sl P := w_seq (w_mono h (fun s m => k s m) (fun _ z => z) (fun _ z => z) fun _ z => z)
end Wv
namespace Wv
theorem Fgt.tr {a b c : List Sl} (h : Fgt a b) (k : Fgt b c) : Fgt a c := ⟨h.1.trans k.1, fun i => by
  rcases k.2 i with z | z
  · exact .inl z
  · rw [z]
    exact h.2 i⟩
end Wv
namespace Wv
open PySem L2
def c_law_groups : List D → Rs → Prop := R2' natL natL (fun fs _ => fs.length ≤ 1000) fun fs ds => .dat (.bl (decide (fs = ds)))
def c_law_least : List D → Rs → Prop := R2' blL nat (fun t n => n ≤ 5 ∧ t.length = 2 ^ n) fun t _ => .new ((leastM t).map nat)
def c_law_greatest : List D → Rs → Prop := R2' blL nat (fun t n => n ≤ 5 ∧ t.length = 2 ^ n) fun t _ => .new ((greatM t).map nat)
def c_law_is (C : Addr) : List D → Rs → Prop := fun ds r => ∃ n t, ds = [cou C n t, nat n, blL t] ∧ t.length ≤ 32 ∧ r = .dat (.bl true)
theorem c_law_is.len {C : Addr} : ∀ ds r, c_law_is C ds r → ds.length = 3 := by
  rintro ds r ⟨_, _, rfl, _⟩
  rfl
theorem c_law_is.mk {C : Addr} {n : Nat} {t : List Bool} (h : t.length ≤ 32) : c_law_is C [cou C n t, nat n, blL t] (.dat (.bl true)) := ⟨n, t, rfl, h, rfl⟩
/-- xs.clear(), xs one's own -/
theorem w_clear {K : PySem.W.Frag} {E : XK} {sl : List Sl} {P : En} {xs : List D} {i : Nat} (hi : sl[i]? = some (.ow xs)) (k : P.nx (sl.set i (.ow []))) : W K E (tDrop (tBM0 K "list" rClear (tVar i))) sl P := fun B0 H0 B H σ D sd m => by
  obtain ⟨p, vs, h1, h2, h3, h4, h5⟩ := sd.ow i xs hi
  exact ⟨_, h1, .inl ⟨rfl, _, .inl (.inl h4)⟩, p, vs, rfl, rfl, h4, m.nx _ _ _ _ (sd.mut hi h1 denL_nil) k⟩
end Wv
namespace Wv
open PySem L2
theorem kit_ii : kitB "int" "int" = some true := by decide +kernel
theorem kit_ib : kitB "int" "bool" = some false := by decide +kernel
theorem kit_bb : kitB "bool" "bool" = some true := by decide +kernel
theorem kit_bi : kitB "bool" "int" = some true := by decide +kernel
theorem kit_ll : kitB "list" "list" = some true := by decide +kernel
theorem kit_ss : kitB "str" "str" = some true := by decide +kernel
theorem kit_li : kitB "list" "int" = some false := by decide +kernel
theorem kit_lb : kitB "list" "bool" = some false := by decide +kernel
theorem kit_ti : kitB "tuple" "int" = some false := by decide +kernel
theorem kit_tl : kitB "tuple" "list" = some false := by decide +kernel
theorem kit_si : kitB "str" "int" = some false := by decide +kernel
theorem kit_sl : kitB "str" "list" = some false := by decide +kernel
theorem kit_ni : kitB "NoneType" "int" = some false := by decide +kernel
theorem kit_nl : kitB "NoneType" "list" = some false := by decide +kernel
theorem kit_il : kitB "int" "list" = some false := by decide +kernel
theorem kit_lt : kitB "list" "tuple" = some false := by decide +kernel
theorem kit_tt : kitB "tuple" "tuple" = some true := by decide +kernel
theorem kit_ns : kitB "NoneType" "str" = some false := by decide +kernel
theorem kit_is : kitB "int" "str" = some false := by decide +kernel
theorem kit_ls : kitB "list" "str" = some false := by decide +kernel
theorem kit_bs : kitB "bool" "str" = some false := by decide +kernel
end Wv
namespace Wv
open PySem L2
open Evl (Ex fresh_back)
section
variable {X : Cx}
theorem ip_mul : PIp X .Mult (rI CMul fun i j => .int (i * j)) := iop_mul
end
section
variable {K : PySem.W.Frag} {E : XK} {B H : Hp} {sl : List Sl} {ta te : TE} {xs : List D} {P : En}
theorem w_augC {i : Nat} {C : Int → Int → Prop} {f : Int → Int → Int} {a b : Int} (hi : sl[i]? = some (.fz (.int a))) (h : EvR K E te sl (.dat (.int b))) (hc : C a b) (k : P.nx (sl.set i (.fz (.int (f a b))))) : W K E (tAug i te (rI C fun i j => .int (f i j))) sl P := fun B0 H0 B H σ D sd m => by
  obtain ⟨v, h1, h2⟩ := sd.fz i _ hi
  rw [den_int h2] at h1
  refine ⟨_, h1, h B0 H0 B H σ sd _ fun v B1 H1 g1 d1 => ?_⟩
  rw [den_int d1]
  exact ⟨a, b, rfl, rfl, hc, m.nx B1 H1 _ _ ((sd.grow g1).setFz (mk_int _)) k⟩
theorem ty_lst {v : V} (e : Ex B H) (d : Den K B (.lst xs) v) : tyV K "list" v H := by
  obtain ⟨a, vs, rfl, h, _⟩ := den_lst d
  exact .inl ⟨rfl, _, .inl (.inl (e a _ h))⟩
theorem ev_listRg1 {n : Nat} {m : Int} (h : EvR K E ta sl (.dat (.int m))) (e : m = (n : Int)) (hn : n ≤ 1000000) : EvR K E (tLstRg (tRg1 ta)) sl (.new ((List.range n).map nat)) := fun B0 H0 B H σ sd Q q => by
  subst e
  refine h B0 H0 B H σ sd _ fun v B1 H1 g1 d1 => ⟨_, den_int d1, RgOk.of_le (by omega) (by omega) (by omega) (by omega), fun p hp => ?_⟩
  refine q p _ B1 _ (g1.trans (Gr.lay g1.sub hp)) (g1.back hp) (fresh_back g1.sub hp) upd_same ?_
  unfold rgV
  rw [show ((n : Int) - 0).toNat = n by omega]
  have k : ∀ l : List Nat, DenL K B1 (l.map nat) (l.map fun (i : Nat) => V.int (0 + (i : Int))) := by
    intro l
    induction l with
    | nil => exact denL_nil
    | cons a l ih =>
      refine denL_cons ?_ ih
      show Den K B1 (nat a) (V.int (0 + (a : Int)))
      rw [Int.zero_add]
      exact mk_int _
  exact k _
theorem ev_count {ns : List Int} {k : Int} (ho : EvR K E ta sl (.dat (intL ns))) (ha : EvR K E0 te sl (.dat (.int k))) : EvR K E (tBM K "list" (rCntI K) ta (tCons te tNil)) sl (.dat (nat (ns.count k))) :=
  ev_bm ho (ea_cons ha ea_nil) (fun B H v vs e d dd E Q q => ⟨ty_lst e d, by
    obtain ⟨a, us, rfl, h1, h2⟩ := den_lst d
    obtain ⟨w, rfl, h3⟩ := denL_one dd
    rw [den_int h3]
    rw [denL_ints h2] at h1
    exact ⟨a, ns, k, rfl, rfl, SqL.of (e a _ h1), post_v e q (mk_int _)⟩⟩) fun B H v e d => ty_lst e d
end
end Wv
/-! the plain law: tables, least and greatest groups, weights -/
namespace Wv
theorem bits_range : ∀ n, n < 6 → ∀ g, g < 2 ^ n → ((List.range 5).filter fun k => g.testBit k) = (List.range n).filter fun k => g.testBit k := by decide +kernel
theorem great_range : ∀ n, n < 6 → ∀ g, g < 2 ^ n → ((wo ((2 ^ n - 1) ^^^ g)).map fun l => (2 ^ n - 1) ^^^ l) = ((List.range n).filter fun k => !g.testBit k).map fun k => g ||| 2 ^ k := by decide +kernel
theorem less_any {n g : Nat} (hn : n ≤ 5) (hg : g < 2 ^ n) (f : Nat → Bool) : (((List.range n).filter fun k => g.testBit k).any fun k => f (g ^^^ 2 ^ k)) = (wo g).any f := by
  unfold wo
  rw [List.any_map, bits_range n (by omega) g hg]
  rfl
theorem more_all {n g : Nat} (hn : n ≤ 5) (hg : g < 2 ^ n) (f : Nat → Bool) : (((List.range n).filter fun k => !g.testBit k).all fun k => f (g ||| 2 ^ k)) = (wo ((2 ^ n - 1) ^^^ g)).all fun l => f ((2 ^ n - 1) ^^^ l) := by
  have h := congrArg (fun l => l.all f) (great_range n (by omega) g hg)
  simp only [List.all_map] at h
  exact h.symm
theorem filt_eq {p q : Nat → Bool} {n : Nat} (h : ∀ i, i < n → p i = q i) : (List.range n).filter p = (List.range n).filter q := List.filter_congr fun i hi => h i (List.mem_range.mp hi)
/-- a council's table hangs on its groups alone -/
theorem tab_same {n : Nat} {gs hs : List Nat} (h : ∀ g, g ∈ gs ↔ g ∈ hs) : tab n gs = tab n hs := by
  unfold tab
  refine List.map_congr_left fun g _ => ?_
  rw [Bool.eq_iff_iff, List.any_eq_true, List.any_eq_true]
  exact ⟨fun ⟨o, a, b⟩ => ⟨o, (h o).mp a, b⟩, fun ⟨o, a, b⟩ => ⟨o, (h o).mpr a, b⟩⟩
theorem tab_get {n g : Nat} {gs : List Nat} (h : g < 2 ^ n) : (tab n gs).getD g false = gs.any fun o => decide (g &&& o = o) := by
  unfold tab
  rw [List.getD_eq_getElem?_getD, List.getElem?_map, List.getElem?_range h]
  rfl
theorem sum_filt {ws : Nat → Int} (h0 : ∀ k, 0 ≤ ws k) {p q : Nat → Bool} (h : ∀ k, p k = true → q k = true) : ∀ l : List Nat, ((l.filter p).map ws).sum ≤ ((l.filter q).map ws).sum
  | [] => by simp
  | k :: l => by
    have ih := sum_filt h0 h l
    have hk := h0 k
    cases hp : p k with
    | true =>
      rw [List.filter_cons, if_pos hp, List.filter_cons, if_pos (h k hp)]
      simp only [List.map_cons, List.sum_cons]
      omega
    | false =>
      rw [List.filter_cons, if_neg (by rw [hp]; decide)]
      cases hq : q k with
      | true =>
        rw [List.filter_cons, if_pos hq]
        simp only [List.map_cons, List.sum_cons]
        omega
      | false =>
        rw [List.filter_cons, if_neg (by rw [hq]; decide)]
        exact ih
theorem getD_nn {ws : List Int} (h : ∀ w ∈ ws, 0 ≤ w) (k : Nat) : 0 ≤ ws.getD k 0 := by
  rw [List.getD_eq_getElem?_getD]
  cases e : ws[k]? with
  | none => simp
  | some w => exact h w (List.mem_of_getElem? e)
theorem wgt_mono {ws : List Int} (h : ∀ w ∈ ws, 0 ≤ w) {g o : Nat} (hs : g &&& o = o) : wgt ws o ≤ wgt ws g := by
  unfold wgt
  refine sum_filt (ws := fun k => ws.getD k 0) (getD_nn h) (fun k hk => ?_) _
  have e : (g &&& o).testBit k = true := by rw [hs]; exact hk
  rw [Nat.testBit_and] at e
  exact (Bool.and_eq_true_iff.mp e).1
theorem tabW_eq {ws : List Int} {q : Int} (h : ∀ w ∈ ws, 0 ≤ w) : tab ws.length ((List.range (2 ^ ws.length)).filter fun g => decide (q ≤ wgt ws g)) = (List.range (2 ^ ws.length)).map fun g => decide (q ≤ wgt ws g) := by
  unfold tab
  refine List.map_congr_left fun g hg => ?_
  rw [Bool.eq_iff_iff, List.any_eq_true, decide_eq_true_eq]
  constructor
  · rintro ⟨o, ho, hs⟩
    have h1 := of_decide_eq_true (List.mem_filter.mp ho).2
    have h2 := wgt_mono h (of_decide_eq_true hs)
    omega
  · intro hq
    exact ⟨g, List.mem_filter.mpr ⟨hg, decide_eq_true hq⟩, decide_eq_true (Nat.and_self g)⟩
end Wv
namespace Wv
theorem leastM_len {t : List Bool} (h : t.length ≤ 32) : (leastM t).length ≤ 32 := Nat.le_trans (filt_len _ _) h
theorem greatM_len {t : List Bool} (h : t.length ≤ 32) : (greatM t).length ≤ 32 := Nat.le_trans (filt_len _ _) h
theorem sum_le : ∀ (ws : List Nat) (b : Nat), (∀ w ∈ ws, w ≤ b) → (ws.map fun (w : Nat) => (w : Int)).sum ≤ (ws.length * b : Nat)
  | [], b, _ => by simp
  | w :: ws, b, h => by
    have ih := sum_le ws b fun x hx => h x (List.mem_cons_of_mem _ hx)
    have hw := h w List.mem_cons_self
    simp only [List.map_cons, List.sum_cons, List.length_cons]
    rw [Nat.succ_mul]
    omega
theorem most_ok : ∀ k, k < 3 → 0 < ([3, 50, 1000001] : List Nat).getD k 0 ∧ ([3, 50, 1000001] : List Nat).getD k 0 ≤ 1000001 := by decide
end Wv
namespace Wv
theorem wgt_nat (ws : List Nat) (g : Nat) : wgt (ws.map fun (w : Nat) => (w : Int)) g = (((List.range ws.length).filter fun k => g.testBit k).map fun k => ((ws.getD k 0 : Nat) : Int)).sum := by
  unfold wgt
  rw [List.length_map]
  congr 1
  refine List.map_congr_left fun k _ => ?_
  rw [List.getD_eq_getElem?_getD, List.getD_eq_getElem?_getD, List.getElem?_map]
  cases ws[k]? <;> rfl
end Wv
/-! the plain law: upward tables, the turned one, turns, orders -/
namespace Wv
/-- with every group each greater one -/
def Mono (n : Nat) (t : List Bool) : Prop := t.length = 2 ^ n ∧ ∀ g o, g < 2 ^ n → o < 2 ^ n → g &&& o = o → t.getD o false = true → t.getD g false = true
theorem mono_tab {n : Nat} {gs : List Nat} : Mono n (tab n gs) := ⟨tab_len n gs, fun g o hg ho hs ht => by
  rw [tab_get ho, List.any_eq_true] at ht
  obtain ⟨x, hx, e⟩ := ht
  rw [tab_get hg, List.any_eq_true]
  refine ⟨x, hx, decide_eq_true ?_⟩
  have e := of_decide_eq_true e
  rw [← e, ← Nat.and_assoc, hs]⟩
theorem map_get {n g : Nat} {p : Nat → Bool} (h : g < n) : ((List.range n).map p).getD g false = p g := by
  rw [List.getD_eq_getElem?_getD, List.getElem?_map, List.getElem?_range h]
  rfl
/-- the groups told by an upward property are its table -/
theorem tab_up {n : Nat} {p : Nat → Bool} (h : ∀ g o, g < 2 ^ n → o < 2 ^ n → g &&& o = o → p o = true → p g = true) : tab n ((List.range (2 ^ n)).filter p) = (List.range (2 ^ n)).map p := by
  unfold tab
  refine List.map_congr_left fun g hg => ?_
  have hg := List.mem_range.mp hg
  rw [Bool.eq_iff_iff, List.any_eq_true]
  constructor
  · rintro ⟨o, ho, hs⟩
    obtain ⟨h1, h2⟩ := List.mem_filter.mp ho
    exact h g o hg (List.mem_range.mp h1) (of_decide_eq_true hs) h2
  · intro hq
    exact ⟨g, List.mem_filter.mpr ⟨List.mem_range.mpr hg, hq⟩, decide_eq_true (Nat.and_self g)⟩
/-- the turned table -/
def dualM (n : Nat) (t : List Bool) : List Bool := (List.range (2 ^ n)).map fun g => !t.getD ((2 ^ n - 1) ^^^ g) false
theorem comp_lt {n g : Nat} (h : g < 2 ^ n) : (2 ^ n - 1) ^^^ g < 2 ^ n := Nat.xor_lt_two_pow (by have := Nat.two_pow_pos n; omega) h
theorem comp_comp (n g : Nat) : (2 ^ n - 1) ^^^ ((2 ^ n - 1) ^^^ g) = g := by
  rw [← Nat.xor_assoc, Nat.xor_self, Nat.zero_xor]
theorem comp_sub : ∀ n, n < 6 → ∀ g, g < 2 ^ n → ∀ o, o < 2 ^ n → g &&& o = o → ((2 ^ n - 1) ^^^ o) &&& ((2 ^ n - 1) ^^^ g) = (2 ^ n - 1) ^^^ g := by decide +kernel
theorem comp_is : ∀ n, n < 6 → ∀ g, g < 2 ^ n → 2 ^ n - 1 - g = (2 ^ n - 1) ^^^ g := by decide +kernel
theorem dual_up {n : Nat} {t : List Bool} (hn : n ≤ 5) (h : Mono n t) (g o : Nat) (hg : g < 2 ^ n) (ho : o < 2 ^ n) (hs : g &&& o = o) (hp : (!t.getD ((2 ^ n - 1) ^^^ o) false) = true) : (!t.getD ((2 ^ n - 1) ^^^ g) false) = true := by
  rw [Bool.not_eq_true'] at hp ⊢
  cases e : t.getD ((2 ^ n - 1) ^^^ g) false with
  | false => rfl
  | true =>
    have := h.2 _ _ (comp_lt ho) (comp_lt hg) (comp_sub n (by omega) g hg o ho hs) e
    rw [hp] at this
    cases this
theorem dual_tab {n : Nat} {t : List Bool} (hn : n ≤ 5) (h : Mono n t) : tab n ((List.range (2 ^ n)).filter fun g => !t.getD ((2 ^ n - 1) ^^^ g) false) = dualM n t := tab_up fun g o hg ho hs hp => dual_up hn h g o hg ho hs hp
theorem dual_len (n : Nat) (t : List Bool) : (dualM n t).length = 2 ^ n := by simp [dualM]
theorem mono_dual {n : Nat} {t : List Bool} (hn : n ≤ 5) (h : Mono n t) : Mono n (dualM n t) := by
  rw [← dual_tab hn h]
  exact mono_tab
theorem list_ext_get {n : Nat} {t u : List Bool} (h1 : t.length = n) (h2 : u.length = n) (h : ∀ g, g < n → t.getD g false = u.getD g false) : t = u := by
  apply List.ext_getElem?
  intro i
  by_cases hi : i < n
  · have a := h i hi
    rw [List.getD_eq_getElem?_getD, List.getD_eq_getElem?_getD, List.getElem?_eq_getElem (by omega), List.getElem?_eq_getElem (by omega)] at a
    rw [List.getElem?_eq_getElem (by omega), List.getElem?_eq_getElem (by omega)]
    exact congrArg some a
  · rw [List.getElem?_eq_none (by omega), List.getElem?_eq_none (by omega)]
theorem dual_get {n g : Nat} {t : List Bool} (h : g < 2 ^ n) : (dualM n t).getD g false = !t.getD ((2 ^ n - 1) ^^^ g) false := map_get h
theorem dual_dual {n : Nat} {t : List Bool} (h : t.length = 2 ^ n) : dualM n (dualM n t) = t := list_ext_get (dual_len _ _) h fun g hg => by
  rw [dual_get hg, dual_get (comp_lt hg), comp_comp, Bool.not_not]
/-! ### turns -/
def swing (t : List Bool) (k g : Nat) : Bool := t.getD (g ||| 2 ^ k) false && !t.getD g false
def swingsM (n : Nat) (t : List Bool) : List Nat := (List.range n).map fun k => ((List.range (2 ^ n)).filter fun g => !g.testBit k && swing t k g).length
theorem perm_comp : ∀ n, n < 6 → ∀ k, k < n → (((List.range (2 ^ n)).filter fun g => !g.testBit k).map fun g => (2 ^ n - 1) ^^^ (g ||| 2 ^ k)).isPerm ((List.range (2 ^ n)).filter fun g => !g.testBit k) = true := by decide +kernel
theorem comp_or : ∀ n, n < 6 → ∀ k, k < n → ∀ g, g < 2 ^ n → g.testBit k = false → ((2 ^ n - 1) ^^^ (g ||| 2 ^ k)) ||| 2 ^ k = (2 ^ n - 1) ^^^ g := by decide +kernel
theorem swing_dual {n : Nat} {t : List Bool} (hn : n ≤ 5) (h : t.length = 2 ^ n) {k : Nat} (hk : k < n) : ((List.range (2 ^ n)).filter fun g => !g.testBit k && swing (dualM n t) k g).length = ((List.range (2 ^ n)).filter fun g => !g.testBit k && swing t k g).length := by
  have split : ∀ f : Nat → Bool, ((List.range (2 ^ n)).filter fun g => !g.testBit k && f g).length = ((List.range (2 ^ n)).filter fun g => !g.testBit k).countP f := fun f => by
    rw [List.countP_eq_length_filter, List.filter_filter]
    congr 1
    exact List.filter_congr fun g _ => Bool.and_comm _ _
  rw [split, split, ← (List.isPerm_iff.mp (perm_comp n (by omega) k hk)).countP_eq, List.countP_map]
  refine List.countP_congr fun g hg => ?_
  obtain ⟨h1, h2⟩ := List.mem_filter.mp hg
  have h1 := List.mem_range.mp h1
  have h2 : g.testBit k = false := by simpa using h2
  have hor : g ||| 2 ^ k < 2 ^ n := Nat.or_lt_two_pow h1 (Nat.pow_lt_pow_right (by decide) hk)
  show swing (dualM n t) k ((2 ^ n - 1) ^^^ (g ||| 2 ^ k)) = true ↔ swing t k g = true
  unfold swing
  rw [comp_or n (by omega) k hk g h1 h2, dual_get (comp_lt h1), dual_get (comp_lt hor), comp_comp, comp_comp, Bool.not_not, Bool.and_comm]
theorem swings_dual {n : Nat} {t : List Bool} (hn : n ≤ 5) (h : t.length = 2 ^ n) : swingsM n (dualM n t) = swingsM n t := List.map_congr_left fun k hk => swing_dual hn h (List.mem_range.mp hk)
/-! ### orders -/
def fac : Nat → Nat
  | 0 => 1
  | n + 1 => fac n * (n + 1)
def pop (n g : Nat) : Nat := ((List.range n).filter fun i => g.testBit i).length
def ordCond (t : List Bool) (k g : Nat) : Bool := !g.testBit k && swing t k g
def ordersM (n : Nat) (t : List Bool) : List Nat := (List.range n).map fun k => (((List.range (2 ^ n)).filter fun g => ordCond t k g).map fun g => fac (pop n g) * fac (n - 1 - pop n g)).sum
/-- all orders of so many, as the law makes them -/
def permsM : Nat → List (List Nat)
  | 0 => [[]]
  | n + 1 => (List.range (n + 1)).flatMap fun a => (permsM n).map fun o => o.take a ++ [n] ++ o.drop a
def turnFrom (t : List Bool) (g : Nat) : List Nat → Int
  | [] => -1
  | k :: r => if !t.getD g false && t.getD (g ||| 2 ^ k) false then (k : Int) else turnFrom t (g ||| 2 ^ k) r
/-- those ahead of k -/
def before (k : Nat) (o : List Nat) : Nat := (o.takeWhile fun x => decide (x ≠ k)).foldl (fun g x => g ||| 2 ^ x) 0
theorem perms_ok : ∀ n, n < 6 → ∀ o ∈ permsM n, (∀ x ∈ o, x < n) ∧ ∀ k, k < n → k ∈ o := by decide +kernel
theorem perms_nodup : ∀ n, n < 6 → ∀ o ∈ permsM n, o.Nodup := by decide +kernel
theorem perms_len : ∀ n, n < 6 → (permsM n).length ≤ 120 := by decide +kernel
theorem before_count : ∀ n, n < 6 → ∀ k, k < n → ∀ g, g < 2 ^ n → ((permsM n).map (before k)).count g = if g.testBit k then 0 else fac (pop n g) * fac (n - 1 - pop n g) := by decide +kernel
theorem before_lt : ∀ n, n < 6 → ∀ k, k < n → ∀ o ∈ permsM n, before k o < 2 ^ n := by decide +kernel
theorem sum_count (f : Nat → Bool) : ∀ (l : List Nat) (m : Nat), (∀ g ∈ l, g < m) → l.countP f = (((List.range m).filter f).map fun g => l.count g).sum
  | [], m, _ => by
    have h : ∀ r : List Nat, (r.map fun g => ([] : List Nat).count g).sum = 0 := by
      intro r
      induction r with
      | nil => rfl
      | cons a r ih =>
        rw [List.map_cons, List.sum_cons, ih]
        rfl
    rw [h]
    rfl
  | a :: l, m, hl => by
    have ih := sum_count f l m fun g hg => hl g (List.mem_cons_of_mem _ hg)
    have ha := hl a List.mem_cons_self
    have key : ∀ r : List Nat, r.Nodup → (r.map fun g => (a :: l).count g).sum = (r.map fun g => l.count g).sum + if a ∈ r then 1 else 0 := by
      intro r
      induction r with
      | nil => intro _; rfl
      | cons b r ihr =>
        intro hnd
        obtain ⟨h1, h2⟩ := List.nodup_cons.mp hnd
        have q := ihr h2
        simp only [List.map_cons, List.sum_cons]
        rw [q, List.count_cons]
        by_cases e : a = b
        · subst e
          rw [if_neg h1]
          simp
          omega
        · have e2 : (a == b) = false := by simpa using e
          rw [e2]
          simp [e]
          omega
    rw [List.countP_cons, ih, key _ (List.nodup_range.sublist List.filter_sublist)]
    congr 1
    cases hf : f a with
    | true => rw [if_pos rfl, if_pos (List.mem_filter.mpr ⟨List.mem_range.mpr ha, hf⟩)]
    | false => rw [if_neg Bool.false_ne_true, if_neg fun z => by rw [(List.mem_filter.mp z).2] at hf; cases hf]
theorem turn_mem {t : List Bool} : ∀ (o : List Nat) (g : Nat) (k : Nat), turnFrom t g o = (k : Int) → k ∈ o
  | [], g, k, h => by
    have h : (-1 : Int) = (k : Int) := h
    omega
  | a :: o, g, k, h => by
    unfold turnFrom at h
    split at h
    · have : a = k := by omega
      rw [this]
      exact List.mem_cons_self
    · exact List.mem_cons_of_mem _ (turn_mem o _ k h)
/-- who turns in an order: by those ahead of it -/
theorem turn_before {n : Nat} {t : List Bool} (h : Mono n t) : ∀ (o : List Nat) (g : Nat) (k : Nat), (∀ x ∈ o, x < n) → g < 2 ^ n → o.Nodup → k ∈ o → g.testBit k = false →
    (turnFrom t g o = (k : Int) ↔ (!t.getD ((o.takeWhile fun x => decide (x ≠ k)).foldl (fun g x => g ||| 2 ^ x) g) false && t.getD (((o.takeWhile fun x => decide (x ≠ k)).foldl (fun g x => g ||| 2 ^ x) g) ||| 2 ^ k) false) = true)
  | [], _, _, _, _, _, h, _ => nomatch h
  | a :: o, g, k, ho, hg, hnd, hk, hb => by
    obtain ⟨h1, h2⟩ := List.nodup_cons.mp hnd
    have ha := ho a List.mem_cons_self
    have hga : g ||| 2 ^ a < 2 ^ n := Nat.or_lt_two_pow hg (Nat.pow_lt_pow_right (by decide) ha)
    unfold turnFrom
    by_cases e : a = k
    · subst e
      have tw : ((a :: o).takeWhile fun x => decide (x ≠ a)) = [] := by simp [List.takeWhile_cons]
      rw [tw]
      simp only [List.foldl_nil]
      by_cases c : (!t.getD g false && t.getD (g ||| 2 ^ a) false) = true
      · rw [if_pos c]
        exact ⟨fun _ => c, fun _ => rfl⟩
      · rw [if_neg c]
        exact ⟨fun z => absurd (turn_mem o _ a z) h1, fun z => absurd z c⟩
    · have hko : k ∈ o := (List.mem_cons.mp hk).resolve_left fun z => e z.symm
      have hbk : (g ||| 2 ^ a).testBit k = false := by
        rw [Nat.testBit_or, hb, Nat.testBit_two_pow_of_ne e]
        rfl
      have tw : ((a :: o).takeWhile fun x => decide (x ≠ k)) = a :: o.takeWhile fun x => decide (x ≠ k) := by simp [List.takeWhile_cons, e]
      rw [tw]
      simp only [List.foldl_cons]
      by_cases c : (!t.getD g false && t.getD (g ||| 2 ^ a) false) = true
      · rw [if_pos c]
        constructor
        · intro z
          exact absurd (by omega) e
        · intro z
          -- behind a, who turned, all carry
          have up : ∀ (l : List Nat) (x : Nat), (∀ y ∈ l, y < n) → x < 2 ^ n → t.getD x false = true → t.getD (l.foldl (fun g x => g ||| 2 ^ x) x) false = true := by
            intro l
            induction l with
            | nil => intro x _ _ hx; exact hx
            | cons y l ih =>
              intro x hl hx ht
              have hy := hl y List.mem_cons_self
              have hxy : x ||| 2 ^ y < 2 ^ n := Nat.or_lt_two_pow hx (Nat.pow_lt_pow_right (by decide) hy)
              refine ih _ (fun w hw => hl w (List.mem_cons_of_mem _ hw)) hxy (h.2 _ x hxy hx ?_ ht)
              apply Nat.eq_of_testBit_eq
              intro i
              rw [Nat.testBit_and, Nat.testBit_or]
              cases x.testBit i <;> simp
          have u := up (o.takeWhile fun x => decide (x ≠ k)) (g ||| 2 ^ a) (fun y hy => ho y (List.mem_cons_of_mem _ ((List.takeWhile_sublist _).subset hy))) hga (Bool.and_eq_true_iff.mp c).2
          rw [u] at z
          cases z
      · rw [if_neg c]
        exact turn_before h o (g ||| 2 ^ a) k (fun x hx => ho x (List.mem_cons_of_mem _ hx)) hga h2 hko hbk
theorem orders_count {n : Nat} {t : List Bool} (hn : n ≤ 5) (h : Mono n t) {k : Nat} (hk : k < n) : ((permsM n).map (turnFrom t 0)).count (k : Int) = (((List.range (2 ^ n)).filter fun g => ordCond t k g).map fun g => fac (pop n g) * fac (n - 1 - pop n g)).sum := by
  rw [List.count_eq_countP, List.countP_map]
  have e1 : (permsM n).countP ((fun x => x == (k : Int)) ∘ turnFrom t 0) = ((permsM n).map (before k)).countP (fun g => swing t k g) := by
    rw [List.countP_map]
    refine List.countP_congr fun o ho => ?_
    obtain ⟨h1, h2⟩ := perms_ok n (by omega) o ho
    have q := turn_before h o 0 k h1 (Nat.two_pow_pos n) (perms_nodup n (by omega) o ho) (h2 k hk) (Nat.zero_testBit k)
    show (turnFrom t 0 o == (k : Int)) = true ↔ swing t k (before k o) = true
    rw [beq_iff_eq, q]
    unfold swing before
    rw [Bool.and_comm]
  rw [e1, sum_count _ _ (2 ^ n) fun g hg => by
    obtain ⟨o, ho, rfl⟩ := List.mem_map.mp hg
    exact before_lt n (by omega) k hk o ho]
  have e2 : ∀ l : List Nat, (∀ g ∈ l, g < 2 ^ n) → ((l.filter fun g => swing t k g).map fun g => ((permsM n).map (before k)).count g).sum = ((l.filter fun g => ordCond t k g).map fun g => fac (pop n g) * fac (n - 1 - pop n g)).sum := by
    intro l
    induction l with
    | nil => intro _; rfl
    | cons g l ih =>
      intro hl
      have q := ih fun x hx => hl x (List.mem_cons_of_mem _ hx)
      have c := before_count n (by omega) k hk g (hl g List.mem_cons_self)
      rw [List.filter_cons, List.filter_cons]
      unfold ordCond
      cases hs : swing t k g with
      | false =>
        rw [if_neg (by decide), Bool.and_false, if_neg (by decide)]
        exact q
      | true =>
        rw [if_pos rfl, Bool.and_true]
        cases hb : g.testBit k with
        | true =>
          rw [if_neg (by decide), List.map_cons, List.sum_cons, c, hb, if_pos rfl, Nat.zero_add]
          exact q
        | false =>
          rw [if_pos (by decide), List.map_cons, List.map_cons, List.sum_cons, List.sum_cons, c, hb, if_neg (by decide)]
          congr 1
  exact e2 _ fun g hg => List.mem_range.mp hg
end Wv
/-! where the text's defs stand -/
namespace Wv
open PySem L2 PyProof.Rows
def LawAt (K : PySem.W.Frag) (mg : Str → Option Value) (st : Stmt) : Prop := ∃ f fd, mg "law" = some (.ref f) ∧ Fun K "law" "law" st f fd ∧ ∀ v, bindArgs fd ⟨[v], []⟩ = pure [(("_law_script" : Str), v)]
section
variable {K : PySem.W.Frag} {mg : Str → Option Value} {h : Heap} {x m q : Str} {st : Stmt} {ps : List Str} {f C : Addr} {oc : Value} {od an : Option Addr} {osl : Array (Option Value)} {kV doc pm cd ct : Value}
theorem fnAt_mk (X : K.In h) (G : h.Ns mainGlobals mg) (a : PySem.W.nsIn K mainGlobals x = some (some (.ref f))) (l : K.lookup f = some ⟨oc, od, .func (PySem.W.fnOf x x (defArgs st) (defBody st) (defScope st) .none kV doc pm an cd ct), osl⟩) (c : PySem.W.codeIn K cd x = true) (k : PySem.W.keepIn K (.ref f) = true)
    (hb : ∀ (kV doc pm : Value) (an : Option Addr) (cdv ct : Value) (us : List Value), us.length = ps.length → bindArgs (PySem.W.fnOf x x (defArgs st) (defBody st) (defScope st) .none kV doc pm an cdv ct) ⟨us, []⟩ = pure (ps.zip us)) : FnAt K mg x st ps :=
  ⟨f, _, PySem.W.mg_of X G a, fun_mk l c k, (fun_mk l c k).binds hb⟩
theorem mtAt_mk (a : PySem.W.findIn K (.ref C) m = some (some (.ref f))) (i : PySem.W.isFn K (.ref f) = true) (l : K.lookup f = some ⟨oc, od, .func (PySem.W.fnOf m q (defArgs st) (defBody st) (defScope st) .none kV doc pm an cd ct), osl⟩) (c : PySem.W.codeIn K cd q = true) (k : PySem.W.keepIn K (.ref f) = true)
    (hb : ∀ (kV doc pm : Value) (an : Option Addr) (cdv ct : Value) (us : List Value), us.length = ps.length → bindArgs (PySem.W.fnOf m q (defArgs st) (defBody st) (defScope st) .none kV doc pm an cdv ct) ⟨us, []⟩ = pure (ps.zip us)) : MtAt K C m q st ps :=
  ⟨f, _, ⟨a, i, k⟩, fun_mk l c k, (fun_mk l c k).binds hb⟩
theorem mkAt_mk (g : mg x = some (.ref C)) (mk : PySem.W.makesIn K C = true) (a : PySem.W.findIn K (.ref C) "__init__" = some (some (.ref f))) (i : PySem.W.isFn K (.ref f) = true) (kc : PySem.W.keepIn K (.ref C) = true) (l : K.lookup f = some ⟨oc, od, .func (PySem.W.fnOf "__init__" q (defArgs st) (defBody st) (defScope st) .none kV doc pm an cd ct), osl⟩) (c : PySem.W.codeIn K cd q = true) (k : PySem.W.keepIn K (.ref f) = true)
    (hb : ∀ (kV doc pm : Value) (an : Option Addr) (cdv ct : Value) (us : List Value), us.length = ps.length → bindArgs (PySem.W.fnOf "__init__" q (defArgs st) (defBody st) (defScope st) .none kV doc pm an cdv ct) ⟨us, []⟩ = pure (ps.zip us)) : MkAt K mg x C q st ps :=
  ⟨f, _, g, ⟨mk, a, i, kc⟩, fun_mk l c k, (fun_mk l c k).binds hb⟩
theorem lawAt_mk (X : K.In h) (G : h.Ns mainGlobals mg) (a : PySem.W.nsIn K mainGlobals "law" = some (some (.ref f))) (l : K.lookup f = some ⟨oc, od, .func (PySem.W.fnOf "law" "law" (defArgs st) (defBody st) (defScope st) .none kV doc pm an cd ct), osl⟩) (c : PySem.W.codeIn K cd "law" = true) (k : PySem.W.keepIn K (.ref f) = true)
    (hb : ∀ (kV doc pm : Value) (an : Option Addr) (cdv ct : Value) (v : Value), bindArgs (PySem.W.fnOf "law" "law" (defArgs st) (defBody st) (defScope st) .none kV doc pm an cdv ct) ⟨[v], []⟩ = pure [(("_law_script" : Str), v)]) : LawAt K mg st :=
  ⟨f, _, PySem.W.mg_of X G a, fun_mk l c k, hb kV doc pm an cd ct⟩
end
def c_law : List D → Rs → Prop := R1 D.scr (fun _ => True) fun _ => .dat (.bl true)
theorem walk {l : PySem.W.OpenLaw} {q : Program} {loose : List Str} {XP : (Str → Option Value) → Heap → Prop} {YP : World → Heap → Prop} {d : DefRec} {K : Params → PySem.W.Frag} {k : Nat} (hn : l.most = some 63) (hdf : d.params.defaults = []) (hr : Room k callerA)
    (hY : ∀ (w : World) (h : Heap), YP w h → (K w.params).In h)
    (F : ∀ (w : World) (mg : Str → Option Value) (fa : Addr) (h : Heap), (K w.params).In h → h.Ns mainGlobals mg → mg d.name = some (.ref fa) →
      ∃ fd : FuncData, (∀ (s : Shared) (u : Value), BindsTo s fd ⟨[u], []⟩ [("_law_script", u)]) ∧ ∀ base : Heap, (K w.params).In base → base.Ns mainGlobals mg → FnOk l.prog w (K w.params) mg base CX0 k fa fd ["_law_script"] (SpR (K w.params) c_law)) :
    PySem.W.WalkO q loose XP YP l.row.toRowW d [] (fun f vs => PySem.call f vs) :=
  L2.walk_of (n := 63) (k := k) (x := "_law_script") (CX := fun _ => CX0) (sp := fun w => SpR (K w.params) c_law) hn (by decide) hdf hr hY F
    (fun w H a ns hl _ hS => ⟨H, [.scr ns], .dat (.bl true), fun _ _ z => z, denL_cons (by simp only [Den]; exact ⟨a, rfl, hS⟩) denL_nil, ⟨ns, rfl, True.intro, rfl⟩, fun v B' H' g dv => den_bl dv⟩) fun _ _ _ _ _ z => z
end Wv
/-! objects asked for their class; lists of lists -/
namespace Wv
open PySem L2 PyProof.Rows
open Evl (Ex fresh_back ex_l)
/-- what isinstance asks of a class whose instances are asked -/
structure IsC (K : PySem.W.Frag) (C : Addr) : Prop where
  cl : Cls K C
  ha : PySem.W.findIn K (.ref C) "__class__" = some (some (.builtin "object.__class__"))
  hn : PySem.W.specialIn K (.builtin "object.__class__") "__get__" = some (some (.builtin "getset_descriptor.__get__"))
  ht : PySem.W.takesIn K (.builtin "object.__class__") = some true
  hm : PySem.W.mroIn K C (.type "object") = some true
section
variable {K : PySem.W.Frag} {C C' : Addr} {ns : List Str} {ds : List D} {b : Bool}
theorem cb_isiO (c : IsC K C) (h : PySem.W.kitOne K (.ref C) (.ref C') = some b) : CbD K (rIsi K) [.obj C ns ds, .fn C'] (.dat (.bl b)) := fun B H vs e d E Q q => by
  obtain ⟨v, w, rfl, h1, h2⟩ := denL_two d
  simp only [Den] at h1 h2
  subst h2
  obtain ⟨a, dx, us, rfl, g1, g2, g3⟩ := h1
  exact ⟨.ref a, .ref C', .ref C, .ref C', b, rfl, .own C', .base (.ins (e a _ g1) c.cl c.ha c.hn c.ht c.hm), h, post_v e q (mk_bl _)⟩
/-! lists of lists of ints -/
abbrev natLL (xss : List (List Nat)) : D := .lst (xss.map natL)
theorem dp_nats {H : Hp} : ∀ xs : List Nat, DpAll K H ((xs.map fun (n : Nat) => (n : Int)).map V.int) (xs.map fun (n : Nat) => PyData.int (n : Int))
  | [] => .nil
  | n :: xs => .cons (.int _) (dp_nats xs)
theorem denL_nats {B : Hp} {xs : List Nat} {vs : List V} (h : DenL K B (xs.map nat) vs) : vs = (xs.map fun (n : Nat) => (n : Int)).map V.int := by
  have e : xs.map nat = (xs.map fun (n : Nat) => (n : Int)).map D.int := by
    rw [List.map_map]
    rfl
  rw [e] at h
  exact denL_ints h
def dataLL (xss : List (List Nat)) : List PyData := xss.map fun xs => PyData.list (xs.map fun (n : Nat) => PyData.int (n : Int))
theorem dp_natLL {B H : Hp} (e : Ex B H) : ∀ {xss : List (List Nat)} {vs : List V}, DenL K B (xss.map natL) vs → DpAll K H vs (dataLL xss)
  | [], vs, h => by
    rw [denL_inv0 h]
    exact .nil
  | xs :: xss, vs, h => by
    obtain ⟨v, r, rfl, h1, h2⟩ := denL_inv h
    obtain ⟨a, us, rfl, g1, g2⟩ := den_lst h1
    rw [denL_nats g2] at g1
    exact .cons (.lst (SqL.of (e a _ g1)) (dp_nats xs)) (dp_natLL e h2)
theorem lay_nats : ∀ xs : List Nat, PyData.canLayAll0 (xs.map fun (n : Nat) => PyData.int (n : Int)) = true
  | [] => by simp [PyData.canLayAll0]
  | n :: xs => by simp [PyData.canLayAll0, PyData.canLay0, lay_nats xs]
theorem dep_nats : ∀ xs : List Nat, PyData.depthAll (xs.map fun (n : Nat) => PyData.int (n : Int)) = 0
  | [] => by simp [PyData.depthAll]
  | n :: xs => by simp [PyData.depthAll, PyData.depth, dep_nats xs]
theorem lay_LL : ∀ xss : List (List Nat), PyData.canLayAll0 (dataLL xss) = true
  | [] => by simp [dataLL, PyData.canLayAll0]
  | xs :: xss => by
    have ih := lay_LL xss
    unfold dataLL at ih ⊢
    simp [PyData.canLayAll0, PyData.canLay0, lay_nats xs, ih]
theorem dep_LL : ∀ xss : List (List Nat), PyData.depthAll (dataLL xss) ≤ 1
  | [] => by simp [dataLL, PyData.depthAll]
  | xs :: xss => by
    have ih := dep_LL xss
    unfold dataLL at ih ⊢
    simp [PyData.depthAll, PyData.depth, dep_nats xs]
    omega
theorem sh_LL (xss : List (List Nat)) : SeqAt.shaped (.list (dataLL xss)) = true := by
  have := dep_LL xss
  unfold SeqAt.shaped
  simp [PyData.canLay0, PyData.depth, lay_LL]
  omega
theorem eqv_nats : ∀ xs ys : List Nat, PyData.eqvAll (xs.map fun (n : Nat) => PyData.int (n : Int)) (ys.map fun (n : Nat) => PyData.int (n : Int)) = decide (xs = ys)
  | [], [] => by simp [PyData.eqvAll]
  | [], _ :: _ => by simp [PyData.eqvAll]
  | _ :: _, [] => by simp [PyData.eqvAll]
  | n :: ns, m :: ms => by
    simp only [List.map_cons, PyData.eqvAll, PyData.eqv, eqv_nats ns ms]
    rw [Bool.eq_iff_iff]
    simp
    omega
theorem eqv_LL : ∀ xs ys : List (List Nat), PyData.eqvAll (dataLL xs) (dataLL ys) = decide (xs = ys)
  | [], [] => by simp [dataLL, PyData.eqvAll]
  | [], _ :: _ => by simp [dataLL, PyData.eqvAll]
  | _ :: _, [] => by simp [dataLL, PyData.eqvAll]
  | n :: ns, m :: ms => by
    have ih := eqv_LL ns ms
    unfold dataLL at ih ⊢
    simp only [List.map_cons, PyData.eqvAll, PyData.eqv, eqv_nats, ih]
    rw [Bool.eq_iff_iff]
    simp
theorem od_neLL {xs ys : List (List Nat)} : OpD K (rNeD K) (natLL xs) (natLL ys) (.dat (.bl (!decide (xs = ys)))) := fun B H vx vy e dx dy E Q q => by
  obtain ⟨a, vs, rfl, h1, h2⟩ := den_lst dx
  obtain ⟨b, us, rfl, h3, h4⟩ := den_lst dy
  refine ⟨_, _, .lst (SqL.of (e a _ h1)) (dp_natLL e h2), .lst (SqL.of (e b _ h3)) (dp_natLL e h4), sh_LL xs, sh_LL ys, ?_⟩
  simp only [PyData.eqv, eqv_LL]
  exact post_v e q (mk_bl _)
theorem any_LL (x : List Nat) : ∀ xss : List (List Nat), ((dataLL xss).any fun z => PyData.eqv z (.list (x.map fun (n : Nat) => PyData.int (n : Int)))) = decide (x ∈ xss)
  | [] => by simp [dataLL]
  | y :: xss => by
    have ih := any_LL x xss
    unfold dataLL at ih ⊢
    rw [List.map_cons, List.any_cons, ih]
    have e : PyData.eqv (.list (y.map fun (n : Nat) => PyData.int (n : Int))) (.list (x.map fun (n : Nat) => PyData.int (n : Int))) = decide (y = x) := by
      simp only [PyData.eqv, eqv_nats]
    rw [e, Bool.eq_iff_iff, Bool.or_eq_true, decide_eq_true_iff, decide_eq_true_iff, decide_eq_true_iff, List.mem_cons]
    exact ⟨fun z => z.elim (fun w => .inl w.symm) .inr, fun z => z.elim (fun w => .inl w.symm) .inr⟩
theorem sh_nats (xs : List Nat) : SeqAt.shaped (.list (xs.map fun (n : Nat) => PyData.int (n : Int))) = true := by
  unfold SeqAt.shaped
  simp [PyData.canLay0, PyData.depth, lay_nats, dep_nats]
/-- xs in xss -/
theorem od_inLL {xs : List Nat} {xss : List (List Nat)} : OpD K (rInD K) (natL xs) (natLL xss) (.dat (.bl (decide (xs ∈ xss)))) := fun B H vx vy e dx dy E Q q => by
  obtain ⟨a, vs, rfl, h1, h2⟩ := den_lst dx
  obtain ⟨b, us, rfl, h3, h4⟩ := den_lst dy
  rw [denL_nats h2] at h1
  refine ⟨_, _, .lst (SqL.of (e a _ h1)) (dp_nats xs), .lst (SqL.of (e b _ h3)) (dp_natLL e h4), sh_nats xs, sh_LL xss, ?_⟩
  rw [any_LL]
  exact post_v e q (mk_bl _)
end
/-- told.extend(xs) -/
theorem w_ext {K : PySem.W.Frag} {E : XK} {sl : List Sl} {P : En} {te : TE} {xs ys : List D} {i : Nat} (hi : sl[i]? = some (.ow xs)) (h : EvR K E0 te sl (.dat (.lst ys))) (hz : xs.length + ys.length < 1000000) (k : P.nx (sl.set i (.ow (xs ++ ys)))) : W K E (tDrop (tBM K "list" rExtend (tVar i) (tCons te tNil))) sl P := fun B0 H0 B H σ D sd m => by
  obtain ⟨p, vs, h1, h2, h3, h4, h5⟩ := sd.ow i xs hi
  refine ⟨_, h1, .inl ⟨rfl, _, .inl (.inl h4)⟩, h B0 H0 B H σ sd _ fun v B1 H1 g1 d1 => ?_⟩
  obtain ⟨q, us, e1, e2, e3, e4, e5⟩ := (sd.grow g1).ow i xs hi
  rw [h1] at e1
  cases e1
  obtain ⟨b, ws, rfl, f1, f2⟩ := den_lst d1
  refine ⟨p, b, us, ws, rfl, rfl, e4, g1.sub _ _ f1, ?_, m.nx _ _ _ _ ((sd.grow g1).mut hi h1 (denL_app e5 f2)) k⟩
  rw [← denL_len e5, ← denL_len f2, sizeLine_eq]
  omega
end Wv
/-! the plain law of ranks -/
namespace Wv
/-- a group without both that carries with other and not with one -/
def agst (t : List Bool) (one other g : Nat) : Bool := !g.testBit one && !g.testBit other && (t.getD (g ||| 2 ^ other) false && !t.getD (g ||| 2 ^ one) false)
def gaM (n : Nat) (t : List Bool) (one other : Nat) : Int := match (List.range (2 ^ n)).find? (agst t one other) with | some g => (g : Int) | none => -1
def mayM (n : Nat) (t : List Bool) (one other : Nat) : Bool := !(List.range (2 ^ n)).any (agst t one other)
theorem ga_neg {n : Nat} {t : List Bool} {a b : Nat} : decide (gaM n t a b < 0) = mayM n t a b := by
  unfold gaM mayM
  cases e : (List.range (2 ^ n)).find? (agst t a b) with
  | none =>
    have h : (List.range (2 ^ n)).any (agst t a b) = false := by
      rw [List.any_eq_false]
      intro g hg
      have := List.find?_eq_none.mp e g hg
      exact this
    rw [h]
    decide
  | some g =>
    have h : (List.range (2 ^ n)).any (agst t a b) = true := List.any_eq_true.mpr ⟨g, List.mem_of_find?_eq_some e, List.find?_some e⟩
    rw [h]
    simp
theorem ga_pos {n : Nat} {t : List Bool} {a b : Nat} (h : 0 ≤ gaM n t a b) : ∃ g : Nat, gaM n t a b = (g : Int) ∧ g < 2 ^ n ∧ agst t a b g = true := by
  unfold gaM at h ⊢
  cases e : (List.range (2 ^ n)).find? (agst t a b) with
  | none =>
    rw [e] at h
    simp at h
  | some g => exact ⟨g, rfl, List.mem_range.mp (List.mem_of_find?_eq_some e), List.find?_some e⟩
theorem may_iff {n : Nat} {t : List Bool} {a b : Nat} : mayM n t a b = true ↔ ∀ g, g < 2 ^ n → g.testBit a = false → g.testBit b = false → t.getD (g ||| 2 ^ b) false = true → t.getD (g ||| 2 ^ a) false = true := by
  unfold mayM
  rw [Bool.not_eq_true', List.any_eq_false]
  constructor
  · intro h g hg h1 h2 h3
    have := h g (List.mem_range.mpr hg)
    unfold agst at this
    rw [h1, h2, h3] at this
    simpa using this
  · intro h g hg
    unfold agst
    cases h1 : g.testBit a <;> cases h2 : g.testBit b <;> simp
    intro h3
    have := h g (List.mem_range.mp hg) h1 h2
    simp only [List.getD_eq_getElem?_getD] at this
    exact this h3
theorem may_refl (n : Nat) (t : List Bool) (a : Nat) : mayM n t a a = true := may_iff.mpr fun _ _ _ _ h => h
theorem bit_or (g k i : Nat) : (g ||| 2 ^ k).testBit i = (g.testBit i || decide (k = i)) := by
  rw [Nat.testBit_or, Nat.testBit_two_pow]
theorem or_lt {n g k : Nat} (hg : g < 2 ^ n) (hk : k < n) : g ||| 2 ^ k < 2 ^ n := Nat.or_lt_two_pow hg (Nat.pow_lt_pow_right (by decide) hk)
theorem or_sw (g i j : Nat) : g ||| 2 ^ i ||| 2 ^ j = g ||| 2 ^ j ||| 2 ^ i := by rw [Nat.or_assoc, Nat.or_comm (2 ^ i), ← Nat.or_assoc]
/-- a group with k is one without it and k -/
theorem take_out {n g k : Nat} (hg : g < 2 ^ n) (h : g.testBit k = true) : ∃ r, r < 2 ^ n ∧ r.testBit k = false ∧ g = r ||| 2 ^ k ∧ ∀ i, i ≠ k → r.testBit i = g.testBit i := by
  refine ⟨g ^^^ 2 ^ k, ?_, ?_, ?_, fun i hi => ?_⟩
  · have hk : k < n := by
      apply Nat.lt_of_not_le
      intro hk
      rw [Nat.testBit_lt_two_pow (Nat.lt_of_lt_of_le hg (Nat.pow_le_pow_right (by decide) hk))] at h
      cases h
    exact Nat.xor_lt_two_pow hg (Nat.pow_lt_pow_right (by decide) hk)
  · rw [Nat.testBit_xor, Nat.testBit_two_pow, h]
    simp
  · apply Nat.eq_of_testBit_eq
    intro i
    rw [Nat.testBit_or, Nat.testBit_xor, Nat.testBit_two_pow]
    by_cases e : k = i
    · subst e
      rw [h]
      simp
    · rw [decide_eq_false e]
      simp
  · rw [Nat.testBit_xor, Nat.testBit_two_pow, decide_eq_false (Ne.symm hi), Bool.xor_false]
theorem may_trans {n : Nat} {t : List Bool} {i j k : Nat} (hi : i < n) (hj : j < n) (hk : k < n) (h1 : mayM n t i j = true) (h2 : mayM n t j k = true) : mayM n t i k = true := by
  rw [may_iff] at h1 h2 ⊢
  by_cases eij : i = j
  · subst eij
    exact h2
  by_cases ejk : j = k
  · subst ejk
    exact h1
  intro g hg hgi hgk ht
  by_cases eik : i = k
  · subst eik
    exact ht
  cases hgj : g.testBit j with
  | false =>
    exact h1 g hg hgi hgj (h2 g hg hgj hgk ht)
  | true =>
    obtain ⟨r, hr, rj, rfl, ro⟩ := take_out hg hgj
    have ri : r.testBit i = false := by rw [ro i eij]; exact hgi
    have rk : r.testBit k = false := by rw [ro k (Ne.symm ejk)]; exact hgk
    -- t(r+j+k): by i over j, with r+k
    have a1 : t.getD (r ||| 2 ^ k ||| 2 ^ i) false = true := h1 (r ||| 2 ^ k) (or_lt hr hk) (by rw [bit_or, ri]; simp [Ne.symm eik]) (by rw [bit_or, rj]; simp [Ne.symm ejk]) (by rw [or_sw]; exact ht)
    have a2 : t.getD (r ||| 2 ^ i ||| 2 ^ j) false = true := h2 (r ||| 2 ^ i) (or_lt hr hi) (by rw [bit_or, rj]; simp [eij]) (by rw [bit_or, rk]; simp [eik]) (by rw [or_sw]; exact a1)
    rw [or_sw]
    exact a2
/-! one who stands for all, where each two compare -/
section
variable (R : Nat → Nat → Bool)
theorem best (rf : ∀ a, R a a = true) : ∀ l : List Nat, (∀ a ∈ l, ∀ b ∈ l, ∀ c ∈ l, R a b = true → R b c = true → R a c = true) → (∀ a ∈ l, ∀ b ∈ l, R a b = true ∨ R b a = true) → l ≠ [] → ∃ a ∈ l, ∀ b ∈ l, R a b = true
  | [], _, _, h => absurd rfl h
  | [x], _, _, _ => ⟨x, List.mem_cons_self, fun b hb => by
    rw [List.mem_singleton.mp hb]
    exact rf x⟩
  | x :: y :: l, tr, co, _ => by
    obtain ⟨a, ha, hb⟩ := best rf (y :: l) (fun a ha b hb c hc => tr a (List.mem_cons_of_mem _ ha) b (List.mem_cons_of_mem _ hb) c (List.mem_cons_of_mem _ hc)) (fun a ha b hb => co a (List.mem_cons_of_mem _ ha) b (List.mem_cons_of_mem _ hb)) (by simp)
    rcases co x List.mem_cons_self a (List.mem_cons_of_mem _ ha) with h | h
    · refine ⟨x, List.mem_cons_self, fun b hb' => ?_⟩
      rcases List.mem_cons.mp hb' with rfl | hb'
      · exact rf b
      · exact tr x List.mem_cons_self a (List.mem_cons_of_mem _ ha) b (List.mem_cons_of_mem _ hb') h (hb b hb')
    · refine ⟨a, List.mem_cons_of_mem _ ha, fun b hb' => ?_⟩
      rcases List.mem_cons.mp hb' with rfl | hb'
      · exact h
      · exact hb b hb'
def rankOf (l : List Nat) : List Nat := l.filter fun a => l.all fun b => R a b
def restOf (l : List Nat) : List Nat := l.filter fun a => !decide (a ∈ rankOf R l)
def ranksF : Nat → List Nat → List (List Nat)
  | 0, _ => []
  | k + 1, l => if l = [] then [] else rankOf R l :: ranksF k (restOf R l)
/-- the ranks are as they should be -/
def Good : List (List Nat) → Prop
  | [] => True
  | r :: rs => (∀ a ∈ r, ∀ b ∈ r, R a b = true) ∧ (∀ a ∈ r, ∀ b ∈ rs.flatten, R a b = true ∧ R b a = false) ∧ Good rs
theorem mem_rank {l : List Nat} {a : Nat} : a ∈ rankOf R l ↔ a ∈ l ∧ ∀ b ∈ l, R a b = true := by
  unfold rankOf
  rw [List.mem_filter, List.all_eq_true]
theorem mem_rest {l : List Nat} {a : Nat} : a ∈ restOf R l ↔ a ∈ l ∧ a ∉ rankOf R l := by
  unfold restOf
  rw [List.mem_filter, Bool.not_eq_true', decide_eq_false_iff_not]
theorem rest_len {l : List Nat} (h : rankOf R l ≠ []) : (restOf R l).length < l.length := by
  rcases Nat.lt_or_eq_of_le (List.length_filter_le (fun a => !decide (a ∈ rankOf R l)) l) with z | z
  · exact z
  · exfalso
    have e : l.filter (fun a => !decide (a ∈ rankOf R l)) = l := List.filter_sublist.eq_of_length z
    obtain ⟨a, ha⟩ := List.exists_mem_of_ne_nil _ h
    have hl := ((mem_rank R).mp ha).1
    rw [← e, List.mem_filter] at hl
    have := hl.2
    simp [ha] at this
/-- where each two of a list compare -/
structure Tot (l : List Nat) : Prop where
  rf : ∀ a, R a a = true
  tr : ∀ a ∈ l, ∀ b ∈ l, ∀ c ∈ l, R a b = true → R b c = true → R a c = true
  co : ∀ a ∈ l, ∀ b ∈ l, R a b = true ∨ R b a = true
theorem Tot.sub {l m : List Nat} (h : Tot R l) (s : ∀ a ∈ m, a ∈ l) : Tot R m :=
  ⟨h.rf, fun a ha b hb c hc => h.tr a (s a ha) b (s b hb) c (s c hc), fun a ha b hb => h.co a (s a ha) b (s b hb)⟩
theorem Tot.rest {l : List Nat} (h : Tot R l) : Tot R (restOf R l) := h.sub R fun a ha => ((mem_rest R).mp ha).1
theorem Tot.ne {l : List Nat} (h : Tot R l) (hl : l ≠ []) : rankOf R l ≠ [] := fun z => by
  obtain ⟨a, ha, hb⟩ := best R h.rf l h.tr h.co hl
  have := (mem_rank R).mpr ⟨ha, hb⟩
  rw [z] at this
  cases this
theorem flat_mem : ∀ (k : Nat) (l : List Nat), Tot R l → l.length ≤ k → ∀ a, a ∈ (ranksF R k l).flatten ↔ a ∈ l
  | 0, l, _, h, a => by
    rw [List.length_eq_zero_iff.mp (Nat.le_zero.mp h)]
    exact Iff.rfl
  | k + 1, l, T, h, a => by
    unfold ranksF
    by_cases e : l = []
    · rw [if_pos e, e]
      exact Iff.rfl
    · rw [if_neg e, List.flatten_cons, List.mem_append, flat_mem k _ (T.rest R) (by have := rest_len R (T.ne R e); omega), mem_rest]
      constructor
      · rintro (z | z)
        · exact ((mem_rank R).mp z).1
        · exact z.1
      · intro z
        by_cases w : a ∈ rankOf R l
        · exact .inl w
        · exact .inr ⟨z, w⟩
theorem ranks_good : ∀ (k : Nat) (l : List Nat), Tot R l → l.length ≤ k → Good R (ranksF R k l)
  | 0, l, _, h => trivial
  | k + 1, l, T, h => by
    unfold ranksF
    by_cases e : l = []
    · rw [if_pos e]
      trivial
    · rw [if_neg e]
      have hk : (restOf R l).length ≤ k := by have := rest_len R (T.ne R e); omega
      refine ⟨fun a ha b hb => ((mem_rank R).mp ha).2 b ((mem_rank R).mp hb).1, fun a ha b hb => ?_, ranks_good k _ (T.rest R) hk⟩
      rw [flat_mem R k _ (T.rest R) hk, mem_rest] at hb
      obtain ⟨h1, h2⟩ := (mem_rank R).mp ha
      refine ⟨h2 b hb.1, ?_⟩
      cases w : R b a with
      | false => rfl
      | true => exact absurd ((mem_rank R).mpr ⟨hb.1, fun c hc => T.tr b hb.1 a h1 c hc w (h2 c hc)⟩) hb.2
theorem ranks_ne : ∀ (k : Nat) (l : List Nat), Tot R l → [] ∉ ranksF R k l
  | 0, l, _ => by simp [ranksF]
  | k + 1, l, T => by
    unfold ranksF
    by_cases e : l = []
    · rw [if_pos e]
      simp
    · rw [if_neg e]
      intro m
      rcases List.mem_cons.mp m with z | z
      · exact T.ne R e z.symm
      · exact ranks_ne k _ (T.rest R) z
theorem ranks_sub : ∀ (k : Nat) (l : List Nat), ∀ r ∈ ranksF R k l, r.Sublist l
  | 0, l, r, h => by simp [ranksF] at h
  | k + 1, l, r, h => by
    unfold ranksF at h
    by_cases e : l = []
    · rw [if_pos e] at h
      cases h
    · rw [if_neg e] at h
      rcases List.mem_cons.mp h with rfl | z
      · exact List.filter_sublist
      · exact (ranks_sub k _ r z).trans List.filter_sublist
theorem ranks_nodup : ∀ (k : Nat) (l : List Nat), Tot R l → l.length ≤ k → l.Nodup → (ranksF R k l).flatten.Nodup
  | 0, l, _, _, _ => by simp [ranksF]
  | k + 1, l, T, h, hd => by
    unfold ranksF
    by_cases e : l = []
    · rw [if_pos e]
      simp
    · rw [if_neg e, List.flatten_cons]
      have hk : (restOf R l).length ≤ k := by have := rest_len R (T.ne R e); omega
      refine List.nodup_append.mpr ⟨hd.sublist List.filter_sublist, ranks_nodup k _ (T.rest R) hk (hd.sublist List.filter_sublist), fun a ha b hb z => ?_⟩
      rw [flat_mem R k _ (T.rest R) hk, mem_rest, ← z] at hb
      exact hb.2 ha
theorem ranks_len : ∀ (k : Nat) (l : List Nat), (ranksF R k l).length ≤ k
  | 0, l => by simp [ranksF]
  | k + 1, l => by
    unfold ranksF
    by_cases e : l = []
    · rw [if_pos e]
      simp
    · rw [if_neg e, List.length_cons]
      have := ranks_len k (restOf R l)
      omega
/-! what the law asks, and what the program does -/
/-- the law's turns -/
def lawAt (rs : List (List Nat)) (at_ : Nat) : Bool := (rs.getD at_ []).all fun one => ((rs.drop at_).flatten.all fun m => R one m) && !((rs.take at_).flatten.any fun m => R one m)
def lawR (rs : List (List Nat)) : Bool := (List.range rs.length).all fun at_ => lawAt R rs at_
theorem lawR_iff : ∀ rs : List (List Nat), lawR R rs = true ↔ Good R rs ∧ (∀ r ∈ rs, ∀ a ∈ r, ∀ b ∈ r, R a b = true)
  | [] => by simp [lawR, Good]
  | r :: rs => by
    have ih := lawR_iff rs
    have e : lawR R (r :: rs) = true ↔ (∀ one ∈ r, ∀ m ∈ r ++ rs.flatten, R one m = true) ∧ (∀ one ∈ rs.flatten, ∀ m ∈ r, R one m = false) ∧ lawR R rs = true := by
      unfold lawR
      rw [List.length_cons, List.range_succ_eq_map, List.all_cons, Bool.and_eq_true, List.all_map]
      have h0 : lawAt R (r :: rs) 0 = true ↔ ∀ one ∈ r, ∀ m ∈ r ++ rs.flatten, R one m = true := by
        unfold lawAt
        simp only [List.getD_cons_zero, List.drop_zero, List.take_zero, List.flatten_nil, List.any_nil, Bool.not_false, Bool.and_true, List.flatten_cons, List.all_eq_true]
      rw [h0]
      refine and_congr_right fun h1 => ?_
      constructor
      · intro h
        rw [List.all_eq_true] at h
        constructor
        · intro one ho m hm
          obtain ⟨q, hq, hoq⟩ := List.mem_flatten.mp ho
          obtain ⟨i, hi, e⟩ := List.getElem_of_mem hq
          have h := h i (List.mem_range.mpr hi)
          simp only [Function.comp] at h
          unfold lawAt at h
          rw [List.all_eq_true] at h
          have h := h one (by
            rw [List.getD_cons_succ, List.getD_eq_getElem?_getD, List.getElem?_eq_getElem hi]
            show one ∈ rs[i]
            rw [e]
            exact hoq)
          rw [Bool.and_eq_true, Bool.not_eq_true', List.any_eq_false] at h
          have h := h.2 m (by rw [List.take_succ_cons, List.flatten_cons]; exact List.mem_append_left _ hm)
          simpa using h
        · rw [List.all_eq_true]
          intro i hi
          have h := h i hi
          simp only [Function.comp] at h
          unfold lawAt at h ⊢
          rw [List.all_eq_true] at h ⊢
          intro one ho
          have h := h one (by rw [List.getD_cons_succ]; exact ho)
          rw [Bool.and_eq_true, Bool.not_eq_true', List.any_eq_false] at h ⊢
          refine ⟨by simpa using h.1, fun m hm => ?_⟩
          exact h.2 m (by rw [List.take_succ_cons, List.flatten_cons]; exact List.mem_append_right _ hm)
      · rintro ⟨h2, h3⟩
        rw [List.all_eq_true] at h3 ⊢
        intro i hi
        have h3 := h3 i hi
        have hi' := List.mem_range.mp hi
        simp only [Function.comp]
        unfold lawAt at h3 ⊢
        rw [List.all_eq_true] at h3 ⊢
        intro one ho
        rw [List.getD_cons_succ] at ho
        have h3 := h3 one ho
        rw [Bool.and_eq_true, Bool.not_eq_true', List.any_eq_false] at h3 ⊢
        refine ⟨by simpa using h3.1, fun m hm => ?_⟩
        rw [List.take_succ_cons, List.flatten_cons] at hm
        rcases List.mem_append.mp hm with z | z
        · have ho2 : one ∈ rs.flatten := by
            rw [List.getD_eq_getElem?_getD, List.getElem?_eq_getElem hi'] at ho
            exact List.mem_flatten.mpr ⟨_, List.getElem_mem hi', ho⟩
          rw [h2 one ho2 m z]
          decide
        · exact h3.2 m z
    rw [e, ih]
    constructor
    · rintro ⟨h1, h2, h3, h4⟩
      refine ⟨⟨fun a ha b hb => h1 a ha b (List.mem_append_left _ hb), fun a ha b hb => ⟨h1 a ha b (List.mem_append_right _ hb), h2 b hb a ha⟩, h3⟩, fun q hq a ha b hb => ?_⟩
      rcases List.mem_cons.mp hq with rfl | z
      · exact h1 a ha b (List.mem_append_left _ hb)
      · exact h4 q z a ha b hb
    · rintro ⟨⟨h1, h2, h3⟩, h4⟩
      refine ⟨fun a ha b hb => ?_, fun a ha b hb => (h2 b hb a ha).2, h3, fun q hq => h4 q (List.mem_cons_of_mem _ hq)⟩
      rcases List.mem_append.mp hb with z | z
      · exact h1 a ha b z
      · exact (h2 a ha b z).1
theorem good_same : ∀ rs : List (List Nat), Good R rs → ∀ r ∈ rs, ∀ a ∈ r, ∀ b ∈ r, R a b = true
  | [], _, _, h => nomatch h
  | r :: rs, ⟨h1, _, h3⟩, q, hq => by
    rcases List.mem_cons.mp hq with rfl | z
    · exact h1
    · exact good_same rs h3 q z
theorem lawR_good {rs : List (List Nat)} : lawR R rs = true ↔ Good R rs := by
  rw [lawR_iff]
  exact ⟨fun h => h.1, fun h => ⟨h, good_same R rs h⟩⟩
/-- some rank has both -/
def alike (rs : List (List Nat)) (a b : Nat) : Bool := rs.any fun r => decide (a ∈ r) && decide (b ∈ r)
def pairOk (rs : List (List Nat)) (a b : Nat) : Bool := R a b && decide (R b a = alike rs b a)
def progR (rs : List (List Nat)) : Bool := (List.range rs.flatten.length).all fun k => (List.range k).all fun i => pairOk R rs (rs.flatten.getD i 0) (rs.flatten.getD k 0)
theorem pairs_iff (f : Nat → Nat → Bool) : ∀ l : List Nat, ((List.range l.length).all fun k => (List.range k).all fun i => f (l.getD i 0) (l.getD k 0)) = true ↔ l.Pairwise fun a b => f a b = true := by
  intro l
  rw [List.all_eq_true, List.pairwise_iff_getElem]
  constructor
  · intro h i j hi hj hij
    have h := h j (List.mem_range.mpr hj)
    rw [List.all_eq_true] at h
    have h := h i (List.mem_range.mpr hij)
    rwa [List.getD_eq_getElem?_getD, List.getD_eq_getElem?_getD, List.getElem?_eq_getElem hi, List.getElem?_eq_getElem hj] at h
  · intro h k hk
    rw [List.all_eq_true]
    intro i hi
    have hk := List.mem_range.mp hk
    have hi := List.mem_range.mp hi
    have h := h i k (by omega) hk hi
    rw [List.getD_eq_getElem?_getD, List.getD_eq_getElem?_getD, List.getElem?_eq_getElem (show i < l.length by omega), List.getElem?_eq_getElem hk]
    exact h
theorem alike_in {rs : List (List Nat)} {a b : Nat} : alike rs a b = true ↔ ∃ r ∈ rs, a ∈ r ∧ b ∈ r := by
  unfold alike
  rw [List.any_eq_true]
  simp
theorem progR_good (rf : ∀ a, R a a = true) : ∀ rs : List (List Nat), rs.flatten.Nodup → (rs.flatten.Pairwise (fun a b => pairOk R rs a b = true) ↔ Good R rs)
  | [], _ => by simp [Good]
  | r :: rs, hn => by
    rw [List.flatten_cons] at hn
    obtain ⟨n1, n2, n3⟩ := List.nodup_append.mp hn
    have ih := progR_good rf rs n2
    rw [List.flatten_cons, List.pairwise_append]
    have in1 : ∀ a ∈ r, ∀ b ∈ r, alike (r :: rs) b a = true := fun a ha b hb => alike_in.mpr ⟨r, List.mem_cons_self, hb, ha⟩
    have in2 : ∀ a ∈ r, ∀ b ∈ rs.flatten, alike (r :: rs) b a = false := fun a ha b hb => by
      cases w : alike (r :: rs) b a with
      | false => rfl
      | true =>
        obtain ⟨q, hq, h1, h2⟩ := alike_in.mp w
        rcases List.mem_cons.mp hq with rfl | z
        · exact absurd rfl (n3 b h1 b hb)
        · exact absurd rfl (n3 a ha a (List.mem_flatten.mpr ⟨q, z, h2⟩))
    have in3 : ∀ a ∈ rs.flatten, ∀ b ∈ rs.flatten, alike (r :: rs) b a = alike rs b a := fun a ha b hb => by
      rw [Bool.eq_iff_iff, alike_in, alike_in]
      constructor
      · rintro ⟨q, hq, h1, h2⟩
        rcases List.mem_cons.mp hq with rfl | z
        · exact absurd rfl (n3 a h2 a ha)
        · exact ⟨q, z, h1, h2⟩
      · rintro ⟨q, hq, h⟩
        exact ⟨q, List.mem_cons_of_mem _ hq, h⟩
    constructor
    · rintro ⟨h1, h2, h3⟩
      refine ⟨fun a ha b hb => ?_, fun a ha b hb => ?_, ih.mp (List.Pairwise.imp_of_mem (fun {a b} ha hb h => ?_) h2)⟩
      · by_cases e : a = b
        · rw [e]
          exact rf b
        · obtain ⟨i, hi, ea⟩ := List.getElem_of_mem ha
          obtain ⟨j, hj, eb⟩ := List.getElem_of_mem hb
          rw [List.pairwise_iff_getElem] at h1
          rcases Nat.lt_trichotomy i j with z | z | z
          · have := h1 i j hi hj z
            rw [ea, eb] at this
            exact (Bool.and_eq_true_iff.mp this).1
          · subst z
            exact absurd (ea.symm.trans eb) e
          · have := h1 j i hj hi z
            rw [ea, eb] at this
            have := of_decide_eq_true (Bool.and_eq_true_iff.mp this).2
            rw [this]
            exact in1 b hb a ha
      · have h := h3 a ha b hb
        obtain ⟨g1, g2⟩ := Bool.and_eq_true_iff.mp h
        refine ⟨g1, ?_⟩
        rw [of_decide_eq_true g2, in2 a ha b hb]
      · unfold pairOk at h ⊢
        rwa [in3 a ha b hb] at h
    · rintro ⟨h1, h2, h3⟩
      refine ⟨?_, List.Pairwise.imp_of_mem (fun {a b} ha hb h => ?_) (ih.mpr h3), fun a ha b hb => ?_⟩
      · rw [List.pairwise_iff_getElem]
        intro i j hi hj hij
        unfold pairOk
        rw [h1 _ (List.getElem_mem hi) _ (List.getElem_mem hj), h1 _ (List.getElem_mem hj) _ (List.getElem_mem hi), in1 _ (List.getElem_mem hi) _ (List.getElem_mem hj)]
        decide
      · unfold pairOk at h ⊢
        rwa [in3 a ha b hb]
      · obtain ⟨g1, g2⟩ := h2 a ha b hb
        unfold pairOk
        rw [g1, g2, in2 a ha b hb]
        decide
theorem prog_law (rf : ∀ a, R a a = true) {rs : List (List Nat)} (hn : rs.flatten.Nodup) : progR R rs = lawR R rs := by
  rw [Bool.eq_iff_iff, lawR_good]
  unfold progR
  rw [pairs_iff (pairOk R rs)]
  exact progR_good R rf rs hn
end
/-! the first two of whom neither may stand for the other -/
def pairsM (n : Nat) : List (Nat × Nat) := (List.range n).flatMap fun a => (List.range a).map fun b => (a, b)
def badM (n : Nat) (t : List Bool) (p : Nat × Nat) : Bool := decide (0 ≤ gaM n t p.2 p.1) && decide (0 ≤ gaM n t p.1 p.2)
theorem mem_pairs {n : Nat} {a b : Nat} : (a, b) ∈ pairsM n ↔ a < n ∧ b < a := by
  unfold pairsM
  simp [List.mem_flatMap]
theorem not_bad {n : Nat} {t : List Bool} {a b : Nat} (h : badM n t (a, b) = false) : mayM n t a b = true ∨ mayM n t b a = true := by
  rw [← ga_neg, ← ga_neg, decide_eq_true_iff, decide_eq_true_iff]
  unfold badM at h
  rw [Bool.and_eq_false_iff, decide_eq_false_iff_not, decide_eq_false_iff_not] at h
  rcases h with h | h
  · exact .inr (Int.not_le.mp h)
  · exact .inl (Int.not_le.mp h)
theorem tot_of {n : Nat} {t : List Bool} (h : (pairsM n).find? (badM n t) = none) : Tot (mayM n t) (List.range n) :=
  ⟨may_refl n t, fun a ha b hb c hc => may_trans (List.mem_range.mp ha) (List.mem_range.mp hb) (List.mem_range.mp hc), fun a ha b hb => by
    have ha := List.mem_range.mp ha
    have hb := List.mem_range.mp hb
    have k : ∀ a b, a < n → b < a → mayM n t a b = true ∨ mayM n t b a = true := fun a b ha hb => not_bad (by
      have := List.find?_eq_none.mp h (a, b) (mem_pairs.mpr ⟨ha, hb⟩)
      simpa using this)
    rcases Nat.lt_trichotomy a b with z | z | z
    · exact (k b a hb z).symm
    · rw [z]
      exact .inl (may_refl n t b)
    · exact k a b ha z⟩
def ranksM (n : Nat) (t : List Bool) : List (List Nat) := ranksF (mayM n t) n (List.range n)
def shownM (t : List Bool) (one other first second : Nat) : Bool := decide (one ≠ other) && (!first.testBit one && !first.testBit other && (!second.testBit one && !second.testBit other)) && (t.getD (first ||| 2 ^ one) false && !t.getD (first ||| 2 ^ other) false) && (t.getD (second ||| 2 ^ other) false && !t.getD (second ||| 2 ^ one) false)
/-- the members of some ranks, in their turn -/
def srt (l : List Nat) : List Nat := l.mergeSort fun a b => decide (a ≤ b)
end Wv
/-! regions, new objects all through, sorted ints, longer chains -/
namespace Wv
open PySem L2 PyProof.Rows
open Evl (Ex fresh_back ex_l)
/-! ### heaps of new objects -/
def un2 (N N' : Hp) : Hp := fun a => match N a with | some o => some o | none => N' a
section
variable {N N' B H : Hp}
theorem un2_l : Ex N (un2 N N') := fun a o z => by
  show (match N a with | some o => some o | none => N' a) = some o
  rw [z]
theorem un2_r (e : Ex N B) (e' : Ex N' B) : Ex N' (un2 N N') := fun a o z => by
  show (match N a with | some o => some o | none => N' a) = some o
  cases w : N a with
  | none => exact z
  | some u => exact (e a u w).symm.trans (e' a o z)
theorem un2_in (e : Ex N B) (e' : Ex N' B) : Ex (un2 N N') B := fun a o z => by
  have z : (match N a with | some o => some o | none => N' a) = some o := z
  cases w : N a with
  | none =>
    rw [w] at z
    exact e' a o z
  | some u =>
    rw [w] at z
    cases z
    exact e a _ w
theorem un2_new (n : New N H) (n' : New N' H) : New (un2 N N') H := fun a o z => by
  have z : (match N a with | some o => some o | none => N' a) = some o := z
  cases w : N a with
  | none =>
    rw [w] at z
    exact n' a o z
  | some u => exact n a u w
theorem un2_none {p : Addr} (e : N p = none) (e' : N' p = none) : un2 N N' p = none := by
  show (match N p with | some o => some o | none => N' p) = none
  rw [e]
  exact e'
theorem un2_or {p : Addr} {o : HO} (h : un2 N N' p = some o) : N p = some o ∨ (N p = none ∧ N' p = some o) := by
  have z : (match N p with | some o => some o | none => N' p) = some o := h
  cases w : N p with
  | none =>
    rw [w] at z
    exact .inr ⟨rfl, z⟩
  | some u =>
    rw [w] at z
    exact .inl z
end
/-! ### new objects of which a property is told -/
def EvUF (K : PySem.W.Frag) (te : TE) (sl : List Sl) (F : D → Prop) : Prop := ∀ B0 H0 B H σ, SD K B0 H0 B H σ sl → ∀ Q : VK, (∀ d, F d → ∀ v N B' H', Gr B H B' H' → Ex N B' → New N H → Den K N d v → Q v H') → te σ H Q
def SpUF (K : PySem.W.Frag) (f : List D → (D → Prop) → Prop) : Sp := fun vs H Q E => ∃ B ds F, Ex B H ∧ DenL K B ds vs ∧ f ds F ∧ ∀ d, F d → ∀ v N B' H', Gr B H B' H' → Ex N B' → New N H → Den K N d v → Q v H'
section
variable {K : PySem.W.Frag} {E E' : XK} {sl : List Sl} {te : TE} {tr : TA} {ds : List D} {F : D → Prop} {P : En} {H : Hp} {t : TS} {N : List Str} {vs : List V} {Q : VK}
theorem ev_callUF {f : List D → (D → Prop) → Prop} (ha : EvA K tr sl ds) (hf : f ds F) : EvUF K (tCall (SpUF K f) [] E' tr) sl F := fun B0 H0 B H σ sd Q q =>
  ha B0 H0 B H σ sd _ fun vs B1 H1 g1 d1 => by
    rw [List.append_nil]
    exact ⟨B1, ds, F, g1.sub, d1, hf, fun d hd v N B' H' g e n dv => q d hd v N B' H' (g1.trans g) e (fun p o z => g1.back (n p o z)) dv⟩
theorem w_asgUF {i : Nat} (h : EvUF K te sl F) (k : ∀ d N, F d → NewTo sl N → P.nx (sl.set i (.rg N d))) : W K E (tAsg te (gName i)) sl P := fun B0 H0 B H σ D sd m =>
  h B0 H0 B H σ sd _ fun d hd v N B1 H1 g1 e n dv => by
    have g : Gr B H B H1 := ⟨Ex.refl _, g1.eh, sd.sub.trans g1.eh, fun _ h _ => h⟩
    refine m.nx B H1 _ _ ((sd.grow g).setRg (fun p o z => sd.gr.back (n p o z)) (fun p o z => fresh_back sd.sub (n p o z)) (e.trans g1.sub) dv fun j x p h1 h2 h3 => ?_) (k d N hd (sd.newTo n))
    cases w : N p with
    | none => rfl
    | some o => exact absurd (n p o w) (sd.there h1 h2 h3)
theorem spUF_len {f : List D → (D → Prop) → Prop} {n : Nat} (h : ∀ ds F, f ds F → ds.length = n) : ∀ vs H Q E, SpUF K f vs H Q E → vs.length = n := fun vs H Q E ⟨B, ds, r, e, hd, hf, q⟩ => by
  rw [← denL_len hd]
  exact h ds r hf
theorem goUF_of {f : List D → (D → Prop) → Prop} (hw : ∀ ds F, f ds F → W K E t (startS N ds) { nx := fun _ => False, rt := fun r => ∃ d, r = .frs d ∧ F d }) (h : SpUF K f vs H Q E) : t { nx := fun _ H' => Q .non H', rt := Q } (L2.start N vs) H := by
  obtain ⟨B, ds, F, e, hd, hf, q⟩ := h
  refine hw ds F hf B H B H _ _ (sd_start e hd) ⟨fun B' H' σ sl s z => z.elim, fun _ _ _ _ _ z => z.elim, fun _ _ _ _ _ z => z.elim, fun r' B' H' g z => ?_⟩
  obtain ⟨d, rfl, hF⟩ := z
  exact fun v N B2 H2 g2 e2 n2 dv => q d hF v N B2 H2 (g.trans g2) e2 n2 dv
theorem evUF_fr (h : EvUF K te (sl.map frS) F) (ho : noOb sl = true := by rfl) : EvUF K te sl F := fun B0 H0 B H σ sd Q q =>
  h H0 H0 H H σ (sd.fr (noOb_mem ho)).1 Q fun d hd v N B1 H1 g1 e n dv => by
    refine q d hd v N (un2 N B) H1 ⟨fun p o z => ?_, g1.eh, un2_in (e.trans g1.sub) (sd.sub.trans g1.eh), fun p h1 h2 => ?_⟩ un2_l n dv
    · exact un2_r (e.trans g1.sub) (sd.sub.trans g1.eh) p o z
    · refine un2_none ?_ h1
      cases w : N p with
      | none => rfl
      | some u => exact absurd (n p u w) h2
/-! ### a comprehension of new objects -/
theorem ev_lcFI {xs : List D} {tt : TT} {ti : TI} {j : Nat} {vs : List Nat} (f : Nat → Bool) (v : Nat → D) (hi : ItE K ti sl xs) (hz : xs.length ≤ 1000000) (hj : j ∈ vs)
    (ht : ∀ (i : Nat) d, xs[i]? = some d → EvT K tt ((wipeS sl vs).set j (.fz d)) (f i)) (he : ∀ (i : Nat) d, xs[i]? = some d → f i = true → EvR K E0 te ((wipeS sl vs).set j (.fz d)) (.frs (v i))) :
    EvR K E (tLc ti (gName j) tt te vs) sl (.frs (.lst (givenD xs.length f v))) := fun B0 H0 B H σ sd Q q => by
  refine hi B0 H0 B H σ sd _ fun J B1 H1 g1 jo Dl hD => ?_
  have sd1 := (sd.grow g1).wipe vs
  refine ⟨fun i m H2 => m = xs.length - i ∧ i ≤ xs.length ∧ ∃ B2 acc N, Gr B1 H1 B2 H2 ∧ B2 Dl = none ∧ H2 Dl = some (.lst acc) ∧ Ex N B2 ∧ New N H1 ∧ DenL K N (givenD i f v) acc, ⟨xs.length, by simp, Nat.zero_le _, B1, [], fun _ => none, Gr.lay g1.sub hD, fresh_back g1.sub hD, upd_same, (fun _ _ z => nomatch z), (fun _ _ z => nomatch z), denL_nil⟩, ?_⟩
  rintro i m H2 ⟨rfl, hi2, B2, acc, N, g2, b2, h2, n2, w2, d2⟩
  obtain ⟨jg, js⟩ := (jo.mono g2.eb) i H2 g2.sub
  by_cases hlt : i < xs.length
  · right
    have hx : xs[i]? = some xs[i] := by simp [hlt]
    obtain ⟨go, yl⟩ := jg _ hx
    refine ⟨go, fun H' => i + 1 ≤ xs.length ∧ ∃ B2 acc N, Gr B1 H1 B2 H' ∧ B2 Dl = none ∧ H' Dl = some (.lst acc) ∧ Ex N B2 ∧ New N H1 ∧ DenL K N (givenD (i + 1) f v) acc, fun H' ⟨h1, h3⟩ => ⟨xs.length - (i + 1), by omega, rfl, h1, h3⟩, fun x H3 hy => ?_⟩
    obtain ⟨e3, dx⟩ := yl x H3 hy
    rw [e3]
    have sd2 : SD K B0 H0 B2 H2 ((L2.wipe σ vs).set j (some x)) ((wipeS sl vs).set j (.fz xs[i])) := (sd1.grow g2).setFz dx
    refine ⟨by rw [wipe_set _ hj, wipe_wipe], ?_⟩
    refine ht i _ hx B0 H0 B2 H2 _ sd2 _ fun B3 H3 g3 => ?_
    have b3 : B3 Dl = none := g3.out Dl b2 (by rw [h2]; simp)
    cases hf : f i with
    | false =>
      rw [if_neg Bool.false_ne_true]
      exact ⟨hlt, B3, acc, N, g2.trans g3, b3, g3.eh _ _ h2, n2.trans g3.eb, w2, by rw [givenD_no hf]; exact d2⟩
    | true =>
      rw [if_pos rfl]
      refine he i _ hx hf B0 H0 B3 H3 _ (sd2.grow g3) _ fun y N4 B4 H4 g4 e4 n4 d4 => ?_
      have b4 : B4 Dl = none := g4.out Dl b3 (by rw [g3.eh _ _ h2]; simp)
      have h4 : H4 Dl = some (.lst acc) := g4.eh _ _ (g3.eh _ _ h2)
      have hacc : acc.length ≤ 1000000 := by
        rw [← denL_len d2]
        have := givenD_len i f v
        omega
      have sz : acc.length < sizeLine := by
        rw [sizeLine_eq]
        omega
      have nb : Ex N B4 := (n2.trans g3.eb).trans g4.eb
      refine ⟨acc, h4, sz, hlt, B4, acc ++ [y], un2 N N4, ?_, b4, upd_same, un2_in nb e4, un2_new w2 (fun p o z => (g2.trans g3).back (n4 p o z)), ?_⟩
      · have g := (g2.trans g3).trans g4
        refine ⟨g.eb, fun a o h => ?_, fun a o h => ?_, g.out⟩
        · rw [upd_ne (ne_of_none h hD)]
          exact g.eh a o h
        · rw [upd_ne (ne_of_none h b4)]
          exact g.sub a o h
      · rw [givenD_yes hf]
        exact denL_app (denL_mono un2_l d2) (denL_cons (den_mono (un2_r nb e4) d4) denL_nil)
  · left
    have e : i = xs.length := by omega
    subst e
    refine ⟨js (Nat.le_refl _), q (.ref Dl) (upd N Dl (.lst acc)) (upd B2 Dl (.lst acc)) H2 ((g1.trans g2).fz sd.sub (g1.back hD) b2 h2) (fun a o z => ?_) (fun a o z => ?_) (mk_lst upd_same (denL_mono (ex_upd (fresh_back n2 b2)) d2))⟩
    · by_cases c : a = Dl
      · rw [c, upd_same] at z ⊢
        exact z
      · rw [upd_ne c] at z ⊢
        exact n2 a o z
    · by_cases c : a = Dl
      · rw [c]
        exact g1.back hD
      · rw [upd_ne c] at z
        exact g1.back (w2 a o z)
theorem ev_lcFF {α : Type} {ys : List α} {c : α → D} {f : α → Bool} {v : α → D} {tt : TT} {ti : TI} {j : Nat} {vs : List Nat} (hi : ItE K ti sl (ys.map c)) (hz : ys.length ≤ 1000000) (hj : j ∈ vs)
    (ht : ∀ a, a ∈ ys → EvT K tt ((wipeS sl vs).set j (.fz (c a))) (f a)) (he : ∀ a, a ∈ ys → f a = true → EvR K E0 te ((wipeS sl vs).set j (.fz (c a))) (.frs (v a))) :
    EvR K E (tLc ti (gName j) tt te vs) sl (.frs (.lst ((ys.filter f).map v))) := by
  cases ys with
  | nil =>
    have h := ev_lcFI (E := E) (tt := tt) (te := te) (vs := vs) (fun _ => false) (fun _ => D.non) hi (by simp) hj (fun i d h => by simp at h) (fun i d h => by simp at h)
    simpa [givenD] using h
  | cons a0 ar =>
    have key := ev_lcFI (E := E) (tt := tt) (te := te) (vs := vs) (fun i => f ((a0 :: ar)[i]?.getD a0)) (fun i => v ((a0 :: ar)[i]?.getD a0)) hi (by rw [List.length_map]; exact hz) hj
      (fun i d h => by
        rw [List.getElem?_map] at h
        cases e : (a0 :: ar)[i]? with
        | none => rw [e] at h; cases h
        | some a =>
          rw [e] at h
          cases h
          exact ht a (List.mem_of_getElem? e))
      (fun i d h hf => by
        rw [List.getElem?_map] at h
        cases e : (a0 :: ar)[i]? with
        | none => rw [e] at h; cases h
        | some a =>
          rw [e] at h
          cases h
          have hf' : f a = true := by simpa [e] using hf
          exact he a (List.mem_of_getElem? e) hf')
    rw [List.length_map, givenD_eq (a0 :: ar) f v _ _ (fun i a h => by simp [h])] at key
    exact key
theorem ev_lcFM {α : Type} {ys : List α} {c : α → D} {v : α → D} {ti : TI} {j : Nat} {vs : List Nat} (hi : ItE K ti sl (ys.map c)) (hz : ys.length ≤ 1000000) (hj : j ∈ vs)
    (he : ∀ a, a ∈ ys → EvR K E0 te ((wipeS sl vs).set j (.fz (c a))) (.frs (v a))) : EvR K E (tLc ti (gName j) tYes te vs) sl (.frs (.lst (ys.map v))) := by
  have h := ev_lcFF (E := E) (f := fun _ => true) (tt := tYes) hi hz hj (fun a _ => et_yes) (fun a ha _ => he a ha)
  rwa [List.filter_eq_self.mpr (fun _ _ => rfl)] at h
end
/-! ### regions -/
def vwS : Sl → Sl
  | .fz d => if sca d = true then .fz d else .un
  | .rg _ d => .fz d
  | _ => .un
theorem vw_fz (d : D) : vwS (.fz d) = if sca d = true then .fz d else .un := rfl
section
variable {K : PySem.W.Frag} {E : XK} {B0 H0 B H : Hp} {σ : L2.St} {sl : List Sl} {te : TE} {P : En} {i : Nat} {N : Hp} {d : D}
theorem other_rg (hr : noRg (sl.set i .un) = true) {j : Nat} {N' : Hp} {d' : D} (hj : j ≠ i) : sl[j]? ≠ some (.rg N' d') := fun e =>
  noRg_at hr j N' d' (by rw [List.getElem?_set_ne (Ne.symm hj)]; exact e)
theorem SD.view (s : SD K B0 H0 B H σ sl) (hi : sl[i]? = some (.rg N d)) (hr : noRg (sl.set i .un) = true) : SD K (fun _ => none) H0 N H σ (sl.map vwS) := by
  obtain ⟨v, h1, n0, nb, nh, nd, no⟩ := s.rg i N d hi
  have at_ : ∀ (j : Nat) (x : Sl), (sl.map vwS)[j]? = some x → ∃ y, sl[j]? = some y ∧ vwS y = x := fun j x e => by
    rw [List.getElem?_map] at e
    cases q : sl[j]? with
    | none => rw [q] at e; cases e
    | some y =>
      rw [q] at e
      exact ⟨y, rfl, Option.some.inj e⟩
  have fz_ : ∀ y x, vwS y = x → x = .un ∨ ∃ d, x = .fz d := fun y x e => by
    subst e
    cases y with
    | un => exact .inl rfl
    | fz d =>
      rw [vw_fz]
      by_cases c : sca d = true
      · rw [if_pos c]; exact .inr ⟨d, rfl⟩
      · rw [if_neg c]; exact .inl rfl
    | ow xs => exact .inl rfl
    | ob _ _ _ _ => exact .inl rfl
    | rg N d => exact .inr ⟨d, rfl⟩
  refine ⟨⟨(fun _ _ z => nomatch z), s.gr.eh, nh, fun p _ h => ?_⟩, by rw [List.length_map]; exact s.len, fun j d' e => ?_, fun j xs e => ?_, fun j p0 C ns es e => ?_, fun j k xs ys p e1 => ?_, fun j N' d' e => ?_⟩
  · cases w : N p with
    | none => rfl
    | some o => exact absurd (n0 p o w) h
  · obtain ⟨y, e1, e2⟩ := at_ j _ e
    cases y with
    | un => cases e2
    | ow xs => cases e2
    | ob _ _ _ _ => cases e2
    | fz d2 =>
      rw [vw_fz] at e2
      by_cases c : sca d2 = true
      · rw [if_pos c] at e2
        cases e2
        obtain ⟨v2, f1, f2⟩ := s.fz j _ e1
        exact ⟨v2, f1, den_sca c f2⟩
      · rw [if_neg c] at e2
        cases e2
    | rg N2 d2 =>
      cases e2
      by_cases c : j = i
      · subst c
        rw [hi] at e1
        cases e1
        exact ⟨v, h1, nd⟩
      · exact absurd e1 (other_rg hr c)
  · obtain ⟨y, e1, e2⟩ := at_ j _ e
    rcases fz_ y _ e2 with z | ⟨_, z⟩ <;> cases z
  · obtain ⟨y, e1, e2⟩ := at_ j _ e
    rcases fz_ y _ e2 with z | ⟨_, z⟩ <;> cases z
  · obtain ⟨y, e1, e2⟩ := at_ j _ e1
    rcases fz_ y _ e2 with z | ⟨_, z⟩ <;> cases z
  · obtain ⟨y, e1, e2⟩ := at_ j _ e
    rcases fz_ y _ e2 with z | ⟨_, z⟩ <;> cases z
/-- x = .. , read from the region x itself and from scalars alone -/
theorem w_asgV {d' : D} (hi : sl[i]? = some (.rg N d)) (hr : noRg (sl.set i .un) = true) (h : EvR K E te (sl.map vwS) (.dat d')) (k : ∀ N', P.nx (sl.set i (.rg N' d'))) : W K E (tAsg te (gName i)) sl P := fun B0 H0 B H σ D sd m => by
  obtain ⟨v0, h1, n0, nb, nh, nd, no⟩ := sd.rg i N d hi
  refine h (fun _ => none) H0 N H σ (sd.view hi hr) _ fun v N1 H1 g1 d1 => ?_
  have g : Gr B H B H1 := ⟨Ex.refl _, g1.eh, sd.sub.trans g1.eh, fun _ h _ => h⟩
  refine m.nx B H1 _ _ ((sd.grow g).setRg (fun p o z => ?_) (fun p o z => ?_) g1.sub d1 fun j x p e1 e2 e3 => ?_) (k N1)
  · cases w : H p with
    | none => exact sd.gr.back w
    | some u =>
      cases w2 : N p with
      | some u2 => exact n0 p u2 w2
      | none =>
        rw [g1.out p w2 (by rw [w]; simp)] at z
        cases z
  · cases w : B p with
    | none => rfl
    | some u =>
      have w2 : N p = none := by
        cases w3 : N p with
        | none => rfl
        | some u3 =>
          rw [nb p u3 w3] at w
          cases w
      rw [g1.out p w2 (by rw [sd.sub p u w]; simp)] at z
      cases z
  · exact g1.out p (no j x p e1 e2 e3) (sd.there e1 e2 e3)
theorem w_retRg (hi : sl[i]? = some (.rg N d)) (k : P.rt (.frs d)) : W K E (tRet (tVar i)) sl P := fun B0 H0 B H σ D sd m => by
  obtain ⟨v, h1, n0, nb, nh, nd, no⟩ := sd.rg i N d hi
  have g : Gr B0 H0 (un2 N B) H := ⟨fun p o z => un2_r nh sd.sub p o (sd.gr.eb p o z), sd.gr.eh, un2_in nh sd.sub, fun p e1 e2 => by
    refine un2_none ?_ (sd.gr.out p e1 e2)
    cases w : N p with
    | none => rfl
    | some o => exact absurd (n0 p o w) e2⟩
  exact ⟨v, h1, m.rt (.frs d) (un2 N B) H g k v N (un2 N B) H (Gr.refl g.sub) un2_l n0 nd⟩
/-- an object of a region is changed -/
theorem SD.mutRg {q : Addr} {o o0 : HO} {v : V} {d' : D} (s : SD K B0 H0 B H σ sl) (hi : sl[i]? = some (.rg N d)) (hv : σ[i]? = some (some v)) (hq : N q = some o0) (nd : Den K (upd N q o) d' v)
    (hr : ∀ (j : Nat) (N' : Hp) (d' : D), j ≠ i → sl[j]? = some (.rg N' d') → N' q = none) : SD K B0 H0 B (upd H q o) σ (sl.set i (.rg (upd N q o) d')) := by
  obtain ⟨v0, h1, n0, nb, nh, nd0, no⟩ := s.rg i N d hi
  have il : i < sl.length := (List.getElem?_eq_some_iff.mp hi).1
  have back : ∀ (j : Nat) (x : Sl), x ≠ .un → (sl.set i .un)[j]? = some x → j ≠ i ∧ sl[j]? = some x := fun j x hx e => by
    by_cases z : j = i
    · subst z
      rw [List.getElem?_set_self il] at e
      exact absurd (Option.some.inj e).symm hx
    · exact ⟨z, by rw [List.getElem?_set_ne (Ne.symm z)] at e; exact e⟩
  have s1 : SD K B0 H0 B (upd H q o) σ (sl.set i .un) := (s.fgt (fgt_un sl i)).alter (nb q _ hq) (n0 q _ hq) (fun j x e1 e2 e3 => by
    obtain ⟨_, e1⟩ := back j x (fun z => by rw [z] at e2; cases e2) e1
    rw [no j x q e1 e2 e3] at hq
    cases hq) (fun j N' d2 e => by
    obtain ⟨z, e⟩ := back j _ (by simp) e
    exact hr j N' d2 z e)
  have s2 := s1.setRg (i := i) (v := v) (N := upd N q o) (d := d') (fun p u z => by
      by_cases c : p = q
      · rw [c]; exact n0 q _ hq
      · rw [upd_ne c] at z; exact n0 p u z) (fun p u z => by
      by_cases c : p = q
      · rw [c]; exact nb q _ hq
      · rw [upd_ne c] at z; exact nb p u z) (fun p u z => by
      by_cases c : p = q
      · rw [c, upd_same] at z ⊢; exact z
      · rw [upd_ne c] at z ⊢; exact nh p u z) nd (fun j x p e1 e2 e3 => by
      obtain ⟨_, e1⟩ := back j x (fun z => by rw [z] at e2; cases e2) e1
      have := no j x p e1 e2 e3
      rw [upd_ne (fun c => by rw [c, hq] at this; cases this)]
      exact this)
  rw [List.set_set] at s2
  have e : σ.set i (some v) = σ := by
    apply List.ext_getElem?
    intro k
    by_cases z : k = i
    · subst z
      rw [List.getElem?_set_self (by rw [s.len]; exact il), hv]
    · rw [List.getElem?_set_ne (Ne.symm z)]
  rwa [e] at s2
/-! lists of lists within a region -/
theorem nats_noref {B : Hp} {xs : List Nat} {vs : List V} (h : DenL K B (xs.map nat) vs) (q : Addr) : V.ref q ∉ vs := fun m => by
  rw [denL_nats h] at m
  obtain ⟨n, _, e⟩ := List.mem_map.mp m
  cases e
theorem LL_get {xss : List (List Nat)} {vs : List V} {k : Nat} (h : DenL K N (xss.map natL) vs) (hk : k < xss.length) : ∃ c ws, vs[k]? = some (.ref c) ∧ N c = some (.lst ws) ∧ DenL K N ((xss.getD k []).map nat) ws := by
  obtain ⟨v, h1, h2⟩ := denL_get h (i := k) (d := natL (xss.getD k [])) (by rw [List.getElem?_map, List.getD_eq_getElem?_getD, List.getElem?_eq_getElem hk]; rfl)
  obtain ⟨c, ws, rfl, h3, h4⟩ := den_lst h2
  exact ⟨c, ws, h1, h3, h4⟩
/-- the outer list is none of the inner ones -/
theorem LL_ne {xss : List (List Nat)} {a c : Addr} {vs ws : List V} {k : Nat} {xs : List Nat} (ha : N a = some (.lst vs)) (hk : vs[k]? = some (.ref c)) (hc : N c = some (.lst ws)) (hw : DenL K N (xs.map nat) ws) : a ≠ c := fun e => by
  rw [e, hc] at ha
  cases ha
  exact nats_noref hw c (List.mem_of_getElem? hk)
theorem LL_app {c : Addr} {ws : List V} {m : Nat} (hc : N c = some (.lst ws)) : ∀ {xss : List (List Nat)} {vs : List V}, DenL K N (xss.map natL) vs → ∃ yss : List (List Nat), yss.length = xss.length ∧ (∀ r ∈ yss, ∃ s ∈ xss, r = s ∨ r = s ++ [m]) ∧ DenL K (upd N c (.lst (ws ++ [.int (m : Int)]))) (yss.map natL) vs
  | [], vs, h => ⟨[], rfl, fun _ z => (nomatch z), by rw [denL_inv0 h]; exact denL_nil⟩
  | xs :: xss, vs, h => by
    obtain ⟨v, r, rfl, h1, h2⟩ := denL_inv h
    obtain ⟨yss, e1, e2, e3⟩ := LL_app hc h2
    obtain ⟨b, us, rfl, g1, g2⟩ := den_lst h1
    have sc : ∀ d ∈ xs.map nat, sca d = true := fun d hd => by
      obtain ⟨n, _, rfl⟩ := List.mem_map.mp hd
      rfl
    by_cases z : b = c
    · subst z
      rw [hc] at g1
      cases g1
      refine ⟨(xs ++ [m]) :: yss, by simp [e1], fun r hr => ?_, denL_cons (mk_lst upd_same ?_) e3⟩
      · rcases List.mem_cons.mp hr with rfl | z
        · exact ⟨xs, List.mem_cons_self, .inr rfl⟩
        · obtain ⟨s, hs, h⟩ := e2 r z
          exact ⟨s, List.mem_cons_of_mem _ hs, h⟩
      · rw [List.map_append]
        exact denL_app (denL_sca sc g2) (denL_cons (mk_int _) denL_nil)
    · refine ⟨xs :: yss, by simp [e1], fun r hr => ?_, denL_cons (mk_lst (by rw [upd_ne z]; exact g1) (denL_sca sc g2)) e3⟩
      rcases List.mem_cons.mp hr with rfl | z
      · exact ⟨_, List.mem_cons_self, .inl rfl⟩
      · obtain ⟨s, hs, h⟩ := e2 r z
        exact ⟨s, List.mem_cons_of_mem _ hs, h⟩
/-- x[k].append(m), x a region's list of lists: some of them get m -/
theorem w_rgAppI {tk tm : TE} {xss : List (List Nat)} {k m : Nat} (hi : sl[i]? = some (.rg N (natLL xss))) (hr : noRg (sl.set i .un) = true) (h1 : EvR K E0 tk sl (.dat (nat k))) (hk : k < xss.length) (h2 : EvR K E0 tm sl (.dat (nat m))) (hz : ∀ r ∈ xss, r.length < 1000000)
    (kk : ∀ N' yss, yss.length = xss.length → (∀ r ∈ yss, ∃ s ∈ xss, r = s ∨ r = s ++ [m]) → P.nx (sl.set i (.rg N' (natLL yss)))) : W K E (tDrop (tBM K "list" rAppend (tOp (rIxL K) (tVar i) tk) (tCons tm tNil))) sl P := fun B0 H0 B H σ D sd mt => by
  obtain ⟨v, g1, n0, nb, nh, nd, no⟩ := sd.rg i N _ hi
  obtain ⟨a, vs, rfl, ha, hd⟩ := den_lst nd
  obtain ⟨c, ws, q1, q2, q3⟩ := LL_get hd hk
  refine ⟨_, g1, h1 B0 H0 B H σ sd _ fun vk B1 H1 gr1 d1 => ?_⟩
  have e1 := den_int d1
  subst e1
  refine ⟨a, vs, _, .ref c, rfl, rfl, SqL.of (gr1.eh _ _ (nh a _ ha)), atI_nat q1, .inl ⟨rfl, _, .inl (.inl (gr1.eh _ _ (nh c _ q2)))⟩, h2 B0 H0 B1 H1 σ (sd.grow gr1) _ fun vm B2 H2 gr2 d2 => ?_⟩
  have e2 := den_int d2
  subst e2
  have sd2 := (sd.grow gr1).grow gr2
  have lw : ws.length < sizeLine := by
    rw [← denL_len q3, List.length_map, sizeLine_eq]
    have := hz (xss.getD k []) (by rw [List.getD_eq_getElem?_getD, List.getElem?_eq_getElem hk]; exact List.getElem_mem hk)
    omega
  obtain ⟨yss, y1, y2, y3⟩ := LL_app (m := m) q2 hd
  refine ⟨c, ws, .int (m : Int), rfl, rfl, gr2.eh _ _ (gr1.eh _ _ (nh c _ q2)), lw, mt.nx _ _ _ _ (sd2.mutRg hi g1 q2 (d' := natLL yss) (mk_lst ?_ y3) fun j N' d' hj e => absurd e (other_rg hr hj)) (kk _ yss y1 y2)⟩
  rw [upd_ne (LL_ne (xss := xss) ha q1 q2 q3)]
  exact ha
/-- x.append(a new list), x a region's list of lists -/
theorem w_rgAppO {xss : List (List Nat)} {xs : List Nat} (hi : sl[i]? = some (.rg N (natLL xss))) (hr : noRg (sl.set i .un) = true) (h : EvR K E0 te sl (.frs (natL xs))) (hz : xss.length < 1000000) (kk : ∀ N', P.nx (sl.set i (.rg N' (natLL (xss ++ [xs]))))) :
    W K E (tDrop (tBM K "list" rAppend (tVar i) (tCons te tNil))) sl P := fun B0 H0 B H σ D sd mt => by
  obtain ⟨v, g1, n0, nb, nh, nd, no⟩ := sd.rg i N _ hi
  obtain ⟨a, vs, rfl, ha, hd⟩ := den_lst nd
  refine ⟨_, g1, .inl ⟨rfl, _, .inl (.inl (nh a _ ha))⟩, h B0 H0 B H σ sd _ fun u N1 B1 H1 gr1 e1 n1 d1 => ?_⟩
  have gB : Gr B H B H1 := ⟨Ex.refl _, gr1.eh, sd.sub.trans gr1.eh, fun _ h _ => h⟩
  have nh1 : Ex N H1 := nh.trans gr1.eh
  have e2 : Ex N1 H1 := e1.trans gr1.sub
  have il : i < sl.length := (List.getElem?_eq_some_iff.mp hi).1
  have s1 := ((sd.grow gB).fgt (fgt_un sl i)).setRg (i := i) (v := .ref a) (N := un2 N N1) (d := .fn a) (un2_new n0 fun p o z => sd.gr.back (n1 p o z)) (fun p o z => by
      rcases un2_or z with z | ⟨_, z⟩
      · exact nb p o z
      · exact fresh_back sd.sub (n1 p o z)) (un2_in nh1 e2) (mk_fn a) (fun j x p f1 f2 f3 => by
      have hj : j ≠ i := fun c => by
        subst c
        rw [List.getElem?_set_self il] at f1
        cases f1
        cases f2
      rw [List.getElem?_set_ne (Ne.symm hj)] at f1
      refine un2_none (no j x p f1 f2 f3) ?_
      cases w : N1 p with
      | none => rfl
      | some o => exact absurd (n1 p o w) (sd.there f1 f2 f3))
  have eσ : σ.set i (some (.ref a)) = σ := by
    apply List.ext_getElem?
    intro k
    by_cases z : k = i
    · subst z
      rw [List.getElem?_set_self (by rw [sd.len]; exact il), g1]
    · rw [List.getElem?_set_ne (Ne.symm z)]
  rw [List.set_set, eσ] at s1
  have lw : vs.length < sizeLine := by
    rw [← denL_len hd, List.length_map, sizeLine_eq]
    omega
  obtain ⟨b, us, rfl, b1, b2⟩ := den_lst d1
  have ab : a ≠ b := fun c => by
    subst c
    have := n1 a _ b1
    rw [nh a _ ha] at this
    cases this
  have nn : ∀ p o, N p = some o → un2 N N1 p = some o := un2_l
  have s2 := s1.mutRg (i := i) (N := un2 N N1) (d := .fn a) (q := a) (o := .lst (vs ++ [V.ref b])) (d' := natLL (xss ++ [xs])) (by rw [List.getElem?_set_self il]) g1 (un2_l a _ ha) ?_ fun j N' d' hj e => ?_
  · rw [List.set_set] at s2
    exact ⟨a, vs, .ref b, rfl, rfl, nh1 a _ ha, lw, mt.nx _ _ _ _ s2 (kk _)⟩
  · refine mk_lst upd_same ?_
    rw [List.map_append]
    have keep : ∀ {zss : List (List Nat)} {zs : List V} {M : Hp}, DenL K M (zss.map natL) zs → Ex M (un2 N N1) → (∀ c ws, V.ref c ∈ zs → M c = some (.lst ws) → (∀ q, V.ref q ∉ ws) → c ≠ a) → DenL K (upd (un2 N N1) a (.lst (vs ++ [.ref b]))) (zss.map natL) zs := by
      intro zss
      induction zss with
      | nil =>
        intro zs M h _ _
        rw [denL_inv0 h]
        exact denL_nil
      | cons z zss ih =>
        intro zs M h e cc
        obtain ⟨v, r, rfl, h1, h2⟩ := denL_inv h
        obtain ⟨c, ws, rfl, c1, c2⟩ := den_lst h1
        refine denL_cons (mk_lst ?_ (denL_sca (fun d hd => by
          obtain ⟨n, _, rfl⟩ := List.mem_map.mp hd
          rfl) c2)) (ih h2 e fun c ws m => cc c ws (List.mem_cons_of_mem _ m))
        rw [upd_ne (cc c ws List.mem_cons_self c1 (nats_noref c2))]
        exact e c _ c1
    refine denL_app (keep hd un2_l fun c ws m e nr z => ?_) (denL_cons ?_ denL_nil)
    · subst z
      rw [ha] at e
      cases e
      exact nr c m
    · refine mk_lst (vs := us) ?_ (denL_sca (fun d hd => by
          obtain ⟨n, _, rfl⟩ := List.mem_map.mp hd
          rfl) b2)
      rw [upd_ne (Ne.symm ab)]
      exact un2_r nh1 e2 b _ b1
  · by_cases c : j = i
    · exact absurd c hj
    · rw [List.getElem?_set_ne (Ne.symm c)] at e
      exact absurd e (other_rg hr c)
end
end Wv
/-! sorted ints, chains of three, cuts, clearings of regions -/
namespace Wv
open PySem L2 PyProof.Rows
open Evl (Ex fresh_back ex_l)
/-! ### sorted -/
theorem srt_perm (l : List Nat) : (srt l).Perm l := List.mergeSort_perm _ _
theorem srt_le (l : List Nat) : (srt l).Pairwise (· ≤ ·) := by
  have h := List.pairwise_mergeSort (le := fun a b : Nat => decide (a ≤ b)) (fun a b c h1 h2 => decide_eq_true (Nat.le_trans (of_decide_eq_true h1) (of_decide_eq_true h2))) (fun a b => by
    rw [Bool.or_eq_true, decide_eq_true_iff, decide_eq_true_iff]
    exact Nat.le_total a b) l
  exact h.imp fun h => of_decide_eq_true h
theorem srt_eq {l m : List Nat} (h : m.Perm l) (s : m.Pairwise (· ≤ ·)) : srt l = m :=
  List.Perm.eq_of_pairwise (fun a b _ _ h1 h2 => Nat.le_antisymm h1 h2) (srt_le l) s ((srt_perm l).trans h.symm)
theorem srt_self {l : List Nat} (s : l.Pairwise (· ≤ ·)) : srt l = l := srt_eq (List.Perm.refl l) s
section
variable {K : PySem.W.Frag} {E : XK} {sl : List Sl}
theorem cb_sortedN {l : List Nat} : CbD K (rSortedI K) [natL l] (.new ((srt l).map nat)) := fun B H vs e d E Q q => by
  obtain ⟨v, rfl, h⟩ := denL_one d
  obtain ⟨a, us, rfl, h1, h2⟩ := den_lst h
  rw [denL_nats h2] at h1
  refine ⟨a, _, rfl, SqL.of (e a _ h1), fun ns' p hp hs h0 => ?_⟩
  have en : ns' = (srt l).map fun (n : Nat) => (n : Int) := by
    refine List.Perm.eq_of_pairwise (le := (· ≤ ·)) (fun a b _ _ h1 h2 => Int.le_antisymm h1 h2) hs ?_ (hp.trans ((srt_perm l).symm.map _))
    exact List.pairwise_map.mpr ((srt_le l).imp fun h => by omega)
  refine q p _ _ _ (Gr.lay e h0) h0 (fresh_back e h0) upd_same ?_
  rw [en]
  have : ∀ l : List Nat, DenL K B (l.map nat) ((l.map fun (n : Nat) => (n : Int)).map V.int) := by
    intro l
    induction l with
    | nil => exact denL_nil
    | cons a l ih => exact denL_cons (mk_int _) ih
  exact this _
/-! ### min, max, is -/
theorem cb_min2 {i j : Int} : CbD K (fun xs H Q => ∃ i j, xs = [.int i, .int j] ∧ Q (.int (if j < i then j else i)) H) [.int i, .int j] (.dat (.int (if j < i then j else i))) := fun B H vs e d E Q q => by
  obtain ⟨v, w, rfl, h1, h2⟩ := denL_two d
  rw [den_int h1, den_int h2]
  exact ⟨i, j, rfl, post_v e q (mk_int _)⟩
theorem cb_max2 {i j : Int} : CbD K (fun xs H Q => ∃ i j, xs = [.int i, .int j] ∧ Q (.int (if j > i then j else i)) H) [.int i, .int j] (.dat (.int (if j > i then j else i))) := fun B H vs e d E Q q => by
  obtain ⟨v, w, rfl, h1, h2⟩ := denL_two d
  rw [den_int h1, den_int h2]
  exact ⟨i, j, rfl, post_v e q (mk_int _)⟩
theorem od_isB {a b : Bool} : OpD K rIsB (.bl a) (.bl b) (.dat (.bl (decide (a = b)))) := fun B H vx vy e dx dy E Q q => by
  rw [den_bl dx, den_bl dy]
  exact ⟨a, b, rfl, rfl, post_v e q (mk_bl _)⟩
theorem od_notB {a b : Bool} : OpD K rNotB (.bl a) (.bl b) (.dat (.bl (!decide (a = b)))) := fun B H vx vy e dx dy E Q q => by
  rw [den_bl dx, den_bl dy]
  exact ⟨a, b, rfl, rfl, post_v e q (mk_bl _)⟩
theorem gw_lst {gs : TGs} {n : Nat} {ds : List D} {P : List Sl → Prop} (hn : ds.length = n) (h : GWs K gs ds sl P) : GW K (gLst K n gs) (.lst ds) sl P := fun B0 H0 B H σ v sd dv Q q => by
  obtain ⟨a, vs, rfl, h1, h2⟩ := den_lst dv
  exact ⟨a, vs, rfl, SqL.of (sd.sub a _ h1), by rw [← denL_len h2]; exact hn, h B0 H0 B H σ vs sd h2 Q q⟩
/-! ### items and cuts -/
theorem od_ixLL {xss : List (List Nat)} {k : Nat} (h : k < xss.length) : OpD K (rIxL K) (natLL xss) (nat k) (.dat (natL (xss.getD k []))) := od_ixL (by omega) (by
  rw [Int.toNat_natCast, List.getElem?_map, List.getElem?_eq_getElem h, List.getD_eq_getElem?_getD, List.getElem?_eq_getElem h]
  rfl)
theorem atI_m1 {α : Type} {xs : List α} {v : α} (h : xs[xs.length - 1]? = some v) : atI xs (-1) = some v := by
  have hl : 0 < xs.length := by
    cases xs with
    | nil => simp at h
    | cons a l => simp
  unfold atI ixN
  rw [if_neg (by omega), if_pos (by omega), show ((-1 : Int) + (xs.length : Int)).toNat = xs.length - 1 by omega]
  exact h
theorem od_ixM1 {xs : List D} {d : D} (h : xs[xs.length - 1]? = some d) : OpD K (rIxL K) (.lst xs) (.int (-1)) (.dat d) := fun B H vx vy e dx dy E Q q => by
  obtain ⟨a, vs, rfl, h1, h2⟩ := den_lst dx
  rw [den_int dy]
  obtain ⟨v, h3, h4⟩ := denL_get h2 h
  refine ⟨a, vs, _, v, rfl, rfl, SqL.of (e a _ h1), atI_m1 ?_, post_v e q h4⟩
  rw [← denL_len h2]
  exact h3
theorem od_ixLLm {xss : List (List Nat)} (h : xss ≠ []) : OpD K (rIxL K) (natLL xss) (.int (-1)) (.dat (natL (xss.getD (xss.length - 1) []))) := od_ixM1 (by
  have hl : 0 < xss.length := List.length_pos_iff.mpr h
  rw [List.length_map, List.getElem?_map, List.getElem?_eq_getElem (by omega), List.getD_eq_getElem?_getD, List.getElem?_eq_getElem (by omega)]
  rfl)
def cutA {α : Type} (xs : List α) (lo hi : Option Int) : List α := (xs.drop (HT.sIx xs.length 0 lo)).take (HT.sIx xs.length xs.length hi - HT.sIx xs.length 0 lo)
theorem cut_map {α : Type} (f : α → D) (xs : List α) (lo hi : Option Int) : cutD (xs.map f) lo hi = (cutA xs lo hi).map f := by
  unfold cutD cutA
  rw [List.length_map, List.map_take, List.map_drop]
theorem cut_sub {α : Type} (xs : List α) (lo hi : Option Int) : (cutA xs lo hi).Sublist xs := (List.take_sublist _ _).trans (List.drop_sublist _ _)
theorem cutA_take {α : Type} (xs : List α) (a : Nat) : cutA xs none (some (a : Int)) = xs.take a := by
  have e : HT.sIx xs.length xs.length (some (a : Int)) = min a xs.length := HT.sIx_nat xs.length xs.length a
  unfold cutA
  rw [HT.sIx_none, e, List.drop_zero, Nat.sub_zero]
  by_cases h : a ≤ xs.length
  · rw [Nat.min_eq_left h]
  · rw [Nat.min_eq_right (by omega), List.take_of_length_le (Nat.le_refl _), List.take_of_length_le (by omega)]
theorem cutA_drop {α : Type} (xs : List α) (a : Nat) : cutA xs (some (a : Int)) none = xs.drop a := by
  have e : HT.sIx xs.length 0 (some (a : Int)) = min a xs.length := HT.sIx_nat xs.length 0 a
  unfold cutA
  rw [HT.sIx_none, e]
  by_cases h : a ≤ xs.length
  · rw [Nat.min_eq_left h, List.take_of_length_le (by rw [List.length_drop]; exact Nat.le_refl _)]
  · rw [Nat.min_eq_right (by omega), List.drop_eq_nil_of_le (as := xs) (i := a) (by omega), Nat.sub_self, List.take_zero]
theorem ev_slA {te : TE} {tl th : TO} {lo hi : Option Int} {α : Type} {f : α → D} {xs : List α} (h : EvR K E te sl (.dat (.lst (xs.map f)))) (hl : EvO K tl sl lo) (hh : EvO K th sl hi) : EvR K E (tSl (rSlL K) te tl th) sl (.new ((cutA xs lo hi).map f)) := by
  rw [← cut_map]
  exact ev_sl h hl hh
/-! ### a chain of three -/
def tChain3 (r r' r2 : R2) (ta tb tc td : TE) : TE := fun σ H Q => ta σ H fun x H1 => tb σ H1 fun y H2 => r x y H2 fun z H3 => ∃ k, z = .bl k ∧
  (if k = true then tc σ H3 fun w H4 => r' y w H4 fun z2 H5 => ∃ k2, z2 = .bl k2 ∧ (if k2 = true then td σ H5 fun u H6 => r2 w u H6 Q else Q (.bl false) H5) else Q (.bl false) H3)
theorem ev_chain3 {r r' r2 : R2} {ta tb tc td : TE} {x y z u : D} {a b c : Bool} (ha : EvR K E ta sl (.dat x)) (hb : EvR K E tb sl (.dat y)) (hc : EvR K E tc sl (.dat z)) (hd : EvR K E td sl (.dat u)) (h1 : OpD K r x y (.dat (.bl a))) (h2 : OpD K r' y z (.dat (.bl b))) (h3 : OpD K r2 z u (.dat (.bl c))) :
    EvR K E (tChain3 r r' r2 ta tb tc td) sl (.dat (.bl (a && (b && c)))) := fun B0 H0 B H σ sd Q q =>
  ha B0 H0 B H σ sd _ fun v B1 H1 g1 d1 => hb B0 H0 B1 H1 σ (sd.grow g1) _ fun w B2 H2 g2 d2 => h1 B2 H2 v w g2.sub (den_mono g2.eb d1) d2 E _ fun k B3 H3 g3 d3 => by
    refine ⟨a, den_bl d3, ?_⟩
    have g13 := (g1.trans g2).trans g3
    cases a with
    | false =>
      rw [if_neg Bool.false_ne_true]
      exact post_v g13.sub (q.shift g13) (mk_bl _)
    | true =>
      rw [if_pos rfl]
      refine hc B0 H0 B3 H3 σ (sd.grow g13) _ fun w3 B4 H4 g4 d4 => h2 B4 H4 w w3 g4.sub (den_mono g4.eb (den_mono g3.eb d2)) d4 E _ fun k2 B5 H5 g5 d5 => ?_
      have g15 := (g13.trans g4).trans g5
      refine ⟨b, den_bl d5, ?_⟩
      cases b with
      | false =>
        rw [if_neg Bool.false_ne_true]
        exact post_v g15.sub (q.shift g15) (mk_bl _)
      | true =>
        rw [if_pos rfl]
        refine hd B0 H0 B5 H5 σ (sd.grow g15) _ fun w6 B6 H6 g6 d6 => h3 B6 H6 w3 w6 g6.sub (den_mono g6.eb (den_mono g5.eb d4)) d6 E _ ?_
        exact (q.shift g15).shift g6
end
section
variable {X : Cx} {a b c d : Expr} {ta tb tc td : TE} {pos : Pos}
theorem pt_chain3 {op op' op2 : CmpOp} {r r' r2 : R2} (ho : OpR X (compareOp op) r) (ho' : OpR X (compareOp op') r') (ho2 : OpR X (compareOp op2) r2) (ha : PE X a ta) (hb : PE X b tb) (hc : PE X c tc) (hd : PE X d td)
    (hm : lastMarks [op, op', op2] [b, c, d] = false := by with_unfolding_all rfl) : PT X (.Compare a [op, op', op2] [b, c, d] pos) (tTest (tChain3 r r' r2 ta tb tc td)) := by
  refine ⟨fun pins s σ H Q I h => ?_⟩
  refine isTrue_chain (thn (ha.run pins s σ H _ I h) fun v s1 ⟨x, H1, I1, r1, q1⟩ => test_link (thn (hb.run pins s1 σ H1 _ I1 q1) fun u s2 ⟨y, H2, I2, r2, q2⟩ =>
    thn (ho pins s2 σ H2 x y v u _ I2 r1 r2 q2) fun d s3 ⟨z, H3, I3, r3, k, e, q3⟩ => ?_)) hm
  subst e
  cases r3
  refine wpAny_truthy_bool ?_
  cases k with
  | false =>
    obtain ⟨k', e', q'⟩ := q3
    cases e'
    exact ite_ff ⟨H3, I3, q'⟩
  | true =>
    refine ite_tt (test_link (thn (hc.run pins s3 σ H3 _ I3 q3) fun w' s4 ⟨z', H4, I4, r4, q4⟩ => thn (ho' pins s4 σ H4 y z' u w' _ I4 r2 r4 q4) fun d' s5 ⟨z2, H5, I5, r5, k2, e2, q5⟩ => ?_))
    subst e2
    cases r5
    refine wpAny_truthy_bool ?_
    cases k2 with
    | false =>
      obtain ⟨k', e', q'⟩ := q5
      cases e'
      exact ite_ff ⟨H5, I5, q'⟩
    | true =>
      refine ite_tt (test_last (thn (hd.run pins s5 σ H5 _ I5 q5) fun w6 s6 ⟨z6, H6, I6, r6, q6⟩ => thn (ho2 pins s6 σ H6 z' z6 w' w6 _ I6 r4 r6 q6) fun d7 s7 ⟨z7, H7, I7, r7, k7, e7, q7⟩ => ?_))
      subst e7
      cases r7
      exact wpAny_truthy_bool ⟨H7, I7, q7⟩
end
/-! ### clearings -/
section
variable {K : PySem.W.Frag} {E : XK} {sl : List Sl} {P : En} {i : Nat} {N : Hp} {u : TS}
theorem set2_fgt (sl : List Sl) (i : Nat) (x : Sl) : Fgt (sl.set i x) (sl.set i .un) := by
  have := fgt_un (sl.set i x) i
  rwa [List.set_set] at this
/-- x[0].clear(); x.clear(), x a region's list of lists -/
theorem w_rgClr {xss : List (List Nat)} (hi : sl[i]? = some (.rg N (natLL xss))) (hx : 0 < xss.length) (hr : ∀ (j : Nat) (N' : Hp) (d' : D), j ≠ i → sl[j]? = some (.rg N' d') → Dsj N' N) (k : W K E u (sl.set i .un) P) :
    W K E (tSeq (tDrop (tBM0 K "list" rClear (tOp (rIxL K) (tVar i) (tC (.int 0))))) (tSeq (tDrop (tBM0 K "list" rClear (tVar i))) u)) sl P := fun B0 H0 B H σ D sd m => by
  obtain ⟨v, g1, n0, nb, nh, nd, no⟩ := sd.rg i N _ hi
  obtain ⟨a, vs, rfl, ha, hd⟩ := den_lst nd
  obtain ⟨c, ws, q1, q2, q3⟩ := LL_get hd hx
  have ac : a ≠ c := LL_ne (xss := xss) ha q1 q2 q3
  have il : i < sl.length := (List.getElem?_eq_some_iff.mp hi).1
  have dj : ∀ (q : Addr) (o : HO), N q = some o → ∀ (j : Nat) (N' : Hp) (d' : Wv.D), j ≠ i → sl[j]? = some (.rg N' d') → N' q = none := fun q o hq j N' d' hj e => by
    cases w : N' q with
    | none => rfl
    | some o2 =>
      have := hr j N' d' hj e q o2 w
      rw [hq] at this
      cases this
  have s1 := sd.mutRg hi g1 q2 (o := .lst []) (d' := .fn a) (mk_fn a) (dj c _ q2)
  have s2 := s1.mutRg (i := i) (by rw [List.getElem?_set_self il]) g1 (q := a) (o0 := .lst vs) (o := .lst []) (d' := .fn a) (by rw [upd_ne ac]; exact ha) (mk_fn a) (fun j N' d' hj e => dj a _ ha j N' d' hj (by rw [List.getElem?_set_ne (Ne.symm hj)] at e; exact e))
  rw [List.set_set] at s2
  exact ⟨_, g1, a, vs, 0, .ref c, rfl, rfl, SqL.of (nh a _ ha), atI_nat (j := 0) q1, .inl ⟨rfl, _, .inl (.inl (nh c _ q2))⟩, c, ws, rfl, rfl, nh c _ q2,
    ⟨_, g1, .inl ⟨rfl, _, .inl (.inl (by rw [upd_ne ac]; exact nh a _ ha))⟩, a, vs, rfl, rfl, by rw [upd_ne ac]; exact nh a _ ha, k B0 H0 B _ σ D (s2.fgt (set2_fgt sl i _)) m⟩⟩
/-- x.f[0].clear(); x.f.clear(), x a region's object of one field -/
theorem w_rgClrF {C : Addr} {f : Str} {xss : List (List Nat)} (cl : Cls K C) (na : NoAttr K C f) (hi : sl[i]? = some (.rg N (.obj C [f] [natLL xss]))) (hx : 0 < xss.length) (hr : ∀ (j : Nat) (N' : Hp) (d' : D), j ≠ i → sl[j]? = some (.rg N' d') → Dsj N' N) (k : ∀ N', W K E u (sl.set i (.rg N' (.obj C [f] [.lst []]))) P) :
    W K E (tSeq (tDrop (tBM0 K "list" rClear (tOp (rIxL K) (tFld K (tVar i) f) (tC (.int 0))))) (tSeq (tDrop (tBM0 K "list" rClear (tFld K (tVar i) f))) u)) sl P := fun B0 H0 B H σ D sd m => by
  obtain ⟨v, g1, n0, nb, nh, nd, no⟩ := sd.rg i N _ hi
  obtain ⟨b, dx, us, rfl, hb, hl, hu⟩ := den_obj nd
  obtain ⟨w, rfl, hw⟩ := denL_one hu
  obtain ⟨a, vs, rfl, ha, hd⟩ := den_lst hw
  obtain ⟨c, ws, q1, q2, q3⟩ := LL_get hd hx
  have ac : a ≠ c := LL_ne (xss := xss) ha q1 q2 q3
  have ba : b ≠ a := fun e => by
    rw [e, ha] at hb
    cases hb
  have bc : b ≠ c := fun e => by
    rw [e, q2] at hb
    cases hb
  have il : i < sl.length := (List.getElem?_eq_some_iff.mp hi).1
  have dj : ∀ (q : Addr) (o : HO), N q = some o → ∀ (j : Nat) (N' : Hp) (d' : Wv.D), j ≠ i → sl[j]? = some (.rg N' d') → N' q = none := fun q o hq j N' d' hj e => by
    cases w : N' q with
    | none => rfl
    | some o2 =>
      have := hr j N' d' hj e q o2 w
      rw [hq] at this
      cases this
  have s1 := sd.mutRg hi g1 q2 (o := .lst []) (d' := .fn b) (mk_fn b) (dj c _ q2)
  have s2 := s1.mutRg (i := i) (by rw [List.getElem?_set_self il]) g1 (q := a) (o0 := .lst vs) (o := .lst []) (d' := .obj C [f] [.lst []]) (by rw [upd_ne ac]; exact ha) (mk_obj (dx := dx) (vs := [.ref a]) (by rw [upd_ne ba, upd_ne bc]; exact hb) rfl (denL_cons (mk_lst upd_same denL_nil) denL_nil)) (fun j N' d' hj e => dj a _ ha j N' d' hj (by rw [List.getElem?_set_ne (Ne.symm hj)] at e; exact e))
  rw [List.set_set] at s2
  have lk : (List.zip [f] [V.ref a]).lookup f = some (V.ref a) := by simp
  exact ⟨_, g1, b, C, dx, _, .ref a, rfl, nh b _ hb, cl, na, lk, a, vs, 0, .ref c, rfl, rfl, SqL.of (nh a _ ha), atI_nat (j := 0) q1, .inl ⟨rfl, _, .inl (.inl (nh c _ q2))⟩, c, ws, rfl, rfl, nh c _ q2,
    ⟨_, g1, b, C, dx, _, .ref a, rfl, by rw [upd_ne bc]; exact nh b _ hb, cl, na, lk, .inl ⟨rfl, _, .inl (.inl (by rw [upd_ne ac]; exact nh a _ ha))⟩, a, vs, rfl, rfl, by rw [upd_ne ac]; exact nh a _ ha, k _ B0 H0 B _ σ D s2 m⟩⟩
end
/-! ### a promise for several shapes; councils and two members -/
theorem hu65 {k : Nat} {A : Around} (hr : Room k A) : A.units + 65 < cLine := by
  have := hr.un
  omega
def OrC (f g : List D → Rs → Prop) : List D → Rs → Prop := fun ds r => f ds r ∨ g ds r
theorem sp_or {K : PySem.W.Frag} {f g : List D → Rs → Prop} {vs : List V} {H : Hp} {Q : VK} {E : XK} (h : SpR K (OrC f g) vs H Q E) : SpR K f vs H Q E ∨ SpR K g vs H Q E := by
  obtain ⟨B, ds, r, e, hd, hf, q⟩ := h
  rcases hf with z | z
  · exact .inl ⟨B, ds, r, e, hd, z, q⟩
  · exact .inr ⟨B, ds, r, e, hd, z, q⟩
theorem OrC.len {f g : List D → Rs → Prop} {n : Nat} (h1 : ∀ ds r, f ds r → ds.length = n) (h2 : ∀ ds r, g ds r → ds.length = n) : ∀ ds r, OrC f g ds r → ds.length = n := fun ds r h => h.elim (h1 ds r) (h2 ds r)
def RC3 (C : Addr) (p : Nat → List Bool → Nat → Nat → Prop) (g : Nat → List Bool → Nat → Nat → Rs) : List D → Rs → Prop := fun ds r => ∃ n t a b, ds = [cou C n t, nat a, nat b] ∧ p n t a b ∧ r = g n t a b
theorem RC3.len {C : Addr} {p : Nat → List Bool → Nat → Nat → Prop} {g : Nat → List Bool → Nat → Nat → Rs} : ∀ ds r, RC3 C p g ds r → ds.length = 3 := by
  rintro ds r ⟨_, _, _, _, rfl, _⟩
  rfl
theorem RC3.mk {C : Addr} {p : Nat → List Bool → Nat → Nat → Prop} {g : Nat → List Bool → Nat → Nat → Rs} {n : Nat} {t : List Bool} {a b : Nat} (h : p n t a b) : RC3 C p g [cou C n t, nat a, nat b] (g n t a b) := ⟨n, t, a, b, rfl, h, rfl⟩
theorem lk_f1 {f : Str} {d : D} : (List.zip [f] [d]).lookup f = some d := by simp
theorem lk_f41 {a b c d : D} : (List.zip (["one", "other", "first", "second"] : List Str) [a, b, c, d]).lookup ("one" : Str) = some a := by
  simp [List.zip, List.zipWith, List.lookup]
theorem lk_f42 {a b c d : D} : (List.zip (["one", "other", "first", "second"] : List Str) [a, b, c, d]).lookup ("other" : Str) = some b := by
  have h : (("other" : Str) == ("one" : Str)) = false := by decide +kernel
  simp [List.zip, List.zipWith, List.lookup, h]
theorem lk_f43 {a b c d : D} : (List.zip (["one", "other", "first", "second"] : List Str) [a, b, c, d]).lookup ("first" : Str) = some c := by
  have h : (("first" : Str) == ("one" : Str)) = false := by decide +kernel
  have h2 : (("first" : Str) == ("other" : Str)) = false := by decide +kernel
  simp [List.zip, List.zipWith, List.lookup, h, h2]
theorem lk_f44 {a b c d : D} : (List.zip (["one", "other", "first", "second"] : List Str) [a, b, c, d]).lookup ("second" : Str) = some d := by
  have h : (("second" : Str) == ("one" : Str)) = false := by decide +kernel
  have h2 : (("second" : Str) == ("other" : Str)) = false := by decide +kernel
  have h3 : (("second" : Str) == ("first" : Str)) = false := by decide +kernel
  simp [List.zip, List.zipWith, List.lookup, h, h2, h3]
end Wv
namespace Wv
open PySem L2 PyProof.Rows
open Evl (Ex fresh_back ex_l)
def top (i : Nat) : Stmt := PySem.Challenge.pw_weighvote_k04_whole_ranked.main.body.getD i (.Pass ⟨0, 0, 0, 0⟩)
/-! ### the words that evaluate -/
local macro_rules | `(tactic| walk_at "side0") => `(tactic| first
  | assumption | exact True.intro | (with_reducible exact rfl) | omega | (constructor <;> first | assumption | omega) | decide | (solve_by_elim) | (simp; done) | (simp <;> omega))
local macro_rules | `(tactic| walk_at "side") => `(tactic| first | walk_at "side0" | (dsimp only; walk_at "side0"))
local macro_rules | `(tactic| walk_at "nt") => `(tactic| first
  | (with_reducible exact pw_nat _) | (with_reducible exact shl_one _) | (with_reducible exact rfl) | (with_reducible exact lit0) | (with_reducible exact lit1) | (with_reducible exact lit2) | (with_reducible exact lit3) | (with_reducible exact lit4) | (with_reducible exact lit5) | (with_reducible exact lit6) | (with_reducible exact lit7) | (with_reducible exact lit8) | (with_reducible exact lit31) | (with_reducible exact lit32) | (with_reducible exact lit40) | exact rfl | omega | (simp; done))
local macro_rules | `(tactic| walk_at "od") => `(tactic| first
  | (with_reducible exact od_andN) | (with_reducible exact od_orN) | (with_reducible exact od_xorN) | ((with_reducible apply od_shl1); omega) | (with_reducible exact od_eqNat) | (with_reducible exact od_neNat)
  | (with_reducible exact od_i) | (with_reducible exact od_b) | (with_reducible exact od_eqI) | (with_reducible exact od_neI) | (with_reducible exact od_eqB) | (with_reducible exact od_neB) | (with_reducible exact od_eqS) | (with_reducible exact od_neS)
  | ((with_reducible refine od_ixB ?_); walk_at "side") | ((with_reducible refine od_ixI ?_); walk_at "side") | ((with_reducible refine od_ixN ?_); walk_at "side")
  | ((with_reducible apply od_ixR); (· walk_at "side"); (· walk_at "side"))
  | ((with_reducible apply od_ixT); (· walk_at "side"); (· exact rfl)) | ((with_reducible apply od_ixL); (· walk_at "side"); (· exact rfl))
  | (with_reducible exact od_eqN) | (with_reducible exact od_neN) | (with_reducible exact od_eqL) | (with_reducible exact od_neL) | (with_reducible exact od_eqLb)
  | (with_reducible exact od_inI)
  | (with_reducible exact od_isB) | (with_reducible exact od_notB) | (with_reducible exact od_neLL) | (with_reducible exact od_inLL) | ((with_reducible refine od_ixLL ?_); walk_at "side")
  | ((with_reducible refine od_ic ?_); walk_at "oc")
  | ((with_reducible refine od_cat ?_); walk_at "sz"))
local macro_rules | `(tactic| walk_at "oc") => `(tactic| first
  | assumption | (refine And.intro ?_ (And.intro ?_ ?_) <;> first | assumption | omega | decide) | (refine And.intro ?_ ?_ <;> first | assumption | omega | decide) | (refine Or.inl (And.intro ?_ ?_) <;> first | omega | decide) | (refine Or.inr (And.intro ?_ ?_) <;> first | omega | decide) | (show (0 : Int) ≤ _; omega) | (show (0 : Int) < _; omega) | (show (0 : Int) < _; decide) | decide)
local macro_rules | `(tactic| walk_at "sz") => `(tactic| first
  | omega | (with_reducible exact wo_big _) | (simp only [List.length_map, List.length_range, List.length_cons, List.length_nil, sizeLine_eq] <;> omega)
  | (rw [sizeLine_eq]; simp <;> omega) | (simp <;> omega) | decide)
local macro_rules | `(tactic| walk_at "cf") => `(tactic| first
  | assumption | exact c_within.i _ _ _
  | ((refine c_law_table.mk ?_ ?_); (· walk_at "side"); (· walk_at "sz"))
  | ((refine c_law_is.mk ?_); walk_at "side") | ((refine RC1.mk ?_); walk_at "side") | ((refine RC2.mk ?_); walk_at "side") | ((refine RCC.mk ?_); walk_at "side")
  | ((refine RC3.mk ⟨?_, ?_, ?_, ?_⟩) <;> walk_at "side")
  | ((refine R1.mk ?_); walk_at "side") | ((refine R2'.mk ?_); walk_at "side") | ((refine R3.mk ?_); walk_at "side") | ((refine R4.mk ?_); walk_at "side"))
local macro_rules | `(tactic| walk_at "cb") => `(tactic| first
  | (with_reducible exact cb_lenM) | (with_reducible exact cb_len) | (with_reducible exact cb_lenT) | (with_reducible exact cb_lenR) | (with_reducible exact cb_anyM) | (with_reducible exact cb_allM) | (with_reducible exact cb_sumM)
  | (with_reducible exact cb_sortedN) | (with_reducible exact cb_min2) | (with_reducible exact cb_max2) | ((with_reducible apply cb_isiO) <;> assumption)
  | (with_reducible exact cb_any) | (with_reducible exact cb_all) | (with_reducible exact cb_sum) | (with_reducible exact cb_list)
  | ((with_reducible apply cb_isi); (· constructor); (· first | (with_reducible exact kit_ii) | (with_reducible exact kit_ib) | (with_reducible exact kit_bb) | (with_reducible exact kit_bi) | (with_reducible exact kit_ll) | (with_reducible exact kit_ss) | (with_reducible exact kit_li) | (with_reducible exact kit_lb) | (with_reducible exact kit_ti) | (with_reducible exact kit_tl) | (with_reducible exact kit_si) | (with_reducible exact kit_sl) | (with_reducible exact kit_ni) | (with_reducible exact kit_nl) | (with_reducible exact kit_il) | (with_reducible exact kit_lt) | (with_reducible exact kit_tt) | (with_reducible exact kit_ns) | (with_reducible exact kit_is) | (with_reducible exact kit_ls) | (with_reducible exact kit_bs))))
local macro_rules | `(tactic| walk_at "ea") => `(tactic| first
  | (with_reducible exact ea_nil)
  | ((with_reducible apply ea_cons); (· walk_at "ev"); (· walk_at "ea")))
local macro_rules | `(tactic| walk_at "ne") => `(tactic| first | exact Or.inr rfl | exact Or.inl (fun _ z => nomatch z))
local macro_rules | `(tactic| walk_at "et") => `(tactic| first
  | (with_reducible exact et_yes)
  | ((with_reducible apply et_test); walk_at "ev") | ((with_reducible apply et_B); walk_at "ev")
  | ((with_reducible apply et_not); walk_at "et")
  | ((with_reducible apply et_and); (· walk_at "et"); (· intro hq; walk_at "et"))
  | ((with_reducible apply et_or); (· walk_at "et"); (· intro hq; walk_at "et")))
local macro_rules | `(tactic| walk_at "it") => `(tactic| first
  | ((with_reducible apply it_rngN); (· walk_at "ea"); (· walk_at "nt"); (· walk_at "side"))
  | ((with_reducible apply it_list); walk_at "ev") | ((with_reducible apply it_tup); walk_at "ev"))
local macro_rules | `(tactic| walk_at "evN") => `(tactic| first
  | ((with_reducible apply ev_callG); (· walk_at "ea"); (· walk_at "cf"); (· walk_at "ne"))
  | ((with_reducible apply ev_methG); (· walk_at "ev"); (· decide +kernel); (· walk_at "ea"); (· walk_at "cf"); (· walk_at "ne"))
  | ((with_reducible apply ev_lst); (· walk_at "ea"); (· walk_at "sz"))
  | ((with_reducible apply ev_cb); (· walk_at "ea"); (· walk_at "cb"))
  | ((with_reducible apply ev_op); (· walk_at "ev"); (· walk_at "ev"); (· walk_at "od"))
  | ((with_reducible apply ev_lcM); (· walk_at "it"); (· walk_at "sz"); (· decide); (· (intro a ha; (try replace ha := List.mem_range.mp ha); walk_at "ev")))
  | ((with_reducible apply ev_lcF); (· walk_at "it"); (· walk_at "sz"); (· decide); (· (intro a ha; (try replace ha := List.mem_range.mp ha); walk_at "et")); (· (intro a ha hf; (try replace ha := List.mem_range.mp ha); walk_at "ev")))
  | ((with_reducible apply ev_revL); walk_at "ev")
  | ((with_reducible apply ev_listRg1); (· walk_at "ev"); (· walk_at "nt"); (· walk_at "side")))
local macro_rules | `(tactic| walk_at "ev") => `(tactic| first
  | ((with_reducible apply ev_var); exact rfl)
  | (with_reducible exact ev_int) | (with_reducible exact ev_bl) | (with_reducible exact ev_str) | (with_reducible exact ev_non) | (with_reducible exact ev_ty) | (with_reducible exact ev_fn)
  | ((with_reducible apply ev_op); (· walk_at "ev"); (· walk_at "ev"); (· walk_at "od"))
  | ((with_reducible apply ev_un); (· walk_at "ev"); (· exact ud_i))
  | ((with_reducible apply ev_chain); (· walk_at "ev"); (· walk_at "ev"); (· walk_at "ev"); (· walk_at "od"); (· walk_at "od"))
  | ((with_reducible apply ev_andV); (· walk_at "ev"); (· intro hq; walk_at "ev"))
  | ((with_reducible apply ev_orV); (· walk_at "ev"); (· intro hq; walk_at "ev"))
  | ((with_reducible apply ev_notV); walk_at "ev")
  | ((with_reducible apply ev_if); (· walk_at "et"); (· intro hq; walk_at "ev"); (· intro hq; walk_at "ev"))
  | ((with_reducible apply ev_fld); (· walk_at "ev"); (· assumption); (· assumption); (· first | exact lk_members _ _ | exact lk_table _ _ | exact lk_f1 | exact lk_f41 | exact lk_f42 | exact lk_f43 | exact lk_f44))
  | ((with_reducible apply ev_callG); (· walk_at "ea"); (· walk_at "cf"); (· walk_at "ne"))
  | ((with_reducible apply ev_methG); (· walk_at "ev"); (· decide +kernel); (· walk_at "ea"); (· walk_at "cf"); (· walk_at "ne"))
  | ((with_reducible apply EvR.ofF); walk_at "evO")
  | ((with_reducible apply ev_cb); (· walk_at "ea"); (· walk_at "cb"))
  | ((with_reducible apply ev_tup); (· walk_at "ea"); (· walk_at "sz"))
  | ((with_reducible apply ev_count); (· walk_at "ev"); (· walk_at "ev"))
  | ((with_reducible apply EvR.fz); walk_at "evN"))
local macro_rules | `(tactic| walk_at "ci") => `(tactic| first
  | assumption | (refine c_Council_init.mk ?_ ?_ ?_ ?_ <;> walk_at "side"))
local macro_rules | `(tactic| walk_at "evO") => `(tactic| first
  | ((with_reducible apply ev_make); (· walk_at "ea"); (· walk_at "ci"))
  | ((with_reducible apply ev_callG); (· walk_at "ea"); (· walk_at "cf"); (· walk_at "ne"))
  | ((with_reducible apply ev_methG); (· walk_at "ev"); (· decide +kernel); (· walk_at "ea"); (· walk_at "cf"); (· walk_at "ne"))
  | (with_reducible exact ev_emp))
local macro_rules | `(tactic| walk_at "evF") => `(tactic| first
  | walk_at "evO"
  | ((with_reducible apply EvR.frsS); (· walk_at "ev"); (· exact rfl))
  | ((with_reducible apply EvR.frsL); (· walk_at "evN"); (· simp [sca])))
structure Txt (K : PySem.W.Frag) (mg : Str → Option Value) (C_Council C_Answer C_Weights C_Trade C_Ranks C_Unranked : Addr) : Prop where
  n_all : mg "all" = none
  n_any : mg "any" = none
  n_bool : mg "bool" = none
  n_int : mg "int" = none
  n_isinstance : mg "isinstance" = none
  n_len : mg "len" = none
  n_list : mg "list" = none
  n_max : mg "max" = none
  n_min : mg "min" = none
  n_range : mg "range" = none
  n_sorted : mg "sorted" = none
  n_sum : mg "sum" = none
  c_MOST : ∃ t, mg "MOST" = some (.int 5 t)
  g_Council : mg "Council" = some (.ref C_Council)
  cl_Council : Cls K C_Council
  na_Council_members : NoAttr K C_Council "members"
  na_Council_table : NoAttr K C_Council "table"
  g_Answer : mg "Answer" = some (.ref C_Answer)
  cl_Answer : Cls K C_Answer
  g_Weights : mg "Weights" = some (.ref C_Weights)
  cl_Weights : Cls K C_Weights
  g_Trade : mg "Trade" = some (.ref C_Trade)
  cl_Trade : Cls K C_Trade
  g_Ranks : mg "Ranks" = some (.ref C_Ranks)
  cl_Ranks : Cls K C_Ranks
  na_Ranks_ranks : NoAttr K C_Ranks "ranks"
  g_Unranked : mg "Unranked" = some (.ref C_Unranked)
  cl_Unranked : Cls K C_Unranked
  na_Unranked_one : NoAttr K C_Unranked "one"
  na_Unranked_other : NoAttr K C_Unranked "other"
  na_Unranked_first : NoAttr K C_Unranked "first"
  na_Unranked_second : NoAttr K C_Unranked "second"
  ic_Ranks : IsC K C_Ranks
  ic_Unranked : IsC K C_Unranked
  ki_Ranks_Answer : PySem.W.kitOne K (.ref C_Ranks) (.ref C_Answer) = some true
  ki_Ranks_Ranks : PySem.W.kitOne K (.ref C_Ranks) (.ref C_Ranks) = some true
  ki_Ranks_Unranked : PySem.W.kitOne K (.ref C_Ranks) (.ref C_Unranked) = some false
  ki_Ranks_Weights : PySem.W.kitOne K (.ref C_Ranks) (.ref C_Weights) = some false
  ki_Ranks_Trade : PySem.W.kitOne K (.ref C_Ranks) (.ref C_Trade) = some false
  ki_Unranked_Answer : PySem.W.kitOne K (.ref C_Unranked) (.ref C_Answer) = some true
  ki_Unranked_Ranks : PySem.W.kitOne K (.ref C_Unranked) (.ref C_Ranks) = some false
  ki_Unranked_Unranked : PySem.W.kitOne K (.ref C_Unranked) (.ref C_Unranked) = some true
  ki_Unranked_Weights : PySem.W.kitOne K (.ref C_Unranked) (.ref C_Weights) = some false
  ki_Unranked_Trade : PySem.W.kitOne K (.ref C_Unranked) (.ref C_Trade) = some false
section
variable {P : Program} {w : World} {K : PySem.W.Frag} {mg : Str → Option Value} {base : Heap} {C_Council C_Answer C_Weights C_Trade C_Ranks C_Unranked : Addr}
abbrev st_within : Stmt := top 8
abbrev n_within : List Str := ["number", "low", "high"]
abbrev p_within : List Str := ["number", "low", "high"]
theorem sc_within : FnScope n_within p_within (defScope st_within) := ⟨rfl, rfl, rfl, by decide +kernel, rfl, by decide +kernel, by decide +kernel⟩
theorem ok_within {f : Addr} {fd : FuncData} (F : Fun K "within" "within" st_within f fd) (T : Txt K mg C_Council C_Answer C_Weights C_Trade C_Ranks C_Unranked) : FnOk P w K mg base CX0 1 f fd p_within (SpR K c_within) := by
  refine F.ok sc_within (sp_len c_within.len) (fun cdv A outer s H vs Q E hr h => ?_)
  have hcl_Council := T.cl_Council
  have hna_Council_members := T.na_Council_members
  have hna_Council_table := T.na_Council_table
  have hcl_Answer := T.cl_Answer
  have hcl_Weights := T.cl_Weights
  have hcl_Trade := T.cl_Trade
  have hcl_Ranks := T.cl_Ranks
  have hna_Ranks_ranks := T.na_Ranks_ranks
  have hcl_Unranked := T.cl_Unranked
  have hna_Unranked_one := T.na_Unranked_one
  have hna_Unranked_other := T.na_Unranked_other
  have hna_Unranked_first := T.na_Unranked_first
  have hna_Unranked_second := T.na_Unranked_second
  have hic_Ranks := T.ic_Ranks
  have hic_Unranked := T.ic_Unranked
  have hki_Ranks_Answer := T.ki_Ranks_Answer
  have hki_Ranks_Ranks := T.ki_Ranks_Ranks
  have hki_Ranks_Unranked := T.ki_Ranks_Unranked
  have hki_Ranks_Weights := T.ki_Ranks_Weights
  have hki_Ranks_Trade := T.ki_Ranks_Trade
  have hki_Unranked_Answer := T.ki_Unranked_Answer
  have hki_Unranked_Ranks := T.ki_Unranked_Ranks
  have hki_Unranked_Unranked := T.ki_Unranked_Unranked
  have hki_Unranked_Weights := T.ki_Unranked_Weights
  have hki_Unranked_Trade := T.ki_Unranked_Trade
  refine ⟨_, (pss_one (ps_ret (pe_and (pe_callB call_isi (by rfl) T.n_isinstance (by decide +kernel) (pa_cons (pv 0) (pa_cons (pe_bltn (v := .ty "int") (by rfl) T.n_int (by decide +kernel) rfl) pa_nil))) (pe_and (pe_not (pe_callB call_isi (by rfl) T.n_isinstance (by decide +kernel) (pa_cons (pv 0) (pa_cons (pe_bltn (v := .ty "bool") (by rfl) T.n_bool (by decide +kernel) rfl) pa_nil)))) (pe_one (pe_chain op_le op_le (pv 1) (pv 0) (pv 2))))))), go_of ?_ h⟩
  try dsimp only [L2.cxOf, L2.Cx.nox, L2.Cx.wish, L2.Cx.blk]
  rintro ds r ⟨x, lo, hi, b, rfl, hw, rfl⟩
  refine w_ret (r := .dat (.bl b)) ?_ rfl
  cases hw with
  | int n =>
    refine ev_is (d := .bl (true && (!false && (decide (lo ≤ n) && decide (n ≤ hi))))) ?_ (by simp)
    walk_at "ev"
  | bl b =>
    refine ev_is (d := .bl (true && false)) ?_ rfl
    refine ev_andV (by walk_at "ev") fun _ => ev_andV' ?_
    refine ev_is (d := .bl (!true)) ?_ rfl
    walk_at "ev"
  | no _ T _ _ h hT =>
    refine ev_andV' ?_
    exact ev_cb (ea_cons (ev_var rfl) (ea_cons ev_ty ea_nil)) (cb_isi h hT)
def c_holds_all : List D → Rs → Prop := R2' nat nat (fun _ _ => True) fun g o => .dat (.bl (decide (g &&& o = o)))
abbrev st_holds_all : Stmt := top 9
abbrev n_holds_all : List Str := ["group", "other"]
abbrev p_holds_all : List Str := ["group", "other"]
theorem sc_holds_all : FnScope n_holds_all p_holds_all (defScope st_holds_all) := ⟨rfl, rfl, rfl, by decide +kernel, rfl, by decide +kernel, by decide +kernel⟩
theorem ok_holds_all {f : Addr} {fd : FuncData} (F : Fun K "holds_all" "holds_all" st_holds_all f fd) (T : Txt K mg C_Council C_Answer C_Weights C_Trade C_Ranks C_Unranked) : FnOk P w K mg base CX0 1 f fd p_holds_all (SpR K c_holds_all) := by
  refine F.ok sc_holds_all (sp_len R2'.len) (fun cdv A outer s H vs Q E hr h => ?_)
  have hcl_Council := T.cl_Council
  have hna_Council_members := T.na_Council_members
  have hna_Council_table := T.na_Council_table
  have hcl_Answer := T.cl_Answer
  have hcl_Weights := T.cl_Weights
  have hcl_Trade := T.cl_Trade
  have hcl_Ranks := T.cl_Ranks
  have hna_Ranks_ranks := T.na_Ranks_ranks
  have hcl_Unranked := T.cl_Unranked
  have hna_Unranked_one := T.na_Unranked_one
  have hna_Unranked_other := T.na_Unranked_other
  have hna_Unranked_first := T.na_Unranked_first
  have hna_Unranked_second := T.na_Unranked_second
  have hic_Ranks := T.ic_Ranks
  have hic_Unranked := T.ic_Unranked
  have hki_Ranks_Answer := T.ki_Ranks_Answer
  have hki_Ranks_Ranks := T.ki_Ranks_Ranks
  have hki_Ranks_Unranked := T.ki_Ranks_Unranked
  have hki_Ranks_Weights := T.ki_Ranks_Weights
  have hki_Ranks_Trade := T.ki_Ranks_Trade
  have hki_Unranked_Answer := T.ki_Unranked_Answer
  have hki_Unranked_Ranks := T.ki_Unranked_Ranks
  have hki_Unranked_Unranked := T.ki_Unranked_Unranked
  have hki_Unranked_Weights := T.ki_Unranked_Weights
  have hki_Unranked_Trade := T.ki_Unranked_Trade
  refine ⟨_, (pss_one (ps_ret (pe_cmpR op_eq (pe_op op_and (pv 0) (pv 1)) (pv 1) (nomark _)))), go_of ?_ h⟩
  try dsimp only [L2.cxOf, L2.Cx.nox, L2.Cx.wish, L2.Cx.blk]
  rintro ds r ⟨g, o, rfl, -, rfl⟩
  refine w_ret ?_ rfl
  walk_at "ev"
def c_without_one : List D → Rs → Prop := R1 nat (fun _ => True) fun g => .new ((wo g).map nat)
abbrev st_without_one : Stmt := top 11
abbrev n_without_one : List Str := ["group", "k"]
abbrev p_without_one : List Str := ["group"]
theorem sc_without_one : FnScope n_without_one p_without_one (defScope st_without_one) := ⟨rfl, rfl, rfl, by decide +kernel, rfl, by decide +kernel, by decide +kernel⟩
abbrev st_Council_init : Stmt := inClass (top 10) 0
abbrev n_Council_init : List Str := ["self", "members", "groups", "group", "one"]
abbrev p_Council_init : List Str := ["self", "members", "groups"]
theorem sc_Council_init : FnScope n_Council_init p_Council_init (defScope st_Council_init) := ⟨rfl, rfl, rfl, by decide +kernel, rfl, by decide +kernel, by decide +kernel⟩
theorem ok_Council_init {f : Addr} {fd : FuncData} (F : Fun K "__init__" "Council.__init__" st_Council_init f fd) (T : Txt K mg C_Council C_Answer C_Weights C_Trade C_Ranks C_Unranked) (g_within : OkD P w K mg base CX0 1 "within" p_within (SpR K c_within)) (g_holds_all : OkD P w K mg base CX0 1 "holds_all" p_holds_all (SpR K c_holds_all)) : FnOk P w K mg base CX0 2 f fd p_Council_init (SpI K C_Council c_Council_init) := by
  refine F.ok sc_Council_init (spI_len (by rintro ds r ⟨_, _, rfl, _⟩; rfl)) (fun cdv A outer s H vs Q E hr h => ?_)
  have hcl_Council := T.cl_Council
  have hna_Council_members := T.na_Council_members
  have hna_Council_table := T.na_Council_table
  have hcl_Answer := T.cl_Answer
  have hcl_Weights := T.cl_Weights
  have hcl_Trade := T.cl_Trade
  have hcl_Ranks := T.cl_Ranks
  have hna_Ranks_ranks := T.na_Ranks_ranks
  have hcl_Unranked := T.cl_Unranked
  have hna_Unranked_one := T.na_Unranked_one
  have hna_Unranked_other := T.na_Unranked_other
  have hna_Unranked_first := T.na_Unranked_first
  have hna_Unranked_second := T.na_Unranked_second
  have hic_Ranks := T.ic_Ranks
  have hic_Unranked := T.ic_Unranked
  have hki_Ranks_Answer := T.ki_Ranks_Answer
  have hki_Ranks_Ranks := T.ki_Ranks_Ranks
  have hki_Ranks_Unranked := T.ki_Ranks_Unranked
  have hki_Ranks_Weights := T.ki_Ranks_Weights
  have hki_Ranks_Trade := T.ki_Ranks_Trade
  have hki_Unranked_Answer := T.ki_Unranked_Answer
  have hki_Unranked_Ranks := T.ki_Unranked_Ranks
  have hki_Unranked_Unranked := T.ki_Unranked_Unranked
  have hki_Unranked_Weights := T.ki_Unranked_Weights
  have hki_Unranked_Trade := T.ki_Unranked_Trade
  refine ⟨_, (pss_cons (ps_if (PW.pt (pw_or (pt_not (pt_val (pe_callD g_within (hr.mono (by decide)) (by rfl) pass0 (pa_cons (pv 1) (pa_cons pe_int (pa_cons (pe_glob (v := .int 5) rfl T.c_MOST.choose_spec (by exact ⟨_, rfl⟩)) pa_nil)))))) (pw_or1 (pt_not (pt_val (pe_callB call_isi (by rfl) T.n_isinstance (by decide +kernel) (pa_cons (pv 2) (pa_cons (pe_bltn (v := .ty "list") (by rfl) T.n_list (by decide +kernel) rfl) pa_nil)))))))) (pss_one ps_never) pss_nil)
  (pss_cons (ps_if (pt_not (pt_val (pe_callB (cr_all rfl) (by rfl) T.n_all (by decide +kernel) (pa_cons (pe_lc (own := [("group", 3)]) (g := gName 3) (tt := tYes) (te := (tCall (SpR K c_within) [] E0 (tCons (tVar 3) (tCons (tC (.int 0)) (tCons (tOp (rI0 fun i j => .int (i - j)) (tOp (rI CPow fun i j => .int (i * 2 ^ j.toNat)) (tC (.int 1)) (tVar 1)) (tC (.int 1))) tNil))))) (by exact rfl) sc_Council_init.nd (pi_list (pv 2)) (blkOk_by (N := n_Council_init) (sc := defScope st_Council_init) (own := [("group", 3)]) (by decide +kernel)) (fun _ _ _ _ _ => (pg_name (i := 3) sc_Council_init.nd rfl (by first | exact Or.inl rfl | exact Or.inr rfl))) (fun _ _ _ _ _ => pts_nil) (fun _ _ _ _ _ => (pe_callD g_within (hr.mono (by decide)) (by rfl) pass0 (pa_cons (pv 3) (pa_cons pe_int (pa_cons (pe_op op_sub (pe_op op_shl pe_int (pv 1)) pe_int) pa_nil)))))) pa_nil)))) (pss_one ps_never) pss_nil)
  (pss_cons (ps_fld (pv 0) (pv 1) rfl)
  (pss_one (ps_fld (pv 0) (pe_lc (own := [("group", 3)]) (g := gName 3) (tt := tYes) (te := (tCB (rAny K) (tCons (tLc (iList K (tVar 2)) (gName 4) tYes (tCall (SpR K c_holds_all) [] E0 (tCons (tVar 3) (tCons (tVar 4) tNil))) [4]) tNil))) (by exact rfl) sc_Council_init.nd (pi_range1 (by rfl) T.n_range (pa_cons (pe_op op_shl pe_int (pv 1)) pa_nil)) (blkOk_by (N := n_Council_init) (sc := defScope st_Council_init) (own := [("group", 3)]) (by decide +kernel)) (fun _ _ _ _ _ => (pg_name (i := 3) sc_Council_init.nd rfl (by first | exact Or.inl rfl | exact Or.inr rfl))) (fun _ _ _ _ _ => pts_nil) (fun _ _ _ _ _ => (pe_callB (cr_any rfl) (by rfl) T.n_any (by decide +kernel) (pa_cons (pe_lc (own := [("one", 4)]) (g := gName 4) (tt := tYes) (te := (tCall (SpR K c_holds_all) [] E0 (tCons (tVar 3) (tCons (tVar 4) tNil)))) (by exact rfl) sc_Council_init.nd (pi_list (pv 2)) (blkOk_by (own := [("one", 4)]) (by kernel_rfl)) (fun _ _ _ _ _ => (pg_name (i := 4) sc_Council_init.nd rfl (by first | exact Or.inl rfl | exact Or.inr rfl))) (fun _ _ _ _ _ => pts_nil) (fun _ _ _ _ _ => (pe_callD g_holds_all (hr.mono (by decide)) (by rfl) pass0 (pa_cons (pv 3) (pa_cons (pv 4) pa_nil))))) pa_nil)))) rfl))))), goI_of ?_ h⟩
  try dsimp only [L2.cxOf, L2.Cx.nox, L2.Cx.wish, L2.Cx.blk]
  rintro x ds r ⟨n, gs, rfl, ⟨h1, h5, hl, hg⟩, rfl⟩
  have hp := pow_le n h5
  show W K E _ [.ob x C_Council [] [], .fz (nat n), .fz (natL gs), .un, .un] _
  refine w_seq (w_ifF ?_ (w_next ?_))
  · apply et_is
    · walk_at "et"
    · simp
      omega
  refine w_seq (w_ifF ?_ (w_next ?_))
  · apply et_is
    · walk_at "et"
    · rw [Bool.not_eq_false', List.all_eq_true]
      intro g hm
      have := hg g hm
      rw [Bool.and_eq_true, decide_eq_true_eq, decide_eq_true_eq]
      omega
  refine w_seq (w_fld rfl T.cl_Council T.na_Council_members (by decide) (by decide) (d := nat n) ?_ ?_ (by simp))
  · walk_at "evF"
  refine w_fld rfl T.cl_Council T.na_Council_table (by decide +kernel) (by decide) (d := blL (tab n gs)) ?_ ?_ (by simp)
  · apply ev_isF
    · walk_at "evF"
    · simp only [tab, blL, List.map_map]
      rfl
  · exact ⟨_, _, rfl, rfl⟩
def c_Council_carries (C : Addr) : List D → Rs → Prop := RC2 C nat (fun n t g => g < t.length) fun n t g => .dat (.bl (t.getD g false))
abbrev st_Council_carries : Stmt := inClass (top 10) 1
abbrev n_Council_carries : List Str := ["self", "group"]
abbrev p_Council_carries : List Str := ["self", "group"]
theorem sc_Council_carries : FnScope n_Council_carries p_Council_carries (defScope st_Council_carries) := ⟨rfl, rfl, rfl, by decide +kernel, rfl, by decide +kernel, by decide +kernel⟩
theorem ok_Council_carries {f : Addr} {fd : FuncData} (F : Fun K "carries" "Council.carries" st_Council_carries f fd) (T : Txt K mg C_Council C_Answer C_Weights C_Trade C_Ranks C_Unranked) (g_within : OkD P w K mg base CX0 1 "within" p_within (SpR K c_within)) : FnOk P w K mg base CX0 2 f fd p_Council_carries (SpR K (c_Council_carries C_Council)) := by
  refine F.ok sc_Council_carries (sp_len RC2.len) (fun cdv A outer s H vs Q E hr h => ?_)
  have hcl_Council := T.cl_Council
  have hna_Council_members := T.na_Council_members
  have hna_Council_table := T.na_Council_table
  have hcl_Answer := T.cl_Answer
  have hcl_Weights := T.cl_Weights
  have hcl_Trade := T.cl_Trade
  have hcl_Ranks := T.cl_Ranks
  have hna_Ranks_ranks := T.na_Ranks_ranks
  have hcl_Unranked := T.cl_Unranked
  have hna_Unranked_one := T.na_Unranked_one
  have hna_Unranked_other := T.na_Unranked_other
  have hna_Unranked_first := T.na_Unranked_first
  have hna_Unranked_second := T.na_Unranked_second
  have hic_Ranks := T.ic_Ranks
  have hic_Unranked := T.ic_Unranked
  have hki_Ranks_Answer := T.ki_Ranks_Answer
  have hki_Ranks_Ranks := T.ki_Ranks_Ranks
  have hki_Ranks_Unranked := T.ki_Ranks_Unranked
  have hki_Ranks_Weights := T.ki_Ranks_Weights
  have hki_Ranks_Trade := T.ki_Ranks_Trade
  have hki_Unranked_Answer := T.ki_Unranked_Answer
  have hki_Unranked_Ranks := T.ki_Unranked_Ranks
  have hki_Unranked_Unranked := T.ki_Unranked_Unranked
  have hki_Unranked_Weights := T.ki_Unranked_Weights
  have hki_Unranked_Trade := T.ki_Unranked_Trade
  refine ⟨_, (pss_cons (ps_if (pt_not (pt_val (pe_callD g_within (hr.mono (by decide)) (by rfl) pass0 (pa_cons (pv 1) (pa_cons pe_int (pa_cons (pe_op op_sub (pe_callB call_len_seq (by rfl) T.n_len (PySem.boot_len) (pa_cons (pe_fld (pv 0) rfl) pa_nil)) pe_int) pa_nil)))))) (pss_one ps_never) pss_nil)
  (pss_one (ps_ret (pe_ix ix_list (pe_fld (pv 0) rfl) (pv 1) (fun _ _ => rfl))))), go_of ?_ h⟩
  try dsimp only [L2.cxOf, L2.Cx.nox, L2.Cx.wish, L2.Cx.blk]
  rintro ds r ⟨n, t, g, rfl, hg, rfl⟩
  show W K E _ [.fz (cou C_Council n t), .fz (nat g)] _
  refine w_seq (w_ifF ?_ (w_next ?_))
  · apply et_is
    · walk_at "et"
    · simp
      omega
  · refine w_ret ?_ rfl
    walk_at "ev"
def c_Council_least (C : Addr) : List D → Rs → Prop := RC1 C (fun n t => t.length ≤ 32) fun n t => .new ((leastM t).map nat)
abbrev st_Council_least : Stmt := inClass (top 10) 2
abbrev n_Council_least : List Str := ["self", "found", "group", "less"]
abbrev p_Council_least : List Str := ["self"]
theorem sc_Council_least : FnScope n_Council_least p_Council_least (defScope st_Council_least) := ⟨rfl, rfl, rfl, by decide +kernel, rfl, by decide +kernel, by decide +kernel⟩
def c_Council_greatest (C : Addr) : List D → Rs → Prop := RC1 C (fun n t => n ≤ 5 ∧ t.length = 2 ^ n) fun n t => .new ((greatM t).map nat)
theorem xor_lt {n a b : Nat} (ha : a < 2 ^ n) (hb : b < 2 ^ n) : a ^^^ b < 2 ^ n := Nat.xor_lt_two_pow ha hb
abbrev st_Council_greatest : Stmt := inClass (top 10) 3
abbrev n_Council_greatest : List Str := ["self"]
abbrev p_Council_greatest : List Str := ["self"]
theorem sc_Council_greatest : FnScope n_Council_greatest p_Council_greatest (defScope st_Council_greatest) := ⟨rfl, rfl, rfl, by decide +kernel, rfl, by decide +kernel, by decide +kernel⟩
def c_weight_of : List D → Rs → Prop := R2' intL nat (fun ws g => ws.length ≤ 1000) fun ws g => .dat (.int (wgt ws g))
abbrev st_weight_of : Stmt := top 13
abbrev n_weight_of : List Str := ["weights", "group", "k"]
abbrev p_weight_of : List Str := ["weights", "group"]
theorem sc_weight_of : FnScope n_weight_of p_weight_of (defScope st_weight_of) := ⟨rfl, rfl, rfl, by decide +kernel, rfl, by decide +kernel, by decide +kernel⟩
abbrev st_law_cell_at : Stmt := top 26
abbrev n_law_cell_at : List Str := ["_law_script", "_law_k"]
abbrev p_law_cell_at : List Str := ["_law_script", "_law_k"]
theorem sc_law_cell_at : FnScope n_law_cell_at p_law_cell_at (defScope st_law_cell_at) := ⟨rfl, rfl, rfl, by decide +kernel, rfl, by decide +kernel, by decide +kernel⟩
theorem ok_law_cell_at {f : Addr} {fd : FuncData} (F : Fun K "_law_cell_at" "_law_cell_at" st_law_cell_at f fd) (T : Txt K mg C_Council C_Answer C_Weights C_Trade C_Ranks C_Unranked) : FnOk P w K mg base CX0 1 f fd p_law_cell_at (SpR K c_law_cell_at) := by
  refine F.ok sc_law_cell_at (sp_len R2'.len) (fun cdv A outer s H vs Q E hr h => ?_)
  have hcl_Council := T.cl_Council
  have hna_Council_members := T.na_Council_members
  have hna_Council_table := T.na_Council_table
  have hcl_Answer := T.cl_Answer
  have hcl_Weights := T.cl_Weights
  have hcl_Trade := T.cl_Trade
  have hcl_Ranks := T.cl_Ranks
  have hna_Ranks_ranks := T.na_Ranks_ranks
  have hcl_Unranked := T.cl_Unranked
  have hna_Unranked_one := T.na_Unranked_one
  have hna_Unranked_other := T.na_Unranked_other
  have hna_Unranked_first := T.na_Unranked_first
  have hna_Unranked_second := T.na_Unranked_second
  have hic_Ranks := T.ic_Ranks
  have hic_Unranked := T.ic_Unranked
  have hki_Ranks_Answer := T.ki_Ranks_Answer
  have hki_Ranks_Ranks := T.ki_Ranks_Ranks
  have hki_Ranks_Unranked := T.ki_Ranks_Unranked
  have hki_Ranks_Weights := T.ki_Ranks_Weights
  have hki_Ranks_Trade := T.ki_Ranks_Trade
  have hki_Unranked_Answer := T.ki_Unranked_Answer
  have hki_Unranked_Ranks := T.ki_Unranked_Ranks
  have hki_Unranked_Unranked := T.ki_Unranked_Unranked
  have hki_Unranked_Weights := T.ki_Unranked_Weights
  have hki_Unranked_Trade := T.ki_Unranked_Trade
  refine ⟨_, (pss_cons (ps_if (pt_cmpR op_lt (pv 1) (pe_callB call_len_seq (by rfl) T.n_len (PySem.boot_len) (pa_cons (pv 0) pa_nil)) (nomark _)) (pss_one (ps_ret (pe_ix ix_list (pv 0) (pv 1) (fun _ _ => rfl)))) pss_nil)
  (pss_one (ps_ret pe_int))), go_of ?_ h⟩
  try dsimp only [L2.cxOf, L2.Cx.nox, L2.Cx.wish, L2.Cx.blk]
  rintro ds r ⟨ns, k, rfl, -, rfl⟩
  show W K E _ [.fz (.scr ns), .fz (nat k)] _
  refine w_seq (w_if (b := decide (k < ns.length)) ?_ (fun hk => ?_) fun hk => w_next ?_)
  · apply et_is
    · walk_at "et"
    · rw [decide_eq_decide]
      omega
  · have hk := of_decide_eq_true hk
    refine w_ret (r := .dat (.int (ns.getD k 0))) ?_ rfl
    with_reducible apply ev_op
    · walk_at "ev"
    · walk_at "ev"
    · refine od_ixR (by omega) ?_
      rw [Int.toNat_natCast, List.getD_eq_getElem?_getD, List.getElem?_eq_getElem hk]
      rfl
  · have hk := of_decide_eq_false hk
    refine w_ret (r := .dat (.int (ns.getD k 0))) ?_ rfl
    rw [List.getD_eq_getElem?_getD, List.getElem?_eq_none (by omega)]
    exact ev_int
abbrev st_law_draw : Stmt := top 27
abbrev n_law_draw : List Str := ["_law_cell", "_law_k", "_law_many", "_law_primes", "_law_blend"]
abbrev p_law_draw : List Str := ["_law_cell", "_law_k", "_law_many"]
theorem sc_law_draw : FnScope n_law_draw p_law_draw (defScope st_law_draw) := ⟨rfl, rfl, rfl, by decide +kernel, rfl, by decide +kernel, by decide +kernel⟩
theorem ok_law_draw {f : Addr} {fd : FuncData} (F : Fun K "_law_draw" "_law_draw" st_law_draw f fd) (T : Txt K mg C_Council C_Answer C_Weights C_Trade C_Ranks C_Unranked) : FnOk P w K mg base CX0 1 f fd p_law_draw (SpR K c_law_draw) := by
  refine F.ok sc_law_draw (sp_len R3.len) (fun cdv A outer s H vs Q E hr h => ?_)
  have hcl_Council := T.cl_Council
  have hna_Council_members := T.na_Council_members
  have hna_Council_table := T.na_Council_table
  have hcl_Answer := T.cl_Answer
  have hcl_Weights := T.cl_Weights
  have hcl_Trade := T.cl_Trade
  have hcl_Ranks := T.cl_Ranks
  have hna_Ranks_ranks := T.na_Ranks_ranks
  have hcl_Unranked := T.cl_Unranked
  have hna_Unranked_one := T.na_Unranked_one
  have hna_Unranked_other := T.na_Unranked_other
  have hna_Unranked_first := T.na_Unranked_first
  have hna_Unranked_second := T.na_Unranked_second
  have hic_Ranks := T.ic_Ranks
  have hic_Unranked := T.ic_Unranked
  have hki_Ranks_Answer := T.ki_Ranks_Answer
  have hki_Ranks_Ranks := T.ki_Ranks_Ranks
  have hki_Ranks_Unranked := T.ki_Ranks_Unranked
  have hki_Ranks_Weights := T.ki_Ranks_Weights
  have hki_Ranks_Trade := T.ki_Ranks_Trade
  have hki_Unranked_Answer := T.ki_Unranked_Answer
  have hki_Unranked_Ranks := T.ki_Unranked_Ranks
  have hki_Unranked_Unranked := T.ki_Unranked_Unranked
  have hki_Unranked_Weights := T.ki_Unranked_Weights
  have hki_Unranked_Trade := T.ki_Unranked_Trade
  refine ⟨_, (pss_cons (ps_set (i := 3) sc_law_draw.nd rfl (by first | exact Or.inl rfl | exact Or.inr rfl) (pe_tup (pa_cons pe_int (pa_cons pe_int (pa_cons pe_int (pa_cons pe_int (pa_cons pe_int (pa_cons pe_int (pa_cons pe_int (pa_cons pe_int pa_nil))))))))))
  (pss_cons (ps_set (i := 4) sc_law_draw.nd rfl (by first | exact Or.inl rfl | exact Or.inr rfl) (pe_op op_add (pe_op op_add (pe_op op_mul (pv 0) pe_int) (pe_op op_mul (pv 1) pe_int)) (pe_op op_mul (pe_op op_mod (pe_op op_fdiv (pv 0) pe_int) pe_int) pe_int)))
  (pss_one (ps_ret (pe_op op_mod (pe_op op_mod (pv 4) (pe_ix ix_tup (pv 3) (pe_op op_mod (pv 1) pe_int) (fun _ _ => rfl))) (pv 2)))))), go_of ?_ h⟩
  try dsimp only [L2.cxOf, L2.Cx.nox, L2.Cx.wish, L2.Cx.blk]
  rintro ds r ⟨c, k, m, rfl, hm, rfl⟩
  show W K E _ [.fz (.int c), .fz (nat k), .fz (.int m), .un, .un] _
  refine w_seq (w_asg (d := .tup (primesM.map nat)) ?_ ?_)
  · apply ev_is
    · walk_at "ev"
    · rfl
  refine w_seq (w_asg (d := .int (blendM c k)) ?_ ?_)
  · apply ev_is
    · walk_at "ev"
    · rfl
  refine w_ret ?_ rfl
  have h8 : ((k : Int) % 8).toNat = k % 8 := by omega
  have hp : 0 < primesM.getD (k % 8) 1 := primes_pos _ (by omega)
  apply ev_is
  · with_reducible apply ev_op
    · with_reducible apply ev_op
      · walk_at "ev"
      · with_reducible apply ev_op
        · walk_at "ev"
        · walk_at "ev"
        · refine od_ixTN (by omega) ?_
          rw [h8]
          show k % 8 < 8
          omega
      · refine od_ic ?_
        show (0 : Int) < _
        rw [h8]
        have e : primesM.getD (k % 8) 0 = primesM.getD (k % 8) 1 := by
          have hl : k % 8 < primesM.length := by show k % 8 < 8; omega
          rw [List.getD_eq_getElem?_getD, List.getD_eq_getElem?_getD, List.getElem?_eq_getElem hl]
          rfl
        rw [e]
        omega
    · walk_at "ev"
    · exact od_ic hm
  · have e : primesM.getD (k % 8) 0 = primesM.getD (k % 8) 1 := by
      have hl : k % 8 < primesM.length := by show k % 8 < 8; omega
      rw [List.getD_eq_getElem?_getD, List.getD_eq_getElem?_getD, List.getElem?_eq_getElem hl]
      rfl
    rw [h8, e]
    show D.int _ = D.int ((drawM c k m : Nat) : Int)
    unfold drawM
    have h1 := Int.emod_nonneg (blendM c k % ((primesM.getD (k % 8) 1 : Nat) : Int)) (show m ≠ 0 by omega)
    rw [Int.toNat_of_nonneg h1]
abbrev st_law_has : Stmt := top 30
abbrev n_law_has : List Str := ["_law_group", "_law_member"]
abbrev p_law_has : List Str := ["_law_group", "_law_member"]
theorem sc_law_has : FnScope n_law_has p_law_has (defScope st_law_has) := ⟨rfl, rfl, rfl, by decide +kernel, rfl, by decide +kernel, by decide +kernel⟩
theorem ok_law_has {f : Addr} {fd : FuncData} (F : Fun K "_law_has" "_law_has" st_law_has f fd) (T : Txt K mg C_Council C_Answer C_Weights C_Trade C_Ranks C_Unranked) : FnOk P w K mg base CX0 1 f fd p_law_has (SpR K c_law_has) := by
  refine F.ok sc_law_has (sp_len R2'.len) (fun cdv A outer s H vs Q E hr h => ?_)
  have hcl_Council := T.cl_Council
  have hna_Council_members := T.na_Council_members
  have hna_Council_table := T.na_Council_table
  have hcl_Answer := T.cl_Answer
  have hcl_Weights := T.cl_Weights
  have hcl_Trade := T.cl_Trade
  have hcl_Ranks := T.cl_Ranks
  have hna_Ranks_ranks := T.na_Ranks_ranks
  have hcl_Unranked := T.cl_Unranked
  have hna_Unranked_one := T.na_Unranked_one
  have hna_Unranked_other := T.na_Unranked_other
  have hna_Unranked_first := T.na_Unranked_first
  have hna_Unranked_second := T.na_Unranked_second
  have hic_Ranks := T.ic_Ranks
  have hic_Unranked := T.ic_Unranked
  have hki_Ranks_Answer := T.ki_Ranks_Answer
  have hki_Ranks_Ranks := T.ki_Ranks_Ranks
  have hki_Ranks_Unranked := T.ki_Ranks_Unranked
  have hki_Ranks_Weights := T.ki_Ranks_Weights
  have hki_Ranks_Trade := T.ki_Ranks_Trade
  have hki_Unranked_Answer := T.ki_Unranked_Answer
  have hki_Unranked_Ranks := T.ki_Unranked_Ranks
  have hki_Unranked_Unranked := T.ki_Unranked_Unranked
  have hki_Unranked_Weights := T.ki_Unranked_Weights
  have hki_Unranked_Trade := T.ki_Unranked_Trade
  refine ⟨_, (pss_one (ps_ret (pe_cmpR op_eq (pe_op op_and (pe_op op_shr (pv 0) (pv 1)) pe_int) pe_int (nomark _)))), go_of ?_ h⟩
  try dsimp only [L2.cxOf, L2.Cx.nox, L2.Cx.wish, L2.Cx.blk]
  rintro ds r ⟨g, k, rfl, hk, rfl⟩
  show W K E _ [.fz (nat g), .fz (nat k)] _
  refine w_ret ?_ rfl
  apply ev_is
  · walk_at "ev"
  · rw [bit_is]
theorem c_law_table.len : ∀ ds r, c_law_table ds r → ds.length = 1 := by
  rintro ds r ⟨_, _, rfl, _⟩
  rfl
abbrev st_law_table : Stmt := top 29
abbrev n_law_table : List Str := ["_law_told_here", "_law_found", "_law_group", "_law_one"]
abbrev p_law_table : List Str := ["_law_told_here"]
theorem sc_law_table : FnScope n_law_table p_law_table (defScope st_law_table) := ⟨rfl, rfl, rfl, by decide +kernel, rfl, by decide +kernel, by decide +kernel⟩
theorem ok_law_table {f : Addr} {fd : FuncData} (F : Fun K "_law_table" "_law_table" st_law_table f fd) (T : Txt K mg C_Council C_Answer C_Weights C_Trade C_Ranks C_Unranked) : FnOk P w K mg base CX0 1 f fd p_law_table (SpR K c_law_table) := by
  refine F.ok sc_law_table (sp_len c_law_table.len) (fun cdv A outer s H vs Q E hr h => ?_)
  have hcl_Council := T.cl_Council
  have hna_Council_members := T.na_Council_members
  have hna_Council_table := T.na_Council_table
  have hcl_Answer := T.cl_Answer
  have hcl_Weights := T.cl_Weights
  have hcl_Trade := T.cl_Trade
  have hcl_Ranks := T.cl_Ranks
  have hna_Ranks_ranks := T.na_Ranks_ranks
  have hcl_Unranked := T.cl_Unranked
  have hna_Unranked_one := T.na_Unranked_one
  have hna_Unranked_other := T.na_Unranked_other
  have hna_Unranked_first := T.na_Unranked_first
  have hna_Unranked_second := T.na_Unranked_second
  have hic_Ranks := T.ic_Ranks
  have hic_Unranked := T.ic_Unranked
  have hki_Ranks_Answer := T.ki_Ranks_Answer
  have hki_Ranks_Ranks := T.ki_Ranks_Ranks
  have hki_Ranks_Unranked := T.ki_Ranks_Unranked
  have hki_Ranks_Weights := T.ki_Ranks_Weights
  have hki_Ranks_Trade := T.ki_Ranks_Trade
  have hki_Unranked_Answer := T.ki_Unranked_Answer
  have hki_Unranked_Ranks := T.ki_Unranked_Ranks
  have hki_Unranked_Unranked := T.ki_Unranked_Unranked
  have hki_Unranked_Weights := T.ki_Unranked_Weights
  have hki_Unranked_Trade := T.ki_Unranked_Trade
  refine ⟨_, (pss_cons (ps_set (i := 1) sc_law_table.nd rfl (by first | exact Or.inl rfl | exact Or.inr rfl) (pe_lst pa_nil))
  (pss_cons (ps_for PassesOwn.never rfl (pi_range1 (by rfl) T.n_range (pa_cons (pe_op op_shl pe_int (pe_ix ix_tup (pv 0) pe_int (fun _ _ => rfl))) pa_nil)) (pg_name (i := 2) sc_law_table.nd rfl (by first | exact Or.inl rfl | exact Or.inr rfl))
  (pss_one (ps_expr (pe_bm PySem.F.plainAttrs_list PySem.F.slot_list_append PySem.F.type_list_append mt_append (pv 1) (pa_cons (pe_callB (cr_any rfl) (by rfl) T.n_any (by decide +kernel) (pa_cons (pe_lc (own := [("_law_one", 3)]) (g := gName 3) (tt := tYes) (te := (tOp (rEq) (tOp (rI0 fun i j => .int (Builtin.bitAnd i j)) (tVar 2) (tVar 3)) (tVar 3))) (by exact rfl) sc_law_table.nd (pi_list (pe_ix ix_tup (pv 0) pe_int (fun _ _ => rfl))) (blkOk_by (N := n_law_table) (sc := defScope st_law_table) (own := [("_law_one", 3)]) (by decide +kernel)) (fun _ _ _ _ _ => (pg_name (i := 3) sc_law_table.nd rfl (by first | exact Or.inl rfl | exact Or.inr rfl))) (fun _ _ _ _ _ => pts_nil) (fun _ _ _ _ _ => (pe_cmpR op_eq (pe_op op_and (pv 2) (pv 3)) (pv 3) (nomark _)))) pa_nil)) pa_nil)))))
  (pss_one (ps_ret (pv 1))))), go_of ?_ h⟩
  try dsimp only [L2.cxOf, L2.Cx.nox, L2.Cx.wish, L2.Cx.blk]
  rintro ds r ⟨m, gs, rfl, ⟨h5, hl⟩, rfl⟩
  have hp := pow_le m h5
  show W K E _ [.fz (.tup [nat m, natL gs]), .un, .un, .un] _
  refine w_seq (w_asgN (xs := []) ?_ ?_)
  · walk_at "evN"
  refine w_seq (w_forS (ys := List.range (2 ^ m)) (f := nat) (fun i => [.fz (.tup [nat m, natL gs]), .ow ((List.range i).map fun g => .bl (gs.any fun o => decide (g &&& o = o))), .un, .un]) ?_ (Fgt.refl _) ?_ ?_)
  · walk_at "it"
  · intro i a ha
    obtain ⟨hi, rfl⟩ := List.getElem?_eq_some_iff.mp ha
    rw [List.length_range] at hi
    rw [List.getElem_range]
    refine w_app rfl (d := .bl (gs.any fun o => decide (i &&& o = o))) ?_ ?_ ?_
    · walk_at "ev"
    · simp
      omega
    · show Fgt _ _
      rw [List.range_succ, List.map_append]
      exact .keep (.keep (.drop (.keep .nil)))
  · intro s hs
    refine w_fgt hs (w_retO (i := 1) rfl ?_)
    rw [List.length_range]
    simp only [tab, List.map_map]
    rfl
theorem c_law_told.len : ∀ ds F, c_law_told ds F → ds.length = 2 := by
  rintro ds F ⟨_, _, rfl, _⟩
  rfl
theorem sum_nn : ∀ ws : List Nat, 0 ≤ (ws.map fun (w : Nat) => (w : Int)).sum
  | [] => by simp
  | w :: ws => by
    have := sum_nn ws
    simp only [List.map_cons, List.sum_cons]
    omega
abbrev st_law_told : Stmt := top 28
abbrev n_law_told : List Str := ["_law_script", "_law_first", "_law_cell", "_law_other", "_law_members", "_law_groups", "_law_weights", "_law_quota", "_law_group", "_law_k"]
abbrev p_law_told : List Str := ["_law_script", "_law_first"]
theorem sc_law_told : FnScope n_law_told p_law_told (defScope st_law_told) := ⟨rfl, rfl, rfl, by decide +kernel, rfl, by decide +kernel, by decide +kernel⟩
theorem ok_law_told {f : Addr} {fd : FuncData} (F : Fun K "_law_told" "_law_told" st_law_told f fd) (T : Txt K mg C_Council C_Answer C_Weights C_Trade C_Ranks C_Unranked) (g_law_cell_at : OkD P w K mg base CX0 1 "_law_cell_at" p_law_cell_at (SpR K c_law_cell_at)) (g_law_draw : OkD P w K mg base CX0 1 "_law_draw" p_law_draw (SpR K c_law_draw)) : FnOk P w K mg base CX0 2 f fd p_law_told (SpU K c_law_told) := by
  refine F.ok sc_law_told (spU_len c_law_told.len) (fun cdv A outer s H vs Q E hr h => ?_)
  have hcl_Council := T.cl_Council
  have hna_Council_members := T.na_Council_members
  have hna_Council_table := T.na_Council_table
  have hcl_Answer := T.cl_Answer
  have hcl_Weights := T.cl_Weights
  have hcl_Trade := T.cl_Trade
  have hcl_Ranks := T.cl_Ranks
  have hna_Ranks_ranks := T.na_Ranks_ranks
  have hcl_Unranked := T.cl_Unranked
  have hna_Unranked_one := T.na_Unranked_one
  have hna_Unranked_other := T.na_Unranked_other
  have hna_Unranked_first := T.na_Unranked_first
  have hna_Unranked_second := T.na_Unranked_second
  have hic_Ranks := T.ic_Ranks
  have hic_Unranked := T.ic_Unranked
  have hki_Ranks_Answer := T.ki_Ranks_Answer
  have hki_Ranks_Ranks := T.ki_Ranks_Ranks
  have hki_Ranks_Unranked := T.ki_Ranks_Unranked
  have hki_Ranks_Weights := T.ki_Ranks_Weights
  have hki_Ranks_Trade := T.ki_Ranks_Trade
  have hki_Unranked_Answer := T.ki_Unranked_Answer
  have hki_Unranked_Ranks := T.ki_Unranked_Ranks
  have hki_Unranked_Unranked := T.ki_Unranked_Unranked
  have hki_Unranked_Weights := T.ki_Unranked_Weights
  have hki_Unranked_Trade := T.ki_Unranked_Trade
  refine ⟨_, (pss_cons (ps_set (i := 2) sc_law_told.nd rfl (by first | exact Or.inl rfl | exact Or.inr rfl) (pe_callD g_law_cell_at (hr.mono (by decide)) (by rfl) pass0 (pa_cons (pv 0) (pa_cons (pv 1) pa_nil))))
  (pss_cons (ps_set (i := 3) sc_law_told.nd rfl (by first | exact Or.inl rfl | exact Or.inr rfl) (pe_callD g_law_cell_at (hr.mono (by decide)) (by rfl) pass0 (pa_cons (pv 0) (pa_cons (pe_op op_add (pv 1) pe_int) pa_nil))))
  (pss_cons (ps_set (i := 4) sc_law_told.nd rfl (by first | exact Or.inl rfl | exact Or.inr rfl) (pe_ix ix_tup (pe_tup (pa_cons pe_int (pa_cons pe_int (pa_cons pe_int (pa_cons pe_int (pa_cons pe_int (pa_cons pe_int (pa_cons pe_int pa_nil)))))))) (pe_op op_mod (pv 2) pe_int) (fun _ _ => rfl)))
  (pss_cons (ps_set (i := 5) sc_law_told.nd rfl (by first | exact Or.inl rfl | exact Or.inr rfl) (pe_lst pa_nil))
  (pss_cons (ps_if (pt_cmpR op_eq (pe_op op_mod (pe_op op_fdiv (pv 2) pe_int) pe_int) pe_int (nomark _)) (pss_cons (ps_set (i := 6) sc_law_told.nd rfl (by first | exact Or.inl rfl | exact Or.inr rfl) (pe_lc (own := [("_law_k", 9)]) (g := gName 9) (tt := tYes) (te := (tCall (SpR K c_law_draw) [] E0 (tCons (tVar 3) (tCons (tVar 9) (tCons (tC (.int 7)) tNil))))) (by exact rfl) sc_law_told.nd (pi_range1 (by rfl) T.n_range (pa_cons (pv 4) pa_nil)) (blkOk_by (N := n_law_told) (sc := defScope st_law_told) (own := [("_law_k", 9)]) (by decide +kernel)) (fun _ _ _ _ _ => (pg_name (i := 9) sc_law_told.nd rfl (by first | exact Or.inl rfl | exact Or.inr rfl))) (fun _ _ _ _ _ => pts_nil) (fun _ _ _ _ _ => (pe_callD g_law_draw (hr.mono (by decide)) (by rfl) pass0 (pa_cons (pv 3) (pa_cons (pv 9) (pa_cons pe_int pa_nil)))))))
  (pss_cons (ps_set (i := 7) sc_law_told.nd rfl (by first | exact Or.inl rfl | exact Or.inr rfl) (pe_callD g_law_draw (hr.mono (by decide)) (by rfl) pass0 (pa_cons (pv 3) (pa_cons pe_int (pa_cons (pe_op op_add (pe_callB (cr_sum rfl) (by rfl) T.n_sum (by decide +kernel) (pa_cons (pv 6) pa_nil)) pe_int) pa_nil)))))
  (pss_one (ps_for PassesOwn.never rfl (pi_range1 (by rfl) T.n_range (pa_cons (pe_op op_shl pe_int (pv 4)) pa_nil)) (pg_name (i := 8) sc_law_told.nd rfl (by first | exact Or.inl rfl | exact Or.inr rfl))
  (pss_one (ps_if (pt_cmpR op_ge (pe_callB (cr_sum rfl) (by rfl) T.n_sum (by decide +kernel) (pa_cons (pe_lc (own := [("_law_k", 9)]) (g := gName 9) (te := (tOp (rIxL K) (tVar 6) (tVar 9))) (tt := (tTest (tOp (rEq) (tOp (rI0 fun i j => .int (Builtin.bitAnd i j)) (tOp (rI (fun _ j => 0 ≤ j) fun i j => .int (i / 2 ^ j.toNat)) (tVar 8) (tVar 9)) (tC (.int 1))) (tC (.int 1))))) (by exact rfl) sc_law_told.nd (pi_range1 (by rfl) T.n_range (pa_cons (pv 4) pa_nil)) (blkOk_by (N := n_law_told) (sc := defScope st_law_told) (own := [("_law_k", 9)]) (by decide +kernel)) (fun _ _ _ _ _ => (pg_name (i := 9) sc_law_told.nd rfl (by first | exact Or.inl rfl | exact Or.inr rfl))) (fun _ _ _ _ _ => pts_one (pt_cmpR op_eq (pe_op op_and (pe_op op_shr (pv 8) (pv 9)) pe_int) pe_int (nomark _))) (fun _ _ _ _ _ => (pe_ix ix_list (pv 6) (pv 9) (fun _ _ => rfl)))) pa_nil)) (pv 7) (nomark _)) (pss_one (ps_expr (pe_bm PySem.F.plainAttrs_list PySem.F.slot_list_append PySem.F.type_list_append mt_append (pv 5) (pa_cons (pv 8) pa_nil)))) pss_nil)))))) (pss_one (ps_for PassesOwn.never rfl (pi_range1 (by rfl) T.n_range (pa_cons (pe_callD g_law_draw (hr.mono (by decide)) (by rfl) pass0 (pa_cons (pv 3) (pa_cons pe_int (pa_cons pe_int pa_nil)))) pa_nil)) (pg_name (i := 9) sc_law_told.nd rfl (by first | exact Or.inl rfl | exact Or.inr rfl))
  (pss_cons (ps_set (i := 8) sc_law_told.nd rfl (by first | exact Or.inl rfl | exact Or.inr rfl) (pe_callD g_law_draw (hr.mono (by decide)) (by rfl) pass0 (pa_cons (pv 3) (pa_cons (pe_op op_add (pv 9) pe_int) (pa_cons (pe_op op_shl pe_int (pv 4)) pa_nil)))))
  (pss_cons (ps_if (pt_cmpR op_eq (pe_op op_mod (pe_op op_fdiv (pv 2) pe_int) pe_int) pe_int (nomark _)) (pss_one (ps_set (i := 8) sc_law_told.nd rfl (by first | exact Or.inl rfl | exact Or.inr rfl) (pe_op op_or (pe_op op_and (pv 8) (pe_callD g_law_draw (hr.mono (by decide)) (by rfl) pass0 (pa_cons (pe_op op_add (pe_op op_fdiv (pv 3) pe_int) (pe_op op_mul pe_int (pv 9))) (pa_cons pe_int (pa_cons (pe_op op_shl pe_int (pv 4)) pa_nil))))) (pe_op op_shl pe_int (pe_callD g_law_draw (hr.mono (by decide)) (by rfl) pass0 (pa_cons (pv 3) (pa_cons (pe_op op_add (pv 9) pe_int) (pa_cons (pv 4) pa_nil)))))))) pss_nil)
  (pss_one (ps_expr (pe_bm PySem.F.plainAttrs_list PySem.F.slot_list_append PySem.F.type_list_append mt_append (pv 5) (pa_cons (pv 8) pa_nil)))))))))
  (pss_one (ps_ret (pe_tup (pa_cons (pv 4) (pa_cons (pv 5) pa_nil)))))))))), goU_of ?_ h⟩
  try dsimp only [L2.cxOf, L2.Cx.nox, L2.Cx.wish, L2.Cx.blk]
  rintro ds F ⟨ns, k, rfl, hk, rfl⟩
  show W K E _ [.fz (.scr ns), .fz (nat k), .un, .un, .un, .un, .un, .un, .un, .un] _
  refine w_seq (w_asg (d := .int (ns.getD k 0)) ?_ ?_)
  · walk_at "ev"
  generalize ns.getD k 0 = c
  refine w_seq (w_asg (d := .int (ns.getD (k + 1) 0)) ?_ ?_)
  · with_reducible apply ev_call
    · walk_at "ea"
    · exact R2'.mk (c := D.scr) (d := nat) (x := ns) (y := k + 1) trivial
  generalize ns.getD (k + 1) 0 = o
  have h7 : (c % 7).toNat < 7 := by omega
  have hm := seats_ok _ h7
  refine w_seq (w_asg (d := nat (seatsM.getD (c % 7).toNat 0)) ?_ ?_)
  · with_reducible apply ev_op
    · apply ev_is
      · walk_at "ev"
      · show _ = D.tup (seatsM.map nat)
        rfl
    · walk_at "ev"
    · exact od_ixTN (by omega) h7
  generalize seatsM.getD (c % 7).toNat 0 = m at hm
  have hp := pow_le m hm.2
  refine w_seq (w_asgN (xs := []) ?_ ?_)
  · walk_at "evN"
  refine w_seqM (fun s => ∃ gs, ToldOk m gs ∧ Fgt s [.fz (.scr ns), .fz (nat k), .fz (.int c), .fz (.int o), .fz (nat m), .ow (gs.map nat), .un, .un, .un, .un]) (w_if (b := decide (c / 7 % 3 = 0)) ?_ (fun _ => ?_) fun _ => ?_) ?_
  · walk_at "et"
  · -- by weights
    refine w_seq (w_asg (d := natL ((List.range m).map fun k => drawM o k 7)) ?_ ?_)
    · apply ev_is
      · walk_at "ev"
      · simp only [natL, List.map_map]
        rfl
    have hl : ((List.range m).map fun k => drawM o k 7).length = m := by simp
    generalize (List.range m).map (fun k => drawM o k 7) = ws at hl
    have hs := sum_nn ws
    refine w_seq (w_asg (d := nat (drawM o 5 ((ws.map fun (w : Nat) => (w : Int)).sum + 2))) ?_ ?_)
    · with_reducible apply ev_call
      · walk_at "ea"
      · exact R3.mk (ca := D.int) (cb := nat) (cc := D.int) (x := o) (y := 5) (z := (ws.map fun (w : Nat) => (w : Int)).sum + 2) (show (0 : Int) < (ws.map fun (w : Nat) => (w : Int)).sum + 2 by omega)
    generalize drawM o 5 ((ws.map fun (w : Nat) => (w : Int)).sum + 2) = q
    refine w_forX (ys := List.range (2 ^ m)) (f := nat) (fun i gs => GsB (2 ^ m) i gs) (fun gs => [.fz (.scr ns), .fz (nat k), .fz (.int c), .fz (.int o), .fz (nat m), .ow (gs.map nat), .fz (natL ws), .fz (nat q), .un, .un]) ?_ [] GsB.nil (Fgt.refl _) ?_ ?_
    · walk_at "it"
    · intro i a gs ha hg
      obtain ⟨hi, rfl⟩ := List.getElem?_eq_some_iff.mp ha
      rw [List.length_range] at hi
      rw [List.getElem_range]
      refine w_if (b := decide ((q : Int) ≤ (((List.range m).filter fun k => i.testBit k).map fun k => ((ws.getD k 0 : Nat) : Int)).sum)) ?_ (fun _ => ?_) fun _ => w_next ?_
      · apply et_is
        · walk_at "et"
        · simp only [bit_is]
      · refine w_app1 rfl (g := i) ?_ ?_ ?_
        · with_reducible apply ev_var
          exact rfl
        · have := hg.1
          omega
        · exact ⟨gs ++ [i], hg.app hi, .keep (.keep (.keep (.keep (.keep (.keep (.keep (.keep (.drop (.keep .nil)))))))))⟩
      · exact ⟨gs, hg.up, .keep (.keep (.keep (.keep (.keep (.keep (.keep (.keep (.drop (.keep .nil)))))))))⟩
    · intro s gs hg hf
      rw [List.length_range] at hg
      exact ⟨gs, ⟨hm.1, hm.2, by have := hg.1; omega, hg.2⟩, hf.tr (.keep (.keep (.keep (.keep (.keep (.keep (.drop (.drop (.keep (.keep .nil))))))))))⟩
  · -- drawn
    have hd := drawM_lt o 6 (m := 5) (by omega)
    refine w_forX (ys := List.range (drawM o 6 5)) (f := nat) (fun i gs => GsB (2 ^ m) i gs) (fun gs => [.fz (.scr ns), .fz (nat k), .fz (.int c), .fz (.int o), .fz (nat m), .ow (gs.map nat), .un, .un, .un, .un]) ?_ [] GsB.nil (Fgt.refl _) ?_ ?_
    · walk_at "it"
    · intro i a gs ha hg
      obtain ⟨hi, rfl⟩ := List.getElem?_eq_some_iff.mp ha
      rw [List.length_range] at hi
      rw [List.getElem_range]
      have p2 : 0 < 2 ^ m := Nat.two_pow_pos m
      have hg2 : drawM o (i + 7) ((2 ^ m : Nat) : Int) < 2 ^ m := drawM_nat o (i + 7) p2
      refine w_seq (w_asg (d := nat (drawM o (i + 7) ((2 ^ m : Nat) : Int))) ?_ ?_)
      · with_reducible apply ev_call
        · walk_at "ea"
        · exact R3.mk (ca := D.int) (cb := nat) (cc := D.int) (x := o) (y := i + 7) (z := ((2 ^ m : Nat) : Int)) (show (0 : Int) < ((2 ^ m : Nat) : Int) by omega)
      generalize drawM o (i + 7) ((2 ^ m : Nat) : Int) = g at hg2
      refine w_seqM (fun s => ∃ g', g' < 2 ^ m ∧ Fgt s [.fz (.scr ns), .fz (nat k), .fz (.int c), .fz (.int o), .fz (nat m), .ow (gs.map nat), .un, .un, .fz (nat g'), .fz (nat i)]) (w_if (b := decide (c / 21 % 2 = 0)) ?_ (fun _ => ?_) fun _ => w_next ?_) ?_
      · walk_at "et"
      · have h1 : drawM (o / 7 + 31 * (i : Int)) 6 ((2 ^ m : Nat) : Int) < 2 ^ m := drawM_nat _ 6 p2
        have h2 := drawM_nat o (i + 4) (m := m) (by omega)
        refine w_asg (d := nat (g &&& drawM (o / 7 + 31 * (i : Int)) 6 ((2 ^ m : Nat) : Int) ||| 2 ^ drawM o (i + 4) (m : Int))) ?_ ?_
        · with_reducible apply ev_op
          · with_reducible apply ev_op
            · walk_at "ev"
            · with_reducible apply ev_call
              · walk_at "ea"
              · exact R3.mk (ca := D.int) (cb := nat) (cc := D.int) (x := o / 7 + 31 * (i : Int)) (y := 6) (z := ((2 ^ m : Nat) : Int)) (show (0 : Int) < ((2 ^ m : Nat) : Int) by omega)
            · exact od_andN
          · with_reducible apply ev_op
            · walk_at "ev"
            · with_reducible apply ev_call
              · walk_at "ea"
              · exact R3.mk (ca := D.int) (cb := nat) (cc := D.int) (x := o) (y := i + 4) (z := (m : Int)) (show (0 : Int) < (m : Int) by omega)
            · exact od_shl1 (by omega)
          · exact od_orN
        · refine ⟨_, Nat.or_lt_two_pow (Nat.lt_of_le_of_lt Nat.and_le_left hg2) (Nat.pow_lt_pow_right (by decide) h2), Fgt.refl _⟩
      · exact ⟨g, hg2, Fgt.refl _⟩
      · rintro s ⟨g', hg', hf⟩
        refine w_fgt hf (w_app1 rfl (g := g') ?_ ?_ ?_)
        · with_reducible apply ev_var
          exact rfl
        · have := hg.1
          omega
        · exact ⟨gs ++ [g'], hg.app hg', .keep (.keep (.keep (.keep (.keep (.keep (.keep (.keep (.drop (.drop .nil)))))))))⟩
    · intro s gs hg hf
      rw [List.length_range] at hg
      exact ⟨gs, ⟨hm.1, hm.2, by have := hg.1; omega, hg.2⟩, hf⟩
  · rintro s ⟨gs, hgs, hf⟩
    refine w_fgt hf (w_fix (i := 5) rfl (w_ret (r := .dat (.tup [nat m, natL gs])) ?_ ⟨_, rfl, m, gs, rfl, hgs⟩))
    with_reducible apply ev_tup
    · walk_at "ea"
    · exact (by decide : 2 ≤ sizeLine)
theorem et_fgt {K : PySem.W.Frag} {c : TT} {s s' : List Sl} {b : Bool} (f : Fgt s s') (h : EvT K c s' b) : EvT K c s b := fun B0 H0 B H σ sd => h B0 H0 B H σ (sd.fgt f)
theorem w_forEach {K : PySem.W.Frag} {E : XK} {sl : List Sl} {P : En} {xs : List D} {ti : TI} {j : Nat} {tb : TS} (S : List Sl) (hi : ItE K ti sl xs) (h0 : Fgt sl S)
    (hs : ∀ d, d ∈ xs → W K E tb (S.set j (.fz d)) { nx := fun s => Fgt s S, ct := fun s => Fgt s S, bk := P.nx, rt := P.rt }) (hd : ∀ s, Fgt s S → P.nx s) : W K E (tFor ti (gName j) tb) sl P :=
  w_for (fun _ s => Fgt s S) hi h0 (fun i d s h1 h2 => gw_name (w_fgt (fgt_set h2) (hs d (List.mem_of_getElem? h1)))) fun s h => hd s h
theorem ga_at {n : Nat} {t : List Bool} {a b i : Nat} (hi : i < 2 ^ n) (h : agst t a b i = true) (ho : ∀ g, g < i → agst t a b g = false) : gaM n t a b = (i : Int) := by
  unfold gaM
  rw [List.find?_range_eq_some.mpr ⟨h, List.mem_range.mpr hi, fun j hj => by rw [ho j hj]; rfl⟩]
theorem ga_none {n : Nat} {t : List Bool} {a b : Nat} (ho : ∀ g, g < 2 ^ n → agst t a b g = false) : gaM n t a b = -1 := by
  unfold gaM
  rw [List.find?_eq_none.mpr fun g hg => by rw [ho g (List.mem_range.mp hg)]; decide]
theorem od_inN0 {K : PySem.W.Frag} {a : Nat} {xs : List Nat} : OpD K (rIn K false) (nat a) (natL xs) (.dat (.bl (decide (a ∈ xs)))) := by
  unfold natL
  rw [nats_ints]
  refine od_to od_inI ?_
  rw [if_neg Bool.false_ne_true, decide_eq_decide.mpr]
  rw [List.mem_map]
  exact ⟨fun ⟨b, hb, e⟩ => by rw [show a = b by omega]; exact hb, fun h => ⟨a, h, rfl⟩⟩
theorem od_inN1 {K : PySem.W.Frag} {a : Nat} {xs : List Nat} : OpD K (rIn K true) (nat a) (natL xs) (.dat (.bl (!decide (a ∈ xs)))) := by
  unfold natL
  rw [nats_ints]
  refine od_to od_inI ?_
  rw [if_pos rfl, decide_eq_decide.mpr]
  rw [List.mem_map]
  exact ⟨fun ⟨b, hb, e⟩ => by rw [show a = b by omega]; exact hb, fun h => ⟨a, h, rfl⟩⟩
abbrev rkO (C : Addr) (xss : List (List Nat)) : D := .obj C ["ranks"] [natLL xss]
abbrev urO (C : Addr) (a b f s : Nat) : D := .obj C ["one", "other", "first", "second"] [nat a, nat b, nat f, nat s]
def rkHolds (n : Nat) (t : List Bool) (xss : List (List Nat)) : Bool := decide (srt xss.flatten = List.range n) && (!decide ([] ∈ xss) && progR (mayM n t) xss)
theorem flat_lt {n : Nat} {l : List Nat} (h : srt l = List.range n) : ∀ a ∈ l, a < n := fun a ha => by
  have : a ∈ srt l := (srt_perm l).mem_iff.mpr ha
  rw [h] at this
  exact List.mem_range.mp this
theorem pair_bits (a b f s : Nat) : decide ((0 : Int) < (((f ||| s) &&& (2 ^ a ||| 2 ^ b) : Nat) : Int)) = !(!f.testBit a && !f.testBit b && (!s.testBit a && !s.testBit b)) := by
  have tb : ∀ i, ((f ||| s) &&& (2 ^ a ||| 2 ^ b)).testBit i = ((f.testBit i || s.testBit i) && (decide (a = i) || decide (b = i))) := fun i => by
    rw [Nat.testBit_and, Nat.testBit_or, Nat.testBit_or, Nat.testBit_two_pow, Nat.testBit_two_pow]
  by_cases z : (f ||| s) &&& (2 ^ a ||| 2 ^ b) = 0
  · rw [z] at tb ⊢
    have h1 := tb a
    have h2 := tb b
    rw [Nat.zero_testBit] at h1 h2
    simp at h1 h2
    simp [h1, h2]
  · rw [decide_eq_true (by omega)]
    symm
    rw [Bool.not_eq_true']
    cases w : (!f.testBit a && !f.testBit b && (!s.testBit a && !s.testBit b)) with
    | false => rfl
    | true =>
      exfalso
      apply z
      apply Nat.eq_of_testBit_eq
      intro i
      rw [tb, Nat.zero_testBit]
      simp at w
      by_cases e1 : a = i
      · subst e1
        simp [w]
      · by_cases e2 : b = i
        · subst e2
          simp [w]
        · simp [e1, e2]
def rankedD (CR CU : Addr) (n : Nat) (t : List Bool) : D := match (pairsM n).find? (badM n t) with
  | some (a, b) => urO CU a b (gaM n t b a).toNat (gaM n t a b).toNat
  | none => rkO CR (ranksM n t)
theorem pairs_succ (n : Nat) : pairsM (n + 1) = pairsM n ++ (List.range n).map fun b => (n, b) := by
  unfold pairsM
  rw [List.range_succ, List.flatMap_append, List.flatMap_singleton]
theorem find_pair {p : Nat × Nat → Bool} {i j : Nat} (hj : j < i) (h1 : ∀ x ∈ pairsM i, p x = false) (h2 : ∀ b, b < j → p (i, b) = false) (h3 : p (i, j) = true) : ∀ n, i < n → (pairsM n).find? p = some (i, j)
  | n + 1, hn => by
    rw [pairs_succ, List.find?_append]
    rcases Nat.lt_or_eq_of_le (Nat.le_of_lt_succ hn) with z | z
    · rw [find_pair hj h1 h2 h3 n z]
      rfl
    · subst z
      rw [List.find?_eq_none.mpr fun x hx => by rw [h1 x hx]; decide, List.find?_map, List.find?_range_eq_some.mpr ⟨h3, List.mem_range.mpr hj, fun b hb => by
        show (!p (i, b)) = true
        rw [h2 b hb]
        rfl⟩]
      rfl
theorem ranksF_nil (R : Nat → Nat → Bool) : ∀ k, ranksF R k [] = []
  | 0 => rfl
  | k + 1 => by
    unfold ranksF
    rw [if_pos rfl]
theorem ranksF_cons (R : Nat → Nat → Bool) {k : Nat} {l : List Nat} (h : l ≠ []) : ranksF R (k + 1) l = rankOf R l :: ranksF R k (restOf R l) := by
  conv => lhs; unfold ranksF
  rw [if_neg h]
def c_Council_member (C : Addr) : List D → Rs → Prop := RC2 C nat (fun n _ a => a < n) fun _ _ a => .dat (nat a)
abbrev st_Council_member : Stmt := inClass (top 10) 4
abbrev n_Council_member : List Str := ["self", "at"]
abbrev p_Council_member : List Str := ["self", "at"]
theorem sc_Council_member : FnScope n_Council_member p_Council_member (defScope st_Council_member) := ⟨rfl, rfl, rfl, by decide +kernel, rfl, by decide +kernel, by decide +kernel⟩
theorem ok_Council_member {f : Addr} {fd : FuncData} (F : Fun K "member" "Council.member" st_Council_member f fd) (T : Txt K mg C_Council C_Answer C_Weights C_Trade C_Ranks C_Unranked) (g_within : OkD P w K mg base CX0 1 "within" p_within (SpR K c_within)) : FnOk P w K mg base CX0 2 f fd p_Council_member (SpR K (c_Council_member C_Council)) := by
  refine F.ok sc_Council_member (sp_len RC2.len) (fun cdv A outer s H vs Q E hr h => ?_)
  have hcl_Council := T.cl_Council
  have hna_Council_members := T.na_Council_members
  have hna_Council_table := T.na_Council_table
  have hcl_Answer := T.cl_Answer
  have hcl_Weights := T.cl_Weights
  have hcl_Trade := T.cl_Trade
  have hcl_Ranks := T.cl_Ranks
  have hna_Ranks_ranks := T.na_Ranks_ranks
  have hcl_Unranked := T.cl_Unranked
  have hna_Unranked_one := T.na_Unranked_one
  have hna_Unranked_other := T.na_Unranked_other
  have hna_Unranked_first := T.na_Unranked_first
  have hna_Unranked_second := T.na_Unranked_second
  have hic_Ranks := T.ic_Ranks
  have hic_Unranked := T.ic_Unranked
  have hki_Ranks_Answer := T.ki_Ranks_Answer
  have hki_Ranks_Ranks := T.ki_Ranks_Ranks
  have hki_Ranks_Unranked := T.ki_Ranks_Unranked
  have hki_Ranks_Weights := T.ki_Ranks_Weights
  have hki_Ranks_Trade := T.ki_Ranks_Trade
  have hki_Unranked_Answer := T.ki_Unranked_Answer
  have hki_Unranked_Ranks := T.ki_Unranked_Ranks
  have hki_Unranked_Unranked := T.ki_Unranked_Unranked
  have hki_Unranked_Weights := T.ki_Unranked_Weights
  have hki_Unranked_Trade := T.ki_Unranked_Trade
  refine ⟨_, (pss_cons (ps_if (pt_not (pt_val (pe_callD g_within (hr.mono (by decide)) (by rfl) pass0 (pa_cons (pv 1) (pa_cons pe_int (pa_cons (pe_op op_sub (pe_fld (pv 0) rfl) pe_int) pa_nil)))))) (pss_one ps_never) pss_nil)
  (pss_one (ps_ret (pv 1)))), go_of ?_ h⟩
  try dsimp only [L2.cxOf, L2.Cx.nox, L2.Cx.wish, L2.Cx.blk]
  rintro ds r ⟨n, t, a, rfl, ha, rfl⟩
  show W K E _ [.fz (cou C_Council n t), .fz (nat a)] _
  refine w_seq (w_ifF ?_ (w_next ?_))
  · apply et_is
    · walk_at "et"
    · simp
      omega
  · refine w_ret ?_ rfl
    walk_at "ev"
def c_group_against (C : Addr) : List D → Rs → Prop := RC3 C (fun n t a b => n ≤ 5 ∧ t.length = 2 ^ n ∧ a < n ∧ b < n) fun n t a b => .dat (.int (gaM n t a b))
abbrev st_group_against : Stmt := top 23
abbrev n_group_against : List Str := ["council", "one", "other", "group"]
abbrev p_group_against : List Str := ["council", "one", "other"]
theorem sc_group_against : FnScope n_group_against p_group_against (defScope st_group_against) := ⟨rfl, rfl, rfl, by decide +kernel, rfl, by decide +kernel, by decide +kernel⟩
theorem ok_group_against {f : Addr} {fd : FuncData} (F : Fun K "group_against" "group_against" st_group_against f fd) (T : Txt K mg C_Council C_Answer C_Weights C_Trade C_Ranks C_Unranked) (g_Council_member : OkM P w K mg base CX0 2 C_Council "member" p_Council_member (SpR K (c_Council_member C_Council))) (g_Council_carries : OkM P w K mg base CX0 2 C_Council "carries" p_Council_carries (SpR K (c_Council_carries C_Council))) : FnOk P w K mg base CX0 3 f fd p_group_against (SpR K (c_group_against C_Council)) := by
  refine F.ok sc_group_against (sp_len RC3.len) (fun cdv A outer s H vs Q E hr h => ?_)
  have hcl_Council := T.cl_Council
  have hna_Council_members := T.na_Council_members
  have hna_Council_table := T.na_Council_table
  have hcl_Answer := T.cl_Answer
  have hcl_Weights := T.cl_Weights
  have hcl_Trade := T.cl_Trade
  have hcl_Ranks := T.cl_Ranks
  have hna_Ranks_ranks := T.na_Ranks_ranks
  have hcl_Unranked := T.cl_Unranked
  have hna_Unranked_one := T.na_Unranked_one
  have hna_Unranked_other := T.na_Unranked_other
  have hna_Unranked_first := T.na_Unranked_first
  have hna_Unranked_second := T.na_Unranked_second
  have hic_Ranks := T.ic_Ranks
  have hic_Unranked := T.ic_Unranked
  have hki_Ranks_Answer := T.ki_Ranks_Answer
  have hki_Ranks_Ranks := T.ki_Ranks_Ranks
  have hki_Ranks_Unranked := T.ki_Ranks_Unranked
  have hki_Ranks_Weights := T.ki_Ranks_Weights
  have hki_Ranks_Trade := T.ki_Ranks_Trade
  have hki_Unranked_Answer := T.ki_Unranked_Answer
  have hki_Unranked_Ranks := T.ki_Unranked_Ranks
  have hki_Unranked_Unranked := T.ki_Unranked_Unranked
  have hki_Unranked_Weights := T.ki_Unranked_Weights
  have hki_Unranked_Trade := T.ki_Unranked_Trade
  refine ⟨_, (pss_cons (ps_expr (pe_methD (pv 0) T.cl_Council g_Council_member (hr.mono (by decide)) pass0 (pa_cons (pv 1) pa_nil)))
  (pss_cons (ps_expr (pe_methD (pv 0) T.cl_Council g_Council_member (hr.mono (by decide)) pass0 (pa_cons (pv 2) pa_nil)))
  (pss_cons (ps_for PassesOwn.never rfl (pi_range1 (by rfl) T.n_range (pa_cons (pe_op op_shl pe_int (pe_fld (pv 0) rfl)) pa_nil)) (pg_name (i := 3) sc_group_against.nd rfl (by first | exact Or.inl rfl | exact Or.inr rfl))
  (pss_one (ps_if (PW.pt (pw_and (pt_cmpR op_eq (pe_op op_and (pe_op op_shr (pv 3) (pv 1)) pe_int) pe_int (nomark _)) (pw_and1 (pt_cmpR op_eq (pe_op op_and (pe_op op_shr (pv 3) (pv 2)) pe_int) pe_int (nomark _))))) (pss_one (ps_if (PW.pt (pw_and (pt_val (pe_methD (pv 0) T.cl_Council g_Council_carries (hr.mono (by decide)) pass0 (pa_cons (pe_op op_or (pv 3) (pe_op op_shl pe_int (pv 2))) pa_nil))) (pw_and1 (pt_not (pt_val (pe_methD (pv 0) T.cl_Council g_Council_carries (hr.mono (by decide)) pass0 (pa_cons (pe_op op_or (pv 3) (pe_op op_shl pe_int (pv 1))) pa_nil))))))) (pss_one (ps_ret (pv 3))) pss_nil)) pss_nil)))
  (pss_one (ps_ret (pe_un un_neg pe_int)))))), go_of ?_ h⟩
  try dsimp only [L2.cxOf, L2.Cx.nox, L2.Cx.wish, L2.Cx.blk]
  rintro ds r ⟨n, t, a, b, rfl, ⟨hn, ht, ha, hb⟩, rfl⟩
  have hp := pow_le n hn
  show W K E _ [.fz (cou C_Council n t), .fz (nat a), .fz (nat b), .un] _
  refine w_seq (w_drop (d := nat a) (by walk_at "ev") ?_)
  refine w_seq (w_drop (d := nat b) (by walk_at "ev") ?_)
  refine w_seq (w_forX (β := Unit) (ys := List.range (2 ^ n)) (f := nat) (fun i _ => ∀ g, g < i → agst t a b g = false) (fun _ => [.fz (cou C_Council n t), .fz (nat a), .fz (nat b), .un]) ?_ () (fun g hg => absurd hg (Nat.not_lt_zero g)) (Fgt.refl _) ?_ ?_)
  · walk_at "it"
  · intro i x _ hx hI
    obtain ⟨hi, rfl⟩ := List.getElem?_eq_some_iff.mp hx
    rw [List.length_range] at hi
    rw [List.getElem_range]
    have h1 : i ||| 2 ^ a < t.length := by
      rw [ht]
      exact or_lt hi ha
    have h2 : i ||| 2 ^ b < t.length := by
      rw [ht]
      exact or_lt hi hb
    have up : agst t a b i = false → ∀ g, g < i + 1 → agst t a b g = false := fun z g hg => by
      rcases Nat.lt_or_eq_of_le (Nat.le_of_lt_succ hg) with w | w
      · exact hI g w
      · rw [w]
        exact z
    refine w_if (b := !i.testBit a && !i.testBit b) ?_ (fun e1 => ?_) fun e1 => w_next ⟨(), up ?_, .keep (.keep (.keep (.drop .nil)))⟩
    · apply et_is
      · walk_at "et"
      · rw [bit_no, bit_no]
    · refine w_if (b := t.getD (i ||| 2 ^ b) false && !t.getD (i ||| 2 ^ a) false) ?_ (fun e2 => ?_) fun e2 => w_next ⟨(), up ?_, .keep (.keep (.keep (.drop .nil)))⟩
      · walk_at "et"
      · refine w_ret (r := .dat (.int (gaM n t a b))) ?_ rfl
        rw [ga_at hi (by unfold agst; rw [e1, e2]; rfl) hI]
        exact ev_var rfl
      · unfold agst
        rw [e2, Bool.and_false]
    · unfold agst
      rw [e1, Bool.false_and]
  · intro s _ hI hs
    rw [List.length_range] at hI
    refine w_fgt hs (w_ret (r := .dat (.int (gaM n t a b))) ?_ rfl)
    rw [ga_none hI]
    walk_at "ev"
def c_stands (C : Addr) : List D → Rs → Prop := RC3 C (fun n t a b => n ≤ 5 ∧ t.length = 2 ^ n ∧ a < n ∧ b < n) fun n t a b => .dat (.bl (mayM n t a b))
abbrev st_stands : Stmt := top 22
abbrev n_stands : List Str := ["council", "one", "other"]
abbrev p_stands : List Str := ["council", "one", "other"]
theorem sc_stands : FnScope n_stands p_stands (defScope st_stands) := ⟨rfl, rfl, rfl, by decide +kernel, rfl, by decide +kernel, by decide +kernel⟩
theorem ok_stands {f : Addr} {fd : FuncData} (F : Fun K "stands" "stands" st_stands f fd) (T : Txt K mg C_Council C_Answer C_Weights C_Trade C_Ranks C_Unranked) (g_group_against : OkD P w K mg base CX0 3 "group_against" p_group_against (SpR K (c_group_against C_Council))) : FnOk P w K mg base CX0 4 f fd p_stands (SpR K (c_stands C_Council)) := by
  refine F.ok sc_stands (sp_len RC3.len) (fun cdv A outer s H vs Q E hr h => ?_)
  have hcl_Council := T.cl_Council
  have hna_Council_members := T.na_Council_members
  have hna_Council_table := T.na_Council_table
  have hcl_Answer := T.cl_Answer
  have hcl_Weights := T.cl_Weights
  have hcl_Trade := T.cl_Trade
  have hcl_Ranks := T.cl_Ranks
  have hna_Ranks_ranks := T.na_Ranks_ranks
  have hcl_Unranked := T.cl_Unranked
  have hna_Unranked_one := T.na_Unranked_one
  have hna_Unranked_other := T.na_Unranked_other
  have hna_Unranked_first := T.na_Unranked_first
  have hna_Unranked_second := T.na_Unranked_second
  have hic_Ranks := T.ic_Ranks
  have hic_Unranked := T.ic_Unranked
  have hki_Ranks_Answer := T.ki_Ranks_Answer
  have hki_Ranks_Ranks := T.ki_Ranks_Ranks
  have hki_Ranks_Unranked := T.ki_Ranks_Unranked
  have hki_Ranks_Weights := T.ki_Ranks_Weights
  have hki_Ranks_Trade := T.ki_Ranks_Trade
  have hki_Unranked_Answer := T.ki_Unranked_Answer
  have hki_Unranked_Ranks := T.ki_Unranked_Ranks
  have hki_Unranked_Unranked := T.ki_Unranked_Unranked
  have hki_Unranked_Weights := T.ki_Unranked_Weights
  have hki_Unranked_Trade := T.ki_Unranked_Trade
  refine ⟨_, (pss_one (ps_ret (pe_cmpR op_lt (pe_callD g_group_against (hr.mono (by decide)) (by rfl) pass0 (pa_cons (pv 0) (pa_cons (pv 1) (pa_cons (pv 2) pa_nil)))) pe_int (nomark _)))), go_of ?_ h⟩
  try dsimp only [L2.cxOf, L2.Cx.nox, L2.Cx.wish, L2.Cx.blk]
  rintro ds r ⟨n, t, a, b, rfl, ⟨hn, ht, ha, hb⟩, rfl⟩
  show W K E _ [.fz (cou C_Council n t), .fz (nat a), .fz (nat b)] _
  refine w_ret ?_ rfl
  apply ev_is
  · walk_at "ev"
  · rw [ga_neg]
def c_Ranks_init : List D → Ri → Prop := fun ds r => ∃ xss, ds = [natLL xss] ∧ xss.length ≤ 1000 ∧ r = .ok ["ranks"] [natLL xss]
abbrev st_Ranks_init : Stmt := inClass (top 20) 0
abbrev n_Ranks_init : List Str := ["self", "ranks", "rank"]
abbrev p_Ranks_init : List Str := ["self", "ranks"]
theorem sc_Ranks_init : FnScope n_Ranks_init p_Ranks_init (defScope st_Ranks_init) := ⟨rfl, rfl, rfl, by decide +kernel, rfl, by decide +kernel, by decide +kernel⟩
theorem ok_Ranks_init {f : Addr} {fd : FuncData} (F : Fun K "__init__" "Ranks.__init__" st_Ranks_init f fd) (T : Txt K mg C_Council C_Answer C_Weights C_Trade C_Ranks C_Unranked) : FnOk P w K mg base CX0 1 f fd p_Ranks_init (SpI K C_Ranks c_Ranks_init) := by
  refine F.ok sc_Ranks_init (spI_len (by rintro ds r ⟨_, rfl, _⟩; rfl)) (fun cdv A outer s H vs Q E hr h => ?_)
  have hcl_Council := T.cl_Council
  have hna_Council_members := T.na_Council_members
  have hna_Council_table := T.na_Council_table
  have hcl_Answer := T.cl_Answer
  have hcl_Weights := T.cl_Weights
  have hcl_Trade := T.cl_Trade
  have hcl_Ranks := T.cl_Ranks
  have hna_Ranks_ranks := T.na_Ranks_ranks
  have hcl_Unranked := T.cl_Unranked
  have hna_Unranked_one := T.na_Unranked_one
  have hna_Unranked_other := T.na_Unranked_other
  have hna_Unranked_first := T.na_Unranked_first
  have hna_Unranked_second := T.na_Unranked_second
  have hic_Ranks := T.ic_Ranks
  have hic_Unranked := T.ic_Unranked
  have hki_Ranks_Answer := T.ki_Ranks_Answer
  have hki_Ranks_Ranks := T.ki_Ranks_Ranks
  have hki_Ranks_Unranked := T.ki_Ranks_Unranked
  have hki_Ranks_Weights := T.ki_Ranks_Weights
  have hki_Ranks_Trade := T.ki_Ranks_Trade
  have hki_Unranked_Answer := T.ki_Unranked_Answer
  have hki_Unranked_Ranks := T.ki_Unranked_Ranks
  have hki_Unranked_Unranked := T.ki_Unranked_Unranked
  have hki_Unranked_Weights := T.ki_Unranked_Weights
  have hki_Unranked_Trade := T.ki_Unranked_Trade
  refine ⟨_, (pss_one (ps_fld (pv 0) (pe_lc (own := [("rank", 2)]) (g := gName 2) (tt := tYes) (te := (tCB (rListOf K) (tCons (tVar 2) tNil))) (by exact rfl) sc_Ranks_init.nd (pi_list (pv 1)) (blkOk_by (N := n_Ranks_init) (sc := defScope st_Ranks_init) (own := [("rank", 2)]) (by decide +kernel)) (fun _ _ _ _ _ => (pg_name (i := 2) sc_Ranks_init.nd rfl (by first | exact Or.inl rfl | exact Or.inr rfl))) (fun _ _ _ _ _ => pts_nil) (fun _ _ _ _ _ => (pe_callTy call_list_of (by rfl) T.n_list (by decide +kernel) (pa_cons (pv 2) pa_nil)))) rfl)), goI_of ?_ h⟩
  try dsimp only [L2.cxOf, L2.Cx.nox, L2.Cx.wish, L2.Cx.blk]
  rintro x ds r ⟨xss, rfl, hl, rfl⟩
  show W K E _ [.ob x C_Ranks [] [], .fz (natLL xss), .un] _
  refine w_fld rfl T.cl_Ranks T.na_Ranks_ranks (by decide) (by decide) (d := natLL xss) ?_ ?_ (by simp)
  · with_reducible apply ev_lcFM (ys := xss) (c := natL) (v := natL)
    · walk_at "it"
    · omega
    · decide
    · intro r hr
      apply EvR.frsL
      · walk_at "evN"
      · intro d hd
        obtain ⟨_, _, rfl⟩ := List.mem_map.mp hd
        rfl
  · exact ⟨_, _, rfl, rfl⟩
def c_Ranks_holds (C CR : Addr) : List D → Rs → Prop := fun ds r => ∃ xss n t, ds = [rkO CR xss, cou C n t] ∧ (n ≤ 5 ∧ t.length = 2 ^ n ∧ xss.length ≤ 1000 ∧ xss.flatten.length ≤ 1000) ∧ r = .dat (.bl (rkHolds n t xss))
abbrev st_Ranks_holds : Stmt := inClass (top 20) 1
abbrev n_Ranks_holds : List Str := ["self", "council", "told", "rank", "k", "i", "alike"]
abbrev p_Ranks_holds : List Str := ["self", "council"]
theorem sc_Ranks_holds : FnScope n_Ranks_holds p_Ranks_holds (defScope st_Ranks_holds) := ⟨rfl, rfl, rfl, by decide +kernel, rfl, by decide +kernel, by decide +kernel⟩
theorem ok_Ranks_holds {f : Addr} {fd : FuncData} (F : Fun K "holds" "Ranks.holds" st_Ranks_holds f fd) (T : Txt K mg C_Council C_Answer C_Weights C_Trade C_Ranks C_Unranked) (g_stands : OkD P w K mg base CX0 4 "stands" p_stands (SpR K (c_stands C_Council))) : FnOk P w K mg base CX0 5 f fd p_Ranks_holds (SpR K (c_Ranks_holds C_Council C_Ranks)) := by
  refine F.ok sc_Ranks_holds (sp_len (by rintro ds r ⟨_, _, _, rfl, _⟩; rfl)) (fun cdv A outer s H vs Q E hr h => ?_)
  have hcl_Council := T.cl_Council
  have hna_Council_members := T.na_Council_members
  have hna_Council_table := T.na_Council_table
  have hcl_Answer := T.cl_Answer
  have hcl_Weights := T.cl_Weights
  have hcl_Trade := T.cl_Trade
  have hcl_Ranks := T.cl_Ranks
  have hna_Ranks_ranks := T.na_Ranks_ranks
  have hcl_Unranked := T.cl_Unranked
  have hna_Unranked_one := T.na_Unranked_one
  have hna_Unranked_other := T.na_Unranked_other
  have hna_Unranked_first := T.na_Unranked_first
  have hna_Unranked_second := T.na_Unranked_second
  have hic_Ranks := T.ic_Ranks
  have hic_Unranked := T.ic_Unranked
  have hki_Ranks_Answer := T.ki_Ranks_Answer
  have hki_Ranks_Ranks := T.ki_Ranks_Ranks
  have hki_Ranks_Unranked := T.ki_Ranks_Unranked
  have hki_Ranks_Weights := T.ki_Ranks_Weights
  have hki_Ranks_Trade := T.ki_Ranks_Trade
  have hki_Unranked_Answer := T.ki_Unranked_Answer
  have hki_Unranked_Ranks := T.ki_Unranked_Ranks
  have hki_Unranked_Unranked := T.ki_Unranked_Unranked
  have hki_Unranked_Weights := T.ki_Unranked_Weights
  have hki_Unranked_Trade := T.ki_Unranked_Trade
  refine ⟨_, (pss_cons (ps_set (i := 2) sc_Ranks_holds.nd rfl (by first | exact Or.inl rfl | exact Or.inr rfl) (pe_lst pa_nil))
  (pss_cons (ps_for PassesOwn.never rfl (pi_list (pe_fld (pv 0) rfl)) (pg_name (i := 3) sc_Ranks_holds.nd rfl (by first | exact Or.inl rfl | exact Or.inr rfl))
  (pss_one (ps_expr (pe_bm PySem.F.plainAttrs_list PySem.F.slot_list_extend PySem.F.type_list_extend mt_extend (pv 2) (pa_cons (pv 3) pa_nil)))))
  (pss_cons (ps_if (PW.pt (pw_or (pt_cmpR (op_neD (hu64 hr)) (pe_callB cr_sortedI (by rfl) T.n_sorted (by decide +kernel) (pa_cons (pv 2) pa_nil)) (pe_listRg rfl (by rfl) T.n_list (prg_1 (by rfl) T.n_range (pe_fld (pv 1) rfl))) (nomark _)) (pw_or1 (pt_cmpR (op_inD (hu65 hr)) (pe_lst pa_nil) (pe_fld (pv 0) rfl) (by rfl))))) (pss_one (ps_ret pe_bl)) pss_nil)
  (pss_cons (ps_for PassesOwn.never rfl (pi_range1 (by rfl) T.n_range (pa_cons (pe_callB call_len_seq (by rfl) T.n_len (PySem.boot_len) (pa_cons (pv 2) pa_nil)) pa_nil)) (pg_name (i := 4) sc_Ranks_holds.nd rfl (by first | exact Or.inl rfl | exact Or.inr rfl))
  (pss_one (ps_for PassesOwn.never rfl (pi_range1 (by rfl) T.n_range (pa_cons (pv 4) pa_nil)) (pg_name (i := 5) sc_Ranks_holds.nd rfl (by first | exact Or.inl rfl | exact Or.inr rfl))
  (pss_cons (ps_set (i := 6) sc_Ranks_holds.nd rfl (by first | exact Or.inl rfl | exact Or.inr rfl) (pe_cmpR (op_neD (hu64 hr)) (pe_lc (own := [("rank", 3)]) (g := gName 3) (te := (tVar 3)) (tt := (tAnd (tTest (tOp (rIn K false) (tOp (rIxL K) (tVar 2) (tVar 4)) (tVar 3))) (tTest (tOp (rIn K false) (tOp (rIxL K) (tVar 2) (tVar 5)) (tVar 3))))) (by exact rfl) sc_Ranks_holds.nd (pi_list (pe_fld (pv 0) rfl)) (blkOk_by (N := n_Ranks_holds) (sc := defScope st_Ranks_holds) (own := [("rank", 3)]) (by decide +kernel)) (fun _ _ _ _ _ => (pg_name (i := 3) sc_Ranks_holds.nd rfl (by first | exact Or.inl rfl | exact Or.inr rfl))) (fun _ _ _ _ _ => pts_one (PW.pt (pw_and (pt_cmpR op_in_seq (pe_ix ix_list (pv 2) (pv 4) (fun _ _ => rfl)) (pv 3) (by rfl)) (pw_and1 (pt_cmpR op_in_seq (pe_ix ix_list (pv 2) (pv 5) (fun _ _ => rfl)) (pv 3) (by rfl)))))) (fun _ _ _ _ _ => (pv 3))) (pe_lst pa_nil) (nomark _)))
  (pss_one (ps_if (PW.pt (pw_or (pt_not (pt_val (pe_callD g_stands (hr.mono (by decide)) (by rfl) pass0 (pa_cons (pv 1) (pa_cons (pe_ix ix_list (pv 2) (pv 5) (fun _ _ => rfl)) (pa_cons (pe_ix ix_list (pv 2) (pv 4) (fun _ _ => rfl)) pa_nil)))))) (pw_or1 (pt_cmpR op_ne (pe_callD g_stands (hr.mono (by decide)) (by rfl) pass0 (pa_cons (pv 1) (pa_cons (pe_ix ix_list (pv 2) (pv 4) (fun _ _ => rfl)) (pa_cons (pe_ix ix_list (pv 2) (pv 5) (fun _ _ => rfl)) pa_nil)))) (pv 6) (nomark _))))) (pss_one (ps_ret pe_bl)) pss_nil))))))
  (pss_one (ps_ret pe_bl)))))), go_of ?_ h⟩
  try dsimp only [L2.cxOf, L2.Cx.nox, L2.Cx.wish, L2.Cx.blk]
  rintro ds r ⟨xss, n, t, rfl, ⟨hn, ht, hl, hf⟩, rfl⟩
  show W K E _ [.fz (rkO C_Ranks xss), .fz (cou C_Council n t), .un, .un, .un, .un, .un] _
  refine w_seq (w_asgN (xs := []) (by walk_at "evN") ?_)
  refine w_seq (w_forS (ys := xss) (f := natL) (fun i => [.fz (rkO C_Ranks xss), .fz (cou C_Council n t), .ow ((xss.take i).flatten.map nat), .un, .un, .un, .un]) ?_ (Fgt.refl _) ?_ ?_)
  · walk_at "it"
  · intro i a ha
    obtain ⟨hi, rfl⟩ := List.getElem?_eq_some_iff.mp ha
    have et : (xss.take (i + 1)).flatten = (xss.take i).flatten ++ xss[i] := by
      rw [List.take_add_one, List.getElem?_eq_getElem hi, List.flatten_append]
      simp
    have hs : (xss.take (i + 1)).flatten.length ≤ xss.flatten.length := by
      have e2 : xss.flatten.length = (xss.take (i + 1)).flatten.length + (xss.drop (i + 1)).flatten.length := by rw [← List.length_append, ← List.flatten_append, List.take_append_drop]
      omega
    rw [et, List.length_append] at hs
    refine w_ext (i := 2) rfl (ys := xss[i].map nat) ?_ (by rw [List.length_map, List.length_map]; omega) ?_
    · exact ev_var rfl
    · show Fgt _ _
      rw [et, List.map_append]
      exact .keep (.keep (.keep (.drop (.keep (.keep (.keep .nil))))))
  intro s hs
  rw [List.take_length] at hs
  refine w_fgt hs (w_fix (i := 2) rfl ?_)
  show W K _ _ [.fz (rkO C_Ranks xss), .fz (cou C_Council n t), .fz (natL xss.flatten), .un, .un, .un, .un] _
  refine w_seq (w_if (b := !decide (srt xss.flatten = List.range n) || decide ([] ∈ xss)) ?_ (fun hb => ?_) fun hb => w_next ?_)
  · with_reducible apply et_or
    · walk_at "et"
    · intro _
      with_reducible apply et_test
      with_reducible apply ev_op (x := natL [])
      · exact EvR.fz (ev_lst ea_nil (by decide))
      · walk_at "ev"
      · exact od_inLL
  · refine w_ret (r := .dat (.bl (rkHolds n t xss))) ?_ rfl
    have e : rkHolds n t xss = false := by
      unfold rkHolds
      rcases Bool.or_eq_true_iff.mp hb with z | z
      · rw [Bool.not_eq_true'] at z
        rw [z, Bool.false_and]
      · rw [z]
        simp
    rw [e]
    exact ev_bl
  obtain ⟨hb1, hb2⟩ := Bool.or_eq_false_iff.mp hb
  have hs1 : srt xss.flatten = List.range n := by simpa using hb1
  have hlt := flat_lt hs1
  have er : rkHolds n t xss = progR (mayM n t) xss := by
    unfold rkHolds
    rw [decide_eq_true hs1, hb2]
    simp
  generalize hF : xss.flatten = F at hlt hf hs1
  have hget : ∀ k, k < F.length → F.getD k 0 < n := fun k hk => hlt _ (by
    rw [List.getD_eq_getElem?_getD, List.getElem?_eq_getElem hk]
    exact List.getElem_mem hk)
  refine w_seq (w_forX (β := Unit) (ys := List.range F.length) (f := nat) (fun k _ => ∀ k', k' < k → ∀ i, i < k' → pairOk (mayM n t) xss (F.getD i 0) (F.getD k' 0) = true) (fun _ => [.fz (rkO C_Ranks xss), .fz (cou C_Council n t), .fz (natL F), .un, .un, .un, .un]) ?_ () (fun g hg => absurd hg (Nat.not_lt_zero g)) (Fgt.refl _) ?_ ?_)
  · walk_at "it"
  · intro k x _ hx hI
    obtain ⟨hk, rfl⟩ := List.getElem?_eq_some_iff.mp hx
    rw [List.length_range] at hk
    rw [List.getElem_range]
    refine w_forX (β := Unit) (ys := List.range k) (f := nat) (fun i _ => ∀ i', i' < i → pairOk (mayM n t) xss (F.getD i' 0) (F.getD k 0) = true) (fun _ => [.fz (rkO C_Ranks xss), .fz (cou C_Council n t), .fz (natL F), .un, .fz (nat k), .un, .un]) ?_ () (fun g hg => absurd hg (Nat.not_lt_zero g)) (Fgt.refl _) ?_ ?_
    · walk_at "it"
    · intro i x _ hx hJ
      obtain ⟨hi, rfl⟩ := List.getElem?_eq_some_iff.mp hx
      rw [List.length_range] at hi
      rw [List.getElem_range]
      have hik : i < F.length := by omega
      have ga := hget i hik
      have gb := hget k hk
      refine w_seq (w_asg (d := .bl (alike xss (F.getD k 0) (F.getD i 0))) ?_ ?_)
      · apply ev_is
        · with_reducible apply ev_op (x := natLL (xss.filter fun r => decide (F.getD k 0 ∈ r) && decide (F.getD i 0 ∈ r))) (y := natLL [])
          · apply EvR.fz
            with_reducible apply ev_lcF (ys := xss) (c := natL) (f := fun r => decide (F.getD k 0 ∈ r) && decide (F.getD i 0 ∈ r)) (v := natL)
            · walk_at "it"
            · omega
            · decide
            · intro r hr
              with_reducible apply et_and
              · with_reducible apply et_test
                with_reducible apply ev_op
                · walk_at "ev"
                · walk_at "ev"
                · exact od_inN0
              · intro _
                with_reducible apply et_test
                with_reducible apply ev_op
                · walk_at "ev"
                · walk_at "ev"
                · exact od_inN0
            · intro r hr hf
              walk_at "ev"
          · exact EvR.fz (ev_lst ea_nil (by decide))
          · exact od_neLL
        · congr 1
          unfold alike
          rw [Bool.eq_iff_iff, Bool.not_eq_true', decide_eq_false_iff_not, List.filter_eq_nil_iff, List.any_eq_true]
          constructor
          · intro h
            apply Classical.byContradiction
            intro z
            exact h fun r hr hc => z ⟨r, hr, hc⟩
          · rintro ⟨r, hr, hc⟩ z
            exact z r hr hc
      refine w_if (b := !mayM n t (F.getD i 0) (F.getD k 0) || !decide (mayM n t (F.getD k 0) (F.getD i 0) = alike xss (F.getD k 0) (F.getD i 0))) ?_ (fun e => ?_) fun e => w_next ⟨(), fun i' hi' => ?_, .keep (.keep (.keep (.drop (.keep (.drop (.drop .nil))))))⟩
      · walk_at "et"
      · refine w_ret (r := .dat (.bl (rkHolds n t xss))) ?_ rfl
        have e2 : rkHolds n t xss = false := by
          rw [er]
          cases w : progR (mayM n t) xss with
          | false => rfl
          | true =>
            exfalso
            unfold progR at w
            rw [hF, List.all_eq_true] at w
            have w := w k (List.mem_range.mpr hk)
            rw [List.all_eq_true] at w
            have w := w i (List.mem_range.mpr hi)
            obtain ⟨w1, w2⟩ := Bool.and_eq_true_iff.mp w
            rw [w1, w2] at e
            cases e
        rw [e2]
        exact ev_bl
      · rcases Nat.lt_or_eq_of_le (Nat.le_of_lt_succ hi') with z | z
        · exact hJ i' z
        · subst z
          obtain ⟨e1, e2⟩ := Bool.or_eq_false_iff.mp e
          unfold pairOk
          rw [Bool.not_eq_false'] at e1 e2
          rw [e1, e2]
          rfl
    · intro s _ hJ hs
      rw [List.length_range] at hJ
      refine ⟨(), fun k' hk' => ?_, hs.tr (.keep (.keep (.keep (.keep (.drop (.keep (.keep .nil)))))))⟩
      rcases Nat.lt_or_eq_of_le (Nat.le_of_lt_succ hk') with z | z
      · exact hI k' z
      · subst z
        exact hJ
  · intro s _ hI hs
    rw [List.length_range] at hI
    refine w_fgt hs (w_ret (r := .dat (.bl (rkHolds n t xss))) ?_ rfl)
    have e2 : rkHolds n t xss = true := by
      rw [er]
      unfold progR
      rw [hF, List.all_eq_true]
      intro k hk
      rw [List.all_eq_true]
      intro i hi
      exact hI k (List.mem_range.mp hk) i (List.mem_range.mp hi)
    rw [e2]
    exact ev_bl
def c_Unranked_init : List D → Ri → Prop := fun ds r => ∃ a b f s : Nat, ds = [nat a, nat b, nat f, nat s] ∧ r = .ok ["one", "other", "first", "second"] [nat a, nat b, nat f, nat s]
abbrev st_Unranked_init : Stmt := inClass (top 21) 0
abbrev n_Unranked_init : List Str := ["self", "one", "other", "first", "second"]
abbrev p_Unranked_init : List Str := ["self", "one", "other", "first", "second"]
theorem sc_Unranked_init : FnScope n_Unranked_init p_Unranked_init (defScope st_Unranked_init) := ⟨rfl, rfl, rfl, by decide +kernel, rfl, by decide +kernel, by decide +kernel⟩
theorem ok_Unranked_init {f : Addr} {fd : FuncData} (F : Fun K "__init__" "Unranked.__init__" st_Unranked_init f fd) (T : Txt K mg C_Council C_Answer C_Weights C_Trade C_Ranks C_Unranked) : FnOk P w K mg base CX0 1 f fd p_Unranked_init (SpI K C_Unranked c_Unranked_init) := by
  refine F.ok sc_Unranked_init (spI_len (by rintro ds r ⟨_, _, _, _, rfl, _⟩; rfl)) (fun cdv A outer s H vs Q E hr h => ?_)
  have hcl_Council := T.cl_Council
  have hna_Council_members := T.na_Council_members
  have hna_Council_table := T.na_Council_table
  have hcl_Answer := T.cl_Answer
  have hcl_Weights := T.cl_Weights
  have hcl_Trade := T.cl_Trade
  have hcl_Ranks := T.cl_Ranks
  have hna_Ranks_ranks := T.na_Ranks_ranks
  have hcl_Unranked := T.cl_Unranked
  have hna_Unranked_one := T.na_Unranked_one
  have hna_Unranked_other := T.na_Unranked_other
  have hna_Unranked_first := T.na_Unranked_first
  have hna_Unranked_second := T.na_Unranked_second
  have hic_Ranks := T.ic_Ranks
  have hic_Unranked := T.ic_Unranked
  have hki_Ranks_Answer := T.ki_Ranks_Answer
  have hki_Ranks_Ranks := T.ki_Ranks_Ranks
  have hki_Ranks_Unranked := T.ki_Ranks_Unranked
  have hki_Ranks_Weights := T.ki_Ranks_Weights
  have hki_Ranks_Trade := T.ki_Ranks_Trade
  have hki_Unranked_Answer := T.ki_Unranked_Answer
  have hki_Unranked_Ranks := T.ki_Unranked_Ranks
  have hki_Unranked_Unranked := T.ki_Unranked_Unranked
  have hki_Unranked_Weights := T.ki_Unranked_Weights
  have hki_Unranked_Trade := T.ki_Unranked_Trade
  refine ⟨_, (pss_cons (ps_fld (pv 0) (pv 1) rfl)
  (pss_cons (ps_fld (pv 0) (pv 2) rfl)
  (pss_cons (ps_fld (pv 0) (pv 3) rfl)
  (pss_one (ps_fld (pv 0) (pv 4) rfl))))), goI_of ?_ h⟩
  try dsimp only [L2.cxOf, L2.Cx.nox, L2.Cx.wish, L2.Cx.blk]
  rintro x ds r ⟨a, b, f, s, rfl, rfl⟩
  show W K E _ [.ob x C_Unranked [] [], .fz (nat a), .fz (nat b), .fz (nat f), .fz (nat s)] _
  refine w_seq (w_fld rfl T.cl_Unranked T.na_Unranked_one (by decide) (by decide) (d := nat a) (by walk_at "evF") ?_ (by simp))
  refine w_seq (w_fld rfl T.cl_Unranked T.na_Unranked_other (by decide +kernel) (by decide) (d := nat b) (by walk_at "evF") ?_ (by simp))
  refine w_seq (w_fld rfl T.cl_Unranked T.na_Unranked_first (by decide +kernel) (by decide) (d := nat f) (by walk_at "evF") ?_ (by simp))
  refine w_fld rfl T.cl_Unranked T.na_Unranked_second (by decide +kernel) (by decide) (d := nat s) (by walk_at "evF") ?_ (by simp)
  exact ⟨_, _, rfl, rfl⟩
def c_Unranked_holds (C CU : Addr) : List D → Rs → Prop := fun ds r => ∃ a b f s n t, ds = [urO CU a b f s, cou C n t] ∧ (n ≤ 5 ∧ t.length = 2 ^ n ∧ a < n ∧ b < n ∧ f < 2 ^ n ∧ s < 2 ^ n) ∧ r = .dat (.bl (shownM t a b f s))
abbrev st_Unranked_holds : Stmt := inClass (top 21) 1
abbrev n_Unranked_holds : List Str := ["self", "council", "pair", "group", "better", "worse"]
abbrev p_Unranked_holds : List Str := ["self", "council"]
theorem sc_Unranked_holds : FnScope n_Unranked_holds p_Unranked_holds (defScope st_Unranked_holds) := ⟨rfl, rfl, rfl, by decide +kernel, rfl, by decide +kernel, by decide +kernel⟩
theorem ok_Unranked_holds {f : Addr} {fd : FuncData} (F : Fun K "holds" "Unranked.holds" st_Unranked_holds f fd) (T : Txt K mg C_Council C_Answer C_Weights C_Trade C_Ranks C_Unranked) (g_Council_carries : OkM P w K mg base CX0 2 C_Council "carries" p_Council_carries (SpR K (c_Council_carries C_Council))) : FnOk P w K mg base CX0 3 f fd p_Unranked_holds (SpR K (c_Unranked_holds C_Council C_Unranked)) := by
  refine F.ok sc_Unranked_holds (sp_len (by rintro ds r ⟨_, _, _, _, _, _, rfl, _⟩; rfl)) (fun cdv A outer s H vs Q E hr h => ?_)
  have hcl_Council := T.cl_Council
  have hna_Council_members := T.na_Council_members
  have hna_Council_table := T.na_Council_table
  have hcl_Answer := T.cl_Answer
  have hcl_Weights := T.cl_Weights
  have hcl_Trade := T.cl_Trade
  have hcl_Ranks := T.cl_Ranks
  have hna_Ranks_ranks := T.na_Ranks_ranks
  have hcl_Unranked := T.cl_Unranked
  have hna_Unranked_one := T.na_Unranked_one
  have hna_Unranked_other := T.na_Unranked_other
  have hna_Unranked_first := T.na_Unranked_first
  have hna_Unranked_second := T.na_Unranked_second
  have hic_Ranks := T.ic_Ranks
  have hic_Unranked := T.ic_Unranked
  have hki_Ranks_Answer := T.ki_Ranks_Answer
  have hki_Ranks_Ranks := T.ki_Ranks_Ranks
  have hki_Ranks_Unranked := T.ki_Ranks_Unranked
  have hki_Ranks_Weights := T.ki_Ranks_Weights
  have hki_Ranks_Trade := T.ki_Ranks_Trade
  have hki_Unranked_Answer := T.ki_Unranked_Answer
  have hki_Unranked_Ranks := T.ki_Unranked_Ranks
  have hki_Unranked_Unranked := T.ki_Unranked_Unranked
  have hki_Unranked_Weights := T.ki_Unranked_Weights
  have hki_Unranked_Trade := T.ki_Unranked_Trade
  refine ⟨_, (pss_cons (ps_set (i := 2) sc_Unranked_holds.nd rfl (by first | exact Or.inl rfl | exact Or.inr rfl) (pe_op op_or (pe_op op_shl pe_int (pe_fld (pv 0) rfl)) (pe_op op_shl pe_int (pe_fld (pv 0) rfl))))
  (pss_cons (ps_if (PW.pt (pw_or (pt_cmpR op_eq (pe_fld (pv 0) rfl) (pe_fld (pv 0) rfl) (nomark _)) (pw_or1 (pt_cmpR op_gt (pe_op op_and (pe_op op_or (pe_fld (pv 0) rfl) (pe_fld (pv 0) rfl)) (pv 2)) pe_int (nomark _))))) (pss_one (ps_ret pe_bl)) pss_nil)
  (pss_cons (ps_for PassesOwn.never rfl (pi_list (pe_lst (pa_cons (pe_tup (pa_cons (pe_fld (pv 0) rfl) (pa_cons (pe_fld (pv 0) rfl) (pa_cons (pe_fld (pv 0) rfl) pa_nil)))) (pa_cons (pe_tup (pa_cons (pe_fld (pv 0) rfl) (pa_cons (pe_fld (pv 0) rfl) (pa_cons (pe_fld (pv 0) rfl) pa_nil)))) pa_nil)))) (pg_tup rfl (pgs_cons (pg_name (i := 3) sc_Unranked_holds.nd rfl (by first | exact Or.inl rfl | exact Or.inr rfl)) (pgs_cons (pg_name (i := 4) sc_Unranked_holds.nd rfl (by first | exact Or.inl rfl | exact Or.inr rfl)) (pgs_cons (pg_name (i := 5) sc_Unranked_holds.nd rfl (by first | exact Or.inl rfl | exact Or.inr rfl)) pgs_nil))))
  (pss_one (ps_if (PW.pt (pw_or (pt_not (pt_val (pe_methD (pv 1) T.cl_Council g_Council_carries (hr.mono (by decide)) pass0 (pa_cons (pe_op op_or (pv 3) (pe_op op_shl pe_int (pv 4))) pa_nil)))) (pw_or1 (pt_val (pe_methD (pv 1) T.cl_Council g_Council_carries (hr.mono (by decide)) pass0 (pa_cons (pe_op op_or (pv 3) (pe_op op_shl pe_int (pv 5))) pa_nil)))))) (pss_one (ps_ret pe_bl)) pss_nil)))
  (pss_one (ps_ret pe_bl))))), go_of ?_ h⟩
  try dsimp only [L2.cxOf, L2.Cx.nox, L2.Cx.wish, L2.Cx.blk]
  rintro ds r ⟨a, b, f, s, n, t, rfl, ⟨hn, ht, ha, hb, hf, hs⟩, rfl⟩
  have hp := pow_le n hn
  show W K E _ [.fz (urO C_Unranked a b f s), .fz (cou C_Council n t), .un, .un, .un, .un] _
  refine w_seq (w_asg (d := nat (2 ^ a ||| 2 ^ b)) (by walk_at "ev") ?_)
  refine w_seq (w_if (b := decide (a = b) || decide ((0 : Int) < (((f ||| s) &&& (2 ^ a ||| 2 ^ b) : Nat) : Int))) ?_ (fun e => ?_) fun e => w_next ?_)
  · walk_at "et"
  · refine w_ret (r := .dat (.bl (shownM t a b f s))) ?_ rfl
    have e2 : shownM t a b f s = false := by
      unfold shownM
      rw [pair_bits] at e
      rcases Bool.or_eq_true_iff.mp e with z | z
      · rw [decide_eq_false (p := a ≠ b) (fun w => w (of_decide_eq_true z))]
        simp
      · rw [Bool.not_eq_true'] at z
        rw [z]
        simp
    rw [e2]
    exact ev_bl
  obtain ⟨e1, e2⟩ := Bool.or_eq_false_iff.mp e
  rw [pair_bits, Bool.not_eq_false'] at e2
  have es : shownM t a b f s = ((t.getD (f ||| 2 ^ a) false && !t.getD (f ||| 2 ^ b) false) && (t.getD (s ||| 2 ^ b) false && !t.getD (s ||| 2 ^ a) false)) := by
    unfold shownM
    rw [e2, decide_eq_true (p := a ≠ b) (of_decide_eq_false e1), Bool.true_and, Bool.true_and]
  have h1 : f ||| 2 ^ a < t.length := by rw [ht]; exact or_lt hf ha
  have h2 : f ||| 2 ^ b < t.length := by rw [ht]; exact or_lt hf hb
  have h3 : s ||| 2 ^ a < t.length := by rw [ht]; exact or_lt hs ha
  have h4 : s ||| 2 ^ b < t.length := by rw [ht]; exact or_lt hs hb
  refine w_seq (w_for (xs := [.tup [nat f, nat a, nat b], .tup [nat s, nat b, nat a]]) (fun i st => Fgt st [.fz (urO C_Unranked a b f s), .fz (cou C_Council n t), .un, .un, .un, .un] ∧ (1 ≤ i → (t.getD (f ||| 2 ^ a) false && !t.getD (f ||| 2 ^ b) false) = true) ∧ (2 ≤ i → (t.getD (s ||| 2 ^ b) false && !t.getD (s ||| 2 ^ a) false) = true)) ?_ ⟨.keep (.keep (.drop (.keep (.keep (.keep .nil))))), fun z => absurd z (by decide), fun z => absurd z (by decide)⟩ ?_ ?_)
  · with_reducible apply it_list
    apply EvR.fz
    walk_at "evN"
  · have hno : ∀ x y : Bool, (!x || y) = false → (x && !y) = true := by decide
    have hyes : ∀ x y : Bool, (!x || y) = true → (x && !y) = false := by decide
    intro i d st hd hI
    obtain ⟨hF, hI1, hI2⟩ := hI
    match i, hd with
    | 0, hd =>
      cases hd
      refine gw_tup rfl (gws_cons (gw_name (gws_cons (gw_name (gws_cons (gw_name (gws_nil ?_)))))))
      refine w_fgt (fgt_set (fgt_set (fgt_set hF))) ?_
      show W K _ _ [.fz (urO C_Unranked a b f s), .fz (cou C_Council n t), .un, .fz (nat f), .fz (nat a), .fz (nat b)] _
      refine w_if (b := !t.getD (f ||| 2 ^ a) false || t.getD (f ||| 2 ^ b) false) ?_ (fun w => ?_) fun w => w_next ⟨.keep (.keep (.keep (.drop (.drop (.drop .nil))))), fun _ => hno _ _ w, fun z => absurd z (by decide)⟩
      · walk_at "et"
      · refine w_ret (r := .dat (.bl (shownM t a b f s))) ?_ rfl
        rw [es, hyes _ _ w, Bool.false_and]
        exact ev_bl
    | 1, hd =>
      cases hd
      refine gw_tup rfl (gws_cons (gw_name (gws_cons (gw_name (gws_cons (gw_name (gws_nil ?_)))))))
      refine w_fgt (fgt_set (fgt_set (fgt_set hF))) ?_
      show W K _ _ [.fz (urO C_Unranked a b f s), .fz (cou C_Council n t), .un, .fz (nat s), .fz (nat b), .fz (nat a)] _
      refine w_if (b := !t.getD (s ||| 2 ^ b) false || t.getD (s ||| 2 ^ a) false) ?_ (fun w => ?_) fun w => w_next ⟨.keep (.keep (.keep (.drop (.drop (.drop .nil))))), fun _ => hI1 (by decide), fun _ => hno _ _ w⟩
      · walk_at "et"
      · refine w_ret (r := .dat (.bl (shownM t a b f s))) ?_ rfl
        rw [es, hyes _ _ w, Bool.and_false]
        exact ev_bl
    | i + 2, hd => simp at hd
  · rintro st ⟨hF, hI1, hI2⟩
    refine w_fgt hF (w_ret (r := .dat (.bl (shownM t a b f s))) ?_ rfl)
    rw [es, hI1 (show 1 ≤ 2 by decide), hI2 (show 2 ≤ 2 by decide)]
    exact ev_bl
def c_ranked (C CR CU : Addr) : List D → Rs → Prop := RC1 C (fun n t => n ≤ 5 ∧ t.length = 2 ^ n) fun n t => .frs (rankedD CR CU n t)
theorem rank_len (R : Nat → Nat → Bool) (l : List Nat) : (rankOf R l).length ≤ l.length := List.length_filter_le _ _
abbrev st_ranked : Stmt := top 24
abbrev n_ranked : List Str := ["council", "one", "other", "first", "second", "left", "found", "rank"]
abbrev p_ranked : List Str := ["council"]
theorem sc_ranked : FnScope n_ranked p_ranked (defScope st_ranked) := ⟨rfl, rfl, rfl, by decide +kernel, rfl, by decide +kernel, by decide +kernel⟩
theorem ok_ranked {f : Addr} {fd : FuncData} (F : Fun K "ranked" "ranked" st_ranked f fd) (T : Txt K mg C_Council C_Answer C_Weights C_Trade C_Ranks C_Unranked) (g_group_against : OkD P w K mg base CX0 3 "group_against" p_group_against (SpR K (c_group_against C_Council))) (g_Unranked_init : OkI P w K mg base CX0 1 "Unranked" C_Unranked p_Unranked_init (SpI K C_Unranked c_Unranked_init)) (g_stands : OkD P w K mg base CX0 4 "stands" p_stands (SpR K (c_stands C_Council))) (g_Ranks_init : OkI P w K mg base CX0 1 "Ranks" C_Ranks p_Ranks_init (SpI K C_Ranks c_Ranks_init)) : FnOk P w K mg base CX0 5 f fd p_ranked (SpR K (c_ranked C_Council C_Ranks C_Unranked)) := by
  refine F.ok sc_ranked (sp_len RC1.len) (fun cdv A outer s H vs Q E hr h => ?_)
  have hcl_Council := T.cl_Council
  have hna_Council_members := T.na_Council_members
  have hna_Council_table := T.na_Council_table
  have hcl_Answer := T.cl_Answer
  have hcl_Weights := T.cl_Weights
  have hcl_Trade := T.cl_Trade
  have hcl_Ranks := T.cl_Ranks
  have hna_Ranks_ranks := T.na_Ranks_ranks
  have hcl_Unranked := T.cl_Unranked
  have hna_Unranked_one := T.na_Unranked_one
  have hna_Unranked_other := T.na_Unranked_other
  have hna_Unranked_first := T.na_Unranked_first
  have hna_Unranked_second := T.na_Unranked_second
  have hic_Ranks := T.ic_Ranks
  have hic_Unranked := T.ic_Unranked
  have hki_Ranks_Answer := T.ki_Ranks_Answer
  have hki_Ranks_Ranks := T.ki_Ranks_Ranks
  have hki_Ranks_Unranked := T.ki_Ranks_Unranked
  have hki_Ranks_Weights := T.ki_Ranks_Weights
  have hki_Ranks_Trade := T.ki_Ranks_Trade
  have hki_Unranked_Answer := T.ki_Unranked_Answer
  have hki_Unranked_Ranks := T.ki_Unranked_Ranks
  have hki_Unranked_Unranked := T.ki_Unranked_Unranked
  have hki_Unranked_Weights := T.ki_Unranked_Weights
  have hki_Unranked_Trade := T.ki_Unranked_Trade
  refine ⟨_, (pss_cons (ps_for PassesOwn.never rfl (pi_range1 (by rfl) T.n_range (pa_cons (pe_fld (pv 0) rfl) pa_nil)) (pg_name (i := 1) sc_ranked.nd rfl (by first | exact Or.inl rfl | exact Or.inr rfl))
  (pss_one (ps_for PassesOwn.never rfl (pi_range1 (by rfl) T.n_range (pa_cons (pv 1) pa_nil)) (pg_name (i := 2) sc_ranked.nd rfl (by first | exact Or.inl rfl | exact Or.inr rfl))
  (pss_cons (ps_set (i := 3) sc_ranked.nd rfl (by first | exact Or.inl rfl | exact Or.inr rfl) (pe_callD g_group_against (hr.mono (by decide)) (by rfl) pass0 (pa_cons (pv 0) (pa_cons (pv 2) (pa_cons (pv 1) pa_nil)))))
  (pss_cons (ps_set (i := 4) sc_ranked.nd rfl (by first | exact Or.inl rfl | exact Or.inr rfl) (pe_callD g_group_against (hr.mono (by decide)) (by rfl) pass0 (pa_cons (pv 0) (pa_cons (pv 1) (pa_cons (pv 2) pa_nil)))))
  (pss_one (ps_if (PW.pt (pw_and (pt_cmpR op_ge (pv 3) pe_int (nomark _)) (pw_and1 (pt_cmpR op_ge (pv 4) pe_int (nomark _))))) (pss_one (ps_ret (pe_makeD g_Unranked_init (hr.mono (by decide)) (by rfl) pass0 (pa_cons (pv 1) (pa_cons (pv 2) (pa_cons (pv 3) (pa_cons (pv 4) pa_nil))))))) pss_nil)))))))
  (pss_cons (ps_set (i := 5) sc_ranked.nd rfl (by first | exact Or.inl rfl | exact Or.inr rfl) (pe_listRg rfl (by rfl) T.n_list (prg_1 (by rfl) T.n_range (pe_fld (pv 0) rfl))))
  (pss_cons (ps_set (i := 6) sc_ranked.nd rfl (by first | exact Or.inl rfl | exact Or.inr rfl) (pe_lst pa_nil))
  (pss_cons (ps_while PassesOwn.never (pt_cmpR (op_neD (hu64 hr)) (pv 5) (pe_lst pa_nil) (nomark _))
  (pss_cons (ps_set (i := 7) sc_ranked.nd rfl (by first | exact Or.inl rfl | exact Or.inr rfl) (pe_lc (own := [("one", 1)]) (g := gName 1) (te := (tVar 1)) (tt := (tB (tCB (rAll K) (tCons (tLc (iList K (tVar 5)) (gName 2) tYes (tCall (SpR K (c_stands C_Council)) [] E0 (tCons (tVar 0) (tCons (tVar 1) (tCons (tVar 2) tNil)))) [2]) tNil)))) (by exact rfl) sc_ranked.nd (pi_list (pv 5)) (blkOk_by (N := n_ranked) (sc := defScope st_ranked) (own := [("one", 1)]) (by decide +kernel)) (fun _ _ _ _ _ => (pg_name (i := 1) sc_ranked.nd rfl (by first | exact Or.inl rfl | exact Or.inr rfl))) (fun _ _ _ _ _ => pts_one (pt_val (pe_callB (cr_all rfl) (by rfl) T.n_all (by decide +kernel) (pa_cons (pe_lc (own := [("other", 2)]) (g := gName 2) (tt := tYes) (te := (tCall (SpR K (c_stands C_Council)) [] E0 (tCons (tVar 0) (tCons (tVar 1) (tCons (tVar 2) tNil))))) (by exact rfl) sc_ranked.nd (pi_list (pv 5)) (blkOk_by (own := [("other", 2)]) (by kernel_rfl)) (fun _ _ _ _ _ => (pg_name (i := 2) sc_ranked.nd rfl (by first | exact Or.inl rfl | exact Or.inr rfl))) (fun _ _ _ _ _ => pts_nil) (fun _ _ _ _ _ => (pe_callD g_stands (hr.mono (by decide)) (by rfl) pass0 (pa_cons (pv 0) (pa_cons (pv 1) (pa_cons (pv 2) pa_nil)))))) pa_nil)))) (fun _ _ _ _ _ => (pv 1))))
  (pss_cons (ps_expr (pe_bm PySem.F.plainAttrs_list PySem.F.slot_list_append PySem.F.type_list_append mt_append (pv 6) (pa_cons (pv 7) pa_nil)))
  (pss_one (ps_set (i := 5) sc_ranked.nd rfl (by first | exact Or.inl rfl | exact Or.inr rfl) (pe_lc (own := [("one", 1)]) (g := gName 1) (te := (tVar 1)) (tt := (tTest (tOp (rIn K true) (tVar 1) (tVar 7)))) (by exact rfl) sc_ranked.nd (pi_list (pv 5)) (blkOk_by (N := n_ranked) (sc := defScope st_ranked) (own := [("one", 1)]) (by decide +kernel)) (fun _ _ _ _ _ => (pg_name (i := 1) sc_ranked.nd rfl (by first | exact Or.inl rfl | exact Or.inr rfl))) (fun _ _ _ _ _ => pts_one (pt_cmpR op_notIn_seq (pv 1) (pv 7) (by rfl))) (fun _ _ _ _ _ => (pv 1))))))))
  (pss_one (ps_ret (pe_makeD g_Ranks_init (hr.mono (by decide)) (by rfl) pass0 (pa_cons (pv 6) pa_nil)))))))), go_of ?_ h⟩
  try dsimp only [L2.cxOf, L2.Cx.nox, L2.Cx.wish, L2.Cx.blk]
  rintro ds r ⟨n, t, rfl, ⟨hn, ht⟩, rfl⟩
  have hp := pow_le n hn
  show W K E _ [.fz (cou C_Council n t), .un, .un, .un, .un, .un, .un, .un] _
  refine w_seq (w_forX (β := Unit) (ys := List.range n) (f := nat) (fun i _ => ∀ x ∈ pairsM i, badM n t x = false) (fun _ => [.fz (cou C_Council n t), .un, .un, .un, .un, .un, .un, .un]) ?_ () (fun x hx => by simp [pairsM] at hx) (Fgt.refl _) ?_ ?_)
  · walk_at "it"
  · intro i x _ hx hI
    obtain ⟨hi, rfl⟩ := List.getElem?_eq_some_iff.mp hx
    rw [List.length_range] at hi
    rw [List.getElem_range]
    refine w_forX (β := Unit) (ys := List.range i) (f := nat) (fun j _ => ∀ b, b < j → badM n t (i, b) = false) (fun _ => [.fz (cou C_Council n t), .fz (nat i), .un, .un, .un, .un, .un, .un]) ?_ () (fun g hg => absurd hg (Nat.not_lt_zero g)) (Fgt.refl _) ?_ ?_
    · walk_at "it"
    · intro j x _ hx hJ
      obtain ⟨hj, rfl⟩ := List.getElem?_eq_some_iff.mp hx
      rw [List.length_range] at hj
      rw [List.getElem_range]
      have hjn : j < n := by omega
      refine w_seq (w_asg (d := .int (gaM n t j i)) (by walk_at "ev") ?_)
      refine w_seq (w_asg (d := .int (gaM n t i j)) (by walk_at "ev") ?_)
      refine w_if (b := badM n t (i, j)) ?_ (fun e => ?_) fun e => w_next ⟨(), fun b hb => ?_, .keep (.keep (.drop (.drop (.drop (.keep (.keep (.keep .nil)))))))⟩
      · apply et_is
        · walk_at "et"
        · rfl
      · refine w_ret (r := .frs (rankedD C_Ranks C_Unranked n t)) ?_ rfl
        obtain ⟨e1, e2⟩ := Bool.and_eq_true_iff.mp e
        obtain ⟨g1, q1, _⟩ := ga_pos (of_decide_eq_true e1)
        obtain ⟨g2, q2, _⟩ := ga_pos (of_decide_eq_true e2)
        have q1 : gaM n t j i = (g1 : Int) := q1
        have q2 : gaM n t i j = (g2 : Int) := q2
        have er : rankedD C_Ranks C_Unranked n t = urO C_Unranked i j g1 g2 := by
          unfold rankedD
          rw [find_pair hj hI hJ e n hi]
          show urO C_Unranked i j (gaM n t j i).toNat (gaM n t i j).toNat = _
          rw [q1, q2]
          rfl
        rw [er, q1, q2]
        with_reducible apply ev_make
        · walk_at "ea"
        · exact ⟨i, j, g1, g2, rfl, rfl⟩
      · rcases Nat.lt_or_eq_of_le (Nat.le_of_lt_succ hb) with z | z
        · exact hJ b z
        · subst z
          exact e
    · intro s _ hJ hs
      rw [List.length_range] at hJ
      refine ⟨(), fun x hx => ?_, hs.tr (.keep (.drop (.keep (.keep (.keep (.keep (.keep (.keep .nil))))))))⟩
      rw [pairs_succ] at hx
      rcases List.mem_append.mp hx with z | z
      · exact hI x z
      · obtain ⟨b, hb, rfl⟩ := List.mem_map.mp z
        exact hJ b (List.mem_range.mp hb)
  intro s _ hI hs
  rw [List.length_range] at hI
  refine w_fgt hs ?_
  have hnone : (pairsM n).find? (badM n t) = none := List.find?_eq_none.mpr fun x hx => by
    rw [hI x hx]
    decide
  have er : rankedD C_Ranks C_Unranked n t = rkO C_Ranks (ranksM n t) := by
    unfold rankedD
    rw [hnone]
  have T0 := tot_of hnone
  dsimp only
  rw [er]
  refine w_seq (w_asg (d := natL (List.range n)) ?_ ?_)
  · apply EvR.fz
    walk_at "evN"
  refine w_seq (w_asgN (xs := []) (by walk_at "evN") ?_)
  refine w_seq (w_while (fun m s => ∃ l acc k, m = l.length ∧ l.length ≤ k ∧ acc ++ ranksF (mayM n t) k l = ranksM n t ∧ acc.length + k ≤ 5 ∧ Tot (mayM n t) l ∧ (∀ a ∈ l, a < n) ∧ Fgt s [.fz (cou C_Council n t), .un, .un, .un, .un, .fz (natL l), .ow (acc.map natL), .un]) (List.range n).length ⟨List.range n, [], n, rfl, by rw [List.length_range]; exact Nat.le_refl _, rfl, by simpa using hn, T0, fun a ha => List.mem_range.mp ha, Fgt.refl _⟩ ?_)
  rintro m s ⟨l, acc, k, rfl, hk, hr, hz, Tl, hl, hF⟩
  refine ⟨!decide (l = []), ?_, fun e => ?_, fun e => ?_⟩
  · refine et_fgt hF ?_
    with_reducible apply et_test
    with_reducible apply ev_op (x := natL l) (y := natL [])
    · walk_at "ev"
    · exact EvR.fz (ev_lst ea_nil (by decide))
    · exact od_neN
  · have hne : l ≠ [] := by simpa using e
    refine w_fgt hF ?_
    refine w_seq (w_asg (d := natL (rankOf (mayM n t) l)) ?_ ?_)
    · apply EvR.fz
      show EvR K E _ _ (.new ((l.filter fun a => l.all fun b => mayM n t a b).map nat))
      with_reducible apply ev_lcF (ys := l) (c := nat) (f := fun a => l.all fun b => mayM n t a b) (v := nat)
      · walk_at "it"
      · omega
      · decide
      · intro a ha
        have ha := hl a ha
        with_reducible apply et_B
        with_reducible apply ev_cb
        · with_reducible apply ea_cons
          · with_reducible apply EvR.fz
            with_reducible apply ev_lcM (ys := l) (c := nat) (v := fun b => .bl (mayM n t a b))
            · walk_at "it"
            · omega
            · decide
            · intro b hb
              have hb := hl b hb
              walk_at "ev"
          · exact ea_nil
        · exact cb_allM
      · intro a ha hf
        walk_at "ev"
    refine w_seq (w_app (i := 6) rfl (d := natL (rankOf (mayM n t) l)) (ev_var rfl) (by rw [List.length_map]; omega) ?_)
    refine w_asg (d := natL (restOf (mayM n t) l)) ?_ ?_
    · apply EvR.fz
      show EvR K E _ _ (.new ((l.filter fun a => !decide (a ∈ rankOf (mayM n t) l)).map nat))
      with_reducible apply ev_lcF (ys := l) (c := nat) (f := fun a => !decide (a ∈ rankOf (mayM n t) l)) (v := nat)
      · walk_at "it"
      · omega
      · decide
      · intro a ha
        with_reducible apply et_test
        with_reducible apply ev_op
        · walk_at "ev"
        · walk_at "ev"
        · exact od_inN1
      · intro a ha hf
        walk_at "ev"
    · have hlt := rest_len (mayM n t) (Tl.ne _ hne)
      cases k with
      | zero => exact absurd (List.length_eq_zero_iff.mp (Nat.le_zero.mp hk)) hne
      | succ k =>
        refine ⟨_, hlt, restOf (mayM n t) l, acc ++ [rankOf (mayM n t) l], k, rfl, by omega, ?_, ?_, Tl.rest _, fun a ha => hl a ((mem_rest _).mp ha).1, ?_⟩
        · rw [← hr, ranksF_cons _ hne, List.append_assoc]
          rfl
        · rw [List.length_append, List.length_singleton]
          omega
        · rw [List.map_append]
          exact .keep (.keep (.keep (.keep (.keep (.keep (.keep (.drop .nil)))))))
  · have hl0 : l = [] := by simpa using e
    subst hl0
    rw [ranksF_nil, List.append_nil] at hr
    subst hr
    refine w_fgt hF (w_fix (i := 6) rfl (w_ret (r := .frs (rkO C_Ranks (ranksM n t))) ?_ rfl))
    with_reducible apply ev_make
    · with_reducible apply ea_cons (x := natLL (ranksM n t))
      · exact ev_var rfl
      · exact ea_nil
    · exact ⟨_, rfl, by omega, rfl⟩
def c_law_may : List D → Rs → Prop := fun ds r => ∃ n t a b, ds = [blL t, nat a, nat b] ∧ (n ≤ 5 ∧ t.length = 2 ^ n ∧ a < n ∧ b < n) ∧ r = .dat (.bl (mayM n t a b))
abbrev st_law_may : Stmt := top 31
abbrev n_law_may : List Str := ["_law_table_here", "_law_one", "_law_other", "_law_group"]
abbrev p_law_may : List Str := ["_law_table_here", "_law_one", "_law_other"]
theorem sc_law_may : FnScope n_law_may p_law_may (defScope st_law_may) := ⟨rfl, rfl, rfl, by decide +kernel, rfl, by decide +kernel, by decide +kernel⟩
theorem ok_law_may {f : Addr} {fd : FuncData} (F : Fun K "_law_may" "_law_may" st_law_may f fd) (T : Txt K mg C_Council C_Answer C_Weights C_Trade C_Ranks C_Unranked) (g_law_has : OkD P w K mg base CX0 1 "_law_has" p_law_has (SpR K c_law_has)) : FnOk P w K mg base CX0 2 f fd p_law_may (SpR K c_law_may) := by
  refine F.ok sc_law_may (sp_len (by rintro ds r ⟨_, _, _, _, rfl, _⟩; rfl)) (fun cdv A outer s H vs Q E hr h => ?_)
  have hcl_Council := T.cl_Council
  have hna_Council_members := T.na_Council_members
  have hna_Council_table := T.na_Council_table
  have hcl_Answer := T.cl_Answer
  have hcl_Weights := T.cl_Weights
  have hcl_Trade := T.cl_Trade
  have hcl_Ranks := T.cl_Ranks
  have hna_Ranks_ranks := T.na_Ranks_ranks
  have hcl_Unranked := T.cl_Unranked
  have hna_Unranked_one := T.na_Unranked_one
  have hna_Unranked_other := T.na_Unranked_other
  have hna_Unranked_first := T.na_Unranked_first
  have hna_Unranked_second := T.na_Unranked_second
  have hic_Ranks := T.ic_Ranks
  have hic_Unranked := T.ic_Unranked
  have hki_Ranks_Answer := T.ki_Ranks_Answer
  have hki_Ranks_Ranks := T.ki_Ranks_Ranks
  have hki_Ranks_Unranked := T.ki_Ranks_Unranked
  have hki_Ranks_Weights := T.ki_Ranks_Weights
  have hki_Ranks_Trade := T.ki_Ranks_Trade
  have hki_Unranked_Answer := T.ki_Unranked_Answer
  have hki_Unranked_Ranks := T.ki_Unranked_Ranks
  have hki_Unranked_Unranked := T.ki_Unranked_Unranked
  have hki_Unranked_Weights := T.ki_Unranked_Weights
  have hki_Unranked_Trade := T.ki_Unranked_Trade
  refine ⟨_, (pss_cons (ps_for PassesOwn.never rfl (pi_range1 (by rfl) T.n_range (pa_cons (pe_callB call_len_seq (by rfl) T.n_len (PySem.boot_len) (pa_cons (pv 0) pa_nil)) pa_nil)) (pg_name (i := 3) sc_law_may.nd rfl (by first | exact Or.inl rfl | exact Or.inr rfl))
  (pss_one (ps_if (PW.pt (pw_and (pt_not (pt_val (pe_callD g_law_has (hr.mono (by decide)) (by rfl) pass0 (pa_cons (pv 3) (pa_cons (pv 1) pa_nil))))) (pw_and1 (pt_not (pt_val (pe_callD g_law_has (hr.mono (by decide)) (by rfl) pass0 (pa_cons (pv 3) (pa_cons (pv 2) pa_nil)))))))) (pss_one (ps_if (PW.pt (pw_and (pt_val (pe_ix ix_list (pv 0) (pe_op op_or (pv 3) (pe_op op_shl pe_int (pv 2))) (fun _ _ => rfl))) (pw_and1 (pt_not (pt_val (pe_ix ix_list (pv 0) (pe_op op_or (pv 3) (pe_op op_shl pe_int (pv 1))) (fun _ _ => rfl))))))) (pss_one (ps_ret pe_bl)) pss_nil)) pss_nil)))
  (pss_one (ps_ret pe_bl))), go_of ?_ h⟩
  try dsimp only [L2.cxOf, L2.Cx.nox, L2.Cx.wish, L2.Cx.blk]
  rintro ds r ⟨n, t, a, b, rfl, ⟨hn, ht, ha, hb⟩, rfl⟩
  have hp := pow_le n hn
  show W K E _ [.fz (blL t), .fz (nat a), .fz (nat b), .un] _
  refine w_seq (w_forX (β := Unit) (ys := List.range t.length) (f := nat) (fun i _ => ∀ g, g < i → agst t a b g = false) (fun _ => [.fz (blL t), .fz (nat a), .fz (nat b), .un]) ?_ () (fun g hg => absurd hg (Nat.not_lt_zero g)) (Fgt.refl _) ?_ ?_)
  · walk_at "it"
  · intro i x _ hx hI
    obtain ⟨hi, rfl⟩ := List.getElem?_eq_some_iff.mp hx
    rw [List.length_range, ht] at hi
    rw [List.getElem_range]
    have h1 : i ||| 2 ^ a < t.length := by
      rw [ht]
      exact or_lt hi ha
    have h2 : i ||| 2 ^ b < t.length := by
      rw [ht]
      exact or_lt hi hb
    have up : agst t a b i = false → ∀ g, g < i + 1 → agst t a b g = false := fun z g hg => by
      rcases Nat.lt_or_eq_of_le (Nat.le_of_lt_succ hg) with w | w
      · exact hI g w
      · rw [w]
        exact z
    refine w_if (b := !i.testBit a && !i.testBit b) ?_ (fun e1 => ?_) fun e1 => w_next ⟨(), up ?_, .keep (.keep (.keep (.drop .nil)))⟩
    · walk_at "et"
    · refine w_if (b := t.getD (i ||| 2 ^ b) false && !t.getD (i ||| 2 ^ a) false) ?_ (fun e2 => ?_) fun e2 => w_next ⟨(), up ?_, .keep (.keep (.keep (.drop .nil)))⟩
      · walk_at "et"
      · refine w_ret (r := .dat (.bl (mayM n t a b))) ?_ rfl
        rw [← ga_neg, ga_at hi (by unfold agst; rw [e1, e2]; rfl) hI]
        apply ev_is (d := .bl false) ev_bl
        rw [decide_eq_false (by omega)]
      · unfold agst
        rw [e2, Bool.and_false]
    · unfold agst
      rw [e1, Bool.false_and]
  · intro s _ hI hs
    rw [List.length_range, ht] at hI
    refine w_fgt hs (w_ret (r := .dat (.bl (mayM n t a b))) ?_ rfl)
    rw [← ga_neg, ga_none hI]
    exact ev_bl
def c_law_flat : List D → Rs → Prop := R1 natLL (fun xss => xss.length ≤ 1000 ∧ xss.flatten.length ≤ 1000) fun xss => .new (xss.flatten.map nat)
abbrev st_law_flat : Stmt := top 32
abbrev n_law_flat : List Str := ["_law_ranks", "_law_found", "_law_rank"]
abbrev p_law_flat : List Str := ["_law_ranks"]
theorem sc_law_flat : FnScope n_law_flat p_law_flat (defScope st_law_flat) := ⟨rfl, rfl, rfl, by decide +kernel, rfl, by decide +kernel, by decide +kernel⟩
theorem ok_law_flat {f : Addr} {fd : FuncData} (F : Fun K "_law_flat" "_law_flat" st_law_flat f fd) (T : Txt K mg C_Council C_Answer C_Weights C_Trade C_Ranks C_Unranked) : FnOk P w K mg base CX0 1 f fd p_law_flat (SpR K c_law_flat) := by
  refine F.ok sc_law_flat (sp_len R1.len) (fun cdv A outer s H vs Q E hr h => ?_)
  have hcl_Council := T.cl_Council
  have hna_Council_members := T.na_Council_members
  have hna_Council_table := T.na_Council_table
  have hcl_Answer := T.cl_Answer
  have hcl_Weights := T.cl_Weights
  have hcl_Trade := T.cl_Trade
  have hcl_Ranks := T.cl_Ranks
  have hna_Ranks_ranks := T.na_Ranks_ranks
  have hcl_Unranked := T.cl_Unranked
  have hna_Unranked_one := T.na_Unranked_one
  have hna_Unranked_other := T.na_Unranked_other
  have hna_Unranked_first := T.na_Unranked_first
  have hna_Unranked_second := T.na_Unranked_second
  have hic_Ranks := T.ic_Ranks
  have hic_Unranked := T.ic_Unranked
  have hki_Ranks_Answer := T.ki_Ranks_Answer
  have hki_Ranks_Ranks := T.ki_Ranks_Ranks
  have hki_Ranks_Unranked := T.ki_Ranks_Unranked
  have hki_Ranks_Weights := T.ki_Ranks_Weights
  have hki_Ranks_Trade := T.ki_Ranks_Trade
  have hki_Unranked_Answer := T.ki_Unranked_Answer
  have hki_Unranked_Ranks := T.ki_Unranked_Ranks
  have hki_Unranked_Unranked := T.ki_Unranked_Unranked
  have hki_Unranked_Weights := T.ki_Unranked_Weights
  have hki_Unranked_Trade := T.ki_Unranked_Trade
  refine ⟨_, (pss_cons (ps_set (i := 1) sc_law_flat.nd rfl (by first | exact Or.inl rfl | exact Or.inr rfl) (pe_lst pa_nil))
  (pss_cons (ps_for PassesOwn.never rfl (pi_list (pv 0)) (pg_name (i := 2) sc_law_flat.nd rfl (by first | exact Or.inl rfl | exact Or.inr rfl))
  (pss_one (ps_expr (pe_bm PySem.F.plainAttrs_list PySem.F.slot_list_extend PySem.F.type_list_extend mt_extend (pv 1) (pa_cons (pv 2) pa_nil)))))
  (pss_one (ps_ret (pv 1))))), go_of ?_ h⟩
  try dsimp only [L2.cxOf, L2.Cx.nox, L2.Cx.wish, L2.Cx.blk]
  rintro ds r ⟨xss, rfl, ⟨hl, hf⟩, rfl⟩
  show W K E _ [.fz (natLL xss), .un, .un] _
  refine w_seq (w_asgN (xs := []) (by walk_at "evN") ?_)
  refine w_seq (w_forS (ys := xss) (f := natL) (fun i => [.fz (natLL xss), .ow ((xss.take i).flatten.map nat), .un]) ?_ (Fgt.refl _) ?_ ?_)
  · walk_at "it"
  · intro i a ha
    obtain ⟨hi, rfl⟩ := List.getElem?_eq_some_iff.mp ha
    have et : (xss.take (i + 1)).flatten = (xss.take i).flatten ++ xss[i] := by
      rw [List.take_add_one, List.getElem?_eq_getElem hi, List.flatten_append]
      simp
    have hs : (xss.take (i + 1)).flatten.length ≤ xss.flatten.length := by
      have e2 : xss.flatten.length = (xss.take (i + 1)).flatten.length + (xss.drop (i + 1)).flatten.length := by rw [← List.length_append, ← List.flatten_append, List.take_append_drop]
      omega
    rw [et, List.length_append] at hs
    refine w_ext (i := 1) rfl (ys := xss[i].map nat) ?_ (by rw [List.length_map, List.length_map]; omega) ?_
    · exact ev_var rfl
    · show Fgt _ _
      rw [et, List.map_append]
      exact .keep (.keep (.drop .nil))
  · intro s hs
    rw [List.take_length] at hs
    exact w_fgt hs (w_retO (i := 1) rfl rfl)
def c_law_in_ranks : List D → Rs → Prop := fun ds r => ∃ n t xss, ds = [blL t, nat n, natLL xss] ∧ (n ≤ 5 ∧ t.length = 2 ^ n ∧ xss.length ≤ 1000 ∧ xss.flatten.length ≤ 1000) ∧ r = .dat (.bl (rkHolds n t xss))
theorem flat_drop_len (xss : List (List Nat)) (k : Nat) : (xss.drop k).flatten.length ≤ xss.flatten.length ∧ (xss.take k).flatten.length ≤ xss.flatten.length := by
  have e2 : xss.flatten.length = (xss.take k).flatten.length + (xss.drop k).flatten.length := by rw [← List.length_append, ← List.flatten_append, List.take_append_drop]
  omega
abbrev st_law_in_ranks : Stmt := top 33
abbrev n_law_in_ranks : List Str := ["_law_table_here", "_law_members", "_law_ranks", "_law_at", "_law_one", "_law_member"]
abbrev p_law_in_ranks : List Str := ["_law_table_here", "_law_members", "_law_ranks"]
theorem sc_law_in_ranks : FnScope n_law_in_ranks p_law_in_ranks (defScope st_law_in_ranks) := ⟨rfl, rfl, rfl, by decide +kernel, rfl, by decide +kernel, by decide +kernel⟩
theorem ok_law_in_ranks {f : Addr} {fd : FuncData} (F : Fun K "_law_in_ranks" "_law_in_ranks" st_law_in_ranks f fd) (T : Txt K mg C_Council C_Answer C_Weights C_Trade C_Ranks C_Unranked) (g_law_flat : OkD P w K mg base CX0 1 "_law_flat" p_law_flat (SpR K c_law_flat)) (g_law_may : OkD P w K mg base CX0 2 "_law_may" p_law_may (SpR K c_law_may)) : FnOk P w K mg base CX0 3 f fd p_law_in_ranks (SpR K c_law_in_ranks) := by
  refine F.ok sc_law_in_ranks (sp_len (by rintro ds r ⟨_, _, _, rfl, _⟩; rfl)) (fun cdv A outer s H vs Q E hr h => ?_)
  have hcl_Council := T.cl_Council
  have hna_Council_members := T.na_Council_members
  have hna_Council_table := T.na_Council_table
  have hcl_Answer := T.cl_Answer
  have hcl_Weights := T.cl_Weights
  have hcl_Trade := T.cl_Trade
  have hcl_Ranks := T.cl_Ranks
  have hna_Ranks_ranks := T.na_Ranks_ranks
  have hcl_Unranked := T.cl_Unranked
  have hna_Unranked_one := T.na_Unranked_one
  have hna_Unranked_other := T.na_Unranked_other
  have hna_Unranked_first := T.na_Unranked_first
  have hna_Unranked_second := T.na_Unranked_second
  have hic_Ranks := T.ic_Ranks
  have hic_Unranked := T.ic_Unranked
  have hki_Ranks_Answer := T.ki_Ranks_Answer
  have hki_Ranks_Ranks := T.ki_Ranks_Ranks
  have hki_Ranks_Unranked := T.ki_Ranks_Unranked
  have hki_Ranks_Weights := T.ki_Ranks_Weights
  have hki_Ranks_Trade := T.ki_Ranks_Trade
  have hki_Unranked_Answer := T.ki_Unranked_Answer
  have hki_Unranked_Ranks := T.ki_Unranked_Ranks
  have hki_Unranked_Unranked := T.ki_Unranked_Unranked
  have hki_Unranked_Weights := T.ki_Unranked_Weights
  have hki_Unranked_Trade := T.ki_Unranked_Trade
  refine ⟨_, (pss_cons (ps_if (PW.pt (pw_or (pt_cmpR (op_neD (hu64 hr)) (pe_callB cr_sortedI (by rfl) T.n_sorted (by decide +kernel) (pa_cons (pe_callD g_law_flat (hr.mono (by decide)) (by rfl) pass0 (pa_cons (pv 2) pa_nil)) pa_nil)) (pe_listRg rfl (by rfl) T.n_list (prg_1 (by rfl) T.n_range (pv 1))) (nomark _)) (pw_or1 (pt_cmpR (op_inD (hu65 hr)) (pe_lst pa_nil) (pv 2) (by rfl))))) (pss_one (ps_ret pe_bl)) pss_nil)
  (pss_cons (ps_for PassesOwn.never rfl (pi_range1 (by rfl) T.n_range (pa_cons (pe_callB call_len_seq (by rfl) T.n_len (PySem.boot_len) (pa_cons (pv 2) pa_nil)) pa_nil)) (pg_name (i := 3) sc_law_in_ranks.nd rfl (by first | exact Or.inl rfl | exact Or.inr rfl))
  (pss_one (ps_for PassesOwn.never rfl (pi_list (pe_ix ix_list (pv 2) (pv 3) (fun _ _ => rfl))) (pg_name (i := 4) sc_law_in_ranks.nd rfl (by first | exact Or.inl rfl | exact Or.inr rfl))
  (pss_cons (ps_if (pt_not (pt_val (pe_callB (cr_all rfl) (by rfl) T.n_all (by decide +kernel) (pa_cons (pe_lc (own := [("_law_member", 5)]) (g := gName 5) (tt := tYes) (te := (tCall (SpR K c_law_may) [] E0 (tCons (tVar 0) (tCons (tVar 4) (tCons (tVar 5) tNil))))) (by exact rfl) sc_law_in_ranks.nd (pi_list (pe_callD g_law_flat (hr.mono (by decide)) (by rfl) pass0 (pa_cons (pe_slice sl_list (pv 2) (po_some (pv 3)) po_none) pa_nil))) (blkOk_by (N := n_law_in_ranks) (sc := defScope st_law_in_ranks) (own := [("_law_member", 5)]) (by decide +kernel)) (fun _ _ _ _ _ => (pg_name (i := 5) sc_law_in_ranks.nd rfl (by first | exact Or.inl rfl | exact Or.inr rfl))) (fun _ _ _ _ _ => pts_nil) (fun _ _ _ _ _ => (pe_callD g_law_may (hr.mono (by decide)) (by rfl) pass0 (pa_cons (pv 0) (pa_cons (pv 4) (pa_cons (pv 5) pa_nil)))))) pa_nil)))) (pss_one (ps_ret pe_bl)) pss_nil)
  (pss_one (ps_if (pt_val (pe_callB (cr_any rfl) (by rfl) T.n_any (by decide +kernel) (pa_cons (pe_lc (own := [("_law_member", 5)]) (g := gName 5) (tt := tYes) (te := (tCall (SpR K c_law_may) [] E0 (tCons (tVar 0) (tCons (tVar 4) (tCons (tVar 5) tNil))))) (by exact rfl) sc_law_in_ranks.nd (pi_list (pe_callD g_law_flat (hr.mono (by decide)) (by rfl) pass0 (pa_cons (pe_slice sl_list (pv 2) po_none (po_some (pv 3))) pa_nil))) (blkOk_by (N := n_law_in_ranks) (sc := defScope st_law_in_ranks) (own := [("_law_member", 5)]) (by decide +kernel)) (fun _ _ _ _ _ => (pg_name (i := 5) sc_law_in_ranks.nd rfl (by first | exact Or.inl rfl | exact Or.inr rfl))) (fun _ _ _ _ _ => pts_nil) (fun _ _ _ _ _ => (pe_callD g_law_may (hr.mono (by decide)) (by rfl) pass0 (pa_cons (pv 0) (pa_cons (pv 4) (pa_cons (pv 5) pa_nil)))))) pa_nil))) (pss_one (ps_ret pe_bl)) pss_nil))))))
  (pss_one (ps_ret pe_bl)))), go_of ?_ h⟩
  try dsimp only [L2.cxOf, L2.Cx.nox, L2.Cx.wish, L2.Cx.blk]
  rintro ds r ⟨n, t, xss, rfl, ⟨hn, ht, hl, hf⟩, rfl⟩
  show W K E _ [.fz (blL t), .fz (nat n), .fz (natLL xss), .un, .un, .un] _
  refine w_seq (w_if (b := !decide (srt xss.flatten = List.range n) || decide ([] ∈ xss)) ?_ (fun hb => ?_) fun hb => w_next ?_)
  · with_reducible apply et_or
    · with_reducible apply et_test
      with_reducible apply ev_op (x := natL (srt xss.flatten)) (y := natL (List.range n))
      · apply EvR.fz
        with_reducible apply ev_cb
        · with_reducible apply ea_cons (x := natL xss.flatten)
          · apply EvR.fz
            with_reducible apply ev_callN
            · walk_at "ea"
            · exact R1.mk (c := natLL) (x := xss) ⟨hl, hf⟩
          · exact ea_nil
        · exact cb_sortedN
      · walk_at "ev"
      · exact od_neN
    · intro _
      with_reducible apply et_test
      with_reducible apply ev_op (x := natL [])
      · exact EvR.fz (ev_lst ea_nil (by decide))
      · walk_at "ev"
      · exact od_inLL
  · refine w_ret (r := .dat (.bl (rkHolds n t xss))) ?_ rfl
    have e : rkHolds n t xss = false := by
      unfold rkHolds
      rcases Bool.or_eq_true_iff.mp hb with z | z
      · rw [Bool.not_eq_true'] at z
        rw [z, Bool.false_and]
      · rw [z]
        simp
    rw [e]
    exact ev_bl
  obtain ⟨hb1, hb2⟩ := Bool.or_eq_false_iff.mp hb
  have hs1 : srt xss.flatten = List.range n := by simpa using hb1
  have hlt := flat_lt hs1
  have hnd : xss.flatten.Nodup := by
    have h := srt_perm xss.flatten
    rw [hs1] at h
    exact h.nodup List.nodup_range
  have er : rkHolds n t xss = lawR (mayM n t) xss := by
    unfold rkHolds
    rw [decide_eq_true hs1, hb2, prog_law _ (may_refl n t) hnd]
    simp
  have hd : ∀ k, ∀ a ∈ (xss.drop k).flatten, a < n := fun k a ha => hlt a (by
    obtain ⟨r, hr, har⟩ := List.mem_flatten.mp ha
    exact List.mem_flatten.mpr ⟨r, List.mem_of_mem_drop hr, har⟩)
  have hk : ∀ k, ∀ a ∈ (xss.take k).flatten, a < n := fun k a ha => hlt a (by
    obtain ⟨r, hr, har⟩ := List.mem_flatten.mp ha
    exact List.mem_flatten.mpr ⟨r, List.mem_of_mem_take hr, har⟩)
  refine w_seq (w_forX (β := Unit) (ys := List.range xss.length) (f := nat) (fun k _ => ∀ k', k' < k → lawAt (mayM n t) xss k' = true) (fun _ => [.fz (blL t), .fz (nat n), .fz (natLL xss), .un, .un, .un]) ?_ () (fun g hg => absurd hg (Nat.not_lt_zero g)) (Fgt.refl _) ?_ ?_)
  · walk_at "it"
  · intro k x _ hx hI
    obtain ⟨hk1, rfl⟩ := List.getElem?_eq_some_iff.mp hx
    rw [List.length_range] at hk1
    rw [List.getElem_range]
    refine w_forX (β := Unit) (ys := xss.getD k []) (f := nat) (fun i _ => ∀ x ∈ (xss.getD k []).take i, (((xss.drop k).flatten.all fun m => mayM n t x m) && !((xss.take k).flatten.any fun m => mayM n t x m)) = true) (fun _ => [.fz (blL t), .fz (nat n), .fz (natLL xss), .fz (nat k), .un, .un]) ?_ () (fun x hx => by simp at hx) (Fgt.refl _) ?_ ?_
    · walk_at "it"
    · intro i a _ ha hJ
      have hak : a < n := hd k a (List.mem_flatten.mpr ⟨xss.getD k [], by
        rw [List.getD_eq_getElem?_getD, List.getElem?_eq_getElem hk1]
        show xss[k] ∈ xss.drop k
        rw [List.drop_eq_getElem_cons hk1]
        exact List.mem_cons_self, List.mem_of_getElem? ha⟩)
      have fl := flat_drop_len xss k
      have bad : ∀ b : Bool, (((xss.drop k).flatten.all fun m => mayM n t a m) && !((xss.take k).flatten.any fun m => mayM n t a m)) = false → EvR K E (tC (.bl false)) [.fz (blL t), .fz (nat n), .fz (natLL xss), .fz (nat k), .fz (nat a), .un] (.dat (.bl (rkHolds n t xss))) := fun _ z => by
        have e2 : rkHolds n t xss = false := by
          rw [er]
          cases w : lawR (mayM n t) xss with
          | false => rfl
          | true =>
            unfold lawR at w
            rw [List.all_eq_true] at w
            have w := w k (List.mem_range.mpr hk1)
            unfold lawAt at w
            rw [List.all_eq_true] at w
            have w := w a (List.mem_of_getElem? ha)
            rw [z] at w
            cases w
        rw [e2]
        exact ev_bl
      refine w_seq (w_if (b := !((xss.drop k).flatten.all fun m => mayM n t a m)) ?_ (fun e => ?_) fun e => w_next ?_)
      · with_reducible apply et_not
        with_reducible apply et_B
        with_reducible apply ev_cb
        · with_reducible apply ea_cons
          · with_reducible apply EvR.fz
            with_reducible apply ev_lcM (ys := (xss.drop k).flatten) (c := nat) (v := fun m => .bl (mayM n t a m))
            · with_reducible apply it_list
              apply EvR.fz
              with_reducible apply ev_callN
              · with_reducible apply ea_cons (x := natLL (xss.drop k))
                · apply EvR.fz
                  rw [← cutA_drop]
                  apply ev_slA (f := natL)
                  · exact ev_var rfl
                  · exact eo_some (ev_var rfl)
                  · exact eo_none
                · exact ea_nil
              · exact R1.mk (c := natLL) (x := xss.drop k) ⟨by rw [List.length_drop]; omega, by omega⟩
            · omega
            · decide
            · intro m hm
              have hm := hd k m hm
              with_reducible apply ev_call
              · walk_at "ea"
              · exact ⟨n, t, a, m, rfl, ⟨hn, ht, hak, hm⟩, rfl⟩
          · exact ea_nil
        · exact cb_allM
      · refine w_ret (r := .dat (.bl (rkHolds n t xss))) (bad true ?_) rfl
        rw [Bool.not_eq_true'] at e
        rw [e, Bool.false_and]
      refine w_if (b := (xss.take k).flatten.any fun m => mayM n t a m) ?_ (fun e2 => ?_) fun e2 => w_next ⟨(), fun x hx => ?_, .keep (.keep (.keep (.keep (.drop (.keep .nil)))))⟩
      · with_reducible apply et_B
        with_reducible apply ev_cb
        · with_reducible apply ea_cons
          · with_reducible apply EvR.fz
            with_reducible apply ev_lcM (ys := (xss.take k).flatten) (c := nat) (v := fun m => .bl (mayM n t a m))
            · with_reducible apply it_list
              apply EvR.fz
              with_reducible apply ev_callN
              · with_reducible apply ea_cons (x := natLL (xss.take k))
                · apply EvR.fz
                  rw [← cutA_take]
                  apply ev_slA (f := natL)
                  · exact ev_var rfl
                  · exact eo_none
                  · exact eo_some (ev_var rfl)
                · exact ea_nil
              · exact R1.mk (c := natLL) (x := xss.take k) ⟨by rw [List.length_take]; omega, by omega⟩
            · omega
            · decide
            · intro m hm
              have hm := hk k m hm
              with_reducible apply ev_call
              · walk_at "ea"
              · exact ⟨n, t, a, m, rfl, ⟨hn, ht, hak, hm⟩, rfl⟩
          · exact ea_nil
        · exact cb_anyM
      · refine w_ret (r := .dat (.bl (rkHolds n t xss))) (bad true ?_) rfl
        rw [e2]
        simp
      · rw [List.take_add_one, ha] at hx
        rcases List.mem_append.mp hx with z | z
        · exact hJ x z
        · have z : x = a := by simpa using z
          subst z
          rw [Bool.not_eq_false'] at e
          rw [e, e2]
          rfl
    · intro s _ hJ hs
      rw [List.take_length] at hJ
      refine ⟨(), fun k' hk' => ?_, hs.tr (.keep (.keep (.keep (.drop (.keep (.keep .nil))))))⟩
      rcases Nat.lt_or_eq_of_le (Nat.le_of_lt_succ hk') with z | z
      · exact hI k' z
      · subst z
        unfold lawAt
        exact List.all_eq_true.mpr hJ
  · intro s _ hI hs
    rw [List.length_range] at hI
    refine w_fgt hs (w_ret (r := .dat (.bl (rkHolds n t xss))) ?_ rfl)
    have e2 : rkHolds n t xss = true := by
      rw [er]
      unfold lawR
      exact List.all_eq_true.mpr fun k hk => hI k (List.mem_range.mp hk)
    rw [e2]
    exact ev_bl
def c_law_shown : List D → Rs → Prop := fun ds r => ∃ a b f s n t, ds = [blL t, nat a, nat b, nat f, nat s] ∧ (n ≤ 5 ∧ t.length = 2 ^ n ∧ a < n ∧ b < n ∧ f < 2 ^ n ∧ s < 2 ^ n) ∧ r = .dat (.bl (shownM t a b f s))
abbrev st_law_shown : Stmt := top 34
abbrev n_law_shown : List Str := ["_law_table_here", "_law_one", "_law_other", "_law_first", "_law_second", "_law_group"]
abbrev p_law_shown : List Str := ["_law_table_here", "_law_one", "_law_other", "_law_first", "_law_second"]
theorem sc_law_shown : FnScope n_law_shown p_law_shown (defScope st_law_shown) := ⟨rfl, rfl, rfl, by decide +kernel, rfl, by decide +kernel, by decide +kernel⟩
theorem ok_law_shown {f : Addr} {fd : FuncData} (F : Fun K "_law_shown" "_law_shown" st_law_shown f fd) (T : Txt K mg C_Council C_Answer C_Weights C_Trade C_Ranks C_Unranked) (g_law_has : OkD P w K mg base CX0 1 "_law_has" p_law_has (SpR K c_law_has)) : FnOk P w K mg base CX0 2 f fd p_law_shown (SpR K c_law_shown) := by
  refine F.ok sc_law_shown (sp_len (by rintro ds r ⟨_, _, _, _, _, _, rfl, _⟩; rfl)) (fun cdv A outer s H vs Q E hr h => ?_)
  have hcl_Council := T.cl_Council
  have hna_Council_members := T.na_Council_members
  have hna_Council_table := T.na_Council_table
  have hcl_Answer := T.cl_Answer
  have hcl_Weights := T.cl_Weights
  have hcl_Trade := T.cl_Trade
  have hcl_Ranks := T.cl_Ranks
  have hna_Ranks_ranks := T.na_Ranks_ranks
  have hcl_Unranked := T.cl_Unranked
  have hna_Unranked_one := T.na_Unranked_one
  have hna_Unranked_other := T.na_Unranked_other
  have hna_Unranked_first := T.na_Unranked_first
  have hna_Unranked_second := T.na_Unranked_second
  have hic_Ranks := T.ic_Ranks
  have hic_Unranked := T.ic_Unranked
  have hki_Ranks_Answer := T.ki_Ranks_Answer
  have hki_Ranks_Ranks := T.ki_Ranks_Ranks
  have hki_Ranks_Unranked := T.ki_Ranks_Unranked
  have hki_Ranks_Weights := T.ki_Ranks_Weights
  have hki_Ranks_Trade := T.ki_Ranks_Trade
  have hki_Unranked_Answer := T.ki_Unranked_Answer
  have hki_Unranked_Ranks := T.ki_Unranked_Ranks
  have hki_Unranked_Unranked := T.ki_Unranked_Unranked
  have hki_Unranked_Weights := T.ki_Unranked_Weights
  have hki_Unranked_Trade := T.ki_Unranked_Trade
  refine ⟨_, (pss_cons (ps_for PassesOwn.never rfl (pi_list (pe_lst (pa_cons (pv 3) (pa_cons (pv 4) pa_nil)))) (pg_name (i := 5) sc_law_shown.nd rfl (by first | exact Or.inl rfl | exact Or.inr rfl))
  (pss_one (ps_if (PW.pt (pw_or (pt_cmpR op_eq (pv 1) (pv 2) (nomark _)) (pw_or (pt_val (pe_callD g_law_has (hr.mono (by decide)) (by rfl) pass0 (pa_cons (pv 5) (pa_cons (pv 1) pa_nil)))) (pw_or1 (pt_val (pe_callD g_law_has (hr.mono (by decide)) (by rfl) pass0 (pa_cons (pv 5) (pa_cons (pv 2) pa_nil)))))))) (pss_one (ps_ret pe_bl)) pss_nil)))
  (pss_cons (ps_if (PW.pt (pw_or (pt_not (pt_val (pe_ix ix_list (pv 0) (pe_op op_or (pv 3) (pe_op op_shl pe_int (pv 1))) (fun _ _ => rfl)))) (pw_or1 (pt_val (pe_ix ix_list (pv 0) (pe_op op_or (pv 3) (pe_op op_shl pe_int (pv 2))) (fun _ _ => rfl)))))) (pss_one (ps_ret pe_bl)) pss_nil)
  (pss_one (ps_ret (pe_and (pe_ix ix_list (pv 0) (pe_op op_or (pv 4) (pe_op op_shl pe_int (pv 2))) (fun _ _ => rfl)) (pe_one (pe_not (pe_ix ix_list (pv 0) (pe_op op_or (pv 4) (pe_op op_shl pe_int (pv 1))) (fun _ _ => rfl))))))))), go_of ?_ h⟩
  try dsimp only [L2.cxOf, L2.Cx.nox, L2.Cx.wish, L2.Cx.blk]
  rintro ds r ⟨a, b, f, s, n, t, rfl, ⟨hn, ht, ha, hb, hf, hs⟩, rfl⟩
  have hp := pow_le n hn
  have h1 : f ||| 2 ^ a < t.length := by rw [ht]; exact or_lt hf ha
  have h2 : f ||| 2 ^ b < t.length := by rw [ht]; exact or_lt hf hb
  have h3 : s ||| 2 ^ a < t.length := by rw [ht]; exact or_lt hs ha
  have h4 : s ||| 2 ^ b < t.length := by rw [ht]; exact or_lt hs hb
  have dec : decide (a ≠ b) = !decide (a = b) := by
    by_cases z : a = b <;> simp [z]
  show W K E _ [.fz (blL t), .fz (nat a), .fz (nat b), .fz (nat f), .fz (nat s), .un] _
  refine w_seq (w_for (xs := [nat f, nat s]) (fun i st => Fgt st [.fz (blL t), .fz (nat a), .fz (nat b), .fz (nat f), .fz (nat s), .un] ∧ (1 ≤ i → (decide (a = b) || (f.testBit a || f.testBit b)) = false) ∧ (2 ≤ i → (decide (a = b) || (s.testBit a || s.testBit b)) = false)) ?_ ⟨Fgt.refl _, fun z => absurd z (by decide), fun z => absurd z (by decide)⟩ ?_ ?_)
  · with_reducible apply it_list
    apply EvR.fz
    walk_at "evN"
  · intro i d st hd hI
    obtain ⟨hF, hI1, hI2⟩ := hI
    have bad : ∀ g : Nat, (g = f ∨ g = s) → (decide (a = b) || (g.testBit a || g.testBit b)) = true → shownM t a b f s = false := fun g hg z => by
      unfold shownM
      rw [dec]
      rcases Bool.or_eq_true_iff.mp z with w | w
      · rw [w]
        simp
      · have : (!g.testBit a && !g.testBit b) = false := by
          rcases Bool.or_eq_true_iff.mp w with q | q <;> rw [q] <;> simp
        rcases hg with rfl | rfl <;> rw [this] <;> simp
    match i, hd with
    | 0, hd =>
      cases hd
      refine gw_name (w_fgt (fgt_set hF) ?_)
      show W K _ _ [.fz (blL t), .fz (nat a), .fz (nat b), .fz (nat f), .fz (nat s), .fz (nat f)] _
      refine w_if (b := decide (a = b) || (f.testBit a || f.testBit b)) ?_ (fun w => ?_) fun w => w_next ⟨.keep (.keep (.keep (.keep (.keep (.drop .nil))))), fun _ => w, fun z => absurd z (by decide)⟩
      · walk_at "et"
      · refine w_ret (r := .dat (.bl (shownM t a b f s))) ?_ rfl
        rw [bad f (.inl rfl) w]
        exact ev_bl
    | 1, hd =>
      cases hd
      refine gw_name (w_fgt (fgt_set hF) ?_)
      show W K _ _ [.fz (blL t), .fz (nat a), .fz (nat b), .fz (nat f), .fz (nat s), .fz (nat s)] _
      refine w_if (b := decide (a = b) || (s.testBit a || s.testBit b)) ?_ (fun w => ?_) fun w => w_next ⟨.keep (.keep (.keep (.keep (.keep (.drop .nil))))), fun _ => hI1 (by decide), fun _ => w⟩
      · walk_at "et"
      · refine w_ret (r := .dat (.bl (shownM t a b f s))) ?_ rfl
        rw [bad s (.inr rfl) w]
        exact ev_bl
    | i + 2, hd => simp at hd
  · rintro st ⟨hF, hI1, hI2⟩
    have q1 := hI1 (show 1 ≤ 2 by decide)
    have q2 := hI2 (show 2 ≤ 2 by decide)
    have es : shownM t a b f s = ((t.getD (f ||| 2 ^ a) false && !t.getD (f ||| 2 ^ b) false) && (t.getD (s ||| 2 ^ b) false && !t.getD (s ||| 2 ^ a) false)) := by
      obtain ⟨z1, z2⟩ := Bool.or_eq_false_iff.mp q1
      obtain ⟨z3, z4⟩ := Bool.or_eq_false_iff.mp z2
      obtain ⟨_, z6⟩ := Bool.or_eq_false_iff.mp q2
      obtain ⟨z7, z8⟩ := Bool.or_eq_false_iff.mp z6
      unfold shownM
      rw [dec, z1, z3, z4, z7, z8]
      simp
    refine w_fgt hF (w_seq (w_if (b := !t.getD (f ||| 2 ^ a) false || t.getD (f ||| 2 ^ b) false) ?_ (fun w => ?_) fun w => w_next ?_))
    · walk_at "et"
    · refine w_ret (r := .dat (.bl (shownM t a b f s))) ?_ rfl
      have : (t.getD (f ||| 2 ^ a) false && !t.getD (f ||| 2 ^ b) false) = false := by
        have hyes : ∀ x y : Bool, (!x || y) = true → (x && !y) = false := by decide
        exact hyes _ _ w
      rw [es, this, Bool.false_and]
      exact ev_bl
    · refine w_ret (r := .dat (.bl (shownM t a b f s))) ?_ rfl
      have : (t.getD (f ||| 2 ^ a) false && !t.getD (f ||| 2 ^ b) false) = true := by
        have hno : ∀ x y : Bool, (!x || y) = false → (x && !y) = true := by decide
        exact hno _ _ w
      rw [es, this, Bool.true_and]
      walk_at "ev"
def c_law_right_R (CR : Addr) : List D → Rs → Prop := fun ds r => ∃ n t xss, ds = [blL t, nat n, rkO CR xss] ∧ (n ≤ 5 ∧ t.length = 2 ^ n ∧ xss.length ≤ 1000 ∧ xss.flatten.length ≤ 1000 ∧ rkHolds n t xss = true ∧ ∀ r ∈ xss, srt r = r) ∧ r = .dat (.bl true)
def c_law_right_U (CU : Addr) : List D → Rs → Prop := fun ds r => ∃ a b f s n t, ds = [blL t, nat n, urO CU a b f s] ∧ (n ≤ 5 ∧ t.length = 2 ^ n ∧ a < n ∧ b < n ∧ f < 2 ^ n ∧ s < 2 ^ n ∧ shownM t a b f s = true) ∧ r = .dat (.bl true)
theorem mn_nat (a b : Nat) : (if (b : Int) < (a : Int) then (b : Int) else (a : Int)) = ((min a b : Nat) : Int) := by
  by_cases h : b < a
  · rw [if_pos (by omega), Nat.min_eq_right (by omega)]
  · rw [if_neg (by omega), Nat.min_eq_left (by omega)]
theorem mx_nat (a b : Nat) : (if (b : Int) > (a : Int) then (b : Int) else (a : Int)) = ((max a b : Nat) : Int) := by
  by_cases h : a < b
  · rw [if_pos (by omega), Nat.max_eq_right (by omega)]
  · rw [if_neg (by omega), Nat.max_eq_left (by omega)]
theorem chain_ok {a b n : Nat} (ha : a < n) (hb : b < n) : (decide ((0 : Int) ≤ (if (b : Int) < (a : Int) then (b : Int) else (a : Int))) && (decide ((if (b : Int) < (a : Int) then (b : Int) else (a : Int)) ≤ (if (b : Int) > (a : Int) then (b : Int) else (a : Int))) && decide ((if (b : Int) > (a : Int) then (b : Int) else (a : Int)) < (n : Int)))) = true := by
  rw [mn_nat, mx_nat, Bool.and_eq_true, Bool.and_eq_true, decide_eq_true_iff, decide_eq_true_iff, decide_eq_true_iff]
  omega
abbrev st_law_right : Stmt := top 35
abbrev n_law_right : List Str := ["_law_table_here", "_law_members", "_law_found", "_law_number", "_law_rank"]
abbrev p_law_right : List Str := ["_law_table_here", "_law_members", "_law_found"]
theorem sc_law_right : FnScope n_law_right p_law_right (defScope st_law_right) := ⟨rfl, rfl, rfl, by decide +kernel, rfl, by decide +kernel, by decide +kernel⟩
theorem ok_law_right {f : Addr} {fd : FuncData} (F : Fun K "_law_right" "_law_right" st_law_right f fd) (T : Txt K mg C_Council C_Answer C_Weights C_Trade C_Ranks C_Unranked) (g_law_in_ranks : OkD P w K mg base CX0 3 "_law_in_ranks" p_law_in_ranks (SpR K c_law_in_ranks)) (g_law_shown : OkD P w K mg base CX0 2 "_law_shown" p_law_shown (SpR K c_law_shown)) : FnOk P w K mg base CX0 4 f fd p_law_right (SpR K (OrC (c_law_right_R C_Ranks) (c_law_right_U C_Unranked))) := by
  refine F.ok sc_law_right (sp_len (OrC.len (by rintro ds r ⟨_, _, _, rfl, _⟩; rfl) (by rintro ds r ⟨_, _, _, _, _, _, rfl, _⟩; rfl))) (fun cdv A outer s H vs Q E hr h => ?_)
  have hcl_Council := T.cl_Council
  have hna_Council_members := T.na_Council_members
  have hna_Council_table := T.na_Council_table
  have hcl_Answer := T.cl_Answer
  have hcl_Weights := T.cl_Weights
  have hcl_Trade := T.cl_Trade
  have hcl_Ranks := T.cl_Ranks
  have hna_Ranks_ranks := T.na_Ranks_ranks
  have hcl_Unranked := T.cl_Unranked
  have hna_Unranked_one := T.na_Unranked_one
  have hna_Unranked_other := T.na_Unranked_other
  have hna_Unranked_first := T.na_Unranked_first
  have hna_Unranked_second := T.na_Unranked_second
  have hic_Ranks := T.ic_Ranks
  have hic_Unranked := T.ic_Unranked
  have hki_Ranks_Answer := T.ki_Ranks_Answer
  have hki_Ranks_Ranks := T.ki_Ranks_Ranks
  have hki_Ranks_Unranked := T.ki_Ranks_Unranked
  have hki_Ranks_Weights := T.ki_Ranks_Weights
  have hki_Ranks_Trade := T.ki_Ranks_Trade
  have hki_Unranked_Answer := T.ki_Unranked_Answer
  have hki_Unranked_Ranks := T.ki_Unranked_Ranks
  have hki_Unranked_Unranked := T.ki_Unranked_Unranked
  have hki_Unranked_Weights := T.ki_Unranked_Weights
  have hki_Unranked_Trade := T.ki_Unranked_Trade
  refine ⟨_, (pss_cons (ps_if (PW.pt (pw_or (pt_not (pt_val (pe_callB call_isi (by rfl) T.n_isinstance (by decide +kernel) (pa_cons (pv 2) (pa_cons (pe_glob (v := .ref C_Answer) (by rfl) T.g_Answer rfl) pa_nil))))) (pw_or1 (pt_cmpR op_eq (pe_callB call_isi (by rfl) T.n_isinstance (by decide +kernel) (pa_cons (pv 2) (pa_cons (pe_glob (v := .ref C_Ranks) (by rfl) T.g_Ranks rfl) pa_nil))) (pe_callB call_isi (by rfl) T.n_isinstance (by decide +kernel) (pa_cons (pv 2) (pa_cons (pe_glob (v := .ref C_Unranked) (by rfl) T.g_Unranked rfl) pa_nil))) (nomark _))))) (pss_one (ps_ret pe_bl)) pss_nil)
  (pss_cons (ps_if (PW.pt (pw_or (pt_val (pe_callB call_isi (by rfl) T.n_isinstance (by decide +kernel) (pa_cons (pv 2) (pa_cons (pe_glob (v := .ref C_Weights) (by rfl) T.g_Weights rfl) pa_nil)))) (pw_or1 (pt_val (pe_callB call_isi (by rfl) T.n_isinstance (by decide +kernel) (pa_cons (pv 2) (pa_cons (pe_glob (v := .ref C_Trade) (by rfl) T.g_Trade rfl) pa_nil))))))) (pss_one (ps_ret pe_bl)) pss_nil)
  (pss_cons (ps_if (pt_val (pe_callB call_isi (by rfl) T.n_isinstance (by decide +kernel) (pa_cons (pv 2) (pa_cons (pe_glob (v := .ref C_Ranks) (by rfl) T.g_Ranks rfl) pa_nil)))) (pss_cons (ps_if (PW.pt (pw_or (pt_not (pt_val (pe_callB call_isi (by rfl) T.n_isinstance (by decide +kernel) (pa_cons (pe_fld (pv 2) rfl) (pa_cons (pe_bltn (v := .ty "list") (by rfl) T.n_list (by decide +kernel) rfl) pa_nil))))) (pw_or1 (pt_not (pt_val (pe_callD g_law_in_ranks (hr.mono (by decide)) (by rfl) pass0 (pa_cons (pv 0) (pa_cons (pv 1) (pa_cons (pe_fld (pv 2) rfl) pa_nil))))))))) (pss_one (ps_ret pe_bl)) pss_nil)
  (pss_one (ps_ret (pe_callB (cr_all rfl) (by rfl) T.n_all (by decide +kernel) (pa_cons (pe_lc (own := [("_law_rank", 4)]) (g := gName 4) (tt := tYes) (te := (tAndV (tCB (rIsi K) (tCons (tVar 4) (tCons (tC (.ty "list")) tNil))) (tOp (rEqD K) (tVar 4) (tCB (rSortedI K) (tCons (tVar 4) tNil))))) (by exact rfl) sc_law_right.nd (pi_list (pe_fld (pv 2) rfl)) (blkOk_by (N := n_law_right) (sc := defScope st_law_right) (own := [("_law_rank", 4)]) (by decide +kernel)) (fun _ _ _ _ _ => (pg_name (i := 4) sc_law_right.nd rfl (by first | exact Or.inl rfl | exact Or.inr rfl))) (fun _ _ _ _ _ => pts_nil) (fun _ _ _ _ _ => (pe_and (pe_callB call_isi (by rfl) T.n_isinstance (by decide +kernel) (pa_cons (pv 4) (pa_cons (pe_bltn (v := .ty "list") (by rfl) T.n_list (by decide +kernel) rfl) pa_nil))) (pe_one (pe_cmpR (op_eqD (hu64 hr)) (pv 4) (pe_callB cr_sortedI (by rfl) T.n_sorted (by decide +kernel) (pa_cons (pv 4) pa_nil)) (nomark _)))))) pa_nil))))) pss_nil)
  (pss_cons (ps_for PassesOwn.never rfl (pi_list (pe_lst (pa_cons (pe_fld (pv 2) rfl) (pa_cons (pe_fld (pv 2) rfl) (pa_cons (pe_fld (pv 2) rfl) (pa_cons (pe_fld (pv 2) rfl) pa_nil)))))) (pg_name (i := 3) sc_law_right.nd rfl (by first | exact Or.inl rfl | exact Or.inr rfl))
  (pss_one (ps_if (PW.pt (pw_or (pt_val (pe_callB call_isi (by rfl) T.n_isinstance (by decide +kernel) (pa_cons (pv 3) (pa_cons (pe_bltn (v := .ty "bool") (by rfl) T.n_bool (by decide +kernel) rfl) pa_nil)))) (pw_or1 (pt_not (pt_val (pe_callB call_isi (by rfl) T.n_isinstance (by decide +kernel) (pa_cons (pv 3) (pa_cons (pe_bltn (v := .ty "int") (by rfl) T.n_int (by decide +kernel) rfl) pa_nil)))))))) (pss_one (ps_ret pe_bl)) pss_nil)))
  (pss_cons (ps_if (pt_not (pt_chain3 op_le op_le op_lt pe_int (pe_callB (call_min2 rfl) (by rfl) T.n_min (by decide +kernel) (pa_cons (pe_fld (pv 2) rfl) (pa_cons (pe_fld (pv 2) rfl) pa_nil))) (pe_callB (call_max2 rfl) (by rfl) T.n_max (by decide +kernel) (pa_cons (pe_fld (pv 2) rfl) (pa_cons (pe_fld (pv 2) rfl) pa_nil))) (pv 1))) (pss_one (ps_ret pe_bl)) pss_nil)
  (pss_cons (ps_if (pt_not (pt_chain3 op_le op_le op_lt pe_int (pe_callB (call_min2 rfl) (by rfl) T.n_min (by decide +kernel) (pa_cons (pe_fld (pv 2) rfl) (pa_cons (pe_fld (pv 2) rfl) pa_nil))) (pe_callB (call_max2 rfl) (by rfl) T.n_max (by decide +kernel) (pa_cons (pe_fld (pv 2) rfl) (pa_cons (pe_fld (pv 2) rfl) pa_nil))) (pe_callB call_len_seq (by rfl) T.n_len (PySem.boot_len) (pa_cons (pv 0) pa_nil)))) (pss_one (ps_ret pe_bl)) pss_nil)
  (pss_one (ps_ret (pe_callD g_law_shown (hr.mono (by decide)) (by rfl) pass0 (pa_cons (pv 0) (pa_cons (pe_fld (pv 2) rfl) (pa_cons (pe_fld (pv 2) rfl) (pa_cons (pe_fld (pv 2) rfl) (pa_cons (pe_fld (pv 2) rfl) pa_nil)))))))))))))), go_of ?_ h⟩
  try dsimp only [L2.cxOf, L2.Cx.nox, L2.Cx.wish, L2.Cx.blk]
  rintro ds r (⟨n, t, xss, rfl, ⟨hn, ht, hl, hf, hH, hS⟩, rfl⟩ | ⟨a, b, f, s, n, t, rfl, ⟨hn, ht, ha, hb, hf, hs, hH⟩, rfl⟩)
  · show W K E _ [.fz (blL t), .fz (nat n), .fz (rkO C_Ranks xss), .un, .un] _
    refine w_seq (w_ifF ?_ (w_next ?_))
    · apply et_is
      · walk_at "et"
      · rfl
    refine w_seq (w_ifF ?_ (w_next ?_))
    · apply et_is
      · walk_at "et"
      · rfl
    refine w_seq (w_ifT ?_ ?_)
    · walk_at "et"
    refine w_seq (w_ifF ?_ (w_next ?_))
    · refine et_is (a := !true || !rkHolds n t xss) ?_ ?_
      · with_reducible apply et_or
        · walk_at "et"
        · intro _
          with_reducible apply et_not
          with_reducible apply et_B
          with_reducible apply ev_call
          · walk_at "ea"
          · exact ⟨n, t, xss, rfl, ⟨hn, ht, hl, hf⟩, rfl⟩
      · rw [hH]
        rfl
    refine w_ret ?_ rfl
    refine ev_is (d := .bl (xss.all fun r => (true && decide (r = srt r)))) ?_ ?_
    · with_reducible apply ev_cb
      · with_reducible apply ea_cons
        · with_reducible apply EvR.fz
          with_reducible apply ev_lcM (ys := xss) (c := natL) (v := fun r => .bl (true && decide (r = srt r)))
          · walk_at "it"
          · omega
          · decide
          · intro r hr
            with_reducible apply ev_andV
            · walk_at "ev"
            · intro _
              with_reducible apply ev_op (x := natL r) (y := natL (srt r))
              · exact ev_var rfl
              · walk_at "ev"
              · exact od_eqN
        · exact ea_nil
      · exact cb_allM
    · congr 1
      rw [List.all_eq_true]
      intro r hr
      rw [hS r hr]
      simp
  · show W K E _ [.fz (blL t), .fz (nat n), .fz (urO C_Unranked a b f s), .un, .un] _
    refine w_seq (w_ifF ?_ (w_next ?_))
    · apply et_is
      · walk_at "et"
      · rfl
    refine w_seq (w_ifF ?_ (w_next ?_))
    · apply et_is
      · walk_at "et"
      · rfl
    refine w_seq (w_ifF ?_ (w_next ?_))
    · walk_at "et"
    refine w_seq (w_forEach (xs := [nat a, nat b, nat f, nat s]) [.fz (blL t), .fz (nat n), .fz (urO C_Unranked a b f s), .un, .un] ?_ (Fgt.refl _) ?_ ?_)
    · with_reducible apply it_list
      apply EvR.fz
      walk_at "evN"
    · intro d hd
      have : ∃ i : Int, d = .int i := by
        simp only [List.mem_cons, List.not_mem_nil, or_false] at hd
        rcases hd with rfl | rfl | rfl | rfl <;> exact ⟨_, rfl⟩
      obtain ⟨i, rfl⟩ := this
      refine w_ifF ?_ (w_next (.keep (.keep (.keep (.drop (.keep .nil))))))
      apply et_is
      · walk_at "et"
      · rfl
    intro st hF
    refine w_fgt hF ?_
    refine w_seq (w_ifF ?_ (w_next ?_))
    · refine et_is (a := !true) ?_ ?_
      · with_reducible apply et_not
        with_reducible apply et_test
        apply ev_is
        · apply ev_chain3
          · walk_at "ev"
          · walk_at "ev"
          · walk_at "ev"
          · walk_at "ev"
          · walk_at "od"
          · walk_at "od"
          · walk_at "od"
        · exact congrArg D.bl (chain_ok ha hb)
      · rfl
    refine w_seq (w_ifF ?_ (w_next ?_))
    · refine et_is (a := !true) ?_ ?_
      · with_reducible apply et_not
        with_reducible apply et_test
        apply ev_is
        · apply ev_chain3
          · walk_at "ev"
          · walk_at "ev"
          · walk_at "ev"
          · walk_at "ev"
          · walk_at "od"
          · walk_at "od"
          · walk_at "od"
        · rw [ht]
          exact congrArg D.bl (chain_ok hf hs)
      · rfl
    refine w_ret ?_ rfl
    rw [← hH]
    with_reducible apply ev_call
    · walk_at "ea"
    · exact ⟨a, b, f, s, n, t, rfl, ⟨hn, ht, ha, hb, hf, hs⟩, rfl⟩
def c_law_says_R (C CR : Addr) : List D → Rs → Prop := fun ds r => ∃ xss n t due, ds = [rkO CR xss, cou C n t, .bl due] ∧ (n ≤ 5 ∧ t.length = 2 ^ n ∧ xss.length ≤ 1000 ∧ xss.flatten.length ≤ 1000) ∧ r = .dat (.bl (decide (rkHolds n t xss = due)))
def c_law_says_U (C CU : Addr) : List D → Rs → Prop := fun ds r => ∃ a b f s n t due, ds = [urO CU a b f s, cou C n t, .bl due] ∧ (n ≤ 5 ∧ t.length = 2 ^ n ∧ a < n ∧ b < n ∧ f < 2 ^ n ∧ s < 2 ^ n) ∧ r = .dat (.bl (decide (shownM t a b f s = due)))
abbrev st_law_says : Stmt := top 36
abbrev n_law_says : List Str := ["_law_answer", "_law_council", "_law_due", "_law_told_here"]
abbrev p_law_says : List Str := ["_law_answer", "_law_council", "_law_due"]
theorem sc_law_says : FnScope n_law_says p_law_says (defScope st_law_says) := ⟨rfl, rfl, rfl, by decide +kernel, rfl, by decide +kernel, by decide +kernel⟩
theorem ok_law_says {f : Addr} {fd : FuncData} (F : Fun K "_law_says" "_law_says" st_law_says f fd) (T : Txt K mg C_Council C_Answer C_Weights C_Trade C_Ranks C_Unranked) (g_Ranks_holds : OkM P w K mg base CX0 5 C_Ranks "holds" p_Ranks_holds (SpR K (c_Ranks_holds C_Council C_Ranks))) (g_Unranked_holds : OkM P w K mg base CX0 3 C_Unranked "holds" p_Unranked_holds (SpR K (c_Unranked_holds C_Council C_Unranked))) : FnOk P w K mg base CX0 6 f fd p_law_says (SpR K (OrC (c_law_says_R C_Council C_Ranks) (c_law_says_U C_Council C_Unranked))) := by
  refine F.ok sc_law_says (sp_len (OrC.len (by rintro ds r ⟨_, _, _, _, rfl, _⟩; rfl) (by rintro ds r ⟨_, _, _, _, _, _, _, rfl, _⟩; rfl))) (fun cdv A outer s H vs Q E hr h => ?_)
  have hcl_Council := T.cl_Council
  have hna_Council_members := T.na_Council_members
  have hna_Council_table := T.na_Council_table
  have hcl_Answer := T.cl_Answer
  have hcl_Weights := T.cl_Weights
  have hcl_Trade := T.cl_Trade
  have hcl_Ranks := T.cl_Ranks
  have hna_Ranks_ranks := T.na_Ranks_ranks
  have hcl_Unranked := T.cl_Unranked
  have hna_Unranked_one := T.na_Unranked_one
  have hna_Unranked_other := T.na_Unranked_other
  have hna_Unranked_first := T.na_Unranked_first
  have hna_Unranked_second := T.na_Unranked_second
  have hic_Ranks := T.ic_Ranks
  have hic_Unranked := T.ic_Unranked
  have hki_Ranks_Answer := T.ki_Ranks_Answer
  have hki_Ranks_Ranks := T.ki_Ranks_Ranks
  have hki_Ranks_Unranked := T.ki_Ranks_Unranked
  have hki_Ranks_Weights := T.ki_Ranks_Weights
  have hki_Ranks_Trade := T.ki_Ranks_Trade
  have hki_Unranked_Answer := T.ki_Unranked_Answer
  have hki_Unranked_Ranks := T.ki_Unranked_Ranks
  have hki_Unranked_Unranked := T.ki_Unranked_Unranked
  have hki_Unranked_Weights := T.ki_Unranked_Weights
  have hki_Unranked_Trade := T.ki_Unranked_Trade
  rcases sp_or h with h | h
  · refine ⟨_, (pss_cons (ps_set (i := 3) sc_law_says.nd rfl (by first | exact Or.inl rfl | exact Or.inr rfl) (pe_methD (pv 0) T.cl_Ranks g_Ranks_holds (hr.mono (by decide)) pass0 (pa_cons (pv 1) pa_nil)))
  (pss_one (ps_ret (pe_and (pe_callB call_isi (by rfl) T.n_isinstance (by decide +kernel) (pa_cons (pv 3) (pa_cons (pe_bltn (v := .ty "bool") (by rfl) T.n_bool (by decide +kernel) rfl) pa_nil))) (pe_one (pe_cmpR op_eq (pv 3) (pv 2) (nomark _))))))), go_of ?_ h⟩
    try dsimp only [L2.cxOf, L2.Cx.nox, L2.Cx.wish, L2.Cx.blk]
    rintro ds r ⟨xss, n, t, due, rfl, ⟨hn, ht, hl, hf⟩, rfl⟩
    show W K E _ [.fz (rkO C_Ranks xss), .fz (cou C_Council n t), .fz (.bl due), .un] _
    refine w_seq (w_asg (d := .bl (rkHolds n t xss)) ?_ ?_)
    · with_reducible apply ev_meth
      · walk_at "ev"
      · decide +kernel
      · walk_at "ea"
      · exact ⟨xss, n, t, rfl, ⟨hn, ht, hl, hf⟩, rfl⟩
    refine w_ret ?_ rfl
    apply ev_is
    · walk_at "ev"
    · rfl
  · refine ⟨_, (pss_cons (ps_set (i := 3) sc_law_says.nd rfl (by first | exact Or.inl rfl | exact Or.inr rfl) (pe_methD (pv 0) T.cl_Unranked g_Unranked_holds (hr.mono (by decide)) pass0 (pa_cons (pv 1) pa_nil)))
  (pss_one (ps_ret (pe_and (pe_callB call_isi (by rfl) T.n_isinstance (by decide +kernel) (pa_cons (pv 3) (pa_cons (pe_bltn (v := .ty "bool") (by rfl) T.n_bool (by decide +kernel) rfl) pa_nil))) (pe_one (pe_cmpR op_eq (pv 3) (pv 2) (nomark _))))))), go_of ?_ h⟩
    try dsimp only [L2.cxOf, L2.Cx.nox, L2.Cx.wish, L2.Cx.blk]
    rintro ds r ⟨a, b, f, s, n, t, due, rfl, hh, rfl⟩
    show W K E _ [.fz (urO C_Unranked a b f s), .fz (cou C_Council n t), .fz (.bl due), .un] _
    refine w_seq (w_asg (d := .bl (shownM t a b f s)) ?_ ?_)
    · with_reducible apply ev_meth
      · walk_at "ev"
      · decide +kernel
      · walk_at "ea"
      · exact ⟨a, b, f, s, n, t, rfl, hh, rfl⟩
    refine w_ret ?_ rfl
    apply ev_is
    · walk_at "ev"
    · rfl
def BdL (a b : Nat) (xss : List (List Nat)) : Prop := xss.length ≤ a ∧ ∀ r ∈ xss, r.length ≤ b
theorem BdL.flat {a b : Nat} : ∀ {xss : List (List Nat)}, BdL a b xss → xss.flatten.length ≤ a * b := by
  intro xss h
  have : ∀ l : List (List Nat), (∀ r ∈ l, r.length ≤ b) → l.flatten.length ≤ l.length * b := by
    intro l
    induction l with
    | nil => intro _; simp
    | cons r l ih =>
      intro hh
      have h1 := hh r List.mem_cons_self
      have h2 := ih fun r hr => hh r (List.mem_cons_of_mem _ hr)
      rw [List.flatten_cons, List.length_append, List.length_cons, Nat.succ_mul]
      omega
  exact Nat.le_trans (this xss h.2) (Nat.mul_le_mul_right b h.1)
def c_law_bent : List D → (D → Prop) → Prop := fun ds F => ∃ xss c n, ds = [natLL xss, .int c, nat n] ∧ (1 ≤ n ∧ n ≤ 5 ∧ 0 < xss.length ∧ BdL 10 10 xss) ∧ F = fun d => ∃ yss, d = natLL yss ∧ 0 < yss.length ∧ BdL 20 20 yss
theorem od_inT {K : PySem.W.Frag} {neg : Bool} {i : Int} {ns : List Int} : OpD K (rIn K neg) (.int i) (.tup (ns.map D.int)) (.dat (.bl (if neg then !decide (i ∈ ns) else decide (i ∈ ns)))) := fun B H vx vy e dx dy E Q q => by
  obtain ⟨a, vs, rfl, h1, h2⟩ := den_tup dy
  rw [den_int dx]
  have e1 := denL_ints h2
  subst e1
  refine ⟨a, _, rfl, .inr (SqT.of (e a _ h1)), rfl, by simp [flatV], ?_⟩
  rw [inV_ints]
  exact post_v e q (mk_bl _)
theorem cut_len {α : Type} (xs : List α) (lo hi : Option Int) : (cutA xs lo hi).length ≤ xs.length := (cut_sub xs lo hi).length_le
abbrev st_law_bent : Stmt := top 37
abbrev n_law_bent : List Str := ["_law_ranks", "_law_cell", "_law_members", "_law_made", "_law_member", "_law_rank", "_law_one"]
abbrev p_law_bent : List Str := ["_law_ranks", "_law_cell", "_law_members"]
theorem sc_law_bent : FnScope n_law_bent p_law_bent (defScope st_law_bent) := ⟨rfl, rfl, rfl, by decide +kernel, rfl, by decide +kernel, by decide +kernel⟩
theorem ok_law_bent {f : Addr} {fd : FuncData} (F : Fun K "_law_bent" "_law_bent" st_law_bent f fd) (T : Txt K mg C_Council C_Answer C_Weights C_Trade C_Ranks C_Unranked) : FnOk P w K mg base CX0 1 f fd p_law_bent (SpUF K c_law_bent) := by
  refine F.ok sc_law_bent (spUF_len (by rintro ds r ⟨_, _, _, rfl, _⟩; rfl)) (fun cdv A outer s H vs Q E hr h => ?_)
  have hcl_Council := T.cl_Council
  have hna_Council_members := T.na_Council_members
  have hna_Council_table := T.na_Council_table
  have hcl_Answer := T.cl_Answer
  have hcl_Weights := T.cl_Weights
  have hcl_Trade := T.cl_Trade
  have hcl_Ranks := T.cl_Ranks
  have hna_Ranks_ranks := T.na_Ranks_ranks
  have hcl_Unranked := T.cl_Unranked
  have hna_Unranked_one := T.na_Unranked_one
  have hna_Unranked_other := T.na_Unranked_other
  have hna_Unranked_first := T.na_Unranked_first
  have hna_Unranked_second := T.na_Unranked_second
  have hic_Ranks := T.ic_Ranks
  have hic_Unranked := T.ic_Unranked
  have hki_Ranks_Answer := T.ki_Ranks_Answer
  have hki_Ranks_Ranks := T.ki_Ranks_Ranks
  have hki_Ranks_Unranked := T.ki_Ranks_Unranked
  have hki_Ranks_Weights := T.ki_Ranks_Weights
  have hki_Ranks_Trade := T.ki_Ranks_Trade
  have hki_Unranked_Answer := T.ki_Unranked_Answer
  have hki_Unranked_Ranks := T.ki_Unranked_Ranks
  have hki_Unranked_Unranked := T.ki_Unranked_Unranked
  have hki_Unranked_Weights := T.ki_Unranked_Weights
  have hki_Unranked_Trade := T.ki_Unranked_Trade
  refine ⟨_, (pss_cons (ps_setLc (i := 3) (own := [("_law_rank", 5)]) (g := gName 5) (tt := tYes) (te := (tRevL K (tVar 5))) (by exact rfl) sc_law_bent.nd rfl rfl (sw_true rfl rfl rfl (by decide +kernel)) (pi_list (pv 0)) (blkOk_by (N := n_law_bent) (sc := defScope st_law_bent) (own := [("_law_rank", 5)]) (by decide +kernel)) (fun _ _ _ _ _ => (pg_name (i := 5) sc_law_bent.nd rfl (by first | exact Or.inl rfl | exact Or.inr rfl))) (fun _ _ _ _ _ => pts_nil) (fun _ _ _ _ _ => (pe_revL (pv 5))))
  (pss_cons (ps_set (i := 4) sc_law_bent.nd rfl (by first | exact Or.inl rfl | exact Or.inr rfl) (pe_op op_mod (pe_op op_fdiv (pv 1) pe_int) (pv 2)))
  (pss_cons (ps_if (pt_cmpR op_eq (pe_op op_mod (pv 1) pe_int) pe_int (nomark _)) (pss_one (ps_set (i := 3) sc_law_bent.nd rfl (by first | exact Or.inl rfl | exact Or.inr rfl) (pe_revL (pv 3)))) pss_nil)
  (pss_cons (ps_if (pt_cmpR op_in_seq (pe_op op_mod (pv 1) pe_int) (pe_tup (pa_cons pe_int (pa_cons pe_int pa_nil))) (by rfl)) (pss_one (ps_setLc (i := 3) (own := [("_law_rank", 5)]) (g := gName 5) (tt := tYes) (te := (tLc (iList K (tVar 5)) (gName 6) (tTest (tOp (rNe) (tVar 6) (tVar 4))) (tVar 6) [6])) (by exact rfl) sc_law_bent.nd rfl rfl (sw_true rfl rfl rfl (by decide +kernel)) (pi_list (pv 3)) (blkOk_by (N := n_law_bent) (sc := defScope st_law_bent) (own := [("_law_rank", 5)]) (by decide +kernel)) (fun _ _ _ _ _ => (pg_name (i := 5) sc_law_bent.nd rfl (by first | exact Or.inl rfl | exact Or.inr rfl))) (fun _ _ _ _ _ => pts_nil) (fun _ _ _ _ _ => (pe_lc (own := [("_law_one", 6)]) (g := gName 6) (te := (tVar 6)) (tt := (tTest (tOp (rNe) (tVar 6) (tVar 4)))) (by exact rfl) sc_law_bent.nd (pi_list (pv 5)) (blkOk_by (own := [("_law_one", 6)]) (by kernel_rfl)) (fun _ _ _ _ _ => (pg_name (i := 6) sc_law_bent.nd rfl (by first | exact Or.inl rfl | exact Or.inr rfl))) (fun _ _ _ _ _ => pts_one (pt_cmpR op_ne (pv 6) (pv 4) (nomark _))) (fun _ _ _ _ _ => (pv 6)))))) pss_nil)
  (pss_cons (ps_if (pt_cmpR op_in_seq (pe_op op_mod (pv 1) pe_int) (pe_tup (pa_cons pe_int (pa_cons pe_int pa_nil))) (by rfl)) (pss_one (ps_expr (pe_bm PySem.F.plainAttrs_list PySem.F.slot_list_append PySem.F.type_list_append mt_append (pe_ix ix_list (pv 3) (pe_op op_mod (pe_op op_fdiv (pv 1) pe_int) (pe_callB call_len_seq (by rfl) T.n_len (PySem.boot_len) (pa_cons (pv 3) pa_nil))) (fun _ _ => rfl)) (pa_cons (pv 4) pa_nil)))) pss_nil)
  (pss_cons (ps_if (pt_cmpR op_eq (pe_op op_mod (pv 1) pe_int) pe_int (nomark _)) (pss_one (ps_expr (pe_bm PySem.F.plainAttrs_list PySem.F.slot_list_append PySem.F.type_list_append mt_append (pv 3) (pa_cons (pe_lst pa_nil) pa_nil)))) pss_nil)
  (pss_cons (ps_if (pt_cmpR op_eq (pe_op op_mod (pv 1) pe_int) pe_int (nomark _)) (pss_one (ps_set (i := 3) sc_law_bent.nd rfl (by first | exact Or.inl rfl | exact Or.inr rfl) (pe_op op_cat (pe_slice sl_list (pv 3) po_none (po_some (pe_un un_neg pe_int))) (pe_lst (pa_cons (pe_slice sl_list (pe_ix ix_list (pv 3) (pe_un un_neg pe_int) (fun _ _ => rfl)) po_none (po_some pe_int)) (pa_cons (pe_slice sl_list (pe_ix ix_list (pv 3) (pe_un un_neg pe_int) (fun _ _ => rfl)) (po_some pe_int) po_none) pa_nil)))))) pss_nil)
  (pss_cons (ps_if (pt_cmpR op_eq (pe_op op_mod (pv 1) pe_int) pe_int (nomark _)) (pss_one (ps_set (i := 3) sc_law_bent.nd rfl (by first | exact Or.inl rfl | exact Or.inr rfl) (pe_op op_cat (pe_lst (pa_cons (pe_slice sl_list (pe_ix ix_list (pv 3) pe_int (fun _ _ => rfl)) po_none (po_some pe_int)) (pa_cons (pe_slice sl_list (pe_ix ix_list (pv 3) pe_int (fun _ _ => rfl)) (po_some pe_int) po_none) pa_nil))) (pe_slice sl_list (pv 3) (po_some pe_int) po_none)))) pss_nil)
  (pss_one (ps_ret (pv 3))))))))))), goUF_of ?_ h⟩
  try dsimp only [L2.cxOf, L2.Cx.nox, L2.Cx.wish, L2.Cx.blk]
  rintro ds F ⟨xss, c, n, rfl, ⟨hn1, hn5, hx0, hB⟩, rfl⟩
  show W K E _ [.fz (natLL xss), .fz (.int c), .fz (nat n), .un, .un, .un, .un] _
  refine w_seq (w_asgR (d := natLL (xss.map List.reverse)) ?_ fun N hN => ?_)
  · apply ev_isF
    · with_reducible apply ev_lcFM (ys := xss) (c := natL) (v := fun r => natL r.reverse)
      · walk_at "it"
      · have := hB.1
        omega
      · decide
      · intro r hr
        apply EvR.frsL
        · apply ev_isN
          · with_reducible apply ev_revL
            exact ev_var rfl
          · rw [← List.map_reverse]
        · intro d hd
          obtain ⟨_, _, rfl⟩ := List.mem_map.mp hd
          rfl
    · rw [natLL, List.map_map]
      rfl
  clear hN
  have hB0 : BdL 10 10 (xss.map List.reverse) := ⟨by rw [List.length_map]; exact hB.1, fun r hr => by
    obtain ⟨q, hq, rfl⟩ := List.mem_map.mp hr
    rw [List.length_reverse]
    exact hB.2 q hq⟩
  have hx1 : 0 < (xss.map List.reverse).length := by rw [List.length_map]; exact hx0
  generalize xss.map List.reverse = yss at hB0 hx1
  have hm := Int.emod_nonneg (c / 8) (show (n : Int) ≠ 0 by omega)
  refine w_seq (w_asg (d := nat (c / 8 % (n : Int)).toNat) ?_ ?_)
  · refine ev_is (d := .int (c / 8 % (n : Int))) ?_ ?_
    · walk_at "ev"
    · exact congrArg D.int (Int.toNat_of_nonneg hm).symm
  generalize (c / 8 % (n : Int)).toNat = m
  -- turned about
  refine w_seqM (fun s => ∃ N yss, 0 < yss.length ∧ BdL 10 10 yss ∧ Fgt s [.fz (natLL xss), .fz (.int c), .fz (nat n), .rg N (natLL yss), .fz (nat m), .un, .un]) (w_if (b := decide (c % 8 = 1)) ?_ (fun _ => ?_) fun _ => w_next ⟨N, yss, hx1, hB0, Fgt.refl _⟩) ?_
  · walk_at "et"
  · refine w_asgV (i := 3) (N := N) (d := natLL yss) (d' := natLL yss.reverse) rfl rfl ?_ fun N' => ⟨N', yss.reverse, by rw [List.length_reverse]; exact hx1, ⟨by rw [List.length_reverse]; exact hB0.1, fun r hr => hB0.2 r (List.mem_reverse.mp hr)⟩, Fgt.refl _⟩
    apply EvR.fz
    apply ev_isN
    · with_reducible apply ev_revL
      exact ev_var rfl
    · rw [← List.map_reverse]
  clear hB0 hx1 yss N
  rintro s ⟨N, yss, hx1, hB0, hF⟩
  refine w_fgt hF ?_
  clear hF
  -- without the member
  refine w_seqM (fun s => ∃ N yss, 0 < yss.length ∧ BdL 10 10 yss ∧ Fgt s [.fz (natLL xss), .fz (.int c), .fz (nat n), .rg N (natLL yss), .fz (nat m), .un, .un]) (w_if (b := decide (c % 8 ∈ [(2 : Int), 3])) ?_ (fun _ => ?_) fun _ => w_next ⟨N, yss, hx1, hB0, Fgt.refl _⟩) ?_
  · with_reducible apply et_test
    with_reducible apply ev_op (x := .int (c % 8)) (y := .tup ([(2 : Int), 3].map D.int))
    · walk_at "ev"
    · exact ev_tup (ea_cons ev_int (ea_cons ev_int ea_nil)) (by decide)
    · exact od_inT
  · refine w_asgV (i := 3) (N := N) (d := natLL yss) (d' := natLL (yss.map fun r => r.filter fun x => !decide (x = m))) rfl rfl ?_ fun N' => ⟨N', _, by rw [List.length_map]; exact hx1, ⟨by rw [List.length_map]; exact hB0.1, fun r hr => ?_⟩, Fgt.refl _⟩
    · apply EvR.fz
      apply ev_isN
      · with_reducible apply ev_lcM (ys := yss) (c := natL) (v := fun r => natL (r.filter fun x => !decide (x = m)))
        · with_reducible apply it_list
          exact ev_var rfl
        · have := hB0.1
          omega
        · decide
        · intro r hr
          apply EvR.fz
          with_reducible apply ev_lcF (ys := r) (c := nat) (f := fun x => !decide (x = m)) (v := nat)
          · with_reducible apply it_list
            exact ev_var rfl
          · have := hB0.2 r hr
            omega
          · decide
          · intro x hx
            walk_at "et"
          · intro x hx hf
            walk_at "ev"
      · rw [List.map_map]
        rfl
    · obtain ⟨q, hq, rfl⟩ := List.mem_map.mp hr
      exact Nat.le_trans (List.length_filter_le _ _) (hB0.2 q hq)
  clear hB0 hx1 yss N
  rintro s ⟨N, yss, hx1, hB0, hF⟩
  refine w_fgt hF ?_
  clear hF
  -- with the member
  refine w_seqM (fun s => ∃ N yss, 0 < yss.length ∧ BdL 10 11 yss ∧ Fgt s [.fz (natLL xss), .fz (.int c), .fz (nat n), .rg N (natLL yss), .fz (nat m), .un, .un]) (w_if (b := decide (c % 8 ∈ [(2 : Int), 4])) ?_ (fun _ => ?_) fun _ => w_next ⟨N, yss, hx1, ⟨hB0.1, fun r hr => Nat.le_succ_of_le (hB0.2 r hr)⟩, Fgt.refl _⟩) ?_
  · with_reducible apply et_test
    with_reducible apply ev_op (x := .int (c % 8)) (y := .tup ([(2 : Int), 4].map D.int))
    · walk_at "ev"
    · exact ev_tup (ea_cons ev_int (ea_cons ev_int ea_nil)) (by decide)
    · exact od_inT
  · have hk0 := Int.emod_nonneg (c / 40) (show (yss.length : Int) ≠ 0 by omega)
    have hk1 := Int.emod_lt_of_pos (c / 40) (show (0 : Int) < (yss.length : Int) by omega)
    refine w_rgAppI (i := 3) (k := (c / 40 % (yss.length : Int)).toNat) (m := m) (xss := yss) (N := N) rfl rfl ?_ (by omega) (ev_var rfl) (fun r hr => Nat.lt_of_le_of_lt (hB0.2 r hr) (by decide)) fun N' zss h1 h2 => ⟨N', zss, by rw [h1]; exact hx1, ⟨by rw [h1]; exact hB0.1, fun r hr => ?_⟩, Fgt.refl _⟩
    · apply ev_fr
      · show EvR K E0 _ [.fz (natLL xss), .fz (.int c), .fz (nat n), .fz (natLL yss), .fz (nat m), .un, .un] _
        refine ev_is (d := .int (c / 40 % (yss.length : Int))) ?_ ?_
        · with_reducible apply ev_op
          · walk_at "ev"
          · with_reducible apply ev_cb
            · with_reducible apply ea_cons (x := natLL yss)
              · exact ev_var rfl
              · exact ea_nil
            · exact cb_lenM
          · exact od_ic (by show (0 : Int) < _; omega)
        · exact congrArg D.int (Int.toNat_of_nonneg hk0).symm
      · rfl
      · rfl
    · obtain ⟨q, hq, rfl | rfl⟩ := h2 r hr
      · exact Nat.le_succ_of_le (hB0.2 _ hq)
      · rw [List.length_append]
        exact Nat.succ_le_succ (hB0.2 q hq)
  clear hB0 hx1 yss N
  rintro s ⟨N, yss, hx1, hB0, hF⟩
  refine w_fgt hF ?_
  clear hF
  -- an empty one more
  refine w_seqM (fun s => ∃ N yss, 0 < yss.length ∧ BdL 11 11 yss ∧ Fgt s [.fz (natLL xss), .fz (.int c), .fz (nat n), .rg N (natLL yss), .fz (nat m), .un, .un]) (w_if (b := decide (c % 8 = 5)) ?_ (fun _ => ?_) fun _ => w_next ⟨N, yss, hx1, ⟨Nat.le_succ_of_le hB0.1, hB0.2⟩, Fgt.refl _⟩) ?_
  · walk_at "et"
  · refine w_rgAppO (i := 3) (xss := yss) (xs := []) (N := N) rfl rfl ?_ (Nat.lt_of_le_of_lt hB0.1 (by decide)) fun N' => ⟨N', yss ++ [[]], by simp, ⟨by rw [List.length_append]; exact Nat.succ_le_succ hB0.1, fun r hr => ?_⟩, Fgt.refl _⟩
    · apply EvR.frsL
      · exact ev_lst ea_nil (by decide)
      · intro d hd
        cases hd
    · rcases List.mem_append.mp hr with z | z
      · exact hB0.2 r z
      · rw [List.mem_singleton.mp z]
        exact Nat.zero_le _
  clear hB0 hx1 yss N
  rintro s ⟨N, yss, hx1, hB0, hF⟩
  refine w_fgt hF ?_
  clear hF
  have hne : yss ≠ [] := List.length_pos_iff.mp hx1
  -- the last one parted
  refine w_seqM (fun s => ∃ N yss, 0 < yss.length ∧ BdL 13 11 yss ∧ Fgt s [.fz (natLL xss), .fz (.int c), .fz (nat n), .rg N (natLL yss), .fz (nat m), .un, .un]) (w_if (b := decide (c % 8 = 6)) ?_ (fun _ => ?_) fun _ => w_next ⟨N, yss, hx1, ⟨Nat.le_trans hB0.1 (by decide), hB0.2⟩, Fgt.refl _⟩) ?_
  · walk_at "et"
  · have hin : yss.getD (yss.length - 1) [] ∈ yss := by
      rw [List.getD_eq_getElem?_getD, List.getElem?_eq_getElem (by omega)]
      exact List.getElem_mem _
    refine w_asgV (i := 3) (N := N) (d := natLL yss) (d' := natLL (cutA yss none (some (-1)) ++ [cutA (yss.getD (yss.length - 1) []) none (some 1), cutA (yss.getD (yss.length - 1) []) (some 1) none])) rfl rfl ?_ fun N' => ⟨N', _, by simp, ⟨by rw [List.length_append]; exact Nat.add_le_add (Nat.le_trans (cut_len _ _ _) hB0.1) (Nat.le_refl 2), fun r hr => ?_⟩, Fgt.refl _⟩
    · apply EvR.fz
      apply ev_isN
      · with_reducible apply ev_op (x := natLL (cutA yss none (some (-1)))) (y := natLL [cutA (yss.getD (yss.length - 1) []) none (some 1), cutA (yss.getD (yss.length - 1) []) (some 1) none])
        · apply EvR.fz
          apply ev_slA (f := natL)
          · exact ev_var rfl
          · exact eo_none
          · exact eo_some (ev_un ev_int ud_i)
        · apply EvR.fz
          apply ev_lst
          · apply ea_cons
            · apply EvR.fz
              apply ev_slA (f := nat)
              · exact ev_op (ev_var rfl) (ev_un ev_int ud_i) (od_ixLLm hne)
              · exact eo_none
              · exact eo_some ev_int
            · apply ea_cons
              · apply EvR.fz
                apply ev_slA (f := nat)
                · exact ev_op (ev_var rfl) (ev_un ev_int ud_i) (od_ixLLm hne)
                · exact eo_some ev_int
                · exact eo_none
              · exact ea_nil
          · exact (by decide : 2 ≤ sizeLine)
        · refine od_cat ?_
          rw [List.length_map, List.length_map, sizeLine_eq]
          have h1 := cut_len yss none (some (-1))
          have h2 := hB0.1
          show (cutA yss none (some (-1))).length + 2 ≤ _
          omega
      · rw [← List.map_append]
    · rcases List.mem_append.mp hr with z | z
      · exact hB0.2 r ((cut_sub _ _ _).subset z)
      · have hq := hB0.2 _ hin
        simp only [List.mem_cons, List.not_mem_nil, or_false] at z
        rcases z with rfl | rfl <;> exact Nat.le_trans (cut_len _ _ _) hq
  clear hB0 hx1 hne yss N
  rintro s ⟨N, yss, hx1, hB0, hF⟩
  refine w_fgt hF ?_
  clear hF
  have hne : yss ≠ [] := List.length_pos_iff.mp hx1
  -- the first one parted
  refine w_seqM (fun s => ∃ N yss, 0 < yss.length ∧ BdL 15 11 yss ∧ Fgt s [.fz (natLL xss), .fz (.int c), .fz (nat n), .rg N (natLL yss), .fz (nat m), .un, .un]) (w_if (b := decide (c % 8 = 7)) ?_ (fun _ => ?_) fun _ => w_next ⟨N, yss, hx1, ⟨Nat.le_trans hB0.1 (by decide), hB0.2⟩, Fgt.refl _⟩) ?_
  · walk_at "et"
  · have hin : yss.getD 0 [] ∈ yss := by
      rw [List.getD_eq_getElem?_getD, List.getElem?_eq_getElem (by omega)]
      exact List.getElem_mem _
    refine w_asgV (i := 3) (N := N) (d := natLL yss) (d' := natLL ([cutA (yss.getD 0 []) none (some 1), cutA (yss.getD 0 []) (some 1) none] ++ cutA yss (some 1) none)) rfl rfl ?_ fun N' => ⟨N', _, by simp, ⟨by rw [List.length_append]; have := Nat.le_trans (cut_len yss (some 1) none) hB0.1; show 2 + _ ≤ 15; omega, fun r hr => ?_⟩, Fgt.refl _⟩
    · apply EvR.fz
      apply ev_isN
      · with_reducible apply ev_op (x := natLL [cutA (yss.getD 0 []) none (some 1), cutA (yss.getD 0 []) (some 1) none]) (y := natLL (cutA yss (some 1) none))
        · apply EvR.fz
          apply ev_lst
          · apply ea_cons
            · apply EvR.fz
              apply ev_slA (f := nat)
              · exact ev_op (ev_var rfl) ev_int (od_ixLL (k := 0) hx1)
              · exact eo_none
              · exact eo_some ev_int
            · apply ea_cons
              · apply EvR.fz
                apply ev_slA (f := nat)
                · exact ev_op (ev_var rfl) ev_int (od_ixLL (k := 0) hx1)
                · exact eo_some ev_int
                · exact eo_none
              · exact ea_nil
          · exact (by decide : 2 ≤ sizeLine)
        · apply EvR.fz
          apply ev_slA (f := natL)
          · exact ev_var rfl
          · exact eo_some ev_int
          · exact eo_none
        · refine od_cat ?_
          rw [List.length_map, List.length_map, sizeLine_eq]
          have h1 := cut_len yss (some 1) none
          have h2 := hB0.1
          show 2 + (cutA yss (some 1) none).length ≤ _
          omega
      · rw [← List.map_append]
    · rcases List.mem_append.mp hr with z | z
      · have hq := hB0.2 _ hin
        simp only [List.mem_cons, List.not_mem_nil, or_false] at z
        rcases z with rfl | rfl <;> exact Nat.le_trans (cut_len _ _ _) hq
      · exact hB0.2 r ((cut_sub _ _ _).subset z)
  clear hB0 hx1 hne yss N
  rintro s ⟨N, yss, hx1, hB0, hF⟩
  exact w_fgt hF (w_retRg (i := 3) rfl ⟨_, rfl, yss, rfl, hx1, Nat.le_trans hB0.1 (by decide), fun r hr => Nat.le_trans (hB0.2 r hr) (by decide)⟩)
def c_turned (C : Addr) : List D → Rs → Prop := RC1 C (fun n t => (1 ≤ n ∧ n ≤ 5) ∧ t.length = 2 ^ n) fun n t => .frs (cou C n (tab n ((List.range (2 ^ n)).filter fun g => !t.getD ((2 ^ n - 1) ^^^ g) false)))
abbrev st_turned : Stmt := top 12
abbrev n_turned : List Str := ["council", "whole", "group"]
abbrev p_turned : List Str := ["council"]
theorem sc_turned : FnScope n_turned p_turned (defScope st_turned) := ⟨rfl, rfl, rfl, by decide +kernel, rfl, by decide +kernel, by decide +kernel⟩
theorem ok_turned {f : Addr} {fd : FuncData} (F : Fun K "turned" "turned" st_turned f fd) (T : Txt K mg C_Council C_Answer C_Weights C_Trade C_Ranks C_Unranked) (g_Council_init : OkI P w K mg base CX0 2 "Council" C_Council p_Council_init (SpI K C_Council c_Council_init)) : FnOk P w K mg base CX0 4 f fd p_turned (SpR K (c_turned C_Council)) := by
  refine F.ok sc_turned (sp_len RC1.len) (fun cdv A outer s H vs Q E hr h => ?_)
  have hcl_Council := T.cl_Council
  have hna_Council_members := T.na_Council_members
  have hna_Council_table := T.na_Council_table
  have hcl_Answer := T.cl_Answer
  have hcl_Weights := T.cl_Weights
  have hcl_Trade := T.cl_Trade
  have hcl_Ranks := T.cl_Ranks
  have hna_Ranks_ranks := T.na_Ranks_ranks
  have hcl_Unranked := T.cl_Unranked
  have hna_Unranked_one := T.na_Unranked_one
  have hna_Unranked_other := T.na_Unranked_other
  have hna_Unranked_first := T.na_Unranked_first
  have hna_Unranked_second := T.na_Unranked_second
  have hic_Ranks := T.ic_Ranks
  have hic_Unranked := T.ic_Unranked
  have hki_Ranks_Answer := T.ki_Ranks_Answer
  have hki_Ranks_Ranks := T.ki_Ranks_Ranks
  have hki_Ranks_Unranked := T.ki_Ranks_Unranked
  have hki_Ranks_Weights := T.ki_Ranks_Weights
  have hki_Ranks_Trade := T.ki_Ranks_Trade
  have hki_Unranked_Answer := T.ki_Unranked_Answer
  have hki_Unranked_Ranks := T.ki_Unranked_Ranks
  have hki_Unranked_Unranked := T.ki_Unranked_Unranked
  have hki_Unranked_Weights := T.ki_Unranked_Weights
  have hki_Unranked_Trade := T.ki_Unranked_Trade
  refine ⟨_, (pss_cons (ps_set (i := 1) sc_turned.nd rfl (by first | exact Or.inl rfl | exact Or.inr rfl) (pe_op op_sub (pe_callB call_len_seq (by rfl) T.n_len (PySem.boot_len) (pa_cons (pe_fld (pv 0) rfl) pa_nil)) pe_int))
  (pss_one (ps_ret (pe_makeD g_Council_init (hr.mono (by decide)) (by rfl) pass0 (pa_cons (pe_fld (pv 0) rfl) (pa_cons (pe_lc (own := [("group", 2)]) (g := gName 2) (te := (tVar 2)) (tt := (tNot (tB (tOp (rIxL K) (tFld K (tVar 0) "table") (tOp (rI0 fun i j => .int (Builtin.bitXor i j)) (tVar 1) (tVar 2)))))) (by exact rfl) sc_turned.nd (pi_range1 (by rfl) T.n_range (pa_cons (pe_op op_add (pv 1) pe_int) pa_nil)) (blkOk_by (N := n_turned) (sc := defScope st_turned) (own := [("group", 2)]) (by decide +kernel)) (fun _ _ _ _ _ => (pg_name (i := 2) sc_turned.nd rfl (by first | exact Or.inl rfl | exact Or.inr rfl))) (fun _ _ _ _ _ => pts_one (pt_not (pt_val (pe_ix ix_list (pe_fld (pv 0) rfl) (pe_op op_xor (pv 1) (pv 2)) (fun _ _ => rfl))))) (fun _ _ _ _ _ => (pv 2))) pa_nil)))))), go_of ?_ h⟩
  try dsimp only [L2.cxOf, L2.Cx.nox, L2.Cx.wish, L2.Cx.blk]
  rintro ds r ⟨n, t, rfl, ⟨⟨h1, hn⟩, ht⟩, rfl⟩
  have hp := pow_le n hn
  have hpos : 0 < 2 ^ n := Nat.two_pow_pos n
  show W K E _ [.fz (cou C_Council n t), .un, .un] _
  refine w_seq (w_asg (d := nat (2 ^ n - 1)) ?_ ?_)
  · apply ev_is
    · walk_at "ev"
    · rw [ht, show ((2 ^ n : Nat) : Int) - 1 = ((2 ^ n - 1 : Nat) : Int) by omega]
  have hx : ∀ a, a < 2 ^ n → ((2 ^ n - 1) ^^^ a) < t.length := fun a ha => by
    rw [ht]
    exact xor_lt (by omega) ha
  refine w_ret ?_ rfl
  apply ev_isF
  · with_reducible apply ev_make
    · with_reducible apply ea_cons
      · walk_at "ev"
      · with_reducible apply ea_cons
        · with_reducible apply EvR.fz
          with_reducible apply ev_lcF (ys := List.range (2 ^ n)) (c := nat) (f := fun g => !t.getD ((2 ^ n - 1) ^^^ g) false) (v := nat)
          · refine it_rngN (m := ((2 ^ n - 1 : Nat) : Int) + 1) ?_ (by omega) (by omega)
            walk_at "ea"
          · walk_at "sz"
          · decide
          · intro g hg
            replace hg := List.mem_range.mp hg
            have := hx g hg
            walk_at "et"
          · intro g hg hf
            walk_at "ev"
        · exact ea_nil
    · refine c_Council_init.mk h1 hn ?_ ?_
      · have := filt_len (fun g => !t.getD ((2 ^ n - 1) ^^^ g) false) (2 ^ n)
        omega
      · intro g hg
        exact List.mem_range.mp (List.mem_filter.mp hg).1
  · rfl
def c_law_built (C : Addr) : List D → Rs → Prop := fun ds r => ∃ m gs c, ds = [.tup [nat m, natL gs], .int c] ∧ ToldOk m gs ∧ r = .frs (cou C m (tab m gs))
theorem c_law_built.len {C : Addr} : ∀ ds r, c_law_built C ds r → ds.length = 2 := by
  rintro ds r ⟨_, _, _, rfl, _⟩
  rfl
abbrev st_law_built : Stmt := top 38
abbrev n_law_built : List Str := ["_law_told_here", "_law_cell", "_law_table_here", "_law_groups", "_law_group"]
abbrev p_law_built : List Str := ["_law_told_here", "_law_cell"]
theorem sc_law_built : FnScope n_law_built p_law_built (defScope st_law_built) := ⟨rfl, rfl, rfl, by decide +kernel, rfl, by decide +kernel, by decide +kernel⟩
theorem ok_law_built {f : Addr} {fd : FuncData} (F : Fun K "_law_built" "_law_built" st_law_built f fd) (T : Txt K mg C_Council C_Answer C_Weights C_Trade C_Ranks C_Unranked) (g_Council_init : OkI P w K mg base CX0 2 "Council" C_Council p_Council_init (SpI K C_Council c_Council_init)) (g_law_table : OkD P w K mg base CX0 1 "_law_table" p_law_table (SpR K c_law_table)) (g_turned : OkD P w K mg base CX0 4 "turned" p_turned (SpR K (c_turned C_Council))) : FnOk P w K mg base CX0 5 f fd p_law_built (SpR K (c_law_built C_Council)) := by
  refine F.ok sc_law_built (sp_len c_law_built.len) (fun cdv A outer s H vs Q E hr h => ?_)
  have hcl_Council := T.cl_Council
  have hna_Council_members := T.na_Council_members
  have hna_Council_table := T.na_Council_table
  have hcl_Answer := T.cl_Answer
  have hcl_Weights := T.cl_Weights
  have hcl_Trade := T.cl_Trade
  have hcl_Ranks := T.cl_Ranks
  have hna_Ranks_ranks := T.na_Ranks_ranks
  have hcl_Unranked := T.cl_Unranked
  have hna_Unranked_one := T.na_Unranked_one
  have hna_Unranked_other := T.na_Unranked_other
  have hna_Unranked_first := T.na_Unranked_first
  have hna_Unranked_second := T.na_Unranked_second
  have hic_Ranks := T.ic_Ranks
  have hic_Unranked := T.ic_Unranked
  have hki_Ranks_Answer := T.ki_Ranks_Answer
  have hki_Ranks_Ranks := T.ki_Ranks_Ranks
  have hki_Ranks_Unranked := T.ki_Ranks_Unranked
  have hki_Ranks_Weights := T.ki_Ranks_Weights
  have hki_Ranks_Trade := T.ki_Ranks_Trade
  have hki_Unranked_Answer := T.ki_Unranked_Answer
  have hki_Unranked_Ranks := T.ki_Unranked_Ranks
  have hki_Unranked_Unranked := T.ki_Unranked_Unranked
  have hki_Unranked_Weights := T.ki_Unranked_Weights
  have hki_Unranked_Trade := T.ki_Unranked_Trade
  refine ⟨_, (pss_cons (ps_if (pt_cmpR op_gt (pe_op op_mod (pv 1) pe_int) pe_int (nomark _)) (pss_one (ps_ret (pe_makeD g_Council_init (hr.mono (by decide)) (by rfl) pass0 (pa_cons (pe_ix ix_tup (pv 0) pe_int (fun _ _ => rfl)) (pa_cons (pe_ix ix_tup (pv 0) pe_int (fun _ _ => rfl)) pa_nil))))) pss_nil)
  (pss_cons (ps_set (i := 2) sc_law_built.nd rfl (by first | exact Or.inl rfl | exact Or.inr rfl) (pe_callD g_law_table (hr.mono (by decide)) (by rfl) pass0 (pa_cons (pv 0) pa_nil)))
  (pss_cons (ps_setLc (i := 3) (own := [("_law_group", 4)]) (g := gName 4) (te := (tVar 4)) (tt := (tNot (tB (tOp (rIxL K) (tVar 2) (tOp (rI0 fun i j => .int (i - j)) (tOp (rI0 fun i j => .int (i - j)) (tCB (rLen K) (tCons (tVar 2) tNil)) (tC (.int 1))) (tVar 4)))))) (by exact rfl) sc_law_built.nd rfl rfl (sw_true rfl rfl rfl (by decide +kernel)) (pi_range1 (by rfl) T.n_range (pa_cons (pe_callB call_len_seq (by rfl) T.n_len (PySem.boot_len) (pa_cons (pv 2) pa_nil)) pa_nil)) (blkOk_by (N := n_law_built) (sc := defScope st_law_built) (own := [("_law_group", 4)]) (by decide +kernel)) (fun _ _ _ _ _ => (pg_name (i := 4) sc_law_built.nd rfl (by first | exact Or.inl rfl | exact Or.inr rfl))) (fun _ _ _ _ _ => pts_one (pt_not (pt_val (pe_ix ix_list (pv 2) (pe_op op_sub (pe_op op_sub (pe_callB call_len_seq (by rfl) T.n_len (PySem.boot_len) (pa_cons (pv 2) pa_nil)) pe_int) (pv 4)) (fun _ _ => rfl))))) (fun _ _ _ _ _ => (pv 4)))
  (pss_one (ps_ret (pe_callD g_turned (hr.mono (by decide)) (by rfl) pass0 (pa_cons (pe_makeD g_Council_init (hr.mono (by decide)) (by rfl) pass0 (pa_cons (pe_ix ix_tup (pv 0) pe_int (fun _ _ => rfl)) (pa_cons (pv 3) pa_nil))) pa_nil))))))), go_of ?_ h⟩
  try dsimp only [L2.cxOf, L2.Cx.nox, L2.Cx.wish, L2.Cx.blk]
  rintro ds r ⟨m, gs, c, rfl, ⟨h1, h5, hl, hg⟩, rfl⟩
  have hp := pow_le m h5
  have ht := tab_len m gs
  show W K E _ [.fz (.tup [nat m, natL gs]), .fz (.int c), .un, .un, .un] _
  refine w_seq (w_if (b := decide (c % 3 > 0)) ?_ (fun hb => ?_) fun hb => w_next ?_)
  · walk_at "et"
  · refine w_ret ?_ rfl
    walk_at "evO"
  · have hpos : 0 < 2 ^ m := Nat.two_pow_pos m
    refine w_seq (w_asg (d := blL (tab m gs)) (by walk_at "ev") ?_)
    refine w_seq (w_asg (d := natL ((List.range (2 ^ m)).filter fun g => !(tab m gs).getD ((2 ^ m - 1) ^^^ g) false)) ?_ ?_)
    · apply EvR.fz
      with_reducible apply ev_lcF (ys := List.range (2 ^ m)) (c := nat) (f := fun g => !(tab m gs).getD ((2 ^ m - 1) ^^^ g) false) (v := nat)
      · rw [← ht]
        walk_at "it"
      · walk_at "sz"
      · decide
      · intro g hg
        replace hg := List.mem_range.mp hg
        have e1 := comp_is m (by omega) g hg
        have e2 := comp_lt hg
        apply et_not
        apply et_B
        with_reducible apply ev_op (y := nat ((2 ^ m - 1) ^^^ g))
        · walk_at "ev"
        · apply ev_is
          · walk_at "ev"
          · rw [← e1, ht]
            show D.int _ = D.int _
            congr 1
            omega
        · exact od_ixB (by rw [ht]; exact e2)
      · intro g hg hf
        walk_at "ev"
    refine w_ret ?_ rfl
    have hfl := filt_len (fun g => !(tab m gs).getD ((2 ^ m - 1) ^^^ g) false) (2 ^ m)
    have hfm : ∀ g ∈ (List.range (2 ^ m)).filter (fun g => !(tab m gs).getD ((2 ^ m - 1) ^^^ g) false), g < 2 ^ m := fun g hg => List.mem_range.mp (List.mem_filter.mp hg).1
    have e1 := dual_tab h5 (mono_tab (n := m) (gs := gs))
    have e2 := dual_tab h5 (mono_dual h5 (mono_tab (n := m) (gs := gs)))
    rw [dual_dual ht, ← e1] at e2
    apply ev_isF
    · with_reducible apply ev_callG
      · with_reducible apply ea_cons
        · with_reducible apply EvR.ofF
          with_reducible apply ev_make
          · walk_at "ea"
          · exact c_Council_init.mk h1 h5 (by omega) hfm
        · exact ea_nil
      · exact RC1.mk ⟨⟨h1, h5⟩, tab_len m _⟩
      · walk_at "ne"
    · rw [e2]
theorem ranked_cases {CR CU : Addr} {n : Nat} {t : List Bool} (hn1 : 1 ≤ n) (hn : n ≤ 5) :
    (∃ xss, rankedD CR CU n t = rkO CR xss ∧ 0 < xss.length ∧ BdL 5 5 xss ∧ rkHolds n t xss = true ∧ ∀ r ∈ xss, srt r = r) ∨
    (∃ a b f s, rankedD CR CU n t = urO CU a b f s ∧ a < n ∧ b < n ∧ f < 2 ^ n ∧ s < 2 ^ n ∧ shownM t a b f s = true) := by
  unfold rankedD
  cases e : (pairsM n).find? (badM n t) with
  | none =>
    left
    have T0 := tot_of e
    have hl : (List.range n).length ≤ n := by rw [List.length_range]; exact Nat.le_refl _
    have good := ranks_good _ n _ T0 hl
    have nd := ranks_nodup _ n _ T0 hl List.nodup_range
    have mem := flat_mem _ n _ T0 hl
    have perm : (List.range n).Perm (ranksM n t).flatten := (List.perm_ext_iff_of_nodup List.nodup_range nd).mpr fun a => (mem a).symm
    have hs : srt (ranksM n t).flatten = List.range n := srt_eq perm List.pairwise_le_range
    have hsub := ranks_sub (mayM n t) n (List.range n)
    refine ⟨ranksM n t, rfl, ?_, ⟨Nat.le_trans (ranks_len _ n _) hn, fun r hr => ?_⟩, ?_, fun r hr => srt_self (List.pairwise_le_range.sublist (hsub r hr))⟩
    · cases h : ranksM n t with
      | nil =>
        rw [h] at perm
        have := perm.length_eq
        rw [List.length_range] at this
        simp at this
        omega
      | cons a l => simp
    · have := (hsub r hr).length_le
      rw [List.length_range] at this
      omega
    · unfold rkHolds
      rw [decide_eq_true hs, decide_eq_false (show [] ∉ ranksM n t from ranks_ne _ n _ T0), prog_law (rs := ranksM n t) _ (may_refl n t) nd, (lawR_good (rs := ranksM n t) (mayM n t)).mpr good]
      rfl
  | some p =>
    right
    obtain ⟨a, b⟩ := p
    have hm := mem_pairs.mp (List.mem_of_find?_eq_some e)
    have hb := List.find?_some e
    obtain ⟨e1, e2⟩ := Bool.and_eq_true_iff.mp hb
    obtain ⟨g1, q1, l1, z1⟩ := ga_pos (of_decide_eq_true e1)
    obtain ⟨g2, q2, l2, z2⟩ := ga_pos (of_decide_eq_true e2)
    have q1 : gaM n t b a = (g1 : Int) := q1
    have q2 : gaM n t a b = (g2 : Int) := q2
    refine ⟨a, b, g1, g2, ?_, hm.1, by omega, l1, l2, ?_⟩
    · show urO CU a b (gaM n t b a).toNat (gaM n t a b).toNat = _
      rw [q1, q2]
      rfl
    · have z1 : agst t b a g1 = true := z1
      have z2 : agst t a b g2 = true := z2
      unfold agst at z1 z2
      unfold shownM
      rw [decide_eq_true (show a ≠ b by omega)]
      simp only [Bool.and_eq_true] at z1 z2 ⊢
      exact ⟨⟨⟨trivial, ⟨z1.1.2, z1.1.1⟩, ⟨z2.1.1, z2.1.2⟩⟩, z1.2⟩, z2.2⟩
theorem right_of {CR CU : Addr} {n : Nat} {t : List Bool} (hn1 : 1 ≤ n) (hn : n ≤ 5) (ht : t.length = 2 ^ n) : OrC (c_law_right_R CR) (c_law_right_U CU) [blL t, nat n, rankedD CR CU n t] (.dat (.bl true)) := by
  rcases ranked_cases (CR := CR) (CU := CU) (t := t) hn1 hn with ⟨xss, er, hx, hB, hH, hS⟩ | ⟨a, b, f, s, er, ha, hb, hf, hs, hH⟩
  · rw [er]
    exact .inl ⟨n, t, xss, rfl, ⟨hn, ht, Nat.le_trans hB.1 (by decide), Nat.le_trans hB.flat (by decide), hH, hS⟩, rfl⟩
  · rw [er]
    exact .inr ⟨a, b, f, s, n, t, rfl, ⟨hn, ht, ha, hb, hf, hs, hH⟩, rfl⟩
def c_law_beside_right (C : Addr) : List D → Rs → Prop := fun ds r => ∃ m gs t ns, ds = [.tup [nat m, natL gs], blL t, cou C m t, .scr ns] ∧ (1 ≤ m ∧ m ≤ 5 ∧ t.length = 2 ^ m) ∧ r = .dat (.bl true)
abbrev st_law_beside_right : Stmt := top 39
abbrev n_law_beside_right : List Str := ["_law_told_here", "_law_table_here", "_law_council", "_law_script", "_law_other", "_law_rows", "_law_beside", "_law_found", "_law_due", "_law_cell", "_law_first", "_law_rest", "_law_parted", "_law_ranks", "_law_one", "_law_rank"]
abbrev p_law_beside_right : List Str := ["_law_told_here", "_law_table_here", "_law_council", "_law_script"]
theorem sc_law_beside_right : FnScope n_law_beside_right p_law_beside_right (defScope st_law_beside_right) := ⟨rfl, rfl, rfl, by decide +kernel, rfl, by decide +kernel, by decide +kernel⟩
theorem ok_law_beside_right {f : Addr} {fd : FuncData} (F : Fun K "_law_beside_right" "_law_beside_right" st_law_beside_right f fd) (T : Txt K mg C_Council C_Answer C_Weights C_Trade C_Ranks C_Unranked) (g_law_told : OkD P w K mg base CX0 2 "_law_told" p_law_told (SpU K c_law_told)) (g_Council_init : OkI P w K mg base CX0 2 "Council" C_Council p_Council_init (SpI K C_Council c_Council_init)) (g_law_table : OkD P w K mg base CX0 1 "_law_table" p_law_table (SpR K c_law_table)) (g_ranked : OkD P w K mg base CX0 5 "ranked" p_ranked (SpR K (c_ranked C_Council C_Ranks C_Unranked))) (g_law_right : OkD P w K mg base CX0 4 "_law_right" p_law_right (SpR K (OrC (c_law_right_R C_Ranks) (c_law_right_U C_Unranked)))) (g_law_in_ranks : OkD P w K mg base CX0 3 "_law_in_ranks" p_law_in_ranks (SpR K c_law_in_ranks)) (g_law_shown : OkD P w K mg base CX0 2 "_law_shown" p_law_shown (SpR K c_law_shown)) (g_law_says : OkD P w K mg base CX0 6 "_law_says" p_law_says (SpR K (OrC (c_law_says_R C_Council C_Ranks) (c_law_says_U C_Council C_Unranked)))) (g_law_cell_at : OkD P w K mg base CX0 1 "_law_cell_at" p_law_cell_at (SpR K c_law_cell_at)) (g_law_draw : OkD P w K mg base CX0 1 "_law_draw" p_law_draw (SpR K c_law_draw)) (g_Ranks_init : OkI P w K mg base CX0 1 "Ranks" C_Ranks p_Ranks_init (SpI K C_Ranks c_Ranks_init)) (g_Unranked_holds : OkM P w K mg base CX0 3 C_Unranked "holds" p_Unranked_holds (SpR K (c_Unranked_holds C_Council C_Unranked))) (g_Unranked_init : OkI P w K mg base CX0 1 "Unranked" C_Unranked p_Unranked_init (SpI K C_Unranked c_Unranked_init)) : FnOk P w K mg base CX0 7 f fd p_law_beside_right (SpR K (c_law_beside_right C_Council)) := by
  refine F.ok sc_law_beside_right (sp_len (by rintro ds r ⟨_, _, _, _, rfl, _⟩; rfl)) (fun cdv A outer s H vs Q E hr h => ?_)
  have hcl_Council := T.cl_Council
  have hna_Council_members := T.na_Council_members
  have hna_Council_table := T.na_Council_table
  have hcl_Answer := T.cl_Answer
  have hcl_Weights := T.cl_Weights
  have hcl_Trade := T.cl_Trade
  have hcl_Ranks := T.cl_Ranks
  have hna_Ranks_ranks := T.na_Ranks_ranks
  have hcl_Unranked := T.cl_Unranked
  have hna_Unranked_one := T.na_Unranked_one
  have hna_Unranked_other := T.na_Unranked_other
  have hna_Unranked_first := T.na_Unranked_first
  have hna_Unranked_second := T.na_Unranked_second
  have hic_Ranks := T.ic_Ranks
  have hic_Unranked := T.ic_Unranked
  have hki_Ranks_Answer := T.ki_Ranks_Answer
  have hki_Ranks_Ranks := T.ki_Ranks_Ranks
  have hki_Ranks_Unranked := T.ki_Ranks_Unranked
  have hki_Ranks_Weights := T.ki_Ranks_Weights
  have hki_Ranks_Trade := T.ki_Ranks_Trade
  have hki_Unranked_Answer := T.ki_Unranked_Answer
  have hki_Unranked_Ranks := T.ki_Unranked_Ranks
  have hki_Unranked_Unranked := T.ki_Unranked_Unranked
  have hki_Unranked_Weights := T.ki_Unranked_Weights
  have hki_Unranked_Trade := T.ki_Unranked_Trade
  refine ⟨_, (pss_cons (ps_set (i := 4) sc_law_beside_right.nd rfl (by first | exact Or.inl rfl | exact Or.inr rfl) (pe_callD g_law_told (hr.mono (by decide)) (by rfl) pass0 (pa_cons (pv 3) (pa_cons pe_int pa_nil))))
  (pss_cons (ps_if (pt_cmpR op_eq (pe_ix ix_tup (pv 4) pe_int (fun _ _ => rfl)) (pe_ix ix_tup (pv 0) pe_int (fun _ _ => rfl)) (nomark _)) (pss_cons (ps_par (i := 5) (j := 6) rfl sc_law_beside_right.nd rfl rfl (by decide) rfl rfl (pa_cons (pe_callD g_law_table (hr.mono (by decide)) (by rfl) pass0 (pa_cons (pv 4) pa_nil)) (pa_cons (pe_makeD g_Council_init (hr.mono (by decide)) (by rfl) pass0 (pa_cons (pe_ix ix_tup (pv 4) pe_int (fun _ _ => rfl)) (pa_cons (pe_ix ix_tup (pv 4) pe_int (fun _ _ => rfl)) pa_nil))) pa_nil)) (by rfl))
  (pss_cons (ps_set (i := 7) sc_law_beside_right.nd rfl (by first | exact Or.inl rfl | exact Or.inr rfl) (pe_callD g_ranked (hr.mono (by decide)) (by rfl) pass0 (pa_cons (pv 6) pa_nil)))
  (pss_cons (ps_if (pt_not (pt_val (pe_callD g_law_right (hr.mono (by decide)) (by rfl) pass0 (pa_cons (pv 5) (pa_cons (pe_ix ix_tup (pv 0) pe_int (fun _ _ => rfl)) (pa_cons (pv 7) pa_nil)))))) (pss_one (ps_ret pe_bl)) pss_nil)
  (pss_cons (ps_if (pt_val (pe_callB call_isi (by rfl) T.n_isinstance (by decide +kernel) (pa_cons (pv 7) (pa_cons (pe_glob (v := .ref C_Ranks) (by rfl) T.g_Ranks rfl) pa_nil)))) (pss_one (ps_set (i := 8) sc_law_beside_right.nd rfl (by first | exact Or.inl rfl | exact Or.inr rfl) (pe_callD g_law_in_ranks (hr.mono (by decide)) (by rfl) pass0 (pa_cons (pv 1) (pa_cons (pe_ix ix_tup (pv 0) pe_int (fun _ _ => rfl)) (pa_cons (pe_fld (pv 7) rfl) pa_nil)))))) (pss_one (ps_set (i := 8) sc_law_beside_right.nd rfl (by first | exact Or.inl rfl | exact Or.inr rfl) (pe_callD g_law_shown (hr.mono (by decide)) (by rfl) pass0 (pa_cons (pv 1) (pa_cons (pe_fld (pv 7) rfl) (pa_cons (pe_fld (pv 7) rfl) (pa_cons (pe_fld (pv 7) rfl) (pa_cons (pe_fld (pv 7) rfl) pa_nil)))))))))
  (pss_one (ps_if (PW.pt (pw_or (pt_not (pt_val (pe_callD g_law_says (hr.mono (by decide)) (by rfl) pass0 (pa_cons (pv 7) (pa_cons (pv 2) (pa_cons (pv 8) pa_nil)))))) (pw_or1 (pt_not (pt_val (pe_callD g_law_right (hr.mono (by decide)) (by rfl) pass0 (pa_cons (pv 1) (pa_cons (pe_ix ix_tup (pv 0) pe_int (fun _ _ => rfl)) (pa_cons (pe_callD g_ranked (hr.mono (by decide)) (by rfl) pass0 (pa_cons (pv 2) pa_nil)) pa_nil))))))))) (pss_one (ps_ret pe_bl)) pss_nil)))))) pss_nil)
  (pss_cons (ps_set (i := 9) sc_law_beside_right.nd rfl (by first | exact Or.inl rfl | exact Or.inr rfl) (pe_callD g_law_cell_at (hr.mono (by decide)) (by rfl) pass0 (pa_cons (pv 3) (pa_cons pe_int pa_nil))))
  (pss_cons (ps_set (i := 10) sc_law_beside_right.nd rfl (by first | exact Or.inl rfl | exact Or.inr rfl) (pe_lc (own := [("_law_one", 14)]) (g := gName 14) (te := (tVar 14)) (tt := (tTest (tOp (rEq) (tCall (SpR K c_law_draw) [] E0 (tCons (tVar 9) (tCons (tVar 14) (tCons (tC (.int 2)) tNil)))) (tC (.int 0))))) (by exact rfl) sc_law_beside_right.nd (pi_range1 (by rfl) T.n_range (pa_cons (pe_ix ix_tup (pv 0) pe_int (fun _ _ => rfl)) pa_nil)) (blkOk_by (N := n_law_beside_right) (sc := defScope st_law_beside_right) (own := [("_law_one", 14)]) (by decide +kernel)) (fun _ _ _ _ _ => (pg_name (i := 14) sc_law_beside_right.nd rfl (by first | exact Or.inl rfl | exact Or.inr rfl))) (fun _ _ _ _ _ => pts_one (pt_cmpR op_eq (pe_callD g_law_draw (hr.mono (by decide)) (by rfl) pass0 (pa_cons (pv 9) (pa_cons (pv 14) (pa_cons pe_int pa_nil)))) pe_int (nomark _))) (fun _ _ _ _ _ => (pv 14))))
  (pss_cons (ps_setLc (i := 11) (own := [("_law_one", 14)]) (g := gName 14) (te := (tVar 14)) (tt := (tTest (tOp (rIn K true) (tVar 14) (tVar 10)))) (by exact rfl) sc_law_beside_right.nd rfl rfl (sw_true rfl rfl rfl (by decide +kernel)) (pi_range1 (by rfl) T.n_range (pa_cons (pe_ix ix_tup (pv 0) pe_int (fun _ _ => rfl)) pa_nil)) (blkOk_by (N := n_law_beside_right) (sc := defScope st_law_beside_right) (own := [("_law_one", 14)]) (by decide +kernel)) (fun _ _ _ _ _ => (pg_name (i := 14) sc_law_beside_right.nd rfl (by first | exact Or.inl rfl | exact Or.inr rfl))) (fun _ _ _ _ _ => pts_one (pt_cmpR op_notIn_seq (pv 14) (pv 10) (by rfl))) (fun _ _ _ _ _ => (pv 14)))
  (pss_cons (ps_setLc (i := 12) (own := [("_law_rank", 15)]) (g := gName 15) (te := (tVar 15)) (tt := (tTest (tOp (rNeD K) (tVar 15) (tLst tNil)))) (by exact rfl) sc_law_beside_right.nd rfl rfl (sw_true rfl rfl rfl (by decide +kernel)) (pi_tup (pe_tup (pa_cons (pv 10) (pa_cons (pv 11) pa_nil)))) (blkOk_by (N := n_law_beside_right) (sc := defScope st_law_beside_right) (own := [("_law_rank", 15)]) (by decide +kernel)) (fun _ _ _ _ _ => (pg_name (i := 15) sc_law_beside_right.nd rfl (by first | exact Or.inl rfl | exact Or.inr rfl))) (fun _ _ _ _ _ => pts_one (pt_cmpR (op_neD (hu64 hr)) (pv 15) (pe_lst pa_nil) (nomark _))) (fun _ _ _ _ _ => (pv 15)))
  (pss_cons (ps_for PassesOwn.never rfl (pi_tup (pe_tup (pa_cons (pe_lst (pa_cons (pe_listRg rfl (by rfl) T.n_list (prg_1 (by rfl) T.n_range (pe_ix ix_tup (pv 0) pe_int (fun _ _ => rfl)))) pa_nil)) (pa_cons (pe_lc (own := [("_law_one", 14)]) (g := gName 14) (tt := tYes) (te := (tLst (tCons (tVar 14) tNil))) (by exact rfl) sc_law_beside_right.nd (pi_range1 (by rfl) T.n_range (pa_cons (pe_ix ix_tup (pv 0) pe_int (fun _ _ => rfl)) pa_nil)) (blkOk_by (N := n_law_beside_right) (sc := defScope st_law_beside_right) (own := [("_law_one", 14)]) (by decide +kernel)) (fun _ _ _ _ _ => (pg_name (i := 14) sc_law_beside_right.nd rfl (by first | exact Or.inl rfl | exact Or.inr rfl))) (fun _ _ _ _ _ => pts_nil) (fun _ _ _ _ _ => (pe_lst (pa_cons (pv 14) pa_nil)))) (pa_cons (pv 12) pa_nil))))) (pg_name (i := 13) sc_law_beside_right.nd rfl (by first | exact Or.inl rfl | exact Or.inr rfl))
  (pss_one (ps_if (pt_not (pt_val (pe_callD g_law_says (hr.mono (by decide)) (by rfl) pass0 (pa_cons (pe_makeD g_Ranks_init (hr.mono (by decide)) (by rfl) pass0 (pa_cons (pv 13) pa_nil)) (pa_cons (pv 2) (pa_cons (pe_callD g_law_in_ranks (hr.mono (by decide)) (by rfl) pass0 (pa_cons (pv 1) (pa_cons (pe_ix ix_tup (pv 0) pe_int (fun _ _ => rfl)) (pa_cons (pv 13) pa_nil)))) pa_nil)))))) (pss_one (ps_ret pe_bl)) pss_nil)))
  (pss_one (ps_ret (pe_cmpR op_isBl (pe_methD (pe_makeD g_Unranked_init (hr.mono (by decide)) (by rfl) pass0 (pa_cons pe_int (pa_cons pe_int (pa_cons pe_int (pa_cons pe_int pa_nil))))) T.cl_Unranked g_Unranked_holds (hr.mono (by decide)) pass0 (pa_cons (pe_makeD g_Council_init (hr.mono (by decide)) (by rfl) pass0 (pa_cons pe_int (pa_cons (pe_lst (pa_cons pe_int (pa_cons pe_int (pa_cons pe_int pa_nil)))) pa_nil))) pa_nil)) pe_bl (nomark _))))))))))), go_of ?_ h⟩
  try dsimp only [L2.cxOf, L2.Cx.nox, L2.Cx.wish, L2.Cx.blk]
  rintro ds r ⟨m, gs, t, ns, rfl, ⟨h1, h5, ht⟩, rfl⟩
  have hp := pow_le m h5
  show W K E _ [.fz (.tup [nat m, natL gs]), .fz (blL t), .fz (cou C_Council m t), .fz (.scr ns), .un, .un, .un, .un, .un, .un, .un, .un, .un, .un, .un, .un] _
  refine w_seq (w_asgU (F := fun d => ∃ m gs, d = .tup [nat m, natL gs] ∧ ToldOk m gs) ?_ ?_)
  · with_reducible apply ev_callU
    · walk_at "ea"
    · exact ⟨ns, 2, rfl, by decide, rfl⟩
  rintro d ⟨m', gs', rfl, h1', h5', hl', hg'⟩
  refine w_seqM (fun s => Fgt s [.fz (.tup [nat m, natL gs]), .fz (blL t), .fz (cou C_Council m t), .fz (.scr ns), .un, .un, .un, .un, .un, .un, .un, .un, .un, .un, .un, .un]) (w_if (b := decide (m' = m)) ?_ (fun e => ?_) fun e => w_next (.keep (.keep (.keep (.keep (.drop (.keep (.keep (.keep (.keep (.keep (.keep (.keep (.keep (.keep (.keep (.keep .nil))))))))))))))))) ?_
  · walk_at "et"
  · have e := of_decide_eq_true e
    subst e
    have ht' := tab_len m' gs'
    refine w_seq (w_par (d1 := blL (tab m' gs')) (d2 := cou C_Council m' (tab m' gs')) (by walk_at "ea") ?_)
    generalize tab m' gs' = t' at ht'
    refine w_seq (w_asg (d := rankedD C_Ranks C_Unranked m' t') ?_ ?_)
    · apply EvR.ofF
      with_reducible apply ev_callG
      · walk_at "ea"
      · exact RC1.mk ⟨h5, ht'⟩
      · walk_at "ne"
    refine w_seq (w_ifF ?_ (w_next ?_))
    · refine et_is (a := !true) ?_ rfl
      with_reducible apply et_not
      with_reducible apply et_B
      with_reducible apply ev_call
      · walk_at "ea"
      · exact right_of h1 h5 ht'
    rcases ranked_cases (CR := C_Ranks) (CU := C_Unranked) (t := t') h1 h5 with ⟨xss, er, hx, hB, hH, hS⟩ | ⟨a, b, f, s, er, ha, hb, hf, hs, hH⟩
    · rw [er]
      have hl1 : xss.length ≤ 1000 := Nat.le_trans hB.1 (by decide)
      have hl2 : xss.flatten.length ≤ 1000 := Nat.le_trans hB.flat (by decide)
      refine w_seq (w_ifT ?_ ?_)
      · walk_at "et"
      refine w_asg (d := .bl (rkHolds m' t xss)) ?_ ?_
      · with_reducible apply ev_call
        · walk_at "ea"
        · exact ⟨m', t, xss, rfl, ⟨h5, ht, hl1, hl2⟩, rfl⟩
      refine w_ifF ?_ (w_next ?_)
      · refine et_is (a := !decide (rkHolds m' t xss = rkHolds m' t xss) || !true) ?_ (by simp)
        with_reducible apply et_or
        · with_reducible apply et_not
          with_reducible apply et_B
          with_reducible apply ev_call
          · walk_at "ea"
          · exact .inl ⟨xss, m', t, rkHolds m' t xss, rfl, ⟨h5, ht, hl1, hl2⟩, rfl⟩
        · intro _
          with_reducible apply et_not
          with_reducible apply et_B
          with_reducible apply ev_call
          · with_reducible apply ea_cons
            · walk_at "ev"
            · with_reducible apply ea_cons
              · walk_at "ev"
              · with_reducible apply ea_cons (x := rankedD C_Ranks C_Unranked m' t)
                · apply EvR.ofF
                  with_reducible apply ev_callG
                  · walk_at "ea"
                  · exact RC1.mk ⟨h5, ht⟩
                  · walk_at "ne"
                · exact ea_nil
          · exact right_of h1 h5 ht
      · exact .keep (.keep (.keep (.keep (.drop (.drop (.drop (.drop (.drop (.keep (.keep (.keep (.keep (.keep (.keep (.keep .nil)))))))))))))))
    · rw [er]
      refine w_seq (w_ifF ?_ ?_)
      · walk_at "et"
      refine w_asg (d := .bl (shownM t a b f s)) ?_ ?_
      · with_reducible apply ev_call
        · walk_at "ea"
        · exact ⟨a, b, f, s, m', t, rfl, ⟨h5, ht, ha, hb, hf, hs⟩, rfl⟩
      refine w_ifF ?_ (w_next ?_)
      · refine et_is (a := !decide (shownM t a b f s = shownM t a b f s) || !true) ?_ (by simp)
        with_reducible apply et_or
        · with_reducible apply et_not
          with_reducible apply et_B
          with_reducible apply ev_call
          · walk_at "ea"
          · exact .inr ⟨a, b, f, s, m', t, shownM t a b f s, rfl, ⟨h5, ht, ha, hb, hf, hs⟩, rfl⟩
        · intro _
          with_reducible apply et_not
          with_reducible apply et_B
          with_reducible apply ev_call
          · with_reducible apply ea_cons
            · walk_at "ev"
            · with_reducible apply ea_cons
              · walk_at "ev"
              · with_reducible apply ea_cons (x := rankedD C_Ranks C_Unranked m' t)
                · apply EvR.ofF
                  with_reducible apply ev_callG
                  · walk_at "ea"
                  · exact RC1.mk ⟨h5, ht⟩
                  · walk_at "ne"
                · exact ea_nil
          · exact right_of h1 h5 ht
      · exact .keep (.keep (.keep (.keep (.drop (.drop (.drop (.drop (.drop (.keep (.keep (.keep (.keep (.keep (.keep (.keep .nil)))))))))))))))
  rintro s hF
  refine w_fgt hF ?_
  clear hF s
  refine w_seq (w_asg (d := .int (ns.getD 3 0)) ?_ ?_)
  · with_reducible apply ev_call
    · walk_at "ea"
    · exact R2'.mk (c := D.scr) (d := nat) (x := ns) (y := 3) trivial
  generalize ns.getD 3 0 = c
  refine w_seq (w_asg (d := natL ((List.range m).filter fun k => decide (((drawM c k 2 : Nat) : Int) = 0))) ?_ ?_)
  · apply EvR.fz
    with_reducible apply ev_lcF (ys := List.range m) (c := nat) (f := fun k => decide (((drawM c k 2 : Nat) : Int) = 0)) (v := nat)
    · walk_at "it"
    · walk_at "sz"
    · decide
    · intro k hk
      with_reducible apply et_test
      with_reducible apply ev_op (x := nat (drawM c k 2)) (y := .int 0)
      · with_reducible apply ev_call
        · walk_at "ea"
        · exact R3.mk (ca := D.int) (cb := nat) (cc := D.int) (x := c) (y := k) (z := 2) (show (0 : Int) < 2 by decide)
      · walk_at "ev"
      · exact od_eqI
    · intro k hk hf
      walk_at "ev"
  have hf1 := filt_len (fun k => decide (((drawM c k 2 : Nat) : Int) = 0)) m
  generalize (List.range m).filter (fun k => decide (((drawM c k 2 : Nat) : Int) = 0)) = F1 at hf1
  refine w_seq (w_asg (d := natL ((List.range m).filter fun k => !decide (k ∈ F1))) ?_ ?_)
  · apply EvR.fz
    with_reducible apply ev_lcF (ys := List.range m) (c := nat) (f := fun k => !decide (k ∈ F1)) (v := nat)
    · walk_at "it"
    · walk_at "sz"
    · decide
    · intro k hk
      with_reducible apply et_test
      with_reducible apply ev_op
      · walk_at "ev"
      · walk_at "ev"
      · exact od_inN1
    · intro k hk hf
      walk_at "ev"
  have hf2 := filt_len (fun k => !decide (k ∈ F1)) m
  generalize (List.range m).filter (fun k => !decide (k ∈ F1)) = F2 at hf2
  refine w_seq (w_asg (d := natLL ([F1, F2].filter fun r => !decide (r = []))) ?_ ?_)
  · apply EvR.fz
    with_reducible apply ev_lcF (ys := [F1, F2]) (c := natL) (f := fun r => !decide (r = [])) (v := natL)
    · refine it_tup (xs := [F1, F2].map natL) ?_
      exact ev_tup (ea_cons (ev_var rfl) (ea_cons (ev_var rfl) ea_nil)) (by show 2 ≤ sizeLine; decide)
    · show 2 ≤ 1000000
      decide
    · decide
    · intro r hr
      with_reducible apply et_test
      with_reducible apply ev_op (x := natL r) (y := natL [])
      · exact ev_var rfl
      · exact EvR.fz (ev_lst ea_nil (by decide))
      · exact od_neN
    · intro r hr hf
      exact ev_var rfl
  have hP : BdL 5 5 ([F1, F2].filter fun r => !decide (r = [])) := ⟨Nat.le_trans (List.length_filter_le _ _) (by show 2 ≤ 5; decide), fun r hr => by
    have := (List.mem_filter.mp hr).1
    simp only [List.mem_cons, List.not_mem_nil, or_false] at this
    rcases this with rfl | rfl <;> omega⟩
  generalize [F1, F2].filter (fun r => !decide (r = [])) = Pt at hP
  refine w_seq (w_forEach (xs := [natLL [List.range m], natLL ((List.range m).map fun k => [k]), natLL Pt]) [.fz (.tup [nat m, natL gs]), .fz (blL t), .fz (cou C_Council m t), .fz (.scr ns), .un, .un, .un, .un, .un, .un, .un, .un, .un, .un, .un, .un] ?_ (.keep (.keep (.keep (.keep (.keep (.keep (.keep (.keep (.keep (.drop (.drop (.drop (.drop (.keep (.keep (.keep .nil)))))))))))))))) ?_ ?_)
  · with_reducible apply it_tup
    with_reducible apply ev_tup
    · with_reducible apply ea_cons (x := natLL [List.range m])
      · apply EvR.fz
        with_reducible apply ev_lst (ds := [List.range m].map natL)
        · exact ea_cons (x := natL (List.range m)) (by walk_at "ev") ea_nil
        · show 1 ≤ sizeLine
          decide
      · with_reducible apply ea_cons (x := natLL ((List.range m).map fun k => [k]))
        · apply EvR.fz
          apply ev_isN
          · with_reducible apply ev_lcM (ys := List.range m) (c := nat) (v := fun k => natL [k])
            · walk_at "it"
            · walk_at "sz"
            · decide
            · intro k hk
              apply EvR.fz
              exact ev_lst (ea_cons (ev_var rfl) ea_nil) (by show 1 ≤ sizeLine; decide)
          · rw [List.map_map]
            rfl
        · with_reducible apply ea_cons (x := natLL Pt)
          · exact ev_var rfl
          · exact ea_nil
    · show 3 ≤ sizeLine
      decide
  · intro d hd
    have : ∃ yss, d = natLL yss ∧ BdL 5 5 yss := by
      simp only [List.mem_cons, List.not_mem_nil, or_false] at hd
      rcases hd with rfl | rfl | rfl
      · exact ⟨_, rfl, by show 1 ≤ 5; decide, fun r hr => by rw [List.mem_singleton.mp hr, List.length_range]; exact h5⟩
      · refine ⟨_, rfl, by rw [List.length_map, List.length_range]; exact h5, fun r hr => ?_⟩
        obtain ⟨k, _, rfl⟩ := List.mem_map.mp hr
        show 1 ≤ 5
        decide
      · exact ⟨_, rfl, hP⟩
    obtain ⟨yss, rfl, hB⟩ := this
    have hl1 : yss.length ≤ 1000 := Nat.le_trans hB.1 (by decide)
    have hl2 : yss.flatten.length ≤ 1000 := Nat.le_trans hB.flat (by decide)
    refine w_ifF ?_ (w_next (.keep (.keep (.keep (.keep (.keep (.keep (.keep (.keep (.keep (.keep (.keep (.keep (.keep (.drop (.keep (.keep .nil)))))))))))))))))
    refine et_is (a := !decide (rkHolds m t yss = rkHolds m t yss)) ?_ (by simp)
    with_reducible apply et_not
    with_reducible apply et_B
    with_reducible apply ev_call
    · with_reducible apply ea_cons (x := rkO C_Ranks yss)
      · apply EvR.ofF
        with_reducible apply ev_make
        · exact ea_cons (x := natLL yss) (ev_var rfl) ea_nil
        · exact ⟨yss, rfl, hl1, rfl⟩
      · with_reducible apply ea_cons
        · walk_at "ev"
        · with_reducible apply ea_cons (x := .bl (rkHolds m t yss))
          · with_reducible apply ev_call
            · walk_at "ea"
            · exact ⟨m, t, yss, rfl, ⟨h5, ht, hl1, hl2⟩, rfl⟩
          · exact ea_nil
    · exact .inl ⟨yss, m, t, rkHolds m t yss, rfl, ⟨h5, ht, hl1, hl2⟩, rfl⟩
  intro s hF
  refine w_fgt hF (w_ret ?_ rfl)
  refine ev_is (d := .bl (decide (shownM (tab 3 [1, 2, 4]) 0 1 0 0 = false))) ?_ (congrArg D.bl (by decide +kernel))
  with_reducible apply ev_op (x := .bl (shownM (tab 3 [1, 2, 4]) 0 1 0 0)) (y := .bl false)
  · with_reducible apply ev_meth
    · apply EvR.ofF
      with_reducible apply ev_make
      · exact ea_cons (x := nat 0) ev_int (ea_cons (x := nat 1) ev_int (ea_cons (x := nat 0) ev_int (ea_cons (x := nat 0) ev_int ea_nil)))
      · exact ⟨0, 1, 0, 0, rfl, rfl⟩
    · decide +kernel
    · with_reducible apply ea_cons (x := cou C_Council 3 (tab 3 [1, 2, 4]))
      · apply EvR.ofF
        with_reducible apply ev_make
        · exact ea_cons (x := nat 3) ev_int (ea_cons (x := natL [1, 2, 4]) (EvR.fz (ev_lst (ea_cons ev_int (ea_cons ev_int (ea_cons ev_int ea_nil))) (by decide))) ea_nil)
        · exact c_Council_init.mk (by decide) (by decide) (by decide) (by decide)
      · exact ea_nil
    · exact ⟨0, 1, 0, 0, 3, tab 3 [1, 2, 4], rfl, ⟨by decide, by decide +kernel, by decide, by decide, by decide, by decide⟩, rfl⟩
  · exact ev_bl
  · exact od_isB
def specM : List (Nat × List Nat) := [(4, [3, 12]), (5, [3, 12]), (5, [3, 28]), (5, [7, 24, 10])]
theorem spec_ok : ∀ k, k < 4 → 1 ≤ (specM.getD k (0, [])).1 ∧ (specM.getD k (0, [])).1 ≤ 5 ∧ (specM.getD k (0, [])).2.length ≤ 32 ∧ ∀ g ∈ (specM.getD k (0, [])).2, g < 2 ^ (specM.getD k (0, [])).1 := by decide
theorem spec_get (g : Nat × List Nat → D) : ∀ k, k < 4 → (specM.map g)[k]? = some (g (specM.getD k (0, [])))
  | 0, _ => rfl
  | 1, _ => rfl
  | 2, _ => rfl
  | 3, _ => rfl
  | k + 4, h => absurd h (by omega)
theorem rk_empty {m : Nat} (h : 1 ≤ m) (t : List Bool) : rkHolds m t [] = false := by
  unfold rkHolds
  rw [decide_eq_false, Bool.false_and]
  intro e
  have := congrArg List.length e
  rw [List.length_range, (srt_perm _).length_eq] at this
  simp at this
  omega
abbrev st_law : Stmt := top 40
abbrev n_law : List Str := ["_law_script", "_law_told_here", "_law_council", "_law_table_here", "_law_one", "_law_other", "_law_found", "_law_cell", "_law_again", "_law_made", "_law_due", "_law_kept", "_law_bent_here", "_law_some", "_law_first", "_law_second", "_law_rank", "_law_k"]
abbrev p_law : List Str := ["_law_script"]
theorem sc_law : FnScope n_law p_law (defScope st_law) := ⟨rfl, rfl, rfl, by decide +kernel, rfl, by decide +kernel, by decide +kernel⟩
theorem ok_law {f : Addr} {fd : FuncData} (F : Fun K "law" "law" st_law f fd) (T : Txt K mg C_Council C_Answer C_Weights C_Trade C_Ranks C_Unranked) (g_law_told : OkD P w K mg base CX0 2 "_law_told" p_law_told (SpU K c_law_told)) (g_law_cell_at : OkD P w K mg base CX0 1 "_law_cell_at" p_law_cell_at (SpR K c_law_cell_at)) (g_law_built : OkD P w K mg base CX0 5 "_law_built" p_law_built (SpR K (c_law_built C_Council))) (g_law_table : OkD P w K mg base CX0 1 "_law_table" p_law_table (SpR K c_law_table)) (g_stands : OkD P w K mg base CX0 4 "stands" p_stands (SpR K (c_stands C_Council))) (g_law_may : OkD P w K mg base CX0 2 "_law_may" p_law_may (SpR K c_law_may)) (g_ranked : OkD P w K mg base CX0 5 "ranked" p_ranked (SpR K (c_ranked C_Council C_Ranks C_Unranked))) (g_law_says : OkD P w K mg base CX0 6 "_law_says" p_law_says (SpR K (OrC (c_law_says_R C_Council C_Ranks) (c_law_says_U C_Council C_Unranked)))) (g_law_right : OkD P w K mg base CX0 4 "_law_right" p_law_right (SpR K (OrC (c_law_right_R C_Ranks) (c_law_right_U C_Unranked)))) (g_law_bent : OkD P w K mg base CX0 1 "_law_bent" p_law_bent (SpUF K c_law_bent)) (g_law_in_ranks : OkD P w K mg base CX0 3 "_law_in_ranks" p_law_in_ranks (SpR K c_law_in_ranks)) (g_Ranks_init : OkI P w K mg base CX0 1 "Ranks" C_Ranks p_Ranks_init (SpI K C_Ranks c_Ranks_init)) (g_Ranks_holds : OkM P w K mg base CX0 5 C_Ranks "holds" p_Ranks_holds (SpR K (c_Ranks_holds C_Council C_Ranks))) (g_law_draw : OkD P w K mg base CX0 1 "_law_draw" p_law_draw (SpR K c_law_draw)) (g_Unranked_init : OkI P w K mg base CX0 1 "Unranked" C_Unranked p_Unranked_init (SpI K C_Unranked c_Unranked_init)) (g_law_shown : OkD P w K mg base CX0 2 "_law_shown" p_law_shown (SpR K c_law_shown)) (g_law_beside_right : OkD P w K mg base CX0 7 "_law_beside_right" p_law_beside_right (SpR K (c_law_beside_right C_Council))) : FnOk P w K mg base CX0 8 f fd p_law (SpR K c_law) := by
  refine F.ok sc_law (sp_len R1.len) (fun cdv A outer s H vs Q E hr h => ?_)
  have hcl_Council := T.cl_Council
  have hna_Council_members := T.na_Council_members
  have hna_Council_table := T.na_Council_table
  have hcl_Answer := T.cl_Answer
  have hcl_Weights := T.cl_Weights
  have hcl_Trade := T.cl_Trade
  have hcl_Ranks := T.cl_Ranks
  have hna_Ranks_ranks := T.na_Ranks_ranks
  have hcl_Unranked := T.cl_Unranked
  have hna_Unranked_one := T.na_Unranked_one
  have hna_Unranked_other := T.na_Unranked_other
  have hna_Unranked_first := T.na_Unranked_first
  have hna_Unranked_second := T.na_Unranked_second
  have hic_Ranks := T.ic_Ranks
  have hic_Unranked := T.ic_Unranked
  have hki_Ranks_Answer := T.ki_Ranks_Answer
  have hki_Ranks_Ranks := T.ki_Ranks_Ranks
  have hki_Ranks_Unranked := T.ki_Ranks_Unranked
  have hki_Ranks_Weights := T.ki_Ranks_Weights
  have hki_Ranks_Trade := T.ki_Ranks_Trade
  have hki_Unranked_Answer := T.ki_Unranked_Answer
  have hki_Unranked_Ranks := T.ki_Unranked_Ranks
  have hki_Unranked_Unranked := T.ki_Unranked_Unranked
  have hki_Unranked_Weights := T.ki_Unranked_Weights
  have hki_Unranked_Trade := T.ki_Unranked_Trade
  refine ⟨_, (pss_cons (ps_set (i := 1) sc_law.nd rfl (by first | exact Or.inl rfl | exact Or.inr rfl) (pe_callD g_law_told (hr.mono (by decide)) (by rfl) pass0 (pa_cons (pv 0) (pa_cons pe_int pa_nil))))
  (pss_cons (ps_if (pt_cmpR op_eq (pe_op op_mod (pe_callD g_law_cell_at (hr.mono (by decide)) (by rfl) pass0 (pa_cons (pv 0) (pa_cons pe_int pa_nil))) pe_int) pe_int (nomark _)) (pss_one (ps_set (i := 1) sc_law.nd rfl (by first | exact Or.inl rfl | exact Or.inr rfl) (pe_ix ix_list (pe_lst (pa_cons (pe_tup (pa_cons pe_int (pa_cons (pe_lst (pa_cons pe_int (pa_cons pe_int pa_nil))) pa_nil))) (pa_cons (pe_tup (pa_cons pe_int (pa_cons (pe_lst (pa_cons pe_int (pa_cons pe_int pa_nil))) pa_nil))) (pa_cons (pe_tup (pa_cons pe_int (pa_cons (pe_lst (pa_cons pe_int (pa_cons pe_int pa_nil))) pa_nil))) (pa_cons (pe_tup (pa_cons pe_int (pa_cons (pe_lst (pa_cons pe_int (pa_cons pe_int (pa_cons pe_int pa_nil)))) pa_nil))) pa_nil))))) (pe_op op_mod (pe_op op_fdiv (pe_callD g_law_cell_at (hr.mono (by decide)) (by rfl) pass0 (pa_cons (pv 0) (pa_cons pe_int pa_nil))) pe_int) pe_int) (fun _ _ => rfl)))) pss_nil)
  (pss_cons (ps_set (i := 2) sc_law.nd rfl (by first | exact Or.inl rfl | exact Or.inr rfl) (pe_callD g_law_built (hr.mono (by decide)) (by rfl) pass0 (pa_cons (pv 1) (pa_cons (pe_callD g_law_cell_at (hr.mono (by decide)) (by rfl) pass0 (pa_cons (pv 0) (pa_cons pe_int pa_nil))) pa_nil))))
  (pss_cons (ps_set (i := 3) sc_law.nd rfl (by first | exact Or.inl rfl | exact Or.inr rfl) (pe_callD g_law_table (hr.mono (by decide)) (by rfl) pass0 (pa_cons (pv 1) pa_nil)))
  (pss_cons (ps_for PassesOwn.never rfl (pi_range1 (by rfl) T.n_range (pa_cons (pe_ix ix_tup (pv 1) pe_int (fun _ _ => rfl)) pa_nil)) (pg_name (i := 4) sc_law.nd rfl (by first | exact Or.inl rfl | exact Or.inr rfl))
  (pss_one (ps_for PassesOwn.never rfl (pi_range1 (by rfl) T.n_range (pa_cons (pe_ix ix_tup (pv 1) pe_int (fun _ _ => rfl)) pa_nil)) (pg_name (i := 5) sc_law.nd rfl (by first | exact Or.inl rfl | exact Or.inr rfl))
  (pss_cons (ps_set (i := 6) sc_law.nd rfl (by first | exact Or.inl rfl | exact Or.inr rfl) (pe_callD g_stands (hr.mono (by decide)) (by rfl) pass0 (pa_cons (pv 2) (pa_cons (pv 4) (pa_cons (pv 5) pa_nil)))))
  (pss_one (ps_if (PW.pt (pw_or (pt_not (pt_val (pe_callB call_isi (by rfl) T.n_isinstance (by decide +kernel) (pa_cons (pv 6) (pa_cons (pe_bltn (v := .ty "bool") (by rfl) T.n_bool (by decide +kernel) rfl) pa_nil))))) (pw_or1 (pt_cmpR op_ne (pv 6) (pe_callD g_law_may (hr.mono (by decide)) (by rfl) pass0 (pa_cons (pv 3) (pa_cons (pv 4) (pa_cons (pv 5) pa_nil)))) (nomark _))))) (pss_one (ps_ret pe_bl)) pss_nil))))))
  (pss_cons (ps_set (i := 7) sc_law.nd rfl (by first | exact Or.inl rfl | exact Or.inr rfl) (pe_callD g_law_cell_at (hr.mono (by decide)) (by rfl) pass0 (pa_cons (pv 0) (pa_cons pe_int pa_nil))))
  (pss_cons (ps_for PassesOwn.never rfl (pi_range1 (by rfl) T.n_range (pa_cons pe_int pa_nil)) (pg_name (i := 8) sc_law.nd rfl (by first | exact Or.inl rfl | exact Or.inr rfl))
  (pss_cons (ps_set (i := 6) sc_law.nd rfl (by first | exact Or.inl rfl | exact Or.inr rfl) (pe_callD g_ranked (hr.mono (by decide)) (by rfl) pass0 (pa_cons (pv 2) pa_nil)))
  (pss_cons (ps_if (PW.pt (pw_or (pt_not (pt_val (pe_callD g_law_right (hr.mono (by decide)) (by rfl) pass0 (pa_cons (pv 3) (pa_cons (pe_ix ix_tup (pv 1) pe_int (fun _ _ => rfl)) (pa_cons (pv 6) pa_nil)))))) (pw_or1 (pt_not (pt_val (pe_callD g_law_says (hr.mono (by decide)) (by rfl) pass0 (pa_cons (pv 6) (pa_cons (pv 2) (pa_cons pe_bl pa_nil))))))))) (pss_one (ps_ret pe_bl)) pss_nil)
  (pss_one (ps_if (pt_val (pe_callB call_isi (by rfl) T.n_isinstance (by decide +kernel) (pa_cons (pv 6) (pa_cons (pe_glob (v := .ref C_Ranks) (by rfl) T.g_Ranks rfl) pa_nil)))) (pss_cons (ps_set (i := 9) sc_law.nd rfl (by first | exact Or.inl rfl | exact Or.inr rfl) (pe_callD g_law_bent (hr.mono (by decide)) (by rfl) pass0 (pa_cons (pe_fld (pv 6) rfl) (pa_cons (pv 7) (pa_cons (pe_ix ix_tup (pv 1) pe_int (fun _ _ => rfl)) pa_nil)))))
  (pss_cons (ps_set (i := 10) sc_law.nd rfl (by first | exact Or.inl rfl | exact Or.inr rfl) (pe_callD g_law_in_ranks (hr.mono (by decide)) (by rfl) pass0 (pa_cons (pv 3) (pa_cons (pe_ix ix_tup (pv 1) pe_int (fun _ _ => rfl)) (pa_cons (pv 9) pa_nil)))))
  (pss_cons (ps_setLc (i := 11) (own := [("_law_rank", 16)]) (g := gName 16) (tt := tYes) (te := (tCB (rListOf K) (tCons (tVar 16) tNil))) (by exact rfl) sc_law.nd rfl rfl (sw_true rfl rfl rfl (by decide +kernel)) (pi_list (pv 9)) (blkOk_by (N := n_law) (sc := defScope st_law) (own := [("_law_rank", 16)]) (by decide +kernel)) (fun _ _ _ _ _ => (pg_name (i := 16) sc_law.nd rfl (by first | exact Or.inl rfl | exact Or.inr rfl))) (fun _ _ _ _ _ => pts_nil) (fun _ _ _ _ _ => (pe_callTy call_list_of (by rfl) T.n_list (by decide +kernel) (pa_cons (pv 16) pa_nil))))
  (pss_cons (ps_set (i := 12) sc_law.nd rfl (by first | exact Or.inl rfl | exact Or.inr rfl) (pe_makeD g_Ranks_init (hr.mono (by decide)) (by rfl) pass0 (pa_cons (pv 9) pa_nil)))
  (pss_cons (ps_expr (pe_bm0 PySem.F.plainAttrs_list PySem.F.slot_list_clear PySem.F.type_list_clear mt_clear (pe_ix ix_list (pv 9) pe_int (fun _ _ => rfl))))
  (pss_cons (ps_expr (pe_bm0 PySem.F.plainAttrs_list PySem.F.slot_list_clear PySem.F.type_list_clear mt_clear (pv 9)))
  (pss_cons (ps_if (PW.pt (pw_or (pt_cmpR (op_neD (hu64 hr)) (pe_fld (pv 12) rfl) (pv 11) (nomark _)) (pw_or1 (pt_not (pt_val (pe_callD g_law_says (hr.mono (by decide)) (by rfl) pass0 (pa_cons (pv 12) (pa_cons (pv 2) (pa_cons (pv 10) pa_nil))))))))) (pss_one (ps_ret pe_bl)) pss_nil)
  (pss_cons (ps_expr (pe_bm0 PySem.F.plainAttrs_list PySem.F.slot_list_clear PySem.F.type_list_clear mt_clear (pe_ix ix_list (pe_fld (pv 6) rfl) pe_int (fun _ _ => rfl))))
  (pss_cons (ps_expr (pe_bm0 PySem.F.plainAttrs_list PySem.F.slot_list_clear PySem.F.type_list_clear mt_clear (pe_fld (pv 6) rfl)))
  (pss_one (ps_if (pt_cmpR op_notBl (pe_methD (pv 6) T.cl_Ranks g_Ranks_holds (hr.mono (by decide)) pass0 (pa_cons (pv 2) pa_nil)) pe_bl (nomark _)) (pss_one (ps_ret pe_bl)) pss_nil))))))))))) pss_nil)))))
  (pss_cons (ps_set (i := 13) sc_law.nd rfl (by first | exact Or.inl rfl | exact Or.inr rfl) (pe_op op_cat (pe_lc (own := [("_law_k", 17)]) (g := gName 17) (tt := tYes) (te := (tCall (SpR K c_law_draw) [] E0 (tCons (tVar 7) (tCons (tVar 17) (tCons (tOp (rIxT K) (tVar 1) (tC (.int 0))) tNil))))) (by exact rfl) sc_law.nd (pi_range1 (by rfl) T.n_range (pa_cons pe_int pa_nil)) (blkOk_by (N := n_law) (sc := defScope st_law) (own := [("_law_k", 17)]) (by decide +kernel)) (fun _ _ _ _ _ => (pg_name (i := 17) sc_law.nd rfl (by first | exact Or.inl rfl | exact Or.inr rfl))) (fun _ _ _ _ _ => pts_nil) (fun _ _ _ _ _ => (pe_callD g_law_draw (hr.mono (by decide)) (by rfl) pass0 (pa_cons (pv 7) (pa_cons (pv 17) (pa_cons (pe_ix ix_tup (pv 1) pe_int (fun _ _ => rfl)) pa_nil)))))) (pe_lc (own := [("_law_k", 17)]) (g := gName 17) (tt := tYes) (te := (tCall (SpR K c_law_draw) [] E0 (tCons (tVar 7) (tCons (tOp (rI0 fun i j => .int (i + j)) (tVar 17) (tC (.int 2))) (tCons (tCB (rLen K) (tCons (tVar 3) tNil)) tNil))))) (by exact rfl) sc_law.nd (pi_range1 (by rfl) T.n_range (pa_cons pe_int pa_nil)) (blkOk_by (N := n_law) (sc := defScope st_law) (own := [("_law_k", 17)]) (by decide +kernel)) (fun _ _ _ _ _ => (pg_name (i := 17) sc_law.nd rfl (by first | exact Or.inl rfl | exact Or.inr rfl))) (fun _ _ _ _ _ => pts_nil) (fun _ _ _ _ _ => (pe_callD g_law_draw (hr.mono (by decide)) (by rfl) pass0 (pa_cons (pv 7) (pa_cons (pe_op op_add (pv 17) pe_int) (pa_cons (pe_callB call_len_seq (by rfl) T.n_len (PySem.boot_len) (pa_cons (pv 3) pa_nil)) pa_nil))))))))
  (pss_cons (ps_asg (pv 13) (pg_lst rfl (pgs_cons (pg_name (i := 4) sc_law.nd rfl (by first | exact Or.inl rfl | exact Or.inr rfl)) (pgs_cons (pg_name (i := 5) sc_law.nd rfl (by first | exact Or.inl rfl | exact Or.inr rfl)) (pgs_cons (pg_name (i := 14) sc_law.nd rfl (by first | exact Or.inl rfl | exact Or.inr rfl)) (pgs_cons (pg_name (i := 15) sc_law.nd rfl (by first | exact Or.inl rfl | exact Or.inr rfl)) pgs_nil))))))
  (pss_cons (ps_set (i := 9) sc_law.nd rfl (by first | exact Or.inl rfl | exact Or.inr rfl) (pe_makeD g_Unranked_init (hr.mono (by decide)) (by rfl) pass0 (pa_cons (pv 4) (pa_cons (pv 5) (pa_cons (pv 14) (pa_cons (pv 15) pa_nil))))))
  (pss_cons (ps_if (pt_cmpR (op_neD (hu64 hr)) (pe_lst (pa_cons (pe_fld (pv 9) rfl) (pa_cons (pe_fld (pv 9) rfl) (pa_cons (pe_fld (pv 9) rfl) (pa_cons (pe_fld (pv 9) rfl) pa_nil))))) (pv 13) (nomark _)) (pss_one (ps_ret pe_bl)) pss_nil)
  (pss_cons (ps_set (i := 10) sc_law.nd rfl (by first | exact Or.inl rfl | exact Or.inr rfl) (pe_callD g_law_shown (hr.mono (by decide)) (by rfl) pass0 (pa_cons (pv 3) (pa_cons (pv 4) (pa_cons (pv 5) (pa_cons (pv 14) (pa_cons (pv 15) pa_nil)))))))
  (pss_one (ps_ret (pe_and (pe_callD g_law_beside_right (hr.mono (by decide)) (by rfl) pass0 (pa_cons (pv 1) (pa_cons (pv 3) (pa_cons (pv 2) (pa_cons (pv 0) pa_nil))))) (pe_one (pe_callD g_law_says (hr.mono (by decide)) (by rfl) pass0 (pa_cons (pv 9) (pa_cons (pv 2) (pa_cons (pv 10) pa_nil)))))))))))))))))))), go_of ?_ h⟩
  try dsimp only [L2.cxOf, L2.Cx.nox, L2.Cx.wish, L2.Cx.blk]
  rintro ds r ⟨ns, rfl, -, rfl⟩
  show W K E _ [.fz (.scr ns), .un, .un, .un, .un, .un, .un, .un, .un, .un, .un, .un, .un, .un, .un, .un, .un, .un] _
  refine w_seq (w_asgU (F := fun d => ∃ m gs, d = .tup [nat m, natL gs] ∧ ToldOk m gs) ?_ ?_)
  · with_reducible apply ev_callU
    · walk_at "ea"
    · exact ⟨ns, 0, rfl, by decide, rfl⟩
  rintro d ⟨m, gs, rfl, hT⟩
  refine w_seqM (fun s => ∃ m gs, ToldOk m gs ∧ Fgt s [.fz (.scr ns), .fz (.tup [nat m, natL gs]), .un, .un, .un, .un, .un, .un, .un, .un, .un, .un, .un, .un, .un, .un, .un, .un]) (w_if (b := decide (ns.getD 5 0 % 4 = 1)) ?_ (fun _ => ?_) fun _ => w_next ⟨m, gs, hT, Fgt.refl _⟩) ?_
  · with_reducible apply et_test
    with_reducible apply ev_op (x := .int (ns.getD 5 0 % 4)) (y := .int 1)
    · with_reducible apply ev_op (x := .int (ns.getD 5 0)) (y := .int 4)
      · with_reducible apply ev_call
        · walk_at "ea"
        · exact R2'.mk (c := D.scr) (d := nat) (x := ns) (y := 5) trivial
      · exact ev_int
      · walk_at "od"
    · exact ev_int
    · exact od_eqI
  · have k0 := Int.emod_nonneg (ns.getD 5 0 / 4) (show (4 : Int) ≠ 0 by decide)
    have k1 := Int.emod_lt_of_pos (ns.getD 5 0 / 4) (show (0 : Int) < 4 by decide)
    have hk : (ns.getD 5 0 / 4 % 4).toNat < 4 := by omega
    have ok := spec_ok _ hk
    refine w_asg (d := .tup [nat (specM.getD (ns.getD 5 0 / 4 % 4).toNat (0, [])).1, natL (specM.getD (ns.getD 5 0 / 4 % 4).toNat (0, [])).2]) ?_ ⟨_, _, ok, Fgt.refl _⟩
    with_reducible apply ev_op (x := .lst (specM.map fun p => .tup [nat p.1, natL p.2])) (y := .int (ns.getD 5 0 / 4 % 4))
    · refine ev_is (d := .lst [.tup [.int 4, .lst [.int 3, .int 12]], .tup [.int 5, .lst [.int 3, .int 12]], .tup [.int 5, .lst [.int 3, .int 28]], .tup [.int 5, .lst [.int 7, .int 24, .int 10]]]) ?_ rfl
      apply EvR.fz
      have l2 : ∀ a b : Int, EvR K E0 (tLst (tCons (tC (.int a)) (tCons (tC (.int b)) tNil))) [Sl.fz (.scr ns), .fz (.tup [nat m, natL gs]), .un, .un, .un, .un, .un, .un, .un, .un, .un, .un, .un, .un, .un, .un, .un, .un] (.dat (.lst [.int a, .int b])) := fun a b => EvR.fz (ev_lst (ea_cons ev_int (ea_cons ev_int ea_nil)) (by show 2 ≤ sizeLine; decide))
      have l3 : ∀ a b c : Int, EvR K E0 (tLst (tCons (tC (.int a)) (tCons (tC (.int b)) (tCons (tC (.int c)) tNil)))) [Sl.fz (.scr ns), .fz (.tup [nat m, natL gs]), .un, .un, .un, .un, .un, .un, .un, .un, .un, .un, .un, .un, .un, .un, .un, .un] (.dat (.lst [.int a, .int b, .int c])) := fun a b c => EvR.fz (ev_lst (ea_cons ev_int (ea_cons ev_int (ea_cons ev_int ea_nil))) (by show 3 ≤ sizeLine; decide))
      refine ev_lst (ea_cons (ev_tup (ea_cons ev_int (ea_cons (l2 3 12) ea_nil)) (by show 2 ≤ sizeLine; decide)) (ea_cons (ev_tup (ea_cons ev_int (ea_cons (l2 3 12) ea_nil)) (by show 2 ≤ sizeLine; decide)) (ea_cons (ev_tup (ea_cons ev_int (ea_cons (l2 3 28) ea_nil)) (by show 2 ≤ sizeLine; decide)) (ea_cons (ev_tup (ea_cons ev_int (ea_cons (l3 7 24 10) ea_nil)) (by show 2 ≤ sizeLine; decide)) ea_nil)))) (by show 4 ≤ sizeLine; decide)
    · with_reducible apply ev_op (x := .int (ns.getD 5 0 / 4)) (y := .int 4)
      · with_reducible apply ev_op (x := .int (ns.getD 5 0)) (y := .int 4)
        · with_reducible apply ev_call
          · walk_at "ea"
          · exact R2'.mk (c := D.scr) (d := nat) (x := ns) (y := 5) trivial
        · exact ev_int
        · walk_at "od"
      · exact ev_int
      · walk_at "od"
    · exact od_ixL k0 (spec_get (fun p => .tup [nat p.1, natL p.2]) _ hk)
  clear hT gs m
  rintro s ⟨m, gs, ⟨h1, h5, hl, hg⟩, hF⟩
  refine w_fgt hF ?_
  clear hF s
  have hp := pow_le m h5
  have ht := tab_len m gs
  refine w_seq (w_asg (d := cou C_Council m (tab m gs)) ?_ ?_)
  · apply EvR.ofF
    with_reducible apply ev_callG
    · walk_at "ea"
    · exact ⟨m, gs, ns.getD 6 0, rfl, ⟨h1, h5, hl, hg⟩, rfl⟩
    · walk_at "ne"
  refine w_seq (w_asg (d := blL (tab m gs)) (by walk_at "ev") ?_)
  generalize tab m gs = t at ht
  refine w_seq (w_forEach (xs := (List.range m).map nat) [.fz (.scr ns), .fz (.tup [nat m, natL gs]), .fz (cou C_Council m t), .fz (blL t), .un, .un, .un, .un, .un, .un, .un, .un, .un, .un, .un, .un, .un, .un] ?_ (Fgt.refl _) ?_ ?_)
  · walk_at "it"
  · intro d hd
    obtain ⟨a, ha, rfl⟩ := List.mem_map.mp hd
    have ha := List.mem_range.mp ha
    refine w_forEach (xs := (List.range m).map nat) [.fz (.scr ns), .fz (.tup [nat m, natL gs]), .fz (cou C_Council m t), .fz (blL t), .fz (nat a), .un, .un, .un, .un, .un, .un, .un, .un, .un, .un, .un, .un, .un] ?_ (Fgt.refl _) ?_ ?_
    · walk_at "it"
    · intro d hd
      obtain ⟨b, hb, rfl⟩ := List.mem_map.mp hd
      have hb := List.mem_range.mp hb
      refine w_seq (w_asg (d := .bl (mayM m t a b)) (by walk_at "ev") ?_)
      refine w_ifF ?_ (w_next (.keep (.keep (.keep (.keep (.keep (.drop (.drop (.keep (.keep (.keep (.keep (.keep (.keep (.keep (.keep (.keep (.keep (.keep .nil)))))))))))))))))))
      refine et_is (a := !true || !decide (mayM m t a b = mayM m t a b)) ?_ (by simp)
      with_reducible apply et_or
      · walk_at "et"
      · intro _
        with_reducible apply et_test
        with_reducible apply ev_op
        · walk_at "ev"
        · with_reducible apply ev_call
          · walk_at "ea"
          · exact ⟨m, t, a, b, rfl, ⟨h5, ht, ha, hb⟩, rfl⟩
        · exact od_neB
    · intro s hF
      exact hF.tr (.keep (.keep (.keep (.keep (.drop (.keep (.keep (.keep (.keep (.keep (.keep (.keep (.keep (.keep (.keep (.keep (.keep (.keep .nil))))))))))))))))))
  intro s hF
  refine w_fgt hF ?_
  clear hF s
  refine w_seq (w_asg (d := .int (ns.getD 2 0)) ?_ ?_)
  · with_reducible apply ev_call
    · walk_at "ea"
    · exact R2'.mk (c := D.scr) (d := nat) (x := ns) (y := 2) trivial
  generalize ns.getD 2 0 = c
  refine w_seq (w_forEach (xs := (List.range 2).map nat) [.fz (.scr ns), .fz (.tup [nat m, natL gs]), .fz (cou C_Council m t), .fz (blL t), .un, .un, .un, .fz (.int c), .un, .un, .un, .un, .un, .un, .un, .un, .un, .un] ?_ (Fgt.refl _) ?_ ?_)
  · walk_at "it"
  · intro d hd
    obtain ⟨z, _, rfl⟩ := List.mem_map.mp hd
    have hcr : ∀ sl : List Sl, sl[2]? = some (.fz (cou C_Council m t)) → EvR K E (tCall (SpR K (c_ranked C_Council C_Ranks C_Unranked)) [] E0 (tCons (tVar 2) tNil)) sl (.frs (rankedD C_Ranks C_Unranked m t)) := fun sl hs => by
      with_reducible apply ev_callG
      · exact ea_cons (ev_var hs) ea_nil
      · exact RC1.mk ⟨h5, ht⟩
      · walk_at "ne"
    rcases ranked_cases (CR := C_Ranks) (CU := C_Unranked) (t := t) h1 h5 with ⟨xss, er, hx, hB, hH, hS⟩ | ⟨a, b, f, s, er, ha, hb, hf, hs, hH⟩
    · rw [er] at hcr
      have hl1 : xss.length ≤ 1000 := Nat.le_trans hB.1 (by decide)
      have hl2 : xss.flatten.length ≤ 1000 := Nat.le_trans hB.flat (by decide)
      refine w_seq (w_asgR (d := rkO C_Ranks xss) (hcr _ rfl) fun N hN => ?_)
      refine w_seq (w_ifF ?_ (w_next ?_))
      · apply et_fr
        · show EvT K _ [.fz (.scr ns), .fz (.tup [nat m, natL gs]), .fz (cou C_Council m t), .fz (blL t), .un, .un, .fz (rkO C_Ranks xss), .fz (.int c), .fz (nat z), .un, .un, .un, .un, .un, .un, .un, .un, .un] _
          refine et_is (a := !true || !decide (rkHolds m t xss = true)) ?_ (by rw [hH]; rfl)
          with_reducible apply et_or
          · with_reducible apply et_not
            with_reducible apply et_B
            with_reducible apply ev_call
            · walk_at "ea"
            · exact .inl ⟨m, t, xss, rfl, ⟨h5, ht, hl1, hl2, hH, hS⟩, rfl⟩
          · intro _
            with_reducible apply et_not
            with_reducible apply et_B
            with_reducible apply ev_call
            · walk_at "ea"
            · exact .inl ⟨xss, m, t, true, rfl, ⟨h5, ht, hl1, hl2⟩, rfl⟩
        · rfl
      refine w_ifT ?_ ?_
      · apply et_fr
        · show EvT K _ [.fz (.scr ns), .fz (.tup [nat m, natL gs]), .fz (cou C_Council m t), .fz (blL t), .un, .un, .fz (rkO C_Ranks xss), .fz (.int c), .fz (nat z), .un, .un, .un, .un, .un, .un, .un, .un, .un] _
          walk_at "et"
        · rfl
      refine w_seq (w_asgUF (i := 9) (F := fun d => ∃ yss, d = natLL yss ∧ 0 < yss.length ∧ BdL 20 20 yss) ?_ ?_)
      · apply evUF_fr
        · show EvUF K _ [.fz (.scr ns), .fz (.tup [nat m, natL gs]), .fz (cou C_Council m t), .fz (blL t), .un, .un, .fz (rkO C_Ranks xss), .fz (.int c), .fz (nat z), .un, .un, .un, .un, .un, .un, .un, .un, .un] _
          apply ev_callUF
          · walk_at "ea"
          · exact ⟨xss, c, m, rfl, ⟨h1, h5, hx, Nat.le_trans hB.1 (by decide), fun r hr => Nat.le_trans (hB.2 r hr) (by decide)⟩, rfl⟩
        · rfl
      rintro d N2 ⟨yss, rfl, hy, hyB⟩ hN2
      have hk1 : yss.length ≤ 1000 := Nat.le_trans hyB.1 (by decide)
      have hk2 : yss.flatten.length ≤ 1000 := Nat.le_trans hyB.flat (by decide)
      have hdj : Dsj N N2 := hN2 6 N _ rfl
      refine w_seq (w_asg (d := .bl (rkHolds m t yss)) ?_ ?_)
      · apply ev_fr
        · show EvR K E _ [.fz (.scr ns), .fz (.tup [nat m, natL gs]), .fz (cou C_Council m t), .fz (blL t), .un, .un, .fz (rkO C_Ranks xss), .fz (.int c), .fz (nat z), .fz (natLL yss), .un, .un, .un, .un, .un, .un, .un, .un] _
          with_reducible apply ev_call
          · with_reducible apply ea_cons
            · walk_at "ev"
            · with_reducible apply ea_cons
              · walk_at "ev"
              · exact ea_cons (x := natLL yss) (ev_var rfl) ea_nil
          · exact ⟨m, t, yss, rfl, ⟨h5, ht, hk1, hk2⟩, rfl⟩
        · rfl
        · rfl
      refine w_seq (w_asg (d := natLL yss) ?_ ?_)
      · apply EvR.ofF
        apply ev_frF
        · show EvR K E _ [.fz (.scr ns), .fz (.tup [nat m, natL gs]), .fz (cou C_Council m t), .fz (blL t), .un, .un, .fz (rkO C_Ranks xss), .fz (.int c), .fz (nat z), .fz (natLL yss), .fz (.bl (rkHolds m t yss)), .un, .un, .un, .un, .un, .un, .un] (.frs (.lst (yss.map natL)))
          with_reducible apply ev_lcFM (ys := yss) (c := natL) (v := natL)
          · with_reducible apply it_list
            exact ev_var rfl
          · omega
          · decide
          · intro r hr
            apply EvR.frsL
            · walk_at "evN"
            · intro d hd
              obtain ⟨_, _, rfl⟩ := List.mem_map.mp hd
              rfl
        · rfl
      refine w_seq (w_asg (d := rkO C_Ranks yss) ?_ ?_)
      · apply EvR.ofF
        apply ev_frF
        · show EvR K E _ [.fz (.scr ns), .fz (.tup [nat m, natL gs]), .fz (cou C_Council m t), .fz (blL t), .un, .un, .fz (rkO C_Ranks xss), .fz (.int c), .fz (nat z), .fz (natLL yss), .fz (.bl (rkHolds m t yss)), .fz (natLL yss), .un, .un, .un, .un, .un, .un] _
          with_reducible apply ev_make
          · exact ea_cons (x := natLL yss) (ev_var rfl) ea_nil
          · exact ⟨yss, rfl, hk1, rfl⟩
        · rfl
      refine w_rgClr (i := 9) (N := N2) (xss := yss) rfl hy (fun j N' d' hj e => ?_) ?_
      · have e : ([.fz (.scr ns), .fz (.tup [nat m, natL gs]), .fz (cou C_Council m t), .fz (blL t), .un, .un, .rg N (rkO C_Ranks xss), .fz (.int c), .fz (nat z), .rg N2 (natLL yss), .fz (.bl (rkHolds m t yss)), .fz (natLL yss), .fz (rkO C_Ranks yss), .un, .un, .un, .un, .un] : List Sl)[j]? = some (.rg N' d') := e
        match j, hj, e with
        | 0, _, e => cases e
        | 1, _, e => cases e
        | 2, _, e => cases e
        | 3, _, e => cases e
        | 4, _, e => cases e
        | 5, _, e => cases e
        | 6, _, e =>
          cases e
          exact hdj
        | 7, _, e => cases e
        | 8, _, e => cases e
        | 9, hj, _ => exact absurd rfl hj
        | 10, _, e => cases e
        | 11, _, e => cases e
        | 12, _, e => cases e
        | 13, _, e => cases e
        | 14, _, e => cases e
        | 15, _, e => cases e
        | 16, _, e => cases e
        | 17, _, e => cases e
        | j + 18, _, e => simp at e
      show W K _ _ [.fz (.scr ns), .fz (.tup [nat m, natL gs]), .fz (cou C_Council m t), .fz (blL t), .un, .un, .rg N (rkO C_Ranks xss), .fz (.int c), .fz (nat z), .un, .fz (.bl (rkHolds m t yss)), .fz (natLL yss), .fz (rkO C_Ranks yss), .un, .un, .un, .un, .un] _
      refine w_seq (w_ifF ?_ (w_next ?_))
      · refine et_is (a := !decide (yss = yss) || !decide (rkHolds m t yss = rkHolds m t yss)) ?_ (by simp)
        with_reducible apply et_or
        · walk_at "et"
        · intro _
          with_reducible apply et_not
          with_reducible apply et_B
          with_reducible apply ev_call
          · walk_at "ea"
          · exact .inl ⟨yss, m, t, rkHolds m t yss, rfl, ⟨h5, ht, hk1, hk2⟩, rfl⟩
      refine w_rgClrF (i := 6) (N := N) (f := "ranks") (xss := xss) T.cl_Ranks T.na_Ranks_ranks rfl hx (fun j N' d' hj e => ?_) fun N' => ?_
      · exfalso
        exact other_rg (i := 6) (sl := [.fz (.scr ns), .fz (.tup [nat m, natL gs]), .fz (cou C_Council m t), .fz (blL t), .un, .un, .rg N (rkO C_Ranks xss), .fz (.int c), .fz (nat z), .un, .fz (.bl (rkHolds m t yss)), .fz (natLL yss), .fz (rkO C_Ranks yss), .un, .un, .un, .un, .un]) rfl hj e
      refine w_ifF ?_ (w_next (.keep (.keep (.keep (.keep (.keep (.keep (.drop (.keep (.drop (.keep (.drop (.drop (.drop (.keep (.keep (.keep (.keep (.keep .nil)))))))))))))))))))
      apply et_fr
      · show EvT K _ [.fz (.scr ns), .fz (.tup [nat m, natL gs]), .fz (cou C_Council m t), .fz (blL t), .un, .un, .fz (rkO C_Ranks []), .fz (.int c), .fz (nat z), .un, .fz (.bl (rkHolds m t yss)), .fz (natLL yss), .fz (rkO C_Ranks yss), .un, .un, .un, .un, .un] _
        refine et_is (a := !decide (rkHolds m t [] = false)) ?_ (by rw [rk_empty h1 t]; rfl)
        with_reducible apply et_test
        with_reducible apply ev_op
        · with_reducible apply ev_meth
          · walk_at "ev"
          · decide +kernel
          · walk_at "ea"
          · exact ⟨[], m, t, rfl, ⟨h5, ht, by decide, by decide⟩, rfl⟩
        · exact ev_bl
        · exact od_notB
      · rfl
    · rw [er] at hcr
      refine w_seq (w_asg (d := urO C_Unranked a b f s) (EvR.ofF (hcr _ rfl)) ?_)
      refine w_seq (w_ifF ?_ (w_next ?_))
      · refine et_is (a := !true || !decide (shownM t a b f s = true)) ?_ (by rw [hH]; rfl)
        with_reducible apply et_or
        · with_reducible apply et_not
          with_reducible apply et_B
          with_reducible apply ev_call
          · walk_at "ea"
          · exact .inr ⟨a, b, f, s, m, t, rfl, ⟨h5, ht, ha, hb, hf, hs, hH⟩, rfl⟩
        · intro _
          with_reducible apply et_not
          with_reducible apply et_B
          with_reducible apply ev_call
          · walk_at "ea"
          · exact .inr ⟨a, b, f, s, m, t, true, rfl, ⟨h5, ht, ha, hb, hf, hs⟩, rfl⟩
      refine w_ifF ?_ (w_next (.keep (.keep (.keep (.keep (.keep (.keep (.drop (.keep (.drop (.keep (.keep (.keep (.keep (.keep (.keep (.keep (.keep (.keep .nil)))))))))))))))))))
      walk_at "et"
  intro s hF
  refine w_fgt hF ?_
  clear hF s
  have d1 := drawM_nat c 0 (m := m) (by omega)
  have d2 := drawM_nat c 1 (m := m) (by omega)
  have p2 : 0 < 2 ^ m := Nat.two_pow_pos m
  have d3 := drawM_nat c 2 p2
  have d4 := drawM_nat c 3 p2
  refine w_seq (w_asg (d := natL [drawM c 0 (m : Int), drawM c 1 (m : Int), drawM c 2 ((2 ^ m : Nat) : Int), drawM c 3 ((2 ^ m : Nat) : Int)]) ?_ ?_)
  · refine ev_is (d := .lst (((List.range 2).map fun k => nat (drawM c k (m : Int))) ++ ((List.range 2).map fun k => nat (drawM c (k + 2) ((2 ^ m : Nat) : Int))))) ?_ rfl
    apply EvR.fz
    with_reducible apply ev_op
    · with_reducible apply EvR.fz
      with_reducible apply ev_lcM (ys := List.range 2) (c := nat) (v := fun k => nat (drawM c k (m : Int)))
      · walk_at "it"
      · decide
      · decide
      · intro k hk
        with_reducible apply ev_call
        · walk_at "ea"
        · exact R3.mk (ca := D.int) (cb := nat) (cc := D.int) (x := c) (y := k) (z := (m : Int)) (show (0 : Int) < (m : Int) by omega)
    · with_reducible apply EvR.fz
      with_reducible apply ev_lcM (ys := List.range 2) (c := nat) (v := fun k => nat (drawM c (k + 2) ((2 ^ m : Nat) : Int)))
      · walk_at "it"
      · decide
      · decide
      · intro k hk
        with_reducible apply ev_call
        · with_reducible apply ea_cons
          · walk_at "ev"
          · with_reducible apply ea_cons (x := nat (k + 2))
            · apply ev_is
              · walk_at "ev"
              · rfl
            · with_reducible apply ea_cons (x := .int ((2 ^ m : Nat) : Int))
              · apply ev_is
                · walk_at "ev"
                · rw [ht]
              · exact ea_nil
        · exact R3.mk (ca := D.int) (cb := nat) (cc := D.int) (x := c) (y := k + 2) (z := ((2 ^ m : Nat) : Int)) (show (0 : Int) < ((2 ^ m : Nat) : Int) by omega)
    · exact od_cat (by show 4 ≤ sizeLine; decide)
  generalize drawM c 0 (m : Int) = a at d1
  generalize drawM c 1 (m : Int) = b at d2
  generalize drawM c 2 ((2 ^ m : Nat) : Int) = f at d3
  generalize drawM c 3 ((2 ^ m : Nat) : Int) = s at d4
  refine w_seq (w_asgG (d := natL [a, b, f, s]) (by walk_at "ev") (gw_lst rfl (gws_cons (gw_name (gws_cons (gw_name (gws_cons (gw_name (gws_cons (gw_name (gws_nil ?_)))))))))))
  show W K _ _ [.fz (.scr ns), .fz (.tup [nat m, natL gs]), .fz (cou C_Council m t), .fz (blL t), .fz (nat a), .fz (nat b), .un, .fz (.int c), .un, .un, .un, .un, .un, .fz (natL [a, b, f, s]), .fz (nat f), .fz (nat s), .un, .un] _
  refine w_seq (w_asg (d := urO C_Unranked a b f s) ?_ ?_)
  · apply EvR.ofF
    with_reducible apply ev_make
    · walk_at "ea"
    · exact ⟨a, b, f, s, rfl, rfl⟩
  refine w_seq (w_ifF ?_ (w_next ?_))
  · refine et_is (a := !decide ([a, b, f, s] = [a, b, f, s])) ?_ (by simp)
    with_reducible apply et_test
    with_reducible apply ev_op (x := natL [a, b, f, s])
    · apply EvR.fz
      refine ev_lst (ea_cons (x := nat a) ?_ (ea_cons (x := nat b) ?_ (ea_cons (x := nat f) ?_ (ea_cons (x := nat s) ?_ ea_nil)))) (by show 4 ≤ sizeLine; decide) <;> walk_at "ev"
    · walk_at "ev"
    · exact od_neN
  refine w_seq (w_asg (d := .bl (shownM t a b f s)) ?_ ?_)
  · with_reducible apply ev_call
    · walk_at "ea"
    · exact ⟨a, b, f, s, m, t, rfl, ⟨h5, ht, d1, d2, d3, d4⟩, rfl⟩
  refine w_ret ?_ rfl
  refine ev_is (d := .bl (true && decide (shownM t a b f s = shownM t a b f s))) ?_ (congrArg D.bl (by simp))
  with_reducible apply ev_andV
  · with_reducible apply ev_call
    · walk_at "ea"
    · exact ⟨m, gs, t, ns, rfl, ⟨h1, h5, ht⟩, rfl⟩
  · intro _
    with_reducible apply ev_call
    · walk_at "ea"
    · exact .inr ⟨a, b, f, s, m, t, shownM t a b f s, rfl, ⟨h5, ht, d1, d2, d3, d4⟩, rfl⟩
end
theorem txt_mk {K : PySem.W.Frag} {mg : Str → Option Value} {h : Heap} {C_Council C_Answer C_Weights C_Trade C_Ranks C_Unranked : Addr} {t_MOST : Tok} (X : K.In h) (G : h.Ns mainGlobals mg)
    (n_all : PySem.W.nsIn K mainGlobals "all" = some none)
    (n_any : PySem.W.nsIn K mainGlobals "any" = some none)
    (n_bool : PySem.W.nsIn K mainGlobals "bool" = some none)
    (n_int : PySem.W.nsIn K mainGlobals "int" = some none)
    (n_isinstance : PySem.W.nsIn K mainGlobals "isinstance" = some none)
    (n_len : PySem.W.nsIn K mainGlobals "len" = some none)
    (n_list : PySem.W.nsIn K mainGlobals "list" = some none)
    (n_max : PySem.W.nsIn K mainGlobals "max" = some none)
    (n_min : PySem.W.nsIn K mainGlobals "min" = some none)
    (n_range : PySem.W.nsIn K mainGlobals "range" = some none)
    (n_sorted : PySem.W.nsIn K mainGlobals "sorted" = some none)
    (n_sum : PySem.W.nsIn K mainGlobals "sum" = some none)
    (c_MOST : PySem.W.nsIn K mainGlobals "MOST" = some (some (.int 5 t_MOST)))
    (g_Council : PySem.W.nsIn K mainGlobals "Council" = some (some (.ref C_Council)))
    (pg_Council : PySem.W.plainGet K C_Council Str.empty = true)
    (hd_Council : PySem.W.hasDictIn K C_Council = true)
    (po_Council : PySem.W.plainOver K C_Council = true)
    (sa_Council : PySem.W.findIn K (.ref C_Council) "__setattr__" = some (some (.builtin "object.__setattr__")))
    (na_Council_members : PySem.W.findIn K (.ref C_Council) "members" = some none)
    (na_Council_table : PySem.W.findIn K (.ref C_Council) "table" = some none)
    (g_Answer : PySem.W.nsIn K mainGlobals "Answer" = some (some (.ref C_Answer)))
    (pg_Answer : PySem.W.plainGet K C_Answer Str.empty = true)
    (hd_Answer : PySem.W.hasDictIn K C_Answer = true)
    (po_Answer : PySem.W.plainOver K C_Answer = true)
    (sa_Answer : PySem.W.findIn K (.ref C_Answer) "__setattr__" = some (some (.builtin "object.__setattr__")))
    (g_Weights : PySem.W.nsIn K mainGlobals "Weights" = some (some (.ref C_Weights)))
    (pg_Weights : PySem.W.plainGet K C_Weights Str.empty = true)
    (hd_Weights : PySem.W.hasDictIn K C_Weights = true)
    (po_Weights : PySem.W.plainOver K C_Weights = true)
    (sa_Weights : PySem.W.findIn K (.ref C_Weights) "__setattr__" = some (some (.builtin "object.__setattr__")))
    (g_Trade : PySem.W.nsIn K mainGlobals "Trade" = some (some (.ref C_Trade)))
    (pg_Trade : PySem.W.plainGet K C_Trade Str.empty = true)
    (hd_Trade : PySem.W.hasDictIn K C_Trade = true)
    (po_Trade : PySem.W.plainOver K C_Trade = true)
    (sa_Trade : PySem.W.findIn K (.ref C_Trade) "__setattr__" = some (some (.builtin "object.__setattr__")))
    (g_Ranks : PySem.W.nsIn K mainGlobals "Ranks" = some (some (.ref C_Ranks)))
    (pg_Ranks : PySem.W.plainGet K C_Ranks Str.empty = true)
    (hd_Ranks : PySem.W.hasDictIn K C_Ranks = true)
    (po_Ranks : PySem.W.plainOver K C_Ranks = true)
    (sa_Ranks : PySem.W.findIn K (.ref C_Ranks) "__setattr__" = some (some (.builtin "object.__setattr__")))
    (na_Ranks_ranks : PySem.W.findIn K (.ref C_Ranks) "ranks" = some none)
    (g_Unranked : PySem.W.nsIn K mainGlobals "Unranked" = some (some (.ref C_Unranked)))
    (pg_Unranked : PySem.W.plainGet K C_Unranked Str.empty = true)
    (hd_Unranked : PySem.W.hasDictIn K C_Unranked = true)
    (po_Unranked : PySem.W.plainOver K C_Unranked = true)
    (sa_Unranked : PySem.W.findIn K (.ref C_Unranked) "__setattr__" = some (some (.builtin "object.__setattr__")))
    (na_Unranked_one : PySem.W.findIn K (.ref C_Unranked) "one" = some none)
    (na_Unranked_other : PySem.W.findIn K (.ref C_Unranked) "other" = some none)
    (na_Unranked_first : PySem.W.findIn K (.ref C_Unranked) "first" = some none)
    (na_Unranked_second : PySem.W.findIn K (.ref C_Unranked) "second" = some none)
    (ja_Ranks : PySem.W.findIn K (.ref C_Ranks) "__class__" = some (some (.builtin "object.__class__")))
    (jn_Ranks : PySem.W.specialIn K (.builtin "object.__class__") "__get__" = some (some (.builtin "getset_descriptor.__get__")))
    (jt_Ranks : PySem.W.takesIn K (.builtin "object.__class__") = some true)
    (jm_Ranks : PySem.W.mroIn K C_Ranks (.type "object") = some true)
    (ja_Unranked : PySem.W.findIn K (.ref C_Unranked) "__class__" = some (some (.builtin "object.__class__")))
    (jn_Unranked : PySem.W.specialIn K (.builtin "object.__class__") "__get__" = some (some (.builtin "getset_descriptor.__get__")))
    (jt_Unranked : PySem.W.takesIn K (.builtin "object.__class__") = some true)
    (jm_Unranked : PySem.W.mroIn K C_Unranked (.type "object") = some true)
    (ki_Ranks_Answer : PySem.W.kitOne K (.ref C_Ranks) (.ref C_Answer) = some true)
    (ki_Ranks_Ranks : PySem.W.kitOne K (.ref C_Ranks) (.ref C_Ranks) = some true)
    (ki_Ranks_Unranked : PySem.W.kitOne K (.ref C_Ranks) (.ref C_Unranked) = some false)
    (ki_Ranks_Weights : PySem.W.kitOne K (.ref C_Ranks) (.ref C_Weights) = some false)
    (ki_Ranks_Trade : PySem.W.kitOne K (.ref C_Ranks) (.ref C_Trade) = some false)
    (ki_Unranked_Answer : PySem.W.kitOne K (.ref C_Unranked) (.ref C_Answer) = some true)
    (ki_Unranked_Ranks : PySem.W.kitOne K (.ref C_Unranked) (.ref C_Ranks) = some false)
    (ki_Unranked_Unranked : PySem.W.kitOne K (.ref C_Unranked) (.ref C_Unranked) = some true)
    (ki_Unranked_Weights : PySem.W.kitOne K (.ref C_Unranked) (.ref C_Weights) = some false)
    (ki_Unranked_Trade : PySem.W.kitOne K (.ref C_Unranked) (.ref C_Trade) = some false) : Txt K mg C_Council C_Answer C_Weights C_Trade C_Ranks C_Unranked :=
  ⟨PySem.W.mg_none_of X G n_all, PySem.W.mg_none_of X G n_any, PySem.W.mg_none_of X G n_bool, PySem.W.mg_none_of X G n_int, PySem.W.mg_none_of X G n_isinstance, PySem.W.mg_none_of X G n_len, PySem.W.mg_none_of X G n_list, PySem.W.mg_none_of X G n_max, PySem.W.mg_none_of X G n_min, PySem.W.mg_none_of X G n_range, PySem.W.mg_none_of X G n_sorted, PySem.W.mg_none_of X G n_sum, ⟨t_MOST, PySem.W.mg_of X G c_MOST⟩, PySem.W.mg_of X G g_Council, ⟨pg_Council, hd_Council, po_Council, sa_Council⟩, na_Council_members, na_Council_table, PySem.W.mg_of X G g_Answer, ⟨pg_Answer, hd_Answer, po_Answer, sa_Answer⟩, PySem.W.mg_of X G g_Weights, ⟨pg_Weights, hd_Weights, po_Weights, sa_Weights⟩, PySem.W.mg_of X G g_Trade, ⟨pg_Trade, hd_Trade, po_Trade, sa_Trade⟩, PySem.W.mg_of X G g_Ranks, ⟨pg_Ranks, hd_Ranks, po_Ranks, sa_Ranks⟩, na_Ranks_ranks, PySem.W.mg_of X G g_Unranked, ⟨pg_Unranked, hd_Unranked, po_Unranked, sa_Unranked⟩, na_Unranked_one, na_Unranked_other, na_Unranked_first, na_Unranked_second, ⟨⟨pg_Ranks, hd_Ranks, po_Ranks, sa_Ranks⟩, ja_Ranks, jn_Ranks, jt_Ranks, jm_Ranks⟩, ⟨⟨pg_Unranked, hd_Unranked, po_Unranked, sa_Unranked⟩, ja_Unranked, jn_Unranked, jt_Unranked, jm_Unranked⟩, ki_Ranks_Answer, ki_Ranks_Ranks, ki_Ranks_Unranked, ki_Ranks_Weights, ki_Ranks_Trade, ki_Unranked_Answer, ki_Unranked_Ranks, ki_Unranked_Unranked, ki_Unranked_Weights, ki_Unranked_Trade⟩
theorem all_ok {l : PySem.W.OpenLaw} {w : World} {K : PySem.W.Frag} {mg : Str → Option Value} {fa : Addr} {C_Council C_Answer C_Weights C_Trade C_Ranks C_Unranked : Addr} (T : Txt K mg C_Council C_Answer C_Weights C_Trade C_Ranks C_Unranked) (hfa : mg "law" = some (.ref fa))
    (h_law_cell_at : FnAt K mg "_law_cell_at" st_law_cell_at p_law_cell_at)
    (h_law_draw : FnAt K mg "_law_draw" st_law_draw p_law_draw)
    (h_law_told : FnAt K mg "_law_told" st_law_told p_law_told)
    (h_within : FnAt K mg "within" st_within p_within)
    (h_holds_all : FnAt K mg "holds_all" st_holds_all p_holds_all)
    (h_Council_init : MkAt K mg "Council" C_Council "Council.__init__" st_Council_init p_Council_init)
    (h_law_table : FnAt K mg "_law_table" st_law_table p_law_table)
    (h_turned : FnAt K mg "turned" st_turned p_turned)
    (h_law_built : FnAt K mg "_law_built" st_law_built p_law_built)
    (h_Council_member : MtAt K C_Council "member" "Council.member" st_Council_member p_Council_member)
    (h_Council_carries : MtAt K C_Council "carries" "Council.carries" st_Council_carries p_Council_carries)
    (h_group_against : FnAt K mg "group_against" st_group_against p_group_against)
    (h_stands : FnAt K mg "stands" st_stands p_stands)
    (h_law_has : FnAt K mg "_law_has" st_law_has p_law_has)
    (h_law_may : FnAt K mg "_law_may" st_law_may p_law_may)
    (h_Unranked_init : MkAt K mg "Unranked" C_Unranked "Unranked.__init__" st_Unranked_init p_Unranked_init)
    (h_Ranks_init : MkAt K mg "Ranks" C_Ranks "Ranks.__init__" st_Ranks_init p_Ranks_init)
    (h_ranked : FnAt K mg "ranked" st_ranked p_ranked)
    (h_Ranks_holds : MtAt K C_Ranks "holds" "Ranks.holds" st_Ranks_holds p_Ranks_holds)
    (h_Unranked_holds : MtAt K C_Unranked "holds" "Unranked.holds" st_Unranked_holds p_Unranked_holds)
    (h_law_says : FnAt K mg "_law_says" st_law_says p_law_says)
    (h_law_flat : FnAt K mg "_law_flat" st_law_flat p_law_flat)
    (h_law_in_ranks : FnAt K mg "_law_in_ranks" st_law_in_ranks p_law_in_ranks)
    (h_law_shown : FnAt K mg "_law_shown" st_law_shown p_law_shown)
    (h_law_right : FnAt K mg "_law_right" st_law_right p_law_right)
    (h_law_bent : FnAt K mg "_law_bent" st_law_bent p_law_bent)
    (h_law_beside_right : FnAt K mg "_law_beside_right" st_law_beside_right p_law_beside_right)
    (h_law : LawAt K mg st_law) :
    ∃ fd : FuncData, (∀ (s : Shared) (v : Value), BindsTo s fd ⟨[v], []⟩ [("_law_script", v)]) ∧ ∀ base : Heap, K.In base → base.Ns mainGlobals mg → FnOk l.prog w K mg base CX0 8 fa fd ["_law_script"] (SpR K c_law) := by
  obtain ⟨f, fd, e, F, hb⟩ := h_law
  have e2 := hfa.symm.trans e
  cases e2
  refine ⟨fd, fun s v => .of_eq (hb v), fun base _ _ => ?_⟩
  have g_law_cell_at : OkD l.prog w K mg base CX0 1 "_law_cell_at" p_law_cell_at (SpR K c_law_cell_at) := okD h_law_cell_at fun f fd F => ok_law_cell_at F T
  have g_law_draw : OkD l.prog w K mg base CX0 1 "_law_draw" p_law_draw (SpR K c_law_draw) := okD h_law_draw fun f fd F => ok_law_draw F T
  have g_law_told : OkD l.prog w K mg base CX0 2 "_law_told" p_law_told (SpU K c_law_told) := okD h_law_told fun f fd F => ok_law_told F T g_law_cell_at g_law_draw
  have g_within : OkD l.prog w K mg base CX0 1 "within" p_within (SpR K c_within) := okD h_within fun f fd F => ok_within F T
  have g_holds_all : OkD l.prog w K mg base CX0 1 "holds_all" p_holds_all (SpR K c_holds_all) := okD h_holds_all fun f fd F => ok_holds_all F T
  have g_Council_init : OkI l.prog w K mg base CX0 2 "Council" C_Council p_Council_init (SpI K C_Council c_Council_init) := okI h_Council_init fun f fd F => ok_Council_init F T g_within g_holds_all
  have g_law_table : OkD l.prog w K mg base CX0 1 "_law_table" p_law_table (SpR K c_law_table) := okD h_law_table fun f fd F => ok_law_table F T
  have g_turned : OkD l.prog w K mg base CX0 4 "turned" p_turned (SpR K (c_turned C_Council)) := okD h_turned fun f fd F => ok_turned F T g_Council_init
  have g_law_built : OkD l.prog w K mg base CX0 5 "_law_built" p_law_built (SpR K (c_law_built C_Council)) := okD h_law_built fun f fd F => ok_law_built F T g_Council_init g_law_table g_turned
  have g_Council_member : OkM l.prog w K mg base CX0 2 C_Council "member" p_Council_member (SpR K (c_Council_member C_Council)) := okM h_Council_member fun f fd F => ok_Council_member F T g_within
  have g_Council_carries : OkM l.prog w K mg base CX0 2 C_Council "carries" p_Council_carries (SpR K (c_Council_carries C_Council)) := okM h_Council_carries fun f fd F => ok_Council_carries F T g_within
  have g_group_against : OkD l.prog w K mg base CX0 3 "group_against" p_group_against (SpR K (c_group_against C_Council)) := okD h_group_against fun f fd F => ok_group_against F T g_Council_member g_Council_carries
  have g_stands : OkD l.prog w K mg base CX0 4 "stands" p_stands (SpR K (c_stands C_Council)) := okD h_stands fun f fd F => ok_stands F T g_group_against
  have g_law_has : OkD l.prog w K mg base CX0 1 "_law_has" p_law_has (SpR K c_law_has) := okD h_law_has fun f fd F => ok_law_has F T
  have g_law_may : OkD l.prog w K mg base CX0 2 "_law_may" p_law_may (SpR K c_law_may) := okD h_law_may fun f fd F => ok_law_may F T g_law_has
  have g_Unranked_init : OkI l.prog w K mg base CX0 1 "Unranked" C_Unranked p_Unranked_init (SpI K C_Unranked c_Unranked_init) := okI h_Unranked_init fun f fd F => ok_Unranked_init F T
  have g_Ranks_init : OkI l.prog w K mg base CX0 1 "Ranks" C_Ranks p_Ranks_init (SpI K C_Ranks c_Ranks_init) := okI h_Ranks_init fun f fd F => ok_Ranks_init F T
  have g_ranked : OkD l.prog w K mg base CX0 5 "ranked" p_ranked (SpR K (c_ranked C_Council C_Ranks C_Unranked)) := okD h_ranked fun f fd F => ok_ranked F T g_group_against g_Unranked_init g_stands g_Ranks_init
  have g_Ranks_holds : OkM l.prog w K mg base CX0 5 C_Ranks "holds" p_Ranks_holds (SpR K (c_Ranks_holds C_Council C_Ranks)) := okM h_Ranks_holds fun f fd F => ok_Ranks_holds F T g_stands
  have g_Unranked_holds : OkM l.prog w K mg base CX0 3 C_Unranked "holds" p_Unranked_holds (SpR K (c_Unranked_holds C_Council C_Unranked)) := okM h_Unranked_holds fun f fd F => ok_Unranked_holds F T g_Council_carries
  have g_law_says : OkD l.prog w K mg base CX0 6 "_law_says" p_law_says (SpR K (OrC (c_law_says_R C_Council C_Ranks) (c_law_says_U C_Council C_Unranked))) := okD h_law_says fun f fd F => ok_law_says F T g_Ranks_holds g_Unranked_holds
  have g_law_flat : OkD l.prog w K mg base CX0 1 "_law_flat" p_law_flat (SpR K c_law_flat) := okD h_law_flat fun f fd F => ok_law_flat F T
  have g_law_in_ranks : OkD l.prog w K mg base CX0 3 "_law_in_ranks" p_law_in_ranks (SpR K c_law_in_ranks) := okD h_law_in_ranks fun f fd F => ok_law_in_ranks F T g_law_flat g_law_may
  have g_law_shown : OkD l.prog w K mg base CX0 2 "_law_shown" p_law_shown (SpR K c_law_shown) := okD h_law_shown fun f fd F => ok_law_shown F T g_law_has
  have g_law_right : OkD l.prog w K mg base CX0 4 "_law_right" p_law_right (SpR K (OrC (c_law_right_R C_Ranks) (c_law_right_U C_Unranked))) := okD h_law_right fun f fd F => ok_law_right F T g_law_in_ranks g_law_shown
  have g_law_bent : OkD l.prog w K mg base CX0 1 "_law_bent" p_law_bent (SpUF K c_law_bent) := okD h_law_bent fun f fd F => ok_law_bent F T
  have g_law_beside_right : OkD l.prog w K mg base CX0 7 "_law_beside_right" p_law_beside_right (SpR K (c_law_beside_right C_Council)) := okD h_law_beside_right fun f fd F => ok_law_beside_right F T g_law_told g_Council_init g_law_table g_ranked g_law_right g_law_in_ranks g_law_shown g_law_says g_law_cell_at g_law_draw g_Ranks_init g_Unranked_holds g_Unranked_init
  exact ok_law F T g_law_told g_law_cell_at g_law_built g_law_table g_stands g_law_may g_ranked g_law_says g_law_right g_law_bent g_law_in_ranks g_Ranks_init g_Ranks_holds g_law_draw g_Unranked_init g_law_shown g_law_beside_right
end Wv

open PySem PySem.W PyProof.Rows in
set_option maxRecDepth 100000 in
set_option maxHeartbeats 0 in
theorem PySem.Challenge.cw_weighvote_k04_whole_ranked_holds : PySem.Challenge.rw_weighvote_k04_whole_ranked.Holds := by
  w_on; o_law; k_head; (case hw => w_witness2)
  k_fill
  refine Wv.walk (l := PySem.Challenge.rw_weighvote_k04_whole_ranked) (k := 8) rfl rfl ⟨rfl, by decide, by decide⟩ (fun w h Y => PySem.W.kIn_of Y) ?F
  case F =>
    intro w mg fa h KX G hmg
    refine' Wv.all_ok (l := PySem.Challenge.rw_weighvote_k04_whole_ranked) ?T hmg ?h_law_cell_at ?h_law_draw ?h_law_told ?h_within ?h_holds_all ?h_Council_init ?h_law_table ?h_turned ?h_law_built ?h_Council_member ?h_Council_carries ?h_group_against ?h_stands ?h_law_has ?h_law_may ?h_Unranked_init ?h_Ranks_init ?h_ranked ?h_Ranks_holds ?h_Unranked_holds ?h_law_says ?h_law_flat ?h_law_in_ranks ?h_law_shown ?h_law_right ?h_law_bent ?h_law_beside_right ?h_law
    case T =>
      refine' Wv.txt_mk KX G ?n_all ?n_any ?n_bool ?n_int ?n_isinstance ?n_len ?n_list ?n_max ?n_min ?n_range ?n_sorted ?n_sum ?c_MOST ?g_Council ?pg_Council ?hd_Council ?po_Council ?sa_Council ?na_Council_members ?na_Council_table ?g_Answer ?pg_Answer ?hd_Answer ?po_Answer ?sa_Answer ?g_Weights ?pg_Weights ?hd_Weights ?po_Weights ?sa_Weights ?g_Trade ?pg_Trade ?hd_Trade ?po_Trade ?sa_Trade ?g_Ranks ?pg_Ranks ?hd_Ranks ?po_Ranks ?sa_Ranks ?na_Ranks_ranks ?g_Unranked ?pg_Unranked ?hd_Unranked ?po_Unranked ?sa_Unranked ?na_Unranked_one ?na_Unranked_other ?na_Unranked_first ?na_Unranked_second ?ja_Ranks ?jn_Ranks ?jt_Ranks ?jm_Ranks ?ja_Unranked ?jn_Unranked ?jt_Unranked ?jm_Unranked ?ki_Ranks_Answer ?ki_Ranks_Ranks ?ki_Ranks_Unranked ?ki_Ranks_Weights ?ki_Ranks_Trade ?ki_Unranked_Answer ?ki_Unranked_Ranks ?ki_Unranked_Unranked ?ki_Unranked_Weights ?ki_Unranked_Trade
      (case n_all => k_is)
      (case n_any => k_is)
      (case n_bool => k_is)
      (case n_int => k_is)
      (case n_isinstance => k_is)
      (case n_len => k_is)
      (case n_list => k_is)
      (case n_max => k_is)
      (case n_min => k_is)
      (case n_range => k_is)
      (case n_sorted => k_is)
      (case n_sum => k_is)
      (case c_MOST => k_is)
      (case g_Council => k_is)
      (case pg_Council => k_is)
      (case hd_Council => k_is)
      (case po_Council => k_is)
      (case sa_Council => k_is)
      (case na_Council_members => k_is)
      (case na_Council_table => k_is)
      (case g_Answer => k_is)
      (case pg_Answer => k_is)
      (case hd_Answer => k_is)
      (case po_Answer => k_is)
      (case sa_Answer => k_is)
      (case g_Weights => k_is)
      (case pg_Weights => k_is)
      (case hd_Weights => k_is)
      (case po_Weights => k_is)
      (case sa_Weights => k_is)
      (case g_Trade => k_is)
      (case pg_Trade => k_is)
      (case hd_Trade => k_is)
      (case po_Trade => k_is)
      (case sa_Trade => k_is)
      (case g_Ranks => k_is)
      (case pg_Ranks => k_is)
      (case hd_Ranks => k_is)
      (case po_Ranks => k_is)
      (case sa_Ranks => k_is)
      (case na_Ranks_ranks => k_is)
      (case g_Unranked => k_is)
      (case pg_Unranked => k_is)
      (case hd_Unranked => k_is)
      (case po_Unranked => k_is)
      (case sa_Unranked => k_is)
      (case na_Unranked_one => k_is)
      (case na_Unranked_other => k_is)
      (case na_Unranked_first => k_is)
      (case na_Unranked_second => k_is)
      (case ja_Ranks => k_is)
      (case jn_Ranks => k_is)
      (case jt_Ranks => k_is)
      (case jm_Ranks => k_is)
      (case ja_Unranked => k_is)
      (case jn_Unranked => k_is)
      (case jt_Unranked => k_is)
      (case jm_Unranked => k_is)
      (case ki_Ranks_Answer => kit_is)
      (case ki_Ranks_Ranks => kit_is)
      (case ki_Ranks_Unranked => kit_is)
      (case ki_Ranks_Weights => kit_is)
      (case ki_Ranks_Trade => kit_is)
      (case ki_Unranked_Answer => kit_is)
      (case ki_Unranked_Ranks => kit_is)
      (case ki_Unranked_Unranked => kit_is)
      (case ki_Unranked_Weights => kit_is)
      (case ki_Unranked_Trade => kit_is)
    case h_law_cell_at =>
      refine' Wv.fnAt_mk KX G ?a ?l ?c ?k ?b
      (case a => k_is)
      (case l => k_is)
      (case c => k_is)
      (case k => k_is)
      (case b => exact fun _ _ _ _ _ _ us hl => match us, hl with | [_, _], _ => rfl)
    case h_law_draw =>
      refine' Wv.fnAt_mk KX G ?a ?l ?c ?k ?b
      (case a => k_is)
      (case l => k_is)
      (case c => k_is)
      (case k => k_is)
      (case b => exact fun _ _ _ _ _ _ us hl => match us, hl with | [_, _, _], _ => rfl)
    case h_law_told =>
      refine' Wv.fnAt_mk KX G ?a ?l ?c ?k ?b
      (case a => k_is)
      (case l => k_is)
      (case c => k_is)
      (case k => k_is)
      (case b => exact fun _ _ _ _ _ _ us hl => match us, hl with | [_, _], _ => rfl)
    case h_within =>
      refine' Wv.fnAt_mk KX G ?a ?l ?c ?k ?b
      (case a => k_is)
      (case l => k_is)
      (case c => k_is)
      (case k => k_is)
      (case b => exact fun _ _ _ _ _ _ us hl => match us, hl with | [_, _, _], _ => rfl)
    case h_holds_all =>
      refine' Wv.fnAt_mk KX G ?a ?l ?c ?k ?b
      (case a => k_is)
      (case l => k_is)
      (case c => k_is)
      (case k => k_is)
      (case b => exact fun _ _ _ _ _ _ us hl => match us, hl with | [_, _], _ => rfl)
    case h_Council_init =>
      refine' Wv.mkAt_mk (PySem.W.mg_of KX G ?g) ?m ?a ?i ?kc ?l ?c ?k ?b
      (case g => k_is)
      (case m => k_is)
      (case a => k_is)
      (case i => k_is)
      (case kc => k_is)
      (case l => k_is)
      (case c => k_is)
      (case k => k_is)
      (case b => exact fun _ _ _ _ _ _ us hl => match us, hl with | [_, _, _], _ => rfl)
    case h_law_table =>
      refine' Wv.fnAt_mk KX G ?a ?l ?c ?k ?b
      (case a => k_is)
      (case l => k_is)
      (case c => k_is)
      (case k => k_is)
      (case b => exact fun _ _ _ _ _ _ us hl => match us, hl with | [_], _ => rfl)
    case h_turned =>
      refine' Wv.fnAt_mk KX G ?a ?l ?c ?k ?b
      (case a => k_is)
      (case l => k_is)
      (case c => k_is)
      (case k => k_is)
      (case b => exact fun _ _ _ _ _ _ us hl => match us, hl with | [_], _ => rfl)
    case h_law_built =>
      refine' Wv.fnAt_mk KX G ?a ?l ?c ?k ?b
      (case a => k_is)
      (case l => k_is)
      (case c => k_is)
      (case k => k_is)
      (case b => exact fun _ _ _ _ _ _ us hl => match us, hl with | [_, _], _ => rfl)
    case h_Council_member =>
      refine' Wv.mtAt_mk ?a ?i ?l ?c ?k ?b
      (case a => k_is)
      (case i => k_is)
      (case l => k_is)
      (case c => k_is)
      (case k => k_is)
      (case b => exact fun _ _ _ _ _ _ us hl => match us, hl with | [_, _], _ => rfl)
    case h_Council_carries =>
      refine' Wv.mtAt_mk ?a ?i ?l ?c ?k ?b
      (case a => k_is)
      (case i => k_is)
      (case l => k_is)
      (case c => k_is)
      (case k => k_is)
      (case b => exact fun _ _ _ _ _ _ us hl => match us, hl with | [_, _], _ => rfl)
    case h_group_against =>
      refine' Wv.fnAt_mk KX G ?a ?l ?c ?k ?b
      (case a => k_is)
      (case l => k_is)
      (case c => k_is)
      (case k => k_is)
      (case b => exact fun _ _ _ _ _ _ us hl => match us, hl with | [_, _, _], _ => rfl)
    case h_stands =>
      refine' Wv.fnAt_mk KX G ?a ?l ?c ?k ?b
      (case a => k_is)
      (case l => k_is)
      (case c => k_is)
      (case k => k_is)
      (case b => exact fun _ _ _ _ _ _ us hl => match us, hl with | [_, _, _], _ => rfl)
    case h_law_has =>
      refine' Wv.fnAt_mk KX G ?a ?l ?c ?k ?b
      (case a => k_is)
      (case l => k_is)
      (case c => k_is)
      (case k => k_is)
      (case b => exact fun _ _ _ _ _ _ us hl => match us, hl with | [_, _], _ => rfl)
    case h_law_may =>
      refine' Wv.fnAt_mk KX G ?a ?l ?c ?k ?b
      (case a => k_is)
      (case l => k_is)
      (case c => k_is)
      (case k => k_is)
      (case b => exact fun _ _ _ _ _ _ us hl => match us, hl with | [_, _, _], _ => rfl)
    case h_Unranked_init =>
      refine' Wv.mkAt_mk (PySem.W.mg_of KX G ?g) ?m ?a ?i ?kc ?l ?c ?k ?b
      (case g => k_is)
      (case m => k_is)
      (case a => k_is)
      (case i => k_is)
      (case kc => k_is)
      (case l => k_is)
      (case c => k_is)
      (case k => k_is)
      (case b => exact fun _ _ _ _ _ _ us hl => match us, hl with | [_, _, _, _, _], _ => rfl)
    case h_Ranks_init =>
      refine' Wv.mkAt_mk (PySem.W.mg_of KX G ?g) ?m ?a ?i ?kc ?l ?c ?k ?b
      (case g => k_is)
      (case m => k_is)
      (case a => k_is)
      (case i => k_is)
      (case kc => k_is)
      (case l => k_is)
      (case c => k_is)
      (case k => k_is)
      (case b => exact fun _ _ _ _ _ _ us hl => match us, hl with | [_, _], _ => rfl)
    case h_ranked =>
      refine' Wv.fnAt_mk KX G ?a ?l ?c ?k ?b
      (case a => k_is)
      (case l => k_is)
      (case c => k_is)
      (case k => k_is)
      (case b => exact fun _ _ _ _ _ _ us hl => match us, hl with | [_], _ => rfl)
    case h_Ranks_holds =>
      refine' Wv.mtAt_mk ?a ?i ?l ?c ?k ?b
      (case a => k_is)
      (case i => k_is)
      (case l => k_is)
      (case c => k_is)
      (case k => k_is)
      (case b => exact fun _ _ _ _ _ _ us hl => match us, hl with | [_, _], _ => rfl)
    case h_Unranked_holds =>
      refine' Wv.mtAt_mk ?a ?i ?l ?c ?k ?b
      (case a => k_is)
      (case i => k_is)
      (case l => k_is)
      (case c => k_is)
      (case k => k_is)
      (case b => exact fun _ _ _ _ _ _ us hl => match us, hl with | [_, _], _ => rfl)
    case h_law_says =>
      refine' Wv.fnAt_mk KX G ?a ?l ?c ?k ?b
      (case a => k_is)
      (case l => k_is)
      (case c => k_is)
      (case k => k_is)
      (case b => exact fun _ _ _ _ _ _ us hl => match us, hl with | [_, _, _], _ => rfl)
    case h_law_flat =>
      refine' Wv.fnAt_mk KX G ?a ?l ?c ?k ?b
      (case a => k_is)
      (case l => k_is)
      (case c => k_is)
      (case k => k_is)
      (case b => exact fun _ _ _ _ _ _ us hl => match us, hl with | [_], _ => rfl)
    case h_law_in_ranks =>
      refine' Wv.fnAt_mk KX G ?a ?l ?c ?k ?b
      (case a => k_is)
      (case l => k_is)
      (case c => k_is)
      (case k => k_is)
      (case b => exact fun _ _ _ _ _ _ us hl => match us, hl with | [_, _, _], _ => rfl)
    case h_law_shown =>
      refine' Wv.fnAt_mk KX G ?a ?l ?c ?k ?b
      (case a => k_is)
      (case l => k_is)
      (case c => k_is)
      (case k => k_is)
      (case b => exact fun _ _ _ _ _ _ us hl => match us, hl with | [_, _, _, _, _], _ => rfl)
    case h_law_right =>
      refine' Wv.fnAt_mk KX G ?a ?l ?c ?k ?b
      (case a => k_is)
      (case l => k_is)
      (case c => k_is)
      (case k => k_is)
      (case b => exact fun _ _ _ _ _ _ us hl => match us, hl with | [_, _, _], _ => rfl)
    case h_law_bent =>
      refine' Wv.fnAt_mk KX G ?a ?l ?c ?k ?b
      (case a => k_is)
      (case l => k_is)
      (case c => k_is)
      (case k => k_is)
      (case b => exact fun _ _ _ _ _ _ us hl => match us, hl with | [_, _, _], _ => rfl)
    case h_law_beside_right =>
      refine' Wv.fnAt_mk KX G ?a ?l ?c ?k ?b
      (case a => k_is)
      (case l => k_is)
      (case c => k_is)
      (case k => k_is)
      (case b => exact fun _ _ _ _ _ _ us hl => match us, hl with | [_, _, _, _], _ => rfl)
    case h_law =>
      refine' Wv.lawAt_mk KX G ?a ?l ?c ?k ?b
      (case a => k_is)
      (case l => k_is)
      (case c => k_is)
      (case k => k_is)
      (case b => exact fun _ _ _ _ _ _ _ => rfl)
#print axioms PySem.Challenge.cw_weighvote_k04_whole_ranked_holds
