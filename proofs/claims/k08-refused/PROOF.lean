import PyProof.Rows.All
import Wide.All
import OpenK.AllK
import Wide.FinOn
import HandS.ForMost
import HandS.ForExc
import HandS.Evl
import HandS.IsInst
import HandS.Wide
import HandS.Style
import HandS.Conv
import HandS.SetFor
import HandS.Exc
import HandS.ExcOwn
import HandS.ExcIs
import HandS.TryOnly
import HandS.CallLocal
import HandS.WordsExc
import HandS.ExcCtx
import HandS.Hot
import HandS.HotCalls
import HandS.Dict
import KE.KExcLine
import KE.RegKIsAll
import PySem.Challenge.RW_weighvote_k08_refused
set_option Elab.async false
set_option linter.all false
set_option maxRecDepth 100000
set_option maxHeartbeats 4000000
/-! Values without a heap: what stands in a slot is data (fz), a list of one's own that may still be changed (ow), an object being made (ob), or not known (un). -/
namespace Wv
open PySem L2
open Evl (Ex fresh_back ex_l)

inductive D where
  | non | bl (b : Bool) | int (i : Int) | str (x : Str) | ty (n : String)
  | lst (xs : List D) | tup (xs : List D)
  | obj (C : Addr) (ns : List Str) (ds : List D)
  | fn (a : Addr) | scr (ns : List Int) | emp

mutual
def Den (K : PySem.W.Frag) (H : Hp) : D → V → Prop
  | .non, v => v = .non
  | .bl b, v => v = .bl b
  | .int i, v => v = .int i
  | .str x, v => v = .str x
  | .ty n, v => v = .ty n
  | .lst xs, v => ∃ a vs, v = .ref a ∧ H a = some (.lst vs) ∧ DenL K H xs vs
  | .tup xs, v => ∃ a vs, v = .ref a ∧ H a = some (.tup vs) ∧ DenL K H xs vs
  | .obj C ns ds, v => ∃ a dx vs, v = .ref a ∧ H a = some (.ins C dx (ns.zip vs)) ∧ ns.length = vs.length ∧ DenL K H ds vs
  | .fn a, v => v = .ref a
  | .scr ns, v => ∃ a, v = .ref a ∧ SqL K H a (ns.map V.int)
  | .emp, v => ∃ a, v = .ref a ∧ H a = some (.dK [])
def DenL (K : PySem.W.Frag) (H : Hp) : List D → List V → Prop
  | [], vs => vs = []
  | d :: ds, vs => ∃ v r, vs = v :: r ∧ Den K H d v ∧ DenL K H ds r
end

section
variable {K : PySem.W.Frag} {H H' B B' B'' H'' : Hp}
mutual
theorem den_mono (e : Ex H H') : ∀ {d : D} {v : V}, Den K H d v → Den K H' d v
  | .non, _, h => by simpa only [Den] using h
  | .bl _, _, h => by simpa only [Den] using h
  | .int _, _, h => by simpa only [Den] using h
  | .str _, _, h => by simpa only [Den] using h
  | .ty _, _, h => by simpa only [Den] using h
  | .fn _, _, h => by simpa only [Den] using h
  | .lst xs, v, h => by
    simp only [Den] at h ⊢
    obtain ⟨a, vs, h1, h2, h3⟩ := h
    exact ⟨a, vs, h1, e a _ h2, denL_mono e h3⟩
  | .tup xs, v, h => by
    simp only [Den] at h ⊢
    obtain ⟨a, vs, h1, h2, h3⟩ := h
    exact ⟨a, vs, h1, e a _ h2, denL_mono e h3⟩
  | .obj C ns ds, v, h => by
    simp only [Den] at h ⊢
    obtain ⟨a, dx, vs, h1, h2, h4, h3⟩ := h
    exact ⟨a, dx, vs, h1, e a _ h2, h4, denL_mono e h3⟩
  | .emp, v, h => by
    simp only [Den] at h ⊢
    obtain ⟨a, h1, h2⟩ := h
    exact ⟨a, h1, e a _ h2⟩
  | .scr ns, v, h => by
    simp only [Den] at h ⊢
    obtain ⟨a, h1, h2⟩ := h
    exact ⟨a, h1, ex_l e h2⟩
theorem denL_mono (e : Ex H H') : ∀ {ds : List D} {vs : List V}, DenL K H ds vs → DenL K H' ds vs
  | [], _, h => by simpa only [DenL] using h
  | d :: ds, vs, h => by
    simp only [DenL] at h ⊢
    obtain ⟨v, r, h1, h2, h3⟩ := h
    exact ⟨v, r, h1, den_mono e h2, denL_mono e h3⟩
end
theorem denL_nil : DenL K H [] [] := by simp only [DenL]
theorem denL_cons {d : D} {v : V} {ds : List D} {vs : List V} (h : Den K H d v) (t : DenL K H ds vs) : DenL K H (d :: ds) (v :: vs) := by
  simp only [DenL]
  exact ⟨v, vs, rfl, h, t⟩
theorem denL_inv {d : D} {ds : List D} {vs : List V} (h : DenL K H (d :: ds) vs) : ∃ v r, vs = v :: r ∧ Den K H d v ∧ DenL K H ds r := by
  simpa only [DenL] using h
theorem denL_inv0 {vs : List V} (h : DenL K H [] vs) : vs = [] := by
  simpa only [DenL] using h
theorem denL_len : ∀ {ds : List D} {vs : List V}, DenL K H ds vs → ds.length = vs.length
  | [], vs, h => by rw [denL_inv0 h] <;> rfl
  | d :: ds, vs, h => by
    obtain ⟨v, r, rfl, _, h3⟩ := denL_inv h
    simp only [List.length_cons, denL_len h3]
theorem denL_app : ∀ {ds es : List D} {vs us : List V}, DenL K H ds vs → DenL K H es us → DenL K H (ds ++ es) (vs ++ us)
  | [], _, vs, _, h, h' => by
    rw [denL_inv0 h]
    exact h'
  | d :: ds, es, vs, us, h, h' => by
    obtain ⟨v, r, rfl, h2, h3⟩ := denL_inv h
    exact denL_cons h2 (denL_app h3 h')
theorem denL_get : ∀ {ds : List D} {vs : List V} {i : Nat} {d : D}, DenL K H ds vs → ds[i]? = some d → ∃ v, vs[i]? = some v ∧ Den K H d v
  | [], _, i, _, _, e => by simp at e
  | d :: ds, vs, 0, d', h, e => by
    obtain ⟨v, r, rfl, h2, h3⟩ := denL_inv h
    simp at e
    subst e
    exact ⟨v, rfl, h2⟩
  | d :: ds, vs, i + 1, d', h, e => by
    obtain ⟨v, r, rfl, h2, h3⟩ := denL_inv h
    obtain ⟨u, h4, h5⟩ := denL_get (i := i) h3 (by simpa using e)
    exact ⟨u, by simpa using h4, h5⟩
theorem denL_getV : ∀ {ds : List D} {vs : List V} {i : Nat} {v : V}, DenL K H ds vs → vs[i]? = some v → ∃ d, ds[i]? = some d ∧ Den K H d v
  | [], vs, i, _, h, e => by
    rw [denL_inv0 h] at e
    simp at e
  | d :: ds, vs, 0, v', h, e => by
    obtain ⟨v, r, rfl, h2, h3⟩ := denL_inv h
    simp at e
    subst e
    exact ⟨d, rfl, h2⟩
  | d :: ds, vs, i + 1, d', h, e => by
    obtain ⟨v, r, rfl, h2, h3⟩ := denL_inv h
    obtain ⟨u, h4, h5⟩ := denL_getV (i := i) h3 (by simpa using e)
    exact ⟨u, by simpa using h4, h5⟩
theorem denL_set : ∀ {ds : List D} {vs : List V} {i : Nat} {d : D} {v : V}, DenL K H ds vs → Den K H d v → DenL K H (ds.set i d) (vs.set i v)
  | [], _, i, _, _, h, _ => by
    rw [denL_inv0 h]
    exact denL_nil
  | d :: ds, vs, 0, d', _, h, e => by
    obtain ⟨v, r, rfl, h2, h3⟩ := denL_inv h
    exact denL_cons e h3
  | d :: ds, vs, i + 1, d', _, h, e => by
    obtain ⟨v, r, rfl, h2, h3⟩ := denL_inv h
    exact denL_cons h2 (denL_set h3 e)
theorem denL_take : ∀ {ds : List D} {vs : List V} (n : Nat), DenL K H ds vs → DenL K H (ds.take n) (vs.take n)
  | ds, vs, 0, h => by simpa using denL_nil
  | [], vs, n + 1, h => by
    rw [denL_inv0 h]
    exact denL_nil
  | d :: ds, vs, n + 1, h => by
    obtain ⟨v, r, rfl, h2, h3⟩ := denL_inv h
    exact denL_cons h2 (denL_take n h3)
theorem denL_drop : ∀ {ds : List D} {vs : List V} (n : Nat), DenL K H ds vs → DenL K H (ds.drop n) (vs.drop n)
  | ds, vs, 0, h => by simpa using h
  | [], vs, n + 1, h => by
    rw [denL_inv0 h]
    exact denL_nil
  | d :: ds, vs, n + 1, h => by
    obtain ⟨v, r, rfl, h2, h3⟩ := denL_inv h
    exact denL_drop n h3
theorem denL_ints : ∀ {ns : List Int} {vs : List V}, DenL K H (ns.map D.int) vs → vs = ns.map V.int
  | [], vs, h => denL_inv0 h
  | n :: ns, vs, h => by
    obtain ⟨v, r, rfl, h2, h3⟩ := denL_inv h
    rw [denL_ints h3]
    simp only [Den] at h2
    rw [h2]
    rfl
theorem denL_bls : ∀ {ns : List Bool} {vs : List V}, DenL K H (ns.map D.bl) vs → vs = ns.map V.bl
  | [], vs, h => denL_inv0 h
  | n :: ns, vs, h => by
    obtain ⟨v, r, rfl, h2, h3⟩ := denL_inv h
    rw [denL_bls h3]
    simp only [Den] at h2
    rw [h2]
    rfl
theorem denL_strs : ∀ {ns : List Str} {vs : List V}, DenL K H (ns.map D.str) vs → vs = ns.map V.str
  | [], vs, h => denL_inv0 h
  | n :: ns, vs, h => by
    obtain ⟨v, r, rfl, h2, h3⟩ := denL_inv h
    rw [denL_strs h3]
    simp only [Den] at h2
    rw [h2]
    rfl
theorem den_int {i : Int} {v : V} (h : Den K H (.int i) v) : v = .int i := by simpa only [Den] using h
theorem den_bl {i : Bool} {v : V} (h : Den K H (.bl i) v) : v = .bl i := by simpa only [Den] using h
theorem den_str {i : Str} {v : V} (h : Den K H (.str i) v) : v = .str i := by simpa only [Den] using h
theorem den_non {v : V} (h : Den K H .non v) : v = .non := by simpa only [Den] using h
theorem den_fn {a : Addr} {v : V} (h : Den K H (.fn a) v) : v = .ref a := by simpa only [Den] using h
theorem den_lst {xs : List D} {v : V} (h : Den K H (.lst xs) v) : ∃ a vs, v = .ref a ∧ H a = some (.lst vs) ∧ DenL K H xs vs := by simpa only [Den] using h
theorem den_tup {xs : List D} {v : V} (h : Den K H (.tup xs) v) : ∃ a vs, v = .ref a ∧ H a = some (.tup vs) ∧ DenL K H xs vs := by simpa only [Den] using h
theorem den_obj {C : Addr} {ns : List Str} {xs : List D} {v : V} (h : Den K H (.obj C ns xs) v) : ∃ a dx vs, v = .ref a ∧ H a = some (.ins C dx (ns.zip vs)) ∧ ns.length = vs.length ∧ DenL K H xs vs := by simpa only [Den] using h
theorem den_scr {xs : List Int} {v : V} (h : Den K H (.scr xs) v) : ∃ a, v = .ref a ∧ SqL K H a (xs.map V.int) := by simpa only [Den] using h
theorem mk_int (i : Int) : Den K H (.int i) (.int i) := by simp only [Den]
theorem mk_bl (i : Bool) : Den K H (.bl i) (.bl i) := by simp only [Den]
theorem mk_str (i : Str) : Den K H (.str i) (.str i) := by simp only [Den]
theorem mk_non : Den K H .non .non := by simp only [Den]
theorem den_emp {v : V} (h : Den K H .emp v) : ∃ a, v = .ref a ∧ H a = some (.dK []) := by simpa only [Den] using h
theorem mk_fn (a : Addr) : Den K H (.fn a) (.ref a) := by simp only [Den]
theorem mk_ty (a : String) : Den K H (.ty a) (.ty a) := by simp only [Den]
theorem mk_lst {a : Addr} {vs : List V} {xs : List D} (h : H a = some (.lst vs)) (t : DenL K H xs vs) : Den K H (.lst xs) (.ref a) := by
  simp only [Den]
  exact ⟨a, vs, rfl, h, t⟩
theorem mk_tup {a : Addr} {vs : List V} {xs : List D} (h : H a = some (.tup vs)) (t : DenL K H xs vs) : Den K H (.tup xs) (.ref a) := by
  simp only [Den]
  exact ⟨a, vs, rfl, h, t⟩
theorem mk_obj {a C dx : Addr} {ns : List Str} {vs : List V} {xs : List D} (h : H a = some (.ins C dx (ns.zip vs))) (l : ns.length = vs.length) (t : DenL K H xs vs) : Den K H (.obj C ns xs) (.ref a) := by
  simp only [Den]
  exact ⟨a, dx, vs, rfl, h, l, t⟩

/-! ### growth: B the data's heap, H the whole one -/
structure Gr (B H B' H' : Hp) : Prop where
  eb : Ex B B'
  eh : Ex H H'
  sub : Ex B' H'
  out : ∀ p, B p = none → H p ≠ none → B' p = none
theorem Gr.refl (h : Ex B H) : Gr B H B H := ⟨Ex.refl _, Ex.refl _, h, fun _ h _ => h⟩
theorem Gr.trans (a : Gr B H B' H') (b : Gr B' H' B'' H'') : Gr B H B'' H'' :=
  ⟨a.eb.trans b.eb, a.eh.trans b.eh, b.sub, fun p h1 h2 => b.out p (a.out p h1 h2) fun z => h2 (fresh_back a.eh z)⟩
theorem Gr.back (a : Gr B H B' H') {p : Addr} (h : H' p = none) : H p = none := fresh_back a.eh h
/-- a new object at p becomes data -/
theorem Gr.fz {p : Addr} {o : HO} (a : Gr B H B' H') (s : Ex B H) (h0 : H p = none) (h1 : B' p = none) (h2 : H' p = some o) : Gr B H (upd B' p o) H' := by
  refine ⟨fun q u e => ?_, a.eh, fun q u e => ?_, fun q e1 e2 => ?_⟩
  · rw [upd_ne (ne_of_none (s q u e) h0)]
    exact a.eb q u e
  · by_cases z : q = p
    · subst z
      rw [upd_same] at e
      cases e
      exact h2
    · rw [upd_ne z] at e
      exact a.sub q u e
  · have z : q ≠ p := fun z => e2 (by rw [z]; exact h0)
    rw [upd_ne z]
    exact a.out q e1 e2
theorem ex_upd {p : Addr} {o : HO} (h : B p = none) : Ex B (upd B p o) := Ex.new h
/-- a new object p is laid (into H alone) -/
theorem Gr.lay {p : Addr} {o : HO} (s : Ex B H) (h0 : H p = none) : Gr B H B (upd H p o) :=
  ⟨Ex.refl _, Ex.new h0, s.trans (Ex.new h0), fun _ h _ => h⟩
/-- .. as data -/
theorem Gr.layB {p : Addr} {o : HO} (s : Ex B H) (h0 : H p = none) : Gr B H (upd B p o) (upd H p o) :=
  (Gr.lay s h0).fz s h0 (fresh_back s h0) upd_same

/-! ### results -/
inductive Rs where
  | dat (d : D) | new (xs : List D) | exc (C : Addr) | frs (d : D)
/-- a heap of new objects alone -/
def New (N H : Hp) : Prop := ∀ p o, N p = some o → H p = none
def Post (K : PySem.W.Frag) (E : XK) (B H : Hp) (Q : VK) : Rs → Prop
  | .dat d => ∀ v B' H', Gr B H B' H' → Den K B' d v → Q v H'
  | .new xs => ∀ p vs B' H', Gr B H B' H' → H p = none → B' p = none → H' p = some (.lst vs) → DenL K B' xs vs → Q (.ref p) H'
  | .exc C => ∀ B' H', Gr B H B' H' → E (.ref C) none H'
  | .frs d => ∀ v N B' H', Gr B H B' H' → Ex N B' → New N H → Den K N d v → Q v H'
theorem Post.shift {E : XK} {Q : VK} {r : Rs} (g : Gr B H B' H') (h : Post K E B H Q r) : Post K E B' H' Q r := by
  cases r with
  | dat d => exact fun v B2 H2 g2 => h v B2 H2 (g.trans g2)
  | new xs => exact fun p vs B2 H2 g2 h0 => h p vs B2 H2 (g.trans g2) (g.back h0)
  | exc C => exact fun B2 H2 g2 => h B2 H2 (g.trans g2)
  | frs d => exact fun v N B2 H2 g2 e n => h v N B2 H2 (g.trans g2) e fun p o z => g.back (n p o z)
/-- a promise by its data: f (arguments) (result) -/
def SpR (K : PySem.W.Frag) (f : List D → Rs → Prop) : Sp := fun vs H Q E => ∃ B ds r, Ex B H ∧ DenL K B ds vs ∧ f ds r ∧ Post K E B H Q r

/-! ### states -/
inductive Sl where
  | un | fz (d : D) | ow (xs : List D) | ob (p0 C : Addr) (ns : List Str) (ds : List D) | rg (d : D)
/-- one's own list, one's own object -/
def Sl.own : Sl → Bool
  | .ow _ => true | .ob _ _ _ _ => true | _ => false
structure SD (K : PySem.W.Frag) (B0 H0 B H : Hp) (σ : L2.St) (sl : List Sl) : Prop where
  gr : Gr B0 H0 B H
  len : σ.length = sl.length
  fz : ∀ (i : Nat) (d : D), sl[i]? = some (.fz d) → ∃ v, σ[i]? = some (some v) ∧ Den K B d v
  ow : ∀ (i : Nat) (xs : List D), sl[i]? = some (.ow xs) → ∃ p vs, σ[i]? = some (some (.ref p)) ∧ H0 p = none ∧ B p = none ∧ H p = some (.lst vs) ∧ DenL K B xs vs
  ob : ∀ (i : Nat) (p0 C : Addr) (ns : List Str) (ds : List D), sl[i]? = some (.ob p0 C ns ds) → ∃ p dx vs, (σ[i]? = some (some (.ref p)) ∧ p = p0) ∧ H0 p = none ∧ B p = none ∧ H p = some (.ins C dx (ns.zip vs)) ∧ ns.length = vs.length ∧ ∃ N, Ex N B ∧ New N H0 ∧ DenL K N ds vs
  ap : ∀ (i j : Nat) (xs ys : List D) (p : Addr), sl[i]? = some (.ow xs) → sl[j]? = some (.ow ys) → σ[i]? = some (some (.ref p)) → σ[j]? = some (some (.ref p)) → i = j
  rg : ∀ (i : Nat) (d : D), sl[i]? = some (.rg d) → ∃ v N, σ[i]? = some (some v) ∧ New N H0 ∧ (∀ p o, N p = some o → B p = none) ∧ Ex N H ∧ Den K N d v ∧ ∀ (j : Nat) (x : Sl) (p : Addr), sl[j]? = some x → x.own = true → σ[j]? = some (some (.ref p)) → N p = none
end

section
variable {K : PySem.W.Frag} {B0 H0 B H B' H' : Hp} {σ : L2.St} {sl : List Sl}
theorem SD.sub (s : SD K B0 H0 B H σ sl) : Ex B H := s.gr.sub
theorem SD.grow (s : SD K B0 H0 B H σ sl) (g : Gr B H B' H') : SD K B0 H0 B' H' σ sl := by
  refine ⟨s.gr.trans g, s.len, fun i d h => ?_, fun i xs h => ?_, fun i p0 C ns ds h => ?_, s.ap, fun i d h => ?_⟩
  · obtain ⟨v, h1, h2⟩ := s.fz i d h
    exact ⟨v, h1, den_mono g.eb h2⟩
  · obtain ⟨p, vs, h1, h2, h3, h4, h5⟩ := s.ow i xs h
    exact ⟨p, vs, h1, h2, g.out p h3 (by rw [h4]; simp), g.eh p _ h4, denL_mono g.eb h5⟩
  · obtain ⟨p, dx, vs, h1, h2, h3, h4, h6, h5⟩ := s.ob i p0 C ns ds h
    obtain ⟨N, n1, n2, n3⟩ := h5
    exact ⟨p, dx, vs, h1, h2, g.out p h3 (by rw [h4]; simp), g.eh p _ h4, h6, N, n1.trans g.eb, n2, n3⟩
  · obtain ⟨v, N, h1, h2, h3, h4, h5, h6⟩ := s.rg i d h
    exact ⟨v, N, h1, h2, fun p o z => g.out p (h3 p o z) (by rw [h4 p o z]; simp), h4.trans g.eh, h5, h6⟩
/-- what may be forgotten -/
def Fgt (sl sl' : List Sl) : Prop := sl.length = sl'.length ∧ ∀ i : Nat, sl'[i]? = some .un ∨ sl'[i]? = sl[i]?
theorem Fgt.refl (sl : List Sl) : Fgt sl sl := ⟨rfl, fun _ => .inr rfl⟩
theorem Fgt.nil : Fgt [] [] := Fgt.refl []
theorem Fgt.keep {a : Sl} {l l' : List Sl} (h : Fgt l l') : Fgt (a :: l) (a :: l') := ⟨by simp [h.1], fun i => by
  cases i with
  | zero => exact .inr rfl
  | succ i => simpa using h.2 i⟩
theorem Fgt.drop {a : Sl} {l l' : List Sl} (h : Fgt l l') : Fgt (a :: l) (.un :: l') := ⟨by simp [h.1], fun i => by
  cases i with
  | zero => exact .inl rfl
  | succ i => simpa using h.2 i⟩
theorem SD.fgt {sl' : List Sl} (s : SD K B0 H0 B H σ sl) (f : Fgt sl sl') : SD K B0 H0 B H σ sl' := by
  have k : ∀ (i : Nat) (x : Sl), x ≠ .un → sl'[i]? = some x → sl[i]? = some x := fun i x hx h => by
    rcases f.2 i with z | z
    · rw [z] at h
      exact absurd (Option.some.inj h).symm hx
    · rw [← z]
      exact h
  exact ⟨s.gr, s.len.trans f.1, fun i d h => s.fz i d (k i _ (by simp) h), fun i xs h => s.ow i xs (k i _ (by simp) h), fun i p0 C ns ds h => s.ob i p0 C ns ds (k i _ (by simp) h),
    fun i j xs ys p h1 h2 => s.ap i j xs ys p (k i _ (by simp) h1) (k j _ (by simp) h2), fun i d h => by
      obtain ⟨v, N, h1, h2, h3, h4, h5, h6⟩ := s.rg i d (k i _ (by simp) h)
      exact ⟨v, N, h1, h2, h3, h4, h5, fun j x p e1 e2 e3 => h6 j x p (k j x (fun z => by rw [z] at e2; cases e2) e1) e2 e3⟩⟩
theorem SD.setFz {i : Nat} {d : D} {v : V} (s : SD K B0 H0 B H σ sl) (h : Den K B d v) : SD K B0 H0 B H (σ.set i (some v)) (sl.set i (.fz d)) := by
  have ne : ∀ (j : Nat) (x : Sl), (∀ d, x ≠ .fz d) → (sl.set i (.fz d))[j]? = some x → j ≠ i ∧ sl[j]? = some x := fun j x hx e => by
    by_cases z : j = i
    · subst z
      by_cases hl : j < sl.length
      · rw [List.getElem?_set_self hl] at e
        exact absurd (Option.some.inj e).symm (hx d)
      · rw [List.getElem?_eq_none (by simpa using hl)] at e
        cases e
    · exact ⟨z, by rw [List.getElem?_set_ne (Ne.symm z)] at e; exact e⟩
  refine ⟨s.gr, by simpa using s.len, fun j d' e => ?_, fun j xs e => ?_, fun j p0 C ns ds e => ?_, fun j k xs ys p e1 e2 e3 e4 => ?_, fun j d' e => ?_⟩
  · by_cases z : j = i
    · subst z
      by_cases hl : j < sl.length
      · rw [List.getElem?_set_self hl] at e
        cases e
        exact ⟨v, by rw [List.getElem?_set_self (by rw [s.len]; exact hl)], h⟩
      · rw [List.getElem?_eq_none (by simpa using hl)] at e
        cases e
    · rw [List.getElem?_set_ne (Ne.symm z)] at e ⊢
      exact s.fz j d' e
  · obtain ⟨z, e⟩ := ne j _ (by simp) e
    rw [List.getElem?_set_ne (Ne.symm z)]
    exact s.ow j xs e
  · obtain ⟨z, e⟩ := ne j _ (by simp) e
    rw [List.getElem?_set_ne (Ne.symm z)]
    exact s.ob j p0 C ns ds e
  · obtain ⟨z1, e1⟩ := ne j _ (by simp) e1
    obtain ⟨z2, e2⟩ := ne k _ (by simp) e2
    rw [List.getElem?_set_ne (Ne.symm z1)] at e3
    rw [List.getElem?_set_ne (Ne.symm z2)] at e4
    exact s.ap j k xs ys p e1 e2 e3 e4
  · obtain ⟨z, e⟩ := ne j _ (by simp) e
    obtain ⟨v', N, h1, h2, h3, h4, h5, h6⟩ := s.rg j _ e
    refine ⟨v', N, by rw [List.getElem?_set_ne (Ne.symm z)]; exact h1, h2, h3, h4, h5, fun k x p e1 e2 e3 => ?_⟩
    obtain ⟨z1, e1⟩ := ne k x (by cases x <;> first | (simp [Sl.own] at e2; done) | simp) e1
    rw [List.getElem?_set_ne (Ne.symm z1)] at e3
    exact h6 k x p e1 e2 e3
theorem SD.setUn {i : Nat} {v : Option V} (s : SD K B0 H0 B H σ sl) : SD K B0 H0 B H (σ.set i v) (sl.set i .un) := by
  have ne : ∀ (j : Nat) (x : Sl), x ≠ .un → (sl.set i .un)[j]? = some x → j ≠ i ∧ sl[j]? = some x := fun j x hx e => by
    by_cases z : j = i
    · subst z
      by_cases hl : j < sl.length
      · rw [List.getElem?_set_self hl] at e
        exact absurd (Option.some.inj e).symm hx
      · rw [List.getElem?_eq_none (by simpa using hl)] at e
        cases e
    · exact ⟨z, by rw [List.getElem?_set_ne (Ne.symm z)] at e; exact e⟩
  refine ⟨s.gr, by simpa using s.len, fun j d' e => ?_, fun j xs e => ?_, fun j p0 C ns ds e => ?_, fun j k xs ys p e1 e2 e3 e4 => ?_, fun j d' e => ?_⟩
  · obtain ⟨z, e⟩ := ne j _ (by simp) e
    rw [List.getElem?_set_ne (Ne.symm z)]
    exact s.fz j _ e
  · obtain ⟨z, e⟩ := ne j _ (by simp) e
    rw [List.getElem?_set_ne (Ne.symm z)]
    exact s.ow j xs e
  · obtain ⟨z, e⟩ := ne j _ (by simp) e
    rw [List.getElem?_set_ne (Ne.symm z)]
    exact s.ob j p0 C ns ds e
  · obtain ⟨z1, e1⟩ := ne j _ (by simp) e1
    obtain ⟨z2, e2⟩ := ne k _ (by simp) e2
    rw [List.getElem?_set_ne (Ne.symm z1)] at e3
    rw [List.getElem?_set_ne (Ne.symm z2)] at e4
    exact s.ap j k xs ys p e1 e2 e3 e4
  · obtain ⟨z, e⟩ := ne j _ (by simp) e
    obtain ⟨v', N, h1, h2, h3, h4, h5, h6⟩ := s.rg j _ e
    refine ⟨v', N, by rw [List.getElem?_set_ne (Ne.symm z)]; exact h1, h2, h3, h4, h5, fun k x p e1 e2 e3 => ?_⟩
    obtain ⟨z1, e1⟩ := ne k x (by cases x <;> first | (simp [Sl.own] at e2; done) | simp) e1
    rw [List.getElem?_set_ne (Ne.symm z1)] at e3
    exact h6 k x p e1 e2 e3
/-- a list of one's own comes to slot i: p is new to all that stood ahead -/
theorem SD.setOw {i : Nat} {p : Addr} {vs : List V} {xs : List D} (s : SD K B0 H0 B H σ sl) (h0 : H0 p = none) (h1 : B p = none) (h2 : H p = some (.lst vs)) (h3 : DenL K B xs vs)
    (hn : ∀ (j : Nat) (ys : List D), j ≠ i → sl[j]? = some (.ow ys) → σ[j]? ≠ some (some (.ref p))) (hr : ∀ (j : Nat) (d : D), sl[j]? = some (.rg d) → ∃ v N, σ[j]? = some (some v) ∧ New N H0 ∧ (∀ p o, N p = some o → B p = none) ∧ Ex N H ∧ Den K N d v ∧ (∀ (j : Nat) (x : Sl) (p : Addr), sl[j]? = some x → x.own = true → σ[j]? = some (some (.ref p)) → N p = none) ∧ N p = none) : SD K B0 H0 B H (σ.set i (some (.ref p))) (sl.set i (.ow xs)) := by
  have at_ : ∀ (j : Nat) (x : Sl), (sl.set i (.ow xs))[j]? = some x → (j = i ∧ x = .ow xs ∧ (σ.set i (some (V.ref p)))[j]? = some (some (.ref p))) ∨ (j ≠ i ∧ sl[j]? = some x ∧ (σ.set i (some (V.ref p)))[j]? = σ[j]?) := fun j x e => by
    by_cases z : j = i
    · subst z
      by_cases hl : j < sl.length
      · rw [List.getElem?_set_self hl] at e
        exact .inl ⟨rfl, (Option.some.inj e).symm, by rw [List.getElem?_set_self (by rw [s.len]; exact hl)]⟩
      · rw [List.getElem?_eq_none (by simpa using hl)] at e
        cases e
    · rw [List.getElem?_set_ne (Ne.symm z)] at e
      exact .inr ⟨z, e, by rw [List.getElem?_set_ne (Ne.symm z)]⟩
  refine ⟨s.gr, by simpa using s.len, fun j d' e => ?_, fun j ys e => ?_, fun j p0 C ns ds e => ?_, fun j k ys zs q e1 e2 e3 e4 => ?_, fun j d' e => ?_⟩
  · rcases at_ j _ e with ⟨_, z, _⟩ | ⟨_, z, w⟩
    · cases z
    · rw [w]
      exact s.fz j _ z
  · rcases at_ j _ e with ⟨_, z, w⟩ | ⟨_, z, w⟩
    · cases z
      rw [w]
      exact ⟨p, vs, rfl, h0, h1, h2, h3⟩
    · rw [w]
      exact s.ow j _ z
  · rcases at_ j _ e with ⟨_, z, _⟩ | ⟨_, z, w⟩
    · cases z
    · rw [w]
      exact s.ob j _ _ _ _ z
  · rcases at_ j _ e1 with ⟨a1, z1, w1⟩ | ⟨a1, z1, w1⟩
    · rcases at_ k _ e2 with ⟨a2, z2, w2⟩ | ⟨a2, z2, w2⟩
      · rw [a1, a2]
      · rw [w1] at e3
        cases e3
        rw [w2] at e4
        exact absurd e4 (hn k zs a2 z2)
    · rcases at_ k _ e2 with ⟨a2, z2, w2⟩ | ⟨a2, z2, w2⟩
      · rw [w2] at e4
        cases e4
        rw [w1] at e3
        exact absurd e3 (hn j ys a1 z1)
      · rw [w1] at e3
        rw [w2] at e4
        exact s.ap j k ys zs q z1 z2 e3 e4
  · rcases at_ j _ e with ⟨_, z, _⟩ | ⟨_, z, w⟩
    · cases z
    · obtain ⟨v', N, g1, g2, g3, g4, g5, g6, g7⟩ := hr j _ z
      refine ⟨v', N, by rw [w]; exact g1, g2, g3, g4, g5, fun k x q e1 e2 e3 => ?_⟩
      rcases at_ k _ e1 with ⟨a1, z1, w1⟩ | ⟨a1, z1, w1⟩
      · rw [w1] at e3
        cases e3
        exact g7
      · rw [w1] at e3
        exact g6 k x q z1 e2 e3
/-- a new list (new to H, where the state stood) -/
theorem SD.setNew {i : Nat} {p : Addr} {vs : List V} {xs : List D} (s : SD K B0 H0 B H σ sl) (g : Gr B H B' H') (h0 : H p = none) (h1 : B' p = none) (h2 : H' p = some (.lst vs)) (h3 : DenL K B' xs vs) :
    SD K B0 H0 B' H' (σ.set i (some (.ref p))) (sl.set i (.ow xs)) :=
  (s.grow g).setOw (s.gr.back h0) h1 h2 h3 (fun j ys _ e z => by
    obtain ⟨q, us, e1, _, _, e2, _⟩ := s.ow j ys e
    rw [z] at e1
    cases e1
    rw [h0] at e2
    cases e2) fun j d e => by
    obtain ⟨v, N, g1, g2, g3, g4, g5, g6⟩ := s.rg j d e
    exact ⟨v, N, g1, g2, fun q o z => g.out q (g3 q o z) (by rw [g4 q o z]; simp), g4.trans g.eh, g5, g6, fresh_back g4 h0⟩
/-- one's own list at slot i is changed -/
theorem SD.mut {i : Nat} {p : Addr} {xs ys : List D} {us : List V} (s : SD K B0 H0 B H σ sl) (hi : sl[i]? = some (.ow xs)) (hp : σ[i]? = some (some (.ref p))) (h3 : DenL K B ys us) :
    SD K B0 H0 B (upd H p (.lst us)) σ (sl.set i (.ow ys)) := by
  obtain ⟨q, vs, e1, e2, e3, e4, e5⟩ := s.ow i xs hi
  rw [hp] at e1
  cases e1
  have hl : i < sl.length := (List.getElem?_eq_some_iff.mp hi).1
  have nb : ∀ a o, B a = some o → a ≠ p := fun a o h z => by
    rw [z, e3] at h
    cases h
  have at_ : ∀ (j : Nat) (x : Sl), (sl.set i (.ow ys))[j]? = some x → (j = i ∧ x = .ow ys) ∨ (j ≠ i ∧ sl[j]? = some x) := fun j x e => by
    by_cases z : j = i
    · subst z
      rw [List.getElem?_set_self hl] at e
      exact .inl ⟨rfl, (Option.some.inj e).symm⟩
    · rw [List.getElem?_set_ne (Ne.symm z)] at e
      exact .inr ⟨z, e⟩
  refine ⟨⟨s.gr.eb, fun a o h => ?_, fun a o h => ?_, s.gr.out⟩, by simpa using s.len, fun j d' e => ?_, fun j zs e => ?_, fun j p0 C ns ds e => ?_, fun j k zs ws r f1 f2 f3 f4 => ?_, fun j d' e => ?_⟩
  · rw [upd_ne (ne_of_none h e2)]
    exact s.gr.eh a o h
  · rw [upd_ne (nb a o h)]
    exact s.gr.sub a o h
  · rcases at_ j _ e with ⟨_, z⟩ | ⟨_, z⟩
    · cases z
    · exact s.fz j _ z
  · rcases at_ j _ e with ⟨a, z⟩ | ⟨a, z⟩
    · cases z
      subst a
      exact ⟨p, us, hp, e2, e3, upd_same, h3⟩
    · obtain ⟨r, ws, f1, f2, f3, f4, f5⟩ := s.ow j zs z
      refine ⟨r, ws, f1, f2, f3, ?_, f5⟩
      rw [upd_ne]
      · exact f4
      · rintro rfl
        exact a (s.ap j i zs xs r z hi f1 hp)
  · rcases at_ j _ e with ⟨_, z⟩ | ⟨_, z⟩
    · cases z
    · obtain ⟨r, dx, ws, f1, f2, f3, f4, f6, f5⟩ := s.ob j _ _ _ _ z
      refine ⟨r, dx, ws, f1, f2, f3, ?_, f6, f5⟩
      rw [upd_ne]
      · exact f4
      · rintro rfl
        rw [e4] at f4
        cases f4
  · have g1 : ∃ xs', sl[j]? = some (.ow xs') := by
      rcases at_ j _ f1 with ⟨a, _⟩ | ⟨_, z⟩
      · exact ⟨xs, by rw [a]; exact hi⟩
      · exact ⟨zs, z⟩
    have g2 : ∃ xs', sl[k]? = some (.ow xs') := by
      rcases at_ k _ f2 with ⟨a, _⟩ | ⟨_, z⟩
      · exact ⟨xs, by rw [a]; exact hi⟩
      · exact ⟨ws, z⟩
    obtain ⟨x1, g1⟩ := g1
    obtain ⟨x2, g2⟩ := g2
    exact s.ap j k x1 x2 r g1 g2 f3 f4
  · rcases at_ j _ e with ⟨_, z⟩ | ⟨_, z⟩
    · cases z
    · obtain ⟨v', N, g1, g2, g3, g4, g5, g6⟩ := s.rg j _ z
      refine ⟨v', N, g1, g2, g3, fun a o h => ?_, g5, fun k x q f1 f2 f3 => ?_⟩
      · have np : N p = none := g6 i _ p hi rfl hp
        rw [upd_ne (ne_of_none h np)]
        exact g4 a o h
      · rcases at_ k _ f1 with ⟨a, _⟩ | ⟨_, w⟩
        · subst a
          exact g6 k _ q hi rfl f3
        · exact g6 k x q w f2 f3
/-- one's own list becomes data -/
theorem SD.fix {i : Nat} {xs : List D} (s : SD K B0 H0 B H σ sl) (hi : sl[i]? = some (.ow xs)) : ∃ B', Ex B B' ∧ SD K B0 H0 B' H σ (sl.set i (.fz (.lst xs))) := by
  obtain ⟨p, vs, e1, e2, e3, e4, e5⟩ := s.ow i xs hi
  have hl : i < sl.length := (List.getElem?_eq_some_iff.mp hi).1
  refine ⟨upd B p (.lst vs), Ex.new e3, ?_⟩
  have at_ : ∀ (j : Nat) (x : Sl), (sl.set i (.fz (.lst xs)))[j]? = some x → (j = i ∧ x = .fz (.lst xs)) ∨ (j ≠ i ∧ sl[j]? = some x) := fun j x e => by
    by_cases z : j = i
    · subst z
      rw [List.getElem?_set_self hl] at e
      exact .inl ⟨rfl, (Option.some.inj e).symm⟩
    · rw [List.getElem?_set_ne (Ne.symm z)] at e
      exact .inr ⟨z, e⟩
  refine ⟨⟨s.gr.eb.trans (Ex.new e3), s.gr.eh, fun a o h => ?_, fun q h1 h2 => ?_⟩, by simpa using s.len, fun j d' e => ?_, fun j zs e => ?_, fun j p0 C ns ds e => ?_, fun j k zs ws r f1 f2 f3 f4 => ?_, fun j d' e => ?_⟩
  · by_cases z : a = p
    · subst z
      rw [upd_same] at h
      cases h
      exact e4
    · rw [upd_ne z] at h
      exact s.gr.sub a o h
  · rw [upd_ne]
    · exact s.gr.out q h1 h2
    · rintro rfl
      exact h2 e2
  · rcases at_ j _ e with ⟨a, z⟩ | ⟨_, z⟩
    · cases z
      subst a
      exact ⟨_, e1, mk_lst upd_same (denL_mono (Ex.new e3) e5)⟩
    · obtain ⟨v, f1, f2⟩ := s.fz j _ z
      exact ⟨v, f1, den_mono (Ex.new e3) f2⟩
  · rcases at_ j _ e with ⟨a, z⟩ | ⟨a, z⟩
    · cases z
    · obtain ⟨r, ws, f1, f2, f3, f4, f5⟩ := s.ow j zs z
      refine ⟨r, ws, f1, f2, ?_, f4, denL_mono (Ex.new e3) f5⟩
      rw [upd_ne]
      · exact f3
      · rintro rfl
        exact a (s.ap j i zs xs r z hi f1 e1)
  · rcases at_ j _ e with ⟨_, z⟩ | ⟨_, z⟩
    · cases z
    · obtain ⟨r, dx, ws, f1, f2, f3, f4, f6, f5⟩ := s.ob j _ _ _ _ z
      obtain ⟨N, n1, n2, n3⟩ := f5
      refine ⟨r, dx, ws, f1, f2, ?_, f4, f6, N, n1.trans (Ex.new e3), n2, n3⟩
      rw [upd_ne]
      · exact f3
      · rintro rfl
        rw [e4] at f4
        cases f4
  · rcases at_ j _ f1 with ⟨_, z⟩ | ⟨_, z1⟩
    · cases z
    · rcases at_ k _ f2 with ⟨_, z⟩ | ⟨_, z2⟩
      · cases z
      · exact s.ap j k zs ws r z1 z2 f3 f4
  · rcases at_ j _ e with ⟨_, z⟩ | ⟨_, z⟩
    · cases z
    · obtain ⟨v', N, g1, g2, g3, g4, g5, g6⟩ := s.rg j _ z
      refine ⟨v', N, g1, g2, fun a o h => ?_, g4, g5, fun k x q f1 f2 f3 => ?_⟩
      · rw [upd_ne (ne_of_none h (g6 i _ p hi rfl e1))]
        exact g3 a o h
      · rcases at_ k _ f1 with ⟨_, z⟩ | ⟨_, w⟩
        · rw [z] at f2
          cases f2
        · exact g6 k x q w f2 f3
end
end Wv
namespace Wv
open PySem L2
open Evl (Ex fresh_back ex_l)

/-! ### what evaluates to what -/
def EvR (K : PySem.W.Frag) (E : XK) (te : TE) (sl : List Sl) (r : Rs) : Prop := ∀ B0 H0 B H σ, SD K B0 H0 B H σ sl → ∀ Q : VK, Post K E B H Q r → te σ H Q
def EvT (K : PySem.W.Frag) (tt : TT) (sl : List Sl) (b : Bool) : Prop := ∀ B0 H0 B H σ, SD K B0 H0 B H σ sl → ∀ Q : Bool → Hp → Prop, (∀ B' H', Gr B H B' H' → Q b H') → tt σ H Q
def EvA (K : PySem.W.Frag) (ta : TA) (sl : List Sl) (ds : List D) : Prop := ∀ B0 H0 B H σ, SD K B0 H0 B H σ sl → ∀ Q : List V → Hp → Prop, (∀ vs B' H', Gr B H B' H' → DenL K B' ds vs → Q vs H') → ta σ H Q
def EvO (K : PySem.W.Frag) (to : TO) (sl : List Sl) (o : Option Int) : Prop := ∀ B0 H0 B H σ, SD K B0 H0 B H σ sl → ∀ Q : Option Int → Hp → Prop, (∀ B' H', Gr B H B' H' → Q o H') → to σ H Q
def OpD (K : PySem.W.Frag) (r : R2) (x y : D) (z : Rs) : Prop := ∀ B H vx vy, Ex B H → Den K B x vx → Den K B y vy → ∀ (E : XK) (Q : VK), Post K E B H Q z → r vx vy H Q
def UnD (K : PySem.W.Frag) (r : V → Hp → VK → Prop) (x : D) (z : Rs) : Prop := ∀ B H vx, Ex B H → Den K B x vx → ∀ (E : XK) (Q : VK), Post K E B H Q z → r vx H Q
/-- a built-in by its arguments -/
def CbD (K : PySem.W.Frag) (r : List V → Hp → VK → Prop) (ds : List D) (z : Rs) : Prop := ∀ B H vs, Ex B H → DenL K B ds vs → ∀ (E : XK) (Q : VK), Post K E B H Q z → r vs H Q
/-- a built-in method -/
def MtD (K : PySem.W.Frag) (T : String) (r : V → List V → Hp → VK → Prop) (x : D) (ds : List D) (z : Rs) : Prop := ∀ B H v vs, Ex B H → Den K B x v → DenL K B ds vs → ∀ (E : XK) (Q : VK), Post K E B H Q z → tyV K T v H ∧ r v vs H Q
section
variable {K : PySem.W.Frag} {E E' : XK} {B0 H0 B H B' H' : Hp} {σ : L2.St} {sl : List Sl} {ta tb tc te : TE} {t u : TT} {x y z d : D} {xs ys ds : List D} {r r' : R2} {s : Rs} {tr : TA}
theorem post_v {v : V} {Q : VK} (g : Ex B H) (h : Post K E B H Q (.dat d)) (dv : Den K B d v) : Q v H := h v B H (Gr.refl g) dv
theorem EvR.fz (h : EvR K E te sl (.new xs)) : EvR K E te sl (.dat (.lst xs)) := fun B0 H0 B H σ s Q q => h B0 H0 B H σ s Q fun p vs B' H' g h0 h1 h2 h3 =>
  q _ _ _ (g.fz s.sub h0 h1 h2) (mk_lst upd_same (denL_mono (ex_upd h1) h3))
/-- the data of new objects is data -/
theorem EvR.ofF (h : EvR K E te sl (.frs d)) : EvR K E te sl (.dat d) := fun B0 H0 B H σ s Q q => h B0 H0 B H σ s Q fun v N B' H' g e n dv => q v B' H' g (den_mono e dv)
theorem ev_isF (h : EvR K E te sl (.frs d)) (e : d = x) : EvR K E te sl (.frs x) := by
  rw [← e]
  exact h
/-- what holds no address -/
def sca : D → Bool
  | .non => true | .bl _ => true | .int _ => true | .str _ => true | .ty _ => true | .fn _ => true | _ => false
theorem den_sca (h : sca d = true) {v : V} (e : Den K H d v) : Den K B d v := by
  cases d with
  | non => rw [den_non e]; exact mk_non
  | bl b => rw [den_bl e]; exact mk_bl b
  | int b => rw [den_int e]; exact mk_int b
  | str b => rw [den_str e]; exact mk_str b
  | ty b => simpa only [Den] using e
  | fn b => rw [den_fn e]; exact mk_fn b
  | _ => cases h
theorem denL_sca : ∀ {ds : List D} {vs : List V}, (∀ d ∈ ds, sca d = true) → DenL K H ds vs → DenL K B ds vs
  | [], _, _, h => by
    rw [denL_inv0 h]
    exact denL_nil
  | d :: ds, vs, hs, h => by
    obtain ⟨v, r, rfl, h2, h3⟩ := denL_inv h
    exact denL_cons (den_sca (hs d List.mem_cons_self) h2) (denL_sca (fun d hd => hs d (List.mem_cons_of_mem _ hd)) h3)
theorem EvR.frsS (h : EvR K E te sl (.dat d)) (hs : sca d = true) : EvR K E te sl (.frs d) := fun B0 H0 B H σ s Q q => h B0 H0 B H σ s Q fun v B' H' g dv =>
  q v (fun _ => none) B' H' g (fun _ _ z => nomatch z) (fun _ _ z => nomatch z) (den_sca hs dv)
theorem EvR.frsL (h : EvR K E te sl (.new xs)) (hs : ∀ d ∈ xs, sca d = true) : EvR K E te sl (.frs (.lst xs)) := fun B0 H0 B H σ s Q q => h B0 H0 B H σ s Q fun p vs B' H' g h0 h1 h2 h3 => by
  refine q (.ref p) (upd (fun _ => none) p (.lst vs)) _ _ (g.fz s.sub h0 h1 h2) (fun a o z => ?_) (fun a o z => ?_) (mk_lst upd_same (denL_sca hs h3))
  · by_cases e : a = p
    · subst e
      rw [upd_same] at z ⊢
      exact z
    · rw [upd_ne e] at z
      cases z
  · by_cases e : a = p
    · rw [e]
      exact h0
    · rw [upd_ne e] at z
      cases z
theorem ev_is (h : EvR K E te sl (.dat d)) (e : d = x) : EvR K E te sl (.dat x) := by
  rw [← e]
  exact h
theorem ev_isN (h : EvR K E te sl (.new xs)) (e : xs = ys) : EvR K E te sl (.new ys) := by
  rw [← e]
  exact h
theorem et_is {a b : Bool} (h : EvT K t sl a) (e : a = b) : EvT K t sl b := by
  rw [← e]
  exact h
theorem ev_var {i : Nat} (h : sl[i]? = some (.fz d)) : EvR K E (tVar i) sl (.dat d) := fun B0 H0 B H σ s Q q => by
  obtain ⟨v, h1, h2⟩ := s.fz i d h
  exact ⟨v, h1, post_v s.sub q h2⟩
theorem ev_int {i : Int} : EvR K E (tC (.int i)) sl (.dat (.int i)) := fun B0 H0 B H σ s Q q => post_v s.sub q (mk_int i)
theorem ev_bl {i : Bool} : EvR K E (tC (.bl i)) sl (.dat (.bl i)) := fun B0 H0 B H σ s Q q => post_v s.sub q (mk_bl i)
theorem ev_str {i : Str} : EvR K E (tC (.str i)) sl (.dat (.str i)) := fun B0 H0 B H σ s Q q => post_v s.sub q (mk_str i)
theorem ev_non : EvR K E (tC .non) sl (.dat .non) := fun B0 H0 B H σ s Q q => post_v s.sub q mk_non
theorem ev_fn {a : Addr} : EvR K E (tC (.ref a)) sl (.dat (.fn a)) := fun B0 H0 B H σ s Q q => post_v s.sub q (mk_fn a)
theorem ev_ty {a : String} : EvR K E (tC (.ty a)) sl (.dat (.ty a)) := fun B0 H0 B H σ s Q q => post_v s.sub q (mk_ty a)
theorem ev_op (ha : EvR K E ta sl (.dat x)) (hb : EvR K E tb sl (.dat y)) (ho : OpD K r x y s) : EvR K E (tOp r ta tb) sl s := fun B0 H0 B H σ sd Q q =>
  ha B0 H0 B H σ sd _ fun v B1 H1 g1 d1 => hb B0 H0 B1 H1 σ (sd.grow g1) _ fun w B2 H2 g2 d2 => ho B2 H2 v w g2.sub (den_mono g2.eb d1) d2 E Q ((q.shift g1).shift g2)
theorem ev_un {f : V → Hp → VK → Prop} (ha : EvR K E ta sl (.dat x)) (ho : UnD K f x s) : EvR K E (tUn f ta) sl s := fun B0 H0 B H σ sd Q q =>
  ha B0 H0 B H σ sd _ fun v B1 H1 g1 d1 => ho B1 H1 v g1.sub d1 E Q (q.shift g1)
/-! operators -/
theorem od_i {g : Int → Int → Int} {i j : Int} : OpD K (rI0 fun i j => .int (g i j)) (.int i) (.int j) (.dat (.int (g i j))) := fun B H vx vy e dx dy E Q q => by
  rw [den_int dx, den_int dy]
  exact ⟨i, j, rfl, rfl, post_v e q (mk_int _)⟩
theorem od_b {g : Int → Int → Bool} {i j : Int} : OpD K (rI0 fun i j => .bl (g i j)) (.int i) (.int j) (.dat (.bl (g i j))) := fun B H vx vy e dx dy E Q q => by
  rw [den_int dx, den_int dy]
  exact ⟨i, j, rfl, rfl, post_v e q (mk_bl _)⟩
theorem od_ic {C : Int → Int → Prop} {g : Int → Int → Int} {i j : Int} (hc : C i j) : OpD K (rI C fun i j => .int (g i j)) (.int i) (.int j) (.dat (.int (g i j))) := fun B H vx vy e dx dy E Q q => by
  rw [den_int dx, den_int dy]
  exact ⟨i, j, rfl, rfl, hc, post_v e q (mk_int _)⟩
theorem ud_i {g : Int → Int} {i : Int} : UnD K (rU fun i => .int (g i)) (.int i) (.dat (.int (g i))) := fun B H vx e dx E Q q => by
  rw [den_int dx]
  exact ⟨i, rfl, post_v e q (mk_int _)⟩
theorem od_eqI {i j : Int} : OpD K rEq (.int i) (.int j) (.dat (.bl (decide (i = j)))) := fun B H vx vy e dx dy E Q q => by
  rw [den_int dx, den_int dy]
  refine ⟨rfl, post_v e q ?_⟩
  rw [show decide (V.int i = V.int j) = decide (i = j) by simp]
  exact mk_bl _
theorem od_neI {i j : Int} : OpD K rNe (.int i) (.int j) (.dat (.bl (!decide (i = j)))) := fun B H vx vy e dx dy E Q q => by
  rw [den_int dx, den_int dy]
  refine ⟨rfl, post_v e q ?_⟩
  rw [show decide (V.int i = V.int j) = decide (i = j) by simp]
  exact mk_bl _
theorem od_eqB {i j : Bool} : OpD K rEq (.bl i) (.bl j) (.dat (.bl (decide (i = j)))) := fun B H vx vy e dx dy E Q q => by
  rw [den_bl dx, den_bl dy]
  refine ⟨rfl, post_v e q ?_⟩
  rw [show decide (V.bl i = V.bl j) = decide (i = j) by simp]
  exact mk_bl _
theorem od_neB {i j : Bool} : OpD K rNe (.bl i) (.bl j) (.dat (.bl (!decide (i = j)))) := fun B H vx vy e dx dy E Q q => by
  rw [den_bl dx, den_bl dy]
  refine ⟨rfl, post_v e q ?_⟩
  rw [show decide (V.bl i = V.bl j) = decide (i = j) by simp]
  exact mk_bl _
theorem od_eqS {i j : Str} : OpD K rEq (.str i) (.str j) (.dat (.bl (decide (i = j)))) := fun B H vx vy e dx dy E Q q => by
  rw [den_str dx, den_str dy]
  refine ⟨rfl, post_v e q ?_⟩
  rw [show decide (V.str i = V.str j) = decide (i = j) by simp]
  exact mk_bl _
theorem od_neS {i j : Str} : OpD K rNe (.str i) (.str j) (.dat (.bl (!decide (i = j)))) := fun B H vx vy e dx dy E Q q => by
  rw [den_str dx, den_str dy]
  refine ⟨rfl, post_v e q ?_⟩
  rw [show decide (V.str i = V.str j) = decide (i = j) by simp]
  exact mk_bl _
/-! an item -/
theorem atI_of {α : Type} {xs : List α} {i : Int} {v : α} (h0 : 0 ≤ i) (h : xs[i.toNat]? = some v) : atI xs i = some v := by
  have e : i = ((i.toNat : Nat) : Int) := by omega
  rw [e]
  exact atI_nat h
theorem od_ixL {i : Int} (h0 : 0 ≤ i) (h : xs[i.toNat]? = some d) : OpD K (rIxL K) (.lst xs) (.int i) (.dat d) := fun B H vx vy e dx dy E Q q => by
  obtain ⟨a, vs, rfl, h1, h2⟩ := den_lst dx
  rw [den_int dy]
  obtain ⟨v, h3, h4⟩ := denL_get h2 h
  exact ⟨a, vs, i, v, rfl, rfl, SqL.of (e a _ h1), atI_of h0 h3, post_v e q h4⟩
theorem od_ixT {i : Int} (h0 : 0 ≤ i) (h : xs[i.toNat]? = some d) : OpD K (rIxT K) (.tup xs) (.int i) (.dat d) := fun B H vx vy e dx dy E Q q => by
  obtain ⟨a, vs, rfl, h1, h2⟩ := den_tup dx
  rw [den_int dy]
  obtain ⟨v, h3, h4⟩ := denL_get h2 h
  exact ⟨a, vs, i, v, rfl, rfl, SqT.of (e a _ h1), atI_of h0 h3, post_v e q h4⟩
theorem od_ixR {ns : List Int} {i j : Int} (h0 : 0 ≤ i) (h : ns[i.toNat]? = some j) : OpD K (rIxL K) (.scr ns) (.int i) (.dat (.int j)) := fun B H vx vy e dx dy E Q q => by
  obtain ⟨a, rfl, h1⟩ := den_scr dx
  rw [den_int dy]
  exact ⟨a, _, i, .int j, rfl, rfl, ex_l e h1, atI_of h0 (by rw [List.getElem?_map, h]; rfl), post_v e q (mk_int j)⟩
/-! lists joined -/
theorem od_cat (hz : xs.length + ys.length ≤ sizeLine) : OpD K rCat (.lst xs) (.lst ys) (.new (xs ++ ys)) := fun B H vx vy e dx dy E Q q => by
  obtain ⟨a, vs, rfl, h1, h2⟩ := den_lst dx
  obtain ⟨b, us, rfl, h3, h4⟩ := den_lst dy
  exact ⟨a, b, vs, us, rfl, rfl, e a _ h1, e b _ h3, by rw [← denL_len h2, ← denL_len h4]; exact hz, fun p hp => q p _ _ _ (Gr.lay e hp) hp (fresh_back e hp) upd_same (denL_app h2 h4)⟩
/-! membership of scalars -/
def flatD : D → Bool
  | .non => true | .bl _ => true | .int _ => true | .str _ => true | _ => false
def inI (i : Int) (ns : List Int) : Bool := ns.any fun y => decide (y = i)
theorem inV_ints (i : Int) : ∀ ns : List Int, inV (.int i) (ns.map V.int) = decide (i ∈ ns)
  | [] => by simp [inV]
  | n :: ns => by
    have ih := inV_ints i ns
    unfold inV at ih ⊢
    rw [List.map_cons, List.any_cons, ih]
    have e : eqV (.int n) (.int i) = decide (n = i) := by
      first
        | rfl
        | (unfold eqV; simp)
        | simp [eqV]
    rw [e, Bool.eq_iff_iff]
    simp only [Bool.or_eq_true, decide_eq_true_eq, List.mem_cons]
    exact ⟨fun h => h.imp Eq.symm id, fun h => h.imp Eq.symm id⟩
theorem od_inI {neg : Bool} {i : Int} {ns : List Int} : OpD K (rIn K neg) (.int i) (.lst (ns.map D.int)) (.dat (.bl (if neg then !decide (i ∈ ns) else decide (i ∈ ns)))) := fun B H vx vy e dx dy E Q q => by
  obtain ⟨a, vs, rfl, h1, h2⟩ := den_lst dy
  rw [den_int dx]
  have e1 := denL_ints h2
  subst e1
  refine ⟨a, _, rfl, .inl (SqL.of (e a _ h1)), rfl, by simp [flatV], ?_⟩
  rw [inV_ints]
  exact post_v e q (mk_bl _)
/-! == of lists of ints, of truths, of texts, of lists of ints -/
theorem dp_ints : ∀ ns : List Int, DpAll K H (ns.map V.int) (ns.map PyData.int)
  | [] => .nil
  | n :: ns => .cons (.int n) (dp_ints ns)
theorem dp_bls : ∀ ns : List Bool, DpAll K H (ns.map V.bl) (ns.map PyData.bool)
  | [] => .nil
  | n :: ns => .cons (.bl n) (dp_bls ns)
theorem lay_ints : ∀ ns : List Int, PyData.canLayAll0 (ns.map PyData.int) = true
  | [] => by simp [PyData.canLayAll0]
  | n :: ns => by simp [PyData.canLayAll0, PyData.canLay0, lay_ints ns]
theorem dep_ints : ∀ ns : List Int, PyData.depthAll (ns.map PyData.int) = 0
  | [] => by simp [PyData.depthAll]
  | n :: ns => by simp [PyData.depthAll, PyData.depth, dep_ints ns]
theorem lay_bls : ∀ ns : List Bool, PyData.canLayAll0 (ns.map PyData.bool) = true
  | [] => by simp [PyData.canLayAll0]
  | n :: ns => by simp [PyData.canLayAll0, PyData.canLay0, lay_bls ns]
theorem dep_bls : ∀ ns : List Bool, PyData.depthAll (ns.map PyData.bool) = 0
  | [] => by simp [PyData.depthAll]
  | n :: ns => by simp [PyData.depthAll, PyData.depth, dep_bls ns]
theorem sh_ints (ns : List Int) : SeqAt.shaped (.list (ns.map PyData.int)) = true := by
  unfold SeqAt.shaped
  simp [PyData.canLay0, PyData.depth, lay_ints, dep_ints]
theorem sh_bls (ns : List Bool) : SeqAt.shaped (.list (ns.map PyData.bool)) = true := by
  unfold SeqAt.shaped
  simp [PyData.canLay0, PyData.depth, lay_bls, dep_bls]
theorem eqv_ints : ∀ ns ms : List Int, PyData.eqvAll (ns.map PyData.int) (ms.map PyData.int) = decide (ns = ms)
  | [], [] => by simp [PyData.eqvAll]
  | [], _ :: _ => by simp [PyData.eqvAll]
  | _ :: _, [] => by simp [PyData.eqvAll]
  | n :: ns, m :: ms => by
    simp only [List.map_cons, PyData.eqvAll, PyData.eqv, eqv_ints ns ms]
    rw [Bool.eq_iff_iff]
    simp
theorem eqv_bls : ∀ ns ms : List Bool, PyData.eqvAll (ns.map PyData.bool) (ms.map PyData.bool) = decide (ns = ms)
  | [], [] => by simp [PyData.eqvAll]
  | [], _ :: _ => by simp [PyData.eqvAll]
  | _ :: _, [] => by simp [PyData.eqvAll]
  | n :: ns, m :: ms => by
    simp only [List.map_cons, PyData.eqvAll, PyData.eqv, eqv_bls ns ms]
    rw [Bool.eq_iff_iff]
    simp
theorem od_eqL {ns ms : List Int} : OpD K (rEqD K) (.lst (ns.map D.int)) (.lst (ms.map D.int)) (.dat (.bl (decide (ns = ms)))) := fun B H vx vy e dx dy E Q q => by
  obtain ⟨a, vs, rfl, h1, h2⟩ := den_lst dx
  obtain ⟨b, us, rfl, h3, h4⟩ := den_lst dy
  rw [denL_ints h2] at h1
  rw [denL_ints h4] at h3
  refine ⟨_, _, .lst (SqL.of (e a _ h1)) (dp_ints ns), .lst (SqL.of (e b _ h3)) (dp_ints ms), sh_ints ns, sh_ints ms, ?_⟩
  simp only [PyData.eqv, eqv_ints]
  exact post_v e q (mk_bl _)
theorem od_neL {ns ms : List Int} : OpD K (rNeD K) (.lst (ns.map D.int)) (.lst (ms.map D.int)) (.dat (.bl (!decide (ns = ms)))) := fun B H vx vy e dx dy E Q q => by
  obtain ⟨a, vs, rfl, h1, h2⟩ := den_lst dx
  obtain ⟨b, us, rfl, h3, h4⟩ := den_lst dy
  rw [denL_ints h2] at h1
  rw [denL_ints h4] at h3
  refine ⟨_, _, .lst (SqL.of (e a _ h1)) (dp_ints ns), .lst (SqL.of (e b _ h3)) (dp_ints ms), sh_ints ns, sh_ints ms, ?_⟩
  simp only [PyData.eqv, eqv_ints]
  exact post_v e q (mk_bl _)
theorem od_eqLb {ns ms : List Bool} : OpD K (rEqD K) (.lst (ns.map D.bl)) (.lst (ms.map D.bl)) (.dat (.bl (decide (ns = ms)))) := fun B H vx vy e dx dy E Q q => by
  obtain ⟨a, vs, rfl, h1, h2⟩ := den_lst dx
  obtain ⟨b, us, rfl, h3, h4⟩ := den_lst dy
  rw [denL_bls h2] at h1
  rw [denL_bls h4] at h3
  refine ⟨_, _, .lst (SqL.of (e a _ h1)) (dp_bls ns), .lst (SqL.of (e b _ h3)) (dp_bls ms), sh_bls ns, sh_bls ms, ?_⟩
  simp only [PyData.eqv, eqv_bls]
  exact post_v e q (mk_bl _)
/-! chains -/
theorem ev_chain {a b : Bool} (ha : EvR K E ta sl (.dat x)) (hb : EvR K E tb sl (.dat y)) (hc : EvR K E tc sl (.dat z)) (h1 : OpD K r x y (.dat (.bl a))) (h2 : OpD K r' y z (.dat (.bl b))) : EvR K E (tChain r r' ta tb tc) sl (.dat (.bl (a && b))) := fun B0 H0 B H σ sd Q q =>
  ha B0 H0 B H σ sd _ fun v B1 H1 g1 d1 => hb B0 H0 B1 H1 σ (sd.grow g1) _ fun w B2 H2 g2 d2 => h1 B2 H2 v w g2.sub (den_mono g2.eb d1) d2 E _ fun k B3 H3 g3 d3 => by
    rw [den_bl d3]
    refine ⟨a, rfl, ?_⟩
    cases a with
    | true =>
      rw [if_pos rfl]
      exact hc B0 H0 B3 H3 σ (((sd.grow g1).grow g2).grow g3) _ fun u B4 H4 g4 d4 => h2 B4 H4 w u g4.sub (den_mono (g3.eb.trans g4.eb) d2) d4 E Q (((q.shift g1).shift g2).shift g3 |>.shift g4)
    | false =>
      rw [if_neg Bool.false_ne_true]
      exact post_v g3.sub (((q.shift g1).shift g2).shift g3) (mk_bl _)
/-! tests -/
theorem et_test {b : Bool} (h : EvR K E0 te sl (.dat (.bl b))) : EvT K (tTest te) sl b := fun B0 H0 B H σ sd Q q => h B0 H0 B H σ sd _ fun v B1 H1 g1 d1 => ⟨b, den_bl d1, q _ _ g1⟩
theorem et_B {b : Bool} (h : EvR K E0 te sl (.dat (.bl b))) : EvT K (tB te) sl b := fun B0 H0 B H σ sd Q q => h B0 H0 B H σ sd _ fun v B1 H1 g1 d1 => ⟨b, den_bl d1, q _ _ g1⟩
theorem et_yes : EvT K tYes sl true := fun B0 H0 B H σ sd Q q => q B H (Gr.refl sd.sub)
theorem et_and {a b : Bool} (h1 : EvT K t sl a) (h2 : a = true → EvT K u sl b) : EvT K (tAnd t u) sl (a && b) := fun B0 H0 B H σ sd Q q => h1 B0 H0 B H σ sd _ fun B1 H1 g1 => by
  cases a with
  | true =>
    rw [if_pos rfl]
    exact h2 rfl B0 H0 B1 H1 σ (sd.grow g1) Q fun B2 H2 g2 => q _ _ (g1.trans g2)
  | false =>
    rw [if_neg Bool.false_ne_true]
    exact q _ _ g1
theorem et_or {a b : Bool} (h1 : EvT K t sl a) (h2 : a = false → EvT K u sl b) : EvT K (tOr t u) sl (a || b) := fun B0 H0 B H σ sd Q q => h1 B0 H0 B H σ sd _ fun B1 H1 g1 => by
  cases a with
  | true =>
    rw [if_pos rfl]
    exact q _ _ g1
  | false =>
    rw [if_neg Bool.false_ne_true]
    exact h2 rfl B0 H0 B1 H1 σ (sd.grow g1) Q fun B2 H2 g2 => q _ _ (g1.trans g2)
theorem et_not {a : Bool} (h1 : EvT K t sl a) : EvT K (tNot t) sl (!a) := fun B0 H0 B H σ sd Q q => h1 B0 H0 B H σ sd _ fun B1 H1 g1 => q _ _ g1
theorem ev_andV {a b : Bool} (h1 : EvR K E ta sl (.dat (.bl a))) (h2 : a = true → EvR K E tb sl (.dat (.bl b))) : EvR K E (tAndV ta tb) sl (.dat (.bl (a && b))) := fun B0 H0 B H σ sd Q q => h1 B0 H0 B H σ sd _ fun v B1 H1 g1 d1 => ⟨a, den_bl d1, by
  cases a with
  | true =>
    rw [if_pos rfl]
    exact h2 rfl B0 H0 B1 H1 σ (sd.grow g1) Q (q.shift g1)
  | false =>
    rw [if_neg Bool.false_ne_true]
    exact post_v g1.sub (q.shift g1) (mk_bl _)⟩
theorem ev_orV {a b : Bool} (h1 : EvR K E ta sl (.dat (.bl a))) (h2 : a = false → EvR K E tb sl (.dat (.bl b))) : EvR K E (tOrV ta tb) sl (.dat (.bl (a || b))) := fun B0 H0 B H σ sd Q q => h1 B0 H0 B H σ sd _ fun v B1 H1 g1 d1 => ⟨a, den_bl d1, by
  cases a with
  | true =>
    rw [if_pos rfl]
    exact post_v g1.sub (q.shift g1) (mk_bl _)
  | false =>
    rw [if_neg Bool.false_ne_true]
    exact h2 rfl B0 H0 B1 H1 σ (sd.grow g1) Q (q.shift g1)⟩
theorem ev_notV {a : Bool} (h1 : EvR K E ta sl (.dat (.bl a))) : EvR K E (tNotV ta) sl (.dat (.bl (!a))) := fun B0 H0 B H σ sd Q q => h1 B0 H0 B H σ sd _ fun v B1 H1 g1 d1 => ⟨a, den_bl d1, post_v g1.sub (q.shift g1) (mk_bl _)⟩
theorem ev_if {b : Bool} {s1 : Rs} (h : EvT K t sl b) (h1 : b = true → EvR K E ta sl s1) (h2 : b = false → EvR K E tb sl s1) : EvR K E (tIf t ta tb) sl s1 := fun B0 H0 B H σ sd Q q => h B0 H0 B H σ sd _ fun B1 H1 g1 => by
  cases b with
  | true =>
    rw [if_pos rfl]
    exact h1 rfl B0 H0 B1 H1 σ (sd.grow g1) Q (q.shift g1)
  | false =>
    rw [if_neg Bool.false_ne_true]
    exact h2 rfl B0 H0 B1 H1 σ (sd.grow g1) Q (q.shift g1)
/-! arguments -/
theorem ea_nil : EvA K tNil sl [] := fun B0 H0 B H σ sd Q q => q [] B H (Gr.refl sd.sub) denL_nil
theorem ea_cons (h : EvR K E0 ta sl (.dat x)) (hr : EvA K tr sl ds) : EvA K (tCons ta tr) sl (x :: ds) := fun B0 H0 B H σ sd Q q =>
  h B0 H0 B H σ sd _ fun v B1 H1 g1 d1 => hr B0 H0 B1 H1 σ (sd.grow g1) _ fun vs B2 H2 g2 d2 => q _ _ _ (g1.trans g2) (denL_cons (den_mono g2.eb d1) d2)
theorem ev_tup (h : EvA K tr sl ds) (hl : ds.length ≤ sizeLine) : EvR K E (tTup tr) sl (.dat (.tup ds)) := fun B0 H0 B H σ sd Q q =>
  h B0 H0 B H σ sd _ fun vs B1 H1 g1 d1 => ⟨by rw [← denL_len d1]; exact hl, fun p hp => q _ _ _ (g1.trans (Gr.layB g1.sub hp)) (mk_tup upd_same (denL_mono (ex_upd (fresh_back g1.sub hp)) d1))⟩
theorem ev_lst (h : EvA K tr sl ds) (hl : ds.length ≤ sizeLine) : EvR K E (tLst tr) sl (.new ds) := fun B0 H0 B H σ sd Q q =>
  h B0 H0 B H σ sd _ fun vs B1 H1 g1 d1 => ⟨by rw [← denL_len d1]; exact hl, fun p hp => q p vs _ _ (g1.trans (Gr.lay g1.sub hp)) (g1.back hp) (fresh_back g1.sub hp) upd_same d1⟩
/-! fields -/
theorem lk_zip : ∀ {ns : List Str} {ds : List D} {vs : List V} {f : Str}, DenL K B ds vs → (ns.zip ds).lookup f = some d → ∃ v, (ns.zip vs).lookup f = some v ∧ Den K B d v
  | [], _, _, _, _, h => by simp at h
  | n :: ns, [], _, _, _, h => by simp at h
  | n :: ns, x :: ds, vs, f, hd, h => by
    obtain ⟨v, r, rfl, h2, h3⟩ := denL_inv hd
    rw [List.zip_cons_cons, List.lookup_cons] at h ⊢
    cases e : f == n with
    | true =>
      rw [e] at h
      cases h
      exact ⟨v, rfl, h2⟩
    | false =>
      rw [e] at h
      exact lk_zip h3 h
theorem ev_fld {C : Addr} {ns : List Str} {f : Str} (ha : EvR K E ta sl (.dat (.obj C ns ds))) (cl : Cls K C) (na : NoAttr K C f) (h : (ns.zip ds).lookup f = some d) : EvR K E (tFld K ta f) sl (.dat d) := fun B0 H0 B H σ sd Q q =>
  ha B0 H0 B H σ sd _ fun v B1 H1 g1 d1 => by
    obtain ⟨a, dx, vs, rfl, h1, _, h2⟩ := den_obj d1
    obtain ⟨u, h3, h4⟩ := lk_zip h2 h
    exact ⟨a, C, dx, _, u, rfl, g1.sub a _ h1, cl, na, h3, post_v g1.sub (q.shift g1) h4⟩
/-! calls -/
theorem sp_go {f : List D → Rs → Prop} {vs : List V} {Q : VK} (sd : Ex B H) (h : DenL K B ds vs) (hf : f ds s) (q : Post K E B H Q s) : SpR K f vs H Q E := ⟨B, ds, s, sd, h, hf, q⟩
theorem Post.any {Q : VK} (h : Post K E B H Q s) (hn : ∀ C, s ≠ .exc C) : Post K E' B H Q s := by
  cases s with
  | dat d => exact h
  | new xs => exact h
  | frs d => exact h
  | exc C => exact absurd rfl (hn C)
theorem ev_callG {f : List D → Rs → Prop} (ha : EvA K tr sl ds) (hf : f ds s) (hn : (∀ C, s ≠ .exc C) ∨ E = E') : EvR K E (tCall (SpR K f) [] E' tr) sl s := fun B0 H0 B H σ sd Q q =>
  ha B0 H0 B H σ sd _ fun vs B1 H1 g1 d1 => by
    rw [List.append_nil]
    rcases hn with z | z
    · exact sp_go g1.sub d1 hf ((q.shift g1).any z)
    · subst z
      exact sp_go g1.sub d1 hf (q.shift g1)
theorem ev_call {f : List D → Rs → Prop} (ha : EvA K tr sl ds) (hf : f ds (.dat d)) : EvR K E (tCall (SpR K f) [] E' tr) sl (.dat d) := ev_callG ha hf (.inl fun _ z => nomatch z)
theorem ev_callN {f : List D → Rs → Prop} (ha : EvA K tr sl ds) (hf : f ds (.new xs)) : EvR K E (tCall (SpR K f) [] E' tr) sl (.new xs) := ev_callG ha hf (.inl fun _ z => nomatch z)
theorem ev_callX {f : List D → Rs → Prop} {C : Addr} (ha : EvA K tr sl ds) (hf : f ds (.exc C)) : EvR K E (tCall (SpR K f) [] E tr) sl (.exc C) := ev_callG ha hf (.inr rfl)
theorem lk_zipN : ∀ {ns : List Str} {vs : List V} {f : Str}, f ∉ ns → (ns.zip vs).lookup f = none
  | [], _, _, _ => by simp
  | n :: ns, [], _, _ => by simp
  | n :: ns, x :: ds, f, h => by
    rw [List.zip_cons_cons, List.lookup_cons]
    have e : (f == n) = false := by
      rw [beq_eq_false_iff_ne]
      exact fun z => h (by rw [z]; exact List.mem_cons_self)
    rw [e]
    exact lk_zipN fun z => h (List.mem_cons_of_mem _ z)
theorem ev_methG {f : List D → Rs → Prop} {C : Addr} {ns : List Str} {xs : List D} {m : Str} (ho : EvR K E ta sl (.dat (.obj C ns xs))) (hm : m ∉ ns) (ha : EvA K tr sl ds) (hf : f (.obj C ns xs :: ds) s) (hn : (∀ C, s ≠ .exc C) ∨ E = E') : EvR K E (tMeth C m (SpR K f) [] E' ta tr) sl s := fun B0 H0 B H σ sd Q q =>
  ho B0 H0 B H σ sd _ fun v B1 H1 g1 d1 => by
    obtain ⟨a, dx, vs, rfl, h1, _, h2⟩ := den_obj d1
    refine ⟨a, dx, _, rfl, g1.sub a _ h1, lk_zipN hm, ha B0 H0 B1 H1 σ (sd.grow g1) _ fun us B2 H2 g2 d2 => ?_⟩
    rw [List.append_nil]
    rcases hn with z | z
    · exact sp_go g2.sub (denL_cons (den_mono g2.eb d1) d2) hf (((q.shift g1).shift g2).any z)
    · subst z
      exact sp_go g2.sub (denL_cons (den_mono g2.eb d1) d2) hf ((q.shift g1).shift g2)
theorem ev_meth {f : List D → Rs → Prop} {C : Addr} {ns : List Str} {xs : List D} {m : Str} (ho : EvR K E ta sl (.dat (.obj C ns xs))) (hm : m ∉ ns) (ha : EvA K tr sl ds) (hf : f (.obj C ns xs :: ds) (.dat d)) : EvR K E (tMeth C m (SpR K f) [] E' ta tr) sl (.dat d) := ev_methG ho hm ha hf (.inl fun _ z => nomatch z)
theorem ev_methN {f : List D → Rs → Prop} {C : Addr} {ns : List Str} {xs ys : List D} {m : Str} (ho : EvR K E ta sl (.dat (.obj C ns xs))) (hm : m ∉ ns) (ha : EvA K tr sl ds) (hf : f (.obj C ns xs :: ds) (.new ys)) : EvR K E (tMeth C m (SpR K f) [] E' ta tr) sl (.new ys) := ev_methG ho hm ha hf (.inl fun _ z => nomatch z)
theorem ev_methX {f : List D → Rs → Prop} {C C' : Addr} {ns : List Str} {xs : List D} {m : Str} (ho : EvR K E ta sl (.dat (.obj C ns xs))) (hm : m ∉ ns) (ha : EvA K tr sl ds) (hf : f (.obj C ns xs :: ds) (.exc C')) : EvR K E (tMeth C m (SpR K f) [] E ta tr) sl (.exc C') := ev_methG ho hm ha hf (.inr rfl)
/-! an object made: the __init__'s promise -/
inductive Ri where
  | ok (ns : List Str) (ds : List D) | exc (C : Addr)
def PostI (K : PySem.W.Frag) (E : XK) (C x dx : Addr) (B H : Hp) (Q : VK) : Ri → Prop
  | .ok ns ds => ∀ dx' vs B' H', Gr B H B' H' → B' x = none → H' x = some (.ins C dx' (ns.zip vs)) → ns.length = vs.length → (∃ N, Ex N B' ∧ New N H ∧ DenL K N ds vs) → Q .non H'
  | .exc C' => ∀ B' H', Gr B H B' H' → E (.ref C') none H'
/-- H: the heap without the new object -/
def SpI (K : PySem.W.Frag) (C : Addr) (f : List D → Ri → Prop) : Sp := fun us H1 Q E => ∃ B H x dx vs ds r, us = .ref x :: vs ∧ Ex B H ∧ H x = none ∧ H1 = upd H x (.ins C dx []) ∧ DenL K B ds vs ∧ f ds r ∧ PostI K E C x dx B H Q r
def Ri.rs (C : Addr) : Ri → Rs
  | .ok ns ds => .frs (.obj C ns ds) | .exc C' => .exc C'
theorem ev_makeG {f : List D → Ri → Prop} {C : Addr} {ri : Ri} (ha : EvA K tr sl ds) (hf : f ds ri) (hn : (∀ C, ri ≠ .exc C) ∨ E = E') : EvR K E (tMake C (SpI K C f) [] E' tr) sl (ri.rs C) := fun B0 H0 B H σ sd Q q =>
  ha B0 H0 B H σ sd _ fun vs B1 H1 g1 d1 x dx nx ndx nex => by
    rw [List.append_nil]
    have nx2 : upd H1 dx (.own x) x = none := by rw [upd_ne (Ne.symm nex)]; exact nx
    have g2 : Gr B1 H1 B1 (upd H1 dx (.own x)) := Gr.lay g1.sub ndx
    refine ⟨B1, upd H1 dx (.own x), x, dx, vs, ds, ri, rfl, g2.sub, nx2, rfl, d1, hf, ?_⟩
    cases ri with
    | ok ns es =>
      intro dx' us B3 H3 g3 b3 h3 hl d3
      obtain ⟨N, n1, n2, n3⟩ := d3
      have nN : N x = none := fresh_back n1 b3
      refine ⟨rfl, q _ (upd N x (.ins C dx' (ns.zip us))) _ _ (((g1.trans g2).trans g3).fz sd.sub (g1.back nx) b3 h3) (fun a o z => ?_) (fun a o z => ?_) (mk_obj upd_same hl (denL_mono (ex_upd nN) n3))⟩
      · by_cases e : a = x
        · subst e
          rw [upd_same] at z ⊢
          exact z
        · rw [upd_ne e] at z ⊢
          exact n1 a o z
      · by_cases e : a = x
        · rw [e]
          exact g1.back nx
        · rw [upd_ne e] at z
          exact (g1.trans g2).back (n2 a o z)
    | exc C' =>
      rcases hn with z | z
      · exact absurd rfl (z C')
      · subst z
        exact fun B3 H3 g3 => q B3 H3 ((g1.trans g2).trans g3)
theorem ev_make {f : List D → Ri → Prop} {C : Addr} {ns : List Str} {es : List D} (ha : EvA K tr sl ds) (hf : f ds (.ok ns es)) : EvR K E (tMake C (SpI K C f) [] E' tr) sl (.frs (.obj C ns es)) := ev_makeG ha hf (.inl fun _ z => nomatch z)
theorem ev_makeX {f : List D → Ri → Prop} {C C' : Addr} (ha : EvA K tr sl ds) (hf : f ds (.exc C')) : EvR K E (tMake C (SpI K C f) [] E tr) sl (.exc C') := ev_makeG ha hf (.inr rfl)
/-! built-ins -/
theorem ev_cb {f : List V → Hp → VK → Prop} (ha : EvA K tr sl ds) (hf : CbD K f ds s) : EvR K E (tCB f tr) sl s := fun B0 H0 B H σ sd Q q =>
  ha B0 H0 B H σ sd _ fun vs B1 H1 g1 d1 => hf B1 H1 vs g1.sub d1 E Q (q.shift g1)
theorem ev_bm {T : String} {f : V → List V → Hp → VK → Prop} (ho : EvR K E ta sl (.dat x)) (ha : EvA K tr sl ds) (hf : MtD K T f x ds s) (hty : ∀ B H v, Ex B H → Den K B x v → tyV K T v H) : EvR K E (tBM K T f ta tr) sl s := fun B0 H0 B H σ sd Q q =>
  ho B0 H0 B H σ sd _ fun v B1 H1 g1 d1 => ⟨hty B1 H1 v g1.sub d1, ha B0 H0 B1 H1 σ (sd.grow g1) _ fun vs B2 H2 g2 d2 => (hf B2 H2 v vs g2.sub (den_mono g2.eb d1) d2 E Q ((q.shift g1).shift g2)).2⟩
theorem ev_bm0 {T : String} {f : V → List V → Hp → VK → Prop} (ho : EvR K E ta sl (.dat x)) (hf : MtD K T f x [] s) : EvR K E (tBM0 K T f ta) sl s := fun B0 H0 B H σ sd Q q =>
  ho B0 H0 B H σ sd _ fun v B1 H1 g1 d1 => hf B1 H1 v [] g1.sub d1 denL_nil E Q (q.shift g1)
theorem denL_one {vs : List V} (h : DenL K B [x] vs) : ∃ v, vs = [v] ∧ Den K B x v := by
  obtain ⟨v, r, rfl, h1, h2⟩ := denL_inv h
  rw [denL_inv0 h2]
  exact ⟨v, rfl, h1⟩
theorem denL_two {vs : List V} (h : DenL K B [x, y] vs) : ∃ v w, vs = [v, w] ∧ Den K B x v ∧ Den K B y w := by
  obtain ⟨v, r, rfl, h1, h2⟩ := denL_inv h
  obtain ⟨w, rfl, h3⟩ := denL_one h2
  exact ⟨v, w, rfl, h1, h3⟩
abbrev rLen (K : PySem.W.Frag) : List V → Hp → VK → Prop := fun xs H Q => ∃ p ys, xs = [V.ref p] ∧ (SqL K H p ys ∨ SqT K H p ys) ∧ Q (.int ys.length) H
theorem cb_len : CbD K (rLen K) [.lst xs] (.dat (.int (xs.length : Int))) := fun B H vs e d E Q q => by
  obtain ⟨v, rfl, h⟩ := denL_one d
  obtain ⟨a, us, rfl, h1, h2⟩ := den_lst h
  exact ⟨a, us, rfl, .inl (SqL.of (e a _ h1)), by rw [← denL_len h2]; exact post_v e q (mk_int _)⟩
theorem cb_lenT : CbD K (rLen K) [.tup xs] (.dat (.int (xs.length : Int))) := fun B H vs e d E Q q => by
  obtain ⟨v, rfl, h⟩ := denL_one d
  obtain ⟨a, us, rfl, h1, h2⟩ := den_tup h
  exact ⟨a, us, rfl, .inr (SqT.of (e a _ h1)), by rw [← denL_len h2]; exact post_v e q (mk_int _)⟩
theorem cb_lenR {ns : List Int} : CbD K (rLen K) [.scr ns] (.dat (.int (ns.length : Int))) := fun B H vs e d E Q q => by
  obtain ⟨v, rfl, h⟩ := denL_one d
  obtain ⟨a, rfl, h1⟩ := den_scr h
  refine ⟨a, _, rfl, .inl (ex_l e h1), ?_⟩
  rw [List.length_map]
  exact post_v e q (mk_int _)
theorem cb_sum {ns : List Int} : CbD K (rSum K) [.lst (ns.map D.int)] (.dat (.int ns.sum)) := fun B H vs e d E Q q => by
  obtain ⟨v, rfl, h⟩ := denL_one d
  obtain ⟨a, us, rfl, h1, h2⟩ := den_lst h
  rw [denL_ints h2] at h1
  exact ⟨a, ns, rfl, SqL.of (e a _ h1), post_v e q (mk_int _)⟩
theorem cb_any {ns : List Bool} : CbD K (rAny K) [.lst (ns.map D.bl)] (.dat (.bl (ns.any id))) := fun B H vs e d E Q q => by
  obtain ⟨v, rfl, h⟩ := denL_one d
  obtain ⟨a, us, rfl, h1, h2⟩ := den_lst h
  rw [denL_bls h2] at h1
  exact ⟨a, ns, rfl, SqL.of (e a _ h1), post_v e q (mk_bl _)⟩
theorem cb_all {ns : List Bool} : CbD K (rAll K) [.lst (ns.map D.bl)] (.dat (.bl (ns.all id))) := fun B H vs e d E Q q => by
  obtain ⟨v, rfl, h⟩ := denL_one d
  obtain ⟨a, us, rfl, h1, h2⟩ := den_lst h
  rw [denL_bls h2] at h1
  exact ⟨a, ns, rfl, SqL.of (e a _ h1), post_v e q (mk_bl _)⟩
abbrev rListOf (K : PySem.W.Frag) : List V → Hp → VK → Prop := fun xs H Q => ∃ p ys, xs = [V.ref p] ∧ (SqL K H p ys ∨ SqT K H p ys) ∧ ∀ l, H l = none → Q (.ref l) (upd H l (.lst ys))
theorem cb_list : CbD K (rListOf K) [.lst xs] (.new xs) := fun B H vs e d E Q q => by
  obtain ⟨v, rfl, h⟩ := denL_one d
  obtain ⟨a, us, rfl, h1, h2⟩ := den_lst h
  exact ⟨a, us, rfl, .inl (SqL.of (e a _ h1)), fun p hp => q p us _ _ (Gr.lay e hp) hp (fresh_back e hp) upd_same h2⟩
/-! isinstance of a built-in class -/
inductive TyD : D → String → Prop where
  | non : TyD .non "NoneType" | bl (b : Bool) : TyD (.bl b) "bool" | int (i : Int) : TyD (.int i) "int" | str (x : Str) : TyD (.str x) "str"
  | lst (xs : List D) : TyD (.lst xs) "list" | tup (xs : List D) : TyD (.tup xs) "tuple" | emp : TyD .emp "dict"
theorem TyD.to {T : String} {v : V} (h : TyD x T) (e : Ex B H) (d : Den K B x v) : TyX K H v (.type T) := by
  cases h with
  | non => rw [den_non d]; exact .base .non
  | bl b => rw [den_bl d]; exact .base (.bl b)
  | int i => rw [den_int d]; exact .base (.int i)
  | str i => rw [den_str d]; exact .base (.str i)
  | lst xs =>
    obtain ⟨a, us, rfl, h1, h2⟩ := den_lst d
    exact .base (.lst (e a _ h1))
  | tup xs =>
    obtain ⟨a, us, rfl, h1, h2⟩ := den_tup d
    exact .base (.tup (e a _ h1))
  | emp =>
    obtain ⟨a, rfl, h1⟩ := den_emp d
    exact .base (.dK (e a _ h1))
theorem cb_isi {T C : String} {b : Bool} (h : TyD x T) (hb : kitB T C = some b) : CbD K (rIsi K) [x, .ty C] (.dat (.bl b)) := fun B H vs e d E Q q => by
  obtain ⟨v, w, rfl, h1, h2⟩ := denL_two d
  simp only [Den] at h2
  subst h2
  exact ⟨v, _, _, _, b, rfl, .ty C, h.to e h1, kit_ty hb, post_v e q (mk_bl _)⟩
/-! slices -/
theorem eo_none : EvO K tNoPart sl none := fun B0 H0 B H σ sd Q q => q B H (Gr.refl sd.sub)
theorem eo_some {i : Int} (h : EvR K E0 te sl (.dat (.int i))) : EvO K (tPart te) sl (some i) := fun B0 H0 B H σ sd Q q => h B0 H0 B H σ sd _ fun v B1 H1 g1 d1 => ⟨i, den_int d1, q _ _ g1⟩
def cutD (xs : List D) (lo hi : Option Int) : List D := (xs.drop (HT.sIx xs.length 0 lo)).take (HT.sIx xs.length xs.length hi - HT.sIx xs.length 0 lo)
theorem ev_sl {tl th : TO} {lo hi : Option Int} (h : EvR K E te sl (.dat (.lst xs))) (hl : EvO K tl sl lo) (hh : EvO K th sl hi) : EvR K E (tSl (rSlL K) te tl th) sl (.new (cutD xs lo hi)) := fun B0 H0 B H σ sd Q q =>
  h B0 H0 B H σ sd _ fun v B1 H1 g1 d1 => hl B0 H0 B1 H1 σ (sd.grow g1) _ fun B2 H2 g2 => hh B0 H0 B2 H2 σ ((sd.grow g1).grow g2) _ fun B3 H3 g3 => by
    obtain ⟨a, us, rfl, h1, h2⟩ := den_lst d1
    have d2 := denL_mono (g2.eb.trans g3.eb) h2
    refine ⟨a, us, rfl, SqL.of (g3.sub _ _ (g3.eb _ _ (g2.eb _ _ h1))), fun p hp => ?_⟩
    refine q p _ _ _ (((g1.trans g2).trans g3).trans (Gr.lay g3.sub hp)) (g1.back (g2.back (g3.back hp))) (fresh_back g3.sub hp) upd_same ?_
    unfold cutD cutV
    rw [denL_len h2]
    exact denL_take _ (denL_drop _ d2)
theorem denL_rev : ∀ {ds : List D} {vs : List V}, DenL K B ds vs → DenL K B ds.reverse vs.reverse
  | [], vs, h => by
    rw [denL_inv0 h]
    exact denL_nil
  | d :: ds, vs, h => by
    obtain ⟨v, r, rfl, h2, h3⟩ := denL_inv h
    rw [List.reverse_cons, List.reverse_cons]
    exact denL_app (denL_rev h3) (denL_cons h2 denL_nil)
theorem ev_revL (h : EvR K E te sl (.dat (.lst xs))) : EvR K E (tRevL K te) sl (.new xs.reverse) := fun B0 H0 B H σ sd Q q =>
  h B0 H0 B H σ sd _ fun v B1 H1 g1 d1 => by
    obtain ⟨a, us, rfl, h1, h2⟩ := den_lst d1
    exact ⟨a, us, rfl, SqL.of (g1.sub _ _ h1), fun p hp => q p _ _ _ (g1.trans (Gr.lay g1.sub hp)) (g1.back hp) (fresh_back g1.sub hp) upd_same (denL_rev h2)⟩
end

/-! ### what is walked -/
def JOk (K : PySem.W.Frag) (B : Hp) (xs : List D) (J : It) : Prop := ∀ i H2, Ex B H2 → (∀ d, xs[i]? = some d → J.go i H2 ∧ ∀ x H3, J.yld i H2 x H3 → H3 = H2 ∧ Den K B d x) ∧ (xs.length ≤ i → J.stop i H2)
def ItE (K : PySem.W.Frag) (ti : TI) (sl : List Sl) (xs : List D) : Prop := ∀ B0 H0 B H σ, SD K B0 H0 B H σ sl → ∀ R : It → Hp → Prop, (∀ J B' H', Gr B H B' H' → JOk K B' xs J → R J H') → ti σ H R
section
variable {K : PySem.W.Frag} {E E' : XK} {B0 H0 B H B' H' : Hp} {σ : L2.St} {sl : List Sl} {ta tb tc te : TE} {t u : TT} {x y z d : D} {xs ys ds : List D} {tr : TA}
theorem JOk.mono (h : JOk K B xs J) (e : Ex B B') : JOk K B' xs J := fun i H2 e2 => by
  obtain ⟨h1, h2⟩ := h i H2 (e.trans e2)
  refine ⟨fun d hd => ?_, h2⟩
  obtain ⟨h3, h4⟩ := h1 d hd
  refine ⟨h3, fun x H3 hy => ?_⟩
  obtain ⟨h5, h6⟩ := h4 x H3 hy
  exact ⟨h5, den_mono e h6⟩
theorem it_list (h : EvR K E0 te sl (.dat (.lst xs))) : ItE K (iList K te) sl xs := fun B0 H0 B H σ sd R q =>
  h B0 H0 B H σ sd _ fun v B1 H1 g1 d1 => by
    obtain ⟨a, us, rfl, h1, h2⟩ := den_lst d1
    refine ⟨a, rfl, ⟨us, SqL.of (g1.sub _ _ h1)⟩, q _ _ _ g1 fun i H2 e2 => ⟨fun d hd => ?_, fun hl => ⟨us, SqL.of (e2 _ _ h1), by rw [← denL_len h2]; exact hl⟩⟩⟩
    obtain ⟨w, h3, h4⟩ := denL_get h2 hd
    refine ⟨⟨us, w, SqL.of (e2 _ _ h1), h3⟩, fun x H3 hy => ⟨hy.1, ?_⟩⟩
    have e := hy.2 us (SqL.of (e2 _ _ h1))
    rw [h3] at e
    cases e
    exact h4
theorem it_tup (h : EvR K E0 te sl (.dat (.tup xs))) : ItE K (iTup K te) sl xs := fun B0 H0 B H σ sd R q =>
  h B0 H0 B H σ sd _ fun v B1 H1 g1 d1 => by
    obtain ⟨a, us, rfl, h1, h2⟩ := den_tup d1
    refine ⟨a, rfl, ⟨us, SqT.of (g1.sub _ _ h1)⟩, q _ _ _ g1 fun i H2 e2 => ⟨fun d hd => ?_, fun hl => ⟨us, SqT.of (e2 _ _ h1), by rw [← denL_len h2]; exact hl⟩⟩⟩
    obtain ⟨w, h3, h4⟩ := denL_get h2 hd
    refine ⟨⟨us, w, SqT.of (e2 _ _ h1), h3⟩, fun x H3 hy => ⟨hy.1, ?_⟩⟩
    have e := hy.2 us (SqT.of (e2 _ _ h1))
    rw [h3] at e
    cases e
    exact h4
/-- the numbers from lo on, n of them -/
def rng (lo : Int) (n : Nat) : List Int := (List.range n).map fun (i : Nat) => lo + (i : Int)
theorem rng_len (lo : Int) (n : Nat) : (rng lo n).length = n := by simp [rng]
theorem rng_get {lo : Int} {n i : Nat} (h : i < n) : (rng lo n)[i]? = some (lo + (i : Int)) := by
  simp [rng, h]
theorem mem_rng {lo j : Int} {n : Nat} : j ∈ rng lo n ↔ lo ≤ j ∧ j < lo + n := by
  unfold rng
  rw [List.mem_map]
  constructor
  · rintro ⟨i, h, rfl⟩
    rw [List.mem_range] at h
    omega
  · rintro ⟨h1, h2⟩
    exact ⟨(j - lo).toNat, by rw [List.mem_range]; omega, by omega⟩
theorem jok_rng (lo : Int) (n : Nat) : JOk K B ((rng lo n).map D.int) (Itr lo n) := fun i H2 e2 => by
  refine ⟨fun d hd => ?_, fun hl => ?_⟩
  · have hi : i < n := by
      have z := (List.getElem?_eq_some_iff.mp hd).1
      rwa [List.length_map, rng_len] at z
    rw [List.getElem?_map, rng_get hi] at hd
    cases hd
    refine ⟨hi, fun x H3 hy => ⟨hy.1, ?_⟩⟩
    rw [hy.2]
    exact mk_int _
  · rw [List.length_map, rng_len] at hl
    exact hl
theorem it_rng1 {n : Int} (h : EvA K tr sl [.int n]) (hn : n < 2 ^ 62) (h0 : -(2 ^ 62) ≤ n := by omega) : ItE K (iRng1 tr) sl ((rng 0 n.toNat).map D.int) := fun B0 H0 B H σ sd R q =>
  h B0 H0 B H σ sd _ fun vs B1 H1 g1 d1 => by
    obtain ⟨v, rfl, h1⟩ := denL_one d1
    rw [den_int h1]
    exact ⟨n, rfl, h0, hn, q _ _ _ g1 (jok_rng 0 _)⟩
theorem it_rng2 {lo n : Int} (h : EvA K tr sl [.int lo, .int n]) (hl : -(2 ^ 62) ≤ lo ∧ lo < 2 ^ 62) (hn : -(2 ^ 62) ≤ n ∧ n < 2 ^ 62) : ItE K (iRng2 tr) sl ((rng lo (n - lo).toNat).map D.int) := fun B0 H0 B H σ sd R q =>
  h B0 H0 B H σ sd _ fun vs B1 H1 g1 d1 => by
    obtain ⟨v, w, rfl, h1, h2⟩ := denL_two d1
    rw [den_int h1, den_int h2]
    exact ⟨lo, n, rfl, ⟨hl.1, hl.2, hn.1, hn.2⟩, q _ _ _ g1 (jok_rng lo _)⟩
/-! ### comprehensions -/
def wipeS (sl : List Sl) : List Nat → List Sl
  | [] => sl
  | v :: vs => (wipeS sl vs).set v .un
theorem SD.wipe : ∀ (vs : List Nat), SD K B0 H0 B H σ sl → SD K B0 H0 B H (L2.wipe σ vs) (wipeS sl vs)
  | [], s => s
  | v :: vs, s => (SD.wipe vs s).setUn
theorem wipe_set {j : Nat} {x : Option V} : ∀ {vs : List Nat} (σ : L2.St), j ∈ vs → L2.wipe (σ.set j x) vs = L2.wipe σ vs
  | [], _, h => by simp at h
  | v :: vs, σ, h => by
    show (L2.wipe (σ.set j x) vs).set v none = (L2.wipe σ vs).set v none
    rcases List.mem_cons.mp h with e | e
    · subst e
      by_cases m : j ∈ vs
      · rw [wipe_set σ m]
      · have k : ∀ {vs : List Nat} (σ : L2.St), j ∉ vs → L2.wipe (σ.set j x) vs = (L2.wipe σ vs).set j x := by
          intro vs
          induction vs with
          | nil => intro σ _; rfl
          | cons w ws ih =>
            intro σ hm
            show (L2.wipe (σ.set j x) ws).set w none = ((L2.wipe σ ws).set w none).set j x
            rw [ih σ fun z => hm (List.mem_cons_of_mem _ z), List.set_comm]
            exact fun z => hm (by rw [z]; exact List.mem_cons_self)
        rw [k σ m, List.set_set]
    · rw [wipe_set σ e]
theorem wipe_len' (σ : L2.St) : ∀ vs : List Nat, (L2.wipe σ vs).length = σ.length := L2.wipe_length σ
theorem wipe_wipe (σ : L2.St) (vs : List Nat) : L2.wipe (L2.wipe σ vs) vs = L2.wipe σ vs := by
  have k : ∀ (us : List Nat) (σ : L2.St), (∀ v ∈ us, v ∈ vs) → L2.wipe (L2.wipe σ us) vs = L2.wipe σ vs := by
    intro us
    induction us with
    | nil => intro σ _; rfl
    | cons w ws ih =>
      intro σ hm
      show L2.wipe ((L2.wipe σ ws).set w none) vs = L2.wipe σ vs
      rw [wipe_set _ (hm w List.mem_cons_self)]
      exact ih σ fun v hv => hm v (List.mem_cons_of_mem _ hv)
  exact k vs σ fun _ h => h
def givenD (n : Nat) (f : Nat → Bool) (v : Nat → D) : List D := ((List.range n).filter f).map v
theorem givenD_yes {n : Nat} {f : Nat → Bool} {v : Nat → D} (h : f n = true) : givenD (n + 1) f v = givenD n f v ++ [v n] := by
  unfold givenD
  rw [List.range_succ, List.filter_append, List.map_append, List.filter_cons, if_pos h]
  rfl
theorem givenD_no {n : Nat} {f : Nat → Bool} {v : Nat → D} (h : f n = false) : givenD (n + 1) f v = givenD n f v := by
  unfold givenD
  rw [List.range_succ, List.filter_append, List.map_append, List.filter_cons, if_neg (by rw [h]; decide)]
  show _ ++ [] = _
  rw [List.append_nil]
theorem givenD_len (n : Nat) (f : Nat → Bool) (v : Nat → D) : (givenD n f v).length ≤ n := by
  unfold givenD
  rw [List.length_map]
  have h := List.length_filter_le f (List.range n)
  rw [List.length_range] at h
  exact h
theorem ev_lcI {ti : TI} {j : Nat} {vs : List Nat} (f : Nat → Bool) (v : Nat → D) (hi : ItE K ti sl xs) (hz : xs.length ≤ 1000000) (hj : j ∈ vs)
    (ht : ∀ (i : Nat) d, xs[i]? = some d → EvT K t ((wipeS sl vs).set j (.fz d)) (f i)) (he : ∀ (i : Nat) d, xs[i]? = some d → f i = true → EvR K E0 te ((wipeS sl vs).set j (.fz d)) (.dat (v i))) :
    EvR K E (tLc ti (gName j) t te vs) sl (.new (givenD xs.length f v)) := fun B0 H0 B H σ sd Q q => by
  refine hi B0 H0 B H σ sd _ fun J B1 H1 g1 jo Dl hD => ?_
  have sd1 := (sd.grow g1).wipe vs
  -- the list grows at Dl, which is no data's
  refine ⟨fun i m H2 => m = xs.length - i ∧ i ≤ xs.length ∧ ∃ B2 acc, Gr B1 H1 B2 H2 ∧ B2 Dl = none ∧ H2 Dl = some (.lst acc) ∧ DenL K B2 (givenD i f v) acc, ⟨xs.length, by simp, Nat.zero_le _, B1, [], Gr.lay g1.sub hD, fresh_back g1.sub hD, upd_same, denL_nil⟩, ?_⟩
  rintro i m H2 ⟨rfl, hi2, B2, acc, g2, b2, h2, d2⟩
  obtain ⟨jg, js⟩ := (jo.mono g2.eb) i H2 g2.sub
  by_cases hlt : i < xs.length
  · right
    have hx : xs[i]? = some xs[i] := by simp [hlt]
    obtain ⟨go, yl⟩ := jg _ hx
    refine ⟨go, fun H' => i + 1 ≤ xs.length ∧ ∃ B2 acc, Gr B1 H1 B2 H' ∧ B2 Dl = none ∧ H' Dl = some (.lst acc) ∧ DenL K B2 (givenD (i + 1) f v) acc, fun H' ⟨h1, h3⟩ => ⟨xs.length - (i + 1), by omega, rfl, h1, h3⟩, fun x H3 hy => ?_⟩
    obtain ⟨e3, dx⟩ := yl x H3 hy
    rw [e3]
    have sd2 : SD K B0 H0 B2 H2 ((L2.wipe σ vs).set j (some x)) ((wipeS sl vs).set j (.fz xs[i])) := (sd1.grow g2).setFz dx
    refine ⟨by rw [wipe_set _ hj, wipe_wipe], ?_⟩
    refine ht i _ hx B0 H0 B2 H2 _ sd2 _ fun B3 H3 g3 => ?_
    have b3 : B3 Dl = none := g3.out Dl b2 (by rw [h2]; simp)
    cases hf : f i with
    | false =>
      rw [if_neg Bool.false_ne_true]
      exact ⟨hlt, B3, acc, g2.trans g3, b3, g3.eh _ _ h2, by rw [givenD_no hf]; exact denL_mono g3.eb d2⟩
    | true =>
      rw [if_pos rfl]
      refine he i _ hx hf B0 H0 B3 H3 _ (sd2.grow g3) _ fun y B4 H4 g4 d4 => ?_
      have b4 : B4 Dl = none := g4.out Dl b3 (by rw [g3.eh _ _ h2]; simp)
      have h4 : H4 Dl = some (.lst acc) := g4.eh _ _ (g3.eh _ _ h2)
      have hacc : acc.length ≤ 1000000 := by
        rw [← denL_len d2]
        have := givenD_len i f v
        omega
      have sz : acc.length < sizeLine := by
        rw [sizeLine_eq]
        omega
      refine ⟨acc, h4, sz, hlt, B4, acc ++ [y], ?_, b4, upd_same, ?_⟩
      · have g := (g2.trans g3).trans g4
        refine ⟨g.eb, fun a o h => ?_, fun a o h => ?_, g.out⟩
        · rw [upd_ne (ne_of_none h hD)]
          exact g.eh a o h
        · rw [upd_ne (ne_of_none h b4)]
          exact g.sub a o h
      · rw [givenD_yes hf]
        exact denL_app (denL_mono (g3.eb.trans g4.eb) d2) (denL_cons d4 denL_nil)
  · left
    have e : i = xs.length := by omega
    subst e
    exact ⟨js (Nat.le_refl _), q _ _ _ _ (g1.trans g2) (g1.back hD) b2 h2 d2⟩
theorem givenD_eq {α : Type} (ys : List α) (f : α → Bool) (v : α → D) (g : Nat → Bool) (w : Nat → D) (h : ∀ i a, ys[i]? = some a → g i = f a ∧ w i = v a) : givenD ys.length g w = (ys.filter f).map v := by
  have k : ∀ n, n ≤ ys.length → givenD n g w = ((ys.take n).filter f).map v := by
    intro n
    induction n with
    | zero => intro _; simp [givenD]
    | succ n ih =>
      intro hn
      have hx : ys[n]? = some ys[n] := List.getElem?_eq_getElem hn
      obtain ⟨e1, e2⟩ := h n _ hx
      have et : ys.take (n + 1) = ys.take n ++ [ys[n]] := by
        rw [List.take_succ, hx]
        rfl
      rw [et, List.filter_append, List.map_append, ← ih (by omega)]
      cases hf : g n with
      | true =>
        rw [givenD_yes hf, List.filter_cons, if_pos (by rw [← e1]; exact hf), e2]
        rfl
      | false =>
        rw [givenD_no hf, List.filter_cons, if_neg (by rw [← e1, hf]; decide)]
        simp
  rw [k ys.length (Nat.le_refl _), List.take_length]
/-- over c of each of ys, with a test -/
theorem ev_lcF {α : Type} {ys : List α} {c : α → D} {f : α → Bool} {v : α → D} {ti : TI} {j : Nat} {vs : List Nat} (hi : ItE K ti sl (ys.map c)) (hz : ys.length ≤ 1000000) (hj : j ∈ vs)
    (ht : ∀ a, a ∈ ys → EvT K t ((wipeS sl vs).set j (.fz (c a))) (f a)) (he : ∀ a, a ∈ ys → f a = true → EvR K E0 te ((wipeS sl vs).set j (.fz (c a))) (.dat (v a))) :
    EvR K E (tLc ti (gName j) t te vs) sl (.new ((ys.filter f).map v)) := by
  cases ys with
  | nil =>
    have h := ev_lcI (E := E) (t := t) (te := te) (vs := vs) (fun _ => false) (fun _ => D.non) hi (by simp) hj (fun i d h => by simp at h) (fun i d h => by simp at h)
    simpa [givenD] using h
  | cons a0 ar =>
    have key := ev_lcI (E := E) (t := t) (te := te) (vs := vs) (fun i => f ((a0 :: ar)[i]?.getD a0)) (fun i => v ((a0 :: ar)[i]?.getD a0)) hi (by rw [List.length_map]; exact hz) hj
      (fun i d h => by
        rw [List.getElem?_map] at h
        cases e : (a0 :: ar)[i]? with
        | none => rw [e] at h; cases h
        | some a =>
          rw [e] at h
          cases h
          exact ht a (List.mem_of_getElem? e))
      (fun i d h hf => by
        rw [List.getElem?_map] at h
        cases e : (a0 :: ar)[i]? with
        | none => rw [e] at h; cases h
        | some a =>
          rw [e] at h
          cases h
          have hf' : f a = true := by simpa [e] using hf
          exact he a (List.mem_of_getElem? e) hf')
    rw [List.length_map, givenD_eq (a0 :: ar) f v _ _ (fun i a h => by simp [h])] at key
    exact key
/-- .. without one -/
theorem ev_lcM {α : Type} {ys : List α} {c : α → D} {v : α → D} {ti : TI} {j : Nat} {vs : List Nat} (hi : ItE K ti sl (ys.map c)) (hz : ys.length ≤ 1000000) (hj : j ∈ vs)
    (he : ∀ a, a ∈ ys → EvR K E0 te ((wipeS sl vs).set j (.fz (c a))) (.dat (v a))) : EvR K E (tLc ti (gName j) tYes te vs) sl (.new (ys.map v)) := by
  have h := ev_lcF (E := E) (f := fun _ => true) (t := tYes) hi hz hj (fun a _ => et_yes) (fun a ha _ => he a ha)
  rwa [List.filter_eq_self.mpr (fun _ _ => rfl)] at h
end
end Wv
namespace Wv
open PySem L2
open Evl (Ex fresh_back ex_l)

/-! ### statements -/
structure En where
  nx : List Sl → Prop
  rt : Rs → Prop
  bk : List Sl → Prop := fun _ => False
  ct : List Sl → Prop := fun _ => False
/-- .. a new list: new to Hf -/
def PostF (K : PySem.W.Frag) (E : XK) (B H Hf : Hp) (Q : VK) : Rs → Prop
  | .new xs => ∀ p vs B' H', Gr B H B' H' → Hf p = none → B' p = none → H' p = some (.lst vs) → DenL K B' xs vs → Q (.ref p) H'
  | .frs d => ∀ v N B' H', Gr B H B' H' → Ex N B' → New N Hf → Den K N d v → Q v H'
  | r => Post K E B H Q r
theorem PostF.post {K : PySem.W.Frag} {E : XK} {B H Hf : Hp} {Q : VK} {r : Rs} (h : PostF K E B H Hf Q r) (e : Ex Hf H) : Post K E B H Q r := by
  cases r with
  | new xs => exact fun p vs B' H' g h0 h1 h2 h3 => h p vs B' H' g (fresh_back e h0) h1 h2 h3
  | frs d => exact fun v N B' H' g e1 n dv => h v N B' H' g e1 (fun p o z => fresh_back e (n p o z)) dv
  | dat d => exact h
  | exc C => exact h
theorem PostF.shift {K : PySem.W.Frag} {E : XK} {B H B' H' Hf : Hp} {Q : VK} {r : Rs} (g : Gr B H B' H') (h : PostF K E B H Hf Q r) : PostF K E B' H' Hf Q r := by
  cases r with
  | new xs => exact fun p vs B2 H2 g2 h0 h1 h2 h3 => h p vs B2 H2 (g.trans g2) h0 h1 h2 h3
  | frs d => exact fun v N B2 H2 g2 e1 n dv => h v N B2 H2 (g.trans g2) e1 n dv
  | dat d => exact Post.shift (E := E) (r := .dat d) g h
  | exc C => exact Post.shift (K := K) (Q := Q) (E := E) (r := .exc C) g h
theorem PostF.of {K : PySem.W.Frag} {E : XK} {B H : Hp} {Q : VK} {r : Rs} (h : Post K E B H Q r) : PostF K E B H H Q r := by
  cases r with
  | new xs => exact h
  | frs d => exact h
  | dat d => exact h
  | exc C => exact h
structure Mt (K : PySem.W.Frag) (E : XK) (B0 H0 : Hp) (P : En) (D : Ends) : Prop where
  nx : ∀ B H σ sl, SD K B0 H0 B H σ sl → P.nx sl → D.nx σ H
  bk : ∀ B H σ sl, SD K B0 H0 B H σ sl → P.bk sl → D.bk σ H
  ct : ∀ B H σ sl, SD K B0 H0 B H σ sl → P.ct sl → D.ct σ H
  rt : ∀ r B H, Gr B0 H0 B H → P.rt r → PostF K E B H H0 D.rt r
def W (K : PySem.W.Frag) (E : XK) (t : TS) (sl : List Sl) (P : En) : Prop := ∀ B0 H0 B H σ D, SD K B0 H0 B H σ sl → Mt K E B0 H0 P D → t D σ H
/-- a target takes d -/
def GW (K : PySem.W.Frag) (g : TG) (d : D) (sl : List Sl) (P : List Sl → Prop) : Prop := ∀ B0 H0 B H σ v, SD K B0 H0 B H σ sl → Den K B d v → ∀ Q : L2.St → Hp → Prop, (∀ σ' sl', SD K B0 H0 B H σ' sl' → P sl' → Q σ' H) → g v σ H Q
def GWs (K : PySem.W.Frag) (g : TGs) (ds : List D) (sl : List Sl) (P : List Sl → Prop) : Prop := ∀ B0 H0 B H σ vs, SD K B0 H0 B H σ sl → DenL K B ds vs → ∀ Q : L2.St → Hp → Prop, (∀ σ' sl', SD K B0 H0 B H σ' sl' → P sl' → Q σ' H) → g vs σ H Q
section
variable {K : PySem.W.Frag} {E E' : XK} {B0 H0 B H B' H' B1 H1 : Hp} {σ : L2.St} {sl sl' : List Sl} {ta tb tc te : TE} {c : TT} {t u : TS} {x y z d : D} {xs ys ds : List D} {tr : TA} {P P' : En} {Dd : Ends}
theorem SD.rebase (s : SD K B0 H0 B H σ sl) : SD K B H0 B H σ sl :=
  ⟨⟨Ex.refl _, s.gr.eh, s.gr.sub, fun p h1 h2 => h1⟩, s.len, s.fz, s.ow, s.ob, s.ap, s.rg⟩
theorem gr_un (g0 : Gr B0 H0 B1 H1) (g : Gr B1 H0 B H) : Gr B0 H0 B H := ⟨g0.eb.trans g.eb, g.eh, g.sub, fun p h1 h2 => g.out p (g0.out p h1 h2) h2⟩
theorem SD.unbase (g0 : Gr B0 H0 B1 H1) (s : SD K B1 H0 B H σ sl) : SD K B0 H0 B H σ sl := ⟨gr_un g0 s.gr, s.len, s.fz, s.ow, s.ob, s.ap, s.rg⟩
theorem Mt.mono (h : Mt K E B0 H0 P Dd) (h1 : ∀ s, P'.nx s → P.nx s) (h2 : ∀ s, P'.bk s → P.bk s) (h3 : ∀ s, P'.ct s → P.ct s) (h4 : ∀ s, P'.rt s → P.rt s) : Mt K E B0 H0 P' Dd :=
  ⟨fun B H σ sl s q => h.nx B H σ sl s (h1 _ q), fun B H σ sl s q => h.bk B H σ sl s (h2 _ q), fun B H σ sl s q => h.ct B H σ sl s (h3 _ q), fun r B H g q => h.rt r B H g (h4 _ q)⟩
theorem w_mono (h : W K E t sl P') (h1 : ∀ s, P'.nx s → P.nx s) (h2 : ∀ s, P'.bk s → P.bk s) (h3 : ∀ s, P'.ct s → P.ct s) (h4 : ∀ s, P'.rt s → P.rt s) : W K E t sl P := fun B0 H0 B H σ D sd m => h B0 H0 B H σ D sd (m.mono h1 h2 h3 h4)
theorem w_fgt (f : Fgt sl sl') (h : W K E t sl' P) : W K E t sl P := fun B0 H0 B H σ D sd m => h B0 H0 B H σ D (sd.fgt f) m
theorem w_fix {i : Nat} (hi : sl[i]? = some (.ow xs)) (h : W K E t (sl.set i (.fz (.lst xs))) P) : W K E t sl P := fun B0 H0 B H σ D sd m => by
  obtain ⟨B', _, sd'⟩ := sd.fix hi
  exact h B0 H0 B' H σ D sd' m
theorem w_seq (h : W K E t sl { P with nx := fun s => W K E u s P }) : W K E (tSeq t u) sl P := fun B0 H0 B H σ D sd m =>
  h B0 H0 B H σ { D with nx := u D } sd ⟨fun B H σ sl s q => q B0 H0 B H σ D s m, m.bk, m.ct, m.rt⟩
theorem w_next (h : P.nx sl) : W K E tNext sl P := fun B0 H0 B H σ D sd m => m.nx B H σ sl sd h
theorem w_brk (h : P.bk sl) : W K E tBreak sl P := fun B0 H0 B H σ D sd m => m.bk B H σ sl sd h
theorem w_cnt (h : P.ct sl) : W K E tCont sl P := fun B0 H0 B H σ D sd m => m.ct B H σ sl sd h
theorem w_ret {r : Rs} (h : EvR K E te sl r) (k : P.rt r) : W K E (tRet te) sl P := fun B0 H0 B H σ D sd m => h B0 H0 B H σ sd D.rt ((m.rt r B H sd.gr k).post sd.gr.eh)
theorem w_retO {i : Nat} (hi : sl[i]? = some (.ow xs)) (k : P.rt (.new xs)) : W K E (tRet (tVar i)) sl P := fun B0 H0 B H σ D sd m => by
  obtain ⟨p, vs, h1, h2, h3, h4, h5⟩ := sd.ow i xs hi
  exact ⟨_, h1, m.rt _ B H sd.gr k p vs B H (Gr.refl sd.sub) h2 h3 h4 h5⟩
theorem w_retN (k : P.rt (.dat .non)) : W K E tRetN sl P := fun B0 H0 B H σ D sd m => post_v (E := E) sd.sub (m.rt _ B H sd.gr k) mk_non
theorem w_if {b : Bool} (h : EvT K c sl b) (h1 : b = true → W K E t sl P) (h2 : b = false → W K E u sl P) : W K E (tIfS c t u) sl P := fun B0 H0 B H σ D sd m =>
  h B0 H0 B H σ sd _ fun B1 H1 g1 => by
    cases b with
    | true =>
      rw [if_pos rfl]
      exact h1 rfl B0 H0 B1 H1 σ D (sd.grow g1) m
    | false =>
      rw [if_neg Bool.false_ne_true]
      exact h2 rfl B0 H0 B1 H1 σ D (sd.grow g1) m
theorem w_ifT (h : EvT K c sl true) (h1 : W K E t sl P) : W K E (tIfS c t u) sl P := w_if h (fun _ => h1) fun z => nomatch z
theorem w_ifF (h : EvT K c sl false) (h1 : W K E u sl P) : W K E (tIfS c t u) sl P := w_if h (fun z => nomatch z) fun _ => h1
theorem w_asg {i : Nat} (h : EvR K E te sl (.dat d)) (k : P.nx (sl.set i (.fz d))) : W K E (tAsg te (gName i)) sl P := fun B0 H0 B H σ D sd m =>
  h B0 H0 B H σ sd _ fun v B1 H1 g1 d1 => m.nx B1 H1 _ _ ((sd.grow g1).setFz d1) k
theorem w_asgN {i : Nat} (h : EvR K E te sl (.new xs)) (k : P.nx (sl.set i (.ow xs))) : W K E (tAsg te (gName i)) sl P := fun B0 H0 B H σ D sd m =>
  h B0 H0 B H σ sd _ fun p vs B1 H1 g1 h0 h1 h2 h3 => m.nx B1 H1 _ _ (sd.setNew g1 h0 h1 h2 h3) k
theorem w_asgX {g : TG} {C : Addr} (h : EvR K E te sl (.exc C)) (k : P.rt (.exc C)) : W K E (tAsg te g) sl P := fun B0 H0 B H σ D sd m =>
  h B0 H0 B H σ sd _ fun B1 H1 g1 => m.rt _ B H sd.gr k B1 H1 g1
theorem w_asgG {g : TG} (h : EvR K E te sl (.dat d)) (hg : GW K g d sl P.nx) : W K E (tAsg te g) sl P := fun B0 H0 B H σ D sd m =>
  h B0 H0 B H σ sd _ fun v B1 H1 g1 d1 => hg B0 H0 B1 H1 σ v (sd.grow g1) d1 D.nx fun σ' sl' s' p => m.nx B1 H1 σ' sl' s' p
theorem w_drop (h : EvR K E te sl (.dat d)) (k : P.nx sl) : W K E (tDrop te) sl P := fun B0 H0 B H σ D sd m =>
  h B0 H0 B H σ sd _ fun v B1 H1 g1 d1 => m.nx B1 H1 _ _ (sd.grow g1) k
theorem w_dropX {C : Addr} (h : EvR K E te sl (.exc C)) (k : P.rt (.exc C)) : W K E (tDrop te) sl P := fun B0 H0 B H σ D sd m =>
  h B0 H0 B H σ sd _ fun B1 H1 g1 => m.rt _ B H sd.gr k B1 H1 g1
theorem w_aug {i : Nat} {f : Int → Int → Int} {a b : Int} (hi : sl[i]? = some (.fz (.int a))) (h : EvR K E te sl (.dat (.int b))) (k : P.nx (sl.set i (.fz (.int (f a b))))) : W K E (tAug i te (ipI f)) sl P := fun B0 H0 B H σ D sd m => by
  obtain ⟨v, h1, h2⟩ := sd.fz i _ hi
  rw [den_int h2] at h1
  refine ⟨_, h1, h B0 H0 B H σ sd _ fun v B1 H1 g1 d1 => ?_⟩
  rw [den_int d1]
  exact ⟨a, b, rfl, rfl, m.nx B1 H1 _ _ ((sd.grow g1).setFz (mk_int _)) k⟩
theorem w_par {i j : Nat} {d1 d2 : D} (h : EvA K tr sl [d1, d2]) (k : P.nx ((sl.set i (.fz d1)).set j (.fz d2))) : W K E (tPar i j tr) sl P := fun B0 H0 B H σ D sd m =>
  h B0 H0 B H σ sd _ fun vs B1 H1 g1 dd => by
    obtain ⟨v, w, rfl, e1, e2⟩ := denL_two dd
    exact ⟨v, w, rfl, m.nx B1 H1 _ _ (((sd.grow g1).setFz e1).setFz e2) k⟩
/-- xs.append(e), xs one's own -/
theorem w_app {i : Nat} (hi : sl[i]? = some (.ow xs)) (h : EvR K E te sl (.dat d)) (hz : xs.length < 1000000) (k : P.nx (sl.set i (.ow (xs ++ [d])))) : W K E (tDrop (tBM K "list" rAppend (tVar i) (tCons te tNil))) sl P := fun B0 H0 B H σ D sd m => by
  obtain ⟨p, vs, h1, h2, h3, h4, h5⟩ := sd.ow i xs hi
  refine ⟨_, h1, .inl ⟨rfl, _, .inl (.inl h4)⟩, h B0 H0 B H σ sd _ fun v B1 H1 g1 d1 => ?_⟩
  obtain ⟨q, us, e1, e2, e3, e4, e5⟩ := (sd.grow g1).ow i xs hi
  rw [h1] at e1
  cases e1
  refine ⟨p, us, v, rfl, rfl, e4, ?_, m.nx _ _ _ _ ((sd.grow g1).mut hi h1 (denL_app e5 (denL_cons d1 denL_nil))) k⟩
  rw [← denL_len e5, sizeLine_eq]
  omega
/-- .. its elements alone matter: the appended thing may be read with one's own lists as data -/
def frS : Sl → Sl
  | .ow xs => .fz (.lst xs)
  | .rg d => .fz d
  | s => s
theorem SD.fr (s : SD K B0 H0 B H σ sl) (ho : ∀ p0 C ns es, Sl.ob p0 C ns es ∉ sl) : SD K H0 H0 H H σ (sl.map frS) ∧ Ex B H := by
  refine ⟨⟨⟨s.gr.eh, s.gr.eh, Ex.refl _, fun p h1 h2 => absurd h1 h2⟩, by simpa using s.len, fun i d e => ?_, fun i xs e => ?_, fun i p0 C ns es e => ?_, fun i j xs ys p e1 => ?_, fun i d e => ?_⟩, s.sub⟩
  · rw [List.getElem?_map] at e
    cases q : sl[i]? with
    | none => rw [q] at e; cases e
    | some a =>
      rw [q] at e
      cases a with
      | un => cases e
      | ob p0 C ns es => cases e
      | fz d' =>
        cases e
        obtain ⟨v, h1, h2⟩ := s.fz i _ q
        exact ⟨v, h1, den_mono s.sub h2⟩
      | ow xs =>
        cases e
        obtain ⟨p, vs, h1, h2, h3, h4, h5⟩ := s.ow i xs q
        exact ⟨_, h1, mk_lst h4 (denL_mono s.sub h5)⟩
      | rg d' =>
        cases e
        obtain ⟨v, N, h1, h2, h3, h4, h5, h6⟩ := s.rg i _ q
        exact ⟨v, h1, den_mono h4 h5⟩
  · rw [List.getElem?_map] at e
    cases q : sl[i]? with
    | none => rw [q] at e; cases e
    | some a => rw [q] at e; cases a <;> cases e
  · rw [List.getElem?_map] at e
    cases q : sl[i]? with
    | none => rw [q] at e; cases e
    | some a =>
      rw [q] at e
      cases a with
      | ob p0' C' ns' es' => exact absurd (List.mem_of_getElem? q) (ho _ _ _ _)
      | un => cases e
      | fz _ => cases e
      | ow _ => cases e
      | rg _ => cases e
  · rw [List.getElem?_map] at e1
    cases q : sl[i]? with
    | none => rw [q] at e1; cases e1
    | some a => rw [q] at e1; cases a <;> cases e1
  · rw [List.getElem?_map] at e
    cases q : sl[i]? with
    | none => rw [q] at e; cases e
    | some a => rw [q] at e; cases a <;> cases e
def noOb : List Sl → Bool
  | [] => true
  | .ob _ _ _ _ :: _ => false
  | _ :: l => noOb l
theorem noOb_mem : ∀ {sl : List Sl}, noOb sl = true → ∀ p0 C ns es, Sl.ob p0 C ns es ∉ sl
  | [], _, _, _, _, _, h => nomatch h
  | .un :: l, h, p0, C, ns, es, m => by
    rcases List.mem_cons.mp m with z | z
    · cases z
    · exact noOb_mem (sl := l) h p0 C ns es z
  | .fz d :: l, h, p0, C, ns, es, m => by
    rcases List.mem_cons.mp m with z | z
    · cases z
    · exact noOb_mem (sl := l) h p0 C ns es z
  | .ow d :: l, h, p0, C, ns, es, m => by
    rcases List.mem_cons.mp m with z | z
    · cases z
    · exact noOb_mem (sl := l) h p0 C ns es z
  | .rg d :: l, h, p0, C, ns, es, m => by
    rcases List.mem_cons.mp m with z | z
    · cases z
    · exact noOb_mem (sl := l) h p0 C ns es z
  | .ob _ _ _ _ :: l, h, p0, C, ns, es, m => by cases h
/-- an expression that reads one's own lists too, and gives a scalar -/
theorem gr_fr (s : SD K B0 H0 B H σ sl) (g : Gr H H B' H') : Gr B H B H' := ⟨Ex.refl _, g.eh, s.sub.trans g.eh, fun p h1 _ => h1⟩
theorem ev_fr (h : EvR K E te (sl.map frS) (.dat d)) (hs : sca d = true) (ho : noOb sl = true := by rfl) : EvR K E te sl (.dat d) := fun B0 H0 B H σ sd Q q =>
  h H0 H0 H H σ (sd.fr (noOb_mem ho)).1 Q fun v B1 H1 g1 d1 => q v B H1 (gr_fr sd g1) (den_sca hs d1)
theorem et_fr {b : Bool} (h : EvT K c (sl.map frS) b) (ho : noOb sl = true := by rfl) : EvT K c sl b := fun B0 H0 B H σ sd Q q =>
  h H0 H0 H H σ (sd.fr (noOb_mem ho)).1 Q fun B1 H1 g1 => q B H1 (gr_fr sd g1)
/-- .. a new list of scalars -/
theorem ev_frN (h : EvR K E te (sl.map frS) (.new xs)) (hs : ∀ d ∈ xs, sca d = true) (ho : noOb sl = true := by rfl) : EvR K E te sl (.new xs) := fun B0 H0 B H σ sd Q q =>
  h H0 H0 H H σ (sd.fr (noOb_mem ho)).1 Q fun p vs B1 H1 g1 h0 h1 h2 h3 => q p vs B H1 (gr_fr sd g1) h0 (fresh_back sd.sub h0) h2 (denL_sca hs h3)
/-- .. new objects alone -/
theorem ev_frF (h : EvR K E te (sl.map frS) (.frs d)) (ho : noOb sl = true := by rfl) : EvR K E te sl (.frs d) := fun B0 H0 B H σ sd Q q =>
  h H0 H0 H H σ (sd.fr (noOb_mem ho)).1 Q fun v N B1 H1 g1 e n dv => by
    have nb : ∀ p o, B p = some o → N p = none := fun p o z => by
      cases w : N p with
      | none => rfl
      | some u =>
        have := n p u w
        rw [sd.sub p o z] at this
        cases this
    refine q v N (fun p => match N p with | some o => some o | none => B p) H1 ⟨fun p o z => ?_, g1.eh, fun p o z => ?_, fun p h1 h2 => ?_⟩ (fun p o z => ?_) n dv
    · show (match N p with | some o => some o | none => B p) = some o
      rw [nb p o z]
      exact z
    · have z : (match N p with | some o => some o | none => B p) = some o := z
      cases w : N p with
      | none =>
        rw [w] at z
        exact g1.eh p o (sd.sub p o z)
      | some u =>
        rw [w] at z
        cases z
        exact g1.sub p _ (e p _ w)
    · show (match N p with | some o => some o | none => B p) = none
      cases w : N p with
      | none => exact h1
      | some u => exact absurd (n p u w) h2
    · show (match N p with | some o => some o | none => B p) = some o
      rw [z]
/-! targets -/
theorem gw_name {j : Nat} {P : List Sl → Prop} (h : P (sl.set j (.fz d))) : GW K (gName j) d sl P := fun B0 H0 B H σ v sd dv Q q => q _ _ (sd.setFz dv) h
theorem gws_nil {P : List Sl → Prop} (h : P sl) : GWs K gNil [] sl P := fun B0 H0 B H σ vs sd dv Q q => ⟨denL_inv0 dv, q _ _ sd h⟩
theorem gws_cons {g : TG} {gs : TGs} {P : List Sl → Prop} (h : GW K g d sl fun s => GWs K gs ds s P) : GWs K (gCons g gs) (d :: ds) sl P := fun B0 H0 B H σ vs sd dv Q q => by
  obtain ⟨v, r, rfl, h1, h2⟩ := denL_inv dv
  exact ⟨v, r, rfl, h B0 H0 B H σ v sd h1 _ fun σ' sl' s' hp => hp B0 H0 B H σ' r s' h2 Q q⟩
theorem gw_tup {gs : TGs} {n : Nat} {P : List Sl → Prop} (hn : ds.length = n) (h : GWs K gs ds sl P) : GW K (gTup K n gs) (.tup ds) sl P := fun B0 H0 B H σ v sd dv Q q => by
  obtain ⟨a, vs, rfl, h1, h2⟩ := den_tup dv
  exact ⟨a, vs, rfl, SqT.of (sd.sub a _ h1), by rw [← denL_len h2]; exact hn, h B0 H0 B H σ vs sd h2 Q q⟩
/-! for -/
theorem w_for {ti : TI} {g : TG} {tb : TS} (Iv : Nat → List Sl → Prop) (hi : ItE K ti sl xs) (h0 : Iv 0 sl)
    (hs : ∀ i d s, xs[i]? = some d → Iv i s → GW K g d s fun s2 => W K E tb s2 { nx := Iv (i + 1), ct := Iv (i + 1), bk := P.nx, rt := P.rt }) (hd : ∀ s, Iv xs.length s → P.nx s) : W K E (tFor ti g tb) sl P := fun B0 H0 B H σ D sd m =>
  hi B0 H0 B H σ sd _ fun J B1 H1 g1 jo => by
    have sd1 := sd.grow g1
    refine ⟨fun i n σ' H' => n = xs.length - i ∧ i ≤ xs.length ∧ ∃ B' sl', SD K B1 H0 B' H' σ' sl' ∧ Iv i sl', ⟨xs.length, by simp, Nat.zero_le _, B1, sl, sd1.rebase, h0⟩, ?_⟩
    rintro i n σ2 H2 ⟨rfl, hi2, B2, sl2, sd2, iv⟩
    obtain ⟨jg, js⟩ := jo i H2 (sd2.gr.eb.trans sd2.sub)
    by_cases hlt : i < xs.length
    · right
      have hx : xs[i]? = some xs[i] := List.getElem?_eq_getElem hlt
      obtain ⟨go, yl⟩ := jg _ hx
      refine ⟨go, fun σ' H' => ∃ B' sl', SD K B1 H0 B' H' σ' sl' ∧ Iv (i + 1) sl', fun σ' H' ⟨B', sl', s', q⟩ => ⟨xs.length - (i + 1), by omega, rfl, hlt, B', sl', s', q⟩, fun v H3 hy => ?_⟩
      obtain ⟨e3, dv⟩ := yl v H3 hy
      rw [e3]
      refine hs i _ sl2 hx iv B1 H0 B2 H2 σ2 v sd2 (den_mono sd2.gr.eb dv) _ fun σ3 sl3 sd3 hw => ?_
      refine hw B1 H0 B2 H2 σ3 _ sd3 ⟨fun B H σ sl s q => ⟨B, sl, s, q⟩, fun B H σ sl s q => m.nx B H σ sl (s.unbase sd1.gr) q, fun B H σ sl s q => ⟨B, sl, s, q⟩, fun r B H g q => m.rt r B H (gr_un sd1.gr g) q⟩
    · left
      have e : i = xs.length := by omega
      subst e
      exact ⟨js (Nat.le_refl _), m.nx B2 H2 σ2 sl2 (sd2.unbase sd1.gr) (hd sl2 iv)⟩
/-- the states by turns, a name as the target -/
theorem w_forS {α : Type} {ys : List α} {f : α → D} {ti : TI} {j : Nat} {tb : TS} (S : Nat → List Sl) (hi : ItE K ti sl (ys.map f)) (h0 : Fgt sl (S 0))
    (hs : ∀ i a, ys[i]? = some a → W K E tb ((S i).set j (.fz (f a))) { nx := fun s => Fgt s (S (i + 1)), ct := fun s => Fgt s (S (i + 1)), bk := P.nx, rt := P.rt }) (hd : ∀ s, Fgt s (S ys.length) → P.nx s) : W K E (tFor ti (gName j) tb) sl P := by
  refine w_for (fun i s => Fgt s (S i)) hi h0 (fun i d s h1 h2 => ?_) (fun s h => hd s (by rwa [List.length_map] at h))
  rw [List.getElem?_map] at h1
  cases e : ys[i]? with
  | none => rw [e] at h1; cases h1
  | some a =>
    rw [e] at h1
    cases h1
    refine gw_name (w_fgt ?_ (hs i a e))
    refine ⟨by simpa using h2.1, fun k => ?_⟩
    by_cases z : k = j
    · subst z
      by_cases hl : k < s.length
      · rw [List.getElem?_set_self hl, List.getElem?_set_self (by rw [← h2.1]; exact hl)]
        exact .inr rfl
      · have e1 : (s.set k (Sl.fz (f a)))[k]? = none := List.getElem?_eq_none (by simpa using hl)
        have e2 : ((S i).set k (Sl.fz (f a)))[k]? = none := List.getElem?_eq_none (by rw [List.length_set, ← h2.1]; omega)
        rw [e1, e2]
        exact .inr rfl
    · rw [List.getElem?_set_ne (Ne.symm z), List.getElem?_set_ne (Ne.symm z)]
      exact h2.2 k
theorem w_while {c : TT} {tb : TS} (Iv : Nat → List Sl → Prop) (m0 : Nat) (h0 : Iv m0 sl)
    (hs : ∀ m s, Iv m s → ∃ b, EvT K c s b ∧ (b = true → W K E tb s { nx := fun s' => ∃ m', m' < m ∧ Iv m' s', ct := fun s' => ∃ m', m' < m ∧ Iv m' s', bk := P.nx, rt := P.rt }) ∧ (b = false → P.nx s)) : W K E (tWhile c tb) sl P := fun B0 H0 B H σ D sd mt => by
  refine ⟨fun m σ' H' => ∃ B' sl', SD K B0 H0 B' H' σ' sl' ∧ Iv m sl', ⟨m0, B, sl, sd, h0⟩, ?_⟩
  rintro m σ1 H1 ⟨B1, sl1, sd1, iv⟩
  obtain ⟨b, hb, h1, h2⟩ := hs m sl1 iv
  refine hb B0 H0 B1 H1 σ1 sd1 _ fun B2 H2 g2 => ?_
  cases b with
  | true =>
    rw [if_pos rfl]
    refine ⟨fun σ' H' => ∃ m', m' < m ∧ ∃ B' sl', SD K B0 H0 B' H' σ' sl' ∧ Iv m' sl', fun σ' H' q => q, h1 rfl B0 H0 B2 H2 σ1 _ (sd1.grow g2) ⟨fun B H σ sl s ⟨m', hm, q⟩ => ⟨m', hm, B, sl, s, q⟩, mt.nx, fun B H σ sl s ⟨m', hm, q⟩ => ⟨m', hm, B, sl, s, q⟩, mt.rt⟩⟩
  | false =>
    rw [if_neg Bool.false_ne_true]
    exact mt.nx B2 H2 σ1 sl1 (sd1.grow g2) (h2 rfl)
/-! self.f = e -/
theorem putF_zip {f : Str} {v : V} : ∀ {ns : List Str} {vs : List V}, ns.length = vs.length → f ∉ ns → putF f v (ns.zip vs) = (ns ++ [f]).zip (vs ++ [v])
  | [], [], _, _ => rfl
  | [], _ :: _, h, _ => by simp at h
  | _ :: _, [], h, _ => by simp at h
  | n :: ns, w :: vs, h, hn => by
    have ih := putF_zip (f := f) (v := v) (ns := ns) (vs := vs) (by simpa using h) fun z => hn (List.mem_cons_of_mem _ z)
    rw [List.zip_cons_cons, List.cons_append, List.cons_append, List.zip_cons_cons]
    show (if n = f then (n, v) :: ns.zip vs else (n, w) :: putF f v (ns.zip vs)) = _
    rw [if_neg fun z => hn (by rw [z]; exact List.mem_cons_self), ih]
theorem w_fld {p0 C : Addr} {ns : List Str} {es : List D} {f : Str} (hi : sl[0]? = some (.ob p0 C ns es)) (cl : Cls K C) (na : NoAttr K C f) (hf : f ∉ ns) (hz : ns.length < 1000) (h : EvR K E te sl (.frs d)) (k : P.nx (sl.set 0 (.ob p0 C (ns ++ [f]) (es ++ [d])))) (ho : ∀ p0' C' ns' es', Sl.ob p0' C' ns' es' ∉ sl.tail := by simp) :
    W K E (sFld K (tVar 0) te f) sl P := fun B0 H0 B H σ D sd m =>
  h B0 H0 B H σ sd _ fun v Nv B1 H1 g1 ev nv d1 => by
    have s1 := sd.grow g1
    obtain ⟨p, dx, vs, e1, e2, e3, e4, e6, e5⟩ := s1.ob 0 p0 C ns es hi
    refine ⟨_, e1.1, p, C, dx, _, rfl, e4, cl, na, ?_, ?_⟩
    · rw [List.length_zip]
      omega
    · rw [putF_zip e6 hf]
      have hl : 0 < sl.length := (List.getElem?_eq_some_iff.mp hi).1
      have at_ : ∀ (j : Nat) (x : Sl), (sl.set 0 (.ob p0 C (ns ++ [f]) (es ++ [d])))[j]? = some x → (j = 0 ∧ x = .ob p0 C (ns ++ [f]) (es ++ [d])) ∨ (j ≠ 0 ∧ sl[j]? = some x) := fun j x e => by
        by_cases z : j = 0
        · subst z
          rw [List.getElem?_set_self hl] at e
          exact .inl ⟨rfl, (Option.some.inj e).symm⟩
        · rw [List.getElem?_set_ne (Ne.symm z)] at e
          exact .inr ⟨z, e⟩
      have nb : ∀ a o, B1 a = some o → a ≠ p := fun a o h z => by
        rw [z, e3] at h
        cases h
      refine m.nx B1 _ σ _ ⟨⟨s1.gr.eb, fun a o h => ?_, fun a o h => ?_, s1.gr.out⟩, by simpa using s1.len, fun j d' e => ?_, fun j zs e => ?_, fun j p0' C' ns' ds' e => ?_, fun j k' zs ws r f1 f2 f3 f4 => ?_, fun j d' e => ?_⟩ k
      · rw [upd_ne (ne_of_none h e2)]
        exact s1.gr.eh a o h
      · rw [upd_ne (nb a o h)]
        exact s1.gr.sub a o h
      · rcases at_ j _ e with ⟨_, z⟩ | ⟨_, z⟩
        · cases z
        · exact s1.fz j _ z
      · rcases at_ j _ e with ⟨a, z⟩ | ⟨a, z⟩
        · cases z
        · obtain ⟨r, ws, f1, f2, f3, f4, f5⟩ := s1.ow j zs z
          refine ⟨r, ws, f1, f2, f3, ?_, f5⟩
          rw [upd_ne]
          · exact f4
          · rintro rfl
            rw [e4] at f4
            cases f4
      · rcases at_ j _ e with ⟨a, z⟩ | ⟨a, z⟩
        · cases z
          subst a
          obtain ⟨N, n1, n2, n3⟩ := e5
          refine ⟨p, dx, vs ++ [v], e1, e2, e3, upd_same, by simp [e6], fun a => match N a with | some o => some o | none => Nv a, fun a o z => ?_, fun a o z => ?_, denL_app (denL_mono (fun a o z => ?_) n3) (denL_cons (den_mono (fun a o z => ?_) d1) denL_nil)⟩
          · have z : (match N a with | some o => some o | none => Nv a) = some o := z
            cases w : N a with
            | none =>
              rw [w] at z
              exact ev a o z
            | some u =>
              rw [w] at z
              cases z
              exact n1 a _ w
          · have z : (match N a with | some o => some o | none => Nv a) = some o := z
            cases w : N a with
            | none =>
              rw [w] at z
              exact sd.gr.back (nv a o z)
            | some u => exact n2 a u w
          · show (match N a with | some o => some o | none => Nv a) = some o
            rw [z]
          · show (match N a with | some o => some o | none => Nv a) = some o
            cases w : N a with
            | none => exact z
            | some u =>
              exact (n1 a u w).symm.trans (ev a o z)
        · obtain ⟨r, dx', ws, f1, f2, f3, f4, f6, f5⟩ := s1.ob j _ _ _ _ z
          refine absurd (List.mem_of_getElem? (i := j - 1) (l := sl.tail) ?_) (ho p0' C' ns' ds')
          rw [List.getElem?_tail, show j - 1 + 1 = j by omega]
          exact z
      · rcases at_ j _ f1 with ⟨_, z⟩ | ⟨_, z1⟩
        · cases z
        · rcases at_ k' _ f2 with ⟨_, z⟩ | ⟨_, z2⟩
          · cases z
          · exact s1.ap j k' zs ws r z1 z2 f3 f4
      · rcases at_ j _ e with ⟨_, z⟩ | ⟨_, z⟩
        · cases z
        · obtain ⟨v', N, g1', g2, g3, g4, g5, g6⟩ := s1.rg j _ z
          refine ⟨v', N, g1', g2, g3, fun a o h => ?_, g5, fun k' x q f1 f2 f3 => ?_⟩
          · rw [upd_ne (ne_of_none h (g6 0 _ p hi rfl e1.1))]
            exact g4 a o h
          · rcases at_ k' _ f1 with ⟨a, _⟩ | ⟨_, w⟩
            · subst a
              exact g6 0 _ q hi rfl f3
            · exact g6 k' x q w f2 f3
/-! regions -/
theorem SD.setRg {i : Nat} {v : V} {N : Hp} (s : SD K B0 H0 B H σ sl) (n0 : New N H0) (nb : ∀ p o, N p = some o → B p = none) (nh : Ex N H) (nd : Den K N d v) (no : ∀ (j : Nat) (x : Sl) (p : Addr), sl[j]? = some x → x.own = true → σ[j]? = some (some (.ref p)) → N p = none) :
    SD K B0 H0 B H (σ.set i (some v)) (sl.set i (.rg d)) := by
  have ne : ∀ (j : Nat) (x : Sl), (∀ d, x ≠ .rg d) → (sl.set i (.rg d))[j]? = some x → j ≠ i ∧ sl[j]? = some x := fun j x hx e => by
    by_cases z : j = i
    · subst z
      by_cases hl : j < sl.length
      · rw [List.getElem?_set_self hl] at e
        exact absurd (Option.some.inj e).symm (hx d)
      · rw [List.getElem?_eq_none (by simpa using hl)] at e
        cases e
    · exact ⟨z, by rw [List.getElem?_set_ne (Ne.symm z)] at e; exact e⟩
  refine ⟨s.gr, by simpa using s.len, fun j d' e => ?_, fun j xs e => ?_, fun j p0 C ns ds e => ?_, fun j k xs ys p e1 e2 e3 e4 => ?_, fun j d' e => ?_⟩
  · obtain ⟨z, e⟩ := ne j _ (by simp) e
    rw [List.getElem?_set_ne (Ne.symm z)]
    exact s.fz j _ e
  · obtain ⟨z, e⟩ := ne j _ (by simp) e
    rw [List.getElem?_set_ne (Ne.symm z)]
    exact s.ow j xs e
  · obtain ⟨z, e⟩ := ne j _ (by simp) e
    rw [List.getElem?_set_ne (Ne.symm z)]
    exact s.ob j p0 C ns ds e
  · obtain ⟨z1, e1⟩ := ne j _ (by simp) e1
    obtain ⟨z2, e2⟩ := ne k _ (by simp) e2
    rw [List.getElem?_set_ne (Ne.symm z1)] at e3
    rw [List.getElem?_set_ne (Ne.symm z2)] at e4
    exact s.ap j k xs ys p e1 e2 e3 e4
  · by_cases z : j = i
    · subst z
      by_cases hl : j < sl.length
      · rw [List.getElem?_set_self hl] at e
        cases e
        refine ⟨v, N, by rw [List.getElem?_set_self (by rw [s.len]; exact hl)], n0, nb, nh, nd, fun k x p e1 e2 e3 => ?_⟩
        obtain ⟨z1, e1⟩ := ne k x (by cases x <;> first | (simp [Sl.own] at e2; done) | simp) e1
        rw [List.getElem?_set_ne (Ne.symm z1)] at e3
        exact no k x p e1 e2 e3
      · rw [List.getElem?_eq_none (by simpa using hl)] at e
        cases e
    · rw [List.getElem?_set_ne (Ne.symm z)] at e
      obtain ⟨v', N', g1, g2, g3, g4, g5, g6⟩ := s.rg j _ e
      refine ⟨v', N', by rw [List.getElem?_set_ne (Ne.symm z)]; exact g1, g2, g3, g4, g5, fun k x p e1 e2 e3 => ?_⟩
      obtain ⟨z1, e1⟩ := ne k x (by cases x <;> first | (simp [Sl.own] at e2; done) | simp) e1
      rw [List.getElem?_set_ne (Ne.symm z1)] at e3
      exact g6 k x p e1 e2 e3
/-- where one's own things lie, something lies -/
theorem SD.there (s : SD K B0 H0 B H σ sl) {j : Nat} {x : Sl} {p : Addr} (h1 : sl[j]? = some x) (h2 : x.own = true) (h3 : σ[j]? = some (some (.ref p))) : H p ≠ none := by
  cases x with
  | ow xs =>
    obtain ⟨q, us, e1, _, _, e2, _⟩ := s.ow j xs h1
    rw [h3] at e1
    cases e1
    rw [e2]
    simp
  | ob p0 C ns ds =>
    obtain ⟨q, dx, us, ⟨e1, _⟩, _, _, e2, _⟩ := s.ob j _ _ _ _ h1
    rw [h3] at e1
    cases e1
    rw [e2]
    simp
  | _ => cases h2
theorem w_asgR {i : Nat} (h : EvR K E te sl (.frs d)) (k : P.nx (sl.set i (.rg d))) : W K E (tAsg te (gName i)) sl P := fun B0 H0 B H σ D sd m =>
  h B0 H0 B H σ sd _ fun v N B1 H1 g1 e n dv => by
    have g : Gr B H B H1 := ⟨Ex.refl _, g1.eh, sd.sub.trans g1.eh, fun _ h _ => h⟩
    refine m.nx B H1 _ _ ((sd.grow g).setRg (fun p o z => sd.gr.back (n p o z)) (fun p o z => fresh_back sd.sub (n p o z)) (e.trans g1.sub) dv fun j x p h1 h2 h3 => ?_) k
    cases w : N p with
    | none => rfl
    | some o => exact absurd (n p o w) (sd.there h1 h2 h3)
/-- arguments of new objects alone -/
def EvAF (K : PySem.W.Frag) (ta : TA) (sl : List Sl) (ds : List D) : Prop := ∀ B0 H0 B H σ, SD K B0 H0 B H σ sl → ∀ Q : List V → Hp → Prop, (∀ vs N B' H', Gr B H B' H' → Ex N B' → New N H → DenL K N ds vs → Q vs H') → ta σ H Q
theorem eaf_nil : EvAF K tNil sl [] := fun B0 H0 B H σ sd Q q => q [] (fun _ => none) B H (Gr.refl sd.sub) (fun _ _ z => nomatch z) (fun _ _ z => nomatch z) denL_nil
theorem eaf_cons (h : EvR K E0 ta sl (.frs x)) (hr : EvAF K tr sl ds) : EvAF K (tCons ta tr) sl (x :: ds) := fun B0 H0 B H σ sd Q q =>
  h B0 H0 B H σ sd _ fun v N1 B1 H1 g1 e1 n1 d1 => hr B0 H0 B1 H1 σ (sd.grow g1) _ fun vs N2 B2 H2 g2 e2 n2 d2 => by
    have a1 : Ex N1 (fun a => match N1 a with | some o => some o | none => N2 a) := fun a o z => by
      show (match N1 a with | some o => some o | none => N2 a) = some o
      rw [z]
    have a2 : Ex N2 (fun a => match N1 a with | some o => some o | none => N2 a) := fun a o z => by
      show (match N1 a with | some o => some o | none => N2 a) = some o
      cases w : N1 a with
      | none => exact z
      | some u => exact (g2.eb _ _ (e1 a u w)).symm.trans (e2 a o z)
    refine q _ (fun a => match N1 a with | some o => some o | none => N2 a) _ _ (g1.trans g2) (fun a o z => ?_) (fun a o z => ?_) (denL_cons (den_mono a1 d1) (denL_mono a2 d2))
    · have z : (match N1 a with | some o => some o | none => N2 a) = some o := z
      cases w : N1 a with
      | none =>
        rw [w] at z
        exact e2 a o z
      | some u =>
        rw [w] at z
        cases z
        exact g2.eb _ _ (e1 a _ w)
    · have z : (match N1 a with | some o => some o | none => N2 a) = some o := z
      cases w : N1 a with
      | none =>
        rw [w] at z
        exact g1.back (n2 a o z)
      | some u => exact n1 a u w
theorem frs_new {v : V} {N B' H' : Hp} {Q : VK} {p : Addr} {o : HO} (g : Gr B H B' H') (e : Ex N B') (n : New N H) (hp : H' p = none) : Gr B H (upd B' p o) (upd H' p o) ∧ Ex (upd N p o) (upd B' p o) ∧ New (upd N p o) H ∧ N p = none := by
  have bp : B' p = none := fresh_back g.sub hp
  have np : N p = none := fresh_back e bp
  refine ⟨g.trans (Gr.layB g.sub hp), fun a u z => ?_, fun a u z => ?_, np⟩
  · by_cases w : a = p
    · subst w
      rw [upd_same] at z ⊢
      exact z
    · rw [upd_ne w] at z ⊢
      exact e a u z
  · by_cases w : a = p
    · subst w
      exact g.back hp
    · rw [upd_ne w] at z
      exact n a u z
theorem ev_lstF (h : EvAF K tr sl ds) (hl : ds.length ≤ sizeLine) : EvR K E (tLst tr) sl (.frs (.lst ds)) := fun B0 H0 B H σ sd Q q =>
  h B0 H0 B H σ sd _ fun vs N B1 H1 g1 e1 n1 d1 => ⟨by rw [← denL_len d1]; exact hl, fun p hp => by
    obtain ⟨a, b, c, np⟩ := frs_new (v := .non) (Q := Q) (o := .lst vs) g1 e1 n1 hp
    exact q _ _ _ _ a b c (mk_lst upd_same (denL_mono (ex_upd np) d1))⟩
theorem ev_tupF (h : EvAF K tr sl ds) (hl : ds.length ≤ sizeLine) : EvR K E (tTup tr) sl (.frs (.tup ds)) := fun B0 H0 B H σ sd Q q =>
  h B0 H0 B H σ sd _ fun vs N B1 H1 g1 e1 n1 d1 => ⟨by rw [← denL_len d1]; exact hl, fun p hp => by
    obtain ⟨a, b, c, np⟩ := frs_new (v := .non) (Q := Q) (o := .tup vs) g1 e1 n1 hp
    exact q _ _ _ _ a b c (mk_tup upd_same (denL_mono (ex_upd np) d1))⟩
/-- an object that is nobody's here is changed -/
theorem SD.alter {q : Addr} {o : HO} (s : SD K B0 H0 B H σ sl) (hb : B q = none) (h0 : H0 q = none) (ho : ∀ (j : Nat) (x : Sl), sl[j]? = some x → x.own = true → σ[j]? ≠ some (some (.ref q))) (hr : ∀ (j : Nat) (d : D), sl[j]? ≠ some (.rg d)) : SD K B0 H0 B (upd H q o) σ sl := by
  refine ⟨⟨s.gr.eb, fun a u z => ?_, fun a u z => ?_, s.gr.out⟩, s.len, s.fz, fun j xs e => ?_, fun j p0 C ns ds e => ?_, s.ap, fun j d e => absurd e (hr j d)⟩
  · rw [upd_ne (ne_of_none z h0)]
    exact s.gr.eh a u z
  · rw [upd_ne (ne_of_none z hb)]
    exact s.gr.sub a u z
  · obtain ⟨p, vs, h1, h2, h3, h4, h5⟩ := s.ow j xs e
    refine ⟨p, vs, h1, h2, h3, ?_, h5⟩
    rw [upd_ne fun z => ho j _ e rfl (by rw [← z]; exact h1)]
    exact h4
  · obtain ⟨p, dx, vs, h1, h2, h3, h4, h6, h5⟩ := s.ob j p0 C ns ds e
    refine ⟨p, dx, vs, h1, h2, h3, ?_, h6, h5⟩
    rw [upd_ne fun z => ho j _ e rfl (by rw [← z]; exact h1.1)]
    exact h4
theorem fgt_un (sl : List Sl) (i : Nat) : Fgt sl (sl.set i .un) := ⟨by simp, fun k => by
  by_cases z : k = i
  · subst z
    by_cases hl : k < sl.length
    · exact .inl (by rw [List.getElem?_set_self hl])
    · have e1 : (sl.set k Sl.un)[k]? = none := List.getElem?_eq_none (by simpa using hl)
      have e2 : sl[k]? = none := List.getElem?_eq_none (by simpa using hl)
      rw [e1, e2]
      exact .inr rfl
  · exact .inr (by rw [List.getElem?_set_ne (Ne.symm z)])⟩
def noRg : List Sl → Bool
  | [] => true
  | .rg _ :: _ => false
  | _ :: l => noRg l
theorem noRg_at : ∀ {sl : List Sl}, noRg sl = true → ∀ (j : Nat) (d : D), sl[j]? ≠ some (.rg d)
  | [], _, j, d, h => by simp at h
  | s :: l, h, 0, d, e => by
    have e : s = .rg d := by simpa using e
    subst e
    cases h
  | s :: l, h, j + 1, d, e => by
    have h' : noRg l = true := by cases s <;> first | exact h | cases h
    exact noRg_at h' j d (by simpa using e)
theorem denL_intsV : ∀ {ns : List Int} {vs : List V} {N : Hp}, DenL K N (ns.map D.int) vs → ∀ q, V.ref q ∉ vs
  | ns, vs, N, h, q, m => by
    rw [denL_ints h] at m
    obtain ⟨n, _, e⟩ := List.mem_map.mp m
    cases e
/-- for x in xs: x.append(0), xs a list of one's own with lists of ints -/
theorem w_forApp0 {i j : Nat} {xss : List (List Int)} (hi : sl[i]? = some (.rg (.lst (xss.map fun xs => .lst (xs.map .int))))) (hij : i ≠ j) (hj : sl[j]? = some .un) (hr : noRg (sl.set i .un) = true) (hz : ∀ xs ∈ xss, xs.length ≤ 1000) (hn : xss.length ≤ 1000) (k : P.nx (sl.set i .un)) :
    W K E (tFor (iList K (tVar i)) (gName j) (tDrop (tBM K "list" rAppend (tVar j) (tCons (tC (.int 0)) tNil)))) sl P := fun B0 H0 B H σ D sd m => by
  obtain ⟨v, N, h1, h2, h3, h4, h5, h6⟩ := sd.rg i _ hi
  obtain ⟨a, vs, rfl, ha, hd⟩ := den_lst h5
  have hlen := denL_len hd
  rw [List.length_map] at hlen
  have jl : j < σ.length := by
    rw [sd.len]
    exact (List.getElem?_eq_some_iff.mp hj).1
  -- what stands in it
  have ins : ∀ u, u ∈ vs → ∃ q us, u = .ref q ∧ N q = some (.lst us) ∧ us.length ≤ 1000 ∧ ∀ r, V.ref r ∉ us := fun u hu => by
    obtain ⟨l, hl, e⟩ := List.getElem_of_mem hu
    obtain ⟨dd, e1, e2⟩ := denL_getV hd (List.getElem?_eq_some_iff.mpr ⟨hl, e⟩)
    rw [List.getElem?_map] at e1
    cases w : xss[l]? with
    | none => rw [w] at e1; cases e1
    | some xs =>
      rw [w] at e1
      cases e1
      obtain ⟨q, us, e3, e4, e5⟩ := den_lst e2
      refine ⟨q, us, e3, e4, ?_, denL_intsV e5⟩
      rw [← denL_len e5, List.length_map]
      exact hz xs (List.mem_of_getElem? w)
  have own_ : ∀ u q, u ∈ vs → u = V.ref q → q ≠ a := fun u q hu e z => by
    obtain ⟨q', us, e1, e2, _, e4⟩ := ins u hu
    rw [e] at e1
    cases e1
    rw [z, ha] at e2
    cases e2
    exact e4 a (by rw [← z]; rw [e] at hu; exact hu)
  refine ⟨_, h1, a, rfl, ⟨vs, SqL.of (h4 a _ ha)⟩, fun idx mm σ' H' => mm = vs.length - idx ∧ idx ≤ vs.length ∧ SD K B0 H0 B H' σ' (sl.set i .un) ∧ (∀ k, k ≠ j → σ'[k]? = σ[k]?) ∧ σ'.length = σ.length ∧ H' a = some (.lst vs) ∧ ∀ q, V.ref q ∈ vs → ∃ us, H' q = some (.lst us) ∧ us.length ≤ 1000 + idx, ⟨vs.length, by simp, Nat.zero_le _, sd.fgt (fgt_un sl i), fun _ _ => rfl, rfl, h4 a _ ha, fun q hq => ?_⟩, ?_⟩
  · obtain ⟨q', us, e1, e2, e3, _⟩ := ins _ hq
    cases e1
    exact ⟨us, h4 q _ e2, e3⟩
  rintro idx mm σ' H' ⟨rfl, hi2, s', hs', hl', ha', hq'⟩
  by_cases hlt : idx < vs.length
  · right
    refine ⟨⟨vs, vs[idx], SqL.of ha', List.getElem?_eq_getElem hlt⟩, fun σ2 H2 => idx + 1 ≤ vs.length ∧ SD K B0 H0 B H2 σ2 (sl.set i .un) ∧ (∀ k, k ≠ j → σ2[k]? = σ[k]?) ∧ σ2.length = σ.length ∧ H2 a = some (.lst vs) ∧ ∀ q, V.ref q ∈ vs → ∃ us, H2 q = some (.lst us) ∧ us.length ≤ 1000 + (idx + 1), fun σ2 H2 ⟨z1, z2⟩ => ⟨vs.length - (idx + 1), by omega, rfl, z1, z2⟩, fun x H3 hy => ?_⟩
    obtain ⟨e3, hx⟩ := hy
    rw [e3]
    have hx := hx vs (SqL.of ha')
    have hm : x ∈ vs := List.mem_of_getElem? hx
    obtain ⟨q, us0, rfl, nq, _, _⟩ := ins x hm
    obtain ⟨us, hq, hul⟩ := hq' q hm
    have hxj : (σ'.set j (some (V.ref q)))[j]? = some (some (.ref q)) := List.getElem?_set_self (by rw [hl']; exact jl)
    refine ⟨_, hxj, .inl ⟨rfl, _, .inl (.inl hq)⟩, q, us, .int 0, rfl, rfl, hq, ?_, hlt, ?_, fun k hk => ?_, by simpa using hl', ?_, fun r hr2 => ?_⟩
    · have : vs.length ≤ 1000 := by omega
      exact Nat.lt_of_le_of_lt (Nat.le_trans hul (show 1000 + idx ≤ 3000 by omega)) (by decide)
    · have sj : (sl.set i .un).set j .un = sl.set i .un := by
        apply List.ext_getElem?
        intro k
        by_cases z : k = j
        · subst z
          have : (sl.set i Sl.un)[k]? = some .un := by rw [List.getElem?_set_ne hij]; exact hj
          rw [List.getElem?_set_self (by rw [List.length_set, ← sd.len]; exact jl), this]
        · rw [List.getElem?_set_ne (Ne.symm z)]
      have s2 : SD K B0 H0 B H' (σ'.set j (some (V.ref q))) (sl.set i .un) := by
        have := s'.setUn (i := j) (v := some (V.ref q))
        rwa [sj] at this
      refine s2.alter (h3 q _ nq) (h2 q _ nq) (fun l x e1 e2 e4 => ?_) (noRg_at hr)
      have lj : l ≠ j := fun z => by
        subst z
        rw [List.getElem?_set_ne hij, hj] at e1
        cases e1
        cases e2
      have li : l ≠ i := fun z => by
        subst z
        rw [List.getElem?_set_self (by rw [← sd.len]; exact (List.getElem?_eq_some_iff.mp h1).1)] at e1
        cases e1
        cases e2
      rw [List.getElem?_set_ne (Ne.symm lj), hs' l lj] at e4
      rw [List.getElem?_set_ne (Ne.symm li)] at e1
      rw [h6 l x q e1 e2 e4] at nq
      cases nq
    · rw [List.getElem?_set_ne (Ne.symm hk)]
      exact hs' k hk
    · rw [upd_ne (Ne.symm (own_ _ q hm rfl))]
      exact ha'
    · by_cases z : r = q
      · subst z
        exact ⟨_, upd_same, by rw [List.length_append, List.length_singleton]; omega⟩
      · obtain ⟨ws, f1, f2⟩ := hq' r hr2
        exact ⟨ws, by rw [upd_ne z]; exact f1, by omega⟩
  · left
    have e : idx = vs.length := by omega
    subst e
    exact ⟨⟨vs, SqL.of ha', Nat.le_refl _⟩, m.nx B H' σ' _ s' k⟩
end
end Wv
namespace Wv
open PySem L2
open Evl (Ex fresh_back ex_l)

/-! ### defs -/
/-- a def of the text, where it stands -/
def FnAt (K : PySem.W.Frag) (mg : Str → Option Value) (x : Str) (st : Stmt) (ps : List Str) : Prop := ∃ f fd, mg x = some (.ref f) ∧ Fun K x x st f fd ∧ Binds K fd ps []
def MtAt (K : PySem.W.Frag) (C : Addr) (m q : Str) (st : Stmt) (ps : List Str) : Prop := ∃ f fd, Meth K C m f ∧ Fun K m q st f fd ∧ Binds K fd ps []
def MkAt (K : PySem.W.Frag) (mg : Str → Option Value) (x : Str) (C : Addr) (q : Str) (st : Stmt) (ps : List Str) : Prop := ∃ f fd, mg x = some (.ref C) ∧ Mk K C f ∧ Fun K "__init__" q st f fd ∧ Binds K fd ps []
/-- a def that keeps its promise -/
def OkD (P : Program) (w : World) (K : PySem.W.Frag) (mg : Str → Option Value) (base : Heap) (CX : CXT) (k : Nat) (x : Str) (ps : List Str) (sp : Sp) : Prop := ∃ f fd, mg x = some (.ref f) ∧ PySem.W.keepIn K (.ref f) = true ∧ Binds K fd ps [] ∧ FnOk P w K mg base CX k f fd ps sp
def OkM (P : Program) (w : World) (K : PySem.W.Frag) (mg : Str → Option Value) (base : Heap) (CX : CXT) (k : Nat) (C : Addr) (m : Str) (ps : List Str) (sp : Sp) : Prop := ∃ f fd, Meth K C m f ∧ Binds K fd ps [] ∧ FnOk P w K mg base CX k f fd ps sp
def OkI (P : Program) (w : World) (K : PySem.W.Frag) (mg : Str → Option Value) (base : Heap) (CX : CXT) (k : Nat) (x : Str) (C : Addr) (ps : List Str) (sp : Sp) : Prop := ∃ f fd, mg x = some (.ref C) ∧ Mk K C f ∧ Binds K fd ps [] ∧ FnOk P w K mg base CX k f fd ps sp
section
variable {P : Program} {w : World} {K : PySem.W.Frag} {mg : Str → Option Value} {base : Heap} {CX : CXT} {k : Nat} {x m q : Str} {C : Addr} {ps : List Str} {sp : Sp} {st : Stmt}
theorem okD (h : FnAt K mg x st ps) (g : ∀ f fd, Fun K x x st f fd → FnOk P w K mg base CX k f fd ps sp) : OkD P w K mg base CX k x ps sp := by
  obtain ⟨f, fd, h1, h2, h3⟩ := h
  exact ⟨f, fd, h1, h2.kp, h3, g f fd h2⟩
theorem okM (h : MtAt K C m q st ps) (g : ∀ f fd, Fun K m q st f fd → FnOk P w K mg base CX k f fd ps sp) : OkM P w K mg base CX k C m ps sp := by
  obtain ⟨f, fd, h1, h2, h3⟩ := h
  exact ⟨f, fd, h1, h3, g f fd h2⟩
theorem okI (h : MkAt K mg x C q st ps) (g : ∀ f fd, Fun K "__init__" q st f fd → FnOk P w K mg base CX k f fd ps sp) : OkI P w K mg base CX k x C ps sp := by
  obtain ⟨f, fd, h1, h2, h3, h4⟩ := h
  exact ⟨f, fd, h1, h2, h4, g f fd h3⟩
end
section
variable {X : Cx} {CX : CXT} {k : Nat} {C : Addr} {ps : List Str} {sp : Sp} {E : XK} {x m : Str} {p pos apos : Pos} {e o : Expr} {es : List Expr} {ta : TE} {t : TA}
theorem pe_callD (G : OkD X.prog X.w X.K X.mg X.base CX k x ps sp) (hr : Room k X.A) (hg : Gl X x) (hx : Passes CX X E) (ha : PA X (e :: es) t) (hdb : (x == ("__debug__" : Str)) = false := by decide)
    (he : starEach (e :: es) X.env = (false, eval e X.env) :: starEach es X.env := by rfl) (hpl : (backTo pos (starEach es X.env)).any (·.1) = false := by rfl) : PE X (.Call (.Name x p) (e :: es) [] pos) (tCall sp [] E t) := by
  obtain ⟨f, fd, h1, h2, h3, h4⟩ := G
  exact pe_call h4 hr hg h1 h2 h3 .nil hx ha hdb he hpl
theorem pe_callD0 (G : OkD X.prog X.w X.K X.mg X.base CX k x ps sp) (hr : Room k X.A) (hg : Gl X x) (hx : Passes CX X E) (hdb : (x == ("__debug__" : Str)) = false := by decide) : PE X (.Call (.Name x p) [] [] pos) (tCall sp [] E tNil) := by
  obtain ⟨f, fd, h1, h2, h3, h4⟩ := G
  exact pe_call0 h4 hr hg h1 h2 h3 .nil hx hdb
theorem pe_methD {pl : Sem Bool} (he : PE X o ta) (c : Cls X.K C) (G : OkM X.prog X.w X.K X.mg X.base CX k C m ps sp) (hr : Room k X.A) (hx : Passes CX X E) (ha : PA X (e :: es) t)
    (hst : starEach (e :: es) X.env = (false, eval e X.env) :: starEach es X.env := by rfl) (hpl : (backTo pos (starEach es X.env)).any (·.1) = false := by rfl)
    (ht : eval (.Call (.Attribute o m apos) (e :: es) [] pos) X.env = (do
      let ov ← eval o X.env
      standAt apos.atName
      let (f, first) ← holding [ov] (getMethod ov m pl)
      callWith pos f first (backTo pos (starEach (e :: es) X.env)) (backToKw pos (keywordEach [] X.env))) := by rfl) :
    PE X (.Call (.Attribute o m apos) (e :: es) [] pos) (tMeth C m sp [] E ta t) := by
  obtain ⟨f, fd, h1, h2, h3⟩ := G
  exact pe_meth he c h1 h3 hr h2 .nil hx ha hst hpl ht
theorem pe_methD0 {pl : Sem Bool} (he : PE X o ta) (c : Cls X.K C) (G : OkM X.prog X.w X.K X.mg X.base CX k C m ps sp) (hr : Room k X.A) (hx : Passes CX X E)
    (ht : eval (.Call (.Attribute o m apos) [] [] pos) X.env = (do
      let ov ← eval o X.env
      standAt apos.atName
      let (f, first) ← holding [ov] (getMethod ov m pl)
      callWith pos f first (backTo pos (starEach [] X.env)) (backToKw pos (keywordEach [] X.env))) := by rfl) :
    PE X (.Call (.Attribute o m apos) [] [] pos) (tMeth C m sp [] E ta tNil) := by
  obtain ⟨f, fd, h1, h2, h3⟩ := G
  exact pe_meth0 he c h1 h3 hr h2 .nil hx ht
theorem pe_makeD (G : OkI X.prog X.w X.K X.mg X.base CX k x C ps sp) (hr : Room (k + 1) X.A) (hg : Gl X x) (hx : Passes CX X E) (ha : PA X (e :: es) t) (hdb : (x == ("__debug__" : Str)) = false := by decide)
    (he : starEach (e :: es) X.env = (false, eval e X.env) :: starEach es X.env := by rfl) (hpl : (backTo pos (starEach es X.env)).any (·.1) = false := by rfl) : PE X (.Call (.Name x p) (e :: es) [] pos) (tMake C sp [] E t) := by
  obtain ⟨f, fd, h1, h2, h3, h4⟩ := G
  exact pe_make h2 h4 hr hg h1 h3 .nil hx ha hdb he hpl
end

/-! ### a body, from its first state -/
def startS (N : List Str) (ds : List D) : List Sl := ds.map Sl.fz ++ List.replicate (N.length - ds.length) .un
section
variable {K : PySem.W.Frag} {E : XK} {H : Hp} {t : TS} {N : List Str} {vs : List V} {Q : VK} {f : List D → Rs → Prop} {C : Addr}
theorem sp_len {n : Nat} (h : ∀ ds r, f ds r → ds.length = n) : ∀ vs H Q E, SpR K f vs H Q E → vs.length = n := fun vs H Q E ⟨B, ds, r, e, hd, hf, q⟩ => by
  rw [← denL_len hd]
  exact h ds r hf
theorem sd_start {B : Hp} {ds : List D} (e : Ex B H) (hd : DenL K B ds vs) : SD K B H B H (L2.start N vs) (startS N ds) := by
  have hl := denL_len hd
  have at_ : ∀ (i : Nat) (x : Sl), x ≠ .un → (startS N ds)[i]? = some x → ∃ d, ds[i]? = some d ∧ x = .fz d := fun i x hx h => by
    unfold startS at h
    by_cases hi : i < ds.length
    · rw [List.getElem?_append_left (by simpa using hi), List.getElem?_map, List.getElem?_eq_getElem hi] at h
      exact ⟨_, List.getElem?_eq_getElem hi, (Option.some.inj h).symm⟩
    · rw [List.getElem?_append_right (by simpa using hi), List.getElem?_replicate] at h
      split at h
      · exact absurd (Option.some.inj h).symm hx
      · cases h
  refine ⟨Gr.refl e, ?_, fun i d h => ?_, fun i xs h => ?_, fun i p0 C ns ds h => ?_, fun i j xs ys p h => ?_, fun i d h => ?_⟩
  · unfold L2.start startS
    simp [hl]
  · obtain ⟨d', h1, h2⟩ := at_ i _ (by simp) h
    cases h2
    obtain ⟨v, h3, h4⟩ := denL_get hd h1
    refine ⟨v, ?_, h4⟩
    unfold L2.start
    have hi : i < vs.length := (List.getElem?_eq_some_iff.mp h3).1
    rw [List.getElem?_append_left (by simpa using hi), List.getElem?_map, h3]
    rfl
  · obtain ⟨d', _, h2⟩ := at_ i _ (by simp) h
    cases h2
  · obtain ⟨d', _, h2⟩ := at_ i _ (by simp) h
    cases h2
  · obtain ⟨d', _, h2⟩ := at_ i _ (by simp) h
    cases h2
  · obtain ⟨d', _, h2⟩ := at_ i _ (by simp) h
    cases h2
theorem startS_rg (N : List Str) (ds : List D) : ∀ (j : Nat) (d : D), (startS N ds)[j]? ≠ some (.rg d) := fun j d h => by
  unfold startS at h
  have m := List.mem_of_getElem? h
  rcases List.mem_append.mp m with z | z
  · obtain ⟨d', _, e⟩ := List.mem_map.mp z
    cases e
  · have := List.eq_of_mem_replicate z
    cases this
/-- the body's own words, from the data of the arguments -/
theorem go_of (hw : ∀ ds r, f ds r → W K E t (startS N ds) { nx := fun _ => r = .dat .non, rt := fun r' => r' = r }) (h : SpR K f vs H Q E) : t { nx := fun _ H' => Q .non H', rt := Q } (L2.start N vs) H := by
  obtain ⟨B, ds, r, e, hd, hf, q⟩ := h
  refine hw ds r hf B H B H _ _ (sd_start e hd) ⟨fun B' H' σ sl s z => ?_, fun _ _ _ _ _ z => z.elim, fun _ _ _ _ _ z => z.elim, fun r' B' H' g z => ?_⟩
  · subst z
    exact post_v s.sub (q.shift s.gr) mk_non
  · subst z
    exact (PostF.of q).shift g
/-- an __init__ : slot 0 is the new object; nothing is handed back -/
theorem spI_len {fi : List D → Ri → Prop} {n : Nat} (h : ∀ ds r, fi ds r → ds.length + 1 = n) : ∀ vs H Q E, SpI K C fi vs H Q E → vs.length = n := fun vs H Q E ⟨B, H', x, dx, us, ds, r, e, _, _, _, hd, hf, q⟩ => by
  rw [e, List.length_cons, ← denL_len hd]
  exact h ds r hf
def startI (x C : Addr) (N : List Str) (ds : List D) : List Sl := .ob x C [] [] :: (ds.map Sl.fz ++ List.replicate (N.length - (ds.length + 1)) .un)
theorem SD.consOb {B0 H0 B H : Hp} {σ : L2.St} {sl : List Sl} {p C dx : Addr} {ns : List Str} {vs : List V} {ds : List D} (s : SD K B0 H0 B H σ sl) (h0 : H0 p = none) (h1 : B p = none) (h2 : H p = some (.ins C dx (ns.zip vs)))
    (h3 : ns.length = vs.length) (h4 : ∃ N, Ex N B ∧ New N H0 ∧ DenL K N ds vs) (hr : ∀ (j : Nat) (d : D), sl[j]? ≠ some (.rg d)) : SD K B0 H0 B H (some (.ref p) :: σ) (.ob p C ns ds :: sl) := by
  refine ⟨s.gr, by simpa using s.len, fun i d h => ?_, fun i xs h => ?_, fun i p0 C' ns' ds' h => ?_, fun i j xs ys q e1 e2 e3 e4 => ?_, fun i d h => ?_⟩
  · cases i with
    | zero => cases h
    | succ i => exact s.fz i d (by simpa using h)
  · cases i with
    | zero => cases h
    | succ i => exact s.ow i xs (by simpa using h)
  · cases i with
    | zero =>
      cases h
      exact ⟨p, dx, vs, ⟨rfl, rfl⟩, h0, h1, h2, h3, h4⟩
    | succ i => exact s.ob i _ _ _ _ (by simpa using h)
  · cases i with
    | zero => cases e1
    | succ i =>
      cases j with
      | zero => cases e2
      | succ j => rw [s.ap i j xs ys q (by simpa using e1) (by simpa using e2) (by simpa using e3) (by simpa using e4)]
  · cases i with
    | zero => cases h
    | succ i => exact absurd (by simpa using h) (hr i d)
theorem goI_of {fi : List D → Ri → Prop} (hw : ∀ x ds r, fi ds r → W K E t (startI x C N ds) { nx := fun s => ∃ ns es, r = .ok ns es ∧ s[0]? = some (.ob x C ns es), rt := fun r' => ∃ C', r = .exc C' ∧ r' = .exc C' })
    (h : SpI K C fi vs H Q E) : t { nx := fun _ H' => Q .non H', rt := Q } (L2.start N vs) H := by
  obtain ⟨B, H', x, dx, us, ds, r, rfl, e, hx, rfl, hd, hf, q⟩ := h
  have hl := denL_len hd
  have bx : B x = none := fresh_back e hx
  have sd := (sd_start (N := N.tail) e hd).grow (Gr.lay (o := .ins C dx []) e hx)
  have e1 : L2.start N (V.ref x :: us) = some (V.ref x) :: L2.start N.tail us := by
    unfold L2.start
    rw [List.map_cons, List.cons_append, List.length_cons, List.length_tail, show N.length - (us.length + 1) = N.length - 1 - us.length by omega]
  have e2 : startI x C N ds = .ob x C [] [] :: startS N.tail ds := by
    unfold startI startS
    rw [List.length_tail, show N.length - (ds.length + 1) = N.length - 1 - ds.length by omega]
  have sd2 : SD K B H' B (upd H' x (.ins C dx [])) (L2.start N (V.ref x :: us)) (startI x C N ds) := by
    rw [e1, e2]
    exact sd.consOb (ns := []) (vs := []) hx bx upd_same rfl ⟨fun _ => none, fun _ _ z => (nomatch z), fun _ _ z => (nomatch z), denL_nil⟩ (startS_rg _ _)
  refine hw x ds r hf B H' B _ _ _ sd2 ⟨fun B' H2 σ sl s z => ?_, fun _ _ _ _ _ z => z.elim, fun _ _ _ _ _ z => z.elim, fun r' B' H2 g z => ?_⟩
  · obtain ⟨ns, es, rfl, h1⟩ := z
    obtain ⟨p, dx', ws, ⟨f1, f7⟩, f2, f3, f4, f5, f6⟩ := s.ob 0 _ _ _ _ h1
    subst f7
    exact q dx' ws B' H2 s.gr f3 f4 f5 f6
  · obtain ⟨C', rfl, rfl⟩ := z
    exact fun B2 H3 g2 => q B2 H3 (g.trans g2)
end
end Wv
namespace Wv
open PySem L2 PyProof.Rows
open Evl (Ex fresh_back ex_l)

/-! ### promises by their arguments' shapes -/
def R1 {a : Type} (c : a → D) (p : a → Prop) (g : a → Rs) : List D → Rs → Prop := fun ds r => ∃ x, ds = [c x] ∧ p x ∧ r = g x
def R2' {a b : Type} (c : a → D) (d : b → D) (p : a → b → Prop) (g : a → b → Rs) : List D → Rs → Prop := fun ds r => ∃ x y, ds = [c x, d y] ∧ p x y ∧ r = g x y
def R3 {a b c : Type} (ca : a → D) (cb : b → D) (cc : c → D) (p : a → b → c → Prop) (g : a → b → c → Rs) : List D → Rs → Prop := fun ds r => ∃ x y z, ds = [ca x, cb y, cc z] ∧ p x y z ∧ r = g x y z
def R4 {a b c d : Type} (ca : a → D) (cb : b → D) (cc : c → D) (cd : d → D) (p : a → b → c → d → Prop) (g : a → b → c → d → Rs) : List D → Rs → Prop := fun ds r => ∃ x y z u, ds = [ca x, cb y, cc z, cd u] ∧ p x y z u ∧ r = g x y z u
theorem R1.len {a : Type} {c : a → D} {p : a → Prop} {g : a → Rs} : ∀ ds r, R1 c p g ds r → ds.length = 1 := by
  rintro ds r ⟨x, rfl, _, _⟩
  rfl
theorem R2'.len {a b : Type} {c : a → D} {d : b → D} {p : a → b → Prop} {g : a → b → Rs} : ∀ ds r, R2' c d p g ds r → ds.length = 2 := by
  rintro ds r ⟨x, y, rfl, _, _⟩
  rfl
theorem R3.len {a b c : Type} {ca : a → D} {cb : b → D} {cc : c → D} {p : a → b → c → Prop} {g : a → b → c → Rs} : ∀ ds r, R3 ca cb cc p g ds r → ds.length = 3 := by
  rintro ds r ⟨x, y, z, rfl, _, _⟩
  rfl
theorem R4.len {a b c d : Type} {ca : a → D} {cb : b → D} {cc : c → D} {cd : d → D} {p : a → b → c → d → Prop} {g : a → b → c → d → Rs} : ∀ ds r, R4 ca cb cc cd p g ds r → ds.length = 4 := by
  rintro ds r ⟨x, y, z, u, rfl, _, _⟩
  rfl
theorem R1.mk {a : Type} {c : a → D} {p : a → Prop} {g : a → Rs} {x : a} (h : p x) : R1 c p g [c x] (g x) := ⟨x, rfl, h, rfl⟩
theorem R2'.mk {a b : Type} {c : a → D} {d : b → D} {p : a → b → Prop} {g : a → b → Rs} {x : a} {y : b} (h : p x y) : R2' c d p g [c x, d y] (g x y) := ⟨x, y, rfl, h, rfl⟩
theorem R3.mk {a b c : Type} {ca : a → D} {cb : b → D} {cc : c → D} {p : a → b → c → Prop} {g : a → b → c → Rs} {x : a} {y : b} {z : c} (h : p x y z) : R3 ca cb cc p g [ca x, cb y, cc z] (g x y z) := ⟨x, y, z, rfl, h, rfl⟩
theorem R4.mk {a b c d : Type} {ca : a → D} {cb : b → D} {cc : c → D} {cd : d → D} {p : a → b → c → d → Prop} {g : a → b → c → d → Rs} {x : a} {y : b} {z : c} {u : d} (h : p x y z u) : R4 ca cb cc cd p g [ca x, cb y, cc z, cd u] (g x y z u) := ⟨x, y, z, u, rfl, h, rfl⟩

/-! ### shapes -/
abbrev nat (n : Nat) : D := .int (n : Int)
abbrev natL (ns : List Nat) : D := .lst (ns.map nat)
abbrev intL (ns : List Int) : D := .lst (ns.map .int)
abbrev blL (bs : List Bool) : D := .lst (bs.map .bl)
/-- a council of n members with its table -/
abbrev cou (C : Addr) (n : Nat) (t : List Bool) : D := .obj C ["members", "table"] [nat n, blL t]
theorem nats_ints (ns : List Nat) : ns.map nat = (ns.map fun (n : Nat) => (n : Int)).map D.int := by
  rw [List.map_map]
  rfl
theorem lk_members (a b : D) : (List.zip (["members", "table"] : List Str) [a, b]).lookup ("members" : Str) = some a := by
  show List.lookup _ [(("members" : Str), a), (("table" : Str), b)] = _
  rw [List.lookup_cons, show (("members" : Str) == ("members" : Str)) = true by decide +kernel]
theorem lk_table (a b : D) : (List.zip (["members", "table"] : List Str) [a, b]).lookup ("table" : Str) = some b := by
  show List.lookup _ [(("members" : Str), a), (("table" : Str), b)] = _
  rw [List.lookup_cons, show (("table" : Str) == ("members" : Str)) = false by decide +kernel, List.lookup_cons, show (("table" : Str) == ("table" : Str)) = true by decide +kernel]

/-! ### numbers -/
theorem and_nat (a b : Nat) : Builtin.bitAnd (a : Int) (b : Int) = ((a &&& b : Nat) : Int) := by
  rw [bitAnd_pp (by omega) (by omega), Int.toNat_natCast, Int.toNat_natCast]
theorem or_nat (a b : Nat) : Builtin.bitOr (a : Int) (b : Int) = ((a ||| b : Nat) : Int) := by
  rw [Bits.bitOr_pp (by omega) (by omega), Int.toNat_natCast, Int.toNat_natCast]
theorem xor_nat (a b : Nat) : Builtin.bitXor (a : Int) (b : Int) = ((a ^^^ b : Nat) : Int) := by
  rw [Bits.bitXor_pp (by omega) (by omega), Int.toNat_natCast, Int.toNat_natCast]
theorem shl_nat (a k : Nat) : (a : Int) * (2 : Int) ^ ((k : Int)).toNat = ((a <<< k : Nat) : Int) := by
  rw [Int.toNat_natCast, Nat.shiftLeft_eq]
  exact Bits.natCast_mul_pow a k
theorem shl_one (k : Nat) : (1 : Int) * (2 : Int) ^ ((k : Int)).toNat = ((1 <<< k : Nat) : Int) := shl_nat 1 k
theorem shr_nat (a k : Nat) : (a : Int) / (2 : Int) ^ ((k : Int)).toNat = ((a >>> k : Nat) : Int) := by
  rw [Int.toNat_natCast, Nat.shiftRight_eq_div_pow, two_pow_cast, Int.natCast_ediv]
theorem bit_one (a : Nat) : Builtin.bitAnd (a : Int) 1 = ((a % 2 : Nat) : Int) := by
  rw [show (1 : Int) = ((1 : Nat) : Int) from rfl, and_nat, Nat.and_one_is_mod]
theorem bit_is (g k : Nat) : decide (Builtin.bitAnd ((g : Int) / (2 : Int) ^ ((k : Int)).toNat) 1 = 1) = g.testBit k := by
  rw [shr_nat, bit_one, Nat.testBit_eq_decide_div_mod_eq, Nat.shiftRight_eq_div_pow, decide_eq_decide]
  omega
theorem bit_no (g k : Nat) : decide (Builtin.bitAnd ((g : Int) / (2 : Int) ^ ((k : Int)).toNat) 1 = 0) = !g.testBit k := by
  rw [shr_nat, bit_one, Nat.testBit_eq_decide_div_mod_eq, Nat.shiftRight_eq_div_pow, ← decide_not, decide_eq_decide]
  omega
theorem holds_nat (a b : Nat) : decide (Builtin.bitAnd (a : Int) (b : Int) = (b : Int)) = decide (a &&& b = b) := by
  rw [and_nat, decide_eq_decide]
  omega

section
variable {K : PySem.W.Frag} {E E' : XK} {sl : List Sl} {ta tb tc te : TE} {t u : TT} {x y z d : D} {xs ys ds : List D} {r : R2} {tr : TA}
/-! ### ranges by naturals -/
theorem rng_nat (n : Nat) : (rng 0 n).map D.int = (List.range n).map nat := by
  unfold rng
  rw [List.map_map]
  refine List.map_congr_left fun i _ => ?_
  show D.int (0 + (i : Int)) = D.int (i : Int)
  rw [Int.zero_add]
theorem it_rngN {n : Nat} {m : Int} (h : EvA K tr sl [.int m]) (e : m = (n : Int)) (hn : n < 4000000000000000000) : ItE K (iRng1 tr) sl ((List.range n).map nat) := by
  subst e
  rw [← rng_nat]
  have q := it_rng1 h (by omega) (by omega)
  rwa [Int.toNat_natCast] at q
/-! ### items -/
theorem od_ixB {bs : List Bool} {g : Nat} (h : g < bs.length) : OpD K (rIxL K) (blL bs) (nat g) (.dat (.bl (bs.getD g false))) := od_ixL (by omega) (by
  rw [Int.toNat_natCast, List.getElem?_map, List.getElem?_eq_getElem h, List.getD_eq_getElem?_getD, List.getElem?_eq_getElem h]
  rfl)
theorem od_ixI {ns : List Int} {g : Nat} (h : g < ns.length) : OpD K (rIxL K) (intL ns) (nat g) (.dat (.int (ns.getD g 0))) := od_ixL (by omega) (by
  rw [Int.toNat_natCast, List.getElem?_map, List.getElem?_eq_getElem h, List.getD_eq_getElem?_getD, List.getElem?_eq_getElem h]
  rfl)
theorem od_ixN {ns : List Nat} {g : Nat} (h : g < ns.length) : OpD K (rIxL K) (natL ns) (nat g) (.dat (nat (ns.getD g 0))) := od_ixL (by omega) (by
  rw [Int.toNat_natCast, List.getElem?_map, List.getElem?_eq_getElem h, List.getD_eq_getElem?_getD, List.getElem?_eq_getElem h]
  rfl)
theorem od_to {d' : D} (h : OpD K r x y (.dat d)) (e : d = d') : OpD K r x y (.dat d') := by
  rw [← e]
  exact h
theorem od_y {y' : D} {s : Rs} (h : OpD K r x y s) (e : y' = y) : OpD K r x y' s := by
  rw [e]
  exact h
theorem ev_x (h : EvR K E te sl (.dat d)) (e : d = x) : EvR K E te sl (.dat x) := ev_is h e
theorem cb_anyM {α : Type} {as : List α} {f : α → Bool} : CbD K (rAny K) [.lst (as.map fun a => .bl (f a))] (.dat (.bl (as.any f))) := by
  have h := cb_any (K := K) (ns := as.map f)
  rw [List.map_map, List.any_map] at h
  exact h
theorem cb_allM {α : Type} {as : List α} {f : α → Bool} : CbD K (rAll K) [.lst (as.map fun a => .bl (f a))] (.dat (.bl (as.all f))) := by
  have h := cb_all (K := K) (ns := as.map f)
  rw [List.map_map, List.all_map] at h
  exact h
theorem cb_sumM {α : Type} {as : List α} {f : α → Int} : CbD K (rSum K) [.lst (as.map fun a => .int (f a))] (.dat (.int (as.map f).sum)) := by
  have h := cb_sum (K := K) (ns := as.map f)
  rw [List.map_map] at h
  exact h
/-! ### equalities of lists by naturals -/
theorem natI_inj : ∀ {ns ms : List Nat}, (ns.map fun (n : Nat) => (n : Int)) = (ms.map fun (n : Nat) => (n : Int)) → ns = ms
  | [], [], _ => rfl
  | [], _ :: _, h => by simp at h
  | _ :: _, [], h => by simp at h
  | n :: ns, m :: ms, h => by
    simp only [List.map_cons, List.cons.injEq] at h
    rw [natI_inj h.2, show n = m by omega]
theorem od_eqN {ns ms : List Nat} : OpD K (rEqD K) (natL ns) (natL ms) (.dat (.bl (decide (ns = ms)))) := by
  unfold natL
  rw [nats_ints, nats_ints]
  refine od_to od_eqL ?_
  rw [decide_eq_decide.mpr ⟨natI_inj, fun h => by rw [h]⟩]
theorem od_neN {ns ms : List Nat} : OpD K (rNeD K) (natL ns) (natL ms) (.dat (.bl (!decide (ns = ms)))) := by
  unfold natL
  rw [nats_ints, nats_ints]
  refine od_to od_neL ?_
  rw [decide_eq_decide.mpr ⟨natI_inj, fun h => by rw [h]⟩]
end
theorem hu64 {k : Nat} {A : Around} (hr : Room k A) : A.units + 64 < cLine := hr.units
end Wv
namespace Wv
theorem pw_nat (n : Nat) : (1 : Int) * (2 : Int) ^ ((n : Int)).toNat = ((2 ^ n : Nat) : Int) := by
  rw [Int.toNat_natCast]
  exact (Bits.natCast_mul_pow 1 n).trans (by rw [Nat.one_mul])
end Wv
namespace Wv
open PySem L2
/-- the first is False: the others aren't asked -/
theorem ev_andV' {K : PySem.W.Frag} {E : XK} {sl : List Sl} {ta tb : TE} (h1 : EvR K E ta sl (.dat (.bl false))) : EvR K E (tAndV ta tb) sl (.dat (.bl false)) := ev_andV (b := false) h1 fun z => nomatch z
end Wv
namespace Wv
open PySem L2
inductive Wi : D → Int → Int → Bool → Prop where
  | int (n lo hi : Int) : Wi (.int n) lo hi (decide (lo ≤ n) && decide (n ≤ hi))
  | bl (b : Bool) (lo hi : Int) : Wi (.bl b) lo hi false
  | no (x : D) (T : String) (lo hi : Int) (h : TyD x T) (hT : kitB T "int" = some false) : Wi x lo hi false
def c_within : List D → Rs → Prop := fun ds r => ∃ x lo hi b, ds = [x, .int lo, .int hi] ∧ Wi x lo hi b ∧ r = .dat (.bl b)
theorem c_within.len : ∀ ds r, c_within ds r → ds.length = 3 := by
  rintro ds r ⟨_, _, _, _, rfl, _⟩
  rfl
theorem c_within.i (n lo hi : Int) : c_within [.int n, .int lo, .int hi] (.dat (.bl (decide (lo ≤ n) && decide (n ≤ hi)))) := ⟨_, _, _, _, rfl, Wi.int _ _ _, rfl⟩
/-- promises over councils -/
def RC1 (C : Addr) (p : Nat → List Bool → Prop) (g : Nat → List Bool → Rs) : List D → Rs → Prop := fun ds r => ∃ n t, ds = [cou C n t] ∧ p n t ∧ r = g n t
def RC2 {a : Type} (C : Addr) (c : a → D) (p : Nat → List Bool → a → Prop) (g : Nat → List Bool → a → Rs) : List D → Rs → Prop := fun ds r => ∃ n t x, ds = [cou C n t, c x] ∧ p n t x ∧ r = g n t x
def RCC (C : Addr) (p : Nat → List Bool → Nat → List Bool → Prop) (g : Nat → List Bool → Nat → List Bool → Rs) : List D → Rs → Prop := fun ds r => ∃ n t m u, ds = [cou C n t, cou C m u] ∧ p n t m u ∧ r = g n t m u
theorem RC1.len {C : Addr} {p : Nat → List Bool → Prop} {g : Nat → List Bool → Rs} : ∀ ds r, RC1 C p g ds r → ds.length = 1 := by
  rintro ds r ⟨_, _, rfl, _⟩
  rfl
theorem RC2.len {a : Type} {C : Addr} {c : a → D} {p : Nat → List Bool → a → Prop} {g : Nat → List Bool → a → Rs} : ∀ ds r, RC2 C c p g ds r → ds.length = 2 := by
  rintro ds r ⟨_, _, _, rfl, _⟩
  rfl
theorem RCC.len {C : Addr} {p : Nat → List Bool → Nat → List Bool → Prop} {g : Nat → List Bool → Nat → List Bool → Rs} : ∀ ds r, RCC C p g ds r → ds.length = 2 := by
  rintro ds r ⟨_, _, _, _, rfl, _⟩
  rfl
theorem RC1.mk {C : Addr} {p : Nat → List Bool → Prop} {g : Nat → List Bool → Rs} {n : Nat} {t : List Bool} (h : p n t) : RC1 C p g [cou C n t] (g n t) := ⟨n, t, rfl, h, rfl⟩
theorem RC2.mk {a : Type} {C : Addr} {c : a → D} {p : Nat → List Bool → a → Prop} {g : Nat → List Bool → a → Rs} {n : Nat} {t : List Bool} {x : a} (h : p n t x) : RC2 C c p g [cou C n t, c x] (g n t x) := ⟨n, t, x, rfl, h, rfl⟩
theorem RCC.mk {C : Addr} {p : Nat → List Bool → Nat → List Bool → Prop} {g : Nat → List Bool → Nat → List Bool → Rs} {n m : Nat} {t u : List Bool} (h : p n t m u) : RCC C p g [cou C n t, cou C m u] (g n t m u) := ⟨n, t, m, u, rfl, h, rfl⟩
/-! ### what the program says, in plain words -/
/-- a group without each one of its members -/
def wo (g : Nat) : List Nat := ((List.range 5).filter fun k => g.testBit k).map fun k => g ^^^ 2 ^ k
/-- for each group whether it has all of some one -/
def tab (n : Nat) (gs : List Nat) : List Bool := (List.range (2 ^ n)).map fun g => gs.any fun o => decide (g &&& o = o)
def leastM (t : List Bool) : List Nat := (List.range t.length).filter fun g => t.getD g false && !((wo g).any fun l => t.getD l false)
def greatM (t : List Bool) : List Nat := (List.range t.length).filter fun g => !t.getD g false && ((wo ((t.length - 1) ^^^ g)).all fun l => t.getD ((t.length - 1) ^^^ l) false)
def wgt (ws : List Int) (g : Nat) : Int := (((List.range ws.length).filter fun k => g.testBit k).map fun k => ws.getD k 0).sum
theorem tab_len (n : Nat) (gs : List Nat) : (tab n gs).length = 2 ^ n := by simp [tab]
theorem pow_le (n : Nat) (h : n ≤ 5) : 2 ^ n ≤ 32 := Nat.pow_le_pow_right (by decide) h
theorem filt_yes {P : Nat → Bool} {i : Nat} (h : P i = true) : (List.range (i + 1)).filter P = (List.range i).filter P ++ [i] := by
  rw [List.range_succ, List.filter_append, List.filter_cons, if_pos h]
  rfl
theorem filt_no {P : Nat → Bool} {i : Nat} (h : P i = false) : (List.range (i + 1)).filter P = (List.range i).filter P := by
  rw [List.range_succ, List.filter_append, List.filter_cons, if_neg (by rw [h]; decide)]
  simp
theorem filt_len (P : Nat → Bool) (i : Nat) : ((List.range i).filter P).length ≤ i := by
  have h := List.length_filter_le P (List.range i)
  rwa [List.length_range] at h
theorem xor_bit_lt {g k : Nat} (h : g.testBit k = true) : g ^^^ 2 ^ k < g := by
  have hk : (g ^^^ 2 ^ k).testBit k = false := by
    rw [Nat.testBit_xor, Nat.testBit_two_pow, h]
    simp
  have le : g ^^^ 2 ^ k ≤ g := Nat.le_of_testBit fun i hi => by
    rw [Nat.testBit_xor, Nat.testBit_two_pow] at hi
    by_cases e : k = i
    · subst e
      rw [h]
    · rw [decide_eq_false e, Bool.xor_false] at hi
      exact hi
  rcases Nat.lt_or_eq_of_le le with l | e
  · exact l
  · rw [e, h] at hk
    cases hk
theorem wo_lt {g l : Nat} (h : l ∈ wo g) : l < g := by
  unfold wo at h
  rw [List.mem_map] at h
  obtain ⟨k, hk, rfl⟩ := h
  exact xor_bit_lt (List.mem_filter.mp hk).2
end Wv
namespace Wv
theorem lit0 : (0 : Int) = ((0 : Nat) : Int) := rfl
theorem lit1 : (1 : Int) = ((1 : Nat) : Int) := rfl
theorem lit2 : (2 : Int) = ((2 : Nat) : Int) := rfl
theorem lit3 : (3 : Int) = ((3 : Nat) : Int) := rfl
theorem lit4 : (4 : Int) = ((4 : Nat) : Int) := rfl
theorem lit5 : (5 : Int) = ((5 : Nat) : Int) := rfl
theorem lit6 : (6 : Int) = ((6 : Nat) : Int) := rfl
theorem lit7 : (7 : Int) = ((7 : Nat) : Int) := rfl
theorem lit8 : (8 : Int) = ((8 : Nat) : Int) := rfl
theorem lit31 : (31 : Int) = ((31 : Nat) : Int) := rfl
theorem lit32 : (32 : Int) = ((32 : Nat) : Int) := rfl
theorem lit40 : (40 : Int) = ((40 : Nat) : Int) := rfl
end Wv
namespace Wv
theorem wo_len (g : Nat) : (wo g).length ≤ 5 := by
  unfold wo
  rw [List.length_map]
  have h := List.length_filter_le (fun k => g.testBit k) (List.range 5)
  rwa [List.length_range] at h
theorem wo_big (g : Nat) : (wo g).length ≤ 1000000 := Nat.le_trans (wo_len g) (by decide)
end Wv
namespace Wv
open PySem L2
section
variable {K : PySem.W.Frag}
theorem od_andN {a b : Nat} : OpD K (rI0 fun i j => .int (Builtin.bitAnd i j)) (nat a) (nat b) (.dat (nat (a &&& b))) := od_to od_i (by rw [and_nat])
theorem od_orN {a b : Nat} : OpD K (rI0 fun i j => .int (Builtin.bitOr i j)) (nat a) (nat b) (.dat (nat (a ||| b))) := od_to od_i (by rw [or_nat])
theorem od_xorN {a b : Nat} : OpD K (rI0 fun i j => .int (Builtin.bitXor i j)) (nat a) (nat b) (.dat (nat (a ^^^ b))) := od_to od_i (by rw [xor_nat])
theorem od_shl1 {k : Nat} (h : k ≤ 1000000) : OpD K (rI CPow fun i j => .int (i * 2 ^ j.toNat)) (.int 1) (nat k) (.dat (nat (2 ^ k))) := od_to (od_ic ⟨by omega, by omega, by decide⟩) (by rw [pw_nat])
theorem dec_nat (a b : Nat) : decide ((a : Int) = (b : Int)) = decide (a = b) := decide_eq_decide.mpr ⟨fun h => by omega, fun h => by omega⟩
theorem od_eqNat {a b : Nat} : OpD K rEq (nat a) (nat b) (.dat (.bl (decide (a = b)))) := od_to od_eqI (by rw [dec_nat])
theorem od_neNat {a b : Nat} : OpD K rNe (nat a) (nat b) (.dat (.bl (!decide (a = b)))) := od_to od_neI (by rw [dec_nat])
end
end Wv
namespace Wv
open PySem L2
theorem cb_lenM {K : PySem.W.Frag} {α : Type} {as : List α} {f : α → D} : CbD K (rLen K) [.lst (as.map f)] (.dat (.int (as.length : Int))) := by
  have h := cb_len (K := K) (xs := as.map f)
  rwa [List.length_map] at h
end Wv
namespace Wv
open PySem L2
def c_Council_init : List D → Ri → Prop := fun ds r => ∃ n gs, ds = [nat n, natL gs] ∧ (1 ≤ n ∧ n ≤ 5 ∧ gs.length ≤ 1000 ∧ ∀ g ∈ gs, g < 2 ^ n) ∧ r = .ok ["members", "table"] [nat n, blL (tab n gs)]
theorem c_Council_init.mk {n : Nat} {gs : List Nat} (h1 : 1 ≤ n) (h5 : n ≤ 5) (hl : gs.length ≤ 1000) (hg : ∀ g ∈ gs, g < 2 ^ n) : c_Council_init [nat n, natL gs] (.ok ["members", "table"] [nat n, blL (tab n gs)]) := ⟨n, gs, rfl, ⟨h1, h5, hl, hg⟩, rfl⟩
end Wv
namespace Wv
open PySem L2
open Evl (Ex fresh_back)
/-! ### results of which only a property is told -/
def EvU (K : PySem.W.Frag) (te : TE) (sl : List Sl) (F : D → Prop) : Prop := ∀ B0 H0 B H σ, SD K B0 H0 B H σ sl → ∀ Q : VK, (∀ d, F d → ∀ v B' H', Gr B H B' H' → Den K B' d v → Q v H') → te σ H Q
def SpU (K : PySem.W.Frag) (f : List D → (D → Prop) → Prop) : Sp := fun vs H Q E => ∃ B ds F, Ex B H ∧ DenL K B ds vs ∧ f ds F ∧ ∀ d, F d → ∀ v B' H', Gr B H B' H' → Den K B' d v → Q v H'
section
variable {K : PySem.W.Frag} {E E' : XK} {sl : List Sl} {te : TE} {tr : TA} {ds : List D} {F : D → Prop} {P : En} {H : Hp} {t : TS} {N : List Str} {vs : List V} {Q : VK}
theorem ev_callU {f : List D → (D → Prop) → Prop} (ha : EvA K tr sl ds) (hf : f ds F) : EvU K (tCall (SpU K f) [] E' tr) sl F := fun B0 H0 B H σ sd Q q =>
  ha B0 H0 B H σ sd _ fun vs B1 H1 g1 d1 => by
    rw [List.append_nil]
    exact ⟨B1, ds, F, g1.sub, d1, hf, fun d hd v B' H' g dv => q d hd v B' H' (g1.trans g) dv⟩
theorem w_asgU {i : Nat} (h : EvU K te sl F) (k : ∀ d, F d → P.nx (sl.set i (.fz d))) : W K E (tAsg te (gName i)) sl P := fun B0 H0 B H σ D sd m =>
  h B0 H0 B H σ sd _ fun d hd v B1 H1 g1 d1 => m.nx B1 H1 _ _ ((sd.grow g1).setFz d1) (k d hd)
theorem spU_len {f : List D → (D → Prop) → Prop} {n : Nat} (h : ∀ ds F, f ds F → ds.length = n) : ∀ vs H Q E, SpU K f vs H Q E → vs.length = n := fun vs H Q E ⟨B, ds, r, e, hd, hf, q⟩ => by
  rw [← denL_len hd]
  exact h ds r hf
theorem goU_of {f : List D → (D → Prop) → Prop} (hw : ∀ ds F, f ds F → W K E t (startS N ds) { nx := fun _ => False, rt := fun r => ∃ d, r = .dat d ∧ F d }) (h : SpU K f vs H Q E) : t { nx := fun _ H' => Q .non H', rt := Q } (L2.start N vs) H := by
  obtain ⟨B, ds, F, e, hd, hf, q⟩ := h
  refine hw ds F hf B H B H _ _ (sd_start e hd) ⟨fun B' H' σ sl s z => z.elim, fun _ _ _ _ _ z => z.elim, fun _ _ _ _ _ z => z.elim, fun r' B' H' g z => ?_⟩
  obtain ⟨d, rfl, hF⟩ := z
  exact fun v B2 H2 g2 dv => q d hF v B2 H2 (g.trans g2) dv
end
/-! ### draws -/
def primesM : List Nat := [1000003, 1000033, 1000037, 1000039, 1000081, 1000099, 1000117, 1000121]
def blendM (c : Int) (k : Nat) : Int := c * 48271 + (k : Int) * 69621 + c / 1000003 % 1000003 * 40692
def drawM (c : Int) (k : Nat) (m : Int) : Nat := (blendM c k % ((primesM.getD (k % 8) 1 : Nat) : Int) % m).toNat
theorem drawM_lt (c : Int) (k : Nat) {m : Int} (h : 0 < m) : (drawM c k m : Int) < m := by
  unfold drawM
  have h1 := Int.emod_nonneg (blendM c k % ((primesM.getD (k % 8) 1 : Nat) : Int)) (show m ≠ 0 by omega)
  have h2 := Int.emod_lt_of_pos (blendM c k % ((primesM.getD (k % 8) 1 : Nat) : Int)) h
  omega
theorem drawM_nat (c : Int) (k : Nat) {m : Nat} (h : 0 < m) : drawM c k (m : Int) < m := by
  have := drawM_lt c k (m := (m : Int)) (by omega)
  omega
theorem primes_pos : ∀ k, k < 8 → 0 < primesM.getD k 1 := by decide
def c_law_cell_at : List D → Rs → Prop := R2' D.scr nat (fun _ _ => True) fun ns k => .dat (.int (ns.getD k 0))
def c_law_draw : List D → Rs → Prop := R3 D.int nat D.int (fun _ _ m => 0 < m) fun c k m => .dat (nat (drawM c k m))
/-- a told council -/
def ToldOk (m : Nat) (gs : List Nat) : Prop := 1 ≤ m ∧ m ≤ 5 ∧ gs.length ≤ 32 ∧ ∀ g ∈ gs, g < 2 ^ m
def c_law_told : List D → (D → Prop) → Prop := fun ds F => ∃ ns k, ds = [.scr ns, nat k] ∧ k ≤ 100 ∧ F = fun d => ∃ m gs, d = .tup [nat m, natL gs] ∧ ToldOk m gs
def c_law_table : List D → Rs → Prop := fun ds r => ∃ m gs, ds = [.tup [nat m, natL gs]] ∧ (m ≤ 5 ∧ gs.length ≤ 1000) ∧ r = .new ((tab m gs).map .bl)
def c_law_has : List D → Rs → Prop := R2' nat nat (fun _ k => k ≤ 1000) fun g k => .dat (.bl (g.testBit k))
def seatsM : List Nat := [3, 4, 5, 4, 2, 5, 1]
theorem seats_ok : ∀ k, k < 7 → 1 ≤ seatsM.getD k 0 ∧ seatsM.getD k 0 ≤ 5 := by decide
theorem od_ixTN {K : PySem.W.Frag} {ns : List Nat} {i : Int} (h0 : 0 ≤ i) (h : i.toNat < ns.length) : OpD K (rIxT K) (.tup (ns.map nat)) (.int i) (.dat (nat (ns.getD i.toNat 0))) := od_ixT h0 (by
  rw [List.getElem?_map, List.getElem?_eq_getElem h, List.getD_eq_getElem?_getD, List.getElem?_eq_getElem h]
  rfl)
end Wv
namespace Wv
open PySem L2
theorem fgt_set {s t : List Sl} {j : Nat} {x : Sl} (h : Fgt s t) : Fgt (s.set j x) (t.set j x) := by
  refine ⟨by simpa using h.1, fun k => ?_⟩
  by_cases z : k = j
  · subst z
    by_cases hl : k < s.length
    · rw [List.getElem?_set_self hl, List.getElem?_set_self (by rw [← h.1]; exact hl)]
      exact .inr rfl
    · have e1 : (s.set k x)[k]? = none := List.getElem?_eq_none (by simpa using hl)
      have e2 : (t.set k x)[k]? = none := List.getElem?_eq_none (by rw [List.length_set, ← h.1]; omega)
      rw [e1, e2]
      exact .inr rfl
  · rw [List.getElem?_set_ne (Ne.symm z), List.getElem?_set_ne (Ne.symm z)]
    exact h.2 k
section
variable {K : PySem.W.Frag} {E : XK} {sl : List Sl} {P : En}
/-- a loop whose states are told by a thing x of which I i holds -/
theorem w_forX {α β : Type} {ys : List α} {f : α → D} {ti : TI} {j : Nat} {tb : TS} (I : Nat → β → Prop) (S : β → List Sl) (hi : ItE K ti sl (ys.map f)) (b0 : β) (h0 : I 0 b0) (f0 : Fgt sl (S b0))
    (hs : ∀ i a b, ys[i]? = some a → I i b → W K E tb ((S b).set j (.fz (f a))) { nx := fun s => ∃ b', I (i + 1) b' ∧ Fgt s (S b'), ct := fun s => ∃ b', I (i + 1) b' ∧ Fgt s (S b'), bk := P.nx, rt := P.rt })
    (hd : ∀ s b, I ys.length b → Fgt s (S b) → P.nx s) : W K E (tFor ti (gName j) tb) sl P := by
  refine w_for (fun i s => ∃ b, I i b ∧ Fgt s (S b)) hi ⟨b0, h0, f0⟩ (fun i d s h1 h2 => ?_) (fun s h => ?_)
  · obtain ⟨b, hb, hf⟩ := h2
    rw [List.getElem?_map] at h1
    cases e : ys[i]? with
    | none => rw [e] at h1; cases h1
    | some a =>
      rw [e] at h1
      cases h1
      exact gw_name (w_fgt (fgt_set hf) (hs i a b e hb))
  · obtain ⟨b, hb, hf⟩ := h
    rw [List.length_map] at hb
    exact hd s b hb hf
/-- groups below M, at most one more a turn -/
def GsB (M i : Nat) (gs : List Nat) : Prop := gs.length ≤ i ∧ ∀ g ∈ gs, g < M
theorem GsB.nil {M : Nat} : GsB M 0 [] := ⟨Nat.le_refl _, fun _ h => nomatch h⟩
theorem GsB.up {M i : Nat} {gs : List Nat} (h : GsB M i gs) : GsB M (i + 1) gs := ⟨Nat.le_succ_of_le h.1, h.2⟩
theorem GsB.app {M i g : Nat} {gs : List Nat} (h : GsB M i gs) (hg : g < M) : GsB M (i + 1) (gs ++ [g]) := ⟨by rw [List.length_append]; exact Nat.succ_le_succ h.1, fun x hx => by
  rcases List.mem_append.mp hx with z | z
  · exact h.2 x z
  · rw [List.mem_singleton.mp z]
    exact hg⟩
theorem w_app1 {i : Nat} {gs : List Nat} {g : Nat} {te : TE} (hi : sl[i]? = some (.ow (gs.map nat))) (h : EvR K E te sl (.dat (nat g))) (hz : gs.length < 1000000) (k : P.nx (sl.set i (.ow ((gs ++ [g]).map nat)))) : W K E (tDrop (tBM K "list" rAppend (tVar i) (tCons te tNil))) sl P :=
  w_app hi h (by rwa [List.length_map]) (by rw [List.map_append] at k; exact k)
end
end Wv
namespace Wv
theorem c_law_table.mk {m : Nat} {gs : List Nat} (h5 : m ≤ 5) (hl : gs.length ≤ 1000) : c_law_table [.tup [nat m, natL gs]] (.new ((tab m gs).map .bl)) := ⟨m, gs, rfl, ⟨h5, hl⟩, rfl⟩
end Wv
namespace Wv
open PySem L2
/-- a statement, then the rest from what is known between -/
theorem w_seqM {K : PySem.W.Frag} {E : XK} {sl : List Sl} {P : En} {t u : TS} (M : List Sl → Prop) (h : W K E t sl { P with nx := M }) (k : ∀ s, M s → W K E u s P) : W K E (tSeq t u) sl P := w_seq (w_mono h (fun s m => k s m) (fun _ z => z) (fun _ z => z) fun _ z => z)
end Wv
namespace Wv
theorem Fgt.tr {a b c : List Sl} (h : Fgt a b) (k : Fgt b c) : Fgt a c := ⟨h.1.trans k.1, fun i => by
  rcases k.2 i with z | z
  · exact .inl z
  · rw [z]
    exact h.2 i⟩
end Wv
namespace Wv
open PySem L2
def c_law_groups : List D → Rs → Prop := R2' natL natL (fun fs _ => fs.length ≤ 1000) fun fs ds => .dat (.bl (decide (fs = ds)))
def c_law_least : List D → Rs → Prop := R2' blL nat (fun t n => n ≤ 5 ∧ t.length = 2 ^ n) fun t _ => .new ((leastM t).map nat)
def c_law_greatest : List D → Rs → Prop := R2' blL nat (fun t n => n ≤ 5 ∧ t.length = 2 ^ n) fun t _ => .new ((greatM t).map nat)
def c_law_is (C : Addr) : List D → Rs → Prop := fun ds r => ∃ n t, ds = [cou C n t, nat n, blL t] ∧ t.length ≤ 32 ∧ r = .dat (.bl true)
theorem c_law_is.len {C : Addr} : ∀ ds r, c_law_is C ds r → ds.length = 3 := by
  rintro ds r ⟨_, _, rfl, _⟩
  rfl
theorem c_law_is.mk {C : Addr} {n : Nat} {t : List Bool} (h : t.length ≤ 32) : c_law_is C [cou C n t, nat n, blL t] (.dat (.bl true)) := ⟨n, t, rfl, h, rfl⟩
/-- xs.clear(), xs one's own -/
theorem w_clear {K : PySem.W.Frag} {E : XK} {sl : List Sl} {P : En} {xs : List D} {i : Nat} (hi : sl[i]? = some (.ow xs)) (k : P.nx (sl.set i (.ow []))) : W K E (tDrop (tBM0 K "list" rClear (tVar i))) sl P := fun B0 H0 B H σ D sd m => by
  obtain ⟨p, vs, h1, h2, h3, h4, h5⟩ := sd.ow i xs hi
  exact ⟨_, h1, .inl ⟨rfl, _, .inl (.inl h4)⟩, p, vs, rfl, rfl, h4, m.nx _ _ _ _ (sd.mut hi h1 denL_nil) k⟩
end Wv
namespace Wv
open PySem L2
theorem kit_ii : kitB "int" "int" = some true := by decide +kernel
theorem kit_ib : kitB "int" "bool" = some false := by decide +kernel
theorem kit_bb : kitB "bool" "bool" = some true := by decide +kernel
theorem kit_bi : kitB "bool" "int" = some true := by decide +kernel
theorem kit_ll : kitB "list" "list" = some true := by decide +kernel
theorem kit_ss : kitB "str" "str" = some true := by decide +kernel
theorem kit_li : kitB "list" "int" = some false := by decide +kernel
theorem kit_lb : kitB "list" "bool" = some false := by decide +kernel
theorem kit_ti : kitB "tuple" "int" = some false := by decide +kernel
theorem kit_tl : kitB "tuple" "list" = some false := by decide +kernel
theorem kit_si : kitB "str" "int" = some false := by decide +kernel
theorem kit_sl : kitB "str" "list" = some false := by decide +kernel
theorem kit_ni : kitB "NoneType" "int" = some false := by decide +kernel
theorem kit_nl : kitB "NoneType" "list" = some false := by decide +kernel
theorem kit_il : kitB "int" "list" = some false := by decide +kernel
theorem kit_lt : kitB "list" "tuple" = some false := by decide +kernel
theorem kit_tt : kitB "tuple" "tuple" = some true := by decide +kernel
theorem kit_ns : kitB "NoneType" "str" = some false := by decide +kernel
theorem kit_is : kitB "int" "str" = some false := by decide +kernel
theorem kit_ls : kitB "list" "str" = some false := by decide +kernel
theorem kit_bs : kitB "bool" "str" = some false := by decide +kernel
end Wv
namespace Wv
open PySem L2
open Evl (Ex fresh_back)
section
variable {X : Cx}
theorem ip_mul : PIp X .Mult (rI CMul fun i j => .int (i * j)) := iop_mul
end
section
variable {K : PySem.W.Frag} {E : XK} {B H : Hp} {sl : List Sl} {ta te : TE} {xs : List D} {P : En}
theorem w_augC {i : Nat} {C : Int → Int → Prop} {f : Int → Int → Int} {a b : Int} (hi : sl[i]? = some (.fz (.int a))) (h : EvR K E te sl (.dat (.int b))) (hc : C a b) (k : P.nx (sl.set i (.fz (.int (f a b))))) : W K E (tAug i te (rI C fun i j => .int (f i j))) sl P := fun B0 H0 B H σ D sd m => by
  obtain ⟨v, h1, h2⟩ := sd.fz i _ hi
  rw [den_int h2] at h1
  refine ⟨_, h1, h B0 H0 B H σ sd _ fun v B1 H1 g1 d1 => ?_⟩
  rw [den_int d1]
  exact ⟨a, b, rfl, rfl, hc, m.nx B1 H1 _ _ ((sd.grow g1).setFz (mk_int _)) k⟩
theorem ty_lst {v : V} (e : Ex B H) (d : Den K B (.lst xs) v) : tyV K "list" v H := by
  obtain ⟨a, vs, rfl, h, _⟩ := den_lst d
  exact .inl ⟨rfl, _, .inl (.inl (e a _ h))⟩
theorem ev_listRg1 {n : Nat} {m : Int} (h : EvR K E ta sl (.dat (.int m))) (e : m = (n : Int)) (hn : n ≤ 1000000) : EvR K E (tLstRg (tRg1 ta)) sl (.new ((List.range n).map nat)) := fun B0 H0 B H σ sd Q q => by
  subst e
  refine h B0 H0 B H σ sd _ fun v B1 H1 g1 d1 => ⟨_, den_int d1, RgOk.of_le (by omega) (by omega) (by omega) (by omega), fun p hp => ?_⟩
  refine q p _ B1 _ (g1.trans (Gr.lay g1.sub hp)) (g1.back hp) (fresh_back g1.sub hp) upd_same ?_
  unfold rgV
  rw [show ((n : Int) - 0).toNat = n by omega]
  have k : ∀ l : List Nat, DenL K B1 (l.map nat) (l.map fun (i : Nat) => V.int (0 + (i : Int))) := by
    intro l
    induction l with
    | nil => exact denL_nil
    | cons a l ih =>
      refine denL_cons ?_ ih
      show Den K B1 (nat a) (V.int (0 + (a : Int)))
      rw [Int.zero_add]
      exact mk_int _
  exact k _
theorem ev_count {ns : List Int} {k : Int} (ho : EvR K E ta sl (.dat (intL ns))) (ha : EvR K E0 te sl (.dat (.int k))) : EvR K E (tBM K "list" (rCntI K) ta (tCons te tNil)) sl (.dat (nat (ns.count k))) :=
  ev_bm ho (ea_cons ha ea_nil) (fun B H v vs e d dd E Q q => ⟨ty_lst e d, by
    obtain ⟨a, us, rfl, h1, h2⟩ := den_lst d
    obtain ⟨w, rfl, h3⟩ := denL_one dd
    rw [den_int h3]
    rw [denL_ints h2] at h1
    exact ⟨a, ns, k, rfl, rfl, SqL.of (e a _ h1), post_v e q (mk_int _)⟩⟩) fun B H v e d => ty_lst e d
end
end Wv
/-! the plain law: tables, least and greatest groups, weights -/
namespace Wv
theorem bits_range : ∀ n, n < 6 → ∀ g, g < 2 ^ n → ((List.range 5).filter fun k => g.testBit k) = (List.range n).filter fun k => g.testBit k := by decide +kernel
theorem great_range : ∀ n, n < 6 → ∀ g, g < 2 ^ n → ((wo ((2 ^ n - 1) ^^^ g)).map fun l => (2 ^ n - 1) ^^^ l) = ((List.range n).filter fun k => !g.testBit k).map fun k => g ||| 2 ^ k := by decide +kernel
theorem less_any {n g : Nat} (hn : n ≤ 5) (hg : g < 2 ^ n) (f : Nat → Bool) : (((List.range n).filter fun k => g.testBit k).any fun k => f (g ^^^ 2 ^ k)) = (wo g).any f := by
  unfold wo
  rw [List.any_map, bits_range n (by omega) g hg]
  rfl
theorem more_all {n g : Nat} (hn : n ≤ 5) (hg : g < 2 ^ n) (f : Nat → Bool) : (((List.range n).filter fun k => !g.testBit k).all fun k => f (g ||| 2 ^ k)) = (wo ((2 ^ n - 1) ^^^ g)).all fun l => f ((2 ^ n - 1) ^^^ l) := by
  have h := congrArg (fun l => l.all f) (great_range n (by omega) g hg)
  simp only [List.all_map] at h
  exact h.symm
theorem filt_eq {p q : Nat → Bool} {n : Nat} (h : ∀ i, i < n → p i = q i) : (List.range n).filter p = (List.range n).filter q := List.filter_congr fun i hi => h i (List.mem_range.mp hi)
/-- a council's table hangs on its groups alone -/
theorem tab_same {n : Nat} {gs hs : List Nat} (h : ∀ g, g ∈ gs ↔ g ∈ hs) : tab n gs = tab n hs := by
  unfold tab
  refine List.map_congr_left fun g _ => ?_
  rw [Bool.eq_iff_iff, List.any_eq_true, List.any_eq_true]
  exact ⟨fun ⟨o, a, b⟩ => ⟨o, (h o).mp a, b⟩, fun ⟨o, a, b⟩ => ⟨o, (h o).mpr a, b⟩⟩
theorem tab_get {n g : Nat} {gs : List Nat} (h : g < 2 ^ n) : (tab n gs).getD g false = gs.any fun o => decide (g &&& o = o) := by
  unfold tab
  rw [List.getD_eq_getElem?_getD, List.getElem?_map, List.getElem?_range h]
  rfl
theorem sum_filt {ws : Nat → Int} (h0 : ∀ k, 0 ≤ ws k) {p q : Nat → Bool} (h : ∀ k, p k = true → q k = true) : ∀ l : List Nat, ((l.filter p).map ws).sum ≤ ((l.filter q).map ws).sum
  | [] => by simp
  | k :: l => by
    have ih := sum_filt h0 h l
    have hk := h0 k
    cases hp : p k with
    | true =>
      rw [List.filter_cons, if_pos hp, List.filter_cons, if_pos (h k hp)]
      simp only [List.map_cons, List.sum_cons]
      omega
    | false =>
      rw [List.filter_cons, if_neg (by rw [hp]; decide)]
      cases hq : q k with
      | true =>
        rw [List.filter_cons, if_pos hq]
        simp only [List.map_cons, List.sum_cons]
        omega
      | false =>
        rw [List.filter_cons, if_neg (by rw [hq]; decide)]
        exact ih
theorem getD_nn {ws : List Int} (h : ∀ w ∈ ws, 0 ≤ w) (k : Nat) : 0 ≤ ws.getD k 0 := by
  rw [List.getD_eq_getElem?_getD]
  cases e : ws[k]? with
  | none => simp
  | some w => exact h w (List.mem_of_getElem? e)
theorem wgt_mono {ws : List Int} (h : ∀ w ∈ ws, 0 ≤ w) {g o : Nat} (hs : g &&& o = o) : wgt ws o ≤ wgt ws g := by
  unfold wgt
  refine sum_filt (ws := fun k => ws.getD k 0) (getD_nn h) (fun k hk => ?_) _
  have e : (g &&& o).testBit k = true := by rw [hs]; exact hk
  rw [Nat.testBit_and] at e
  exact (Bool.and_eq_true_iff.mp e).1
theorem tabW_eq {ws : List Int} {q : Int} (h : ∀ w ∈ ws, 0 ≤ w) : tab ws.length ((List.range (2 ^ ws.length)).filter fun g => decide (q ≤ wgt ws g)) = (List.range (2 ^ ws.length)).map fun g => decide (q ≤ wgt ws g) := by
  unfold tab
  refine List.map_congr_left fun g hg => ?_
  rw [Bool.eq_iff_iff, List.any_eq_true, decide_eq_true_eq]
  constructor
  · rintro ⟨o, ho, hs⟩
    have h1 := of_decide_eq_true (List.mem_filter.mp ho).2
    have h2 := wgt_mono h (of_decide_eq_true hs)
    omega
  · intro hq
    exact ⟨g, List.mem_filter.mpr ⟨hg, decide_eq_true hq⟩, decide_eq_true (Nat.and_self g)⟩
end Wv
namespace Wv
theorem leastM_len {t : List Bool} (h : t.length ≤ 32) : (leastM t).length ≤ 32 := Nat.le_trans (filt_len _ _) h
theorem greatM_len {t : List Bool} (h : t.length ≤ 32) : (greatM t).length ≤ 32 := Nat.le_trans (filt_len _ _) h
theorem sum_le : ∀ (ws : List Nat) (b : Nat), (∀ w ∈ ws, w ≤ b) → (ws.map fun (w : Nat) => (w : Int)).sum ≤ (ws.length * b : Nat)
  | [], b, _ => by simp
  | w :: ws, b, h => by
    have ih := sum_le ws b fun x hx => h x (List.mem_cons_of_mem _ hx)
    have hw := h w List.mem_cons_self
    simp only [List.map_cons, List.sum_cons, List.length_cons]
    rw [Nat.succ_mul]
    omega
theorem most_ok : ∀ k, k < 3 → 0 < ([3, 50, 1000001] : List Nat).getD k 0 ∧ ([3, 50, 1000001] : List Nat).getD k 0 ≤ 1000001 := by decide
end Wv
namespace Wv
theorem wgt_nat (ws : List Nat) (g : Nat) : wgt (ws.map fun (w : Nat) => (w : Int)) g = (((List.range ws.length).filter fun k => g.testBit k).map fun k => ((ws.getD k 0 : Nat) : Int)).sum := by
  unfold wgt
  rw [List.length_map]
  congr 1
  refine List.map_congr_left fun k _ => ?_
  rw [List.getD_eq_getElem?_getD, List.getD_eq_getElem?_getD, List.getElem?_map]
  cases ws[k]? <;> rfl
end Wv
/-! where the text's defs stand -/
namespace Wv
open PySem L2 PyProof.Rows
def LawAt (K : PySem.W.Frag) (mg : Str → Option Value) (st : Stmt) : Prop := ∃ f fd, mg "law" = some (.ref f) ∧ Fun K "law" "law" st f fd ∧ ∀ v, bindArgs fd ⟨[v], []⟩ = pure [(("_law_script" : Str), v)]
section
variable {K : PySem.W.Frag} {mg : Str → Option Value} {h : Heap} {x m q : Str} {st : Stmt} {ps : List Str} {f C : Addr} {oc : Value} {od an : Option Addr} {osl : Array (Option Value)} {kV doc pm cd ct : Value}
theorem fnAt_mk (X : K.In h) (G : h.Ns mainGlobals mg) (a : PySem.W.nsIn K mainGlobals x = some (some (.ref f))) (l : K.lookup f = some ⟨oc, od, .func (PySem.W.fnOf x x (defArgs st) (defBody st) (defScope st) .none kV doc pm an cd ct), osl⟩) (c : PySem.W.codeIn K cd x = true) (k : PySem.W.keepIn K (.ref f) = true)
    (hb : ∀ (kV doc pm : Value) (an : Option Addr) (cdv ct : Value) (us : List Value), us.length = ps.length → bindArgs (PySem.W.fnOf x x (defArgs st) (defBody st) (defScope st) .none kV doc pm an cdv ct) ⟨us, []⟩ = pure (ps.zip us)) : FnAt K mg x st ps :=
  ⟨f, _, PySem.W.mg_of X G a, fun_mk l c k, (fun_mk l c k).binds hb⟩
theorem mtAt_mk (a : PySem.W.findIn K (.ref C) m = some (some (.ref f))) (i : PySem.W.isFn K (.ref f) = true) (l : K.lookup f = some ⟨oc, od, .func (PySem.W.fnOf m q (defArgs st) (defBody st) (defScope st) .none kV doc pm an cd ct), osl⟩) (c : PySem.W.codeIn K cd q = true) (k : PySem.W.keepIn K (.ref f) = true)
    (hb : ∀ (kV doc pm : Value) (an : Option Addr) (cdv ct : Value) (us : List Value), us.length = ps.length → bindArgs (PySem.W.fnOf m q (defArgs st) (defBody st) (defScope st) .none kV doc pm an cdv ct) ⟨us, []⟩ = pure (ps.zip us)) : MtAt K C m q st ps :=
  ⟨f, _, ⟨a, i, k⟩, fun_mk l c k, (fun_mk l c k).binds hb⟩
theorem mkAt_mk (g : mg x = some (.ref C)) (mk : PySem.W.makesIn K C = true) (a : PySem.W.findIn K (.ref C) "__init__" = some (some (.ref f))) (i : PySem.W.isFn K (.ref f) = true) (kc : PySem.W.keepIn K (.ref C) = true) (l : K.lookup f = some ⟨oc, od, .func (PySem.W.fnOf "__init__" q (defArgs st) (defBody st) (defScope st) .none kV doc pm an cd ct), osl⟩) (c : PySem.W.codeIn K cd q = true) (k : PySem.W.keepIn K (.ref f) = true)
    (hb : ∀ (kV doc pm : Value) (an : Option Addr) (cdv ct : Value) (us : List Value), us.length = ps.length → bindArgs (PySem.W.fnOf "__init__" q (defArgs st) (defBody st) (defScope st) .none kV doc pm an cdv ct) ⟨us, []⟩ = pure (ps.zip us)) : MkAt K mg x C q st ps :=
  ⟨f, _, g, ⟨mk, a, i, kc⟩, fun_mk l c k, (fun_mk l c k).binds hb⟩
theorem lawAt_mk (X : K.In h) (G : h.Ns mainGlobals mg) (a : PySem.W.nsIn K mainGlobals "law" = some (some (.ref f))) (l : K.lookup f = some ⟨oc, od, .func (PySem.W.fnOf "law" "law" (defArgs st) (defBody st) (defScope st) .none kV doc pm an cd ct), osl⟩) (c : PySem.W.codeIn K cd "law" = true) (k : PySem.W.keepIn K (.ref f) = true)
    (hb : ∀ (kV doc pm : Value) (an : Option Addr) (cdv ct : Value) (v : Value), bindArgs (PySem.W.fnOf "law" "law" (defArgs st) (defBody st) (defScope st) .none kV doc pm an cdv ct) ⟨[v], []⟩ = pure [(("_law_script" : Str), v)]) : LawAt K mg st :=
  ⟨f, _, PySem.W.mg_of X G a, fun_mk l c k, hb kV doc pm an cd ct⟩
end
def c_law : List D → Rs → Prop := R1 D.scr (fun _ => True) fun _ => .dat (.bl true)
theorem walk {l : PySem.W.OpenLaw} {q : Program} {loose : List Str} {XP : (Str → Option Value) → Heap → Prop} {YP : World → Heap → Prop} {d : DefRec} {K : Params → PySem.W.Frag} {k : Nat} (hn : l.most = some 63) (hdf : d.params.defaults = []) (hr : Room k callerA)
    (hY : ∀ (w : World) (h : Heap), YP w h → (K w.params).In h)
    (F : ∀ (w : World) (mg : Str → Option Value) (fa : Addr) (h : Heap), (K w.params).In h → h.Ns mainGlobals mg → mg d.name = some (.ref fa) →
      ∃ fd : FuncData, (∀ (s : Shared) (u : Value), BindsTo s fd ⟨[u], []⟩ [("_law_script", u)]) ∧ ∀ base : Heap, (K w.params).In base → base.Ns mainGlobals mg → FnOk l.prog w (K w.params) mg base CX0 k fa fd ["_law_script"] (SpR (K w.params) c_law)) :
    PySem.W.WalkO q loose XP YP l.row.toRowW d [] (fun f vs => PySem.call f vs) :=
  L2.walk_of (n := 63) (k := k) (x := "_law_script") (CX := fun _ => CX0) (sp := fun w => SpR (K w.params) c_law) hn (by decide) hdf hr hY F
    (fun w H a ns hl _ hS => ⟨H, [.scr ns], .dat (.bl true), fun _ _ z => z, denL_cons (by simp only [Den]; exact ⟨a, rfl, hS⟩) denL_nil, ⟨ns, rfl, True.intro, rfl⟩, fun v B' H' g dv => den_bl dv⟩) fun _ _ _ _ _ z => z
end Wv
/-! errors: raised, let out, caught, asked for their class -/
/-! ### a list walked while an error is handled -/
namespace PySem
section
variable {prog : Program} {w : World} {A : Around} {E : Value → Shared → Prop} {s : Shared}
theorem next_list_end_hot {it l x1 : Addr} {i : Nat} {items} {Q : Option Value → Shared → Prop} (hot : HotX.HotAt A x1 s.heap) (hne : x1 ≠ it)
    (hit : s.heap.IsListIter it l i) (hl : s.heap.IsList l items) (hx : items[i]? = none)
    (hQ : ∀ h', (∀ b o, b ≠ it → s.heap.get? b = some o → h'.get? b = some o) → Q none { s with heap := h' }) : wpAny (model prog w) A (pyNext (.ref it)) Q E s := by
  obtain ⟨o, ho, hc, hd⟩ := id hit
  obtain ⟨ol, hol, _, nl, hdl⟩ := hl
  obtain ⟨hh, o1, vs1, h1, d1, c1⟩ := hot
  unfold pyNext
  refine wpAny_bind (wpAny_attempt (wpAny_callSpecial?_slot (name := Str.ofString "__next__") hit.typeIs slot_listiter_next
    (wpAny_call_entry slot_listiter_next hit.typeIs entry_listiter_next ?_ (args_listiter_next _))))
  show wpAny _ _ (field (.ref it) 0 >>= _) _ _ s
  refine wpAny_bind (wpAny_field ho hd (x := .ref l) rfl ?_)
  show wpAny _ _ (if (Value.ref l == Value.none) = true then _ else _) _ _ s
  rw [if_neg (show ¬ ((Value.ref l == Value.none) = true) from Bool.false_ne_true)]
  show wpAny _ _ (field (.ref it) 1 >>= _) _ _ s
  refine wpAny_bind (wpAny_field ho hd (x := .int i 0) rfl ?_)
  show wpAny _ _ (seqItems? (.ref l) >>= _) _ _ s
  refine wpAny_bind (wpAny_seqItems hol hdl ?_)
  simp only [Int.toNat_natCast, hx]
  refine wpAny_bind (wpAny_rule (wpAny_bind (wpAny_setField ho hd (by simp) ?_)))
  show wpAny _ _ (newExc (.type "StopIteration") [] >>= _) _ _ _
  refine wpAny_bind ?_
  simp only [newExc, newTuple]
  refine wpAny_bind (wpAny_newObj_type ?_ (by size_fits))
  refine wpAny_bind (m := firstArgMember _ _) (wpAny_of_eq (a := Value.none) (by first | rfl | (simp only [firstArgMember]; rfl)) ?_)
  refine wpAny_newObj_type ?_ (by size_fits)
  have k1 : ∀ b o', b ≠ it → s.heap.get? b = some o' → (s.heap.update it (Obj.mapFields (·.setIfInBounds 0 .none))).get? b = some o' := fun b o' hb e => by
    rw [Heap.get?_update_other _ _ (Ne.symm hb)]
    exact e
  refine HotX.raiseNew_hot ⟨hh, o1, vs1, Heap.get?_push_of_some _ (Heap.get?_push_of_some _ (k1 _ _ hne h1)), d1, c1⟩ (Nat.ne_of_lt (Heap.lt_size (Heap.get?_push_of_some _ (k1 _ _ hne h1)))) (Heap.get?_push_size _ rfl) rfl (by first | (simp; done) | (simp; omega) | (simp only [Array.size_append]; simp; omega)) ?_
  refine wpAny_bind (wpAny_isInstance (T := "StopIteration") (b := true) ⟨_, Heap.get?_update_self _ (Heap.get?_push_size _ rfl) rfl, rfl⟩ isSubtype_stop ?_)
  refine wpAny_pure (hQ _ fun b o' hb e => ?_)
  rw [Heap.get?_update_other _ _ (Nat.ne_of_gt (Heap.lt_size (Heap.get?_push_of_some _ (k1 _ _ hb e))))]
  exact Heap.get?_push_of_some _ (Heap.get?_push_of_some _ (k1 _ _ hb e))
end
theorem Walks.listHot {prog : Program} {w : World} {A : Around} {x1 : Addr} {o1 : Obj} {vs1 : Array Value} (hh : A.handled = some (.ref x1)) (d1 : o1.data = .fields vs1) (c1 : vs1[2]? = some .none) (I ax : Addr) (hne : ax ≠ I) (h1 : x1 ≠ I) (items : Array Value) :
    Walks prog w A I [I, ax, x1] [I] items.size (fun i v => items[i]? = some v) (fun i h => h.IsListIter I ax i ∧ h.IsList ax items ∧ h.get? x1 = some o1) where
  sub := fun b hb => by simp at hb; simp [hb]
  frame := fun _ _ _ st hk => ⟨st.1.at fun o e => hk I (by simp) o e, st.2.1.at fun o e => hk ax (by simp) o e, hk x1 (by simp) o1 st.2.2⟩
  item := fun i s Q E hi st hQ => by
    refine wpAny_pyNext_list_item st.1 st.2.1 (x := items[i]) (by simp [hi]) fun h' hit' hs' => ?_
    exact hQ _ h' s.toks (by simp [hi]) ⟨hit', st.2.1.extBut hs'.extBut hne, hs'.extBut _ _ h1 st.2.2⟩ fun b o hb e => hs'.extBut b o (fun h => hb (by simp [h])) e
  done := fun s Q E st hQ => next_list_end_hot ⟨hh, o1, vs1, st.2.2, d1, c1⟩ h1 st.1 st.2.1 (by simp) fun h' he' => hQ h' s.toks fun b o hb e => he' b o (fun h => hb (by simp [h])) e
  self := fun _ _ _ _ st hQ => wpAny_pyIter_listiter st.1 hQ
end PySem
namespace L2
open PySem PySem.Spec PyProof.Rows
theorem hot_at {X : Cx} {pins : List (Addr × Obj)} {σ : St} {H : Hp} {s : Shared} (c : L2H.HotC X) (I : Inv X pins σ H s) : ∃ x1 o1 vs1, X.A.in1.handled = some (.ref x1) ∧ s.heap.get? x1 = some o1 ∧ o1.data = .fields vs1 ∧ vs1[2]? = some .none := by
  obtain ⟨p, ⟨hh, v1, e1, c1⟩, hp⟩ := c
  exact ⟨p.1, p.2, v1, hh, (I.pin p (List.mem_append_left _ hp)).1, e1, c1⟩
theorem cr_anyHot {X : Cx} (hc : L2H.HotC X) : CallR X (.builtin "any") (rAny X.K) := by
  intro pins s σ H vs us Q I r h
  obtain ⟨a, bs, rfl, hs, q⟩ := h
  obtain ⟨its, rv, hl, _⟩ := I.list hs
  obtain ⟨x1, o1, vs1, hh, g1, d1, c1⟩ := hot_at hc I
  rw [Vals.ref1 r]
  have hb := rv.bls
  refine call_any_walk (iter_any hl.isList fun s₂ e2 st hne => ?_)
  subst e2
  have hlt := Heap.lt_size g1
  refine ⟨_, _, _, _, _, _, _, rfl, Walks.listHot (A := X.A.in1) hh d1 c1 _ a hne (Nat.ne_of_lt hlt) its.toArray, ⟨st.1, st.2, Heap.get?_push_of_some _ g1⟩, truth_bools hb, fun h' tk hk => ?_⟩
  refine ⟨.bl _, H, I.kept fun b o eo => hk b o (fun hmem => ?_) (Heap.get?_push_of_some _ eo), ?_, q⟩
  · rcases List.mem_cons.mp hmem with e1 | hmem
    · exact absurd (e1 ▸ Heap.lt_size eo) (Nat.lt_irrefl _)
    · cases hmem
  · show Value.bool _ = Value.bool _
    rw [← any_range, hb, List.size_toArray, List.length_map]
end L2
namespace Wv
open PySem L2 PyProof.Rows
open Evl (Ex fresh_back ex_l)
theorem hot_suite {X : Cx} {a : Addr} {oe : Obj} {cls : Value} {d : Option Addr} {pn : List (Addr × Obj)} (hz : L2N.Zn cls d oe) (hf : ∃ vs, oe.data = .fields vs) : L2H.HotC (X.suite a ((a, oe) :: pn)) := by
  obtain ⟨vs, hv⟩ := hf
  exact ⟨(a, oe), ⟨rfl, vs, hv, hz.2.2 vs hv⟩, List.mem_cons_self⟩
/-- as Fun.ok, for a def that may raise -/
theorem okN {P : Program} {w : World} {K : PySem.W.Frag} {mg : Str → Option Value} {base : Heap} {x qual : Str} {st : Stmt} {f : Addr} {fd : FuncData} {N ps : List Str} {k : Nat} {sp : Sp} (F : Fun K x qual st f fd) (S : FnScope N ps (defScope st)) (len : ∀ vs H Q E, sp vs H Q E → vs.length = ps.length)
    (hbody : ∀ (cdv : Value) (A : Around) (outer : List Env) (s : Shared) (H : Hp) (vs : List V) (Q : VK) (E : XK), Room k (A.deeper (envOfC qual (defScope st) s.heap.objs.size f cdv)) → sp vs H Q E →
      ∃ t, PSs (cxOf (L2N.CX P w) P w K mg base N qual (defScope st) f cdv A outer s H E) (defBody st) t ∧ t { nx := fun _ H' => Q .non H', rt := Q } (L2.start N vs) H) : FnOk P w K mg base (L2N.CX P w) (k + 1) f fd ps sp := by
  obtain ⟨oc, od, kV, doc, pm, an, cdv, ct, osl, rfl, lk, hcd⟩ := F.ex
  exact fn_of lk hcd S len fun A outer s H vs Q E hr hsp => hbody cdv A outer s H vs Q E hr hsp
theorem passN {X : Cx} : Passes (L2N.CX X.prog X.w) X E0 := fun _ _ _ _ _ _ _ h => by
  obtain ⟨_, _, _, _, _, _, _, _, _, _, _, _, z⟩ := h
  exact z.elim
theorem takesN {X : Cx} : L2N.Takes X (fun _ _ _ _ => False) := fun _ _ x => by
  obtain ⟨_, _, _, _, _, _, _, _, _, _, _, _, _, _, _, _, z⟩ := x
  exact z.elim
/-- a class of errors of the text -/
structure ErrAt (K : PySem.W.Frag) (mg : Str → Option Value) (x : Str) (C : Addr) : Prop where
  g : mg x = some (.ref C)
  q : PySem.W.excIn K C [.type "ValueError", .type "Exception", .type "BaseException", .type "object"] "ValueError.__new__" = true
  k : PySem.W.keepIn K (.ref C) = true
  s : PySem.W.subIn K (.ref C) (.type "BaseException") = some true
  t : PySem.W.typeIn K (.ref C) = some (.type "type")
/-- raise x('..') -/
def tRaise (C : Addr) (E : XK) : TS := fun _ _ H => E (.ref C) none H
section
variable {X : Cx} {C : Addr} {E : XK} {x m : Str} {j : Nat} {p p2 pos pos2 : Pos}
theorem ps_raiseD (hc : X.calm = true) (tk : L2N.Takes X (fun cls d _ H => E cls d H)) (R : ErrAt X.K X.mg x C) (hg : Gl X x) (hdb : (x == ("__debug__" : Str)) = false := by decide) :
    PS X (.Raise (some (.Call (.Name x p) [.Constant (.str m) j p2] [] pos)) none pos2) (tRaise C E) :=
  L2N.ps_raise hc tk (L2N.pmk_own PySem.F.excBase_ValueError R.q R.g R.k (raises_own R.s R.t) hg hdb)
end
section
variable {K : PySem.W.Frag} {E E' : XK} {sl : List Sl} {P : En} {C U : Addr} {te : TE} {i : Nat} {d : D} {c : Value}
theorem w_raise (k : P.rt (.exc C)) : W K E (tRaise C E) sl P := fun B0 H0 B H σ D sd m => by
  have q := m.rt (.exc C) B H sd.gr k
  exact q B H (Gr.refl sd.sub)
/-- what is left of a suite: the error's name is gone -/
def gone (P : En) (i : Nat) : En := { nx := fun s => P.nx (s.set i .un), rt := P.rt, bk := fun s => P.bk (s.set i .un), ct := fun s => P.ct (s.set i .un) }
/-- try: an expression; it raises, and the clause is meant -/
theorem w_tryDX {te : (L2.St → XK) → TE} {ts : Addr → Value → Option Addr → TS} {Wout : WX} (hx : PySem.W.exmOne K (.ref U) c = some true) (hte : ∀ Es σ H Q, te (fun _ => Es σ) σ H Q → te Es σ H Q) (h : ∀ E', EvR K E' (te fun _ => E') sl (.exc U))
    (hs : ∀ a, W K E (ts a (.ref U) none) (sl.set i (.fz (.fn a))) (gone P i)) :
    W K E (fun D σ H => tDrop (te (WE (wAs K c i ts Wout D))) D σ H) sl P := fun B0 H0 B H σ D sd m => by
  refine hte _ _ _ _ (h _ B0 H0 B H σ sd _ fun B2 H2 g2 => ?_)
  refine ⟨true, hx, fun _ a ha => ?_, fun z => Bool.noConfusion z⟩
  refine hs a B0 H0 B2 H2 _ _ ((sd.grow g2).setFz (d := .fn a) (by simp only [Den])) ⟨fun B H σ sl s q => m.nx B H _ _ s.setUn q, fun B H σ sl s q => m.bk B H _ _ s.setUn q, fun B H σ sl s q => m.ct B H _ _ s.setUn q, m.rt⟩
/-- .. it raises nothing -/
theorem w_tryD {te : (L2.St → XK) → TE} {ts : Addr → Value → Option Addr → TS} {Wout : WX} (hte : ∀ Es σ H Q, te (fun _ => Es σ) σ H Q → te Es σ H Q) (h : ∀ E', EvR K E' (te fun _ => E') sl (.dat d)) (k : P.nx sl) :
    W K E (fun D σ H => tDrop (te (WE (wAs K c i ts Wout D))) D σ H) sl P := fun B0 H0 B H σ D sd m =>
  hte _ _ _ _ (h _ B0 H0 B H σ sd _ fun v B2 H2 g2 dv => m.nx B2 H2 σ sl (sd.grow g2) k)
end
/-- a reading under a condition on what was caught -/
theorem pss_guard {X : Cx} {b : List Stmt} {p : Prop} {t : TS} (h : p → PSs X b t) : PSs X b (fun D σ H => p ∧ t D σ H) := ⟨fun pins s σ H D I q => (h q.1).run pins s σ H D I q.2⟩
theorem w_guard {K : PySem.W.Frag} {E : XK} {sl : List Sl} {P : En} {p : Prop} {t : TS} (hp : p) (h : W K E t sl P) : W K E (fun D σ H => p ∧ t D σ H) sl P := fun B0 H0 B H σ D sd m => ⟨hp, h B0 H0 B H σ D sd m⟩
section
variable {K : PySem.W.Frag} {U a C : Addr} {b : Bool} {n : String}
/-- isinstance(error, C) -/
theorem cb_isE (h : PySem.W.kitOne K (.ref U) (.ref C) = some b) : CbD K (rIsE K U a) [.fn a, .fn C] (.dat (.bl b)) := fun B H vs e d E Q q => by
  obtain ⟨v, w, rfl, h1, h2⟩ := denL_two d
  simp only [Den] at h1 h2
  subst h1 h2
  exact ⟨.ref C, .ref C, b, rfl, fun u r => r, h, post_v e q (mk_bl _)⟩
theorem cb_isET (h : PySem.W.kitOne K (.ref U) (.type n) = some b) : CbD K (rIsE K U a) [.fn a, .ty n] (.dat (.bl b)) := fun B H vs e d E Q q => by
  obtain ⟨v, w, rfl, h1, h2⟩ := denL_two d
  simp only [Den] at h1 h2
  subst h1 h2
  exact ⟨.ty n, .type n, b, rfl, fun u r => r, h, post_v e q (mk_bl _)⟩
end
/-! ### a local that holds a def, one of several -/
def tCallLS (i : Nat) (p : Addr → Prop) (sp : Sp) (E : L2.St → XK) (t : TA) : TE := fun σ H Q => (∃ f, p f ∧ σ[i]? = some (some (.ref f))) ∧ t σ H fun vs H1 => sp vs H1 Q (E σ)
section
variable {X : Cx} {CX : CXT} {k i : Nat} {q : Addr → Prop} {sp : Sp} {E : L2.St → XK} {x : Str} {p pos : Pos} {e : Expr} {es : List Expr} {t : TA}
theorem pe_callLS (F : ∀ f, q f → ∃ fd ps, FnOk X.prog X.w X.K X.mg X.base CX k f fd ps sp ∧ PySem.W.keepIn X.K (.ref f) = true ∧ Binds X.K fd ps []) (hr : Room k X.A) (hN : X.N[i]? = some x) (hv : Vis X.env.scope x) (hx : ∀ σ, PassesAt CX X σ (E σ)) (ha : PA X (e :: es) t)
    (hdb : (x == ("__debug__" : Str)) = false := by decide) (hcd : (x == ("__classdict__" : Str)) = false := by decide)
    (he : starEach (e :: es) X.env = (false, eval e X.env) :: starEach es X.env := by rfl) (hpl : (backTo pos (starEach es X.env)).any (·.1) = false := by rfl) : PE X (.Call (.Name x p) (e :: es) [] pos) (tCallLS i q sp E t) := by
  refine ⟨fun pins s σ H Q I h => ?_⟩
  obtain ⟨⟨f, hq, hs⟩, ht⟩ := h
  obtain ⟨fd, ps, G, hk, hb⟩ := F f hq
  refine wpAny_Call_Name_kw (thn ((pe_var (pos := p) hN hv hdb hcd).run pins s σ H (fun v H1 => v = .ref f ∧ H1 = H) I ⟨.ref f, hs, rfl, rfl⟩) fun u s1 ⟨v, H1, I1, r1, q1⟩ => ?_)
  obtain ⟨rfl, rfl⟩ := q1
  cases r1
  refine PySem.W.callWith_K (h₀ := X.base) I.ok.mod.kin hk (thn (ha.run pos pins s1 σ _ _ I1 ht) fun us s2 ⟨vs, H2, I2, r, q⟩ => ⟨I2.kIn, ?_⟩) he hpl
  exact run_fnS G hr hb (hx σ) I2 r q
end
section
variable {K : PySem.W.Frag} {E : XK} {sl : List Sl} {i : Nat} {p : Addr → Prop} {f : List D → Rs → Prop} {tr : TA} {ds : List D} {C g : Addr}
theorem ev_callLSX (hi : sl[i]? = some (.fz (.fn g))) (hp : p g) (ha : EvA K tr sl ds) (hf : f ds (.exc C)) : EvR K E (tCallLS i p (SpR K f) (fun _ => E) tr) sl (.exc C) := fun B0 H0 B H σ sd Q q => by
  obtain ⟨v, h1, h2⟩ := sd.fz i _ hi
  simp only [Den] at h2
  subst h2
  exact ⟨⟨g, hp, h1⟩, ev_callX (E := E) ha hf B0 H0 B H σ sd Q q |> fun z => by simpa only [tCall, List.append_nil] using z⟩
end
end Wv
/-! a try with any body; defs called within a suite, with the error as an argument; count, index of flat items; {} -/
namespace L2
open PySem PySem.Spec PyProof.Rows
section
variable {X : Cx}
def rCntF (K : PySem.W.Frag) : V → List V → Hp → VK → Prop := fun x xs H Q => ∃ (a : Addr) (ys : List V) (y : V), x = V.ref a ∧ xs = [y] ∧ SqL K H a ys ∧ flatV y = true ∧ ys.all flatV = true ∧ Q (.int ((ys.countP fun z => eqV z y : Nat) : Int)) H
theorem countU {y : V} {uy : Value} : ∀ {ys : List V} {us : List Value}, Vals ys us → ys.all flatV = true → us.countP (eqU y) = ys.countP fun z => eqV z y
  | _, _, .nil, _ => rfl
  | _, _, .cons ru r, f => by
    rw [List.all_cons, Bool.and_eq_true] at f
    rw [List.countP_cons, List.countP_cons, countU (uy := uy) r f.2, eqU_of ru f.1]
theorem mt_lcountF : MtR X "list.count" (rCntF X.K) := by
  intro pins s σ H x xs v us Q I rx rxs h
  obtain ⟨a, ys, y, rfl, rfl, hs, fy, fys, q⟩ := h
  cases rx
  obtain ⟨uy, rfl, ry⟩ := rxs.one
  obtain ⟨its, rv, ⟨⟨cls, dd, data, sl⟩, n, ho, hc, hdn, hd⟩, hlen⟩ := I.list hs
  simp only at hc hd
  subst hc hd
  refine call_meets PySem.F.slot_list_count ⟨_, ho, rfl⟩ PySem.F.entry_list_count (PySem.F.args_list_count_2 _ _)
    (SeqAt.list_countAt a its.toArray n dd sl uy (eqU y)) ⟨ho, fun u' hu' => mem_eqAt ry fy rv fys u' (by simpa using hu'), ?_⟩
  have ec : its.toArray.toList.countP (eqU y) = ys.countP fun z => eqV z y := by
    show its.countP (eqU y) = _
    exact countU (uy := uy) rv fys
  refine ⟨.int ((ys.countP fun z => eqV z y : Nat) : Int), H, I.tok _, ⟨s.toks, ?_⟩, q⟩
  show Value.int ((its.toArray.toList.countP (eqU y) : Nat) : Int) s.toks = _
  rw [ec]
/-- isinstance(e, c), e an error that the context bears -/
theorem call_isP {X : Cx} {a D : Addr} {oe : Obj} (C : ExcC X.K D) (hm : (a, oe) ∈ X.pn) (hz : Zc (.ref D) none oe) (hf : ∃ vs, oe.data = .fields vs) : CallR X (.builtin "isinstance") (rIsE X.K D a) := by
  intro pins s σ H xs us Q I r h
  obtain ⟨c, cv, b, rfl, hcv, e, q⟩ := h
  cases r with
  | cons rx rr =>
    cases rr with
    | cons rt rr =>
      cases rr
      cases rx
      have ec := hcv _ rt
      subst ec
      obtain ⟨hget, _⟩ := I.pin (a, oe) (List.mem_append.mpr (.inl hm))
      obtain ⟨vs, hv⟩ := hf
      have J : PySem.W.InstAt s.heap a oe D none := by
        obtain ⟨oc, od, oda, osl⟩ := oe
        obtain ⟨h1, h2⟩ := hz
        dsimp only at h1 h2 hv
        subst h1 h2 hv
        exact ⟨hget, rfl, rfl, trivial⟩
      exact PySem.W.kia_one (PySem.W.handS_kitx_exc C.hg C.hk C.hs C.hd C.ha C.hn C.ht C.hm) I.kIn J e (fun z => nomatch z) fun tk => ⟨.bl b, H, I.kept (t' := tk) fun _ _ z => z, rfl, q⟩
end
end L2
namespace Wv
open PySem L2 PyProof.Rows
open Evl (Ex fresh_back ex_l)
/-! ### a def that is handed the error that is handled -/
/-- what it promises: sp of the other arguments, by the error's class -/
def FnE (P : Program) (w : World) (K : PySem.W.Frag) (mg : Str → Option Value) (base : Heap) (k : Nat) (f : Addr) (fd : FuncData) (ps : List Str) (sp : Addr → Addr → Sp) : Prop :=
  ∀ (U : Addr) (A : Around) (outer : List Env) (s : Shared) (H : Hp) (args : Args) (us : List Value) (vs : List V) (Q : VK) (p : Addr × Obj), L2H.RoomH k A → L2H.Hot1 A p → L2H.PinOk outer H s p → L2N.Zn (.ref U) none p.2 → Env0 P w K mg base A outer s H → BindsTo s fd args (ps.zip us) → Vals vs us → vs.length = ps.length → sp U p.1 vs H Q (fun _ _ _ => False) →
    codeAny (model P w) A (.call (.ref f) args) (CR (fun _ _ _ _ _ _ => False) outer P w H s Q (fun _ _ _ => False)) s
theorem fnE_of {P : Program} {w : World} {K : PySem.W.Frag} {mg : Str → Option Value} {base : Heap} {k : Nat} {f : Addr} {x qual : Str} {st : Stmt} {fd : FuncData} {N ps : List Str} {sp : Addr → Addr → Sp} (F : Fun K x qual st f fd) (S : FnScope N ps (defScope st))
    (hbody : ∀ (U : Addr) (cdv : Value) (A : Around) (outer : List Env) (s : Shared) (H : Hp) (vs : List V) (Q : VK) (p : Addr × Obj), L2H.Hot1 A p → L2N.Zn (.ref U) none p.2 → L2H.RoomH k (A.deeper (envOfC qual (defScope st) s.heap.objs.size f cdv)) → sp U p.1 vs H Q (fun _ _ _ => False) →
      ∃ t, PSs (L2H.cxH (fun _ _ _ _ _ _ => False) P w K mg base N qual (defScope st) f cdv A outer s H (fun _ _ _ => False) p) (defBody st) t ∧ t { nx := fun _ H' => Q .non H', rt := Q } (L2.start N vs) H) :
    FnE P w K mg base (k + 1) f fd ps sp := by
  obtain ⟨oc, od, kV, doc, pm, an, cdv, ct, osl, rfl, lk, hcd⟩ := F.ex
  intro U A outer s H args us vs Q p hr hot hpin hzn e0 hb r hl hsp
  have KX : K.In s.heap := e0.mod.kin.keeps fun b o e => (e0.bs b o e).1
  have lim : s.heap.NoLimit := e0.mod.nolimit.keeps fun b o e => (e0.bs b o e).1
  have hkind : ∀ y ∈ ps.zip us, (defScope st).names.lookup y.1 = some .local ∨ ((defScope st).names.lookup y.1 = some .cell ∧ ((cellsFrom (s.heap.objs.size + 1) (defScope st).names []).lookup y.1).isSome = true) := fun ⟨n, v⟩ hy => by
    rcases S.par n (List.of_mem_zip hy).1 with q | q
    · exact .inl q
    · exact .inr ⟨q, PySem.W.cellsFrom_some _ _ _ (.inl q)⟩
  refine codeAny_call_function hr.depth (KX _ _ lk) rfl S.co S.gen rfl (PySem.W.codeRec_of KX hcd) (hb _ _ _ _ ?_)
  refine wpAny_newFunctionEnv_cells S.kind hkind fun env he s1 x => ?_
  subst he
  refine ⟨lim.keeps x.toInCall.keep, codeAny_func ?_⟩
  obtain ⟨t, ht, hq⟩ := hbody U cdv A outer s H vs Q p hot hzn (hr.deeper _) hsp
  have I := L2H.inv_startH (CX := fun _ _ _ _ _ _ => False) (E := fun _ _ _ => False) S hpin e0 hl r x
  refine wpAny_mono (ht.run [] s1 (L2.start N vs) H _ I hq) (fun fl s' hs => ?_) fun e s' hs => hs
  have fin : ∀ {σ' : L2.St} {H' : Hp} {v : V} {u : Value}, L2.Inv (L2H.cxH (fun _ _ _ _ _ _ => False) P w K mg base N qual (defScope st) f cdv A outer s H (fun _ _ _ => False) p) [] σ' H' s' → RelV v u → Q v H' → CE outer P w H s Q u s' :=
    fun {σ' H' v u} J rv q => ⟨v, H', J.os, J.bare, J.base, J.hok, rv, q⟩
  cases fl with
  | ret u =>
    obtain ⟨v, σ', H', J, rv, q⟩ := hs
    exact fin J rv q
  | next =>
    obtain ⟨σ', H', J, q⟩ := hs
    exact fin (v := V.non) (u := Value.none) J rfl q
  | brk =>
    obtain ⟨_, _, _, q⟩ := hs
    exact False.elim q
  | cont =>
    obtain ⟨_, _, _, q⟩ := hs
    exact False.elim q
/-- f(error) within the suite -/
def tCallE (U a : Addr) (sp : Addr → Addr → Sp) (t : TA) : TE := fun σ H Q => t σ H fun vs H1 => sp U a vs H1 Q (fun _ _ _ => False)
theorem pe_callE {X : Cx} {k : Nat} {f U a : Addr} {fd : FuncData} {ps : List Str} {sp : Addr → Addr → Sp} {x : Str} {q pos : Pos} {e : Expr} {es : List Expr} {t : TA} {oe : Obj} {pn : List (Addr × Obj)}
    (F : FnE X.prog X.w X.K X.mg X.base k f fd ps sp) (len : ∀ U a vs H Q E, sp U a vs H Q E → vs.length = ps.length) (hr : L2H.RoomH k X.A) (hg : Gl X x) (hm : X.mg x = some (.ref f)) (hk : PySem.W.keepIn X.K (.ref f) = true) (hb : Binds X.K fd ps []) (hz : L2N.Zn (.ref U) none oe) (hf : ∃ vs, oe.data = .fields vs)
    (ha : PA (X.suite a ((a, oe) :: pn)) (e :: es) t) (hdb : (x == ("__debug__" : Str)) = false := by decide) (he : starEach (e :: es) X.env = (false, eval e X.env) :: starEach es X.env := by rfl) (hpl : (backTo pos (starEach es X.env)).any (·.1) = false := by rfl) :
    PE (X.suite a ((a, oe) :: pn)) (.Call (.Name x q) (e :: es) [] pos) (tCallE U a sp t) := by
  refine ⟨fun pins s σ H Q I h => ?_⟩
  refine wpAny_Call_Name_kw (ld_glob (X := X.suite a ((a, oe) :: pn)) I hg hm ?_ hdb)
  refine PySem.W.callWith_K (h₀ := X.base) I.ok.mod.kin hk (thn (ha.run pos pins s σ H _ I h) fun us s1 ⟨vs, H1, I1, r, q⟩ => ⟨I1.kIn, ?_⟩) he hpl
  have hl := len _ _ _ _ _ _ q
  have hul : us.length = ps.length := by rw [← r.length]; exact hl
  have b := hb s1 us I1.kIn (by rw [List.append_nil]; exact hul)
  rw [List.append_nil] at b
  have hmem : (a, oe) ∈ ((a, oe) :: pn) ++ pins := List.mem_append_left _ List.mem_cons_self
  have P1 := I1.pin (a, oe) hmem
  have hpin : L2H.PinOk X.stack H1 s1 (a, oe) := ⟨P1.1, P1.2.1, fun hm => (List.mem_cons.mp (I1.stkSub a hm)).elim P1.2.2.1 P1.2.2.2.1, P1.2.2.2.2⟩
  obtain ⟨fv, hfv⟩ := hf
  have hot : L2H.Hot1 (X.suite a ((a, oe) :: pn)).A (a, oe) := ⟨rfl, fv, hfv, hz.2.2 fv hfv⟩
  refine wpAny_call (codeAny_mono (F U _ X.stack s1 H1 ⟨us, []⟩ us vs Q (a, oe) ⟨hr.dp, hr.un⟩ hot hpin hz I1.env0 b r hl q) fun r s' hq => ?_)
  cases r with
  | error e => exact hq.elim
  | ok fl =>
    cases fl with
    | ret u => exact I1.after hq
    | next => exact False.elim hq
    | brk => exact False.elim hq
    | cont => exact False.elim hq
def OkE (P : Program) (w : World) (K : PySem.W.Frag) (mg : Str → Option Value) (base : Heap) (k : Nat) (x : Str) (ps : List Str) (sp : Addr → Addr → Sp) : Prop := ∃ f fd, mg x = some (.ref f) ∧ PySem.W.keepIn K (.ref f) = true ∧ Binds K fd ps [] ∧ FnE P w K mg base k f fd ps sp
theorem okE {P : Program} {w : World} {K : PySem.W.Frag} {mg : Str → Option Value} {base : Heap} {k : Nat} {x : Str} {st : Stmt} {ps : List Str} {sp : Addr → Addr → Sp} (h : FnAt K mg x st ps) (g : ∀ f fd, Fun K x x st f fd → FnE P w K mg base k f fd ps sp) : OkE P w K mg base k x ps sp := by
  obtain ⟨f, fd, h1, h2, h3⟩ := h
  exact ⟨f, fd, h1, h2.kp, h3, g f fd h2⟩
theorem pe_callED {X : Cx} {k : Nat} {U a : Addr} {ps : List Str} {sp : Addr → Addr → Sp} {x : Str} {q pos : Pos} {e : Expr} {es : List Expr} {t : TA} {oe : Obj} {pn : List (Addr × Obj)}
    (G : OkE X.prog X.w X.K X.mg X.base k x ps sp) (len : ∀ U a vs H Q E, sp U a vs H Q E → vs.length = ps.length) (hr : L2H.RoomH k X.A) (hg : Gl X x) (hz : L2N.Zn (.ref U) none oe) (hf : ∃ vs, oe.data = .fields vs)
    (ha : PA (X.suite a ((a, oe) :: pn)) (e :: es) t) (hdb : (x == ("__debug__" : Str)) = false := by decide) (he : starEach (e :: es) X.env = (false, eval e X.env) :: starEach es X.env := by rfl) (hpl : (backTo pos (starEach es X.env)).any (·.1) = false := by rfl) :
    PE (X.suite a ((a, oe) :: pn)) (.Call (.Name x q) (e :: es) [] pos) (tCallE U a sp t) := by
  obtain ⟨f, fd, h1, h2, h3, h4⟩ := G
  exact pe_callE h4 len hr hg h1 h2 h3 hz hf ha hdb he hpl
theorem pss_exU {X : Cx} {b : List Stmt} {cls : Value} {d : Option Addr} {t : Addr → TS} (h : ∀ U, cls = .ref U → d = none → PSs X b (t U)) : PSs X b (fun D σ H => ∃ U, (cls = .ref U ∧ d = none) ∧ t U D σ H) :=
  ⟨fun pins s σ H D I ⟨U, ⟨h1, h2⟩, q⟩ => (h U h1 h2).run pins s σ H D I q⟩
section
variable {K : PySem.W.Frag} {E : XK} {sl : List Sl} {P : En} {U a : Addr} {d : D} {ds : List D} {tr : TA}
theorem w_exU {t : Addr → TS} (h : W K E (t U) sl P) : W K E (fun D σ H => ∃ V, (Value.ref U = .ref V ∧ (none : Option Addr) = none) ∧ t V D σ H) sl P := fun B0 H0 B H σ D sd m => ⟨U, ⟨rfl, rfl⟩, h B0 H0 B H σ D sd m⟩
theorem ev_callE {f : Addr → Addr → List D → Rs → Prop} (ha : EvA K tr sl ds) (hf : f U a ds (.dat d)) : EvR K E (tCallE U a (fun U a => SpR K (f U a)) tr) sl (.dat d) := fun B0 H0 B H σ sd Q q =>
  ev_call (E := E) (E' := fun _ _ _ => False) ha hf B0 H0 B H σ sd Q q |> fun z => by
    simp only [tCall, List.append_nil] at z
    exact z
theorem ev_opX {r : R2} {C : Addr} {ta tb : TE} (h : EvR K E ta sl (.exc C)) : EvR K E (tOp r ta tb) sl (.exc C) := fun B0 H0 B H σ sd Q q => h B0 H0 B H σ sd _ q
end
/-- for x in xs: each of them is served alike -/
theorem w_forAll {K : PySem.W.Frag} {E : XK} {sl : List Sl} {P : En} {xs : List D} {ti : TI} {j : Nat} {tb : TS} (S : List Sl) (hi : ItE K ti sl xs) (h0 : Fgt sl S)
    (hs : ∀ d, d ∈ xs → W K E tb (S.set j (.fz d)) { nx := fun s => Fgt s S, ct := fun s => Fgt s S, bk := P.nx, rt := P.rt }) (hd : ∀ s, Fgt s S → P.nx s) : W K E (tFor ti (gName j) tb) sl P :=
  w_for (fun _ s => Fgt s S) hi h0 (fun i d s h1 h2 => gw_name (w_fgt (fgt_set h2) (hs d (List.mem_of_getElem? h1)))) fun s h => hd s h
/-! ### a try with any body; the suite looks at the error alone -/
def wAll (n : Nat) (K : PySem.W.Frag) (c : Value) (i : Nat) (ts : Addr → Value → Option Addr → TS) (Wout : WX) (D : Ends) : XK := fun cls d H => ∀ σ : L2.St, σ.length = n → wAs K c i ts Wout D cls d σ H
/-- try: tb except c as (slot i): ts -/
def tTryE (n : Nat) (K : PySem.W.Frag) (c : Value) (i : Nat) (ts : Addr → Value → Option Addr → TS) (Wout : WX) (tb : XK → TS) : TS := fun D σ H => tb (wAll n K c i ts Wout D) D σ H
theorem ps_tryE {X : Cx} {x n : Str} {c : Value} {i : Nat} {body suite : List Stmt} {b₀ : Stmt} {np pos pos' : Pos} {tb : XK → TS} {ts : Addr → Value → Option Addr → TS} {Wout : WX}
    (hs : X.stack = X.env :: X.outer) (hf : X.env.frame = some X.env.locals) (hN : X.N.Nodup) (hi : X.N[i]? = some n) (hln : X.env.kindOf n = some .local) (hc : Names X x c) (tk : L2N.Takes X Wout)
    (hb : ∀ (E : XK) (pn : List (Addr × Obj)) (xe : Value → Shared → Prop), Passes (L2N.CX X.prog X.w) (X.tr pn xe) E → PassesOwn (model X.prog X.w) X.A X.env xe → PSs (X.tr pn xe) body (tb E))
    (hsu : ∀ (a : Addr) (oe : Obj) (cls : Value) (d : Option Addr) (pn : List (Addr × Obj)), L2N.Zn cls d oe → (∃ vs, oe.data = .fields vs) → PSs (X.suite a ((a, oe) :: pn)) (b₀ :: suite) (ts a cls d)) :
    PS X (.Try body [.ExceptHandler (some (.Name x np)) (some n) (b₀ :: suite) pos'] [] [] pos) (tTryE X.N.length X.K c i ts Wout tb) :=
  ⟨fun pins s σ H D I h => (L2N.ps_try_as (tb := fun W => tb (fun cls d H => ∀ σ : L2.St, σ.length = X.N.length → W cls d σ H)) hs hf hN hi hln hc tk (fun W pn xe t0 po => hb _ pn xe (fun pins σ H s e s' I c => t0 e s' (L2N.XE.of_call I (fun cls d H' q => q σ I.len) c)) po) hsu).run pins s σ H D I h⟩
section
variable {K : PySem.W.Frag} {E : XK} {sl : List Sl} {P : En} {c : Value} {i n : Nat} {tb : XK → TS} {ts : Addr → Value → Option Addr → TS} {Wout : WX} {C : Addr → Prop}
theorem sd_uns {B0 H0 B H : Hp} {σ : L2.St} (g : Gr B0 H0 B H) (h : σ.length = n) : SD K B0 H0 B H σ (List.replicate n .un) := by
  have no : ∀ (j : Nat) (x : Sl), (List.replicate n Sl.un)[j]? = some x → x = .un := fun j x e => List.eq_of_mem_replicate (List.mem_of_getElem? e)
  refine ⟨g, by simpa using h, fun j d e => ?_, fun j xs e => ?_, fun j p0 C ns ds e => ?_, fun j k xs ys p e1 e2 e3 e4 => ?_, fun j d e => ?_⟩
  · cases no _ _ e
  · cases no _ _ e
  · cases no _ _ e
  · cases no _ _ e1
  · cases no _ _ e
theorem w_tryE (hb : ∀ E', W K E' (tb E') sl { P with rt := fun r => (∃ U, r = .exc U ∧ C U) ∨ (P.rt r ∧ ∀ U, r ≠ .exc U) })
    (hs : ∀ U, C U → PySem.W.exmOne K (.ref U) c = some true ∧ ∀ a, W K E (ts a (.ref U) none) ((List.replicate n Sl.un).set i (.fz (.fn a))) (gone P i)) :
    W K E (tTryE n K c i ts Wout tb) sl P := fun B0 H0 B H σ D sd m => by
  refine hb _ B0 H0 B H σ D sd ⟨m.nx, m.bk, m.ct, fun r B1 H1 g1 k => ?_⟩
  rcases k with ⟨U, rfl, hU⟩ | ⟨k, hne⟩
  · obtain ⟨hx, hw⟩ := hs U hU
    show ∀ B' H', Gr B1 H1 B' H' → _
    intro B2 H2 g2 σ' hl
    refine ⟨true, hx, fun _ a ha => ?_, fun z => Bool.noConfusion z⟩
    exact hw a B0 H0 B2 H2 _ _ ((sd_uns (g1.trans g2) hl).setFz (d := .fn a) (by simp only [Den])) ⟨fun B H σ sl s q => m.nx B H _ _ s.setUn q, fun B H σ sl s q => m.bk B H _ _ s.setUn q, fun B H σ sl s q => m.ct B H _ _ s.setUn q, m.rt⟩
  · have q := m.rt r B1 H1 g1 k
    cases r with
    | exc U => exact absurd rfl (hne U)
    | dat d => exact q
    | new xs => exact q
    | frs d => exact q
end
/-! ### flat items, {} -/
section
variable {K : PySem.W.Frag} {E : XK} {sl : List Sl} {ta te : TE}
theorem flat_bls (bs : List Bool) : (bs.map V.bl).all flatV = true := by
  rw [List.all_map, List.all_eq_true]
  intro b _
  rfl
theorem ev_countB {bs : List Bool} (ho : EvR K E ta sl (.dat (blL bs))) (ha : EvR K E0 te sl (.dat (.bl true))) : EvR K E (tBM K "list" (rCntF K) ta (tCons te tNil)) sl (.dat (nat (bs.countP id))) :=
  ev_bm ho (ea_cons ha ea_nil) (fun B H v vs e d dd E Q q => ⟨ty_lst e d, by
    obtain ⟨a, us, rfl, h1, h2⟩ := den_lst d
    obtain ⟨w, rfl, h3⟩ := denL_one dd
    rw [den_bl h3]
    rw [denL_bls h2] at h1
    refine ⟨a, bs.map V.bl, .bl true, rfl, rfl, SqL.of (e a _ h1), rfl, flat_bls bs, ?_⟩
    have ec : (bs.map V.bl).countP (fun z => eqV z (.bl true)) = bs.countP id := by
      rw [List.countP_map]
      refine List.countP_congr fun b _ => ?_
      cases b <;> simp [eqV]
    rw [ec]
    exact post_v e q (mk_int _)⟩) fun B H v e d => ty_lst e d
theorem ev_indexB {bs : List Bool} {j : Nat} (ho : EvR K E ta sl (.dat (blL bs))) (ha : EvR K E0 te sl (.dat (.bl true))) (hj : bs[j]? = some true) (hn : ∀ m, m < j → bs[m]? ≠ some true) : EvR K E (tBM K "list" (rIndex K) ta (tCons te tNil)) sl (.dat (nat j)) :=
  ev_bm ho (ea_cons ha ea_nil) (fun B H v vs e d dd E Q q => ⟨ty_lst e d, by
    obtain ⟨a, us, rfl, h1, h2⟩ := den_lst d
    obtain ⟨w, rfl, h3⟩ := denL_one dd
    rw [den_bl h3]
    rw [denL_bls h2] at h1
    refine ⟨a, bs.map V.bl, .bl true, j, .bl true, rfl, rfl, SqL.of (e a _ h1), rfl, flat_bls bs, by rw [List.getElem?_map, hj]; rfl, rfl, fun m z hm hz => ?_, post_v e q (mk_int _)⟩
    rw [List.getElem?_map] at hz
    cases w : bs[m]? with
    | none => rw [w] at hz; cases hz
    | some b =>
      rw [w] at hz
      cases hz
      cases b with
      | false => rfl
      | true => exact absurd w (hn m hm)⟩) fun B H v e d => ty_lst e d
theorem ev_emp : EvR K E tDNewK sl (.frs .emp) := fun B0 H0 B H σ sd Q q p hp => by
  obtain ⟨g, e, n, _⟩ := frs_new (v := .ref p) (N := fun _ => none) (Q := fun _ _ => True) (o := .dK []) (Gr.refl sd.sub) (fun _ _ z => nomatch z) (fun _ _ z => nomatch z) hp
  refine q (.ref p) _ _ _ g e n ?_
  simp only [Den]
  exact ⟨p, rfl, upd_same⟩
theorem denL_rep {B : Hp} {xs : List D} {us : List V} (h : DenL K B xs us) : ∀ k : Nat, DenL K B (List.replicate k xs).flatten (List.replicate k us).flatten
  | 0 => denL_nil
  | k + 1 => by
    rw [List.replicate_succ, List.replicate_succ, List.flatten_cons, List.flatten_cons]
    exact denL_app h (denL_rep h k)
/-- xs * k -/
theorem od_rep {xs : List D} {k : Int} (h0 : -1000 ≤ k) (h1 : k ≤ 1000) (hl : xs.length ≤ 1000) : OpD K rRep (.lst xs) (.int k) (.new (List.replicate k.toNat xs).flatten) := fun B H vx vy e dx dy E Q q => by
  obtain ⟨a, us, rfl, g1, g2⟩ := den_lst dx
  rw [den_int dy]
  have hu := denL_len g2
  refine ⟨a, k, us, rfl, rfl, e a _ g1, by omega, by omega, ?_, fun p hp => q p _ _ _ (Gr.lay e hp) hp (fresh_back e hp) upd_same (denL_rep g2 _)⟩
  rw [← hu, sizeLine_eq]
  calc xs.length * k.toNat ≤ 1000 * 1000 := Nat.mul_le_mul hl (by omega)
    _ ≤ _ := by decide
theorem kit_dl : kitB "dict" "list" = some false := by decide +kernel
end
end Wv
namespace Wv
open PySem L2 PyProof.Rows
open Evl (Ex fresh_back ex_l)
def top (i : Nat) : Stmt := PySem.Challenge.pw_weighvote_k08_refused.main.body.getD i (.Pass ⟨0, 0, 0, 0⟩)
/-! ### the words that evaluate -/
local macro_rules | `(tactic| walk_at "side0") => `(tactic| first
  | assumption | exact True.intro | (with_reducible exact rfl) | omega | (constructor <;> first | assumption | omega) | decide | (solve_by_elim) | (simp; done) | (simp <;> omega))
local macro_rules | `(tactic| walk_at "side") => `(tactic| first | walk_at "side0" | (dsimp only; walk_at "side0"))
local macro_rules | `(tactic| walk_at "nt") => `(tactic| first
  | (with_reducible exact pw_nat _) | (with_reducible exact shl_one _) | (with_reducible exact rfl) | (with_reducible exact lit0) | (with_reducible exact lit1) | (with_reducible exact lit2) | (with_reducible exact lit3) | (with_reducible exact lit4) | (with_reducible exact lit5) | (with_reducible exact lit6) | (with_reducible exact lit7) | (with_reducible exact lit8) | (with_reducible exact lit31) | (with_reducible exact lit32) | (with_reducible exact lit40) | exact rfl | omega | (simp; done))
local macro_rules | `(tactic| walk_at "od") => `(tactic| first
  | (with_reducible exact od_andN) | (with_reducible exact od_orN) | (with_reducible exact od_xorN) | ((with_reducible apply od_shl1); omega) | (with_reducible exact od_eqNat) | (with_reducible exact od_neNat)
  | (with_reducible exact od_i) | (with_reducible exact od_b) | (with_reducible exact od_eqI) | (with_reducible exact od_neI) | (with_reducible exact od_eqB) | (with_reducible exact od_neB) | (with_reducible exact od_eqS) | (with_reducible exact od_neS)
  | ((with_reducible refine od_ixB ?_); walk_at "side") | ((with_reducible refine od_ixI ?_); walk_at "side") | ((with_reducible refine od_ixN ?_); walk_at "side")
  | ((with_reducible apply od_ixR); (· walk_at "side"); (· walk_at "side"))
  | ((with_reducible apply od_ixT); (· walk_at "side"); (· exact rfl)) | ((with_reducible apply od_ixL); (· walk_at "side"); (· exact rfl))
  | (with_reducible exact od_eqN) | (with_reducible exact od_neN) | (with_reducible exact od_eqL) | (with_reducible exact od_neL) | (with_reducible exact od_eqLb)
  | (with_reducible exact od_inI)
  | ((with_reducible refine od_ic ?_); walk_at "oc")
  | ((with_reducible refine od_cat ?_); walk_at "sz"))
local macro_rules | `(tactic| walk_at "oc") => `(tactic| first
  | assumption | (refine And.intro ?_ (And.intro ?_ ?_) <;> first | assumption | omega | decide) | (refine And.intro ?_ ?_ <;> first | assumption | omega | decide) | (refine Or.inl (And.intro ?_ ?_) <;> first | omega | decide) | (refine Or.inr (And.intro ?_ ?_) <;> first | omega | decide) | (show (0 : Int) ≤ _; omega) | (show (0 : Int) < _; omega) | (show (0 : Int) < _; decide) | decide)
local macro_rules | `(tactic| walk_at "sz") => `(tactic| first
  | omega | (with_reducible exact wo_big _) | (simp only [List.length_map, List.length_range, List.length_cons, List.length_nil, sizeLine_eq] <;> omega)
  | (rw [sizeLine_eq]; simp <;> omega) | (simp <;> omega) | decide)
local macro_rules | `(tactic| walk_at "cf") => `(tactic| first
  | assumption | exact c_within.i _ _ _
  | ((refine c_law_table.mk ?_ ?_); (· walk_at "side"); (· walk_at "sz"))
  | ((refine c_law_is.mk ?_); walk_at "side") | ((refine RC1.mk ?_); walk_at "side") | ((refine RC2.mk ?_); walk_at "side") | ((refine RCC.mk ?_); walk_at "side")
  | ((refine R1.mk ?_); walk_at "side") | ((refine R2'.mk ?_); walk_at "side") | ((refine R3.mk ?_); walk_at "side") | ((refine R4.mk ?_); walk_at "side"))
local macro_rules | `(tactic| walk_at "cb") => `(tactic| first
  | (with_reducible exact cb_lenM) | (with_reducible exact cb_len) | (with_reducible exact cb_lenT) | (with_reducible exact cb_lenR) | (with_reducible exact cb_anyM) | (with_reducible exact cb_allM) | (with_reducible exact cb_sumM)
  | (with_reducible exact cb_any) | (with_reducible exact cb_all) | (with_reducible exact cb_sum) | (with_reducible exact cb_list)
  | ((with_reducible apply cb_isi); (· constructor); (· first | (with_reducible exact kit_ii) | (with_reducible exact kit_ib) | (with_reducible exact kit_bb) | (with_reducible exact kit_bi) | (with_reducible exact kit_ll) | (with_reducible exact kit_ss) | (with_reducible exact kit_li) | (with_reducible exact kit_lb) | (with_reducible exact kit_ti) | (with_reducible exact kit_tl) | (with_reducible exact kit_si) | (with_reducible exact kit_sl) | (with_reducible exact kit_ni) | (with_reducible exact kit_nl) | (with_reducible exact kit_il) | (with_reducible exact kit_lt) | (with_reducible exact kit_tt) | (with_reducible exact kit_ns) | (with_reducible exact kit_is) | (with_reducible exact kit_ls) | (with_reducible exact kit_bs))))
local macro_rules | `(tactic| walk_at "ea") => `(tactic| first
  | (with_reducible exact ea_nil)
  | ((with_reducible apply ea_cons); (· walk_at "ev"); (· walk_at "ea")))
local macro_rules | `(tactic| walk_at "ne") => `(tactic| first | exact Or.inr rfl | exact Or.inl (fun _ z => nomatch z))
local macro_rules | `(tactic| walk_at "et") => `(tactic| first
  | (with_reducible exact et_yes)
  | ((with_reducible apply et_test); walk_at "ev") | ((with_reducible apply et_B); walk_at "ev")
  | ((with_reducible apply et_not); walk_at "et")
  | ((with_reducible apply et_and); (· walk_at "et"); (· intro hq; walk_at "et"))
  | ((with_reducible apply et_or); (· walk_at "et"); (· intro hq; walk_at "et")))
local macro_rules | `(tactic| walk_at "it") => `(tactic| first
  | ((with_reducible apply it_rngN); (· walk_at "ea"); (· walk_at "nt"); (· walk_at "side"))
  | ((with_reducible apply it_list); walk_at "ev") | ((with_reducible apply it_tup); walk_at "ev"))
local macro_rules | `(tactic| walk_at "evN") => `(tactic| first
  | ((with_reducible apply ev_callG); (· walk_at "ea"); (· walk_at "cf"); (· walk_at "ne"))
  | ((with_reducible apply ev_methG); (· walk_at "ev"); (· decide +kernel); (· walk_at "ea"); (· walk_at "cf"); (· walk_at "ne"))
  | ((with_reducible apply ev_lst); (· walk_at "ea"); (· walk_at "sz"))
  | ((with_reducible apply ev_cb); (· walk_at "ea"); (· walk_at "cb"))
  | ((with_reducible apply ev_op); (· walk_at "ev"); (· walk_at "ev"); (· walk_at "od"))
  | ((with_reducible apply ev_lcM); (· walk_at "it"); (· walk_at "sz"); (· decide); (· (intro a ha; (try replace ha := List.mem_range.mp ha); walk_at "ev")))
  | ((with_reducible apply ev_lcF); (· walk_at "it"); (· walk_at "sz"); (· decide); (· (intro a ha; (try replace ha := List.mem_range.mp ha); walk_at "et")); (· (intro a ha hf; (try replace ha := List.mem_range.mp ha); walk_at "ev")))
  | ((with_reducible apply ev_revL); walk_at "ev")
  | ((with_reducible apply ev_listRg1); (· walk_at "ev"); (· walk_at "nt"); (· walk_at "side")))
local macro_rules | `(tactic| walk_at "ev") => `(tactic| first
  | ((with_reducible apply ev_var); exact rfl)
  | (with_reducible exact ev_int) | (with_reducible exact ev_bl) | (with_reducible exact ev_str) | (with_reducible exact ev_non) | (with_reducible exact ev_ty) | (with_reducible exact ev_fn)
  | ((with_reducible apply ev_op); (· walk_at "ev"); (· walk_at "ev"); (· walk_at "od"))
  | ((with_reducible apply ev_un); (· walk_at "ev"); (· exact ud_i))
  | ((with_reducible apply ev_chain); (· walk_at "ev"); (· walk_at "ev"); (· walk_at "ev"); (· walk_at "od"); (· walk_at "od"))
  | ((with_reducible apply ev_andV); (· walk_at "ev"); (· intro hq; walk_at "ev"))
  | ((with_reducible apply ev_orV); (· walk_at "ev"); (· intro hq; walk_at "ev"))
  | ((with_reducible apply ev_notV); walk_at "ev")
  | ((with_reducible apply ev_if); (· walk_at "et"); (· intro hq; walk_at "ev"); (· intro hq; walk_at "ev"))
  | ((with_reducible apply ev_fld); (· walk_at "ev"); (· assumption); (· assumption); (· first | exact lk_members _ _ | exact lk_table _ _))
  | ((with_reducible apply ev_callG); (· walk_at "ea"); (· walk_at "cf"); (· walk_at "ne"))
  | ((with_reducible apply ev_methG); (· walk_at "ev"); (· decide +kernel); (· walk_at "ea"); (· walk_at "cf"); (· walk_at "ne"))
  | ((with_reducible apply EvR.ofF); walk_at "evO")
  | ((with_reducible apply ev_cb); (· walk_at "ea"); (· walk_at "cb"))
  | ((with_reducible apply ev_tup); (· walk_at "ea"); (· walk_at "sz"))
  | ((with_reducible apply ev_count); (· walk_at "ev"); (· walk_at "ev"))
  | ((with_reducible apply EvR.fz); walk_at "evN"))
local macro_rules | `(tactic| walk_at "ci") => `(tactic| first
  | assumption | (refine c_Council_init.mk ?_ ?_ ?_ ?_ <;> walk_at "side"))
local macro_rules | `(tactic| walk_at "evO") => `(tactic| first
  | ((with_reducible apply ev_make); (· walk_at "ea"); (· walk_at "ci"))
  | ((with_reducible apply ev_callG); (· walk_at "ea"); (· walk_at "cf"); (· walk_at "ne"))
  | ((with_reducible apply ev_methG); (· walk_at "ev"); (· decide +kernel); (· walk_at "ea"); (· walk_at "cf"); (· walk_at "ne"))
  | (with_reducible exact ev_emp))
local macro_rules | `(tactic| walk_at "evF") => `(tactic| first
  | walk_at "evO"
  | ((with_reducible apply EvR.frsS); (· walk_at "ev"); (· exact rfl))
  | ((with_reducible apply EvR.frsL); (· walk_at "evN"); (· simp [sca])))
structure Txt (K : PySem.W.Frag) (mg : Str → Option Value) (C_Council C_CouncilError C_BadCouncil C_BadGroup C_NoMember C_Unlike C_BadWeights C_BadText : Addr) : Prop where
  n_all : mg "all" = none
  n_any : mg "any" = none
  n_bool : mg "bool" = none
  n_int : mg "int" = none
  n_isinstance : mg "isinstance" = none
  n_len : mg "len" = none
  n_list : mg "list" = none
  n_range : mg "range" = none
  n_sum : mg "sum" = none
  n_ValueError : mg "ValueError" = none
  c_MOST : ∃ t, mg "MOST" = some (.int 5 t)
  c_GREATEST : ∃ t, mg "GREATEST" = some (.int 1000000 t)
  g_Council : mg "Council" = some (.ref C_Council)
  cl_Council : Cls K C_Council
  na_Council_members : NoAttr K C_Council "members"
  na_Council_table : NoAttr K C_Council "table"
  x_CouncilError : ErrAt K mg "CouncilError" C_CouncilError
  x_BadCouncil : ErrAt K mg "BadCouncil" C_BadCouncil
  x_BadGroup : ErrAt K mg "BadGroup" C_BadGroup
  x_NoMember : ErrAt K mg "NoMember" C_NoMember
  x_Unlike : ErrAt K mg "Unlike" C_Unlike
  x_BadWeights : ErrAt K mg "BadWeights" C_BadWeights
  x_BadText : ErrAt K mg "BadText" C_BadText
  ec_BadCouncil : ExcC K C_BadCouncil
  ec_BadGroup : ExcC K C_BadGroup
  ec_NoMember : ExcC K C_NoMember
  ec_BadWeights : ExcC K C_BadWeights
  xm_BadCouncil : PySem.W.exmOne K (.ref C_BadCouncil) (.ref C_CouncilError) = some true
  xm_BadGroup : PySem.W.exmOne K (.ref C_BadGroup) (.ref C_CouncilError) = some true
  xm_NoMember : PySem.W.exmOne K (.ref C_NoMember) (.ref C_CouncilError) = some true
  xm_BadWeights : PySem.W.exmOne K (.ref C_BadWeights) (.ref C_CouncilError) = some true
  ki_BadCouncil_BadCouncil : PySem.W.kitOne K (.ref C_BadCouncil) (.ref C_BadCouncil) = some true
  ki_BadCouncil_BadGroup : PySem.W.kitOne K (.ref C_BadCouncil) (.ref C_BadGroup) = some false
  ki_BadCouncil_NoMember : PySem.W.kitOne K (.ref C_BadCouncil) (.ref C_NoMember) = some false
  ki_BadCouncil_BadWeights : PySem.W.kitOne K (.ref C_BadCouncil) (.ref C_BadWeights) = some false
  ki_BadCouncil_Unlike : PySem.W.kitOne K (.ref C_BadCouncil) (.ref C_Unlike) = some false
  ki_BadCouncil_BadText : PySem.W.kitOne K (.ref C_BadCouncil) (.ref C_BadText) = some false
  ki_BadCouncil_VE : PySem.W.kitOne K (.ref C_BadCouncil) (.type "ValueError") = some true
  ki_BadGroup_BadCouncil : PySem.W.kitOne K (.ref C_BadGroup) (.ref C_BadCouncil) = some false
  ki_BadGroup_BadGroup : PySem.W.kitOne K (.ref C_BadGroup) (.ref C_BadGroup) = some true
  ki_BadGroup_NoMember : PySem.W.kitOne K (.ref C_BadGroup) (.ref C_NoMember) = some false
  ki_BadGroup_BadWeights : PySem.W.kitOne K (.ref C_BadGroup) (.ref C_BadWeights) = some false
  ki_BadGroup_Unlike : PySem.W.kitOne K (.ref C_BadGroup) (.ref C_Unlike) = some false
  ki_BadGroup_BadText : PySem.W.kitOne K (.ref C_BadGroup) (.ref C_BadText) = some false
  ki_BadGroup_VE : PySem.W.kitOne K (.ref C_BadGroup) (.type "ValueError") = some true
  ki_NoMember_BadCouncil : PySem.W.kitOne K (.ref C_NoMember) (.ref C_BadCouncil) = some false
  ki_NoMember_BadGroup : PySem.W.kitOne K (.ref C_NoMember) (.ref C_BadGroup) = some false
  ki_NoMember_NoMember : PySem.W.kitOne K (.ref C_NoMember) (.ref C_NoMember) = some true
  ki_NoMember_BadWeights : PySem.W.kitOne K (.ref C_NoMember) (.ref C_BadWeights) = some false
  ki_NoMember_Unlike : PySem.W.kitOne K (.ref C_NoMember) (.ref C_Unlike) = some false
  ki_NoMember_BadText : PySem.W.kitOne K (.ref C_NoMember) (.ref C_BadText) = some false
  ki_NoMember_VE : PySem.W.kitOne K (.ref C_NoMember) (.type "ValueError") = some true
  ki_BadWeights_BadCouncil : PySem.W.kitOne K (.ref C_BadWeights) (.ref C_BadCouncil) = some false
  ki_BadWeights_BadGroup : PySem.W.kitOne K (.ref C_BadWeights) (.ref C_BadGroup) = some false
  ki_BadWeights_NoMember : PySem.W.kitOne K (.ref C_BadWeights) (.ref C_NoMember) = some false
  ki_BadWeights_BadWeights : PySem.W.kitOne K (.ref C_BadWeights) (.ref C_BadWeights) = some true
  ki_BadWeights_Unlike : PySem.W.kitOne K (.ref C_BadWeights) (.ref C_Unlike) = some false
  ki_BadWeights_BadText : PySem.W.kitOne K (.ref C_BadWeights) (.ref C_BadText) = some false
  ki_BadWeights_VE : PySem.W.kitOne K (.ref C_BadWeights) (.type "ValueError") = some true
section
variable {P : Program} {w : World} {K : PySem.W.Frag} {mg : Str → Option Value} {base : Heap} {C_Council C_CouncilError C_BadCouncil C_BadGroup C_NoMember C_Unlike C_BadWeights C_BadText : Addr}
abbrev st_within : Stmt := top 11
abbrev n_within : List Str := ["number", "low", "high"]
abbrev p_within : List Str := ["number", "low", "high"]
theorem sc_within : FnScope n_within p_within (defScope st_within) := ⟨rfl, rfl, rfl, by decide +kernel, rfl, by decide +kernel, by decide +kernel⟩
theorem ok_within {f : Addr} {fd : FuncData} (F : Fun K "within" "within" st_within f fd) (T : Txt K mg C_Council C_CouncilError C_BadCouncil C_BadGroup C_NoMember C_Unlike C_BadWeights C_BadText) : FnOk P w K mg base CX0 1 f fd p_within (SpR K c_within) := by
  refine F.ok sc_within (sp_len c_within.len) (fun cdv A outer s H vs Q E hr h => ?_)
  have hcl_Council := T.cl_Council
  have hna_Council_members := T.na_Council_members
  have hna_Council_table := T.na_Council_table
  refine ⟨_, (pss_one (ps_ret (pe_and (pe_callB call_isi (by rfl) T.n_isinstance (by decide +kernel) (pa_cons (pv 0) (pa_cons (pe_bltn (v := .ty "int") (by rfl) T.n_int (by decide +kernel) rfl) pa_nil))) (pe_and (pe_not (pe_callB call_isi (by rfl) T.n_isinstance (by decide +kernel) (pa_cons (pv 0) (pa_cons (pe_bltn (v := .ty "bool") (by rfl) T.n_bool (by decide +kernel) rfl) pa_nil)))) (pe_one (pe_chain op_le op_le (pv 1) (pv 0) (pv 2))))))), go_of ?_ h⟩
  try dsimp only [L2.cxOf, L2.Cx.nox, L2.Cx.wish, L2.Cx.blk]
  rintro ds r ⟨x, lo, hi, b, rfl, hw, rfl⟩
  refine w_ret (r := .dat (.bl b)) ?_ rfl
  cases hw with
  | int n =>
    refine ev_is (d := .bl (true && (!false && (decide (lo ≤ n) && decide (n ≤ hi))))) ?_ (by simp)
    walk_at "ev"
  | bl b =>
    refine ev_is (d := .bl (true && false)) ?_ rfl
    refine ev_andV (by walk_at "ev") fun _ => ev_andV' ?_
    refine ev_is (d := .bl (!true)) ?_ rfl
    walk_at "ev"
  | no _ T _ _ h hT =>
    refine ev_andV' ?_
    exact ev_cb (ea_cons (ev_var rfl) (ea_cons ev_ty ea_nil)) (cb_isi h hT)
def c_holds_all : List D → Rs → Prop := R2' nat nat (fun _ _ => True) fun g o => .dat (.bl (decide (g &&& o = o)))
abbrev st_holds_all : Stmt := top 12
abbrev n_holds_all : List Str := ["group", "other"]
abbrev p_holds_all : List Str := ["group", "other"]
theorem sc_holds_all : FnScope n_holds_all p_holds_all (defScope st_holds_all) := ⟨rfl, rfl, rfl, by decide +kernel, rfl, by decide +kernel, by decide +kernel⟩
theorem ok_holds_all {f : Addr} {fd : FuncData} (F : Fun K "holds_all" "holds_all" st_holds_all f fd) (T : Txt K mg C_Council C_CouncilError C_BadCouncil C_BadGroup C_NoMember C_Unlike C_BadWeights C_BadText) : FnOk P w K mg base CX0 1 f fd p_holds_all (SpR K c_holds_all) := by
  refine F.ok sc_holds_all (sp_len R2'.len) (fun cdv A outer s H vs Q E hr h => ?_)
  have hcl_Council := T.cl_Council
  have hna_Council_members := T.na_Council_members
  have hna_Council_table := T.na_Council_table
  refine ⟨_, (pss_one (ps_ret (pe_cmpR op_eq (pe_op op_and (pv 0) (pv 1)) (pv 1) (nomark _)))), go_of ?_ h⟩
  try dsimp only [L2.cxOf, L2.Cx.nox, L2.Cx.wish, L2.Cx.blk]
  rintro ds r ⟨g, o, rfl, -, rfl⟩
  refine w_ret ?_ rfl
  walk_at "ev"
def c_without_one : List D → Rs → Prop := R1 nat (fun _ => True) fun g => .new ((wo g).map nat)
abbrev st_without_one : Stmt := top 14
abbrev n_without_one : List Str := ["group", "k"]
abbrev p_without_one : List Str := ["group"]
theorem sc_without_one : FnScope n_without_one p_without_one (defScope st_without_one) := ⟨rfl, rfl, rfl, by decide +kernel, rfl, by decide +kernel, by decide +kernel⟩
theorem ok_without_one {f : Addr} {fd : FuncData} (F : Fun K "without_one" "without_one" st_without_one f fd) (T : Txt K mg C_Council C_CouncilError C_BadCouncil C_BadGroup C_NoMember C_Unlike C_BadWeights C_BadText) : FnOk P w K mg base CX0 1 f fd p_without_one (SpR K c_without_one) := by
  refine F.ok sc_without_one (sp_len R1.len) (fun cdv A outer s H vs Q E hr h => ?_)
  have hcl_Council := T.cl_Council
  have hna_Council_members := T.na_Council_members
  have hna_Council_table := T.na_Council_table
  refine ⟨_, (pss_one (ps_ret (pe_lc (own := [("k", 1)]) (g := gName 1) (te := (tOp (rI0 fun i j => .int (Builtin.bitXor i j)) (tVar 0) (tOp (rI CPow fun i j => .int (i * 2 ^ j.toNat)) (tC (.int 1)) (tVar 1)))) (tt := (tTest (tOp (rEq) (tOp (rI0 fun i j => .int (Builtin.bitAnd i j)) (tOp (rI (fun _ j => 0 ≤ j) fun i j => .int (i / 2 ^ j.toNat)) (tVar 0) (tVar 1)) (tC (.int 1))) (tC (.int 1))))) (by exact rfl) sc_without_one.nd (pi_range1 (by rfl) T.n_range (pa_cons (pe_glob (v := .int 5) rfl T.c_MOST.choose_spec (by exact ⟨_, rfl⟩)) pa_nil)) (blkOk_by (N := n_without_one) (sc := defScope st_without_one) (own := [("k", 1)]) (by decide +kernel)) (fun _ _ _ _ _ => (pg_name (i := 1) sc_without_one.nd rfl (by first | exact Or.inl rfl | exact Or.inr rfl))) (fun _ _ _ _ _ => pts_one (pt_cmpR op_eq (pe_op op_and (pe_op op_shr (pv 0) (pv 1)) pe_int) pe_int (nomark _))) (fun _ _ _ _ _ => (pe_op op_xor (pv 0) (pe_op op_shl pe_int (pv 1))))))), go_of ?_ h⟩
  try dsimp only [L2.cxOf, L2.Cx.nox, L2.Cx.wish, L2.Cx.blk]
  rintro ds r ⟨g, rfl, -, rfl⟩
  refine w_ret ?_ rfl
  apply ev_isN
  · walk_at "evN"
  · simp only [bit_is, wo, List.map_map]
    rfl
theorem Wi.out {k lo hi : Int} (h : ¬(lo ≤ k ∧ k ≤ hi)) : Wi (.int k) lo hi false := by
  have q := Wi.int k lo hi
  rwa [show (decide (lo ≤ k) && decide (k ≤ hi)) = false by simpa using h] at q
theorem Wi.inn {k lo hi : Int} (h1 : lo ≤ k) (h2 : k ≤ hi) : Wi (.int k) lo hi true := by
  have q := Wi.int k lo hi
  rwa [show (decide (lo ≤ k) && decide (k ≤ hi)) = true by simp [h1, h2]] at q
/-- items, and whether each is within -/
def Wis (ps : List (D × Bool)) (lo hi : Int) : Prop := ps.length ≤ 1000 ∧ (∀ p ∈ ps, Wi p.1 lo hi p.2) ∧ (ps.all fun p => p.2) = false
def c8_init (U : Addr) : List D → Ri → Prop := fun ds r => c_Council_init ds r ∨ (r = .exc U ∧ ((∃ x y, ds = [x, y] ∧ Wi x 1 5 false) ∨ (∃ n y T, ds = [nat n, y] ∧ (1 ≤ n ∧ n ≤ 5) ∧ TyD y T ∧ kitB T "list" = some false) ∨
  ∃ n ps, ds = [nat n, .lst (ps.map fun p => p.1)] ∧ (1 ≤ n ∧ n ≤ 5) ∧ Wis ps 0 (((2 ^ n : Nat) : Int) - 1)))
theorem c8_init.len {U : Addr} : ∀ ds r, c8_init U ds r → ds.length + 1 = 3 := by
  rintro ds r (⟨_, _, rfl, _⟩ | ⟨_, ⟨_, _, rfl, _⟩ | ⟨_, _, _, rfl, _⟩ | ⟨_, _, rfl, _⟩⟩) <;> rfl
abbrev st_Council_init : Stmt := inClass (top 13) 0
abbrev n_Council_init : List Str := ["self", "members", "groups", "group", "one"]
abbrev p_Council_init : List Str := ["self", "members", "groups"]
theorem sc_Council_init : FnScope n_Council_init p_Council_init (defScope st_Council_init) := ⟨rfl, rfl, rfl, by decide +kernel, rfl, by decide +kernel, by decide +kernel⟩
theorem ok_Council_init {f : Addr} {fd : FuncData} (F : Fun K "__init__" "Council.__init__" st_Council_init f fd) (T : Txt K mg C_Council C_CouncilError C_BadCouncil C_BadGroup C_NoMember C_Unlike C_BadWeights C_BadText) (g_within : OkD P w K mg base CX0 1 "within" p_within (SpR K c_within)) (g_holds_all : OkD P w K mg base CX0 1 "holds_all" p_holds_all (SpR K c_holds_all)) : FnOk P w K mg base (L2N.CX P w) 2 f fd p_Council_init (SpI K C_Council (c8_init C_BadCouncil)) := by
  refine okN F sc_Council_init (spI_len c8_init.len) (fun cdv A outer s H vs Q E hr h => ?_)
  have hcl_Council := T.cl_Council
  have hna_Council_members := T.na_Council_members
  have hna_Council_table := T.na_Council_table
  refine ⟨_, (pss_cons (ps_if (PW.pt (pw_or (pt_not (pt_val (pe_callD g_within (hr.mono (by decide)) (by rfl) pass0 (pa_cons (pv 1) (pa_cons pe_int (pa_cons (pe_glob (v := .int 5) rfl T.c_MOST.choose_spec (by exact ⟨_, rfl⟩)) pa_nil)))))) (pw_or1 (pt_not (pt_val (pe_callB call_isi (by rfl) T.n_isinstance (by decide +kernel) (pa_cons (pv 2) (pa_cons (pe_bltn (v := .ty "list") (by rfl) T.n_list (by decide +kernel) rfl) pa_nil)))))))) (pss_one (ps_raiseD rfl (L2N.takes_of rfl rfl rfl rfl) T.x_BadCouncil (by rfl))) pss_nil)
  (pss_cons (ps_if (pt_not (pt_val (pe_callB (cr_all rfl) (by rfl) T.n_all (by decide +kernel) (pa_cons (pe_lc (own := [("group", 3)]) (g := gName 3) (tt := tYes) (te := (tCall (SpR K c_within) [] E0 (tCons (tVar 3) (tCons (tC (.int 0)) (tCons (tOp (rI0 fun i j => .int (i - j)) (tOp (rI CPow fun i j => .int (i * 2 ^ j.toNat)) (tC (.int 1)) (tVar 1)) (tC (.int 1))) tNil))))) (by exact rfl) sc_Council_init.nd (pi_list (pv 2)) (blkOk_by (N := n_Council_init) (sc := defScope st_Council_init) (own := [("group", 3)]) (by decide +kernel)) (fun _ _ _ _ _ => (pg_name (i := 3) sc_Council_init.nd rfl (by first | exact Or.inl rfl | exact Or.inr rfl))) (fun _ _ _ _ _ => pts_nil) (fun _ _ _ _ _ => (pe_callD g_within (hr.mono (by decide)) (by rfl) pass0 (pa_cons (pv 3) (pa_cons pe_int (pa_cons (pe_op op_sub (pe_op op_shl pe_int (pv 1)) pe_int) pa_nil)))))) pa_nil)))) (pss_one (ps_raiseD rfl (L2N.takes_of rfl rfl rfl rfl) T.x_BadCouncil (by rfl))) pss_nil)
  (pss_cons (ps_fld (pv 0) (pv 1) rfl)
  (pss_one (ps_fld (pv 0) (pe_lc (own := [("group", 3)]) (g := gName 3) (tt := tYes) (te := (tCB (rAny K) (tCons (tLc (iList K (tVar 2)) (gName 4) tYes (tCall (SpR K c_holds_all) [] E0 (tCons (tVar 3) (tCons (tVar 4) tNil))) [4]) tNil))) (by exact rfl) sc_Council_init.nd (pi_range1 (by rfl) T.n_range (pa_cons (pe_op op_shl pe_int (pv 1)) pa_nil)) (blkOk_by (N := n_Council_init) (sc := defScope st_Council_init) (own := [("group", 3)]) (by decide +kernel)) (fun _ _ _ _ _ => (pg_name (i := 3) sc_Council_init.nd rfl (by first | exact Or.inl rfl | exact Or.inr rfl))) (fun _ _ _ _ _ => pts_nil) (fun _ _ _ _ _ => (pe_callB (cr_any rfl) (by rfl) T.n_any (by decide +kernel) (pa_cons (pe_lc (own := [("one", 4)]) (g := gName 4) (tt := tYes) (te := (tCall (SpR K c_holds_all) [] E0 (tCons (tVar 3) (tCons (tVar 4) tNil)))) (by exact rfl) sc_Council_init.nd (pi_list (pv 2)) (blkOk_by (own := [("one", 4)]) (by kernel_rfl)) (fun _ _ _ _ _ => (pg_name (i := 4) sc_Council_init.nd rfl (by first | exact Or.inl rfl | exact Or.inr rfl))) (fun _ _ _ _ _ => pts_nil) (fun _ _ _ _ _ => (pe_callD g_holds_all (hr.mono (by decide)) (by rfl) pass0 (pa_cons (pv 3) (pa_cons (pv 4) pa_nil))))) pa_nil)))) rfl))))), goI_of ?_ h⟩
  try dsimp only [L2.cxOf, L2.Cx.nox, L2.Cx.wish, L2.Cx.blk]
  rintro x ds r (⟨n, gs, rfl, ⟨h1, h5, hl, hg⟩, rfl⟩ | ⟨rfl, ⟨y, z, rfl, hy⟩ | ⟨n, z, ty, rfl, ⟨h1, h5⟩, hz, hk⟩ | ⟨n, ps, rfl, ⟨h1, h5⟩, hl, hp, ha⟩⟩)
  · have hp := pow_le n h5
    show W K E _ [.ob x C_Council [] [], .fz (nat n), .fz (natL gs), .un, .un] _
    refine w_seq (w_ifF ?_ (w_next ?_))
    · apply et_is
      · walk_at "et"
      · simp
        omega
    refine w_seq (w_ifF ?_ (w_next ?_))
    · apply et_is
      · walk_at "et"
      · rw [Bool.not_eq_false', List.all_eq_true]
        intro g hm
        have := hg g hm
        rw [Bool.and_eq_true, decide_eq_true_eq, decide_eq_true_eq]
        omega
    refine w_seq (w_fld rfl T.cl_Council T.na_Council_members (by decide) (by decide) (d := nat n) ?_ ?_ (by simp))
    · walk_at "evF"
    refine w_fld rfl T.cl_Council T.na_Council_table (by decide +kernel) (by decide) (d := blL (tab n gs)) ?_ ?_ (by simp)
    · apply ev_isF
      · walk_at "evF"
      · simp only [tab, blL, List.map_map]
        rfl
    · exact ⟨_, _, rfl, rfl⟩
  · have hw : c_within [y, .int 1, .int 5] (.dat (.bl false)) := ⟨_, _, _, _, rfl, hy, rfl⟩
    show W K E _ [.ob x C_Council [] [], .fz y, .fz z, .un, .un] _
    refine w_seq (w_if (b := true) ?_ (fun _ => w_raise ⟨_, rfl, rfl⟩) fun z => nomatch z)
    refine et_is (b := !false || true) ?_ rfl
    refine et_or ?_ fun z => nomatch z
    walk_at "et"
  · have hw : c_within [nat n, .int 1, .int 5] (.dat (.bl true)) := ⟨_, _, _, _, rfl, Wi.inn (by omega) (by omega), rfl⟩
    show W K E _ [.ob x C_Council [] [], .fz (nat n), .fz z, .un, .un] _
    refine w_seq (w_if (b := true) ?_ (fun _ => w_raise ⟨_, rfl, rfl⟩) fun z => nomatch z)
    refine et_is (b := !true || !false) ?_ rfl
    refine et_or ?_ fun _ => ?_
    · walk_at "et"
    · apply et_not
      apply et_B
      with_reducible apply ev_cb
      · walk_at "ea"
      · exact cb_isi hz hk
  · have hw : c_within [nat n, .int 1, .int 5] (.dat (.bl true)) := ⟨_, _, _, _, rfl, Wi.inn (by omega) (by omega), rfl⟩
    have hpw := pow_le n h5
    show W K E _ [.ob x C_Council [] [], .fz (nat n), .fz (.lst (ps.map fun p => p.1)), .un, .un] _
    refine w_seq (w_ifF ?_ (w_next ?_))
    · apply et_is
      · walk_at "et"
      · rfl
    refine w_seq (w_if (b := true) ?_ (fun _ => w_raise ⟨_, rfl, rfl⟩) fun z => nomatch z)
    refine et_is (a := !(ps.all fun p => p.2)) ?_ (show (!(ps.all fun p => p.2)) = true by simp [ha])
    apply et_not
    apply et_B
    with_reducible apply ev_cb
    · with_reducible apply ea_cons
      · apply EvR.fz
        with_reducible apply ev_lcM (ys := ps) (c := fun p => p.1) (v := fun p => .bl p.2)
        · with_reducible apply it_list
          walk_at "ev"
        · omega
        · decide
        · intro q hq
          have hc : c_within [q.1, .int 0, .int (((2 ^ n : Nat) : Int) - 1)] (.dat (.bl q.2)) := ⟨_, _, _, _, rfl, hp q hq, rfl⟩
          walk_at "ev"
      · exact ea_nil
    · exact cb_allM
def c_Council_carries (C : Addr) : List D → Rs → Prop := RC2 C nat (fun n t g => g < t.length) fun n t g => .dat (.bl (t.getD g false))
def c8_carries (C U : Addr) : List D → Rs → Prop := fun ds r => c_Council_carries C ds r ∨ ∃ n t x, ds = [cou C n t, x] ∧ Wi x 0 ((t.length : Int) - 1) false ∧ r = .exc U
theorem c8_carries.len {C U : Addr} : ∀ ds r, c8_carries C U ds r → ds.length = 2 := by
  rintro ds r (⟨_, _, _, rfl, _⟩ | ⟨_, _, _, rfl, _⟩) <;> rfl
abbrev st_Council_carries : Stmt := inClass (top 13) 1
abbrev n_Council_carries : List Str := ["self", "group"]
abbrev p_Council_carries : List Str := ["self", "group"]
theorem sc_Council_carries : FnScope n_Council_carries p_Council_carries (defScope st_Council_carries) := ⟨rfl, rfl, rfl, by decide +kernel, rfl, by decide +kernel, by decide +kernel⟩
theorem ok_Council_carries {f : Addr} {fd : FuncData} (F : Fun K "carries" "Council.carries" st_Council_carries f fd) (T : Txt K mg C_Council C_CouncilError C_BadCouncil C_BadGroup C_NoMember C_Unlike C_BadWeights C_BadText) (g_within : OkD P w K mg base CX0 1 "within" p_within (SpR K c_within)) : FnOk P w K mg base (L2N.CX P w) 2 f fd p_Council_carries (SpR K (c8_carries C_Council C_BadGroup)) := by
  refine okN F sc_Council_carries (sp_len c8_carries.len) (fun cdv A outer s H vs Q E hr h => ?_)
  have hcl_Council := T.cl_Council
  have hna_Council_members := T.na_Council_members
  have hna_Council_table := T.na_Council_table
  refine ⟨_, (pss_cons (ps_if (pt_not (pt_val (pe_callD g_within (hr.mono (by decide)) (by rfl) pass0 (pa_cons (pv 1) (pa_cons pe_int (pa_cons (pe_op op_sub (pe_callB call_len_seq (by rfl) T.n_len (PySem.boot_len) (pa_cons (pe_fld (pv 0) rfl) pa_nil)) pe_int) pa_nil)))))) (pss_one (ps_raiseD rfl (L2N.takes_of rfl rfl rfl rfl) T.x_BadGroup (by rfl))) pss_nil)
  (pss_one (ps_ret (pe_ix ix_list (pe_fld (pv 0) rfl) (pv 1) (fun _ _ => rfl))))), go_of ?_ h⟩
  try dsimp only [L2.cxOf, L2.Cx.nox, L2.Cx.wish, L2.Cx.blk]
  rintro ds r (⟨n, t, g, rfl, hg, rfl⟩ | ⟨n, t, x, rfl, hx, rfl⟩)
  · show W K E _ [.fz (cou C_Council n t), .fz (nat g)] _
    refine w_seq (w_ifF ?_ (w_next ?_))
    · apply et_is
      · walk_at "et"
      · simp
        omega
    · refine w_ret ?_ rfl
      walk_at "ev"
  · have hw : c_within [x, .int 0, .int ((t.length : Int) - 1)] (.dat (.bl false)) := ⟨_, _, _, _, rfl, hx, rfl⟩
    show W K E _ [.fz (cou C_Council n t), .fz x] _
    refine w_seq (w_if (b := true) ?_ (fun _ => w_raise rfl) fun z => nomatch z)
    exact et_is (b := !false) (by walk_at "et") rfl
def c_Council_least (C : Addr) : List D → Rs → Prop := RC1 C (fun n t => t.length ≤ 32) fun n t => .new ((leastM t).map nat)
abbrev st_Council_least : Stmt := inClass (top 13) 2
abbrev n_Council_least : List Str := ["self", "found", "group", "less"]
abbrev p_Council_least : List Str := ["self"]
theorem sc_Council_least : FnScope n_Council_least p_Council_least (defScope st_Council_least) := ⟨rfl, rfl, rfl, by decide +kernel, rfl, by decide +kernel, by decide +kernel⟩
theorem ok_Council_least {f : Addr} {fd : FuncData} (F : Fun K "least" "Council.least" st_Council_least f fd) (T : Txt K mg C_Council C_CouncilError C_BadCouncil C_BadGroup C_NoMember C_Unlike C_BadWeights C_BadText) (g_without_one : OkD P w K mg base CX0 1 "without_one" p_without_one (SpR K c_without_one)) : FnOk P w K mg base CX0 2 f fd p_Council_least (SpR K (c_Council_least C_Council)) := by
  refine F.ok sc_Council_least (sp_len RC1.len) (fun cdv A outer s H vs Q E hr h => ?_)
  have hcl_Council := T.cl_Council
  have hna_Council_members := T.na_Council_members
  have hna_Council_table := T.na_Council_table
  refine ⟨_, (pss_cons (ps_set (i := 1) sc_Council_least.nd rfl (by first | exact Or.inl rfl | exact Or.inr rfl) (pe_lst pa_nil))
  (pss_cons (ps_for PassesOwn.never rfl (pi_range1 (by rfl) T.n_range (pa_cons (pe_callB call_len_seq (by rfl) T.n_len (PySem.boot_len) (pa_cons (pe_fld (pv 0) rfl) pa_nil)) pa_nil)) (pg_name (i := 2) sc_Council_least.nd rfl (by first | exact Or.inl rfl | exact Or.inr rfl))
  (pss_one (ps_if (PW.pt (pw_and (pt_val (pe_ix ix_list (pe_fld (pv 0) rfl) (pv 2) (fun _ _ => rfl))) (pw_and1 (pt_not (pt_val (pe_callB (cr_any rfl) (by rfl) T.n_any (by decide +kernel) (pa_cons (pe_lc (own := [("less", 3)]) (g := gName 3) (tt := tYes) (te := (tOp (rIxL K) (tFld K (tVar 0) "table") (tVar 3))) (by exact rfl) sc_Council_least.nd (pi_list (pe_callD g_without_one (hr.mono (by decide)) (by rfl) pass0 (pa_cons (pv 2) pa_nil))) (blkOk_by (N := n_Council_least) (sc := defScope st_Council_least) (own := [("less", 3)]) (by decide +kernel)) (fun _ _ _ _ _ => (pg_name (i := 3) sc_Council_least.nd rfl (by first | exact Or.inl rfl | exact Or.inr rfl))) (fun _ _ _ _ _ => pts_nil) (fun _ _ _ _ _ => (pe_ix ix_list (pe_fld (pv 0) rfl) (pv 3) (fun _ _ => rfl)))) pa_nil))))))) (pss_one (ps_expr (pe_bm PySem.F.plainAttrs_list PySem.F.slot_list_append PySem.F.type_list_append mt_append (pv 1) (pa_cons (pv 2) pa_nil)))) pss_nil)))
  (pss_one (ps_ret (pv 1))))), go_of ?_ h⟩
  try dsimp only [L2.cxOf, L2.Cx.nox, L2.Cx.wish, L2.Cx.blk]
  rintro ds r ⟨n, t, rfl, ht, rfl⟩
  show W K E _ [.fz (cou C_Council n t), .un, .un, .un] _
  refine w_seq (w_asgN (xs := []) ?_ ?_)
  · walk_at "evN"
  refine w_seq (w_forS (ys := List.range t.length) (f := nat) (fun i => [.fz (cou C_Council n t), .ow (((List.range i).filter fun g => t.getD g false && !((wo g).any fun l => t.getD l false)).map nat), .un, .un]) ?_ (Fgt.refl _) ?_ ?_)
  · walk_at "it"
  · intro i a ha
    obtain ⟨hi, rfl⟩ := List.getElem?_eq_some_iff.mp ha
    rw [List.length_range] at hi
    rw [List.getElem_range]
    have hw : ∀ l, l ∈ wo i → l < t.length := fun l hl => Nat.lt_trans (wo_lt hl) hi
    refine w_if (b := t.getD i false && !((wo i).any fun l => t.getD l false)) ?_ ?_ ?_
    · apply et_is
      · walk_at "et"
      · rfl
    · intro hb
      refine w_app rfl (d := nat i) ?_ ?_ ?_
      · with_reducible apply ev_var
        exact rfl
      · rw [List.length_map]
        have := filt_len (fun g => t.getD g false && !((wo g).any fun l => t.getD l false)) i
        omega
      · show Fgt _ _
        rw [filt_yes hb, List.map_append]
        exact .keep (.keep (.drop (.keep .nil)))
    · intro hb
      refine w_next ?_
      show Fgt _ _
      rw [filt_no hb]
      exact .keep (.keep (.drop (.keep .nil)))
  · intro s hs
    refine w_fgt hs (w_retO (i := 1) rfl ?_)
    rw [List.length_range]
    rfl
def c_Council_greatest (C : Addr) : List D → Rs → Prop := RC1 C (fun n t => n ≤ 5 ∧ t.length = 2 ^ n) fun n t => .new ((greatM t).map nat)
theorem xor_lt {n a b : Nat} (ha : a < 2 ^ n) (hb : b < 2 ^ n) : a ^^^ b < 2 ^ n := Nat.xor_lt_two_pow ha hb
abbrev st_Council_greatest : Stmt := inClass (top 13) 3
abbrev n_Council_greatest : List Str := ["self", "whole", "found", "group", "more", "rest", "one"]
abbrev p_Council_greatest : List Str := ["self"]
theorem sc_Council_greatest : FnScope n_Council_greatest p_Council_greatest (defScope st_Council_greatest) := ⟨rfl, rfl, rfl, by decide +kernel, rfl, by decide +kernel, by decide +kernel⟩
theorem ok_Council_greatest {f : Addr} {fd : FuncData} (F : Fun K "greatest" "Council.greatest" st_Council_greatest f fd) (T : Txt K mg C_Council C_CouncilError C_BadCouncil C_BadGroup C_NoMember C_Unlike C_BadWeights C_BadText) (g_without_one : OkD P w K mg base CX0 1 "without_one" p_without_one (SpR K c_without_one)) : FnOk P w K mg base CX0 2 f fd p_Council_greatest (SpR K (c_Council_greatest C_Council)) := by
  refine F.ok sc_Council_greatest (sp_len RC1.len) (fun cdv A outer s H vs Q E hr h => ?_)
  have hcl_Council := T.cl_Council
  have hna_Council_members := T.na_Council_members
  have hna_Council_table := T.na_Council_table
  refine ⟨_, (pss_cons (ps_set (i := 1) sc_Council_greatest.nd rfl (by first | exact Or.inl rfl | exact Or.inr rfl) (pe_op op_sub (pe_callB call_len_seq (by rfl) T.n_len (PySem.boot_len) (pa_cons (pe_fld (pv 0) rfl) pa_nil)) pe_int))
  (pss_cons (ps_set (i := 2) sc_Council_greatest.nd rfl (by first | exact Or.inl rfl | exact Or.inr rfl) (pe_lst pa_nil))
  (pss_cons (ps_for PassesOwn.never rfl (pi_range1 (by rfl) T.n_range (pa_cons (pe_callB call_len_seq (by rfl) T.n_len (PySem.boot_len) (pa_cons (pe_fld (pv 0) rfl) pa_nil)) pa_nil)) (pg_name (i := 3) sc_Council_greatest.nd rfl (by first | exact Or.inl rfl | exact Or.inr rfl))
  (pss_cons (ps_setLc (i := 4) (own := [("rest", 5)]) (g := gName 5) (tt := tYes) (te := (tOp (rI0 fun i j => .int (Builtin.bitXor i j)) (tVar 1) (tVar 5))) (by exact rfl) sc_Council_greatest.nd rfl rfl (sw_true rfl rfl rfl (by decide +kernel)) (pi_list (pe_callD g_without_one (hr.mono (by decide)) (by rfl) pass0 (pa_cons (pe_op op_xor (pv 1) (pv 3)) pa_nil))) (blkOk_by (N := n_Council_greatest) (sc := defScope st_Council_greatest) (own := [("rest", 5)]) (by decide +kernel)) (fun _ _ _ _ _ => (pg_name (i := 5) sc_Council_greatest.nd rfl (by first | exact Or.inl rfl | exact Or.inr rfl))) (fun _ _ _ _ _ => pts_nil) (fun _ _ _ _ _ => (pe_op op_xor (pv 1) (pv 5))))
  (pss_one (ps_if (PW.pt (pw_and (pt_not (pt_val (pe_ix ix_list (pe_fld (pv 0) rfl) (pv 3) (fun _ _ => rfl)))) (pw_and1 (pt_val (pe_callB (cr_all rfl) (by rfl) T.n_all (by decide +kernel) (pa_cons (pe_lc (own := [("one", 6)]) (g := gName 6) (tt := tYes) (te := (tOp (rIxL K) (tFld K (tVar 0) "table") (tVar 6))) (by exact rfl) sc_Council_greatest.nd (pi_list (pv 4)) (blkOk_by (N := n_Council_greatest) (sc := defScope st_Council_greatest) (own := [("one", 6)]) (by decide +kernel)) (fun _ _ _ _ _ => (pg_name (i := 6) sc_Council_greatest.nd rfl (by first | exact Or.inl rfl | exact Or.inr rfl))) (fun _ _ _ _ _ => pts_nil) (fun _ _ _ _ _ => (pe_ix ix_list (pe_fld (pv 0) rfl) (pv 6) (fun _ _ => rfl)))) pa_nil)))))) (pss_one (ps_expr (pe_bm PySem.F.plainAttrs_list PySem.F.slot_list_append PySem.F.type_list_append mt_append (pv 2) (pa_cons (pv 3) pa_nil)))) pss_nil))))
  (pss_one (ps_ret (pv 2)))))), go_of ?_ h⟩
  try dsimp only [L2.cxOf, L2.Cx.nox, L2.Cx.wish, L2.Cx.blk]
  rintro ds r ⟨n, t, rfl, ⟨hn, ht⟩, rfl⟩
  have hp := pow_le n hn
  have hpos : 0 < 2 ^ n := Nat.two_pow_pos n
  show W K E _ [.fz (cou C_Council n t), .un, .un, .un, .un, .un, .un] _
  refine w_seq (w_asg (d := nat (t.length - 1)) ?_ ?_)
  · apply ev_is
    · walk_at "ev"
    · rw [show ((t.length : Nat) : Int) - 1 = ((t.length - 1 : Nat) : Int) by omega]
  refine w_seq (w_asgN (xs := []) ?_ ?_)
  · walk_at "evN"
  have hx : ∀ a, a < 2 ^ n → ((t.length - 1) ^^^ a) < t.length := fun a ha => by
    rw [ht]
    exact xor_lt (by omega) ha
  refine w_seq (w_forS (ys := List.range t.length) (f := nat) (fun i => [.fz (cou C_Council n t), .fz (nat (t.length - 1)), .ow (((List.range i).filter fun g => !t.getD g false && ((wo ((t.length - 1) ^^^ g)).all fun l => t.getD ((t.length - 1) ^^^ l) false)).map nat), .un, .un, .un, .un]) ?_ (Fgt.refl _) ?_ ?_)
  · walk_at "it"
  · intro i a ha
    obtain ⟨hi, rfl⟩ := List.getElem?_eq_some_iff.mp ha
    rw [List.length_range] at hi
    rw [List.getElem_range]
    have hi2 := hx i (by omega)
    have hw : ∀ l, l ∈ (wo ((t.length - 1) ^^^ i)).map (fun l => (t.length - 1) ^^^ l) → l < t.length := fun l hl => by
      obtain ⟨m, hm, rfl⟩ := List.mem_map.mp hl
      have := wo_lt hm
      exact hx m (by omega)
    have hl5 := wo_len ((t.length - 1) ^^^ i)
    refine w_seq (w_asg (d := natL ((wo ((t.length - 1) ^^^ i)).map fun l => (t.length - 1) ^^^ l)) ?_ ?_)
    · apply ev_is
      · apply EvR.fz
        with_reducible apply ev_lcM (ys := wo ((t.length - 1) ^^^ i)) (c := nat)
        · walk_at "it"
        · walk_at "sz"
        · decide
        · intro a ha
          walk_at "ev"
      · simp only [natL, List.map_map]
        rfl
    refine w_if (b := !t.getD i false && ((wo ((t.length - 1) ^^^ i)).all fun l => t.getD ((t.length - 1) ^^^ l) false)) ?_ ?_ ?_
    · apply et_is
      · walk_at "et"
      · rw [List.all_map]
        rfl
    · intro hb
      refine w_app rfl (d := nat i) ?_ ?_ ?_
      · with_reducible apply ev_var
        exact rfl
      · rw [List.length_map]
        have := filt_len (fun g => !t.getD g false && ((wo ((t.length - 1) ^^^ g)).all fun l => t.getD ((t.length - 1) ^^^ l) false)) i
        omega
      · show Fgt _ _
        rw [filt_yes hb, List.map_append]
        exact .keep (.keep (.keep (.drop (.drop (.keep (.keep .nil))))))
    · intro hb
      refine w_next ?_
      show Fgt _ _
      rw [filt_no hb]
      exact .keep (.keep (.keep (.drop (.drop (.keep (.keep .nil))))))
  · intro s hs
    refine w_fgt hs (w_retO (i := 2) rfl ?_)
    rw [List.length_range]
    rfl
def c8_member (C U : Addr) : List D → Rs → Prop := fun ds r => ∃ n t x b, ds = [cou C n t, x] ∧ Wi x 0 ((n : Int) - 1) b ∧ r = if b then .dat x else .exc U
theorem c8_member.len {C U : Addr} : ∀ ds r, c8_member C U ds r → ds.length = 2 := by
  rintro ds r ⟨_, _, _, _, rfl, _⟩
  rfl
abbrev st_Council_member : Stmt := inClass (top 13) 4
abbrev n_Council_member : List Str := ["self", "at"]
abbrev p_Council_member : List Str := ["self", "at"]
theorem sc_Council_member : FnScope n_Council_member p_Council_member (defScope st_Council_member) := ⟨rfl, rfl, rfl, by decide +kernel, rfl, by decide +kernel, by decide +kernel⟩
theorem ok_Council_member {f : Addr} {fd : FuncData} (F : Fun K "member" "Council.member" st_Council_member f fd) (T : Txt K mg C_Council C_CouncilError C_BadCouncil C_BadGroup C_NoMember C_Unlike C_BadWeights C_BadText) (g_within : OkD P w K mg base CX0 1 "within" p_within (SpR K c_within)) : FnOk P w K mg base (L2N.CX P w) 2 f fd p_Council_member (SpR K (c8_member C_Council C_NoMember)) := by
  refine okN F sc_Council_member (sp_len c8_member.len) (fun cdv A outer s H vs Q E hr h => ?_)
  have hcl_Council := T.cl_Council
  have hna_Council_members := T.na_Council_members
  have hna_Council_table := T.na_Council_table
  refine ⟨_, (pss_cons (ps_if (pt_not (pt_val (pe_callD g_within (hr.mono (by decide)) (by rfl) pass0 (pa_cons (pv 1) (pa_cons pe_int (pa_cons (pe_op op_sub (pe_fld (pv 0) rfl) pe_int) pa_nil)))))) (pss_one (ps_raiseD rfl (L2N.takes_of rfl rfl rfl rfl) T.x_NoMember (by rfl))) pss_nil)
  (pss_one (ps_ret (pv 1)))), go_of ?_ h⟩
  try dsimp only [L2.cxOf, L2.Cx.nox, L2.Cx.wish, L2.Cx.blk]
  rintro ds r ⟨n, t, x, b, rfl, hx, rfl⟩
  have hw : c_within [x, .int 0, .int ((n : Int) - 1)] (.dat (.bl b)) := ⟨_, _, _, _, rfl, hx, rfl⟩
  show W K E _ [.fz (cou C_Council n t), .fz x] _
  cases b with
  | true =>
    refine w_seq (w_ifF (et_is (b := !true) (by walk_at "et") rfl) (w_next ?_))
    exact w_ret (r := .dat x) (ev_var rfl) rfl
  | false =>
    refine w_seq (w_if (b := true) ?_ (fun _ => w_raise rfl) fun z => nomatch z)
    exact et_is (b := !false) (by walk_at "et") rfl
def c_check_weights : List D → Rs → Prop := R2' intL D.int (fun ws q => (1 ≤ ws.length ∧ ws.length ≤ 5) ∧ (∀ w ∈ ws, 0 ≤ w ∧ w ≤ 1000000) ∧ 0 ≤ q ∧ q ≤ 5000001) fun _ _ => .dat .non
/-- weights and a quota that are refused -/
def BadWs (ds : List D) : Prop := (∃ x y T, ds = [x, y] ∧ TyD x T ∧ kitB T "list" = some false) ∨ (∃ xs y, ds = [.lst xs, y] ∧ ¬(1 ≤ xs.length ∧ xs.length ≤ 5)) ∨
  (∃ ps y, ds = [.lst (ps.map fun p => p.1), y] ∧ (1 ≤ ps.length ∧ ps.length ≤ 5) ∧ Wis ps 0 1000000) ∨ ∃ ws x, ds = [intL ws, x] ∧ (1 ≤ ws.length ∧ ws.length ≤ 5) ∧ (∀ w ∈ ws, 0 ≤ w ∧ w ≤ 1000000) ∧ Wi x 0 (5 * 1000000 + 1) false
def c8_check (U : Addr) : List D → Rs → Prop := fun ds r => c_check_weights ds r ∨ (BadWs ds ∧ r = .exc U)
theorem badWs_len {ds : List D} (h : BadWs ds) : ds.length = 2 := by
  rcases h with ⟨_, _, _, rfl, _⟩ | ⟨_, _, rfl, _⟩ | ⟨_, _, rfl, _⟩ | ⟨_, _, rfl, _⟩ <;> rfl
theorem c8_check.len {U : Addr} : ∀ ds r, c8_check U ds r → ds.length = 2 := by
  rintro ds r (⟨_, _, rfl, _⟩ | ⟨h, _⟩)
  · rfl
  · exact badWs_len h
abbrev st_check_weights : Stmt := top 15
abbrev n_check_weights : List Str := ["weights", "quota", "weight"]
abbrev p_check_weights : List Str := ["weights", "quota"]
theorem sc_check_weights : FnScope n_check_weights p_check_weights (defScope st_check_weights) := ⟨rfl, rfl, rfl, by decide +kernel, rfl, by decide +kernel, by decide +kernel⟩
theorem ok_check_weights {f : Addr} {fd : FuncData} (F : Fun K "check_weights" "check_weights" st_check_weights f fd) (T : Txt K mg C_Council C_CouncilError C_BadCouncil C_BadGroup C_NoMember C_Unlike C_BadWeights C_BadText) (g_within : OkD P w K mg base CX0 1 "within" p_within (SpR K c_within)) : FnOk P w K mg base (L2N.CX P w) 2 f fd p_check_weights (SpR K (c8_check C_BadWeights)) := by
  refine okN F sc_check_weights (sp_len c8_check.len) (fun cdv A outer s H vs Q E hr h => ?_)
  have hcl_Council := T.cl_Council
  have hna_Council_members := T.na_Council_members
  have hna_Council_table := T.na_Council_table
  refine ⟨_, (pss_cons (ps_if (PW.pt (pw_or (pt_not (pt_val (pe_callB call_isi (by rfl) T.n_isinstance (by decide +kernel) (pa_cons (pv 0) (pa_cons (pe_bltn (v := .ty "list") (by rfl) T.n_list (by decide +kernel) rfl) pa_nil))))) (pw_or1 (pt_not (pt_chain op_le op_le pe_int (pe_callB call_len_seq (by rfl) T.n_len (PySem.boot_len) (pa_cons (pv 0) pa_nil)) (pe_glob (v := .int 5) rfl T.c_MOST.choose_spec (by exact ⟨_, rfl⟩))))))) (pss_one (ps_raiseD rfl (L2N.takes_of rfl rfl rfl rfl) T.x_BadWeights (by rfl))) pss_nil)
  (pss_one (ps_if (PW.pt (pw_or (pt_not (pt_val (pe_callB (cr_all rfl) (by rfl) T.n_all (by decide +kernel) (pa_cons (pe_lc (own := [("weight", 2)]) (g := gName 2) (tt := tYes) (te := (tCall (SpR K c_within) [] E0 (tCons (tVar 2) (tCons (tC (.int 0)) (tCons (tC (.int 1000000)) tNil))))) (by exact rfl) sc_check_weights.nd (pi_list (pv 0)) (blkOk_by (N := n_check_weights) (sc := defScope st_check_weights) (own := [("weight", 2)]) (by decide +kernel)) (fun _ _ _ _ _ => (pg_name (i := 2) sc_check_weights.nd rfl (by first | exact Or.inl rfl | exact Or.inr rfl))) (fun _ _ _ _ _ => pts_nil) (fun _ _ _ _ _ => (pe_callD g_within (hr.mono (by decide)) (by rfl) pass0 (pa_cons (pv 2) (pa_cons pe_int (pa_cons (pe_glob (v := .int 1000000) rfl T.c_GREATEST.choose_spec (by exact ⟨_, rfl⟩)) pa_nil)))))) pa_nil)))) (pw_or1 (pt_not (pt_val (pe_callD g_within (hr.mono (by decide)) (by rfl) pass0 (pa_cons (pv 1) (pa_cons pe_int (pa_cons (pe_op op_add (pe_op op_mul (pe_glob (v := .int 5) rfl T.c_MOST.choose_spec (by exact ⟨_, rfl⟩)) (pe_glob (v := .int 1000000) rfl T.c_GREATEST.choose_spec (by exact ⟨_, rfl⟩))) pe_int) pa_nil))))))))) (pss_one (ps_raiseD rfl (L2N.takes_of rfl rfl rfl rfl) T.x_BadWeights (by rfl))) pss_nil))), go_of ?_ h⟩
  try dsimp only [L2.cxOf, L2.Cx.nox, L2.Cx.wish, L2.Cx.blk]
  rintro ds r (⟨ws, q, rfl, ⟨⟨h1, h5⟩, hw, h0, hq⟩, rfl⟩ | ⟨⟨x, y, ty, rfl, hx, hk⟩ | ⟨xs, y, rfl, hl⟩ | ⟨ps, y, rfl, ⟨h1, h5⟩, hl, hp, ha⟩ | ⟨ws, x, rfl, ⟨h1, h5⟩, hw, hx⟩, rfl⟩)
  · show W K E _ [.fz (intL ws), .fz (.int q), .un] _
    refine w_seq (w_ifF ?_ (w_next ?_))
    · apply et_is
      · walk_at "et"
      · simp
        omega
    refine w_ifF ?_ (w_next rfl)
    apply et_is
    · walk_at "et"
    · rw [Bool.or_eq_false_iff, Bool.not_eq_false', List.all_eq_true]
      refine ⟨fun w hm => ?_, ?_⟩
      · have := hw w hm
        rw [Bool.and_eq_true, decide_eq_true_eq, decide_eq_true_eq]
        omega
      · simp
        omega
  · show W K E _ [.fz x, .fz y, .un] _
    refine w_seq (w_if (b := true) ?_ (fun _ => w_raise rfl) fun z => nomatch z)
    refine et_is (b := !false || true) ?_ rfl
    refine et_or ?_ fun z => nomatch z
    apply et_not
    apply et_B
    with_reducible apply ev_cb
    · walk_at "ea"
    · exact cb_isi hx hk
  · show W K E _ [.fz (.lst xs), .fz y, .un] _
    refine w_seq (w_if (b := true) ?_ (fun _ => w_raise rfl) fun z => nomatch z)
    apply et_is
    · walk_at "et"
    · simp
      omega
  · show W K E _ [.fz (.lst (ps.map fun p => p.1)), .fz y, .un] _
    refine w_seq (w_ifF ?_ (w_next ?_))
    · apply et_is
      · walk_at "et"
      · simp
        omega
    refine w_if (b := true) ?_ (fun _ => w_raise rfl) fun z => nomatch z
    refine et_is (a := !(ps.all fun p => p.2) || true) ?_ (show (!(ps.all fun p => p.2) || true) = true by simp)
    refine et_or ?_ fun z => absurd z (by simp [ha])
    apply et_not
    apply et_B
    with_reducible apply ev_cb
    · with_reducible apply ea_cons
      · apply EvR.fz
        with_reducible apply ev_lcM (ys := ps) (c := fun p => p.1) (v := fun p => .bl p.2)
        · with_reducible apply it_list
          walk_at "ev"
        · omega
        · decide
        · intro q hq
          have hc : c_within [q.1, .int 0, .int 1000000] (.dat (.bl q.2)) := ⟨_, _, _, _, rfl, hp q hq, rfl⟩
          walk_at "ev"
      · exact ea_nil
    · exact cb_allM
  · have hc : c_within [x, .int 0, .int (5 * 1000000 + 1)] (.dat (.bl false)) := ⟨_, _, _, _, rfl, hx, rfl⟩
    show W K E _ [.fz (intL ws), .fz x, .un] _
    refine w_seq (w_ifF ?_ (w_next ?_))
    · apply et_is
      · walk_at "et"
      · simp
        omega
    refine w_if (b := true) ?_ (fun _ => w_raise rfl) fun z => nomatch z
    apply et_is
    · walk_at "et"
    · simp
def c_weight_of : List D → Rs → Prop := R2' intL nat (fun ws g => ws.length ≤ 1000) fun ws g => .dat (.int (wgt ws g))
abbrev st_weight_of : Stmt := top 16
abbrev n_weight_of : List Str := ["weights", "group", "k"]
abbrev p_weight_of : List Str := ["weights", "group"]
theorem sc_weight_of : FnScope n_weight_of p_weight_of (defScope st_weight_of) := ⟨rfl, rfl, rfl, by decide +kernel, rfl, by decide +kernel, by decide +kernel⟩
theorem ok_weight_of {f : Addr} {fd : FuncData} (F : Fun K "weight_of" "weight_of" st_weight_of f fd) (T : Txt K mg C_Council C_CouncilError C_BadCouncil C_BadGroup C_NoMember C_Unlike C_BadWeights C_BadText) : FnOk P w K mg base CX0 1 f fd p_weight_of (SpR K c_weight_of) := by
  refine F.ok sc_weight_of (sp_len R2'.len) (fun cdv A outer s H vs Q E hr h => ?_)
  have hcl_Council := T.cl_Council
  have hna_Council_members := T.na_Council_members
  have hna_Council_table := T.na_Council_table
  refine ⟨_, (pss_one (ps_ret (pe_callB (cr_sum rfl) (by rfl) T.n_sum (by decide +kernel) (pa_cons (pe_lc (own := [("k", 2)]) (g := gName 2) (te := (tOp (rIxL K) (tVar 0) (tVar 2))) (tt := (tTest (tOp (rEq) (tOp (rI0 fun i j => .int (Builtin.bitAnd i j)) (tOp (rI (fun _ j => 0 ≤ j) fun i j => .int (i / 2 ^ j.toNat)) (tVar 1) (tVar 2)) (tC (.int 1))) (tC (.int 1))))) (by exact rfl) sc_weight_of.nd (pi_range1 (by rfl) T.n_range (pa_cons (pe_callB call_len_seq (by rfl) T.n_len (PySem.boot_len) (pa_cons (pv 0) pa_nil)) pa_nil)) (blkOk_by (N := n_weight_of) (sc := defScope st_weight_of) (own := [("k", 2)]) (by decide +kernel)) (fun _ _ _ _ _ => (pg_name (i := 2) sc_weight_of.nd rfl (by first | exact Or.inl rfl | exact Or.inr rfl))) (fun _ _ _ _ _ => pts_one (pt_cmpR op_eq (pe_op op_and (pe_op op_shr (pv 1) (pv 2)) pe_int) pe_int (nomark _))) (fun _ _ _ _ _ => (pe_ix ix_list (pv 0) (pv 2) (fun _ _ => rfl)))) pa_nil)))), go_of ?_ h⟩
  try dsimp only [L2.cxOf, L2.Cx.nox, L2.Cx.wish, L2.Cx.blk]
  rintro ds r ⟨ws, g, rfl, hl, rfl⟩
  show W K E _ [.fz (intL ws), .fz (nat g), .un] _
  refine w_ret ?_ rfl
  apply ev_is
  · walk_at "ev"
  · simp only [bit_is, wgt]
def tabW (ws : List Int) (q : Int) : List Bool := tab ws.length ((List.range (2 ^ ws.length)).filter fun g => decide (q ≤ wgt ws g))
def c_weighted (C : Addr) : List D → Rs → Prop := R2' intL D.int (fun ws q => (1 ≤ ws.length ∧ ws.length ≤ 5) ∧ (∀ w ∈ ws, 0 ≤ w ∧ w ≤ 1000000) ∧ 0 ≤ q ∧ q ≤ 5000001) fun ws q => .frs (cou C ws.length (tabW ws q))
def c8_weighted (C U : Addr) : List D → Rs → Prop := fun ds r => c_weighted C ds r ∨ (BadWs ds ∧ r = .exc U)
theorem c8_weighted.len {C U : Addr} : ∀ ds r, c8_weighted C U ds r → ds.length = 2 := by
  rintro ds r (⟨_, _, rfl, _⟩ | ⟨h, _⟩)
  · rfl
  · exact badWs_len h
abbrev st_weighted : Stmt := top 17
abbrev n_weighted : List Str := ["weights", "quota", "groups", "group"]
abbrev p_weighted : List Str := ["weights", "quota"]
theorem sc_weighted : FnScope n_weighted p_weighted (defScope st_weighted) := ⟨rfl, rfl, rfl, by decide +kernel, rfl, by decide +kernel, by decide +kernel⟩
theorem ok_weighted {f : Addr} {fd : FuncData} (F : Fun K "weighted" "weighted" st_weighted f fd) (T : Txt K mg C_Council C_CouncilError C_BadCouncil C_BadGroup C_NoMember C_Unlike C_BadWeights C_BadText) (g_check_weights : OkD P w K mg base (L2N.CX P w) 2 "check_weights" p_check_weights (SpR K (c8_check C_BadWeights))) (g_weight_of : OkD P w K mg base CX0 1 "weight_of" p_weight_of (SpR K c_weight_of)) (g_Council_init : OkI P w K mg base (L2N.CX P w) 2 "Council" C_Council p_Council_init (SpI K C_Council (c8_init C_BadCouncil))) : FnOk P w K mg base (L2N.CX P w) 4 f fd p_weighted (SpR K (c8_weighted C_Council C_BadWeights)) := by
  refine okN F sc_weighted (sp_len c8_weighted.len) (fun cdv A outer s H vs Q E hr h => ?_)
  have hcl_Council := T.cl_Council
  have hna_Council_members := T.na_Council_members
  have hna_Council_table := T.na_Council_table
  refine ⟨_, (pss_cons (ps_expr (pe_callD g_check_weights (hr.mono (by decide)) (by rfl) (L2N.passes_call (L2N.takes_of rfl rfl rfl rfl) (fun _ _ _ _ h => h)) (pa_cons (pv 0) (pa_cons (pv 1) pa_nil))))
  (pss_cons (ps_setLc (i := 2) (own := [("group", 3)]) (g := gName 3) (te := (tVar 3)) (tt := (tTest (tOp (rI0 fun i j => .bl (decide (j ≤ i))) (tCall (SpR K c_weight_of) [] E0 (tCons (tVar 0) (tCons (tVar 3) tNil))) (tVar 1)))) (by exact rfl) sc_weighted.nd rfl rfl (sw_true rfl rfl rfl (by decide +kernel)) (pi_range1 (by rfl) T.n_range (pa_cons (pe_op op_shl pe_int (pe_callB call_len_seq (by rfl) T.n_len (PySem.boot_len) (pa_cons (pv 0) pa_nil))) pa_nil)) (blkOk_by (N := n_weighted) (sc := defScope st_weighted) (own := [("group", 3)]) (by decide +kernel)) (fun _ _ _ _ _ => (pg_name (i := 3) sc_weighted.nd rfl (by first | exact Or.inl rfl | exact Or.inr rfl))) (fun _ _ _ _ _ => pts_one (pt_cmpR op_ge (pe_callD g_weight_of (hr.mono (by decide)) (by rfl) pass0 (pa_cons (pv 0) (pa_cons (pv 3) pa_nil))) (pv 1) (nomark _))) (fun _ _ _ _ _ => (pv 3)))
  (pss_one (ps_ret (pe_makeD g_Council_init (hr.mono (by decide)) (by rfl) (L2N.passes_call (L2N.takes_of rfl rfl rfl rfl) (fun _ _ _ _ h => h)) (pa_cons (pe_callB call_len_seq (by rfl) T.n_len (PySem.boot_len) (pa_cons (pv 0) pa_nil)) (pa_cons (pv 2) pa_nil))))))), go_of ?_ h⟩
  try dsimp only [L2.cxOf, L2.Cx.nox, L2.Cx.wish, L2.Cx.blk]
  rintro ds r (⟨ws, q, rfl, ⟨⟨h1, h5⟩, hw, h0, hq⟩, rfl⟩ | ⟨h, rfl⟩)
  · have hp := pow_le _ h5
    show W K E _ [.fz (intL ws), .fz (.int q), .un, .un] _
    refine w_seq (w_drop (d := .non) ?_ ?_)
    · with_reducible apply ev_call
      · walk_at "ea"
      · exact .inl (R2'.mk ⟨⟨h1, h5⟩, hw, h0, hq⟩)
    refine w_seq (w_asg (d := natL ((List.range (2 ^ ws.length)).filter fun g => decide (q ≤ wgt ws g))) ?_ ?_)
    · apply ev_is
      · walk_at "ev"
      · rfl
    refine w_ret ?_ rfl
    apply ev_isF
    · with_reducible apply ev_make
      · walk_at "ea"
      · refine Or.inl (c_Council_init.mk h1 h5 ?_ ?_)
        · have := filt_len (fun g => decide (q ≤ wgt ws g)) (2 ^ ws.length)
          omega
        · intro g hg
          exact List.mem_range.mp (List.mem_filter.mp hg).1
    · rfl
  · obtain ⟨x, y, rfl⟩ : ∃ x y, ds = [x, y] := by
      rcases h with ⟨x, y, _, rfl, _⟩ | ⟨_, _, rfl, _⟩ | ⟨_, _, rfl, _⟩ | ⟨_, _, rfl, _⟩ <;> exact ⟨_, _, rfl⟩
    show W K E _ [.fz x, .fz y, .un, .un] _
    refine w_seq (w_dropX (C := C_BadWeights) ?_ rfl)
    with_reducible apply ev_callG
    · walk_at "ea"
    · exact .inr ⟨h, rfl⟩
    · walk_at "ne"
def c8_against (C U : Addr) : List D → Rs → Prop := fun ds r => ∃ n t x y, ds = [cou C n t, x, y] ∧ (Wi x 0 ((n : Int) - 1) false ∨ (Wi x 0 ((n : Int) - 1) true ∧ Wi y 0 ((n : Int) - 1) false)) ∧ r = .exc U
theorem c8_against.len {C U : Addr} : ∀ ds r, c8_against C U ds r → ds.length = 3 := by
  rintro ds r ⟨_, _, _, _, rfl, _⟩
  rfl
abbrev st_group_against : Stmt := top 20
abbrev n_group_against : List Str := ["council", "one", "other", "group"]
abbrev p_group_against : List Str := ["council", "one", "other"]
theorem sc_group_against : FnScope n_group_against p_group_against (defScope st_group_against) := ⟨rfl, rfl, rfl, by decide +kernel, rfl, by decide +kernel, by decide +kernel⟩
theorem ok_group_against {f : Addr} {fd : FuncData} (F : Fun K "group_against" "group_against" st_group_against f fd) (T : Txt K mg C_Council C_CouncilError C_BadCouncil C_BadGroup C_NoMember C_Unlike C_BadWeights C_BadText) (g_Council_member : OkM P w K mg base (L2N.CX P w) 2 C_Council "member" p_Council_member (SpR K (c8_member C_Council C_NoMember))) (g_Council_carries : OkM P w K mg base (L2N.CX P w) 2 C_Council "carries" p_Council_carries (SpR K (c8_carries C_Council C_BadGroup))) : FnOk P w K mg base (L2N.CX P w) 3 f fd p_group_against (SpR K (c8_against C_Council C_NoMember)) := by
  refine okN F sc_group_against (sp_len c8_against.len) (fun cdv A outer s H vs Q E hr h => ?_)
  have hcl_Council := T.cl_Council
  have hna_Council_members := T.na_Council_members
  have hna_Council_table := T.na_Council_table
  refine ⟨_, (pss_cons (ps_expr (pe_methD (pv 0) T.cl_Council g_Council_member (hr.mono (by decide)) (L2N.passes_call (L2N.takes_of rfl rfl rfl rfl) (fun _ _ _ _ h => h)) (pa_cons (pv 1) pa_nil)))
  (pss_cons (ps_expr (pe_methD (pv 0) T.cl_Council g_Council_member (hr.mono (by decide)) (L2N.passes_call (L2N.takes_of rfl rfl rfl rfl) (fun _ _ _ _ h => h)) (pa_cons (pv 2) pa_nil)))
  (pss_cons (ps_for (passes_of rfl) rfl (pi_range1 (by rfl) T.n_range (pa_cons (pe_op op_shl pe_int (pe_fld (pv 0) rfl)) pa_nil)) (pg_name (i := 3) sc_group_against.nd rfl (by first | exact Or.inl rfl | exact Or.inr rfl))
  (pss_one (ps_if (PW.pt (pw_and (pt_cmpR op_eq (pe_op op_and (pe_op op_shr (pv 3) (pv 1)) pe_int) pe_int (nomark _)) (pw_and1 (pt_cmpR op_eq (pe_op op_and (pe_op op_shr (pv 3) (pv 2)) pe_int) pe_int (nomark _))))) (pss_one (ps_if (PW.pt (pw_and (pt_val (pe_methD (pv 0) T.cl_Council g_Council_carries (hr.mono (by decide)) (L2N.passes_call (L2N.takes_of rfl rfl rfl rfl) (fun _ _ _ _ h => h)) (pa_cons (pe_op op_or (pv 3) (pe_op op_shl pe_int (pv 2))) pa_nil))) (pw_and1 (pt_not (pt_val (pe_methD (pv 0) T.cl_Council g_Council_carries (hr.mono (by decide)) (L2N.passes_call (L2N.takes_of rfl rfl rfl rfl) (fun _ _ _ _ h => h)) (pa_cons (pe_op op_or (pv 3) (pe_op op_shl pe_int (pv 1))) pa_nil))))))) (pss_one (ps_ret (pv 3))) pss_nil)) pss_nil)))
  (pss_one (ps_ret (pe_un un_neg pe_int)))))), go_of ?_ h⟩
  try dsimp only [L2.cxOf, L2.Cx.nox, L2.Cx.wish, L2.Cx.blk]
  rintro ds r ⟨n, t, x, y, rfl, hxy, rfl⟩
  show W K E _ [.fz (cou C_Council n t), .fz x, .fz y, .un] _
  rcases hxy with hx | ⟨hx, hy⟩
  · refine w_seq (w_dropX (C := C_NoMember) ?_ rfl)
    with_reducible apply ev_methG
    · walk_at "ev"
    · decide +kernel
    · walk_at "ea"
    · exact ⟨n, t, x, false, rfl, hx, rfl⟩
    · walk_at "ne"
  · refine w_seq (w_drop (d := x) ?_ ?_)
    · with_reducible apply ev_methG
      · walk_at "ev"
      · decide +kernel
      · walk_at "ea"
      · exact ⟨n, t, x, true, rfl, hx, rfl⟩
      · walk_at "ne"
    refine w_seq (w_dropX (C := C_NoMember) ?_ rfl)
    with_reducible apply ev_methG
    · walk_at "ev"
    · decide +kernel
    · walk_at "ea"
    · exact ⟨n, t, y, false, rfl, hy, rfl⟩
    · walk_at "ne"
abbrev st_stands : Stmt := top 19
abbrev n_stands : List Str := ["council", "one", "other"]
abbrev p_stands : List Str := ["council", "one", "other"]
theorem sc_stands : FnScope n_stands p_stands (defScope st_stands) := ⟨rfl, rfl, rfl, by decide +kernel, rfl, by decide +kernel, by decide +kernel⟩
theorem ok_stands {f : Addr} {fd : FuncData} (F : Fun K "stands" "stands" st_stands f fd) (T : Txt K mg C_Council C_CouncilError C_BadCouncil C_BadGroup C_NoMember C_Unlike C_BadWeights C_BadText) (g_group_against : OkD P w K mg base (L2N.CX P w) 3 "group_against" p_group_against (SpR K (c8_against C_Council C_NoMember))) : FnOk P w K mg base (L2N.CX P w) 4 f fd p_stands (SpR K (c8_against C_Council C_NoMember)) := by
  refine okN F sc_stands (sp_len c8_against.len) (fun cdv A outer s H vs Q E hr h => ?_)
  have hcl_Council := T.cl_Council
  have hna_Council_members := T.na_Council_members
  have hna_Council_table := T.na_Council_table
  refine ⟨_, (pss_one (ps_ret (pe_cmpR op_lt (pe_callD g_group_against (hr.mono (by decide)) (by rfl) (L2N.passes_call (L2N.takes_of rfl rfl rfl rfl) (fun _ _ _ _ h => h)) (pa_cons (pv 0) (pa_cons (pv 1) (pa_cons (pv 2) pa_nil)))) pe_int (nomark _)))), go_of ?_ h⟩
  try dsimp only [L2.cxOf, L2.Cx.nox, L2.Cx.wish, L2.Cx.blk]
  rintro ds r ⟨n, t, x, y, rfl, hxy, rfl⟩
  show W K E _ [.fz (cou C_Council n t), .fz x, .fz y] _
  refine w_ret (r := .exc C_NoMember) ?_ rfl
  refine ev_opX ?_
  with_reducible apply ev_callG
  · walk_at "ea"
  · exact ⟨n, t, x, y, rfl, hxy, rfl⟩
  · walk_at "ne"
abbrev st_law_cell_at : Stmt := top 22
abbrev n_law_cell_at : List Str := ["_law_script", "_law_k"]
abbrev p_law_cell_at : List Str := ["_law_script", "_law_k"]
theorem sc_law_cell_at : FnScope n_law_cell_at p_law_cell_at (defScope st_law_cell_at) := ⟨rfl, rfl, rfl, by decide +kernel, rfl, by decide +kernel, by decide +kernel⟩
theorem ok_law_cell_at {f : Addr} {fd : FuncData} (F : Fun K "_law_cell_at" "_law_cell_at" st_law_cell_at f fd) (T : Txt K mg C_Council C_CouncilError C_BadCouncil C_BadGroup C_NoMember C_Unlike C_BadWeights C_BadText) : FnOk P w K mg base CX0 1 f fd p_law_cell_at (SpR K c_law_cell_at) := by
  refine F.ok sc_law_cell_at (sp_len R2'.len) (fun cdv A outer s H vs Q E hr h => ?_)
  have hcl_Council := T.cl_Council
  have hna_Council_members := T.na_Council_members
  have hna_Council_table := T.na_Council_table
  refine ⟨_, (pss_cons (ps_if (pt_cmpR op_lt (pv 1) (pe_callB call_len_seq (by rfl) T.n_len (PySem.boot_len) (pa_cons (pv 0) pa_nil)) (nomark _)) (pss_one (ps_ret (pe_ix ix_list (pv 0) (pv 1) (fun _ _ => rfl)))) pss_nil)
  (pss_one (ps_ret pe_int))), go_of ?_ h⟩
  try dsimp only [L2.cxOf, L2.Cx.nox, L2.Cx.wish, L2.Cx.blk]
  rintro ds r ⟨ns, k, rfl, -, rfl⟩
  show W K E _ [.fz (.scr ns), .fz (nat k)] _
  refine w_seq (w_if (b := decide (k < ns.length)) ?_ (fun hk => ?_) fun hk => w_next ?_)
  · apply et_is
    · walk_at "et"
    · rw [decide_eq_decide]
      omega
  · have hk := of_decide_eq_true hk
    refine w_ret (r := .dat (.int (ns.getD k 0))) ?_ rfl
    with_reducible apply ev_op
    · walk_at "ev"
    · walk_at "ev"
    · refine od_ixR (by omega) ?_
      rw [Int.toNat_natCast, List.getD_eq_getElem?_getD, List.getElem?_eq_getElem hk]
      rfl
  · have hk := of_decide_eq_false hk
    refine w_ret (r := .dat (.int (ns.getD k 0))) ?_ rfl
    rw [List.getD_eq_getElem?_getD, List.getElem?_eq_none (by omega)]
    exact ev_int
abbrev st_law_draw : Stmt := top 23
abbrev n_law_draw : List Str := ["_law_cell", "_law_k", "_law_many", "_law_primes", "_law_blend"]
abbrev p_law_draw : List Str := ["_law_cell", "_law_k", "_law_many"]
theorem sc_law_draw : FnScope n_law_draw p_law_draw (defScope st_law_draw) := ⟨rfl, rfl, rfl, by decide +kernel, rfl, by decide +kernel, by decide +kernel⟩
def c8_sort (A B C D' U a : Addr) : List D → Rs → Prop := fun ds r => ds = [.fn a] ∧ ((U = A ∧ r = .dat (.str "council")) ∨ (U = B ∧ r = .dat (.str "group")) ∨ (U = C ∧ r = .dat (.str "member")) ∨ (U = D' ∧ r = .dat (.str "weights")))
theorem c8_sort.len {A B C D' U a : Addr} : ∀ ds r, c8_sort A B C D' U a ds r → ds.length = 1 := by
  rintro ds r ⟨rfl, _⟩
  rfl
abbrev st_law_sort : Stmt := top 24
abbrev n_law_sort : List Str := ["_law_error", "_law_kinds"]
abbrev p_law_sort : List Str := ["_law_error"]
theorem sc_law_sort : FnScope n_law_sort p_law_sort (defScope st_law_sort) := ⟨rfl, rfl, rfl, by decide +kernel, rfl, by decide +kernel, by decide +kernel⟩
theorem ok_law_sort {f : Addr} {fd : FuncData} (F : Fun K "_law_sort" "_law_sort" st_law_sort f fd) (T : Txt K mg C_Council C_CouncilError C_BadCouncil C_BadGroup C_NoMember C_Unlike C_BadWeights C_BadText) : FnE P w K mg base 1 f fd p_law_sort (fun U a => SpR K (c8_sort C_BadCouncil C_BadGroup C_NoMember C_BadWeights U a)) := by
  refine fnE_of F sc_law_sort fun U cdv A outer s H vs Q p hot hzn hr h => ?_
  have hC : ExcC K U := by
    obtain ⟨B, ds, r, _, _, ⟨_, hU⟩, _⟩ := h
    rcases hU with ⟨rfl, _⟩ | ⟨rfl, _⟩ | ⟨rfl, _⟩ | ⟨rfl, _⟩
    · exact T.ec_BadCouncil
    · exact T.ec_BadGroup
    · exact T.ec_NoMember
    · exact T.ec_BadWeights
  have hvs : ∃ vs, p.2.data = .fields vs := by
    obtain ⟨_, vs, hv, _⟩ := hot
    exact ⟨vs, hv⟩
  refine ⟨_, (pss_cons (ps_set (i := 1) sc_law_sort.nd rfl (by first | exact Or.inl rfl | exact Or.inr rfl) (pe_lst (pa_cons (pe_callB (call_isP hC (List.mem_singleton.mpr rfl) hzn.zc hvs) (by rfl) T.n_isinstance (by decide +kernel) (pa_cons (pv 0) (pa_cons (pe_glob (v := .ref C_BadCouncil) (by rfl) T.x_BadCouncil.g rfl) pa_nil))) (pa_cons (pe_callB (call_isP hC (List.mem_singleton.mpr rfl) hzn.zc hvs) (by rfl) T.n_isinstance (by decide +kernel) (pa_cons (pv 0) (pa_cons (pe_glob (v := .ref C_BadGroup) (by rfl) T.x_BadGroup.g rfl) pa_nil))) (pa_cons (pe_callB (call_isP hC (List.mem_singleton.mpr rfl) hzn.zc hvs) (by rfl) T.n_isinstance (by decide +kernel) (pa_cons (pv 0) (pa_cons (pe_glob (v := .ref C_NoMember) (by rfl) T.x_NoMember.g rfl) pa_nil))) pa_nil)))))
  (pss_cons (ps_set (i := 1) sc_law_sort.nd rfl (by first | exact Or.inl rfl | exact Or.inr rfl) (pe_op op_cat (pv 1) (pe_lst (pa_cons (pe_callB (call_isP hC (List.mem_singleton.mpr rfl) hzn.zc hvs) (by rfl) T.n_isinstance (by decide +kernel) (pa_cons (pv 0) (pa_cons (pe_glob (v := .ref C_BadWeights) (by rfl) T.x_BadWeights.g rfl) pa_nil))) (pa_cons (pe_callB (call_isP hC (List.mem_singleton.mpr rfl) hzn.zc hvs) (by rfl) T.n_isinstance (by decide +kernel) (pa_cons (pv 0) (pa_cons (pe_glob (v := .ref C_Unlike) (by rfl) T.x_Unlike.g rfl) pa_nil))) (pa_cons (pe_callB (call_isP hC (List.mem_singleton.mpr rfl) hzn.zc hvs) (by rfl) T.n_isinstance (by decide +kernel) (pa_cons (pv 0) (pa_cons (pe_glob (v := .ref C_BadText) (by rfl) T.x_BadText.g rfl) pa_nil))) pa_nil))))))
  (pss_cons (ps_if (PW.pt (pw_or (pt_cmpR op_ne (pe_bm PySem.F.plainAttrs_list PySem.F.slot_list_count PySem.F.type_list_count mt_lcountF (pv 1) (pa_cons pe_bl pa_nil)) pe_int (nomark _)) (pw_or1 (pt_not (pt_val (pe_callB (call_isP hC (List.mem_singleton.mpr rfl) hzn.zc hvs) (by rfl) T.n_isinstance (by decide +kernel) (pa_cons (pv 0) (pa_cons (pe_bltn (v := .ty "ValueError") (by rfl) T.n_ValueError (by decide +kernel) rfl) pa_nil)))))))) (pss_one (ps_ret pe_str)) pss_nil)
  (pss_one (ps_ret (pe_ix ix_list (pe_lst (pa_cons pe_str (pa_cons pe_str (pa_cons pe_str (pa_cons pe_str (pa_cons pe_str (pa_cons pe_str pa_nil))))))) (pe_bm PySem.F.plainAttrs_list PySem.F.slot_list_index PySem.F.type_list_index mt_index (pv 1) (pa_cons pe_bl pa_nil)) (fun _ _ => rfl))))))), go_of ?_ h⟩
  try dsimp only [L2H.cxH, L2.cxOf]
  rintro ds r ⟨rfl, ⟨rfl, rfl⟩ | ⟨rfl, rfl⟩ | ⟨rfl, rfl⟩ | ⟨rfl, rfl⟩⟩
  · show W K _ _ [.fz (.fn p.1), .un] _
    refine w_seq (w_asg (d := .lst [.bl true, .bl false, .bl false]) ?_ ?_)
    · apply EvR.fz
      with_reducible apply ev_lst
      · refine ea_cons (ev_cb (by walk_at "ea") (cb_isE T.ki_BadCouncil_BadCouncil)) (ea_cons (ev_cb (by walk_at "ea") (cb_isE T.ki_BadCouncil_BadGroup)) (ea_cons (ev_cb (by walk_at "ea") (cb_isE T.ki_BadCouncil_NoMember)) ea_nil))
      · walk_at "sz"
    refine w_seq (w_asg (d := blL [true, false, false, false, false, false]) ?_ ?_)
    · apply EvR.fz
      apply ev_isN
      · with_reducible apply ev_op
        · walk_at "ev"
        · with_reducible apply EvR.fz
          with_reducible apply ev_lst
          · refine ea_cons (ev_cb (by walk_at "ea") (cb_isE T.ki_BadCouncil_BadWeights)) (ea_cons (ev_cb (by walk_at "ea") (cb_isE T.ki_BadCouncil_Unlike)) (ea_cons (ev_cb (by walk_at "ea") (cb_isE T.ki_BadCouncil_BadText)) ea_nil))
          · walk_at "sz"
        · refine od_cat ?_
          show 6 ≤ _
          rw [sizeLine_eq]
          omega
      · rfl
    refine w_seq (w_ifF ?_ (w_next ?_))
    · refine et_is (a := !decide (((([true, false, false, false, false, false] : List Bool).countP id : Nat) : Int) = 1) || !true) ?_ (by decide)
      refine et_or ?_ fun _ => ?_
      · apply et_test
        with_reducible apply ev_op
        · exact ev_countB (ev_var rfl) ev_bl
        · exact ev_int
        · exact od_neI
      · apply et_not
        apply et_B
        exact ev_cb (by walk_at "ea") (cb_isET T.ki_BadCouncil_VE)
    refine w_ret (r := .dat (.str "council")) ?_ rfl
    with_reducible apply ev_op (y := nat 0)
    · walk_at "ev"
    · exact ev_indexB (bs := [true, false, false, false, false, false]) (ev_var rfl) ev_bl rfl (by decide)
    · exact od_ixL (by omega) rfl
  · show W K _ _ [.fz (.fn p.1), .un] _
    refine w_seq (w_asg (d := .lst [.bl false, .bl true, .bl false]) ?_ ?_)
    · apply EvR.fz
      with_reducible apply ev_lst
      · refine ea_cons (ev_cb (by walk_at "ea") (cb_isE T.ki_BadGroup_BadCouncil)) (ea_cons (ev_cb (by walk_at "ea") (cb_isE T.ki_BadGroup_BadGroup)) (ea_cons (ev_cb (by walk_at "ea") (cb_isE T.ki_BadGroup_NoMember)) ea_nil))
      · walk_at "sz"
    refine w_seq (w_asg (d := blL [false, true, false, false, false, false]) ?_ ?_)
    · apply EvR.fz
      apply ev_isN
      · with_reducible apply ev_op
        · walk_at "ev"
        · with_reducible apply EvR.fz
          with_reducible apply ev_lst
          · refine ea_cons (ev_cb (by walk_at "ea") (cb_isE T.ki_BadGroup_BadWeights)) (ea_cons (ev_cb (by walk_at "ea") (cb_isE T.ki_BadGroup_Unlike)) (ea_cons (ev_cb (by walk_at "ea") (cb_isE T.ki_BadGroup_BadText)) ea_nil))
          · walk_at "sz"
        · refine od_cat ?_
          show 6 ≤ _
          rw [sizeLine_eq]
          omega
      · rfl
    refine w_seq (w_ifF ?_ (w_next ?_))
    · refine et_is (a := !decide (((([false, true, false, false, false, false] : List Bool).countP id : Nat) : Int) = 1) || !true) ?_ (by decide)
      refine et_or ?_ fun _ => ?_
      · apply et_test
        with_reducible apply ev_op
        · exact ev_countB (ev_var rfl) ev_bl
        · exact ev_int
        · exact od_neI
      · apply et_not
        apply et_B
        exact ev_cb (by walk_at "ea") (cb_isET T.ki_BadGroup_VE)
    refine w_ret (r := .dat (.str "group")) ?_ rfl
    with_reducible apply ev_op (y := nat 1)
    · walk_at "ev"
    · exact ev_indexB (bs := [false, true, false, false, false, false]) (ev_var rfl) ev_bl rfl (by decide)
    · exact od_ixL (by omega) rfl
  · show W K _ _ [.fz (.fn p.1), .un] _
    refine w_seq (w_asg (d := .lst [.bl false, .bl false, .bl true]) ?_ ?_)
    · apply EvR.fz
      with_reducible apply ev_lst
      · refine ea_cons (ev_cb (by walk_at "ea") (cb_isE T.ki_NoMember_BadCouncil)) (ea_cons (ev_cb (by walk_at "ea") (cb_isE T.ki_NoMember_BadGroup)) (ea_cons (ev_cb (by walk_at "ea") (cb_isE T.ki_NoMember_NoMember)) ea_nil))
      · walk_at "sz"
    refine w_seq (w_asg (d := blL [false, false, true, false, false, false]) ?_ ?_)
    · apply EvR.fz
      apply ev_isN
      · with_reducible apply ev_op
        · walk_at "ev"
        · with_reducible apply EvR.fz
          with_reducible apply ev_lst
          · refine ea_cons (ev_cb (by walk_at "ea") (cb_isE T.ki_NoMember_BadWeights)) (ea_cons (ev_cb (by walk_at "ea") (cb_isE T.ki_NoMember_Unlike)) (ea_cons (ev_cb (by walk_at "ea") (cb_isE T.ki_NoMember_BadText)) ea_nil))
          · walk_at "sz"
        · refine od_cat ?_
          show 6 ≤ _
          rw [sizeLine_eq]
          omega
      · rfl
    refine w_seq (w_ifF ?_ (w_next ?_))
    · refine et_is (a := !decide (((([false, false, true, false, false, false] : List Bool).countP id : Nat) : Int) = 1) || !true) ?_ (by decide)
      refine et_or ?_ fun _ => ?_
      · apply et_test
        with_reducible apply ev_op
        · exact ev_countB (ev_var rfl) ev_bl
        · exact ev_int
        · exact od_neI
      · apply et_not
        apply et_B
        exact ev_cb (by walk_at "ea") (cb_isET T.ki_NoMember_VE)
    refine w_ret (r := .dat (.str "member")) ?_ rfl
    with_reducible apply ev_op (y := nat 2)
    · walk_at "ev"
    · exact ev_indexB (bs := [false, false, true, false, false, false]) (ev_var rfl) ev_bl rfl (by decide)
    · exact od_ixL (by omega) rfl
  · show W K _ _ [.fz (.fn p.1), .un] _
    refine w_seq (w_asg (d := .lst [.bl false, .bl false, .bl false]) ?_ ?_)
    · apply EvR.fz
      with_reducible apply ev_lst
      · refine ea_cons (ev_cb (by walk_at "ea") (cb_isE T.ki_BadWeights_BadCouncil)) (ea_cons (ev_cb (by walk_at "ea") (cb_isE T.ki_BadWeights_BadGroup)) (ea_cons (ev_cb (by walk_at "ea") (cb_isE T.ki_BadWeights_NoMember)) ea_nil))
      · walk_at "sz"
    refine w_seq (w_asg (d := blL [false, false, false, true, false, false]) ?_ ?_)
    · apply EvR.fz
      apply ev_isN
      · with_reducible apply ev_op
        · walk_at "ev"
        · with_reducible apply EvR.fz
          with_reducible apply ev_lst
          · refine ea_cons (ev_cb (by walk_at "ea") (cb_isE T.ki_BadWeights_BadWeights)) (ea_cons (ev_cb (by walk_at "ea") (cb_isE T.ki_BadWeights_Unlike)) (ea_cons (ev_cb (by walk_at "ea") (cb_isE T.ki_BadWeights_BadText)) ea_nil))
          · walk_at "sz"
        · refine od_cat ?_
          show 6 ≤ _
          rw [sizeLine_eq]
          omega
      · rfl
    refine w_seq (w_ifF ?_ (w_next ?_))
    · refine et_is (a := !decide (((([false, false, false, true, false, false] : List Bool).countP id : Nat) : Int) = 1) || !true) ?_ (by decide)
      refine et_or ?_ fun _ => ?_
      · apply et_test
        with_reducible apply ev_op
        · exact ev_countB (ev_var rfl) ev_bl
        · exact ev_int
        · exact od_neI
      · apply et_not
        apply et_B
        exact ev_cb (by walk_at "ea") (cb_isET T.ki_BadWeights_VE)
    refine w_ret (r := .dat (.str "weights")) ?_ rfl
    with_reducible apply ev_op (y := nat 3)
    · walk_at "ev"
    · exact ev_indexB (bs := [false, false, false, true, false, false]) (ev_var rfl) ev_bl rfl (by decide)
    · exact od_ixL (by omega) rfl
def c8_asked (C A M W' : Addr) : List D → Rs → Prop := fun ds r => ∃ d x y, ds = [.int d, x, y] ∧ ((d = 0 ∧ c8_init A [x, y] (.exc A) ∧ r = .dat (.str "council")) ∨ (d = 1 ∧ Wi x 0 (8 - 1) false ∧ r = .dat (.str "group")) ∨
  (d = 2 ∧ (Wi x 0 (3 - 1) false ∨ (Wi x 0 (3 - 1) true ∧ Wi y 0 (3 - 1) false)) ∧ r = .dat (.str "member")) ∨ (d = 3 ∧ BadWs [x, y] ∧ r = .dat (.str "weights")))
theorem c8_asked.len {C A M W' : Addr} : ∀ ds r, c8_asked C A M W' ds r → ds.length = 3 := by
  rintro ds r ⟨_, _, _, rfl, _⟩
  rfl
abbrev st_law_asked : Stmt := top 25
abbrev n_law_asked : List Str := ["_law_door", "_law_one", "_law_other", "_law_error"]
abbrev p_law_asked : List Str := ["_law_door", "_law_one", "_law_other"]
theorem sc_law_asked : FnScope n_law_asked p_law_asked (defScope st_law_asked) := ⟨rfl, rfl, rfl, by decide +kernel, rfl, by decide +kernel, by decide +kernel⟩
theorem ok_law_asked {f : Addr} {fd : FuncData} (F : Fun K "_law_asked" "_law_asked" st_law_asked f fd) (T : Txt K mg C_Council C_CouncilError C_BadCouncil C_BadGroup C_NoMember C_Unlike C_BadWeights C_BadText) (g_Council_init : OkI P w K mg base (L2N.CX P w) 2 "Council" C_Council p_Council_init (SpI K C_Council (c8_init C_BadCouncil))) (g_Council_carries : OkM P w K mg base (L2N.CX P w) 2 C_Council "carries" p_Council_carries (SpR K (c8_carries C_Council C_BadGroup))) (g_stands : OkD P w K mg base (L2N.CX P w) 4 "stands" p_stands (SpR K (c8_against C_Council C_NoMember))) (g_weighted : OkD P w K mg base (L2N.CX P w) 4 "weighted" p_weighted (SpR K (c8_weighted C_Council C_BadWeights))) (g_law_sort : OkE P w K mg base 1 "_law_sort" p_law_sort (fun U a => SpR K (c8_sort C_BadCouncil C_BadGroup C_NoMember C_BadWeights U a))) : FnOk P w K mg base CX0 5 f fd p_law_asked (SpR K (c8_asked C_Council C_BadCouncil C_NoMember C_BadWeights)) := by
  refine F.ok sc_law_asked (sp_len c8_asked.len) (fun cdv A outer s H vs Q E hr h => ?_)
  have hcl_Council := T.cl_Council
  have hna_Council_members := T.na_Council_members
  have hna_Council_table := T.na_Council_table
  refine ⟨_, (pss_cons (ps_tryE (i := 3) (Wout := fun _ _ _ _ => False) rfl rfl sc_law_asked.nd rfl rfl ⟨rfl, by decide, Or.inl T.x_CouncilError.g⟩ takesN
  (fun E pn xe hE po => (pss_one (ps_if (pt_cmpR op_eq (pv 0) pe_int (nomark _)) (pss_one (ps_expr (pe_makeD g_Council_init (hr.mono (by decide)) (by rfl) hE (pa_cons (pv 1) (pa_cons (pv 2) pa_nil))))) (pss_one (ps_if (pt_cmpR op_eq (pv 0) pe_int (nomark _)) (pss_one (ps_expr (pe_methD (pe_makeD g_Council_init (hr.mono (by decide)) (by rfl) hE (pa_cons pe_int (pa_cons (pe_lst (pa_cons pe_int pa_nil)) pa_nil))) T.cl_Council g_Council_carries (hr.mono (by decide)) hE (pa_cons (pv 1) pa_nil)))) (pss_one (ps_if (pt_cmpR op_eq (pv 0) pe_int (nomark _)) (pss_one (ps_expr (pe_callD g_stands (hr.mono (by decide)) (by rfl) hE (pa_cons (pe_makeD g_Council_init (hr.mono (by decide)) (by rfl) hE (pa_cons pe_int (pa_cons (pe_lst (pa_cons pe_int pa_nil)) pa_nil))) (pa_cons (pv 1) (pa_cons (pv 2) pa_nil)))))) (pss_one (ps_expr (pe_callD g_weighted (hr.mono (by decide)) (by rfl) hE (pa_cons (pv 1) (pa_cons (pv 2) pa_nil))))))))))))
  (fun a oe cls d pn hz hf => pss_exU (cls := cls) (d := d) (fun U hU hd => (pss_one (ps_ret (pe_callED g_law_sort (fun U a => sp_len (c8_sort.len)) (L2H.roomH_of (hr.mono (by decide))) (by rfl) (by rw [hU, hd] at hz; exact hz) hf (pa_cons (pv 3) pa_nil)))))))
  (pss_one (ps_ret pe_str))), go_of ?_ h⟩
  try dsimp only [L2.cxOf, L2.Cx.nox, L2.Cx.wish, L2.Cx.blk]
  rintro ds r ⟨d, x, y, rfl, ⟨rfl, h, rfl⟩ | ⟨rfl, h, rfl⟩ | ⟨rfl, h, rfl⟩ | ⟨rfl, h, rfl⟩⟩
  · show W K E _ [.fz (.int 0), .fz x, .fz y, .un] _
    refine w_seq (w_tryE (C := fun U => U = C_BadCouncil) (fun E' => ?_) ?_)
    · show W K E' _ [.fz (.int 0), .fz x, .fz y, .un] _
      refine w_if (b := true) ?_ (fun _ => ?_) fun z => nomatch z
      · apply et_is
        · walk_at "et"
        · decide
      refine w_dropX (C := C_BadCouncil) ?_ (.inl ⟨_, rfl, rfl⟩)
      with_reducible apply ev_makeX
      · walk_at "ea"
      · exact h
    · rintro U rfl
      refine ⟨T.xm_BadCouncil, fun a => w_exU ?_⟩
      show W K E _ [.un, .un, .un, .fz (.fn a)] _
      refine w_ret (r := .dat (.str "council")) ?_ rfl
      exact ev_callE (by walk_at "ea") ⟨rfl, by simp⟩
  · show W K E _ [.fz (.int 1), .fz x, .fz y, .un] _
    refine w_seq (w_tryE (C := fun U => U = C_BadGroup) (fun E' => ?_) ?_)
    · show W K E' _ [.fz (.int 1), .fz x, .fz y, .un] _
      have hc : c8_init C_BadCouncil [.int 3, .lst [.int 3]] (.ok ["members", "table"] [nat 3, blL (tab 3 [3])]) := .inl (c_Council_init.mk (n := 3) (gs := [3]) (by decide) (by decide) (by decide) (by decide))
      have hg : c8_carries C_Council C_BadGroup [cou C_Council 3 (tab 3 [3]), x] (.exc C_BadGroup) := .inr ⟨3, tab 3 [3], x, rfl, h, rfl⟩
      refine w_if (b := false) ?_ (fun z => nomatch z) fun _ => ?_
      · apply et_is
        · walk_at "et"
        · decide
      refine w_if (b := true) ?_ (fun _ => ?_) fun z => nomatch z
      · apply et_is
        · walk_at "et"
        · decide
      refine w_dropX (C := C_BadGroup) ?_ (.inl ⟨_, rfl, rfl⟩)
      with_reducible apply ev_methG
      · walk_at "ev"
      · decide +kernel
      · walk_at "ea"
      · exact hg
      · walk_at "ne"
    · rintro U rfl
      refine ⟨T.xm_BadGroup, fun a => w_exU ?_⟩
      show W K E _ [.un, .un, .un, .fz (.fn a)] _
      refine w_ret (r := .dat (.str "group")) ?_ rfl
      exact ev_callE (by walk_at "ea") ⟨rfl, by simp⟩
  · show W K E _ [.fz (.int 2), .fz x, .fz y, .un] _
    refine w_seq (w_tryE (C := fun U => U = C_NoMember) (fun E' => ?_) ?_)
    · show W K E' _ [.fz (.int 2), .fz x, .fz y, .un] _
      have hc : c8_init C_BadCouncil [.int 3, .lst [.int 3]] (.ok ["members", "table"] [nat 3, blL (tab 3 [3])]) := .inl (c_Council_init.mk (n := 3) (gs := [3]) (by decide) (by decide) (by decide) (by decide))
      refine w_if (b := false) ?_ (fun z => nomatch z) fun _ => ?_
      · apply et_is
        · walk_at "et"
        · decide
      refine w_if (b := false) ?_ (fun z => nomatch z) fun _ => ?_
      · apply et_is
        · walk_at "et"
        · decide
      refine w_if (b := true) ?_ (fun _ => ?_) fun z => nomatch z
      · apply et_is
        · walk_at "et"
        · decide
      refine w_dropX (C := C_NoMember) ?_ (.inl ⟨_, rfl, rfl⟩)
      with_reducible apply ev_callG
      · walk_at "ea"
      · exact ⟨3, tab 3 [3], x, y, rfl, h, rfl⟩
      · walk_at "ne"
    · rintro U rfl
      refine ⟨T.xm_NoMember, fun a => w_exU ?_⟩
      show W K E _ [.un, .un, .un, .fz (.fn a)] _
      refine w_ret (r := .dat (.str "member")) ?_ rfl
      exact ev_callE (by walk_at "ea") ⟨rfl, by simp⟩
  · show W K E _ [.fz (.int 3), .fz x, .fz y, .un] _
    refine w_seq (w_tryE (C := fun U => U = C_BadWeights) (fun E' => ?_) ?_)
    · show W K E' _ [.fz (.int 3), .fz x, .fz y, .un] _
      refine w_if (b := false) ?_ (fun z => nomatch z) fun _ => ?_
      · apply et_is
        · walk_at "et"
        · decide
      refine w_if (b := false) ?_ (fun z => nomatch z) fun _ => ?_
      · apply et_is
        · walk_at "et"
        · decide
      refine w_if (b := false) ?_ (fun z => nomatch z) fun _ => ?_
      · apply et_is
        · walk_at "et"
        · decide
      refine w_dropX (C := C_BadWeights) ?_ (.inl ⟨_, rfl, rfl⟩)
      with_reducible apply ev_callG
      · walk_at "ea"
      · exact .inr ⟨h, rfl⟩
      · walk_at "ne"
    · rintro U rfl
      refine ⟨T.xm_BadWeights, fun a => w_exU ?_⟩
      show W K E _ [.un, .un, .un, .fz (.fn a)] _
      refine w_ret (r := .dat (.str "weights")) ?_ rfl
      exact ev_callE (by walk_at "ea") ⟨rfl, by simp⟩
theorem asked_c {C A M W' : Addr} {x y : D} (h : c8_init A [x, y] (.exc A)) : c8_asked C A M W' [.int 0, x, y] (.dat (.str "council")) := ⟨0, x, y, rfl, .inl ⟨rfl, h, rfl⟩⟩
theorem asked_g {C A M W' : Addr} {x y : D} (h : Wi x 0 (8 - 1) false) : c8_asked C A M W' [.int 1, x, y] (.dat (.str "group")) := ⟨1, x, y, rfl, .inr (.inl ⟨rfl, h, rfl⟩)⟩
theorem asked_m {C A M W' : Addr} {x y : D} (h : Wi x 0 (3 - 1) false ∨ (Wi x 0 (3 - 1) true ∧ Wi y 0 (3 - 1) false)) : c8_asked C A M W' [.int 2, x, y] (.dat (.str "member")) := ⟨2, x, y, rfl, .inr (.inr (.inl ⟨rfl, h, rfl⟩))⟩
theorem asked_w {C A M W' : Addr} {x y : D} (h : BadWs [x, y]) : c8_asked C A M W' [.int 3, x, y] (.dat (.str "weights")) := ⟨3, x, y, rfl, .inr (.inr (.inr ⟨rfl, h, rfl⟩))⟩
theorem init_m {A : Addr} {x y : D} (h : Wi x 1 5 false) : c8_init A [x, y] (.exc A) := .inr ⟨rfl, .inl ⟨x, y, rfl, h⟩⟩
theorem init_t {A : Addr} {y : D} {T : String} (h : TyD y T) (k : kitB T "list" = some false) : c8_init A [.int 3, y] (.exc A) := .inr ⟨rfl, .inr (.inl ⟨3, y, T, rfl, by decide, h, k⟩)⟩
theorem init_l {A : Addr} (ps : List (D × Bool)) (h : Wis ps 0 7) : c8_init A [.int 3, .lst (ps.map fun p => p.1)] (.exc A) := .inr ⟨rfl, .inr (.inr ⟨3, ps, rfl, by decide, h⟩)⟩
theorem wis1 {x : D} {lo hi : Int} (h : Wi x lo hi false) : Wis [(x, false)] lo hi := ⟨by show 1 ≤ 1000; omega, fun p hp => by rw [List.mem_singleton.mp hp]; exact h, rfl⟩
abbrev st_law : Stmt := top 26
abbrev n_law : List Str := ["_law_script", "_law_more", "_law_members", "_law_bad", "_law_groups", "_law_thing", "_law_weights", "_law_quota", "_law_great", "_law_some"]
abbrev p_law : List Str := ["_law_script"]
theorem sc_law : FnScope n_law p_law (defScope st_law) := ⟨rfl, rfl, rfl, by decide +kernel, rfl, by decide +kernel, by decide +kernel⟩
theorem ok_law {f : Addr} {fd : FuncData} (F : Fun K "law" "law" st_law f fd) (T : Txt K mg C_Council C_CouncilError C_BadCouncil C_BadGroup C_NoMember C_Unlike C_BadWeights C_BadText) (g_law_cell_at : OkD P w K mg base CX0 1 "_law_cell_at" p_law_cell_at (SpR K c_law_cell_at)) (g_law_asked : OkD P w K mg base CX0 5 "_law_asked" p_law_asked (SpR K (c8_asked C_Council C_BadCouncil C_NoMember C_BadWeights))) (g_weighted : OkD P w K mg base (L2N.CX P w) 4 "weighted" p_weighted (SpR K (c8_weighted C_Council C_BadWeights))) (g_Council_least : OkM P w K mg base CX0 2 C_Council "least" p_Council_least (SpR K (c_Council_least C_Council))) (g_Council_greatest : OkM P w K mg base CX0 2 C_Council "greatest" p_Council_greatest (SpR K (c_Council_greatest C_Council))) (g_Council_init : OkI P w K mg base (L2N.CX P w) 2 "Council" C_Council p_Council_init (SpI K C_Council (c8_init C_BadCouncil))) : FnOk P w K mg base CX0 6 f fd p_law (SpR K c_law) := by
  refine F.ok sc_law (sp_len R1.len) (fun cdv A outer s H vs Q E hr h => ?_)
  have hcl_Council := T.cl_Council
  have hna_Council_members := T.na_Council_members
  have hna_Council_table := T.na_Council_table
  refine ⟨_, (pss_cons (ps_set (i := 1) sc_law.nd rfl (by first | exact Or.inl rfl | exact Or.inr rfl) (pe_op op_mod (pe_callD g_law_cell_at (hr.mono (by decide)) (by rfl) pass0 (pa_cons (pv 0) (pa_cons pe_int pa_nil))) pe_int))
  (pss_cons (ps_for PassesOwn.never rfl (pi_list (pe_lst (pa_cons pe_int (pa_cons pe_int (pa_cons (pe_op op_add pe_int (pv 1)) (pa_cons (pe_op op_sub (pe_un un_neg pe_int) (pv 1)) (pa_cons pe_bl (pa_cons pe_str (pa_cons pe_non (pa_cons (pe_lst (pa_cons pe_int pa_nil)) pa_nil)))))))))) (pg_name (i := 2) sc_law.nd rfl (by first | exact Or.inl rfl | exact Or.inr rfl))
  (pss_one (ps_if (pt_cmpR op_ne (pe_callD g_law_asked (hr.mono (by decide)) (by rfl) pass0 (pa_cons pe_int (pa_cons (pv 2) (pa_cons (pe_lst pa_nil) pa_nil)))) pe_str (nomark _)) (pss_one (ps_ret pe_bl)) pss_nil)))
  (pss_cons (ps_set (i := 3) sc_law.nd rfl (by first | exact Or.inl rfl | exact Or.inr rfl) (pe_lst (pa_cons pe_non (pa_cons (pe_tup (pa_cons pe_int pa_nil)) (pa_cons pe_str (pa_cons pe_int (pa_cons (pe_lst (pa_cons (pe_op op_add pe_int (pv 1)) pa_nil)) (pa_cons (pe_lst (pa_cons pe_int pa_nil)) (pa_cons (pe_lst (pa_cons (pe_op op_sub (pe_un un_neg pe_int) (pv 1)) pa_nil)) (pa_cons (pe_lst (pa_cons pe_bl pa_nil)) (pa_cons (pe_lst (pa_cons pe_str pa_nil)) (pa_cons (pe_lst (pa_cons pe_non pa_nil)) (pa_cons (pe_lst (pa_cons (pe_lst (pa_cons pe_int pa_nil)) pa_nil)) (pa_cons (pe_lst (pa_cons pe_int (pa_cons pe_int (pa_cons pe_int pa_nil)))) (pa_cons pe_dnewK (pa_cons (pe_lst (pa_cons (pe_tup (pa_cons pe_int pa_nil)) pa_nil)) pa_nil))))))))))))))))
  (pss_cons (ps_for PassesOwn.never rfl (pi_list (pv 3)) (pg_name (i := 4) sc_law.nd rfl (by first | exact Or.inl rfl | exact Or.inr rfl))
  (pss_one (ps_if (pt_cmpR op_ne (pe_callD g_law_asked (hr.mono (by decide)) (by rfl) pass0 (pa_cons pe_int (pa_cons pe_int (pa_cons (pv 4) pa_nil)))) pe_str (nomark _)) (pss_one (ps_ret pe_bl)) pss_nil)))
  (pss_cons (ps_for PassesOwn.never rfl (pi_list (pe_lst (pa_cons pe_int (pa_cons (pe_op op_add pe_int (pv 1)) (pa_cons (pe_op op_sub (pe_un un_neg pe_int) (pv 1)) (pa_cons pe_bl (pa_cons pe_str (pa_cons pe_non (pa_cons (pe_lst (pa_cons pe_int pa_nil)) (pa_cons (pe_tup (pa_cons pe_int pa_nil)) pa_nil)))))))))) (pg_name (i := 5) sc_law.nd rfl (by first | exact Or.inl rfl | exact Or.inr rfl))
  (pss_one (ps_if (pt_cmpR op_ne (pe_callD g_law_asked (hr.mono (by decide)) (by rfl) pass0 (pa_cons pe_int (pa_cons (pv 5) (pa_cons pe_non pa_nil)))) pe_str (nomark _)) (pss_one (ps_ret pe_bl)) pss_nil)))
  (pss_cons (ps_for PassesOwn.never rfl (pi_list (pe_lst (pa_cons pe_int (pa_cons (pe_op op_add pe_int (pv 1)) (pa_cons (pe_op op_sub (pe_un un_neg pe_int) (pv 1)) (pa_cons pe_bl (pa_cons pe_str (pa_cons pe_non (pa_cons (pe_lst (pa_cons pe_int pa_nil)) (pa_cons (pe_tup (pa_cons pe_int pa_nil)) pa_nil)))))))))) (pg_name (i := 5) sc_law.nd rfl (by first | exact Or.inl rfl | exact Or.inr rfl))
  (pss_one (ps_if (PW.pt (pw_or (pt_cmpR op_ne (pe_callD g_law_asked (hr.mono (by decide)) (by rfl) pass0 (pa_cons pe_int (pa_cons (pv 5) (pa_cons pe_int pa_nil)))) pe_str (nomark _)) (pw_or1 (pt_cmpR op_ne (pe_callD g_law_asked (hr.mono (by decide)) (by rfl) pass0 (pa_cons pe_int (pa_cons pe_int (pa_cons (pv 5) pa_nil)))) pe_str (nomark _))))) (pss_one (ps_ret pe_bl)) pss_nil)))
  (pss_cons (ps_set (i := 6) sc_law.nd rfl (by first | exact Or.inl rfl | exact Or.inr rfl) (pe_lst (pa_cons pe_non (pa_cons (pe_lst pa_nil) (pa_cons (pe_tup (pa_cons pe_int (pa_cons pe_int pa_nil))) (pa_cons pe_str (pa_cons (pe_op op_rep (pe_lst (pa_cons pe_int pa_nil)) pe_int) (pa_cons (pe_lst (pa_cons (pe_op op_sub (pe_un un_neg pe_int) (pv 1)) pa_nil)) (pa_cons (pe_lst (pa_cons pe_int pa_nil)) (pa_cons (pe_lst (pa_cons (pe_op op_add pe_int (pv 1)) pa_nil)) (pa_cons (pe_lst (pa_cons pe_bl pa_nil)) (pa_cons (pe_lst (pa_cons pe_str pa_nil)) (pa_cons (pe_lst (pa_cons pe_int (pa_cons pe_non pa_nil))) pa_nil)))))))))))))
  (pss_cons (ps_if (pt_not (pt_val (pe_callB (cr_all rfl) (by rfl) T.n_all (by decide +kernel) (pa_cons (pe_lc (own := [("_law_some", 9)]) (g := gName 9) (tt := tYes) (te := (tOp (rEq) (tCall (SpR K (c8_asked C_Council C_BadCouncil C_NoMember C_BadWeights)) [] E0 (tCons (tC (.int 3)) (tCons (tVar 9) (tCons (tC (.int 1)) tNil)))) (tC (.str "weights")))) (by exact rfl) sc_law.nd (pi_list (pv 6)) (blkOk_by (N := n_law) (sc := defScope st_law) (own := [("_law_some", 9)]) (by decide +kernel)) (fun _ _ _ _ _ => (pg_name (i := 9) sc_law.nd rfl (by first | exact Or.inl rfl | exact Or.inr rfl))) (fun _ _ _ _ _ => pts_nil) (fun _ _ _ _ _ => (pe_cmpR op_eq (pe_callD g_law_asked (hr.mono (by decide)) (by rfl) pass0 (pa_cons pe_int (pa_cons (pv 9) (pa_cons pe_int pa_nil)))) pe_str (nomark _)))) pa_nil)))) (pss_one (ps_ret pe_bl)) pss_nil)
  (pss_cons (ps_for PassesOwn.never rfl (pi_list (pe_lst (pa_cons (pe_un un_neg pe_int) (pa_cons (pe_op op_sub (pe_un un_neg pe_int) (pv 1)) (pa_cons pe_int (pa_cons (pe_op op_add pe_int (pv 1)) (pa_cons pe_bl (pa_cons pe_str (pa_cons pe_non pa_nil))))))))) (pg_name (i := 7) sc_law.nd rfl (by first | exact Or.inl rfl | exact Or.inr rfl))
  (pss_one (ps_if (pt_cmpR op_ne (pe_callD g_law_asked (hr.mono (by decide)) (by rfl) pass0 (pa_cons pe_int (pa_cons (pe_lst (pa_cons pe_int (pa_cons pe_int pa_nil))) (pa_cons (pv 7) pa_nil)))) pe_str (nomark _)) (pss_one (ps_ret pe_bl)) pss_nil)))
  (pss_cons (ps_set (i := 8) sc_law.nd rfl (by first | exact Or.inl rfl | exact Or.inr rfl) (pe_callD g_weighted (hr.mono (by decide)) (by rfl) passN (pa_cons (pe_op op_rep (pe_lst (pa_cons pe_int pa_nil)) pe_int) (pa_cons pe_int pa_nil))))
  (pss_cons (ps_if (PW.pt (pw_or (pt_cmpR (op_neD (hu64 hr)) (pe_methD0 (pv 8) T.cl_Council g_Council_least (hr.mono (by decide)) pass0) (pe_lst pa_nil) (nomark _)) (pw_or (pt_cmpR (op_neD (hu64 hr)) (pe_methD0 (pv 8) T.cl_Council g_Council_greatest (hr.mono (by decide)) pass0) (pe_lst (pa_cons pe_int pa_nil)) (nomark _)) (pw_or1 (pt_cmpR (op_neD (hu64 hr)) (pe_methD0 (pe_callD g_weighted (hr.mono (by decide)) (by rfl) passN (pa_cons (pe_lst (pa_cons pe_int pa_nil)) (pa_cons pe_int pa_nil))) T.cl_Council g_Council_least (hr.mono (by decide)) pass0) (pe_lst (pa_cons pe_int pa_nil)) (nomark _)))))) (pss_one (ps_ret pe_bl)) pss_nil)
  (pss_one (ps_ret (pe_and (pe_cmpR (op_eqD (hu64 hr)) (pe_methD0 (pe_makeD g_Council_init (hr.mono (by decide)) (by rfl) passN (pa_cons pe_int (pa_cons (pe_op op_rep (pe_lst (pa_cons pe_int pa_nil)) pe_int) pa_nil))) T.cl_Council g_Council_least (hr.mono (by decide)) pass0) (pe_lst (pa_cons pe_int pa_nil)) (nomark _)) (pe_one (pe_cmpR (op_eqD (hu64 hr)) (pe_methD0 (pe_makeD g_Council_init (hr.mono (by decide)) (by rfl) passN (pa_cons pe_int (pa_cons (pe_lst pa_nil) pa_nil))) T.cl_Council g_Council_greatest (hr.mono (by decide)) pass0) (pe_lst (pa_cons pe_int pa_nil)) (nomark _))))))))))))))))), go_of ?_ h⟩
  try dsimp only [L2.cxOf, L2.Cx.nox, L2.Cx.wish, L2.Cx.blk]
  rintro ds r ⟨ns, rfl, -, rfl⟩
  show W K E _ [.fz (.scr ns), .un, .un, .un, .un, .un, .un, .un, .un, .un] _
  refine w_seq (w_asg (d := .int (ns.getD 0 0 % 1000000)) ?_ ?_)
  · walk_at "ev"
  have hm := Int.emod_nonneg (ns.getD 0 0) (show (1000000 : Int) ≠ 0 by decide)
  generalize ns.getD 0 0 % 1000000 = m at hm
  refine w_seq (w_forAll (xs := [.int 0, .int 6, .int (6 + m), .int (-1 - m), .bl true, .str "3", .non, .lst [.int 3]]) [.fz (.scr ns), .fz (.int m), .un, .un, .un, .un, .un, .un, .un, .un] ?_ (Fgt.refl _) (fun d hd => ?_) fun s hs => w_fgt hs ?_)
  · with_reducible apply it_list
    walk_at "ev"
  · have hq : c8_asked C_Council C_BadCouncil C_NoMember C_BadWeights [.int 0, d, .lst []] (.dat (.str "council")) := by
      simp only [List.mem_cons, List.not_mem_nil, or_false] at hd
      refine asked_c (init_m ?_)
      rcases hd with rfl | rfl | rfl | rfl | rfl | rfl | rfl | rfl
      · exact Wi.out (by omega)
      · exact Wi.out (by omega)
      · exact Wi.out (by omega)
      · exact Wi.out (by omega)
      · exact Wi.bl true 1 5
      · exact Wi.no _ _ _ _ (.str _) kit_si
      · exact Wi.no _ _ _ _ .non kit_ni
      · exact Wi.no _ _ _ _ (.lst _) kit_li
    refine w_ifF ?_ (w_next (.keep (.keep (.drop (.keep (.keep (.keep (.keep (.keep (.keep (.keep .nil)))))))))))
    apply et_is
    · walk_at "et"
    · simp
  refine w_seq (w_asg (d := .lst [.non, .tup [.int 1], .str "1", .int 1, .lst [.int (8 + m)], .lst [.int 8], .lst [.int (-1 - m)], .lst [.bl true], .lst [.str "1"], .lst [.non], .lst [.lst [.int 1]], .lst [.int 1, .int 2, .int 8], .emp, .lst [.tup [.int 0]]]) ?_ ?_)
  · walk_at "ev"
  refine w_seq (w_forAll (xs := [.non, .tup [.int 1], .str "1", .int 1, .lst [.int (8 + m)], .lst [.int 8], .lst [.int (-1 - m)], .lst [.bl true], .lst [.str "1"], .lst [.non], .lst [.lst [.int 1]], .lst [.int 1, .int 2, .int 8], .emp, .lst [.tup [.int 0]]]) [.fz (.scr ns), .fz (.int m), .un, .fz (.lst [.non, .tup [.int 1], .str "1", .int 1, .lst [.int (8 + m)], .lst [.int 8], .lst [.int (-1 - m)], .lst [.bl true], .lst [.str "1"], .lst [.non], .lst [.lst [.int 1]], .lst [.int 1, .int 2, .int 8], .emp, .lst [.tup [.int 0]]]), .un, .un, .un, .un, .un, .un] ?_ (Fgt.refl _) (fun d hd => ?_) fun s hs => w_fgt hs ?_)
  · with_reducible apply it_list
    walk_at "ev"
  · have hq : c8_asked C_Council C_BadCouncil C_NoMember C_BadWeights [.int 0, .int 3, d] (.dat (.str "council")) := by
      simp only [List.mem_cons, List.not_mem_nil, or_false] at hd
      refine asked_c ?_
      rcases hd with rfl | rfl | rfl | rfl | rfl | rfl | rfl | rfl | rfl | rfl | rfl | rfl | rfl | rfl
      · exact init_t .non kit_nl
      · exact init_t (.tup _) kit_tl
      · exact init_t (.str _) kit_sl
      · exact init_t (.int _) kit_il
      · exact init_l [(.int (8 + m), false)] (wis1 (Wi.out (by omega)))
      · exact init_l [(.int 8, false)] (wis1 (Wi.out (by omega)))
      · exact init_l [(.int (-1 - m), false)] (wis1 (Wi.out (by omega)))
      · exact init_l [(.bl true, false)] (wis1 (Wi.bl _ _ _))
      · exact init_l [(.str "1", false)] (wis1 (Wi.no _ _ _ _ (.str _) kit_si))
      · exact init_l [(.non, false)] (wis1 (Wi.no _ _ _ _ .non kit_ni))
      · exact init_l [(.lst [.int 1], false)] (wis1 (Wi.no _ _ _ _ (.lst _) kit_li))
      · refine init_l [(.int 1, true), (.int 2, true), (.int 8, false)] ⟨by show 3 ≤ 1000; omega, fun p hp => ?_, rfl⟩
        simp only [List.mem_cons, List.not_mem_nil, or_false] at hp
        rcases hp with rfl | rfl | rfl
        · exact Wi.inn (by omega) (by omega)
        · exact Wi.inn (by omega) (by omega)
        · exact Wi.out (by omega)
      · exact init_t .emp kit_dl
      · exact init_l [(.tup [.int 0], false)] (wis1 (Wi.no _ _ _ _ (.tup _) kit_ti))
    refine w_ifF ?_ (w_next (.keep (.keep (.keep (.keep (.drop (.keep (.keep (.keep (.keep (.keep .nil)))))))))))
    apply et_is
    · walk_at "et"
    · simp
  refine w_seq (w_forAll (xs := [.int 8, .int (8 + m), .int (-1 - m), .bl true, .str "0", .non, .lst [.int 0], .tup [.int 0]]) [.fz (.scr ns), .fz (.int m), .un, .fz (.lst [.non, .tup [.int 1], .str "1", .int 1, .lst [.int (8 + m)], .lst [.int 8], .lst [.int (-1 - m)], .lst [.bl true], .lst [.str "1"], .lst [.non], .lst [.lst [.int 1]], .lst [.int 1, .int 2, .int 8], .emp, .lst [.tup [.int 0]]]), .un, .un, .un, .un, .un, .un] ?_ (Fgt.refl _) (fun d hd => ?_) fun s hs => w_fgt hs ?_)
  · with_reducible apply it_list
    walk_at "ev"
  · have hw : Wi d 0 (8 - 1) false := by
      simp only [List.mem_cons, List.not_mem_nil, or_false] at hd
      rcases hd with rfl | rfl | rfl | rfl | rfl | rfl | rfl | rfl
      · exact Wi.out (by omega)
      · exact Wi.out (by omega)
      · exact Wi.out (by omega)
      · exact Wi.bl _ _ _
      · exact Wi.no _ _ _ _ (.str _) kit_si
      · exact Wi.no _ _ _ _ .non kit_ni
      · exact Wi.no _ _ _ _ (.lst _) kit_li
      · exact Wi.no _ _ _ _ (.tup _) kit_ti
    have hq : c8_asked C_Council C_BadCouncil C_NoMember C_BadWeights [.int 1, d, .non] (.dat (.str "group")) := asked_g hw
    refine w_ifF ?_ (w_next (.keep (.keep (.keep (.keep (.keep (.drop (.keep (.keep (.keep (.keep .nil)))))))))))
    apply et_is
    · walk_at "et"
    · simp
  refine w_seq (w_forAll (xs := [.int 3, .int (3 + m), .int (-1 - m), .bl true, .str "0", .non, .lst [.int 0], .tup [.int 0]]) [.fz (.scr ns), .fz (.int m), .un, .fz (.lst [.non, .tup [.int 1], .str "1", .int 1, .lst [.int (8 + m)], .lst [.int 8], .lst [.int (-1 - m)], .lst [.bl true], .lst [.str "1"], .lst [.non], .lst [.lst [.int 1]], .lst [.int 1, .int 2, .int 8], .emp, .lst [.tup [.int 0]]]), .un, .un, .un, .un, .un, .un] ?_ (Fgt.refl _) (fun d hd => ?_) fun s hs => w_fgt hs ?_)
  · with_reducible apply it_list
    walk_at "ev"
  · have hw : Wi d 0 (3 - 1) false := by
      simp only [List.mem_cons, List.not_mem_nil, or_false] at hd
      rcases hd with rfl | rfl | rfl | rfl | rfl | rfl | rfl | rfl
      · exact Wi.out (by omega)
      · exact Wi.out (by omega)
      · exact Wi.out (by omega)
      · exact Wi.bl _ _ _
      · exact Wi.no _ _ _ _ (.str _) kit_si
      · exact Wi.no _ _ _ _ .non kit_ni
      · exact Wi.no _ _ _ _ (.lst _) kit_li
      · exact Wi.no _ _ _ _ (.tup _) kit_ti
    have hq1 : c8_asked C_Council C_BadCouncil C_NoMember C_BadWeights [.int 2, d, .int 0] (.dat (.str "member")) := asked_m (.inl hw)
    have hq2 : c8_asked C_Council C_BadCouncil C_NoMember C_BadWeights [.int 2, .int 0, d] (.dat (.str "member")) := asked_m (.inr ⟨Wi.inn (by omega) (by omega), hw⟩)
    refine w_ifF ?_ (w_next (.keep (.keep (.keep (.keep (.keep (.drop (.keep (.keep (.keep (.keep .nil)))))))))))
    apply et_is
    · walk_at "et"
    · simp
  refine w_seq (w_asg (d := .lst [.non, .lst [], .tup [.int 1, .int 2], .str "12", .lst [.int 1, .int 1, .int 1, .int 1, .int 1, .int 1], .lst [.int (-1 - m)], .lst [.int 1000001], .lst [.int (1000001 + m)], .lst [.bl true], .lst [.str "1"], .lst [.int 1, .non]]) ?_ ?_)
  · apply EvR.fz
    with_reducible apply ev_lst
    · refine ea_cons (by walk_at "ev") (ea_cons (by walk_at "ev") (ea_cons (by walk_at "ev") (ea_cons (by walk_at "ev") (ea_cons ?_ ?_))))
      · apply EvR.fz
        apply ev_isN
        · with_reducible apply ev_op
          · walk_at "ev"
          · walk_at "ev"
          · exact od_rep (by omega) (by omega) (by show 1 ≤ 1000; omega)
        · rfl
      · walk_at "ea"
    · walk_at "sz"
  have hW : ∀ d, d ∈ ([.non, .lst [], .tup [.int 1, .int 2], .str "12", .lst [.int 1, .int 1, .int 1, .int 1, .int 1, .int 1], .lst [.int (-1 - m)], .lst [.int 1000001], .lst [.int (1000001 + m)], .lst [.bl true], .lst [.str "1"], .lst [.int 1, .non]] : List D) → c8_asked C_Council C_BadCouncil C_NoMember C_BadWeights [.int 3, d, .int 1] (.dat (.str "weights")) := fun d hd => by
    simp only [List.mem_cons, List.not_mem_nil, or_false] at hd
    refine asked_w ?_
    rcases hd with rfl | rfl | rfl | rfl | rfl | rfl | rfl | rfl | rfl | rfl | rfl
    · exact .inl ⟨_, _, _, rfl, .non, kit_nl⟩
    · exact .inr (.inl ⟨_, _, rfl, by decide⟩)
    · exact .inl ⟨_, _, _, rfl, .tup _, kit_tl⟩
    · exact .inl ⟨_, _, _, rfl, .str _, kit_sl⟩
    · exact .inr (.inl ⟨_, _, rfl, by decide⟩)
    · exact .inr (.inr (.inl ⟨[(.int (-1 - m), false)], _, rfl, ⟨by show 1 ≤ 1; omega, by show 1 ≤ 5; omega⟩, wis1 (Wi.out (by omega))⟩))
    · exact .inr (.inr (.inl ⟨[(.int 1000001, false)], _, rfl, ⟨by show 1 ≤ 1; omega, by show 1 ≤ 5; omega⟩, wis1 (Wi.out (by omega))⟩))
    · exact .inr (.inr (.inl ⟨[(.int (1000001 + m), false)], _, rfl, ⟨by show 1 ≤ 1; omega, by show 1 ≤ 5; omega⟩, wis1 (Wi.out (by omega))⟩))
    · exact .inr (.inr (.inl ⟨[(.bl true, false)], _, rfl, ⟨by show 1 ≤ 1; omega, by show 1 ≤ 5; omega⟩, wis1 (Wi.bl _ _ _)⟩))
    · exact .inr (.inr (.inl ⟨[(.str "1", false)], _, rfl, ⟨by show 1 ≤ 1; omega, by show 1 ≤ 5; omega⟩, wis1 (Wi.no _ _ _ _ (.str _) kit_si)⟩))
    · refine .inr (.inr (.inl ⟨[(.int 1, true), (.non, false)], _, rfl, by decide, by show 2 ≤ 1000; omega, fun p hp => ?_, rfl⟩))
      simp only [List.mem_cons, List.not_mem_nil, or_false] at hp
      rcases hp with rfl | rfl
      · exact Wi.inn (by omega) (by omega)
      · exact Wi.no _ _ _ _ .non kit_ni
  refine w_seq (w_ifF ?_ (w_next ?_))
  · refine et_is (a := !(([.non, .lst [], .tup [.int 1, .int 2], .str "12", .lst [.int 1, .int 1, .int 1, .int 1, .int 1, .int 1], .lst [.int (-1 - m)], .lst [.int 1000001], .lst [.int (1000001 + m)], .lst [.bl true], .lst [.str "1"], .lst [.int 1, .non]] : List D).all fun _ => decide (("weights" : Str) = "weights"))) ?_ (by simp)
    apply et_not
    apply et_B
    with_reducible apply ev_cb
    · with_reducible apply ea_cons
      · apply EvR.fz
        with_reducible apply ev_lcM (ys := [.non, .lst [], .tup [.int 1, .int 2], .str "12", .lst [.int 1, .int 1, .int 1, .int 1, .int 1, .int 1], .lst [.int (-1 - m)], .lst [.int 1000001], .lst [.int (1000001 + m)], .lst [.bl true], .lst [.str "1"], .lst [.int 1, .non]]) (c := fun d => d) (v := fun _ => .bl (decide (("weights" : Str) = "weights")))
        · rw [List.map_id']
          with_reducible apply it_list
          walk_at "ev"
        · simp
        · decide
        · intro d hd
          have hq := hW d hd
          walk_at "ev"
      · exact ea_nil
    · exact cb_allM
  refine w_seq (w_forAll (xs := [.int (-1), .int (-1 - m), .int 5000002, .int (5000002 + m), .bl true, .str "1", .non]) [.fz (.scr ns), .fz (.int m), .un, .fz (.lst [.non, .tup [.int 1], .str "1", .int 1, .lst [.int (8 + m)], .lst [.int 8], .lst [.int (-1 - m)], .lst [.bl true], .lst [.str "1"], .lst [.non], .lst [.lst [.int 1]], .lst [.int 1, .int 2, .int 8], .emp, .lst [.tup [.int 0]]]), .un, .un, .fz (.lst [.non, .lst [], .tup [.int 1, .int 2], .str "12", .lst [.int 1, .int 1, .int 1, .int 1, .int 1, .int 1], .lst [.int (-1 - m)], .lst [.int 1000001], .lst [.int (1000001 + m)], .lst [.bl true], .lst [.str "1"], .lst [.int 1, .non]]), .un, .un, .un] ?_ (Fgt.refl _) (fun d hd => ?_) fun s hs => w_fgt hs ?_)
  · with_reducible apply it_list
    walk_at "ev"
  · have hw : Wi d 0 (5 * 1000000 + 1) false := by
      simp only [List.mem_cons, List.not_mem_nil, or_false] at hd
      rcases hd with rfl | rfl | rfl | rfl | rfl | rfl | rfl
      · exact Wi.out (by omega)
      · exact Wi.out (by omega)
      · exact Wi.out (by omega)
      · exact Wi.out (by omega)
      · exact Wi.bl _ _ _
      · exact Wi.no _ _ _ _ (.str _) kit_si
      · exact Wi.no _ _ _ _ .non kit_ni
    have hq : c8_asked C_Council C_BadCouncil C_NoMember C_BadWeights [.int 3, .lst [.int 1, .int 2], d] (.dat (.str "weights")) := asked_w (.inr (.inr (.inr ⟨[1, 2], d, rfl, by decide, by decide, hw⟩)))
    refine w_ifF ?_ (w_next (.keep (.keep (.keep (.keep (.keep (.keep (.keep (.drop (.keep (.keep .nil)))))))))))
    apply et_is
    · walk_at "et"
    · simp
  refine w_seq (w_asg (d := cou C_Council 5 (tabW [1000000, 1000000, 1000000, 1000000, 1000000] 5000001)) ?_ ?_)
  · apply EvR.ofF
    with_reducible apply ev_callG
    · with_reducible apply ea_cons (x := intL [1000000, 1000000, 1000000, 1000000, 1000000])
      · apply EvR.fz
        apply ev_isN
        · with_reducible apply ev_op
          · walk_at "ev"
          · walk_at "ev"
          · exact od_rep (by omega) (by omega) (by show 1 ≤ 1000; omega)
        · rfl
      · walk_at "ea"
    · exact .inl (R2'.mk (c := intL) (d := D.int) (x := [1000000, 1000000, 1000000, 1000000, 1000000]) (y := 5000001) (by decide))
    · walk_at "ne"
  have t1 : tabW [1000000, 1000000, 1000000, 1000000, 1000000] 5000001 = List.replicate 32 false := by decide +kernel
  have hz : c8_weighted C_Council C_BadWeights [.lst [.int 0], .int 0] (.frs (cou C_Council 1 (tabW [0] 0))) := .inl (R2'.mk (c := intL) (d := D.int) (x := [0]) (y := 0) (by decide))
  have t2 : tabW [0] 0 = [true, true] := by decide +kernel
  have hg : c_Council_greatest C_Council [cou C_Council 5 (List.replicate 32 false)] (.new ((greatM (List.replicate 32 false)).map nat)) := RC1.mk (by decide)
  have hl : c_Council_least C_Council [cou C_Council 5 (List.replicate 32 false)] (.new ((leastM (List.replicate 32 false)).map nat)) := RC1.mk (by decide)
  have hl2 : c_Council_least C_Council [cou C_Council 1 [true, true]] (.new ((leastM [true, true]).map nat)) := RC1.mk (by decide)
  rw [t1]
  rw [t2] at hz
  refine w_seq (w_ifF ?_ (w_next ?_))
  · refine et_is (a := !decide (leastM (List.replicate 32 false) = []) || (!decide (greatM (List.replicate 32 false) = [31]) || !decide (leastM [true, true] = [0]))) ?_ (by decide +kernel)
    refine et_or ?_ fun _ => et_or ?_ fun _ => ?_
    · apply et_test
      with_reducible apply ev_op
      · walk_at "ev"
      · walk_at "ev"
      · exact od_neN (ms := [])
    · apply et_test
      with_reducible apply ev_op
      · walk_at "ev"
      · walk_at "ev"
      · exact od_neN (ms := [31])
    · apply et_test
      with_reducible apply ev_op
      · walk_at "ev"
      · walk_at "ev"
      · exact od_neN (ms := [0])
  have hc5 : c8_init C_BadCouncil [.int 5, .lst (List.replicate 40 (.int 31))] (.ok ["members", "table"] [nat 5, blL (tab 5 (List.replicate 40 31))]) := .inl (c_Council_init.mk (n := 5) (gs := List.replicate 40 31) (by decide) (by decide) (by decide) (by decide))
  have hc1 : c8_init C_BadCouncil [.int 1, .lst []] (.ok ["members", "table"] [nat 1, blL (tab 1 [])]) := .inl (c_Council_init.mk (n := 1) (gs := []) (by decide) (by decide) (by decide) (by decide))
  have hl5 : c_Council_least C_Council [cou C_Council 5 (tab 5 (List.replicate 40 31))] (.new ((leastM (tab 5 (List.replicate 40 31))).map nat)) := RC1.mk (by decide +kernel)
  have hg1 : c_Council_greatest C_Council [cou C_Council 1 (tab 1 [])] (.new ((greatM (tab 1 [])).map nat)) := RC1.mk (by decide)
  refine w_ret (r := .dat (.bl true)) ?_ rfl
  refine ev_is (d := .bl (decide (leastM (tab 5 (List.replicate 40 31)) = [31]) && decide (greatM (tab 1 []) = [1]))) ?_ (congrArg D.bl (by decide +kernel))
  with_reducible apply ev_andV
  · with_reducible apply ev_op
    · apply EvR.fz
      with_reducible apply ev_methG
      · apply EvR.ofF
        with_reducible apply ev_make
        · with_reducible apply ea_cons
          · walk_at "ev"
          · with_reducible apply ea_cons (x := .lst (List.replicate 40 (.int 31)))
            · apply EvR.fz
              apply ev_isN
              · with_reducible apply ev_op
                · walk_at "ev"
                · walk_at "ev"
                · exact od_rep (by omega) (by omega) (by show 1 ≤ 1000; omega)
              · rfl
            · exact ea_nil
        · exact hc5
      · decide +kernel
      · exact ea_nil
      · exact hl5
      · walk_at "ne"
    · walk_at "ev"
    · exact od_eqN (ms := [31])
  · intro _
    with_reducible apply ev_op
    · walk_at "ev"
    · walk_at "ev"
    · exact od_eqN (ms := [1])
end
theorem txt_mk {K : PySem.W.Frag} {mg : Str → Option Value} {h : Heap} {C_Council C_CouncilError C_BadCouncil C_BadGroup C_NoMember C_Unlike C_BadWeights C_BadText : Addr} {t_MOST t_GREATEST : Tok} (X : K.In h) (G : h.Ns mainGlobals mg)
    (n_all : PySem.W.nsIn K mainGlobals "all" = some none)
    (n_any : PySem.W.nsIn K mainGlobals "any" = some none)
    (n_bool : PySem.W.nsIn K mainGlobals "bool" = some none)
    (n_int : PySem.W.nsIn K mainGlobals "int" = some none)
    (n_isinstance : PySem.W.nsIn K mainGlobals "isinstance" = some none)
    (n_len : PySem.W.nsIn K mainGlobals "len" = some none)
    (n_list : PySem.W.nsIn K mainGlobals "list" = some none)
    (n_range : PySem.W.nsIn K mainGlobals "range" = some none)
    (n_sum : PySem.W.nsIn K mainGlobals "sum" = some none)
    (n_ValueError : PySem.W.nsIn K mainGlobals "ValueError" = some none)
    (c_MOST : PySem.W.nsIn K mainGlobals "MOST" = some (some (.int 5 t_MOST)))
    (c_GREATEST : PySem.W.nsIn K mainGlobals "GREATEST" = some (some (.int 1000000 t_GREATEST)))
    (g_Council : PySem.W.nsIn K mainGlobals "Council" = some (some (.ref C_Council)))
    (pg_Council : PySem.W.plainGet K C_Council Str.empty = true)
    (hd_Council : PySem.W.hasDictIn K C_Council = true)
    (po_Council : PySem.W.plainOver K C_Council = true)
    (sa_Council : PySem.W.findIn K (.ref C_Council) "__setattr__" = some (some (.builtin "object.__setattr__")))
    (na_Council_members : PySem.W.findIn K (.ref C_Council) "members" = some none)
    (na_Council_table : PySem.W.findIn K (.ref C_Council) "table" = some none)
    (xg_CouncilError : PySem.W.nsIn K mainGlobals "CouncilError" = some (some (.ref C_CouncilError)))
    (xq_CouncilError : PySem.W.excIn K C_CouncilError [.type "ValueError", .type "Exception", .type "BaseException", .type "object"] "ValueError.__new__" = true)
    (xk_CouncilError : PySem.W.keepIn K (.ref C_CouncilError) = true)
    (xs_CouncilError : PySem.W.subIn K (.ref C_CouncilError) (.type "BaseException") = some true)
    (xt_CouncilError : PySem.W.typeIn K (.ref C_CouncilError) = some (.type "type"))
    (xg_BadCouncil : PySem.W.nsIn K mainGlobals "BadCouncil" = some (some (.ref C_BadCouncil)))
    (xq_BadCouncil : PySem.W.excIn K C_BadCouncil [.type "ValueError", .type "Exception", .type "BaseException", .type "object"] "ValueError.__new__" = true)
    (xk_BadCouncil : PySem.W.keepIn K (.ref C_BadCouncil) = true)
    (xs_BadCouncil : PySem.W.subIn K (.ref C_BadCouncil) (.type "BaseException") = some true)
    (xt_BadCouncil : PySem.W.typeIn K (.ref C_BadCouncil) = some (.type "type"))
    (xg_BadGroup : PySem.W.nsIn K mainGlobals "BadGroup" = some (some (.ref C_BadGroup)))
    (xq_BadGroup : PySem.W.excIn K C_BadGroup [.type "ValueError", .type "Exception", .type "BaseException", .type "object"] "ValueError.__new__" = true)
    (xk_BadGroup : PySem.W.keepIn K (.ref C_BadGroup) = true)
    (xs_BadGroup : PySem.W.subIn K (.ref C_BadGroup) (.type "BaseException") = some true)
    (xt_BadGroup : PySem.W.typeIn K (.ref C_BadGroup) = some (.type "type"))
    (xg_NoMember : PySem.W.nsIn K mainGlobals "NoMember" = some (some (.ref C_NoMember)))
    (xq_NoMember : PySem.W.excIn K C_NoMember [.type "ValueError", .type "Exception", .type "BaseException", .type "object"] "ValueError.__new__" = true)
    (xk_NoMember : PySem.W.keepIn K (.ref C_NoMember) = true)
    (xs_NoMember : PySem.W.subIn K (.ref C_NoMember) (.type "BaseException") = some true)
    (xt_NoMember : PySem.W.typeIn K (.ref C_NoMember) = some (.type "type"))
    (xg_Unlike : PySem.W.nsIn K mainGlobals "Unlike" = some (some (.ref C_Unlike)))
    (xq_Unlike : PySem.W.excIn K C_Unlike [.type "ValueError", .type "Exception", .type "BaseException", .type "object"] "ValueError.__new__" = true)
    (xk_Unlike : PySem.W.keepIn K (.ref C_Unlike) = true)
    (xs_Unlike : PySem.W.subIn K (.ref C_Unlike) (.type "BaseException") = some true)
    (xt_Unlike : PySem.W.typeIn K (.ref C_Unlike) = some (.type "type"))
    (xg_BadWeights : PySem.W.nsIn K mainGlobals "BadWeights" = some (some (.ref C_BadWeights)))
    (xq_BadWeights : PySem.W.excIn K C_BadWeights [.type "ValueError", .type "Exception", .type "BaseException", .type "object"] "ValueError.__new__" = true)
    (xk_BadWeights : PySem.W.keepIn K (.ref C_BadWeights) = true)
    (xs_BadWeights : PySem.W.subIn K (.ref C_BadWeights) (.type "BaseException") = some true)
    (xt_BadWeights : PySem.W.typeIn K (.ref C_BadWeights) = some (.type "type"))
    (xg_BadText : PySem.W.nsIn K mainGlobals "BadText" = some (some (.ref C_BadText)))
    (xq_BadText : PySem.W.excIn K C_BadText [.type "ValueError", .type "Exception", .type "BaseException", .type "object"] "ValueError.__new__" = true)
    (xk_BadText : PySem.W.keepIn K (.ref C_BadText) = true)
    (xs_BadText : PySem.W.subIn K (.ref C_BadText) (.type "BaseException") = some true)
    (xt_BadText : PySem.W.typeIn K (.ref C_BadText) = some (.type "type"))
    (yg_BadCouncil : PySem.W.findIn K (.ref C_BadCouncil) "__getattribute__" = some (some (.builtin "BaseException.__getattribute__")))
    (yk_BadCouncil : PySem.W.findIn K (.ref C_BadCouncil) "__getattr__" = some none)
    (yd_BadCouncil : PySem.W.hasDictIn K C_BadCouncil = true)
    (ya_BadCouncil : PySem.W.findIn K (.ref C_BadCouncil) "__class__" = some (some (.builtin "object.__class__")))
    (yn_BadCouncil : PySem.W.specialIn K (.builtin "object.__class__") "__get__" = some (some (.builtin "getset_descriptor.__get__")))
    (yt_BadCouncil : PySem.W.takesIn K (.builtin "object.__class__") = some true)
    (ym_BadCouncil : PySem.W.mroIn K C_BadCouncil (.type "object") = some true)
    (yg_BadGroup : PySem.W.findIn K (.ref C_BadGroup) "__getattribute__" = some (some (.builtin "BaseException.__getattribute__")))
    (yk_BadGroup : PySem.W.findIn K (.ref C_BadGroup) "__getattr__" = some none)
    (yd_BadGroup : PySem.W.hasDictIn K C_BadGroup = true)
    (ya_BadGroup : PySem.W.findIn K (.ref C_BadGroup) "__class__" = some (some (.builtin "object.__class__")))
    (yn_BadGroup : PySem.W.specialIn K (.builtin "object.__class__") "__get__" = some (some (.builtin "getset_descriptor.__get__")))
    (yt_BadGroup : PySem.W.takesIn K (.builtin "object.__class__") = some true)
    (ym_BadGroup : PySem.W.mroIn K C_BadGroup (.type "object") = some true)
    (yg_NoMember : PySem.W.findIn K (.ref C_NoMember) "__getattribute__" = some (some (.builtin "BaseException.__getattribute__")))
    (yk_NoMember : PySem.W.findIn K (.ref C_NoMember) "__getattr__" = some none)
    (yd_NoMember : PySem.W.hasDictIn K C_NoMember = true)
    (ya_NoMember : PySem.W.findIn K (.ref C_NoMember) "__class__" = some (some (.builtin "object.__class__")))
    (yn_NoMember : PySem.W.specialIn K (.builtin "object.__class__") "__get__" = some (some (.builtin "getset_descriptor.__get__")))
    (yt_NoMember : PySem.W.takesIn K (.builtin "object.__class__") = some true)
    (ym_NoMember : PySem.W.mroIn K C_NoMember (.type "object") = some true)
    (yg_BadWeights : PySem.W.findIn K (.ref C_BadWeights) "__getattribute__" = some (some (.builtin "BaseException.__getattribute__")))
    (yk_BadWeights : PySem.W.findIn K (.ref C_BadWeights) "__getattr__" = some none)
    (yd_BadWeights : PySem.W.hasDictIn K C_BadWeights = true)
    (ya_BadWeights : PySem.W.findIn K (.ref C_BadWeights) "__class__" = some (some (.builtin "object.__class__")))
    (yn_BadWeights : PySem.W.specialIn K (.builtin "object.__class__") "__get__" = some (some (.builtin "getset_descriptor.__get__")))
    (yt_BadWeights : PySem.W.takesIn K (.builtin "object.__class__") = some true)
    (ym_BadWeights : PySem.W.mroIn K C_BadWeights (.type "object") = some true)
    (zh_CouncilError : PySem.W.hasDictIn K C_CouncilError = true)
    (zs_BadCouncil : PySem.W.subIn K (.ref C_BadCouncil) (.ref C_CouncilError) = some true)
    (zs_BadGroup : PySem.W.subIn K (.ref C_BadGroup) (.ref C_CouncilError) = some true)
    (zs_NoMember : PySem.W.subIn K (.ref C_NoMember) (.ref C_CouncilError) = some true)
    (zs_BadWeights : PySem.W.subIn K (.ref C_BadWeights) (.ref C_CouncilError) = some true)
    (ki_BadCouncil_BadCouncil : PySem.W.kitOne K (.ref C_BadCouncil) (.ref C_BadCouncil) = some true)
    (ki_BadCouncil_BadGroup : PySem.W.kitOne K (.ref C_BadCouncil) (.ref C_BadGroup) = some false)
    (ki_BadCouncil_NoMember : PySem.W.kitOne K (.ref C_BadCouncil) (.ref C_NoMember) = some false)
    (ki_BadCouncil_BadWeights : PySem.W.kitOne K (.ref C_BadCouncil) (.ref C_BadWeights) = some false)
    (ki_BadCouncil_Unlike : PySem.W.kitOne K (.ref C_BadCouncil) (.ref C_Unlike) = some false)
    (ki_BadCouncil_BadText : PySem.W.kitOne K (.ref C_BadCouncil) (.ref C_BadText) = some false)
    (ki_BadCouncil_VE : PySem.W.kitOne K (.ref C_BadCouncil) (.type "ValueError") = some true)
    (ki_BadGroup_BadCouncil : PySem.W.kitOne K (.ref C_BadGroup) (.ref C_BadCouncil) = some false)
    (ki_BadGroup_BadGroup : PySem.W.kitOne K (.ref C_BadGroup) (.ref C_BadGroup) = some true)
    (ki_BadGroup_NoMember : PySem.W.kitOne K (.ref C_BadGroup) (.ref C_NoMember) = some false)
    (ki_BadGroup_BadWeights : PySem.W.kitOne K (.ref C_BadGroup) (.ref C_BadWeights) = some false)
    (ki_BadGroup_Unlike : PySem.W.kitOne K (.ref C_BadGroup) (.ref C_Unlike) = some false)
    (ki_BadGroup_BadText : PySem.W.kitOne K (.ref C_BadGroup) (.ref C_BadText) = some false)
    (ki_BadGroup_VE : PySem.W.kitOne K (.ref C_BadGroup) (.type "ValueError") = some true)
    (ki_NoMember_BadCouncil : PySem.W.kitOne K (.ref C_NoMember) (.ref C_BadCouncil) = some false)
    (ki_NoMember_BadGroup : PySem.W.kitOne K (.ref C_NoMember) (.ref C_BadGroup) = some false)
    (ki_NoMember_NoMember : PySem.W.kitOne K (.ref C_NoMember) (.ref C_NoMember) = some true)
    (ki_NoMember_BadWeights : PySem.W.kitOne K (.ref C_NoMember) (.ref C_BadWeights) = some false)
    (ki_NoMember_Unlike : PySem.W.kitOne K (.ref C_NoMember) (.ref C_Unlike) = some false)
    (ki_NoMember_BadText : PySem.W.kitOne K (.ref C_NoMember) (.ref C_BadText) = some false)
    (ki_NoMember_VE : PySem.W.kitOne K (.ref C_NoMember) (.type "ValueError") = some true)
    (ki_BadWeights_BadCouncil : PySem.W.kitOne K (.ref C_BadWeights) (.ref C_BadCouncil) = some false)
    (ki_BadWeights_BadGroup : PySem.W.kitOne K (.ref C_BadWeights) (.ref C_BadGroup) = some false)
    (ki_BadWeights_NoMember : PySem.W.kitOne K (.ref C_BadWeights) (.ref C_NoMember) = some false)
    (ki_BadWeights_BadWeights : PySem.W.kitOne K (.ref C_BadWeights) (.ref C_BadWeights) = some true)
    (ki_BadWeights_Unlike : PySem.W.kitOne K (.ref C_BadWeights) (.ref C_Unlike) = some false)
    (ki_BadWeights_BadText : PySem.W.kitOne K (.ref C_BadWeights) (.ref C_BadText) = some false)
    (ki_BadWeights_VE : PySem.W.kitOne K (.ref C_BadWeights) (.type "ValueError") = some true) : Txt K mg C_Council C_CouncilError C_BadCouncil C_BadGroup C_NoMember C_Unlike C_BadWeights C_BadText :=
  ⟨PySem.W.mg_none_of X G n_all, PySem.W.mg_none_of X G n_any, PySem.W.mg_none_of X G n_bool, PySem.W.mg_none_of X G n_int, PySem.W.mg_none_of X G n_isinstance, PySem.W.mg_none_of X G n_len, PySem.W.mg_none_of X G n_list, PySem.W.mg_none_of X G n_range, PySem.W.mg_none_of X G n_sum, PySem.W.mg_none_of X G n_ValueError, ⟨t_MOST, PySem.W.mg_of X G c_MOST⟩, ⟨t_GREATEST, PySem.W.mg_of X G c_GREATEST⟩, PySem.W.mg_of X G g_Council, ⟨pg_Council, hd_Council, po_Council, sa_Council⟩, na_Council_members, na_Council_table, ⟨PySem.W.mg_of X G xg_CouncilError, xq_CouncilError, xk_CouncilError, xs_CouncilError, xt_CouncilError⟩, ⟨PySem.W.mg_of X G xg_BadCouncil, xq_BadCouncil, xk_BadCouncil, xs_BadCouncil, xt_BadCouncil⟩, ⟨PySem.W.mg_of X G xg_BadGroup, xq_BadGroup, xk_BadGroup, xs_BadGroup, xt_BadGroup⟩, ⟨PySem.W.mg_of X G xg_NoMember, xq_NoMember, xk_NoMember, xs_NoMember, xt_NoMember⟩, ⟨PySem.W.mg_of X G xg_Unlike, xq_Unlike, xk_Unlike, xs_Unlike, xt_Unlike⟩, ⟨PySem.W.mg_of X G xg_BadWeights, xq_BadWeights, xk_BadWeights, xs_BadWeights, xt_BadWeights⟩, ⟨PySem.W.mg_of X G xg_BadText, xq_BadText, xk_BadText, xs_BadText, xt_BadText⟩, ⟨yg_BadCouncil, yk_BadCouncil, xs_BadCouncil, yd_BadCouncil, ya_BadCouncil, yn_BadCouncil, yt_BadCouncil, ym_BadCouncil⟩, ⟨yg_BadGroup, yk_BadGroup, xs_BadGroup, yd_BadGroup, ya_BadGroup, yn_BadGroup, yt_BadGroup, ym_BadGroup⟩, ⟨yg_NoMember, yk_NoMember, xs_NoMember, yd_NoMember, ya_NoMember, yn_NoMember, yt_NoMember, ym_NoMember⟩, ⟨yg_BadWeights, yk_BadWeights, xs_BadWeights, yd_BadWeights, ya_BadWeights, yn_BadWeights, yt_BadWeights, ym_BadWeights⟩, PySem.W.exm_ref xs_CouncilError zh_CouncilError xt_CouncilError zs_BadCouncil, PySem.W.exm_ref xs_CouncilError zh_CouncilError xt_CouncilError zs_BadGroup, PySem.W.exm_ref xs_CouncilError zh_CouncilError xt_CouncilError zs_NoMember, PySem.W.exm_ref xs_CouncilError zh_CouncilError xt_CouncilError zs_BadWeights, ki_BadCouncil_BadCouncil, ki_BadCouncil_BadGroup, ki_BadCouncil_NoMember, ki_BadCouncil_BadWeights, ki_BadCouncil_Unlike, ki_BadCouncil_BadText, ki_BadCouncil_VE, ki_BadGroup_BadCouncil, ki_BadGroup_BadGroup, ki_BadGroup_NoMember, ki_BadGroup_BadWeights, ki_BadGroup_Unlike, ki_BadGroup_BadText, ki_BadGroup_VE, ki_NoMember_BadCouncil, ki_NoMember_BadGroup, ki_NoMember_NoMember, ki_NoMember_BadWeights, ki_NoMember_Unlike, ki_NoMember_BadText, ki_NoMember_VE, ki_BadWeights_BadCouncil, ki_BadWeights_BadGroup, ki_BadWeights_NoMember, ki_BadWeights_BadWeights, ki_BadWeights_Unlike, ki_BadWeights_BadText, ki_BadWeights_VE⟩
theorem all_ok {l : PySem.W.OpenLaw} {w : World} {K : PySem.W.Frag} {mg : Str → Option Value} {fa : Addr} {C_Council C_CouncilError C_BadCouncil C_BadGroup C_NoMember C_Unlike C_BadWeights C_BadText : Addr} (T : Txt K mg C_Council C_CouncilError C_BadCouncil C_BadGroup C_NoMember C_Unlike C_BadWeights C_BadText) (hfa : mg "law" = some (.ref fa))
    (h_law_cell_at : FnAt K mg "_law_cell_at" st_law_cell_at p_law_cell_at)
    (h_within : FnAt K mg "within" st_within p_within)
    (h_holds_all : FnAt K mg "holds_all" st_holds_all p_holds_all)
    (h_Council_init : MkAt K mg "Council" C_Council "Council.__init__" st_Council_init p_Council_init)
    (h_Council_carries : MtAt K C_Council "carries" "Council.carries" st_Council_carries p_Council_carries)
    (h_Council_member : MtAt K C_Council "member" "Council.member" st_Council_member p_Council_member)
    (h_group_against : FnAt K mg "group_against" st_group_against p_group_against)
    (h_stands : FnAt K mg "stands" st_stands p_stands)
    (h_check_weights : FnAt K mg "check_weights" st_check_weights p_check_weights)
    (h_weight_of : FnAt K mg "weight_of" st_weight_of p_weight_of)
    (h_weighted : FnAt K mg "weighted" st_weighted p_weighted)
    (h_law_sort : FnAt K mg "_law_sort" st_law_sort p_law_sort)
    (h_law_asked : FnAt K mg "_law_asked" st_law_asked p_law_asked)
    (h_without_one : FnAt K mg "without_one" st_without_one p_without_one)
    (h_Council_least : MtAt K C_Council "least" "Council.least" st_Council_least p_Council_least)
    (h_Council_greatest : MtAt K C_Council "greatest" "Council.greatest" st_Council_greatest p_Council_greatest)
    (h_law : LawAt K mg st_law) :
    ∃ fd : FuncData, (∀ (s : Shared) (v : Value), BindsTo s fd ⟨[v], []⟩ [("_law_script", v)]) ∧ ∀ base : Heap, K.In base → base.Ns mainGlobals mg → FnOk l.prog w K mg base CX0 6 fa fd ["_law_script"] (SpR K c_law) := by
  obtain ⟨f, fd, e, F, hb⟩ := h_law
  have e2 := hfa.symm.trans e
  cases e2
  refine ⟨fd, fun s v => .of_eq (hb v), fun base _ _ => ?_⟩
  have g_law_cell_at : OkD l.prog w K mg base CX0 1 "_law_cell_at" p_law_cell_at (SpR K c_law_cell_at) := okD h_law_cell_at fun f fd F => ok_law_cell_at F T
  have g_within : OkD l.prog w K mg base CX0 1 "within" p_within (SpR K c_within) := okD h_within fun f fd F => ok_within F T
  have g_holds_all : OkD l.prog w K mg base CX0 1 "holds_all" p_holds_all (SpR K c_holds_all) := okD h_holds_all fun f fd F => ok_holds_all F T
  have g_Council_init : OkI l.prog w K mg base (L2N.CX l.prog w) 2 "Council" C_Council p_Council_init (SpI K C_Council (c8_init C_BadCouncil)) := okI h_Council_init fun f fd F => ok_Council_init F T g_within g_holds_all
  have g_Council_carries : OkM l.prog w K mg base (L2N.CX l.prog w) 2 C_Council "carries" p_Council_carries (SpR K (c8_carries C_Council C_BadGroup)) := okM h_Council_carries fun f fd F => ok_Council_carries F T g_within
  have g_Council_member : OkM l.prog w K mg base (L2N.CX l.prog w) 2 C_Council "member" p_Council_member (SpR K (c8_member C_Council C_NoMember)) := okM h_Council_member fun f fd F => ok_Council_member F T g_within
  have g_group_against : OkD l.prog w K mg base (L2N.CX l.prog w) 3 "group_against" p_group_against (SpR K (c8_against C_Council C_NoMember)) := okD h_group_against fun f fd F => ok_group_against F T g_Council_member g_Council_carries
  have g_stands : OkD l.prog w K mg base (L2N.CX l.prog w) 4 "stands" p_stands (SpR K (c8_against C_Council C_NoMember)) := okD h_stands fun f fd F => ok_stands F T g_group_against
  have g_check_weights : OkD l.prog w K mg base (L2N.CX l.prog w) 2 "check_weights" p_check_weights (SpR K (c8_check C_BadWeights)) := okD h_check_weights fun f fd F => ok_check_weights F T g_within
  have g_weight_of : OkD l.prog w K mg base CX0 1 "weight_of" p_weight_of (SpR K c_weight_of) := okD h_weight_of fun f fd F => ok_weight_of F T
  have g_weighted : OkD l.prog w K mg base (L2N.CX l.prog w) 4 "weighted" p_weighted (SpR K (c8_weighted C_Council C_BadWeights)) := okD h_weighted fun f fd F => ok_weighted F T g_check_weights g_weight_of g_Council_init
  have g_law_sort : OkE l.prog w K mg base 1 "_law_sort" p_law_sort (fun U a => SpR K (c8_sort C_BadCouncil C_BadGroup C_NoMember C_BadWeights U a)) := okE h_law_sort fun f fd F => ok_law_sort F T
  have g_law_asked : OkD l.prog w K mg base CX0 5 "_law_asked" p_law_asked (SpR K (c8_asked C_Council C_BadCouncil C_NoMember C_BadWeights)) := okD h_law_asked fun f fd F => ok_law_asked F T g_Council_init g_Council_carries g_stands g_weighted g_law_sort
  have g_without_one : OkD l.prog w K mg base CX0 1 "without_one" p_without_one (SpR K c_without_one) := okD h_without_one fun f fd F => ok_without_one F T
  have g_Council_least : OkM l.prog w K mg base CX0 2 C_Council "least" p_Council_least (SpR K (c_Council_least C_Council)) := okM h_Council_least fun f fd F => ok_Council_least F T g_without_one
  have g_Council_greatest : OkM l.prog w K mg base CX0 2 C_Council "greatest" p_Council_greatest (SpR K (c_Council_greatest C_Council)) := okM h_Council_greatest fun f fd F => ok_Council_greatest F T g_without_one
  exact ok_law F T g_law_cell_at g_law_asked g_weighted g_Council_least g_Council_greatest g_Council_init
end Wv

open PySem PySem.W PyProof.Rows in
set_option maxRecDepth 100000 in
set_option maxHeartbeats 0 in
theorem PySem.Challenge.cw_weighvote_k08_refused_holds : PySem.Challenge.rw_weighvote_k08_refused.Holds := by
  w_on; o_law; k_head; (case hw => w_witness2)
  k_fill
  refine Wv.walk (l := PySem.Challenge.rw_weighvote_k08_refused) (k := 6) rfl rfl ⟨rfl, by decide, by decide⟩ (fun w h Y => PySem.W.kIn_of Y) ?F
  case F =>
    intro w mg fa h KX G hmg
    refine' Wv.all_ok (l := PySem.Challenge.rw_weighvote_k08_refused) ?T hmg ?h_law_cell_at ?h_within ?h_holds_all ?h_Council_init ?h_Council_carries ?h_Council_member ?h_group_against ?h_stands ?h_check_weights ?h_weight_of ?h_weighted ?h_law_sort ?h_law_asked ?h_without_one ?h_Council_least ?h_Council_greatest ?h_law
    case T =>
      refine' Wv.txt_mk KX G ?n_all ?n_any ?n_bool ?n_int ?n_isinstance ?n_len ?n_list ?n_range ?n_sum ?n_ValueError ?c_MOST ?c_GREATEST ?g_Council ?pg_Council ?hd_Council ?po_Council ?sa_Council ?na_Council_members ?na_Council_table ?xg_CouncilError ?xq_CouncilError ?xk_CouncilError ?xs_CouncilError ?xt_CouncilError ?xg_BadCouncil ?xq_BadCouncil ?xk_BadCouncil ?xs_BadCouncil ?xt_BadCouncil ?xg_BadGroup ?xq_BadGroup ?xk_BadGroup ?xs_BadGroup ?xt_BadGroup ?xg_NoMember ?xq_NoMember ?xk_NoMember ?xs_NoMember ?xt_NoMember ?xg_Unlike ?xq_Unlike ?xk_Unlike ?xs_Unlike ?xt_Unlike ?xg_BadWeights ?xq_BadWeights ?xk_BadWeights ?xs_BadWeights ?xt_BadWeights ?xg_BadText ?xq_BadText ?xk_BadText ?xs_BadText ?xt_BadText ?yg_BadCouncil ?yk_BadCouncil ?yd_BadCouncil ?ya_BadCouncil ?yn_BadCouncil ?yt_BadCouncil ?ym_BadCouncil ?yg_BadGroup ?yk_BadGroup ?yd_BadGroup ?ya_BadGroup ?yn_BadGroup ?yt_BadGroup ?ym_BadGroup ?yg_NoMember ?yk_NoMember ?yd_NoMember ?ya_NoMember ?yn_NoMember ?yt_NoMember ?ym_NoMember ?yg_BadWeights ?yk_BadWeights ?yd_BadWeights ?ya_BadWeights ?yn_BadWeights ?yt_BadWeights ?ym_BadWeights ?zh_CouncilError ?zs_BadCouncil ?zs_BadGroup ?zs_NoMember ?zs_BadWeights ?ki_BadCouncil_BadCouncil ?ki_BadCouncil_BadGroup ?ki_BadCouncil_NoMember ?ki_BadCouncil_BadWeights ?ki_BadCouncil_Unlike ?ki_BadCouncil_BadText ?ki_BadCouncil_VE ?ki_BadGroup_BadCouncil ?ki_BadGroup_BadGroup ?ki_BadGroup_NoMember ?ki_BadGroup_BadWeights ?ki_BadGroup_Unlike ?ki_BadGroup_BadText ?ki_BadGroup_VE ?ki_NoMember_BadCouncil ?ki_NoMember_BadGroup ?ki_NoMember_NoMember ?ki_NoMember_BadWeights ?ki_NoMember_Unlike ?ki_NoMember_BadText ?ki_NoMember_VE ?ki_BadWeights_BadCouncil ?ki_BadWeights_BadGroup ?ki_BadWeights_NoMember ?ki_BadWeights_BadWeights ?ki_BadWeights_Unlike ?ki_BadWeights_BadText ?ki_BadWeights_VE
      (case n_all => k_is)
      (case n_any => k_is)
      (case n_bool => k_is)
      (case n_int => k_is)
      (case n_isinstance => k_is)
      (case n_len => k_is)
      (case n_list => k_is)
      (case n_range => k_is)
      (case n_sum => k_is)
      (case n_ValueError => k_is)
      (case c_MOST => k_is)
      (case c_GREATEST => k_is)
      (case g_Council => k_is)
      (case pg_Council => k_is)
      (case hd_Council => k_is)
      (case po_Council => k_is)
      (case sa_Council => k_is)
      (case na_Council_members => k_is)
      (case na_Council_table => k_is)
      (case xg_CouncilError => k_is)
      (case xq_CouncilError => k_exc)
      (case xk_CouncilError => k_is)
      (case xs_CouncilError => k_is)
      (case xt_CouncilError => k_is)
      (case xg_BadCouncil => k_is)
      (case xq_BadCouncil => k_exc)
      (case xk_BadCouncil => k_is)
      (case xs_BadCouncil => k_is)
      (case xt_BadCouncil => k_is)
      (case xg_BadGroup => k_is)
      (case xq_BadGroup => k_exc)
      (case xk_BadGroup => k_is)
      (case xs_BadGroup => k_is)
      (case xt_BadGroup => k_is)
      (case xg_NoMember => k_is)
      (case xq_NoMember => k_exc)
      (case xk_NoMember => k_is)
      (case xs_NoMember => k_is)
      (case xt_NoMember => k_is)
      (case xg_Unlike => k_is)
      (case xq_Unlike => k_exc)
      (case xk_Unlike => k_is)
      (case xs_Unlike => k_is)
      (case xt_Unlike => k_is)
      (case xg_BadWeights => k_is)
      (case xq_BadWeights => k_exc)
      (case xk_BadWeights => k_is)
      (case xs_BadWeights => k_is)
      (case xt_BadWeights => k_is)
      (case xg_BadText => k_is)
      (case xq_BadText => k_exc)
      (case xk_BadText => k_is)
      (case xs_BadText => k_is)
      (case xt_BadText => k_is)
      (case yg_BadCouncil => k_is)
      (case yk_BadCouncil => k_is)
      (case yd_BadCouncil => k_is)
      (case ya_BadCouncil => k_is)
      (case yn_BadCouncil => k_is)
      (case yt_BadCouncil => k_is)
      (case ym_BadCouncil => k_is)
      (case yg_BadGroup => k_is)
      (case yk_BadGroup => k_is)
      (case yd_BadGroup => k_is)
      (case ya_BadGroup => k_is)
      (case yn_BadGroup => k_is)
      (case yt_BadGroup => k_is)
      (case ym_BadGroup => k_is)
      (case yg_NoMember => k_is)
      (case yk_NoMember => k_is)
      (case yd_NoMember => k_is)
      (case ya_NoMember => k_is)
      (case yn_NoMember => k_is)
      (case yt_NoMember => k_is)
      (case ym_NoMember => k_is)
      (case yg_BadWeights => k_is)
      (case yk_BadWeights => k_is)
      (case yd_BadWeights => k_is)
      (case ya_BadWeights => k_is)
      (case yn_BadWeights => k_is)
      (case yt_BadWeights => k_is)
      (case ym_BadWeights => k_is)
      (case zh_CouncilError => k_is)
      (case zs_BadCouncil => k_is)
      (case zs_BadGroup => k_is)
      (case zs_NoMember => k_is)
      (case zs_BadWeights => k_is)
      (case ki_BadCouncil_BadCouncil => kit_is)
      (case ki_BadCouncil_BadGroup => kit_is)
      (case ki_BadCouncil_NoMember => kit_is)
      (case ki_BadCouncil_BadWeights => kit_is)
      (case ki_BadCouncil_Unlike => kit_is)
      (case ki_BadCouncil_BadText => kit_is)
      (case ki_BadCouncil_VE => kit_is)
      (case ki_BadGroup_BadCouncil => kit_is)
      (case ki_BadGroup_BadGroup => kit_is)
      (case ki_BadGroup_NoMember => kit_is)
      (case ki_BadGroup_BadWeights => kit_is)
      (case ki_BadGroup_Unlike => kit_is)
      (case ki_BadGroup_BadText => kit_is)
      (case ki_BadGroup_VE => kit_is)
      (case ki_NoMember_BadCouncil => kit_is)
      (case ki_NoMember_BadGroup => kit_is)
      (case ki_NoMember_NoMember => kit_is)
      (case ki_NoMember_BadWeights => kit_is)
      (case ki_NoMember_Unlike => kit_is)
      (case ki_NoMember_BadText => kit_is)
      (case ki_NoMember_VE => kit_is)
      (case ki_BadWeights_BadCouncil => kit_is)
      (case ki_BadWeights_BadGroup => kit_is)
      (case ki_BadWeights_NoMember => kit_is)
      (case ki_BadWeights_BadWeights => kit_is)
      (case ki_BadWeights_Unlike => kit_is)
      (case ki_BadWeights_BadText => kit_is)
      (case ki_BadWeights_VE => kit_is)
    case h_law_cell_at =>
      refine' Wv.fnAt_mk KX G ?a ?l ?c ?k ?b
      (case a => k_is)
      (case l => k_is)
      (case c => k_is)
      (case k => k_is)
      (case b => exact fun _ _ _ _ _ _ us hl => match us, hl with | [_, _], _ => rfl)
    case h_within =>
      refine' Wv.fnAt_mk KX G ?a ?l ?c ?k ?b
      (case a => k_is)
      (case l => k_is)
      (case c => k_is)
      (case k => k_is)
      (case b => exact fun _ _ _ _ _ _ us hl => match us, hl with | [_, _, _], _ => rfl)
    case h_holds_all =>
      refine' Wv.fnAt_mk KX G ?a ?l ?c ?k ?b
      (case a => k_is)
      (case l => k_is)
      (case c => k_is)
      (case k => k_is)
      (case b => exact fun _ _ _ _ _ _ us hl => match us, hl with | [_, _], _ => rfl)
    case h_Council_init =>
      refine' Wv.mkAt_mk (PySem.W.mg_of KX G ?g) ?m ?a ?i ?kc ?l ?c ?k ?b
      (case g => k_is)
      (case m => k_is)
      (case a => k_is)
      (case i => k_is)
      (case kc => k_is)
      (case l => k_is)
      (case c => k_is)
      (case k => k_is)
      (case b => exact fun _ _ _ _ _ _ us hl => match us, hl with | [_, _, _], _ => rfl)
    case h_Council_carries =>
      refine' Wv.mtAt_mk ?a ?i ?l ?c ?k ?b
      (case a => k_is)
      (case i => k_is)
      (case l => k_is)
      (case c => k_is)
      (case k => k_is)
      (case b => exact fun _ _ _ _ _ _ us hl => match us, hl with | [_, _], _ => rfl)
    case h_Council_member =>
      refine' Wv.mtAt_mk ?a ?i ?l ?c ?k ?b
      (case a => k_is)
      (case i => k_is)
      (case l => k_is)
      (case c => k_is)
      (case k => k_is)
      (case b => exact fun _ _ _ _ _ _ us hl => match us, hl with | [_, _], _ => rfl)
    case h_group_against =>
      refine' Wv.fnAt_mk KX G ?a ?l ?c ?k ?b
      (case a => k_is)
      (case l => k_is)
      (case c => k_is)
      (case k => k_is)
      (case b => exact fun _ _ _ _ _ _ us hl => match us, hl with | [_, _, _], _ => rfl)
    case h_stands =>
      refine' Wv.fnAt_mk KX G ?a ?l ?c ?k ?b
      (case a => k_is)
      (case l => k_is)
      (case c => k_is)
      (case k => k_is)
      (case b => exact fun _ _ _ _ _ _ us hl => match us, hl with | [_, _, _], _ => rfl)
    case h_check_weights =>
      refine' Wv.fnAt_mk KX G ?a ?l ?c ?k ?b
      (case a => k_is)
      (case l => k_is)
      (case c => k_is)
      (case k => k_is)
      (case b => exact fun _ _ _ _ _ _ us hl => match us, hl with | [_, _], _ => rfl)
    case h_weight_of =>
      refine' Wv.fnAt_mk KX G ?a ?l ?c ?k ?b
      (case a => k_is)
      (case l => k_is)
      (case c => k_is)
      (case k => k_is)
      (case b => exact fun _ _ _ _ _ _ us hl => match us, hl with | [_, _], _ => rfl)
    case h_weighted =>
      refine' Wv.fnAt_mk KX G ?a ?l ?c ?k ?b
      (case a => k_is)
      (case l => k_is)
      (case c => k_is)
      (case k => k_is)
      (case b => exact fun _ _ _ _ _ _ us hl => match us, hl with | [_, _], _ => rfl)
    case h_law_sort =>
      refine' Wv.fnAt_mk KX G ?a ?l ?c ?k ?b
      (case a => k_is)
      (case l => k_is)
      (case c => k_is)
      (case k => k_is)
      (case b => exact fun _ _ _ _ _ _ us hl => match us, hl with | [_], _ => rfl)
    case h_law_asked =>
      refine' Wv.fnAt_mk KX G ?a ?l ?c ?k ?b
      (case a => k_is)
      (case l => k_is)
      (case c => k_is)
      (case k => k_is)
      (case b => exact fun _ _ _ _ _ _ us hl => match us, hl with | [_, _, _], _ => rfl)
    case h_without_one =>
      refine' Wv.fnAt_mk KX G ?a ?l ?c ?k ?b
      (case a => k_is)
      (case l => k_is)
      (case c => k_is)
      (case k => k_is)
      (case b => exact fun _ _ _ _ _ _ us hl => match us, hl with | [_], _ => rfl)
    case h_Council_least =>
      refine' Wv.mtAt_mk ?a ?i ?l ?c ?k ?b
      (case a => k_is)
      (case i => k_is)
      (case l => k_is)
      (case c => k_is)
      (case k => k_is)
      (case b => exact fun _ _ _ _ _ _ us hl => match us, hl with | [_], _ => rfl)
    case h_Council_greatest =>
      refine' Wv.mtAt_mk ?a ?i ?l ?c ?k ?b
      (case a => k_is)
      (case i => k_is)
      (case l => k_is)
      (case c => k_is)
      (case k => k_is)
      (case b => exact fun _ _ _ _ _ _ us hl => match us, hl with | [_], _ => rfl)
    case h_law =>
      refine' Wv.lawAt_mk KX G ?a ?l ?c ?k ?b
      (case a => k_is)
      (case l => k_is)
      (case c => k_is)
      (case k => k_is)
      (case b => exact fun _ _ _ _ _ _ _ => rfl)
#print axioms PySem.Challenge.cw_weighvote_k08_refused_holds
