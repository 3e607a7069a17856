import PyProof.Rows.All
import Wide.All
import OpenK.AllK
import Wide.FinOn
import HandS.ForMost
import HandS.ForExc
import HandS.Evl
import HandS.IsInst
import HandS.Wide
import HandS.Style
import HandS.Conv
import HandS.SetFor
import PyProof.EqAt
import PyProof.EqKinds
import PyProof.TupleCall
import PyProof.StrWalks
import HandS.Set
import HandS.Strs
import HandS.List
import PyProof.ListStr
import HandS.Text
import HandS.StrMore
import HandS.Iter
import KE.KExcLine
import KE.RegKIsAll
import PySem.Challenge.RW_weighvote_k06_councils_read_and_written
set_option Elab.async false
set_option linter.all false
set_option maxRecDepth 100000
set_option maxHeartbeats 4000000
/-! Values without a heap: what stands in a slot is data (fz), a list of one's own that may still be changed (ow), an object being made (ob), or not known (un). -/
namespace Wv
open PySem L2
open Evl (Ex fresh_back ex_l)

inductive D where
  | non | bl (b : Bool) | int (i : Int) | str (x : Str) | ty (n : String)
  | lst (xs : List D) | tup (xs : List D)
  | obj (C : Addr) (ns : List Str) (ds : List D)
  | fn (a : Addr) | scr (ns : List Int) | emp

mutual
def Den (K : PySem.W.Frag) (H : Hp) : D → V → Prop
  | .non, v => v = .non
  | .bl b, v => v = .bl b
  | .int i, v => v = .int i
  | .str x, v => v = .str x
  | .ty n, v => v = .ty n
  | .lst xs, v => ∃ a vs, v = .ref a ∧ H a = some (.lst vs) ∧ DenL K H xs vs
  | .tup xs, v => ∃ a vs, v = .ref a ∧ H a = some (.tup vs) ∧ DenL K H xs vs
  | .obj C ns ds, v => ∃ a dx vs, v = .ref a ∧ H a = some (.ins C dx (ns.zip vs)) ∧ ns.length = vs.length ∧ DenL K H ds vs
  | .fn a, v => v = .ref a
  | .scr ns, v => ∃ a, v = .ref a ∧ SqL K H a (ns.map V.int)
  | .emp, v => ∃ a, v = .ref a ∧ H a = some (.dK [])
def DenL (K : PySem.W.Frag) (H : Hp) : List D → List V → Prop
  | [], vs => vs = []
  | d :: ds, vs => ∃ v r, vs = v :: r ∧ Den K H d v ∧ DenL K H ds r
end

section
variable {K : PySem.W.Frag} {H H' B B' B'' H'' : Hp}
mutual
theorem den_mono (e : Ex H H') : ∀ {d : D} {v : V}, Den K H d v → Den K H' d v
  | .non, _, h => by simpa only [Den] using h
  | .bl _, _, h => by simpa only [Den] using h
  | .int _, _, h => by simpa only [Den] using h
  | .str _, _, h => by simpa only [Den] using h
  | .ty _, _, h => by simpa only [Den] using h
  | .fn _, _, h => by simpa only [Den] using h
  | .lst xs, v, h => by
    simp only [Den] at h ⊢
    obtain ⟨a, vs, h1, h2, h3⟩ := h
    exact ⟨a, vs, h1, e a _ h2, denL_mono e h3⟩
  | .tup xs, v, h => by
    simp only [Den] at h ⊢
    obtain ⟨a, vs, h1, h2, h3⟩ := h
    exact ⟨a, vs, h1, e a _ h2, denL_mono e h3⟩
  | .obj C ns ds, v, h => by
    simp only [Den] at h ⊢
    obtain ⟨a, dx, vs, h1, h2, h4, h3⟩ := h
    exact ⟨a, dx, vs, h1, e a _ h2, h4, denL_mono e h3⟩
  | .emp, v, h => by
    simp only [Den] at h ⊢
    obtain ⟨a, h1, h2⟩ := h
    exact ⟨a, h1, e a _ h2⟩
  | .scr ns, v, h => by
    simp only [Den] at h ⊢
    obtain ⟨a, h1, h2⟩ := h
    exact ⟨a, h1, ex_l e h2⟩
theorem denL_mono (e : Ex H H') : ∀ {ds : List D} {vs : List V}, DenL K H ds vs → DenL K H' ds vs
  | [], _, h => by simpa only [DenL] using h
  | d :: ds, vs, h => by
    simp only [DenL] at h ⊢
    obtain ⟨v, r, h1, h2, h3⟩ := h
    exact ⟨v, r, h1, den_mono e h2, denL_mono e h3⟩
end
theorem denL_nil : DenL K H [] [] := by simp only [DenL]
theorem denL_cons {d : D} {v : V} {ds : List D} {vs : List V} (h : Den K H d v) (t : DenL K H ds vs) : DenL K H (d :: ds) (v :: vs) := by
  simp only [DenL]
  exact ⟨v, vs, rfl, h, t⟩
theorem denL_inv {d : D} {ds : List D} {vs : List V} (h : DenL K H (d :: ds) vs) : ∃ v r, vs = v :: r ∧ Den K H d v ∧ DenL K H ds r := by
  simpa only [DenL] using h
theorem denL_inv0 {vs : List V} (h : DenL K H [] vs) : vs = [] := by
  simpa only [DenL] using h
theorem denL_len : ∀ {ds : List D} {vs : List V}, DenL K H ds vs → ds.length = vs.length
  | [], vs, h => by rw [denL_inv0 h] <;> rfl
  | d :: ds, vs, h => by
    obtain ⟨v, r, rfl, _, h3⟩ := denL_inv h
    simp only [List.length_cons, denL_len h3]
theorem denL_app : ∀ {ds es : List D} {vs us : List V}, DenL K H ds vs → DenL K H es us → DenL K H (ds ++ es) (vs ++ us)
  | [], _, vs, _, h, h' => by
    rw [denL_inv0 h]
    exact h'
  | d :: ds, es, vs, us, h, h' => by
    obtain ⟨v, r, rfl, h2, h3⟩ := denL_inv h
    exact denL_cons h2 (denL_app h3 h')
theorem denL_get : ∀ {ds : List D} {vs : List V} {i : Nat} {d : D}, DenL K H ds vs → ds[i]? = some d → ∃ v, vs[i]? = some v ∧ Den K H d v
  | [], _, i, _, _, e => by simp at e
  | d :: ds, vs, 0, d', h, e => by
    obtain ⟨v, r, rfl, h2, h3⟩ := denL_inv h
    simp at e
    subst e
    exact ⟨v, rfl, h2⟩
  | d :: ds, vs, i + 1, d', h, e => by
    obtain ⟨v, r, rfl, h2, h3⟩ := denL_inv h
    obtain ⟨u, h4, h5⟩ := denL_get (i := i) h3 (by simpa using e)
    exact ⟨u, by simpa using h4, h5⟩
theorem denL_getV : ∀ {ds : List D} {vs : List V} {i : Nat} {v : V}, DenL K H ds vs → vs[i]? = some v → ∃ d, ds[i]? = some d ∧ Den K H d v
  | [], vs, i, _, h, e => by
    rw [denL_inv0 h] at e
    simp at e
  | d :: ds, vs, 0, v', h, e => by
    obtain ⟨v, r, rfl, h2, h3⟩ := denL_inv h
    simp at e
    subst e
    exact ⟨d, rfl, h2⟩
  | d :: ds, vs, i + 1, d', h, e => by
    obtain ⟨v, r, rfl, h2, h3⟩ := denL_inv h
    obtain ⟨u, h4, h5⟩ := denL_getV (i := i) h3 (by simpa using e)
    exact ⟨u, by simpa using h4, h5⟩
theorem denL_set : ∀ {ds : List D} {vs : List V} {i : Nat} {d : D} {v : V}, DenL K H ds vs → Den K H d v → DenL K H (ds.set i d) (vs.set i v)
  | [], _, i, _, _, h, _ => by
    rw [denL_inv0 h]
    exact denL_nil
  | d :: ds, vs, 0, d', _, h, e => by
    obtain ⟨v, r, rfl, h2, h3⟩ := denL_inv h
    exact denL_cons e h3
  | d :: ds, vs, i + 1, d', _, h, e => by
    obtain ⟨v, r, rfl, h2, h3⟩ := denL_inv h
    exact denL_cons h2 (denL_set h3 e)
theorem denL_take : ∀ {ds : List D} {vs : List V} (n : Nat), DenL K H ds vs → DenL K H (ds.take n) (vs.take n)
  | ds, vs, 0, h => by simpa using denL_nil
  | [], vs, n + 1, h => by
    rw [denL_inv0 h]
    exact denL_nil
  | d :: ds, vs, n + 1, h => by
    obtain ⟨v, r, rfl, h2, h3⟩ := denL_inv h
    exact denL_cons h2 (denL_take n h3)
theorem denL_drop : ∀ {ds : List D} {vs : List V} (n : Nat), DenL K H ds vs → DenL K H (ds.drop n) (vs.drop n)
  | ds, vs, 0, h => by simpa using h
  | [], vs, n + 1, h => by
    rw [denL_inv0 h]
    exact denL_nil
  | d :: ds, vs, n + 1, h => by
    obtain ⟨v, r, rfl, h2, h3⟩ := denL_inv h
    exact denL_drop n h3
theorem denL_ints : ∀ {ns : List Int} {vs : List V}, DenL K H (ns.map D.int) vs → vs = ns.map V.int
  | [], vs, h => denL_inv0 h
  | n :: ns, vs, h => by
    obtain ⟨v, r, rfl, h2, h3⟩ := denL_inv h
    rw [denL_ints h3]
    simp only [Den] at h2
    rw [h2]
    rfl
theorem denL_bls : ∀ {ns : List Bool} {vs : List V}, DenL K H (ns.map D.bl) vs → vs = ns.map V.bl
  | [], vs, h => denL_inv0 h
  | n :: ns, vs, h => by
    obtain ⟨v, r, rfl, h2, h3⟩ := denL_inv h
    rw [denL_bls h3]
    simp only [Den] at h2
    rw [h2]
    rfl
theorem denL_strs : ∀ {ns : List Str} {vs : List V}, DenL K H (ns.map D.str) vs → vs = ns.map V.str
  | [], vs, h => denL_inv0 h
  | n :: ns, vs, h => by
    obtain ⟨v, r, rfl, h2, h3⟩ := denL_inv h
    rw [denL_strs h3]
    simp only [Den] at h2
    rw [h2]
    rfl
theorem den_int {i : Int} {v : V} (h : Den K H (.int i) v) : v = .int i := by simpa only [Den] using h
theorem den_bl {i : Bool} {v : V} (h : Den K H (.bl i) v) : v = .bl i := by simpa only [Den] using h
theorem den_str {i : Str} {v : V} (h : Den K H (.str i) v) : v = .str i := by simpa only [Den] using h
theorem den_non {v : V} (h : Den K H .non v) : v = .non := by simpa only [Den] using h
theorem den_fn {a : Addr} {v : V} (h : Den K H (.fn a) v) : v = .ref a := by simpa only [Den] using h
theorem den_lst {xs : List D} {v : V} (h : Den K H (.lst xs) v) : ∃ a vs, v = .ref a ∧ H a = some (.lst vs) ∧ DenL K H xs vs := by simpa only [Den] using h
theorem den_tup {xs : List D} {v : V} (h : Den K H (.tup xs) v) : ∃ a vs, v = .ref a ∧ H a = some (.tup vs) ∧ DenL K H xs vs := by simpa only [Den] using h
theorem den_obj {C : Addr} {ns : List Str} {xs : List D} {v : V} (h : Den K H (.obj C ns xs) v) : ∃ a dx vs, v = .ref a ∧ H a = some (.ins C dx (ns.zip vs)) ∧ ns.length = vs.length ∧ DenL K H xs vs := by simpa only [Den] using h
theorem den_scr {xs : List Int} {v : V} (h : Den K H (.scr xs) v) : ∃ a, v = .ref a ∧ SqL K H a (xs.map V.int) := by simpa only [Den] using h
theorem mk_int (i : Int) : Den K H (.int i) (.int i) := by simp only [Den]
theorem mk_bl (i : Bool) : Den K H (.bl i) (.bl i) := by simp only [Den]
theorem mk_str (i : Str) : Den K H (.str i) (.str i) := by simp only [Den]
theorem mk_non : Den K H .non .non := by simp only [Den]
theorem den_emp {v : V} (h : Den K H .emp v) : ∃ a, v = .ref a ∧ H a = some (.dK []) := by simpa only [Den] using h
theorem mk_fn (a : Addr) : Den K H (.fn a) (.ref a) := by simp only [Den]
theorem mk_ty (a : String) : Den K H (.ty a) (.ty a) := by simp only [Den]
theorem mk_lst {a : Addr} {vs : List V} {xs : List D} (h : H a = some (.lst vs)) (t : DenL K H xs vs) : Den K H (.lst xs) (.ref a) := by
  simp only [Den]
  exact ⟨a, vs, rfl, h, t⟩
theorem mk_tup {a : Addr} {vs : List V} {xs : List D} (h : H a = some (.tup vs)) (t : DenL K H xs vs) : Den K H (.tup xs) (.ref a) := by
  simp only [Den]
  exact ⟨a, vs, rfl, h, t⟩
theorem mk_obj {a C dx : Addr} {ns : List Str} {vs : List V} {xs : List D} (h : H a = some (.ins C dx (ns.zip vs))) (l : ns.length = vs.length) (t : DenL K H xs vs) : Den K H (.obj C ns xs) (.ref a) := by
  simp only [Den]
  exact ⟨a, dx, vs, rfl, h, l, t⟩

/-! ### growth: B the data's heap, H the whole one -/
structure Gr (B H B' H' : Hp) : Prop where
  eb : Ex B B'
  eh : Ex H H'
  sub : Ex B' H'
  out : ∀ p, B p = none → H p ≠ none → B' p = none
theorem Gr.refl (h : Ex B H) : Gr B H B H := ⟨Ex.refl _, Ex.refl _, h, fun _ h _ => h⟩
theorem Gr.trans (a : Gr B H B' H') (b : Gr B' H' B'' H'') : Gr B H B'' H'' :=
  ⟨a.eb.trans b.eb, a.eh.trans b.eh, b.sub, fun p h1 h2 => b.out p (a.out p h1 h2) fun z => h2 (fresh_back a.eh z)⟩
theorem Gr.back (a : Gr B H B' H') {p : Addr} (h : H' p = none) : H p = none := fresh_back a.eh h
/-- a new object at p becomes data -/
theorem Gr.fz {p : Addr} {o : HO} (a : Gr B H B' H') (s : Ex B H) (h0 : H p = none) (h1 : B' p = none) (h2 : H' p = some o) : Gr B H (upd B' p o) H' := by
  refine ⟨fun q u e => ?_, a.eh, fun q u e => ?_, fun q e1 e2 => ?_⟩
  · rw [upd_ne (ne_of_none (s q u e) h0)]
    exact a.eb q u e
  · by_cases z : q = p
    · subst z
      rw [upd_same] at e
      cases e
      exact h2
    · rw [upd_ne z] at e
      exact a.sub q u e
  · have z : q ≠ p := fun z => e2 (by rw [z]; exact h0)
    rw [upd_ne z]
    exact a.out q e1 e2
theorem ex_upd {p : Addr} {o : HO} (h : B p = none) : Ex B (upd B p o) := Ex.new h
/-- a new object p is laid (into H alone) -/
theorem Gr.lay {p : Addr} {o : HO} (s : Ex B H) (h0 : H p = none) : Gr B H B (upd H p o) :=
  ⟨Ex.refl _, Ex.new h0, s.trans (Ex.new h0), fun _ h _ => h⟩
/-- .. as data -/
theorem Gr.layB {p : Addr} {o : HO} (s : Ex B H) (h0 : H p = none) : Gr B H (upd B p o) (upd H p o) :=
  (Gr.lay s h0).fz s h0 (fresh_back s h0) upd_same

/-! ### results -/
inductive Rs where
  | dat (d : D) | new (xs : List D) | exc (C : Addr) | frs (d : D)
/-- a heap of new objects alone -/
def New (N H : Hp) : Prop := ∀ p o, N p = some o → H p = none
def Post (K : PySem.W.Frag) (E : XK) (B H : Hp) (Q : VK) : Rs → Prop
  | .dat d => ∀ v B' H', Gr B H B' H' → Den K B' d v → Q v H'
  | .new xs => ∀ p vs B' H', Gr B H B' H' → H p = none → B' p = none → H' p = some (.lst vs) → DenL K B' xs vs → Q (.ref p) H'
  | .exc C => ∀ B' H', Gr B H B' H' → E (.ref C) none H'
  | .frs d => ∀ v N B' H', Gr B H B' H' → Ex N B' → New N H → Den K N d v → Q v H'
theorem Post.shift {E : XK} {Q : VK} {r : Rs} (g : Gr B H B' H') (h : Post K E B H Q r) : Post K E B' H' Q r := by
  cases r with
  | dat d => exact fun v B2 H2 g2 => h v B2 H2 (g.trans g2)
  | new xs => exact fun p vs B2 H2 g2 h0 => h p vs B2 H2 (g.trans g2) (g.back h0)
  | exc C => exact fun B2 H2 g2 => h B2 H2 (g.trans g2)
  | frs d => exact fun v N B2 H2 g2 e n => h v N B2 H2 (g.trans g2) e fun p o z => g.back (n p o z)
/-- a promise by its data: f (arguments) (result) -/
def SpR (K : PySem.W.Frag) (f : List D → Rs → Prop) : Sp := fun vs H Q E => ∃ B ds r, Ex B H ∧ DenL K B ds vs ∧ f ds r ∧ Post K E B H Q r

/-! ### states -/
inductive Sl where
  | un | fz (d : D) | ow (xs : List D) | ob (p0 C : Addr) (ns : List Str) (ds : List D) | rg (d : D)
/-- one's own list, one's own object -/
def Sl.own : Sl → Bool
  | .ow _ => true | .ob _ _ _ _ => true | _ => false
structure SD (K : PySem.W.Frag) (B0 H0 B H : Hp) (σ : L2.St) (sl : List Sl) : Prop where
  gr : Gr B0 H0 B H
  len : σ.length = sl.length
  fz : ∀ (i : Nat) (d : D), sl[i]? = some (.fz d) → ∃ v, σ[i]? = some (some v) ∧ Den K B d v
  ow : ∀ (i : Nat) (xs : List D), sl[i]? = some (.ow xs) → ∃ p vs, σ[i]? = some (some (.ref p)) ∧ H0 p = none ∧ B p = none ∧ H p = some (.lst vs) ∧ DenL K B xs vs
  ob : ∀ (i : Nat) (p0 C : Addr) (ns : List Str) (ds : List D), sl[i]? = some (.ob p0 C ns ds) → ∃ p dx vs, (σ[i]? = some (some (.ref p)) ∧ p = p0) ∧ H0 p = none ∧ B p = none ∧ H p = some (.ins C dx (ns.zip vs)) ∧ ns.length = vs.length ∧ ∃ N, Ex N B ∧ New N H0 ∧ DenL K N ds vs
  ap : ∀ (i j : Nat) (xs ys : List D) (p : Addr), sl[i]? = some (.ow xs) → sl[j]? = some (.ow ys) → σ[i]? = some (some (.ref p)) → σ[j]? = some (some (.ref p)) → i = j
  rg : ∀ (i : Nat) (d : D), sl[i]? = some (.rg d) → ∃ v N, σ[i]? = some (some v) ∧ New N H0 ∧ (∀ p o, N p = some o → B p = none) ∧ Ex N H ∧ Den K N d v ∧ ∀ (j : Nat) (x : Sl) (p : Addr), sl[j]? = some x → x.own = true → σ[j]? = some (some (.ref p)) → N p = none
end

section
variable {K : PySem.W.Frag} {B0 H0 B H B' H' : Hp} {σ : L2.St} {sl : List Sl}
theorem SD.sub (s : SD K B0 H0 B H σ sl) : Ex B H := s.gr.sub
theorem SD.grow (s : SD K B0 H0 B H σ sl) (g : Gr B H B' H') : SD K B0 H0 B' H' σ sl := by
  refine ⟨s.gr.trans g, s.len, fun i d h => ?_, fun i xs h => ?_, fun i p0 C ns ds h => ?_, s.ap, fun i d h => ?_⟩
  · obtain ⟨v, h1, h2⟩ := s.fz i d h
    exact ⟨v, h1, den_mono g.eb h2⟩
  · obtain ⟨p, vs, h1, h2, h3, h4, h5⟩ := s.ow i xs h
    exact ⟨p, vs, h1, h2, g.out p h3 (by rw [h4]; simp), g.eh p _ h4, denL_mono g.eb h5⟩
  · obtain ⟨p, dx, vs, h1, h2, h3, h4, h6, h5⟩ := s.ob i p0 C ns ds h
    obtain ⟨N, n1, n2, n3⟩ := h5
    exact ⟨p, dx, vs, h1, h2, g.out p h3 (by rw [h4]; simp), g.eh p _ h4, h6, N, n1.trans g.eb, n2, n3⟩
  · obtain ⟨v, N, h1, h2, h3, h4, h5, h6⟩ := s.rg i d h
    exact ⟨v, N, h1, h2, fun p o z => g.out p (h3 p o z) (by rw [h4 p o z]; simp), h4.trans g.eh, h5, h6⟩
/-- what may be forgotten -/
def Fgt (sl sl' : List Sl) : Prop := sl.length = sl'.length ∧ ∀ i : Nat, sl'[i]? = some .un ∨ sl'[i]? = sl[i]?
theorem Fgt.refl (sl : List Sl) : Fgt sl sl := ⟨rfl, fun _ => .inr rfl⟩
theorem Fgt.nil : Fgt [] [] := Fgt.refl []
theorem Fgt.keep {a : Sl} {l l' : List Sl} (h : Fgt l l') : Fgt (a :: l) (a :: l') := ⟨by simp [h.1], fun i => by
  cases i with
  | zero => exact .inr rfl
  | succ i => simpa using h.2 i⟩
theorem Fgt.drop {a : Sl} {l l' : List Sl} (h : Fgt l l') : Fgt (a :: l) (.un :: l') := ⟨by simp [h.1], fun i => by
  cases i with
  | zero => exact .inl rfl
  | succ i => simpa using h.2 i⟩
theorem SD.fgt {sl' : List Sl} (s : SD K B0 H0 B H σ sl) (f : Fgt sl sl') : SD K B0 H0 B H σ sl' := by
  have k : ∀ (i : Nat) (x : Sl), x ≠ .un → sl'[i]? = some x → sl[i]? = some x := fun i x hx h => by
    rcases f.2 i with z | z
    · rw [z] at h
      exact absurd (Option.some.inj h).symm hx
    · rw [← z]
      exact h
  exact ⟨s.gr, s.len.trans f.1, fun i d h => s.fz i d (k i _ (by simp) h), fun i xs h => s.ow i xs (k i _ (by simp) h), fun i p0 C ns ds h => s.ob i p0 C ns ds (k i _ (by simp) h),
    fun i j xs ys p h1 h2 => s.ap i j xs ys p (k i _ (by simp) h1) (k j _ (by simp) h2), fun i d h => by
      obtain ⟨v, N, h1, h2, h3, h4, h5, h6⟩ := s.rg i d (k i _ (by simp) h)
      exact ⟨v, N, h1, h2, h3, h4, h5, fun j x p e1 e2 e3 => h6 j x p (k j x (fun z => by rw [z] at e2; cases e2) e1) e2 e3⟩⟩
theorem SD.setFz {i : Nat} {d : D} {v : V} (s : SD K B0 H0 B H σ sl) (h : Den K B d v) : SD K B0 H0 B H (σ.set i (some v)) (sl.set i (.fz d)) := by
  have ne : ∀ (j : Nat) (x : Sl), (∀ d, x ≠ .fz d) → (sl.set i (.fz d))[j]? = some x → j ≠ i ∧ sl[j]? = some x := fun j x hx e => by
    by_cases z : j = i
    · subst z
      by_cases hl : j < sl.length
      · rw [List.getElem?_set_self hl] at e
        exact absurd (Option.some.inj e).symm (hx d)
      · rw [List.getElem?_eq_none (by simpa using hl)] at e
        cases e
    · exact ⟨z, by rw [List.getElem?_set_ne (Ne.symm z)] at e; exact e⟩
  refine ⟨s.gr, by simpa using s.len, fun j d' e => ?_, fun j xs e => ?_, fun j p0 C ns ds e => ?_, fun j k xs ys p e1 e2 e3 e4 => ?_, fun j d' e => ?_⟩
  · by_cases z : j = i
    · subst z
      by_cases hl : j < sl.length
      · rw [List.getElem?_set_self hl] at e
        cases e
        exact ⟨v, by rw [List.getElem?_set_self (by rw [s.len]; exact hl)], h⟩
      · rw [List.getElem?_eq_none (by simpa using hl)] at e
        cases e
    · rw [List.getElem?_set_ne (Ne.symm z)] at e ⊢
      exact s.fz j d' e
  · obtain ⟨z, e⟩ := ne j _ (by simp) e
    rw [List.getElem?_set_ne (Ne.symm z)]
    exact s.ow j xs e
  · obtain ⟨z, e⟩ := ne j _ (by simp) e
    rw [List.getElem?_set_ne (Ne.symm z)]
    exact s.ob j p0 C ns ds e
  · obtain ⟨z1, e1⟩ := ne j _ (by simp) e1
    obtain ⟨z2, e2⟩ := ne k _ (by simp) e2
    rw [List.getElem?_set_ne (Ne.symm z1)] at e3
    rw [List.getElem?_set_ne (Ne.symm z2)] at e4
    exact s.ap j k xs ys p e1 e2 e3 e4
  · obtain ⟨z, e⟩ := ne j _ (by simp) e
    obtain ⟨v', N, h1, h2, h3, h4, h5, h6⟩ := s.rg j _ e
    refine ⟨v', N, by rw [List.getElem?_set_ne (Ne.symm z)]; exact h1, h2, h3, h4, h5, fun k x p e1 e2 e3 => ?_⟩
    obtain ⟨z1, e1⟩ := ne k x (by cases x <;> first | (simp [Sl.own] at e2; done) | simp) e1
    rw [List.getElem?_set_ne (Ne.symm z1)] at e3
    exact h6 k x p e1 e2 e3
theorem SD.setUn {i : Nat} {v : Option V} (s : SD K B0 H0 B H σ sl) : SD K B0 H0 B H (σ.set i v) (sl.set i .un) := by
  have ne : ∀ (j : Nat) (x : Sl), x ≠ .un → (sl.set i .un)[j]? = some x → j ≠ i ∧ sl[j]? = some x := fun j x hx e => by
    by_cases z : j = i
    · subst z
      by_cases hl : j < sl.length
      · rw [List.getElem?_set_self hl] at e
        exact absurd (Option.some.inj e).symm hx
      · rw [List.getElem?_eq_none (by simpa using hl)] at e
        cases e
    · exact ⟨z, by rw [List.getElem?_set_ne (Ne.symm z)] at e; exact e⟩
  refine ⟨s.gr, by simpa using s.len, fun j d' e => ?_, fun j xs e => ?_, fun j p0 C ns ds e => ?_, fun j k xs ys p e1 e2 e3 e4 => ?_, fun j d' e => ?_⟩
  · obtain ⟨z, e⟩ := ne j _ (by simp) e
    rw [List.getElem?_set_ne (Ne.symm z)]
    exact s.fz j _ e
  · obtain ⟨z, e⟩ := ne j _ (by simp) e
    rw [List.getElem?_set_ne (Ne.symm z)]
    exact s.ow j xs e
  · obtain ⟨z, e⟩ := ne j _ (by simp) e
    rw [List.getElem?_set_ne (Ne.symm z)]
    exact s.ob j p0 C ns ds e
  · obtain ⟨z1, e1⟩ := ne j _ (by simp) e1
    obtain ⟨z2, e2⟩ := ne k _ (by simp) e2
    rw [List.getElem?_set_ne (Ne.symm z1)] at e3
    rw [List.getElem?_set_ne (Ne.symm z2)] at e4
    exact s.ap j k xs ys p e1 e2 e3 e4
  · obtain ⟨z, e⟩ := ne j _ (by simp) e
    obtain ⟨v', N, h1, h2, h3, h4, h5, h6⟩ := s.rg j _ e
    refine ⟨v', N, by rw [List.getElem?_set_ne (Ne.symm z)]; exact h1, h2, h3, h4, h5, fun k x p e1 e2 e3 => ?_⟩
    obtain ⟨z1, e1⟩ := ne k x (by cases x <;> first | (simp [Sl.own] at e2; done) | simp) e1
    rw [List.getElem?_set_ne (Ne.symm z1)] at e3
    exact h6 k x p e1 e2 e3
/-- a list of one's own comes to slot i: p is new to all that stood ahead -/
theorem SD.setOw {i : Nat} {p : Addr} {vs : List V} {xs : List D} (s : SD K B0 H0 B H σ sl) (h0 : H0 p = none) (h1 : B p = none) (h2 : H p = some (.lst vs)) (h3 : DenL K B xs vs)
    (hn : ∀ (j : Nat) (ys : List D), j ≠ i → sl[j]? = some (.ow ys) → σ[j]? ≠ some (some (.ref p))) (hr : ∀ (j : Nat) (d : D), sl[j]? = some (.rg d) → ∃ v N, σ[j]? = some (some v) ∧ New N H0 ∧ (∀ p o, N p = some o → B p = none) ∧ Ex N H ∧ Den K N d v ∧ (∀ (j : Nat) (x : Sl) (p : Addr), sl[j]? = some x → x.own = true → σ[j]? = some (some (.ref p)) → N p = none) ∧ N p = none) : SD K B0 H0 B H (σ.set i (some (.ref p))) (sl.set i (.ow xs)) := by
  have at_ : ∀ (j : Nat) (x : Sl), (sl.set i (.ow xs))[j]? = some x → (j = i ∧ x = .ow xs ∧ (σ.set i (some (V.ref p)))[j]? = some (some (.ref p))) ∨ (j ≠ i ∧ sl[j]? = some x ∧ (σ.set i (some (V.ref p)))[j]? = σ[j]?) := fun j x e => by
    by_cases z : j = i
    · subst z
      by_cases hl : j < sl.length
      · rw [List.getElem?_set_self hl] at e
        exact .inl ⟨rfl, (Option.some.inj e).symm, by rw [List.getElem?_set_self (by rw [s.len]; exact hl)]⟩
      · rw [List.getElem?_eq_none (by simpa using hl)] at e
        cases e
    · rw [List.getElem?_set_ne (Ne.symm z)] at e
      exact .inr ⟨z, e, by rw [List.getElem?_set_ne (Ne.symm z)]⟩
  refine ⟨s.gr, by simpa using s.len, fun j d' e => ?_, fun j ys e => ?_, fun j p0 C ns ds e => ?_, fun j k ys zs q e1 e2 e3 e4 => ?_, fun j d' e => ?_⟩
  · rcases at_ j _ e with ⟨_, z, _⟩ | ⟨_, z, w⟩
    · cases z
    · rw [w]
      exact s.fz j _ z
  · rcases at_ j _ e with ⟨_, z, w⟩ | ⟨_, z, w⟩
    · cases z
      rw [w]
      exact ⟨p, vs, rfl, h0, h1, h2, h3⟩
    · rw [w]
      exact s.ow j _ z
  · rcases at_ j _ e with ⟨_, z, _⟩ | ⟨_, z, w⟩
    · cases z
    · rw [w]
      exact s.ob j _ _ _ _ z
  · rcases at_ j _ e1 with ⟨a1, z1, w1⟩ | ⟨a1, z1, w1⟩
    · rcases at_ k _ e2 with ⟨a2, z2, w2⟩ | ⟨a2, z2, w2⟩
      · rw [a1, a2]
      · rw [w1] at e3
        cases e3
        rw [w2] at e4
        exact absurd e4 (hn k zs a2 z2)
    · rcases at_ k _ e2 with ⟨a2, z2, w2⟩ | ⟨a2, z2, w2⟩
      · rw [w2] at e4
        cases e4
        rw [w1] at e3
        exact absurd e3 (hn j ys a1 z1)
      · rw [w1] at e3
        rw [w2] at e4
        exact s.ap j k ys zs q z1 z2 e3 e4
  · rcases at_ j _ e with ⟨_, z, _⟩ | ⟨_, z, w⟩
    · cases z
    · obtain ⟨v', N, g1, g2, g3, g4, g5, g6, g7⟩ := hr j _ z
      refine ⟨v', N, by rw [w]; exact g1, g2, g3, g4, g5, fun k x q e1 e2 e3 => ?_⟩
      rcases at_ k _ e1 with ⟨a1, z1, w1⟩ | ⟨a1, z1, w1⟩
      · rw [w1] at e3
        cases e3
        exact g7
      · rw [w1] at e3
        exact g6 k x q z1 e2 e3
/-- a new list (new to H, where the state stood) -/
theorem SD.setNew {i : Nat} {p : Addr} {vs : List V} {xs : List D} (s : SD K B0 H0 B H σ sl) (g : Gr B H B' H') (h0 : H p = none) (h1 : B' p = none) (h2 : H' p = some (.lst vs)) (h3 : DenL K B' xs vs) :
    SD K B0 H0 B' H' (σ.set i (some (.ref p))) (sl.set i (.ow xs)) :=
  (s.grow g).setOw (s.gr.back h0) h1 h2 h3 (fun j ys _ e z => by
    obtain ⟨q, us, e1, _, _, e2, _⟩ := s.ow j ys e
    rw [z] at e1
    cases e1
    rw [h0] at e2
    cases e2) fun j d e => by
    obtain ⟨v, N, g1, g2, g3, g4, g5, g6⟩ := s.rg j d e
    exact ⟨v, N, g1, g2, fun q o z => g.out q (g3 q o z) (by rw [g4 q o z]; simp), g4.trans g.eh, g5, g6, fresh_back g4 h0⟩
/-- one's own list at slot i is changed -/
theorem SD.mut {i : Nat} {p : Addr} {xs ys : List D} {us : List V} (s : SD K B0 H0 B H σ sl) (hi : sl[i]? = some (.ow xs)) (hp : σ[i]? = some (some (.ref p))) (h3 : DenL K B ys us) :
    SD K B0 H0 B (upd H p (.lst us)) σ (sl.set i (.ow ys)) := by
  obtain ⟨q, vs, e1, e2, e3, e4, e5⟩ := s.ow i xs hi
  rw [hp] at e1
  cases e1
  have hl : i < sl.length := (List.getElem?_eq_some_iff.mp hi).1
  have nb : ∀ a o, B a = some o → a ≠ p := fun a o h z => by
    rw [z, e3] at h
    cases h
  have at_ : ∀ (j : Nat) (x : Sl), (sl.set i (.ow ys))[j]? = some x → (j = i ∧ x = .ow ys) ∨ (j ≠ i ∧ sl[j]? = some x) := fun j x e => by
    by_cases z : j = i
    · subst z
      rw [List.getElem?_set_self hl] at e
      exact .inl ⟨rfl, (Option.some.inj e).symm⟩
    · rw [List.getElem?_set_ne (Ne.symm z)] at e
      exact .inr ⟨z, e⟩
  refine ⟨⟨s.gr.eb, fun a o h => ?_, fun a o h => ?_, s.gr.out⟩, by simpa using s.len, fun j d' e => ?_, fun j zs e => ?_, fun j p0 C ns ds e => ?_, fun j k zs ws r f1 f2 f3 f4 => ?_, fun j d' e => ?_⟩
  · rw [upd_ne (ne_of_none h e2)]
    exact s.gr.eh a o h
  · rw [upd_ne (nb a o h)]
    exact s.gr.sub a o h
  · rcases at_ j _ e with ⟨_, z⟩ | ⟨_, z⟩
    · cases z
    · exact s.fz j _ z
  · rcases at_ j _ e with ⟨a, z⟩ | ⟨a, z⟩
    · cases z
      subst a
      exact ⟨p, us, hp, e2, e3, upd_same, h3⟩
    · obtain ⟨r, ws, f1, f2, f3, f4, f5⟩ := s.ow j zs z
      refine ⟨r, ws, f1, f2, f3, ?_, f5⟩
      rw [upd_ne]
      · exact f4
      · rintro rfl
        exact a (s.ap j i zs xs r z hi f1 hp)
  · rcases at_ j _ e with ⟨_, z⟩ | ⟨_, z⟩
    · cases z
    · obtain ⟨r, dx, ws, f1, f2, f3, f4, f6, f5⟩ := s.ob j _ _ _ _ z
      refine ⟨r, dx, ws, f1, f2, f3, ?_, f6, f5⟩
      rw [upd_ne]
      · exact f4
      · rintro rfl
        rw [e4] at f4
        cases f4
  · have g1 : ∃ xs', sl[j]? = some (.ow xs') := by
      rcases at_ j _ f1 with ⟨a, _⟩ | ⟨_, z⟩
      · exact ⟨xs, by rw [a]; exact hi⟩
      · exact ⟨zs, z⟩
    have g2 : ∃ xs', sl[k]? = some (.ow xs') := by
      rcases at_ k _ f2 with ⟨a, _⟩ | ⟨_, z⟩
      · exact ⟨xs, by rw [a]; exact hi⟩
      · exact ⟨ws, z⟩
    obtain ⟨x1, g1⟩ := g1
    obtain ⟨x2, g2⟩ := g2
    exact s.ap j k x1 x2 r g1 g2 f3 f4
  · rcases at_ j _ e with ⟨_, z⟩ | ⟨_, z⟩
    · cases z
    · obtain ⟨v', N, g1, g2, g3, g4, g5, g6⟩ := s.rg j _ z
      refine ⟨v', N, g1, g2, g3, fun a o h => ?_, g5, fun k x q f1 f2 f3 => ?_⟩
      · have np : N p = none := g6 i _ p hi rfl hp
        rw [upd_ne (ne_of_none h np)]
        exact g4 a o h
      · rcases at_ k _ f1 with ⟨a, _⟩ | ⟨_, w⟩
        · subst a
          exact g6 k _ q hi rfl f3
        · exact g6 k x q w f2 f3
/-- one's own list becomes data -/
theorem SD.fix {i : Nat} {xs : List D} (s : SD K B0 H0 B H σ sl) (hi : sl[i]? = some (.ow xs)) : ∃ B', Ex B B' ∧ SD K B0 H0 B' H σ (sl.set i (.fz (.lst xs))) := by
  obtain ⟨p, vs, e1, e2, e3, e4, e5⟩ := s.ow i xs hi
  have hl : i < sl.length := (List.getElem?_eq_some_iff.mp hi).1
  refine ⟨upd B p (.lst vs), Ex.new e3, ?_⟩
  have at_ : ∀ (j : Nat) (x : Sl), (sl.set i (.fz (.lst xs)))[j]? = some x → (j = i ∧ x = .fz (.lst xs)) ∨ (j ≠ i ∧ sl[j]? = some x) := fun j x e => by
    by_cases z : j = i
    · subst z
      rw [List.getElem?_set_self hl] at e
      exact .inl ⟨rfl, (Option.some.inj e).symm⟩
    · rw [List.getElem?_set_ne (Ne.symm z)] at e
      exact .inr ⟨z, e⟩
  refine ⟨⟨s.gr.eb.trans (Ex.new e3), s.gr.eh, fun a o h => ?_, fun q h1 h2 => ?_⟩, by simpa using s.len, fun j d' e => ?_, fun j zs e => ?_, fun j p0 C ns ds e => ?_, fun j k zs ws r f1 f2 f3 f4 => ?_, fun j d' e => ?_⟩
  · by_cases z : a = p
    · subst z
      rw [upd_same] at h
      cases h
      exact e4
    · rw [upd_ne z] at h
      exact s.gr.sub a o h
  · rw [upd_ne]
    · exact s.gr.out q h1 h2
    · rintro rfl
      exact h2 e2
  · rcases at_ j _ e with ⟨a, z⟩ | ⟨_, z⟩
    · cases z
      subst a
      exact ⟨_, e1, mk_lst upd_same (denL_mono (Ex.new e3) e5)⟩
    · obtain ⟨v, f1, f2⟩ := s.fz j _ z
      exact ⟨v, f1, den_mono (Ex.new e3) f2⟩
  · rcases at_ j _ e with ⟨a, z⟩ | ⟨a, z⟩
    · cases z
    · obtain ⟨r, ws, f1, f2, f3, f4, f5⟩ := s.ow j zs z
      refine ⟨r, ws, f1, f2, ?_, f4, denL_mono (Ex.new e3) f5⟩
      rw [upd_ne]
      · exact f3
      · rintro rfl
        exact a (s.ap j i zs xs r z hi f1 e1)
  · rcases at_ j _ e with ⟨_, z⟩ | ⟨_, z⟩
    · cases z
    · obtain ⟨r, dx, ws, f1, f2, f3, f4, f6, f5⟩ := s.ob j _ _ _ _ z
      obtain ⟨N, n1, n2, n3⟩ := f5
      refine ⟨r, dx, ws, f1, f2, ?_, f4, f6, N, n1.trans (Ex.new e3), n2, n3⟩
      rw [upd_ne]
      · exact f3
      · rintro rfl
        rw [e4] at f4
        cases f4
  · rcases at_ j _ f1 with ⟨_, z⟩ | ⟨_, z1⟩
    · cases z
    · rcases at_ k _ f2 with ⟨_, z⟩ | ⟨_, z2⟩
      · cases z
      · exact s.ap j k zs ws r z1 z2 f3 f4
  · rcases at_ j _ e with ⟨_, z⟩ | ⟨_, z⟩
    · cases z
    · obtain ⟨v', N, g1, g2, g3, g4, g5, g6⟩ := s.rg j _ z
      refine ⟨v', N, g1, g2, fun a o h => ?_, g4, g5, fun k x q f1 f2 f3 => ?_⟩
      · rw [upd_ne (ne_of_none h (g6 i _ p hi rfl e1))]
        exact g3 a o h
      · rcases at_ k _ f1 with ⟨_, z⟩ | ⟨_, w⟩
        · rw [z] at f2
          cases f2
        · exact g6 k x q w f2 f3
end
end Wv
namespace Wv
open PySem L2
open Evl (Ex fresh_back ex_l)

/-! ### what evaluates to what -/
def EvR (K : PySem.W.Frag) (E : XK) (te : TE) (sl : List Sl) (r : Rs) : Prop := ∀ B0 H0 B H σ, SD K B0 H0 B H σ sl → ∀ Q : VK, Post K E B H Q r → te σ H Q
def EvT (K : PySem.W.Frag) (tt : TT) (sl : List Sl) (b : Bool) : Prop := ∀ B0 H0 B H σ, SD K B0 H0 B H σ sl → ∀ Q : Bool → Hp → Prop, (∀ B' H', Gr B H B' H' → Q b H') → tt σ H Q
def EvA (K : PySem.W.Frag) (ta : TA) (sl : List Sl) (ds : List D) : Prop := ∀ B0 H0 B H σ, SD K B0 H0 B H σ sl → ∀ Q : List V → Hp → Prop, (∀ vs B' H', Gr B H B' H' → DenL K B' ds vs → Q vs H') → ta σ H Q
def EvO (K : PySem.W.Frag) (to : TO) (sl : List Sl) (o : Option Int) : Prop := ∀ B0 H0 B H σ, SD K B0 H0 B H σ sl → ∀ Q : Option Int → Hp → Prop, (∀ B' H', Gr B H B' H' → Q o H') → to σ H Q
def OpD (K : PySem.W.Frag) (r : R2) (x y : D) (z : Rs) : Prop := ∀ B H vx vy, Ex B H → Den K B x vx → Den K B y vy → ∀ (E : XK) (Q : VK), Post K E B H Q z → r vx vy H Q
def UnD (K : PySem.W.Frag) (r : V → Hp → VK → Prop) (x : D) (z : Rs) : Prop := ∀ B H vx, Ex B H → Den K B x vx → ∀ (E : XK) (Q : VK), Post K E B H Q z → r vx H Q
/-- a built-in by its arguments -/
def CbD (K : PySem.W.Frag) (r : List V → Hp → VK → Prop) (ds : List D) (z : Rs) : Prop := ∀ B H vs, Ex B H → DenL K B ds vs → ∀ (E : XK) (Q : VK), Post K E B H Q z → r vs H Q
/-- a built-in method -/
def MtD (K : PySem.W.Frag) (T : String) (r : V → List V → Hp → VK → Prop) (x : D) (ds : List D) (z : Rs) : Prop := ∀ B H v vs, Ex B H → Den K B x v → DenL K B ds vs → ∀ (E : XK) (Q : VK), Post K E B H Q z → tyV K T v H ∧ r v vs H Q
section
variable {K : PySem.W.Frag} {E E' : XK} {B0 H0 B H B' H' : Hp} {σ : L2.St} {sl : List Sl} {ta tb tc te : TE} {t u : TT} {x y z d : D} {xs ys ds : List D} {r r' : R2} {s : Rs} {tr : TA}
theorem post_v {v : V} {Q : VK} (g : Ex B H) (h : Post K E B H Q (.dat d)) (dv : Den K B d v) : Q v H := h v B H (Gr.refl g) dv
theorem EvR.fz (h : EvR K E te sl (.new xs)) : EvR K E te sl (.dat (.lst xs)) := fun B0 H0 B H σ s Q q => h B0 H0 B H σ s Q fun p vs B' H' g h0 h1 h2 h3 =>
  q _ _ _ (g.fz s.sub h0 h1 h2) (mk_lst upd_same (denL_mono (ex_upd h1) h3))
/-- the data of new objects is data -/
theorem EvR.ofF (h : EvR K E te sl (.frs d)) : EvR K E te sl (.dat d) := fun B0 H0 B H σ s Q q => h B0 H0 B H σ s Q fun v N B' H' g e n dv => q v B' H' g (den_mono e dv)
theorem ev_isF (h : EvR K E te sl (.frs d)) (e : d = x) : EvR K E te sl (.frs x) := by
  rw [← e]
  exact h
/-- what holds no address -/
def sca : D → Bool
  | .non => true | .bl _ => true | .int _ => true | .str _ => true | .ty _ => true | .fn _ => true | _ => false
theorem den_sca (h : sca d = true) {v : V} (e : Den K H d v) : Den K B d v := by
  cases d with
  | non => rw [den_non e]; exact mk_non
  | bl b => rw [den_bl e]; exact mk_bl b
  | int b => rw [den_int e]; exact mk_int b
  | str b => rw [den_str e]; exact mk_str b
  | ty b => simpa only [Den] using e
  | fn b => rw [den_fn e]; exact mk_fn b
  | _ => cases h
theorem denL_sca : ∀ {ds : List D} {vs : List V}, (∀ d ∈ ds, sca d = true) → DenL K H ds vs → DenL K B ds vs
  | [], _, _, h => by
    rw [denL_inv0 h]
    exact denL_nil
  | d :: ds, vs, hs, h => by
    obtain ⟨v, r, rfl, h2, h3⟩ := denL_inv h
    exact denL_cons (den_sca (hs d List.mem_cons_self) h2) (denL_sca (fun d hd => hs d (List.mem_cons_of_mem _ hd)) h3)
theorem EvR.frsS (h : EvR K E te sl (.dat d)) (hs : sca d = true) : EvR K E te sl (.frs d) := fun B0 H0 B H σ s Q q => h B0 H0 B H σ s Q fun v B' H' g dv =>
  q v (fun _ => none) B' H' g (fun _ _ z => nomatch z) (fun _ _ z => nomatch z) (den_sca hs dv)
theorem EvR.frsL (h : EvR K E te sl (.new xs)) (hs : ∀ d ∈ xs, sca d = true) : EvR K E te sl (.frs (.lst xs)) := fun B0 H0 B H σ s Q q => h B0 H0 B H σ s Q fun p vs B' H' g h0 h1 h2 h3 => by
  refine q (.ref p) (upd (fun _ => none) p (.lst vs)) _ _ (g.fz s.sub h0 h1 h2) (fun a o z => ?_) (fun a o z => ?_) (mk_lst upd_same (denL_sca hs h3))
  · by_cases e : a = p
    · subst e
      rw [upd_same] at z ⊢
      exact z
    · rw [upd_ne e] at z
      cases z
  · by_cases e : a = p
    · rw [e]
      exact h0
    · rw [upd_ne e] at z
      cases z
theorem ev_is (h : EvR K E te sl (.dat d)) (e : d = x) : EvR K E te sl (.dat x) := by
  rw [← e]
  exact h
theorem ev_isN (h : EvR K E te sl (.new xs)) (e : xs = ys) : EvR K E te sl (.new ys) := by
  rw [← e]
  exact h
theorem et_is {a b : Bool} (h : EvT K t sl a) (e : a = b) : EvT K t sl b := by
  rw [← e]
  exact h
theorem ev_var {i : Nat} (h : sl[i]? = some (.fz d)) : EvR K E (tVar i) sl (.dat d) := fun B0 H0 B H σ s Q q => by
  obtain ⟨v, h1, h2⟩ := s.fz i d h
  exact ⟨v, h1, post_v s.sub q h2⟩
theorem ev_int {i : Int} : EvR K E (tC (.int i)) sl (.dat (.int i)) := fun B0 H0 B H σ s Q q => post_v s.sub q (mk_int i)
theorem ev_bl {i : Bool} : EvR K E (tC (.bl i)) sl (.dat (.bl i)) := fun B0 H0 B H σ s Q q => post_v s.sub q (mk_bl i)
theorem ev_str {i : Str} : EvR K E (tC (.str i)) sl (.dat (.str i)) := fun B0 H0 B H σ s Q q => post_v s.sub q (mk_str i)
theorem ev_non : EvR K E (tC .non) sl (.dat .non) := fun B0 H0 B H σ s Q q => post_v s.sub q mk_non
theorem ev_fn {a : Addr} : EvR K E (tC (.ref a)) sl (.dat (.fn a)) := fun B0 H0 B H σ s Q q => post_v s.sub q (mk_fn a)
theorem ev_ty {a : String} : EvR K E (tC (.ty a)) sl (.dat (.ty a)) := fun B0 H0 B H σ s Q q => post_v s.sub q (mk_ty a)
theorem ev_op (ha : EvR K E ta sl (.dat x)) (hb : EvR K E tb sl (.dat y)) (ho : OpD K r x y s) : EvR K E (tOp r ta tb) sl s := fun B0 H0 B H σ sd Q q =>
  ha B0 H0 B H σ sd _ fun v B1 H1 g1 d1 => hb B0 H0 B1 H1 σ (sd.grow g1) _ fun w B2 H2 g2 d2 => ho B2 H2 v w g2.sub (den_mono g2.eb d1) d2 E Q ((q.shift g1).shift g2)
theorem ev_un {f : V → Hp → VK → Prop} (ha : EvR K E ta sl (.dat x)) (ho : UnD K f x s) : EvR K E (tUn f ta) sl s := fun B0 H0 B H σ sd Q q =>
  ha B0 H0 B H σ sd _ fun v B1 H1 g1 d1 => ho B1 H1 v g1.sub d1 E Q (q.shift g1)
/-! operators -/
theorem od_i {g : Int → Int → Int} {i j : Int} : OpD K (rI0 fun i j => .int (g i j)) (.int i) (.int j) (.dat (.int (g i j))) := fun B H vx vy e dx dy E Q q => by
  rw [den_int dx, den_int dy]
  exact ⟨i, j, rfl, rfl, post_v e q (mk_int _)⟩
theorem od_b {g : Int → Int → Bool} {i j : Int} : OpD K (rI0 fun i j => .bl (g i j)) (.int i) (.int j) (.dat (.bl (g i j))) := fun B H vx vy e dx dy E Q q => by
  rw [den_int dx, den_int dy]
  exact ⟨i, j, rfl, rfl, post_v e q (mk_bl _)⟩
theorem od_ic {C : Int → Int → Prop} {g : Int → Int → Int} {i j : Int} (hc : C i j) : OpD K (rI C fun i j => .int (g i j)) (.int i) (.int j) (.dat (.int (g i j))) := fun B H vx vy e dx dy E Q q => by
  rw [den_int dx, den_int dy]
  exact ⟨i, j, rfl, rfl, hc, post_v e q (mk_int _)⟩
theorem ud_i {g : Int → Int} {i : Int} : UnD K (rU fun i => .int (g i)) (.int i) (.dat (.int (g i))) := fun B H vx e dx E Q q => by
  rw [den_int dx]
  exact ⟨i, rfl, post_v e q (mk_int _)⟩
theorem od_eqI {i j : Int} : OpD K rEq (.int i) (.int j) (.dat (.bl (decide (i = j)))) := fun B H vx vy e dx dy E Q q => by
  rw [den_int dx, den_int dy]
  refine ⟨rfl, post_v e q ?_⟩
  rw [show decide (V.int i = V.int j) = decide (i = j) by simp]
  exact mk_bl _
theorem od_neI {i j : Int} : OpD K rNe (.int i) (.int j) (.dat (.bl (!decide (i = j)))) := fun B H vx vy e dx dy E Q q => by
  rw [den_int dx, den_int dy]
  refine ⟨rfl, post_v e q ?_⟩
  rw [show decide (V.int i = V.int j) = decide (i = j) by simp]
  exact mk_bl _
theorem od_eqB {i j : Bool} : OpD K rEq (.bl i) (.bl j) (.dat (.bl (decide (i = j)))) := fun B H vx vy e dx dy E Q q => by
  rw [den_bl dx, den_bl dy]
  refine ⟨rfl, post_v e q ?_⟩
  rw [show decide (V.bl i = V.bl j) = decide (i = j) by simp]
  exact mk_bl _
theorem od_neB {i j : Bool} : OpD K rNe (.bl i) (.bl j) (.dat (.bl (!decide (i = j)))) := fun B H vx vy e dx dy E Q q => by
  rw [den_bl dx, den_bl dy]
  refine ⟨rfl, post_v e q ?_⟩
  rw [show decide (V.bl i = V.bl j) = decide (i = j) by simp]
  exact mk_bl _
theorem od_eqS {i j : Str} : OpD K rEq (.str i) (.str j) (.dat (.bl (decide (i = j)))) := fun B H vx vy e dx dy E Q q => by
  rw [den_str dx, den_str dy]
  refine ⟨rfl, post_v e q ?_⟩
  rw [show decide (V.str i = V.str j) = decide (i = j) by simp]
  exact mk_bl _
theorem od_neS {i j : Str} : OpD K rNe (.str i) (.str j) (.dat (.bl (!decide (i = j)))) := fun B H vx vy e dx dy E Q q => by
  rw [den_str dx, den_str dy]
  refine ⟨rfl, post_v e q ?_⟩
  rw [show decide (V.str i = V.str j) = decide (i = j) by simp]
  exact mk_bl _
/-! an item -/
theorem atI_of {α : Type} {xs : List α} {i : Int} {v : α} (h0 : 0 ≤ i) (h : xs[i.toNat]? = some v) : atI xs i = some v := by
  have e : i = ((i.toNat : Nat) : Int) := by omega
  rw [e]
  exact atI_nat h
theorem od_ixL {i : Int} (h0 : 0 ≤ i) (h : xs[i.toNat]? = some d) : OpD K (rIxL K) (.lst xs) (.int i) (.dat d) := fun B H vx vy e dx dy E Q q => by
  obtain ⟨a, vs, rfl, h1, h2⟩ := den_lst dx
  rw [den_int dy]
  obtain ⟨v, h3, h4⟩ := denL_get h2 h
  exact ⟨a, vs, i, v, rfl, rfl, SqL.of (e a _ h1), atI_of h0 h3, post_v e q h4⟩
theorem od_ixT {i : Int} (h0 : 0 ≤ i) (h : xs[i.toNat]? = some d) : OpD K (rIxT K) (.tup xs) (.int i) (.dat d) := fun B H vx vy e dx dy E Q q => by
  obtain ⟨a, vs, rfl, h1, h2⟩ := den_tup dx
  rw [den_int dy]
  obtain ⟨v, h3, h4⟩ := denL_get h2 h
  exact ⟨a, vs, i, v, rfl, rfl, SqT.of (e a _ h1), atI_of h0 h3, post_v e q h4⟩
theorem od_ixR {ns : List Int} {i j : Int} (h0 : 0 ≤ i) (h : ns[i.toNat]? = some j) : OpD K (rIxL K) (.scr ns) (.int i) (.dat (.int j)) := fun B H vx vy e dx dy E Q q => by
  obtain ⟨a, rfl, h1⟩ := den_scr dx
  rw [den_int dy]
  exact ⟨a, _, i, .int j, rfl, rfl, ex_l e h1, atI_of h0 (by rw [List.getElem?_map, h]; rfl), post_v e q (mk_int j)⟩
/-! lists joined -/
theorem od_cat (hz : xs.length + ys.length ≤ sizeLine) : OpD K rCat (.lst xs) (.lst ys) (.new (xs ++ ys)) := fun B H vx vy e dx dy E Q q => by
  obtain ⟨a, vs, rfl, h1, h2⟩ := den_lst dx
  obtain ⟨b, us, rfl, h3, h4⟩ := den_lst dy
  exact ⟨a, b, vs, us, rfl, rfl, e a _ h1, e b _ h3, by rw [← denL_len h2, ← denL_len h4]; exact hz, fun p hp => q p _ _ _ (Gr.lay e hp) hp (fresh_back e hp) upd_same (denL_app h2 h4)⟩
/-! membership of scalars -/
def flatD : D → Bool
  | .non => true | .bl _ => true | .int _ => true | .str _ => true | _ => false
def inI (i : Int) (ns : List Int) : Bool := ns.any fun y => decide (y = i)
theorem inV_ints (i : Int) : ∀ ns : List Int, inV (.int i) (ns.map V.int) = decide (i ∈ ns)
  | [] => by simp [inV]
  | n :: ns => by
    have ih := inV_ints i ns
    unfold inV at ih ⊢
    rw [List.map_cons, List.any_cons, ih]
    have e : eqV (.int n) (.int i) = decide (n = i) := by
      first
        | rfl
        | (unfold eqV; simp)
        | simp [eqV]
    rw [e, Bool.eq_iff_iff]
    simp only [Bool.or_eq_true, decide_eq_true_eq, List.mem_cons]
    exact ⟨fun h => h.imp Eq.symm id, fun h => h.imp Eq.symm id⟩
theorem od_inI {neg : Bool} {i : Int} {ns : List Int} : OpD K (rIn K neg) (.int i) (.lst (ns.map D.int)) (.dat (.bl (if neg then !decide (i ∈ ns) else decide (i ∈ ns)))) := fun B H vx vy e dx dy E Q q => by
  obtain ⟨a, vs, rfl, h1, h2⟩ := den_lst dy
  rw [den_int dx]
  have e1 := denL_ints h2
  subst e1
  refine ⟨a, _, rfl, .inl (SqL.of (e a _ h1)), rfl, by simp [flatV], ?_⟩
  rw [inV_ints]
  exact post_v e q (mk_bl _)
/-! == of lists of ints, of truths, of texts, of lists of ints -/
theorem dp_ints : ∀ ns : List Int, DpAll K H (ns.map V.int) (ns.map PyData.int)
  | [] => .nil
  | n :: ns => .cons (.int n) (dp_ints ns)
theorem dp_bls : ∀ ns : List Bool, DpAll K H (ns.map V.bl) (ns.map PyData.bool)
  | [] => .nil
  | n :: ns => .cons (.bl n) (dp_bls ns)
theorem lay_ints : ∀ ns : List Int, PyData.canLayAll0 (ns.map PyData.int) = true
  | [] => by simp [PyData.canLayAll0]
  | n :: ns => by simp [PyData.canLayAll0, PyData.canLay0, lay_ints ns]
theorem dep_ints : ∀ ns : List Int, PyData.depthAll (ns.map PyData.int) = 0
  | [] => by simp [PyData.depthAll]
  | n :: ns => by simp [PyData.depthAll, PyData.depth, dep_ints ns]
theorem lay_bls : ∀ ns : List Bool, PyData.canLayAll0 (ns.map PyData.bool) = true
  | [] => by simp [PyData.canLayAll0]
  | n :: ns => by simp [PyData.canLayAll0, PyData.canLay0, lay_bls ns]
theorem dep_bls : ∀ ns : List Bool, PyData.depthAll (ns.map PyData.bool) = 0
  | [] => by simp [PyData.depthAll]
  | n :: ns => by simp [PyData.depthAll, PyData.depth, dep_bls ns]
theorem sh_ints (ns : List Int) : SeqAt.shaped (.list (ns.map PyData.int)) = true := by
  unfold SeqAt.shaped
  simp [PyData.canLay0, PyData.depth, lay_ints, dep_ints]
theorem sh_bls (ns : List Bool) : SeqAt.shaped (.list (ns.map PyData.bool)) = true := by
  unfold SeqAt.shaped
  simp [PyData.canLay0, PyData.depth, lay_bls, dep_bls]
theorem eqv_ints : ∀ ns ms : List Int, PyData.eqvAll (ns.map PyData.int) (ms.map PyData.int) = decide (ns = ms)
  | [], [] => by simp [PyData.eqvAll]
  | [], _ :: _ => by simp [PyData.eqvAll]
  | _ :: _, [] => by simp [PyData.eqvAll]
  | n :: ns, m :: ms => by
    simp only [List.map_cons, PyData.eqvAll, PyData.eqv, eqv_ints ns ms]
    rw [Bool.eq_iff_iff]
    simp
theorem eqv_bls : ∀ ns ms : List Bool, PyData.eqvAll (ns.map PyData.bool) (ms.map PyData.bool) = decide (ns = ms)
  | [], [] => by simp [PyData.eqvAll]
  | [], _ :: _ => by simp [PyData.eqvAll]
  | _ :: _, [] => by simp [PyData.eqvAll]
  | n :: ns, m :: ms => by
    simp only [List.map_cons, PyData.eqvAll, PyData.eqv, eqv_bls ns ms]
    rw [Bool.eq_iff_iff]
    simp
theorem od_eqL {ns ms : List Int} : OpD K (rEqD K) (.lst (ns.map D.int)) (.lst (ms.map D.int)) (.dat (.bl (decide (ns = ms)))) := fun B H vx vy e dx dy E Q q => by
  obtain ⟨a, vs, rfl, h1, h2⟩ := den_lst dx
  obtain ⟨b, us, rfl, h3, h4⟩ := den_lst dy
  rw [denL_ints h2] at h1
  rw [denL_ints h4] at h3
  refine ⟨_, _, .lst (SqL.of (e a _ h1)) (dp_ints ns), .lst (SqL.of (e b _ h3)) (dp_ints ms), sh_ints ns, sh_ints ms, ?_⟩
  simp only [PyData.eqv, eqv_ints]
  exact post_v e q (mk_bl _)
theorem od_neL {ns ms : List Int} : OpD K (rNeD K) (.lst (ns.map D.int)) (.lst (ms.map D.int)) (.dat (.bl (!decide (ns = ms)))) := fun B H vx vy e dx dy E Q q => by
  obtain ⟨a, vs, rfl, h1, h2⟩ := den_lst dx
  obtain ⟨b, us, rfl, h3, h4⟩ := den_lst dy
  rw [denL_ints h2] at h1
  rw [denL_ints h4] at h3
  refine ⟨_, _, .lst (SqL.of (e a _ h1)) (dp_ints ns), .lst (SqL.of (e b _ h3)) (dp_ints ms), sh_ints ns, sh_ints ms, ?_⟩
  simp only [PyData.eqv, eqv_ints]
  exact post_v e q (mk_bl _)
theorem od_eqLb {ns ms : List Bool} : OpD K (rEqD K) (.lst (ns.map D.bl)) (.lst (ms.map D.bl)) (.dat (.bl (decide (ns = ms)))) := fun B H vx vy e dx dy E Q q => by
  obtain ⟨a, vs, rfl, h1, h2⟩ := den_lst dx
  obtain ⟨b, us, rfl, h3, h4⟩ := den_lst dy
  rw [denL_bls h2] at h1
  rw [denL_bls h4] at h3
  refine ⟨_, _, .lst (SqL.of (e a _ h1)) (dp_bls ns), .lst (SqL.of (e b _ h3)) (dp_bls ms), sh_bls ns, sh_bls ms, ?_⟩
  simp only [PyData.eqv, eqv_bls]
  exact post_v e q (mk_bl _)
/-! chains -/
theorem ev_chain {a b : Bool} (ha : EvR K E ta sl (.dat x)) (hb : EvR K E tb sl (.dat y)) (hc : EvR K E tc sl (.dat z)) (h1 : OpD K r x y (.dat (.bl a))) (h2 : OpD K r' y z (.dat (.bl b))) : EvR K E (tChain r r' ta tb tc) sl (.dat (.bl (a && b))) := fun B0 H0 B H σ sd Q q =>
  ha B0 H0 B H σ sd _ fun v B1 H1 g1 d1 => hb B0 H0 B1 H1 σ (sd.grow g1) _ fun w B2 H2 g2 d2 => h1 B2 H2 v w g2.sub (den_mono g2.eb d1) d2 E _ fun k B3 H3 g3 d3 => by
    rw [den_bl d3]
    refine ⟨a, rfl, ?_⟩
    cases a with
    | true =>
      rw [if_pos rfl]
      exact hc B0 H0 B3 H3 σ (((sd.grow g1).grow g2).grow g3) _ fun u B4 H4 g4 d4 => h2 B4 H4 w u g4.sub (den_mono (g3.eb.trans g4.eb) d2) d4 E Q (((q.shift g1).shift g2).shift g3 |>.shift g4)
    | false =>
      rw [if_neg Bool.false_ne_true]
      exact post_v g3.sub (((q.shift g1).shift g2).shift g3) (mk_bl _)
/-! tests -/
theorem et_test {b : Bool} (h : EvR K E0 te sl (.dat (.bl b))) : EvT K (tTest te) sl b := fun B0 H0 B H σ sd Q q => h B0 H0 B H σ sd _ fun v B1 H1 g1 d1 => ⟨b, den_bl d1, q _ _ g1⟩
theorem et_B {b : Bool} (h : EvR K E0 te sl (.dat (.bl b))) : EvT K (tB te) sl b := fun B0 H0 B H σ sd Q q => h B0 H0 B H σ sd _ fun v B1 H1 g1 d1 => ⟨b, den_bl d1, q _ _ g1⟩
theorem et_yes : EvT K tYes sl true := fun B0 H0 B H σ sd Q q => q B H (Gr.refl sd.sub)
theorem et_and {a b : Bool} (h1 : EvT K t sl a) (h2 : a = true → EvT K u sl b) : EvT K (tAnd t u) sl (a && b) := fun B0 H0 B H σ sd Q q => h1 B0 H0 B H σ sd _ fun B1 H1 g1 => by
  cases a with
  | true =>
    rw [if_pos rfl]
    exact h2 rfl B0 H0 B1 H1 σ (sd.grow g1) Q fun B2 H2 g2 => q _ _ (g1.trans g2)
  | false =>
    rw [if_neg Bool.false_ne_true]
    exact q _ _ g1
theorem et_or {a b : Bool} (h1 : EvT K t sl a) (h2 : a = false → EvT K u sl b) : EvT K (tOr t u) sl (a || b) := fun B0 H0 B H σ sd Q q => h1 B0 H0 B H σ sd _ fun B1 H1 g1 => by
  cases a with
  | true =>
    rw [if_pos rfl]
    exact q _ _ g1
  | false =>
    rw [if_neg Bool.false_ne_true]
    exact h2 rfl B0 H0 B1 H1 σ (sd.grow g1) Q fun B2 H2 g2 => q _ _ (g1.trans g2)
theorem et_not {a : Bool} (h1 : EvT K t sl a) : EvT K (tNot t) sl (!a) := fun B0 H0 B H σ sd Q q => h1 B0 H0 B H σ sd _ fun B1 H1 g1 => q _ _ g1
theorem ev_andV {a b : Bool} (h1 : EvR K E ta sl (.dat (.bl a))) (h2 : a = true → EvR K E tb sl (.dat (.bl b))) : EvR K E (tAndV ta tb) sl (.dat (.bl (a && b))) := fun B0 H0 B H σ sd Q q => h1 B0 H0 B H σ sd _ fun v B1 H1 g1 d1 => ⟨a, den_bl d1, by
  cases a with
  | true =>
    rw [if_pos rfl]
    exact h2 rfl B0 H0 B1 H1 σ (sd.grow g1) Q (q.shift g1)
  | false =>
    rw [if_neg Bool.false_ne_true]
    exact post_v g1.sub (q.shift g1) (mk_bl _)⟩
theorem ev_orV {a b : Bool} (h1 : EvR K E ta sl (.dat (.bl a))) (h2 : a = false → EvR K E tb sl (.dat (.bl b))) : EvR K E (tOrV ta tb) sl (.dat (.bl (a || b))) := fun B0 H0 B H σ sd Q q => h1 B0 H0 B H σ sd _ fun v B1 H1 g1 d1 => ⟨a, den_bl d1, by
  cases a with
  | true =>
    rw [if_pos rfl]
    exact post_v g1.sub (q.shift g1) (mk_bl _)
  | false =>
    rw [if_neg Bool.false_ne_true]
    exact h2 rfl B0 H0 B1 H1 σ (sd.grow g1) Q (q.shift g1)⟩
theorem ev_notV {a : Bool} (h1 : EvR K E ta sl (.dat (.bl a))) : EvR K E (tNotV ta) sl (.dat (.bl (!a))) := fun B0 H0 B H σ sd Q q => h1 B0 H0 B H σ sd _ fun v B1 H1 g1 d1 => ⟨a, den_bl d1, post_v g1.sub (q.shift g1) (mk_bl _)⟩
theorem ev_if {b : Bool} {s1 : Rs} (h : EvT K t sl b) (h1 : b = true → EvR K E ta sl s1) (h2 : b = false → EvR K E tb sl s1) : EvR K E (tIf t ta tb) sl s1 := fun B0 H0 B H σ sd Q q => h B0 H0 B H σ sd _ fun B1 H1 g1 => by
  cases b with
  | true =>
    rw [if_pos rfl]
    exact h1 rfl B0 H0 B1 H1 σ (sd.grow g1) Q (q.shift g1)
  | false =>
    rw [if_neg Bool.false_ne_true]
    exact h2 rfl B0 H0 B1 H1 σ (sd.grow g1) Q (q.shift g1)
/-! arguments -/
theorem ea_nil : EvA K tNil sl [] := fun B0 H0 B H σ sd Q q => q [] B H (Gr.refl sd.sub) denL_nil
theorem ea_cons (h : EvR K E0 ta sl (.dat x)) (hr : EvA K tr sl ds) : EvA K (tCons ta tr) sl (x :: ds) := fun B0 H0 B H σ sd Q q =>
  h B0 H0 B H σ sd _ fun v B1 H1 g1 d1 => hr B0 H0 B1 H1 σ (sd.grow g1) _ fun vs B2 H2 g2 d2 => q _ _ _ (g1.trans g2) (denL_cons (den_mono g2.eb d1) d2)
theorem ev_tup (h : EvA K tr sl ds) (hl : ds.length ≤ sizeLine) : EvR K E (tTup tr) sl (.dat (.tup ds)) := fun B0 H0 B H σ sd Q q =>
  h B0 H0 B H σ sd _ fun vs B1 H1 g1 d1 => ⟨by rw [← denL_len d1]; exact hl, fun p hp => q _ _ _ (g1.trans (Gr.layB g1.sub hp)) (mk_tup upd_same (denL_mono (ex_upd (fresh_back g1.sub hp)) d1))⟩
theorem ev_lst (h : EvA K tr sl ds) (hl : ds.length ≤ sizeLine) : EvR K E (tLst tr) sl (.new ds) := fun B0 H0 B H σ sd Q q =>
  h B0 H0 B H σ sd _ fun vs B1 H1 g1 d1 => ⟨by rw [← denL_len d1]; exact hl, fun p hp => q p vs _ _ (g1.trans (Gr.lay g1.sub hp)) (g1.back hp) (fresh_back g1.sub hp) upd_same d1⟩
/-! fields -/
theorem lk_zip : ∀ {ns : List Str} {ds : List D} {vs : List V} {f : Str}, DenL K B ds vs → (ns.zip ds).lookup f = some d → ∃ v, (ns.zip vs).lookup f = some v ∧ Den K B d v
  | [], _, _, _, _, h => by simp at h
  | n :: ns, [], _, _, _, h => by simp at h
  | n :: ns, x :: ds, vs, f, hd, h => by
    obtain ⟨v, r, rfl, h2, h3⟩ := denL_inv hd
    rw [List.zip_cons_cons, List.lookup_cons] at h ⊢
    cases e : f == n with
    | true =>
      rw [e] at h
      cases h
      exact ⟨v, rfl, h2⟩
    | false =>
      rw [e] at h
      exact lk_zip h3 h
theorem ev_fld {C : Addr} {ns : List Str} {f : Str} (ha : EvR K E ta sl (.dat (.obj C ns ds))) (cl : Cls K C) (na : NoAttr K C f) (h : (ns.zip ds).lookup f = some d) : EvR K E (tFld K ta f) sl (.dat d) := fun B0 H0 B H σ sd Q q =>
  ha B0 H0 B H σ sd _ fun v B1 H1 g1 d1 => by
    obtain ⟨a, dx, vs, rfl, h1, _, h2⟩ := den_obj d1
    obtain ⟨u, h3, h4⟩ := lk_zip h2 h
    exact ⟨a, C, dx, _, u, rfl, g1.sub a _ h1, cl, na, h3, post_v g1.sub (q.shift g1) h4⟩
/-! calls -/
theorem sp_go {f : List D → Rs → Prop} {vs : List V} {Q : VK} (sd : Ex B H) (h : DenL K B ds vs) (hf : f ds s) (q : Post K E B H Q s) : SpR K f vs H Q E := ⟨B, ds, s, sd, h, hf, q⟩
theorem Post.any {Q : VK} (h : Post K E B H Q s) (hn : ∀ C, s ≠ .exc C) : Post K E' B H Q s := by
  cases s with
  | dat d => exact h
  | new xs => exact h
  | frs d => exact h
  | exc C => exact absurd rfl (hn C)
theorem ev_callG {f : List D → Rs → Prop} (ha : EvA K tr sl ds) (hf : f ds s) (hn : (∀ C, s ≠ .exc C) ∨ E = E') : EvR K E (tCall (SpR K f) [] E' tr) sl s := fun B0 H0 B H σ sd Q q =>
  ha B0 H0 B H σ sd _ fun vs B1 H1 g1 d1 => by
    rw [List.append_nil]
    rcases hn with z | z
    · exact sp_go g1.sub d1 hf ((q.shift g1).any z)
    · subst z
      exact sp_go g1.sub d1 hf (q.shift g1)
theorem ev_call {f : List D → Rs → Prop} (ha : EvA K tr sl ds) (hf : f ds (.dat d)) : EvR K E (tCall (SpR K f) [] E' tr) sl (.dat d) := ev_callG ha hf (.inl fun _ z => nomatch z)
theorem ev_callN {f : List D → Rs → Prop} (ha : EvA K tr sl ds) (hf : f ds (.new xs)) : EvR K E (tCall (SpR K f) [] E' tr) sl (.new xs) := ev_callG ha hf (.inl fun _ z => nomatch z)
theorem ev_callX {f : List D → Rs → Prop} {C : Addr} (ha : EvA K tr sl ds) (hf : f ds (.exc C)) : EvR K E (tCall (SpR K f) [] E tr) sl (.exc C) := ev_callG ha hf (.inr rfl)
theorem lk_zipN : ∀ {ns : List Str} {vs : List V} {f : Str}, f ∉ ns → (ns.zip vs).lookup f = none
  | [], _, _, _ => by simp
  | n :: ns, [], _, _ => by simp
  | n :: ns, x :: ds, f, h => by
    rw [List.zip_cons_cons, List.lookup_cons]
    have e : (f == n) = false := by
      rw [beq_eq_false_iff_ne]
      exact fun z => h (by rw [z]; exact List.mem_cons_self)
    rw [e]
    exact lk_zipN fun z => h (List.mem_cons_of_mem _ z)
theorem ev_methG {f : List D → Rs → Prop} {C : Addr} {ns : List Str} {xs : List D} {m : Str} (ho : EvR K E ta sl (.dat (.obj C ns xs))) (hm : m ∉ ns) (ha : EvA K tr sl ds) (hf : f (.obj C ns xs :: ds) s) (hn : (∀ C, s ≠ .exc C) ∨ E = E') : EvR K E (tMeth C m (SpR K f) [] E' ta tr) sl s := fun B0 H0 B H σ sd Q q =>
  ho B0 H0 B H σ sd _ fun v B1 H1 g1 d1 => by
    obtain ⟨a, dx, vs, rfl, h1, _, h2⟩ := den_obj d1
    refine ⟨a, dx, _, rfl, g1.sub a _ h1, lk_zipN hm, ha B0 H0 B1 H1 σ (sd.grow g1) _ fun us B2 H2 g2 d2 => ?_⟩
    rw [List.append_nil]
    rcases hn with z | z
    · exact sp_go g2.sub (denL_cons (den_mono g2.eb d1) d2) hf (((q.shift g1).shift g2).any z)
    · subst z
      exact sp_go g2.sub (denL_cons (den_mono g2.eb d1) d2) hf ((q.shift g1).shift g2)
theorem ev_meth {f : List D → Rs → Prop} {C : Addr} {ns : List Str} {xs : List D} {m : Str} (ho : EvR K E ta sl (.dat (.obj C ns xs))) (hm : m ∉ ns) (ha : EvA K tr sl ds) (hf : f (.obj C ns xs :: ds) (.dat d)) : EvR K E (tMeth C m (SpR K f) [] E' ta tr) sl (.dat d) := ev_methG ho hm ha hf (.inl fun _ z => nomatch z)
theorem ev_methN {f : List D → Rs → Prop} {C : Addr} {ns : List Str} {xs ys : List D} {m : Str} (ho : EvR K E ta sl (.dat (.obj C ns xs))) (hm : m ∉ ns) (ha : EvA K tr sl ds) (hf : f (.obj C ns xs :: ds) (.new ys)) : EvR K E (tMeth C m (SpR K f) [] E' ta tr) sl (.new ys) := ev_methG ho hm ha hf (.inl fun _ z => nomatch z)
theorem ev_methX {f : List D → Rs → Prop} {C C' : Addr} {ns : List Str} {xs : List D} {m : Str} (ho : EvR K E ta sl (.dat (.obj C ns xs))) (hm : m ∉ ns) (ha : EvA K tr sl ds) (hf : f (.obj C ns xs :: ds) (.exc C')) : EvR K E (tMeth C m (SpR K f) [] E ta tr) sl (.exc C') := ev_methG ho hm ha hf (.inr rfl)
/-! an object made: the __init__'s promise -/
inductive Ri where
  | ok (ns : List Str) (ds : List D) | exc (C : Addr)
def PostI (K : PySem.W.Frag) (E : XK) (C x dx : Addr) (B H : Hp) (Q : VK) : Ri → Prop
  | .ok ns ds => ∀ dx' vs B' H', Gr B H B' H' → B' x = none → H' x = some (.ins C dx' (ns.zip vs)) → ns.length = vs.length → (∃ N, Ex N B' ∧ New N H ∧ DenL K N ds vs) → Q .non H'
  | .exc C' => ∀ B' H', Gr B H B' H' → E (.ref C') none H'
/-- H: the heap without the new object -/
def SpI (K : PySem.W.Frag) (C : Addr) (f : List D → Ri → Prop) : Sp := fun us H1 Q E => ∃ B H x dx vs ds r, us = .ref x :: vs ∧ Ex B H ∧ H x = none ∧ H1 = upd H x (.ins C dx []) ∧ DenL K B ds vs ∧ f ds r ∧ PostI K E C x dx B H Q r
def Ri.rs (C : Addr) : Ri → Rs
  | .ok ns ds => .frs (.obj C ns ds) | .exc C' => .exc C'
theorem ev_makeG {f : List D → Ri → Prop} {C : Addr} {ri : Ri} (ha : EvA K tr sl ds) (hf : f ds ri) (hn : (∀ C, ri ≠ .exc C) ∨ E = E') : EvR K E (tMake C (SpI K C f) [] E' tr) sl (ri.rs C) := fun B0 H0 B H σ sd Q q =>
  ha B0 H0 B H σ sd _ fun vs B1 H1 g1 d1 x dx nx ndx nex => by
    rw [List.append_nil]
    have nx2 : upd H1 dx (.own x) x = none := by rw [upd_ne (Ne.symm nex)]; exact nx
    have g2 : Gr B1 H1 B1 (upd H1 dx (.own x)) := Gr.lay g1.sub ndx
    refine ⟨B1, upd H1 dx (.own x), x, dx, vs, ds, ri, rfl, g2.sub, nx2, rfl, d1, hf, ?_⟩
    cases ri with
    | ok ns es =>
      intro dx' us B3 H3 g3 b3 h3 hl d3
      obtain ⟨N, n1, n2, n3⟩ := d3
      have nN : N x = none := fresh_back n1 b3
      refine ⟨rfl, q _ (upd N x (.ins C dx' (ns.zip us))) _ _ (((g1.trans g2).trans g3).fz sd.sub (g1.back nx) b3 h3) (fun a o z => ?_) (fun a o z => ?_) (mk_obj upd_same hl (denL_mono (ex_upd nN) n3))⟩
      · by_cases e : a = x
        · subst e
          rw [upd_same] at z ⊢
          exact z
        · rw [upd_ne e] at z ⊢
          exact n1 a o z
      · by_cases e : a = x
        · rw [e]
          exact g1.back nx
        · rw [upd_ne e] at z
          exact (g1.trans g2).back (n2 a o z)
    | exc C' =>
      rcases hn with z | z
      · exact absurd rfl (z C')
      · subst z
        exact fun B3 H3 g3 => q B3 H3 ((g1.trans g2).trans g3)
theorem ev_make {f : List D → Ri → Prop} {C : Addr} {ns : List Str} {es : List D} (ha : EvA K tr sl ds) (hf : f ds (.ok ns es)) : EvR K E (tMake C (SpI K C f) [] E' tr) sl (.frs (.obj C ns es)) := ev_makeG ha hf (.inl fun _ z => nomatch z)
theorem ev_makeX {f : List D → Ri → Prop} {C C' : Addr} (ha : EvA K tr sl ds) (hf : f ds (.exc C')) : EvR K E (tMake C (SpI K C f) [] E tr) sl (.exc C') := ev_makeG ha hf (.inr rfl)
/-! built-ins -/
theorem ev_cb {f : List V → Hp → VK → Prop} (ha : EvA K tr sl ds) (hf : CbD K f ds s) : EvR K E (tCB f tr) sl s := fun B0 H0 B H σ sd Q q =>
  ha B0 H0 B H σ sd _ fun vs B1 H1 g1 d1 => hf B1 H1 vs g1.sub d1 E Q (q.shift g1)
theorem ev_bm {T : String} {f : V → List V → Hp → VK → Prop} (ho : EvR K E ta sl (.dat x)) (ha : EvA K tr sl ds) (hf : MtD K T f x ds s) (hty : ∀ B H v, Ex B H → Den K B x v → tyV K T v H) : EvR K E (tBM K T f ta tr) sl s := fun B0 H0 B H σ sd Q q =>
  ho B0 H0 B H σ sd _ fun v B1 H1 g1 d1 => ⟨hty B1 H1 v g1.sub d1, ha B0 H0 B1 H1 σ (sd.grow g1) _ fun vs B2 H2 g2 d2 => (hf B2 H2 v vs g2.sub (den_mono g2.eb d1) d2 E Q ((q.shift g1).shift g2)).2⟩
theorem ev_bm0 {T : String} {f : V → List V → Hp → VK → Prop} (ho : EvR K E ta sl (.dat x)) (hf : MtD K T f x [] s) : EvR K E (tBM0 K T f ta) sl s := fun B0 H0 B H σ sd Q q =>
  ho B0 H0 B H σ sd _ fun v B1 H1 g1 d1 => hf B1 H1 v [] g1.sub d1 denL_nil E Q (q.shift g1)
theorem denL_one {vs : List V} (h : DenL K B [x] vs) : ∃ v, vs = [v] ∧ Den K B x v := by
  obtain ⟨v, r, rfl, h1, h2⟩ := denL_inv h
  rw [denL_inv0 h2]
  exact ⟨v, rfl, h1⟩
theorem denL_two {vs : List V} (h : DenL K B [x, y] vs) : ∃ v w, vs = [v, w] ∧ Den K B x v ∧ Den K B y w := by
  obtain ⟨v, r, rfl, h1, h2⟩ := denL_inv h
  obtain ⟨w, rfl, h3⟩ := denL_one h2
  exact ⟨v, w, rfl, h1, h3⟩
abbrev rLen (K : PySem.W.Frag) : List V → Hp → VK → Prop := fun xs H Q => ∃ p ys, xs = [V.ref p] ∧ (SqL K H p ys ∨ SqT K H p ys) ∧ Q (.int ys.length) H
theorem cb_len : CbD K (rLen K) [.lst xs] (.dat (.int (xs.length : Int))) := fun B H vs e d E Q q => by
  obtain ⟨v, rfl, h⟩ := denL_one d
  obtain ⟨a, us, rfl, h1, h2⟩ := den_lst h
  exact ⟨a, us, rfl, .inl (SqL.of (e a _ h1)), by rw [← denL_len h2]; exact post_v e q (mk_int _)⟩
theorem cb_lenT : CbD K (rLen K) [.tup xs] (.dat (.int (xs.length : Int))) := fun B H vs e d E Q q => by
  obtain ⟨v, rfl, h⟩ := denL_one d
  obtain ⟨a, us, rfl, h1, h2⟩ := den_tup h
  exact ⟨a, us, rfl, .inr (SqT.of (e a _ h1)), by rw [← denL_len h2]; exact post_v e q (mk_int _)⟩
theorem cb_lenR {ns : List Int} : CbD K (rLen K) [.scr ns] (.dat (.int (ns.length : Int))) := fun B H vs e d E Q q => by
  obtain ⟨v, rfl, h⟩ := denL_one d
  obtain ⟨a, rfl, h1⟩ := den_scr h
  refine ⟨a, _, rfl, .inl (ex_l e h1), ?_⟩
  rw [List.length_map]
  exact post_v e q (mk_int _)
theorem cb_sum {ns : List Int} : CbD K (rSum K) [.lst (ns.map D.int)] (.dat (.int ns.sum)) := fun B H vs e d E Q q => by
  obtain ⟨v, rfl, h⟩ := denL_one d
  obtain ⟨a, us, rfl, h1, h2⟩ := den_lst h
  rw [denL_ints h2] at h1
  exact ⟨a, ns, rfl, SqL.of (e a _ h1), post_v e q (mk_int _)⟩
theorem cb_any {ns : List Bool} : CbD K (rAny K) [.lst (ns.map D.bl)] (.dat (.bl (ns.any id))) := fun B H vs e d E Q q => by
  obtain ⟨v, rfl, h⟩ := denL_one d
  obtain ⟨a, us, rfl, h1, h2⟩ := den_lst h
  rw [denL_bls h2] at h1
  exact ⟨a, ns, rfl, SqL.of (e a _ h1), post_v e q (mk_bl _)⟩
theorem cb_all {ns : List Bool} : CbD K (rAll K) [.lst (ns.map D.bl)] (.dat (.bl (ns.all id))) := fun B H vs e d E Q q => by
  obtain ⟨v, rfl, h⟩ := denL_one d
  obtain ⟨a, us, rfl, h1, h2⟩ := den_lst h
  rw [denL_bls h2] at h1
  exact ⟨a, ns, rfl, SqL.of (e a _ h1), post_v e q (mk_bl _)⟩
abbrev rListOf (K : PySem.W.Frag) : List V → Hp → VK → Prop := fun xs H Q => ∃ p ys, xs = [V.ref p] ∧ (SqL K H p ys ∨ SqT K H p ys) ∧ ∀ l, H l = none → Q (.ref l) (upd H l (.lst ys))
theorem cb_list : CbD K (rListOf K) [.lst xs] (.new xs) := fun B H vs e d E Q q => by
  obtain ⟨v, rfl, h⟩ := denL_one d
  obtain ⟨a, us, rfl, h1, h2⟩ := den_lst h
  exact ⟨a, us, rfl, .inl (SqL.of (e a _ h1)), fun p hp => q p us _ _ (Gr.lay e hp) hp (fresh_back e hp) upd_same h2⟩
/-! isinstance of a built-in class -/
inductive TyD : D → String → Prop where
  | non : TyD .non "NoneType" | bl (b : Bool) : TyD (.bl b) "bool" | int (i : Int) : TyD (.int i) "int" | str (x : Str) : TyD (.str x) "str"
  | lst (xs : List D) : TyD (.lst xs) "list" | tup (xs : List D) : TyD (.tup xs) "tuple" | emp : TyD .emp "dict"
theorem TyD.to {T : String} {v : V} (h : TyD x T) (e : Ex B H) (d : Den K B x v) : TyX K H v (.type T) := by
  cases h with
  | non => rw [den_non d]; exact .base .non
  | bl b => rw [den_bl d]; exact .base (.bl b)
  | int i => rw [den_int d]; exact .base (.int i)
  | str i => rw [den_str d]; exact .base (.str i)
  | lst xs =>
    obtain ⟨a, us, rfl, h1, h2⟩ := den_lst d
    exact .base (.lst (e a _ h1))
  | tup xs =>
    obtain ⟨a, us, rfl, h1, h2⟩ := den_tup d
    exact .base (.tup (e a _ h1))
  | emp =>
    obtain ⟨a, rfl, h1⟩ := den_emp d
    exact .base (.dK (e a _ h1))
theorem cb_isi {T C : String} {b : Bool} (h : TyD x T) (hb : kitB T C = some b) : CbD K (rIsi K) [x, .ty C] (.dat (.bl b)) := fun B H vs e d E Q q => by
  obtain ⟨v, w, rfl, h1, h2⟩ := denL_two d
  simp only [Den] at h2
  subst h2
  exact ⟨v, _, _, _, b, rfl, .ty C, h.to e h1, kit_ty hb, post_v e q (mk_bl _)⟩
/-! slices -/
theorem eo_none : EvO K tNoPart sl none := fun B0 H0 B H σ sd Q q => q B H (Gr.refl sd.sub)
theorem eo_some {i : Int} (h : EvR K E0 te sl (.dat (.int i))) : EvO K (tPart te) sl (some i) := fun B0 H0 B H σ sd Q q => h B0 H0 B H σ sd _ fun v B1 H1 g1 d1 => ⟨i, den_int d1, q _ _ g1⟩
def cutD (xs : List D) (lo hi : Option Int) : List D := (xs.drop (HT.sIx xs.length 0 lo)).take (HT.sIx xs.length xs.length hi - HT.sIx xs.length 0 lo)
theorem ev_sl {tl th : TO} {lo hi : Option Int} (h : EvR K E te sl (.dat (.lst xs))) (hl : EvO K tl sl lo) (hh : EvO K th sl hi) : EvR K E (tSl (rSlL K) te tl th) sl (.new (cutD xs lo hi)) := fun B0 H0 B H σ sd Q q =>
  h B0 H0 B H σ sd _ fun v B1 H1 g1 d1 => hl B0 H0 B1 H1 σ (sd.grow g1) _ fun B2 H2 g2 => hh B0 H0 B2 H2 σ ((sd.grow g1).grow g2) _ fun B3 H3 g3 => by
    obtain ⟨a, us, rfl, h1, h2⟩ := den_lst d1
    have d2 := denL_mono (g2.eb.trans g3.eb) h2
    refine ⟨a, us, rfl, SqL.of (g3.sub _ _ (g3.eb _ _ (g2.eb _ _ h1))), fun p hp => ?_⟩
    refine q p _ _ _ (((g1.trans g2).trans g3).trans (Gr.lay g3.sub hp)) (g1.back (g2.back (g3.back hp))) (fresh_back g3.sub hp) upd_same ?_
    unfold cutD cutV
    rw [denL_len h2]
    exact denL_take _ (denL_drop _ d2)
theorem denL_rev : ∀ {ds : List D} {vs : List V}, DenL K B ds vs → DenL K B ds.reverse vs.reverse
  | [], vs, h => by
    rw [denL_inv0 h]
    exact denL_nil
  | d :: ds, vs, h => by
    obtain ⟨v, r, rfl, h2, h3⟩ := denL_inv h
    rw [List.reverse_cons, List.reverse_cons]
    exact denL_app (denL_rev h3) (denL_cons h2 denL_nil)
theorem ev_revL (h : EvR K E te sl (.dat (.lst xs))) : EvR K E (tRevL K te) sl (.new xs.reverse) := fun B0 H0 B H σ sd Q q =>
  h B0 H0 B H σ sd _ fun v B1 H1 g1 d1 => by
    obtain ⟨a, us, rfl, h1, h2⟩ := den_lst d1
    exact ⟨a, us, rfl, SqL.of (g1.sub _ _ h1), fun p hp => q p _ _ _ (g1.trans (Gr.lay g1.sub hp)) (g1.back hp) (fresh_back g1.sub hp) upd_same (denL_rev h2)⟩
end

/-! ### what is walked -/
def JOk (K : PySem.W.Frag) (B : Hp) (xs : List D) (J : It) : Prop := ∀ i H2, Ex B H2 → (∀ d, xs[i]? = some d → J.go i H2 ∧ ∀ x H3, J.yld i H2 x H3 → H3 = H2 ∧ Den K B d x) ∧ (xs.length ≤ i → J.stop i H2)
def ItE (K : PySem.W.Frag) (ti : TI) (sl : List Sl) (xs : List D) : Prop := ∀ B0 H0 B H σ, SD K B0 H0 B H σ sl → ∀ R : It → Hp → Prop, (∀ J B' H', Gr B H B' H' → JOk K B' xs J → R J H') → ti σ H R
section
variable {K : PySem.W.Frag} {E E' : XK} {B0 H0 B H B' H' : Hp} {σ : L2.St} {sl : List Sl} {ta tb tc te : TE} {t u : TT} {x y z d : D} {xs ys ds : List D} {tr : TA}
theorem JOk.mono (h : JOk K B xs J) (e : Ex B B') : JOk K B' xs J := fun i H2 e2 => by
  obtain ⟨h1, h2⟩ := h i H2 (e.trans e2)
  refine ⟨fun d hd => ?_, h2⟩
  obtain ⟨h3, h4⟩ := h1 d hd
  refine ⟨h3, fun x H3 hy => ?_⟩
  obtain ⟨h5, h6⟩ := h4 x H3 hy
  exact ⟨h5, den_mono e h6⟩
theorem it_list (h : EvR K E0 te sl (.dat (.lst xs))) : ItE K (iList K te) sl xs := fun B0 H0 B H σ sd R q =>
  h B0 H0 B H σ sd _ fun v B1 H1 g1 d1 => by
    obtain ⟨a, us, rfl, h1, h2⟩ := den_lst d1
    refine ⟨a, rfl, ⟨us, SqL.of (g1.sub _ _ h1)⟩, q _ _ _ g1 fun i H2 e2 => ⟨fun d hd => ?_, fun hl => ⟨us, SqL.of (e2 _ _ h1), by rw [← denL_len h2]; exact hl⟩⟩⟩
    obtain ⟨w, h3, h4⟩ := denL_get h2 hd
    refine ⟨⟨us, w, SqL.of (e2 _ _ h1), h3⟩, fun x H3 hy => ⟨hy.1, ?_⟩⟩
    have e := hy.2 us (SqL.of (e2 _ _ h1))
    rw [h3] at e
    cases e
    exact h4
theorem it_tup (h : EvR K E0 te sl (.dat (.tup xs))) : ItE K (iTup K te) sl xs := fun B0 H0 B H σ sd R q =>
  h B0 H0 B H σ sd _ fun v B1 H1 g1 d1 => by
    obtain ⟨a, us, rfl, h1, h2⟩ := den_tup d1
    refine ⟨a, rfl, ⟨us, SqT.of (g1.sub _ _ h1)⟩, q _ _ _ g1 fun i H2 e2 => ⟨fun d hd => ?_, fun hl => ⟨us, SqT.of (e2 _ _ h1), by rw [← denL_len h2]; exact hl⟩⟩⟩
    obtain ⟨w, h3, h4⟩ := denL_get h2 hd
    refine ⟨⟨us, w, SqT.of (e2 _ _ h1), h3⟩, fun x H3 hy => ⟨hy.1, ?_⟩⟩
    have e := hy.2 us (SqT.of (e2 _ _ h1))
    rw [h3] at e
    cases e
    exact h4
/-- the numbers from lo on, n of them -/
def rng (lo : Int) (n : Nat) : List Int := (List.range n).map fun (i : Nat) => lo + (i : Int)
theorem rng_len (lo : Int) (n : Nat) : (rng lo n).length = n := by simp [rng]
theorem rng_get {lo : Int} {n i : Nat} (h : i < n) : (rng lo n)[i]? = some (lo + (i : Int)) := by
  simp [rng, h]
theorem mem_rng {lo j : Int} {n : Nat} : j ∈ rng lo n ↔ lo ≤ j ∧ j < lo + n := by
  unfold rng
  rw [List.mem_map]
  constructor
  · rintro ⟨i, h, rfl⟩
    rw [List.mem_range] at h
    omega
  · rintro ⟨h1, h2⟩
    exact ⟨(j - lo).toNat, by rw [List.mem_range]; omega, by omega⟩
theorem jok_rng (lo : Int) (n : Nat) : JOk K B ((rng lo n).map D.int) (Itr lo n) := fun i H2 e2 => by
  refine ⟨fun d hd => ?_, fun hl => ?_⟩
  · have hi : i < n := by
      have z := (List.getElem?_eq_some_iff.mp hd).1
      rwa [List.length_map, rng_len] at z
    rw [List.getElem?_map, rng_get hi] at hd
    cases hd
    refine ⟨hi, fun x H3 hy => ⟨hy.1, ?_⟩⟩
    rw [hy.2]
    exact mk_int _
  · rw [List.length_map, rng_len] at hl
    exact hl
theorem it_rng1 {n : Int} (h : EvA K tr sl [.int n]) (hn : n < 2 ^ 62) (h0 : -(2 ^ 62) ≤ n := by omega) : ItE K (iRng1 tr) sl ((rng 0 n.toNat).map D.int) := fun B0 H0 B H σ sd R q =>
  h B0 H0 B H σ sd _ fun vs B1 H1 g1 d1 => by
    obtain ⟨v, rfl, h1⟩ := denL_one d1
    rw [den_int h1]
    exact ⟨n, rfl, h0, hn, q _ _ _ g1 (jok_rng 0 _)⟩
theorem it_rng2 {lo n : Int} (h : EvA K tr sl [.int lo, .int n]) (hl : -(2 ^ 62) ≤ lo ∧ lo < 2 ^ 62) (hn : -(2 ^ 62) ≤ n ∧ n < 2 ^ 62) : ItE K (iRng2 tr) sl ((rng lo (n - lo).toNat).map D.int) := fun B0 H0 B H σ sd R q =>
  h B0 H0 B H σ sd _ fun vs B1 H1 g1 d1 => by
    obtain ⟨v, w, rfl, h1, h2⟩ := denL_two d1
    rw [den_int h1, den_int h2]
    exact ⟨lo, n, rfl, ⟨hl.1, hl.2, hn.1, hn.2⟩, q _ _ _ g1 (jok_rng lo _)⟩
/-! ### comprehensions -/
def wipeS (sl : List Sl) : List Nat → List Sl
  | [] => sl
  | v :: vs => (wipeS sl vs).set v .un
theorem SD.wipe : ∀ (vs : List Nat), SD K B0 H0 B H σ sl → SD K B0 H0 B H (L2.wipe σ vs) (wipeS sl vs)
  | [], s => s
  | v :: vs, s => (SD.wipe vs s).setUn
theorem wipe_set {j : Nat} {x : Option V} : ∀ {vs : List Nat} (σ : L2.St), j ∈ vs → L2.wipe (σ.set j x) vs = L2.wipe σ vs
  | [], _, h => by simp at h
  | v :: vs, σ, h => by
    show (L2.wipe (σ.set j x) vs).set v none = (L2.wipe σ vs).set v none
    rcases List.mem_cons.mp h with e | e
    · subst e
      by_cases m : j ∈ vs
      · rw [wipe_set σ m]
      · have k : ∀ {vs : List Nat} (σ : L2.St), j ∉ vs → L2.wipe (σ.set j x) vs = (L2.wipe σ vs).set j x := by
          intro vs
          induction vs with
          | nil => intro σ _; rfl
          | cons w ws ih =>
            intro σ hm
            show (L2.wipe (σ.set j x) ws).set w none = ((L2.wipe σ ws).set w none).set j x
            rw [ih σ fun z => hm (List.mem_cons_of_mem _ z), List.set_comm]
            exact fun z => hm (by rw [z]; exact List.mem_cons_self)
        rw [k σ m, List.set_set]
    · rw [wipe_set σ e]
theorem wipe_len' (σ : L2.St) : ∀ vs : List Nat, (L2.wipe σ vs).length = σ.length := L2.wipe_length σ
theorem wipe_wipe (σ : L2.St) (vs : List Nat) : L2.wipe (L2.wipe σ vs) vs = L2.wipe σ vs := by
  have k : ∀ (us : List Nat) (σ : L2.St), (∀ v ∈ us, v ∈ vs) → L2.wipe (L2.wipe σ us) vs = L2.wipe σ vs := by
    intro us
    induction us with
    | nil => intro σ _; rfl
    | cons w ws ih =>
      intro σ hm
      show L2.wipe ((L2.wipe σ ws).set w none) vs = L2.wipe σ vs
      rw [wipe_set _ (hm w List.mem_cons_self)]
      exact ih σ fun v hv => hm v (List.mem_cons_of_mem _ hv)
  exact k vs σ fun _ h => h
def givenD (n : Nat) (f : Nat → Bool) (v : Nat → D) : List D := ((List.range n).filter f).map v
theorem givenD_yes {n : Nat} {f : Nat → Bool} {v : Nat → D} (h : f n = true) : givenD (n + 1) f v = givenD n f v ++ [v n] := by
  unfold givenD
  rw [List.range_succ, List.filter_append, List.map_append, List.filter_cons, if_pos h]
  rfl
theorem givenD_no {n : Nat} {f : Nat → Bool} {v : Nat → D} (h : f n = false) : givenD (n + 1) f v = givenD n f v := by
  unfold givenD
  rw [List.range_succ, List.filter_append, List.map_append, List.filter_cons, if_neg (by rw [h]; decide)]
  show _ ++ [] = _
  rw [List.append_nil]
theorem givenD_len (n : Nat) (f : Nat → Bool) (v : Nat → D) : (givenD n f v).length ≤ n := by
  unfold givenD
  rw [List.length_map]
  have h := List.length_filter_le f (List.range n)
  rw [List.length_range] at h
  exact h
theorem ev_lcI {ti : TI} {j : Nat} {vs : List Nat} (f : Nat → Bool) (v : Nat → D) (hi : ItE K ti sl xs) (hz : xs.length ≤ 1000000) (hj : j ∈ vs)
    (ht : ∀ (i : Nat) d, xs[i]? = some d → EvT K t ((wipeS sl vs).set j (.fz d)) (f i)) (he : ∀ (i : Nat) d, xs[i]? = some d → f i = true → EvR K E0 te ((wipeS sl vs).set j (.fz d)) (.dat (v i))) :
    EvR K E (tLc ti (gName j) t te vs) sl (.new (givenD xs.length f v)) := fun B0 H0 B H σ sd Q q => by
  refine hi B0 H0 B H σ sd _ fun J B1 H1 g1 jo Dl hD => ?_
  have sd1 := (sd.grow g1).wipe vs
  -- the list grows at Dl, which is no data's
  refine ⟨fun i m H2 => m = xs.length - i ∧ i ≤ xs.length ∧ ∃ B2 acc, Gr B1 H1 B2 H2 ∧ B2 Dl = none ∧ H2 Dl = some (.lst acc) ∧ DenL K B2 (givenD i f v) acc, ⟨xs.length, by simp, Nat.zero_le _, B1, [], Gr.lay g1.sub hD, fresh_back g1.sub hD, upd_same, denL_nil⟩, ?_⟩
  rintro i m H2 ⟨rfl, hi2, B2, acc, g2, b2, h2, d2⟩
  obtain ⟨jg, js⟩ := (jo.mono g2.eb) i H2 g2.sub
  by_cases hlt : i < xs.length
  · right
    have hx : xs[i]? = some xs[i] := by simp [hlt]
    obtain ⟨go, yl⟩ := jg _ hx
    refine ⟨go, fun H' => i + 1 ≤ xs.length ∧ ∃ B2 acc, Gr B1 H1 B2 H' ∧ B2 Dl = none ∧ H' Dl = some (.lst acc) ∧ DenL K B2 (givenD (i + 1) f v) acc, fun H' ⟨h1, h3⟩ => ⟨xs.length - (i + 1), by omega, rfl, h1, h3⟩, fun x H3 hy => ?_⟩
    obtain ⟨e3, dx⟩ := yl x H3 hy
    rw [e3]
    have sd2 : SD K B0 H0 B2 H2 ((L2.wipe σ vs).set j (some x)) ((wipeS sl vs).set j (.fz xs[i])) := (sd1.grow g2).setFz dx
    refine ⟨by rw [wipe_set _ hj, wipe_wipe], ?_⟩
    refine ht i _ hx B0 H0 B2 H2 _ sd2 _ fun B3 H3 g3 => ?_
    have b3 : B3 Dl = none := g3.out Dl b2 (by rw [h2]; simp)
    cases hf : f i with
    | false =>
      rw [if_neg Bool.false_ne_true]
      exact ⟨hlt, B3, acc, g2.trans g3, b3, g3.eh _ _ h2, by rw [givenD_no hf]; exact denL_mono g3.eb d2⟩
    | true =>
      rw [if_pos rfl]
      refine he i _ hx hf B0 H0 B3 H3 _ (sd2.grow g3) _ fun y B4 H4 g4 d4 => ?_
      have b4 : B4 Dl = none := g4.out Dl b3 (by rw [g3.eh _ _ h2]; simp)
      have h4 : H4 Dl = some (.lst acc) := g4.eh _ _ (g3.eh _ _ h2)
      have hacc : acc.length ≤ 1000000 := by
        rw [← denL_len d2]
        have := givenD_len i f v
        omega
      have sz : acc.length < sizeLine := by
        rw [sizeLine_eq]
        omega
      refine ⟨acc, h4, sz, hlt, B4, acc ++ [y], ?_, b4, upd_same, ?_⟩
      · have g := (g2.trans g3).trans g4
        refine ⟨g.eb, fun a o h => ?_, fun a o h => ?_, g.out⟩
        · rw [upd_ne (ne_of_none h hD)]
          exact g.eh a o h
        · rw [upd_ne (ne_of_none h b4)]
          exact g.sub a o h
      · rw [givenD_yes hf]
        exact denL_app (denL_mono (g3.eb.trans g4.eb) d2) (denL_cons d4 denL_nil)
  · left
    have e : i = xs.length := by omega
    subst e
    exact ⟨js (Nat.le_refl _), q _ _ _ _ (g1.trans g2) (g1.back hD) b2 h2 d2⟩
theorem givenD_eq {α : Type} (ys : List α) (f : α → Bool) (v : α → D) (g : Nat → Bool) (w : Nat → D) (h : ∀ i a, ys[i]? = some a → g i = f a ∧ w i = v a) : givenD ys.length g w = (ys.filter f).map v := by
  have k : ∀ n, n ≤ ys.length → givenD n g w = ((ys.take n).filter f).map v := by
    intro n
    induction n with
    | zero => intro _; simp [givenD]
    | succ n ih =>
      intro hn
      have hx : ys[n]? = some ys[n] := List.getElem?_eq_getElem hn
      obtain ⟨e1, e2⟩ := h n _ hx
      have et : ys.take (n + 1) = ys.take n ++ [ys[n]] := by
        rw [List.take_succ, hx]
        rfl
      rw [et, List.filter_append, List.map_append, ← ih (by omega)]
      cases hf : g n with
      | true =>
        rw [givenD_yes hf, List.filter_cons, if_pos (by rw [← e1]; exact hf), e2]
        rfl
      | false =>
        rw [givenD_no hf, List.filter_cons, if_neg (by rw [← e1, hf]; decide)]
        simp
  rw [k ys.length (Nat.le_refl _), List.take_length]
/-- over c of each of ys, with a test -/
theorem ev_lcF {α : Type} {ys : List α} {c : α → D} {f : α → Bool} {v : α → D} {ti : TI} {j : Nat} {vs : List Nat} (hi : ItE K ti sl (ys.map c)) (hz : ys.length ≤ 1000000) (hj : j ∈ vs)
    (ht : ∀ a, a ∈ ys → EvT K t ((wipeS sl vs).set j (.fz (c a))) (f a)) (he : ∀ a, a ∈ ys → f a = true → EvR K E0 te ((wipeS sl vs).set j (.fz (c a))) (.dat (v a))) :
    EvR K E (tLc ti (gName j) t te vs) sl (.new ((ys.filter f).map v)) := by
  cases ys with
  | nil =>
    have h := ev_lcI (E := E) (t := t) (te := te) (vs := vs) (fun _ => false) (fun _ => D.non) hi (by simp) hj (fun i d h => by simp at h) (fun i d h => by simp at h)
    simpa [givenD] using h
  | cons a0 ar =>
    have key := ev_lcI (E := E) (t := t) (te := te) (vs := vs) (fun i => f ((a0 :: ar)[i]?.getD a0)) (fun i => v ((a0 :: ar)[i]?.getD a0)) hi (by rw [List.length_map]; exact hz) hj
      (fun i d h => by
        rw [List.getElem?_map] at h
        cases e : (a0 :: ar)[i]? with
        | none => rw [e] at h; cases h
        | some a =>
          rw [e] at h
          cases h
          exact ht a (List.mem_of_getElem? e))
      (fun i d h hf => by
        rw [List.getElem?_map] at h
        cases e : (a0 :: ar)[i]? with
        | none => rw [e] at h; cases h
        | some a =>
          rw [e] at h
          cases h
          have hf' : f a = true := by simpa [e] using hf
          exact he a (List.mem_of_getElem? e) hf')
    rw [List.length_map, givenD_eq (a0 :: ar) f v _ _ (fun i a h => by simp [h])] at key
    exact key
/-- .. without one -/
theorem ev_lcM {α : Type} {ys : List α} {c : α → D} {v : α → D} {ti : TI} {j : Nat} {vs : List Nat} (hi : ItE K ti sl (ys.map c)) (hz : ys.length ≤ 1000000) (hj : j ∈ vs)
    (he : ∀ a, a ∈ ys → EvR K E0 te ((wipeS sl vs).set j (.fz (c a))) (.dat (v a))) : EvR K E (tLc ti (gName j) tYes te vs) sl (.new (ys.map v)) := by
  have h := ev_lcF (E := E) (f := fun _ => true) (t := tYes) hi hz hj (fun a _ => et_yes) (fun a ha _ => he a ha)
  rwa [List.filter_eq_self.mpr (fun _ _ => rfl)] at h
end
end Wv
namespace Wv
open PySem L2
open Evl (Ex fresh_back ex_l)

/-! ### statements -/
structure En where
  nx : List Sl → Prop
  rt : Rs → Prop
  bk : List Sl → Prop := fun _ => False
  ct : List Sl → Prop := fun _ => False
/-- .. a new list: new to Hf -/
def PostF (K : PySem.W.Frag) (E : XK) (B H Hf : Hp) (Q : VK) : Rs → Prop
  | .new xs => ∀ p vs B' H', Gr B H B' H' → Hf p = none → B' p = none → H' p = some (.lst vs) → DenL K B' xs vs → Q (.ref p) H'
  | .frs d => ∀ v N B' H', Gr B H B' H' → Ex N B' → New N Hf → Den K N d v → Q v H'
  | r => Post K E B H Q r
theorem PostF.post {K : PySem.W.Frag} {E : XK} {B H Hf : Hp} {Q : VK} {r : Rs} (h : PostF K E B H Hf Q r) (e : Ex Hf H) : Post K E B H Q r := by
  cases r with
  | new xs => exact fun p vs B' H' g h0 h1 h2 h3 => h p vs B' H' g (fresh_back e h0) h1 h2 h3
  | frs d => exact fun v N B' H' g e1 n dv => h v N B' H' g e1 (fun p o z => fresh_back e (n p o z)) dv
  | dat d => exact h
  | exc C => exact h
theorem PostF.shift {K : PySem.W.Frag} {E : XK} {B H B' H' Hf : Hp} {Q : VK} {r : Rs} (g : Gr B H B' H') (h : PostF K E B H Hf Q r) : PostF K E B' H' Hf Q r := by
  cases r with
  | new xs => exact fun p vs B2 H2 g2 h0 h1 h2 h3 => h p vs B2 H2 (g.trans g2) h0 h1 h2 h3
  | frs d => exact fun v N B2 H2 g2 e1 n dv => h v N B2 H2 (g.trans g2) e1 n dv
  | dat d => exact Post.shift (E := E) (r := .dat d) g h
  | exc C => exact Post.shift (K := K) (Q := Q) (E := E) (r := .exc C) g h
theorem PostF.of {K : PySem.W.Frag} {E : XK} {B H : Hp} {Q : VK} {r : Rs} (h : Post K E B H Q r) : PostF K E B H H Q r := by
  cases r with
  | new xs => exact h
  | frs d => exact h
  | dat d => exact h
  | exc C => exact h
structure Mt (K : PySem.W.Frag) (E : XK) (B0 H0 : Hp) (P : En) (D : Ends) : Prop where
  nx : ∀ B H σ sl, SD K B0 H0 B H σ sl → P.nx sl → D.nx σ H
  bk : ∀ B H σ sl, SD K B0 H0 B H σ sl → P.bk sl → D.bk σ H
  ct : ∀ B H σ sl, SD K B0 H0 B H σ sl → P.ct sl → D.ct σ H
  rt : ∀ r B H, Gr B0 H0 B H → P.rt r → PostF K E B H H0 D.rt r
def W (K : PySem.W.Frag) (E : XK) (t : TS) (sl : List Sl) (P : En) : Prop := ∀ B0 H0 B H σ D, SD K B0 H0 B H σ sl → Mt K E B0 H0 P D → t D σ H
/-- a target takes d -/
def GW (K : PySem.W.Frag) (g : TG) (d : D) (sl : List Sl) (P : List Sl → Prop) : Prop := ∀ B0 H0 B H σ v, SD K B0 H0 B H σ sl → Den K B d v → ∀ Q : L2.St → Hp → Prop, (∀ σ' sl', SD K B0 H0 B H σ' sl' → P sl' → Q σ' H) → g v σ H Q
def GWs (K : PySem.W.Frag) (g : TGs) (ds : List D) (sl : List Sl) (P : List Sl → Prop) : Prop := ∀ B0 H0 B H σ vs, SD K B0 H0 B H σ sl → DenL K B ds vs → ∀ Q : L2.St → Hp → Prop, (∀ σ' sl', SD K B0 H0 B H σ' sl' → P sl' → Q σ' H) → g vs σ H Q
section
variable {K : PySem.W.Frag} {E E' : XK} {B0 H0 B H B' H' B1 H1 : Hp} {σ : L2.St} {sl sl' : List Sl} {ta tb tc te : TE} {c : TT} {t u : TS} {x y z d : D} {xs ys ds : List D} {tr : TA} {P P' : En} {Dd : Ends}
theorem SD.rebase (s : SD K B0 H0 B H σ sl) : SD K B H0 B H σ sl :=
  ⟨⟨Ex.refl _, s.gr.eh, s.gr.sub, fun p h1 h2 => h1⟩, s.len, s.fz, s.ow, s.ob, s.ap, s.rg⟩
theorem gr_un (g0 : Gr B0 H0 B1 H1) (g : Gr B1 H0 B H) : Gr B0 H0 B H := ⟨g0.eb.trans g.eb, g.eh, g.sub, fun p h1 h2 => g.out p (g0.out p h1 h2) h2⟩
theorem SD.unbase (g0 : Gr B0 H0 B1 H1) (s : SD K B1 H0 B H σ sl) : SD K B0 H0 B H σ sl := ⟨gr_un g0 s.gr, s.len, s.fz, s.ow, s.ob, s.ap, s.rg⟩
theorem Mt.mono (h : Mt K E B0 H0 P Dd) (h1 : ∀ s, P'.nx s → P.nx s) (h2 : ∀ s, P'.bk s → P.bk s) (h3 : ∀ s, P'.ct s → P.ct s) (h4 : ∀ s, P'.rt s → P.rt s) : Mt K E B0 H0 P' Dd :=
  ⟨fun B H σ sl s q => h.nx B H σ sl s (h1 _ q), fun B H σ sl s q => h.bk B H σ sl s (h2 _ q), fun B H σ sl s q => h.ct B H σ sl s (h3 _ q), fun r B H g q => h.rt r B H g (h4 _ q)⟩
theorem w_mono (h : W K E t sl P') (h1 : ∀ s, P'.nx s → P.nx s) (h2 : ∀ s, P'.bk s → P.bk s) (h3 : ∀ s, P'.ct s → P.ct s) (h4 : ∀ s, P'.rt s → P.rt s) : W K E t sl P := fun B0 H0 B H σ D sd m => h B0 H0 B H σ D sd (m.mono h1 h2 h3 h4)
theorem w_fgt (f : Fgt sl sl') (h : W K E t sl' P) : W K E t sl P := fun B0 H0 B H σ D sd m => h B0 H0 B H σ D (sd.fgt f) m
theorem w_fix {i : Nat} (hi : sl[i]? = some (.ow xs)) (h : W K E t (sl.set i (.fz (.lst xs))) P) : W K E t sl P := fun B0 H0 B H σ D sd m => by
  obtain ⟨B', _, sd'⟩ := sd.fix hi
  exact h B0 H0 B' H σ D sd' m
theorem w_seq (h : W K E t sl { P with nx := fun s => W K E u s P }) : W K E (tSeq t u) sl P := fun B0 H0 B H σ D sd m =>
  h B0 H0 B H σ { D with nx := u D } sd ⟨fun B H σ sl s q => q B0 H0 B H σ D s m, m.bk, m.ct, m.rt⟩
theorem w_next (h : P.nx sl) : W K E tNext sl P := fun B0 H0 B H σ D sd m => m.nx B H σ sl sd h
theorem w_brk (h : P.bk sl) : W K E tBreak sl P := fun B0 H0 B H σ D sd m => m.bk B H σ sl sd h
theorem w_cnt (h : P.ct sl) : W K E tCont sl P := fun B0 H0 B H σ D sd m => m.ct B H σ sl sd h
theorem w_ret {r : Rs} (h : EvR K E te sl r) (k : P.rt r) : W K E (tRet te) sl P := fun B0 H0 B H σ D sd m => h B0 H0 B H σ sd D.rt ((m.rt r B H sd.gr k).post sd.gr.eh)
theorem w_retO {i : Nat} (hi : sl[i]? = some (.ow xs)) (k : P.rt (.new xs)) : W K E (tRet (tVar i)) sl P := fun B0 H0 B H σ D sd m => by
  obtain ⟨p, vs, h1, h2, h3, h4, h5⟩ := sd.ow i xs hi
  exact ⟨_, h1, m.rt _ B H sd.gr k p vs B H (Gr.refl sd.sub) h2 h3 h4 h5⟩
theorem w_retN (k : P.rt (.dat .non)) : W K E tRetN sl P := fun B0 H0 B H σ D sd m => post_v (E := E) sd.sub (m.rt _ B H sd.gr k) mk_non
theorem w_if {b : Bool} (h : EvT K c sl b) (h1 : b = true → W K E t sl P) (h2 : b = false → W K E u sl P) : W K E (tIfS c t u) sl P := fun B0 H0 B H σ D sd m =>
  h B0 H0 B H σ sd _ fun B1 H1 g1 => by
    cases b with
    | true =>
      rw [if_pos rfl]
      exact h1 rfl B0 H0 B1 H1 σ D (sd.grow g1) m
    | false =>
      rw [if_neg Bool.false_ne_true]
      exact h2 rfl B0 H0 B1 H1 σ D (sd.grow g1) m
theorem w_ifT (h : EvT K c sl true) (h1 : W K E t sl P) : W K E (tIfS c t u) sl P := w_if h (fun _ => h1) fun z => nomatch z
theorem w_ifF (h : EvT K c sl false) (h1 : W K E u sl P) : W K E (tIfS c t u) sl P := w_if h (fun z => nomatch z) fun _ => h1
theorem w_asg {i : Nat} (h : EvR K E te sl (.dat d)) (k : P.nx (sl.set i (.fz d))) : W K E (tAsg te (gName i)) sl P := fun B0 H0 B H σ D sd m =>
  h B0 H0 B H σ sd _ fun v B1 H1 g1 d1 => m.nx B1 H1 _ _ ((sd.grow g1).setFz d1) k
theorem w_asgN {i : Nat} (h : EvR K E te sl (.new xs)) (k : P.nx (sl.set i (.ow xs))) : W K E (tAsg te (gName i)) sl P := fun B0 H0 B H σ D sd m =>
  h B0 H0 B H σ sd _ fun p vs B1 H1 g1 h0 h1 h2 h3 => m.nx B1 H1 _ _ (sd.setNew g1 h0 h1 h2 h3) k
theorem w_asgX {g : TG} {C : Addr} (h : EvR K E te sl (.exc C)) (k : P.rt (.exc C)) : W K E (tAsg te g) sl P := fun B0 H0 B H σ D sd m =>
  h B0 H0 B H σ sd _ fun B1 H1 g1 => m.rt _ B H sd.gr k B1 H1 g1
theorem w_asgG {g : TG} (h : EvR K E te sl (.dat d)) (hg : GW K g d sl P.nx) : W K E (tAsg te g) sl P := fun B0 H0 B H σ D sd m =>
  h B0 H0 B H σ sd _ fun v B1 H1 g1 d1 => hg B0 H0 B1 H1 σ v (sd.grow g1) d1 D.nx fun σ' sl' s' p => m.nx B1 H1 σ' sl' s' p
theorem w_drop (h : EvR K E te sl (.dat d)) (k : P.nx sl) : W K E (tDrop te) sl P := fun B0 H0 B H σ D sd m =>
  h B0 H0 B H σ sd _ fun v B1 H1 g1 d1 => m.nx B1 H1 _ _ (sd.grow g1) k
theorem w_dropX {C : Addr} (h : EvR K E te sl (.exc C)) (k : P.rt (.exc C)) : W K E (tDrop te) sl P := fun B0 H0 B H σ D sd m =>
  h B0 H0 B H σ sd _ fun B1 H1 g1 => m.rt _ B H sd.gr k B1 H1 g1
theorem w_aug {i : Nat} {f : Int → Int → Int} {a b : Int} (hi : sl[i]? = some (.fz (.int a))) (h : EvR K E te sl (.dat (.int b))) (k : P.nx (sl.set i (.fz (.int (f a b))))) : W K E (tAug i te (ipI f)) sl P := fun B0 H0 B H σ D sd m => by
  obtain ⟨v, h1, h2⟩ := sd.fz i _ hi
  rw [den_int h2] at h1
  refine ⟨_, h1, h B0 H0 B H σ sd _ fun v B1 H1 g1 d1 => ?_⟩
  rw [den_int d1]
  exact ⟨a, b, rfl, rfl, m.nx B1 H1 _ _ ((sd.grow g1).setFz (mk_int _)) k⟩
theorem w_par {i j : Nat} {d1 d2 : D} (h : EvA K tr sl [d1, d2]) (k : P.nx ((sl.set i (.fz d1)).set j (.fz d2))) : W K E (tPar i j tr) sl P := fun B0 H0 B H σ D sd m =>
  h B0 H0 B H σ sd _ fun vs B1 H1 g1 dd => by
    obtain ⟨v, w, rfl, e1, e2⟩ := denL_two dd
    exact ⟨v, w, rfl, m.nx B1 H1 _ _ (((sd.grow g1).setFz e1).setFz e2) k⟩
/-- xs.append(e), xs one's own -/
theorem w_app {i : Nat} (hi : sl[i]? = some (.ow xs)) (h : EvR K E te sl (.dat d)) (hz : xs.length < 1000000) (k : P.nx (sl.set i (.ow (xs ++ [d])))) : W K E (tDrop (tBM K "list" rAppend (tVar i) (tCons te tNil))) sl P := fun B0 H0 B H σ D sd m => by
  obtain ⟨p, vs, h1, h2, h3, h4, h5⟩ := sd.ow i xs hi
  refine ⟨_, h1, .inl ⟨rfl, _, .inl (.inl h4)⟩, h B0 H0 B H σ sd _ fun v B1 H1 g1 d1 => ?_⟩
  obtain ⟨q, us, e1, e2, e3, e4, e5⟩ := (sd.grow g1).ow i xs hi
  rw [h1] at e1
  cases e1
  refine ⟨p, us, v, rfl, rfl, e4, ?_, m.nx _ _ _ _ ((sd.grow g1).mut hi h1 (denL_app e5 (denL_cons d1 denL_nil))) k⟩
  rw [← denL_len e5, sizeLine_eq]
  omega
/-- .. its elements alone matter: the appended thing may be read with one's own lists as data -/
def frS : Sl → Sl
  | .ow xs => .fz (.lst xs)
  | .rg d => .fz d
  | s => s
theorem SD.fr (s : SD K B0 H0 B H σ sl) (ho : ∀ p0 C ns es, Sl.ob p0 C ns es ∉ sl) : SD K H0 H0 H H σ (sl.map frS) ∧ Ex B H := by
  refine ⟨⟨⟨s.gr.eh, s.gr.eh, Ex.refl _, fun p h1 h2 => absurd h1 h2⟩, by simpa using s.len, fun i d e => ?_, fun i xs e => ?_, fun i p0 C ns es e => ?_, fun i j xs ys p e1 => ?_, fun i d e => ?_⟩, s.sub⟩
  · rw [List.getElem?_map] at e
    cases q : sl[i]? with
    | none => rw [q] at e; cases e
    | some a =>
      rw [q] at e
      cases a with
      | un => cases e
      | ob p0 C ns es => cases e
      | fz d' =>
        cases e
        obtain ⟨v, h1, h2⟩ := s.fz i _ q
        exact ⟨v, h1, den_mono s.sub h2⟩
      | ow xs =>
        cases e
        obtain ⟨p, vs, h1, h2, h3, h4, h5⟩ := s.ow i xs q
        exact ⟨_, h1, mk_lst h4 (denL_mono s.sub h5)⟩
      | rg d' =>
        cases e
        obtain ⟨v, N, h1, h2, h3, h4, h5, h6⟩ := s.rg i _ q
        exact ⟨v, h1, den_mono h4 h5⟩
  · rw [List.getElem?_map] at e
    cases q : sl[i]? with
    | none => rw [q] at e; cases e
    | some a => rw [q] at e; cases a <;> cases e
  · rw [List.getElem?_map] at e
    cases q : sl[i]? with
    | none => rw [q] at e; cases e
    | some a =>
      rw [q] at e
      cases a with
      | ob p0' C' ns' es' => exact absurd (List.mem_of_getElem? q) (ho _ _ _ _)
      | un => cases e
      | fz _ => cases e
      | ow _ => cases e
      | rg _ => cases e
  · rw [List.getElem?_map] at e1
    cases q : sl[i]? with
    | none => rw [q] at e1; cases e1
    | some a => rw [q] at e1; cases a <;> cases e1
  · rw [List.getElem?_map] at e
    cases q : sl[i]? with
    | none => rw [q] at e; cases e
    | some a => rw [q] at e; cases a <;> cases e
def noOb : List Sl → Bool
  | [] => true
  | .ob _ _ _ _ :: _ => false
  | _ :: l => noOb l
theorem noOb_mem : ∀ {sl : List Sl}, noOb sl = true → ∀ p0 C ns es, Sl.ob p0 C ns es ∉ sl
  | [], _, _, _, _, _, h => nomatch h
  | .un :: l, h, p0, C, ns, es, m => by
    rcases List.mem_cons.mp m with z | z
    · cases z
    · exact noOb_mem (sl := l) h p0 C ns es z
  | .fz d :: l, h, p0, C, ns, es, m => by
    rcases List.mem_cons.mp m with z | z
    · cases z
    · exact noOb_mem (sl := l) h p0 C ns es z
  | .ow d :: l, h, p0, C, ns, es, m => by
    rcases List.mem_cons.mp m with z | z
    · cases z
    · exact noOb_mem (sl := l) h p0 C ns es z
  | .rg d :: l, h, p0, C, ns, es, m => by
    rcases List.mem_cons.mp m with z | z
    · cases z
    · exact noOb_mem (sl := l) h p0 C ns es z
  | .ob _ _ _ _ :: l, h, p0, C, ns, es, m => by cases h
/-- an expression that reads one's own lists too, and gives a scalar -/
theorem gr_fr (s : SD K B0 H0 B H σ sl) (g : Gr H H B' H') : Gr B H B H' := ⟨Ex.refl _, g.eh, s.sub.trans g.eh, fun p h1 _ => h1⟩
theorem ev_fr (h : EvR K E te (sl.map frS) (.dat d)) (hs : sca d = true) (ho : noOb sl = true := by rfl) : EvR K E te sl (.dat d) := fun B0 H0 B H σ sd Q q =>
  h H0 H0 H H σ (sd.fr (noOb_mem ho)).1 Q fun v B1 H1 g1 d1 => q v B H1 (gr_fr sd g1) (den_sca hs d1)
theorem et_fr {b : Bool} (h : EvT K c (sl.map frS) b) (ho : noOb sl = true := by rfl) : EvT K c sl b := fun B0 H0 B H σ sd Q q =>
  h H0 H0 H H σ (sd.fr (noOb_mem ho)).1 Q fun B1 H1 g1 => q B H1 (gr_fr sd g1)
/-- .. a new list of scalars -/
theorem ev_frN (h : EvR K E te (sl.map frS) (.new xs)) (hs : ∀ d ∈ xs, sca d = true) (ho : noOb sl = true := by rfl) : EvR K E te sl (.new xs) := fun B0 H0 B H σ sd Q q =>
  h H0 H0 H H σ (sd.fr (noOb_mem ho)).1 Q fun p vs B1 H1 g1 h0 h1 h2 h3 => q p vs B H1 (gr_fr sd g1) h0 (fresh_back sd.sub h0) h2 (denL_sca hs h3)
/-- .. new objects alone -/
theorem ev_frF (h : EvR K E te (sl.map frS) (.frs d)) (ho : noOb sl = true := by rfl) : EvR K E te sl (.frs d) := fun B0 H0 B H σ sd Q q =>
  h H0 H0 H H σ (sd.fr (noOb_mem ho)).1 Q fun v N B1 H1 g1 e n dv => by
    have nb : ∀ p o, B p = some o → N p = none := fun p o z => by
      cases w : N p with
      | none => rfl
      | some u =>
        have := n p u w
        rw [sd.sub p o z] at this
        cases this
    refine q v N (fun p => match N p with | some o => some o | none => B p) H1 ⟨fun p o z => ?_, g1.eh, fun p o z => ?_, fun p h1 h2 => ?_⟩ (fun p o z => ?_) n dv
    · show (match N p with | some o => some o | none => B p) = some o
      rw [nb p o z]
      exact z
    · have z : (match N p with | some o => some o | none => B p) = some o := z
      cases w : N p with
      | none =>
        rw [w] at z
        exact g1.eh p o (sd.sub p o z)
      | some u =>
        rw [w] at z
        cases z
        exact g1.sub p _ (e p _ w)
    · show (match N p with | some o => some o | none => B p) = none
      cases w : N p with
      | none => exact h1
      | some u => exact absurd (n p u w) h2
    · show (match N p with | some o => some o | none => B p) = some o
      rw [z]
/-! targets -/
theorem gw_name {j : Nat} {P : List Sl → Prop} (h : P (sl.set j (.fz d))) : GW K (gName j) d sl P := fun B0 H0 B H σ v sd dv Q q => q _ _ (sd.setFz dv) h
theorem gws_nil {P : List Sl → Prop} (h : P sl) : GWs K gNil [] sl P := fun B0 H0 B H σ vs sd dv Q q => ⟨denL_inv0 dv, q _ _ sd h⟩
theorem gws_cons {g : TG} {gs : TGs} {P : List Sl → Prop} (h : GW K g d sl fun s => GWs K gs ds s P) : GWs K (gCons g gs) (d :: ds) sl P := fun B0 H0 B H σ vs sd dv Q q => by
  obtain ⟨v, r, rfl, h1, h2⟩ := denL_inv dv
  exact ⟨v, r, rfl, h B0 H0 B H σ v sd h1 _ fun σ' sl' s' hp => hp B0 H0 B H σ' r s' h2 Q q⟩
theorem gw_tup {gs : TGs} {n : Nat} {P : List Sl → Prop} (hn : ds.length = n) (h : GWs K gs ds sl P) : GW K (gTup K n gs) (.tup ds) sl P := fun B0 H0 B H σ v sd dv Q q => by
  obtain ⟨a, vs, rfl, h1, h2⟩ := den_tup dv
  exact ⟨a, vs, rfl, SqT.of (sd.sub a _ h1), by rw [← denL_len h2]; exact hn, h B0 H0 B H σ vs sd h2 Q q⟩
/-! for -/
theorem w_for {ti : TI} {g : TG} {tb : TS} (Iv : Nat → List Sl → Prop) (hi : ItE K ti sl xs) (h0 : Iv 0 sl)
    (hs : ∀ i d s, xs[i]? = some d → Iv i s → GW K g d s fun s2 => W K E tb s2 { nx := Iv (i + 1), ct := Iv (i + 1), bk := P.nx, rt := P.rt }) (hd : ∀ s, Iv xs.length s → P.nx s) : W K E (tFor ti g tb) sl P := fun B0 H0 B H σ D sd m =>
  hi B0 H0 B H σ sd _ fun J B1 H1 g1 jo => by
    have sd1 := sd.grow g1
    refine ⟨fun i n σ' H' => n = xs.length - i ∧ i ≤ xs.length ∧ ∃ B' sl', SD K B1 H0 B' H' σ' sl' ∧ Iv i sl', ⟨xs.length, by simp, Nat.zero_le _, B1, sl, sd1.rebase, h0⟩, ?_⟩
    rintro i n σ2 H2 ⟨rfl, hi2, B2, sl2, sd2, iv⟩
    obtain ⟨jg, js⟩ := jo i H2 (sd2.gr.eb.trans sd2.sub)
    by_cases hlt : i < xs.length
    · right
      have hx : xs[i]? = some xs[i] := List.getElem?_eq_getElem hlt
      obtain ⟨go, yl⟩ := jg _ hx
      refine ⟨go, fun σ' H' => ∃ B' sl', SD K B1 H0 B' H' σ' sl' ∧ Iv (i + 1) sl', fun σ' H' ⟨B', sl', s', q⟩ => ⟨xs.length - (i + 1), by omega, rfl, hlt, B', sl', s', q⟩, fun v H3 hy => ?_⟩
      obtain ⟨e3, dv⟩ := yl v H3 hy
      rw [e3]
      refine hs i _ sl2 hx iv B1 H0 B2 H2 σ2 v sd2 (den_mono sd2.gr.eb dv) _ fun σ3 sl3 sd3 hw => ?_
      refine hw B1 H0 B2 H2 σ3 _ sd3 ⟨fun B H σ sl s q => ⟨B, sl, s, q⟩, fun B H σ sl s q => m.nx B H σ sl (s.unbase sd1.gr) q, fun B H σ sl s q => ⟨B, sl, s, q⟩, fun r B H g q => m.rt r B H (gr_un sd1.gr g) q⟩
    · left
      have e : i = xs.length := by omega
      subst e
      exact ⟨js (Nat.le_refl _), m.nx B2 H2 σ2 sl2 (sd2.unbase sd1.gr) (hd sl2 iv)⟩
/-- the states by turns, a name as the target -/
theorem w_forS {α : Type} {ys : List α} {f : α → D} {ti : TI} {j : Nat} {tb : TS} (S : Nat → List Sl) (hi : ItE K ti sl (ys.map f)) (h0 : Fgt sl (S 0))
    (hs : ∀ i a, ys[i]? = some a → W K E tb ((S i).set j (.fz (f a))) { nx := fun s => Fgt s (S (i + 1)), ct := fun s => Fgt s (S (i + 1)), bk := P.nx, rt := P.rt }) (hd : ∀ s, Fgt s (S ys.length) → P.nx s) : W K E (tFor ti (gName j) tb) sl P := by
  refine w_for (fun i s => Fgt s (S i)) hi h0 (fun i d s h1 h2 => ?_) (fun s h => hd s (by rwa [List.length_map] at h))
  rw [List.getElem?_map] at h1
  cases e : ys[i]? with
  | none => rw [e] at h1; cases h1
  | some a =>
    rw [e] at h1
    cases h1
    refine gw_name (w_fgt ?_ (hs i a e))
    refine ⟨by simpa using h2.1, fun k => ?_⟩
    by_cases z : k = j
    · subst z
      by_cases hl : k < s.length
      · rw [List.getElem?_set_self hl, List.getElem?_set_self (by rw [← h2.1]; exact hl)]
        exact .inr rfl
      · have e1 : (s.set k (Sl.fz (f a)))[k]? = none := List.getElem?_eq_none (by simpa using hl)
        have e2 : ((S i).set k (Sl.fz (f a)))[k]? = none := List.getElem?_eq_none (by rw [List.length_set, ← h2.1]; omega)
        rw [e1, e2]
        exact .inr rfl
    · rw [List.getElem?_set_ne (Ne.symm z), List.getElem?_set_ne (Ne.symm z)]
      exact h2.2 k
theorem w_while {c : TT} {tb : TS} (Iv : Nat → List Sl → Prop) (m0 : Nat) (h0 : Iv m0 sl)
    (hs : ∀ m s, Iv m s → ∃ b, EvT K c s b ∧ (b = true → W K E tb s { nx := fun s' => ∃ m', m' < m ∧ Iv m' s', ct := fun s' => ∃ m', m' < m ∧ Iv m' s', bk := P.nx, rt := P.rt }) ∧ (b = false → P.nx s)) : W K E (tWhile c tb) sl P := fun B0 H0 B H σ D sd mt => by
  refine ⟨fun m σ' H' => ∃ B' sl', SD K B0 H0 B' H' σ' sl' ∧ Iv m sl', ⟨m0, B, sl, sd, h0⟩, ?_⟩
  rintro m σ1 H1 ⟨B1, sl1, sd1, iv⟩
  obtain ⟨b, hb, h1, h2⟩ := hs m sl1 iv
  refine hb B0 H0 B1 H1 σ1 sd1 _ fun B2 H2 g2 => ?_
  cases b with
  | true =>
    rw [if_pos rfl]
    refine ⟨fun σ' H' => ∃ m', m' < m ∧ ∃ B' sl', SD K B0 H0 B' H' σ' sl' ∧ Iv m' sl', fun σ' H' q => q, h1 rfl B0 H0 B2 H2 σ1 _ (sd1.grow g2) ⟨fun B H σ sl s ⟨m', hm, q⟩ => ⟨m', hm, B, sl, s, q⟩, mt.nx, fun B H σ sl s ⟨m', hm, q⟩ => ⟨m', hm, B, sl, s, q⟩, mt.rt⟩⟩
  | false =>
    rw [if_neg Bool.false_ne_true]
    exact mt.nx B2 H2 σ1 sl1 (sd1.grow g2) (h2 rfl)
/-! self.f = e -/
theorem putF_zip {f : Str} {v : V} : ∀ {ns : List Str} {vs : List V}, ns.length = vs.length → f ∉ ns → putF f v (ns.zip vs) = (ns ++ [f]).zip (vs ++ [v])
  | [], [], _, _ => rfl
  | [], _ :: _, h, _ => by simp at h
  | _ :: _, [], h, _ => by simp at h
  | n :: ns, w :: vs, h, hn => by
    have ih := putF_zip (f := f) (v := v) (ns := ns) (vs := vs) (by simpa using h) fun z => hn (List.mem_cons_of_mem _ z)
    rw [List.zip_cons_cons, List.cons_append, List.cons_append, List.zip_cons_cons]
    show (if n = f then (n, v) :: ns.zip vs else (n, w) :: putF f v (ns.zip vs)) = _
    rw [if_neg fun z => hn (by rw [z]; exact List.mem_cons_self), ih]
theorem w_fld {p0 C : Addr} {ns : List Str} {es : List D} {f : Str} (hi : sl[0]? = some (.ob p0 C ns es)) (cl : Cls K C) (na : NoAttr K C f) (hf : f ∉ ns) (hz : ns.length < 1000) (h : EvR K E te sl (.frs d)) (k : P.nx (sl.set 0 (.ob p0 C (ns ++ [f]) (es ++ [d])))) (ho : ∀ p0' C' ns' es', Sl.ob p0' C' ns' es' ∉ sl.tail := by simp) :
    W K E (sFld K (tVar 0) te f) sl P := fun B0 H0 B H σ D sd m =>
  h B0 H0 B H σ sd _ fun v Nv B1 H1 g1 ev nv d1 => by
    have s1 := sd.grow g1
    obtain ⟨p, dx, vs, e1, e2, e3, e4, e6, e5⟩ := s1.ob 0 p0 C ns es hi
    refine ⟨_, e1.1, p, C, dx, _, rfl, e4, cl, na, ?_, ?_⟩
    · rw [List.length_zip]
      omega
    · rw [putF_zip e6 hf]
      have hl : 0 < sl.length := (List.getElem?_eq_some_iff.mp hi).1
      have at_ : ∀ (j : Nat) (x : Sl), (sl.set 0 (.ob p0 C (ns ++ [f]) (es ++ [d])))[j]? = some x → (j = 0 ∧ x = .ob p0 C (ns ++ [f]) (es ++ [d])) ∨ (j ≠ 0 ∧ sl[j]? = some x) := fun j x e => by
        by_cases z : j = 0
        · subst z
          rw [List.getElem?_set_self hl] at e
          exact .inl ⟨rfl, (Option.some.inj e).symm⟩
        · rw [List.getElem?_set_ne (Ne.symm z)] at e
          exact .inr ⟨z, e⟩
      have nb : ∀ a o, B1 a = some o → a ≠ p := fun a o h z => by
        rw [z, e3] at h
        cases h
      refine m.nx B1 _ σ _ ⟨⟨s1.gr.eb, fun a o h => ?_, fun a o h => ?_, s1.gr.out⟩, by simpa using s1.len, fun j d' e => ?_, fun j zs e => ?_, fun j p0' C' ns' ds' e => ?_, fun j k' zs ws r f1 f2 f3 f4 => ?_, fun j d' e => ?_⟩ k
      · rw [upd_ne (ne_of_none h e2)]
        exact s1.gr.eh a o h
      · rw [upd_ne (nb a o h)]
        exact s1.gr.sub a o h
      · rcases at_ j _ e with ⟨_, z⟩ | ⟨_, z⟩
        · cases z
        · exact s1.fz j _ z
      · rcases at_ j _ e with ⟨a, z⟩ | ⟨a, z⟩
        · cases z
        · obtain ⟨r, ws, f1, f2, f3, f4, f5⟩ := s1.ow j zs z
          refine ⟨r, ws, f1, f2, f3, ?_, f5⟩
          rw [upd_ne]
          · exact f4
          · rintro rfl
            rw [e4] at f4
            cases f4
      · rcases at_ j _ e with ⟨a, z⟩ | ⟨a, z⟩
        · cases z
          subst a
          obtain ⟨N, n1, n2, n3⟩ := e5
          refine ⟨p, dx, vs ++ [v], e1, e2, e3, upd_same, by simp [e6], fun a => match N a with | some o => some o | none => Nv a, fun a o z => ?_, fun a o z => ?_, denL_app (denL_mono (fun a o z => ?_) n3) (denL_cons (den_mono (fun a o z => ?_) d1) denL_nil)⟩
          · have z : (match N a with | some o => some o | none => Nv a) = some o := z
            cases w : N a with
            | none =>
              rw [w] at z
              exact ev a o z
            | some u =>
              rw [w] at z
              cases z
              exact n1 a _ w
          · have z : (match N a with | some o => some o | none => Nv a) = some o := z
            cases w : N a with
            | none =>
              rw [w] at z
              exact sd.gr.back (nv a o z)
            | some u => exact n2 a u w
          · show (match N a with | some o => some o | none => Nv a) = some o
            rw [z]
          · show (match N a with | some o => some o | none => Nv a) = some o
            cases w : N a with
            | none => exact z
            | some u =>
              exact (n1 a u w).symm.trans (ev a o z)
        · obtain ⟨r, dx', ws, f1, f2, f3, f4, f6, f5⟩ := s1.ob j _ _ _ _ z
          refine absurd (List.mem_of_getElem? (i := j - 1) (l := sl.tail) ?_) (ho p0' C' ns' ds')
          rw [List.getElem?_tail, show j - 1 + 1 = j by omega]
          exact z
      · rcases at_ j _ f1 with ⟨_, z⟩ | ⟨_, z1⟩
        · cases z
        · rcases at_ k' _ f2 with ⟨_, z⟩ | ⟨_, z2⟩
          · cases z
          · exact s1.ap j k' zs ws r z1 z2 f3 f4
      · rcases at_ j _ e with ⟨_, z⟩ | ⟨_, z⟩
        · cases z
        · obtain ⟨v', N, g1', g2, g3, g4, g5, g6⟩ := s1.rg j _ z
          refine ⟨v', N, g1', g2, g3, fun a o h => ?_, g5, fun k' x q f1 f2 f3 => ?_⟩
          · rw [upd_ne (ne_of_none h (g6 0 _ p hi rfl e1.1))]
            exact g4 a o h
          · rcases at_ k' _ f1 with ⟨a, _⟩ | ⟨_, w⟩
            · subst a
              exact g6 0 _ q hi rfl f3
            · exact g6 k' x q w f2 f3
/-! regions -/
theorem SD.setRg {i : Nat} {v : V} {N : Hp} (s : SD K B0 H0 B H σ sl) (n0 : New N H0) (nb : ∀ p o, N p = some o → B p = none) (nh : Ex N H) (nd : Den K N d v) (no : ∀ (j : Nat) (x : Sl) (p : Addr), sl[j]? = some x → x.own = true → σ[j]? = some (some (.ref p)) → N p = none) :
    SD K B0 H0 B H (σ.set i (some v)) (sl.set i (.rg d)) := by
  have ne : ∀ (j : Nat) (x : Sl), (∀ d, x ≠ .rg d) → (sl.set i (.rg d))[j]? = some x → j ≠ i ∧ sl[j]? = some x := fun j x hx e => by
    by_cases z : j = i
    · subst z
      by_cases hl : j < sl.length
      · rw [List.getElem?_set_self hl] at e
        exact absurd (Option.some.inj e).symm (hx d)
      · rw [List.getElem?_eq_none (by simpa using hl)] at e
        cases e
    · exact ⟨z, by rw [List.getElem?_set_ne (Ne.symm z)] at e; exact e⟩
  refine ⟨s.gr, by simpa using s.len, fun j d' e => ?_, fun j xs e => ?_, fun j p0 C ns ds e => ?_, fun j k xs ys p e1 e2 e3 e4 => ?_, fun j d' e => ?_⟩
  · obtain ⟨z, e⟩ := ne j _ (by simp) e
    rw [List.getElem?_set_ne (Ne.symm z)]
    exact s.fz j _ e
  · obtain ⟨z, e⟩ := ne j _ (by simp) e
    rw [List.getElem?_set_ne (Ne.symm z)]
    exact s.ow j xs e
  · obtain ⟨z, e⟩ := ne j _ (by simp) e
    rw [List.getElem?_set_ne (Ne.symm z)]
    exact s.ob j p0 C ns ds e
  · obtain ⟨z1, e1⟩ := ne j _ (by simp) e1
    obtain ⟨z2, e2⟩ := ne k _ (by simp) e2
    rw [List.getElem?_set_ne (Ne.symm z1)] at e3
    rw [List.getElem?_set_ne (Ne.symm z2)] at e4
    exact s.ap j k xs ys p e1 e2 e3 e4
  · by_cases z : j = i
    · subst z
      by_cases hl : j < sl.length
      · rw [List.getElem?_set_self hl] at e
        cases e
        refine ⟨v, N, by rw [List.getElem?_set_self (by rw [s.len]; exact hl)], n0, nb, nh, nd, fun k x p e1 e2 e3 => ?_⟩
        obtain ⟨z1, e1⟩ := ne k x (by cases x <;> first | (simp [Sl.own] at e2; done) | simp) e1
        rw [List.getElem?_set_ne (Ne.symm z1)] at e3
        exact no k x p e1 e2 e3
      · rw [List.getElem?_eq_none (by simpa using hl)] at e
        cases e
    · rw [List.getElem?_set_ne (Ne.symm z)] at e
      obtain ⟨v', N', g1, g2, g3, g4, g5, g6⟩ := s.rg j _ e
      refine ⟨v', N', by rw [List.getElem?_set_ne (Ne.symm z)]; exact g1, g2, g3, g4, g5, fun k x p e1 e2 e3 => ?_⟩
      obtain ⟨z1, e1⟩ := ne k x (by cases x <;> first | (simp [Sl.own] at e2; done) | simp) e1
      rw [List.getElem?_set_ne (Ne.symm z1)] at e3
      exact g6 k x p e1 e2 e3
/-- where one's own things lie, something lies -/
theorem SD.there (s : SD K B0 H0 B H σ sl) {j : Nat} {x : Sl} {p : Addr} (h1 : sl[j]? = some x) (h2 : x.own = true) (h3 : σ[j]? = some (some (.ref p))) : H p ≠ none := by
  cases x with
  | ow xs =>
    obtain ⟨q, us, e1, _, _, e2, _⟩ := s.ow j xs h1
    rw [h3] at e1
    cases e1
    rw [e2]
    simp
  | ob p0 C ns ds =>
    obtain ⟨q, dx, us, ⟨e1, _⟩, _, _, e2, _⟩ := s.ob j _ _ _ _ h1
    rw [h3] at e1
    cases e1
    rw [e2]
    simp
  | _ => cases h2
theorem w_asgR {i : Nat} (h : EvR K E te sl (.frs d)) (k : P.nx (sl.set i (.rg d))) : W K E (tAsg te (gName i)) sl P := fun B0 H0 B H σ D sd m =>
  h B0 H0 B H σ sd _ fun v N B1 H1 g1 e n dv => by
    have g : Gr B H B H1 := ⟨Ex.refl _, g1.eh, sd.sub.trans g1.eh, fun _ h _ => h⟩
    refine m.nx B H1 _ _ ((sd.grow g).setRg (fun p o z => sd.gr.back (n p o z)) (fun p o z => fresh_back sd.sub (n p o z)) (e.trans g1.sub) dv fun j x p h1 h2 h3 => ?_) k
    cases w : N p with
    | none => rfl
    | some o => exact absurd (n p o w) (sd.there h1 h2 h3)
/-- arguments of new objects alone -/
def EvAF (K : PySem.W.Frag) (ta : TA) (sl : List Sl) (ds : List D) : Prop := ∀ B0 H0 B H σ, SD K B0 H0 B H σ sl → ∀ Q : List V → Hp → Prop, (∀ vs N B' H', Gr B H B' H' → Ex N B' → New N H → DenL K N ds vs → Q vs H') → ta σ H Q
theorem eaf_nil : EvAF K tNil sl [] := fun B0 H0 B H σ sd Q q => q [] (fun _ => none) B H (Gr.refl sd.sub) (fun _ _ z => nomatch z) (fun _ _ z => nomatch z) denL_nil
theorem eaf_cons (h : EvR K E0 ta sl (.frs x)) (hr : EvAF K tr sl ds) : EvAF K (tCons ta tr) sl (x :: ds) := fun B0 H0 B H σ sd Q q =>
  h B0 H0 B H σ sd _ fun v N1 B1 H1 g1 e1 n1 d1 => hr B0 H0 B1 H1 σ (sd.grow g1) _ fun vs N2 B2 H2 g2 e2 n2 d2 => by
    have a1 : Ex N1 (fun a => match N1 a with | some o => some o | none => N2 a) := fun a o z => by
      show (match N1 a with | some o => some o | none => N2 a) = some o
      rw [z]
    have a2 : Ex N2 (fun a => match N1 a with | some o => some o | none => N2 a) := fun a o z => by
      show (match N1 a with | some o => some o | none => N2 a) = some o
      cases w : N1 a with
      | none => exact z
      | some u => exact (g2.eb _ _ (e1 a u w)).symm.trans (e2 a o z)
    refine q _ (fun a => match N1 a with | some o => some o | none => N2 a) _ _ (g1.trans g2) (fun a o z => ?_) (fun a o z => ?_) (denL_cons (den_mono a1 d1) (denL_mono a2 d2))
    · have z : (match N1 a with | some o => some o | none => N2 a) = some o := z
      cases w : N1 a with
      | none =>
        rw [w] at z
        exact e2 a o z
      | some u =>
        rw [w] at z
        cases z
        exact g2.eb _ _ (e1 a _ w)
    · have z : (match N1 a with | some o => some o | none => N2 a) = some o := z
      cases w : N1 a with
      | none =>
        rw [w] at z
        exact g1.back (n2 a o z)
      | some u => exact n1 a u w
theorem frs_new {v : V} {N B' H' : Hp} {Q : VK} {p : Addr} {o : HO} (g : Gr B H B' H') (e : Ex N B') (n : New N H) (hp : H' p = none) : Gr B H (upd B' p o) (upd H' p o) ∧ Ex (upd N p o) (upd B' p o) ∧ New (upd N p o) H ∧ N p = none := by
  have bp : B' p = none := fresh_back g.sub hp
  have np : N p = none := fresh_back e bp
  refine ⟨g.trans (Gr.layB g.sub hp), fun a u z => ?_, fun a u z => ?_, np⟩
  · by_cases w : a = p
    · subst w
      rw [upd_same] at z ⊢
      exact z
    · rw [upd_ne w] at z ⊢
      exact e a u z
  · by_cases w : a = p
    · subst w
      exact g.back hp
    · rw [upd_ne w] at z
      exact n a u z
theorem ev_lstF (h : EvAF K tr sl ds) (hl : ds.length ≤ sizeLine) : EvR K E (tLst tr) sl (.frs (.lst ds)) := fun B0 H0 B H σ sd Q q =>
  h B0 H0 B H σ sd _ fun vs N B1 H1 g1 e1 n1 d1 => ⟨by rw [← denL_len d1]; exact hl, fun p hp => by
    obtain ⟨a, b, c, np⟩ := frs_new (v := .non) (Q := Q) (o := .lst vs) g1 e1 n1 hp
    exact q _ _ _ _ a b c (mk_lst upd_same (denL_mono (ex_upd np) d1))⟩
theorem ev_tupF (h : EvAF K tr sl ds) (hl : ds.length ≤ sizeLine) : EvR K E (tTup tr) sl (.frs (.tup ds)) := fun B0 H0 B H σ sd Q q =>
  h B0 H0 B H σ sd _ fun vs N B1 H1 g1 e1 n1 d1 => ⟨by rw [← denL_len d1]; exact hl, fun p hp => by
    obtain ⟨a, b, c, np⟩ := frs_new (v := .non) (Q := Q) (o := .tup vs) g1 e1 n1 hp
    exact q _ _ _ _ a b c (mk_tup upd_same (denL_mono (ex_upd np) d1))⟩
/-- an object that is nobody's here is changed -/
theorem SD.alter {q : Addr} {o : HO} (s : SD K B0 H0 B H σ sl) (hb : B q = none) (h0 : H0 q = none) (ho : ∀ (j : Nat) (x : Sl), sl[j]? = some x → x.own = true → σ[j]? ≠ some (some (.ref q))) (hr : ∀ (j : Nat) (d : D), sl[j]? ≠ some (.rg d)) : SD K B0 H0 B (upd H q o) σ sl := by
  refine ⟨⟨s.gr.eb, fun a u z => ?_, fun a u z => ?_, s.gr.out⟩, s.len, s.fz, fun j xs e => ?_, fun j p0 C ns ds e => ?_, s.ap, fun j d e => absurd e (hr j d)⟩
  · rw [upd_ne (ne_of_none z h0)]
    exact s.gr.eh a u z
  · rw [upd_ne (ne_of_none z hb)]
    exact s.gr.sub a u z
  · obtain ⟨p, vs, h1, h2, h3, h4, h5⟩ := s.ow j xs e
    refine ⟨p, vs, h1, h2, h3, ?_, h5⟩
    rw [upd_ne fun z => ho j _ e rfl (by rw [← z]; exact h1)]
    exact h4
  · obtain ⟨p, dx, vs, h1, h2, h3, h4, h6, h5⟩ := s.ob j p0 C ns ds e
    refine ⟨p, dx, vs, h1, h2, h3, ?_, h6, h5⟩
    rw [upd_ne fun z => ho j _ e rfl (by rw [← z]; exact h1.1)]
    exact h4
theorem fgt_un (sl : List Sl) (i : Nat) : Fgt sl (sl.set i .un) := ⟨by simp, fun k => by
  by_cases z : k = i
  · subst z
    by_cases hl : k < sl.length
    · exact .inl (by rw [List.getElem?_set_self hl])
    · have e1 : (sl.set k Sl.un)[k]? = none := List.getElem?_eq_none (by simpa using hl)
      have e2 : sl[k]? = none := List.getElem?_eq_none (by simpa using hl)
      rw [e1, e2]
      exact .inr rfl
  · exact .inr (by rw [List.getElem?_set_ne (Ne.symm z)])⟩
def noRg : List Sl → Bool
  | [] => true
  | .rg _ :: _ => false
  | _ :: l => noRg l
theorem noRg_at : ∀ {sl : List Sl}, noRg sl = true → ∀ (j : Nat) (d : D), sl[j]? ≠ some (.rg d)
  | [], _, j, d, h => by simp at h
  | s :: l, h, 0, d, e => by
    have e : s = .rg d := by simpa using e
    subst e
    cases h
  | s :: l, h, j + 1, d, e => by
    have h' : noRg l = true := by cases s <;> first | exact h | cases h
    exact noRg_at h' j d (by simpa using e)
theorem denL_intsV : ∀ {ns : List Int} {vs : List V} {N : Hp}, DenL K N (ns.map D.int) vs → ∀ q, V.ref q ∉ vs
  | ns, vs, N, h, q, m => by
    rw [denL_ints h] at m
    obtain ⟨n, _, e⟩ := List.mem_map.mp m
    cases e
/-- for x in xs: x.append(0), xs a list of one's own with lists of ints -/
theorem w_forApp0 {i j : Nat} {xss : List (List Int)} (hi : sl[i]? = some (.rg (.lst (xss.map fun xs => .lst (xs.map .int))))) (hij : i ≠ j) (hj : sl[j]? = some .un) (hr : noRg (sl.set i .un) = true) (hz : ∀ xs ∈ xss, xs.length ≤ 1000) (hn : xss.length ≤ 1000) (k : P.nx (sl.set i .un)) :
    W K E (tFor (iList K (tVar i)) (gName j) (tDrop (tBM K "list" rAppend (tVar j) (tCons (tC (.int 0)) tNil)))) sl P := fun B0 H0 B H σ D sd m => by
  obtain ⟨v, N, h1, h2, h3, h4, h5, h6⟩ := sd.rg i _ hi
  obtain ⟨a, vs, rfl, ha, hd⟩ := den_lst h5
  have hlen := denL_len hd
  rw [List.length_map] at hlen
  have jl : j < σ.length := by
    rw [sd.len]
    exact (List.getElem?_eq_some_iff.mp hj).1
  -- what stands in it
  have ins : ∀ u, u ∈ vs → ∃ q us, u = .ref q ∧ N q = some (.lst us) ∧ us.length ≤ 1000 ∧ ∀ r, V.ref r ∉ us := fun u hu => by
    obtain ⟨l, hl, e⟩ := List.getElem_of_mem hu
    obtain ⟨dd, e1, e2⟩ := denL_getV hd (List.getElem?_eq_some_iff.mpr ⟨hl, e⟩)
    rw [List.getElem?_map] at e1
    cases w : xss[l]? with
    | none => rw [w] at e1; cases e1
    | some xs =>
      rw [w] at e1
      cases e1
      obtain ⟨q, us, e3, e4, e5⟩ := den_lst e2
      refine ⟨q, us, e3, e4, ?_, denL_intsV e5⟩
      rw [← denL_len e5, List.length_map]
      exact hz xs (List.mem_of_getElem? w)
  have own_ : ∀ u q, u ∈ vs → u = V.ref q → q ≠ a := fun u q hu e z => by
    obtain ⟨q', us, e1, e2, _, e4⟩ := ins u hu
    rw [e] at e1
    cases e1
    rw [z, ha] at e2
    cases e2
    exact e4 a (by rw [← z]; rw [e] at hu; exact hu)
  refine ⟨_, h1, a, rfl, ⟨vs, SqL.of (h4 a _ ha)⟩, fun idx mm σ' H' => mm = vs.length - idx ∧ idx ≤ vs.length ∧ SD K B0 H0 B H' σ' (sl.set i .un) ∧ (∀ k, k ≠ j → σ'[k]? = σ[k]?) ∧ σ'.length = σ.length ∧ H' a = some (.lst vs) ∧ ∀ q, V.ref q ∈ vs → ∃ us, H' q = some (.lst us) ∧ us.length ≤ 1000 + idx, ⟨vs.length, by simp, Nat.zero_le _, sd.fgt (fgt_un sl i), fun _ _ => rfl, rfl, h4 a _ ha, fun q hq => ?_⟩, ?_⟩
  · obtain ⟨q', us, e1, e2, e3, _⟩ := ins _ hq
    cases e1
    exact ⟨us, h4 q _ e2, e3⟩
  rintro idx mm σ' H' ⟨rfl, hi2, s', hs', hl', ha', hq'⟩
  by_cases hlt : idx < vs.length
  · right
    refine ⟨⟨vs, vs[idx], SqL.of ha', List.getElem?_eq_getElem hlt⟩, fun σ2 H2 => idx + 1 ≤ vs.length ∧ SD K B0 H0 B H2 σ2 (sl.set i .un) ∧ (∀ k, k ≠ j → σ2[k]? = σ[k]?) ∧ σ2.length = σ.length ∧ H2 a = some (.lst vs) ∧ ∀ q, V.ref q ∈ vs → ∃ us, H2 q = some (.lst us) ∧ us.length ≤ 1000 + (idx + 1), fun σ2 H2 ⟨z1, z2⟩ => ⟨vs.length - (idx + 1), by omega, rfl, z1, z2⟩, fun x H3 hy => ?_⟩
    obtain ⟨e3, hx⟩ := hy
    rw [e3]
    have hx := hx vs (SqL.of ha')
    have hm : x ∈ vs := List.mem_of_getElem? hx
    obtain ⟨q, us0, rfl, nq, _, _⟩ := ins x hm
    obtain ⟨us, hq, hul⟩ := hq' q hm
    have hxj : (σ'.set j (some (V.ref q)))[j]? = some (some (.ref q)) := List.getElem?_set_self (by rw [hl']; exact jl)
    refine ⟨_, hxj, .inl ⟨rfl, _, .inl (.inl hq)⟩, q, us, .int 0, rfl, rfl, hq, ?_, hlt, ?_, fun k hk => ?_, by simpa using hl', ?_, fun r hr2 => ?_⟩
    · have : vs.length ≤ 1000 := by omega
      exact Nat.lt_of_le_of_lt (Nat.le_trans hul (show 1000 + idx ≤ 3000 by omega)) (by decide)
    · have sj : (sl.set i .un).set j .un = sl.set i .un := by
        apply List.ext_getElem?
        intro k
        by_cases z : k = j
        · subst z
          have : (sl.set i Sl.un)[k]? = some .un := by rw [List.getElem?_set_ne hij]; exact hj
          rw [List.getElem?_set_self (by rw [List.length_set, ← sd.len]; exact jl), this]
        · rw [List.getElem?_set_ne (Ne.symm z)]
      have s2 : SD K B0 H0 B H' (σ'.set j (some (V.ref q))) (sl.set i .un) := by
        have := s'.setUn (i := j) (v := some (V.ref q))
        rwa [sj] at this
      refine s2.alter (h3 q _ nq) (h2 q _ nq) (fun l x e1 e2 e4 => ?_) (noRg_at hr)
      have lj : l ≠ j := fun z => by
        subst z
        rw [List.getElem?_set_ne hij, hj] at e1
        cases e1
        cases e2
      have li : l ≠ i := fun z => by
        subst z
        rw [List.getElem?_set_self (by rw [← sd.len]; exact (List.getElem?_eq_some_iff.mp h1).1)] at e1
        cases e1
        cases e2
      rw [List.getElem?_set_ne (Ne.symm lj), hs' l lj] at e4
      rw [List.getElem?_set_ne (Ne.symm li)] at e1
      rw [h6 l x q e1 e2 e4] at nq
      cases nq
    · rw [List.getElem?_set_ne (Ne.symm hk)]
      exact hs' k hk
    · rw [upd_ne (Ne.symm (own_ _ q hm rfl))]
      exact ha'
    · by_cases z : r = q
      · subst z
        exact ⟨_, upd_same, by rw [List.length_append, List.length_singleton]; omega⟩
      · obtain ⟨ws, f1, f2⟩ := hq' r hr2
        exact ⟨ws, by rw [upd_ne z]; exact f1, by omega⟩
  · left
    have e : idx = vs.length := by omega
    subst e
    exact ⟨⟨vs, SqL.of ha', Nat.le_refl _⟩, m.nx B H' σ' _ s' k⟩
end
end Wv
namespace Wv
open PySem L2
open Evl (Ex fresh_back ex_l)

/-! ### defs -/
/-- a def of the text, where it stands -/
def FnAt (K : PySem.W.Frag) (mg : Str → Option Value) (x : Str) (st : Stmt) (ps : List Str) : Prop := ∃ f fd, mg x = some (.ref f) ∧ Fun K x x st f fd ∧ Binds K fd ps []
def MtAt (K : PySem.W.Frag) (C : Addr) (m q : Str) (st : Stmt) (ps : List Str) : Prop := ∃ f fd, Meth K C m f ∧ Fun K m q st f fd ∧ Binds K fd ps []
def MkAt (K : PySem.W.Frag) (mg : Str → Option Value) (x : Str) (C : Addr) (q : Str) (st : Stmt) (ps : List Str) : Prop := ∃ f fd, mg x = some (.ref C) ∧ Mk K C f ∧ Fun K "__init__" q st f fd ∧ Binds K fd ps []
/-- a def that keeps its promise -/
def OkD (P : Program) (w : World) (K : PySem.W.Frag) (mg : Str → Option Value) (base : Heap) (CX : CXT) (k : Nat) (x : Str) (ps : List Str) (sp : Sp) : Prop := ∃ f fd, mg x = some (.ref f) ∧ PySem.W.keepIn K (.ref f) = true ∧ Binds K fd ps [] ∧ FnOk P w K mg base CX k f fd ps sp
def OkM (P : Program) (w : World) (K : PySem.W.Frag) (mg : Str → Option Value) (base : Heap) (CX : CXT) (k : Nat) (C : Addr) (m : Str) (ps : List Str) (sp : Sp) : Prop := ∃ f fd, Meth K C m f ∧ Binds K fd ps [] ∧ FnOk P w K mg base CX k f fd ps sp
def OkI (P : Program) (w : World) (K : PySem.W.Frag) (mg : Str → Option Value) (base : Heap) (CX : CXT) (k : Nat) (x : Str) (C : Addr) (ps : List Str) (sp : Sp) : Prop := ∃ f fd, mg x = some (.ref C) ∧ Mk K C f ∧ Binds K fd ps [] ∧ FnOk P w K mg base CX k f fd ps sp
section
variable {P : Program} {w : World} {K : PySem.W.Frag} {mg : Str → Option Value} {base : Heap} {CX : CXT} {k : Nat} {x m q : Str} {C : Addr} {ps : List Str} {sp : Sp} {st : Stmt}
theorem okD (h : FnAt K mg x st ps) (g : ∀ f fd, Fun K x x st f fd → FnOk P w K mg base CX k f fd ps sp) : OkD P w K mg base CX k x ps sp := by
  obtain ⟨f, fd, h1, h2, h3⟩ := h
  exact ⟨f, fd, h1, h2.kp, h3, g f fd h2⟩
theorem okM (h : MtAt K C m q st ps) (g : ∀ f fd, Fun K m q st f fd → FnOk P w K mg base CX k f fd ps sp) : OkM P w K mg base CX k C m ps sp := by
  obtain ⟨f, fd, h1, h2, h3⟩ := h
  exact ⟨f, fd, h1, h3, g f fd h2⟩
theorem okI (h : MkAt K mg x C q st ps) (g : ∀ f fd, Fun K "__init__" q st f fd → FnOk P w K mg base CX k f fd ps sp) : OkI P w K mg base CX k x C ps sp := by
  obtain ⟨f, fd, h1, h2, h3, h4⟩ := h
  exact ⟨f, fd, h1, h2, h4, g f fd h3⟩
end
section
variable {X : Cx} {CX : CXT} {k : Nat} {C : Addr} {ps : List Str} {sp : Sp} {E : XK} {x m : Str} {p pos apos : Pos} {e o : Expr} {es : List Expr} {ta : TE} {t : TA}
theorem pe_callD (G : OkD X.prog X.w X.K X.mg X.base CX k x ps sp) (hr : Room k X.A) (hg : Gl X x) (hx : Passes CX X E) (ha : PA X (e :: es) t) (hdb : (x == ("__debug__" : Str)) = false := by decide)
    (he : starEach (e :: es) X.env = (false, eval e X.env) :: starEach es X.env := by rfl) (hpl : (backTo pos (starEach es X.env)).any (·.1) = false := by rfl) : PE X (.Call (.Name x p) (e :: es) [] pos) (tCall sp [] E t) := by
  obtain ⟨f, fd, h1, h2, h3, h4⟩ := G
  exact pe_call h4 hr hg h1 h2 h3 .nil hx ha hdb he hpl
theorem pe_callD0 (G : OkD X.prog X.w X.K X.mg X.base CX k x ps sp) (hr : Room k X.A) (hg : Gl X x) (hx : Passes CX X E) (hdb : (x == ("__debug__" : Str)) = false := by decide) : PE X (.Call (.Name x p) [] [] pos) (tCall sp [] E tNil) := by
  obtain ⟨f, fd, h1, h2, h3, h4⟩ := G
  exact pe_call0 h4 hr hg h1 h2 h3 .nil hx hdb
theorem pe_methD {pl : Sem Bool} (he : PE X o ta) (c : Cls X.K C) (G : OkM X.prog X.w X.K X.mg X.base CX k C m ps sp) (hr : Room k X.A) (hx : Passes CX X E) (ha : PA X (e :: es) t)
    (hst : starEach (e :: es) X.env = (false, eval e X.env) :: starEach es X.env := by rfl) (hpl : (backTo pos (starEach es X.env)).any (·.1) = false := by rfl)
    (ht : eval (.Call (.Attribute o m apos) (e :: es) [] pos) X.env = (do
      let ov ← eval o X.env
      standAt apos.atName
      let (f, first) ← holding [ov] (getMethod ov m pl)
      callWith pos f first (backTo pos (starEach (e :: es) X.env)) (backToKw pos (keywordEach [] X.env))) := by rfl) :
    PE X (.Call (.Attribute o m apos) (e :: es) [] pos) (tMeth C m sp [] E ta t) := by
  obtain ⟨f, fd, h1, h2, h3⟩ := G
  exact pe_meth he c h1 h3 hr h2 .nil hx ha hst hpl ht
theorem pe_methD0 {pl : Sem Bool} (he : PE X o ta) (c : Cls X.K C) (G : OkM X.prog X.w X.K X.mg X.base CX k C m ps sp) (hr : Room k X.A) (hx : Passes CX X E)
    (ht : eval (.Call (.Attribute o m apos) [] [] pos) X.env = (do
      let ov ← eval o X.env
      standAt apos.atName
      let (f, first) ← holding [ov] (getMethod ov m pl)
      callWith pos f first (backTo pos (starEach [] X.env)) (backToKw pos (keywordEach [] X.env))) := by rfl) :
    PE X (.Call (.Attribute o m apos) [] [] pos) (tMeth C m sp [] E ta tNil) := by
  obtain ⟨f, fd, h1, h2, h3⟩ := G
  exact pe_meth0 he c h1 h3 hr h2 .nil hx ht
theorem pe_makeD (G : OkI X.prog X.w X.K X.mg X.base CX k x C ps sp) (hr : Room (k + 1) X.A) (hg : Gl X x) (hx : Passes CX X E) (ha : PA X (e :: es) t) (hdb : (x == ("__debug__" : Str)) = false := by decide)
    (he : starEach (e :: es) X.env = (false, eval e X.env) :: starEach es X.env := by rfl) (hpl : (backTo pos (starEach es X.env)).any (·.1) = false := by rfl) : PE X (.Call (.Name x p) (e :: es) [] pos) (tMake C sp [] E t) := by
  obtain ⟨f, fd, h1, h2, h3, h4⟩ := G
  exact pe_make h2 h4 hr hg h1 h3 .nil hx ha hdb he hpl
end

/-! ### a body, from its first state -/
def startS (N : List Str) (ds : List D) : List Sl := ds.map Sl.fz ++ List.replicate (N.length - ds.length) .un
section
variable {K : PySem.W.Frag} {E : XK} {H : Hp} {t : TS} {N : List Str} {vs : List V} {Q : VK} {f : List D → Rs → Prop} {C : Addr}
theorem sp_len {n : Nat} (h : ∀ ds r, f ds r → ds.length = n) : ∀ vs H Q E, SpR K f vs H Q E → vs.length = n := fun vs H Q E ⟨B, ds, r, e, hd, hf, q⟩ => by
  rw [← denL_len hd]
  exact h ds r hf
theorem sd_start {B : Hp} {ds : List D} (e : Ex B H) (hd : DenL K B ds vs) : SD K B H B H (L2.start N vs) (startS N ds) := by
  have hl := denL_len hd
  have at_ : ∀ (i : Nat) (x : Sl), x ≠ .un → (startS N ds)[i]? = some x → ∃ d, ds[i]? = some d ∧ x = .fz d := fun i x hx h => by
    unfold startS at h
    by_cases hi : i < ds.length
    · rw [List.getElem?_append_left (by simpa using hi), List.getElem?_map, List.getElem?_eq_getElem hi] at h
      exact ⟨_, List.getElem?_eq_getElem hi, (Option.some.inj h).symm⟩
    · rw [List.getElem?_append_right (by simpa using hi), List.getElem?_replicate] at h
      split at h
      · exact absurd (Option.some.inj h).symm hx
      · cases h
  refine ⟨Gr.refl e, ?_, fun i d h => ?_, fun i xs h => ?_, fun i p0 C ns ds h => ?_, fun i j xs ys p h => ?_, fun i d h => ?_⟩
  · unfold L2.start startS
    simp [hl]
  · obtain ⟨d', h1, h2⟩ := at_ i _ (by simp) h
    cases h2
    obtain ⟨v, h3, h4⟩ := denL_get hd h1
    refine ⟨v, ?_, h4⟩
    unfold L2.start
    have hi : i < vs.length := (List.getElem?_eq_some_iff.mp h3).1
    rw [List.getElem?_append_left (by simpa using hi), List.getElem?_map, h3]
    rfl
  · obtain ⟨d', _, h2⟩ := at_ i _ (by simp) h
    cases h2
  · obtain ⟨d', _, h2⟩ := at_ i _ (by simp) h
    cases h2
  · obtain ⟨d', _, h2⟩ := at_ i _ (by simp) h
    cases h2
  · obtain ⟨d', _, h2⟩ := at_ i _ (by simp) h
    cases h2
theorem startS_rg (N : List Str) (ds : List D) : ∀ (j : Nat) (d : D), (startS N ds)[j]? ≠ some (.rg d) := fun j d h => by
  unfold startS at h
  have m := List.mem_of_getElem? h
  rcases List.mem_append.mp m with z | z
  · obtain ⟨d', _, e⟩ := List.mem_map.mp z
    cases e
  · have := List.eq_of_mem_replicate z
    cases this
/-- the body's own words, from the data of the arguments -/
theorem go_of (hw : ∀ ds r, f ds r → W K E t (startS N ds) { nx := fun _ => r = .dat .non, rt := fun r' => r' = r }) (h : SpR K f vs H Q E) : t { nx := fun _ H' => Q .non H', rt := Q } (L2.start N vs) H := by
  obtain ⟨B, ds, r, e, hd, hf, q⟩ := h
  refine hw ds r hf B H B H _ _ (sd_start e hd) ⟨fun B' H' σ sl s z => ?_, fun _ _ _ _ _ z => z.elim, fun _ _ _ _ _ z => z.elim, fun r' B' H' g z => ?_⟩
  · subst z
    exact post_v s.sub (q.shift s.gr) mk_non
  · subst z
    exact (PostF.of q).shift g
/-- an __init__ : slot 0 is the new object; nothing is handed back -/
theorem spI_len {fi : List D → Ri → Prop} {n : Nat} (h : ∀ ds r, fi ds r → ds.length + 1 = n) : ∀ vs H Q E, SpI K C fi vs H Q E → vs.length = n := fun vs H Q E ⟨B, H', x, dx, us, ds, r, e, _, _, _, hd, hf, q⟩ => by
  rw [e, List.length_cons, ← denL_len hd]
  exact h ds r hf
def startI (x C : Addr) (N : List Str) (ds : List D) : List Sl := .ob x C [] [] :: (ds.map Sl.fz ++ List.replicate (N.length - (ds.length + 1)) .un)
theorem SD.consOb {B0 H0 B H : Hp} {σ : L2.St} {sl : List Sl} {p C dx : Addr} {ns : List Str} {vs : List V} {ds : List D} (s : SD K B0 H0 B H σ sl) (h0 : H0 p = none) (h1 : B p = none) (h2 : H p = some (.ins C dx (ns.zip vs)))
    (h3 : ns.length = vs.length) (h4 : ∃ N, Ex N B ∧ New N H0 ∧ DenL K N ds vs) (hr : ∀ (j : Nat) (d : D), sl[j]? ≠ some (.rg d)) : SD K B0 H0 B H (some (.ref p) :: σ) (.ob p C ns ds :: sl) := by
  refine ⟨s.gr, by simpa using s.len, fun i d h => ?_, fun i xs h => ?_, fun i p0 C' ns' ds' h => ?_, fun i j xs ys q e1 e2 e3 e4 => ?_, fun i d h => ?_⟩
  · cases i with
    | zero => cases h
    | succ i => exact s.fz i d (by simpa using h)
  · cases i with
    | zero => cases h
    | succ i => exact s.ow i xs (by simpa using h)
  · cases i with
    | zero =>
      cases h
      exact ⟨p, dx, vs, ⟨rfl, rfl⟩, h0, h1, h2, h3, h4⟩
    | succ i => exact s.ob i _ _ _ _ (by simpa using h)
  · cases i with
    | zero => cases e1
    | succ i =>
      cases j with
      | zero => cases e2
      | succ j => rw [s.ap i j xs ys q (by simpa using e1) (by simpa using e2) (by simpa using e3) (by simpa using e4)]
  · cases i with
    | zero => cases h
    | succ i => exact absurd (by simpa using h) (hr i d)
theorem goI_of {fi : List D → Ri → Prop} (hw : ∀ x ds r, fi ds r → W K E t (startI x C N ds) { nx := fun s => ∃ ns es, r = .ok ns es ∧ s[0]? = some (.ob x C ns es), rt := fun r' => ∃ C', r = .exc C' ∧ r' = .exc C' })
    (h : SpI K C fi vs H Q E) : t { nx := fun _ H' => Q .non H', rt := Q } (L2.start N vs) H := by
  obtain ⟨B, H', x, dx, us, ds, r, rfl, e, hx, rfl, hd, hf, q⟩ := h
  have hl := denL_len hd
  have bx : B x = none := fresh_back e hx
  have sd := (sd_start (N := N.tail) e hd).grow (Gr.lay (o := .ins C dx []) e hx)
  have e1 : L2.start N (V.ref x :: us) = some (V.ref x) :: L2.start N.tail us := by
    unfold L2.start
    rw [List.map_cons, List.cons_append, List.length_cons, List.length_tail, show N.length - (us.length + 1) = N.length - 1 - us.length by omega]
  have e2 : startI x C N ds = .ob x C [] [] :: startS N.tail ds := by
    unfold startI startS
    rw [List.length_tail, show N.length - (ds.length + 1) = N.length - 1 - ds.length by omega]
  have sd2 : SD K B H' B (upd H' x (.ins C dx [])) (L2.start N (V.ref x :: us)) (startI x C N ds) := by
    rw [e1, e2]
    exact sd.consOb (ns := []) (vs := []) hx bx upd_same rfl ⟨fun _ => none, fun _ _ z => (nomatch z), fun _ _ z => (nomatch z), denL_nil⟩ (startS_rg _ _)
  refine hw x ds r hf B H' B _ _ _ sd2 ⟨fun B' H2 σ sl s z => ?_, fun _ _ _ _ _ z => z.elim, fun _ _ _ _ _ z => z.elim, fun r' B' H2 g z => ?_⟩
  · obtain ⟨ns, es, rfl, h1⟩ := z
    obtain ⟨p, dx', ws, ⟨f1, f7⟩, f2, f3, f4, f5, f6⟩ := s.ob 0 _ _ _ _ h1
    subst f7
    exact q dx' ws B' H2 s.gr f3 f4 f5 f6
  · obtain ⟨C', rfl, rfl⟩ := z
    exact fun B2 H3 g2 => q B2 H3 (g.trans g2)
end
end Wv
namespace Wv
open PySem L2 PyProof.Rows
open Evl (Ex fresh_back ex_l)

/-! ### promises by their arguments' shapes -/
def R1 {a : Type} (c : a → D) (p : a → Prop) (g : a → Rs) : List D → Rs → Prop := fun ds r => ∃ x, ds = [c x] ∧ p x ∧ r = g x
def R2' {a b : Type} (c : a → D) (d : b → D) (p : a → b → Prop) (g : a → b → Rs) : List D → Rs → Prop := fun ds r => ∃ x y, ds = [c x, d y] ∧ p x y ∧ r = g x y
def R3 {a b c : Type} (ca : a → D) (cb : b → D) (cc : c → D) (p : a → b → c → Prop) (g : a → b → c → Rs) : List D → Rs → Prop := fun ds r => ∃ x y z, ds = [ca x, cb y, cc z] ∧ p x y z ∧ r = g x y z
def R4 {a b c d : Type} (ca : a → D) (cb : b → D) (cc : c → D) (cd : d → D) (p : a → b → c → d → Prop) (g : a → b → c → d → Rs) : List D → Rs → Prop := fun ds r => ∃ x y z u, ds = [ca x, cb y, cc z, cd u] ∧ p x y z u ∧ r = g x y z u
theorem R1.len {a : Type} {c : a → D} {p : a → Prop} {g : a → Rs} : ∀ ds r, R1 c p g ds r → ds.length = 1 := by
  rintro ds r ⟨x, rfl, _, _⟩
  rfl
theorem R2'.len {a b : Type} {c : a → D} {d : b → D} {p : a → b → Prop} {g : a → b → Rs} : ∀ ds r, R2' c d p g ds r → ds.length = 2 := by
  rintro ds r ⟨x, y, rfl, _, _⟩
  rfl
theorem R3.len {a b c : Type} {ca : a → D} {cb : b → D} {cc : c → D} {p : a → b → c → Prop} {g : a → b → c → Rs} : ∀ ds r, R3 ca cb cc p g ds r → ds.length = 3 := by
  rintro ds r ⟨x, y, z, rfl, _, _⟩
  rfl
theorem R4.len {a b c d : Type} {ca : a → D} {cb : b → D} {cc : c → D} {cd : d → D} {p : a → b → c → d → Prop} {g : a → b → c → d → Rs} : ∀ ds r, R4 ca cb cc cd p g ds r → ds.length = 4 := by
  rintro ds r ⟨x, y, z, u, rfl, _, _⟩
  rfl
theorem R1.mk {a : Type} {c : a → D} {p : a → Prop} {g : a → Rs} {x : a} (h : p x) : R1 c p g [c x] (g x) := ⟨x, rfl, h, rfl⟩
theorem R2'.mk {a b : Type} {c : a → D} {d : b → D} {p : a → b → Prop} {g : a → b → Rs} {x : a} {y : b} (h : p x y) : R2' c d p g [c x, d y] (g x y) := ⟨x, y, rfl, h, rfl⟩
theorem R3.mk {a b c : Type} {ca : a → D} {cb : b → D} {cc : c → D} {p : a → b → c → Prop} {g : a → b → c → Rs} {x : a} {y : b} {z : c} (h : p x y z) : R3 ca cb cc p g [ca x, cb y, cc z] (g x y z) := ⟨x, y, z, rfl, h, rfl⟩
theorem R4.mk {a b c d : Type} {ca : a → D} {cb : b → D} {cc : c → D} {cd : d → D} {p : a → b → c → d → Prop} {g : a → b → c → d → Rs} {x : a} {y : b} {z : c} {u : d} (h : p x y z u) : R4 ca cb cc cd p g [ca x, cb y, cc z, cd u] (g x y z u) := ⟨x, y, z, u, rfl, h, rfl⟩

/-! ### shapes -/
abbrev nat (n : Nat) : D := .int (n : Int)
abbrev natL (ns : List Nat) : D := .lst (ns.map nat)
abbrev intL (ns : List Int) : D := .lst (ns.map .int)
abbrev blL (bs : List Bool) : D := .lst (bs.map .bl)
/-- a council of n members with its table -/
abbrev cou (C : Addr) (n : Nat) (t : List Bool) : D := .obj C ["members", "table"] [nat n, blL t]
theorem nats_ints (ns : List Nat) : ns.map nat = (ns.map fun (n : Nat) => (n : Int)).map D.int := by
  rw [List.map_map]
  rfl
theorem lk_members (a b : D) : (List.zip (["members", "table"] : List Str) [a, b]).lookup ("members" : Str) = some a := by
  show List.lookup _ [(("members" : Str), a), (("table" : Str), b)] = _
  rw [List.lookup_cons, show (("members" : Str) == ("members" : Str)) = true by decide +kernel]
theorem lk_table (a b : D) : (List.zip (["members", "table"] : List Str) [a, b]).lookup ("table" : Str) = some b := by
  show List.lookup _ [(("members" : Str), a), (("table" : Str), b)] = _
  rw [List.lookup_cons, show (("table" : Str) == ("members" : Str)) = false by decide +kernel, List.lookup_cons, show (("table" : Str) == ("table" : Str)) = true by decide +kernel]

/-! ### numbers -/
theorem and_nat (a b : Nat) : Builtin.bitAnd (a : Int) (b : Int) = ((a &&& b : Nat) : Int) := by
  rw [bitAnd_pp (by omega) (by omega), Int.toNat_natCast, Int.toNat_natCast]
theorem or_nat (a b : Nat) : Builtin.bitOr (a : Int) (b : Int) = ((a ||| b : Nat) : Int) := by
  rw [Bits.bitOr_pp (by omega) (by omega), Int.toNat_natCast, Int.toNat_natCast]
theorem xor_nat (a b : Nat) : Builtin.bitXor (a : Int) (b : Int) = ((a ^^^ b : Nat) : Int) := by
  rw [Bits.bitXor_pp (by omega) (by omega), Int.toNat_natCast, Int.toNat_natCast]
theorem shl_nat (a k : Nat) : (a : Int) * (2 : Int) ^ ((k : Int)).toNat = ((a <<< k : Nat) : Int) := by
  rw [Int.toNat_natCast, Nat.shiftLeft_eq]
  exact Bits.natCast_mul_pow a k
theorem shl_one (k : Nat) : (1 : Int) * (2 : Int) ^ ((k : Int)).toNat = ((1 <<< k : Nat) : Int) := shl_nat 1 k
theorem shr_nat (a k : Nat) : (a : Int) / (2 : Int) ^ ((k : Int)).toNat = ((a >>> k : Nat) : Int) := by
  rw [Int.toNat_natCast, Nat.shiftRight_eq_div_pow, two_pow_cast, Int.natCast_ediv]
theorem bit_one (a : Nat) : Builtin.bitAnd (a : Int) 1 = ((a % 2 : Nat) : Int) := by
  rw [show (1 : Int) = ((1 : Nat) : Int) from rfl, and_nat, Nat.and_one_is_mod]
theorem bit_is (g k : Nat) : decide (Builtin.bitAnd ((g : Int) / (2 : Int) ^ ((k : Int)).toNat) 1 = 1) = g.testBit k := by
  rw [shr_nat, bit_one, Nat.testBit_eq_decide_div_mod_eq, Nat.shiftRight_eq_div_pow, decide_eq_decide]
  omega
theorem bit_no (g k : Nat) : decide (Builtin.bitAnd ((g : Int) / (2 : Int) ^ ((k : Int)).toNat) 1 = 0) = !g.testBit k := by
  rw [shr_nat, bit_one, Nat.testBit_eq_decide_div_mod_eq, Nat.shiftRight_eq_div_pow, ← decide_not, decide_eq_decide]
  omega
theorem holds_nat (a b : Nat) : decide (Builtin.bitAnd (a : Int) (b : Int) = (b : Int)) = decide (a &&& b = b) := by
  rw [and_nat, decide_eq_decide]
  omega

section
variable {K : PySem.W.Frag} {E E' : XK} {sl : List Sl} {ta tb tc te : TE} {t u : TT} {x y z d : D} {xs ys ds : List D} {r : R2} {tr : TA}
/-! ### ranges by naturals -/
theorem rng_nat (n : Nat) : (rng 0 n).map D.int = (List.range n).map nat := by
  unfold rng
  rw [List.map_map]
  refine List.map_congr_left fun i _ => ?_
  show D.int (0 + (i : Int)) = D.int (i : Int)
  rw [Int.zero_add]
theorem it_rngN {n : Nat} {m : Int} (h : EvA K tr sl [.int m]) (e : m = (n : Int)) (hn : n < 4000000000000000000) : ItE K (iRng1 tr) sl ((List.range n).map nat) := by
  subst e
  rw [← rng_nat]
  have q := it_rng1 h (by omega) (by omega)
  rwa [Int.toNat_natCast] at q
/-! ### items -/
theorem od_ixB {bs : List Bool} {g : Nat} (h : g < bs.length) : OpD K (rIxL K) (blL bs) (nat g) (.dat (.bl (bs.getD g false))) := od_ixL (by omega) (by
  rw [Int.toNat_natCast, List.getElem?_map, List.getElem?_eq_getElem h, List.getD_eq_getElem?_getD, List.getElem?_eq_getElem h]
  rfl)
theorem od_ixI {ns : List Int} {g : Nat} (h : g < ns.length) : OpD K (rIxL K) (intL ns) (nat g) (.dat (.int (ns.getD g 0))) := od_ixL (by omega) (by
  rw [Int.toNat_natCast, List.getElem?_map, List.getElem?_eq_getElem h, List.getD_eq_getElem?_getD, List.getElem?_eq_getElem h]
  rfl)
theorem od_ixN {ns : List Nat} {g : Nat} (h : g < ns.length) : OpD K (rIxL K) (natL ns) (nat g) (.dat (nat (ns.getD g 0))) := od_ixL (by omega) (by
  rw [Int.toNat_natCast, List.getElem?_map, List.getElem?_eq_getElem h, List.getD_eq_getElem?_getD, List.getElem?_eq_getElem h]
  rfl)
theorem od_to {d' : D} (h : OpD K r x y (.dat d)) (e : d = d') : OpD K r x y (.dat d') := by
  rw [← e]
  exact h
theorem od_y {y' : D} {s : Rs} (h : OpD K r x y s) (e : y' = y) : OpD K r x y' s := by
  rw [e]
  exact h
theorem ev_x (h : EvR K E te sl (.dat d)) (e : d = x) : EvR K E te sl (.dat x) := ev_is h e
theorem cb_anyM {α : Type} {as : List α} {f : α → Bool} : CbD K (rAny K) [.lst (as.map fun a => .bl (f a))] (.dat (.bl (as.any f))) := by
  have h := cb_any (K := K) (ns := as.map f)
  rw [List.map_map, List.any_map] at h
  exact h
theorem cb_allM {α : Type} {as : List α} {f : α → Bool} : CbD K (rAll K) [.lst (as.map fun a => .bl (f a))] (.dat (.bl (as.all f))) := by
  have h := cb_all (K := K) (ns := as.map f)
  rw [List.map_map, List.all_map] at h
  exact h
theorem cb_sumM {α : Type} {as : List α} {f : α → Int} : CbD K (rSum K) [.lst (as.map fun a => .int (f a))] (.dat (.int (as.map f).sum)) := by
  have h := cb_sum (K := K) (ns := as.map f)
  rw [List.map_map] at h
  exact h
/-! ### equalities of lists by naturals -/
theorem natI_inj : ∀ {ns ms : List Nat}, (ns.map fun (n : Nat) => (n : Int)) = (ms.map fun (n : Nat) => (n : Int)) → ns = ms
  | [], [], _ => rfl
  | [], _ :: _, h => by simp at h
  | _ :: _, [], h => by simp at h
  | n :: ns, m :: ms, h => by
    simp only [List.map_cons, List.cons.injEq] at h
    rw [natI_inj h.2, show n = m by omega]
theorem od_eqN {ns ms : List Nat} : OpD K (rEqD K) (natL ns) (natL ms) (.dat (.bl (decide (ns = ms)))) := by
  unfold natL
  rw [nats_ints, nats_ints]
  refine od_to od_eqL ?_
  rw [decide_eq_decide.mpr ⟨natI_inj, fun h => by rw [h]⟩]
theorem od_neN {ns ms : List Nat} : OpD K (rNeD K) (natL ns) (natL ms) (.dat (.bl (!decide (ns = ms)))) := by
  unfold natL
  rw [nats_ints, nats_ints]
  refine od_to od_neL ?_
  rw [decide_eq_decide.mpr ⟨natI_inj, fun h => by rw [h]⟩]
end
theorem hu64 {k : Nat} {A : Around} (hr : Room k A) : A.units + 64 < cLine := hr.units
end Wv
namespace Wv
theorem pw_nat (n : Nat) : (1 : Int) * (2 : Int) ^ ((n : Int)).toNat = ((2 ^ n : Nat) : Int) := by
  rw [Int.toNat_natCast]
  exact (Bits.natCast_mul_pow 1 n).trans (by rw [Nat.one_mul])
end Wv
namespace Wv
open PySem L2
/-- the first is False: the others aren't asked -/
theorem ev_andV' {K : PySem.W.Frag} {E : XK} {sl : List Sl} {ta tb : TE} (h1 : EvR K E ta sl (.dat (.bl false))) : EvR K E (tAndV ta tb) sl (.dat (.bl false)) := ev_andV (b := false) h1 fun z => nomatch z
end Wv
namespace Wv
open PySem L2
inductive Wi : D → Int → Int → Bool → Prop where
  | int (n lo hi : Int) : Wi (.int n) lo hi (decide (lo ≤ n) && decide (n ≤ hi))
  | bl (b : Bool) (lo hi : Int) : Wi (.bl b) lo hi false
  | no (x : D) (T : String) (lo hi : Int) (h : TyD x T) (hT : kitB T "int" = some false) : Wi x lo hi false
def c_within : List D → Rs → Prop := fun ds r => ∃ x lo hi b, ds = [x, .int lo, .int hi] ∧ Wi x lo hi b ∧ r = .dat (.bl b)
theorem c_within.len : ∀ ds r, c_within ds r → ds.length = 3 := by
  rintro ds r ⟨_, _, _, _, rfl, _⟩
  rfl
theorem c_within.i (n lo hi : Int) : c_within [.int n, .int lo, .int hi] (.dat (.bl (decide (lo ≤ n) && decide (n ≤ hi)))) := ⟨_, _, _, _, rfl, Wi.int _ _ _, rfl⟩
/-- promises over councils -/
def RC1 (C : Addr) (p : Nat → List Bool → Prop) (g : Nat → List Bool → Rs) : List D → Rs → Prop := fun ds r => ∃ n t, ds = [cou C n t] ∧ p n t ∧ r = g n t
def RC2 {a : Type} (C : Addr) (c : a → D) (p : Nat → List Bool → a → Prop) (g : Nat → List Bool → a → Rs) : List D → Rs → Prop := fun ds r => ∃ n t x, ds = [cou C n t, c x] ∧ p n t x ∧ r = g n t x
def RCC (C : Addr) (p : Nat → List Bool → Nat → List Bool → Prop) (g : Nat → List Bool → Nat → List Bool → Rs) : List D → Rs → Prop := fun ds r => ∃ n t m u, ds = [cou C n t, cou C m u] ∧ p n t m u ∧ r = g n t m u
theorem RC1.len {C : Addr} {p : Nat → List Bool → Prop} {g : Nat → List Bool → Rs} : ∀ ds r, RC1 C p g ds r → ds.length = 1 := by
  rintro ds r ⟨_, _, rfl, _⟩
  rfl
theorem RC2.len {a : Type} {C : Addr} {c : a → D} {p : Nat → List Bool → a → Prop} {g : Nat → List Bool → a → Rs} : ∀ ds r, RC2 C c p g ds r → ds.length = 2 := by
  rintro ds r ⟨_, _, _, rfl, _⟩
  rfl
theorem RCC.len {C : Addr} {p : Nat → List Bool → Nat → List Bool → Prop} {g : Nat → List Bool → Nat → List Bool → Rs} : ∀ ds r, RCC C p g ds r → ds.length = 2 := by
  rintro ds r ⟨_, _, _, _, rfl, _⟩
  rfl
theorem RC1.mk {C : Addr} {p : Nat → List Bool → Prop} {g : Nat → List Bool → Rs} {n : Nat} {t : List Bool} (h : p n t) : RC1 C p g [cou C n t] (g n t) := ⟨n, t, rfl, h, rfl⟩
theorem RC2.mk {a : Type} {C : Addr} {c : a → D} {p : Nat → List Bool → a → Prop} {g : Nat → List Bool → a → Rs} {n : Nat} {t : List Bool} {x : a} (h : p n t x) : RC2 C c p g [cou C n t, c x] (g n t x) := ⟨n, t, x, rfl, h, rfl⟩
theorem RCC.mk {C : Addr} {p : Nat → List Bool → Nat → List Bool → Prop} {g : Nat → List Bool → Nat → List Bool → Rs} {n m : Nat} {t u : List Bool} (h : p n t m u) : RCC C p g [cou C n t, cou C m u] (g n t m u) := ⟨n, t, m, u, rfl, h, rfl⟩
/-! ### what the program says, in plain words -/
/-- a group without each one of its members -/
def wo (g : Nat) : List Nat := ((List.range 5).filter fun k => g.testBit k).map fun k => g ^^^ 2 ^ k
/-- for each group whether it has all of some one -/
def tab (n : Nat) (gs : List Nat) : List Bool := (List.range (2 ^ n)).map fun g => gs.any fun o => decide (g &&& o = o)
def leastM (t : List Bool) : List Nat := (List.range t.length).filter fun g => t.getD g false && !((wo g).any fun l => t.getD l false)
def greatM (t : List Bool) : List Nat := (List.range t.length).filter fun g => !t.getD g false && ((wo ((t.length - 1) ^^^ g)).all fun l => t.getD ((t.length - 1) ^^^ l) false)
def wgt (ws : List Int) (g : Nat) : Int := (((List.range ws.length).filter fun k => g.testBit k).map fun k => ws.getD k 0).sum
theorem tab_len (n : Nat) (gs : List Nat) : (tab n gs).length = 2 ^ n := by simp [tab]
theorem pow_le (n : Nat) (h : n ≤ 5) : 2 ^ n ≤ 32 := Nat.pow_le_pow_right (by decide) h
theorem filt_yes {P : Nat → Bool} {i : Nat} (h : P i = true) : (List.range (i + 1)).filter P = (List.range i).filter P ++ [i] := by
  rw [List.range_succ, List.filter_append, List.filter_cons, if_pos h]
  rfl
theorem filt_no {P : Nat → Bool} {i : Nat} (h : P i = false) : (List.range (i + 1)).filter P = (List.range i).filter P := by
  rw [List.range_succ, List.filter_append, List.filter_cons, if_neg (by rw [h]; decide)]
  simp
theorem filt_len (P : Nat → Bool) (i : Nat) : ((List.range i).filter P).length ≤ i := by
  have h := List.length_filter_le P (List.range i)
  rwa [List.length_range] at h
theorem xor_bit_lt {g k : Nat} (h : g.testBit k = true) : g ^^^ 2 ^ k < g := by
  have hk : (g ^^^ 2 ^ k).testBit k = false := by
    rw [Nat.testBit_xor, Nat.testBit_two_pow, h]
    simp
  have le : g ^^^ 2 ^ k ≤ g := Nat.le_of_testBit fun i hi => by
    rw [Nat.testBit_xor, Nat.testBit_two_pow] at hi
    by_cases e : k = i
    · subst e
      rw [h]
    · rw [decide_eq_false e, Bool.xor_false] at hi
      exact hi
  rcases Nat.lt_or_eq_of_le le with l | e
  · exact l
  · rw [e, h] at hk
    cases hk
theorem wo_lt {g l : Nat} (h : l ∈ wo g) : l < g := by
  unfold wo at h
  rw [List.mem_map] at h
  obtain ⟨k, hk, rfl⟩ := h
  exact xor_bit_lt (List.mem_filter.mp hk).2
end Wv
namespace Wv
theorem lit0 : (0 : Int) = ((0 : Nat) : Int) := rfl
theorem lit1 : (1 : Int) = ((1 : Nat) : Int) := rfl
theorem lit2 : (2 : Int) = ((2 : Nat) : Int) := rfl
theorem lit3 : (3 : Int) = ((3 : Nat) : Int) := rfl
theorem lit4 : (4 : Int) = ((4 : Nat) : Int) := rfl
theorem lit5 : (5 : Int) = ((5 : Nat) : Int) := rfl
theorem lit6 : (6 : Int) = ((6 : Nat) : Int) := rfl
theorem lit7 : (7 : Int) = ((7 : Nat) : Int) := rfl
theorem lit8 : (8 : Int) = ((8 : Nat) : Int) := rfl
theorem lit31 : (31 : Int) = ((31 : Nat) : Int) := rfl
theorem lit32 : (32 : Int) = ((32 : Nat) : Int) := rfl
theorem lit40 : (40 : Int) = ((40 : Nat) : Int) := rfl
end Wv
namespace Wv
theorem wo_len (g : Nat) : (wo g).length ≤ 5 := by
  unfold wo
  rw [List.length_map]
  have h := List.length_filter_le (fun k => g.testBit k) (List.range 5)
  rwa [List.length_range] at h
theorem wo_big (g : Nat) : (wo g).length ≤ 1000000 := Nat.le_trans (wo_len g) (by decide)
end Wv
namespace Wv
open PySem L2
section
variable {K : PySem.W.Frag}
theorem od_andN {a b : Nat} : OpD K (rI0 fun i j => .int (Builtin.bitAnd i j)) (nat a) (nat b) (.dat (nat (a &&& b))) := od_to od_i (by rw [and_nat])
theorem od_orN {a b : Nat} : OpD K (rI0 fun i j => .int (Builtin.bitOr i j)) (nat a) (nat b) (.dat (nat (a ||| b))) := od_to od_i (by rw [or_nat])
theorem od_xorN {a b : Nat} : OpD K (rI0 fun i j => .int (Builtin.bitXor i j)) (nat a) (nat b) (.dat (nat (a ^^^ b))) := od_to od_i (by rw [xor_nat])
theorem od_shl1 {k : Nat} (h : k ≤ 1000000) : OpD K (rI CPow fun i j => .int (i * 2 ^ j.toNat)) (.int 1) (nat k) (.dat (nat (2 ^ k))) := od_to (od_ic ⟨by omega, by omega, by decide⟩) (by rw [pw_nat])
theorem dec_nat (a b : Nat) : decide ((a : Int) = (b : Int)) = decide (a = b) := decide_eq_decide.mpr ⟨fun h => by omega, fun h => by omega⟩
theorem od_eqNat {a b : Nat} : OpD K rEq (nat a) (nat b) (.dat (.bl (decide (a = b)))) := od_to od_eqI (by rw [dec_nat])
theorem od_neNat {a b : Nat} : OpD K rNe (nat a) (nat b) (.dat (.bl (!decide (a = b)))) := od_to od_neI (by rw [dec_nat])
end
end Wv
namespace Wv
open PySem L2
theorem cb_lenM {K : PySem.W.Frag} {α : Type} {as : List α} {f : α → D} : CbD K (rLen K) [.lst (as.map f)] (.dat (.int (as.length : Int))) := by
  have h := cb_len (K := K) (xs := as.map f)
  rwa [List.length_map] at h
end Wv
namespace Wv
open PySem L2
def c_Council_init : List D → Ri → Prop := fun ds r => ∃ n gs, ds = [nat n, natL gs] ∧ (1 ≤ n ∧ n ≤ 5 ∧ gs.length ≤ 1000 ∧ ∀ g ∈ gs, g < 2 ^ n) ∧ r = .ok ["members", "table"] [nat n, blL (tab n gs)]
theorem c_Council_init.mk {n : Nat} {gs : List Nat} (h1 : 1 ≤ n) (h5 : n ≤ 5) (hl : gs.length ≤ 1000) (hg : ∀ g ∈ gs, g < 2 ^ n) : c_Council_init [nat n, natL gs] (.ok ["members", "table"] [nat n, blL (tab n gs)]) := ⟨n, gs, rfl, ⟨h1, h5, hl, hg⟩, rfl⟩
end Wv
namespace Wv
open PySem L2
open Evl (Ex fresh_back)
/-! ### results of which only a property is told -/
def EvU (K : PySem.W.Frag) (te : TE) (sl : List Sl) (F : D → Prop) : Prop := ∀ B0 H0 B H σ, SD K B0 H0 B H σ sl → ∀ Q : VK, (∀ d, F d → ∀ v B' H', Gr B H B' H' → Den K B' d v → Q v H') → te σ H Q
def SpU (K : PySem.W.Frag) (f : List D → (D → Prop) → Prop) : Sp := fun vs H Q E => ∃ B ds F, Ex B H ∧ DenL K B ds vs ∧ f ds F ∧ ∀ d, F d → ∀ v B' H', Gr B H B' H' → Den K B' d v → Q v H'
section
variable {K : PySem.W.Frag} {E E' : XK} {sl : List Sl} {te : TE} {tr : TA} {ds : List D} {F : D → Prop} {P : En} {H : Hp} {t : TS} {N : List Str} {vs : List V} {Q : VK}
theorem ev_callU {f : List D → (D → Prop) → Prop} (ha : EvA K tr sl ds) (hf : f ds F) : EvU K (tCall (SpU K f) [] E' tr) sl F := fun B0 H0 B H σ sd Q q =>
  ha B0 H0 B H σ sd _ fun vs B1 H1 g1 d1 => by
    rw [List.append_nil]
    exact ⟨B1, ds, F, g1.sub, d1, hf, fun d hd v B' H' g dv => q d hd v B' H' (g1.trans g) dv⟩
theorem w_asgU {i : Nat} (h : EvU K te sl F) (k : ∀ d, F d → P.nx (sl.set i (.fz d))) : W K E (tAsg te (gName i)) sl P := fun B0 H0 B H σ D sd m =>
  h B0 H0 B H σ sd _ fun d hd v B1 H1 g1 d1 => m.nx B1 H1 _ _ ((sd.grow g1).setFz d1) (k d hd)
theorem spU_len {f : List D → (D → Prop) → Prop} {n : Nat} (h : ∀ ds F, f ds F → ds.length = n) : ∀ vs H Q E, SpU K f vs H Q E → vs.length = n := fun vs H Q E ⟨B, ds, r, e, hd, hf, q⟩ => by
  rw [← denL_len hd]
  exact h ds r hf
theorem goU_of {f : List D → (D → Prop) → Prop} (hw : ∀ ds F, f ds F → W K E t (startS N ds) { nx := fun _ => False, rt := fun r => ∃ d, r = .dat d ∧ F d }) (h : SpU K f vs H Q E) : t { nx := fun _ H' => Q .non H', rt := Q } (L2.start N vs) H := by
  obtain ⟨B, ds, F, e, hd, hf, q⟩ := h
  refine hw ds F hf B H B H _ _ (sd_start e hd) ⟨fun B' H' σ sl s z => z.elim, fun _ _ _ _ _ z => z.elim, fun _ _ _ _ _ z => z.elim, fun r' B' H' g z => ?_⟩
  obtain ⟨d, rfl, hF⟩ := z
  exact fun v B2 H2 g2 dv => q d hF v B2 H2 (g.trans g2) dv
end
/-! ### draws -/
def primesM : List Nat := [1000003, 1000033, 1000037, 1000039, 1000081, 1000099, 1000117, 1000121]
def blendM (c : Int) (k : Nat) : Int := c * 48271 + (k : Int) * 69621 + c / 1000003 % 1000003 * 40692
def drawM (c : Int) (k : Nat) (m : Int) : Nat := (blendM c k % ((primesM.getD (k % 8) 1 : Nat) : Int) % m).toNat
theorem drawM_lt (c : Int) (k : Nat) {m : Int} (h : 0 < m) : (drawM c k m : Int) < m := by
  unfold drawM
  have h1 := Int.emod_nonneg (blendM c k % ((primesM.getD (k % 8) 1 : Nat) : Int)) (show m ≠ 0 by omega)
  have h2 := Int.emod_lt_of_pos (blendM c k % ((primesM.getD (k % 8) 1 : Nat) : Int)) h
  omega
theorem drawM_nat (c : Int) (k : Nat) {m : Nat} (h : 0 < m) : drawM c k (m : Int) < m := by
  have := drawM_lt c k (m := (m : Int)) (by omega)
  omega
theorem primes_pos : ∀ k, k < 8 → 0 < primesM.getD k 1 := by decide
def c_law_cell_at : List D → Rs → Prop := R2' D.scr nat (fun _ _ => True) fun ns k => .dat (.int (ns.getD k 0))
def c_law_draw : List D → Rs → Prop := R3 D.int nat D.int (fun _ _ m => 0 < m) fun c k m => .dat (nat (drawM c k m))
/-- a told council -/
def ToldOk (m : Nat) (gs : List Nat) : Prop := 1 ≤ m ∧ m ≤ 5 ∧ gs.length ≤ 32 ∧ ∀ g ∈ gs, g < 2 ^ m
def c_law_told : List D → (D → Prop) → Prop := fun ds F => ∃ ns k, ds = [.scr ns, nat k] ∧ k ≤ 100 ∧ F = fun d => ∃ m gs, d = .tup [nat m, natL gs] ∧ ToldOk m gs
def c_law_table : List D → Rs → Prop := fun ds r => ∃ m gs, ds = [.tup [nat m, natL gs]] ∧ (m ≤ 5 ∧ gs.length ≤ 1000) ∧ r = .new ((tab m gs).map .bl)
def c_law_has : List D → Rs → Prop := R2' nat nat (fun _ k => k ≤ 1000) fun g k => .dat (.bl (g.testBit k))
def seatsM : List Nat := [3, 4, 5, 4, 2, 5, 1]
theorem seats_ok : ∀ k, k < 7 → 1 ≤ seatsM.getD k 0 ∧ seatsM.getD k 0 ≤ 5 := by decide
theorem od_ixTN {K : PySem.W.Frag} {ns : List Nat} {i : Int} (h0 : 0 ≤ i) (h : i.toNat < ns.length) : OpD K (rIxT K) (.tup (ns.map nat)) (.int i) (.dat (nat (ns.getD i.toNat 0))) := od_ixT h0 (by
  rw [List.getElem?_map, List.getElem?_eq_getElem h, List.getD_eq_getElem?_getD, List.getElem?_eq_getElem h]
  rfl)
end Wv
namespace Wv
open PySem L2
theorem fgt_set {s t : List Sl} {j : Nat} {x : Sl} (h : Fgt s t) : Fgt (s.set j x) (t.set j x) := by
  refine ⟨by simpa using h.1, fun k => ?_⟩
  by_cases z : k = j
  · subst z
    by_cases hl : k < s.length
    · rw [List.getElem?_set_self hl, List.getElem?_set_self (by rw [← h.1]; exact hl)]
      exact .inr rfl
    · have e1 : (s.set k x)[k]? = none := List.getElem?_eq_none (by simpa using hl)
      have e2 : (t.set k x)[k]? = none := List.getElem?_eq_none (by rw [List.length_set, ← h.1]; omega)
      rw [e1, e2]
      exact .inr rfl
  · rw [List.getElem?_set_ne (Ne.symm z), List.getElem?_set_ne (Ne.symm z)]
    exact h.2 k
section
variable {K : PySem.W.Frag} {E : XK} {sl : List Sl} {P : En}
/-- a loop whose states are told by a thing x of which I i holds -/
theorem w_forX {α β : Type} {ys : List α} {f : α → D} {ti : TI} {j : Nat} {tb : TS} (I : Nat → β → Prop) (S : β → List Sl) (hi : ItE K ti sl (ys.map f)) (b0 : β) (h0 : I 0 b0) (f0 : Fgt sl (S b0))
    (hs : ∀ i a b, ys[i]? = some a → I i b → W K E tb ((S b).set j (.fz (f a))) { nx := fun s => ∃ b', I (i + 1) b' ∧ Fgt s (S b'), ct := fun s => ∃ b', I (i + 1) b' ∧ Fgt s (S b'), bk := P.nx, rt := P.rt })
    (hd : ∀ s b, I ys.length b → Fgt s (S b) → P.nx s) : W K E (tFor ti (gName j) tb) sl P := by
  refine w_for (fun i s => ∃ b, I i b ∧ Fgt s (S b)) hi ⟨b0, h0, f0⟩ (fun i d s h1 h2 => ?_) (fun s h => ?_)
  · obtain ⟨b, hb, hf⟩ := h2
    rw [List.getElem?_map] at h1
    cases e : ys[i]? with
    | none => rw [e] at h1; cases h1
    | some a =>
      rw [e] at h1
      cases h1
      exact gw_name (w_fgt (fgt_set hf) (hs i a b e hb))
  · obtain ⟨b, hb, hf⟩ := h
    rw [List.length_map] at hb
    exact hd s b hb hf
/-- groups below M, at most one more a turn -/
def GsB (M i : Nat) (gs : List Nat) : Prop := gs.length ≤ i ∧ ∀ g ∈ gs, g < M
theorem GsB.nil {M : Nat} : GsB M 0 [] := ⟨Nat.le_refl _, fun _ h => nomatch h⟩
theorem GsB.up {M i : Nat} {gs : List Nat} (h : GsB M i gs) : GsB M (i + 1) gs := ⟨Nat.le_succ_of_le h.1, h.2⟩
theorem GsB.app {M i g : Nat} {gs : List Nat} (h : GsB M i gs) (hg : g < M) : GsB M (i + 1) (gs ++ [g]) := ⟨by rw [List.length_append]; exact Nat.succ_le_succ h.1, fun x hx => by
  rcases List.mem_append.mp hx with z | z
  · exact h.2 x z
  · rw [List.mem_singleton.mp z]
    exact hg⟩
theorem w_app1 {i : Nat} {gs : List Nat} {g : Nat} {te : TE} (hi : sl[i]? = some (.ow (gs.map nat))) (h : EvR K E te sl (.dat (nat g))) (hz : gs.length < 1000000) (k : P.nx (sl.set i (.ow ((gs ++ [g]).map nat)))) : W K E (tDrop (tBM K "list" rAppend (tVar i) (tCons te tNil))) sl P :=
  w_app hi h (by rwa [List.length_map]) (by rw [List.map_append] at k; exact k)
end
end Wv
namespace Wv
theorem c_law_table.mk {m : Nat} {gs : List Nat} (h5 : m ≤ 5) (hl : gs.length ≤ 1000) : c_law_table [.tup [nat m, natL gs]] (.new ((tab m gs).map .bl)) := ⟨m, gs, rfl, ⟨h5, hl⟩, rfl⟩
end Wv
namespace Wv
open PySem L2
/-- a statement, then the rest from what is known between -/
theorem w_seqM {K : PySem.W.Frag} {E : XK} {sl : List Sl} {P : En} {t u : TS} (M : List Sl → Prop) (h : W K E t sl { P with nx := M }) (k : ∀ s, M s → W K E u s P) : W K E (tSeq t u) sl P := w_seq (w_mono h (fun s m => k s m) (fun _ z => z) (fun _ z => z) fun _ z => z)
end Wv
namespace Wv
theorem Fgt.tr {a b c : List Sl} (h : Fgt a b) (k : Fgt b c) : Fgt a c := ⟨h.1.trans k.1, fun i => by
  rcases k.2 i with z | z
  · exact .inl z
  · rw [z]
    exact h.2 i⟩
end Wv
namespace Wv
open PySem L2
def c_law_groups : List D → Rs → Prop := R2' natL natL (fun fs _ => fs.length ≤ 1000) fun fs ds => .dat (.bl (decide (fs = ds)))
def c_law_least : List D → Rs → Prop := R2' blL nat (fun t n => n ≤ 5 ∧ t.length = 2 ^ n) fun t _ => .new ((leastM t).map nat)
def c_law_greatest : List D → Rs → Prop := R2' blL nat (fun t n => n ≤ 5 ∧ t.length = 2 ^ n) fun t _ => .new ((greatM t).map nat)
def c_law_is (C : Addr) : List D → Rs → Prop := fun ds r => ∃ n t, ds = [cou C n t, nat n, blL t] ∧ t.length ≤ 32 ∧ r = .dat (.bl true)
theorem c_law_is.len {C : Addr} : ∀ ds r, c_law_is C ds r → ds.length = 3 := by
  rintro ds r ⟨_, _, rfl, _⟩
  rfl
theorem c_law_is.mk {C : Addr} {n : Nat} {t : List Bool} (h : t.length ≤ 32) : c_law_is C [cou C n t, nat n, blL t] (.dat (.bl true)) := ⟨n, t, rfl, h, rfl⟩
/-- xs.clear(), xs one's own -/
theorem w_clear {K : PySem.W.Frag} {E : XK} {sl : List Sl} {P : En} {xs : List D} {i : Nat} (hi : sl[i]? = some (.ow xs)) (k : P.nx (sl.set i (.ow []))) : W K E (tDrop (tBM0 K "list" rClear (tVar i))) sl P := fun B0 H0 B H σ D sd m => by
  obtain ⟨p, vs, h1, h2, h3, h4, h5⟩ := sd.ow i xs hi
  exact ⟨_, h1, .inl ⟨rfl, _, .inl (.inl h4)⟩, p, vs, rfl, rfl, h4, m.nx _ _ _ _ (sd.mut hi h1 denL_nil) k⟩
end Wv
namespace Wv
open PySem L2
theorem kit_ii : kitB "int" "int" = some true := by decide +kernel
theorem kit_ib : kitB "int" "bool" = some false := by decide +kernel
theorem kit_bb : kitB "bool" "bool" = some true := by decide +kernel
theorem kit_bi : kitB "bool" "int" = some true := by decide +kernel
theorem kit_ll : kitB "list" "list" = some true := by decide +kernel
theorem kit_ss : kitB "str" "str" = some true := by decide +kernel
theorem kit_li : kitB "list" "int" = some false := by decide +kernel
theorem kit_lb : kitB "list" "bool" = some false := by decide +kernel
theorem kit_ti : kitB "tuple" "int" = some false := by decide +kernel
theorem kit_tl : kitB "tuple" "list" = some false := by decide +kernel
theorem kit_si : kitB "str" "int" = some false := by decide +kernel
theorem kit_sl : kitB "str" "list" = some false := by decide +kernel
theorem kit_ni : kitB "NoneType" "int" = some false := by decide +kernel
theorem kit_nl : kitB "NoneType" "list" = some false := by decide +kernel
theorem kit_il : kitB "int" "list" = some false := by decide +kernel
theorem kit_lt : kitB "list" "tuple" = some false := by decide +kernel
theorem kit_tt : kitB "tuple" "tuple" = some true := by decide +kernel
theorem kit_ns : kitB "NoneType" "str" = some false := by decide +kernel
theorem kit_is : kitB "int" "str" = some false := by decide +kernel
theorem kit_ls : kitB "list" "str" = some false := by decide +kernel
theorem kit_bs : kitB "bool" "str" = some false := by decide +kernel
end Wv
namespace Wv
open PySem L2
open Evl (Ex fresh_back)
section
variable {X : Cx}
theorem ip_mul : PIp X .Mult (rI CMul fun i j => .int (i * j)) := iop_mul
end
section
variable {K : PySem.W.Frag} {E : XK} {B H : Hp} {sl : List Sl} {ta te : TE} {xs : List D} {P : En}
theorem w_augC {i : Nat} {C : Int → Int → Prop} {f : Int → Int → Int} {a b : Int} (hi : sl[i]? = some (.fz (.int a))) (h : EvR K E te sl (.dat (.int b))) (hc : C a b) (k : P.nx (sl.set i (.fz (.int (f a b))))) : W K E (tAug i te (rI C fun i j => .int (f i j))) sl P := fun B0 H0 B H σ D sd m => by
  obtain ⟨v, h1, h2⟩ := sd.fz i _ hi
  rw [den_int h2] at h1
  refine ⟨_, h1, h B0 H0 B H σ sd _ fun v B1 H1 g1 d1 => ?_⟩
  rw [den_int d1]
  exact ⟨a, b, rfl, rfl, hc, m.nx B1 H1 _ _ ((sd.grow g1).setFz (mk_int _)) k⟩
theorem ty_lst {v : V} (e : Ex B H) (d : Den K B (.lst xs) v) : tyV K "list" v H := by
  obtain ⟨a, vs, rfl, h, _⟩ := den_lst d
  exact .inl ⟨rfl, _, .inl (.inl (e a _ h))⟩
theorem ev_listRg1 {n : Nat} {m : Int} (h : EvR K E ta sl (.dat (.int m))) (e : m = (n : Int)) (hn : n ≤ 1000000) : EvR K E (tLstRg (tRg1 ta)) sl (.new ((List.range n).map nat)) := fun B0 H0 B H σ sd Q q => by
  subst e
  refine h B0 H0 B H σ sd _ fun v B1 H1 g1 d1 => ⟨_, den_int d1, RgOk.of_le (by omega) (by omega) (by omega) (by omega), fun p hp => ?_⟩
  refine q p _ B1 _ (g1.trans (Gr.lay g1.sub hp)) (g1.back hp) (fresh_back g1.sub hp) upd_same ?_
  unfold rgV
  rw [show ((n : Int) - 0).toNat = n by omega]
  have k : ∀ l : List Nat, DenL K B1 (l.map nat) (l.map fun (i : Nat) => V.int (0 + (i : Int))) := by
    intro l
    induction l with
    | nil => exact denL_nil
    | cons a l ih =>
      refine denL_cons ?_ ih
      show Den K B1 (nat a) (V.int (0 + (a : Int)))
      rw [Int.zero_add]
      exact mk_int _
  exact k _
theorem ev_count {ns : List Int} {k : Int} (ho : EvR K E ta sl (.dat (intL ns))) (ha : EvR K E0 te sl (.dat (.int k))) : EvR K E (tBM K "list" (rCntI K) ta (tCons te tNil)) sl (.dat (nat (ns.count k))) :=
  ev_bm ho (ea_cons ha ea_nil) (fun B H v vs e d dd E Q q => ⟨ty_lst e d, by
    obtain ⟨a, us, rfl, h1, h2⟩ := den_lst d
    obtain ⟨w, rfl, h3⟩ := denL_one dd
    rw [den_int h3]
    rw [denL_ints h2] at h1
    exact ⟨a, ns, k, rfl, rfl, SqL.of (e a _ h1), post_v e q (mk_int _)⟩⟩) fun B H v e d => ty_lst e d
end
end Wv
/-! the plain law: tables, least and greatest groups, weights -/
namespace Wv
theorem bits_range : ∀ n, n < 6 → ∀ g, g < 2 ^ n → ((List.range 5).filter fun k => g.testBit k) = (List.range n).filter fun k => g.testBit k := by decide +kernel
theorem great_range : ∀ n, n < 6 → ∀ g, g < 2 ^ n → ((wo ((2 ^ n - 1) ^^^ g)).map fun l => (2 ^ n - 1) ^^^ l) = ((List.range n).filter fun k => !g.testBit k).map fun k => g ||| 2 ^ k := by decide +kernel
theorem less_any {n g : Nat} (hn : n ≤ 5) (hg : g < 2 ^ n) (f : Nat → Bool) : (((List.range n).filter fun k => g.testBit k).any fun k => f (g ^^^ 2 ^ k)) = (wo g).any f := by
  unfold wo
  rw [List.any_map, bits_range n (by omega) g hg]
  rfl
theorem more_all {n g : Nat} (hn : n ≤ 5) (hg : g < 2 ^ n) (f : Nat → Bool) : (((List.range n).filter fun k => !g.testBit k).all fun k => f (g ||| 2 ^ k)) = (wo ((2 ^ n - 1) ^^^ g)).all fun l => f ((2 ^ n - 1) ^^^ l) := by
  have h := congrArg (fun l => l.all f) (great_range n (by omega) g hg)
  simp only [List.all_map] at h
  exact h.symm
theorem filt_eq {p q : Nat → Bool} {n : Nat} (h : ∀ i, i < n → p i = q i) : (List.range n).filter p = (List.range n).filter q := List.filter_congr fun i hi => h i (List.mem_range.mp hi)
/-- a council's table hangs on its groups alone -/
theorem tab_same {n : Nat} {gs hs : List Nat} (h : ∀ g, g ∈ gs ↔ g ∈ hs) : tab n gs = tab n hs := by
  unfold tab
  refine List.map_congr_left fun g _ => ?_
  rw [Bool.eq_iff_iff, List.any_eq_true, List.any_eq_true]
  exact ⟨fun ⟨o, a, b⟩ => ⟨o, (h o).mp a, b⟩, fun ⟨o, a, b⟩ => ⟨o, (h o).mpr a, b⟩⟩
theorem tab_get {n g : Nat} {gs : List Nat} (h : g < 2 ^ n) : (tab n gs).getD g false = gs.any fun o => decide (g &&& o = o) := by
  unfold tab
  rw [List.getD_eq_getElem?_getD, List.getElem?_map, List.getElem?_range h]
  rfl
theorem sum_filt {ws : Nat → Int} (h0 : ∀ k, 0 ≤ ws k) {p q : Nat → Bool} (h : ∀ k, p k = true → q k = true) : ∀ l : List Nat, ((l.filter p).map ws).sum ≤ ((l.filter q).map ws).sum
  | [] => by simp
  | k :: l => by
    have ih := sum_filt h0 h l
    have hk := h0 k
    cases hp : p k with
    | true =>
      rw [List.filter_cons, if_pos hp, List.filter_cons, if_pos (h k hp)]
      simp only [List.map_cons, List.sum_cons]
      omega
    | false =>
      rw [List.filter_cons, if_neg (by rw [hp]; decide)]
      cases hq : q k with
      | true =>
        rw [List.filter_cons, if_pos hq]
        simp only [List.map_cons, List.sum_cons]
        omega
      | false =>
        rw [List.filter_cons, if_neg (by rw [hq]; decide)]
        exact ih
theorem getD_nn {ws : List Int} (h : ∀ w ∈ ws, 0 ≤ w) (k : Nat) : 0 ≤ ws.getD k 0 := by
  rw [List.getD_eq_getElem?_getD]
  cases e : ws[k]? with
  | none => simp
  | some w => exact h w (List.mem_of_getElem? e)
theorem wgt_mono {ws : List Int} (h : ∀ w ∈ ws, 0 ≤ w) {g o : Nat} (hs : g &&& o = o) : wgt ws o ≤ wgt ws g := by
  unfold wgt
  refine sum_filt (ws := fun k => ws.getD k 0) (getD_nn h) (fun k hk => ?_) _
  have e : (g &&& o).testBit k = true := by rw [hs]; exact hk
  rw [Nat.testBit_and] at e
  exact (Bool.and_eq_true_iff.mp e).1
theorem tabW_eq {ws : List Int} {q : Int} (h : ∀ w ∈ ws, 0 ≤ w) : tab ws.length ((List.range (2 ^ ws.length)).filter fun g => decide (q ≤ wgt ws g)) = (List.range (2 ^ ws.length)).map fun g => decide (q ≤ wgt ws g) := by
  unfold tab
  refine List.map_congr_left fun g hg => ?_
  rw [Bool.eq_iff_iff, List.any_eq_true, decide_eq_true_eq]
  constructor
  · rintro ⟨o, ho, hs⟩
    have h1 := of_decide_eq_true (List.mem_filter.mp ho).2
    have h2 := wgt_mono h (of_decide_eq_true hs)
    omega
  · intro hq
    exact ⟨g, List.mem_filter.mpr ⟨hg, decide_eq_true hq⟩, decide_eq_true (Nat.and_self g)⟩
end Wv
namespace Wv
theorem leastM_len {t : List Bool} (h : t.length ≤ 32) : (leastM t).length ≤ 32 := Nat.le_trans (filt_len _ _) h
theorem greatM_len {t : List Bool} (h : t.length ≤ 32) : (greatM t).length ≤ 32 := Nat.le_trans (filt_len _ _) h
theorem sum_le : ∀ (ws : List Nat) (b : Nat), (∀ w ∈ ws, w ≤ b) → (ws.map fun (w : Nat) => (w : Int)).sum ≤ (ws.length * b : Nat)
  | [], b, _ => by simp
  | w :: ws, b, h => by
    have ih := sum_le ws b fun x hx => h x (List.mem_cons_of_mem _ hx)
    have hw := h w List.mem_cons_self
    simp only [List.map_cons, List.sum_cons, List.length_cons]
    rw [Nat.succ_mul]
    omega
theorem most_ok : ∀ k, k < 3 → 0 < ([3, 50, 1000001] : List Nat).getD k 0 ∧ ([3, 50, 1000001] : List Nat).getD k 0 ≤ 1000001 := by decide
end Wv
namespace Wv
theorem wgt_nat (ws : List Nat) (g : Nat) : wgt (ws.map fun (w : Nat) => (w : Int)) g = (((List.range ws.length).filter fun k => g.testBit k).map fun k => ((ws.getD k 0 : Nat) : Int)).sum := by
  unfold wgt
  rw [List.length_map]
  congr 1
  refine List.map_congr_left fun k _ => ?_
  rw [List.getD_eq_getElem?_getD, List.getD_eq_getElem?_getD, List.getElem?_map]
  cases ws[k]? <;> rfl
end Wv
/-! the plain law: upward tables, the turned one, turns, orders -/
namespace Wv
/-- with every group each greater one -/
def Mono (n : Nat) (t : List Bool) : Prop := t.length = 2 ^ n ∧ ∀ g o, g < 2 ^ n → o < 2 ^ n → g &&& o = o → t.getD o false = true → t.getD g false = true
theorem mono_tab {n : Nat} {gs : List Nat} : Mono n (tab n gs) := ⟨tab_len n gs, fun g o hg ho hs ht => by
  rw [tab_get ho, List.any_eq_true] at ht
  obtain ⟨x, hx, e⟩ := ht
  rw [tab_get hg, List.any_eq_true]
  refine ⟨x, hx, decide_eq_true ?_⟩
  have e := of_decide_eq_true e
  rw [← e, ← Nat.and_assoc, hs]⟩
theorem map_get {n g : Nat} {p : Nat → Bool} (h : g < n) : ((List.range n).map p).getD g false = p g := by
  rw [List.getD_eq_getElem?_getD, List.getElem?_map, List.getElem?_range h]
  rfl
/-- the groups told by an upward property are its table -/
theorem tab_up {n : Nat} {p : Nat → Bool} (h : ∀ g o, g < 2 ^ n → o < 2 ^ n → g &&& o = o → p o = true → p g = true) : tab n ((List.range (2 ^ n)).filter p) = (List.range (2 ^ n)).map p := by
  unfold tab
  refine List.map_congr_left fun g hg => ?_
  have hg := List.mem_range.mp hg
  rw [Bool.eq_iff_iff, List.any_eq_true]
  constructor
  · rintro ⟨o, ho, hs⟩
    obtain ⟨h1, h2⟩ := List.mem_filter.mp ho
    exact h g o hg (List.mem_range.mp h1) (of_decide_eq_true hs) h2
  · intro hq
    exact ⟨g, List.mem_filter.mpr ⟨List.mem_range.mpr hg, hq⟩, decide_eq_true (Nat.and_self g)⟩
/-- the turned table -/
def dualM (n : Nat) (t : List Bool) : List Bool := (List.range (2 ^ n)).map fun g => !t.getD ((2 ^ n - 1) ^^^ g) false
theorem comp_lt {n g : Nat} (h : g < 2 ^ n) : (2 ^ n - 1) ^^^ g < 2 ^ n := Nat.xor_lt_two_pow (by have := Nat.two_pow_pos n; omega) h
theorem comp_comp (n g : Nat) : (2 ^ n - 1) ^^^ ((2 ^ n - 1) ^^^ g) = g := by
  rw [← Nat.xor_assoc, Nat.xor_self, Nat.zero_xor]
theorem comp_sub : ∀ n, n < 6 → ∀ g, g < 2 ^ n → ∀ o, o < 2 ^ n → g &&& o = o → ((2 ^ n - 1) ^^^ o) &&& ((2 ^ n - 1) ^^^ g) = (2 ^ n - 1) ^^^ g := by decide +kernel
theorem comp_is : ∀ n, n < 6 → ∀ g, g < 2 ^ n → 2 ^ n - 1 - g = (2 ^ n - 1) ^^^ g := by decide +kernel
theorem dual_up {n : Nat} {t : List Bool} (hn : n ≤ 5) (h : Mono n t) (g o : Nat) (hg : g < 2 ^ n) (ho : o < 2 ^ n) (hs : g &&& o = o) (hp : (!t.getD ((2 ^ n - 1) ^^^ o) false) = true) : (!t.getD ((2 ^ n - 1) ^^^ g) false) = true := by
  rw [Bool.not_eq_true'] at hp ⊢
  cases e : t.getD ((2 ^ n - 1) ^^^ g) false with
  | false => rfl
  | true =>
    have := h.2 _ _ (comp_lt ho) (comp_lt hg) (comp_sub n (by omega) g hg o ho hs) e
    rw [hp] at this
    cases this
theorem dual_tab {n : Nat} {t : List Bool} (hn : n ≤ 5) (h : Mono n t) : tab n ((List.range (2 ^ n)).filter fun g => !t.getD ((2 ^ n - 1) ^^^ g) false) = dualM n t := tab_up fun g o hg ho hs hp => dual_up hn h g o hg ho hs hp
theorem dual_len (n : Nat) (t : List Bool) : (dualM n t).length = 2 ^ n := by simp [dualM]
theorem mono_dual {n : Nat} {t : List Bool} (hn : n ≤ 5) (h : Mono n t) : Mono n (dualM n t) := by
  rw [← dual_tab hn h]
  exact mono_tab
theorem list_ext_get {n : Nat} {t u : List Bool} (h1 : t.length = n) (h2 : u.length = n) (h : ∀ g, g < n → t.getD g false = u.getD g false) : t = u := by
  apply List.ext_getElem?
  intro i
  by_cases hi : i < n
  · have a := h i hi
    rw [List.getD_eq_getElem?_getD, List.getD_eq_getElem?_getD, List.getElem?_eq_getElem (by omega), List.getElem?_eq_getElem (by omega)] at a
    rw [List.getElem?_eq_getElem (by omega), List.getElem?_eq_getElem (by omega)]
    exact congrArg some a
  · rw [List.getElem?_eq_none (by omega), List.getElem?_eq_none (by omega)]
theorem dual_get {n g : Nat} {t : List Bool} (h : g < 2 ^ n) : (dualM n t).getD g false = !t.getD ((2 ^ n - 1) ^^^ g) false := map_get h
theorem dual_dual {n : Nat} {t : List Bool} (h : t.length = 2 ^ n) : dualM n (dualM n t) = t := list_ext_get (dual_len _ _) h fun g hg => by
  rw [dual_get hg, dual_get (comp_lt hg), comp_comp, Bool.not_not]
/-! ### turns -/
def swing (t : List Bool) (k g : Nat) : Bool := t.getD (g ||| 2 ^ k) false && !t.getD g false
def swingsM (n : Nat) (t : List Bool) : List Nat := (List.range n).map fun k => ((List.range (2 ^ n)).filter fun g => !g.testBit k && swing t k g).length
theorem perm_comp : ∀ n, n < 6 → ∀ k, k < n → (((List.range (2 ^ n)).filter fun g => !g.testBit k).map fun g => (2 ^ n - 1) ^^^ (g ||| 2 ^ k)).isPerm ((List.range (2 ^ n)).filter fun g => !g.testBit k) = true := by decide +kernel
theorem comp_or : ∀ n, n < 6 → ∀ k, k < n → ∀ g, g < 2 ^ n → g.testBit k = false → ((2 ^ n - 1) ^^^ (g ||| 2 ^ k)) ||| 2 ^ k = (2 ^ n - 1) ^^^ g := by decide +kernel
theorem swing_dual {n : Nat} {t : List Bool} (hn : n ≤ 5) (h : t.length = 2 ^ n) {k : Nat} (hk : k < n) : ((List.range (2 ^ n)).filter fun g => !g.testBit k && swing (dualM n t) k g).length = ((List.range (2 ^ n)).filter fun g => !g.testBit k && swing t k g).length := by
  have split : ∀ f : Nat → Bool, ((List.range (2 ^ n)).filter fun g => !g.testBit k && f g).length = ((List.range (2 ^ n)).filter fun g => !g.testBit k).countP f := fun f => by
    rw [List.countP_eq_length_filter, List.filter_filter]
    congr 1
    exact List.filter_congr fun g _ => Bool.and_comm _ _
  rw [split, split, ← (List.isPerm_iff.mp (perm_comp n (by omega) k hk)).countP_eq, List.countP_map]
  refine List.countP_congr fun g hg => ?_
  obtain ⟨h1, h2⟩ := List.mem_filter.mp hg
  have h1 := List.mem_range.mp h1
  have h2 : g.testBit k = false := by simpa using h2
  have hor : g ||| 2 ^ k < 2 ^ n := Nat.or_lt_two_pow h1 (Nat.pow_lt_pow_right (by decide) hk)
  show swing (dualM n t) k ((2 ^ n - 1) ^^^ (g ||| 2 ^ k)) = true ↔ swing t k g = true
  unfold swing
  rw [comp_or n (by omega) k hk g h1 h2, dual_get (comp_lt h1), dual_get (comp_lt hor), comp_comp, comp_comp, Bool.not_not, Bool.and_comm]
theorem swings_dual {n : Nat} {t : List Bool} (hn : n ≤ 5) (h : t.length = 2 ^ n) : swingsM n (dualM n t) = swingsM n t := List.map_congr_left fun k hk => swing_dual hn h (List.mem_range.mp hk)
/-! ### orders -/
def fac : Nat → Nat
  | 0 => 1
  | n + 1 => fac n * (n + 1)
def pop (n g : Nat) : Nat := ((List.range n).filter fun i => g.testBit i).length
def ordCond (t : List Bool) (k g : Nat) : Bool := !g.testBit k && swing t k g
def ordersM (n : Nat) (t : List Bool) : List Nat := (List.range n).map fun k => (((List.range (2 ^ n)).filter fun g => ordCond t k g).map fun g => fac (pop n g) * fac (n - 1 - pop n g)).sum
/-- all orders of so many, as the law makes them -/
def permsM : Nat → List (List Nat)
  | 0 => [[]]
  | n + 1 => (List.range (n + 1)).flatMap fun a => (permsM n).map fun o => o.take a ++ [n] ++ o.drop a
def turnFrom (t : List Bool) (g : Nat) : List Nat → Int
  | [] => -1
  | k :: r => if !t.getD g false && t.getD (g ||| 2 ^ k) false then (k : Int) else turnFrom t (g ||| 2 ^ k) r
/-- those ahead of k -/
def before (k : Nat) (o : List Nat) : Nat := (o.takeWhile fun x => decide (x ≠ k)).foldl (fun g x => g ||| 2 ^ x) 0
theorem perms_ok : ∀ n, n < 6 → ∀ o ∈ permsM n, (∀ x ∈ o, x < n) ∧ ∀ k, k < n → k ∈ o := by decide +kernel
theorem perms_nodup : ∀ n, n < 6 → ∀ o ∈ permsM n, o.Nodup := by decide +kernel
theorem perms_len : ∀ n, n < 6 → (permsM n).length ≤ 120 := by decide +kernel
theorem before_count : ∀ n, n < 6 → ∀ k, k < n → ∀ g, g < 2 ^ n → ((permsM n).map (before k)).count g = if g.testBit k then 0 else fac (pop n g) * fac (n - 1 - pop n g) := by decide +kernel
theorem before_lt : ∀ n, n < 6 → ∀ k, k < n → ∀ o ∈ permsM n, before k o < 2 ^ n := by decide +kernel
theorem sum_count (f : Nat → Bool) : ∀ (l : List Nat) (m : Nat), (∀ g ∈ l, g < m) → l.countP f = (((List.range m).filter f).map fun g => l.count g).sum
  | [], m, _ => by
    have h : ∀ r : List Nat, (r.map fun g => ([] : List Nat).count g).sum = 0 := by
      intro r
      induction r with
      | nil => rfl
      | cons a r ih =>
        rw [List.map_cons, List.sum_cons, ih]
        rfl
    rw [h]
    rfl
  | a :: l, m, hl => by
    have ih := sum_count f l m fun g hg => hl g (List.mem_cons_of_mem _ hg)
    have ha := hl a List.mem_cons_self
    have key : ∀ r : List Nat, r.Nodup → (r.map fun g => (a :: l).count g).sum = (r.map fun g => l.count g).sum + if a ∈ r then 1 else 0 := by
      intro r
      induction r with
      | nil => intro _; rfl
      | cons b r ihr =>
        intro hnd
        obtain ⟨h1, h2⟩ := List.nodup_cons.mp hnd
        have q := ihr h2
        simp only [List.map_cons, List.sum_cons]
        rw [q, List.count_cons]
        by_cases e : a = b
        · subst e
          rw [if_neg h1]
          simp
          omega
        · have e2 : (a == b) = false := by simpa using e
          rw [e2]
          simp [e]
          omega
    rw [List.countP_cons, ih, key _ (List.nodup_range.sublist List.filter_sublist)]
    congr 1
    cases hf : f a with
    | true => rw [if_pos rfl, if_pos (List.mem_filter.mpr ⟨List.mem_range.mpr ha, hf⟩)]
    | false => rw [if_neg Bool.false_ne_true, if_neg fun z => by rw [(List.mem_filter.mp z).2] at hf; cases hf]
theorem turn_mem {t : List Bool} : ∀ (o : List Nat) (g : Nat) (k : Nat), turnFrom t g o = (k : Int) → k ∈ o
  | [], g, k, h => by
    have h : (-1 : Int) = (k : Int) := h
    omega
  | a :: o, g, k, h => by
    unfold turnFrom at h
    split at h
    · have : a = k := by omega
      rw [this]
      exact List.mem_cons_self
    · exact List.mem_cons_of_mem _ (turn_mem o _ k h)
/-- who turns in an order: by those ahead of it -/
theorem turn_before {n : Nat} {t : List Bool} (h : Mono n t) : ∀ (o : List Nat) (g : Nat) (k : Nat), (∀ x ∈ o, x < n) → g < 2 ^ n → o.Nodup → k ∈ o → g.testBit k = false →
    (turnFrom t g o = (k : Int) ↔ (!t.getD ((o.takeWhile fun x => decide (x ≠ k)).foldl (fun g x => g ||| 2 ^ x) g) false && t.getD (((o.takeWhile fun x => decide (x ≠ k)).foldl (fun g x => g ||| 2 ^ x) g) ||| 2 ^ k) false) = true)
  | [], _, _, _, _, _, h, _ => nomatch h
  | a :: o, g, k, ho, hg, hnd, hk, hb => by
    obtain ⟨h1, h2⟩ := List.nodup_cons.mp hnd
    have ha := ho a List.mem_cons_self
    have hga : g ||| 2 ^ a < 2 ^ n := Nat.or_lt_two_pow hg (Nat.pow_lt_pow_right (by decide) ha)
    unfold turnFrom
    by_cases e : a = k
    · subst e
      have tw : ((a :: o).takeWhile fun x => decide (x ≠ a)) = [] := by simp [List.takeWhile_cons]
      rw [tw]
      simp only [List.foldl_nil]
      by_cases c : (!t.getD g false && t.getD (g ||| 2 ^ a) false) = true
      · rw [if_pos c]
        exact ⟨fun _ => c, fun _ => rfl⟩
      · rw [if_neg c]
        exact ⟨fun z => absurd (turn_mem o _ a z) h1, fun z => absurd z c⟩
    · have hko : k ∈ o := (List.mem_cons.mp hk).resolve_left fun z => e z.symm
      have hbk : (g ||| 2 ^ a).testBit k = false := by
        rw [Nat.testBit_or, hb, Nat.testBit_two_pow_of_ne e]
        rfl
      have tw : ((a :: o).takeWhile fun x => decide (x ≠ k)) = a :: o.takeWhile fun x => decide (x ≠ k) := by simp [List.takeWhile_cons, e]
      rw [tw]
      simp only [List.foldl_cons]
      by_cases c : (!t.getD g false && t.getD (g ||| 2 ^ a) false) = true
      · rw [if_pos c]
        constructor
        · intro z
          exact absurd (by omega) e
        · intro z
          -- behind a, who turned, all carry
          have up : ∀ (l : List Nat) (x : Nat), (∀ y ∈ l, y < n) → x < 2 ^ n → t.getD x false = true → t.getD (l.foldl (fun g x => g ||| 2 ^ x) x) false = true := by
            intro l
            induction l with
            | nil => intro x _ _ hx; exact hx
            | cons y l ih =>
              intro x hl hx ht
              have hy := hl y List.mem_cons_self
              have hxy : x ||| 2 ^ y < 2 ^ n := Nat.or_lt_two_pow hx (Nat.pow_lt_pow_right (by decide) hy)
              refine ih _ (fun w hw => hl w (List.mem_cons_of_mem _ hw)) hxy (h.2 _ x hxy hx ?_ ht)
              apply Nat.eq_of_testBit_eq
              intro i
              rw [Nat.testBit_and, Nat.testBit_or]
              cases x.testBit i <;> simp
          have u := up (o.takeWhile fun x => decide (x ≠ k)) (g ||| 2 ^ a) (fun y hy => ho y (List.mem_cons_of_mem _ ((List.takeWhile_sublist _).subset hy))) hga (Bool.and_eq_true_iff.mp c).2
          rw [u] at z
          cases z
      · rw [if_neg c]
        exact turn_before h o (g ||| 2 ^ a) k (fun x hx => ho x (List.mem_cons_of_mem _ hx)) hga h2 hko hbk
theorem orders_count {n : Nat} {t : List Bool} (hn : n ≤ 5) (h : Mono n t) {k : Nat} (hk : k < n) : ((permsM n).map (turnFrom t 0)).count (k : Int) = (((List.range (2 ^ n)).filter fun g => ordCond t k g).map fun g => fac (pop n g) * fac (n - 1 - pop n g)).sum := by
  rw [List.count_eq_countP, List.countP_map]
  have e1 : (permsM n).countP ((fun x => x == (k : Int)) ∘ turnFrom t 0) = ((permsM n).map (before k)).countP (fun g => swing t k g) := by
    rw [List.countP_map]
    refine List.countP_congr fun o ho => ?_
    obtain ⟨h1, h2⟩ := perms_ok n (by omega) o ho
    have q := turn_before h o 0 k h1 (Nat.two_pow_pos n) (perms_nodup n (by omega) o ho) (h2 k hk) (Nat.zero_testBit k)
    show (turnFrom t 0 o == (k : Int)) = true ↔ swing t k (before k o) = true
    rw [beq_iff_eq, q]
    unfold swing before
    rw [Bool.and_comm]
  rw [e1, sum_count _ _ (2 ^ n) fun g hg => by
    obtain ⟨o, ho, rfl⟩ := List.mem_map.mp hg
    exact before_lt n (by omega) k hk o ho]
  have e2 : ∀ l : List Nat, (∀ g ∈ l, g < 2 ^ n) → ((l.filter fun g => swing t k g).map fun g => ((permsM n).map (before k)).count g).sum = ((l.filter fun g => ordCond t k g).map fun g => fac (pop n g) * fac (n - 1 - pop n g)).sum := by
    intro l
    induction l with
    | nil => intro _; rfl
    | cons g l ih =>
      intro hl
      have q := ih fun x hx => hl x (List.mem_cons_of_mem _ hx)
      have c := before_count n (by omega) k hk g (hl g List.mem_cons_self)
      rw [List.filter_cons, List.filter_cons]
      unfold ordCond
      cases hs : swing t k g with
      | false =>
        rw [if_neg (by decide), Bool.and_false, if_neg (by decide)]
        exact q
      | true =>
        rw [if_pos rfl, Bool.and_true]
        cases hb : g.testBit k with
        | true =>
          rw [if_neg (by decide), List.map_cons, List.sum_cons, c, hb, if_pos rfl, Nat.zero_add]
          exact q
        | false =>
          rw [if_pos (by decide), List.map_cons, List.map_cons, List.sum_cons, List.sum_cons, c, hb, if_neg (by decide)]
          congr 1
  exact e2 _ fun g hg => List.mem_range.mp hg
end Wv
/-! where the text's defs stand -/
namespace Wv
open PySem L2 PyProof.Rows
def LawAt (K : PySem.W.Frag) (mg : Str → Option Value) (st : Stmt) : Prop := ∃ f fd, mg "law" = some (.ref f) ∧ Fun K "law" "law" st f fd ∧ ∀ v, bindArgs fd ⟨[v], []⟩ = pure [(("_law_script" : Str), v)]
section
variable {K : PySem.W.Frag} {mg : Str → Option Value} {h : Heap} {x m q : Str} {st : Stmt} {ps : List Str} {f C : Addr} {oc : Value} {od an : Option Addr} {osl : Array (Option Value)} {kV doc pm cd ct : Value}
theorem fnAt_mk (X : K.In h) (G : h.Ns mainGlobals mg) (a : PySem.W.nsIn K mainGlobals x = some (some (.ref f))) (l : K.lookup f = some ⟨oc, od, .func (PySem.W.fnOf x x (defArgs st) (defBody st) (defScope st) .none kV doc pm an cd ct), osl⟩) (c : PySem.W.codeIn K cd x = true) (k : PySem.W.keepIn K (.ref f) = true)
    (hb : ∀ (kV doc pm : Value) (an : Option Addr) (cdv ct : Value) (us : List Value), us.length = ps.length → bindArgs (PySem.W.fnOf x x (defArgs st) (defBody st) (defScope st) .none kV doc pm an cdv ct) ⟨us, []⟩ = pure (ps.zip us)) : FnAt K mg x st ps :=
  ⟨f, _, PySem.W.mg_of X G a, fun_mk l c k, (fun_mk l c k).binds hb⟩
theorem mtAt_mk (a : PySem.W.findIn K (.ref C) m = some (some (.ref f))) (i : PySem.W.isFn K (.ref f) = true) (l : K.lookup f = some ⟨oc, od, .func (PySem.W.fnOf m q (defArgs st) (defBody st) (defScope st) .none kV doc pm an cd ct), osl⟩) (c : PySem.W.codeIn K cd q = true) (k : PySem.W.keepIn K (.ref f) = true)
    (hb : ∀ (kV doc pm : Value) (an : Option Addr) (cdv ct : Value) (us : List Value), us.length = ps.length → bindArgs (PySem.W.fnOf m q (defArgs st) (defBody st) (defScope st) .none kV doc pm an cdv ct) ⟨us, []⟩ = pure (ps.zip us)) : MtAt K C m q st ps :=
  ⟨f, _, ⟨a, i, k⟩, fun_mk l c k, (fun_mk l c k).binds hb⟩
theorem mkAt_mk (g : mg x = some (.ref C)) (mk : PySem.W.makesIn K C = true) (a : PySem.W.findIn K (.ref C) "__init__" = some (some (.ref f))) (i : PySem.W.isFn K (.ref f) = true) (kc : PySem.W.keepIn K (.ref C) = true) (l : K.lookup f = some ⟨oc, od, .func (PySem.W.fnOf "__init__" q (defArgs st) (defBody st) (defScope st) .none kV doc pm an cd ct), osl⟩) (c : PySem.W.codeIn K cd q = true) (k : PySem.W.keepIn K (.ref f) = true)
    (hb : ∀ (kV doc pm : Value) (an : Option Addr) (cdv ct : Value) (us : List Value), us.length = ps.length → bindArgs (PySem.W.fnOf "__init__" q (defArgs st) (defBody st) (defScope st) .none kV doc pm an cdv ct) ⟨us, []⟩ = pure (ps.zip us)) : MkAt K mg x C q st ps :=
  ⟨f, _, g, ⟨mk, a, i, kc⟩, fun_mk l c k, (fun_mk l c k).binds hb⟩
theorem lawAt_mk (X : K.In h) (G : h.Ns mainGlobals mg) (a : PySem.W.nsIn K mainGlobals "law" = some (some (.ref f))) (l : K.lookup f = some ⟨oc, od, .func (PySem.W.fnOf "law" "law" (defArgs st) (defBody st) (defScope st) .none kV doc pm an cd ct), osl⟩) (c : PySem.W.codeIn K cd "law" = true) (k : PySem.W.keepIn K (.ref f) = true)
    (hb : ∀ (kV doc pm : Value) (an : Option Addr) (cdv ct : Value) (v : Value), bindArgs (PySem.W.fnOf "law" "law" (defArgs st) (defBody st) (defScope st) .none kV doc pm an cdv ct) ⟨[v], []⟩ = pure [(("_law_script" : Str), v)]) : LawAt K mg st :=
  ⟨f, _, PySem.W.mg_of X G a, fun_mk l c k, hb kV doc pm an cd ct⟩
end
def c_law : List D → Rs → Prop := R1 D.scr (fun _ => True) fun _ => .dat (.bl true)
theorem walk {l : PySem.W.OpenLaw} {q : Program} {loose : List Str} {XP : (Str → Option Value) → Heap → Prop} {YP : World → Heap → Prop} {d : DefRec} {K : Params → PySem.W.Frag} {k : Nat} (hn : l.most = some 63) (hdf : d.params.defaults = []) (hr : Room k callerA)
    (hY : ∀ (w : World) (h : Heap), YP w h → (K w.params).In h)
    (F : ∀ (w : World) (mg : Str → Option Value) (fa : Addr) (h : Heap), (K w.params).In h → h.Ns mainGlobals mg → mg d.name = some (.ref fa) →
      ∃ fd : FuncData, (∀ (s : Shared) (u : Value), BindsTo s fd ⟨[u], []⟩ [("_law_script", u)]) ∧ ∀ base : Heap, (K w.params).In base → base.Ns mainGlobals mg → FnOk l.prog w (K w.params) mg base CX0 k fa fd ["_law_script"] (SpR (K w.params) c_law)) :
    PySem.W.WalkO q loose XP YP l.row.toRowW d [] (fun f vs => PySem.call f vs) :=
  L2.walk_of (n := 63) (k := k) (x := "_law_script") (CX := fun _ => CX0) (sp := fun w => SpR (K w.params) c_law) hn (by decide) hdf hr hY F
    (fun w H a ns hl _ hS => ⟨H, [.scr ns], .dat (.bl true), fun _ _ z => z, denL_cons (by simp only [Den]; exact ⟨a, rfl, hS⟩) denL_nil, ⟨ns, rfl, True.intro, rfl⟩, fun v B' H' g dv => den_bl dv⟩) fun _ _ _ _ _ z => z
end Wv
/-! sorted(set(text)): the steps of the sets of ints, turned to texts -/
namespace L2
open PySem PySem.Spec PyProof.Rows
def keyT (e : Int × Value) : Str := match e.2 with | .str k _ => k | _ => Str.empty
def GoodT (w : World) (e : Int × Value) : Prop := ∃ k tk, e.2 = Value.str k tk ∧ e.1 = hashStr w k
/-- the set of texts at a -/
def SetTX (w : World) (h : Heap) (a : Addr) (S : Str → Bool) (n : Nat) : Prop :=
  ∃ o es ep t, h.get? a = some o ∧ o.ExactSet ∧ o.data = .set es ep t ∧ (∀ e ∈ es.toList, GoodT w e) ∧ (es.toList.map keyT).Nodup ∧ (∀ k, S k = true ↔ k ∈ es.toList.map keyT) ∧
    es.size < scanBound ∧ t.fits es.size = true ∧ es.size = n ∧ Ris t.place.toList ∧ (w.params.followText "set-order" = true ∨ t.led = true)
section
variable {P : Program} {w : World} {h h' : Heap} {a : Addr} {S : Str → Bool} {n : Nat}
theorem SetTX.at (R : SetTX w h a S n) (k : ∀ o, h.get? a = some o → h'.get? a = some o) : SetTX w h' a S n := by
  obtain ⟨o, es, ep, t, ho, r⟩ := R
  exact ⟨o, es, ep, t, k o ho, r⟩
theorem SetTX.congr {S' : Str → Bool} (R : SetTX w h a S n) (e : ∀ k, S' k = S k) : SetTX w h a S' n := by
  have q : S' = S := funext e
  rw [q]; exact R
theorem goodT_elems {l : List (Int × Value)} (g : ∀ e ∈ l, GoodT w e) : ElemsOf (strKind P w) l := fun e he => by
  obtain ⟨k, tk, h1, h2⟩ := g e he
  exact ⟨⟨k, by rw [h1]; exact strKind_is P w k tk, h2⟩, by rw [h1] <;> rfl⟩
theorem goodT_is {e : Int × Value} (g : GoodT w e) (k : Str) : (strKind P w).is k e.2 = true ↔ keyT e = k := by
  obtain ⟨k0, tk, h1, _⟩ := g
  unfold keyT
  rw [h1]
  show (Value.isStrOf k (Value.str k0 tk) = true) ↔ k0 = k
  simp [Value.isStrOf]
theorem goodT_mem {l : List (Int × Value)} (g : ∀ e ∈ l, GoodT w e) (k : Str) : k ∈ l.map keyT ↔ ∃ e ∈ l, (strKind P w).is k e.2 = true := by
  rw [List.mem_map]
  constructor
  · rintro ⟨e, he, q⟩
    exact ⟨e, he, (goodT_is (g e he) k).2 q⟩
  · rintro ⟨e, he, q⟩
    exact ⟨e, he, (goodT_is (g e he) k).1 q⟩
end
section
variable {P : Program} {w : World} {A : Around} {E : Value → Shared → Prop} {s : Shared} {a : Addr} {S : Str → Bool} {n : Nat}
theorem setT_add_tail {g : Bool → Sem Unit} (hg : ∀ (b : Bool) (s₁ : Shared) (Q' : Unit → Shared → Prop), Q' () s₁ → wpAny (model P w) A (g b) Q' E s₁)
    {o : Obj} {es : Array (Int × Value)} {ep : Nat} {t : SetTable} (ho : s.heap.get? a = some o) (hex : o.ExactSet) (hd : o.data = .set es ep t)
    {es1 : Array (Int × Value)} {t2 : SetTable} {S' : Str → Bool} (g1 : ∀ e ∈ es1.toList, GoodT w e) (nd1 : (es1.toList.map keyT).Nodup) (m1 : ∀ k, S' k = true ↔ k ∈ es1.toList.map keyT)
    (hb1 : es1.size < scanBound) (hf2 : t2.fits es1.size = true) (hr : Ris t2.place.toList) (hl : w.params.followText "set-order" = true ∨ t2.led = true) {wasDummy : Bool} {R : Option Bool → Shared → Prop}
    (hR : ∀ h', Heap.SameBut a s.heap h' → SetTX w h' a S' es1.size → R (some true) { s with heap := h' }) :
    wpAny (model P w) A (do
        storeSet a es1 t2
        if (!wasDummy && t2.tooFull) = true then do
            g (relayAll t2 es1 (SetTable.grown es1.size)).2.2
            storeSet a (relayAll t2 es1 (SetTable.grown es1.size)).1 (relayAll t2 es1 (SetTable.grown es1.size)).2.1
            pure (some true)
          else pure (some true)) R E s := by
  refine wpAny_bind (wpAny_storeSet_of ho hd ?_ (fits_of_scanBound hb1))
  have ho1 := store_at (es' := es1) (t' := t2) ho hd
  have sb1 := Heap.SameBut.update s.heap a (Obj.putSet es1 t2)
  split
  · have pm := relayAll_perm t2 es1 (SetTable.grown es1.size)
    have hf3 := relayAll_fits t2 es1 (SetTable.grown es1.size)
    have hr3 := relayAll_ris t2 es1 (SetTable.grown es1.size)
    have hl3 := relayAll_led t2 es1 (SetTable.grown es1.size)
    generalize relayAll t2 es1 (SetTable.grown es1.size) = Z at pm hf3 hr3 hl3 ⊢
    obtain ⟨es2, t3, gave⟩ := Z
    dsimp only at pm hf3 hr3 hl3 ⊢
    have hsz : es2.size = es1.size := by rw [← Array.length_toList, pm.length_eq, Array.length_toList]
    have hb2 : es2.size < scanBound := by rw [hsz]; exact hb1
    refine wpAny_bind (hg _ _ _ ?_)
    refine wpAny_bind (wpAny_storeSet_of ho1 rfl ?_ (fits_of_scanBound hb2))
    have ho2 := store_at (es' := es2) (t' := t3) ho1 rfl
    refine wpAny_pure (hR _ (sb1.trans (Heap.SameBut.update _ a _)) ?_)
    exact ⟨_, es2, _, t3, ho2, hex, rfl, fun e he => g1 e (pm.mem_iff.mp he), (pm.map keyT).nodup_iff.mpr nd1, fun k => (m1 k).trans (pm.map keyT).mem_iff.symm, hb2, hf3, hsz, hr3,
      hl.imp id fun z => by rw [hl3]; exact z⟩
  · exact wpAny_pure (hR _ sb1 ⟨_, es1, _, t2, ho1, hex, rfl, g1, nd1, m1, hb1, hf2, rfl, hr, hl⟩)
theorem setT_add_hashed {k : Str} {tk : Tok} {Q : Bool → Shared → Prop} (R : SetTX w s.heap a S n) (room : n + 1 < scanBound)
    (hQ : ∀ h', Heap.SameBut a s.heap h' → SetTX w h' a (fun j => S j || decide (j = k)) (if S k = true then n else n + 1) → Q (!S k) { s with heap := h' }) :
    wpAny (model P w) A (setAddHashed a (.str k tk) ((strKind P w).hash k)) Q E s := by
  obtain ⟨o, es, ep, t, ho, hex, hd, g, nd, hm, hb, hf, hn, hr, hl⟩ := R
  have hkey : (strKind P w).is k (.str k tk) = true := strKind_is P w k tk
  have hsc : (Value.str k tk).scannable = true := rfl
  have hel : ElemsOf (strKind P w) es.toList := goodT_elems g
  unfold setAddHashed setAddHashedIn
  refine wpAny_holding (wpAny_bind (wpAny_setState_of ho hd hf ?_))
  dsimp only
  rw [byScan_of hsc hb hel]
  simp only [↓reduceIte]
  unfold setAddByScan
  refine wpAny_bind ?_
  refine wpAny_bind (wpAny_rule ?_)
  refine wpAny_bind (wpAny_setScan_of hkey ho hd hf hel ?_)
  cases hfi : List.findIdx? (fun e => (strKind P w).is k e.2) es.toList with
  | some j =>
    dsimp only
    obtain ⟨hj, pj, _⟩ := List.findIdx?_eq_some_iff_getElem.mp hfi
    have hSk : S k = true := (hm k).2 ((goodT_mem (P := P) (w := w) g k).2 ⟨es.toList[j], List.getElem_mem hj, pj⟩)
    refine wpAny_pure (wpAny_pure ?_)
    have q := hQ s.heap (Heap.SameBut.refl a s.heap) ⟨o, es, ep, t, ho, hex, hd, g, nd, fun i => by
      rw [Bool.or_eq_true, decide_eq_true_eq, ← hm i]
      exact ⟨fun z => z.elim id (fun e => e ▸ hSk), .inl⟩, hb, hf, by rw [if_pos hSk]; exact hn, hr, hl⟩
    rw [hSk] at q
    exact q
  | none =>
    dsimp only
    have hnk : k ∉ es.toList.map keyT := fun z => by
      obtain ⟨e, he, q⟩ := (goodT_mem (P := P) (w := w) g k).1 z
      have c := List.findIdx?_eq_none_iff.mp hfi e he
      rw [q] at c
      cases c
    have hSk : S k = false := by
      cases q : S k with
      | false => rfl
      | true => exact absurd ((hm k).1 q) hnk
    have hgw : ∀ (b : Bool) {s₁ : Shared} {Q' : Unit → Shared → Prop}, Q' () s₁ → wpAny (model P w) A (match b with | true => rule "set.scan.the-table-gave-way" | false => pure ()) Q' E s₁ :=
      fun b s₁ Q' q => by cases b <;> first | exact wpAny_pure q | exact wpAny_rule q
    have pm := layNew_perm t es ((strKind P w).hash k) (.str k tk)
    have hf1 := layNew_fits t es ((strKind P w).hash k) (.str k tk)
    have hr1 := layNew_ris t es ((strKind P w).hash k) (.str k tk) hr
    have hl1 := layNew_led t es ((strKind P w).hash k) (.str k tk)
    generalize layNew t es ((strKind P w).hash k) (.str k tk) = Z at pm hf1 hr1 hl1 ⊢
    obtain ⟨es1, t1, wasDummy, gave⟩ := Z
    dsimp only at pm hf1 hr1 hl1 ⊢
    rw [Array.toList_push] at pm
    have pc : es1.toList.Perm (((strKind P w).hash k, Value.str k tk) :: es.toList) := pm.trans (List.perm_append_singleton _ _)
    have pk : (es1.toList.map keyT).Perm (k :: es.toList.map keyT) := pc.map keyT
    have g1 : ∀ e ∈ es1.toList, GoodT w e := fun e he => by
      rcases List.mem_cons.mp (pc.mem_iff.mp he) with z | z
      · rw [z]; exact ⟨k, tk, rfl, rfl⟩
      · exact g e z
    have nd1 : (es1.toList.map keyT).Nodup := pk.nodup_iff.mpr (List.nodup_cons.mpr ⟨hnk, nd⟩)
    have m1 : ∀ i, (S i || decide (i = k)) = true ↔ i ∈ es1.toList.map keyT := fun i => by
      rw [Bool.or_eq_true, decide_eq_true_eq, hm i, pk.mem_iff, List.mem_cons]
      exact Or.comm
    have hsz : es1.size = n + 1 := by rw [← Array.length_toList, pc.length_eq, List.length_cons, Array.length_toList, hn]
    have hb1 : es1.size < scanBound := by rw [hsz]; exact room
    have hled : w.params.followText "set-order" = true ∨ t1.led = true := hl.imp id fun z => by rw [hl1]; exact z
    have fin : ∀ h', Heap.SameBut a s.heap h' → SetTX w h' a (fun j => S j || decide (j = k)) es1.size → Q true { s with heap := h' } := fun h' sb r => by
      have q := hQ h' sb
      rw [hSk] at q
      rw [hsz] at r
      exact q r
    refine wpAny_bind (hgw _ ?_)
    split
    · refine wpAny_bind ?_
      rw [hashByValue_scannable 8 hsc]
      refine wpAny_pure ?_
      refine setT_add_tail ?_ ho hex hd g1 nd1 m1 hb1 ?_ ?_ ?_ ?_
      · intro b s₁ Q' q; cases b <;> first | exact wpAny_pure q | exact wpAny_rule q
      · first | (split <;> first | exact hf1 | exact SetTable.fits_plain_off hf1) | exact hf1
      · first | (split <;> exact hr1) | exact hr1
      · first | (split <;> exact hled) | exact hled
      · intro h' sb r; dsimp only; exact wpAny_pure (fin h' sb r)
    · refine wpAny_bind (wpAny_pure ?_)
      simp only [↓reduceIte]
      refine setT_add_tail ?_ ho hex hd g1 nd1 m1 hb1 hf1 hr1 hled ?_
      · intro b s₁ Q' q; cases b <;> first | exact wpAny_pure q | exact wpAny_rule q
      · intro h' sb r; dsimp only; exact wpAny_pure (fin h' sb r)
theorem setT_new_at {w : World} {h : Heap} {a : Addr} {ns : List Str} (ho : h.get? a = some { cls := .type "set", dict := none, data := .set #[] 0 (.fresh 0 0 (!w.params.followText "set-order")) }) : SetTX w h a (fun j => decide (j ∈ ns.take 0)) 0 :=
  ⟨_, #[], 0, _, ho, ⟨rfl, rfl, rfl⟩, rfl, (fun e he => by simp at he), (by simp), (fun k => by simp), (by decide), (by rfl), rfl, List.Pairwise.nil, by
    show _ ∨ (!w.params.followText "set-order") = true
    cases w.params.followText "set-order"
    · exact .inr rfl
    · exact .inl rfl⟩
end
section
variable {P : Program} {w : World} {A : Around} {E : Value → Shared → Prop} {s : Shared}
theorem set_update_txt {I : Addr} {fp wr : List Addr} {G : Array GenState → Array GenState → Prop} {n : Nat} {Pv : Nat → Value → Prop} {St : Nat → Shared → Prop} {R : Result → Shared → Prop}
    (W : WalksS P w A.in1 I fp wr G n Pv St) (S : Addr) (hSf : S ∉ fp) (ns : List Str) (hn : n = ns.length) (hb : ns.length + 1 < scanBound) (hval : ∀ i v, Pv i v → ∃ k t, ns[i]? = some k ∧ v = .str k t) :
    ∀ (k i : Nat) (s : Shared), n - i = k → i ≤ n → St i s → (∃ c, c ≤ i ∧ SetTX w s.heap S (fun j => decide (j ∈ ns.take i)) c) →
      (∀ s' c, Moved (S :: wr) G s s' → c ≤ n → SetTX w s'.heap S (fun j => decide (j ∈ ns)) c → R (.ok (.ret .none)) s') →
      codeAny (model P w) A (.builtin "set.update.loop" ⟨[.ref S, .ref I], []⟩) R s := by
  have hSw : S ∉ wr := fun h => hSf (W.sub _ h)
  have hsub : ∀ b ∈ wr, b ∈ S :: wr := fun b hb => List.mem_cons_of_mem _ hb
  intro k
  induction k with
  | zero =>
    intro i s hk' hi hst ⟨c, hc, hS⟩ hR
    have hin : i = n := by omega
    subst hin
    refine codeAny_builtin F.entry_set_update_loop ?_
    rw [Around.under_plainId F.plain_set_update_loop _]
    show wpAny _ A.in1 (pyNext (.ref I) >>= _) _ _ s
    refine wpAny_bind (W.done s _ _ hst fun s' hm => ?_)
    show wpAny _ A.in1 (ret Value.none) _ _ s'
    have e : ns.take i = ns := List.take_of_length_le (by omega)
    rw [e] at hS
    exact wpAny_pure (hR s' c (hm.mono hsub) hc (hS.at fun o e => hm.heap S o hSw e))
  | succ k ih =>
    intro i s hk' hi hst ⟨c, hc, hS⟩ hR
    have hlt : i < n := by omega
    refine codeAny_builtin F.entry_set_update_loop ?_
    rw [Around.under_plainId F.plain_set_update_loop _]
    show wpAny _ A.in1 (pyNext (.ref I) >>= _) _ _ s
    refine wpAny_bind (W.item i s _ _ hlt hst fun v s' hP hst' hm => ?_)
    obtain ⟨z, t, hz, rfl⟩ := hval i v hP
    have hS' : SetTX w s'.heap S (fun j => decide (j ∈ ns.take i)) c := hS.at fun o e => hm.heap S o hSw e
    show wpAny _ A.in1 (holding [Value.str z t] (setAdd S (.str z t)) >>= _) _ _ s'
    refine wpAny_bind (wpAny_holding ?_)
    unfold setAdd
    refine wpAny_holding ?_
    refine wpAny_bind ((strKind P w).pyHash (k := z) (strKind_is _ _ _ _) ?_)
    refine setT_add_hashed (s := { s' with toks := s'.toks + 1 }) hS' (by omega) fun h' hsb hS2 => ?_
    have hS3 : SetTX w h' S (fun j => decide (j ∈ ns.take (i + 1))) (if decide (z ∈ ns.take i) = true then c else c + 1) := hS2.congr fun j => by
      rw [List.take_add_one, hz]
      simp [List.mem_append]
    have hc3 : (if decide (z ∈ ns.take i) = true then c else c + 1) ≤ i + 1 := by
      split <;> omega
    refine wpAny_pure ⟨plainId_quiet F.plain_set_update_loop _, ih (i + 1) _ (by omega) hlt (W.frame _ s' _ _ hst' (Nat.le_succ _) fun b hb o e => ?_) ⟨_, hc3, hS3⟩ fun s'' c2 hm'' hc'' hS'' => ?_⟩
    · rw [hsb.2 b (fun h : b = S => hSf (by rw [← h]; exact hb))]; exact e
    · refine hR s'' c2 (Moved.trans W.gtrans ((hm.mono hsub).then_heap (Nat.le_succ _) fun b o hb e => ?_) hm'') hc'' hS''
      rw [hsb.2 b (fun h : b = S => hb (by rw [h]; exact List.mem_cons_self))]; exact e
/-- the signs of a text, each a text -/
def signsT (x : Str) : List Str := x.cps.toList.map fun c => (⟨#[c]⟩ : Str)
set_option maxHeartbeats 6400000 in
theorem call_set_txt {x : Str} {u : Tok} {Q : Value → Shared → Prop} (hh : A.handled = none) (hb : (signsT x).length + 1 < scanBound)
    (h : ∀ (h' : Heap) (tk c : Nat), SetTX w h' s.heap.objs.size (fun j => decide (j ∈ signsT x)) c → c ≤ (signsT x).length → (∀ b o, s.heap.get? b = some o → h'.get? b = some o) → Q (.ref s.heap.objs.size) { s with heap := h', toks := tk }) :
    wpAny (model P w) A (call (.type "set") [.str x u]) Q E s := by
  have hisz : x.cps.size = (signsT x).length := by simp [signsT]
  obtain ⟨c, tl, hmro⟩ := F.called_set.mro
  have hmade := F.called_set.made
  have hsub := F.called_set.sub
  refine wpAny_call (codeAny_of_tree ?_)
  show wpAny _ _ (callAny (.type "set") _) _ _ _
  refine wpAny_pure ⟨Code.quiet_builtin _ (by decide +kernel), codeAny_builtin F.entry_type_call ?_⟩
  rw [Around.under_plain (weight_type_call_type "set" [.str x u] []) rfl]
  have h1 := F.called_set.notType
  have h2 := F.called_set.canCreate
  have hct := F.typeCall_set_1 (.str x u)
  repeat (any_goals (first | assumption | wp_step))

  refine codeAny_mono (code_set_led1 (.str x u) (E := E) (Q₁ := fun obj s₁ => obj = .ref s.heap.objs.size ∧ s₁ = { s with heap := s.heap.push { cls := .type "set", dict := none, data := .set #[] 0 (.fresh 0 0 (!w.params.followText "set-order")) } }) ⟨rfl, rfl⟩) fun r s₁ hr => ?_
  cases r with
  | error e => exact hr
  | ok fl =>
    cases fl with
    | ret obj =>
      obtain ⟨rfl, rfl⟩ := hr
      have hS : (s.heap.push { cls := .type "set", dict := none, data := .set #[] 0 (.fresh 0 0 (!w.params.followText "set-order")) }).get? s.heap.objs.size = some { cls := .type "set", dict := none, data := .set #[] 0 (.fresh 0 0 (!w.params.followText "set-order")) } := Heap.get?_push_size _ rfl
      have hT : Shared.TypeIs { s with heap := s.heap.push { cls := .type "set", dict := none, data := .set #[] 0 (.fresh 0 0 (!w.params.followText "set-order")) } } (.ref s.heap.objs.size) "set" := ⟨_, hS, rfl⟩
      have hli := F.called_set.init.lookup
      have hbi := F.called_set.init.bind (.ref s.heap.objs.size)
      repeat (any_goals (first | assumption | wp_step))

      refine codeAny_mono (codeAny_call_builtin (R := wants (fun r s₂ => r = .none ∧ ∃ h' tk c, s₂ = { s with heap := h', toks := tk } ∧ SetTX w h' s.heap.objs.size (fun j => decide (j ∈ signsT x)) c ∧ c ≤ (signsT x).length ∧
          (∀ b o, s.heap.get? b = some o → h'.get? b = some o)) E) F.called_set.init.plain F.entry_set_init (check_set_init_1 hT ?_)) fun r₂ s₂ hr₂ => ?_
      · have hsls := F.sub_str_set
        have hslf := F.sub_str_frozenset
        have hne : (Value.type "str" == Value.type "dict") = false := by decide
        have hTx : Shared.TypeIs { s with heap := (s.heap.push { cls := .type "set", dict := none, data := .set #[] 0 (.fresh 0 0 (!w.params.followText "set-order")) }) } (.str x u) "str" := typeIs_str _ _ _
        unfold Builtin.«set.__init__» noKeywords Builtin.Frozenset.updateFrom
        generalize hPI : pyIter = PI
        wp_walk
        subst hPI
        refine wpAny_pyIter_str fun oI St hW hst => ?_
        refine wpAny_bind (wpAny_runValue ?_)
        have hh3 : A.in1.in1.in1.handled = none := by simp [hh]
        have hSf : s.heap.objs.size ∉ [(s.heap.push { cls := .type "set", dict := none, data := .set #[] 0 (.fresh 0 0 (!w.params.followText "set-order")) }).objs.size] := by
          rw [Heap.size_push]; simp only [List.mem_singleton]
          exact Nat.ne_of_lt (Nat.lt_succ_self _)
        have hval : ∀ (i : Nat) (v : Value), SignAt x i v → ∃ k t, (signsT x)[i]? = some k ∧ v = .str k t := fun i v hv => by
          obtain ⟨c, t, hc, rfl⟩ := hv
          refine ⟨_, t, ?_, rfl⟩
          unfold signsT
          rw [List.getElem?_map, Array.getElem?_toList, hc]
          rfl
        refine set_update_txt ((hW _ hh3).toS) s.heap.objs.size
          hSf (signsT x) hisz hb hval (x.cps.size - 0) 0 _ (by omega) (Nat.zero_le _)
          hst ?hS0 ?hR
        case hS0 =>
          have hget : ((s.heap.push { cls := .type "set", dict := none, data := .set #[] 0 (.fresh 0 0 (!w.params.followText "set-order")) }).push oI).get? s.heap.objs.size
              = some { cls := .type "set", dict := none, data := .set #[] 0 (.fresh 0 0 (!w.params.followText "set-order")) } := Heap.get?_push_of_some _ hS
          exact ⟨0, Nat.le_refl 0, setT_new_at hget⟩
        case hR =>
          intro s' c' hm hc' hS'
          obtain ⟨h', g2, d', tk', os'⟩ := s'
          have eg : g2 = s.gens := hm.gens
          have ed : d' = s.drawn := hm.drawn
          have eo : os' = s.os := hm.os
          subst eg; subst ed; subst eo
          show wpAny _ _ _ _ _ _
          refine wpAny_pure ?_
          show wpAny _ _ (ret Value.none) _ _ _
          rw [hisz] at hc'
          refine wpAny_pure ⟨rfl, h', tk', c', rfl, hS', hc', fun b o e => ?_⟩
          have hb0 : b < s.heap.objs.size := Heap.lt_size e
          have hb1 : b ≠ s.heap.objs.size := Nat.ne_of_lt hb0
          have hb2 : b ≠ (s.heap.push { cls := .type "set", dict := none, data := .set #[] 0 (.fresh 0 0 (!w.params.followText "set-order")) }).objs.size := by
            rw [Heap.size_push]; exact Nat.ne_of_lt (Nat.lt_succ_of_lt hb0)
          exact hm.heap b o (by simp only [List.mem_cons, List.mem_singleton, List.not_mem_nil, or_false, not_or]; exact ⟨hb1, hb2⟩) (Heap.get?_push_of_some _ (Heap.get?_push_of_some _ e))

      · cases r₂ with
        | error e => exact hr₂
        | ok fl₂ =>
          cases fl₂ with
          | ret r =>
            obtain ⟨rfl, h', tk, c', rfl, hS', hc', hk'⟩ := hr₂
            repeat (any_goals (first | assumption | wp_step))
            exact h _ _ _ hS' hc' hk'
          | _ => exact hr₂.elim
    | _ => exact hr.elim
end
section
variable {P : Program} {w : World} {A : Around} {E : Value → Shared → Prop} {s : Shared} {a : Addr} {S : Str → Bool} {n : Nat}
theorem key_str (e : Int × Value) : (∃ k tk, e.2 = Value.str k tk) → keyT e = strOf e.2 := by
  rintro ⟨k, tk, h⟩
  unfold keyT
  rw [h]
  rfl
theorem sorted_setT {Q : Value → Shared → Prop} (R : SetTX w s.heap a S n) (hh : A.handled = none) (h64 : n < 64)
    (hQ : ∀ s' p (out : Array Value) (c : Nat) (ns : List Str), (∀ b o, s.heap.get? b = some o → s'.heap.get? b = some o) → s'.gens = s.gens → s'.os = s.os → s.heap.objs.size ≤ p →
      s'.heap.get? p = some (seqObj "list" out c) → StrsAre out.toList ns → sortedS ns = true → ns.Nodup → (∀ k, k ∈ ns ↔ S k = true) → ns.length = n → Q (.ref p) s') :
    wpAny (model P w) A (call (.builtin "sorted") [.ref a]) Q E s := by
  obtain ⟨o, es, ep, t, ho, hex, hd, g, nd, hm, hb, hf, hn, hr, hl⟩ := R
  refine Calls.call_function_entry kind_sorted plain_sorted entry_sorted (args_sorted1 _) ?_
  unfold Builtin.«sorted»
  refine wpAny_bind (m := checkCount "sorted" 1 1 _) (wpAny_pure ?_)
  refine wpAny_bind (collect_set (A := A.in1) hh ⟨o, ho, hex.1, hd⟩ hf hb hr hl fun s1 vs k1 hz g1 o1 pm => ?_)
  have hvl : vs.length = n := by rw [pm.length_eq, List.length_map, Array.length_toList]; exact hn
  have hI : StrsAre vs (vs.map strOf) := strsAre_map vs fun v hv => by
    obtain ⟨e, he, q⟩ := List.mem_map.mp (pm.mem_iff.mp hv)
    obtain ⟨k, tk, h1, _⟩ := g e he
    exact ⟨k, tk, by rw [← q]; exact h1⟩
  have pk : (vs.map strOf).Perm (es.toList.map keyT) := by
    have q := pm.map strOf
    rw [List.map_map] at q
    have e : es.toList.map keyT = es.toList.map (strOf ∘ fun x => x.2) := List.map_congr_left fun e he => key_str e (by obtain ⟨k, tk, h1, _⟩ := g e he; exact ⟨k, tk, h1⟩)
    rw [e]
    exact q
  refine wpAny_bind (wpAny_newList ?_ (by rw [hvl, sizeLine_eq]; omega))
  have hoL : (s1.heap.push (seqObj "list" vs.toArray 0)).get? s1.heap.objs.size = some (seqObj "list" vs.toArray 0) := Heap.get?_push_size _ rfl
  refine wpAny_bind (wpAny_holding (wpAny_call_entry slot_list_sort ⟨_, hoL, rfl⟩ entry_list_sort (list_sort_treeK PyProof.Rows.strKind_oneLt hoL hI.keysOf (fun v₁ v₂ rest e => keyKind_strs (by rw [← e]; exact hI)) (by rw [hvl]; exact h64) fun st' hp hs => ⟨_, rfl, ?_⟩) (args_list_sort _)))
  obtain ⟨ns', a1, a2, a3⟩ := sorted_out_str hI hp hs
  obtain ⟨c, hc⟩ := sortedHeap_at (vs := vs) (out := (arrOf st').map (·.2)) hoL
  have pn : ns'.Perm (es.toList.map keyT) := a2.trans pk
  refine wpAny_pure ⟨_, rfl, hQ _ s1.heap.objs.size _ c ns' (fun b u e => ?_) g1 o1 hz hc a1 a3 (pn.nodup_iff.mpr nd) (fun k => by rw [pn.mem_iff, ← hm k]) ?_⟩
  · have q := k1 b u e
    have hlt := Heap.lt_size q
    show (sortedHeap (s1.heap.push (seqObj "list" vs.toArray 0)) s1.heap.objs.size vs _).get? b = some u
    rw [sortedHeap_old (Nat.ne_of_lt hlt) (by rw [size_push']; exact Nat.lt_succ_of_lt hlt)]
    exact Heap.get?_push_of_some _ q
  · rw [pn.length_eq, List.length_map, Array.length_toList]; exact hn
end
/-- sorted(set(text)) -/
def tSortedSet (ta : TE) : TE := fun σ H Q => ta σ H fun x H1 => ∃ t : Str, x = .str t ∧ t.length ≤ 60 ∧ ∀ (ss : List Str) (p : Addr), sortedS ss = true → ss.Nodup → (∀ k, k ∈ ss ↔ k ∈ signsT t) → H1 p = none → Q (.ref p) (upd H1 p (.lst (ss.map V.str)))
section
variable {X : Cx}
theorem pe_sortedSet {a : Expr} {ta : TE} {p p2 q pos : Pos} (hc : X.calm = true) (hg : Gl X "sorted") (hm : X.mg "sorted" = none) (hg2 : Gl X "set") (hm2 : X.mg "set" = none) (ha : PE X a ta)
    (na : starEach [a] X.env = (false, eval a X.env) :: starEach [] X.env := by rfl) : PE X (.Call (.Name "sorted" p) [.Call (.Name "set" p2) [a] [] q] [] pos) (tSortedSet ta) := by
  refine ⟨fun pins s σ H Q I h => ?_⟩
  refine Call_ (ld_blt I hg hm (by decide +kernel : bootBuiltins "sorted" = some (.builtin "sorted")) ?_)
  refine PyProof.Rows.callWith_builtin1 (PyProof.Rows.args_cons ?_ rfl) rfl rfl
  refine Call_ (ld_blt I hg2 hm2 boot_set ?_)
  refine PyProof.Rows.callWith_type1 (PyProof.Rows.args_cons (thn (ha.run pins s σ H _ I h) fun v s1 ⟨x, H1, I1, r1, q1⟩ => PyProof.Rows.args_nil ?_) na) na rfl
  obtain ⟨t, rfl, hl, q1⟩ := q1
  obtain ⟨u, rfl⟩ := r1
  have hsl : (signsT t).length = t.length := by simp [signsT, Str.length]
  refine call_set_txt (I1.ok.hd hc) (by rw [hsl]; unfold scanBound; omega) fun h' tk c R hcl hk => ?_
  refine PyProof.Rows.args_nil ?_
  have I2 : Inv X pins σ H1 { s1 with heap := h', toks := tk } := I1.kept hk
  refine sorted_setT (s := { s1 with heap := h', toks := tk }) R (I2.ok.hd hc) (by omega) fun s' p out c ns k g o hp hg hi hs hn hm hl => ?_
  have hlen : (ns.map V.str).length ≤ sizeLine := by rw [List.length_map, hl, sizeLine_eq]; omega
  have hnone : H1 p = none := I2.hok.fresh hp
  have J : Inv X pins σ (upd H1 p (.lst (ns.map V.str))) { ({ s1 with heap := h', toks := tk } : Shared) with heap := s'.heap, gens := s'.gens, drawn := s'.drawn, toks := s'.toks } :=
    I2.call (ch := []) (Un.laid k hp hnone) (I2.hok.laid k hp ⟨hlen, out.toList, c, vals_of_strs hi, hg⟩) (by rw [g]; exact I2.bare) (fun _ z => nomatch z)
  have e : s' = { ({ s1 with heap := h', toks := tk } : Shared) with heap := s'.heap, gens := s'.gens, drawn := s'.drawn, toks := s'.toks } := by
    cases s'
    cases s1
    cases o
    rfl
  rw [e]
  exact ⟨.ref p, _, J, rfl, q1 ns p hs hn (fun k => (hm k).trans decide_eq_true_iff) hnone⟩
end
end L2
/-! texts: the data's rules -/
namespace L2
open PySem PySem.Spec PyProof.Rows
/-- list(text) -/
def rListT : List V → Hp → VK → Prop := fun xs H Q => ∃ t : Str, xs = [.str t] ∧ t.length ≤ 1000 ∧ ∀ l, H l = none → Q (.ref l) (upd H l (.lst ((signsT t).map V.str)))
theorem vals_signs {x : Str} {acc : Array Value} (h : ItemsOf (SignAt x) acc x.cps.size) : Vals ((signsT x).map V.str) acc.toList := by
  refine vals_of_strs ?_
  have key : ∀ (us : List Value) (l : List Nat), us.length = l.length → (∀ (i : Nat) (v : Value), us[i]? = some v → ∃ (c : Nat) (u : Tok), l[i]? = some c ∧ v = Value.str ⟨#[c]⟩ u) → StrsAre us (l.map fun c => (⟨#[c]⟩ : Str)) := by
    intro us
    induction us with
    | nil =>
      intro l hl _
      cases l with
      | nil => exact .nil
      | cons c l => simp at hl
    | cons v us ih =>
      intro l hl h
      cases l with
      | nil => simp at hl
      | cons c l =>
        obtain ⟨c', u, h1, h2⟩ := h 0 v rfl
        cases h1
        subst h2
        exact .cons _ u (ih l (by simpa using hl) fun i v hv => h (i + 1) v hv)
  unfold signsT
  refine key acc.toList x.cps.toList ?_ fun i v hv => ?_
  · have := h.1
    simp [this]
  · rw [Array.getElem?_toList] at hv
    obtain ⟨c, u, hc, e⟩ := h.2 i v hv
    exact ⟨c, u, by rw [Array.getElem?_toList]; exact hc, e⟩
theorem call_list_txt {X : Cx} (hc : X.calm = true) : CallR X (.type "list") rListT := by
  intro pins s σ H xs us Q I r h
  obtain ⟨t, rfl, hl, q⟩ := h
  obtain ⟨u, rfl, rx⟩ := vals1 r
  obtain ⟨tk, rfl⟩ := rx
  have hsl : t.cps.size ≤ sizeLine := by
    have : t.cps.size = t.length := rfl
    rw [sizeLine_eq]
    omega
  refine call_list_str (I.ok.hd hc) t tk (fun h' tk' acc' c' k e hi => ?_) hsl
  exact ⟨.ref s.heap.objs.size, _, I.laid (t' := tk') k (Nat.le_refl _) (show ObjOk X.prog X.w _ h' _ (.lst ((signsT t).map V.str)) from ⟨by rw [List.length_map]; simp [signsT]; exact hsl, acc'.toList, c', vals_signs hi, e⟩), rfl, q _ (I.hok.fresh (Nat.le_refl _))⟩
end L2
namespace Wv
open PySem L2 PyProof.Rows
open Evl (Ex fresh_back ex_l)
abbrev rIntS : List V → Hp → VK → Prop := fun xs H Q => ∃ a n, xs = [.str a] ∧ PySem.intText? a = some n ∧ a.length ≤ 640 ∧ Q (.int n) H
abbrev rStrI : List V → Hp → VK → Prop := fun xs H Q => ∃ i, xs = [.int i] ∧ i.natAbs.log2 < 1920 ∧ Q (.str (toString i)) H
abbrev rLenS : List V → Hp → VK → Prop := fun xs H Q => ∃ z, xs = [.str z] ∧ z.length ≤ sizeLine ∧ Q (.int (z.length : Nat)) H
def strL (xs : List Str) : D := .lst (xs.map .str)
section
variable {K : PySem.W.Frag} {E : XK} {B0 H0 B H : Hp} {sl : List Sl} {ta te tb : TE} {x y : Str} {xs ys : List Str}
theorem denL_strs' : ∀ ns : List Str, DenL K B (ns.map D.str) (ns.map V.str)
  | [] => denL_nil
  | n :: ns => denL_cons (mk_str n) (denL_strs' ns)
theorem od_addS (hz : x.length + y.length ≤ sizeLine) : OpD K (fun x y H Q => ∃ i j, x = .str i ∧ y = .str j ∧ i.length + j.length ≤ sizeLine ∧ Q (.str (i ++ j)) H) (.str x) (.str y) (.dat (.str (x ++ y))) := fun B H vx vy e dx dy E Q q => by
  rw [den_str dx, den_str dy]
  exact ⟨x, y, rfl, rfl, hz, post_v e q (mk_str _)⟩
theorem cb_strI {i : Int} (h : i.natAbs.log2 < 1920) : CbD K (fun xs H Q => ∃ i, xs = [.int i] ∧ i.natAbs.log2 < 1920 ∧ Q (.str (toString i)) H) [.int i] (.dat (.str (toString i))) := fun B H vs e d E Q q => by
  obtain ⟨v, rfl, h1⟩ := denL_one d
  rw [den_int h1]
  exact ⟨i, rfl, h, post_v e q (mk_str _)⟩
theorem cb_intS {n : Int} (h : PySem.intText? x = some n) (hl : x.length ≤ 640) : CbD K (fun xs H Q => ∃ a n, xs = [.str a] ∧ PySem.intText? a = some n ∧ a.length ≤ 640 ∧ Q (.int n) H) [.str x] (.dat (.int n)) := fun B H vs e d E Q q => by
  obtain ⟨v, rfl, h1⟩ := denL_one d
  rw [den_str h1]
  exact ⟨x, n, rfl, h, hl, post_v e q (mk_int _)⟩
theorem od_ixS {i : Int} {c : Nat} (hl : x.length ≤ sizeLine) (h : atI x.cps.toList i = some c) : OpD K rIxS (.str x) (.int i) (.dat (.str ⟨#[c]⟩)) := fun B H vx vy e dx dy E Q q => by
  rw [den_str dx, den_int dy]
  exact ⟨x, i, c, rfl, rfl, hl, h, post_v e q (mk_str _)⟩
theorem cb_lenS (hz : x.length ≤ sizeLine) : CbD K (fun xs H Q => ∃ z, xs = [.str z] ∧ z.length ≤ sizeLine ∧ Q (.int (z.length : Nat)) H) [.str x] (.dat (.int ((x.length : Nat) : Int))) := fun B H vs e d E Q q => by
  obtain ⟨v, rfl, h1⟩ := denL_one d
  rw [den_str h1]
  exact ⟨x, rfl, hz, post_v e q (mk_int _)⟩
theorem cb_listT (h : x.length ≤ 1000) : CbD K rListT [.str x] (.new ((signsT x).map .str)) := fun B H vs e d E Q q => by
  obtain ⟨v, rfl, h1⟩ := denL_one d
  rw [den_str h1]
  exact ⟨x, rfl, h, fun p hp => q p _ _ _ (Gr.lay e hp) hp (fresh_back e hp) upd_same (denL_strs' _)⟩
theorem ev_sortedSet (h : EvR K E0 te sl (.dat (.str x))) (hl : x.length ≤ 60) {ss : List Str} (hs : ∀ r : List Str, sortedS r = true → r.Nodup → (∀ k, k ∈ r ↔ k ∈ signsT x) → r = ss) : EvR K E (tSortedSet te) sl (.new (ss.map .str)) := fun B0 H0 B H σ sd Q q =>
  h B0 H0 B H σ sd _ fun v B1 H1 g1 d1 => by
    rw [den_str d1]
    refine ⟨x, rfl, hl, fun r p h1 h2 h3 hp => ?_⟩
    rw [hs r h1 h2 h3]
    exact (q.shift g1) p _ _ _ (Gr.lay g1.sub hp) hp (fresh_back g1.sub hp) upd_same (denL_strs' _)
theorem ev_m1 {r : V → List V → Hp → VK → Prop} {z : Rs} {d : D} (ho : EvR K E0 ta sl (.dat (.str x))) (ha : EvR K E0 te sl (.dat d)) (hr : ∀ B H vy, Ex B H → Den K B d vy → ∀ (E : XK) (Q : VK), Post K E B H Q z → r (.str x) [vy] H Q) : EvR K E (tM1 r ta te) sl z := fun B0 H0 B H σ sd Q q =>
  ho B0 H0 B H σ sd _ fun v B1 H1 g1 d1 => by
    rw [den_str d1]
    exact ⟨⟨x, rfl⟩, ha B0 H0 B1 H1 σ (sd.grow g1) _ fun vy B2 H2 g2 d2 => hr B2 H2 vy g2.sub d2 E Q ((q.shift g1).shift g2)⟩
theorem ev_join (ho : EvR K E0 ta sl (.dat (.str x))) (ha : EvR K E0 te sl (.dat (strL ys))) (hz : (ys.map (·.length)).sum + ys.length * x.length ≤ 16777216) :
    EvR K E (tM1 (fun x xs H Q => ∃ a p, ∃ ys : List Str, x = .str a ∧ xs = [.ref p] ∧ (SqL K H p (ys.map V.str) ∨ SqT K H p (ys.map V.str)) ∧ (ys.map (·.length)).sum + ys.length * a.length ≤ 16777216 ∧ Q (.str (Txt.join a ys)) H) ta te) sl (.dat (.str (Txt.join x ys))) :=
  ev_m1 ho ha fun B H vy e d E Q q => by
    obtain ⟨p, vs, rfl, h1, h2⟩ := den_lst d
    rw [denL_strs h2] at h1
    exact ⟨x, p, ys, rfl, rfl, .inl (SqL.of (e p _ h1)), hz, post_v e q (mk_str _)⟩
theorem ev_split (ho : EvR K E0 ta sl (.dat (.str x))) (ha : EvR K E0 te sl (.dat (.str y))) (hy : (y.length == 0) = false) (hz : x.length + 2 ≤ sizeLine) :
    EvR K E (tM1 (fun x xs H Q => ∃ a b, x = .str a ∧ xs = [.str b] ∧ (b.length == 0) = false ∧ a.length + 2 ≤ sizeLine ∧ rNewStrs (Txt.split a b) H Q) ta te) sl (.new ((Txt.split x y).map .str)) :=
  ev_m1 ho ha fun B H vy e d E Q q => by
    rw [den_str d]
    exact ⟨x, y, rfl, rfl, hy, hz, fun p hp => q p _ _ _ (Gr.lay e hp) hp (fresh_back e hp) upd_same (denL_strs' _)⟩
theorem mtd_strip (hz : x.length ≤ sizeLine) : MtD K "str" (fun x xs H Q => ∃ a b, x = .str a ∧ xs = [.str b] ∧ a.length ≤ sizeLine ∧ Q (.str (Txt.stripChars a b)) H) (.str x) [.str y] (.dat (.str (Txt.stripChars x y))) := fun B H v vs e d dd E Q q => by
  obtain ⟨w, rfl, h1⟩ := denL_one dd
  rw [den_str d, den_str h1]
  exact ⟨rfl, x, y, rfl, rfl, hz, post_v e q (mk_str _)⟩
/-! == of lists of texts -/
theorem dp_strs : ∀ ns : List Str, DpAll K H (ns.map V.str) (ns.map PyData.str)
  | [] => .nil
  | n :: ns => .cons (.str n) (dp_strs ns)
theorem lay_strs : ∀ ns : List Str, (∀ n ∈ ns, PyData.strOk n = true) → PyData.canLayAll0 (ns.map PyData.str) = true
  | [], _ => by simp [PyData.canLayAll0]
  | n :: ns, h => by
    have ih := lay_strs ns fun m hm => h m (List.mem_cons_of_mem _ hm)
    simp [PyData.canLayAll0, PyData.canLay0, ih, h n List.mem_cons_self]
theorem dep_strs : ∀ ns : List Str, PyData.depthAll (ns.map PyData.str) = 0
  | [] => by simp [PyData.depthAll]
  | n :: ns => by simp [PyData.depthAll, PyData.depth, dep_strs ns]
theorem sh_strs (ns : List Str) (h : ∀ n ∈ ns, PyData.strOk n = true) : SeqAt.shaped (.list (ns.map PyData.str)) = true := by
  unfold SeqAt.shaped
  simp [PyData.canLay0, PyData.depth, lay_strs ns h, dep_strs]
theorem eqv_strs : ∀ ns ms : List Str, PyData.eqvAll (ns.map PyData.str) (ms.map PyData.str) = decide (ns = ms)
  | [], [] => by simp [PyData.eqvAll]
  | [], _ :: _ => by simp [PyData.eqvAll]
  | _ :: _, [] => by simp [PyData.eqvAll]
  | n :: ns, m :: ms => by
    simp only [List.map_cons, PyData.eqvAll, PyData.eqv, eqv_strs ns ms]
    rw [Bool.eq_iff_iff]
    simp
theorem od_neT (hx : ∀ n ∈ xs, PyData.strOk n = true) (hy : ∀ n ∈ ys, PyData.strOk n = true) : OpD K (rNeD K) (strL xs) (strL ys) (.dat (.bl (!decide (xs = ys)))) := fun B H vx vy e dx dy E Q q => by
  obtain ⟨a, vs, rfl, h1, h2⟩ := den_lst dx
  obtain ⟨b, us, rfl, h3, h4⟩ := den_lst dy
  rw [denL_strs h2] at h1
  rw [denL_strs h4] at h3
  refine ⟨_, _, .lst (SqL.of (e a _ h1)) (dp_strs xs), .lst (SqL.of (e b _ h3)) (dp_strs ys), sh_strs xs hx, sh_strs ys hy, ?_⟩
  simp only [PyData.eqv, eqv_strs]
  exact post_v e q (mk_bl _)
theorem flat_strsV (ys : List Str) : (ys.map V.str).all flatV = true := by
  rw [List.all_map, List.all_eq_true]
  intro b _
  rfl
theorem inV_strs (x : Str) : ∀ ys : List Str, inV (.str x) (ys.map V.str) = decide (x ∈ ys)
  | [] => by simp [inV]
  | y :: ys => by
    have ih := inV_strs x ys
    unfold inV at ih ⊢
    rw [List.map_cons, List.any_cons, ih]
    have e : eqV (.str y) (.str x) = decide (y = x) := by
      show (y == x) = _
      rw [Bool.eq_iff_iff, beq_iff_eq, decide_eq_true_iff]
    rw [e, Bool.eq_iff_iff, Bool.or_eq_true, decide_eq_true_iff, decide_eq_true_iff, decide_eq_true_iff, List.mem_cons]
    exact ⟨fun z => z.elim (fun w => .inl w.symm) .inr, fun z => z.elim (fun w => .inl w.symm) .inr⟩
theorem od_notInS : OpD K (rIn K true) (.str x) (strL ys) (.dat (.bl (!decide (x ∈ ys)))) := fun B H vx vy e dx dy E Q q => by
  obtain ⟨b, us, rfl, h3, h4⟩ := den_lst dy
  rw [den_str dx]
  rw [denL_strs h4] at h3
  refine ⟨b, ys.map V.str, rfl, .inl (SqL.of (e b _ h3)), rfl, flat_strsV ys, ?_⟩
  rw [if_pos rfl, inV_strs]
  exact post_v e q (mk_bl _)
/-- for sign in text -/
theorem it_str (h : EvR K E0 te sl (.dat (.str x))) : ItE K (iStr te) sl ((signsT x).map .str) := fun B0 H0 B H σ sd R q =>
  h B0 H0 B H σ sd _ fun v B1 H1 g1 d1 => by
    rw [den_str d1]
    have hl : ((signsT x).map D.str).length = x.cps.size := by simp [signsT]
    refine ⟨x, rfl, q _ _ _ g1 fun i H2 e2 => ⟨fun d hd => ?_, fun hl2 => ?_⟩⟩
    · rw [List.getElem?_map] at hd
      unfold signsT at hd
      rw [List.getElem?_map, Array.getElem?_toList] at hd
      cases hc : x.cps[i]? with
      | none => rw [hc] at hd; cases hd
      | some c =>
        rw [hc] at hd
        cases hd
        refine ⟨(Array.getElem?_eq_some_iff.mp hc).1, fun y H3 hy => ⟨hy.1, ?_⟩⟩
        obtain ⟨c', h1, rfl⟩ := hy.2
        rw [hc] at h1
        cases h1
        exact mk_str _
    · show x.cps.size ≤ i
      rw [← hl]
      exact hl2
end
theorem cut_drop (xs : List D) (a : Nat) : cutD xs (some (a : Int)) none = xs.drop a := by
  have e : HT.sIx xs.length 0 (some (a : Int)) = min a xs.length := HT.sIx_nat xs.length 0 a
  unfold cutD
  rw [HT.sIx_none, e]
  by_cases h : a ≤ xs.length
  · rw [Nat.min_eq_left h, List.take_of_length_le (by rw [List.length_drop]; exact Nat.le_refl _)]
  · rw [Nat.min_eq_right (by omega), List.drop_eq_nil_of_le (as := xs) (i := a) (by omega), Nat.sub_self, List.take_zero]
end Wv
/-! the plain law: texts of councils -/
namespace Wv
open PySem PySem.Spec L2 PyProof.Rows
def sg (c : Nat) : Str := ⟨#[c]⟩
def figs (g : Nat) : List Nat := (List.range 5).filter fun k => g.testBit k
def gtext (g : Nat) : Str := if g = 0 then "-" else Txt.join "" ((figs g).map fun k => sg (48 + k))
def nword (n : Nat) : Str := Str.ofString (toString ((n : Nat) : Int)) ++ (":" : Str)
def wtext (n : Nat) (t : List Bool) : Str := Txt.join " " (nword n :: (leastM t).map gtext)
theorem gtext_len : ∀ g, g < 32 → (gtext g).length ≤ 5 := by decide +kernel
theorem gtext_dash : ∀ g, g < 32 → decide (gtext g = "-") = decide (g = 0) := by decide +kernel
theorem gtext_some : ∀ g, g < 32 → decide (gtext g = "") = false := by decide +kernel
theorem gtext_signs : ∀ g, g < 32 → g ≠ 0 → signsT (gtext g) = (figs g).map fun k => sg (48 + k) := by decide +kernel
theorem gtext_codes : ∀ g, g < 32 → g ≠ 0 → (gtext g).cps.toList = (figs g).map fun k => 48 + k := by decide +kernel
theorem gtext_strip : ∀ g, g < 32 → g ≠ 0 → Txt.stripChars (gtext g) "01234" = "" := by decide +kernel
theorem gtext_sum : ∀ g, g < 32 → ((figs g).map fun k => (2 : Nat) ^ k).sum = g := by decide +kernel
theorem gtext_sp : ∀ g, g < 32 → 32 ∉ TL.tl (gtext g) := by decide +kernel
theorem gtext_ok : ∀ g, g < 32 → ∀ s ∈ signsT (gtext g), PyData.strOk s = true := by decide +kernel
theorem sg_int : ∀ k, k < 5 → PySem.intText? (sg (48 + k)) = some ((k : Nat) : Int) := by decide +kernel
theorem fig_at : ∀ k, k < 5 → atI ("01234" : Str).cps.toList ((k : Nat) : Int) = some (48 + k) := by decide +kernel
theorem num_sg : ∀ k, k < 5 → Str.ofString (toString ((k : Nat) : Int)) = sg (48 + k) := by decide +kernel
theorem nword_sp : ∀ n, n < 6 → 32 ∉ TL.tl (nword n) := by decide +kernel
theorem nword_len : ∀ n, n < 6 → (nword n).length = 2 := by decide +kernel
theorem nword_in : ∀ n, n < 6 → 1 ≤ n → nword n ∈ (["1:", "2:", "3:", "4:", "5:"] : List Str) := by decide +kernel
theorem nword_at : ∀ n, n < 6 → atI (nword n).cps.toList 0 = some (48 + n) := by decide +kernel
theorem nword_int : ∀ n, n < 6 → PySem.intText? (sg (48 + n)) = some ((n : Nat) : Int) := by decide +kernel
/-! a sorted list without doubles is told by its members -/
theorem lt_sg (x p : Nat) : ltCps (sg x).cps.toList (sg p).cps.toList = decide (x < p) := by
  rw [ltCps_eq]
  show decide ([x] < [p]) = _
  rw [decide_eq_decide]
  simp [List.cons_lt_cons_iff]
theorem rising_sg : ∀ (l : List Nat) (p : Nat), risingS (sg p) (l.map sg) = true → (p :: l).Pairwise (· ≤ ·)
  | [], p, _ => List.pairwise_singleton _ _
  | x :: l, p, h => by
    have h : (!ltCps (sg x).cps.toList (sg p).cps.toList && risingS (sg x) (l.map sg)) = true := h
    rw [Bool.and_eq_true, Bool.not_eq_true', lt_sg, decide_eq_false_iff_not] at h
    have ih := rising_sg l x h.2
    refine List.pairwise_cons.mpr ⟨fun y hy => ?_, ih⟩
    rcases List.mem_cons.mp hy with rfl | hy
    · exact Nat.le_of_not_lt h.1
    · have q : x ≤ y := List.rel_of_pairwise_cons ih hy
      exact Nat.le_trans (Nat.le_of_not_lt h.1) q
theorem sorted_sg : ∀ l : List Nat, sortedS (l.map sg) = true → l.Pairwise (· ≤ ·)
  | [], _ => List.Pairwise.nil
  | x :: l, h => rising_sg l x h
theorem sg_inj {a b : Nat} (h : sg a = sg b) : a = b := by
  have : [a] = [b] := congrArg (fun y : Str => y.cps.toList) h
  exact (List.cons.inj this).1
theorem sorted_told {l : List Nat} (hl : l.Pairwise (· < ·)) {r : List Str} (hs : sortedS r = true) (hn : r.Nodup) (hm : ∀ k, k ∈ r ↔ k ∈ l.map sg) : r = l.map sg := by
  have er : r = (r.map fun s => s.cps.toList.headD 0).map sg := by
    rw [List.map_map]
    have : r.map (sg ∘ fun s => s.cps.toList.headD 0) = r.map id := List.map_congr_left fun s hs => by
      obtain ⟨c, _, rfl⟩ := List.mem_map.mp ((hm s).mp hs)
      rfl
    rw [this, List.map_id]
  generalize (r.map fun s => s.cps.toList.headD 0) = m at er
  subst er
  have hp := sorted_sg m hs
  have hmn : m.Nodup := by
    have := List.pairwise_map.mp (show ((m.map sg).Pairwise (· ≠ ·)) from hn)
    exact this.imp fun h e => h (congrArg sg e)
  have hln : l.Nodup := hl.imp fun h => Nat.ne_of_lt h
  have hmm : ∀ c, c ∈ m ↔ c ∈ l := fun c => by
    constructor
    · intro h
      obtain ⟨d, hd, e⟩ := List.mem_map.mp ((hm (sg c)).mp (List.mem_map_of_mem h))
      rw [← sg_inj e]
      exact hd
    · intro h
      obtain ⟨d, hd, e⟩ := List.mem_map.mp ((hm (sg c)).mpr (List.mem_map_of_mem h))
      rw [← sg_inj e]
      exact hd
  have pm : m.Perm l := (List.perm_ext_iff_of_nodup hmn hln).mpr hmm
  rw [List.Perm.eq_of_pairwise (le := (· ≤ ·)) (fun a b _ _ h1 h2 => by omega) hp (hl.imp fun h => Nat.le_of_lt h) pm]
theorem figs_rise (g : Nat) : ((figs g).map fun k => 48 + k).Pairwise (· < ·) := by
  rw [List.pairwise_map]
  exact (List.Pairwise.filter _ List.pairwise_lt_range).imp fun h => by omega
theorem gtext_sorted {g : Nat} (hg : g < 32) (h0 : g ≠ 0) : ∀ r : List Str, sortedS r = true → r.Nodup → (∀ k, k ∈ r ↔ k ∈ signsT (gtext g)) → r = signsT (gtext g) := fun r h1 h2 h3 => by
  have e : signsT (gtext g) = ((figs g).map fun k => 48 + k).map sg := by
    rw [gtext_signs g hg h0, List.map_map]
    rfl
  rw [e] at h3 ⊢
  exact sorted_told (figs_rise g) h1 h2 h3
/-! the least groups tell the table -/
theorem least_under {n : Nat} {t : List Bool} (hn : n ≤ 5) (h : Mono n t) : ∀ g, g < 2 ^ n → t.getD g false = true → ∃ o, o ∈ leastM t ∧ g &&& o = o := by
  intro g
  induction g using Nat.strongRecOn with
  | ind g ih =>
    intro hg ht
    by_cases c : ((wo g).any fun l => t.getD l false) = true
    · obtain ⟨l, hl, hc⟩ := List.any_eq_true.mp c
      have hlg := wo_lt hl
      obtain ⟨o, ho, e⟩ := ih l hlg (by omega) hc
      refine ⟨o, ho, ?_⟩
      obtain ⟨k, hk, rfl⟩ := List.mem_map.mp hl
      have hb := (List.mem_filter.mp hk).2
      have hsub : g &&& (g ^^^ 2 ^ k) = g ^^^ 2 ^ k := by
        apply Nat.eq_of_testBit_eq
        intro i
        rw [Nat.testBit_and, Nat.testBit_xor]
        by_cases e2 : i = k
        · subst e2
          rw [Nat.testBit_two_pow_self, hb]
          rfl
        · rw [Nat.testBit_two_pow_of_ne (Ne.symm e2)]
          cases g.testBit i <;> rfl
      rw [← e, ← Nat.and_assoc, hsub]
    · refine ⟨g, ?_, Nat.and_self g⟩
      refine List.mem_filter.mpr ⟨List.mem_range.mpr (by rw [h.1]; exact hg), ?_⟩
      rw [ht, Bool.true_and, Bool.not_eq_true']
      exact Bool.eq_false_iff.mpr c
theorem tab_least {n : Nat} {t : List Bool} (hn : n ≤ 5) (h : Mono n t) : tab n (leastM t) = t := by
  refine list_ext_get (n := 2 ^ n) (tab_len n _) h.1 fun g hg => ?_
  rw [tab_get hg, Bool.eq_iff_iff, List.any_eq_true]
  constructor
  · rintro ⟨o, ho, e⟩
    obtain ⟨h1, h2⟩ := List.mem_filter.mp ho
    have h1 := List.mem_range.mp h1
    rw [h.1] at h1
    rw [Bool.and_eq_true] at h2
    exact h.2 g o hg h1 (of_decide_eq_true e) h2.1
  · intro ht
    obtain ⟨o, ho, e⟩ := least_under hn h g hg ht
    exact ⟨o, ho, decide_eq_true e⟩
theorem wtext_split {n : Nat} {t : List Bool} (hn : n < 6) (hl : ∀ g ∈ leastM t, g < 32) : Txt.split (wtext n t) " " = nword n :: (leastM t).map gtext := by
  refine TL.split_join (s := 32) (S := []) rfl (by decide +kernel) (by simp) fun p hp => ?_
  rcases List.mem_cons.mp hp with rfl | hp
  · exact nword_sp n hn
  · obtain ⟨g, hg, rfl⟩ := List.mem_map.mp hp
    exact gtext_sp g (hl g hg)
end Wv
namespace Wv
open PySem L2 PyProof.Rows
open Evl (Ex fresh_back ex_l)
def top (i : Nat) : Stmt := PySem.Challenge.pw_weighvote_k06_councils_read_and_written.main.body.getD i (.Pass ⟨0, 0, 0, 0⟩)
/-! ### the words that evaluate -/
local macro_rules | `(tactic| walk_at "side0") => `(tactic| first
  | assumption | exact True.intro | (with_reducible exact rfl) | omega | (constructor <;> first | assumption | omega) | decide | (solve_by_elim) | (simp; done) | (simp <;> omega))
local macro_rules | `(tactic| walk_at "side") => `(tactic| first | walk_at "side0" | (dsimp only; walk_at "side0"))
local macro_rules | `(tactic| walk_at "nt") => `(tactic| first
  | (with_reducible exact pw_nat _) | (with_reducible exact shl_one _) | (with_reducible exact rfl) | (with_reducible exact lit0) | (with_reducible exact lit1) | (with_reducible exact lit2) | (with_reducible exact lit3) | (with_reducible exact lit4) | (with_reducible exact lit5) | (with_reducible exact lit6) | (with_reducible exact lit7) | (with_reducible exact lit8) | (with_reducible exact lit31) | (with_reducible exact lit32) | (with_reducible exact lit40) | exact rfl | omega | (simp; done))
local macro_rules | `(tactic| walk_at "od") => `(tactic| first
  | (with_reducible exact od_andN) | (with_reducible exact od_orN) | (with_reducible exact od_xorN) | ((with_reducible apply od_shl1); omega) | (with_reducible exact od_eqNat) | (with_reducible exact od_neNat)
  | (with_reducible exact od_i) | (with_reducible exact od_b) | (with_reducible exact od_eqI) | (with_reducible exact od_neI) | (with_reducible exact od_eqB) | (with_reducible exact od_neB) | (with_reducible exact od_eqS) | (with_reducible exact od_neS)
  | ((with_reducible refine od_ixB ?_); walk_at "side") | ((with_reducible refine od_ixI ?_); walk_at "side") | ((with_reducible refine od_ixN ?_); walk_at "side")
  | ((with_reducible apply od_ixR); (· walk_at "side"); (· walk_at "side"))
  | ((with_reducible apply od_ixT); (· walk_at "side"); (· exact rfl)) | ((with_reducible apply od_ixL); (· walk_at "side"); (· exact rfl))
  | (with_reducible exact od_eqN) | (with_reducible exact od_neN) | (with_reducible exact od_eqL) | (with_reducible exact od_neL) | (with_reducible exact od_eqLb)
  | (with_reducible exact od_inI)
  | ((with_reducible refine od_ic ?_); walk_at "oc")
  | ((with_reducible refine od_cat ?_); walk_at "sz"))
local macro_rules | `(tactic| walk_at "oc") => `(tactic| first
  | assumption | (refine And.intro ?_ (And.intro ?_ ?_) <;> first | assumption | omega | decide) | (refine And.intro ?_ ?_ <;> first | assumption | omega | decide) | (refine Or.inl (And.intro ?_ ?_) <;> first | omega | decide) | (refine Or.inr (And.intro ?_ ?_) <;> first | omega | decide) | (show (0 : Int) ≤ _; omega) | (show (0 : Int) < _; omega) | (show (0 : Int) < _; decide) | decide)
local macro_rules | `(tactic| walk_at "sz") => `(tactic| first
  | omega | (with_reducible exact wo_big _) | (simp only [List.length_map, List.length_range, List.length_cons, List.length_nil, sizeLine_eq] <;> omega)
  | (rw [sizeLine_eq]; simp <;> omega) | (simp <;> omega) | decide)
local macro_rules | `(tactic| walk_at "cf") => `(tactic| first
  | assumption | exact c_within.i _ _ _
  | ((refine c_law_table.mk ?_ ?_); (· walk_at "side"); (· walk_at "sz"))
  | ((refine c_law_is.mk ?_); walk_at "side") | ((refine RC1.mk ?_); walk_at "side") | ((refine RC2.mk ?_); walk_at "side") | ((refine RCC.mk ?_); walk_at "side")
  | ((refine R1.mk ?_); walk_at "side") | ((refine R2'.mk ?_); walk_at "side") | ((refine R3.mk ?_); walk_at "side") | ((refine R4.mk ?_); walk_at "side"))
local macro_rules | `(tactic| walk_at "cb") => `(tactic| first
  | (with_reducible exact cb_lenM) | (with_reducible exact cb_len) | (with_reducible exact cb_lenT) | (with_reducible exact cb_lenR) | (with_reducible exact cb_anyM) | (with_reducible exact cb_allM) | (with_reducible exact cb_sumM)
  | (with_reducible exact cb_any) | (with_reducible exact cb_all) | (with_reducible exact cb_sum) | (with_reducible exact cb_list)
  | ((with_reducible apply cb_isi); (· constructor); (· first | (with_reducible exact kit_ii) | (with_reducible exact kit_ib) | (with_reducible exact kit_bb) | (with_reducible exact kit_bi) | (with_reducible exact kit_ll) | (with_reducible exact kit_ss) | (with_reducible exact kit_li) | (with_reducible exact kit_lb) | (with_reducible exact kit_ti) | (with_reducible exact kit_tl) | (with_reducible exact kit_si) | (with_reducible exact kit_sl) | (with_reducible exact kit_ni) | (with_reducible exact kit_nl) | (with_reducible exact kit_il) | (with_reducible exact kit_lt) | (with_reducible exact kit_tt) | (with_reducible exact kit_ns) | (with_reducible exact kit_is) | (with_reducible exact kit_ls) | (with_reducible exact kit_bs))))
local macro_rules | `(tactic| walk_at "ea") => `(tactic| first
  | (with_reducible exact ea_nil)
  | ((with_reducible apply ea_cons); (· walk_at "ev"); (· walk_at "ea")))
local macro_rules | `(tactic| walk_at "ne") => `(tactic| first | exact Or.inr rfl | exact Or.inl (fun _ z => nomatch z))
local macro_rules | `(tactic| walk_at "et") => `(tactic| first
  | (with_reducible exact et_yes)
  | ((with_reducible apply et_test); walk_at "ev") | ((with_reducible apply et_B); walk_at "ev")
  | ((with_reducible apply et_not); walk_at "et")
  | ((with_reducible apply et_and); (· walk_at "et"); (· intro hq; walk_at "et"))
  | ((with_reducible apply et_or); (· walk_at "et"); (· intro hq; walk_at "et")))
local macro_rules | `(tactic| walk_at "it") => `(tactic| first
  | ((with_reducible apply it_rngN); (· walk_at "ea"); (· walk_at "nt"); (· walk_at "side"))
  | ((with_reducible apply it_list); walk_at "ev") | ((with_reducible apply it_tup); walk_at "ev"))
local macro_rules | `(tactic| walk_at "evN") => `(tactic| first
  | ((with_reducible apply ev_callG); (· walk_at "ea"); (· walk_at "cf"); (· walk_at "ne"))
  | ((with_reducible apply ev_methG); (· walk_at "ev"); (· decide +kernel); (· walk_at "ea"); (· walk_at "cf"); (· walk_at "ne"))
  | ((with_reducible apply ev_lst); (· walk_at "ea"); (· walk_at "sz"))
  | ((with_reducible apply ev_cb); (· walk_at "ea"); (· walk_at "cb"))
  | ((with_reducible apply ev_op); (· walk_at "ev"); (· walk_at "ev"); (· walk_at "od"))
  | ((with_reducible apply ev_lcM); (· walk_at "it"); (· walk_at "sz"); (· decide); (· (intro a ha; (try replace ha := List.mem_range.mp ha); walk_at "ev")))
  | ((with_reducible apply ev_lcF); (· walk_at "it"); (· walk_at "sz"); (· decide); (· (intro a ha; (try replace ha := List.mem_range.mp ha); walk_at "et")); (· (intro a ha hf; (try replace ha := List.mem_range.mp ha); walk_at "ev")))
  | ((with_reducible apply ev_revL); walk_at "ev")
  | ((with_reducible apply ev_listRg1); (· walk_at "ev"); (· walk_at "nt"); (· walk_at "side")))
local macro_rules | `(tactic| walk_at "ev") => `(tactic| first
  | ((with_reducible apply ev_var); exact rfl)
  | (with_reducible exact ev_int) | (with_reducible exact ev_bl) | (with_reducible exact ev_str) | (with_reducible exact ev_non) | (with_reducible exact ev_ty) | (with_reducible exact ev_fn)
  | ((with_reducible apply ev_op); (· walk_at "ev"); (· walk_at "ev"); (· walk_at "od"))
  | ((with_reducible apply ev_un); (· walk_at "ev"); (· exact ud_i))
  | ((with_reducible apply ev_chain); (· walk_at "ev"); (· walk_at "ev"); (· walk_at "ev"); (· walk_at "od"); (· walk_at "od"))
  | ((with_reducible apply ev_andV); (· walk_at "ev"); (· intro hq; walk_at "ev"))
  | ((with_reducible apply ev_orV); (· walk_at "ev"); (· intro hq; walk_at "ev"))
  | ((with_reducible apply ev_notV); walk_at "ev")
  | ((with_reducible apply ev_if); (· walk_at "et"); (· intro hq; walk_at "ev"); (· intro hq; walk_at "ev"))
  | ((with_reducible apply ev_fld); (· walk_at "ev"); (· assumption); (· assumption); (· first | exact lk_members _ _ | exact lk_table _ _))
  | ((with_reducible apply ev_callG); (· walk_at "ea"); (· walk_at "cf"); (· walk_at "ne"))
  | ((with_reducible apply ev_methG); (· walk_at "ev"); (· decide +kernel); (· walk_at "ea"); (· walk_at "cf"); (· walk_at "ne"))
  | ((with_reducible apply EvR.ofF); walk_at "evO")
  | ((with_reducible apply ev_cb); (· walk_at "ea"); (· walk_at "cb"))
  | ((with_reducible apply ev_tup); (· walk_at "ea"); (· walk_at "sz"))
  | ((with_reducible apply ev_count); (· walk_at "ev"); (· walk_at "ev"))
  | ((with_reducible apply EvR.fz); walk_at "evN"))
local macro_rules | `(tactic| walk_at "ci") => `(tactic| first
  | assumption | (refine c_Council_init.mk ?_ ?_ ?_ ?_ <;> walk_at "side"))
local macro_rules | `(tactic| walk_at "evO") => `(tactic| first
  | ((with_reducible apply ev_make); (· walk_at "ea"); (· walk_at "ci"))
  | ((with_reducible apply ev_callG); (· walk_at "ea"); (· walk_at "cf"); (· walk_at "ne"))
  | ((with_reducible apply ev_methG); (· walk_at "ev"); (· decide +kernel); (· walk_at "ea"); (· walk_at "cf"); (· walk_at "ne"))
  | (with_reducible exact ev_emp))
local macro_rules | `(tactic| walk_at "evF") => `(tactic| first
  | walk_at "evO"
  | ((with_reducible apply EvR.frsS); (· walk_at "ev"); (· exact rfl))
  | ((with_reducible apply EvR.frsL); (· walk_at "evN"); (· simp [sca])))
structure Txt (K : PySem.W.Frag) (mg : Str → Option Value) (C_Council : Addr) : Prop where
  n_all : mg "all" = none
  n_any : mg "any" = none
  n_bool : mg "bool" = none
  n_int : mg "int" = none
  n_isinstance : mg "isinstance" = none
  n_len : mg "len" = none
  n_list : mg "list" = none
  n_range : mg "range" = none
  n_set : mg "set" = none
  n_sorted : mg "sorted" = none
  n_str : mg "str" = none
  n_sum : mg "sum" = none
  c_MOST : ∃ t, mg "MOST" = some (.int 5 t)
  c_FIGURES : ∃ t, mg "FIGURES" = some (.str "01234" t)
  g_Council : mg "Council" = some (.ref C_Council)
  cl_Council : Cls K C_Council
  na_Council_members : NoAttr K C_Council "members"
  na_Council_table : NoAttr K C_Council "table"
section
variable {P : Program} {w : World} {K : PySem.W.Frag} {mg : Str → Option Value} {base : Heap} {C_Council : Addr}
abbrev st_within : Stmt := top 8
abbrev n_within : List Str := ["number", "low", "high"]
abbrev p_within : List Str := ["number", "low", "high"]
theorem sc_within : FnScope n_within p_within (defScope st_within) := ⟨rfl, rfl, rfl, by decide +kernel, rfl, by decide +kernel, by decide +kernel⟩
theorem ok_within {f : Addr} {fd : FuncData} (F : Fun K "within" "within" st_within f fd) (T : Txt K mg C_Council) : FnOk P w K mg base CX0 1 f fd p_within (SpR K c_within) := by
  refine F.ok sc_within (sp_len c_within.len) (fun cdv A outer s H vs Q E hr h => ?_)
  have hcl_Council := T.cl_Council
  have hna_Council_members := T.na_Council_members
  have hna_Council_table := T.na_Council_table
  refine ⟨_, (pss_one (ps_ret (pe_and (pe_callB call_isi (by rfl) T.n_isinstance (by decide +kernel) (pa_cons (pv 0) (pa_cons (pe_bltn (v := .ty "int") (by rfl) T.n_int (by decide +kernel) rfl) pa_nil))) (pe_and (pe_not (pe_callB call_isi (by rfl) T.n_isinstance (by decide +kernel) (pa_cons (pv 0) (pa_cons (pe_bltn (v := .ty "bool") (by rfl) T.n_bool (by decide +kernel) rfl) pa_nil)))) (pe_one (pe_chain op_le op_le (pv 1) (pv 0) (pv 2))))))), go_of ?_ h⟩
  try dsimp only [L2.cxOf, L2.Cx.nox, L2.Cx.wish, L2.Cx.blk]
  rintro ds r ⟨x, lo, hi, b, rfl, hw, rfl⟩
  refine w_ret (r := .dat (.bl b)) ?_ rfl
  cases hw with
  | int n =>
    refine ev_is (d := .bl (true && (!false && (decide (lo ≤ n) && decide (n ≤ hi))))) ?_ (by simp)
    walk_at "ev"
  | bl b =>
    refine ev_is (d := .bl (true && false)) ?_ rfl
    refine ev_andV (by walk_at "ev") fun _ => ev_andV' ?_
    refine ev_is (d := .bl (!true)) ?_ rfl
    walk_at "ev"
  | no _ T _ _ h hT =>
    refine ev_andV' ?_
    exact ev_cb (ea_cons (ev_var rfl) (ea_cons ev_ty ea_nil)) (cb_isi h hT)
def c_holds_all : List D → Rs → Prop := R2' nat nat (fun _ _ => True) fun g o => .dat (.bl (decide (g &&& o = o)))
abbrev st_holds_all : Stmt := top 9
abbrev n_holds_all : List Str := ["group", "other"]
abbrev p_holds_all : List Str := ["group", "other"]
theorem sc_holds_all : FnScope n_holds_all p_holds_all (defScope st_holds_all) := ⟨rfl, rfl, rfl, by decide +kernel, rfl, by decide +kernel, by decide +kernel⟩
theorem ok_holds_all {f : Addr} {fd : FuncData} (F : Fun K "holds_all" "holds_all" st_holds_all f fd) (T : Txt K mg C_Council) : FnOk P w K mg base CX0 1 f fd p_holds_all (SpR K c_holds_all) := by
  refine F.ok sc_holds_all (sp_len R2'.len) (fun cdv A outer s H vs Q E hr h => ?_)
  have hcl_Council := T.cl_Council
  have hna_Council_members := T.na_Council_members
  have hna_Council_table := T.na_Council_table
  refine ⟨_, (pss_one (ps_ret (pe_cmpR op_eq (pe_op op_and (pv 0) (pv 1)) (pv 1) (nomark _)))), go_of ?_ h⟩
  try dsimp only [L2.cxOf, L2.Cx.nox, L2.Cx.wish, L2.Cx.blk]
  rintro ds r ⟨g, o, rfl, -, rfl⟩
  refine w_ret ?_ rfl
  walk_at "ev"
def c_without_one : List D → Rs → Prop := R1 nat (fun _ => True) fun g => .new ((wo g).map nat)
abbrev st_without_one : Stmt := top 11
abbrev n_without_one : List Str := ["group", "k"]
abbrev p_without_one : List Str := ["group"]
theorem sc_without_one : FnScope n_without_one p_without_one (defScope st_without_one) := ⟨rfl, rfl, rfl, by decide +kernel, rfl, by decide +kernel, by decide +kernel⟩
theorem ok_without_one {f : Addr} {fd : FuncData} (F : Fun K "without_one" "without_one" st_without_one f fd) (T : Txt K mg C_Council) : FnOk P w K mg base CX0 1 f fd p_without_one (SpR K c_without_one) := by
  refine F.ok sc_without_one (sp_len R1.len) (fun cdv A outer s H vs Q E hr h => ?_)
  have hcl_Council := T.cl_Council
  have hna_Council_members := T.na_Council_members
  have hna_Council_table := T.na_Council_table
  refine ⟨_, (pss_one (ps_ret (pe_lc (own := [("k", 1)]) (g := gName 1) (te := (tOp (rI0 fun i j => .int (Builtin.bitXor i j)) (tVar 0) (tOp (rI CPow fun i j => .int (i * 2 ^ j.toNat)) (tC (.int 1)) (tVar 1)))) (tt := (tTest (tOp (rEq) (tOp (rI0 fun i j => .int (Builtin.bitAnd i j)) (tOp (rI (fun _ j => 0 ≤ j) fun i j => .int (i / 2 ^ j.toNat)) (tVar 0) (tVar 1)) (tC (.int 1))) (tC (.int 1))))) (by exact rfl) sc_without_one.nd (pi_range1 (by rfl) T.n_range (pa_cons (pe_glob (v := .int 5) rfl T.c_MOST.choose_spec (by exact ⟨_, rfl⟩)) pa_nil)) (blkOk_by (N := n_without_one) (sc := defScope st_without_one) (own := [("k", 1)]) (by decide +kernel)) (fun _ _ _ _ _ => (pg_name (i := 1) sc_without_one.nd rfl (by first | exact Or.inl rfl | exact Or.inr rfl))) (fun _ _ _ _ _ => pts_one (pt_cmpR op_eq (pe_op op_and (pe_op op_shr (pv 0) (pv 1)) pe_int) pe_int (nomark _))) (fun _ _ _ _ _ => (pe_op op_xor (pv 0) (pe_op op_shl pe_int (pv 1))))))), go_of ?_ h⟩
  try dsimp only [L2.cxOf, L2.Cx.nox, L2.Cx.wish, L2.Cx.blk]
  rintro ds r ⟨g, rfl, -, rfl⟩
  refine w_ret ?_ rfl
  apply ev_isN
  · walk_at "evN"
  · simp only [bit_is, wo, List.map_map]
    rfl
abbrev st_Council_init : Stmt := inClass (top 10) 0
abbrev n_Council_init : List Str := ["self", "members", "groups", "group", "one"]
abbrev p_Council_init : List Str := ["self", "members", "groups"]
theorem sc_Council_init : FnScope n_Council_init p_Council_init (defScope st_Council_init) := ⟨rfl, rfl, rfl, by decide +kernel, rfl, by decide +kernel, by decide +kernel⟩
theorem ok_Council_init {f : Addr} {fd : FuncData} (F : Fun K "__init__" "Council.__init__" st_Council_init f fd) (T : Txt K mg C_Council) (g_within : OkD P w K mg base CX0 1 "within" p_within (SpR K c_within)) (g_holds_all : OkD P w K mg base CX0 1 "holds_all" p_holds_all (SpR K c_holds_all)) : FnOk P w K mg base CX0 2 f fd p_Council_init (SpI K C_Council c_Council_init) := by
  refine F.ok sc_Council_init (spI_len (by rintro ds r ⟨_, _, rfl, _⟩; rfl)) (fun cdv A outer s H vs Q E hr h => ?_)
  have hcl_Council := T.cl_Council
  have hna_Council_members := T.na_Council_members
  have hna_Council_table := T.na_Council_table
  refine ⟨_, (pss_cons (ps_if (PW.pt (pw_or (pt_not (pt_val (pe_callD g_within (hr.mono (by decide)) (by rfl) pass0 (pa_cons (pv 1) (pa_cons pe_int (pa_cons (pe_glob (v := .int 5) rfl T.c_MOST.choose_spec (by exact ⟨_, rfl⟩)) pa_nil)))))) (pw_or1 (pt_not (pt_val (pe_callB call_isi (by rfl) T.n_isinstance (by decide +kernel) (pa_cons (pv 2) (pa_cons (pe_bltn (v := .ty "list") (by rfl) T.n_list (by decide +kernel) rfl) pa_nil)))))))) (pss_one ps_never) pss_nil)
  (pss_cons (ps_if (pt_not (pt_val (pe_callB (cr_all rfl) (by rfl) T.n_all (by decide +kernel) (pa_cons (pe_lc (own := [("group", 3)]) (g := gName 3) (tt := tYes) (te := (tCall (SpR K c_within) [] E0 (tCons (tVar 3) (tCons (tC (.int 0)) (tCons (tOp (rI0 fun i j => .int (i - j)) (tOp (rI CPow fun i j => .int (i * 2 ^ j.toNat)) (tC (.int 1)) (tVar 1)) (tC (.int 1))) tNil))))) (by exact rfl) sc_Council_init.nd (pi_list (pv 2)) (blkOk_by (N := n_Council_init) (sc := defScope st_Council_init) (own := [("group", 3)]) (by decide +kernel)) (fun _ _ _ _ _ => (pg_name (i := 3) sc_Council_init.nd rfl (by first | exact Or.inl rfl | exact Or.inr rfl))) (fun _ _ _ _ _ => pts_nil) (fun _ _ _ _ _ => (pe_callD g_within (hr.mono (by decide)) (by rfl) pass0 (pa_cons (pv 3) (pa_cons pe_int (pa_cons (pe_op op_sub (pe_op op_shl pe_int (pv 1)) pe_int) pa_nil)))))) pa_nil)))) (pss_one ps_never) pss_nil)
  (pss_cons (ps_fld (pv 0) (pv 1) rfl)
  (pss_one (ps_fld (pv 0) (pe_lc (own := [("group", 3)]) (g := gName 3) (tt := tYes) (te := (tCB (rAny K) (tCons (tLc (iList K (tVar 2)) (gName 4) tYes (tCall (SpR K c_holds_all) [] E0 (tCons (tVar 3) (tCons (tVar 4) tNil))) [4]) tNil))) (by exact rfl) sc_Council_init.nd (pi_range1 (by rfl) T.n_range (pa_cons (pe_op op_shl pe_int (pv 1)) pa_nil)) (blkOk_by (N := n_Council_init) (sc := defScope st_Council_init) (own := [("group", 3)]) (by decide +kernel)) (fun _ _ _ _ _ => (pg_name (i := 3) sc_Council_init.nd rfl (by first | exact Or.inl rfl | exact Or.inr rfl))) (fun _ _ _ _ _ => pts_nil) (fun _ _ _ _ _ => (pe_callB (cr_any rfl) (by rfl) T.n_any (by decide +kernel) (pa_cons (pe_lc (own := [("one", 4)]) (g := gName 4) (tt := tYes) (te := (tCall (SpR K c_holds_all) [] E0 (tCons (tVar 3) (tCons (tVar 4) tNil)))) (by exact rfl) sc_Council_init.nd (pi_list (pv 2)) (blkOk_by (own := [("one", 4)]) (by kernel_rfl)) (fun _ _ _ _ _ => (pg_name (i := 4) sc_Council_init.nd rfl (by first | exact Or.inl rfl | exact Or.inr rfl))) (fun _ _ _ _ _ => pts_nil) (fun _ _ _ _ _ => (pe_callD g_holds_all (hr.mono (by decide)) (by rfl) pass0 (pa_cons (pv 3) (pa_cons (pv 4) pa_nil))))) pa_nil)))) rfl))))), goI_of ?_ h⟩
  try dsimp only [L2.cxOf, L2.Cx.nox, L2.Cx.wish, L2.Cx.blk]
  rintro x ds r ⟨n, gs, rfl, ⟨h1, h5, hl, hg⟩, rfl⟩
  have hp := pow_le n h5
  show W K E _ [.ob x C_Council [] [], .fz (nat n), .fz (natL gs), .un, .un] _
  refine w_seq (w_ifF ?_ (w_next ?_))
  · apply et_is
    · walk_at "et"
    · simp
      omega
  refine w_seq (w_ifF ?_ (w_next ?_))
  · apply et_is
    · walk_at "et"
    · rw [Bool.not_eq_false', List.all_eq_true]
      intro g hm
      have := hg g hm
      rw [Bool.and_eq_true, decide_eq_true_eq, decide_eq_true_eq]
      omega
  refine w_seq (w_fld rfl T.cl_Council T.na_Council_members (by decide) (by decide) (d := nat n) ?_ ?_ (by simp))
  · walk_at "evF"
  refine w_fld rfl T.cl_Council T.na_Council_table (by decide +kernel) (by decide) (d := blL (tab n gs)) ?_ ?_ (by simp)
  · apply ev_isF
    · walk_at "evF"
    · simp only [tab, blL, List.map_map]
      rfl
  · exact ⟨_, _, rfl, rfl⟩
def c_Council_carries (C : Addr) : List D → Rs → Prop := RC2 C nat (fun n t g => g < t.length) fun n t g => .dat (.bl (t.getD g false))
abbrev st_Council_carries : Stmt := inClass (top 10) 1
abbrev n_Council_carries : List Str := ["self", "group"]
abbrev p_Council_carries : List Str := ["self", "group"]
theorem sc_Council_carries : FnScope n_Council_carries p_Council_carries (defScope st_Council_carries) := ⟨rfl, rfl, rfl, by decide +kernel, rfl, by decide +kernel, by decide +kernel⟩
theorem ok_Council_carries {f : Addr} {fd : FuncData} (F : Fun K "carries" "Council.carries" st_Council_carries f fd) (T : Txt K mg C_Council) (g_within : OkD P w K mg base CX0 1 "within" p_within (SpR K c_within)) : FnOk P w K mg base CX0 2 f fd p_Council_carries (SpR K (c_Council_carries C_Council)) := by
  refine F.ok sc_Council_carries (sp_len RC2.len) (fun cdv A outer s H vs Q E hr h => ?_)
  have hcl_Council := T.cl_Council
  have hna_Council_members := T.na_Council_members
  have hna_Council_table := T.na_Council_table
  refine ⟨_, (pss_cons (ps_if (pt_not (pt_val (pe_callD g_within (hr.mono (by decide)) (by rfl) pass0 (pa_cons (pv 1) (pa_cons pe_int (pa_cons (pe_op op_sub (pe_callB call_len_seq (by rfl) T.n_len (PySem.boot_len) (pa_cons (pe_fld (pv 0) rfl) pa_nil)) pe_int) pa_nil)))))) (pss_one ps_never) pss_nil)
  (pss_one (ps_ret (pe_ix ix_list (pe_fld (pv 0) rfl) (pv 1) (fun _ _ => rfl))))), go_of ?_ h⟩
  try dsimp only [L2.cxOf, L2.Cx.nox, L2.Cx.wish, L2.Cx.blk]
  rintro ds r ⟨n, t, g, rfl, hg, rfl⟩
  show W K E _ [.fz (cou C_Council n t), .fz (nat g)] _
  refine w_seq (w_ifF ?_ (w_next ?_))
  · apply et_is
    · walk_at "et"
    · simp
      omega
  · refine w_ret ?_ rfl
    walk_at "ev"
def c_Council_least (C : Addr) : List D → Rs → Prop := RC1 C (fun n t => t.length ≤ 32) fun n t => .new ((leastM t).map nat)
abbrev st_Council_least : Stmt := inClass (top 10) 2
abbrev n_Council_least : List Str := ["self", "found", "group", "less"]
abbrev p_Council_least : List Str := ["self"]
theorem sc_Council_least : FnScope n_Council_least p_Council_least (defScope st_Council_least) := ⟨rfl, rfl, rfl, by decide +kernel, rfl, by decide +kernel, by decide +kernel⟩
theorem ok_Council_least {f : Addr} {fd : FuncData} (F : Fun K "least" "Council.least" st_Council_least f fd) (T : Txt K mg C_Council) (g_without_one : OkD P w K mg base CX0 1 "without_one" p_without_one (SpR K c_without_one)) : FnOk P w K mg base CX0 2 f fd p_Council_least (SpR K (c_Council_least C_Council)) := by
  refine F.ok sc_Council_least (sp_len RC1.len) (fun cdv A outer s H vs Q E hr h => ?_)
  have hcl_Council := T.cl_Council
  have hna_Council_members := T.na_Council_members
  have hna_Council_table := T.na_Council_table
  refine ⟨_, (pss_cons (ps_set (i := 1) sc_Council_least.nd rfl (by first | exact Or.inl rfl | exact Or.inr rfl) (pe_lst pa_nil))
  (pss_cons (ps_for PassesOwn.never rfl (pi_range1 (by rfl) T.n_range (pa_cons (pe_callB call_len_seq (by rfl) T.n_len (PySem.boot_len) (pa_cons (pe_fld (pv 0) rfl) pa_nil)) pa_nil)) (pg_name (i := 2) sc_Council_least.nd rfl (by first | exact Or.inl rfl | exact Or.inr rfl))
  (pss_one (ps_if (PW.pt (pw_and (pt_val (pe_ix ix_list (pe_fld (pv 0) rfl) (pv 2) (fun _ _ => rfl))) (pw_and1 (pt_not (pt_val (pe_callB (cr_any rfl) (by rfl) T.n_any (by decide +kernel) (pa_cons (pe_lc (own := [("less", 3)]) (g := gName 3) (tt := tYes) (te := (tOp (rIxL K) (tFld K (tVar 0) "table") (tVar 3))) (by exact rfl) sc_Council_least.nd (pi_list (pe_callD g_without_one (hr.mono (by decide)) (by rfl) pass0 (pa_cons (pv 2) pa_nil))) (blkOk_by (N := n_Council_least) (sc := defScope st_Council_least) (own := [("less", 3)]) (by decide +kernel)) (fun _ _ _ _ _ => (pg_name (i := 3) sc_Council_least.nd rfl (by first | exact Or.inl rfl | exact Or.inr rfl))) (fun _ _ _ _ _ => pts_nil) (fun _ _ _ _ _ => (pe_ix ix_list (pe_fld (pv 0) rfl) (pv 3) (fun _ _ => rfl)))) pa_nil))))))) (pss_one (ps_expr (pe_bm PySem.F.plainAttrs_list PySem.F.slot_list_append PySem.F.type_list_append mt_append (pv 1) (pa_cons (pv 2) pa_nil)))) pss_nil)))
  (pss_one (ps_ret (pv 1))))), go_of ?_ h⟩
  try dsimp only [L2.cxOf, L2.Cx.nox, L2.Cx.wish, L2.Cx.blk]
  rintro ds r ⟨n, t, rfl, ht, rfl⟩
  show W K E _ [.fz (cou C_Council n t), .un, .un, .un] _
  refine w_seq (w_asgN (xs := []) ?_ ?_)
  · walk_at "evN"
  refine w_seq (w_forS (ys := List.range t.length) (f := nat) (fun i => [.fz (cou C_Council n t), .ow (((List.range i).filter fun g => t.getD g false && !((wo g).any fun l => t.getD l false)).map nat), .un, .un]) ?_ (Fgt.refl _) ?_ ?_)
  · walk_at "it"
  · intro i a ha
    obtain ⟨hi, rfl⟩ := List.getElem?_eq_some_iff.mp ha
    rw [List.length_range] at hi
    rw [List.getElem_range]
    have hw : ∀ l, l ∈ wo i → l < t.length := fun l hl => Nat.lt_trans (wo_lt hl) hi
    refine w_if (b := t.getD i false && !((wo i).any fun l => t.getD l false)) ?_ ?_ ?_
    · apply et_is
      · walk_at "et"
      · rfl
    · intro hb
      refine w_app rfl (d := nat i) ?_ ?_ ?_
      · with_reducible apply ev_var
        exact rfl
      · rw [List.length_map]
        have := filt_len (fun g => t.getD g false && !((wo g).any fun l => t.getD l false)) i
        omega
      · show Fgt _ _
        rw [filt_yes hb, List.map_append]
        exact .keep (.keep (.drop (.keep .nil)))
    · intro hb
      refine w_next ?_
      show Fgt _ _
      rw [filt_no hb]
      exact .keep (.keep (.drop (.keep .nil)))
  · intro s hs
    refine w_fgt hs (w_retO (i := 1) rfl ?_)
    rw [List.length_range]
    rfl
def c_Council_greatest (C : Addr) : List D → Rs → Prop := RC1 C (fun n t => n ≤ 5 ∧ t.length = 2 ^ n) fun n t => .new ((greatM t).map nat)
theorem xor_lt {n a b : Nat} (ha : a < 2 ^ n) (hb : b < 2 ^ n) : a ^^^ b < 2 ^ n := Nat.xor_lt_two_pow ha hb
abbrev st_Council_greatest : Stmt := inClass (top 10) 3
abbrev n_Council_greatest : List Str := ["self"]
abbrev p_Council_greatest : List Str := ["self"]
theorem sc_Council_greatest : FnScope n_Council_greatest p_Council_greatest (defScope st_Council_greatest) := ⟨rfl, rfl, rfl, by decide +kernel, rfl, by decide +kernel, by decide +kernel⟩
abbrev st_law_cell_at : Stmt := top 20
abbrev n_law_cell_at : List Str := ["_law_script", "_law_k"]
abbrev p_law_cell_at : List Str := ["_law_script", "_law_k"]
theorem sc_law_cell_at : FnScope n_law_cell_at p_law_cell_at (defScope st_law_cell_at) := ⟨rfl, rfl, rfl, by decide +kernel, rfl, by decide +kernel, by decide +kernel⟩
theorem ok_law_cell_at {f : Addr} {fd : FuncData} (F : Fun K "_law_cell_at" "_law_cell_at" st_law_cell_at f fd) (T : Txt K mg C_Council) : FnOk P w K mg base CX0 1 f fd p_law_cell_at (SpR K c_law_cell_at) := by
  refine F.ok sc_law_cell_at (sp_len R2'.len) (fun cdv A outer s H vs Q E hr h => ?_)
  have hcl_Council := T.cl_Council
  have hna_Council_members := T.na_Council_members
  have hna_Council_table := T.na_Council_table
  refine ⟨_, (pss_cons (ps_if (pt_cmpR op_lt (pv 1) (pe_callB call_len_seq (by rfl) T.n_len (PySem.boot_len) (pa_cons (pv 0) pa_nil)) (nomark _)) (pss_one (ps_ret (pe_ix ix_list (pv 0) (pv 1) (fun _ _ => rfl)))) pss_nil)
  (pss_one (ps_ret pe_int))), go_of ?_ h⟩
  try dsimp only [L2.cxOf, L2.Cx.nox, L2.Cx.wish, L2.Cx.blk]
  rintro ds r ⟨ns, k, rfl, -, rfl⟩
  show W K E _ [.fz (.scr ns), .fz (nat k)] _
  refine w_seq (w_if (b := decide (k < ns.length)) ?_ (fun hk => ?_) fun hk => w_next ?_)
  · apply et_is
    · walk_at "et"
    · rw [decide_eq_decide]
      omega
  · have hk := of_decide_eq_true hk
    refine w_ret (r := .dat (.int (ns.getD k 0))) ?_ rfl
    with_reducible apply ev_op
    · walk_at "ev"
    · walk_at "ev"
    · refine od_ixR (by omega) ?_
      rw [Int.toNat_natCast, List.getD_eq_getElem?_getD, List.getElem?_eq_getElem hk]
      rfl
  · have hk := of_decide_eq_false hk
    refine w_ret (r := .dat (.int (ns.getD k 0))) ?_ rfl
    rw [List.getD_eq_getElem?_getD, List.getElem?_eq_none (by omega)]
    exact ev_int
abbrev st_law_draw : Stmt := top 21
abbrev n_law_draw : List Str := ["_law_cell", "_law_k", "_law_many", "_law_primes", "_law_blend"]
abbrev p_law_draw : List Str := ["_law_cell", "_law_k", "_law_many"]
theorem sc_law_draw : FnScope n_law_draw p_law_draw (defScope st_law_draw) := ⟨rfl, rfl, rfl, by decide +kernel, rfl, by decide +kernel, by decide +kernel⟩
theorem ok_law_draw {f : Addr} {fd : FuncData} (F : Fun K "_law_draw" "_law_draw" st_law_draw f fd) (T : Txt K mg C_Council) : FnOk P w K mg base CX0 1 f fd p_law_draw (SpR K c_law_draw) := by
  refine F.ok sc_law_draw (sp_len R3.len) (fun cdv A outer s H vs Q E hr h => ?_)
  have hcl_Council := T.cl_Council
  have hna_Council_members := T.na_Council_members
  have hna_Council_table := T.na_Council_table
  refine ⟨_, (pss_cons (ps_set (i := 3) sc_law_draw.nd rfl (by first | exact Or.inl rfl | exact Or.inr rfl) (pe_tup (pa_cons pe_int (pa_cons pe_int (pa_cons pe_int (pa_cons pe_int (pa_cons pe_int (pa_cons pe_int (pa_cons pe_int (pa_cons pe_int pa_nil))))))))))
  (pss_cons (ps_set (i := 4) sc_law_draw.nd rfl (by first | exact Or.inl rfl | exact Or.inr rfl) (pe_op op_add (pe_op op_add (pe_op op_mul (pv 0) pe_int) (pe_op op_mul (pv 1) pe_int)) (pe_op op_mul (pe_op op_mod (pe_op op_fdiv (pv 0) pe_int) pe_int) pe_int)))
  (pss_one (ps_ret (pe_op op_mod (pe_op op_mod (pv 4) (pe_ix ix_tup (pv 3) (pe_op op_mod (pv 1) pe_int) (fun _ _ => rfl))) (pv 2)))))), go_of ?_ h⟩
  try dsimp only [L2.cxOf, L2.Cx.nox, L2.Cx.wish, L2.Cx.blk]
  rintro ds r ⟨c, k, m, rfl, hm, rfl⟩
  show W K E _ [.fz (.int c), .fz (nat k), .fz (.int m), .un, .un] _
  refine w_seq (w_asg (d := .tup (primesM.map nat)) ?_ ?_)
  · apply ev_is
    · walk_at "ev"
    · rfl
  refine w_seq (w_asg (d := .int (blendM c k)) ?_ ?_)
  · apply ev_is
    · walk_at "ev"
    · rfl
  refine w_ret ?_ rfl
  have h8 : ((k : Int) % 8).toNat = k % 8 := by omega
  have hp : 0 < primesM.getD (k % 8) 1 := primes_pos _ (by omega)
  apply ev_is
  · with_reducible apply ev_op
    · with_reducible apply ev_op
      · walk_at "ev"
      · with_reducible apply ev_op
        · walk_at "ev"
        · walk_at "ev"
        · refine od_ixTN (by omega) ?_
          rw [h8]
          show k % 8 < 8
          omega
      · refine od_ic ?_
        show (0 : Int) < _
        rw [h8]
        have e : primesM.getD (k % 8) 0 = primesM.getD (k % 8) 1 := by
          have hl : k % 8 < primesM.length := by show k % 8 < 8; omega
          rw [List.getD_eq_getElem?_getD, List.getD_eq_getElem?_getD, List.getElem?_eq_getElem hl]
          rfl
        rw [e]
        omega
    · walk_at "ev"
    · exact od_ic hm
  · have e : primesM.getD (k % 8) 0 = primesM.getD (k % 8) 1 := by
      have hl : k % 8 < primesM.length := by show k % 8 < 8; omega
      rw [List.getD_eq_getElem?_getD, List.getD_eq_getElem?_getD, List.getElem?_eq_getElem hl]
      rfl
    rw [h8, e]
    show D.int _ = D.int ((drawM c k m : Nat) : Int)
    unfold drawM
    have h1 := Int.emod_nonneg (blendM c k % ((primesM.getD (k % 8) 1 : Nat) : Int)) (show m ≠ 0 by omega)
    rw [Int.toNat_of_nonneg h1]
abbrev st_law_has : Stmt := top 24
abbrev n_law_has : List Str := ["_law_group", "_law_member"]
abbrev p_law_has : List Str := ["_law_group", "_law_member"]
theorem sc_law_has : FnScope n_law_has p_law_has (defScope st_law_has) := ⟨rfl, rfl, rfl, by decide +kernel, rfl, by decide +kernel, by decide +kernel⟩
theorem ok_law_has {f : Addr} {fd : FuncData} (F : Fun K "_law_has" "_law_has" st_law_has f fd) (T : Txt K mg C_Council) : FnOk P w K mg base CX0 1 f fd p_law_has (SpR K c_law_has) := by
  refine F.ok sc_law_has (sp_len R2'.len) (fun cdv A outer s H vs Q E hr h => ?_)
  have hcl_Council := T.cl_Council
  have hna_Council_members := T.na_Council_members
  have hna_Council_table := T.na_Council_table
  refine ⟨_, (pss_one (ps_ret (pe_cmpR op_eq (pe_op op_and (pe_op op_shr (pv 0) (pv 1)) pe_int) pe_int (nomark _)))), go_of ?_ h⟩
  try dsimp only [L2.cxOf, L2.Cx.nox, L2.Cx.wish, L2.Cx.blk]
  rintro ds r ⟨g, k, rfl, hk, rfl⟩
  show W K E _ [.fz (nat g), .fz (nat k)] _
  refine w_ret ?_ rfl
  apply ev_is
  · walk_at "ev"
  · rw [bit_is]
theorem c_law_table.len : ∀ ds r, c_law_table ds r → ds.length = 1 := by
  rintro ds r ⟨_, _, rfl, _⟩
  rfl
abbrev st_law_table : Stmt := top 23
abbrev n_law_table : List Str := ["_law_told_here", "_law_found", "_law_group", "_law_one"]
abbrev p_law_table : List Str := ["_law_told_here"]
theorem sc_law_table : FnScope n_law_table p_law_table (defScope st_law_table) := ⟨rfl, rfl, rfl, by decide +kernel, rfl, by decide +kernel, by decide +kernel⟩
theorem ok_law_table {f : Addr} {fd : FuncData} (F : Fun K "_law_table" "_law_table" st_law_table f fd) (T : Txt K mg C_Council) : FnOk P w K mg base CX0 1 f fd p_law_table (SpR K c_law_table) := by
  refine F.ok sc_law_table (sp_len c_law_table.len) (fun cdv A outer s H vs Q E hr h => ?_)
  have hcl_Council := T.cl_Council
  have hna_Council_members := T.na_Council_members
  have hna_Council_table := T.na_Council_table
  refine ⟨_, (pss_cons (ps_set (i := 1) sc_law_table.nd rfl (by first | exact Or.inl rfl | exact Or.inr rfl) (pe_lst pa_nil))
  (pss_cons (ps_for PassesOwn.never rfl (pi_range1 (by rfl) T.n_range (pa_cons (pe_op op_shl pe_int (pe_ix ix_tup (pv 0) pe_int (fun _ _ => rfl))) pa_nil)) (pg_name (i := 2) sc_law_table.nd rfl (by first | exact Or.inl rfl | exact Or.inr rfl))
  (pss_one (ps_expr (pe_bm PySem.F.plainAttrs_list PySem.F.slot_list_append PySem.F.type_list_append mt_append (pv 1) (pa_cons (pe_callB (cr_any rfl) (by rfl) T.n_any (by decide +kernel) (pa_cons (pe_lc (own := [("_law_one", 3)]) (g := gName 3) (tt := tYes) (te := (tOp (rEq) (tOp (rI0 fun i j => .int (Builtin.bitAnd i j)) (tVar 2) (tVar 3)) (tVar 3))) (by exact rfl) sc_law_table.nd (pi_list (pe_ix ix_tup (pv 0) pe_int (fun _ _ => rfl))) (blkOk_by (N := n_law_table) (sc := defScope st_law_table) (own := [("_law_one", 3)]) (by decide +kernel)) (fun _ _ _ _ _ => (pg_name (i := 3) sc_law_table.nd rfl (by first | exact Or.inl rfl | exact Or.inr rfl))) (fun _ _ _ _ _ => pts_nil) (fun _ _ _ _ _ => (pe_cmpR op_eq (pe_op op_and (pv 2) (pv 3)) (pv 3) (nomark _)))) pa_nil)) pa_nil)))))
  (pss_one (ps_ret (pv 1))))), go_of ?_ h⟩
  try dsimp only [L2.cxOf, L2.Cx.nox, L2.Cx.wish, L2.Cx.blk]
  rintro ds r ⟨m, gs, rfl, ⟨h5, hl⟩, rfl⟩
  have hp := pow_le m h5
  show W K E _ [.fz (.tup [nat m, natL gs]), .un, .un, .un] _
  refine w_seq (w_asgN (xs := []) ?_ ?_)
  · walk_at "evN"
  refine w_seq (w_forS (ys := List.range (2 ^ m)) (f := nat) (fun i => [.fz (.tup [nat m, natL gs]), .ow ((List.range i).map fun g => .bl (gs.any fun o => decide (g &&& o = o))), .un, .un]) ?_ (Fgt.refl _) ?_ ?_)
  · walk_at "it"
  · intro i a ha
    obtain ⟨hi, rfl⟩ := List.getElem?_eq_some_iff.mp ha
    rw [List.length_range] at hi
    rw [List.getElem_range]
    refine w_app rfl (d := .bl (gs.any fun o => decide (i &&& o = o))) ?_ ?_ ?_
    · walk_at "ev"
    · simp
      omega
    · show Fgt _ _
      rw [List.range_succ, List.map_append]
      exact .keep (.keep (.drop (.keep .nil)))
  · intro s hs
    refine w_fgt hs (w_retO (i := 1) rfl ?_)
    rw [List.length_range]
    simp only [tab, List.map_map]
    rfl
theorem c_law_told.len : ∀ ds F, c_law_told ds F → ds.length = 2 := by
  rintro ds F ⟨_, _, rfl, _⟩
  rfl
theorem sum_nn : ∀ ws : List Nat, 0 ≤ (ws.map fun (w : Nat) => (w : Int)).sum
  | [] => by simp
  | w :: ws => by
    have := sum_nn ws
    simp only [List.map_cons, List.sum_cons]
    omega
abbrev st_law_told : Stmt := top 22
abbrev n_law_told : List Str := ["_law_script", "_law_first", "_law_cell", "_law_other", "_law_members", "_law_groups_here", "_law_weights", "_law_quota", "_law_group", "_law_k"]
abbrev p_law_told : List Str := ["_law_script", "_law_first"]
theorem sc_law_told : FnScope n_law_told p_law_told (defScope st_law_told) := ⟨rfl, rfl, rfl, by decide +kernel, rfl, by decide +kernel, by decide +kernel⟩
theorem ok_law_told {f : Addr} {fd : FuncData} (F : Fun K "_law_told" "_law_told" st_law_told f fd) (T : Txt K mg C_Council) (g_law_cell_at : OkD P w K mg base CX0 1 "_law_cell_at" p_law_cell_at (SpR K c_law_cell_at)) (g_law_draw : OkD P w K mg base CX0 1 "_law_draw" p_law_draw (SpR K c_law_draw)) : FnOk P w K mg base CX0 2 f fd p_law_told (SpU K c_law_told) := by
  refine F.ok sc_law_told (spU_len c_law_told.len) (fun cdv A outer s H vs Q E hr h => ?_)
  have hcl_Council := T.cl_Council
  have hna_Council_members := T.na_Council_members
  have hna_Council_table := T.na_Council_table
  refine ⟨_, (pss_cons (ps_set (i := 2) sc_law_told.nd rfl (by first | exact Or.inl rfl | exact Or.inr rfl) (pe_callD g_law_cell_at (hr.mono (by decide)) (by rfl) pass0 (pa_cons (pv 0) (pa_cons (pv 1) pa_nil))))
  (pss_cons (ps_set (i := 3) sc_law_told.nd rfl (by first | exact Or.inl rfl | exact Or.inr rfl) (pe_callD g_law_cell_at (hr.mono (by decide)) (by rfl) pass0 (pa_cons (pv 0) (pa_cons (pe_op op_add (pv 1) pe_int) pa_nil))))
  (pss_cons (ps_set (i := 4) sc_law_told.nd rfl (by first | exact Or.inl rfl | exact Or.inr rfl) (pe_ix ix_tup (pe_tup (pa_cons pe_int (pa_cons pe_int (pa_cons pe_int (pa_cons pe_int (pa_cons pe_int (pa_cons pe_int (pa_cons pe_int pa_nil)))))))) (pe_op op_mod (pv 2) pe_int) (fun _ _ => rfl)))
  (pss_cons (ps_set (i := 5) sc_law_told.nd rfl (by first | exact Or.inl rfl | exact Or.inr rfl) (pe_lst pa_nil))
  (pss_cons (ps_if (pt_cmpR op_eq (pe_op op_mod (pe_op op_fdiv (pv 2) pe_int) pe_int) pe_int (nomark _)) (pss_cons (ps_set (i := 6) sc_law_told.nd rfl (by first | exact Or.inl rfl | exact Or.inr rfl) (pe_lc (own := [("_law_k", 9)]) (g := gName 9) (tt := tYes) (te := (tCall (SpR K c_law_draw) [] E0 (tCons (tVar 3) (tCons (tVar 9) (tCons (tC (.int 7)) tNil))))) (by exact rfl) sc_law_told.nd (pi_range1 (by rfl) T.n_range (pa_cons (pv 4) pa_nil)) (blkOk_by (N := n_law_told) (sc := defScope st_law_told) (own := [("_law_k", 9)]) (by decide +kernel)) (fun _ _ _ _ _ => (pg_name (i := 9) sc_law_told.nd rfl (by first | exact Or.inl rfl | exact Or.inr rfl))) (fun _ _ _ _ _ => pts_nil) (fun _ _ _ _ _ => (pe_callD g_law_draw (hr.mono (by decide)) (by rfl) pass0 (pa_cons (pv 3) (pa_cons (pv 9) (pa_cons pe_int pa_nil)))))))
  (pss_cons (ps_set (i := 7) sc_law_told.nd rfl (by first | exact Or.inl rfl | exact Or.inr rfl) (pe_callD g_law_draw (hr.mono (by decide)) (by rfl) pass0 (pa_cons (pv 3) (pa_cons pe_int (pa_cons (pe_op op_add (pe_callB (cr_sum rfl) (by rfl) T.n_sum (by decide +kernel) (pa_cons (pv 6) pa_nil)) pe_int) pa_nil)))))
  (pss_one (ps_for PassesOwn.never rfl (pi_range1 (by rfl) T.n_range (pa_cons (pe_op op_shl pe_int (pv 4)) pa_nil)) (pg_name (i := 8) sc_law_told.nd rfl (by first | exact Or.inl rfl | exact Or.inr rfl))
  (pss_one (ps_if (pt_cmpR op_ge (pe_callB (cr_sum rfl) (by rfl) T.n_sum (by decide +kernel) (pa_cons (pe_lc (own := [("_law_k", 9)]) (g := gName 9) (te := (tOp (rIxL K) (tVar 6) (tVar 9))) (tt := (tTest (tOp (rEq) (tOp (rI0 fun i j => .int (Builtin.bitAnd i j)) (tOp (rI (fun _ j => 0 ≤ j) fun i j => .int (i / 2 ^ j.toNat)) (tVar 8) (tVar 9)) (tC (.int 1))) (tC (.int 1))))) (by exact rfl) sc_law_told.nd (pi_range1 (by rfl) T.n_range (pa_cons (pv 4) pa_nil)) (blkOk_by (N := n_law_told) (sc := defScope st_law_told) (own := [("_law_k", 9)]) (by decide +kernel)) (fun _ _ _ _ _ => (pg_name (i := 9) sc_law_told.nd rfl (by first | exact Or.inl rfl | exact Or.inr rfl))) (fun _ _ _ _ _ => pts_one (pt_cmpR op_eq (pe_op op_and (pe_op op_shr (pv 8) (pv 9)) pe_int) pe_int (nomark _))) (fun _ _ _ _ _ => (pe_ix ix_list (pv 6) (pv 9) (fun _ _ => rfl)))) pa_nil)) (pv 7) (nomark _)) (pss_one (ps_expr (pe_bm PySem.F.plainAttrs_list PySem.F.slot_list_append PySem.F.type_list_append mt_append (pv 5) (pa_cons (pv 8) pa_nil)))) pss_nil)))))) (pss_one (ps_for PassesOwn.never rfl (pi_range1 (by rfl) T.n_range (pa_cons (pe_callD g_law_draw (hr.mono (by decide)) (by rfl) pass0 (pa_cons (pv 3) (pa_cons pe_int (pa_cons pe_int pa_nil)))) pa_nil)) (pg_name (i := 9) sc_law_told.nd rfl (by first | exact Or.inl rfl | exact Or.inr rfl))
  (pss_cons (ps_set (i := 8) sc_law_told.nd rfl (by first | exact Or.inl rfl | exact Or.inr rfl) (pe_callD g_law_draw (hr.mono (by decide)) (by rfl) pass0 (pa_cons (pv 3) (pa_cons (pe_op op_add (pv 9) pe_int) (pa_cons (pe_op op_shl pe_int (pv 4)) pa_nil)))))
  (pss_cons (ps_if (pt_cmpR op_eq (pe_op op_mod (pe_op op_fdiv (pv 2) pe_int) pe_int) pe_int (nomark _)) (pss_one (ps_set (i := 8) sc_law_told.nd rfl (by first | exact Or.inl rfl | exact Or.inr rfl) (pe_op op_or (pe_op op_and (pv 8) (pe_callD g_law_draw (hr.mono (by decide)) (by rfl) pass0 (pa_cons (pe_op op_add (pe_op op_fdiv (pv 3) pe_int) (pe_op op_mul pe_int (pv 9))) (pa_cons pe_int (pa_cons (pe_op op_shl pe_int (pv 4)) pa_nil))))) (pe_op op_shl pe_int (pe_callD g_law_draw (hr.mono (by decide)) (by rfl) pass0 (pa_cons (pv 3) (pa_cons (pe_op op_add (pv 9) pe_int) (pa_cons (pv 4) pa_nil)))))))) pss_nil)
  (pss_one (ps_expr (pe_bm PySem.F.plainAttrs_list PySem.F.slot_list_append PySem.F.type_list_append mt_append (pv 5) (pa_cons (pv 8) pa_nil)))))))))
  (pss_one (ps_ret (pe_tup (pa_cons (pv 4) (pa_cons (pv 5) pa_nil)))))))))), goU_of ?_ h⟩
  try dsimp only [L2.cxOf, L2.Cx.nox, L2.Cx.wish, L2.Cx.blk]
  rintro ds F ⟨ns, k, rfl, hk, rfl⟩
  show W K E _ [.fz (.scr ns), .fz (nat k), .un, .un, .un, .un, .un, .un, .un, .un] _
  refine w_seq (w_asg (d := .int (ns.getD k 0)) ?_ ?_)
  · walk_at "ev"
  generalize ns.getD k 0 = c
  refine w_seq (w_asg (d := .int (ns.getD (k + 1) 0)) ?_ ?_)
  · with_reducible apply ev_call
    · walk_at "ea"
    · exact R2'.mk (c := D.scr) (d := nat) (x := ns) (y := k + 1) trivial
  generalize ns.getD (k + 1) 0 = o
  have h7 : (c % 7).toNat < 7 := by omega
  have hm := seats_ok _ h7
  refine w_seq (w_asg (d := nat (seatsM.getD (c % 7).toNat 0)) ?_ ?_)
  · with_reducible apply ev_op
    · apply ev_is
      · walk_at "ev"
      · show _ = D.tup (seatsM.map nat)
        rfl
    · walk_at "ev"
    · exact od_ixTN (by omega) h7
  generalize seatsM.getD (c % 7).toNat 0 = m at hm
  have hp := pow_le m hm.2
  refine w_seq (w_asgN (xs := []) ?_ ?_)
  · walk_at "evN"
  refine w_seqM (fun s => ∃ gs, ToldOk m gs ∧ Fgt s [.fz (.scr ns), .fz (nat k), .fz (.int c), .fz (.int o), .fz (nat m), .ow (gs.map nat), .un, .un, .un, .un]) (w_if (b := decide (c / 7 % 3 = 0)) ?_ (fun _ => ?_) fun _ => ?_) ?_
  · walk_at "et"
  · -- by weights
    refine w_seq (w_asg (d := natL ((List.range m).map fun k => drawM o k 7)) ?_ ?_)
    · apply ev_is
      · walk_at "ev"
      · simp only [natL, List.map_map]
        rfl
    have hl : ((List.range m).map fun k => drawM o k 7).length = m := by simp
    generalize (List.range m).map (fun k => drawM o k 7) = ws at hl
    have hs := sum_nn ws
    refine w_seq (w_asg (d := nat (drawM o 5 ((ws.map fun (w : Nat) => (w : Int)).sum + 2))) ?_ ?_)
    · with_reducible apply ev_call
      · walk_at "ea"
      · exact R3.mk (ca := D.int) (cb := nat) (cc := D.int) (x := o) (y := 5) (z := (ws.map fun (w : Nat) => (w : Int)).sum + 2) (show (0 : Int) < (ws.map fun (w : Nat) => (w : Int)).sum + 2 by omega)
    generalize drawM o 5 ((ws.map fun (w : Nat) => (w : Int)).sum + 2) = q
    refine w_forX (ys := List.range (2 ^ m)) (f := nat) (fun i gs => GsB (2 ^ m) i gs) (fun gs => [.fz (.scr ns), .fz (nat k), .fz (.int c), .fz (.int o), .fz (nat m), .ow (gs.map nat), .fz (natL ws), .fz (nat q), .un, .un]) ?_ [] GsB.nil (Fgt.refl _) ?_ ?_
    · walk_at "it"
    · intro i a gs ha hg
      obtain ⟨hi, rfl⟩ := List.getElem?_eq_some_iff.mp ha
      rw [List.length_range] at hi
      rw [List.getElem_range]
      refine w_if (b := decide ((q : Int) ≤ (((List.range m).filter fun k => i.testBit k).map fun k => ((ws.getD k 0 : Nat) : Int)).sum)) ?_ (fun _ => ?_) fun _ => w_next ?_
      · apply et_is
        · walk_at "et"
        · simp only [bit_is]
      · refine w_app1 rfl (g := i) ?_ ?_ ?_
        · with_reducible apply ev_var
          exact rfl
        · have := hg.1
          omega
        · exact ⟨gs ++ [i], hg.app hi, .keep (.keep (.keep (.keep (.keep (.keep (.keep (.keep (.drop (.keep .nil)))))))))⟩
      · exact ⟨gs, hg.up, .keep (.keep (.keep (.keep (.keep (.keep (.keep (.keep (.drop (.keep .nil)))))))))⟩
    · intro s gs hg hf
      rw [List.length_range] at hg
      exact ⟨gs, ⟨hm.1, hm.2, by have := hg.1; omega, hg.2⟩, hf.tr (.keep (.keep (.keep (.keep (.keep (.keep (.drop (.drop (.keep (.keep .nil))))))))))⟩
  · -- drawn
    have hd := drawM_lt o 6 (m := 5) (by omega)
    refine w_forX (ys := List.range (drawM o 6 5)) (f := nat) (fun i gs => GsB (2 ^ m) i gs) (fun gs => [.fz (.scr ns), .fz (nat k), .fz (.int c), .fz (.int o), .fz (nat m), .ow (gs.map nat), .un, .un, .un, .un]) ?_ [] GsB.nil (Fgt.refl _) ?_ ?_
    · walk_at "it"
    · intro i a gs ha hg
      obtain ⟨hi, rfl⟩ := List.getElem?_eq_some_iff.mp ha
      rw [List.length_range] at hi
      rw [List.getElem_range]
      have p2 : 0 < 2 ^ m := Nat.two_pow_pos m
      have hg2 : drawM o (i + 7) ((2 ^ m : Nat) : Int) < 2 ^ m := drawM_nat o (i + 7) p2
      refine w_seq (w_asg (d := nat (drawM o (i + 7) ((2 ^ m : Nat) : Int))) ?_ ?_)
      · with_reducible apply ev_call
        · walk_at "ea"
        · exact R3.mk (ca := D.int) (cb := nat) (cc := D.int) (x := o) (y := i + 7) (z := ((2 ^ m : Nat) : Int)) (show (0 : Int) < ((2 ^ m : Nat) : Int) by omega)
      generalize drawM o (i + 7) ((2 ^ m : Nat) : Int) = g at hg2
      refine w_seqM (fun s => ∃ g', g' < 2 ^ m ∧ Fgt s [.fz (.scr ns), .fz (nat k), .fz (.int c), .fz (.int o), .fz (nat m), .ow (gs.map nat), .un, .un, .fz (nat g'), .fz (nat i)]) (w_if (b := decide (c / 21 % 2 = 0)) ?_ (fun _ => ?_) fun _ => w_next ?_) ?_
      · walk_at "et"
      · have h1 : drawM (o / 7 + 31 * (i : Int)) 6 ((2 ^ m : Nat) : Int) < 2 ^ m := drawM_nat _ 6 p2
        have h2 := drawM_nat o (i + 4) (m := m) (by omega)
        refine w_asg (d := nat (g &&& drawM (o / 7 + 31 * (i : Int)) 6 ((2 ^ m : Nat) : Int) ||| 2 ^ drawM o (i + 4) (m : Int))) ?_ ?_
        · with_reducible apply ev_op
          · with_reducible apply ev_op
            · walk_at "ev"
            · with_reducible apply ev_call
              · walk_at "ea"
              · exact R3.mk (ca := D.int) (cb := nat) (cc := D.int) (x := o / 7 + 31 * (i : Int)) (y := 6) (z := ((2 ^ m : Nat) : Int)) (show (0 : Int) < ((2 ^ m : Nat) : Int) by omega)
            · exact od_andN
          · with_reducible apply ev_op
            · walk_at "ev"
            · with_reducible apply ev_call
              · walk_at "ea"
              · exact R3.mk (ca := D.int) (cb := nat) (cc := D.int) (x := o) (y := i + 4) (z := (m : Int)) (show (0 : Int) < (m : Int) by omega)
            · exact od_shl1 (by omega)
          · exact od_orN
        · refine ⟨_, Nat.or_lt_two_pow (Nat.lt_of_le_of_lt Nat.and_le_left hg2) (Nat.pow_lt_pow_right (by decide) h2), Fgt.refl _⟩
      · exact ⟨g, hg2, Fgt.refl _⟩
      · rintro s ⟨g', hg', hf⟩
        refine w_fgt hf (w_app1 rfl (g := g') ?_ ?_ ?_)
        · with_reducible apply ev_var
          exact rfl
        · have := hg.1
          omega
        · exact ⟨gs ++ [g'], hg.app hg', .keep (.keep (.keep (.keep (.keep (.keep (.keep (.keep (.drop (.drop .nil)))))))))⟩
    · intro s gs hg hf
      rw [List.length_range] at hg
      exact ⟨gs, ⟨hm.1, hm.2, by have := hg.1; omega, hg.2⟩, hf⟩
  · rintro s ⟨gs, hgs, hf⟩
    refine w_fgt hf (w_fix (i := 5) rfl (w_ret (r := .dat (.tup [nat m, natL gs])) ?_ ⟨_, rfl, m, gs, rfl, hgs⟩))
    with_reducible apply ev_tup
    · walk_at "ea"
    · exact (by decide : 2 ≤ sizeLine)
abbrev st_law_groups : Stmt := top 25
abbrev n_law_groups : List Str := ["_law_found", "_law_due", "_law_one"]
abbrev p_law_groups : List Str := ["_law_found", "_law_due"]
theorem sc_law_groups : FnScope n_law_groups p_law_groups (defScope st_law_groups) := ⟨rfl, rfl, rfl, by decide +kernel, rfl, by decide +kernel, by decide +kernel⟩
abbrev st_law_least : Stmt := top 26
abbrev n_law_least : List Str := ["_law_table_here", "_law_members", "_law_found", "_law_group", "_law_less", "_law_k"]
abbrev p_law_least : List Str := ["_law_table_here", "_law_members"]
theorem sc_law_least : FnScope n_law_least p_law_least (defScope st_law_least) := ⟨rfl, rfl, rfl, by decide +kernel, rfl, by decide +kernel, by decide +kernel⟩
theorem ok_law_least {f : Addr} {fd : FuncData} (F : Fun K "_law_least" "_law_least" st_law_least f fd) (T : Txt K mg C_Council) (g_law_has : OkD P w K mg base CX0 1 "_law_has" p_law_has (SpR K c_law_has)) : FnOk P w K mg base CX0 2 f fd p_law_least (SpR K c_law_least) := by
  refine F.ok sc_law_least (sp_len R2'.len) (fun cdv A outer s H vs Q E hr h => ?_)
  have hcl_Council := T.cl_Council
  have hna_Council_members := T.na_Council_members
  have hna_Council_table := T.na_Council_table
  refine ⟨_, (pss_cons (ps_set (i := 2) sc_law_least.nd rfl (by first | exact Or.inl rfl | exact Or.inr rfl) (pe_lst pa_nil))
  (pss_cons (ps_for PassesOwn.never rfl (pi_range1 (by rfl) T.n_range (pa_cons (pe_callB call_len_seq (by rfl) T.n_len (PySem.boot_len) (pa_cons (pv 0) pa_nil)) pa_nil)) (pg_name (i := 3) sc_law_least.nd rfl (by first | exact Or.inl rfl | exact Or.inr rfl))
  (pss_cons (ps_setLc (i := 4) (own := [("_law_k", 5)]) (g := gName 5) (te := (tOp (rIxL K) (tVar 0) (tOp (rI0 fun i j => .int (Builtin.bitXor i j)) (tVar 3) (tOp (rI CPow fun i j => .int (i * 2 ^ j.toNat)) (tC (.int 1)) (tVar 5))))) (tt := (tB (tCall (SpR K c_law_has) [] E0 (tCons (tVar 3) (tCons (tVar 5) tNil))))) (by exact rfl) sc_law_least.nd rfl rfl (sw_true rfl rfl rfl (by decide +kernel)) (pi_range1 (by rfl) T.n_range (pa_cons (pv 1) pa_nil)) (blkOk_by (N := n_law_least) (sc := defScope st_law_least) (own := [("_law_k", 5)]) (by decide +kernel)) (fun _ _ _ _ _ => (pg_name (i := 5) sc_law_least.nd rfl (by first | exact Or.inl rfl | exact Or.inr rfl))) (fun _ _ _ _ _ => pts_one (pt_val (pe_callD g_law_has (hr.mono (by decide)) (by rfl) pass0 (pa_cons (pv 3) (pa_cons (pv 5) pa_nil))))) (fun _ _ _ _ _ => (pe_ix ix_list (pv 0) (pe_op op_xor (pv 3) (pe_op op_shl pe_int (pv 5))) (fun _ _ => rfl))))
  (pss_one (ps_if (PW.pt (pw_and (pt_val (pe_ix ix_list (pv 0) (pv 3) (fun _ _ => rfl))) (pw_and1 (pt_not (pt_val (pe_callB (cr_any rfl) (by rfl) T.n_any (by decide +kernel) (pa_cons (pv 4) pa_nil))))))) (pss_one (ps_expr (pe_bm PySem.F.plainAttrs_list PySem.F.slot_list_append PySem.F.type_list_append mt_append (pv 2) (pa_cons (pv 3) pa_nil)))) pss_nil))))
  (pss_one (ps_ret (pv 2))))), go_of ?_ h⟩
  try dsimp only [L2.cxOf, L2.Cx.nox, L2.Cx.wish, L2.Cx.blk]
  rintro ds r ⟨t, n, rfl, ⟨hn, ht⟩, rfl⟩
  have hp := pow_le n hn
  show W K E _ [.fz (blL t), .fz (nat n), .un, .un, .un, .un] _
  refine w_seq (w_asgN (xs := []) ?_ ?_)
  · walk_at "evN"
  refine w_seq (w_forS (ys := List.range t.length) (f := nat) (fun i => [.fz (blL t), .fz (nat n), .ow (((List.range i).filter fun g => t.getD g false && !((wo g).any fun l => t.getD l false)).map nat), .un, .un, .un]) ?_ (Fgt.refl _) ?_ ?_)
  · walk_at "it"
  · intro i a ha
    obtain ⟨hi, rfl⟩ := List.getElem?_eq_some_iff.mp ha
    rw [List.length_range] at hi
    rw [List.getElem_range]
    have hx : ∀ k, k ∈ (List.range n).filter (fun k => i.testBit k) → i ^^^ 2 ^ k < t.length := fun k hk => Nat.lt_trans (xor_bit_lt (List.mem_filter.mp hk).2) hi
    refine w_seq (w_asg (d := blL (((List.range n).filter fun k => i.testBit k).map fun k => t.getD (i ^^^ 2 ^ k) false)) ?_ ?_)
    · apply EvR.fz
      apply ev_isN
      · with_reducible apply ev_lcF (ys := List.range n) (c := nat) (f := fun k => i.testBit k) (v := fun k => .bl (t.getD (i ^^^ 2 ^ k) false))
        · walk_at "it"
        · walk_at "sz"
        · decide
        · intro k hk
          replace hk := List.mem_range.mp hk
          walk_at "et"
        · intro k hk hf
          have hk2 := hx k (List.mem_filter.mpr ⟨hk, hf⟩)
          replace hk := List.mem_range.mp hk
          walk_at "ev"
      · rw [List.map_map]
        rfl
    refine w_if (b := t.getD i false && !((wo i).any fun l => t.getD l false)) ?_ ?_ ?_
    · apply et_is
      · walk_at "et"
      · rw [List.any_map, ← less_any hn (by omega) fun l => t.getD l false]
        rfl
    · intro hb
      refine w_app rfl (d := nat i) ?_ ?_ ?_
      · with_reducible apply ev_var
        exact rfl
      · rw [List.length_map]
        have := filt_len (fun g => t.getD g false && !((wo g).any fun l => t.getD l false)) i
        omega
      · show Fgt _ _
        rw [filt_yes hb, List.map_append]
        exact .keep (.keep (.keep (.drop (.drop (.keep .nil)))))
    · intro hb
      refine w_next ?_
      show Fgt _ _
      rw [filt_no hb]
      exact .keep (.keep (.keep (.drop (.drop (.keep .nil)))))
  · intro s hs
    refine w_fgt hs (w_retO (i := 2) rfl ?_)
    rw [List.length_range]
    rfl
abbrev st_law_greatest : Stmt := top 27
abbrev n_law_greatest : List Str := ["_law_table_here", "_law_members", "_law_found", "_law_group", "_law_more", "_law_k"]
abbrev p_law_greatest : List Str := ["_law_table_here", "_law_members"]
theorem sc_law_greatest : FnScope n_law_greatest p_law_greatest (defScope st_law_greatest) := ⟨rfl, rfl, rfl, by decide +kernel, rfl, by decide +kernel, by decide +kernel⟩
abbrev st_law_is : Stmt := top 28
abbrev n_law_is : List Str := ["_law_council", "_law_members", "_law_table_here", "_law_group", "_law_found"]
abbrev p_law_is : List Str := ["_law_council", "_law_members", "_law_table_here"]
theorem sc_law_is : FnScope n_law_is p_law_is (defScope st_law_is) := ⟨rfl, rfl, rfl, by decide +kernel, rfl, by decide +kernel, by decide +kernel⟩
theorem ok_law_is {f : Addr} {fd : FuncData} (F : Fun K "_law_is" "_law_is" st_law_is f fd) (T : Txt K mg C_Council) (g_Council_carries : OkM P w K mg base CX0 2 C_Council "carries" p_Council_carries (SpR K (c_Council_carries C_Council))) : FnOk P w K mg base CX0 3 f fd p_law_is (SpR K (c_law_is C_Council)) := by
  refine F.ok sc_law_is (sp_len c_law_is.len) (fun cdv A outer s H vs Q E hr h => ?_)
  have hcl_Council := T.cl_Council
  have hna_Council_members := T.na_Council_members
  have hna_Council_table := T.na_Council_table
  refine ⟨_, (pss_cons (ps_if (PW.pt (pw_or (pt_cmpR op_ne (pe_fld (pv 0) rfl) (pv 1) (nomark _)) (pw_or1 (pt_val (pe_callB call_isi (by rfl) T.n_isinstance (by decide +kernel) (pa_cons (pe_fld (pv 0) rfl) (pa_cons (pe_bltn (v := .ty "bool") (by rfl) T.n_bool (by decide +kernel) rfl) pa_nil))))))) (pss_one (ps_ret pe_bl)) pss_nil)
  (pss_cons (ps_for PassesOwn.never rfl (pi_range1 (by rfl) T.n_range (pa_cons (pe_callB call_len_seq (by rfl) T.n_len (PySem.boot_len) (pa_cons (pv 2) pa_nil)) pa_nil)) (pg_name (i := 3) sc_law_is.nd rfl (by first | exact Or.inl rfl | exact Or.inr rfl))
  (pss_cons (ps_set (i := 4) sc_law_is.nd rfl (by first | exact Or.inl rfl | exact Or.inr rfl) (pe_methD (pv 0) T.cl_Council g_Council_carries (hr.mono (by decide)) pass0 (pa_cons (pv 3) pa_nil)))
  (pss_one (ps_if (PW.pt (pw_or (pt_not (pt_val (pe_callB call_isi (by rfl) T.n_isinstance (by decide +kernel) (pa_cons (pv 4) (pa_cons (pe_bltn (v := .ty "bool") (by rfl) T.n_bool (by decide +kernel) rfl) pa_nil))))) (pw_or1 (pt_cmpR op_ne (pv 4) (pe_ix ix_list (pv 2) (pv 3) (fun _ _ => rfl)) (nomark _))))) (pss_one (ps_ret pe_bl)) pss_nil))))
  (pss_one (ps_ret pe_bl)))), go_of ?_ h⟩
  try dsimp only [L2.cxOf, L2.Cx.nox, L2.Cx.wish, L2.Cx.blk]
  rintro ds r ⟨n, t, rfl, ht, rfl⟩
  show W K E _ [.fz (cou C_Council n t), .fz (nat n), .fz (blL t), .un, .un] _
  refine w_seq (w_ifF ?_ (w_next ?_))
  · apply et_is
    · walk_at "et"
    · simp
  refine w_seq (w_forS (ys := List.range t.length) (f := nat) (fun i => [.fz (cou C_Council n t), .fz (nat n), .fz (blL t), .un, .un]) ?_ (Fgt.refl _) ?_ ?_)
  · walk_at "it"
  · intro i a ha
    obtain ⟨hi, rfl⟩ := List.getElem?_eq_some_iff.mp ha
    rw [List.length_range] at hi
    rw [List.getElem_range]
    refine w_seq (w_asg (d := .bl (t.getD i false)) ?_ ?_)
    · walk_at "ev"
    refine w_ifF ?_ (w_next (.keep (.keep (.keep (.drop (.drop .nil))))))
    apply et_is
    · walk_at "et"
    · simp
  · intro s hs
    exact w_fgt hs (w_ret ev_bl rfl)
def c_turned (C : Addr) : List D → Rs → Prop := RC1 C (fun n t => (1 ≤ n ∧ n ≤ 5) ∧ t.length = 2 ^ n) fun n t => .frs (cou C n (tab n ((List.range (2 ^ n)).filter fun g => !t.getD ((2 ^ n - 1) ^^^ g) false)))
abbrev st_turned : Stmt := top 12
abbrev n_turned : List Str := ["council", "whole", "group"]
abbrev p_turned : List Str := ["council"]
theorem sc_turned : FnScope n_turned p_turned (defScope st_turned) := ⟨rfl, rfl, rfl, by decide +kernel, rfl, by decide +kernel, by decide +kernel⟩
theorem ok_turned {f : Addr} {fd : FuncData} (F : Fun K "turned" "turned" st_turned f fd) (T : Txt K mg C_Council) (g_Council_init : OkI P w K mg base CX0 2 "Council" C_Council p_Council_init (SpI K C_Council c_Council_init)) : FnOk P w K mg base CX0 4 f fd p_turned (SpR K (c_turned C_Council)) := by
  refine F.ok sc_turned (sp_len RC1.len) (fun cdv A outer s H vs Q E hr h => ?_)
  have hcl_Council := T.cl_Council
  have hna_Council_members := T.na_Council_members
  have hna_Council_table := T.na_Council_table
  refine ⟨_, (pss_cons (ps_set (i := 1) sc_turned.nd rfl (by first | exact Or.inl rfl | exact Or.inr rfl) (pe_op op_sub (pe_callB call_len_seq (by rfl) T.n_len (PySem.boot_len) (pa_cons (pe_fld (pv 0) rfl) pa_nil)) pe_int))
  (pss_one (ps_ret (pe_makeD g_Council_init (hr.mono (by decide)) (by rfl) pass0 (pa_cons (pe_fld (pv 0) rfl) (pa_cons (pe_lc (own := [("group", 2)]) (g := gName 2) (te := (tVar 2)) (tt := (tNot (tB (tOp (rIxL K) (tFld K (tVar 0) "table") (tOp (rI0 fun i j => .int (Builtin.bitXor i j)) (tVar 1) (tVar 2)))))) (by exact rfl) sc_turned.nd (pi_range1 (by rfl) T.n_range (pa_cons (pe_op op_add (pv 1) pe_int) pa_nil)) (blkOk_by (N := n_turned) (sc := defScope st_turned) (own := [("group", 2)]) (by decide +kernel)) (fun _ _ _ _ _ => (pg_name (i := 2) sc_turned.nd rfl (by first | exact Or.inl rfl | exact Or.inr rfl))) (fun _ _ _ _ _ => pts_one (pt_not (pt_val (pe_ix ix_list (pe_fld (pv 0) rfl) (pe_op op_xor (pv 1) (pv 2)) (fun _ _ => rfl))))) (fun _ _ _ _ _ => (pv 2))) pa_nil)))))), go_of ?_ h⟩
  try dsimp only [L2.cxOf, L2.Cx.nox, L2.Cx.wish, L2.Cx.blk]
  rintro ds r ⟨n, t, rfl, ⟨⟨h1, hn⟩, ht⟩, rfl⟩
  have hp := pow_le n hn
  have hpos : 0 < 2 ^ n := Nat.two_pow_pos n
  show W K E _ [.fz (cou C_Council n t), .un, .un] _
  refine w_seq (w_asg (d := nat (2 ^ n - 1)) ?_ ?_)
  · apply ev_is
    · walk_at "ev"
    · rw [ht, show ((2 ^ n : Nat) : Int) - 1 = ((2 ^ n - 1 : Nat) : Int) by omega]
  have hx : ∀ a, a < 2 ^ n → ((2 ^ n - 1) ^^^ a) < t.length := fun a ha => by
    rw [ht]
    exact xor_lt (by omega) ha
  refine w_ret ?_ rfl
  apply ev_isF
  · with_reducible apply ev_make
    · with_reducible apply ea_cons
      · walk_at "ev"
      · with_reducible apply ea_cons
        · with_reducible apply EvR.fz
          with_reducible apply ev_lcF (ys := List.range (2 ^ n)) (c := nat) (f := fun g => !t.getD ((2 ^ n - 1) ^^^ g) false) (v := nat)
          · refine it_rngN (m := ((2 ^ n - 1 : Nat) : Int) + 1) ?_ (by omega) (by omega)
            walk_at "ea"
          · walk_at "sz"
          · decide
          · intro g hg
            replace hg := List.mem_range.mp hg
            have := hx g hg
            walk_at "et"
          · intro g hg hf
            walk_at "ev"
        · exact ea_nil
    · refine c_Council_init.mk h1 hn ?_ ?_
      · have := filt_len (fun g => !t.getD ((2 ^ n - 1) ^^^ g) false) (2 ^ n)
        omega
      · intro g hg
        exact List.mem_range.mp (List.mem_filter.mp hg).1
  · rfl
def c_law_built (C : Addr) : List D → Rs → Prop := fun ds r => ∃ m gs c, ds = [.tup [nat m, natL gs], .int c] ∧ ToldOk m gs ∧ r = .frs (cou C m (tab m gs))
theorem c_law_built.len {C : Addr} : ∀ ds r, c_law_built C ds r → ds.length = 2 := by
  rintro ds r ⟨_, _, _, rfl, _⟩
  rfl
abbrev st_law_built : Stmt := top 29
abbrev n_law_built : List Str := ["_law_told_here", "_law_cell", "_law_table_here", "_law_groups_here", "_law_group"]
abbrev p_law_built : List Str := ["_law_told_here", "_law_cell"]
theorem sc_law_built : FnScope n_law_built p_law_built (defScope st_law_built) := ⟨rfl, rfl, rfl, by decide +kernel, rfl, by decide +kernel, by decide +kernel⟩
theorem ok_law_built {f : Addr} {fd : FuncData} (F : Fun K "_law_built" "_law_built" st_law_built f fd) (T : Txt K mg C_Council) (g_Council_init : OkI P w K mg base CX0 2 "Council" C_Council p_Council_init (SpI K C_Council c_Council_init)) (g_law_table : OkD P w K mg base CX0 1 "_law_table" p_law_table (SpR K c_law_table)) (g_turned : OkD P w K mg base CX0 4 "turned" p_turned (SpR K (c_turned C_Council))) : FnOk P w K mg base CX0 5 f fd p_law_built (SpR K (c_law_built C_Council)) := by
  refine F.ok sc_law_built (sp_len c_law_built.len) (fun cdv A outer s H vs Q E hr h => ?_)
  have hcl_Council := T.cl_Council
  have hna_Council_members := T.na_Council_members
  have hna_Council_table := T.na_Council_table
  refine ⟨_, (pss_cons (ps_if (pt_cmpR op_gt (pe_op op_mod (pv 1) pe_int) pe_int (nomark _)) (pss_one (ps_ret (pe_makeD g_Council_init (hr.mono (by decide)) (by rfl) pass0 (pa_cons (pe_ix ix_tup (pv 0) pe_int (fun _ _ => rfl)) (pa_cons (pe_ix ix_tup (pv 0) pe_int (fun _ _ => rfl)) pa_nil))))) pss_nil)
  (pss_cons (ps_set (i := 2) sc_law_built.nd rfl (by first | exact Or.inl rfl | exact Or.inr rfl) (pe_callD g_law_table (hr.mono (by decide)) (by rfl) pass0 (pa_cons (pv 0) pa_nil)))
  (pss_cons (ps_setLc (i := 3) (own := [("_law_group", 4)]) (g := gName 4) (te := (tVar 4)) (tt := (tNot (tB (tOp (rIxL K) (tVar 2) (tOp (rI0 fun i j => .int (i - j)) (tOp (rI0 fun i j => .int (i - j)) (tCB (rLen K) (tCons (tVar 2) tNil)) (tC (.int 1))) (tVar 4)))))) (by exact rfl) sc_law_built.nd rfl rfl (sw_true rfl rfl rfl (by decide +kernel)) (pi_range1 (by rfl) T.n_range (pa_cons (pe_callB call_len_seq (by rfl) T.n_len (PySem.boot_len) (pa_cons (pv 2) pa_nil)) pa_nil)) (blkOk_by (N := n_law_built) (sc := defScope st_law_built) (own := [("_law_group", 4)]) (by decide +kernel)) (fun _ _ _ _ _ => (pg_name (i := 4) sc_law_built.nd rfl (by first | exact Or.inl rfl | exact Or.inr rfl))) (fun _ _ _ _ _ => pts_one (pt_not (pt_val (pe_ix ix_list (pv 2) (pe_op op_sub (pe_op op_sub (pe_callB call_len_seq (by rfl) T.n_len (PySem.boot_len) (pa_cons (pv 2) pa_nil)) pe_int) (pv 4)) (fun _ _ => rfl))))) (fun _ _ _ _ _ => (pv 4)))
  (pss_one (ps_ret (pe_callD g_turned (hr.mono (by decide)) (by rfl) pass0 (pa_cons (pe_makeD g_Council_init (hr.mono (by decide)) (by rfl) pass0 (pa_cons (pe_ix ix_tup (pv 0) pe_int (fun _ _ => rfl)) (pa_cons (pv 3) pa_nil))) pa_nil))))))), go_of ?_ h⟩
  try dsimp only [L2.cxOf, L2.Cx.nox, L2.Cx.wish, L2.Cx.blk]
  rintro ds r ⟨m, gs, c, rfl, ⟨h1, h5, hl, hg⟩, rfl⟩
  have hp := pow_le m h5
  have ht := tab_len m gs
  show W K E _ [.fz (.tup [nat m, natL gs]), .fz (.int c), .un, .un, .un] _
  refine w_seq (w_if (b := decide (c % 3 > 0)) ?_ (fun hb => ?_) fun hb => w_next ?_)
  · walk_at "et"
  · refine w_ret ?_ rfl
    walk_at "evO"
  · have hpos : 0 < 2 ^ m := Nat.two_pow_pos m
    refine w_seq (w_asg (d := blL (tab m gs)) (by walk_at "ev") ?_)
    refine w_seq (w_asg (d := natL ((List.range (2 ^ m)).filter fun g => !(tab m gs).getD ((2 ^ m - 1) ^^^ g) false)) ?_ ?_)
    · apply EvR.fz
      with_reducible apply ev_lcF (ys := List.range (2 ^ m)) (c := nat) (f := fun g => !(tab m gs).getD ((2 ^ m - 1) ^^^ g) false) (v := nat)
      · rw [← ht]
        walk_at "it"
      · walk_at "sz"
      · decide
      · intro g hg
        replace hg := List.mem_range.mp hg
        have e1 := comp_is m (by omega) g hg
        have e2 := comp_lt hg
        apply et_not
        apply et_B
        with_reducible apply ev_op (y := nat ((2 ^ m - 1) ^^^ g))
        · walk_at "ev"
        · apply ev_is
          · walk_at "ev"
          · rw [← e1, ht]
            show D.int _ = D.int _
            congr 1
            omega
        · exact od_ixB (by rw [ht]; exact e2)
      · intro g hg hf
        walk_at "ev"
    refine w_ret ?_ rfl
    have hfl := filt_len (fun g => !(tab m gs).getD ((2 ^ m - 1) ^^^ g) false) (2 ^ m)
    have hfm : ∀ g ∈ (List.range (2 ^ m)).filter (fun g => !(tab m gs).getD ((2 ^ m - 1) ^^^ g) false), g < 2 ^ m := fun g hg => List.mem_range.mp (List.mem_filter.mp hg).1
    have e1 := dual_tab h5 (mono_tab (n := m) (gs := gs))
    have e2 := dual_tab h5 (mono_dual h5 (mono_tab (n := m) (gs := gs)))
    rw [dual_dual ht, ← e1] at e2
    apply ev_isF
    · with_reducible apply ev_callG
      · with_reducible apply ea_cons
        · with_reducible apply EvR.ofF
          with_reducible apply ev_make
          · walk_at "ea"
          · exact c_Council_init.mk h1 h5 (by omega) hfm
        · exact ea_nil
      · exact RC1.mk ⟨⟨h1, h5⟩, tab_len m _⟩
      · walk_at "ne"
    · rw [e2]
theorem sum_ones (l : List Nat) : (l.map fun _ => 1).sum = l.length := by
  induction l with
  | nil => rfl
  | cons a l ih => rw [List.map_cons, List.sum_cons, ih, List.length_cons, Nat.add_comm]
def c_group_text : List D → Rs → Prop := R1 nat (fun g => g < 32) fun g => .dat (.str (gtext g))
abbrev st_group_text : Stmt := top 16
abbrev n_group_text : List Str := ["group", "k"]
abbrev p_group_text : List Str := ["group"]
theorem sc_group_text : FnScope n_group_text p_group_text (defScope st_group_text) := ⟨rfl, rfl, rfl, by decide +kernel, rfl, by decide +kernel, by decide +kernel⟩
theorem ok_group_text {f : Addr} {fd : FuncData} (F : Fun K "group_text" "group_text" st_group_text f fd) (T : Txt K mg C_Council) : FnOk P w K mg base CX0 1 f fd p_group_text (SpR K c_group_text) := by
  refine F.ok sc_group_text (sp_len R1.len) (fun cdv A outer s H vs Q E hr h => ?_)
  have hcl_Council := T.cl_Council
  have hna_Council_members := T.na_Council_members
  have hna_Council_table := T.na_Council_table
  refine ⟨_, (pss_cons (ps_if (pt_cmpR op_eq (pv 0) pe_int (nomark _)) (pss_one (ps_ret pe_str)) pss_nil)
  (pss_one (ps_ret (pe_join pe_str (pe_lc (own := [("k", 1)]) (g := gName 1) (te := (tOp (rIxS) (tC (.str "01234")) (tVar 1))) (tt := (tTest (tOp (rEq) (tOp (rI0 fun i j => .int (Builtin.bitAnd i j)) (tOp (rI (fun _ j => 0 ≤ j) fun i j => .int (i / 2 ^ j.toNat)) (tVar 0) (tVar 1)) (tC (.int 1))) (tC (.int 1))))) (by exact rfl) sc_group_text.nd (pi_range1 (by rfl) T.n_range (pa_cons (pe_callB call_len_str (by rfl) T.n_len (PySem.boot_len) (pa_cons (pe_glob (v := .str "01234") rfl T.c_FIGURES.choose_spec (by exact ⟨_, rfl⟩)) pa_nil)) pa_nil)) (blkOk_by (N := n_group_text) (sc := defScope st_group_text) (own := [("k", 1)]) (by decide +kernel)) (fun _ _ _ _ _ => (pg_name (i := 1) sc_group_text.nd rfl (by first | exact Or.inl rfl | exact Or.inr rfl))) (fun _ _ _ _ _ => pts_one (pt_cmpR op_eq (pe_op op_and (pe_op op_shr (pv 0) (pv 1)) pe_int) pe_int (nomark _))) (fun _ _ _ _ _ => (pe_ix ix_str (pe_glob (v := .str "01234") rfl T.c_FIGURES.choose_spec (by exact ⟨_, rfl⟩)) (pv 1) (fun _ _ => rfl)))))))), go_of ?_ h⟩
  try dsimp only [L2.cxOf, L2.Cx.nox, L2.Cx.wish, L2.Cx.blk]
  rintro ds r ⟨g, rfl, hg, rfl⟩
  show W K E _ [.fz (nat g), .un] _
  refine w_seq (w_if (b := decide (g = 0)) ?_ (fun hb => ?_) fun hb => w_next ?_)
  · apply et_is
    · walk_at "et"
    · rw [decide_eq_decide]
      omega
  · have hb := of_decide_eq_true hb
    subst hb
    exact w_ret (r := .dat (.str (gtext 0))) ev_str rfl
  · have hb : g ≠ 0 := by simpa using hb
    refine w_ret (r := .dat (.str (gtext g))) ?_ rfl
    have eg : gtext g = Txt.join "" ((figs g).map fun k => sg (48 + k)) := if_neg hb
    rw [eg]
    have hl : (figs g).length ≤ 5 := filt_len _ 5
    apply ev_join
    · walk_at "ev"
    · apply EvR.fz
      apply ev_isN
      · with_reducible apply ev_lcF (ys := List.range 5) (c := nat) (f := fun k => g.testBit k) (v := fun k => .str (sg (48 + k)))
        · refine it_rngN (m := ((("01234" : Str).length : Nat) : Int)) ?_ (by decide +kernel) (by decide)
          refine ea_cons ?_ ea_nil
          exact ev_cb (ea_cons ev_str ea_nil) (cb_lenS (by decide +kernel))
        · walk_at "sz"
        · decide
        · intro k hk
          apply et_is
          · walk_at "et"
          · rw [bit_is]
        · intro k hk hf
          have hk := List.mem_range.mp hk
          with_reducible apply ev_op
          · walk_at "ev"
          · walk_at "ev"
          · exact od_ixS (by decide +kernel) (fig_at k hk)
      · rw [List.map_map]
        rfl
    · have e1 : (((figs g).map fun k => sg (48 + k)).map (·.length)).sum = (figs g).length := by
        rw [List.map_map]
        exact sum_ones (figs g)
      rw [e1, List.length_map]
      have : (("" : Str)).length = 0 := by decide +kernel
      rw [this]
      omega
def c_written (C : Addr) : List D → Rs → Prop := RC1 C (fun n t => (1 ≤ n ∧ n ≤ 5) ∧ t.length = 2 ^ n) fun n t => .dat (.str (wtext n t))
theorem lens_sum (l : List Str) (m : Nat) (h : ∀ s ∈ l, s.length ≤ m) : (l.map (·.length)).sum ≤ l.length * m := by
  induction l with
  | nil => simp
  | cons x l ih =>
    have h1 := h x List.mem_cons_self
    have h2 := ih fun s hs => h s (List.mem_cons_of_mem _ hs)
    rw [List.map_cons, List.sum_cons, List.length_cons, Nat.add_mul]
    omega
theorem join_room {n : Nat} {t : List Bool} (hn : n < 6) (ht : (leastM t).length ≤ 32) (hl : ∀ g ∈ leastM t, g < 32) : ((nword n :: (leastM t).map gtext).map (·.length)).sum + (nword n :: (leastM t).map gtext).length * ((" " : Str)).length ≤ 16777216 := by
  have h := lens_sum (nword n :: (leastM t).map gtext) 5 fun s hs => by
    rcases List.mem_cons.mp hs with rfl | hs
    · rw [nword_len n hn]
      omega
    · obtain ⟨g, hg, rfl⟩ := List.mem_map.mp hs
      exact gtext_len g (hl g hg)
  have : ((" " : Str)).length = 1 := by decide +kernel
  rw [this]
  have : (nword n :: (leastM t).map gtext).length ≤ 33 := by
    rw [List.length_cons, List.length_map]
    omega
  omega
theorem least_lt {n : Nat} {t : List Bool} (hn : n ≤ 5) (ht : t.length = 2 ^ n) : ∀ g ∈ leastM t, g < 32 := fun g hg => by
  have h := List.mem_range.mp (List.mem_filter.mp hg).1
  have := pow_le n hn
  omega
theorem log_small : ∀ n, n < 6 → (((n : Nat) : Int)).natAbs.log2 < 1920 := by decide +kernel
abbrev st_written : Stmt := top 15
abbrev n_written : List Str := ["council", "words", "group"]
abbrev p_written : List Str := ["council"]
theorem sc_written : FnScope n_written p_written (defScope st_written) := ⟨rfl, rfl, rfl, by decide +kernel, rfl, by decide +kernel, by decide +kernel⟩
theorem ok_written {f : Addr} {fd : FuncData} (F : Fun K "written" "written" st_written f fd) (T : Txt K mg C_Council) (g_Council_least : OkM P w K mg base CX0 2 C_Council "least" p_Council_least (SpR K (c_Council_least C_Council))) (g_group_text : OkD P w K mg base CX0 1 "group_text" p_group_text (SpR K c_group_text)) : FnOk P w K mg base CX0 3 f fd p_written (SpR K (c_written C_Council)) := by
  refine F.ok sc_written (sp_len RC1.len) (fun cdv A outer s H vs Q E hr h => ?_)
  have hcl_Council := T.cl_Council
  have hna_Council_members := T.na_Council_members
  have hna_Council_table := T.na_Council_table
  refine ⟨_, (pss_cons (ps_set (i := 1) sc_written.nd rfl (by first | exact Or.inl rfl | exact Or.inr rfl) (pe_lst (pa_cons (pe_op op_add_str (pe_callTy call_str_int (by rfl) T.n_str (by decide +kernel) (pa_cons (pe_fld (pv 0) rfl) pa_nil)) pe_str) pa_nil)))
  (pss_cons (ps_for PassesOwn.never rfl (pi_list (pe_methD0 (pv 0) T.cl_Council g_Council_least (hr.mono (by decide)) pass0)) (pg_name (i := 2) sc_written.nd rfl (by first | exact Or.inl rfl | exact Or.inr rfl))
  (pss_one (ps_expr (pe_bm PySem.F.plainAttrs_list PySem.F.slot_list_append PySem.F.type_list_append mt_append (pv 1) (pa_cons (pe_callD g_group_text (hr.mono (by decide)) (by rfl) pass0 (pa_cons (pv 2) pa_nil)) pa_nil)))))
  (pss_one (ps_ret (pe_join pe_str (pv 1)))))), go_of ?_ h⟩
  try dsimp only [L2.cxOf, L2.Cx.nox, L2.Cx.wish, L2.Cx.blk]
  rintro ds r ⟨n, t, rfl, ⟨⟨h1, hn⟩, ht⟩, rfl⟩
  have hp := pow_le n hn
  have hL := leastM_len (t := t) (by omega)
  have hlt := least_lt hn ht
  show W K E _ [.fz (cou C_Council n t), .un, .un] _
  refine w_seq (w_asgN (xs := [.str (nword n)]) ?_ ?_)
  · with_reducible apply ev_lst
    · with_reducible apply ea_cons
      · with_reducible apply ev_op
        · with_reducible apply ev_cb
          · walk_at "ea"
          · exact cb_strI (log_small n (by omega))
        · walk_at "ev"
        · refine od_addS ?_
          have := nword_len n (by omega)
          have e : (Str.ofString (toString ((n : Nat) : Int))).length + ((":" : Str)).length = (nword n).length := by
            unfold nword
            first | rw [Str.length_append] | simp [Str.length]
          rw [e, this, sizeLine_eq]
          omega
      · exact ea_nil
    · walk_at "sz"
  refine w_seq (w_forS (ys := leastM t) (f := nat) (fun i => [.fz (cou C_Council n t), .ow ((nword n :: ((leastM t).take i).map gtext).map .str), .un]) ?_ (Fgt.refl _) ?_ ?_)
  · walk_at "it"
  · intro i g hg
    have hg32 := hlt g (List.mem_of_getElem? hg)
    refine w_app rfl (d := .str (gtext g)) ?_ ?_ ?_
    · walk_at "ev"
    · simp
      omega
    · show Fgt _ _
      rw [List.take_add_one, hg]
      simp only [Option.toList, List.map_append, List.map_cons, List.map_nil, List.cons_append]
      exact .keep (.keep (.drop .nil))
  · intro s hs
    rw [List.take_length] at hs
    refine w_fgt hs (w_fix (i := 1) rfl (w_ret (r := .dat (.str (wtext n t))) ?_ rfl))
    apply ev_join (ys := nword n :: (leastM t).map gtext)
    · walk_at "ev"
    · exact ev_var rfl
    · exact join_room (by omega) hL hlt
def c_group_in : List D → Rs → Prop := fun ds r => ∃ g, ds = [.str (gtext g)] ∧ g < 32 ∧ r = .dat (nat g)
theorem c_group_in.len : ∀ ds r, c_group_in ds r → ds.length = 1 := by
  rintro ds r ⟨g, rfl, _⟩
  rfl
theorem pow_sum (l : List Nat) : ((l.map fun k => ((2 ^ k : Nat) : Int)).sum) = (((l.map fun k => (2 : Nat) ^ k).sum : Nat) : Int) := by
  induction l with
  | nil => rfl
  | cons a l ih =>
    simp only [List.map_cons, List.sum_cons]
    rw [ih]
    omega
abbrev st_group_in : Stmt := top 17
abbrev n_group_in : List Str := ["word", "sign"]
abbrev p_group_in : List Str := ["word"]
theorem sc_group_in : FnScope n_group_in p_group_in (defScope st_group_in) := ⟨rfl, rfl, rfl, by decide +kernel, rfl, by decide +kernel, by decide +kernel⟩
theorem ok_group_in {f : Addr} {fd : FuncData} (F : Fun K "group_in" "group_in" st_group_in f fd) (T : Txt K mg C_Council) : FnOk P w K mg base CX0 1 f fd p_group_in (SpR K c_group_in) := by
  refine F.ok sc_group_in (sp_len c_group_in.len) (fun cdv A outer s H vs Q E hr h => ?_)
  have hcl_Council := T.cl_Council
  have hna_Council_members := T.na_Council_members
  have hna_Council_table := T.na_Council_table
  refine ⟨_, (pss_cons (ps_if (pt_cmpR op_eq (pv 0) pe_str (nomark _)) (pss_one (ps_ret pe_int)) pss_nil)
  (pss_cons (ps_if (PW.pt (pw_or (pt_cmpR op_eq (pv 0) pe_str (nomark _)) (pw_or (pt_cmpR op_ne (pe_bm PySem.F.plainAttrs_str PySem.F.slot_str_strip PySem.F.type_str_strip mt_stripChars (pv 0) (pa_cons (pe_glob (v := .str "01234") rfl T.c_FIGURES.choose_spec (by exact ⟨_, rfl⟩)) pa_nil)) pe_str (nomark _)) (pw_or1 (pt_cmpR (op_neD (hu64 hr)) (pe_sortedSet rfl (by rfl) T.n_sorted (by rfl) T.n_set (pv 0)) (pe_callTy (call_list_txt rfl) (by rfl) T.n_list (by decide +kernel) (pa_cons (pv 0) pa_nil)) (nomark _)))))) (pss_one ps_never) pss_nil)
  (pss_one (ps_ret (pe_callB (cr_sum rfl) (by rfl) T.n_sum (by decide +kernel) (pa_cons (pe_lc (own := [("sign", 1)]) (g := gName 1) (tt := tYes) (te := (tOp (rI CPow fun i j => .int (i * 2 ^ j.toNat)) (tC (.int 1)) (tCB (rIntS) (tCons (tVar 1) tNil)))) (by exact rfl) sc_group_in.nd (pi_str (pv 0)) (blkOk_by (N := n_group_in) (sc := defScope st_group_in) (own := [("sign", 1)]) (by decide +kernel)) (fun _ _ _ _ _ => (pg_name (i := 1) sc_group_in.nd rfl (by first | exact Or.inl rfl | exact Or.inr rfl))) (fun _ _ _ _ _ => pts_nil) (fun _ _ _ _ _ => (pe_op op_shl pe_int (pe_callTy call_int_str (by rfl) T.n_int (by decide +kernel) (pa_cons (pv 1) pa_nil))))) pa_nil)))))), go_of ?_ h⟩
  try dsimp only [L2.cxOf, L2.Cx.nox, L2.Cx.wish, L2.Cx.blk]
  rintro ds r ⟨g, rfl, hg, rfl⟩
  show W K E _ [.fz (.str (gtext g)), .un] _
  have hlen := gtext_len g hg
  refine w_seq (w_if (b := decide (g = 0)) ?_ (fun hb => ?_) fun hb => w_next ?_)
  · apply et_is
    · walk_at "et"
    · exact gtext_dash g hg
  · have hb := of_decide_eq_true hb
    subst hb
    exact w_ret (r := .dat (nat 0)) ev_int rfl
  · have hb : g ≠ 0 := by simpa using hb
    have hok := gtext_ok g hg
    have hsg := gtext_signs g hg hb
    refine w_seq (w_ifF ?_ (w_next ?_))
    · refine et_is (a := decide (gtext g = "") || ((!decide (Txt.stripChars (gtext g) "01234" = "")) || (!decide (signsT (gtext g) = signsT (gtext g))))) ?_ (by rw [gtext_some g hg, gtext_strip g hg hb]; simp)
      refine et_or ?_ fun _ => et_or ?_ fun _ => ?_
      · walk_at "et"
      · apply et_test
        with_reducible apply ev_op
        · exact ev_bm (ev_var rfl) (ea_cons ev_str ea_nil) (mtd_strip (by rw [sizeLine_eq]; omega)) fun B H v e d => by rw [den_str d]; rfl
        · exact ev_str
        · exact od_neS
      · apply et_test
        with_reducible apply ev_op
        · apply EvR.fz
          exact ev_sortedSet (ev_var rfl) (by omega) (gtext_sorted hg hb)
        · apply EvR.fz
          with_reducible apply ev_cb
          · walk_at "ea"
          · exact cb_listT (by omega)
        · exact od_neT hok hok
    refine w_ret (r := .dat (nat g)) ?_ rfl
    apply ev_is
    · with_reducible apply ev_cb
      · with_reducible apply ea_cons
        · apply EvR.fz
          with_reducible apply ev_lcM (ys := figs g) (c := fun k => .str (sg (48 + k))) (v := fun k => .int ((2 ^ k : Nat) : Int))
          · have e : (figs g).map (fun k => D.str (sg (48 + k))) = (signsT (gtext g)).map .str := by
              rw [hsg, List.map_map]
              rfl
            rw [e]
            exact it_str (ev_var rfl)
          · have : (figs g).length ≤ 5 := filt_len _ 5
            omega
          · decide
          · intro k hk
            have hk := List.mem_range.mp (List.mem_filter.mp hk).1
            with_reducible apply ev_op
            · walk_at "ev"
            · with_reducible apply ev_cb
              · walk_at "ea"
              · exact cb_intS (sg_int k hk) (by show 1 ≤ 640; omega)
            · exact od_shl1 (by omega)
        · exact ea_nil
      · exact cb_sumM
    · rw [pow_sum, gtext_sum g hg]
def c_read (C : Addr) : List D → Rs → Prop := fun ds r => ∃ n t, ds = [.str (wtext n t)] ∧ (1 ≤ n ∧ n ≤ 5) ∧ Mono n t ∧ r = .dat (cou C n t)
theorem c_read.len {C : Addr} : ∀ ds r, c_read C ds r → ds.length = 1 := by
  rintro ds r ⟨n, t, rfl, _⟩
  rfl
theorem wtext_len {n : Nat} {t : List Bool} (hn : n < 6) (ht : (leastM t).length ≤ 32) (hl : ∀ g ∈ leastM t, g < 32) : (wtext n t).length ≤ 10000 := by
  unfold wtext
  rw [TL.join_eq, TL.len_tl, TL.tl_join]
  have key : ∀ (S : List Nat) (ps : List (List Nat)), S.length ≤ 1 → (∀ p ∈ ps, p.length ≤ 5) → (TL.joinL S ps).length ≤ ps.length * 6 := by
    intro S ps hS
    induction ps with
    | nil => intro _; simp [TL.joinL]
    | cons p ps ih =>
      intro h
      have h1 := h p List.mem_cons_self
      have h2 := ih fun q hq => h q (List.mem_cons_of_mem _ hq)
      cases ps with
      | nil => simp [TL.joinL]; omega
      | cons q ps =>
        simp only [TL.joinL, List.length_append, List.length_cons] at h2 ⊢
        omega
  have := key (TL.tl (" " : Str)) ((nword n :: (leastM t).map gtext).map TL.tl) (by decide +kernel) fun p hp => by
    obtain ⟨s, hs, rfl⟩ := List.mem_map.mp hp
    rw [← TL.len_tl]
    rcases List.mem_cons.mp hs with rfl | hs
    · rw [nword_len n hn]
      omega
    · obtain ⟨g, hg, rfl⟩ := List.mem_map.mp hs
      exact gtext_len g (hl g hg)
  rw [List.length_map, List.length_cons, List.length_map] at this
  omega
abbrev st_read : Stmt := top 18
abbrev n_read : List Str := ["text", "words", "council", "word"]
abbrev p_read : List Str := ["text"]
theorem sc_read : FnScope n_read p_read (defScope st_read) := ⟨rfl, rfl, rfl, by decide +kernel, rfl, by decide +kernel, by decide +kernel⟩
theorem ok_read {f : Addr} {fd : FuncData} (F : Fun K "read" "read" st_read f fd) (T : Txt K mg C_Council) (g_Council_init : OkI P w K mg base CX0 2 "Council" C_Council p_Council_init (SpI K C_Council c_Council_init)) (g_group_in : OkD P w K mg base CX0 1 "group_in" p_group_in (SpR K c_group_in)) (g_written : OkD P w K mg base CX0 3 "written" p_written (SpR K (c_written C_Council))) : FnOk P w K mg base CX0 4 f fd p_read (SpR K (c_read C_Council)) := by
  refine F.ok sc_read (sp_len c_read.len) (fun cdv A outer s H vs Q E hr h => ?_)
  have hcl_Council := T.cl_Council
  have hna_Council_members := T.na_Council_members
  have hna_Council_table := T.na_Council_table
  refine ⟨_, (pss_cons (ps_if (pt_not (pt_val (pe_callB call_isi (by rfl) T.n_isinstance (by decide +kernel) (pa_cons (pv 0) (pa_cons (pe_bltn (v := .ty "str") (by rfl) T.n_str (by decide +kernel) rfl) pa_nil))))) (pss_one ps_never) pss_nil)
  (pss_cons (ps_set (i := 1) sc_read.nd rfl (by first | exact Or.inl rfl | exact Or.inr rfl) (pe_split (pv 0) pe_str))
  (pss_cons (ps_if (pt_cmpR op_notIn_seq (pe_ix ix_list (pv 1) pe_int (fun _ _ => rfl)) (pe_lst (pa_cons pe_str (pa_cons pe_str (pa_cons pe_str (pa_cons pe_str (pa_cons pe_str pa_nil)))))) (by rfl)) (pss_one ps_never) pss_nil)
  (pss_cons (ps_try_thru0 (pss_one (ps_set (i := 2) sc_read.nd rfl (by first | exact Or.inl rfl | exact Or.inr rfl) (pe_makeD g_Council_init (hr.mono (by decide)) (by rfl) pass0 (pa_cons (pe_callTy call_int_str (by rfl) T.n_int (by decide +kernel) (pa_cons (pe_ix ix_str (pe_ix ix_list (pv 1) pe_int (fun _ _ => rfl)) pe_int (fun _ _ => rfl)) pa_nil)) (pa_cons (pe_lc (own := [("word", 3)]) (g := gName 3) (tt := tYes) (te := (tCall (SpR K c_group_in) [] E0 (tCons (tVar 3) tNil))) (by exact rfl) sc_read.nd (pi_list (pe_slice sl_list (pv 1) (po_some pe_int) po_none)) (blkOk_by (N := n_read) (sc := defScope st_read) (own := [("word", 3)]) (by decide +kernel)) (fun _ _ _ _ _ => (pg_name (i := 3) sc_read.nd rfl (by first | exact Or.inl rfl | exact Or.inr rfl))) (fun _ _ _ _ _ => pts_nil) (fun _ _ _ _ _ => (pe_callD g_group_in (hr.mono (by decide)) (by rfl) pass0 (pa_cons (pv 3) pa_nil)))) pa_nil))))))
  (pss_cons (ps_if (pt_cmpR op_ne (pe_callD g_written (hr.mono (by decide)) (by rfl) pass0 (pa_cons (pv 2) pa_nil)) (pv 0) (nomark _)) (pss_one ps_never) pss_nil)
  (pss_one (ps_ret (pv 2)))))))), go_of ?_ h⟩
  try dsimp only [L2.cxOf, L2.Cx.nox, L2.Cx.wish, L2.Cx.blk]
  rintro ds r ⟨n, t, rfl, ⟨h1, hn⟩, hm, rfl⟩
  have ht := hm.1
  have hp := pow_le n hn
  have hL := leastM_len (t := t) (by omega)
  have hlt := least_lt hn ht
  have hwl := wtext_len (n := n) (t := t) (by omega) hL hlt
  show W K E _ [.fz (.str (wtext n t)), .un, .un, .un] _
  refine w_seq (w_ifF ?_ (w_next ?_))
  · apply et_is
    · walk_at "et"
    · rfl
  refine w_seq (w_asg (d := strL (nword n :: (leastM t).map gtext)) ?_ ?_)
  · apply EvR.fz
    refine ev_isN (ev_split (ev_var rfl) ev_str (by decide +kernel) (by rw [sizeLine_eq]; omega)) ?_
    rw [wtext_split (by omega) hlt]
  refine w_seq (w_ifF ?_ (w_next ?_))
  · refine et_is (a := !decide (nword n ∈ (["1:", "2:", "3:", "4:", "5:"] : List Str))) ?_ (by rw [decide_eq_true (nword_in n (by omega) h1)]; rfl)
    apply et_test
    with_reducible apply ev_op (x := .str (nword n)) (y := strL ["1:", "2:", "3:", "4:", "5:"])
    · with_reducible apply ev_op
      · exact ev_var rfl
      · exact ev_int
      · exact od_ixL (by omega) rfl
    · apply EvR.fz
      with_reducible apply ev_lst
      · exact ea_cons ev_str (ea_cons ev_str (ea_cons ev_str (ea_cons ev_str (ea_cons ev_str ea_nil))))
      · walk_at "sz"
    · exact od_notInS
  refine w_seq (w_asg (d := cou C_Council n t) ?_ ?_)
  · apply EvR.ofF
    apply ev_isF
    · with_reducible apply ev_make
      · with_reducible apply ea_cons (x := nat n)
        · with_reducible apply ev_cb
          · with_reducible apply ea_cons (x := .str (sg (48 + n)))
            · with_reducible apply ev_op (x := .str (nword n))
              · with_reducible apply ev_op
                · exact ev_var rfl
                · exact ev_int
                · exact od_ixL (by omega) rfl
              · exact ev_int
              · exact od_ixS (by rw [nword_len n (by omega), sizeLine_eq]; omega) (nword_at n (by omega))
            · exact ea_nil
          · exact cb_intS (nword_int n (by omega)) (by show 1 ≤ 640; omega)
        · with_reducible apply ea_cons (x := natL (leastM t))
          · apply EvR.fz
            with_reducible apply ev_lcM (ys := leastM t) (c := fun g => .str (gtext g)) (v := nat)
            · with_reducible apply it_list
              apply EvR.fz
              apply ev_isN
              · with_reducible apply ev_sl
                · exact ev_var rfl
                · exact eo_some ev_int
                · exact eo_none
              · rw [show (1 : Int) = ((1 : Nat) : Int) from rfl, cut_drop]
                show ((leastM t).map gtext).map D.str = _
                rw [List.map_map]
                rfl
            · omega
            · decide
            · intro g hg
              have hq : c_group_in [.str (gtext g)] (.dat (nat g)) := ⟨g, rfl, hlt g hg, rfl⟩
              walk_at "ev"
          · exact ea_nil
      · exact c_Council_init.mk h1 hn (by omega) fun g hg => by
          have := List.mem_range.mp (List.mem_filter.mp hg).1
          omega
    · rw [tab_least hn hm]
  have hw : c_written C_Council [cou C_Council n t] (.dat (.str (wtext n t))) := RC1.mk ⟨⟨h1, hn⟩, ht⟩
  refine w_seq (w_ifF ?_ (w_next ?_))
  · apply et_is
    · walk_at "et"
    · simp
  exact w_ret (r := .dat (cou C_Council n t)) (ev_var rfl) rfl
theorem gtext_join : ∀ g, g < 32 → gtext g = if Txt.join "" ((figs g).map fun k => sg (48 + k)) = "" then ("-" : Str) else Txt.join "" ((figs g).map fun k => sg (48 + k)) := by decide +kernel
theorem figs_small {m g : Nat} (hm : m ≤ 5) (hg : g < 2 ^ m) : (List.range m).filter (fun k => g.testBit k) = figs g := by
  have key : ∀ m, m < 6 → ∀ g, g < 2 ^ m → (List.range m).filter (fun k => g.testBit k) = figs g := by decide +kernel
  exact key m (by omega) g hg
abbrev st_law : Stmt := top 30
abbrev n_law : List Str := ["_law_script", "_law_told_here", "_law_table_here", "_law_words", "_law_group", "_law_word", "_law_text", "_law_k"]
abbrev p_law : List Str := ["_law_script"]
theorem sc_law : FnScope n_law p_law (defScope st_law) := ⟨rfl, rfl, rfl, by decide +kernel, rfl, by decide +kernel, by decide +kernel⟩
theorem ok_law {f : Addr} {fd : FuncData} (F : Fun K "law" "law" st_law f fd) (T : Txt K mg C_Council) (g_law_told : OkD P w K mg base CX0 2 "_law_told" p_law_told (SpU K c_law_told)) (g_law_table : OkD P w K mg base CX0 1 "_law_table" p_law_table (SpR K c_law_table)) (g_law_least : OkD P w K mg base CX0 2 "_law_least" p_law_least (SpR K c_law_least)) (g_law_has : OkD P w K mg base CX0 1 "_law_has" p_law_has (SpR K c_law_has)) (g_written : OkD P w K mg base CX0 3 "written" p_written (SpR K (c_written C_Council))) (g_law_built : OkD P w K mg base CX0 5 "_law_built" p_law_built (SpR K (c_law_built C_Council))) (g_law_cell_at : OkD P w K mg base CX0 1 "_law_cell_at" p_law_cell_at (SpR K c_law_cell_at)) (g_read : OkD P w K mg base CX0 4 "read" p_read (SpR K (c_read C_Council))) (g_law_is : OkD P w K mg base CX0 3 "_law_is" p_law_is (SpR K (c_law_is C_Council))) : FnOk P w K mg base CX0 6 f fd p_law (SpR K c_law) := by
  refine F.ok sc_law (sp_len R1.len) (fun cdv A outer s H vs Q E hr h => ?_)
  have hcl_Council := T.cl_Council
  have hna_Council_members := T.na_Council_members
  have hna_Council_table := T.na_Council_table
  refine ⟨_, (pss_cons (ps_set (i := 1) sc_law.nd rfl (by first | exact Or.inl rfl | exact Or.inr rfl) (pe_callD g_law_told (hr.mono (by decide)) (by rfl) pass0 (pa_cons (pv 0) (pa_cons pe_int pa_nil))))
  (pss_cons (ps_set (i := 2) sc_law.nd rfl (by first | exact Or.inl rfl | exact Or.inr rfl) (pe_callD g_law_table (hr.mono (by decide)) (by rfl) pass0 (pa_cons (pv 1) pa_nil)))
  (pss_cons (ps_set (i := 3) sc_law.nd rfl (by first | exact Or.inl rfl | exact Or.inr rfl) (pe_lst (pa_cons (pe_op op_add_str (pe_callTy call_str_int (by rfl) T.n_str (by decide +kernel) (pa_cons (pe_ix ix_tup (pv 1) pe_int (fun _ _ => rfl)) pa_nil)) pe_str) pa_nil)))
  (pss_cons (ps_for PassesOwn.never rfl (pi_list (pe_callD g_law_least (hr.mono (by decide)) (by rfl) pass0 (pa_cons (pv 2) (pa_cons (pe_ix ix_tup (pv 1) pe_int (fun _ _ => rfl)) pa_nil)))) (pg_name (i := 4) sc_law.nd rfl (by first | exact Or.inl rfl | exact Or.inr rfl))
  (pss_cons (ps_set (i := 5) sc_law.nd rfl (by first | exact Or.inl rfl | exact Or.inr rfl) (pe_join pe_str (pe_lc (own := [("_law_k", 7)]) (g := gName 7) (te := (tCB (rStrI) (tCons (tVar 7) tNil))) (tt := (tB (tCall (SpR K c_law_has) [] E0 (tCons (tVar 4) (tCons (tVar 7) tNil))))) (by exact rfl) sc_law.nd (pi_range1 (by rfl) T.n_range (pa_cons (pe_ix ix_tup (pv 1) pe_int (fun _ _ => rfl)) pa_nil)) (blkOk_by (N := n_law) (sc := defScope st_law) (own := [("_law_k", 7)]) (by decide +kernel)) (fun _ _ _ _ _ => (pg_name (i := 7) sc_law.nd rfl (by first | exact Or.inl rfl | exact Or.inr rfl))) (fun _ _ _ _ _ => pts_one (pt_val (pe_callD g_law_has (hr.mono (by decide)) (by rfl) pass0 (pa_cons (pv 4) (pa_cons (pv 7) pa_nil))))) (fun _ _ _ _ _ => (pe_callTy call_str_int (by rfl) T.n_str (by decide +kernel) (pa_cons (pv 7) pa_nil))))))
  (pss_one (ps_expr (pe_bm PySem.F.plainAttrs_list PySem.F.slot_list_append PySem.F.type_list_append mt_append (pv 3) (pa_cons (pe_ifExp (pt_cmpR op_ne (pv 5) pe_str (nomark _)) (pv 5) pe_str) pa_nil))))))
  (pss_cons (ps_set (i := 6) sc_law.nd rfl (by first | exact Or.inl rfl | exact Or.inr rfl) (pe_join pe_str (pv 3)))
  (pss_cons (ps_if (pt_cmpR op_ne (pe_callD g_written (hr.mono (by decide)) (by rfl) pass0 (pa_cons (pe_callD g_law_built (hr.mono (by decide)) (by rfl) pass0 (pa_cons (pv 1) (pa_cons (pe_callD g_law_cell_at (hr.mono (by decide)) (by rfl) pass0 (pa_cons (pv 0) (pa_cons pe_int pa_nil))) pa_nil))) pa_nil)) (pv 6) (nomark _)) (pss_one (ps_ret pe_bl)) pss_nil)
  (pss_one (ps_ret (pe_and (pe_callD g_law_is (hr.mono (by decide)) (by rfl) pass0 (pa_cons (pe_callD g_read (hr.mono (by decide)) (by rfl) pass0 (pa_cons (pv 6) pa_nil)) (pa_cons (pe_ix ix_tup (pv 1) pe_int (fun _ _ => rfl)) (pa_cons (pv 2) pa_nil)))) (pe_one (pe_cmpR op_eq (pe_callD g_written (hr.mono (by decide)) (by rfl) pass0 (pa_cons (pe_callD g_read (hr.mono (by decide)) (by rfl) pass0 (pa_cons (pv 6) pa_nil)) pa_nil)) (pv 6) (nomark _)))))))))))), go_of ?_ h⟩
  try dsimp only [L2.cxOf, L2.Cx.nox, L2.Cx.wish, L2.Cx.blk]
  rintro ds r ⟨ns, rfl, -, rfl⟩
  show W K E _ [.fz (.scr ns), .un, .un, .un, .un, .un, .un, .un] _
  refine w_seq (w_asgU (F := fun d => ∃ m gs, d = .tup [nat m, natL gs] ∧ ToldOk m gs) ?_ ?_)
  · with_reducible apply ev_callU
    · walk_at "ea"
    · exact ⟨ns, 0, rfl, by decide, rfl⟩
  rintro d ⟨m, gs, rfl, h1, h5, hl, hg⟩
  have hp := pow_le m h5
  have ht := tab_len m gs
  have hm := mono_tab (n := m) (gs := gs)
  have hb : c_law_built C_Council [.tup [nat m, natL gs], .int (ns.getD 2 0)] (.frs (cou C_Council m (tab m gs))) := ⟨m, gs, ns.getD 2 0, rfl, ⟨h1, h5, hl, hg⟩, rfl⟩
  refine w_seq (w_asg (d := blL (tab m gs)) (by walk_at "ev") ?_)
  generalize tab m gs = t at ht hm hb
  have hL := leastM_len (t := t) (by omega)
  have hlt := least_lt h5 ht
  refine w_seq (w_asgN (xs := [.str (nword m)]) ?_ ?_)
  · with_reducible apply ev_lst
    · with_reducible apply ea_cons
      · with_reducible apply ev_op
        · with_reducible apply ev_cb
          · walk_at "ea"
          · exact cb_strI (log_small m (by omega))
        · walk_at "ev"
        · refine od_addS ?_
          have := nword_len m (by omega)
          have e : (Str.ofString (toString ((m : Nat) : Int))).length + ((":" : Str)).length = (nword m).length := by
            unfold nword
            first | rw [Str.length_append] | simp [Str.length]
          rw [e, this, sizeLine_eq]
          omega
      · exact ea_nil
    · walk_at "sz"
  refine w_seq (w_forS (ys := leastM t) (f := nat) (fun i => [.fz (.scr ns), .fz (.tup [nat m, natL gs]), .fz (blL t), .ow ((nword m :: ((leastM t).take i).map gtext).map .str), .un, .un, .un, .un]) ?_ (Fgt.refl _) ?_ ?_)
  · walk_at "it"
  · intro i g hg
    have hgm := List.mem_of_getElem? hg
    have hg32 := hlt g hgm
    have hgp : g < 2 ^ m := by
      have := List.mem_range.mp (List.mem_filter.mp hgm).1
      omega
    have hfl : (figs g).length ≤ 5 := filt_len _ 5
    refine w_seq (w_asg (d := .str (Txt.join "" ((figs g).map fun k => sg (48 + k)))) ?_ ?_)
    · apply ev_join
      · exact ev_str
      · apply EvR.fz
        apply ev_isN
        · with_reducible apply ev_lcF (ys := List.range m) (c := nat) (f := fun k => g.testBit k) (v := fun k => .str (sg (48 + k)))
          · walk_at "it"
          · walk_at "sz"
          · decide
          · intro k hk
            replace hk := List.mem_range.mp hk
            walk_at "et"
          · intro k hk hf
            have hk := List.mem_range.mp hk
            refine ev_is (d := .str (Str.ofString (toString ((k : Nat) : Int)))) ?_ (by rw [num_sg k (by omega)])
            with_reducible apply ev_cb
            · walk_at "ea"
            · exact cb_strI (log_small k (by omega))
        · rw [figs_small h5 hgp, List.map_map]
          rfl
      · have e1 : (((figs g).map fun k => sg (48 + k)).map (·.length)).sum = (figs g).length := by
          rw [List.map_map]
          exact sum_ones (figs g)
        rw [e1, List.length_map]
        have : (("" : Str)).length = 0 := by decide +kernel
        rw [this]
        omega
    refine w_app rfl (d := .str (gtext g)) ?_ ?_ ?_
    · rw [gtext_join g hg32]
      generalize Txt.join "" ((figs g).map fun k => sg (48 + k)) = z
      by_cases hz : z = ""
      · rw [if_pos hz]
        refine ev_if (b := !decide (z = "")) (by walk_at "et") (fun q => ?_) fun _ => ev_str
        rw [decide_eq_true hz] at q
        cases q
      · rw [if_neg hz]
        refine ev_if (b := !decide (z = "")) (by walk_at "et") (fun _ => ev_var rfl) fun q => ?_
        rw [decide_eq_false hz] at q
        cases q
    · simp
      omega
    · show Fgt _ _
      rw [List.take_add_one, hg]
      simp only [Option.toList, List.map_append, List.map_cons, List.map_nil, List.cons_append]
      exact .keep (.keep (.keep (.keep (.drop (.drop (.keep (.keep .nil)))))))
  intro s hs
  rw [List.take_length] at hs
  refine w_fgt hs (w_fix (i := 3) rfl ?_)
  refine w_seq (w_asg (d := .str (wtext m t)) ?_ ?_)
  · apply ev_join (ys := nword m :: (leastM t).map gtext)
    · exact ev_str
    · exact ev_var rfl
    · exact join_room (by omega) hL hlt
  have hw : c_written C_Council [cou C_Council m t] (.dat (.str (wtext m t))) := RC1.mk ⟨⟨h1, h5⟩, ht⟩
  have hr : c_read C_Council [.str (wtext m t)] (.dat (cou C_Council m t)) := ⟨m, t, rfl, ⟨h1, h5⟩, hm, rfl⟩
  refine w_seq (w_ifF ?_ (w_next ?_))
  · apply et_is
    · walk_at "et"
    · simp
  refine w_ret (r := .dat (.bl true)) ?_ rfl
  refine ev_is (d := .bl (true && decide (wtext m t = wtext m t))) ?_ (by simp)
  walk_at "ev"
end
theorem txt_mk {K : PySem.W.Frag} {mg : Str → Option Value} {h : Heap} {C_Council : Addr} {t_MOST t_FIGURES : Tok} (X : K.In h) (G : h.Ns mainGlobals mg)
    (n_all : PySem.W.nsIn K mainGlobals "all" = some none)
    (n_any : PySem.W.nsIn K mainGlobals "any" = some none)
    (n_bool : PySem.W.nsIn K mainGlobals "bool" = some none)
    (n_int : PySem.W.nsIn K mainGlobals "int" = some none)
    (n_isinstance : PySem.W.nsIn K mainGlobals "isinstance" = some none)
    (n_len : PySem.W.nsIn K mainGlobals "len" = some none)
    (n_list : PySem.W.nsIn K mainGlobals "list" = some none)
    (n_range : PySem.W.nsIn K mainGlobals "range" = some none)
    (n_set : PySem.W.nsIn K mainGlobals "set" = some none)
    (n_sorted : PySem.W.nsIn K mainGlobals "sorted" = some none)
    (n_str : PySem.W.nsIn K mainGlobals "str" = some none)
    (n_sum : PySem.W.nsIn K mainGlobals "sum" = some none)
    (c_MOST : PySem.W.nsIn K mainGlobals "MOST" = some (some (.int 5 t_MOST)))
    (c_FIGURES : PySem.W.nsIn K mainGlobals "FIGURES" = some (some (.str "01234" t_FIGURES)))
    (g_Council : PySem.W.nsIn K mainGlobals "Council" = some (some (.ref C_Council)))
    (pg_Council : PySem.W.plainGet K C_Council Str.empty = true)
    (hd_Council : PySem.W.hasDictIn K C_Council = true)
    (po_Council : PySem.W.plainOver K C_Council = true)
    (sa_Council : PySem.W.findIn K (.ref C_Council) "__setattr__" = some (some (.builtin "object.__setattr__")))
    (na_Council_members : PySem.W.findIn K (.ref C_Council) "members" = some none)
    (na_Council_table : PySem.W.findIn K (.ref C_Council) "table" = some none) : Txt K mg C_Council :=
  ⟨PySem.W.mg_none_of X G n_all, PySem.W.mg_none_of X G n_any, PySem.W.mg_none_of X G n_bool, PySem.W.mg_none_of X G n_int, PySem.W.mg_none_of X G n_isinstance, PySem.W.mg_none_of X G n_len, PySem.W.mg_none_of X G n_list, PySem.W.mg_none_of X G n_range, PySem.W.mg_none_of X G n_set, PySem.W.mg_none_of X G n_sorted, PySem.W.mg_none_of X G n_str, PySem.W.mg_none_of X G n_sum, ⟨t_MOST, PySem.W.mg_of X G c_MOST⟩, ⟨t_FIGURES, PySem.W.mg_of X G c_FIGURES⟩, PySem.W.mg_of X G g_Council, ⟨pg_Council, hd_Council, po_Council, sa_Council⟩, na_Council_members, na_Council_table⟩
theorem all_ok {l : PySem.W.OpenLaw} {w : World} {K : PySem.W.Frag} {mg : Str → Option Value} {fa : Addr} {C_Council : Addr} (T : Txt K mg C_Council) (hfa : mg "law" = some (.ref fa))
    (h_law_cell_at : FnAt K mg "_law_cell_at" st_law_cell_at p_law_cell_at)
    (h_law_draw : FnAt K mg "_law_draw" st_law_draw p_law_draw)
    (h_law_told : FnAt K mg "_law_told" st_law_told p_law_told)
    (h_law_table : FnAt K mg "_law_table" st_law_table p_law_table)
    (h_law_has : FnAt K mg "_law_has" st_law_has p_law_has)
    (h_law_least : FnAt K mg "_law_least" st_law_least p_law_least)
    (h_without_one : FnAt K mg "without_one" st_without_one p_without_one)
    (h_Council_least : MtAt K C_Council "least" "Council.least" st_Council_least p_Council_least)
    (h_group_text : FnAt K mg "group_text" st_group_text p_group_text)
    (h_written : FnAt K mg "written" st_written p_written)
    (h_within : FnAt K mg "within" st_within p_within)
    (h_holds_all : FnAt K mg "holds_all" st_holds_all p_holds_all)
    (h_Council_init : MkAt K mg "Council" C_Council "Council.__init__" st_Council_init p_Council_init)
    (h_turned : FnAt K mg "turned" st_turned p_turned)
    (h_law_built : FnAt K mg "_law_built" st_law_built p_law_built)
    (h_group_in : FnAt K mg "group_in" st_group_in p_group_in)
    (h_read : FnAt K mg "read" st_read p_read)
    (h_Council_carries : MtAt K C_Council "carries" "Council.carries" st_Council_carries p_Council_carries)
    (h_law_is : FnAt K mg "_law_is" st_law_is p_law_is)
    (h_law : LawAt K mg st_law) :
    ∃ fd : FuncData, (∀ (s : Shared) (v : Value), BindsTo s fd ⟨[v], []⟩ [("_law_script", v)]) ∧ ∀ base : Heap, K.In base → base.Ns mainGlobals mg → FnOk l.prog w K mg base CX0 6 fa fd ["_law_script"] (SpR K c_law) := by
  obtain ⟨f, fd, e, F, hb⟩ := h_law
  have e2 := hfa.symm.trans e
  cases e2
  refine ⟨fd, fun s v => .of_eq (hb v), fun base _ _ => ?_⟩
  have g_law_cell_at : OkD l.prog w K mg base CX0 1 "_law_cell_at" p_law_cell_at (SpR K c_law_cell_at) := okD h_law_cell_at fun f fd F => ok_law_cell_at F T
  have g_law_draw : OkD l.prog w K mg base CX0 1 "_law_draw" p_law_draw (SpR K c_law_draw) := okD h_law_draw fun f fd F => ok_law_draw F T
  have g_law_told : OkD l.prog w K mg base CX0 2 "_law_told" p_law_told (SpU K c_law_told) := okD h_law_told fun f fd F => ok_law_told F T g_law_cell_at g_law_draw
  have g_law_table : OkD l.prog w K mg base CX0 1 "_law_table" p_law_table (SpR K c_law_table) := okD h_law_table fun f fd F => ok_law_table F T
  have g_law_has : OkD l.prog w K mg base CX0 1 "_law_has" p_law_has (SpR K c_law_has) := okD h_law_has fun f fd F => ok_law_has F T
  have g_law_least : OkD l.prog w K mg base CX0 2 "_law_least" p_law_least (SpR K c_law_least) := okD h_law_least fun f fd F => ok_law_least F T g_law_has
  have g_without_one : OkD l.prog w K mg base CX0 1 "without_one" p_without_one (SpR K c_without_one) := okD h_without_one fun f fd F => ok_without_one F T
  have g_Council_least : OkM l.prog w K mg base CX0 2 C_Council "least" p_Council_least (SpR K (c_Council_least C_Council)) := okM h_Council_least fun f fd F => ok_Council_least F T g_without_one
  have g_group_text : OkD l.prog w K mg base CX0 1 "group_text" p_group_text (SpR K c_group_text) := okD h_group_text fun f fd F => ok_group_text F T
  have g_written : OkD l.prog w K mg base CX0 3 "written" p_written (SpR K (c_written C_Council)) := okD h_written fun f fd F => ok_written F T g_Council_least g_group_text
  have g_within : OkD l.prog w K mg base CX0 1 "within" p_within (SpR K c_within) := okD h_within fun f fd F => ok_within F T
  have g_holds_all : OkD l.prog w K mg base CX0 1 "holds_all" p_holds_all (SpR K c_holds_all) := okD h_holds_all fun f fd F => ok_holds_all F T
  have g_Council_init : OkI l.prog w K mg base CX0 2 "Council" C_Council p_Council_init (SpI K C_Council c_Council_init) := okI h_Council_init fun f fd F => ok_Council_init F T g_within g_holds_all
  have g_turned : OkD l.prog w K mg base CX0 4 "turned" p_turned (SpR K (c_turned C_Council)) := okD h_turned fun f fd F => ok_turned F T g_Council_init
  have g_law_built : OkD l.prog w K mg base CX0 5 "_law_built" p_law_built (SpR K (c_law_built C_Council)) := okD h_law_built fun f fd F => ok_law_built F T g_Council_init g_law_table g_turned
  have g_group_in : OkD l.prog w K mg base CX0 1 "group_in" p_group_in (SpR K c_group_in) := okD h_group_in fun f fd F => ok_group_in F T
  have g_read : OkD l.prog w K mg base CX0 4 "read" p_read (SpR K (c_read C_Council)) := okD h_read fun f fd F => ok_read F T g_Council_init g_group_in g_written
  have g_Council_carries : OkM l.prog w K mg base CX0 2 C_Council "carries" p_Council_carries (SpR K (c_Council_carries C_Council)) := okM h_Council_carries fun f fd F => ok_Council_carries F T g_within
  have g_law_is : OkD l.prog w K mg base CX0 3 "_law_is" p_law_is (SpR K (c_law_is C_Council)) := okD h_law_is fun f fd F => ok_law_is F T g_Council_carries
  exact ok_law F T g_law_told g_law_table g_law_least g_law_has g_written g_law_built g_law_cell_at g_read g_law_is
end Wv

open PySem PySem.W PyProof.Rows in
set_option maxRecDepth 100000 in
set_option maxHeartbeats 0 in
theorem PySem.Challenge.cw_weighvote_k06_councils_read_and_written_holds : PySem.Challenge.rw_weighvote_k06_councils_read_and_written.Holds := by
  w_on; o_law; k_head; (case hw => w_witness2)
  k_fill
  refine Wv.walk (l := PySem.Challenge.rw_weighvote_k06_councils_read_and_written) (k := 6) rfl rfl ⟨rfl, by decide, by decide⟩ (fun w h Y => PySem.W.kIn_of Y) ?F
  case F =>
    intro w mg fa h KX G hmg
    refine' Wv.all_ok (l := PySem.Challenge.rw_weighvote_k06_councils_read_and_written) ?T hmg ?h_law_cell_at ?h_law_draw ?h_law_told ?h_law_table ?h_law_has ?h_law_least ?h_without_one ?h_Council_least ?h_group_text ?h_written ?h_within ?h_holds_all ?h_Council_init ?h_turned ?h_law_built ?h_group_in ?h_read ?h_Council_carries ?h_law_is ?h_law
    case T =>
      refine' Wv.txt_mk KX G ?n_all ?n_any ?n_bool ?n_int ?n_isinstance ?n_len ?n_list ?n_range ?n_set ?n_sorted ?n_str ?n_sum ?c_MOST ?c_FIGURES ?g_Council ?pg_Council ?hd_Council ?po_Council ?sa_Council ?na_Council_members ?na_Council_table
      (case n_all => k_is)
      (case n_any => k_is)
      (case n_bool => k_is)
      (case n_int => k_is)
      (case n_isinstance => k_is)
      (case n_len => k_is)
      (case n_list => k_is)
      (case n_range => k_is)
      (case n_set => k_is)
      (case n_sorted => k_is)
      (case n_str => k_is)
      (case n_sum => k_is)
      (case c_MOST => k_is)
      (case c_FIGURES => k_is)
      (case g_Council => k_is)
      (case pg_Council => k_is)
      (case hd_Council => k_is)
      (case po_Council => k_is)
      (case sa_Council => k_is)
      (case na_Council_members => k_is)
      (case na_Council_table => k_is)
    case h_law_cell_at =>
      refine' Wv.fnAt_mk KX G ?a ?l ?c ?k ?b
      (case a => k_is)
      (case l => k_is)
      (case c => k_is)
      (case k => k_is)
      (case b => exact fun _ _ _ _ _ _ us hl => match us, hl with | [_, _], _ => rfl)
    case h_law_draw =>
      refine' Wv.fnAt_mk KX G ?a ?l ?c ?k ?b
      (case a => k_is)
      (case l => k_is)
      (case c => k_is)
      (case k => k_is)
      (case b => exact fun _ _ _ _ _ _ us hl => match us, hl with | [_, _, _], _ => rfl)
    case h_law_told =>
      refine' Wv.fnAt_mk KX G ?a ?l ?c ?k ?b
      (case a => k_is)
      (case l => k_is)
      (case c => k_is)
      (case k => k_is)
      (case b => exact fun _ _ _ _ _ _ us hl => match us, hl with | [_, _], _ => rfl)
    case h_law_table =>
      refine' Wv.fnAt_mk KX G ?a ?l ?c ?k ?b
      (case a => k_is)
      (case l => k_is)
      (case c => k_is)
      (case k => k_is)
      (case b => exact fun _ _ _ _ _ _ us hl => match us, hl with | [_], _ => rfl)
    case h_law_has =>
      refine' Wv.fnAt_mk KX G ?a ?l ?c ?k ?b
      (case a => k_is)
      (case l => k_is)
      (case c => k_is)
      (case k => k_is)
      (case b => exact fun _ _ _ _ _ _ us hl => match us, hl with | [_, _], _ => rfl)
    case h_law_least =>
      refine' Wv.fnAt_mk KX G ?a ?l ?c ?k ?b
      (case a => k_is)
      (case l => k_is)
      (case c => k_is)
      (case k => k_is)
      (case b => exact fun _ _ _ _ _ _ us hl => match us, hl with | [_, _], _ => rfl)
    case h_without_one =>
      refine' Wv.fnAt_mk KX G ?a ?l ?c ?k ?b
      (case a => k_is)
      (case l => k_is)
      (case c => k_is)
      (case k => k_is)
      (case b => exact fun _ _ _ _ _ _ us hl => match us, hl with | [_], _ => rfl)
    case h_Council_least =>
      refine' Wv.mtAt_mk ?a ?i ?l ?c ?k ?b
      (case a => k_is)
      (case i => k_is)
      (case l => k_is)
      (case c => k_is)
      (case k => k_is)
      (case b => exact fun _ _ _ _ _ _ us hl => match us, hl with | [_], _ => rfl)
    case h_group_text =>
      refine' Wv.fnAt_mk KX G ?a ?l ?c ?k ?b
      (case a => k_is)
      (case l => k_is)
      (case c => k_is)
      (case k => k_is)
      (case b => exact fun _ _ _ _ _ _ us hl => match us, hl with | [_], _ => rfl)
    case h_written =>
      refine' Wv.fnAt_mk KX G ?a ?l ?c ?k ?b
      (case a => k_is)
      (case l => k_is)
      (case c => k_is)
      (case k => k_is)
      (case b => exact fun _ _ _ _ _ _ us hl => match us, hl with | [_], _ => rfl)
    case h_within =>
      refine' Wv.fnAt_mk KX G ?a ?l ?c ?k ?b
      (case a => k_is)
      (case l => k_is)
      (case c => k_is)
      (case k => k_is)
      (case b => exact fun _ _ _ _ _ _ us hl => match us, hl with | [_, _, _], _ => rfl)
    case h_holds_all =>
      refine' Wv.fnAt_mk KX G ?a ?l ?c ?k ?b
      (case a => k_is)
      (case l => k_is)
      (case c => k_is)
      (case k => k_is)
      (case b => exact fun _ _ _ _ _ _ us hl => match us, hl with | [_, _], _ => rfl)
    case h_Council_init =>
      refine' Wv.mkAt_mk (PySem.W.mg_of KX G ?g) ?m ?a ?i ?kc ?l ?c ?k ?b
      (case g => k_is)
      (case m => k_is)
      (case a => k_is)
      (case i => k_is)
      (case kc => k_is)
      (case l => k_is)
      (case c => k_is)
      (case k => k_is)
      (case b => exact fun _ _ _ _ _ _ us hl => match us, hl with | [_, _, _], _ => rfl)
    case h_turned =>
      refine' Wv.fnAt_mk KX G ?a ?l ?c ?k ?b
      (case a => k_is)
      (case l => k_is)
      (case c => k_is)
      (case k => k_is)
      (case b => exact fun _ _ _ _ _ _ us hl => match us, hl with | [_], _ => rfl)
    case h_law_built =>
      refine' Wv.fnAt_mk KX G ?a ?l ?c ?k ?b
      (case a => k_is)
      (case l => k_is)
      (case c => k_is)
      (case k => k_is)
      (case b => exact fun _ _ _ _ _ _ us hl => match us, hl with | [_, _], _ => rfl)
    case h_group_in =>
      refine' Wv.fnAt_mk KX G ?a ?l ?c ?k ?b
      (case a => k_is)
      (case l => k_is)
      (case c => k_is)
      (case k => k_is)
      (case b => exact fun _ _ _ _ _ _ us hl => match us, hl with | [_], _ => rfl)
    case h_read =>
      refine' Wv.fnAt_mk KX G ?a ?l ?c ?k ?b
      (case a => k_is)
      (case l => k_is)
      (case c => k_is)
      (case k => k_is)
      (case b => exact fun _ _ _ _ _ _ us hl => match us, hl with | [_], _ => rfl)
    case h_Council_carries =>
      refine' Wv.mtAt_mk ?a ?i ?l ?c ?k ?b
      (case a => k_is)
      (case i => k_is)
      (case l => k_is)
      (case c => k_is)
      (case k => k_is)
      (case b => exact fun _ _ _ _ _ _ us hl => match us, hl with | [_, _], _ => rfl)
    case h_law_is =>
      refine' Wv.fnAt_mk KX G ?a ?l ?c ?k ?b
      (case a => k_is)
      (case l => k_is)
      (case c => k_is)
      (case k => k_is)
      (case b => exact fun _ _ _ _ _ _ us hl => match us, hl with | [_, _, _], _ => rfl)
    case h_law =>
      refine' Wv.lawAt_mk KX G ?a ?l ?c ?k ?b
      (case a => k_is)
      (case l => k_is)
      (case c => k_is)
      (case k => k_is)
      (case b => exact fun _ _ _ _ _ _ _ => rfl)
#print axioms PySem.Challenge.cw_weighvote_k06_councils_read_and_written_holds
