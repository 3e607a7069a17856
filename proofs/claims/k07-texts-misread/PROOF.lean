import PyProof.Rows.All
import Wide.All
import OpenK.AllK
import Wide.FinOn
import HandS.ForMost
import HandS.ForExc
import HandS.Evl
import HandS.IsInst
import HandS.Wide
import HandS.Style
import HandS.Conv
import HandS.SetFor
import HandS.Exc
import HandS.ExcOwn
import HandS.ExcIs
import HandS.TryOnly
import HandS.CallLocal
import HandS.WordsExc
import HandS.ExcCtx
import HandS.Hot
import HandS.HotCalls
import HandS.Dict
import PyProof.EqAt
import PyProof.EqKinds
import PyProof.TupleCall
import PyProof.StrWalks
import HandS.Set
import HandS.Strs
import HandS.List
import PyProof.ListStr
import HandS.Text
import HandS.StrMore
import HandS.Iter
import HandS.Comp
import KE.GoesRaise
import HandS.SuiteRaise
import KE.KCtx
import HandS.Steps
import PyProof.StrOps2
import KE.KExcLine
import KE.RegKIsAll
import PySem.Challenge.RW_weighvote_k07_texts_misread
set_option Elab.async false
set_option linter.all false
set_option maxRecDepth 100000
set_option maxHeartbeats 4000000
/-! Values without a heap: what stands in a slot is data (fz), a list of one's own that may still be changed (ow), an object being made (ob), or not known (un). -/
namespace Wv
open PySem L2
open Evl (Ex fresh_back ex_l)

inductive D where
  | non | bl (b : Bool) | int (i : Int) | str (x : Str) | ty (n : String)
  | lst (xs : List D) | tup (xs : List D)
  | obj (C : Addr) (ns : List Str) (ds : List D)
  | fn (a : Addr) | scr (ns : List Int) | emp | err (a : Addr) (p : Hp → Prop)

mutual
def Den (K : PySem.W.Frag) (H : Hp) : D → V → Prop
  | .non, v => v = .non
  | .bl b, v => v = .bl b
  | .int i, v => v = .int i
  | .str x, v => v = .str x
  | .ty n, v => v = .ty n
  | .lst xs, v => ∃ a vs, v = .ref a ∧ H a = some (.lst vs) ∧ DenL K H xs vs
  | .tup xs, v => ∃ a vs, v = .ref a ∧ H a = some (.tup vs) ∧ DenL K H xs vs
  | .obj C ns ds, v => ∃ a dx vs, v = .ref a ∧ H a = some (.ins C dx (ns.zip vs)) ∧ ns.length = vs.length ∧ DenL K H ds vs
  | .fn a, v => v = .ref a
  | .scr ns, v => ∃ a, v = .ref a ∧ SqL K H a (ns.map V.int)
  | .emp, v => ∃ a, v = .ref a ∧ H a = some (.dK [])
  | .err a p, v => v = .ref a ∧ ∃ H1, Ex H1 H ∧ p H1
def DenL (K : PySem.W.Frag) (H : Hp) : List D → List V → Prop
  | [], vs => vs = []
  | d :: ds, vs => ∃ v r, vs = v :: r ∧ Den K H d v ∧ DenL K H ds r
end

section
variable {K : PySem.W.Frag} {H H' B B' B'' H'' : Hp}
mutual
theorem den_mono (e : Ex H H') : ∀ {d : D} {v : V}, Den K H d v → Den K H' d v
  | .non, _, h => by simpa only [Den] using h
  | .bl _, _, h => by simpa only [Den] using h
  | .int _, _, h => by simpa only [Den] using h
  | .str _, _, h => by simpa only [Den] using h
  | .ty _, _, h => by simpa only [Den] using h
  | .fn _, _, h => by simpa only [Den] using h
  | .lst xs, v, h => by
    simp only [Den] at h ⊢
    obtain ⟨a, vs, h1, h2, h3⟩ := h
    exact ⟨a, vs, h1, e a _ h2, denL_mono e h3⟩
  | .tup xs, v, h => by
    simp only [Den] at h ⊢
    obtain ⟨a, vs, h1, h2, h3⟩ := h
    exact ⟨a, vs, h1, e a _ h2, denL_mono e h3⟩
  | .obj C ns ds, v, h => by
    simp only [Den] at h ⊢
    obtain ⟨a, dx, vs, h1, h2, h4, h3⟩ := h
    exact ⟨a, dx, vs, h1, e a _ h2, h4, denL_mono e h3⟩
  | .emp, v, h => by
    simp only [Den] at h ⊢
    obtain ⟨a, h1, h2⟩ := h
    exact ⟨a, h1, e a _ h2⟩
  | .err a p, v, h => by
    simp only [Den] at h ⊢
    obtain ⟨h1, H1, h2, h3⟩ := h
    exact ⟨h1, H1, h2.trans e, h3⟩
  | .scr ns, v, h => by
    simp only [Den] at h ⊢
    obtain ⟨a, h1, h2⟩ := h
    exact ⟨a, h1, ex_l e h2⟩
theorem denL_mono (e : Ex H H') : ∀ {ds : List D} {vs : List V}, DenL K H ds vs → DenL K H' ds vs
  | [], _, h => by simpa only [DenL] using h
  | d :: ds, vs, h => by
    simp only [DenL] at h ⊢
    obtain ⟨v, r, h1, h2, h3⟩ := h
    exact ⟨v, r, h1, den_mono e h2, denL_mono e h3⟩
end
theorem denL_nil : DenL K H [] [] := by simp only [DenL]
theorem denL_cons {d : D} {v : V} {ds : List D} {vs : List V} (h : Den K H d v) (t : DenL K H ds vs) : DenL K H (d :: ds) (v :: vs) := by
  simp only [DenL]
  exact ⟨v, vs, rfl, h, t⟩
theorem denL_inv {d : D} {ds : List D} {vs : List V} (h : DenL K H (d :: ds) vs) : ∃ v r, vs = v :: r ∧ Den K H d v ∧ DenL K H ds r := by
  simpa only [DenL] using h
theorem denL_inv0 {vs : List V} (h : DenL K H [] vs) : vs = [] := by
  simpa only [DenL] using h
theorem denL_len : ∀ {ds : List D} {vs : List V}, DenL K H ds vs → ds.length = vs.length
  | [], vs, h => by rw [denL_inv0 h] <;> rfl
  | d :: ds, vs, h => by
    obtain ⟨v, r, rfl, _, h3⟩ := denL_inv h
    simp only [List.length_cons, denL_len h3]
theorem denL_app : ∀ {ds es : List D} {vs us : List V}, DenL K H ds vs → DenL K H es us → DenL K H (ds ++ es) (vs ++ us)
  | [], _, vs, _, h, h' => by
    rw [denL_inv0 h]
    exact h'
  | d :: ds, es, vs, us, h, h' => by
    obtain ⟨v, r, rfl, h2, h3⟩ := denL_inv h
    exact denL_cons h2 (denL_app h3 h')
theorem denL_get : ∀ {ds : List D} {vs : List V} {i : Nat} {d : D}, DenL K H ds vs → ds[i]? = some d → ∃ v, vs[i]? = some v ∧ Den K H d v
  | [], _, i, _, _, e => by simp at e
  | d :: ds, vs, 0, d', h, e => by
    obtain ⟨v, r, rfl, h2, h3⟩ := denL_inv h
    simp at e
    subst e
    exact ⟨v, rfl, h2⟩
  | d :: ds, vs, i + 1, d', h, e => by
    obtain ⟨v, r, rfl, h2, h3⟩ := denL_inv h
    obtain ⟨u, h4, h5⟩ := denL_get (i := i) h3 (by simpa using e)
    exact ⟨u, by simpa using h4, h5⟩
theorem denL_getV : ∀ {ds : List D} {vs : List V} {i : Nat} {v : V}, DenL K H ds vs → vs[i]? = some v → ∃ d, ds[i]? = some d ∧ Den K H d v
  | [], vs, i, _, h, e => by
    rw [denL_inv0 h] at e
    simp at e
  | d :: ds, vs, 0, v', h, e => by
    obtain ⟨v, r, rfl, h2, h3⟩ := denL_inv h
    simp at e
    subst e
    exact ⟨d, rfl, h2⟩
  | d :: ds, vs, i + 1, d', h, e => by
    obtain ⟨v, r, rfl, h2, h3⟩ := denL_inv h
    obtain ⟨u, h4, h5⟩ := denL_getV (i := i) h3 (by simpa using e)
    exact ⟨u, by simpa using h4, h5⟩
theorem denL_set : ∀ {ds : List D} {vs : List V} {i : Nat} {d : D} {v : V}, DenL K H ds vs → Den K H d v → DenL K H (ds.set i d) (vs.set i v)
  | [], _, i, _, _, h, _ => by
    rw [denL_inv0 h]
    exact denL_nil
  | d :: ds, vs, 0, d', _, h, e => by
    obtain ⟨v, r, rfl, h2, h3⟩ := denL_inv h
    exact denL_cons e h3
  | d :: ds, vs, i + 1, d', _, h, e => by
    obtain ⟨v, r, rfl, h2, h3⟩ := denL_inv h
    exact denL_cons h2 (denL_set h3 e)
theorem denL_take : ∀ {ds : List D} {vs : List V} (n : Nat), DenL K H ds vs → DenL K H (ds.take n) (vs.take n)
  | ds, vs, 0, h => by simpa using denL_nil
  | [], vs, n + 1, h => by
    rw [denL_inv0 h]
    exact denL_nil
  | d :: ds, vs, n + 1, h => by
    obtain ⟨v, r, rfl, h2, h3⟩ := denL_inv h
    exact denL_cons h2 (denL_take n h3)
theorem denL_drop : ∀ {ds : List D} {vs : List V} (n : Nat), DenL K H ds vs → DenL K H (ds.drop n) (vs.drop n)
  | ds, vs, 0, h => by simpa using h
  | [], vs, n + 1, h => by
    rw [denL_inv0 h]
    exact denL_nil
  | d :: ds, vs, n + 1, h => by
    obtain ⟨v, r, rfl, h2, h3⟩ := denL_inv h
    exact denL_drop n h3
theorem denL_ints : ∀ {ns : List Int} {vs : List V}, DenL K H (ns.map D.int) vs → vs = ns.map V.int
  | [], vs, h => denL_inv0 h
  | n :: ns, vs, h => by
    obtain ⟨v, r, rfl, h2, h3⟩ := denL_inv h
    rw [denL_ints h3]
    simp only [Den] at h2
    rw [h2]
    rfl
theorem denL_bls : ∀ {ns : List Bool} {vs : List V}, DenL K H (ns.map D.bl) vs → vs = ns.map V.bl
  | [], vs, h => denL_inv0 h
  | n :: ns, vs, h => by
    obtain ⟨v, r, rfl, h2, h3⟩ := denL_inv h
    rw [denL_bls h3]
    simp only [Den] at h2
    rw [h2]
    rfl
theorem denL_strs : ∀ {ns : List Str} {vs : List V}, DenL K H (ns.map D.str) vs → vs = ns.map V.str
  | [], vs, h => denL_inv0 h
  | n :: ns, vs, h => by
    obtain ⟨v, r, rfl, h2, h3⟩ := denL_inv h
    rw [denL_strs h3]
    simp only [Den] at h2
    rw [h2]
    rfl
theorem den_int {i : Int} {v : V} (h : Den K H (.int i) v) : v = .int i := by simpa only [Den] using h
theorem den_bl {i : Bool} {v : V} (h : Den K H (.bl i) v) : v = .bl i := by simpa only [Den] using h
theorem den_str {i : Str} {v : V} (h : Den K H (.str i) v) : v = .str i := by simpa only [Den] using h
theorem den_non {v : V} (h : Den K H .non v) : v = .non := by simpa only [Den] using h
theorem den_fn {a : Addr} {v : V} (h : Den K H (.fn a) v) : v = .ref a := by simpa only [Den] using h
theorem den_lst {xs : List D} {v : V} (h : Den K H (.lst xs) v) : ∃ a vs, v = .ref a ∧ H a = some (.lst vs) ∧ DenL K H xs vs := by simpa only [Den] using h
theorem den_tup {xs : List D} {v : V} (h : Den K H (.tup xs) v) : ∃ a vs, v = .ref a ∧ H a = some (.tup vs) ∧ DenL K H xs vs := by simpa only [Den] using h
theorem den_obj {C : Addr} {ns : List Str} {xs : List D} {v : V} (h : Den K H (.obj C ns xs) v) : ∃ a dx vs, v = .ref a ∧ H a = some (.ins C dx (ns.zip vs)) ∧ ns.length = vs.length ∧ DenL K H xs vs := by simpa only [Den] using h
theorem den_scr {xs : List Int} {v : V} (h : Den K H (.scr xs) v) : ∃ a, v = .ref a ∧ SqL K H a (xs.map V.int) := by simpa only [Den] using h
theorem mk_int (i : Int) : Den K H (.int i) (.int i) := by simp only [Den]
theorem mk_bl (i : Bool) : Den K H (.bl i) (.bl i) := by simp only [Den]
theorem mk_str (i : Str) : Den K H (.str i) (.str i) := by simp only [Den]
theorem mk_non : Den K H .non .non := by simp only [Den]
theorem den_emp {v : V} (h : Den K H .emp v) : ∃ a, v = .ref a ∧ H a = some (.dK []) := by simpa only [Den] using h
theorem mk_fn (a : Addr) : Den K H (.fn a) (.ref a) := by simp only [Den]
theorem mk_ty (a : String) : Den K H (.ty a) (.ty a) := by simp only [Den]
theorem mk_lst {a : Addr} {vs : List V} {xs : List D} (h : H a = some (.lst vs)) (t : DenL K H xs vs) : Den K H (.lst xs) (.ref a) := by
  simp only [Den]
  exact ⟨a, vs, rfl, h, t⟩
theorem mk_tup {a : Addr} {vs : List V} {xs : List D} (h : H a = some (.tup vs)) (t : DenL K H xs vs) : Den K H (.tup xs) (.ref a) := by
  simp only [Den]
  exact ⟨a, vs, rfl, h, t⟩
theorem mk_obj {a C dx : Addr} {ns : List Str} {vs : List V} {xs : List D} (h : H a = some (.ins C dx (ns.zip vs))) (l : ns.length = vs.length) (t : DenL K H xs vs) : Den K H (.obj C ns xs) (.ref a) := by
  simp only [Den]
  exact ⟨a, dx, vs, rfl, h, l, t⟩

/-! ### growth: B the data's heap, H the whole one -/
structure Gr (B H B' H' : Hp) : Prop where
  eb : Ex B B'
  eh : Ex H H'
  sub : Ex B' H'
  out : ∀ p, B p = none → H p ≠ none → B' p = none
theorem Gr.refl (h : Ex B H) : Gr B H B H := ⟨Ex.refl _, Ex.refl _, h, fun _ h _ => h⟩
theorem Gr.trans (a : Gr B H B' H') (b : Gr B' H' B'' H'') : Gr B H B'' H'' :=
  ⟨a.eb.trans b.eb, a.eh.trans b.eh, b.sub, fun p h1 h2 => b.out p (a.out p h1 h2) fun z => h2 (fresh_back a.eh z)⟩
theorem Gr.back (a : Gr B H B' H') {p : Addr} (h : H' p = none) : H p = none := fresh_back a.eh h
/-- a new object at p becomes data -/
theorem Gr.fz {p : Addr} {o : HO} (a : Gr B H B' H') (s : Ex B H) (h0 : H p = none) (h1 : B' p = none) (h2 : H' p = some o) : Gr B H (upd B' p o) H' := by
  refine ⟨fun q u e => ?_, a.eh, fun q u e => ?_, fun q e1 e2 => ?_⟩
  · rw [upd_ne (ne_of_none (s q u e) h0)]
    exact a.eb q u e
  · by_cases z : q = p
    · subst z
      rw [upd_same] at e
      cases e
      exact h2
    · rw [upd_ne z] at e
      exact a.sub q u e
  · have z : q ≠ p := fun z => e2 (by rw [z]; exact h0)
    rw [upd_ne z]
    exact a.out q e1 e2
theorem ex_upd {p : Addr} {o : HO} (h : B p = none) : Ex B (upd B p o) := Ex.new h
/-- a new object p is laid (into H alone) -/
theorem Gr.lay {p : Addr} {o : HO} (s : Ex B H) (h0 : H p = none) : Gr B H B (upd H p o) :=
  ⟨Ex.refl _, Ex.new h0, s.trans (Ex.new h0), fun _ h _ => h⟩
/-- .. as data -/
theorem Gr.layB {p : Addr} {o : HO} (s : Ex B H) (h0 : H p = none) : Gr B H (upd B p o) (upd H p o) :=
  (Gr.lay s h0).fz s h0 (fresh_back s h0) upd_same

/-! ### results -/
inductive Rs where
  | dat (d : D) | new (xs : List D) | exc (C : Addr) | frs (d : D)
/-- a heap of new objects alone -/
def New (N H : Hp) : Prop := ∀ p o, N p = some o → H p = none
def Post (K : PySem.W.Frag) (E : XK) (B H : Hp) (Q : VK) : Rs → Prop
  | .dat d => ∀ v B' H', Gr B H B' H' → Den K B' d v → Q v H'
  | .new xs => ∀ p vs B' H', Gr B H B' H' → H p = none → B' p = none → H' p = some (.lst vs) → DenL K B' xs vs → Q (.ref p) H'
  | .exc C => ∀ B' H', Gr B H B' H' → E (.ref C) none H'
  | .frs d => ∀ v N B' H', Gr B H B' H' → Ex N B' → New N H → Den K N d v → Q v H'
theorem Post.shift {E : XK} {Q : VK} {r : Rs} (g : Gr B H B' H') (h : Post K E B H Q r) : Post K E B' H' Q r := by
  cases r with
  | dat d => exact fun v B2 H2 g2 => h v B2 H2 (g.trans g2)
  | new xs => exact fun p vs B2 H2 g2 h0 => h p vs B2 H2 (g.trans g2) (g.back h0)
  | exc C => exact fun B2 H2 g2 => h B2 H2 (g.trans g2)
  | frs d => exact fun v N B2 H2 g2 e n => h v N B2 H2 (g.trans g2) e fun p o z => g.back (n p o z)
/-- a promise by its data: f (arguments) (result) -/
def SpR (K : PySem.W.Frag) (f : List D → Rs → Prop) : Sp := fun vs H Q E => ∃ B ds r, Ex B H ∧ DenL K B ds vs ∧ f ds r ∧ Post K E B H Q r

/-! ### states -/
inductive Sl where
  | un | fz (d : D) | ow (xs : List D) | ob (p0 C : Addr) (ns : List Str) (ds : List D) | rg (N : Hp) (d : D)
/-- one's own list, one's own object -/
def Sl.own : Sl → Bool
  | .ow _ => true | .ob _ _ _ _ => true | _ => false
structure SD (K : PySem.W.Frag) (B0 H0 B H : Hp) (σ : L2.St) (sl : List Sl) : Prop where
  gr : Gr B0 H0 B H
  len : σ.length = sl.length
  fz : ∀ (i : Nat) (d : D), sl[i]? = some (.fz d) → ∃ v, σ[i]? = some (some v) ∧ Den K B d v
  ow : ∀ (i : Nat) (xs : List D), sl[i]? = some (.ow xs) → ∃ p vs, σ[i]? = some (some (.ref p)) ∧ H0 p = none ∧ B p = none ∧ H p = some (.lst vs) ∧ DenL K B xs vs
  ob : ∀ (i : Nat) (p0 C : Addr) (ns : List Str) (ds : List D), sl[i]? = some (.ob p0 C ns ds) → ∃ p dx vs, (σ[i]? = some (some (.ref p)) ∧ p = p0) ∧ H0 p = none ∧ B p = none ∧ H p = some (.ins C dx (ns.zip vs)) ∧ ns.length = vs.length ∧ ∃ N, Ex N B ∧ New N H0 ∧ DenL K N ds vs
  ap : ∀ (i j : Nat) (xs ys : List D) (p : Addr), sl[i]? = some (.ow xs) → sl[j]? = some (.ow ys) → σ[i]? = some (some (.ref p)) → σ[j]? = some (some (.ref p)) → i = j
  rg : ∀ (i : Nat) (N : Hp) (d : D), sl[i]? = some (.rg N d) → ∃ v, σ[i]? = some (some v) ∧ New N H0 ∧ (∀ p o, N p = some o → B p = none) ∧ Ex N H ∧ Den K N d v ∧ ∀ (j : Nat) (x : Sl) (p : Addr), sl[j]? = some x → x.own = true → σ[j]? = some (some (.ref p)) → N p = none
end

section
variable {K : PySem.W.Frag} {B0 H0 B H B' H' : Hp} {σ : L2.St} {sl : List Sl}
theorem SD.sub (s : SD K B0 H0 B H σ sl) : Ex B H := s.gr.sub
theorem SD.grow (s : SD K B0 H0 B H σ sl) (g : Gr B H B' H') : SD K B0 H0 B' H' σ sl := by
  refine ⟨s.gr.trans g, s.len, fun i d h => ?_, fun i xs h => ?_, fun i p0 C ns ds h => ?_, s.ap, fun i N d h => ?_⟩
  · obtain ⟨v, h1, h2⟩ := s.fz i d h
    exact ⟨v, h1, den_mono g.eb h2⟩
  · obtain ⟨p, vs, h1, h2, h3, h4, h5⟩ := s.ow i xs h
    exact ⟨p, vs, h1, h2, g.out p h3 (by rw [h4]; simp), g.eh p _ h4, denL_mono g.eb h5⟩
  · obtain ⟨p, dx, vs, h1, h2, h3, h4, h6, h5⟩ := s.ob i p0 C ns ds h
    obtain ⟨N, n1, n2, n3⟩ := h5
    exact ⟨p, dx, vs, h1, h2, g.out p h3 (by rw [h4]; simp), g.eh p _ h4, h6, N, n1.trans g.eb, n2, n3⟩
  · obtain ⟨v, h1, h2, h3, h4, h5, h6⟩ := s.rg i N d h
    exact ⟨v, h1, h2, fun p o z => g.out p (h3 p o z) (by rw [h4 p o z]; simp), h4.trans g.eh, h5, h6⟩
/-- what may be forgotten -/
def Fgt (sl sl' : List Sl) : Prop := sl.length = sl'.length ∧ ∀ i : Nat, sl'[i]? = some .un ∨ sl'[i]? = sl[i]?
theorem Fgt.refl (sl : List Sl) : Fgt sl sl := ⟨rfl, fun _ => .inr rfl⟩
theorem Fgt.nil : Fgt [] [] := Fgt.refl []
theorem Fgt.keep {a : Sl} {l l' : List Sl} (h : Fgt l l') : Fgt (a :: l) (a :: l') := ⟨by simp [h.1], fun i => by
  cases i with
  | zero => exact .inr rfl
  | succ i => simpa using h.2 i⟩
theorem Fgt.drop {a : Sl} {l l' : List Sl} (h : Fgt l l') : Fgt (a :: l) (.un :: l') := ⟨by simp [h.1], fun i => by
  cases i with
  | zero => exact .inl rfl
  | succ i => simpa using h.2 i⟩
theorem SD.fgt {sl' : List Sl} (s : SD K B0 H0 B H σ sl) (f : Fgt sl sl') : SD K B0 H0 B H σ sl' := by
  have k : ∀ (i : Nat) (x : Sl), x ≠ .un → sl'[i]? = some x → sl[i]? = some x := fun i x hx h => by
    rcases f.2 i with z | z
    · rw [z] at h
      exact absurd (Option.some.inj h).symm hx
    · rw [← z]
      exact h
  exact ⟨s.gr, s.len.trans f.1, fun i d h => s.fz i d (k i _ (by simp) h), fun i xs h => s.ow i xs (k i _ (by simp) h), fun i p0 C ns ds h => s.ob i p0 C ns ds (k i _ (by simp) h),
    fun i j xs ys p h1 h2 => s.ap i j xs ys p (k i _ (by simp) h1) (k j _ (by simp) h2), fun i N d h => by
      obtain ⟨v, h1, h2, h3, h4, h5, h6⟩ := s.rg i N d (k i _ (by simp) h)
      exact ⟨v, h1, h2, h3, h4, h5, fun j x p e1 e2 e3 => h6 j x p (k j x (fun z => by rw [z] at e2; cases e2) e1) e2 e3⟩⟩
theorem SD.setFz {i : Nat} {d : D} {v : V} (s : SD K B0 H0 B H σ sl) (h : Den K B d v) : SD K B0 H0 B H (σ.set i (some v)) (sl.set i (.fz d)) := by
  have ne : ∀ (j : Nat) (x : Sl), (∀ d, x ≠ .fz d) → (sl.set i (.fz d))[j]? = some x → j ≠ i ∧ sl[j]? = some x := fun j x hx e => by
    by_cases z : j = i
    · subst z
      by_cases hl : j < sl.length
      · rw [List.getElem?_set_self hl] at e
        exact absurd (Option.some.inj e).symm (hx d)
      · rw [List.getElem?_eq_none (by simpa using hl)] at e
        cases e
    · exact ⟨z, by rw [List.getElem?_set_ne (Ne.symm z)] at e; exact e⟩
  refine ⟨s.gr, by simpa using s.len, fun j d' e => ?_, fun j xs e => ?_, fun j p0 C ns ds e => ?_, fun j k xs ys p e1 e2 e3 e4 => ?_, fun j N d' e => ?_⟩
  · by_cases z : j = i
    · subst z
      by_cases hl : j < sl.length
      · rw [List.getElem?_set_self hl] at e
        cases e
        exact ⟨v, by rw [List.getElem?_set_self (by rw [s.len]; exact hl)], h⟩
      · rw [List.getElem?_eq_none (by simpa using hl)] at e
        cases e
    · rw [List.getElem?_set_ne (Ne.symm z)] at e ⊢
      exact s.fz j d' e
  · obtain ⟨z, e⟩ := ne j _ (by simp) e
    rw [List.getElem?_set_ne (Ne.symm z)]
    exact s.ow j xs e
  · obtain ⟨z, e⟩ := ne j _ (by simp) e
    rw [List.getElem?_set_ne (Ne.symm z)]
    exact s.ob j p0 C ns ds e
  · obtain ⟨z1, e1⟩ := ne j _ (by simp) e1
    obtain ⟨z2, e2⟩ := ne k _ (by simp) e2
    rw [List.getElem?_set_ne (Ne.symm z1)] at e3
    rw [List.getElem?_set_ne (Ne.symm z2)] at e4
    exact s.ap j k xs ys p e1 e2 e3 e4
  · obtain ⟨z, e⟩ := ne j _ (by simp) e
    obtain ⟨v', h1, h2, h3, h4, h5, h6⟩ := s.rg j N _ e
    refine ⟨v', by rw [List.getElem?_set_ne (Ne.symm z)]; exact h1, h2, h3, h4, h5, fun k x p e1 e2 e3 => ?_⟩
    obtain ⟨z1, e1⟩ := ne k x (by cases x <;> first | (simp [Sl.own] at e2; done) | simp) e1
    rw [List.getElem?_set_ne (Ne.symm z1)] at e3
    exact h6 k x p e1 e2 e3
theorem SD.setUn {i : Nat} {v : Option V} (s : SD K B0 H0 B H σ sl) : SD K B0 H0 B H (σ.set i v) (sl.set i .un) := by
  have ne : ∀ (j : Nat) (x : Sl), x ≠ .un → (sl.set i .un)[j]? = some x → j ≠ i ∧ sl[j]? = some x := fun j x hx e => by
    by_cases z : j = i
    · subst z
      by_cases hl : j < sl.length
      · rw [List.getElem?_set_self hl] at e
        exact absurd (Option.some.inj e).symm hx
      · rw [List.getElem?_eq_none (by simpa using hl)] at e
        cases e
    · exact ⟨z, by rw [List.getElem?_set_ne (Ne.symm z)] at e; exact e⟩
  refine ⟨s.gr, by simpa using s.len, fun j d' e => ?_, fun j xs e => ?_, fun j p0 C ns ds e => ?_, fun j k xs ys p e1 e2 e3 e4 => ?_, fun j N d' e => ?_⟩
  · obtain ⟨z, e⟩ := ne j _ (by simp) e
    rw [List.getElem?_set_ne (Ne.symm z)]
    exact s.fz j _ e
  · obtain ⟨z, e⟩ := ne j _ (by simp) e
    rw [List.getElem?_set_ne (Ne.symm z)]
    exact s.ow j xs e
  · obtain ⟨z, e⟩ := ne j _ (by simp) e
    rw [List.getElem?_set_ne (Ne.symm z)]
    exact s.ob j p0 C ns ds e
  · obtain ⟨z1, e1⟩ := ne j _ (by simp) e1
    obtain ⟨z2, e2⟩ := ne k _ (by simp) e2
    rw [List.getElem?_set_ne (Ne.symm z1)] at e3
    rw [List.getElem?_set_ne (Ne.symm z2)] at e4
    exact s.ap j k xs ys p e1 e2 e3 e4
  · obtain ⟨z, e⟩ := ne j _ (by simp) e
    obtain ⟨v', h1, h2, h3, h4, h5, h6⟩ := s.rg j N _ e
    refine ⟨v', by rw [List.getElem?_set_ne (Ne.symm z)]; exact h1, h2, h3, h4, h5, fun k x p e1 e2 e3 => ?_⟩
    obtain ⟨z1, e1⟩ := ne k x (by cases x <;> first | (simp [Sl.own] at e2; done) | simp) e1
    rw [List.getElem?_set_ne (Ne.symm z1)] at e3
    exact h6 k x p e1 e2 e3
/-- a list of one's own comes to slot i: p is new to all that stood ahead -/
theorem SD.setOw {i : Nat} {p : Addr} {vs : List V} {xs : List D} (s : SD K B0 H0 B H σ sl) (h0 : H0 p = none) (h1 : B p = none) (h2 : H p = some (.lst vs)) (h3 : DenL K B xs vs)
    (hn : ∀ (j : Nat) (ys : List D), j ≠ i → sl[j]? = some (.ow ys) → σ[j]? ≠ some (some (.ref p))) (hr : ∀ (j : Nat) (N : Hp) (d : D), sl[j]? = some (.rg N d) → ∃ v, σ[j]? = some (some v) ∧ New N H0 ∧ (∀ p o, N p = some o → B p = none) ∧ Ex N H ∧ Den K N d v ∧ (∀ (j : Nat) (x : Sl) (p : Addr), sl[j]? = some x → x.own = true → σ[j]? = some (some (.ref p)) → N p = none) ∧ N p = none) : SD K B0 H0 B H (σ.set i (some (.ref p))) (sl.set i (.ow xs)) := by
  have at_ : ∀ (j : Nat) (x : Sl), (sl.set i (.ow xs))[j]? = some x → (j = i ∧ x = .ow xs ∧ (σ.set i (some (V.ref p)))[j]? = some (some (.ref p))) ∨ (j ≠ i ∧ sl[j]? = some x ∧ (σ.set i (some (V.ref p)))[j]? = σ[j]?) := fun j x e => by
    by_cases z : j = i
    · subst z
      by_cases hl : j < sl.length
      · rw [List.getElem?_set_self hl] at e
        exact .inl ⟨rfl, (Option.some.inj e).symm, by rw [List.getElem?_set_self (by rw [s.len]; exact hl)]⟩
      · rw [List.getElem?_eq_none (by simpa using hl)] at e
        cases e
    · rw [List.getElem?_set_ne (Ne.symm z)] at e
      exact .inr ⟨z, e, by rw [List.getElem?_set_ne (Ne.symm z)]⟩
  refine ⟨s.gr, by simpa using s.len, fun j d' e => ?_, fun j ys e => ?_, fun j p0 C ns ds e => ?_, fun j k ys zs q e1 e2 e3 e4 => ?_, fun j N d' e => ?_⟩
  · rcases at_ j _ e with ⟨_, z, _⟩ | ⟨_, z, w⟩
    · cases z
    · rw [w]
      exact s.fz j _ z
  · rcases at_ j _ e with ⟨_, z, w⟩ | ⟨_, z, w⟩
    · cases z
      rw [w]
      exact ⟨p, vs, rfl, h0, h1, h2, h3⟩
    · rw [w]
      exact s.ow j _ z
  · rcases at_ j _ e with ⟨_, z, _⟩ | ⟨_, z, w⟩
    · cases z
    · rw [w]
      exact s.ob j _ _ _ _ z
  · rcases at_ j _ e1 with ⟨a1, z1, w1⟩ | ⟨a1, z1, w1⟩
    · rcases at_ k _ e2 with ⟨a2, z2, w2⟩ | ⟨a2, z2, w2⟩
      · rw [a1, a2]
      · rw [w1] at e3
        cases e3
        rw [w2] at e4
        exact absurd e4 (hn k zs a2 z2)
    · rcases at_ k _ e2 with ⟨a2, z2, w2⟩ | ⟨a2, z2, w2⟩
      · rw [w2] at e4
        cases e4
        rw [w1] at e3
        exact absurd e3 (hn j ys a1 z1)
      · rw [w1] at e3
        rw [w2] at e4
        exact s.ap j k ys zs q z1 z2 e3 e4
  · rcases at_ j _ e with ⟨_, z, _⟩ | ⟨_, z, w⟩
    · cases z
    · obtain ⟨v', g1, g2, g3, g4, g5, g6, g7⟩ := hr j _ _ z
      refine ⟨v', by rw [w]; exact g1, g2, g3, g4, g5, fun k x q e1 e2 e3 => ?_⟩
      rcases at_ k _ e1 with ⟨a1, z1, w1⟩ | ⟨a1, z1, w1⟩
      · rw [w1] at e3
        cases e3
        exact g7
      · rw [w1] at e3
        exact g6 k x q z1 e2 e3
/-- a new list (new to H, where the state stood) -/
theorem SD.setNew {i : Nat} {p : Addr} {vs : List V} {xs : List D} (s : SD K B0 H0 B H σ sl) (g : Gr B H B' H') (h0 : H p = none) (h1 : B' p = none) (h2 : H' p = some (.lst vs)) (h3 : DenL K B' xs vs) :
    SD K B0 H0 B' H' (σ.set i (some (.ref p))) (sl.set i (.ow xs)) :=
  (s.grow g).setOw (s.gr.back h0) h1 h2 h3 (fun j ys _ e z => by
    obtain ⟨q, us, e1, _, _, e2, _⟩ := s.ow j ys e
    rw [z] at e1
    cases e1
    rw [h0] at e2
    cases e2) fun j N d e => by
    obtain ⟨v, g1, g2, g3, g4, g5, g6⟩ := s.rg j N d e
    exact ⟨v, g1, g2, fun q o z => g.out q (g3 q o z) (by rw [g4 q o z]; simp), g4.trans g.eh, g5, g6, fresh_back g4 h0⟩
/-- one's own list at slot i is changed -/
theorem SD.mut {i : Nat} {p : Addr} {xs ys : List D} {us : List V} (s : SD K B0 H0 B H σ sl) (hi : sl[i]? = some (.ow xs)) (hp : σ[i]? = some (some (.ref p))) (h3 : DenL K B ys us) :
    SD K B0 H0 B (upd H p (.lst us)) σ (sl.set i (.ow ys)) := by
  obtain ⟨q, vs, e1, e2, e3, e4, e5⟩ := s.ow i xs hi
  rw [hp] at e1
  cases e1
  have hl : i < sl.length := (List.getElem?_eq_some_iff.mp hi).1
  have nb : ∀ a o, B a = some o → a ≠ p := fun a o h z => by
    rw [z, e3] at h
    cases h
  have at_ : ∀ (j : Nat) (x : Sl), (sl.set i (.ow ys))[j]? = some x → (j = i ∧ x = .ow ys) ∨ (j ≠ i ∧ sl[j]? = some x) := fun j x e => by
    by_cases z : j = i
    · subst z
      rw [List.getElem?_set_self hl] at e
      exact .inl ⟨rfl, (Option.some.inj e).symm⟩
    · rw [List.getElem?_set_ne (Ne.symm z)] at e
      exact .inr ⟨z, e⟩
  refine ⟨⟨s.gr.eb, fun a o h => ?_, fun a o h => ?_, s.gr.out⟩, by simpa using s.len, fun j d' e => ?_, fun j zs e => ?_, fun j p0 C ns ds e => ?_, fun j k zs ws r f1 f2 f3 f4 => ?_, fun j N d' e => ?_⟩
  · rw [upd_ne (ne_of_none h e2)]
    exact s.gr.eh a o h
  · rw [upd_ne (nb a o h)]
    exact s.gr.sub a o h
  · rcases at_ j _ e with ⟨_, z⟩ | ⟨_, z⟩
    · cases z
    · exact s.fz j _ z
  · rcases at_ j _ e with ⟨a, z⟩ | ⟨a, z⟩
    · cases z
      subst a
      exact ⟨p, us, hp, e2, e3, upd_same, h3⟩
    · obtain ⟨r, ws, f1, f2, f3, f4, f5⟩ := s.ow j zs z
      refine ⟨r, ws, f1, f2, f3, ?_, f5⟩
      rw [upd_ne]
      · exact f4
      · rintro rfl
        exact a (s.ap j i zs xs r z hi f1 hp)
  · rcases at_ j _ e with ⟨_, z⟩ | ⟨_, z⟩
    · cases z
    · obtain ⟨r, dx, ws, f1, f2, f3, f4, f6, f5⟩ := s.ob j _ _ _ _ z
      refine ⟨r, dx, ws, f1, f2, f3, ?_, f6, f5⟩
      rw [upd_ne]
      · exact f4
      · rintro rfl
        rw [e4] at f4
        cases f4
  · have g1 : ∃ xs', sl[j]? = some (.ow xs') := by
      rcases at_ j _ f1 with ⟨a, _⟩ | ⟨_, z⟩
      · exact ⟨xs, by rw [a]; exact hi⟩
      · exact ⟨zs, z⟩
    have g2 : ∃ xs', sl[k]? = some (.ow xs') := by
      rcases at_ k _ f2 with ⟨a, _⟩ | ⟨_, z⟩
      · exact ⟨xs, by rw [a]; exact hi⟩
      · exact ⟨ws, z⟩
    obtain ⟨x1, g1⟩ := g1
    obtain ⟨x2, g2⟩ := g2
    exact s.ap j k x1 x2 r g1 g2 f3 f4
  · rcases at_ j _ e with ⟨_, z⟩ | ⟨_, z⟩
    · cases z
    · obtain ⟨v', g1, g2, g3, g4, g5, g6⟩ := s.rg j N _ z
      refine ⟨v', g1, g2, g3, fun a o h => ?_, g5, fun k x q f1 f2 f3 => ?_⟩
      · have np : N p = none := g6 i _ p hi rfl hp
        rw [upd_ne (ne_of_none h np)]
        exact g4 a o h
      · rcases at_ k _ f1 with ⟨a, _⟩ | ⟨_, w⟩
        · subst a
          exact g6 k _ q hi rfl f3
        · exact g6 k x q w f2 f3
/-- one's own list becomes data -/
theorem SD.fix {i : Nat} {xs : List D} (s : SD K B0 H0 B H σ sl) (hi : sl[i]? = some (.ow xs)) : ∃ B', Ex B B' ∧ SD K B0 H0 B' H σ (sl.set i (.fz (.lst xs))) := by
  obtain ⟨p, vs, e1, e2, e3, e4, e5⟩ := s.ow i xs hi
  have hl : i < sl.length := (List.getElem?_eq_some_iff.mp hi).1
  refine ⟨upd B p (.lst vs), Ex.new e3, ?_⟩
  have at_ : ∀ (j : Nat) (x : Sl), (sl.set i (.fz (.lst xs)))[j]? = some x → (j = i ∧ x = .fz (.lst xs)) ∨ (j ≠ i ∧ sl[j]? = some x) := fun j x e => by
    by_cases z : j = i
    · subst z
      rw [List.getElem?_set_self hl] at e
      exact .inl ⟨rfl, (Option.some.inj e).symm⟩
    · rw [List.getElem?_set_ne (Ne.symm z)] at e
      exact .inr ⟨z, e⟩
  refine ⟨⟨s.gr.eb.trans (Ex.new e3), s.gr.eh, fun a o h => ?_, fun q h1 h2 => ?_⟩, by simpa using s.len, fun j d' e => ?_, fun j zs e => ?_, fun j p0 C ns ds e => ?_, fun j k zs ws r f1 f2 f3 f4 => ?_, fun j N d' e => ?_⟩
  · by_cases z : a = p
    · subst z
      rw [upd_same] at h
      cases h
      exact e4
    · rw [upd_ne z] at h
      exact s.gr.sub a o h
  · rw [upd_ne]
    · exact s.gr.out q h1 h2
    · rintro rfl
      exact h2 e2
  · rcases at_ j _ e with ⟨a, z⟩ | ⟨_, z⟩
    · cases z
      subst a
      exact ⟨_, e1, mk_lst upd_same (denL_mono (Ex.new e3) e5)⟩
    · obtain ⟨v, f1, f2⟩ := s.fz j _ z
      exact ⟨v, f1, den_mono (Ex.new e3) f2⟩
  · rcases at_ j _ e with ⟨a, z⟩ | ⟨a, z⟩
    · cases z
    · obtain ⟨r, ws, f1, f2, f3, f4, f5⟩ := s.ow j zs z
      refine ⟨r, ws, f1, f2, ?_, f4, denL_mono (Ex.new e3) f5⟩
      rw [upd_ne]
      · exact f3
      · rintro rfl
        exact a (s.ap j i zs xs r z hi f1 e1)
  · rcases at_ j _ e with ⟨_, z⟩ | ⟨_, z⟩
    · cases z
    · obtain ⟨r, dx, ws, f1, f2, f3, f4, f6, f5⟩ := s.ob j _ _ _ _ z
      obtain ⟨N, n1, n2, n3⟩ := f5
      refine ⟨r, dx, ws, f1, f2, ?_, f4, f6, N, n1.trans (Ex.new e3), n2, n3⟩
      rw [upd_ne]
      · exact f3
      · rintro rfl
        rw [e4] at f4
        cases f4
  · rcases at_ j _ f1 with ⟨_, z⟩ | ⟨_, z1⟩
    · cases z
    · rcases at_ k _ f2 with ⟨_, z⟩ | ⟨_, z2⟩
      · cases z
      · exact s.ap j k zs ws r z1 z2 f3 f4
  · rcases at_ j _ e with ⟨_, z⟩ | ⟨_, z⟩
    · cases z
    · obtain ⟨v', g1, g2, g3, g4, g5, g6⟩ := s.rg j N _ z
      refine ⟨v', g1, g2, fun a o h => ?_, g4, g5, fun k x q f1 f2 f3 => ?_⟩
      · rw [upd_ne (ne_of_none h (g6 i _ p hi rfl e1))]
        exact g3 a o h
      · rcases at_ k _ f1 with ⟨_, z⟩ | ⟨_, w⟩
        · rw [z] at f2
          cases f2
        · exact g6 k x q w f2 f3
end
end Wv
namespace Wv
open PySem L2
open Evl (Ex fresh_back ex_l)

/-! ### what evaluates to what -/
def EvR (K : PySem.W.Frag) (E : XK) (te : TE) (sl : List Sl) (r : Rs) : Prop := ∀ B0 H0 B H σ, SD K B0 H0 B H σ sl → ∀ Q : VK, Post K E B H Q r → te σ H Q
def EvT (K : PySem.W.Frag) (tt : TT) (sl : List Sl) (b : Bool) : Prop := ∀ B0 H0 B H σ, SD K B0 H0 B H σ sl → ∀ Q : Bool → Hp → Prop, (∀ B' H', Gr B H B' H' → Q b H') → tt σ H Q
def EvA (K : PySem.W.Frag) (ta : TA) (sl : List Sl) (ds : List D) : Prop := ∀ B0 H0 B H σ, SD K B0 H0 B H σ sl → ∀ Q : List V → Hp → Prop, (∀ vs B' H', Gr B H B' H' → DenL K B' ds vs → Q vs H') → ta σ H Q
def EvO (K : PySem.W.Frag) (to : TO) (sl : List Sl) (o : Option Int) : Prop := ∀ B0 H0 B H σ, SD K B0 H0 B H σ sl → ∀ Q : Option Int → Hp → Prop, (∀ B' H', Gr B H B' H' → Q o H') → to σ H Q
def OpD (K : PySem.W.Frag) (r : R2) (x y : D) (z : Rs) : Prop := ∀ B H vx vy, Ex B H → Den K B x vx → Den K B y vy → ∀ (E : XK) (Q : VK), Post K E B H Q z → r vx vy H Q
def UnD (K : PySem.W.Frag) (r : V → Hp → VK → Prop) (x : D) (z : Rs) : Prop := ∀ B H vx, Ex B H → Den K B x vx → ∀ (E : XK) (Q : VK), Post K E B H Q z → r vx H Q
/-- a built-in by its arguments -/
def CbD (K : PySem.W.Frag) (r : List V → Hp → VK → Prop) (ds : List D) (z : Rs) : Prop := ∀ B H vs, Ex B H → DenL K B ds vs → ∀ (E : XK) (Q : VK), Post K E B H Q z → r vs H Q
/-- a built-in method -/
def MtD (K : PySem.W.Frag) (T : String) (r : V → List V → Hp → VK → Prop) (x : D) (ds : List D) (z : Rs) : Prop := ∀ B H v vs, Ex B H → Den K B x v → DenL K B ds vs → ∀ (E : XK) (Q : VK), Post K E B H Q z → tyV K T v H ∧ r v vs H Q
section
variable {K : PySem.W.Frag} {E E' : XK} {B0 H0 B H B' H' : Hp} {σ : L2.St} {sl : List Sl} {ta tb tc te : TE} {t u : TT} {x y z d : D} {xs ys ds : List D} {r r' : R2} {s : Rs} {tr : TA}
theorem post_v {v : V} {Q : VK} (g : Ex B H) (h : Post K E B H Q (.dat d)) (dv : Den K B d v) : Q v H := h v B H (Gr.refl g) dv
theorem EvR.fz (h : EvR K E te sl (.new xs)) : EvR K E te sl (.dat (.lst xs)) := fun B0 H0 B H σ s Q q => h B0 H0 B H σ s Q fun p vs B' H' g h0 h1 h2 h3 =>
  q _ _ _ (g.fz s.sub h0 h1 h2) (mk_lst upd_same (denL_mono (ex_upd h1) h3))
/-- the data of new objects is data -/
theorem EvR.ofF (h : EvR K E te sl (.frs d)) : EvR K E te sl (.dat d) := fun B0 H0 B H σ s Q q => h B0 H0 B H σ s Q fun v N B' H' g e n dv => q v B' H' g (den_mono e dv)
theorem ev_isF (h : EvR K E te sl (.frs d)) (e : d = x) : EvR K E te sl (.frs x) := by
  rw [← e]
  exact h
/-- what holds no address -/
def sca : D → Bool
  | .non => true | .bl _ => true | .int _ => true | .str _ => true | .ty _ => true | .fn _ => true | _ => false
theorem den_sca (h : sca d = true) {v : V} (e : Den K H d v) : Den K B d v := by
  cases d with
  | non => rw [den_non e]; exact mk_non
  | bl b => rw [den_bl e]; exact mk_bl b
  | int b => rw [den_int e]; exact mk_int b
  | str b => rw [den_str e]; exact mk_str b
  | ty b => simpa only [Den] using e
  | fn b => rw [den_fn e]; exact mk_fn b
  | _ => cases h
theorem denL_sca : ∀ {ds : List D} {vs : List V}, (∀ d ∈ ds, sca d = true) → DenL K H ds vs → DenL K B ds vs
  | [], _, _, h => by
    rw [denL_inv0 h]
    exact denL_nil
  | d :: ds, vs, hs, h => by
    obtain ⟨v, r, rfl, h2, h3⟩ := denL_inv h
    exact denL_cons (den_sca (hs d List.mem_cons_self) h2) (denL_sca (fun d hd => hs d (List.mem_cons_of_mem _ hd)) h3)
theorem EvR.frsS (h : EvR K E te sl (.dat d)) (hs : sca d = true) : EvR K E te sl (.frs d) := fun B0 H0 B H σ s Q q => h B0 H0 B H σ s Q fun v B' H' g dv =>
  q v (fun _ => none) B' H' g (fun _ _ z => nomatch z) (fun _ _ z => nomatch z) (den_sca hs dv)
theorem EvR.frsL (h : EvR K E te sl (.new xs)) (hs : ∀ d ∈ xs, sca d = true) : EvR K E te sl (.frs (.lst xs)) := fun B0 H0 B H σ s Q q => h B0 H0 B H σ s Q fun p vs B' H' g h0 h1 h2 h3 => by
  refine q (.ref p) (upd (fun _ => none) p (.lst vs)) _ _ (g.fz s.sub h0 h1 h2) (fun a o z => ?_) (fun a o z => ?_) (mk_lst upd_same (denL_sca hs h3))
  · by_cases e : a = p
    · subst e
      rw [upd_same] at z ⊢
      exact z
    · rw [upd_ne e] at z
      cases z
  · by_cases e : a = p
    · rw [e]
      exact h0
    · rw [upd_ne e] at z
      cases z
theorem ev_is (h : EvR K E te sl (.dat d)) (e : d = x) : EvR K E te sl (.dat x) := by
  rw [← e]
  exact h
theorem ev_isN (h : EvR K E te sl (.new xs)) (e : xs = ys) : EvR K E te sl (.new ys) := by
  rw [← e]
  exact h
theorem et_is {a b : Bool} (h : EvT K t sl a) (e : a = b) : EvT K t sl b := by
  rw [← e]
  exact h
theorem ev_var {i : Nat} (h : sl[i]? = some (.fz d)) : EvR K E (tVar i) sl (.dat d) := fun B0 H0 B H σ s Q q => by
  obtain ⟨v, h1, h2⟩ := s.fz i d h
  exact ⟨v, h1, post_v s.sub q h2⟩
theorem ev_int {i : Int} : EvR K E (tC (.int i)) sl (.dat (.int i)) := fun B0 H0 B H σ s Q q => post_v s.sub q (mk_int i)
theorem ev_bl {i : Bool} : EvR K E (tC (.bl i)) sl (.dat (.bl i)) := fun B0 H0 B H σ s Q q => post_v s.sub q (mk_bl i)
theorem ev_str {i : Str} : EvR K E (tC (.str i)) sl (.dat (.str i)) := fun B0 H0 B H σ s Q q => post_v s.sub q (mk_str i)
theorem ev_non : EvR K E (tC .non) sl (.dat .non) := fun B0 H0 B H σ s Q q => post_v s.sub q mk_non
theorem ev_fn {a : Addr} : EvR K E (tC (.ref a)) sl (.dat (.fn a)) := fun B0 H0 B H σ s Q q => post_v s.sub q (mk_fn a)
theorem ev_ty {a : String} : EvR K E (tC (.ty a)) sl (.dat (.ty a)) := fun B0 H0 B H σ s Q q => post_v s.sub q (mk_ty a)
theorem ev_op (ha : EvR K E ta sl (.dat x)) (hb : EvR K E tb sl (.dat y)) (ho : OpD K r x y s) : EvR K E (tOp r ta tb) sl s := fun B0 H0 B H σ sd Q q =>
  ha B0 H0 B H σ sd _ fun v B1 H1 g1 d1 => hb B0 H0 B1 H1 σ (sd.grow g1) _ fun w B2 H2 g2 d2 => ho B2 H2 v w g2.sub (den_mono g2.eb d1) d2 E Q ((q.shift g1).shift g2)
theorem ev_un {f : V → Hp → VK → Prop} (ha : EvR K E ta sl (.dat x)) (ho : UnD K f x s) : EvR K E (tUn f ta) sl s := fun B0 H0 B H σ sd Q q =>
  ha B0 H0 B H σ sd _ fun v B1 H1 g1 d1 => ho B1 H1 v g1.sub d1 E Q (q.shift g1)
/-! operators -/
theorem od_i {g : Int → Int → Int} {i j : Int} : OpD K (rI0 fun i j => .int (g i j)) (.int i) (.int j) (.dat (.int (g i j))) := fun B H vx vy e dx dy E Q q => by
  rw [den_int dx, den_int dy]
  exact ⟨i, j, rfl, rfl, post_v e q (mk_int _)⟩
theorem od_b {g : Int → Int → Bool} {i j : Int} : OpD K (rI0 fun i j => .bl (g i j)) (.int i) (.int j) (.dat (.bl (g i j))) := fun B H vx vy e dx dy E Q q => by
  rw [den_int dx, den_int dy]
  exact ⟨i, j, rfl, rfl, post_v e q (mk_bl _)⟩
theorem od_ic {C : Int → Int → Prop} {g : Int → Int → Int} {i j : Int} (hc : C i j) : OpD K (rI C fun i j => .int (g i j)) (.int i) (.int j) (.dat (.int (g i j))) := fun B H vx vy e dx dy E Q q => by
  rw [den_int dx, den_int dy]
  exact ⟨i, j, rfl, rfl, hc, post_v e q (mk_int _)⟩
theorem ud_i {g : Int → Int} {i : Int} : UnD K (rU fun i => .int (g i)) (.int i) (.dat (.int (g i))) := fun B H vx e dx E Q q => by
  rw [den_int dx]
  exact ⟨i, rfl, post_v e q (mk_int _)⟩
theorem od_eqI {i j : Int} : OpD K rEq (.int i) (.int j) (.dat (.bl (decide (i = j)))) := fun B H vx vy e dx dy E Q q => by
  rw [den_int dx, den_int dy]
  refine ⟨rfl, post_v e q ?_⟩
  rw [show decide (V.int i = V.int j) = decide (i = j) by simp]
  exact mk_bl _
theorem od_neI {i j : Int} : OpD K rNe (.int i) (.int j) (.dat (.bl (!decide (i = j)))) := fun B H vx vy e dx dy E Q q => by
  rw [den_int dx, den_int dy]
  refine ⟨rfl, post_v e q ?_⟩
  rw [show decide (V.int i = V.int j) = decide (i = j) by simp]
  exact mk_bl _
theorem od_eqB {i j : Bool} : OpD K rEq (.bl i) (.bl j) (.dat (.bl (decide (i = j)))) := fun B H vx vy e dx dy E Q q => by
  rw [den_bl dx, den_bl dy]
  refine ⟨rfl, post_v e q ?_⟩
  rw [show decide (V.bl i = V.bl j) = decide (i = j) by simp]
  exact mk_bl _
theorem od_neB {i j : Bool} : OpD K rNe (.bl i) (.bl j) (.dat (.bl (!decide (i = j)))) := fun B H vx vy e dx dy E Q q => by
  rw [den_bl dx, den_bl dy]
  refine ⟨rfl, post_v e q ?_⟩
  rw [show decide (V.bl i = V.bl j) = decide (i = j) by simp]
  exact mk_bl _
theorem od_eqS {i j : Str} : OpD K rEq (.str i) (.str j) (.dat (.bl (decide (i = j)))) := fun B H vx vy e dx dy E Q q => by
  rw [den_str dx, den_str dy]
  refine ⟨rfl, post_v e q ?_⟩
  rw [show decide (V.str i = V.str j) = decide (i = j) by simp]
  exact mk_bl _
theorem od_neS {i j : Str} : OpD K rNe (.str i) (.str j) (.dat (.bl (!decide (i = j)))) := fun B H vx vy e dx dy E Q q => by
  rw [den_str dx, den_str dy]
  refine ⟨rfl, post_v e q ?_⟩
  rw [show decide (V.str i = V.str j) = decide (i = j) by simp]
  exact mk_bl _
/-! an item -/
theorem atI_of {α : Type} {xs : List α} {i : Int} {v : α} (h0 : 0 ≤ i) (h : xs[i.toNat]? = some v) : atI xs i = some v := by
  have e : i = ((i.toNat : Nat) : Int) := by omega
  rw [e]
  exact atI_nat h
theorem od_ixL {i : Int} (h0 : 0 ≤ i) (h : xs[i.toNat]? = some d) : OpD K (rIxL K) (.lst xs) (.int i) (.dat d) := fun B H vx vy e dx dy E Q q => by
  obtain ⟨a, vs, rfl, h1, h2⟩ := den_lst dx
  rw [den_int dy]
  obtain ⟨v, h3, h4⟩ := denL_get h2 h
  exact ⟨a, vs, i, v, rfl, rfl, SqL.of (e a _ h1), atI_of h0 h3, post_v e q h4⟩
theorem od_ixT {i : Int} (h0 : 0 ≤ i) (h : xs[i.toNat]? = some d) : OpD K (rIxT K) (.tup xs) (.int i) (.dat d) := fun B H vx vy e dx dy E Q q => by
  obtain ⟨a, vs, rfl, h1, h2⟩ := den_tup dx
  rw [den_int dy]
  obtain ⟨v, h3, h4⟩ := denL_get h2 h
  exact ⟨a, vs, i, v, rfl, rfl, SqT.of (e a _ h1), atI_of h0 h3, post_v e q h4⟩
theorem od_ixR {ns : List Int} {i j : Int} (h0 : 0 ≤ i) (h : ns[i.toNat]? = some j) : OpD K (rIxL K) (.scr ns) (.int i) (.dat (.int j)) := fun B H vx vy e dx dy E Q q => by
  obtain ⟨a, rfl, h1⟩ := den_scr dx
  rw [den_int dy]
  exact ⟨a, _, i, .int j, rfl, rfl, ex_l e h1, atI_of h0 (by rw [List.getElem?_map, h]; rfl), post_v e q (mk_int j)⟩
/-! lists joined -/
theorem od_cat (hz : xs.length + ys.length ≤ sizeLine) : OpD K rCat (.lst xs) (.lst ys) (.new (xs ++ ys)) := fun B H vx vy e dx dy E Q q => by
  obtain ⟨a, vs, rfl, h1, h2⟩ := den_lst dx
  obtain ⟨b, us, rfl, h3, h4⟩ := den_lst dy
  exact ⟨a, b, vs, us, rfl, rfl, e a _ h1, e b _ h3, by rw [← denL_len h2, ← denL_len h4]; exact hz, fun p hp => q p _ _ _ (Gr.lay e hp) hp (fresh_back e hp) upd_same (denL_app h2 h4)⟩
/-! membership of scalars -/
def flatD : D → Bool
  | .non => true | .bl _ => true | .int _ => true | .str _ => true | _ => false
def inI (i : Int) (ns : List Int) : Bool := ns.any fun y => decide (y = i)
theorem inV_ints (i : Int) : ∀ ns : List Int, inV (.int i) (ns.map V.int) = decide (i ∈ ns)
  | [] => by simp [inV]
  | n :: ns => by
    have ih := inV_ints i ns
    unfold inV at ih ⊢
    rw [List.map_cons, List.any_cons, ih]
    have e : eqV (.int n) (.int i) = decide (n = i) := by
      first
        | rfl
        | (unfold eqV; simp)
        | simp [eqV]
    rw [e, Bool.eq_iff_iff]
    simp only [Bool.or_eq_true, decide_eq_true_eq, List.mem_cons]
    exact ⟨fun h => h.imp Eq.symm id, fun h => h.imp Eq.symm id⟩
theorem od_inI {neg : Bool} {i : Int} {ns : List Int} : OpD K (rIn K neg) (.int i) (.lst (ns.map D.int)) (.dat (.bl (if neg then !decide (i ∈ ns) else decide (i ∈ ns)))) := fun B H vx vy e dx dy E Q q => by
  obtain ⟨a, vs, rfl, h1, h2⟩ := den_lst dy
  rw [den_int dx]
  have e1 := denL_ints h2
  subst e1
  refine ⟨a, _, rfl, .inl (SqL.of (e a _ h1)), rfl, by simp [flatV], ?_⟩
  rw [inV_ints]
  exact post_v e q (mk_bl _)
/-! == of lists of ints, of truths, of texts, of lists of ints -/
theorem dp_ints : ∀ ns : List Int, DpAll K H (ns.map V.int) (ns.map PyData.int)
  | [] => .nil
  | n :: ns => .cons (.int n) (dp_ints ns)
theorem dp_bls : ∀ ns : List Bool, DpAll K H (ns.map V.bl) (ns.map PyData.bool)
  | [] => .nil
  | n :: ns => .cons (.bl n) (dp_bls ns)
theorem lay_ints : ∀ ns : List Int, PyData.canLayAll0 (ns.map PyData.int) = true
  | [] => by simp [PyData.canLayAll0]
  | n :: ns => by simp [PyData.canLayAll0, PyData.canLay0, lay_ints ns]
theorem dep_ints : ∀ ns : List Int, PyData.depthAll (ns.map PyData.int) = 0
  | [] => by simp [PyData.depthAll]
  | n :: ns => by simp [PyData.depthAll, PyData.depth, dep_ints ns]
theorem lay_bls : ∀ ns : List Bool, PyData.canLayAll0 (ns.map PyData.bool) = true
  | [] => by simp [PyData.canLayAll0]
  | n :: ns => by simp [PyData.canLayAll0, PyData.canLay0, lay_bls ns]
theorem dep_bls : ∀ ns : List Bool, PyData.depthAll (ns.map PyData.bool) = 0
  | [] => by simp [PyData.depthAll]
  | n :: ns => by simp [PyData.depthAll, PyData.depth, dep_bls ns]
theorem sh_ints (ns : List Int) : SeqAt.shaped (.list (ns.map PyData.int)) = true := by
  unfold SeqAt.shaped
  simp [PyData.canLay0, PyData.depth, lay_ints, dep_ints]
theorem sh_bls (ns : List Bool) : SeqAt.shaped (.list (ns.map PyData.bool)) = true := by
  unfold SeqAt.shaped
  simp [PyData.canLay0, PyData.depth, lay_bls, dep_bls]
theorem eqv_ints : ∀ ns ms : List Int, PyData.eqvAll (ns.map PyData.int) (ms.map PyData.int) = decide (ns = ms)
  | [], [] => by simp [PyData.eqvAll]
  | [], _ :: _ => by simp [PyData.eqvAll]
  | _ :: _, [] => by simp [PyData.eqvAll]
  | n :: ns, m :: ms => by
    simp only [List.map_cons, PyData.eqvAll, PyData.eqv, eqv_ints ns ms]
    rw [Bool.eq_iff_iff]
    simp
theorem eqv_bls : ∀ ns ms : List Bool, PyData.eqvAll (ns.map PyData.bool) (ms.map PyData.bool) = decide (ns = ms)
  | [], [] => by simp [PyData.eqvAll]
  | [], _ :: _ => by simp [PyData.eqvAll]
  | _ :: _, [] => by simp [PyData.eqvAll]
  | n :: ns, m :: ms => by
    simp only [List.map_cons, PyData.eqvAll, PyData.eqv, eqv_bls ns ms]
    rw [Bool.eq_iff_iff]
    simp
theorem od_eqL {ns ms : List Int} : OpD K (rEqD K) (.lst (ns.map D.int)) (.lst (ms.map D.int)) (.dat (.bl (decide (ns = ms)))) := fun B H vx vy e dx dy E Q q => by
  obtain ⟨a, vs, rfl, h1, h2⟩ := den_lst dx
  obtain ⟨b, us, rfl, h3, h4⟩ := den_lst dy
  rw [denL_ints h2] at h1
  rw [denL_ints h4] at h3
  refine ⟨_, _, .lst (SqL.of (e a _ h1)) (dp_ints ns), .lst (SqL.of (e b _ h3)) (dp_ints ms), sh_ints ns, sh_ints ms, ?_⟩
  simp only [PyData.eqv, eqv_ints]
  exact post_v e q (mk_bl _)
theorem od_neL {ns ms : List Int} : OpD K (rNeD K) (.lst (ns.map D.int)) (.lst (ms.map D.int)) (.dat (.bl (!decide (ns = ms)))) := fun B H vx vy e dx dy E Q q => by
  obtain ⟨a, vs, rfl, h1, h2⟩ := den_lst dx
  obtain ⟨b, us, rfl, h3, h4⟩ := den_lst dy
  rw [denL_ints h2] at h1
  rw [denL_ints h4] at h3
  refine ⟨_, _, .lst (SqL.of (e a _ h1)) (dp_ints ns), .lst (SqL.of (e b _ h3)) (dp_ints ms), sh_ints ns, sh_ints ms, ?_⟩
  simp only [PyData.eqv, eqv_ints]
  exact post_v e q (mk_bl _)
theorem od_eqLb {ns ms : List Bool} : OpD K (rEqD K) (.lst (ns.map D.bl)) (.lst (ms.map D.bl)) (.dat (.bl (decide (ns = ms)))) := fun B H vx vy e dx dy E Q q => by
  obtain ⟨a, vs, rfl, h1, h2⟩ := den_lst dx
  obtain ⟨b, us, rfl, h3, h4⟩ := den_lst dy
  rw [denL_bls h2] at h1
  rw [denL_bls h4] at h3
  refine ⟨_, _, .lst (SqL.of (e a _ h1)) (dp_bls ns), .lst (SqL.of (e b _ h3)) (dp_bls ms), sh_bls ns, sh_bls ms, ?_⟩
  simp only [PyData.eqv, eqv_bls]
  exact post_v e q (mk_bl _)
/-! chains -/
theorem ev_chain {a b : Bool} (ha : EvR K E ta sl (.dat x)) (hb : EvR K E tb sl (.dat y)) (hc : EvR K E tc sl (.dat z)) (h1 : OpD K r x y (.dat (.bl a))) (h2 : OpD K r' y z (.dat (.bl b))) : EvR K E (tChain r r' ta tb tc) sl (.dat (.bl (a && b))) := fun B0 H0 B H σ sd Q q =>
  ha B0 H0 B H σ sd _ fun v B1 H1 g1 d1 => hb B0 H0 B1 H1 σ (sd.grow g1) _ fun w B2 H2 g2 d2 => h1 B2 H2 v w g2.sub (den_mono g2.eb d1) d2 E _ fun k B3 H3 g3 d3 => by
    rw [den_bl d3]
    refine ⟨a, rfl, ?_⟩
    cases a with
    | true =>
      rw [if_pos rfl]
      exact hc B0 H0 B3 H3 σ (((sd.grow g1).grow g2).grow g3) _ fun u B4 H4 g4 d4 => h2 B4 H4 w u g4.sub (den_mono (g3.eb.trans g4.eb) d2) d4 E Q (((q.shift g1).shift g2).shift g3 |>.shift g4)
    | false =>
      rw [if_neg Bool.false_ne_true]
      exact post_v g3.sub (((q.shift g1).shift g2).shift g3) (mk_bl _)
/-! tests -/
theorem et_test {b : Bool} (h : EvR K E0 te sl (.dat (.bl b))) : EvT K (tTest te) sl b := fun B0 H0 B H σ sd Q q => h B0 H0 B H σ sd _ fun v B1 H1 g1 d1 => ⟨b, den_bl d1, q _ _ g1⟩
theorem et_B {b : Bool} (h : EvR K E0 te sl (.dat (.bl b))) : EvT K (tB te) sl b := fun B0 H0 B H σ sd Q q => h B0 H0 B H σ sd _ fun v B1 H1 g1 d1 => ⟨b, den_bl d1, q _ _ g1⟩
theorem et_yes : EvT K tYes sl true := fun B0 H0 B H σ sd Q q => q B H (Gr.refl sd.sub)
theorem et_and {a b : Bool} (h1 : EvT K t sl a) (h2 : a = true → EvT K u sl b) : EvT K (tAnd t u) sl (a && b) := fun B0 H0 B H σ sd Q q => h1 B0 H0 B H σ sd _ fun B1 H1 g1 => by
  cases a with
  | true =>
    rw [if_pos rfl]
    exact h2 rfl B0 H0 B1 H1 σ (sd.grow g1) Q fun B2 H2 g2 => q _ _ (g1.trans g2)
  | false =>
    rw [if_neg Bool.false_ne_true]
    exact q _ _ g1
theorem et_or {a b : Bool} (h1 : EvT K t sl a) (h2 : a = false → EvT K u sl b) : EvT K (tOr t u) sl (a || b) := fun B0 H0 B H σ sd Q q => h1 B0 H0 B H σ sd _ fun B1 H1 g1 => by
  cases a with
  | true =>
    rw [if_pos rfl]
    exact q _ _ g1
  | false =>
    rw [if_neg Bool.false_ne_true]
    exact h2 rfl B0 H0 B1 H1 σ (sd.grow g1) Q fun B2 H2 g2 => q _ _ (g1.trans g2)
theorem et_not {a : Bool} (h1 : EvT K t sl a) : EvT K (tNot t) sl (!a) := fun B0 H0 B H σ sd Q q => h1 B0 H0 B H σ sd _ fun B1 H1 g1 => q _ _ g1
theorem ev_andV {a b : Bool} (h1 : EvR K E ta sl (.dat (.bl a))) (h2 : a = true → EvR K E tb sl (.dat (.bl b))) : EvR K E (tAndV ta tb) sl (.dat (.bl (a && b))) := fun B0 H0 B H σ sd Q q => h1 B0 H0 B H σ sd _ fun v B1 H1 g1 d1 => ⟨a, den_bl d1, by
  cases a with
  | true =>
    rw [if_pos rfl]
    exact h2 rfl B0 H0 B1 H1 σ (sd.grow g1) Q (q.shift g1)
  | false =>
    rw [if_neg Bool.false_ne_true]
    exact post_v g1.sub (q.shift g1) (mk_bl _)⟩
theorem ev_orV {a b : Bool} (h1 : EvR K E ta sl (.dat (.bl a))) (h2 : a = false → EvR K E tb sl (.dat (.bl b))) : EvR K E (tOrV ta tb) sl (.dat (.bl (a || b))) := fun B0 H0 B H σ sd Q q => h1 B0 H0 B H σ sd _ fun v B1 H1 g1 d1 => ⟨a, den_bl d1, by
  cases a with
  | true =>
    rw [if_pos rfl]
    exact post_v g1.sub (q.shift g1) (mk_bl _)
  | false =>
    rw [if_neg Bool.false_ne_true]
    exact h2 rfl B0 H0 B1 H1 σ (sd.grow g1) Q (q.shift g1)⟩
theorem ev_notV {a : Bool} (h1 : EvR K E ta sl (.dat (.bl a))) : EvR K E (tNotV ta) sl (.dat (.bl (!a))) := fun B0 H0 B H σ sd Q q => h1 B0 H0 B H σ sd _ fun v B1 H1 g1 d1 => ⟨a, den_bl d1, post_v g1.sub (q.shift g1) (mk_bl _)⟩
theorem ev_if {b : Bool} {s1 : Rs} (h : EvT K t sl b) (h1 : b = true → EvR K E ta sl s1) (h2 : b = false → EvR K E tb sl s1) : EvR K E (tIf t ta tb) sl s1 := fun B0 H0 B H σ sd Q q => h B0 H0 B H σ sd _ fun B1 H1 g1 => by
  cases b with
  | true =>
    rw [if_pos rfl]
    exact h1 rfl B0 H0 B1 H1 σ (sd.grow g1) Q (q.shift g1)
  | false =>
    rw [if_neg Bool.false_ne_true]
    exact h2 rfl B0 H0 B1 H1 σ (sd.grow g1) Q (q.shift g1)
/-! arguments -/
theorem ea_nil : EvA K tNil sl [] := fun B0 H0 B H σ sd Q q => q [] B H (Gr.refl sd.sub) denL_nil
theorem ea_cons (h : EvR K E0 ta sl (.dat x)) (hr : EvA K tr sl ds) : EvA K (tCons ta tr) sl (x :: ds) := fun B0 H0 B H σ sd Q q =>
  h B0 H0 B H σ sd _ fun v B1 H1 g1 d1 => hr B0 H0 B1 H1 σ (sd.grow g1) _ fun vs B2 H2 g2 d2 => q _ _ _ (g1.trans g2) (denL_cons (den_mono g2.eb d1) d2)
theorem ev_tup (h : EvA K tr sl ds) (hl : ds.length ≤ sizeLine) : EvR K E (tTup tr) sl (.dat (.tup ds)) := fun B0 H0 B H σ sd Q q =>
  h B0 H0 B H σ sd _ fun vs B1 H1 g1 d1 => ⟨by rw [← denL_len d1]; exact hl, fun p hp => q _ _ _ (g1.trans (Gr.layB g1.sub hp)) (mk_tup upd_same (denL_mono (ex_upd (fresh_back g1.sub hp)) d1))⟩
theorem ev_lst (h : EvA K tr sl ds) (hl : ds.length ≤ sizeLine) : EvR K E (tLst tr) sl (.new ds) := fun B0 H0 B H σ sd Q q =>
  h B0 H0 B H σ sd _ fun vs B1 H1 g1 d1 => ⟨by rw [← denL_len d1]; exact hl, fun p hp => q p vs _ _ (g1.trans (Gr.lay g1.sub hp)) (g1.back hp) (fresh_back g1.sub hp) upd_same d1⟩
/-! fields -/
theorem lk_zip : ∀ {ns : List Str} {ds : List D} {vs : List V} {f : Str}, DenL K B ds vs → (ns.zip ds).lookup f = some d → ∃ v, (ns.zip vs).lookup f = some v ∧ Den K B d v
  | [], _, _, _, _, h => by simp at h
  | n :: ns, [], _, _, _, h => by simp at h
  | n :: ns, x :: ds, vs, f, hd, h => by
    obtain ⟨v, r, rfl, h2, h3⟩ := denL_inv hd
    rw [List.zip_cons_cons, List.lookup_cons] at h ⊢
    cases e : f == n with
    | true =>
      rw [e] at h
      cases h
      exact ⟨v, rfl, h2⟩
    | false =>
      rw [e] at h
      exact lk_zip h3 h
theorem ev_fld {C : Addr} {ns : List Str} {f : Str} (ha : EvR K E ta sl (.dat (.obj C ns ds))) (cl : Cls K C) (na : NoAttr K C f) (h : (ns.zip ds).lookup f = some d) : EvR K E (tFld K ta f) sl (.dat d) := fun B0 H0 B H σ sd Q q =>
  ha B0 H0 B H σ sd _ fun v B1 H1 g1 d1 => by
    obtain ⟨a, dx, vs, rfl, h1, _, h2⟩ := den_obj d1
    obtain ⟨u, h3, h4⟩ := lk_zip h2 h
    exact ⟨a, C, dx, _, u, rfl, g1.sub a _ h1, cl, na, h3, post_v g1.sub (q.shift g1) h4⟩
/-! calls -/
theorem sp_go {f : List D → Rs → Prop} {vs : List V} {Q : VK} (sd : Ex B H) (h : DenL K B ds vs) (hf : f ds s) (q : Post K E B H Q s) : SpR K f vs H Q E := ⟨B, ds, s, sd, h, hf, q⟩
theorem Post.any {Q : VK} (h : Post K E B H Q s) (hn : ∀ C, s ≠ .exc C) : Post K E' B H Q s := by
  cases s with
  | dat d => exact h
  | new xs => exact h
  | frs d => exact h
  | exc C => exact absurd rfl (hn C)
theorem ev_callG {f : List D → Rs → Prop} (ha : EvA K tr sl ds) (hf : f ds s) (hn : (∀ C, s ≠ .exc C) ∨ E = E') : EvR K E (tCall (SpR K f) [] E' tr) sl s := fun B0 H0 B H σ sd Q q =>
  ha B0 H0 B H σ sd _ fun vs B1 H1 g1 d1 => by
    rw [List.append_nil]
    rcases hn with z | z
    · exact sp_go g1.sub d1 hf ((q.shift g1).any z)
    · subst z
      exact sp_go g1.sub d1 hf (q.shift g1)
theorem ev_call {f : List D → Rs → Prop} (ha : EvA K tr sl ds) (hf : f ds (.dat d)) : EvR K E (tCall (SpR K f) [] E' tr) sl (.dat d) := ev_callG ha hf (.inl fun _ z => nomatch z)
theorem ev_callN {f : List D → Rs → Prop} (ha : EvA K tr sl ds) (hf : f ds (.new xs)) : EvR K E (tCall (SpR K f) [] E' tr) sl (.new xs) := ev_callG ha hf (.inl fun _ z => nomatch z)
theorem ev_callX {f : List D → Rs → Prop} {C : Addr} (ha : EvA K tr sl ds) (hf : f ds (.exc C)) : EvR K E (tCall (SpR K f) [] E tr) sl (.exc C) := ev_callG ha hf (.inr rfl)
theorem lk_zipN : ∀ {ns : List Str} {vs : List V} {f : Str}, f ∉ ns → (ns.zip vs).lookup f = none
  | [], _, _, _ => by simp
  | n :: ns, [], _, _ => by simp
  | n :: ns, x :: ds, f, h => by
    rw [List.zip_cons_cons, List.lookup_cons]
    have e : (f == n) = false := by
      rw [beq_eq_false_iff_ne]
      exact fun z => h (by rw [z]; exact List.mem_cons_self)
    rw [e]
    exact lk_zipN fun z => h (List.mem_cons_of_mem _ z)
theorem ev_methG {f : List D → Rs → Prop} {C : Addr} {ns : List Str} {xs : List D} {m : Str} (ho : EvR K E ta sl (.dat (.obj C ns xs))) (hm : m ∉ ns) (ha : EvA K tr sl ds) (hf : f (.obj C ns xs :: ds) s) (hn : (∀ C, s ≠ .exc C) ∨ E = E') : EvR K E (tMeth C m (SpR K f) [] E' ta tr) sl s := fun B0 H0 B H σ sd Q q =>
  ho B0 H0 B H σ sd _ fun v B1 H1 g1 d1 => by
    obtain ⟨a, dx, vs, rfl, h1, _, h2⟩ := den_obj d1
    refine ⟨a, dx, _, rfl, g1.sub a _ h1, lk_zipN hm, ha B0 H0 B1 H1 σ (sd.grow g1) _ fun us B2 H2 g2 d2 => ?_⟩
    rw [List.append_nil]
    rcases hn with z | z
    · exact sp_go g2.sub (denL_cons (den_mono g2.eb d1) d2) hf (((q.shift g1).shift g2).any z)
    · subst z
      exact sp_go g2.sub (denL_cons (den_mono g2.eb d1) d2) hf ((q.shift g1).shift g2)
theorem ev_meth {f : List D → Rs → Prop} {C : Addr} {ns : List Str} {xs : List D} {m : Str} (ho : EvR K E ta sl (.dat (.obj C ns xs))) (hm : m ∉ ns) (ha : EvA K tr sl ds) (hf : f (.obj C ns xs :: ds) (.dat d)) : EvR K E (tMeth C m (SpR K f) [] E' ta tr) sl (.dat d) := ev_methG ho hm ha hf (.inl fun _ z => nomatch z)
theorem ev_methN {f : List D → Rs → Prop} {C : Addr} {ns : List Str} {xs ys : List D} {m : Str} (ho : EvR K E ta sl (.dat (.obj C ns xs))) (hm : m ∉ ns) (ha : EvA K tr sl ds) (hf : f (.obj C ns xs :: ds) (.new ys)) : EvR K E (tMeth C m (SpR K f) [] E' ta tr) sl (.new ys) := ev_methG ho hm ha hf (.inl fun _ z => nomatch z)
theorem ev_methX {f : List D → Rs → Prop} {C C' : Addr} {ns : List Str} {xs : List D} {m : Str} (ho : EvR K E ta sl (.dat (.obj C ns xs))) (hm : m ∉ ns) (ha : EvA K tr sl ds) (hf : f (.obj C ns xs :: ds) (.exc C')) : EvR K E (tMeth C m (SpR K f) [] E ta tr) sl (.exc C') := ev_methG ho hm ha hf (.inr rfl)
/-! an object made: the __init__'s promise -/
inductive Ri where
  | ok (ns : List Str) (ds : List D) | exc (C : Addr)
def PostI (K : PySem.W.Frag) (E : XK) (C x dx : Addr) (B H : Hp) (Q : VK) : Ri → Prop
  | .ok ns ds => ∀ dx' vs B' H', Gr B H B' H' → B' x = none → H' x = some (.ins C dx' (ns.zip vs)) → ns.length = vs.length → (∃ N, Ex N B' ∧ New N H ∧ DenL K N ds vs) → Q .non H'
  | .exc C' => ∀ B' H', Gr B H B' H' → E (.ref C') none H'
/-- H: the heap without the new object -/
def SpI (K : PySem.W.Frag) (C : Addr) (f : List D → Ri → Prop) : Sp := fun us H1 Q E => ∃ B H x dx vs ds r, us = .ref x :: vs ∧ Ex B H ∧ H x = none ∧ H1 = upd H x (.ins C dx []) ∧ DenL K B ds vs ∧ f ds r ∧ PostI K E C x dx B H Q r
def Ri.rs (C : Addr) : Ri → Rs
  | .ok ns ds => .frs (.obj C ns ds) | .exc C' => .exc C'
theorem ev_makeG {f : List D → Ri → Prop} {C : Addr} {ri : Ri} (ha : EvA K tr sl ds) (hf : f ds ri) (hn : (∀ C, ri ≠ .exc C) ∨ E = E') : EvR K E (tMake C (SpI K C f) [] E' tr) sl (ri.rs C) := fun B0 H0 B H σ sd Q q =>
  ha B0 H0 B H σ sd _ fun vs B1 H1 g1 d1 x dx nx ndx nex => by
    rw [List.append_nil]
    have nx2 : upd H1 dx (.own x) x = none := by rw [upd_ne (Ne.symm nex)]; exact nx
    have g2 : Gr B1 H1 B1 (upd H1 dx (.own x)) := Gr.lay g1.sub ndx
    refine ⟨B1, upd H1 dx (.own x), x, dx, vs, ds, ri, rfl, g2.sub, nx2, rfl, d1, hf, ?_⟩
    cases ri with
    | ok ns es =>
      intro dx' us B3 H3 g3 b3 h3 hl d3
      obtain ⟨N, n1, n2, n3⟩ := d3
      have nN : N x = none := fresh_back n1 b3
      refine ⟨rfl, q _ (upd N x (.ins C dx' (ns.zip us))) _ _ (((g1.trans g2).trans g3).fz sd.sub (g1.back nx) b3 h3) (fun a o z => ?_) (fun a o z => ?_) (mk_obj upd_same hl (denL_mono (ex_upd nN) n3))⟩
      · by_cases e : a = x
        · subst e
          rw [upd_same] at z ⊢
          exact z
        · rw [upd_ne e] at z ⊢
          exact n1 a o z
      · by_cases e : a = x
        · rw [e]
          exact g1.back nx
        · rw [upd_ne e] at z
          exact (g1.trans g2).back (n2 a o z)
    | exc C' =>
      rcases hn with z | z
      · exact absurd rfl (z C')
      · subst z
        exact fun B3 H3 g3 => q B3 H3 ((g1.trans g2).trans g3)
theorem ev_make {f : List D → Ri → Prop} {C : Addr} {ns : List Str} {es : List D} (ha : EvA K tr sl ds) (hf : f ds (.ok ns es)) : EvR K E (tMake C (SpI K C f) [] E' tr) sl (.frs (.obj C ns es)) := ev_makeG ha hf (.inl fun _ z => nomatch z)
theorem ev_makeX {f : List D → Ri → Prop} {C C' : Addr} (ha : EvA K tr sl ds) (hf : f ds (.exc C')) : EvR K E (tMake C (SpI K C f) [] E tr) sl (.exc C') := ev_makeG ha hf (.inr rfl)
/-! built-ins -/
theorem ev_cb {f : List V → Hp → VK → Prop} (ha : EvA K tr sl ds) (hf : CbD K f ds s) : EvR K E (tCB f tr) sl s := fun B0 H0 B H σ sd Q q =>
  ha B0 H0 B H σ sd _ fun vs B1 H1 g1 d1 => hf B1 H1 vs g1.sub d1 E Q (q.shift g1)
theorem ev_bm {T : String} {f : V → List V → Hp → VK → Prop} (ho : EvR K E ta sl (.dat x)) (ha : EvA K tr sl ds) (hf : MtD K T f x ds s) (hty : ∀ B H v, Ex B H → Den K B x v → tyV K T v H) : EvR K E (tBM K T f ta tr) sl s := fun B0 H0 B H σ sd Q q =>
  ho B0 H0 B H σ sd _ fun v B1 H1 g1 d1 => ⟨hty B1 H1 v g1.sub d1, ha B0 H0 B1 H1 σ (sd.grow g1) _ fun vs B2 H2 g2 d2 => (hf B2 H2 v vs g2.sub (den_mono g2.eb d1) d2 E Q ((q.shift g1).shift g2)).2⟩
theorem ev_bm0 {T : String} {f : V → List V → Hp → VK → Prop} (ho : EvR K E ta sl (.dat x)) (hf : MtD K T f x [] s) : EvR K E (tBM0 K T f ta) sl s := fun B0 H0 B H σ sd Q q =>
  ho B0 H0 B H σ sd _ fun v B1 H1 g1 d1 => hf B1 H1 v [] g1.sub d1 denL_nil E Q (q.shift g1)
theorem denL_one {vs : List V} (h : DenL K B [x] vs) : ∃ v, vs = [v] ∧ Den K B x v := by
  obtain ⟨v, r, rfl, h1, h2⟩ := denL_inv h
  rw [denL_inv0 h2]
  exact ⟨v, rfl, h1⟩
theorem denL_two {vs : List V} (h : DenL K B [x, y] vs) : ∃ v w, vs = [v, w] ∧ Den K B x v ∧ Den K B y w := by
  obtain ⟨v, r, rfl, h1, h2⟩ := denL_inv h
  obtain ⟨w, rfl, h3⟩ := denL_one h2
  exact ⟨v, w, rfl, h1, h3⟩
abbrev rLen (K : PySem.W.Frag) : List V → Hp → VK → Prop := fun xs H Q => ∃ p ys, xs = [V.ref p] ∧ (SqL K H p ys ∨ SqT K H p ys) ∧ Q (.int ys.length) H
theorem cb_len : CbD K (rLen K) [.lst xs] (.dat (.int (xs.length : Int))) := fun B H vs e d E Q q => by
  obtain ⟨v, rfl, h⟩ := denL_one d
  obtain ⟨a, us, rfl, h1, h2⟩ := den_lst h
  exact ⟨a, us, rfl, .inl (SqL.of (e a _ h1)), by rw [← denL_len h2]; exact post_v e q (mk_int _)⟩
theorem cb_lenT : CbD K (rLen K) [.tup xs] (.dat (.int (xs.length : Int))) := fun B H vs e d E Q q => by
  obtain ⟨v, rfl, h⟩ := denL_one d
  obtain ⟨a, us, rfl, h1, h2⟩ := den_tup h
  exact ⟨a, us, rfl, .inr (SqT.of (e a _ h1)), by rw [← denL_len h2]; exact post_v e q (mk_int _)⟩
theorem cb_lenR {ns : List Int} : CbD K (rLen K) [.scr ns] (.dat (.int (ns.length : Int))) := fun B H vs e d E Q q => by
  obtain ⟨v, rfl, h⟩ := denL_one d
  obtain ⟨a, rfl, h1⟩ := den_scr h
  refine ⟨a, _, rfl, .inl (ex_l e h1), ?_⟩
  rw [List.length_map]
  exact post_v e q (mk_int _)
theorem cb_sum {ns : List Int} : CbD K (rSum K) [.lst (ns.map D.int)] (.dat (.int ns.sum)) := fun B H vs e d E Q q => by
  obtain ⟨v, rfl, h⟩ := denL_one d
  obtain ⟨a, us, rfl, h1, h2⟩ := den_lst h
  rw [denL_ints h2] at h1
  exact ⟨a, ns, rfl, SqL.of (e a _ h1), post_v e q (mk_int _)⟩
theorem cb_any {ns : List Bool} : CbD K (rAny K) [.lst (ns.map D.bl)] (.dat (.bl (ns.any id))) := fun B H vs e d E Q q => by
  obtain ⟨v, rfl, h⟩ := denL_one d
  obtain ⟨a, us, rfl, h1, h2⟩ := den_lst h
  rw [denL_bls h2] at h1
  exact ⟨a, ns, rfl, SqL.of (e a _ h1), post_v e q (mk_bl _)⟩
theorem cb_all {ns : List Bool} : CbD K (rAll K) [.lst (ns.map D.bl)] (.dat (.bl (ns.all id))) := fun B H vs e d E Q q => by
  obtain ⟨v, rfl, h⟩ := denL_one d
  obtain ⟨a, us, rfl, h1, h2⟩ := den_lst h
  rw [denL_bls h2] at h1
  exact ⟨a, ns, rfl, SqL.of (e a _ h1), post_v e q (mk_bl _)⟩
abbrev rListOf (K : PySem.W.Frag) : List V → Hp → VK → Prop := fun xs H Q => ∃ p ys, xs = [V.ref p] ∧ (SqL K H p ys ∨ SqT K H p ys) ∧ ∀ l, H l = none → Q (.ref l) (upd H l (.lst ys))
theorem cb_list : CbD K (rListOf K) [.lst xs] (.new xs) := fun B H vs e d E Q q => by
  obtain ⟨v, rfl, h⟩ := denL_one d
  obtain ⟨a, us, rfl, h1, h2⟩ := den_lst h
  exact ⟨a, us, rfl, .inl (SqL.of (e a _ h1)), fun p hp => q p us _ _ (Gr.lay e hp) hp (fresh_back e hp) upd_same h2⟩
/-! isinstance of a built-in class -/
inductive TyD : D → String → Prop where
  | non : TyD .non "NoneType" | bl (b : Bool) : TyD (.bl b) "bool" | int (i : Int) : TyD (.int i) "int" | str (x : Str) : TyD (.str x) "str"
  | lst (xs : List D) : TyD (.lst xs) "list" | tup (xs : List D) : TyD (.tup xs) "tuple" | emp : TyD .emp "dict"
theorem TyD.to {T : String} {v : V} (h : TyD x T) (e : Ex B H) (d : Den K B x v) : TyX K H v (.type T) := by
  cases h with
  | non => rw [den_non d]; exact .base .non
  | bl b => rw [den_bl d]; exact .base (.bl b)
  | int i => rw [den_int d]; exact .base (.int i)
  | str i => rw [den_str d]; exact .base (.str i)
  | lst xs =>
    obtain ⟨a, us, rfl, h1, h2⟩ := den_lst d
    exact .base (.lst (e a _ h1))
  | tup xs =>
    obtain ⟨a, us, rfl, h1, h2⟩ := den_tup d
    exact .base (.tup (e a _ h1))
  | emp =>
    obtain ⟨a, rfl, h1⟩ := den_emp d
    exact .base (.dK (e a _ h1))
theorem cb_isi {T C : String} {b : Bool} (h : TyD x T) (hb : kitB T C = some b) : CbD K (rIsi K) [x, .ty C] (.dat (.bl b)) := fun B H vs e d E Q q => by
  obtain ⟨v, w, rfl, h1, h2⟩ := denL_two d
  simp only [Den] at h2
  subst h2
  exact ⟨v, _, _, _, b, rfl, .ty C, h.to e h1, kit_ty hb, post_v e q (mk_bl _)⟩
/-! slices -/
theorem eo_none : EvO K tNoPart sl none := fun B0 H0 B H σ sd Q q => q B H (Gr.refl sd.sub)
theorem eo_some {i : Int} (h : EvR K E0 te sl (.dat (.int i))) : EvO K (tPart te) sl (some i) := fun B0 H0 B H σ sd Q q => h B0 H0 B H σ sd _ fun v B1 H1 g1 d1 => ⟨i, den_int d1, q _ _ g1⟩
def cutD (xs : List D) (lo hi : Option Int) : List D := (xs.drop (HT.sIx xs.length 0 lo)).take (HT.sIx xs.length xs.length hi - HT.sIx xs.length 0 lo)
theorem ev_sl {tl th : TO} {lo hi : Option Int} (h : EvR K E te sl (.dat (.lst xs))) (hl : EvO K tl sl lo) (hh : EvO K th sl hi) : EvR K E (tSl (rSlL K) te tl th) sl (.new (cutD xs lo hi)) := fun B0 H0 B H σ sd Q q =>
  h B0 H0 B H σ sd _ fun v B1 H1 g1 d1 => hl B0 H0 B1 H1 σ (sd.grow g1) _ fun B2 H2 g2 => hh B0 H0 B2 H2 σ ((sd.grow g1).grow g2) _ fun B3 H3 g3 => by
    obtain ⟨a, us, rfl, h1, h2⟩ := den_lst d1
    have d2 := denL_mono (g2.eb.trans g3.eb) h2
    refine ⟨a, us, rfl, SqL.of (g3.sub _ _ (g3.eb _ _ (g2.eb _ _ h1))), fun p hp => ?_⟩
    refine q p _ _ _ (((g1.trans g2).trans g3).trans (Gr.lay g3.sub hp)) (g1.back (g2.back (g3.back hp))) (fresh_back g3.sub hp) upd_same ?_
    unfold cutD cutV
    rw [denL_len h2]
    exact denL_take _ (denL_drop _ d2)
theorem denL_rev : ∀ {ds : List D} {vs : List V}, DenL K B ds vs → DenL K B ds.reverse vs.reverse
  | [], vs, h => by
    rw [denL_inv0 h]
    exact denL_nil
  | d :: ds, vs, h => by
    obtain ⟨v, r, rfl, h2, h3⟩ := denL_inv h
    rw [List.reverse_cons, List.reverse_cons]
    exact denL_app (denL_rev h3) (denL_cons h2 denL_nil)
theorem ev_revL (h : EvR K E te sl (.dat (.lst xs))) : EvR K E (tRevL K te) sl (.new xs.reverse) := fun B0 H0 B H σ sd Q q =>
  h B0 H0 B H σ sd _ fun v B1 H1 g1 d1 => by
    obtain ⟨a, us, rfl, h1, h2⟩ := den_lst d1
    exact ⟨a, us, rfl, SqL.of (g1.sub _ _ h1), fun p hp => q p _ _ _ (g1.trans (Gr.lay g1.sub hp)) (g1.back hp) (fresh_back g1.sub hp) upd_same (denL_rev h2)⟩
end

/-! ### what is walked -/
def JOk (K : PySem.W.Frag) (B : Hp) (xs : List D) (J : It) : Prop := ∀ i H2, Ex B H2 → (∀ d, xs[i]? = some d → J.go i H2 ∧ ∀ x H3, J.yld i H2 x H3 → H3 = H2 ∧ Den K B d x) ∧ (xs.length ≤ i → J.stop i H2)
def ItE (K : PySem.W.Frag) (ti : TI) (sl : List Sl) (xs : List D) : Prop := ∀ B0 H0 B H σ, SD K B0 H0 B H σ sl → ∀ R : It → Hp → Prop, (∀ J B' H', Gr B H B' H' → JOk K B' xs J → R J H') → ti σ H R
section
variable {K : PySem.W.Frag} {E E' : XK} {B0 H0 B H B' H' : Hp} {σ : L2.St} {sl : List Sl} {ta tb tc te : TE} {t u : TT} {x y z d : D} {xs ys ds : List D} {tr : TA}
theorem JOk.mono (h : JOk K B xs J) (e : Ex B B') : JOk K B' xs J := fun i H2 e2 => by
  obtain ⟨h1, h2⟩ := h i H2 (e.trans e2)
  refine ⟨fun d hd => ?_, h2⟩
  obtain ⟨h3, h4⟩ := h1 d hd
  refine ⟨h3, fun x H3 hy => ?_⟩
  obtain ⟨h5, h6⟩ := h4 x H3 hy
  exact ⟨h5, den_mono e h6⟩
theorem it_list (h : EvR K E0 te sl (.dat (.lst xs))) : ItE K (iList K te) sl xs := fun B0 H0 B H σ sd R q =>
  h B0 H0 B H σ sd _ fun v B1 H1 g1 d1 => by
    obtain ⟨a, us, rfl, h1, h2⟩ := den_lst d1
    refine ⟨a, rfl, ⟨us, SqL.of (g1.sub _ _ h1)⟩, q _ _ _ g1 fun i H2 e2 => ⟨fun d hd => ?_, fun hl => ⟨us, SqL.of (e2 _ _ h1), by rw [← denL_len h2]; exact hl⟩⟩⟩
    obtain ⟨w, h3, h4⟩ := denL_get h2 hd
    refine ⟨⟨us, w, SqL.of (e2 _ _ h1), h3⟩, fun x H3 hy => ⟨hy.1, ?_⟩⟩
    have e := hy.2 us (SqL.of (e2 _ _ h1))
    rw [h3] at e
    cases e
    exact h4
theorem it_tup (h : EvR K E0 te sl (.dat (.tup xs))) : ItE K (iTup K te) sl xs := fun B0 H0 B H σ sd R q =>
  h B0 H0 B H σ sd _ fun v B1 H1 g1 d1 => by
    obtain ⟨a, us, rfl, h1, h2⟩ := den_tup d1
    refine ⟨a, rfl, ⟨us, SqT.of (g1.sub _ _ h1)⟩, q _ _ _ g1 fun i H2 e2 => ⟨fun d hd => ?_, fun hl => ⟨us, SqT.of (e2 _ _ h1), by rw [← denL_len h2]; exact hl⟩⟩⟩
    obtain ⟨w, h3, h4⟩ := denL_get h2 hd
    refine ⟨⟨us, w, SqT.of (e2 _ _ h1), h3⟩, fun x H3 hy => ⟨hy.1, ?_⟩⟩
    have e := hy.2 us (SqT.of (e2 _ _ h1))
    rw [h3] at e
    cases e
    exact h4
/-- the numbers from lo on, n of them -/
def rng (lo : Int) (n : Nat) : List Int := (List.range n).map fun (i : Nat) => lo + (i : Int)
theorem rng_len (lo : Int) (n : Nat) : (rng lo n).length = n := by simp [rng]
theorem rng_get {lo : Int} {n i : Nat} (h : i < n) : (rng lo n)[i]? = some (lo + (i : Int)) := by
  simp [rng, h]
theorem mem_rng {lo j : Int} {n : Nat} : j ∈ rng lo n ↔ lo ≤ j ∧ j < lo + n := by
  unfold rng
  rw [List.mem_map]
  constructor
  · rintro ⟨i, h, rfl⟩
    rw [List.mem_range] at h
    omega
  · rintro ⟨h1, h2⟩
    exact ⟨(j - lo).toNat, by rw [List.mem_range]; omega, by omega⟩
theorem jok_rng (lo : Int) (n : Nat) : JOk K B ((rng lo n).map D.int) (Itr lo n) := fun i H2 e2 => by
  refine ⟨fun d hd => ?_, fun hl => ?_⟩
  · have hi : i < n := by
      have z := (List.getElem?_eq_some_iff.mp hd).1
      rwa [List.length_map, rng_len] at z
    rw [List.getElem?_map, rng_get hi] at hd
    cases hd
    refine ⟨hi, fun x H3 hy => ⟨hy.1, ?_⟩⟩
    rw [hy.2]
    exact mk_int _
  · rw [List.length_map, rng_len] at hl
    exact hl
theorem it_rng1 {n : Int} (h : EvA K tr sl [.int n]) (hn : n < 2 ^ 62) (h0 : -(2 ^ 62) ≤ n := by omega) : ItE K (iRng1 tr) sl ((rng 0 n.toNat).map D.int) := fun B0 H0 B H σ sd R q =>
  h B0 H0 B H σ sd _ fun vs B1 H1 g1 d1 => by
    obtain ⟨v, rfl, h1⟩ := denL_one d1
    rw [den_int h1]
    exact ⟨n, rfl, h0, hn, q _ _ _ g1 (jok_rng 0 _)⟩
theorem it_rng2 {lo n : Int} (h : EvA K tr sl [.int lo, .int n]) (hl : -(2 ^ 62) ≤ lo ∧ lo < 2 ^ 62) (hn : -(2 ^ 62) ≤ n ∧ n < 2 ^ 62) : ItE K (iRng2 tr) sl ((rng lo (n - lo).toNat).map D.int) := fun B0 H0 B H σ sd R q =>
  h B0 H0 B H σ sd _ fun vs B1 H1 g1 d1 => by
    obtain ⟨v, w, rfl, h1, h2⟩ := denL_two d1
    rw [den_int h1, den_int h2]
    exact ⟨lo, n, rfl, ⟨hl.1, hl.2, hn.1, hn.2⟩, q _ _ _ g1 (jok_rng lo _)⟩
/-! ### comprehensions -/
def wipeS (sl : List Sl) : List Nat → List Sl
  | [] => sl
  | v :: vs => (wipeS sl vs).set v .un
theorem SD.wipe : ∀ (vs : List Nat), SD K B0 H0 B H σ sl → SD K B0 H0 B H (L2.wipe σ vs) (wipeS sl vs)
  | [], s => s
  | v :: vs, s => (SD.wipe vs s).setUn
theorem wipe_set {j : Nat} {x : Option V} : ∀ {vs : List Nat} (σ : L2.St), j ∈ vs → L2.wipe (σ.set j x) vs = L2.wipe σ vs
  | [], _, h => by simp at h
  | v :: vs, σ, h => by
    show (L2.wipe (σ.set j x) vs).set v none = (L2.wipe σ vs).set v none
    rcases List.mem_cons.mp h with e | e
    · subst e
      by_cases m : j ∈ vs
      · rw [wipe_set σ m]
      · have k : ∀ {vs : List Nat} (σ : L2.St), j ∉ vs → L2.wipe (σ.set j x) vs = (L2.wipe σ vs).set j x := by
          intro vs
          induction vs with
          | nil => intro σ _; rfl
          | cons w ws ih =>
            intro σ hm
            show (L2.wipe (σ.set j x) ws).set w none = ((L2.wipe σ ws).set w none).set j x
            rw [ih σ fun z => hm (List.mem_cons_of_mem _ z), List.set_comm]
            exact fun z => hm (by rw [z]; exact List.mem_cons_self)
        rw [k σ m, List.set_set]
    · rw [wipe_set σ e]
theorem wipe_len' (σ : L2.St) : ∀ vs : List Nat, (L2.wipe σ vs).length = σ.length := L2.wipe_length σ
theorem wipe_wipe (σ : L2.St) (vs : List Nat) : L2.wipe (L2.wipe σ vs) vs = L2.wipe σ vs := by
  have k : ∀ (us : List Nat) (σ : L2.St), (∀ v ∈ us, v ∈ vs) → L2.wipe (L2.wipe σ us) vs = L2.wipe σ vs := by
    intro us
    induction us with
    | nil => intro σ _; rfl
    | cons w ws ih =>
      intro σ hm
      show L2.wipe ((L2.wipe σ ws).set w none) vs = L2.wipe σ vs
      rw [wipe_set _ (hm w List.mem_cons_self)]
      exact ih σ fun v hv => hm v (List.mem_cons_of_mem _ hv)
  exact k vs σ fun _ h => h
def givenD (n : Nat) (f : Nat → Bool) (v : Nat → D) : List D := ((List.range n).filter f).map v
theorem givenD_yes {n : Nat} {f : Nat → Bool} {v : Nat → D} (h : f n = true) : givenD (n + 1) f v = givenD n f v ++ [v n] := by
  unfold givenD
  rw [List.range_succ, List.filter_append, List.map_append, List.filter_cons, if_pos h]
  rfl
theorem givenD_no {n : Nat} {f : Nat → Bool} {v : Nat → D} (h : f n = false) : givenD (n + 1) f v = givenD n f v := by
  unfold givenD
  rw [List.range_succ, List.filter_append, List.map_append, List.filter_cons, if_neg (by rw [h]; decide)]
  show _ ++ [] = _
  rw [List.append_nil]
theorem givenD_len (n : Nat) (f : Nat → Bool) (v : Nat → D) : (givenD n f v).length ≤ n := by
  unfold givenD
  rw [List.length_map]
  have h := List.length_filter_le f (List.range n)
  rw [List.length_range] at h
  exact h
theorem ev_lcI {ti : TI} {j : Nat} {vs : List Nat} (f : Nat → Bool) (v : Nat → D) (hi : ItE K ti sl xs) (hz : xs.length ≤ 1000000) (hj : j ∈ vs)
    (ht : ∀ (i : Nat) d, xs[i]? = some d → EvT K t ((wipeS sl vs).set j (.fz d)) (f i)) (he : ∀ (i : Nat) d, xs[i]? = some d → f i = true → EvR K E0 te ((wipeS sl vs).set j (.fz d)) (.dat (v i))) :
    EvR K E (tLc ti (gName j) t te vs) sl (.new (givenD xs.length f v)) := fun B0 H0 B H σ sd Q q => by
  refine hi B0 H0 B H σ sd _ fun J B1 H1 g1 jo Dl hD => ?_
  have sd1 := (sd.grow g1).wipe vs
  -- the list grows at Dl, which is no data's
  refine ⟨fun i m H2 => m = xs.length - i ∧ i ≤ xs.length ∧ ∃ B2 acc, Gr B1 H1 B2 H2 ∧ B2 Dl = none ∧ H2 Dl = some (.lst acc) ∧ DenL K B2 (givenD i f v) acc, ⟨xs.length, by simp, Nat.zero_le _, B1, [], Gr.lay g1.sub hD, fresh_back g1.sub hD, upd_same, denL_nil⟩, ?_⟩
  rintro i m H2 ⟨rfl, hi2, B2, acc, g2, b2, h2, d2⟩
  obtain ⟨jg, js⟩ := (jo.mono g2.eb) i H2 g2.sub
  by_cases hlt : i < xs.length
  · right
    have hx : xs[i]? = some xs[i] := by simp [hlt]
    obtain ⟨go, yl⟩ := jg _ hx
    refine ⟨go, fun H' => i + 1 ≤ xs.length ∧ ∃ B2 acc, Gr B1 H1 B2 H' ∧ B2 Dl = none ∧ H' Dl = some (.lst acc) ∧ DenL K B2 (givenD (i + 1) f v) acc, fun H' ⟨h1, h3⟩ => ⟨xs.length - (i + 1), by omega, rfl, h1, h3⟩, fun x H3 hy => ?_⟩
    obtain ⟨e3, dx⟩ := yl x H3 hy
    rw [e3]
    have sd2 : SD K B0 H0 B2 H2 ((L2.wipe σ vs).set j (some x)) ((wipeS sl vs).set j (.fz xs[i])) := (sd1.grow g2).setFz dx
    refine ⟨by rw [wipe_set _ hj, wipe_wipe], ?_⟩
    refine ht i _ hx B0 H0 B2 H2 _ sd2 _ fun B3 H3 g3 => ?_
    have b3 : B3 Dl = none := g3.out Dl b2 (by rw [h2]; simp)
    cases hf : f i with
    | false =>
      rw [if_neg Bool.false_ne_true]
      exact ⟨hlt, B3, acc, g2.trans g3, b3, g3.eh _ _ h2, by rw [givenD_no hf]; exact denL_mono g3.eb d2⟩
    | true =>
      rw [if_pos rfl]
      refine he i _ hx hf B0 H0 B3 H3 _ (sd2.grow g3) _ fun y B4 H4 g4 d4 => ?_
      have b4 : B4 Dl = none := g4.out Dl b3 (by rw [g3.eh _ _ h2]; simp)
      have h4 : H4 Dl = some (.lst acc) := g4.eh _ _ (g3.eh _ _ h2)
      have hacc : acc.length ≤ 1000000 := by
        rw [← denL_len d2]
        have := givenD_len i f v
        omega
      have sz : acc.length < sizeLine := by
        rw [sizeLine_eq]
        omega
      refine ⟨acc, h4, sz, hlt, B4, acc ++ [y], ?_, b4, upd_same, ?_⟩
      · have g := (g2.trans g3).trans g4
        refine ⟨g.eb, fun a o h => ?_, fun a o h => ?_, g.out⟩
        · rw [upd_ne (ne_of_none h hD)]
          exact g.eh a o h
        · rw [upd_ne (ne_of_none h b4)]
          exact g.sub a o h
      · rw [givenD_yes hf]
        exact denL_app (denL_mono (g3.eb.trans g4.eb) d2) (denL_cons d4 denL_nil)
  · left
    have e : i = xs.length := by omega
    subst e
    exact ⟨js (Nat.le_refl _), q _ _ _ _ (g1.trans g2) (g1.back hD) b2 h2 d2⟩
theorem givenD_eq {α : Type} (ys : List α) (f : α → Bool) (v : α → D) (g : Nat → Bool) (w : Nat → D) (h : ∀ i a, ys[i]? = some a → g i = f a ∧ w i = v a) : givenD ys.length g w = (ys.filter f).map v := by
  have k : ∀ n, n ≤ ys.length → givenD n g w = ((ys.take n).filter f).map v := by
    intro n
    induction n with
    | zero => intro _; simp [givenD]
    | succ n ih =>
      intro hn
      have hx : ys[n]? = some ys[n] := List.getElem?_eq_getElem hn
      obtain ⟨e1, e2⟩ := h n _ hx
      have et : ys.take (n + 1) = ys.take n ++ [ys[n]] := by
        rw [List.take_succ, hx]
        rfl
      rw [et, List.filter_append, List.map_append, ← ih (by omega)]
      cases hf : g n with
      | true =>
        rw [givenD_yes hf, List.filter_cons, if_pos (by rw [← e1]; exact hf), e2]
        rfl
      | false =>
        rw [givenD_no hf, List.filter_cons, if_neg (by rw [← e1, hf]; decide)]
        simp
  rw [k ys.length (Nat.le_refl _), List.take_length]
/-- over c of each of ys, with a test -/
theorem ev_lcF {α : Type} {ys : List α} {c : α → D} {f : α → Bool} {v : α → D} {ti : TI} {j : Nat} {vs : List Nat} (hi : ItE K ti sl (ys.map c)) (hz : ys.length ≤ 1000000) (hj : j ∈ vs)
    (ht : ∀ a, a ∈ ys → EvT K t ((wipeS sl vs).set j (.fz (c a))) (f a)) (he : ∀ a, a ∈ ys → f a = true → EvR K E0 te ((wipeS sl vs).set j (.fz (c a))) (.dat (v a))) :
    EvR K E (tLc ti (gName j) t te vs) sl (.new ((ys.filter f).map v)) := by
  cases ys with
  | nil =>
    have h := ev_lcI (E := E) (t := t) (te := te) (vs := vs) (fun _ => false) (fun _ => D.non) hi (by simp) hj (fun i d h => by simp at h) (fun i d h => by simp at h)
    simpa [givenD] using h
  | cons a0 ar =>
    have key := ev_lcI (E := E) (t := t) (te := te) (vs := vs) (fun i => f ((a0 :: ar)[i]?.getD a0)) (fun i => v ((a0 :: ar)[i]?.getD a0)) hi (by rw [List.length_map]; exact hz) hj
      (fun i d h => by
        rw [List.getElem?_map] at h
        cases e : (a0 :: ar)[i]? with
        | none => rw [e] at h; cases h
        | some a =>
          rw [e] at h
          cases h
          exact ht a (List.mem_of_getElem? e))
      (fun i d h hf => by
        rw [List.getElem?_map] at h
        cases e : (a0 :: ar)[i]? with
        | none => rw [e] at h; cases h
        | some a =>
          rw [e] at h
          cases h
          have hf' : f a = true := by simpa [e] using hf
          exact he a (List.mem_of_getElem? e) hf')
    rw [List.length_map, givenD_eq (a0 :: ar) f v _ _ (fun i a h => by simp [h])] at key
    exact key
/-- .. without one -/
theorem ev_lcM {α : Type} {ys : List α} {c : α → D} {v : α → D} {ti : TI} {j : Nat} {vs : List Nat} (hi : ItE K ti sl (ys.map c)) (hz : ys.length ≤ 1000000) (hj : j ∈ vs)
    (he : ∀ a, a ∈ ys → EvR K E0 te ((wipeS sl vs).set j (.fz (c a))) (.dat (v a))) : EvR K E (tLc ti (gName j) tYes te vs) sl (.new (ys.map v)) := by
  have h := ev_lcF (E := E) (f := fun _ => true) (t := tYes) hi hz hj (fun a _ => et_yes) (fun a ha _ => he a ha)
  rwa [List.filter_eq_self.mpr (fun _ _ => rfl)] at h
end
end Wv
namespace Wv
open PySem L2
open Evl (Ex fresh_back ex_l)

/-! ### statements -/
structure En where
  nx : List Sl → Prop
  rt : Rs → Prop
  bk : List Sl → Prop := fun _ => False
  ct : List Sl → Prop := fun _ => False
/-- .. a new list: new to Hf -/
def PostF (K : PySem.W.Frag) (E : XK) (B H Hf : Hp) (Q : VK) : Rs → Prop
  | .new xs => ∀ p vs B' H', Gr B H B' H' → Hf p = none → B' p = none → H' p = some (.lst vs) → DenL K B' xs vs → Q (.ref p) H'
  | .frs d => ∀ v N B' H', Gr B H B' H' → Ex N B' → New N Hf → Den K N d v → Q v H'
  | r => Post K E B H Q r
theorem PostF.post {K : PySem.W.Frag} {E : XK} {B H Hf : Hp} {Q : VK} {r : Rs} (h : PostF K E B H Hf Q r) (e : Ex Hf H) : Post K E B H Q r := by
  cases r with
  | new xs => exact fun p vs B' H' g h0 h1 h2 h3 => h p vs B' H' g (fresh_back e h0) h1 h2 h3
  | frs d => exact fun v N B' H' g e1 n dv => h v N B' H' g e1 (fun p o z => fresh_back e (n p o z)) dv
  | dat d => exact h
  | exc C => exact h
theorem PostF.shift {K : PySem.W.Frag} {E : XK} {B H B' H' Hf : Hp} {Q : VK} {r : Rs} (g : Gr B H B' H') (h : PostF K E B H Hf Q r) : PostF K E B' H' Hf Q r := by
  cases r with
  | new xs => exact fun p vs B2 H2 g2 h0 h1 h2 h3 => h p vs B2 H2 (g.trans g2) h0 h1 h2 h3
  | frs d => exact fun v N B2 H2 g2 e1 n dv => h v N B2 H2 (g.trans g2) e1 n dv
  | dat d => exact Post.shift (E := E) (r := .dat d) g h
  | exc C => exact Post.shift (K := K) (Q := Q) (E := E) (r := .exc C) g h
theorem PostF.of {K : PySem.W.Frag} {E : XK} {B H : Hp} {Q : VK} {r : Rs} (h : Post K E B H Q r) : PostF K E B H H Q r := by
  cases r with
  | new xs => exact h
  | frs d => exact h
  | dat d => exact h
  | exc C => exact h
structure Mt (K : PySem.W.Frag) (E : XK) (B0 H0 : Hp) (P : En) (D : Ends) : Prop where
  nx : ∀ B H σ sl, SD K B0 H0 B H σ sl → P.nx sl → D.nx σ H
  bk : ∀ B H σ sl, SD K B0 H0 B H σ sl → P.bk sl → D.bk σ H
  ct : ∀ B H σ sl, SD K B0 H0 B H σ sl → P.ct sl → D.ct σ H
  rt : ∀ r B H, Gr B0 H0 B H → P.rt r → PostF K E B H H0 D.rt r
def W (K : PySem.W.Frag) (E : XK) (t : TS) (sl : List Sl) (P : En) : Prop := ∀ B0 H0 B H σ D, SD K B0 H0 B H σ sl → Mt K E B0 H0 P D → t D σ H
/-- a target takes d -/
def GW (K : PySem.W.Frag) (g : TG) (d : D) (sl : List Sl) (P : List Sl → Prop) : Prop := ∀ B0 H0 B H σ v, SD K B0 H0 B H σ sl → Den K B d v → ∀ Q : L2.St → Hp → Prop, (∀ σ' sl', SD K B0 H0 B H σ' sl' → P sl' → Q σ' H) → g v σ H Q
def GWs (K : PySem.W.Frag) (g : TGs) (ds : List D) (sl : List Sl) (P : List Sl → Prop) : Prop := ∀ B0 H0 B H σ vs, SD K B0 H0 B H σ sl → DenL K B ds vs → ∀ Q : L2.St → Hp → Prop, (∀ σ' sl', SD K B0 H0 B H σ' sl' → P sl' → Q σ' H) → g vs σ H Q
section
variable {K : PySem.W.Frag} {E E' : XK} {B0 H0 B H B' H' B1 H1 : Hp} {σ : L2.St} {sl sl' : List Sl} {ta tb tc te : TE} {c : TT} {t u : TS} {x y z d : D} {xs ys ds : List D} {tr : TA} {P P' : En} {Dd : Ends}
theorem SD.rebase (s : SD K B0 H0 B H σ sl) : SD K B H0 B H σ sl :=
  ⟨⟨Ex.refl _, s.gr.eh, s.gr.sub, fun p h1 h2 => h1⟩, s.len, s.fz, s.ow, s.ob, s.ap, s.rg⟩
theorem gr_un (g0 : Gr B0 H0 B1 H1) (g : Gr B1 H0 B H) : Gr B0 H0 B H := ⟨g0.eb.trans g.eb, g.eh, g.sub, fun p h1 h2 => g.out p (g0.out p h1 h2) h2⟩
theorem SD.unbase (g0 : Gr B0 H0 B1 H1) (s : SD K B1 H0 B H σ sl) : SD K B0 H0 B H σ sl := ⟨gr_un g0 s.gr, s.len, s.fz, s.ow, s.ob, s.ap, s.rg⟩
theorem Mt.mono (h : Mt K E B0 H0 P Dd) (h1 : ∀ s, P'.nx s → P.nx s) (h2 : ∀ s, P'.bk s → P.bk s) (h3 : ∀ s, P'.ct s → P.ct s) (h4 : ∀ s, P'.rt s → P.rt s) : Mt K E B0 H0 P' Dd :=
  ⟨fun B H σ sl s q => h.nx B H σ sl s (h1 _ q), fun B H σ sl s q => h.bk B H σ sl s (h2 _ q), fun B H σ sl s q => h.ct B H σ sl s (h3 _ q), fun r B H g q => h.rt r B H g (h4 _ q)⟩
theorem w_mono (h : W K E t sl P') (h1 : ∀ s, P'.nx s → P.nx s) (h2 : ∀ s, P'.bk s → P.bk s) (h3 : ∀ s, P'.ct s → P.ct s) (h4 : ∀ s, P'.rt s → P.rt s) : W K E t sl P := fun B0 H0 B H σ D sd m => h B0 H0 B H σ D sd (m.mono h1 h2 h3 h4)
theorem w_fgt (f : Fgt sl sl') (h : W K E t sl' P) : W K E t sl P := fun B0 H0 B H σ D sd m => h B0 H0 B H σ D (sd.fgt f) m
theorem w_fix {i : Nat} (hi : sl[i]? = some (.ow xs)) (h : W K E t (sl.set i (.fz (.lst xs))) P) : W K E t sl P := fun B0 H0 B H σ D sd m => by
  obtain ⟨B', _, sd'⟩ := sd.fix hi
  exact h B0 H0 B' H σ D sd' m
theorem w_seq (h : W K E t sl { P with nx := fun s => W K E u s P }) : W K E (tSeq t u) sl P := fun B0 H0 B H σ D sd m =>
  h B0 H0 B H σ { D with nx := u D } sd ⟨fun B H σ sl s q => q B0 H0 B H σ D s m, m.bk, m.ct, m.rt⟩
theorem w_next (h : P.nx sl) : W K E tNext sl P := fun B0 H0 B H σ D sd m => m.nx B H σ sl sd h
theorem w_brk (h : P.bk sl) : W K E tBreak sl P := fun B0 H0 B H σ D sd m => m.bk B H σ sl sd h
theorem w_cnt (h : P.ct sl) : W K E tCont sl P := fun B0 H0 B H σ D sd m => m.ct B H σ sl sd h
theorem w_ret {r : Rs} (h : EvR K E te sl r) (k : P.rt r) : W K E (tRet te) sl P := fun B0 H0 B H σ D sd m => h B0 H0 B H σ sd D.rt ((m.rt r B H sd.gr k).post sd.gr.eh)
theorem w_retO {i : Nat} (hi : sl[i]? = some (.ow xs)) (k : P.rt (.new xs)) : W K E (tRet (tVar i)) sl P := fun B0 H0 B H σ D sd m => by
  obtain ⟨p, vs, h1, h2, h3, h4, h5⟩ := sd.ow i xs hi
  exact ⟨_, h1, m.rt _ B H sd.gr k p vs B H (Gr.refl sd.sub) h2 h3 h4 h5⟩
theorem w_retN (k : P.rt (.dat .non)) : W K E tRetN sl P := fun B0 H0 B H σ D sd m => post_v (E := E) sd.sub (m.rt _ B H sd.gr k) mk_non
theorem w_if {b : Bool} (h : EvT K c sl b) (h1 : b = true → W K E t sl P) (h2 : b = false → W K E u sl P) : W K E (tIfS c t u) sl P := fun B0 H0 B H σ D sd m =>
  h B0 H0 B H σ sd _ fun B1 H1 g1 => by
    cases b with
    | true =>
      rw [if_pos rfl]
      exact h1 rfl B0 H0 B1 H1 σ D (sd.grow g1) m
    | false =>
      rw [if_neg Bool.false_ne_true]
      exact h2 rfl B0 H0 B1 H1 σ D (sd.grow g1) m
theorem w_ifT (h : EvT K c sl true) (h1 : W K E t sl P) : W K E (tIfS c t u) sl P := w_if h (fun _ => h1) fun z => nomatch z
theorem w_ifF (h : EvT K c sl false) (h1 : W K E u sl P) : W K E (tIfS c t u) sl P := w_if h (fun z => nomatch z) fun _ => h1
theorem w_asg {i : Nat} (h : EvR K E te sl (.dat d)) (k : P.nx (sl.set i (.fz d))) : W K E (tAsg te (gName i)) sl P := fun B0 H0 B H σ D sd m =>
  h B0 H0 B H σ sd _ fun v B1 H1 g1 d1 => m.nx B1 H1 _ _ ((sd.grow g1).setFz d1) k
theorem w_asgN {i : Nat} (h : EvR K E te sl (.new xs)) (k : P.nx (sl.set i (.ow xs))) : W K E (tAsg te (gName i)) sl P := fun B0 H0 B H σ D sd m =>
  h B0 H0 B H σ sd _ fun p vs B1 H1 g1 h0 h1 h2 h3 => m.nx B1 H1 _ _ (sd.setNew g1 h0 h1 h2 h3) k
theorem w_asgX {g : TG} {C : Addr} (h : EvR K E te sl (.exc C)) (k : P.rt (.exc C)) : W K E (tAsg te g) sl P := fun B0 H0 B H σ D sd m =>
  h B0 H0 B H σ sd _ fun B1 H1 g1 => m.rt _ B H sd.gr k B1 H1 g1
theorem w_asgG {g : TG} (h : EvR K E te sl (.dat d)) (hg : GW K g d sl P.nx) : W K E (tAsg te g) sl P := fun B0 H0 B H σ D sd m =>
  h B0 H0 B H σ sd _ fun v B1 H1 g1 d1 => hg B0 H0 B1 H1 σ v (sd.grow g1) d1 D.nx fun σ' sl' s' p => m.nx B1 H1 σ' sl' s' p
theorem w_drop (h : EvR K E te sl (.dat d)) (k : P.nx sl) : W K E (tDrop te) sl P := fun B0 H0 B H σ D sd m =>
  h B0 H0 B H σ sd _ fun v B1 H1 g1 d1 => m.nx B1 H1 _ _ (sd.grow g1) k
theorem w_dropX {C : Addr} (h : EvR K E te sl (.exc C)) (k : P.rt (.exc C)) : W K E (tDrop te) sl P := fun B0 H0 B H σ D sd m =>
  h B0 H0 B H σ sd _ fun B1 H1 g1 => m.rt _ B H sd.gr k B1 H1 g1
theorem w_aug {i : Nat} {f : Int → Int → Int} {a b : Int} (hi : sl[i]? = some (.fz (.int a))) (h : EvR K E te sl (.dat (.int b))) (k : P.nx (sl.set i (.fz (.int (f a b))))) : W K E (tAug i te (ipI f)) sl P := fun B0 H0 B H σ D sd m => by
  obtain ⟨v, h1, h2⟩ := sd.fz i _ hi
  rw [den_int h2] at h1
  refine ⟨_, h1, h B0 H0 B H σ sd _ fun v B1 H1 g1 d1 => ?_⟩
  rw [den_int d1]
  exact ⟨a, b, rfl, rfl, m.nx B1 H1 _ _ ((sd.grow g1).setFz (mk_int _)) k⟩
theorem w_par {i j : Nat} {d1 d2 : D} (h : EvA K tr sl [d1, d2]) (k : P.nx ((sl.set i (.fz d1)).set j (.fz d2))) : W K E (tPar i j tr) sl P := fun B0 H0 B H σ D sd m =>
  h B0 H0 B H σ sd _ fun vs B1 H1 g1 dd => by
    obtain ⟨v, w, rfl, e1, e2⟩ := denL_two dd
    exact ⟨v, w, rfl, m.nx B1 H1 _ _ (((sd.grow g1).setFz e1).setFz e2) k⟩
/-- xs.append(e), xs one's own -/
theorem w_app {i : Nat} (hi : sl[i]? = some (.ow xs)) (h : EvR K E te sl (.dat d)) (hz : xs.length < 1000000) (k : P.nx (sl.set i (.ow (xs ++ [d])))) : W K E (tDrop (tBM K "list" rAppend (tVar i) (tCons te tNil))) sl P := fun B0 H0 B H σ D sd m => by
  obtain ⟨p, vs, h1, h2, h3, h4, h5⟩ := sd.ow i xs hi
  refine ⟨_, h1, .inl ⟨rfl, _, .inl (.inl h4)⟩, h B0 H0 B H σ sd _ fun v B1 H1 g1 d1 => ?_⟩
  obtain ⟨q, us, e1, e2, e3, e4, e5⟩ := (sd.grow g1).ow i xs hi
  rw [h1] at e1
  cases e1
  refine ⟨p, us, v, rfl, rfl, e4, ?_, m.nx _ _ _ _ ((sd.grow g1).mut hi h1 (denL_app e5 (denL_cons d1 denL_nil))) k⟩
  rw [← denL_len e5, sizeLine_eq]
  omega
/-- .. its elements alone matter: the appended thing may be read with one's own lists as data -/
def frS : Sl → Sl
  | .ow xs => .fz (.lst xs)
  | .rg _ d => .fz d
  | s => s
theorem SD.fr (s : SD K B0 H0 B H σ sl) (ho : ∀ p0 C ns es, Sl.ob p0 C ns es ∉ sl) : SD K H0 H0 H H σ (sl.map frS) ∧ Ex B H := by
  refine ⟨⟨⟨s.gr.eh, s.gr.eh, Ex.refl _, fun p h1 h2 => absurd h1 h2⟩, by simpa using s.len, fun i d e => ?_, fun i xs e => ?_, fun i p0 C ns es e => ?_, fun i j xs ys p e1 => ?_, fun i N d e => ?_⟩, s.sub⟩
  · rw [List.getElem?_map] at e
    cases q : sl[i]? with
    | none => rw [q] at e; cases e
    | some a =>
      rw [q] at e
      cases a with
      | un => cases e
      | ob p0 C ns es => cases e
      | fz d' =>
        cases e
        obtain ⟨v, h1, h2⟩ := s.fz i _ q
        exact ⟨v, h1, den_mono s.sub h2⟩
      | ow xs =>
        cases e
        obtain ⟨p, vs, h1, h2, h3, h4, h5⟩ := s.ow i xs q
        exact ⟨_, h1, mk_lst h4 (denL_mono s.sub h5)⟩
      | rg N d' =>
        cases e
        obtain ⟨v, h1, h2, h3, h4, h5, h6⟩ := s.rg i _ _ q
        exact ⟨v, h1, den_mono h4 h5⟩
  · rw [List.getElem?_map] at e
    cases q : sl[i]? with
    | none => rw [q] at e; cases e
    | some a => rw [q] at e; cases a <;> cases e
  · rw [List.getElem?_map] at e
    cases q : sl[i]? with
    | none => rw [q] at e; cases e
    | some a =>
      rw [q] at e
      cases a with
      | ob p0' C' ns' es' => exact absurd (List.mem_of_getElem? q) (ho _ _ _ _)
      | un => cases e
      | fz _ => cases e
      | ow _ => cases e
      | rg _ _ => cases e
  · rw [List.getElem?_map] at e1
    cases q : sl[i]? with
    | none => rw [q] at e1; cases e1
    | some a => rw [q] at e1; cases a <;> cases e1
  · rw [List.getElem?_map] at e
    cases q : sl[i]? with
    | none => rw [q] at e; cases e
    | some a => rw [q] at e; cases a <;> cases e
def noOb : List Sl → Bool
  | [] => true
  | .ob _ _ _ _ :: _ => false
  | _ :: l => noOb l
theorem noOb_mem : ∀ {sl : List Sl}, noOb sl = true → ∀ p0 C ns es, Sl.ob p0 C ns es ∉ sl
  | [], _, _, _, _, _, h => nomatch h
  | .un :: l, h, p0, C, ns, es, m => by
    rcases List.mem_cons.mp m with z | z
    · cases z
    · exact noOb_mem (sl := l) h p0 C ns es z
  | .fz d :: l, h, p0, C, ns, es, m => by
    rcases List.mem_cons.mp m with z | z
    · cases z
    · exact noOb_mem (sl := l) h p0 C ns es z
  | .ow d :: l, h, p0, C, ns, es, m => by
    rcases List.mem_cons.mp m with z | z
    · cases z
    · exact noOb_mem (sl := l) h p0 C ns es z
  | .rg _ d :: l, h, p0, C, ns, es, m => by
    rcases List.mem_cons.mp m with z | z
    · cases z
    · exact noOb_mem (sl := l) h p0 C ns es z
  | .ob _ _ _ _ :: l, h, p0, C, ns, es, m => by cases h
/-- an expression that reads one's own lists too, and gives a scalar -/
theorem gr_fr (s : SD K B0 H0 B H σ sl) (g : Gr H H B' H') : Gr B H B H' := ⟨Ex.refl _, g.eh, s.sub.trans g.eh, fun p h1 _ => h1⟩
theorem ev_fr (h : EvR K E te (sl.map frS) (.dat d)) (hs : sca d = true) (ho : noOb sl = true := by rfl) : EvR K E te sl (.dat d) := fun B0 H0 B H σ sd Q q =>
  h H0 H0 H H σ (sd.fr (noOb_mem ho)).1 Q fun v B1 H1 g1 d1 => q v B H1 (gr_fr sd g1) (den_sca hs d1)
theorem et_fr {b : Bool} (h : EvT K c (sl.map frS) b) (ho : noOb sl = true := by rfl) : EvT K c sl b := fun B0 H0 B H σ sd Q q =>
  h H0 H0 H H σ (sd.fr (noOb_mem ho)).1 Q fun B1 H1 g1 => q B H1 (gr_fr sd g1)
/-- .. a new list of scalars -/
theorem ev_frN (h : EvR K E te (sl.map frS) (.new xs)) (hs : ∀ d ∈ xs, sca d = true) (ho : noOb sl = true := by rfl) : EvR K E te sl (.new xs) := fun B0 H0 B H σ sd Q q =>
  h H0 H0 H H σ (sd.fr (noOb_mem ho)).1 Q fun p vs B1 H1 g1 h0 h1 h2 h3 => q p vs B H1 (gr_fr sd g1) h0 (fresh_back sd.sub h0) h2 (denL_sca hs h3)
/-- .. new objects alone -/
theorem ev_frF (h : EvR K E te (sl.map frS) (.frs d)) (ho : noOb sl = true := by rfl) : EvR K E te sl (.frs d) := fun B0 H0 B H σ sd Q q =>
  h H0 H0 H H σ (sd.fr (noOb_mem ho)).1 Q fun v N B1 H1 g1 e n dv => by
    have nb : ∀ p o, B p = some o → N p = none := fun p o z => by
      cases w : N p with
      | none => rfl
      | some u =>
        have := n p u w
        rw [sd.sub p o z] at this
        cases this
    refine q v N (fun p => match N p with | some o => some o | none => B p) H1 ⟨fun p o z => ?_, g1.eh, fun p o z => ?_, fun p h1 h2 => ?_⟩ (fun p o z => ?_) n dv
    · show (match N p with | some o => some o | none => B p) = some o
      rw [nb p o z]
      exact z
    · have z : (match N p with | some o => some o | none => B p) = some o := z
      cases w : N p with
      | none =>
        rw [w] at z
        exact g1.eh p o (sd.sub p o z)
      | some u =>
        rw [w] at z
        cases z
        exact g1.sub p _ (e p _ w)
    · show (match N p with | some o => some o | none => B p) = none
      cases w : N p with
      | none => exact h1
      | some u => exact absurd (n p u w) h2
    · show (match N p with | some o => some o | none => B p) = some o
      rw [z]
/-! targets -/
theorem gw_name {j : Nat} {P : List Sl → Prop} (h : P (sl.set j (.fz d))) : GW K (gName j) d sl P := fun B0 H0 B H σ v sd dv Q q => q _ _ (sd.setFz dv) h
theorem gws_nil {P : List Sl → Prop} (h : P sl) : GWs K gNil [] sl P := fun B0 H0 B H σ vs sd dv Q q => ⟨denL_inv0 dv, q _ _ sd h⟩
theorem gws_cons {g : TG} {gs : TGs} {P : List Sl → Prop} (h : GW K g d sl fun s => GWs K gs ds s P) : GWs K (gCons g gs) (d :: ds) sl P := fun B0 H0 B H σ vs sd dv Q q => by
  obtain ⟨v, r, rfl, h1, h2⟩ := denL_inv dv
  exact ⟨v, r, rfl, h B0 H0 B H σ v sd h1 _ fun σ' sl' s' hp => hp B0 H0 B H σ' r s' h2 Q q⟩
theorem gw_tup {gs : TGs} {n : Nat} {P : List Sl → Prop} (hn : ds.length = n) (h : GWs K gs ds sl P) : GW K (gTup K n gs) (.tup ds) sl P := fun B0 H0 B H σ v sd dv Q q => by
  obtain ⟨a, vs, rfl, h1, h2⟩ := den_tup dv
  exact ⟨a, vs, rfl, SqT.of (sd.sub a _ h1), by rw [← denL_len h2]; exact hn, h B0 H0 B H σ vs sd h2 Q q⟩
/-! for -/
theorem w_for {ti : TI} {g : TG} {tb : TS} (Iv : Nat → List Sl → Prop) (hi : ItE K ti sl xs) (h0 : Iv 0 sl)
    (hs : ∀ i d s, xs[i]? = some d → Iv i s → GW K g d s fun s2 => W K E tb s2 { nx := Iv (i + 1), ct := Iv (i + 1), bk := P.nx, rt := P.rt }) (hd : ∀ s, Iv xs.length s → P.nx s) : W K E (tFor ti g tb) sl P := fun B0 H0 B H σ D sd m =>
  hi B0 H0 B H σ sd _ fun J B1 H1 g1 jo => by
    have sd1 := sd.grow g1
    refine ⟨fun i n σ' H' => n = xs.length - i ∧ i ≤ xs.length ∧ ∃ B' sl', SD K B1 H0 B' H' σ' sl' ∧ Iv i sl', ⟨xs.length, by simp, Nat.zero_le _, B1, sl, sd1.rebase, h0⟩, ?_⟩
    rintro i n σ2 H2 ⟨rfl, hi2, B2, sl2, sd2, iv⟩
    obtain ⟨jg, js⟩ := jo i H2 (sd2.gr.eb.trans sd2.sub)
    by_cases hlt : i < xs.length
    · right
      have hx : xs[i]? = some xs[i] := List.getElem?_eq_getElem hlt
      obtain ⟨go, yl⟩ := jg _ hx
      refine ⟨go, fun σ' H' => ∃ B' sl', SD K B1 H0 B' H' σ' sl' ∧ Iv (i + 1) sl', fun σ' H' ⟨B', sl', s', q⟩ => ⟨xs.length - (i + 1), by omega, rfl, hlt, B', sl', s', q⟩, fun v H3 hy => ?_⟩
      obtain ⟨e3, dv⟩ := yl v H3 hy
      rw [e3]
      refine hs i _ sl2 hx iv B1 H0 B2 H2 σ2 v sd2 (den_mono sd2.gr.eb dv) _ fun σ3 sl3 sd3 hw => ?_
      refine hw B1 H0 B2 H2 σ3 _ sd3 ⟨fun B H σ sl s q => ⟨B, sl, s, q⟩, fun B H σ sl s q => m.nx B H σ sl (s.unbase sd1.gr) q, fun B H σ sl s q => ⟨B, sl, s, q⟩, fun r B H g q => m.rt r B H (gr_un sd1.gr g) q⟩
    · left
      have e : i = xs.length := by omega
      subst e
      exact ⟨js (Nat.le_refl _), m.nx B2 H2 σ2 sl2 (sd2.unbase sd1.gr) (hd sl2 iv)⟩
/-- the states by turns, a name as the target -/
theorem w_forS {α : Type} {ys : List α} {f : α → D} {ti : TI} {j : Nat} {tb : TS} (S : Nat → List Sl) (hi : ItE K ti sl (ys.map f)) (h0 : Fgt sl (S 0))
    (hs : ∀ i a, ys[i]? = some a → W K E tb ((S i).set j (.fz (f a))) { nx := fun s => Fgt s (S (i + 1)), ct := fun s => Fgt s (S (i + 1)), bk := P.nx, rt := P.rt }) (hd : ∀ s, Fgt s (S ys.length) → P.nx s) : W K E (tFor ti (gName j) tb) sl P := by
  refine w_for (fun i s => Fgt s (S i)) hi h0 (fun i d s h1 h2 => ?_) (fun s h => hd s (by rwa [List.length_map] at h))
  rw [List.getElem?_map] at h1
  cases e : ys[i]? with
  | none => rw [e] at h1; cases h1
  | some a =>
    rw [e] at h1
    cases h1
    refine gw_name (w_fgt ?_ (hs i a e))
    refine ⟨by simpa using h2.1, fun k => ?_⟩
    by_cases z : k = j
    · subst z
      by_cases hl : k < s.length
      · rw [List.getElem?_set_self hl, List.getElem?_set_self (by rw [← h2.1]; exact hl)]
        exact .inr rfl
      · have e1 : (s.set k (Sl.fz (f a)))[k]? = none := List.getElem?_eq_none (by simpa using hl)
        have e2 : ((S i).set k (Sl.fz (f a)))[k]? = none := List.getElem?_eq_none (by rw [List.length_set, ← h2.1]; omega)
        rw [e1, e2]
        exact .inr rfl
    · rw [List.getElem?_set_ne (Ne.symm z), List.getElem?_set_ne (Ne.symm z)]
      exact h2.2 k
theorem w_while {c : TT} {tb : TS} (Iv : Nat → List Sl → Prop) (m0 : Nat) (h0 : Iv m0 sl)
    (hs : ∀ m s, Iv m s → ∃ b, EvT K c s b ∧ (b = true → W K E tb s { nx := fun s' => ∃ m', m' < m ∧ Iv m' s', ct := fun s' => ∃ m', m' < m ∧ Iv m' s', bk := P.nx, rt := P.rt }) ∧ (b = false → P.nx s)) : W K E (tWhile c tb) sl P := fun B0 H0 B H σ D sd mt => by
  refine ⟨fun m σ' H' => ∃ B' sl', SD K B0 H0 B' H' σ' sl' ∧ Iv m sl', ⟨m0, B, sl, sd, h0⟩, ?_⟩
  rintro m σ1 H1 ⟨B1, sl1, sd1, iv⟩
  obtain ⟨b, hb, h1, h2⟩ := hs m sl1 iv
  refine hb B0 H0 B1 H1 σ1 sd1 _ fun B2 H2 g2 => ?_
  cases b with
  | true =>
    rw [if_pos rfl]
    refine ⟨fun σ' H' => ∃ m', m' < m ∧ ∃ B' sl', SD K B0 H0 B' H' σ' sl' ∧ Iv m' sl', fun σ' H' q => q, h1 rfl B0 H0 B2 H2 σ1 _ (sd1.grow g2) ⟨fun B H σ sl s ⟨m', hm, q⟩ => ⟨m', hm, B, sl, s, q⟩, mt.nx, fun B H σ sl s ⟨m', hm, q⟩ => ⟨m', hm, B, sl, s, q⟩, mt.rt⟩⟩
  | false =>
    rw [if_neg Bool.false_ne_true]
    exact mt.nx B2 H2 σ1 sl1 (sd1.grow g2) (h2 rfl)
/-! self.f = e -/
theorem putF_zip {f : Str} {v : V} : ∀ {ns : List Str} {vs : List V}, ns.length = vs.length → f ∉ ns → putF f v (ns.zip vs) = (ns ++ [f]).zip (vs ++ [v])
  | [], [], _, _ => rfl
  | [], _ :: _, h, _ => by simp at h
  | _ :: _, [], h, _ => by simp at h
  | n :: ns, w :: vs, h, hn => by
    have ih := putF_zip (f := f) (v := v) (ns := ns) (vs := vs) (by simpa using h) fun z => hn (List.mem_cons_of_mem _ z)
    rw [List.zip_cons_cons, List.cons_append, List.cons_append, List.zip_cons_cons]
    show (if n = f then (n, v) :: ns.zip vs else (n, w) :: putF f v (ns.zip vs)) = _
    rw [if_neg fun z => hn (by rw [z]; exact List.mem_cons_self), ih]
theorem w_fld {p0 C : Addr} {ns : List Str} {es : List D} {f : Str} (hi : sl[0]? = some (.ob p0 C ns es)) (cl : Cls K C) (na : NoAttr K C f) (hf : f ∉ ns) (hz : ns.length < 1000) (h : EvR K E te sl (.frs d)) (k : P.nx (sl.set 0 (.ob p0 C (ns ++ [f]) (es ++ [d])))) (ho : ∀ p0' C' ns' es', Sl.ob p0' C' ns' es' ∉ sl.tail := by simp) :
    W K E (sFld K (tVar 0) te f) sl P := fun B0 H0 B H σ D sd m =>
  h B0 H0 B H σ sd _ fun v Nv B1 H1 g1 ev nv d1 => by
    have s1 := sd.grow g1
    obtain ⟨p, dx, vs, e1, e2, e3, e4, e6, e5⟩ := s1.ob 0 p0 C ns es hi
    refine ⟨_, e1.1, p, C, dx, _, rfl, e4, cl, na, ?_, ?_⟩
    · rw [List.length_zip]
      omega
    · rw [putF_zip e6 hf]
      have hl : 0 < sl.length := (List.getElem?_eq_some_iff.mp hi).1
      have at_ : ∀ (j : Nat) (x : Sl), (sl.set 0 (.ob p0 C (ns ++ [f]) (es ++ [d])))[j]? = some x → (j = 0 ∧ x = .ob p0 C (ns ++ [f]) (es ++ [d])) ∨ (j ≠ 0 ∧ sl[j]? = some x) := fun j x e => by
        by_cases z : j = 0
        · subst z
          rw [List.getElem?_set_self hl] at e
          exact .inl ⟨rfl, (Option.some.inj e).symm⟩
        · rw [List.getElem?_set_ne (Ne.symm z)] at e
          exact .inr ⟨z, e⟩
      have nb : ∀ a o, B1 a = some o → a ≠ p := fun a o h z => by
        rw [z, e3] at h
        cases h
      refine m.nx B1 _ σ _ ⟨⟨s1.gr.eb, fun a o h => ?_, fun a o h => ?_, s1.gr.out⟩, by simpa using s1.len, fun j d' e => ?_, fun j zs e => ?_, fun j p0' C' ns' ds' e => ?_, fun j k' zs ws r f1 f2 f3 f4 => ?_, fun j N d' e => ?_⟩ k
      · rw [upd_ne (ne_of_none h e2)]
        exact s1.gr.eh a o h
      · rw [upd_ne (nb a o h)]
        exact s1.gr.sub a o h
      · rcases at_ j _ e with ⟨_, z⟩ | ⟨_, z⟩
        · cases z
        · exact s1.fz j _ z
      · rcases at_ j _ e with ⟨a, z⟩ | ⟨a, z⟩
        · cases z
        · obtain ⟨r, ws, f1, f2, f3, f4, f5⟩ := s1.ow j zs z
          refine ⟨r, ws, f1, f2, f3, ?_, f5⟩
          rw [upd_ne]
          · exact f4
          · rintro rfl
            rw [e4] at f4
            cases f4
      · rcases at_ j _ e with ⟨a, z⟩ | ⟨a, z⟩
        · cases z
          subst a
          obtain ⟨N, n1, n2, n3⟩ := e5
          refine ⟨p, dx, vs ++ [v], e1, e2, e3, upd_same, by simp [e6], fun a => match N a with | some o => some o | none => Nv a, fun a o z => ?_, fun a o z => ?_, denL_app (denL_mono (fun a o z => ?_) n3) (denL_cons (den_mono (fun a o z => ?_) d1) denL_nil)⟩
          · have z : (match N a with | some o => some o | none => Nv a) = some o := z
            cases w : N a with
            | none =>
              rw [w] at z
              exact ev a o z
            | some u =>
              rw [w] at z
              cases z
              exact n1 a _ w
          · have z : (match N a with | some o => some o | none => Nv a) = some o := z
            cases w : N a with
            | none =>
              rw [w] at z
              exact sd.gr.back (nv a o z)
            | some u => exact n2 a u w
          · show (match N a with | some o => some o | none => Nv a) = some o
            rw [z]
          · show (match N a with | some o => some o | none => Nv a) = some o
            cases w : N a with
            | none => exact z
            | some u =>
              exact (n1 a u w).symm.trans (ev a o z)
        · obtain ⟨r, dx', ws, f1, f2, f3, f4, f6, f5⟩ := s1.ob j _ _ _ _ z
          refine absurd (List.mem_of_getElem? (i := j - 1) (l := sl.tail) ?_) (ho p0' C' ns' ds')
          rw [List.getElem?_tail, show j - 1 + 1 = j by omega]
          exact z
      · rcases at_ j _ f1 with ⟨_, z⟩ | ⟨_, z1⟩
        · cases z
        · rcases at_ k' _ f2 with ⟨_, z⟩ | ⟨_, z2⟩
          · cases z
          · exact s1.ap j k' zs ws r z1 z2 f3 f4
      · rcases at_ j _ e with ⟨_, z⟩ | ⟨_, z⟩
        · cases z
        · obtain ⟨v', g1', g2, g3, g4, g5, g6⟩ := s1.rg j _ _ z
          refine ⟨v', g1', g2, g3, fun a o h => ?_, g5, fun k' x q f1 f2 f3 => ?_⟩
          · rw [upd_ne (ne_of_none h (g6 0 _ p hi rfl e1.1))]
            exact g4 a o h
          · rcases at_ k' _ f1 with ⟨a, _⟩ | ⟨_, w⟩
            · subst a
              exact g6 0 _ q hi rfl f3
            · exact g6 k' x q w f2 f3
/-! regions -/
theorem SD.setRg {i : Nat} {v : V} {N : Hp} (s : SD K B0 H0 B H σ sl) (n0 : New N H0) (nb : ∀ p o, N p = some o → B p = none) (nh : Ex N H) (nd : Den K N d v) (no : ∀ (j : Nat) (x : Sl) (p : Addr), sl[j]? = some x → x.own = true → σ[j]? = some (some (.ref p)) → N p = none) :
    SD K B0 H0 B H (σ.set i (some v)) (sl.set i (.rg N d)) := by
  have ne : ∀ (j : Nat) (x : Sl), (∀ N d, x ≠ .rg N d) → (sl.set i (.rg N d))[j]? = some x → j ≠ i ∧ sl[j]? = some x := fun j x hx e => by
    by_cases z : j = i
    · subst z
      by_cases hl : j < sl.length
      · rw [List.getElem?_set_self hl] at e
        exact absurd (Option.some.inj e).symm (hx _ d)
      · rw [List.getElem?_eq_none (by simpa using hl)] at e
        cases e
    · exact ⟨z, by rw [List.getElem?_set_ne (Ne.symm z)] at e; exact e⟩
  refine ⟨s.gr, by simpa using s.len, fun j d' e => ?_, fun j xs e => ?_, fun j p0 C ns ds e => ?_, fun j k xs ys p e1 e2 e3 e4 => ?_, fun j N' d' e => ?_⟩
  · obtain ⟨z, e⟩ := ne j _ (by simp) e
    rw [List.getElem?_set_ne (Ne.symm z)]
    exact s.fz j _ e
  · obtain ⟨z, e⟩ := ne j _ (by simp) e
    rw [List.getElem?_set_ne (Ne.symm z)]
    exact s.ow j xs e
  · obtain ⟨z, e⟩ := ne j _ (by simp) e
    rw [List.getElem?_set_ne (Ne.symm z)]
    exact s.ob j p0 C ns ds e
  · obtain ⟨z1, e1⟩ := ne j _ (by simp) e1
    obtain ⟨z2, e2⟩ := ne k _ (by simp) e2
    rw [List.getElem?_set_ne (Ne.symm z1)] at e3
    rw [List.getElem?_set_ne (Ne.symm z2)] at e4
    exact s.ap j k xs ys p e1 e2 e3 e4
  · by_cases z : j = i
    · subst z
      by_cases hl : j < sl.length
      · rw [List.getElem?_set_self hl] at e
        cases e
        refine ⟨v, by rw [List.getElem?_set_self (by rw [s.len]; exact hl)], n0, nb, nh, nd, fun k x p e1 e2 e3 => ?_⟩
        obtain ⟨z1, e1⟩ := ne k x (by cases x <;> first | (simp [Sl.own] at e2; done) | simp) e1
        rw [List.getElem?_set_ne (Ne.symm z1)] at e3
        exact no k x p e1 e2 e3
      · rw [List.getElem?_eq_none (by simpa using hl)] at e
        cases e
    · rw [List.getElem?_set_ne (Ne.symm z)] at e
      obtain ⟨v', g1, g2, g3, g4, g5, g6⟩ := s.rg j _ _ e
      refine ⟨v', by rw [List.getElem?_set_ne (Ne.symm z)]; exact g1, g2, g3, g4, g5, fun k x p e1 e2 e3 => ?_⟩
      obtain ⟨z1, e1⟩ := ne k x (by cases x <;> first | (simp [Sl.own] at e2; done) | simp) e1
      rw [List.getElem?_set_ne (Ne.symm z1)] at e3
      exact g6 k x p e1 e2 e3
/-- where one's own things lie, something lies -/
theorem SD.there (s : SD K B0 H0 B H σ sl) {j : Nat} {x : Sl} {p : Addr} (h1 : sl[j]? = some x) (h2 : x.own = true) (h3 : σ[j]? = some (some (.ref p))) : H p ≠ none := by
  cases x with
  | ow xs =>
    obtain ⟨q, us, e1, _, _, e2, _⟩ := s.ow j xs h1
    rw [h3] at e1
    cases e1
    rw [e2]
    simp
  | ob p0 C ns ds =>
    obtain ⟨q, dx, us, ⟨e1, _⟩, _, _, e2, _⟩ := s.ob j _ _ _ _ h1
    rw [h3] at e1
    cases e1
    rw [e2]
    simp
  | _ => cases h2
/-- no object in both -/
def Dsj (N N' : Hp) : Prop := ∀ p o, N p = some o → N' p = none
def NewTo (sl : List Sl) (N : Hp) : Prop := ∀ (j : Nat) (N' : Hp) (d : D), sl[j]? = some (.rg N' d) → Dsj N' N
theorem SD.newTo (s : SD K B0 H0 B H σ sl) {N : Hp} (n : New N H) : NewTo sl N := fun j N' d e p o z => by
  obtain ⟨v, h1, h2, h3, h4, h5, h6⟩ := s.rg j _ _ e
  cases w : N p with
  | none => rfl
  | some u =>
    have := n p u w
    rw [h4 p o z] at this
    cases this
theorem w_asgR {i : Nat} (h : EvR K E te sl (.frs d)) (k : ∀ N, NewTo sl N → P.nx (sl.set i (.rg N d))) : W K E (tAsg te (gName i)) sl P := fun B0 H0 B H σ D sd m =>
  h B0 H0 B H σ sd _ fun v N B1 H1 g1 e n dv => by
    have g : Gr B H B H1 := ⟨Ex.refl _, g1.eh, sd.sub.trans g1.eh, fun _ h _ => h⟩
    refine m.nx B H1 _ _ ((sd.grow g).setRg (fun p o z => sd.gr.back (n p o z)) (fun p o z => fresh_back sd.sub (n p o z)) (e.trans g1.sub) dv fun j x p h1 h2 h3 => ?_) (k N (sd.newTo n))
    cases w : N p with
    | none => rfl
    | some o => exact absurd (n p o w) (sd.there h1 h2 h3)
/-- arguments of new objects alone -/
def EvAF (K : PySem.W.Frag) (ta : TA) (sl : List Sl) (ds : List D) : Prop := ∀ B0 H0 B H σ, SD K B0 H0 B H σ sl → ∀ Q : List V → Hp → Prop, (∀ vs N B' H', Gr B H B' H' → Ex N B' → New N H → DenL K N ds vs → Q vs H') → ta σ H Q
theorem eaf_nil : EvAF K tNil sl [] := fun B0 H0 B H σ sd Q q => q [] (fun _ => none) B H (Gr.refl sd.sub) (fun _ _ z => nomatch z) (fun _ _ z => nomatch z) denL_nil
theorem eaf_cons (h : EvR K E0 ta sl (.frs x)) (hr : EvAF K tr sl ds) : EvAF K (tCons ta tr) sl (x :: ds) := fun B0 H0 B H σ sd Q q =>
  h B0 H0 B H σ sd _ fun v N1 B1 H1 g1 e1 n1 d1 => hr B0 H0 B1 H1 σ (sd.grow g1) _ fun vs N2 B2 H2 g2 e2 n2 d2 => by
    have a1 : Ex N1 (fun a => match N1 a with | some o => some o | none => N2 a) := fun a o z => by
      show (match N1 a with | some o => some o | none => N2 a) = some o
      rw [z]
    have a2 : Ex N2 (fun a => match N1 a with | some o => some o | none => N2 a) := fun a o z => by
      show (match N1 a with | some o => some o | none => N2 a) = some o
      cases w : N1 a with
      | none => exact z
      | some u => exact (g2.eb _ _ (e1 a u w)).symm.trans (e2 a o z)
    refine q _ (fun a => match N1 a with | some o => some o | none => N2 a) _ _ (g1.trans g2) (fun a o z => ?_) (fun a o z => ?_) (denL_cons (den_mono a1 d1) (denL_mono a2 d2))
    · have z : (match N1 a with | some o => some o | none => N2 a) = some o := z
      cases w : N1 a with
      | none =>
        rw [w] at z
        exact e2 a o z
      | some u =>
        rw [w] at z
        cases z
        exact g2.eb _ _ (e1 a _ w)
    · have z : (match N1 a with | some o => some o | none => N2 a) = some o := z
      cases w : N1 a with
      | none =>
        rw [w] at z
        exact g1.back (n2 a o z)
      | some u => exact n1 a u w
theorem frs_new {v : V} {N B' H' : Hp} {Q : VK} {p : Addr} {o : HO} (g : Gr B H B' H') (e : Ex N B') (n : New N H) (hp : H' p = none) : Gr B H (upd B' p o) (upd H' p o) ∧ Ex (upd N p o) (upd B' p o) ∧ New (upd N p o) H ∧ N p = none := by
  have bp : B' p = none := fresh_back g.sub hp
  have np : N p = none := fresh_back e bp
  refine ⟨g.trans (Gr.layB g.sub hp), fun a u z => ?_, fun a u z => ?_, np⟩
  · by_cases w : a = p
    · subst w
      rw [upd_same] at z ⊢
      exact z
    · rw [upd_ne w] at z ⊢
      exact e a u z
  · by_cases w : a = p
    · subst w
      exact g.back hp
    · rw [upd_ne w] at z
      exact n a u z
theorem ev_lstF (h : EvAF K tr sl ds) (hl : ds.length ≤ sizeLine) : EvR K E (tLst tr) sl (.frs (.lst ds)) := fun B0 H0 B H σ sd Q q =>
  h B0 H0 B H σ sd _ fun vs N B1 H1 g1 e1 n1 d1 => ⟨by rw [← denL_len d1]; exact hl, fun p hp => by
    obtain ⟨a, b, c, np⟩ := frs_new (v := .non) (Q := Q) (o := .lst vs) g1 e1 n1 hp
    exact q _ _ _ _ a b c (mk_lst upd_same (denL_mono (ex_upd np) d1))⟩
theorem ev_tupF (h : EvAF K tr sl ds) (hl : ds.length ≤ sizeLine) : EvR K E (tTup tr) sl (.frs (.tup ds)) := fun B0 H0 B H σ sd Q q =>
  h B0 H0 B H σ sd _ fun vs N B1 H1 g1 e1 n1 d1 => ⟨by rw [← denL_len d1]; exact hl, fun p hp => by
    obtain ⟨a, b, c, np⟩ := frs_new (v := .non) (Q := Q) (o := .tup vs) g1 e1 n1 hp
    exact q _ _ _ _ a b c (mk_tup upd_same (denL_mono (ex_upd np) d1))⟩
/-- an object that is nobody's here is changed -/
theorem SD.alter {q : Addr} {o : HO} (s : SD K B0 H0 B H σ sl) (hb : B q = none) (h0 : H0 q = none) (ho : ∀ (j : Nat) (x : Sl), sl[j]? = some x → x.own = true → σ[j]? ≠ some (some (.ref q))) (hr : ∀ (j : Nat) (N : Hp) (d : D), sl[j]? = some (.rg N d) → N q = none) : SD K B0 H0 B (upd H q o) σ sl := by
  refine ⟨⟨s.gr.eb, fun a u z => ?_, fun a u z => ?_, s.gr.out⟩, s.len, s.fz, fun j xs e => ?_, fun j p0 C ns ds e => ?_, s.ap, fun j N d e => ?_⟩
  · rw [upd_ne (ne_of_none z h0)]
    exact s.gr.eh a u z
  · rw [upd_ne (ne_of_none z hb)]
    exact s.gr.sub a u z
  · obtain ⟨p, vs, h1, h2, h3, h4, h5⟩ := s.ow j xs e
    refine ⟨p, vs, h1, h2, h3, ?_, h5⟩
    rw [upd_ne fun z => ho j _ e rfl (by rw [← z]; exact h1)]
    exact h4
  · obtain ⟨p, dx, vs, h1, h2, h3, h4, h6, h5⟩ := s.ob j p0 C ns ds e
    refine ⟨p, dx, vs, h1, h2, h3, ?_, h6, h5⟩
    rw [upd_ne fun z => ho j _ e rfl (by rw [← z]; exact h1.1)]
    exact h4
  · obtain ⟨v, h1, h2, h3, h4, h5, h6⟩ := s.rg j N d e
    refine ⟨v, h1, h2, h3, fun a u z => ?_, h5, h6⟩
    rw [upd_ne (ne_of_none z (hr j N d e))]
    exact h4 a u z
theorem fgt_un (sl : List Sl) (i : Nat) : Fgt sl (sl.set i .un) := ⟨by simp, fun k => by
  by_cases z : k = i
  · subst z
    by_cases hl : k < sl.length
    · exact .inl (by rw [List.getElem?_set_self hl])
    · have e1 : (sl.set k Sl.un)[k]? = none := List.getElem?_eq_none (by simpa using hl)
      have e2 : sl[k]? = none := List.getElem?_eq_none (by simpa using hl)
      rw [e1, e2]
      exact .inr rfl
  · exact .inr (by rw [List.getElem?_set_ne (Ne.symm z)])⟩
def noRg : List Sl → Bool
  | [] => true
  | .rg _ _ :: _ => false
  | _ :: l => noRg l
theorem noRg_at : ∀ {sl : List Sl}, noRg sl = true → ∀ (j : Nat) (N : Hp) (d : D), sl[j]? ≠ some (.rg N d)
  | [], _, j, N, d, h => by simp at h
  | s :: l, h, 0, N, d, e => by
    have e : s = .rg N d := by simpa using e
    subst e
    cases h
  | s :: l, h, j + 1, N, d, e => by
    have h' : noRg l = true := by cases s <;> first | exact h | cases h
    exact noRg_at h' j N d (by simpa using e)
theorem denL_intsV : ∀ {ns : List Int} {vs : List V} {N : Hp}, DenL K N (ns.map D.int) vs → ∀ q, V.ref q ∉ vs
  | ns, vs, N, h, q, m => by
    rw [denL_ints h] at m
    obtain ⟨n, _, e⟩ := List.mem_map.mp m
    cases e
/-- for x in xs: x.append(0), xs a list of one's own with lists of ints -/
theorem w_forApp0 {i j : Nat} {N : Hp} {xss : List (List Int)} (hi : sl[i]? = some (.rg N (.lst (xss.map fun xs => .lst (xs.map .int))))) (hij : i ≠ j) (hj : sl[j]? = some .un) (hr : noRg (sl.set i .un) = true) (hz : ∀ xs ∈ xss, xs.length ≤ 1000) (hn : xss.length ≤ 1000) (k : P.nx (sl.set i .un)) :
    W K E (tFor (iList K (tVar i)) (gName j) (tDrop (tBM K "list" rAppend (tVar j) (tCons (tC (.int 0)) tNil)))) sl P := fun B0 H0 B H σ D sd m => by
  obtain ⟨v, h1, h2, h3, h4, h5, h6⟩ := sd.rg i _ _ hi
  obtain ⟨a, vs, rfl, ha, hd⟩ := den_lst h5
  have hlen := denL_len hd
  rw [List.length_map] at hlen
  have jl : j < σ.length := by
    rw [sd.len]
    exact (List.getElem?_eq_some_iff.mp hj).1
  -- what stands in it
  have ins : ∀ u, u ∈ vs → ∃ q us, u = .ref q ∧ N q = some (.lst us) ∧ us.length ≤ 1000 ∧ ∀ r, V.ref r ∉ us := fun u hu => by
    obtain ⟨l, hl, e⟩ := List.getElem_of_mem hu
    obtain ⟨dd, e1, e2⟩ := denL_getV hd (List.getElem?_eq_some_iff.mpr ⟨hl, e⟩)
    rw [List.getElem?_map] at e1
    cases w : xss[l]? with
    | none => rw [w] at e1; cases e1
    | some xs =>
      rw [w] at e1
      cases e1
      obtain ⟨q, us, e3, e4, e5⟩ := den_lst e2
      refine ⟨q, us, e3, e4, ?_, denL_intsV e5⟩
      rw [← denL_len e5, List.length_map]
      exact hz xs (List.mem_of_getElem? w)
  have own_ : ∀ u q, u ∈ vs → u = V.ref q → q ≠ a := fun u q hu e z => by
    obtain ⟨q', us, e1, e2, _, e4⟩ := ins u hu
    rw [e] at e1
    cases e1
    rw [z, ha] at e2
    cases e2
    exact e4 a (by rw [← z]; rw [e] at hu; exact hu)
  refine ⟨_, h1, a, rfl, ⟨vs, SqL.of (h4 a _ ha)⟩, fun idx mm σ' H' => mm = vs.length - idx ∧ idx ≤ vs.length ∧ SD K B0 H0 B H' σ' (sl.set i .un) ∧ (∀ k, k ≠ j → σ'[k]? = σ[k]?) ∧ σ'.length = σ.length ∧ H' a = some (.lst vs) ∧ ∀ q, V.ref q ∈ vs → ∃ us, H' q = some (.lst us) ∧ us.length ≤ 1000 + idx, ⟨vs.length, by simp, Nat.zero_le _, sd.fgt (fgt_un sl i), fun _ _ => rfl, rfl, h4 a _ ha, fun q hq => ?_⟩, ?_⟩
  · obtain ⟨q', us, e1, e2, e3, _⟩ := ins _ hq
    cases e1
    exact ⟨us, h4 q _ e2, e3⟩
  rintro idx mm σ' H' ⟨rfl, hi2, s', hs', hl', ha', hq'⟩
  by_cases hlt : idx < vs.length
  · right
    refine ⟨⟨vs, vs[idx], SqL.of ha', List.getElem?_eq_getElem hlt⟩, fun σ2 H2 => idx + 1 ≤ vs.length ∧ SD K B0 H0 B H2 σ2 (sl.set i .un) ∧ (∀ k, k ≠ j → σ2[k]? = σ[k]?) ∧ σ2.length = σ.length ∧ H2 a = some (.lst vs) ∧ ∀ q, V.ref q ∈ vs → ∃ us, H2 q = some (.lst us) ∧ us.length ≤ 1000 + (idx + 1), fun σ2 H2 ⟨z1, z2⟩ => ⟨vs.length - (idx + 1), by omega, rfl, z1, z2⟩, fun x H3 hy => ?_⟩
    obtain ⟨e3, hx⟩ := hy
    rw [e3]
    have hx := hx vs (SqL.of ha')
    have hm : x ∈ vs := List.mem_of_getElem? hx
    obtain ⟨q, us0, rfl, nq, _, _⟩ := ins x hm
    obtain ⟨us, hq, hul⟩ := hq' q hm
    have hxj : (σ'.set j (some (V.ref q)))[j]? = some (some (.ref q)) := List.getElem?_set_self (by rw [hl']; exact jl)
    refine ⟨_, hxj, .inl ⟨rfl, _, .inl (.inl hq)⟩, q, us, .int 0, rfl, rfl, hq, ?_, hlt, ?_, fun k hk => ?_, by simpa using hl', ?_, fun r hr2 => ?_⟩
    · have : vs.length ≤ 1000 := by omega
      exact Nat.lt_of_le_of_lt (Nat.le_trans hul (show 1000 + idx ≤ 3000 by omega)) (by decide)
    · have sj : (sl.set i .un).set j .un = sl.set i .un := by
        apply List.ext_getElem?
        intro k
        by_cases z : k = j
        · subst z
          have : (sl.set i Sl.un)[k]? = some .un := by rw [List.getElem?_set_ne hij]; exact hj
          rw [List.getElem?_set_self (by rw [List.length_set, ← sd.len]; exact jl), this]
        · rw [List.getElem?_set_ne (Ne.symm z)]
      have s2 : SD K B0 H0 B H' (σ'.set j (some (V.ref q))) (sl.set i .un) := by
        have := s'.setUn (i := j) (v := some (V.ref q))
        rwa [sj] at this
      refine s2.alter (h3 q _ nq) (h2 q _ nq) (fun l x e1 e2 e4 => ?_) (fun j N d z => absurd z (noRg_at hr j N d))
      have lj : l ≠ j := fun z => by
        subst z
        rw [List.getElem?_set_ne hij, hj] at e1
        cases e1
        cases e2
      have li : l ≠ i := fun z => by
        subst z
        rw [List.getElem?_set_self (by rw [← sd.len]; exact (List.getElem?_eq_some_iff.mp h1).1)] at e1
        cases e1
        cases e2
      rw [List.getElem?_set_ne (Ne.symm lj), hs' l lj] at e4
      rw [List.getElem?_set_ne (Ne.symm li)] at e1
      rw [h6 l x q e1 e2 e4] at nq
      cases nq
    · rw [List.getElem?_set_ne (Ne.symm hk)]
      exact hs' k hk
    · rw [upd_ne (Ne.symm (own_ _ q hm rfl))]
      exact ha'
    · by_cases z : r = q
      · subst z
        exact ⟨_, upd_same, by rw [List.length_append, List.length_singleton]; omega⟩
      · obtain ⟨ws, f1, f2⟩ := hq' r hr2
        exact ⟨ws, by rw [upd_ne z]; exact f1, by omega⟩
  · left
    have e : idx = vs.length := by omega
    subst e
    exact ⟨⟨vs, SqL.of ha', Nat.le_refl _⟩, m.nx B H' σ' _ s' k⟩
end
end Wv
namespace Wv
open PySem L2
open Evl (Ex fresh_back ex_l)

/-! ### defs -/
/-- a def of the text, where it stands -/
def FnAt (K : PySem.W.Frag) (mg : Str → Option Value) (x : Str) (st : Stmt) (ps : List Str) : Prop := ∃ f fd, mg x = some (.ref f) ∧ Fun K x x st f fd ∧ Binds K fd ps []
def MtAt (K : PySem.W.Frag) (C : Addr) (m q : Str) (st : Stmt) (ps : List Str) : Prop := ∃ f fd, Meth K C m f ∧ Fun K m q st f fd ∧ Binds K fd ps []
def MkAt (K : PySem.W.Frag) (mg : Str → Option Value) (x : Str) (C : Addr) (q : Str) (st : Stmt) (ps : List Str) : Prop := ∃ f fd, mg x = some (.ref C) ∧ Mk K C f ∧ Fun K "__init__" q st f fd ∧ Binds K fd ps []
/-- a def that keeps its promise -/
def OkD (P : Program) (w : World) (K : PySem.W.Frag) (mg : Str → Option Value) (base : Heap) (CX : CXT) (k : Nat) (x : Str) (ps : List Str) (sp : Sp) : Prop := ∃ f fd, mg x = some (.ref f) ∧ PySem.W.keepIn K (.ref f) = true ∧ Binds K fd ps [] ∧ FnOk P w K mg base CX k f fd ps sp
def OkM (P : Program) (w : World) (K : PySem.W.Frag) (mg : Str → Option Value) (base : Heap) (CX : CXT) (k : Nat) (C : Addr) (m : Str) (ps : List Str) (sp : Sp) : Prop := ∃ f fd, Meth K C m f ∧ Binds K fd ps [] ∧ FnOk P w K mg base CX k f fd ps sp
def OkI (P : Program) (w : World) (K : PySem.W.Frag) (mg : Str → Option Value) (base : Heap) (CX : CXT) (k : Nat) (x : Str) (C : Addr) (ps : List Str) (sp : Sp) : Prop := ∃ f fd, mg x = some (.ref C) ∧ Mk K C f ∧ Binds K fd ps [] ∧ FnOk P w K mg base CX k f fd ps sp
section
variable {P : Program} {w : World} {K : PySem.W.Frag} {mg : Str → Option Value} {base : Heap} {CX : CXT} {k : Nat} {x m q : Str} {C : Addr} {ps : List Str} {sp : Sp} {st : Stmt}
theorem okD (h : FnAt K mg x st ps) (g : ∀ f fd, Fun K x x st f fd → FnOk P w K mg base CX k f fd ps sp) : OkD P w K mg base CX k x ps sp := by
  obtain ⟨f, fd, h1, h2, h3⟩ := h
  exact ⟨f, fd, h1, h2.kp, h3, g f fd h2⟩
theorem okM (h : MtAt K C m q st ps) (g : ∀ f fd, Fun K m q st f fd → FnOk P w K mg base CX k f fd ps sp) : OkM P w K mg base CX k C m ps sp := by
  obtain ⟨f, fd, h1, h2, h3⟩ := h
  exact ⟨f, fd, h1, h3, g f fd h2⟩
theorem okI (h : MkAt K mg x C q st ps) (g : ∀ f fd, Fun K "__init__" q st f fd → FnOk P w K mg base CX k f fd ps sp) : OkI P w K mg base CX k x C ps sp := by
  obtain ⟨f, fd, h1, h2, h3, h4⟩ := h
  exact ⟨f, fd, h1, h2, h4, g f fd h3⟩
end
section
variable {X : Cx} {CX : CXT} {k : Nat} {C : Addr} {ps : List Str} {sp : Sp} {E : XK} {x m : Str} {p pos apos : Pos} {e o : Expr} {es : List Expr} {ta : TE} {t : TA}
theorem pe_callD (G : OkD X.prog X.w X.K X.mg X.base CX k x ps sp) (hr : Room k X.A) (hg : Gl X x) (hx : Passes CX X E) (ha : PA X (e :: es) t) (hdb : (x == ("__debug__" : Str)) = false := by decide)
    (he : starEach (e :: es) X.env = (false, eval e X.env) :: starEach es X.env := by rfl) (hpl : (backTo pos (starEach es X.env)).any (·.1) = false := by rfl) : PE X (.Call (.Name x p) (e :: es) [] pos) (tCall sp [] E t) := by
  obtain ⟨f, fd, h1, h2, h3, h4⟩ := G
  exact pe_call h4 hr hg h1 h2 h3 .nil hx ha hdb he hpl
theorem pe_callD0 (G : OkD X.prog X.w X.K X.mg X.base CX k x ps sp) (hr : Room k X.A) (hg : Gl X x) (hx : Passes CX X E) (hdb : (x == ("__debug__" : Str)) = false := by decide) : PE X (.Call (.Name x p) [] [] pos) (tCall sp [] E tNil) := by
  obtain ⟨f, fd, h1, h2, h3, h4⟩ := G
  exact pe_call0 h4 hr hg h1 h2 h3 .nil hx hdb
theorem pe_methD {pl : Sem Bool} (he : PE X o ta) (c : Cls X.K C) (G : OkM X.prog X.w X.K X.mg X.base CX k C m ps sp) (hr : Room k X.A) (hx : Passes CX X E) (ha : PA X (e :: es) t)
    (hst : starEach (e :: es) X.env = (false, eval e X.env) :: starEach es X.env := by rfl) (hpl : (backTo pos (starEach es X.env)).any (·.1) = false := by rfl)
    (ht : eval (.Call (.Attribute o m apos) (e :: es) [] pos) X.env = (do
      let ov ← eval o X.env
      standAt apos.atName
      let (f, first) ← holding [ov] (getMethod ov m pl)
      callWith pos f first (backTo pos (starEach (e :: es) X.env)) (backToKw pos (keywordEach [] X.env))) := by rfl) :
    PE X (.Call (.Attribute o m apos) (e :: es) [] pos) (tMeth C m sp [] E ta t) := by
  obtain ⟨f, fd, h1, h2, h3⟩ := G
  exact pe_meth he c h1 h3 hr h2 .nil hx ha hst hpl ht
theorem pe_methD0 {pl : Sem Bool} (he : PE X o ta) (c : Cls X.K C) (G : OkM X.prog X.w X.K X.mg X.base CX k C m ps sp) (hr : Room k X.A) (hx : Passes CX X E)
    (ht : eval (.Call (.Attribute o m apos) [] [] pos) X.env = (do
      let ov ← eval o X.env
      standAt apos.atName
      let (f, first) ← holding [ov] (getMethod ov m pl)
      callWith pos f first (backTo pos (starEach [] X.env)) (backToKw pos (keywordEach [] X.env))) := by rfl) :
    PE X (.Call (.Attribute o m apos) [] [] pos) (tMeth C m sp [] E ta tNil) := by
  obtain ⟨f, fd, h1, h2, h3⟩ := G
  exact pe_meth0 he c h1 h3 hr h2 .nil hx ht
theorem pe_makeD (G : OkI X.prog X.w X.K X.mg X.base CX k x C ps sp) (hr : Room (k + 1) X.A) (hg : Gl X x) (hx : Passes CX X E) (ha : PA X (e :: es) t) (hdb : (x == ("__debug__" : Str)) = false := by decide)
    (he : starEach (e :: es) X.env = (false, eval e X.env) :: starEach es X.env := by rfl) (hpl : (backTo pos (starEach es X.env)).any (·.1) = false := by rfl) : PE X (.Call (.Name x p) (e :: es) [] pos) (tMake C sp [] E t) := by
  obtain ⟨f, fd, h1, h2, h3, h4⟩ := G
  exact pe_make h2 h4 hr hg h1 h3 .nil hx ha hdb he hpl
end

/-! ### a body, from its first state -/
def startS (N : List Str) (ds : List D) : List Sl := ds.map Sl.fz ++ List.replicate (N.length - ds.length) .un
section
variable {K : PySem.W.Frag} {E : XK} {H : Hp} {t : TS} {N : List Str} {vs : List V} {Q : VK} {f : List D → Rs → Prop} {C : Addr}
theorem sp_len {n : Nat} (h : ∀ ds r, f ds r → ds.length = n) : ∀ vs H Q E, SpR K f vs H Q E → vs.length = n := fun vs H Q E ⟨B, ds, r, e, hd, hf, q⟩ => by
  rw [← denL_len hd]
  exact h ds r hf
theorem sd_start {B : Hp} {ds : List D} (e : Ex B H) (hd : DenL K B ds vs) : SD K B H B H (L2.start N vs) (startS N ds) := by
  have hl := denL_len hd
  have at_ : ∀ (i : Nat) (x : Sl), x ≠ .un → (startS N ds)[i]? = some x → ∃ d, ds[i]? = some d ∧ x = .fz d := fun i x hx h => by
    unfold startS at h
    by_cases hi : i < ds.length
    · rw [List.getElem?_append_left (by simpa using hi), List.getElem?_map, List.getElem?_eq_getElem hi] at h
      exact ⟨_, List.getElem?_eq_getElem hi, (Option.some.inj h).symm⟩
    · rw [List.getElem?_append_right (by simpa using hi), List.getElem?_replicate] at h
      split at h
      · exact absurd (Option.some.inj h).symm hx
      · cases h
  refine ⟨Gr.refl e, ?_, fun i d h => ?_, fun i xs h => ?_, fun i p0 C ns ds h => ?_, fun i j xs ys p h => ?_, fun i N d h => ?_⟩
  · unfold L2.start startS
    simp [hl]
  · obtain ⟨d', h1, h2⟩ := at_ i _ (by simp) h
    cases h2
    obtain ⟨v, h3, h4⟩ := denL_get hd h1
    refine ⟨v, ?_, h4⟩
    unfold L2.start
    have hi : i < vs.length := (List.getElem?_eq_some_iff.mp h3).1
    rw [List.getElem?_append_left (by simpa using hi), List.getElem?_map, h3]
    rfl
  · obtain ⟨d', _, h2⟩ := at_ i _ (by simp) h
    cases h2
  · obtain ⟨d', _, h2⟩ := at_ i _ (by simp) h
    cases h2
  · obtain ⟨d', _, h2⟩ := at_ i _ (by simp) h
    cases h2
  · obtain ⟨d', _, h2⟩ := at_ i _ (by simp) h
    cases h2
theorem startS_rg (N : List Str) (ds : List D) : ∀ (j : Nat) (N' : Hp) (d : D), (startS N ds)[j]? ≠ some (.rg N' d) := fun j N' d h => by
  unfold startS at h
  have m := List.mem_of_getElem? h
  rcases List.mem_append.mp m with z | z
  · obtain ⟨d', _, e⟩ := List.mem_map.mp z
    cases e
  · have := List.eq_of_mem_replicate z
    cases this
/-- the body's own words, from the data of the arguments -/
theorem go_of (hw : ∀ ds r, f ds r → W K E t (startS N ds) { nx := fun _ => r = .dat .non, rt := fun r' => r' = r }) (h : SpR K f vs H Q E) : t { nx := fun _ H' => Q .non H', rt := Q } (L2.start N vs) H := by
  obtain ⟨B, ds, r, e, hd, hf, q⟩ := h
  refine hw ds r hf B H B H _ _ (sd_start e hd) ⟨fun B' H' σ sl s z => ?_, fun _ _ _ _ _ z => z.elim, fun _ _ _ _ _ z => z.elim, fun r' B' H' g z => ?_⟩
  · subst z
    exact post_v s.sub (q.shift s.gr) mk_non
  · subst z
    exact (PostF.of q).shift g
/-- an __init__ : slot 0 is the new object; nothing is handed back -/
theorem spI_len {fi : List D → Ri → Prop} {n : Nat} (h : ∀ ds r, fi ds r → ds.length + 1 = n) : ∀ vs H Q E, SpI K C fi vs H Q E → vs.length = n := fun vs H Q E ⟨B, H', x, dx, us, ds, r, e, _, _, _, hd, hf, q⟩ => by
  rw [e, List.length_cons, ← denL_len hd]
  exact h ds r hf
def startI (x C : Addr) (N : List Str) (ds : List D) : List Sl := .ob x C [] [] :: (ds.map Sl.fz ++ List.replicate (N.length - (ds.length + 1)) .un)
theorem SD.consOb {B0 H0 B H : Hp} {σ : L2.St} {sl : List Sl} {p C dx : Addr} {ns : List Str} {vs : List V} {ds : List D} (s : SD K B0 H0 B H σ sl) (h0 : H0 p = none) (h1 : B p = none) (h2 : H p = some (.ins C dx (ns.zip vs)))
    (h3 : ns.length = vs.length) (h4 : ∃ N, Ex N B ∧ New N H0 ∧ DenL K N ds vs) (hr : ∀ (j : Nat) (N : Hp) (d : D), sl[j]? ≠ some (.rg N d)) : SD K B0 H0 B H (some (.ref p) :: σ) (.ob p C ns ds :: sl) := by
  refine ⟨s.gr, by simpa using s.len, fun i d h => ?_, fun i xs h => ?_, fun i p0 C' ns' ds' h => ?_, fun i j xs ys q e1 e2 e3 e4 => ?_, fun i N d h => ?_⟩
  · cases i with
    | zero => cases h
    | succ i => exact s.fz i d (by simpa using h)
  · cases i with
    | zero => cases h
    | succ i => exact s.ow i xs (by simpa using h)
  · cases i with
    | zero =>
      cases h
      exact ⟨p, dx, vs, ⟨rfl, rfl⟩, h0, h1, h2, h3, h4⟩
    | succ i => exact s.ob i _ _ _ _ (by simpa using h)
  · cases i with
    | zero => cases e1
    | succ i =>
      cases j with
      | zero => cases e2
      | succ j => rw [s.ap i j xs ys q (by simpa using e1) (by simpa using e2) (by simpa using e3) (by simpa using e4)]
  · cases i with
    | zero => cases h
    | succ i => exact absurd (by simpa using h) (hr i _ d)
theorem goI_of {fi : List D → Ri → Prop} (hw : ∀ x ds r, fi ds r → W K E t (startI x C N ds) { nx := fun s => ∃ ns es, r = .ok ns es ∧ s[0]? = some (.ob x C ns es), rt := fun r' => ∃ C', r = .exc C' ∧ r' = .exc C' })
    (h : SpI K C fi vs H Q E) : t { nx := fun _ H' => Q .non H', rt := Q } (L2.start N vs) H := by
  obtain ⟨B, H', x, dx, us, ds, r, rfl, e, hx, rfl, hd, hf, q⟩ := h
  have hl := denL_len hd
  have bx : B x = none := fresh_back e hx
  have sd := (sd_start (N := N.tail) e hd).grow (Gr.lay (o := .ins C dx []) e hx)
  have e1 : L2.start N (V.ref x :: us) = some (V.ref x) :: L2.start N.tail us := by
    unfold L2.start
    rw [List.map_cons, List.cons_append, List.length_cons, List.length_tail, show N.length - (us.length + 1) = N.length - 1 - us.length by omega]
  have e2 : startI x C N ds = .ob x C [] [] :: startS N.tail ds := by
    unfold startI startS
    rw [List.length_tail, show N.length - (ds.length + 1) = N.length - 1 - ds.length by omega]
  have sd2 : SD K B H' B (upd H' x (.ins C dx [])) (L2.start N (V.ref x :: us)) (startI x C N ds) := by
    rw [e1, e2]
    exact sd.consOb (ns := []) (vs := []) hx bx upd_same rfl ⟨fun _ => none, fun _ _ z => (nomatch z), fun _ _ z => (nomatch z), denL_nil⟩ (startS_rg _ _)
  refine hw x ds r hf B H' B _ _ _ sd2 ⟨fun B' H2 σ sl s z => ?_, fun _ _ _ _ _ z => z.elim, fun _ _ _ _ _ z => z.elim, fun r' B' H2 g z => ?_⟩
  · obtain ⟨ns, es, rfl, h1⟩ := z
    obtain ⟨p, dx', ws, ⟨f1, f7⟩, f2, f3, f4, f5, f6⟩ := s.ob 0 _ _ _ _ h1
    subst f7
    exact q dx' ws B' H2 s.gr f3 f4 f5 f6
  · obtain ⟨C', rfl, rfl⟩ := z
    exact fun B2 H3 g2 => q B2 H3 (g.trans g2)
end
end Wv
namespace Wv
open PySem L2 PyProof.Rows
open Evl (Ex fresh_back ex_l)

/-! ### promises by their arguments' shapes -/
def R1 {a : Type} (c : a → D) (p : a → Prop) (g : a → Rs) : List D → Rs → Prop := fun ds r => ∃ x, ds = [c x] ∧ p x ∧ r = g x
def R2' {a b : Type} (c : a → D) (d : b → D) (p : a → b → Prop) (g : a → b → Rs) : List D → Rs → Prop := fun ds r => ∃ x y, ds = [c x, d y] ∧ p x y ∧ r = g x y
def R3 {a b c : Type} (ca : a → D) (cb : b → D) (cc : c → D) (p : a → b → c → Prop) (g : a → b → c → Rs) : List D → Rs → Prop := fun ds r => ∃ x y z, ds = [ca x, cb y, cc z] ∧ p x y z ∧ r = g x y z
def R4 {a b c d : Type} (ca : a → D) (cb : b → D) (cc : c → D) (cd : d → D) (p : a → b → c → d → Prop) (g : a → b → c → d → Rs) : List D → Rs → Prop := fun ds r => ∃ x y z u, ds = [ca x, cb y, cc z, cd u] ∧ p x y z u ∧ r = g x y z u
theorem R1.len {a : Type} {c : a → D} {p : a → Prop} {g : a → Rs} : ∀ ds r, R1 c p g ds r → ds.length = 1 := by
  rintro ds r ⟨x, rfl, _, _⟩
  rfl
theorem R2'.len {a b : Type} {c : a → D} {d : b → D} {p : a → b → Prop} {g : a → b → Rs} : ∀ ds r, R2' c d p g ds r → ds.length = 2 := by
  rintro ds r ⟨x, y, rfl, _, _⟩
  rfl
theorem R3.len {a b c : Type} {ca : a → D} {cb : b → D} {cc : c → D} {p : a → b → c → Prop} {g : a → b → c → Rs} : ∀ ds r, R3 ca cb cc p g ds r → ds.length = 3 := by
  rintro ds r ⟨x, y, z, rfl, _, _⟩
  rfl
theorem R4.len {a b c d : Type} {ca : a → D} {cb : b → D} {cc : c → D} {cd : d → D} {p : a → b → c → d → Prop} {g : a → b → c → d → Rs} : ∀ ds r, R4 ca cb cc cd p g ds r → ds.length = 4 := by
  rintro ds r ⟨x, y, z, u, rfl, _, _⟩
  rfl
theorem R1.mk {a : Type} {c : a → D} {p : a → Prop} {g : a → Rs} {x : a} (h : p x) : R1 c p g [c x] (g x) := ⟨x, rfl, h, rfl⟩
theorem R2'.mk {a b : Type} {c : a → D} {d : b → D} {p : a → b → Prop} {g : a → b → Rs} {x : a} {y : b} (h : p x y) : R2' c d p g [c x, d y] (g x y) := ⟨x, y, rfl, h, rfl⟩
theorem R3.mk {a b c : Type} {ca : a → D} {cb : b → D} {cc : c → D} {p : a → b → c → Prop} {g : a → b → c → Rs} {x : a} {y : b} {z : c} (h : p x y z) : R3 ca cb cc p g [ca x, cb y, cc z] (g x y z) := ⟨x, y, z, rfl, h, rfl⟩
theorem R4.mk {a b c d : Type} {ca : a → D} {cb : b → D} {cc : c → D} {cd : d → D} {p : a → b → c → d → Prop} {g : a → b → c → d → Rs} {x : a} {y : b} {z : c} {u : d} (h : p x y z u) : R4 ca cb cc cd p g [ca x, cb y, cc z, cd u] (g x y z u) := ⟨x, y, z, u, rfl, h, rfl⟩

/-! ### shapes -/
abbrev nat (n : Nat) : D := .int (n : Int)
abbrev natL (ns : List Nat) : D := .lst (ns.map nat)
abbrev intL (ns : List Int) : D := .lst (ns.map .int)
abbrev blL (bs : List Bool) : D := .lst (bs.map .bl)
/-- a council of n members with its table -/
abbrev cou (C : Addr) (n : Nat) (t : List Bool) : D := .obj C ["members", "table"] [nat n, blL t]
theorem nats_ints (ns : List Nat) : ns.map nat = (ns.map fun (n : Nat) => (n : Int)).map D.int := by
  rw [List.map_map]
  rfl
theorem lk_members (a b : D) : (List.zip (["members", "table"] : List Str) [a, b]).lookup ("members" : Str) = some a := by
  show List.lookup _ [(("members" : Str), a), (("table" : Str), b)] = _
  rw [List.lookup_cons, show (("members" : Str) == ("members" : Str)) = true by decide +kernel]
theorem lk_table (a b : D) : (List.zip (["members", "table"] : List Str) [a, b]).lookup ("table" : Str) = some b := by
  show List.lookup _ [(("members" : Str), a), (("table" : Str), b)] = _
  rw [List.lookup_cons, show (("table" : Str) == ("members" : Str)) = false by decide +kernel, List.lookup_cons, show (("table" : Str) == ("table" : Str)) = true by decide +kernel]

/-! ### numbers -/
theorem and_nat (a b : Nat) : Builtin.bitAnd (a : Int) (b : Int) = ((a &&& b : Nat) : Int) := by
  rw [bitAnd_pp (by omega) (by omega), Int.toNat_natCast, Int.toNat_natCast]
theorem or_nat (a b : Nat) : Builtin.bitOr (a : Int) (b : Int) = ((a ||| b : Nat) : Int) := by
  rw [Bits.bitOr_pp (by omega) (by omega), Int.toNat_natCast, Int.toNat_natCast]
theorem xor_nat (a b : Nat) : Builtin.bitXor (a : Int) (b : Int) = ((a ^^^ b : Nat) : Int) := by
  rw [Bits.bitXor_pp (by omega) (by omega), Int.toNat_natCast, Int.toNat_natCast]
theorem shl_nat (a k : Nat) : (a : Int) * (2 : Int) ^ ((k : Int)).toNat = ((a <<< k : Nat) : Int) := by
  rw [Int.toNat_natCast, Nat.shiftLeft_eq]
  exact Bits.natCast_mul_pow a k
theorem shl_one (k : Nat) : (1 : Int) * (2 : Int) ^ ((k : Int)).toNat = ((1 <<< k : Nat) : Int) := shl_nat 1 k
theorem shr_nat (a k : Nat) : (a : Int) / (2 : Int) ^ ((k : Int)).toNat = ((a >>> k : Nat) : Int) := by
  rw [Int.toNat_natCast, Nat.shiftRight_eq_div_pow, two_pow_cast, Int.natCast_ediv]
theorem bit_one (a : Nat) : Builtin.bitAnd (a : Int) 1 = ((a % 2 : Nat) : Int) := by
  rw [show (1 : Int) = ((1 : Nat) : Int) from rfl, and_nat, Nat.and_one_is_mod]
theorem bit_is (g k : Nat) : decide (Builtin.bitAnd ((g : Int) / (2 : Int) ^ ((k : Int)).toNat) 1 = 1) = g.testBit k := by
  rw [shr_nat, bit_one, Nat.testBit_eq_decide_div_mod_eq, Nat.shiftRight_eq_div_pow, decide_eq_decide]
  omega
theorem bit_no (g k : Nat) : decide (Builtin.bitAnd ((g : Int) / (2 : Int) ^ ((k : Int)).toNat) 1 = 0) = !g.testBit k := by
  rw [shr_nat, bit_one, Nat.testBit_eq_decide_div_mod_eq, Nat.shiftRight_eq_div_pow, ← decide_not, decide_eq_decide]
  omega
theorem holds_nat (a b : Nat) : decide (Builtin.bitAnd (a : Int) (b : Int) = (b : Int)) = decide (a &&& b = b) := by
  rw [and_nat, decide_eq_decide]
  omega

section
variable {K : PySem.W.Frag} {E E' : XK} {sl : List Sl} {ta tb tc te : TE} {t u : TT} {x y z d : D} {xs ys ds : List D} {r : R2} {tr : TA}
/-! ### ranges by naturals -/
theorem rng_nat (n : Nat) : (rng 0 n).map D.int = (List.range n).map nat := by
  unfold rng
  rw [List.map_map]
  refine List.map_congr_left fun i _ => ?_
  show D.int (0 + (i : Int)) = D.int (i : Int)
  rw [Int.zero_add]
theorem it_rngN {n : Nat} {m : Int} (h : EvA K tr sl [.int m]) (e : m = (n : Int)) (hn : n < 4000000000000000000) : ItE K (iRng1 tr) sl ((List.range n).map nat) := by
  subst e
  rw [← rng_nat]
  have q := it_rng1 h (by omega) (by omega)
  rwa [Int.toNat_natCast] at q
/-! ### items -/
theorem od_ixB {bs : List Bool} {g : Nat} (h : g < bs.length) : OpD K (rIxL K) (blL bs) (nat g) (.dat (.bl (bs.getD g false))) := od_ixL (by omega) (by
  rw [Int.toNat_natCast, List.getElem?_map, List.getElem?_eq_getElem h, List.getD_eq_getElem?_getD, List.getElem?_eq_getElem h]
  rfl)
theorem od_ixI {ns : List Int} {g : Nat} (h : g < ns.length) : OpD K (rIxL K) (intL ns) (nat g) (.dat (.int (ns.getD g 0))) := od_ixL (by omega) (by
  rw [Int.toNat_natCast, List.getElem?_map, List.getElem?_eq_getElem h, List.getD_eq_getElem?_getD, List.getElem?_eq_getElem h]
  rfl)
theorem od_ixN {ns : List Nat} {g : Nat} (h : g < ns.length) : OpD K (rIxL K) (natL ns) (nat g) (.dat (nat (ns.getD g 0))) := od_ixL (by omega) (by
  rw [Int.toNat_natCast, List.getElem?_map, List.getElem?_eq_getElem h, List.getD_eq_getElem?_getD, List.getElem?_eq_getElem h]
  rfl)
theorem od_to {d' : D} (h : OpD K r x y (.dat d)) (e : d = d') : OpD K r x y (.dat d') := by
  rw [← e]
  exact h
theorem od_y {y' : D} {s : Rs} (h : OpD K r x y s) (e : y' = y) : OpD K r x y' s := by
  rw [e]
  exact h
theorem ev_x (h : EvR K E te sl (.dat d)) (e : d = x) : EvR K E te sl (.dat x) := ev_is h e
theorem cb_anyM {α : Type} {as : List α} {f : α → Bool} : CbD K (rAny K) [.lst (as.map fun a => .bl (f a))] (.dat (.bl (as.any f))) := by
  have h := cb_any (K := K) (ns := as.map f)
  rw [List.map_map, List.any_map] at h
  exact h
theorem cb_allM {α : Type} {as : List α} {f : α → Bool} : CbD K (rAll K) [.lst (as.map fun a => .bl (f a))] (.dat (.bl (as.all f))) := by
  have h := cb_all (K := K) (ns := as.map f)
  rw [List.map_map, List.all_map] at h
  exact h
theorem cb_sumM {α : Type} {as : List α} {f : α → Int} : CbD K (rSum K) [.lst (as.map fun a => .int (f a))] (.dat (.int (as.map f).sum)) := by
  have h := cb_sum (K := K) (ns := as.map f)
  rw [List.map_map] at h
  exact h
/-! ### equalities of lists by naturals -/
theorem natI_inj : ∀ {ns ms : List Nat}, (ns.map fun (n : Nat) => (n : Int)) = (ms.map fun (n : Nat) => (n : Int)) → ns = ms
  | [], [], _ => rfl
  | [], _ :: _, h => by simp at h
  | _ :: _, [], h => by simp at h
  | n :: ns, m :: ms, h => by
    simp only [List.map_cons, List.cons.injEq] at h
    rw [natI_inj h.2, show n = m by omega]
theorem od_eqN {ns ms : List Nat} : OpD K (rEqD K) (natL ns) (natL ms) (.dat (.bl (decide (ns = ms)))) := by
  unfold natL
  rw [nats_ints, nats_ints]
  refine od_to od_eqL ?_
  rw [decide_eq_decide.mpr ⟨natI_inj, fun h => by rw [h]⟩]
theorem od_neN {ns ms : List Nat} : OpD K (rNeD K) (natL ns) (natL ms) (.dat (.bl (!decide (ns = ms)))) := by
  unfold natL
  rw [nats_ints, nats_ints]
  refine od_to od_neL ?_
  rw [decide_eq_decide.mpr ⟨natI_inj, fun h => by rw [h]⟩]
end
theorem hu64 {k : Nat} {A : Around} (hr : Room k A) : A.units + 64 < cLine := hr.units
end Wv
namespace Wv
theorem pw_nat (n : Nat) : (1 : Int) * (2 : Int) ^ ((n : Int)).toNat = ((2 ^ n : Nat) : Int) := by
  rw [Int.toNat_natCast]
  exact (Bits.natCast_mul_pow 1 n).trans (by rw [Nat.one_mul])
end Wv
namespace Wv
open PySem L2
/-- the first is False: the others aren't asked -/
theorem ev_andV' {K : PySem.W.Frag} {E : XK} {sl : List Sl} {ta tb : TE} (h1 : EvR K E ta sl (.dat (.bl false))) : EvR K E (tAndV ta tb) sl (.dat (.bl false)) := ev_andV (b := false) h1 fun z => nomatch z
end Wv
namespace Wv
open PySem L2
inductive Wi : D → Int → Int → Bool → Prop where
  | int (n lo hi : Int) : Wi (.int n) lo hi (decide (lo ≤ n) && decide (n ≤ hi))
  | bl (b : Bool) (lo hi : Int) : Wi (.bl b) lo hi false
  | no (x : D) (T : String) (lo hi : Int) (h : TyD x T) (hT : kitB T "int" = some false) : Wi x lo hi false
def c_within : List D → Rs → Prop := fun ds r => ∃ x lo hi b, ds = [x, .int lo, .int hi] ∧ Wi x lo hi b ∧ r = .dat (.bl b)
theorem c_within.len : ∀ ds r, c_within ds r → ds.length = 3 := by
  rintro ds r ⟨_, _, _, _, rfl, _⟩
  rfl
theorem c_within.i (n lo hi : Int) : c_within [.int n, .int lo, .int hi] (.dat (.bl (decide (lo ≤ n) && decide (n ≤ hi)))) := ⟨_, _, _, _, rfl, Wi.int _ _ _, rfl⟩
/-- promises over councils -/
def RC1 (C : Addr) (p : Nat → List Bool → Prop) (g : Nat → List Bool → Rs) : List D → Rs → Prop := fun ds r => ∃ n t, ds = [cou C n t] ∧ p n t ∧ r = g n t
def RC2 {a : Type} (C : Addr) (c : a → D) (p : Nat → List Bool → a → Prop) (g : Nat → List Bool → a → Rs) : List D → Rs → Prop := fun ds r => ∃ n t x, ds = [cou C n t, c x] ∧ p n t x ∧ r = g n t x
def RCC (C : Addr) (p : Nat → List Bool → Nat → List Bool → Prop) (g : Nat → List Bool → Nat → List Bool → Rs) : List D → Rs → Prop := fun ds r => ∃ n t m u, ds = [cou C n t, cou C m u] ∧ p n t m u ∧ r = g n t m u
theorem RC1.len {C : Addr} {p : Nat → List Bool → Prop} {g : Nat → List Bool → Rs} : ∀ ds r, RC1 C p g ds r → ds.length = 1 := by
  rintro ds r ⟨_, _, rfl, _⟩
  rfl
theorem RC2.len {a : Type} {C : Addr} {c : a → D} {p : Nat → List Bool → a → Prop} {g : Nat → List Bool → a → Rs} : ∀ ds r, RC2 C c p g ds r → ds.length = 2 := by
  rintro ds r ⟨_, _, _, rfl, _⟩
  rfl
theorem RCC.len {C : Addr} {p : Nat → List Bool → Nat → List Bool → Prop} {g : Nat → List Bool → Nat → List Bool → Rs} : ∀ ds r, RCC C p g ds r → ds.length = 2 := by
  rintro ds r ⟨_, _, _, _, rfl, _⟩
  rfl
theorem RC1.mk {C : Addr} {p : Nat → List Bool → Prop} {g : Nat → List Bool → Rs} {n : Nat} {t : List Bool} (h : p n t) : RC1 C p g [cou C n t] (g n t) := ⟨n, t, rfl, h, rfl⟩
theorem RC2.mk {a : Type} {C : Addr} {c : a → D} {p : Nat → List Bool → a → Prop} {g : Nat → List Bool → a → Rs} {n : Nat} {t : List Bool} {x : a} (h : p n t x) : RC2 C c p g [cou C n t, c x] (g n t x) := ⟨n, t, x, rfl, h, rfl⟩
theorem RCC.mk {C : Addr} {p : Nat → List Bool → Nat → List Bool → Prop} {g : Nat → List Bool → Nat → List Bool → Rs} {n m : Nat} {t u : List Bool} (h : p n t m u) : RCC C p g [cou C n t, cou C m u] (g n t m u) := ⟨n, t, m, u, rfl, h, rfl⟩
/-! ### what the program says, in plain words -/
/-- a group without each one of its members -/
def wo (g : Nat) : List Nat := ((List.range 5).filter fun k => g.testBit k).map fun k => g ^^^ 2 ^ k
/-- for each group whether it has all of some one -/
def tab (n : Nat) (gs : List Nat) : List Bool := (List.range (2 ^ n)).map fun g => gs.any fun o => decide (g &&& o = o)
def leastM (t : List Bool) : List Nat := (List.range t.length).filter fun g => t.getD g false && !((wo g).any fun l => t.getD l false)
def greatM (t : List Bool) : List Nat := (List.range t.length).filter fun g => !t.getD g false && ((wo ((t.length - 1) ^^^ g)).all fun l => t.getD ((t.length - 1) ^^^ l) false)
def wgt (ws : List Int) (g : Nat) : Int := (((List.range ws.length).filter fun k => g.testBit k).map fun k => ws.getD k 0).sum
theorem tab_len (n : Nat) (gs : List Nat) : (tab n gs).length = 2 ^ n := by simp [tab]
theorem pow_le (n : Nat) (h : n ≤ 5) : 2 ^ n ≤ 32 := Nat.pow_le_pow_right (by decide) h
theorem filt_yes {P : Nat → Bool} {i : Nat} (h : P i = true) : (List.range (i + 1)).filter P = (List.range i).filter P ++ [i] := by
  rw [List.range_succ, List.filter_append, List.filter_cons, if_pos h]
  rfl
theorem filt_no {P : Nat → Bool} {i : Nat} (h : P i = false) : (List.range (i + 1)).filter P = (List.range i).filter P := by
  rw [List.range_succ, List.filter_append, List.filter_cons, if_neg (by rw [h]; decide)]
  simp
theorem filt_len (P : Nat → Bool) (i : Nat) : ((List.range i).filter P).length ≤ i := by
  have h := List.length_filter_le P (List.range i)
  rwa [List.length_range] at h
theorem xor_bit_lt {g k : Nat} (h : g.testBit k = true) : g ^^^ 2 ^ k < g := by
  have hk : (g ^^^ 2 ^ k).testBit k = false := by
    rw [Nat.testBit_xor, Nat.testBit_two_pow, h]
    simp
  have le : g ^^^ 2 ^ k ≤ g := Nat.le_of_testBit fun i hi => by
    rw [Nat.testBit_xor, Nat.testBit_two_pow] at hi
    by_cases e : k = i
    · subst e
      rw [h]
    · rw [decide_eq_false e, Bool.xor_false] at hi
      exact hi
  rcases Nat.lt_or_eq_of_le le with l | e
  · exact l
  · rw [e, h] at hk
    cases hk
theorem wo_lt {g l : Nat} (h : l ∈ wo g) : l < g := by
  unfold wo at h
  rw [List.mem_map] at h
  obtain ⟨k, hk, rfl⟩ := h
  exact xor_bit_lt (List.mem_filter.mp hk).2
end Wv
namespace Wv
theorem lit0 : (0 : Int) = ((0 : Nat) : Int) := rfl
theorem lit1 : (1 : Int) = ((1 : Nat) : Int) := rfl
theorem lit2 : (2 : Int) = ((2 : Nat) : Int) := rfl
theorem lit3 : (3 : Int) = ((3 : Nat) : Int) := rfl
theorem lit4 : (4 : Int) = ((4 : Nat) : Int) := rfl
theorem lit5 : (5 : Int) = ((5 : Nat) : Int) := rfl
theorem lit6 : (6 : Int) = ((6 : Nat) : Int) := rfl
theorem lit7 : (7 : Int) = ((7 : Nat) : Int) := rfl
theorem lit8 : (8 : Int) = ((8 : Nat) : Int) := rfl
theorem lit31 : (31 : Int) = ((31 : Nat) : Int) := rfl
theorem lit32 : (32 : Int) = ((32 : Nat) : Int) := rfl
theorem lit40 : (40 : Int) = ((40 : Nat) : Int) := rfl
end Wv
namespace Wv
theorem wo_len (g : Nat) : (wo g).length ≤ 5 := by
  unfold wo
  rw [List.length_map]
  have h := List.length_filter_le (fun k => g.testBit k) (List.range 5)
  rwa [List.length_range] at h
theorem wo_big (g : Nat) : (wo g).length ≤ 1000000 := Nat.le_trans (wo_len g) (by decide)
end Wv
namespace Wv
open PySem L2
section
variable {K : PySem.W.Frag}
theorem od_andN {a b : Nat} : OpD K (rI0 fun i j => .int (Builtin.bitAnd i j)) (nat a) (nat b) (.dat (nat (a &&& b))) := od_to od_i (by rw [and_nat])
theorem od_orN {a b : Nat} : OpD K (rI0 fun i j => .int (Builtin.bitOr i j)) (nat a) (nat b) (.dat (nat (a ||| b))) := od_to od_i (by rw [or_nat])
theorem od_xorN {a b : Nat} : OpD K (rI0 fun i j => .int (Builtin.bitXor i j)) (nat a) (nat b) (.dat (nat (a ^^^ b))) := od_to od_i (by rw [xor_nat])
theorem od_shl1 {k : Nat} (h : k ≤ 1000000) : OpD K (rI CPow fun i j => .int (i * 2 ^ j.toNat)) (.int 1) (nat k) (.dat (nat (2 ^ k))) := od_to (od_ic ⟨by omega, by omega, by decide⟩) (by rw [pw_nat])
theorem dec_nat (a b : Nat) : decide ((a : Int) = (b : Int)) = decide (a = b) := decide_eq_decide.mpr ⟨fun h => by omega, fun h => by omega⟩
theorem od_eqNat {a b : Nat} : OpD K rEq (nat a) (nat b) (.dat (.bl (decide (a = b)))) := od_to od_eqI (by rw [dec_nat])
theorem od_neNat {a b : Nat} : OpD K rNe (nat a) (nat b) (.dat (.bl (!decide (a = b)))) := od_to od_neI (by rw [dec_nat])
end
end Wv
namespace Wv
open PySem L2
theorem cb_lenM {K : PySem.W.Frag} {α : Type} {as : List α} {f : α → D} : CbD K (rLen K) [.lst (as.map f)] (.dat (.int (as.length : Int))) := by
  have h := cb_len (K := K) (xs := as.map f)
  rwa [List.length_map] at h
end Wv
namespace Wv
open PySem L2
def c_Council_init : List D → Ri → Prop := fun ds r => ∃ n gs, ds = [nat n, natL gs] ∧ (1 ≤ n ∧ n ≤ 5 ∧ gs.length ≤ 100000 ∧ ∀ g ∈ gs, g < 2 ^ n) ∧ r = .ok ["members", "table"] [nat n, blL (tab n gs)]
theorem c_Council_init.mk {n : Nat} {gs : List Nat} (h1 : 1 ≤ n) (h5 : n ≤ 5) (hl : gs.length ≤ 100000) (hg : ∀ g ∈ gs, g < 2 ^ n) : c_Council_init [nat n, natL gs] (.ok ["members", "table"] [nat n, blL (tab n gs)]) := ⟨n, gs, rfl, ⟨h1, h5, hl, hg⟩, rfl⟩
end Wv
namespace Wv
open PySem L2
open Evl (Ex fresh_back)
/-! ### results of which only a property is told -/
def EvU (K : PySem.W.Frag) (te : TE) (sl : List Sl) (F : D → Prop) : Prop := ∀ B0 H0 B H σ, SD K B0 H0 B H σ sl → ∀ Q : VK, (∀ d, F d → ∀ v B' H', Gr B H B' H' → Den K B' d v → Q v H') → te σ H Q
def SpU (K : PySem.W.Frag) (f : List D → (D → Prop) → Prop) : Sp := fun vs H Q E => ∃ B ds F, Ex B H ∧ DenL K B ds vs ∧ f ds F ∧ ∀ d, F d → ∀ v B' H', Gr B H B' H' → Den K B' d v → Q v H'
section
variable {K : PySem.W.Frag} {E E' : XK} {sl : List Sl} {te : TE} {tr : TA} {ds : List D} {F : D → Prop} {P : En} {H : Hp} {t : TS} {N : List Str} {vs : List V} {Q : VK}
theorem ev_callU {f : List D → (D → Prop) → Prop} (ha : EvA K tr sl ds) (hf : f ds F) : EvU K (tCall (SpU K f) [] E' tr) sl F := fun B0 H0 B H σ sd Q q =>
  ha B0 H0 B H σ sd _ fun vs B1 H1 g1 d1 => by
    rw [List.append_nil]
    exact ⟨B1, ds, F, g1.sub, d1, hf, fun d hd v B' H' g dv => q d hd v B' H' (g1.trans g) dv⟩
theorem w_asgU {i : Nat} (h : EvU K te sl F) (k : ∀ d, F d → P.nx (sl.set i (.fz d))) : W K E (tAsg te (gName i)) sl P := fun B0 H0 B H σ D sd m =>
  h B0 H0 B H σ sd _ fun d hd v B1 H1 g1 d1 => m.nx B1 H1 _ _ ((sd.grow g1).setFz d1) (k d hd)
theorem spU_len {f : List D → (D → Prop) → Prop} {n : Nat} (h : ∀ ds F, f ds F → ds.length = n) : ∀ vs H Q E, SpU K f vs H Q E → vs.length = n := fun vs H Q E ⟨B, ds, r, e, hd, hf, q⟩ => by
  rw [← denL_len hd]
  exact h ds r hf
theorem goU_of {f : List D → (D → Prop) → Prop} (hw : ∀ ds F, f ds F → W K E t (startS N ds) { nx := fun _ => False, rt := fun r => ∃ d, r = .dat d ∧ F d }) (h : SpU K f vs H Q E) : t { nx := fun _ H' => Q .non H', rt := Q } (L2.start N vs) H := by
  obtain ⟨B, ds, F, e, hd, hf, q⟩ := h
  refine hw ds F hf B H B H _ _ (sd_start e hd) ⟨fun B' H' σ sl s z => z.elim, fun _ _ _ _ _ z => z.elim, fun _ _ _ _ _ z => z.elim, fun r' B' H' g z => ?_⟩
  obtain ⟨d, rfl, hF⟩ := z
  exact fun v B2 H2 g2 dv => q d hF v B2 H2 (g.trans g2) dv
end
/-! ### draws -/
def primesM : List Nat := [1000003, 1000033, 1000037, 1000039, 1000081, 1000099, 1000117, 1000121]
def blendM (c : Int) (k : Nat) : Int := c * 48271 + (k : Int) * 69621 + c / 1000003 % 1000003 * 40692
def drawM (c : Int) (k : Nat) (m : Int) : Nat := (blendM c k % ((primesM.getD (k % 8) 1 : Nat) : Int) % m).toNat
theorem drawM_lt (c : Int) (k : Nat) {m : Int} (h : 0 < m) : (drawM c k m : Int) < m := by
  unfold drawM
  have h1 := Int.emod_nonneg (blendM c k % ((primesM.getD (k % 8) 1 : Nat) : Int)) (show m ≠ 0 by omega)
  have h2 := Int.emod_lt_of_pos (blendM c k % ((primesM.getD (k % 8) 1 : Nat) : Int)) h
  omega
theorem drawM_nat (c : Int) (k : Nat) {m : Nat} (h : 0 < m) : drawM c k (m : Int) < m := by
  have := drawM_lt c k (m := (m : Int)) (by omega)
  omega
theorem primes_pos : ∀ k, k < 8 → 0 < primesM.getD k 1 := by decide
def c_law_cell_at : List D → Rs → Prop := R2' D.scr nat (fun _ _ => True) fun ns k => .dat (.int (ns.getD k 0))
def c_law_draw : List D → Rs → Prop := R3 D.int nat D.int (fun _ _ m => 0 < m) fun c k m => .dat (nat (drawM c k m))
/-- a told council -/
def ToldOk (m : Nat) (gs : List Nat) : Prop := 1 ≤ m ∧ m ≤ 5 ∧ gs.length ≤ 32 ∧ ∀ g ∈ gs, g < 2 ^ m
def c_law_told : List D → (D → Prop) → Prop := fun ds F => ∃ ns k, ds = [.scr ns, nat k] ∧ k ≤ 100 ∧ F = fun d => ∃ m gs, d = .tup [nat m, natL gs] ∧ ToldOk m gs
def c_law_table : List D → Rs → Prop := fun ds r => ∃ m gs, ds = [.tup [nat m, natL gs]] ∧ (m ≤ 5 ∧ gs.length ≤ 1000) ∧ r = .new ((tab m gs).map .bl)
def c_law_has : List D → Rs → Prop := R2' nat nat (fun _ k => k ≤ 1000) fun g k => .dat (.bl (g.testBit k))
def seatsM : List Nat := [3, 4, 5, 4, 2, 5, 1]
theorem seats_ok : ∀ k, k < 7 → 1 ≤ seatsM.getD k 0 ∧ seatsM.getD k 0 ≤ 5 := by decide
theorem od_ixTN {K : PySem.W.Frag} {ns : List Nat} {i : Int} (h0 : 0 ≤ i) (h : i.toNat < ns.length) : OpD K (rIxT K) (.tup (ns.map nat)) (.int i) (.dat (nat (ns.getD i.toNat 0))) := od_ixT h0 (by
  rw [List.getElem?_map, List.getElem?_eq_getElem h, List.getD_eq_getElem?_getD, List.getElem?_eq_getElem h]
  rfl)
end Wv
namespace Wv
open PySem L2
theorem fgt_set {s t : List Sl} {j : Nat} {x : Sl} (h : Fgt s t) : Fgt (s.set j x) (t.set j x) := by
  refine ⟨by simpa using h.1, fun k => ?_⟩
  by_cases z : k = j
  · subst z
    by_cases hl : k < s.length
    · rw [List.getElem?_set_self hl, List.getElem?_set_self (by rw [← h.1]; exact hl)]
      exact .inr rfl
    · have e1 : (s.set k x)[k]? = none := List.getElem?_eq_none (by simpa using hl)
      have e2 : (t.set k x)[k]? = none := List.getElem?_eq_none (by rw [List.length_set, ← h.1]; omega)
      rw [e1, e2]
      exact .inr rfl
  · rw [List.getElem?_set_ne (Ne.symm z), List.getElem?_set_ne (Ne.symm z)]
    exact h.2 k
section
variable {K : PySem.W.Frag} {E : XK} {sl : List Sl} {P : En}
/-- a loop whose states are told by a thing x of which I i holds -/
theorem w_forX {α β : Type} {ys : List α} {f : α → D} {ti : TI} {j : Nat} {tb : TS} (I : Nat → β → Prop) (S : β → List Sl) (hi : ItE K ti sl (ys.map f)) (b0 : β) (h0 : I 0 b0) (f0 : Fgt sl (S b0))
    (hs : ∀ i a b, ys[i]? = some a → I i b → W K E tb ((S b).set j (.fz (f a))) { nx := fun s => ∃ b', I (i + 1) b' ∧ Fgt s (S b'), ct := fun s => ∃ b', I (i + 1) b' ∧ Fgt s (S b'), bk := P.nx, rt := P.rt })
    (hd : ∀ s b, I ys.length b → Fgt s (S b) → P.nx s) : W K E (tFor ti (gName j) tb) sl P := by
  refine w_for (fun i s => ∃ b, I i b ∧ Fgt s (S b)) hi ⟨b0, h0, f0⟩ (fun i d s h1 h2 => ?_) (fun s h => ?_)
  · obtain ⟨b, hb, hf⟩ := h2
    rw [List.getElem?_map] at h1
    cases e : ys[i]? with
    | none => rw [e] at h1; cases h1
    | some a =>
      rw [e] at h1
      cases h1
      exact gw_name (w_fgt (fgt_set hf) (hs i a b e hb))
  · obtain ⟨b, hb, hf⟩ := h
    rw [List.length_map] at hb
    exact hd s b hb hf
/-- groups below M, at most one more a turn -/
def GsB (M i : Nat) (gs : List Nat) : Prop := gs.length ≤ i ∧ ∀ g ∈ gs, g < M
theorem GsB.nil {M : Nat} : GsB M 0 [] := ⟨Nat.le_refl _, fun _ h => nomatch h⟩
theorem GsB.up {M i : Nat} {gs : List Nat} (h : GsB M i gs) : GsB M (i + 1) gs := ⟨Nat.le_succ_of_le h.1, h.2⟩
theorem GsB.app {M i g : Nat} {gs : List Nat} (h : GsB M i gs) (hg : g < M) : GsB M (i + 1) (gs ++ [g]) := ⟨by rw [List.length_append]; exact Nat.succ_le_succ h.1, fun x hx => by
  rcases List.mem_append.mp hx with z | z
  · exact h.2 x z
  · rw [List.mem_singleton.mp z]
    exact hg⟩
theorem w_app1 {i : Nat} {gs : List Nat} {g : Nat} {te : TE} (hi : sl[i]? = some (.ow (gs.map nat))) (h : EvR K E te sl (.dat (nat g))) (hz : gs.length < 1000000) (k : P.nx (sl.set i (.ow ((gs ++ [g]).map nat)))) : W K E (tDrop (tBM K "list" rAppend (tVar i) (tCons te tNil))) sl P :=
  w_app hi h (by rwa [List.length_map]) (by rw [List.map_append] at k; exact k)
end
end Wv
namespace Wv
theorem c_law_table.mk {m : Nat} {gs : List Nat} (h5 : m ≤ 5) (hl : gs.length ≤ 1000) : c_law_table [.tup [nat m, natL gs]] (.new ((tab m gs).map .bl)) := ⟨m, gs, rfl, ⟨h5, hl⟩, rfl⟩
end Wv
namespace Wv
open PySem L2
/-- a statement, then the rest from what is known between -/
theorem w_seqM {K : PySem.W.Frag} {E : XK} {sl : List Sl} {P : En} {t u : TS} (M : List Sl → Prop) (h : W K E t sl { P with nx := M }) (k : ∀ s, M s → W K E u s P) : W K E (tSeq t u) sl P := w_seq (w_mono h (fun s m => k s m) (fun _ z => z) (fun _ z => z) fun _ z => z)
end Wv
namespace Wv
theorem Fgt.tr {a b c : List Sl} (h : Fgt a b) (k : Fgt b c) : Fgt a c := ⟨h.1.trans k.1, fun i => by
  rcases k.2 i with z | z
  · exact .inl z
  · rw [z]
    exact h.2 i⟩
end Wv
namespace Wv
open PySem L2
def c_law_groups : List D → Rs → Prop := R2' natL natL (fun fs _ => fs.length ≤ 1000) fun fs ds => .dat (.bl (decide (fs = ds)))
def c_law_least : List D → Rs → Prop := R2' blL nat (fun t n => n ≤ 5 ∧ t.length = 2 ^ n) fun t _ => .new ((leastM t).map nat)
def c_law_greatest : List D → Rs → Prop := R2' blL nat (fun t n => n ≤ 5 ∧ t.length = 2 ^ n) fun t _ => .new ((greatM t).map nat)
def c_law_is (C : Addr) : List D → Rs → Prop := fun ds r => ∃ n t, ds = [cou C n t, nat n, blL t] ∧ t.length ≤ 32 ∧ r = .dat (.bl true)
theorem c_law_is.len {C : Addr} : ∀ ds r, c_law_is C ds r → ds.length = 3 := by
  rintro ds r ⟨_, _, rfl, _⟩
  rfl
theorem c_law_is.mk {C : Addr} {n : Nat} {t : List Bool} (h : t.length ≤ 32) : c_law_is C [cou C n t, nat n, blL t] (.dat (.bl true)) := ⟨n, t, rfl, h, rfl⟩
/-- xs.clear(), xs one's own -/
theorem w_clear {K : PySem.W.Frag} {E : XK} {sl : List Sl} {P : En} {xs : List D} {i : Nat} (hi : sl[i]? = some (.ow xs)) (k : P.nx (sl.set i (.ow []))) : W K E (tDrop (tBM0 K "list" rClear (tVar i))) sl P := fun B0 H0 B H σ D sd m => by
  obtain ⟨p, vs, h1, h2, h3, h4, h5⟩ := sd.ow i xs hi
  exact ⟨_, h1, .inl ⟨rfl, _, .inl (.inl h4)⟩, p, vs, rfl, rfl, h4, m.nx _ _ _ _ (sd.mut hi h1 denL_nil) k⟩
end Wv
namespace Wv
open PySem L2
theorem kit_ii : kitB "int" "int" = some true := by decide +kernel
theorem kit_ib : kitB "int" "bool" = some false := by decide +kernel
theorem kit_bb : kitB "bool" "bool" = some true := by decide +kernel
theorem kit_bi : kitB "bool" "int" = some true := by decide +kernel
theorem kit_ll : kitB "list" "list" = some true := by decide +kernel
theorem kit_ss : kitB "str" "str" = some true := by decide +kernel
theorem kit_li : kitB "list" "int" = some false := by decide +kernel
theorem kit_lb : kitB "list" "bool" = some false := by decide +kernel
theorem kit_ti : kitB "tuple" "int" = some false := by decide +kernel
theorem kit_tl : kitB "tuple" "list" = some false := by decide +kernel
theorem kit_si : kitB "str" "int" = some false := by decide +kernel
theorem kit_sl : kitB "str" "list" = some false := by decide +kernel
theorem kit_ni : kitB "NoneType" "int" = some false := by decide +kernel
theorem kit_nl : kitB "NoneType" "list" = some false := by decide +kernel
theorem kit_il : kitB "int" "list" = some false := by decide +kernel
theorem kit_lt : kitB "list" "tuple" = some false := by decide +kernel
theorem kit_tt : kitB "tuple" "tuple" = some true := by decide +kernel
theorem kit_ns : kitB "NoneType" "str" = some false := by decide +kernel
theorem kit_is : kitB "int" "str" = some false := by decide +kernel
theorem kit_ls : kitB "list" "str" = some false := by decide +kernel
theorem kit_bs : kitB "bool" "str" = some false := by decide +kernel
end Wv
namespace Wv
open PySem L2
open Evl (Ex fresh_back)
section
variable {X : Cx}
theorem ip_mul : PIp X .Mult (rI CMul fun i j => .int (i * j)) := iop_mul
end
section
variable {K : PySem.W.Frag} {E : XK} {B H : Hp} {sl : List Sl} {ta te : TE} {xs : List D} {P : En}
theorem w_augC {i : Nat} {C : Int → Int → Prop} {f : Int → Int → Int} {a b : Int} (hi : sl[i]? = some (.fz (.int a))) (h : EvR K E te sl (.dat (.int b))) (hc : C a b) (k : P.nx (sl.set i (.fz (.int (f a b))))) : W K E (tAug i te (rI C fun i j => .int (f i j))) sl P := fun B0 H0 B H σ D sd m => by
  obtain ⟨v, h1, h2⟩ := sd.fz i _ hi
  rw [den_int h2] at h1
  refine ⟨_, h1, h B0 H0 B H σ sd _ fun v B1 H1 g1 d1 => ?_⟩
  rw [den_int d1]
  exact ⟨a, b, rfl, rfl, hc, m.nx B1 H1 _ _ ((sd.grow g1).setFz (mk_int _)) k⟩
theorem ty_lst {v : V} (e : Ex B H) (d : Den K B (.lst xs) v) : tyV K "list" v H := by
  obtain ⟨a, vs, rfl, h, _⟩ := den_lst d
  exact .inl ⟨rfl, _, .inl (.inl (e a _ h))⟩
theorem ev_listRg1 {n : Nat} {m : Int} (h : EvR K E ta sl (.dat (.int m))) (e : m = (n : Int)) (hn : n ≤ 1000000) : EvR K E (tLstRg (tRg1 ta)) sl (.new ((List.range n).map nat)) := fun B0 H0 B H σ sd Q q => by
  subst e
  refine h B0 H0 B H σ sd _ fun v B1 H1 g1 d1 => ⟨_, den_int d1, RgOk.of_le (by omega) (by omega) (by omega) (by omega), fun p hp => ?_⟩
  refine q p _ B1 _ (g1.trans (Gr.lay g1.sub hp)) (g1.back hp) (fresh_back g1.sub hp) upd_same ?_
  unfold rgV
  rw [show ((n : Int) - 0).toNat = n by omega]
  have k : ∀ l : List Nat, DenL K B1 (l.map nat) (l.map fun (i : Nat) => V.int (0 + (i : Int))) := by
    intro l
    induction l with
    | nil => exact denL_nil
    | cons a l ih =>
      refine denL_cons ?_ ih
      show Den K B1 (nat a) (V.int (0 + (a : Int)))
      rw [Int.zero_add]
      exact mk_int _
  exact k _
theorem ev_count {ns : List Int} {k : Int} (ho : EvR K E ta sl (.dat (intL ns))) (ha : EvR K E0 te sl (.dat (.int k))) : EvR K E (tBM K "list" (rCntI K) ta (tCons te tNil)) sl (.dat (nat (ns.count k))) :=
  ev_bm ho (ea_cons ha ea_nil) (fun B H v vs e d dd E Q q => ⟨ty_lst e d, by
    obtain ⟨a, us, rfl, h1, h2⟩ := den_lst d
    obtain ⟨w, rfl, h3⟩ := denL_one dd
    rw [den_int h3]
    rw [denL_ints h2] at h1
    exact ⟨a, ns, k, rfl, rfl, SqL.of (e a _ h1), post_v e q (mk_int _)⟩⟩) fun B H v e d => ty_lst e d
end
end Wv
/-! the plain law: tables, least and greatest groups, weights -/
namespace Wv
theorem bits_range : ∀ n, n < 6 → ∀ g, g < 2 ^ n → ((List.range 5).filter fun k => g.testBit k) = (List.range n).filter fun k => g.testBit k := by decide +kernel
theorem great_range : ∀ n, n < 6 → ∀ g, g < 2 ^ n → ((wo ((2 ^ n - 1) ^^^ g)).map fun l => (2 ^ n - 1) ^^^ l) = ((List.range n).filter fun k => !g.testBit k).map fun k => g ||| 2 ^ k := by decide +kernel
theorem less_any {n g : Nat} (hn : n ≤ 5) (hg : g < 2 ^ n) (f : Nat → Bool) : (((List.range n).filter fun k => g.testBit k).any fun k => f (g ^^^ 2 ^ k)) = (wo g).any f := by
  unfold wo
  rw [List.any_map, bits_range n (by omega) g hg]
  rfl
theorem more_all {n g : Nat} (hn : n ≤ 5) (hg : g < 2 ^ n) (f : Nat → Bool) : (((List.range n).filter fun k => !g.testBit k).all fun k => f (g ||| 2 ^ k)) = (wo ((2 ^ n - 1) ^^^ g)).all fun l => f ((2 ^ n - 1) ^^^ l) := by
  have h := congrArg (fun l => l.all f) (great_range n (by omega) g hg)
  simp only [List.all_map] at h
  exact h.symm
theorem filt_eq {p q : Nat → Bool} {n : Nat} (h : ∀ i, i < n → p i = q i) : (List.range n).filter p = (List.range n).filter q := List.filter_congr fun i hi => h i (List.mem_range.mp hi)
/-- a council's table hangs on its groups alone -/
theorem tab_same {n : Nat} {gs hs : List Nat} (h : ∀ g, g ∈ gs ↔ g ∈ hs) : tab n gs = tab n hs := by
  unfold tab
  refine List.map_congr_left fun g _ => ?_
  rw [Bool.eq_iff_iff, List.any_eq_true, List.any_eq_true]
  exact ⟨fun ⟨o, a, b⟩ => ⟨o, (h o).mp a, b⟩, fun ⟨o, a, b⟩ => ⟨o, (h o).mpr a, b⟩⟩
theorem tab_get {n g : Nat} {gs : List Nat} (h : g < 2 ^ n) : (tab n gs).getD g false = gs.any fun o => decide (g &&& o = o) := by
  unfold tab
  rw [List.getD_eq_getElem?_getD, List.getElem?_map, List.getElem?_range h]
  rfl
theorem sum_filt {ws : Nat → Int} (h0 : ∀ k, 0 ≤ ws k) {p q : Nat → Bool} (h : ∀ k, p k = true → q k = true) : ∀ l : List Nat, ((l.filter p).map ws).sum ≤ ((l.filter q).map ws).sum
  | [] => by simp
  | k :: l => by
    have ih := sum_filt h0 h l
    have hk := h0 k
    cases hp : p k with
    | true =>
      rw [List.filter_cons, if_pos hp, List.filter_cons, if_pos (h k hp)]
      simp only [List.map_cons, List.sum_cons]
      omega
    | false =>
      rw [List.filter_cons, if_neg (by rw [hp]; decide)]
      cases hq : q k with
      | true =>
        rw [List.filter_cons, if_pos hq]
        simp only [List.map_cons, List.sum_cons]
        omega
      | false =>
        rw [List.filter_cons, if_neg (by rw [hq]; decide)]
        exact ih
theorem getD_nn {ws : List Int} (h : ∀ w ∈ ws, 0 ≤ w) (k : Nat) : 0 ≤ ws.getD k 0 := by
  rw [List.getD_eq_getElem?_getD]
  cases e : ws[k]? with
  | none => simp
  | some w => exact h w (List.mem_of_getElem? e)
theorem wgt_mono {ws : List Int} (h : ∀ w ∈ ws, 0 ≤ w) {g o : Nat} (hs : g &&& o = o) : wgt ws o ≤ wgt ws g := by
  unfold wgt
  refine sum_filt (ws := fun k => ws.getD k 0) (getD_nn h) (fun k hk => ?_) _
  have e : (g &&& o).testBit k = true := by rw [hs]; exact hk
  rw [Nat.testBit_and] at e
  exact (Bool.and_eq_true_iff.mp e).1
theorem tabW_eq {ws : List Int} {q : Int} (h : ∀ w ∈ ws, 0 ≤ w) : tab ws.length ((List.range (2 ^ ws.length)).filter fun g => decide (q ≤ wgt ws g)) = (List.range (2 ^ ws.length)).map fun g => decide (q ≤ wgt ws g) := by
  unfold tab
  refine List.map_congr_left fun g hg => ?_
  rw [Bool.eq_iff_iff, List.any_eq_true, decide_eq_true_eq]
  constructor
  · rintro ⟨o, ho, hs⟩
    have h1 := of_decide_eq_true (List.mem_filter.mp ho).2
    have h2 := wgt_mono h (of_decide_eq_true hs)
    omega
  · intro hq
    exact ⟨g, List.mem_filter.mpr ⟨hg, decide_eq_true hq⟩, decide_eq_true (Nat.and_self g)⟩
end Wv
namespace Wv
theorem leastM_len {t : List Bool} (h : t.length ≤ 32) : (leastM t).length ≤ 32 := Nat.le_trans (filt_len _ _) h
theorem greatM_len {t : List Bool} (h : t.length ≤ 32) : (greatM t).length ≤ 32 := Nat.le_trans (filt_len _ _) h
theorem sum_le : ∀ (ws : List Nat) (b : Nat), (∀ w ∈ ws, w ≤ b) → (ws.map fun (w : Nat) => (w : Int)).sum ≤ (ws.length * b : Nat)
  | [], b, _ => by simp
  | w :: ws, b, h => by
    have ih := sum_le ws b fun x hx => h x (List.mem_cons_of_mem _ hx)
    have hw := h w List.mem_cons_self
    simp only [List.map_cons, List.sum_cons, List.length_cons]
    rw [Nat.succ_mul]
    omega
theorem most_ok : ∀ k, k < 3 → 0 < ([3, 50, 1000001] : List Nat).getD k 0 ∧ ([3, 50, 1000001] : List Nat).getD k 0 ≤ 1000001 := by decide
end Wv
namespace Wv
theorem wgt_nat (ws : List Nat) (g : Nat) : wgt (ws.map fun (w : Nat) => (w : Int)) g = (((List.range ws.length).filter fun k => g.testBit k).map fun k => ((ws.getD k 0 : Nat) : Int)).sum := by
  unfold wgt
  rw [List.length_map]
  congr 1
  refine List.map_congr_left fun k _ => ?_
  rw [List.getD_eq_getElem?_getD, List.getD_eq_getElem?_getD, List.getElem?_map]
  cases ws[k]? <;> rfl
end Wv
/-! the plain law: upward tables, the turned one, turns, orders -/
namespace Wv
/-- with every group each greater one -/
def Mono (n : Nat) (t : List Bool) : Prop := t.length = 2 ^ n ∧ ∀ g o, g < 2 ^ n → o < 2 ^ n → g &&& o = o → t.getD o false = true → t.getD g false = true
theorem mono_tab {n : Nat} {gs : List Nat} : Mono n (tab n gs) := ⟨tab_len n gs, fun g o hg ho hs ht => by
  rw [tab_get ho, List.any_eq_true] at ht
  obtain ⟨x, hx, e⟩ := ht
  rw [tab_get hg, List.any_eq_true]
  refine ⟨x, hx, decide_eq_true ?_⟩
  have e := of_decide_eq_true e
  rw [← e, ← Nat.and_assoc, hs]⟩
theorem map_get {n g : Nat} {p : Nat → Bool} (h : g < n) : ((List.range n).map p).getD g false = p g := by
  rw [List.getD_eq_getElem?_getD, List.getElem?_map, List.getElem?_range h]
  rfl
/-- the groups told by an upward property are its table -/
theorem tab_up {n : Nat} {p : Nat → Bool} (h : ∀ g o, g < 2 ^ n → o < 2 ^ n → g &&& o = o → p o = true → p g = true) : tab n ((List.range (2 ^ n)).filter p) = (List.range (2 ^ n)).map p := by
  unfold tab
  refine List.map_congr_left fun g hg => ?_
  have hg := List.mem_range.mp hg
  rw [Bool.eq_iff_iff, List.any_eq_true]
  constructor
  · rintro ⟨o, ho, hs⟩
    obtain ⟨h1, h2⟩ := List.mem_filter.mp ho
    exact h g o hg (List.mem_range.mp h1) (of_decide_eq_true hs) h2
  · intro hq
    exact ⟨g, List.mem_filter.mpr ⟨List.mem_range.mpr hg, hq⟩, decide_eq_true (Nat.and_self g)⟩
/-- the turned table -/
def dualM (n : Nat) (t : List Bool) : List Bool := (List.range (2 ^ n)).map fun g => !t.getD ((2 ^ n - 1) ^^^ g) false
theorem comp_lt {n g : Nat} (h : g < 2 ^ n) : (2 ^ n - 1) ^^^ g < 2 ^ n := Nat.xor_lt_two_pow (by have := Nat.two_pow_pos n; omega) h
theorem comp_comp (n g : Nat) : (2 ^ n - 1) ^^^ ((2 ^ n - 1) ^^^ g) = g := by
  rw [← Nat.xor_assoc, Nat.xor_self, Nat.zero_xor]
theorem comp_sub : ∀ n, n < 6 → ∀ g, g < 2 ^ n → ∀ o, o < 2 ^ n → g &&& o = o → ((2 ^ n - 1) ^^^ o) &&& ((2 ^ n - 1) ^^^ g) = (2 ^ n - 1) ^^^ g := by decide +kernel
theorem comp_is : ∀ n, n < 6 → ∀ g, g < 2 ^ n → 2 ^ n - 1 - g = (2 ^ n - 1) ^^^ g := by decide +kernel
theorem dual_up {n : Nat} {t : List Bool} (hn : n ≤ 5) (h : Mono n t) (g o : Nat) (hg : g < 2 ^ n) (ho : o < 2 ^ n) (hs : g &&& o = o) (hp : (!t.getD ((2 ^ n - 1) ^^^ o) false) = true) : (!t.getD ((2 ^ n - 1) ^^^ g) false) = true := by
  rw [Bool.not_eq_true'] at hp ⊢
  cases e : t.getD ((2 ^ n - 1) ^^^ g) false with
  | false => rfl
  | true =>
    have := h.2 _ _ (comp_lt ho) (comp_lt hg) (comp_sub n (by omega) g hg o ho hs) e
    rw [hp] at this
    cases this
theorem dual_tab {n : Nat} {t : List Bool} (hn : n ≤ 5) (h : Mono n t) : tab n ((List.range (2 ^ n)).filter fun g => !t.getD ((2 ^ n - 1) ^^^ g) false) = dualM n t := tab_up fun g o hg ho hs hp => dual_up hn h g o hg ho hs hp
theorem dual_len (n : Nat) (t : List Bool) : (dualM n t).length = 2 ^ n := by simp [dualM]
theorem mono_dual {n : Nat} {t : List Bool} (hn : n ≤ 5) (h : Mono n t) : Mono n (dualM n t) := by
  rw [← dual_tab hn h]
  exact mono_tab
theorem list_ext_get {n : Nat} {t u : List Bool} (h1 : t.length = n) (h2 : u.length = n) (h : ∀ g, g < n → t.getD g false = u.getD g false) : t = u := by
  apply List.ext_getElem?
  intro i
  by_cases hi : i < n
  · have a := h i hi
    rw [List.getD_eq_getElem?_getD, List.getD_eq_getElem?_getD, List.getElem?_eq_getElem (by omega), List.getElem?_eq_getElem (by omega)] at a
    rw [List.getElem?_eq_getElem (by omega), List.getElem?_eq_getElem (by omega)]
    exact congrArg some a
  · rw [List.getElem?_eq_none (by omega), List.getElem?_eq_none (by omega)]
theorem dual_get {n g : Nat} {t : List Bool} (h : g < 2 ^ n) : (dualM n t).getD g false = !t.getD ((2 ^ n - 1) ^^^ g) false := map_get h
theorem dual_dual {n : Nat} {t : List Bool} (h : t.length = 2 ^ n) : dualM n (dualM n t) = t := list_ext_get (dual_len _ _) h fun g hg => by
  rw [dual_get hg, dual_get (comp_lt hg), comp_comp, Bool.not_not]
/-! ### turns -/
def swing (t : List Bool) (k g : Nat) : Bool := t.getD (g ||| 2 ^ k) false && !t.getD g false
def swingsM (n : Nat) (t : List Bool) : List Nat := (List.range n).map fun k => ((List.range (2 ^ n)).filter fun g => !g.testBit k && swing t k g).length
theorem perm_comp : ∀ n, n < 6 → ∀ k, k < n → (((List.range (2 ^ n)).filter fun g => !g.testBit k).map fun g => (2 ^ n - 1) ^^^ (g ||| 2 ^ k)).isPerm ((List.range (2 ^ n)).filter fun g => !g.testBit k) = true := by decide +kernel
theorem comp_or : ∀ n, n < 6 → ∀ k, k < n → ∀ g, g < 2 ^ n → g.testBit k = false → ((2 ^ n - 1) ^^^ (g ||| 2 ^ k)) ||| 2 ^ k = (2 ^ n - 1) ^^^ g := by decide +kernel
theorem swing_dual {n : Nat} {t : List Bool} (hn : n ≤ 5) (h : t.length = 2 ^ n) {k : Nat} (hk : k < n) : ((List.range (2 ^ n)).filter fun g => !g.testBit k && swing (dualM n t) k g).length = ((List.range (2 ^ n)).filter fun g => !g.testBit k && swing t k g).length := by
  have split : ∀ f : Nat → Bool, ((List.range (2 ^ n)).filter fun g => !g.testBit k && f g).length = ((List.range (2 ^ n)).filter fun g => !g.testBit k).countP f := fun f => by
    rw [List.countP_eq_length_filter, List.filter_filter]
    congr 1
    exact List.filter_congr fun g _ => Bool.and_comm _ _
  rw [split, split, ← (List.isPerm_iff.mp (perm_comp n (by omega) k hk)).countP_eq, List.countP_map]
  refine List.countP_congr fun g hg => ?_
  obtain ⟨h1, h2⟩ := List.mem_filter.mp hg
  have h1 := List.mem_range.mp h1
  have h2 : g.testBit k = false := by simpa using h2
  have hor : g ||| 2 ^ k < 2 ^ n := Nat.or_lt_two_pow h1 (Nat.pow_lt_pow_right (by decide) hk)
  show swing (dualM n t) k ((2 ^ n - 1) ^^^ (g ||| 2 ^ k)) = true ↔ swing t k g = true
  unfold swing
  rw [comp_or n (by omega) k hk g h1 h2, dual_get (comp_lt h1), dual_get (comp_lt hor), comp_comp, comp_comp, Bool.not_not, Bool.and_comm]
theorem swings_dual {n : Nat} {t : List Bool} (hn : n ≤ 5) (h : t.length = 2 ^ n) : swingsM n (dualM n t) = swingsM n t := List.map_congr_left fun k hk => swing_dual hn h (List.mem_range.mp hk)
/-! ### orders -/
def fac : Nat → Nat
  | 0 => 1
  | n + 1 => fac n * (n + 1)
def pop (n g : Nat) : Nat := ((List.range n).filter fun i => g.testBit i).length
def ordCond (t : List Bool) (k g : Nat) : Bool := !g.testBit k && swing t k g
def ordersM (n : Nat) (t : List Bool) : List Nat := (List.range n).map fun k => (((List.range (2 ^ n)).filter fun g => ordCond t k g).map fun g => fac (pop n g) * fac (n - 1 - pop n g)).sum
/-- all orders of so many, as the law makes them -/
def permsM : Nat → List (List Nat)
  | 0 => [[]]
  | n + 1 => (List.range (n + 1)).flatMap fun a => (permsM n).map fun o => o.take a ++ [n] ++ o.drop a
def turnFrom (t : List Bool) (g : Nat) : List Nat → Int
  | [] => -1
  | k :: r => if !t.getD g false && t.getD (g ||| 2 ^ k) false then (k : Int) else turnFrom t (g ||| 2 ^ k) r
/-- those ahead of k -/
def before (k : Nat) (o : List Nat) : Nat := (o.takeWhile fun x => decide (x ≠ k)).foldl (fun g x => g ||| 2 ^ x) 0
theorem perms_ok : ∀ n, n < 6 → ∀ o ∈ permsM n, (∀ x ∈ o, x < n) ∧ ∀ k, k < n → k ∈ o := by decide +kernel
theorem perms_nodup : ∀ n, n < 6 → ∀ o ∈ permsM n, o.Nodup := by decide +kernel
theorem perms_len : ∀ n, n < 6 → (permsM n).length ≤ 120 := by decide +kernel
theorem before_count : ∀ n, n < 6 → ∀ k, k < n → ∀ g, g < 2 ^ n → ((permsM n).map (before k)).count g = if g.testBit k then 0 else fac (pop n g) * fac (n - 1 - pop n g) := by decide +kernel
theorem before_lt : ∀ n, n < 6 → ∀ k, k < n → ∀ o ∈ permsM n, before k o < 2 ^ n := by decide +kernel
theorem sum_count (f : Nat → Bool) : ∀ (l : List Nat) (m : Nat), (∀ g ∈ l, g < m) → l.countP f = (((List.range m).filter f).map fun g => l.count g).sum
  | [], m, _ => by
    have h : ∀ r : List Nat, (r.map fun g => ([] : List Nat).count g).sum = 0 := by
      intro r
      induction r with
      | nil => rfl
      | cons a r ih =>
        rw [List.map_cons, List.sum_cons, ih]
        rfl
    rw [h]
    rfl
  | a :: l, m, hl => by
    have ih := sum_count f l m fun g hg => hl g (List.mem_cons_of_mem _ hg)
    have ha := hl a List.mem_cons_self
    have key : ∀ r : List Nat, r.Nodup → (r.map fun g => (a :: l).count g).sum = (r.map fun g => l.count g).sum + if a ∈ r then 1 else 0 := by
      intro r
      induction r with
      | nil => intro _; rfl
      | cons b r ihr =>
        intro hnd
        obtain ⟨h1, h2⟩ := List.nodup_cons.mp hnd
        have q := ihr h2
        simp only [List.map_cons, List.sum_cons]
        rw [q, List.count_cons]
        by_cases e : a = b
        · subst e
          rw [if_neg h1]
          simp
          omega
        · have e2 : (a == b) = false := by simpa using e
          rw [e2]
          simp [e]
          omega
    rw [List.countP_cons, ih, key _ (List.nodup_range.sublist List.filter_sublist)]
    congr 1
    cases hf : f a with
    | true => rw [if_pos rfl, if_pos (List.mem_filter.mpr ⟨List.mem_range.mpr ha, hf⟩)]
    | false => rw [if_neg Bool.false_ne_true, if_neg fun z => by rw [(List.mem_filter.mp z).2] at hf; cases hf]
theorem turn_mem {t : List Bool} : ∀ (o : List Nat) (g : Nat) (k : Nat), turnFrom t g o = (k : Int) → k ∈ o
  | [], g, k, h => by
    have h : (-1 : Int) = (k : Int) := h
    omega
  | a :: o, g, k, h => by
    unfold turnFrom at h
    split at h
    · have : a = k := by omega
      rw [this]
      exact List.mem_cons_self
    · exact List.mem_cons_of_mem _ (turn_mem o _ k h)
/-- who turns in an order: by those ahead of it -/
theorem turn_before {n : Nat} {t : List Bool} (h : Mono n t) : ∀ (o : List Nat) (g : Nat) (k : Nat), (∀ x ∈ o, x < n) → g < 2 ^ n → o.Nodup → k ∈ o → g.testBit k = false →
    (turnFrom t g o = (k : Int) ↔ (!t.getD ((o.takeWhile fun x => decide (x ≠ k)).foldl (fun g x => g ||| 2 ^ x) g) false && t.getD (((o.takeWhile fun x => decide (x ≠ k)).foldl (fun g x => g ||| 2 ^ x) g) ||| 2 ^ k) false) = true)
  | [], _, _, _, _, _, h, _ => nomatch h
  | a :: o, g, k, ho, hg, hnd, hk, hb => by
    obtain ⟨h1, h2⟩ := List.nodup_cons.mp hnd
    have ha := ho a List.mem_cons_self
    have hga : g ||| 2 ^ a < 2 ^ n := Nat.or_lt_two_pow hg (Nat.pow_lt_pow_right (by decide) ha)
    unfold turnFrom
    by_cases e : a = k
    · subst e
      have tw : ((a :: o).takeWhile fun x => decide (x ≠ a)) = [] := by simp [List.takeWhile_cons]
      rw [tw]
      simp only [List.foldl_nil]
      by_cases c : (!t.getD g false && t.getD (g ||| 2 ^ a) false) = true
      · rw [if_pos c]
        exact ⟨fun _ => c, fun _ => rfl⟩
      · rw [if_neg c]
        exact ⟨fun z => absurd (turn_mem o _ a z) h1, fun z => absurd z c⟩
    · have hko : k ∈ o := (List.mem_cons.mp hk).resolve_left fun z => e z.symm
      have hbk : (g ||| 2 ^ a).testBit k = false := by
        rw [Nat.testBit_or, hb, Nat.testBit_two_pow_of_ne e]
        rfl
      have tw : ((a :: o).takeWhile fun x => decide (x ≠ k)) = a :: o.takeWhile fun x => decide (x ≠ k) := by simp [List.takeWhile_cons, e]
      rw [tw]
      simp only [List.foldl_cons]
      by_cases c : (!t.getD g false && t.getD (g ||| 2 ^ a) false) = true
      · rw [if_pos c]
        constructor
        · intro z
          exact absurd (by omega) e
        · intro z
          -- behind a, who turned, all carry
          have up : ∀ (l : List Nat) (x : Nat), (∀ y ∈ l, y < n) → x < 2 ^ n → t.getD x false = true → t.getD (l.foldl (fun g x => g ||| 2 ^ x) x) false = true := by
            intro l
            induction l with
            | nil => intro x _ _ hx; exact hx
            | cons y l ih =>
              intro x hl hx ht
              have hy := hl y List.mem_cons_self
              have hxy : x ||| 2 ^ y < 2 ^ n := Nat.or_lt_two_pow hx (Nat.pow_lt_pow_right (by decide) hy)
              refine ih _ (fun w hw => hl w (List.mem_cons_of_mem _ hw)) hxy (h.2 _ x hxy hx ?_ ht)
              apply Nat.eq_of_testBit_eq
              intro i
              rw [Nat.testBit_and, Nat.testBit_or]
              cases x.testBit i <;> simp
          have u := up (o.takeWhile fun x => decide (x ≠ k)) (g ||| 2 ^ a) (fun y hy => ho y (List.mem_cons_of_mem _ ((List.takeWhile_sublist _).subset hy))) hga (Bool.and_eq_true_iff.mp c).2
          rw [u] at z
          cases z
      · rw [if_neg c]
        exact turn_before h o (g ||| 2 ^ a) k (fun x hx => ho x (List.mem_cons_of_mem _ hx)) hga h2 hko hbk
theorem orders_count {n : Nat} {t : List Bool} (hn : n ≤ 5) (h : Mono n t) {k : Nat} (hk : k < n) : ((permsM n).map (turnFrom t 0)).count (k : Int) = (((List.range (2 ^ n)).filter fun g => ordCond t k g).map fun g => fac (pop n g) * fac (n - 1 - pop n g)).sum := by
  rw [List.count_eq_countP, List.countP_map]
  have e1 : (permsM n).countP ((fun x => x == (k : Int)) ∘ turnFrom t 0) = ((permsM n).map (before k)).countP (fun g => swing t k g) := by
    rw [List.countP_map]
    refine List.countP_congr fun o ho => ?_
    obtain ⟨h1, h2⟩ := perms_ok n (by omega) o ho
    have q := turn_before h o 0 k h1 (Nat.two_pow_pos n) (perms_nodup n (by omega) o ho) (h2 k hk) (Nat.zero_testBit k)
    show (turnFrom t 0 o == (k : Int)) = true ↔ swing t k (before k o) = true
    rw [beq_iff_eq, q]
    unfold swing before
    rw [Bool.and_comm]
  rw [e1, sum_count _ _ (2 ^ n) fun g hg => by
    obtain ⟨o, ho, rfl⟩ := List.mem_map.mp hg
    exact before_lt n (by omega) k hk o ho]
  have e2 : ∀ l : List Nat, (∀ g ∈ l, g < 2 ^ n) → ((l.filter fun g => swing t k g).map fun g => ((permsM n).map (before k)).count g).sum = ((l.filter fun g => ordCond t k g).map fun g => fac (pop n g) * fac (n - 1 - pop n g)).sum := by
    intro l
    induction l with
    | nil => intro _; rfl
    | cons g l ih =>
      intro hl
      have q := ih fun x hx => hl x (List.mem_cons_of_mem _ hx)
      have c := before_count n (by omega) k hk g (hl g List.mem_cons_self)
      rw [List.filter_cons, List.filter_cons]
      unfold ordCond
      cases hs : swing t k g with
      | false =>
        rw [if_neg (by decide), Bool.and_false, if_neg (by decide)]
        exact q
      | true =>
        rw [if_pos rfl, Bool.and_true]
        cases hb : g.testBit k with
        | true =>
          rw [if_neg (by decide), List.map_cons, List.sum_cons, c, hb, if_pos rfl, Nat.zero_add]
          exact q
        | false =>
          rw [if_pos (by decide), List.map_cons, List.map_cons, List.sum_cons, List.sum_cons, c, hb, if_neg (by decide)]
          congr 1
  exact e2 _ fun g hg => List.mem_range.mp hg
end Wv
/-! where the text's defs stand -/
namespace Wv
open PySem L2 PyProof.Rows
def LawAt (K : PySem.W.Frag) (mg : Str → Option Value) (st : Stmt) : Prop := ∃ f fd, mg "law" = some (.ref f) ∧ Fun K "law" "law" st f fd ∧ ∀ v, bindArgs fd ⟨[v], []⟩ = pure [(("_law_script" : Str), v)]
section
variable {K : PySem.W.Frag} {mg : Str → Option Value} {h : Heap} {x m q : Str} {st : Stmt} {ps : List Str} {f C : Addr} {oc : Value} {od an : Option Addr} {osl : Array (Option Value)} {kV doc pm cd ct : Value}
theorem fnAt_mk (X : K.In h) (G : h.Ns mainGlobals mg) (a : PySem.W.nsIn K mainGlobals x = some (some (.ref f))) (l : K.lookup f = some ⟨oc, od, .func (PySem.W.fnOf x x (defArgs st) (defBody st) (defScope st) .none kV doc pm an cd ct), osl⟩) (c : PySem.W.codeIn K cd x = true) (k : PySem.W.keepIn K (.ref f) = true)
    (hb : ∀ (kV doc pm : Value) (an : Option Addr) (cdv ct : Value) (us : List Value), us.length = ps.length → bindArgs (PySem.W.fnOf x x (defArgs st) (defBody st) (defScope st) .none kV doc pm an cdv ct) ⟨us, []⟩ = pure (ps.zip us)) : FnAt K mg x st ps :=
  ⟨f, _, PySem.W.mg_of X G a, fun_mk l c k, (fun_mk l c k).binds hb⟩
theorem mtAt_mk (a : PySem.W.findIn K (.ref C) m = some (some (.ref f))) (i : PySem.W.isFn K (.ref f) = true) (l : K.lookup f = some ⟨oc, od, .func (PySem.W.fnOf m q (defArgs st) (defBody st) (defScope st) .none kV doc pm an cd ct), osl⟩) (c : PySem.W.codeIn K cd q = true) (k : PySem.W.keepIn K (.ref f) = true)
    (hb : ∀ (kV doc pm : Value) (an : Option Addr) (cdv ct : Value) (us : List Value), us.length = ps.length → bindArgs (PySem.W.fnOf m q (defArgs st) (defBody st) (defScope st) .none kV doc pm an cdv ct) ⟨us, []⟩ = pure (ps.zip us)) : MtAt K C m q st ps :=
  ⟨f, _, ⟨a, i, k⟩, fun_mk l c k, (fun_mk l c k).binds hb⟩
theorem mkAt_mk (g : mg x = some (.ref C)) (mk : PySem.W.makesIn K C = true) (a : PySem.W.findIn K (.ref C) "__init__" = some (some (.ref f))) (i : PySem.W.isFn K (.ref f) = true) (kc : PySem.W.keepIn K (.ref C) = true) (l : K.lookup f = some ⟨oc, od, .func (PySem.W.fnOf "__init__" q (defArgs st) (defBody st) (defScope st) .none kV doc pm an cd ct), osl⟩) (c : PySem.W.codeIn K cd q = true) (k : PySem.W.keepIn K (.ref f) = true)
    (hb : ∀ (kV doc pm : Value) (an : Option Addr) (cdv ct : Value) (us : List Value), us.length = ps.length → bindArgs (PySem.W.fnOf "__init__" q (defArgs st) (defBody st) (defScope st) .none kV doc pm an cdv ct) ⟨us, []⟩ = pure (ps.zip us)) : MkAt K mg x C q st ps :=
  ⟨f, _, g, ⟨mk, a, i, kc⟩, fun_mk l c k, (fun_mk l c k).binds hb⟩
theorem lawAt_mk (X : K.In h) (G : h.Ns mainGlobals mg) (a : PySem.W.nsIn K mainGlobals "law" = some (some (.ref f))) (l : K.lookup f = some ⟨oc, od, .func (PySem.W.fnOf "law" "law" (defArgs st) (defBody st) (defScope st) .none kV doc pm an cd ct), osl⟩) (c : PySem.W.codeIn K cd "law" = true) (k : PySem.W.keepIn K (.ref f) = true)
    (hb : ∀ (kV doc pm : Value) (an : Option Addr) (cdv ct : Value) (v : Value), bindArgs (PySem.W.fnOf "law" "law" (defArgs st) (defBody st) (defScope st) .none kV doc pm an cdv ct) ⟨[v], []⟩ = pure [(("_law_script" : Str), v)]) : LawAt K mg st :=
  ⟨f, _, PySem.W.mg_of X G a, fun_mk l c k, hb kV doc pm an cd ct⟩
end
def c_law : List D → Rs → Prop := R1 D.scr (fun _ => True) fun _ => .dat (.bl true)
theorem walk {l : PySem.W.OpenLaw} {q : Program} {loose : List Str} {XP : (Str → Option Value) → Heap → Prop} {YP : World → Heap → Prop} {d : DefRec} {K : Params → PySem.W.Frag} {k : Nat} (hn : l.most = some 63) (hdf : d.params.defaults = []) (hr : Room k callerA)
    (hY : ∀ (w : World) (h : Heap), YP w h → (K w.params).In h)
    (F : ∀ (w : World) (mg : Str → Option Value) (fa : Addr) (h : Heap), (K w.params).In h → h.Ns mainGlobals mg → mg d.name = some (.ref fa) →
      ∃ fd : FuncData, (∀ (s : Shared) (u : Value), BindsTo s fd ⟨[u], []⟩ [("_law_script", u)]) ∧ ∀ base : Heap, (K w.params).In base → base.Ns mainGlobals mg → FnOk l.prog w (K w.params) mg base CX0 k fa fd ["_law_script"] (SpR (K w.params) c_law)) :
    PySem.W.WalkO q loose XP YP l.row.toRowW d [] (fun f vs => PySem.call f vs) :=
  L2.walk_of (n := 63) (k := k) (x := "_law_script") (CX := fun _ => CX0) (sp := fun w => SpR (K w.params) c_law) hn (by decide) hdf hr hY F
    (fun w H a ns hl _ hS => ⟨H, [.scr ns], .dat (.bl true), fun _ _ z => z, denL_cons (by simp only [Den]; exact ⟨a, rfl, hS⟩) denL_nil, ⟨ns, rfl, True.intro, rfl⟩, fun v B' H' g dv => den_bl dv⟩) fun _ _ _ _ _ z => z
end Wv
/-! errors: raised, let out, caught, asked for their class -/
/-! ### a list walked while an error is handled -/
namespace PySem
section
variable {prog : Program} {w : World} {A : Around} {E : Value → Shared → Prop} {s : Shared}
theorem next_list_end_hot {it l x1 : Addr} {i : Nat} {items} {Q : Option Value → Shared → Prop} (hot : HotX.HotAt A x1 s.heap) (hne : x1 ≠ it)
    (hit : s.heap.IsListIter it l i) (hl : s.heap.IsList l items) (hx : items[i]? = none)
    (hQ : ∀ h', (∀ b o, b ≠ it → s.heap.get? b = some o → h'.get? b = some o) → Q none { s with heap := h' }) : wpAny (model prog w) A (pyNext (.ref it)) Q E s := by
  obtain ⟨o, ho, hc, hd⟩ := id hit
  obtain ⟨ol, hol, _, nl, hdl⟩ := hl
  obtain ⟨hh, o1, vs1, h1, d1, c1⟩ := hot
  unfold pyNext
  refine wpAny_bind (wpAny_attempt (wpAny_callSpecial?_slot (name := Str.ofString "__next__") hit.typeIs slot_listiter_next
    (wpAny_call_entry slot_listiter_next hit.typeIs entry_listiter_next ?_ (args_listiter_next _))))
  show wpAny _ _ (field (.ref it) 0 >>= _) _ _ s
  refine wpAny_bind (wpAny_field ho hd (x := .ref l) rfl ?_)
  show wpAny _ _ (if (Value.ref l == Value.none) = true then _ else _) _ _ s
  rw [if_neg (show ¬ ((Value.ref l == Value.none) = true) from Bool.false_ne_true)]
  show wpAny _ _ (field (.ref it) 1 >>= _) _ _ s
  refine wpAny_bind (wpAny_field ho hd (x := .int i 0) rfl ?_)
  show wpAny _ _ (seqItems? (.ref l) >>= _) _ _ s
  refine wpAny_bind (wpAny_seqItems hol hdl ?_)
  simp only [Int.toNat_natCast, hx]
  refine wpAny_bind (wpAny_rule (wpAny_bind (wpAny_setField ho hd (by simp) ?_)))
  show wpAny _ _ (newExc (.type "StopIteration") [] >>= _) _ _ _
  refine wpAny_bind ?_
  simp only [newExc, newTuple]
  refine wpAny_bind (wpAny_newObj_type ?_ (by size_fits))
  refine wpAny_bind (m := firstArgMember _ _) (wpAny_of_eq (a := Value.none) (by first | rfl | (simp only [firstArgMember]; rfl)) ?_)
  refine wpAny_newObj_type ?_ (by size_fits)
  have k1 : ∀ b o', b ≠ it → s.heap.get? b = some o' → (s.heap.update it (Obj.mapFields (·.setIfInBounds 0 .none))).get? b = some o' := fun b o' hb e => by
    rw [Heap.get?_update_other _ _ (Ne.symm hb)]
    exact e
  refine HotX.raiseNew_hot ⟨hh, o1, vs1, Heap.get?_push_of_some _ (Heap.get?_push_of_some _ (k1 _ _ hne h1)), d1, c1⟩ (Nat.ne_of_lt (Heap.lt_size (Heap.get?_push_of_some _ (k1 _ _ hne h1)))) (Heap.get?_push_size _ rfl) rfl (by first | (simp; done) | (simp; omega) | (simp only [Array.size_append]; simp; omega)) ?_
  refine wpAny_bind (wpAny_isInstance (T := "StopIteration") (b := true) ⟨_, Heap.get?_update_self _ (Heap.get?_push_size _ rfl) rfl, rfl⟩ isSubtype_stop ?_)
  refine wpAny_pure (hQ _ fun b o' hb e => ?_)
  rw [Heap.get?_update_other _ _ (Nat.ne_of_gt (Heap.lt_size (Heap.get?_push_of_some _ (k1 _ _ hb e))))]
  exact Heap.get?_push_of_some _ (Heap.get?_push_of_some _ (k1 _ _ hb e))
end
theorem Walks.listHot {prog : Program} {w : World} {A : Around} {x1 : Addr} {o1 : Obj} {vs1 : Array Value} (hh : A.handled = some (.ref x1)) (d1 : o1.data = .fields vs1) (c1 : vs1[2]? = some .none) (I ax : Addr) (hne : ax ≠ I) (h1 : x1 ≠ I) (items : Array Value) :
    Walks prog w A I [I, ax, x1] [I] items.size (fun i v => items[i]? = some v) (fun i h => h.IsListIter I ax i ∧ h.IsList ax items ∧ h.get? x1 = some o1) where
  sub := fun b hb => by simp at hb; simp [hb]
  frame := fun _ _ _ st hk => ⟨st.1.at fun o e => hk I (by simp) o e, st.2.1.at fun o e => hk ax (by simp) o e, hk x1 (by simp) o1 st.2.2⟩
  item := fun i s Q E hi st hQ => by
    refine wpAny_pyNext_list_item st.1 st.2.1 (x := items[i]) (by simp [hi]) fun h' hit' hs' => ?_
    exact hQ _ h' s.toks (by simp [hi]) ⟨hit', st.2.1.extBut hs'.extBut hne, hs'.extBut _ _ h1 st.2.2⟩ fun b o hb e => hs'.extBut b o (fun h => hb (by simp [h])) e
  done := fun s Q E st hQ => next_list_end_hot ⟨hh, o1, vs1, st.2.2, d1, c1⟩ h1 st.1 st.2.1 (by simp) fun h' he' => hQ h' s.toks fun b o hb e => he' b o (fun h => hb (by simp [h])) e
  self := fun _ _ _ _ st hQ => wpAny_pyIter_listiter st.1 hQ
end PySem
namespace L2
open PySem PySem.Spec PyProof.Rows
theorem hot_at {X : Cx} {pins : List (Addr × Obj)} {σ : St} {H : Hp} {s : Shared} (c : L2H.HotC X) (I : Inv X pins σ H s) : ∃ x1 o1 vs1, X.A.in1.handled = some (.ref x1) ∧ s.heap.get? x1 = some o1 ∧ o1.data = .fields vs1 ∧ vs1[2]? = some .none := by
  obtain ⟨p, ⟨hh, v1, e1, c1⟩, hp⟩ := c
  exact ⟨p.1, p.2, v1, hh, (I.pin p (List.mem_append_left _ hp)).1, e1, c1⟩
theorem cr_anyHot {X : Cx} (hc : L2H.HotC X) : CallR X (.builtin "any") (rAny X.K) := by
  intro pins s σ H vs us Q I r h
  obtain ⟨a, bs, rfl, hs, q⟩ := h
  obtain ⟨its, rv, hl, _⟩ := I.list hs
  obtain ⟨x1, o1, vs1, hh, g1, d1, c1⟩ := hot_at hc I
  rw [Vals.ref1 r]
  have hb := rv.bls
  refine call_any_walk (iter_any hl.isList fun s₂ e2 st hne => ?_)
  subst e2
  have hlt := Heap.lt_size g1
  refine ⟨_, _, _, _, _, _, _, rfl, Walks.listHot (A := X.A.in1) hh d1 c1 _ a hne (Nat.ne_of_lt hlt) its.toArray, ⟨st.1, st.2, Heap.get?_push_of_some _ g1⟩, truth_bools hb, fun h' tk hk => ?_⟩
  refine ⟨.bl _, H, I.kept fun b o eo => hk b o (fun hmem => ?_) (Heap.get?_push_of_some _ eo), ?_, q⟩
  · rcases List.mem_cons.mp hmem with e1 | hmem
    · exact absurd (e1 ▸ Heap.lt_size eo) (Nat.lt_irrefl _)
    · cases hmem
  · show Value.bool _ = Value.bool _
    rw [← any_range, hb, List.size_toArray, List.length_map]
end L2
namespace Wv
open PySem L2 PyProof.Rows
open Evl (Ex fresh_back ex_l)
theorem hot_suite {X : Cx} {a : Addr} {oe : Obj} {cls : Value} {d : Option Addr} {pn : List (Addr × Obj)} (hz : L2N.Zn cls d oe) (hf : ∃ vs, oe.data = .fields vs) : L2H.HotC (X.suite a ((a, oe) :: pn)) := by
  obtain ⟨vs, hv⟩ := hf
  exact ⟨(a, oe), ⟨rfl, vs, hv, hz.2.2 vs hv⟩, List.mem_cons_self⟩
/-- as Fun.ok, for a def that may raise -/
theorem okN {P : Program} {w : World} {K : PySem.W.Frag} {mg : Str → Option Value} {base : Heap} {x qual : Str} {st : Stmt} {f : Addr} {fd : FuncData} {N ps : List Str} {k : Nat} {sp : Sp} (F : Fun K x qual st f fd) (S : FnScope N ps (defScope st)) (len : ∀ vs H Q E, sp vs H Q E → vs.length = ps.length)
    (hbody : ∀ (cdv : Value) (A : Around) (outer : List Env) (s : Shared) (H : Hp) (vs : List V) (Q : VK) (E : XK), Room k (A.deeper (envOfC qual (defScope st) s.heap.objs.size f cdv)) → sp vs H Q E →
      ∃ t, PSs (cxOf (L2N.CX P w) P w K mg base N qual (defScope st) f cdv A outer s H E) (defBody st) t ∧ t { nx := fun _ H' => Q .non H', rt := Q } (L2.start N vs) H) : FnOk P w K mg base (L2N.CX P w) (k + 1) f fd ps sp := by
  obtain ⟨oc, od, kV, doc, pm, an, cdv, ct, osl, rfl, lk, hcd⟩ := F.ex
  exact fn_of lk hcd S len fun A outer s H vs Q E hr hsp => hbody cdv A outer s H vs Q E hr hsp
theorem passN {X : Cx} : Passes (L2N.CX X.prog X.w) X E0 := fun _ _ _ _ _ _ _ h => by
  obtain ⟨_, _, _, _, _, _, _, _, _, _, _, _, z⟩ := h
  exact z.elim
theorem takesN {X : Cx} : L2N.Takes X (fun _ _ _ _ => False) := fun _ _ x => by
  obtain ⟨_, _, _, _, _, _, _, _, _, _, _, _, _, _, _, _, z⟩ := x
  exact z.elim
/-- a class of errors of the text -/
structure ErrAt (K : PySem.W.Frag) (mg : Str → Option Value) (x : Str) (C : Addr) : Prop where
  g : mg x = some (.ref C)
  q : PySem.W.excIn K C [.type "ValueError", .type "Exception", .type "BaseException", .type "object"] "ValueError.__new__" = true
  k : PySem.W.keepIn K (.ref C) = true
  s : PySem.W.subIn K (.ref C) (.type "BaseException") = some true
  t : PySem.W.typeIn K (.ref C) = some (.type "type")
/-- raise x('..') -/
def tRaise (C : Addr) (E : XK) : TS := fun _ _ H => E (.ref C) none H
section
variable {X : Cx} {C : Addr} {E : XK} {x m : Str} {j : Nat} {p p2 pos pos2 : Pos}
theorem ps_raiseD (hc : X.calm = true) (tk : L2N.Takes X (fun cls d _ H => E cls d H)) (R : ErrAt X.K X.mg x C) (hg : Gl X x) (hdb : (x == ("__debug__" : Str)) = false := by decide) :
    PS X (.Raise (some (.Call (.Name x p) [.Constant (.str m) j p2] [] pos)) none pos2) (tRaise C E) :=
  L2N.ps_raise hc tk (L2N.pmk_own PySem.F.excBase_ValueError R.q R.g R.k (raises_own R.s R.t) hg hdb)
end
section
variable {K : PySem.W.Frag} {E E' : XK} {sl : List Sl} {P : En} {C U : Addr} {te : TE} {i : Nat} {d : D} {c : Value}
theorem w_raise (k : P.rt (.exc C)) : W K E (tRaise C E) sl P := fun B0 H0 B H σ D sd m => by
  have q := m.rt (.exc C) B H sd.gr k
  exact q B H (Gr.refl sd.sub)
/-- what is left of a suite: the error's name is gone -/
def gone (P : En) (i : Nat) : En := { nx := fun s => P.nx (s.set i .un), rt := P.rt, bk := fun s => P.bk (s.set i .un), ct := fun s => P.ct (s.set i .un) }
/-- try: an expression; it raises, and the clause is meant -/
theorem w_tryDX {te : (L2.St → XK) → TE} {ts : Addr → Value → Option Addr → TS} {Wout : WX} (hx : PySem.W.exmOne K (.ref U) c = some true) (hte : ∀ Es σ H Q, te (fun _ => Es σ) σ H Q → te Es σ H Q) (h : ∀ E', EvR K E' (te fun _ => E') sl (.exc U))
    (hs : ∀ a, W K E (ts a (.ref U) none) (sl.set i (.fz (.fn a))) (gone P i)) :
    W K E (fun D σ H => tDrop (te (WE (wAs K c i ts Wout D))) D σ H) sl P := fun B0 H0 B H σ D sd m => by
  refine hte _ _ _ _ (h _ B0 H0 B H σ sd _ fun B2 H2 g2 => ?_)
  refine ⟨true, hx, fun _ a ha => ?_, fun z => Bool.noConfusion z⟩
  refine hs a B0 H0 B2 H2 _ _ ((sd.grow g2).setFz (d := .fn a) (by simp only [Den])) ⟨fun B H σ sl s q => m.nx B H _ _ s.setUn q, fun B H σ sl s q => m.bk B H _ _ s.setUn q, fun B H σ sl s q => m.ct B H _ _ s.setUn q, m.rt⟩
/-- .. it raises nothing -/
theorem w_tryD {te : (L2.St → XK) → TE} {ts : Addr → Value → Option Addr → TS} {Wout : WX} (hte : ∀ Es σ H Q, te (fun _ => Es σ) σ H Q → te Es σ H Q) (h : ∀ E', EvR K E' (te fun _ => E') sl (.dat d)) (k : P.nx sl) :
    W K E (fun D σ H => tDrop (te (WE (wAs K c i ts Wout D))) D σ H) sl P := fun B0 H0 B H σ D sd m =>
  hte _ _ _ _ (h _ B0 H0 B H σ sd _ fun v B2 H2 g2 dv => m.nx B2 H2 σ sl (sd.grow g2) k)
end
/-- a reading under a condition on what was caught -/
theorem pss_guard {X : Cx} {b : List Stmt} {p : Prop} {t : TS} (h : p → PSs X b t) : PSs X b (fun D σ H => p ∧ t D σ H) := ⟨fun pins s σ H D I q => (h q.1).run pins s σ H D I q.2⟩
theorem w_guard {K : PySem.W.Frag} {E : XK} {sl : List Sl} {P : En} {p : Prop} {t : TS} (hp : p) (h : W K E t sl P) : W K E (fun D σ H => p ∧ t D σ H) sl P := fun B0 H0 B H σ D sd m => ⟨hp, h B0 H0 B H σ D sd m⟩
section
variable {K : PySem.W.Frag} {U a C : Addr} {b : Bool} {n : String}
/-- isinstance(error, C) -/
theorem cb_isE (h : PySem.W.kitOne K (.ref U) (.ref C) = some b) : CbD K (rIsE K U a) [.fn a, .fn C] (.dat (.bl b)) := fun B H vs e d E Q q => by
  obtain ⟨v, w, rfl, h1, h2⟩ := denL_two d
  simp only [Den] at h1 h2
  subst h1 h2
  exact ⟨.ref C, .ref C, b, rfl, fun u r => r, h, post_v e q (mk_bl _)⟩
theorem cb_isET (h : PySem.W.kitOne K (.ref U) (.type n) = some b) : CbD K (rIsE K U a) [.fn a, .ty n] (.dat (.bl b)) := fun B H vs e d E Q q => by
  obtain ⟨v, w, rfl, h1, h2⟩ := denL_two d
  simp only [Den] at h1 h2
  subst h1 h2
  exact ⟨.ty n, .type n, b, rfl, fun u r => r, h, post_v e q (mk_bl _)⟩
end
/-! ### a local that holds a def, one of several -/
def tCallLS (i : Nat) (p : Addr → Prop) (sp : Sp) (E : L2.St → XK) (t : TA) : TE := fun σ H Q => (∃ f, p f ∧ σ[i]? = some (some (.ref f))) ∧ t σ H fun vs H1 => sp vs H1 Q (E σ)
section
variable {X : Cx} {CX : CXT} {k i : Nat} {q : Addr → Prop} {sp : Sp} {E : L2.St → XK} {x : Str} {p pos : Pos} {e : Expr} {es : List Expr} {t : TA}
theorem pe_callLS (F : ∀ f, q f → ∃ fd ps, FnOk X.prog X.w X.K X.mg X.base CX k f fd ps sp ∧ PySem.W.keepIn X.K (.ref f) = true ∧ Binds X.K fd ps []) (hr : Room k X.A) (hN : X.N[i]? = some x) (hv : Vis X.env.scope x) (hx : ∀ σ, PassesAt CX X σ (E σ)) (ha : PA X (e :: es) t)
    (hdb : (x == ("__debug__" : Str)) = false := by decide) (hcd : (x == ("__classdict__" : Str)) = false := by decide)
    (he : starEach (e :: es) X.env = (false, eval e X.env) :: starEach es X.env := by rfl) (hpl : (backTo pos (starEach es X.env)).any (·.1) = false := by rfl) : PE X (.Call (.Name x p) (e :: es) [] pos) (tCallLS i q sp E t) := by
  refine ⟨fun pins s σ H Q I h => ?_⟩
  obtain ⟨⟨f, hq, hs⟩, ht⟩ := h
  obtain ⟨fd, ps, G, hk, hb⟩ := F f hq
  refine wpAny_Call_Name_kw (thn ((pe_var (pos := p) hN hv hdb hcd).run pins s σ H (fun v H1 => v = .ref f ∧ H1 = H) I ⟨.ref f, hs, rfl, rfl⟩) fun u s1 ⟨v, H1, I1, r1, q1⟩ => ?_)
  obtain ⟨rfl, rfl⟩ := q1
  cases r1
  refine PySem.W.callWith_K (h₀ := X.base) I.ok.mod.kin hk (thn (ha.run pos pins s1 σ _ _ I1 ht) fun us s2 ⟨vs, H2, I2, r, q⟩ => ⟨I2.kIn, ?_⟩) he hpl
  exact run_fnS G hr hb (hx σ) I2 r q
end
section
variable {K : PySem.W.Frag} {E : XK} {sl : List Sl} {i : Nat} {p : Addr → Prop} {f : List D → Rs → Prop} {tr : TA} {ds : List D} {C g : Addr}
theorem ev_callLSX (hi : sl[i]? = some (.fz (.fn g))) (hp : p g) (ha : EvA K tr sl ds) (hf : f ds (.exc C)) : EvR K E (tCallLS i p (SpR K f) (fun _ => E) tr) sl (.exc C) := fun B0 H0 B H σ sd Q q => by
  obtain ⟨v, h1, h2⟩ := sd.fz i _ hi
  simp only [Den] at h2
  subst h2
  exact ⟨⟨g, hp, h1⟩, ev_callX (E := E) ha hf B0 H0 B H σ sd Q q |> fun z => by simpa only [tCall, List.append_nil] using z⟩
end
end Wv
/-! a try with any body; defs called within a suite, with the error as an argument; count, index of flat items; {} -/
namespace L2
open PySem PySem.Spec PyProof.Rows
section
variable {X : Cx}
def rCntF (K : PySem.W.Frag) : V → List V → Hp → VK → Prop := fun x xs H Q => ∃ (a : Addr) (ys : List V) (y : V), x = V.ref a ∧ xs = [y] ∧ SqL K H a ys ∧ flatV y = true ∧ ys.all flatV = true ∧ Q (.int ((ys.countP fun z => eqV z y : Nat) : Int)) H
theorem countU {y : V} {uy : Value} : ∀ {ys : List V} {us : List Value}, Vals ys us → ys.all flatV = true → us.countP (eqU y) = ys.countP fun z => eqV z y
  | _, _, .nil, _ => rfl
  | _, _, .cons ru r, f => by
    rw [List.all_cons, Bool.and_eq_true] at f
    rw [List.countP_cons, List.countP_cons, countU (uy := uy) r f.2, eqU_of ru f.1]
theorem mt_lcountF : MtR X "list.count" (rCntF X.K) := by
  intro pins s σ H x xs v us Q I rx rxs h
  obtain ⟨a, ys, y, rfl, rfl, hs, fy, fys, q⟩ := h
  cases rx
  obtain ⟨uy, rfl, ry⟩ := rxs.one
  obtain ⟨its, rv, ⟨⟨cls, dd, data, sl⟩, n, ho, hc, hdn, hd⟩, hlen⟩ := I.list hs
  simp only at hc hd
  subst hc hd
  refine call_meets PySem.F.slot_list_count ⟨_, ho, rfl⟩ PySem.F.entry_list_count (PySem.F.args_list_count_2 _ _)
    (SeqAt.list_countAt a its.toArray n dd sl uy (eqU y)) ⟨ho, fun u' hu' => mem_eqAt ry fy rv fys u' (by simpa using hu'), ?_⟩
  have ec : its.toArray.toList.countP (eqU y) = ys.countP fun z => eqV z y := by
    show its.countP (eqU y) = _
    exact countU (uy := uy) rv fys
  refine ⟨.int ((ys.countP fun z => eqV z y : Nat) : Int), H, I.tok _, ⟨s.toks, ?_⟩, q⟩
  show Value.int ((its.toArray.toList.countP (eqU y) : Nat) : Int) s.toks = _
  rw [ec]
/-- isinstance(e, c), e an error that the context bears -/
theorem call_isP {X : Cx} {a D : Addr} {oe : Obj} (C : ExcC X.K D) (hm : (a, oe) ∈ X.pn) (hz : Zc (.ref D) none oe) (hf : ∃ vs, oe.data = .fields vs) : CallR X (.builtin "isinstance") (rIsE X.K D a) := by
  intro pins s σ H xs us Q I r h
  obtain ⟨c, cv, b, rfl, hcv, e, q⟩ := h
  cases r with
  | cons rx rr =>
    cases rr with
    | cons rt rr =>
      cases rr
      cases rx
      have ec := hcv _ rt
      subst ec
      obtain ⟨hget, _⟩ := I.pin (a, oe) (List.mem_append.mpr (.inl hm))
      obtain ⟨vs, hv⟩ := hf
      have J : PySem.W.InstAt s.heap a oe D none := by
        obtain ⟨oc, od, oda, osl⟩ := oe
        obtain ⟨h1, h2⟩ := hz
        dsimp only at h1 h2 hv
        subst h1 h2 hv
        exact ⟨hget, rfl, rfl, trivial⟩
      exact PySem.W.kia_one (PySem.W.handS_kitx_exc C.hg C.hk C.hs C.hd C.ha C.hn C.ht C.hm) I.kIn J e (fun z => nomatch z) fun tk => ⟨.bl b, H, I.kept (t' := tk) fun _ _ z => z, rfl, q⟩
end
end L2
namespace Wv
open PySem L2 PyProof.Rows
open Evl (Ex fresh_back ex_l)
/-! ### a def that is handed the error that is handled -/
/-- what it promises: sp of the other arguments, by the error's class -/
def FnE (P : Program) (w : World) (K : PySem.W.Frag) (mg : Str → Option Value) (base : Heap) (k : Nat) (f : Addr) (fd : FuncData) (ps : List Str) (sp : Addr → Addr → Sp) : Prop :=
  ∀ (U : Addr) (A : Around) (outer : List Env) (s : Shared) (H : Hp) (args : Args) (us : List Value) (vs : List V) (Q : VK) (p : Addr × Obj), L2H.RoomH k A → L2H.Hot1 A p → L2H.PinOk outer H s p → L2N.Zn (.ref U) none p.2 → Env0 P w K mg base A outer s H → BindsTo s fd args (ps.zip us) → Vals vs us → vs.length = ps.length → sp U p.1 vs H Q (fun _ _ _ => False) →
    codeAny (model P w) A (.call (.ref f) args) (CR (fun _ _ _ _ _ _ => False) outer P w H s Q (fun _ _ _ => False)) s
theorem fnE_of {P : Program} {w : World} {K : PySem.W.Frag} {mg : Str → Option Value} {base : Heap} {k : Nat} {f : Addr} {x qual : Str} {st : Stmt} {fd : FuncData} {N ps : List Str} {sp : Addr → Addr → Sp} (F : Fun K x qual st f fd) (S : FnScope N ps (defScope st))
    (hbody : ∀ (U : Addr) (cdv : Value) (A : Around) (outer : List Env) (s : Shared) (H : Hp) (vs : List V) (Q : VK) (p : Addr × Obj), L2H.Hot1 A p → L2N.Zn (.ref U) none p.2 → L2H.RoomH k (A.deeper (envOfC qual (defScope st) s.heap.objs.size f cdv)) → sp U p.1 vs H Q (fun _ _ _ => False) →
      ∃ t, PSs (L2H.cxH (fun _ _ _ _ _ _ => False) P w K mg base N qual (defScope st) f cdv A outer s H (fun _ _ _ => False) p) (defBody st) t ∧ t { nx := fun _ H' => Q .non H', rt := Q } (L2.start N vs) H) :
    FnE P w K mg base (k + 1) f fd ps sp := by
  obtain ⟨oc, od, kV, doc, pm, an, cdv, ct, osl, rfl, lk, hcd⟩ := F.ex
  intro U A outer s H args us vs Q p hr hot hpin hzn e0 hb r hl hsp
  have KX : K.In s.heap := e0.mod.kin.keeps fun b o e => (e0.bs b o e).1
  have lim : s.heap.NoLimit := e0.mod.nolimit.keeps fun b o e => (e0.bs b o e).1
  have hkind : ∀ y ∈ ps.zip us, (defScope st).names.lookup y.1 = some .local ∨ ((defScope st).names.lookup y.1 = some .cell ∧ ((cellsFrom (s.heap.objs.size + 1) (defScope st).names []).lookup y.1).isSome = true) := fun ⟨n, v⟩ hy => by
    rcases S.par n (List.of_mem_zip hy).1 with q | q
    · exact .inl q
    · exact .inr ⟨q, PySem.W.cellsFrom_some _ _ _ (.inl q)⟩
  refine codeAny_call_function hr.depth (KX _ _ lk) rfl S.co S.gen rfl (PySem.W.codeRec_of KX hcd) (hb _ _ _ _ ?_)
  refine wpAny_newFunctionEnv_cells S.kind hkind fun env he s1 x => ?_
  subst he
  refine ⟨lim.keeps x.toInCall.keep, codeAny_func ?_⟩
  obtain ⟨t, ht, hq⟩ := hbody U cdv A outer s H vs Q p hot hzn (hr.deeper _) hsp
  have I := L2H.inv_startH (CX := fun _ _ _ _ _ _ => False) (E := fun _ _ _ => False) S hpin e0 hl r x
  refine wpAny_mono (ht.run [] s1 (L2.start N vs) H _ I hq) (fun fl s' hs => ?_) fun e s' hs => hs
  have fin : ∀ {σ' : L2.St} {H' : Hp} {v : V} {u : Value}, L2.Inv (L2H.cxH (fun _ _ _ _ _ _ => False) P w K mg base N qual (defScope st) f cdv A outer s H (fun _ _ _ => False) p) [] σ' H' s' → RelV v u → Q v H' → CE outer P w H s Q u s' :=
    fun {σ' H' v u} J rv q => ⟨v, H', J.os, J.bare, J.base, J.hok, rv, q⟩
  cases fl with
  | ret u =>
    obtain ⟨v, σ', H', J, rv, q⟩ := hs
    exact fin J rv q
  | next =>
    obtain ⟨σ', H', J, q⟩ := hs
    exact fin (v := V.non) (u := Value.none) J rfl q
  | brk =>
    obtain ⟨_, _, _, q⟩ := hs
    exact False.elim q
  | cont =>
    obtain ⟨_, _, _, q⟩ := hs
    exact False.elim q
/-- f(error) within the suite -/
def tCallE (U a : Addr) (sp : Addr → Addr → Sp) (t : TA) : TE := fun σ H Q => t σ H fun vs H1 => sp U a vs H1 Q (fun _ _ _ => False)
theorem pe_callE {X : Cx} {k : Nat} {f U a : Addr} {fd : FuncData} {ps : List Str} {sp : Addr → Addr → Sp} {x : Str} {q pos : Pos} {e : Expr} {es : List Expr} {t : TA} {oe : Obj} {pn : List (Addr × Obj)}
    (F : FnE X.prog X.w X.K X.mg X.base k f fd ps sp) (len : ∀ U a vs H Q E, sp U a vs H Q E → vs.length = ps.length) (hr : L2H.RoomH k X.A) (hg : Gl X x) (hm : X.mg x = some (.ref f)) (hk : PySem.W.keepIn X.K (.ref f) = true) (hb : Binds X.K fd ps []) (hz : L2N.Zn (.ref U) none oe) (hf : ∃ vs, oe.data = .fields vs)
    (ha : PA (X.suite a ((a, oe) :: pn)) (e :: es) t) (hdb : (x == ("__debug__" : Str)) = false := by decide) (he : starEach (e :: es) X.env = (false, eval e X.env) :: starEach es X.env := by rfl) (hpl : (backTo pos (starEach es X.env)).any (·.1) = false := by rfl) :
    PE (X.suite a ((a, oe) :: pn)) (.Call (.Name x q) (e :: es) [] pos) (tCallE U a sp t) := by
  refine ⟨fun pins s σ H Q I h => ?_⟩
  refine wpAny_Call_Name_kw (ld_glob (X := X.suite a ((a, oe) :: pn)) I hg hm ?_ hdb)
  refine PySem.W.callWith_K (h₀ := X.base) I.ok.mod.kin hk (thn (ha.run pos pins s σ H _ I h) fun us s1 ⟨vs, H1, I1, r, q⟩ => ⟨I1.kIn, ?_⟩) he hpl
  have hl := len _ _ _ _ _ _ q
  have hul : us.length = ps.length := by rw [← r.length]; exact hl
  have b := hb s1 us I1.kIn (by rw [List.append_nil]; exact hul)
  rw [List.append_nil] at b
  have hmem : (a, oe) ∈ ((a, oe) :: pn) ++ pins := List.mem_append_left _ List.mem_cons_self
  have P1 := I1.pin (a, oe) hmem
  have hpin : L2H.PinOk X.stack H1 s1 (a, oe) := ⟨P1.1, P1.2.1, fun hm => (List.mem_cons.mp (I1.stkSub a hm)).elim P1.2.2.1 P1.2.2.2.1, P1.2.2.2.2⟩
  obtain ⟨fv, hfv⟩ := hf
  have hot : L2H.Hot1 (X.suite a ((a, oe) :: pn)).A (a, oe) := ⟨rfl, fv, hfv, hz.2.2 fv hfv⟩
  refine wpAny_call (codeAny_mono (F U _ X.stack s1 H1 ⟨us, []⟩ us vs Q (a, oe) ⟨hr.dp, hr.un⟩ hot hpin hz I1.env0 b r hl q) fun r s' hq => ?_)
  cases r with
  | error e => exact hq.elim
  | ok fl =>
    cases fl with
    | ret u => exact I1.after hq
    | next => exact False.elim hq
    | brk => exact False.elim hq
    | cont => exact False.elim hq
def OkE (P : Program) (w : World) (K : PySem.W.Frag) (mg : Str → Option Value) (base : Heap) (k : Nat) (x : Str) (ps : List Str) (sp : Addr → Addr → Sp) : Prop := ∃ f fd, mg x = some (.ref f) ∧ PySem.W.keepIn K (.ref f) = true ∧ Binds K fd ps [] ∧ FnE P w K mg base k f fd ps sp
theorem okE {P : Program} {w : World} {K : PySem.W.Frag} {mg : Str → Option Value} {base : Heap} {k : Nat} {x : Str} {st : Stmt} {ps : List Str} {sp : Addr → Addr → Sp} (h : FnAt K mg x st ps) (g : ∀ f fd, Fun K x x st f fd → FnE P w K mg base k f fd ps sp) : OkE P w K mg base k x ps sp := by
  obtain ⟨f, fd, h1, h2, h3⟩ := h
  exact ⟨f, fd, h1, h2.kp, h3, g f fd h2⟩
theorem pe_callED {X : Cx} {k : Nat} {U a : Addr} {ps : List Str} {sp : Addr → Addr → Sp} {x : Str} {q pos : Pos} {e : Expr} {es : List Expr} {t : TA} {oe : Obj} {pn : List (Addr × Obj)}
    (G : OkE X.prog X.w X.K X.mg X.base k x ps sp) (len : ∀ U a vs H Q E, sp U a vs H Q E → vs.length = ps.length) (hr : L2H.RoomH k X.A) (hg : Gl X x) (hz : L2N.Zn (.ref U) none oe) (hf : ∃ vs, oe.data = .fields vs)
    (ha : PA (X.suite a ((a, oe) :: pn)) (e :: es) t) (hdb : (x == ("__debug__" : Str)) = false := by decide) (he : starEach (e :: es) X.env = (false, eval e X.env) :: starEach es X.env := by rfl) (hpl : (backTo pos (starEach es X.env)).any (·.1) = false := by rfl) :
    PE (X.suite a ((a, oe) :: pn)) (.Call (.Name x q) (e :: es) [] pos) (tCallE U a sp t) := by
  obtain ⟨f, fd, h1, h2, h3, h4⟩ := G
  exact pe_callE h4 len hr hg h1 h2 h3 hz hf ha hdb he hpl
theorem pss_exU {X : Cx} {b : List Stmt} {cls : Value} {d : Option Addr} {t : Addr → TS} (h : ∀ U, cls = .ref U → d = none → PSs X b (t U)) : PSs X b (fun D σ H => ∃ U, (cls = .ref U ∧ d = none) ∧ t U D σ H) :=
  ⟨fun pins s σ H D I ⟨U, ⟨h1, h2⟩, q⟩ => (h U h1 h2).run pins s σ H D I q⟩
section
variable {K : PySem.W.Frag} {E : XK} {sl : List Sl} {P : En} {U a : Addr} {d : D} {ds : List D} {tr : TA}
theorem w_exU {t : Addr → TS} (h : W K E (t U) sl P) : W K E (fun D σ H => ∃ V, (Value.ref U = .ref V ∧ (none : Option Addr) = none) ∧ t V D σ H) sl P := fun B0 H0 B H σ D sd m => ⟨U, ⟨rfl, rfl⟩, h B0 H0 B H σ D sd m⟩
theorem ev_callE {f : Addr → Addr → List D → Rs → Prop} (ha : EvA K tr sl ds) (hf : f U a ds (.dat d)) : EvR K E (tCallE U a (fun U a => SpR K (f U a)) tr) sl (.dat d) := fun B0 H0 B H σ sd Q q =>
  ev_call (E := E) (E' := fun _ _ _ => False) ha hf B0 H0 B H σ sd Q q |> fun z => by
    simp only [tCall, List.append_nil] at z
    exact z
theorem ev_opX {r : R2} {C : Addr} {ta tb : TE} (h : EvR K E ta sl (.exc C)) : EvR K E (tOp r ta tb) sl (.exc C) := fun B0 H0 B H σ sd Q q => h B0 H0 B H σ sd _ q
end
/-- for x in xs: each of them is served alike -/
theorem w_forAll {K : PySem.W.Frag} {E : XK} {sl : List Sl} {P : En} {xs : List D} {ti : TI} {j : Nat} {tb : TS} (S : List Sl) (hi : ItE K ti sl xs) (h0 : Fgt sl S)
    (hs : ∀ d, d ∈ xs → W K E tb (S.set j (.fz d)) { nx := fun s => Fgt s S, ct := fun s => Fgt s S, bk := P.nx, rt := P.rt }) (hd : ∀ s, Fgt s S → P.nx s) : W K E (tFor ti (gName j) tb) sl P :=
  w_for (fun _ s => Fgt s S) hi h0 (fun i d s h1 h2 => gw_name (w_fgt (fgt_set h2) (hs d (List.mem_of_getElem? h1)))) fun s h => hd s h
/-! ### a try with any body; the suite looks at the error alone -/
def wAll (n : Nat) (K : PySem.W.Frag) (c : Value) (i : Nat) (ts : Addr → Value → Option Addr → TS) (Wout : WX) (D : Ends) : XK := fun cls d H => ∀ σ : L2.St, σ.length = n → wAs K c i ts Wout D cls d σ H
/-- try: tb except c as (slot i): ts -/
def tTryE (n : Nat) (K : PySem.W.Frag) (c : Value) (i : Nat) (ts : Addr → Value → Option Addr → TS) (Wout : WX) (tb : XK → TS) : TS := fun D σ H => tb (wAll n K c i ts Wout D) D σ H
theorem ps_tryE {X : Cx} {x n : Str} {c : Value} {i : Nat} {body suite : List Stmt} {b₀ : Stmt} {np pos pos' : Pos} {tb : XK → TS} {ts : Addr → Value → Option Addr → TS} {Wout : WX}
    (hs : X.stack = X.env :: X.outer) (hf : X.env.frame = some X.env.locals) (hN : X.N.Nodup) (hi : X.N[i]? = some n) (hln : X.env.kindOf n = some .local) (hc : Names X x c) (tk : L2N.Takes X Wout)
    (hb : ∀ (E : XK) (pn : List (Addr × Obj)) (xe : Value → Shared → Prop), Passes (L2N.CX X.prog X.w) (X.tr pn xe) E → PassesOwn (model X.prog X.w) X.A X.env xe → PSs (X.tr pn xe) body (tb E))
    (hsu : ∀ (a : Addr) (oe : Obj) (cls : Value) (d : Option Addr) (pn : List (Addr × Obj)), L2N.Zn cls d oe → (∃ vs, oe.data = .fields vs) → PSs (X.suite a ((a, oe) :: pn)) (b₀ :: suite) (ts a cls d)) :
    PS X (.Try body [.ExceptHandler (some (.Name x np)) (some n) (b₀ :: suite) pos'] [] [] pos) (tTryE X.N.length X.K c i ts Wout tb) :=
  ⟨fun pins s σ H D I h => (L2N.ps_try_as (tb := fun W => tb (fun cls d H => ∀ σ : L2.St, σ.length = X.N.length → W cls d σ H)) hs hf hN hi hln hc tk (fun W pn xe t0 po => hb _ pn xe (fun pins σ H s e s' I c => t0 e s' (L2N.XE.of_call I (fun cls d H' q => q σ I.len) c)) po) hsu).run pins s σ H D I h⟩
section
variable {K : PySem.W.Frag} {E : XK} {sl : List Sl} {P : En} {c : Value} {i n : Nat} {tb : XK → TS} {ts : Addr → Value → Option Addr → TS} {Wout : WX} {C : Addr → Prop}
theorem sd_uns {B0 H0 B H : Hp} {σ : L2.St} (g : Gr B0 H0 B H) (h : σ.length = n) : SD K B0 H0 B H σ (List.replicate n .un) := by
  have no : ∀ (j : Nat) (x : Sl), (List.replicate n Sl.un)[j]? = some x → x = .un := fun j x e => List.eq_of_mem_replicate (List.mem_of_getElem? e)
  refine ⟨g, by simpa using h, fun j d e => ?_, fun j xs e => ?_, fun j p0 C ns ds e => ?_, fun j k xs ys p e1 e2 e3 e4 => ?_, fun j N d e => ?_⟩
  · cases no _ _ e
  · cases no _ _ e
  · cases no _ _ e
  · cases no _ _ e1
  · cases no _ _ e
theorem w_tryE (hb : ∀ E', W K E' (tb E') sl { P with rt := fun r => (∃ U, r = .exc U ∧ C U) ∨ (P.rt r ∧ ∀ U, r ≠ .exc U) })
    (hs : ∀ U, C U → PySem.W.exmOne K (.ref U) c = some true ∧ ∀ a, W K E (ts a (.ref U) none) ((List.replicate n Sl.un).set i (.fz (.fn a))) (gone P i)) :
    W K E (tTryE n K c i ts Wout tb) sl P := fun B0 H0 B H σ D sd m => by
  refine hb _ B0 H0 B H σ D sd ⟨m.nx, m.bk, m.ct, fun r B1 H1 g1 k => ?_⟩
  rcases k with ⟨U, rfl, hU⟩ | ⟨k, hne⟩
  · obtain ⟨hx, hw⟩ := hs U hU
    show ∀ B' H', Gr B1 H1 B' H' → _
    intro B2 H2 g2 σ' hl
    refine ⟨true, hx, fun _ a ha => ?_, fun z => Bool.noConfusion z⟩
    exact hw a B0 H0 B2 H2 _ _ ((sd_uns (g1.trans g2) hl).setFz (d := .fn a) (by simp only [Den])) ⟨fun B H σ sl s q => m.nx B H _ _ s.setUn q, fun B H σ sl s q => m.bk B H _ _ s.setUn q, fun B H σ sl s q => m.ct B H _ _ s.setUn q, m.rt⟩
  · have q := m.rt r B1 H1 g1 k
    cases r with
    | exc U => exact absurd rfl (hne U)
    | dat d => exact q
    | new xs => exact q
    | frs d => exact q
end
/-! ### flat items, {} -/
section
variable {K : PySem.W.Frag} {E : XK} {sl : List Sl} {ta te : TE}
theorem flat_bls (bs : List Bool) : (bs.map V.bl).all flatV = true := by
  rw [List.all_map, List.all_eq_true]
  intro b _
  rfl
theorem ev_countB {bs : List Bool} (ho : EvR K E ta sl (.dat (blL bs))) (ha : EvR K E0 te sl (.dat (.bl true))) : EvR K E (tBM K "list" (rCntF K) ta (tCons te tNil)) sl (.dat (nat (bs.countP id))) :=
  ev_bm ho (ea_cons ha ea_nil) (fun B H v vs e d dd E Q q => ⟨ty_lst e d, by
    obtain ⟨a, us, rfl, h1, h2⟩ := den_lst d
    obtain ⟨w, rfl, h3⟩ := denL_one dd
    rw [den_bl h3]
    rw [denL_bls h2] at h1
    refine ⟨a, bs.map V.bl, .bl true, rfl, rfl, SqL.of (e a _ h1), rfl, flat_bls bs, ?_⟩
    have ec : (bs.map V.bl).countP (fun z => eqV z (.bl true)) = bs.countP id := by
      rw [List.countP_map]
      refine List.countP_congr fun b _ => ?_
      cases b <;> simp [eqV]
    rw [ec]
    exact post_v e q (mk_int _)⟩) fun B H v e d => ty_lst e d
theorem ev_indexB {bs : List Bool} {j : Nat} (ho : EvR K E ta sl (.dat (blL bs))) (ha : EvR K E0 te sl (.dat (.bl true))) (hj : bs[j]? = some true) (hn : ∀ m, m < j → bs[m]? ≠ some true) : EvR K E (tBM K "list" (rIndex K) ta (tCons te tNil)) sl (.dat (nat j)) :=
  ev_bm ho (ea_cons ha ea_nil) (fun B H v vs e d dd E Q q => ⟨ty_lst e d, by
    obtain ⟨a, us, rfl, h1, h2⟩ := den_lst d
    obtain ⟨w, rfl, h3⟩ := denL_one dd
    rw [den_bl h3]
    rw [denL_bls h2] at h1
    refine ⟨a, bs.map V.bl, .bl true, j, .bl true, rfl, rfl, SqL.of (e a _ h1), rfl, flat_bls bs, by rw [List.getElem?_map, hj]; rfl, rfl, fun m z hm hz => ?_, post_v e q (mk_int _)⟩
    rw [List.getElem?_map] at hz
    cases w : bs[m]? with
    | none => rw [w] at hz; cases hz
    | some b =>
      rw [w] at hz
      cases hz
      cases b with
      | false => rfl
      | true => exact absurd w (hn m hm)⟩) fun B H v e d => ty_lst e d
theorem ev_emp : EvR K E tDNewK sl (.frs .emp) := fun B0 H0 B H σ sd Q q p hp => by
  obtain ⟨g, e, n, _⟩ := frs_new (v := .ref p) (N := fun _ => none) (Q := fun _ _ => True) (o := .dK []) (Gr.refl sd.sub) (fun _ _ z => nomatch z) (fun _ _ z => nomatch z) hp
  refine q (.ref p) _ _ _ g e n ?_
  simp only [Den]
  exact ⟨p, rfl, upd_same⟩
theorem denL_rep {B : Hp} {xs : List D} {us : List V} (h : DenL K B xs us) : ∀ k : Nat, DenL K B (List.replicate k xs).flatten (List.replicate k us).flatten
  | 0 => denL_nil
  | k + 1 => by
    rw [List.replicate_succ, List.replicate_succ, List.flatten_cons, List.flatten_cons]
    exact denL_app h (denL_rep h k)
/-- xs * k -/
theorem od_rep {xs : List D} {k : Int} (h0 : -1000 ≤ k) (h1 : k ≤ 1000) (hl : xs.length ≤ 1000) : OpD K rRep (.lst xs) (.int k) (.new (List.replicate k.toNat xs).flatten) := fun B H vx vy e dx dy E Q q => by
  obtain ⟨a, us, rfl, g1, g2⟩ := den_lst dx
  rw [den_int dy]
  have hu := denL_len g2
  refine ⟨a, k, us, rfl, rfl, e a _ g1, by omega, by omega, ?_, fun p hp => q p _ _ _ (Gr.lay e hp) hp (fresh_back e hp) upd_same (denL_rep g2 _)⟩
  rw [← hu, sizeLine_eq]
  calc xs.length * k.toNat ≤ 1000 * 1000 := Nat.mul_le_mul hl (by omega)
    _ ≤ _ := by decide
theorem kit_dl : kitB "dict" "list" = some false := by decide +kernel
end
end Wv
/-! sorted(set(text)): the steps of the sets of ints, turned to texts -/
namespace L2
open PySem PySem.Spec PyProof.Rows
def keyT (e : Int × Value) : Str := match e.2 with | .str k _ => k | _ => Str.empty
def GoodT (w : World) (e : Int × Value) : Prop := ∃ k tk, e.2 = Value.str k tk ∧ e.1 = hashStr w k
/-- the set of texts at a -/
def SetTX (w : World) (h : Heap) (a : Addr) (S : Str → Bool) (n : Nat) : Prop :=
  ∃ o es ep t, h.get? a = some o ∧ o.ExactSet ∧ o.data = .set es ep t ∧ (∀ e ∈ es.toList, GoodT w e) ∧ (es.toList.map keyT).Nodup ∧ (∀ k, S k = true ↔ k ∈ es.toList.map keyT) ∧
    es.size < scanBound ∧ t.fits es.size = true ∧ es.size = n ∧ Ris t.place.toList ∧ (w.params.followText "set-order" = true ∨ t.led = true)
section
variable {P : Program} {w : World} {h h' : Heap} {a : Addr} {S : Str → Bool} {n : Nat}
theorem SetTX.at (R : SetTX w h a S n) (k : ∀ o, h.get? a = some o → h'.get? a = some o) : SetTX w h' a S n := by
  obtain ⟨o, es, ep, t, ho, r⟩ := R
  exact ⟨o, es, ep, t, k o ho, r⟩
theorem SetTX.congr {S' : Str → Bool} (R : SetTX w h a S n) (e : ∀ k, S' k = S k) : SetTX w h a S' n := by
  have q : S' = S := funext e
  rw [q]; exact R
theorem goodT_elems {l : List (Int × Value)} (g : ∀ e ∈ l, GoodT w e) : ElemsOf (strKind P w) l := fun e he => by
  obtain ⟨k, tk, h1, h2⟩ := g e he
  exact ⟨⟨k, by rw [h1]; exact strKind_is P w k tk, h2⟩, by rw [h1] <;> rfl⟩
theorem goodT_is {e : Int × Value} (g : GoodT w e) (k : Str) : (strKind P w).is k e.2 = true ↔ keyT e = k := by
  obtain ⟨k0, tk, h1, _⟩ := g
  unfold keyT
  rw [h1]
  show (Value.isStrOf k (Value.str k0 tk) = true) ↔ k0 = k
  simp [Value.isStrOf]
theorem goodT_mem {l : List (Int × Value)} (g : ∀ e ∈ l, GoodT w e) (k : Str) : k ∈ l.map keyT ↔ ∃ e ∈ l, (strKind P w).is k e.2 = true := by
  rw [List.mem_map]
  constructor
  · rintro ⟨e, he, q⟩
    exact ⟨e, he, (goodT_is (g e he) k).2 q⟩
  · rintro ⟨e, he, q⟩
    exact ⟨e, he, (goodT_is (g e he) k).1 q⟩
end
section
variable {P : Program} {w : World} {A : Around} {E : Value → Shared → Prop} {s : Shared} {a : Addr} {S : Str → Bool} {n : Nat}
theorem setT_add_tail {g : Bool → Sem Unit} (hg : ∀ (b : Bool) (s₁ : Shared) (Q' : Unit → Shared → Prop), Q' () s₁ → wpAny (model P w) A (g b) Q' E s₁)
    {o : Obj} {es : Array (Int × Value)} {ep : Nat} {t : SetTable} (ho : s.heap.get? a = some o) (hex : o.ExactSet) (hd : o.data = .set es ep t)
    {es1 : Array (Int × Value)} {t2 : SetTable} {S' : Str → Bool} (g1 : ∀ e ∈ es1.toList, GoodT w e) (nd1 : (es1.toList.map keyT).Nodup) (m1 : ∀ k, S' k = true ↔ k ∈ es1.toList.map keyT)
    (hb1 : es1.size < scanBound) (hf2 : t2.fits es1.size = true) (hr : Ris t2.place.toList) (hl : w.params.followText "set-order" = true ∨ t2.led = true) {wasDummy : Bool} {R : Option Bool → Shared → Prop}
    (hR : ∀ h', Heap.SameBut a s.heap h' → SetTX w h' a S' es1.size → R (some true) { s with heap := h' }) :
    wpAny (model P w) A (do
        storeSet a es1 t2
        if (!wasDummy && t2.tooFull) = true then do
            g (relayAll t2 es1 (SetTable.grown es1.size)).2.2
            storeSet a (relayAll t2 es1 (SetTable.grown es1.size)).1 (relayAll t2 es1 (SetTable.grown es1.size)).2.1
            pure (some true)
          else pure (some true)) R E s := by
  refine wpAny_bind (wpAny_storeSet_of ho hd ?_ (fits_of_scanBound hb1))
  have ho1 := store_at (es' := es1) (t' := t2) ho hd
  have sb1 := Heap.SameBut.update s.heap a (Obj.putSet es1 t2)
  split
  · have pm := relayAll_perm t2 es1 (SetTable.grown es1.size)
    have hf3 := relayAll_fits t2 es1 (SetTable.grown es1.size)
    have hr3 := relayAll_ris t2 es1 (SetTable.grown es1.size)
    have hl3 := relayAll_led t2 es1 (SetTable.grown es1.size)
    generalize relayAll t2 es1 (SetTable.grown es1.size) = Z at pm hf3 hr3 hl3 ⊢
    obtain ⟨es2, t3, gave⟩ := Z
    dsimp only at pm hf3 hr3 hl3 ⊢
    have hsz : es2.size = es1.size := by rw [← Array.length_toList, pm.length_eq, Array.length_toList]
    have hb2 : es2.size < scanBound := by rw [hsz]; exact hb1
    refine wpAny_bind (hg _ _ _ ?_)
    refine wpAny_bind (wpAny_storeSet_of ho1 rfl ?_ (fits_of_scanBound hb2))
    have ho2 := store_at (es' := es2) (t' := t3) ho1 rfl
    refine wpAny_pure (hR _ (sb1.trans (Heap.SameBut.update _ a _)) ?_)
    exact ⟨_, es2, _, t3, ho2, hex, rfl, fun e he => g1 e (pm.mem_iff.mp he), (pm.map keyT).nodup_iff.mpr nd1, fun k => (m1 k).trans (pm.map keyT).mem_iff.symm, hb2, hf3, hsz, hr3,
      hl.imp id fun z => by rw [hl3]; exact z⟩
  · exact wpAny_pure (hR _ sb1 ⟨_, es1, _, t2, ho1, hex, rfl, g1, nd1, m1, hb1, hf2, rfl, hr, hl⟩)
theorem setT_add_hashed {k : Str} {tk : Tok} {Q : Bool → Shared → Prop} (R : SetTX w s.heap a S n) (room : n + 1 < scanBound)
    (hQ : ∀ h', Heap.SameBut a s.heap h' → SetTX w h' a (fun j => S j || decide (j = k)) (if S k = true then n else n + 1) → Q (!S k) { s with heap := h' }) :
    wpAny (model P w) A (setAddHashed a (.str k tk) ((strKind P w).hash k)) Q E s := by
  obtain ⟨o, es, ep, t, ho, hex, hd, g, nd, hm, hb, hf, hn, hr, hl⟩ := R
  have hkey : (strKind P w).is k (.str k tk) = true := strKind_is P w k tk
  have hsc : (Value.str k tk).scannable = true := rfl
  have hel : ElemsOf (strKind P w) es.toList := goodT_elems g
  unfold setAddHashed setAddHashedIn
  refine wpAny_holding (wpAny_bind (wpAny_setState_of ho hd hf ?_))
  dsimp only
  rw [byScan_of hsc hb hel]
  simp only [↓reduceIte]
  unfold setAddByScan
  refine wpAny_bind ?_
  refine wpAny_bind (wpAny_rule ?_)
  refine wpAny_bind (wpAny_setScan_of hkey ho hd hf hel ?_)
  cases hfi : List.findIdx? (fun e => (strKind P w).is k e.2) es.toList with
  | some j =>
    dsimp only
    obtain ⟨hj, pj, _⟩ := List.findIdx?_eq_some_iff_getElem.mp hfi
    have hSk : S k = true := (hm k).2 ((goodT_mem (P := P) (w := w) g k).2 ⟨es.toList[j], List.getElem_mem hj, pj⟩)
    refine wpAny_pure (wpAny_pure ?_)
    have q := hQ s.heap (Heap.SameBut.refl a s.heap) ⟨o, es, ep, t, ho, hex, hd, g, nd, fun i => by
      rw [Bool.or_eq_true, decide_eq_true_eq, ← hm i]
      exact ⟨fun z => z.elim id (fun e => e ▸ hSk), .inl⟩, hb, hf, by rw [if_pos hSk]; exact hn, hr, hl⟩
    rw [hSk] at q
    exact q
  | none =>
    dsimp only
    have hnk : k ∉ es.toList.map keyT := fun z => by
      obtain ⟨e, he, q⟩ := (goodT_mem (P := P) (w := w) g k).1 z
      have c := List.findIdx?_eq_none_iff.mp hfi e he
      rw [q] at c
      cases c
    have hSk : S k = false := by
      cases q : S k with
      | false => rfl
      | true => exact absurd ((hm k).1 q) hnk
    have hgw : ∀ (b : Bool) {s₁ : Shared} {Q' : Unit → Shared → Prop}, Q' () s₁ → wpAny (model P w) A (match b with | true => rule "set.scan.the-table-gave-way" | false => pure ()) Q' E s₁ :=
      fun b s₁ Q' q => by cases b <;> first | exact wpAny_pure q | exact wpAny_rule q
    have pm := layNew_perm t es ((strKind P w).hash k) (.str k tk)
    have hf1 := layNew_fits t es ((strKind P w).hash k) (.str k tk)
    have hr1 := layNew_ris t es ((strKind P w).hash k) (.str k tk) hr
    have hl1 := layNew_led t es ((strKind P w).hash k) (.str k tk)
    generalize layNew t es ((strKind P w).hash k) (.str k tk) = Z at pm hf1 hr1 hl1 ⊢
    obtain ⟨es1, t1, wasDummy, gave⟩ := Z
    dsimp only at pm hf1 hr1 hl1 ⊢
    rw [Array.toList_push] at pm
    have pc : es1.toList.Perm (((strKind P w).hash k, Value.str k tk) :: es.toList) := pm.trans (List.perm_append_singleton _ _)
    have pk : (es1.toList.map keyT).Perm (k :: es.toList.map keyT) := pc.map keyT
    have g1 : ∀ e ∈ es1.toList, GoodT w e := fun e he => by
      rcases List.mem_cons.mp (pc.mem_iff.mp he) with z | z
      · rw [z]; exact ⟨k, tk, rfl, rfl⟩
      · exact g e z
    have nd1 : (es1.toList.map keyT).Nodup := pk.nodup_iff.mpr (List.nodup_cons.mpr ⟨hnk, nd⟩)
    have m1 : ∀ i, (S i || decide (i = k)) = true ↔ i ∈ es1.toList.map keyT := fun i => by
      rw [Bool.or_eq_true, decide_eq_true_eq, hm i, pk.mem_iff, List.mem_cons]
      exact Or.comm
    have hsz : es1.size = n + 1 := by rw [← Array.length_toList, pc.length_eq, List.length_cons, Array.length_toList, hn]
    have hb1 : es1.size < scanBound := by rw [hsz]; exact room
    have hled : w.params.followText "set-order" = true ∨ t1.led = true := hl.imp id fun z => by rw [hl1]; exact z
    have fin : ∀ h', Heap.SameBut a s.heap h' → SetTX w h' a (fun j => S j || decide (j = k)) es1.size → Q true { s with heap := h' } := fun h' sb r => by
      have q := hQ h' sb
      rw [hSk] at q
      rw [hsz] at r
      exact q r
    refine wpAny_bind (hgw _ ?_)
    split
    · refine wpAny_bind ?_
      rw [hashByValue_scannable 8 hsc]
      refine wpAny_pure ?_
      refine setT_add_tail ?_ ho hex hd g1 nd1 m1 hb1 ?_ ?_ ?_ ?_
      · intro b s₁ Q' q; cases b <;> first | exact wpAny_pure q | exact wpAny_rule q
      · first | (split <;> first | exact hf1 | exact SetTable.fits_plain_off hf1) | exact hf1
      · first | (split <;> exact hr1) | exact hr1
      · first | (split <;> exact hled) | exact hled
      · intro h' sb r; dsimp only; exact wpAny_pure (fin h' sb r)
    · refine wpAny_bind (wpAny_pure ?_)
      simp only [↓reduceIte]
      refine setT_add_tail ?_ ho hex hd g1 nd1 m1 hb1 hf1 hr1 hled ?_
      · intro b s₁ Q' q; cases b <;> first | exact wpAny_pure q | exact wpAny_rule q
      · intro h' sb r; dsimp only; exact wpAny_pure (fin h' sb r)
theorem setT_new_at {w : World} {h : Heap} {a : Addr} {ns : List Str} (ho : h.get? a = some { cls := .type "set", dict := none, data := .set #[] 0 (.fresh 0 0 (!w.params.followText "set-order")) }) : SetTX w h a (fun j => decide (j ∈ ns.take 0)) 0 :=
  ⟨_, #[], 0, _, ho, ⟨rfl, rfl, rfl⟩, rfl, (fun e he => by simp at he), (by simp), (fun k => by simp), (by decide), (by rfl), rfl, List.Pairwise.nil, by
    show _ ∨ (!w.params.followText "set-order") = true
    cases w.params.followText "set-order"
    · exact .inr rfl
    · exact .inl rfl⟩
end
section
variable {P : Program} {w : World} {A : Around} {E : Value → Shared → Prop} {s : Shared}
theorem nodup_le : ∀ (l F : List Str), l.Nodup → (∀ k ∈ l, k ∈ F) → l.length ≤ F.length
  | [], _, _, _ => Nat.zero_le _
  | a :: l, F, hn, hs => by
    obtain ⟨h1, h2⟩ := List.nodup_cons.mp hn
    have ha := hs a List.mem_cons_self
    have ih := nodup_le l (F.erase a) h2 fun k hk => (List.mem_erase_of_ne (fun e => h1 (by rw [← e]; exact hk))).mpr (hs k (List.mem_cons_of_mem _ hk))
    rw [List.length_erase_of_mem ha] at ih
    have : 0 < F.length := List.length_pos_of_mem ha
    rw [List.length_cons]
    omega
theorem setTX_le {w : World} {h : Heap} {a : Addr} {S : Str → Bool} {n : Nat} {F : List Str} (R : SetTX w h a S n) (hF : ∀ k, S k = true → k ∈ F) : n ≤ F.length := by
  obtain ⟨o, es, ep, t, ho, hex, hd, g, nd, hm, hb, hf, hn, hr, hl⟩ := R
  have q := nodup_le (es.toList.map keyT) F nd fun k hk => hF k ((hm k).mpr hk)
  rw [List.length_map, Array.length_toList, hn] at q
  exact q
theorem set_update_txt {I : Addr} {fp wr : List Addr} {G : Array GenState → Array GenState → Prop} {n : Nat} {Pv : Nat → Value → Prop} {St : Nat → Shared → Prop} {R : Result → Shared → Prop}
    (W : WalksS P w A.in1 I fp wr G n Pv St) (S : Addr) (hSf : S ∉ fp) (ns : List Str) (hn : n = ns.length) (Fs : List Str) (hFs : ∀ k ∈ ns, k ∈ Fs) (hb : Fs.length + 1 < scanBound) (hval : ∀ i v, Pv i v → ∃ k t, ns[i]? = some k ∧ v = .str k t) :
    ∀ (k i : Nat) (s : Shared), n - i = k → i ≤ n → St i s → (∃ c, c ≤ i ∧ SetTX w s.heap S (fun j => decide (j ∈ ns.take i)) c) →
      (∀ s' c, Moved (S :: wr) G s s' → c ≤ n → SetTX w s'.heap S (fun j => decide (j ∈ ns)) c → R (.ok (.ret .none)) s') →
      codeAny (model P w) A (.builtin "set.update.loop" ⟨[.ref S, .ref I], []⟩) R s := by
  have hSw : S ∉ wr := fun h => hSf (W.sub _ h)
  have hsub : ∀ b ∈ wr, b ∈ S :: wr := fun b hb => List.mem_cons_of_mem _ hb
  intro k
  induction k with
  | zero =>
    intro i s hk' hi hst ⟨c, hc, hS⟩ hR
    have hin : i = n := by omega
    subst hin
    refine codeAny_builtin F.entry_set_update_loop ?_
    rw [Around.under_plainId F.plain_set_update_loop _]
    show wpAny _ A.in1 (pyNext (.ref I) >>= _) _ _ s
    refine wpAny_bind (W.done s _ _ hst fun s' hm => ?_)
    show wpAny _ A.in1 (ret Value.none) _ _ s'
    have e : ns.take i = ns := List.take_of_length_le (by omega)
    rw [e] at hS
    exact wpAny_pure (hR s' c (hm.mono hsub) hc (hS.at fun o e => hm.heap S o hSw e))
  | succ k ih =>
    intro i s hk' hi hst ⟨c, hc, hS⟩ hR
    have hlt : i < n := by omega
    refine codeAny_builtin F.entry_set_update_loop ?_
    rw [Around.under_plainId F.plain_set_update_loop _]
    show wpAny _ A.in1 (pyNext (.ref I) >>= _) _ _ s
    refine wpAny_bind (W.item i s _ _ hlt hst fun v s' hP hst' hm => ?_)
    obtain ⟨z, t, hz, rfl⟩ := hval i v hP
    have hS' : SetTX w s'.heap S (fun j => decide (j ∈ ns.take i)) c := hS.at fun o e => hm.heap S o hSw e
    show wpAny _ A.in1 (holding [Value.str z t] (setAdd S (.str z t)) >>= _) _ _ s'
    refine wpAny_bind (wpAny_holding ?_)
    unfold setAdd
    refine wpAny_holding ?_
    refine wpAny_bind ((strKind P w).pyHash (k := z) (strKind_is _ _ _ _) ?_)
    have hcF : c ≤ Fs.length := setTX_le hS' fun j hj => hFs j (List.mem_of_mem_take (of_decide_eq_true hj))
    refine setT_add_hashed (s := { s' with toks := s'.toks + 1 }) hS' (by omega) fun h' hsb hS2 => ?_
    have hS3 : SetTX w h' S (fun j => decide (j ∈ ns.take (i + 1))) (if decide (z ∈ ns.take i) = true then c else c + 1) := hS2.congr fun j => by
      rw [List.take_add_one, hz]
      simp [List.mem_append]
    have hc3 : (if decide (z ∈ ns.take i) = true then c else c + 1) ≤ i + 1 := by
      split <;> omega
    refine wpAny_pure ⟨plainId_quiet F.plain_set_update_loop _, ih (i + 1) _ (by omega) hlt (W.frame _ s' _ _ hst' (Nat.le_succ _) fun b hb o e => ?_) ⟨_, hc3, hS3⟩ fun s'' c2 hm'' hc'' hS'' => ?_⟩
    · rw [hsb.2 b (fun h : b = S => hSf (by rw [← h]; exact hb))]; exact e
    · refine hR s'' c2 (Moved.trans W.gtrans ((hm.mono hsub).then_heap (Nat.le_succ _) fun b o hb e => ?_) hm'') hc'' hS''
      rw [hsb.2 b (fun h : b = S => hb (by rw [h]; exact List.mem_cons_self))]; exact e
/-- the signs of a text, each a text -/
def signsT (x : Str) : List Str := x.cps.toList.map fun c => (⟨#[c]⟩ : Str)
set_option maxHeartbeats 6400000 in
theorem call_set_txt {x : Str} {u : Tok} {Q : Value → Shared → Prop} (hh : A.handled = none) (Fs : List Str) (hFs : ∀ k ∈ signsT x, k ∈ Fs) (hb : Fs.length + 1 < scanBound)
    (h : ∀ (h' : Heap) (tk c : Nat), SetTX w h' s.heap.objs.size (fun j => decide (j ∈ signsT x)) c → c ≤ (signsT x).length → (∀ b o, s.heap.get? b = some o → h'.get? b = some o) → Q (.ref s.heap.objs.size) { s with heap := h', toks := tk }) :
    wpAny (model P w) A (call (.type "set") [.str x u]) Q E s := by
  have hisz : x.cps.size = (signsT x).length := by simp [signsT]
  obtain ⟨c, tl, hmro⟩ := F.called_set.mro
  have hmade := F.called_set.made
  have hsub := F.called_set.sub
  refine wpAny_call (codeAny_of_tree ?_)
  show wpAny _ _ (callAny (.type "set") _) _ _ _
  refine wpAny_pure ⟨Code.quiet_builtin _ (by decide +kernel), codeAny_builtin F.entry_type_call ?_⟩
  rw [Around.under_plain (weight_type_call_type "set" [.str x u] []) rfl]
  have h1 := F.called_set.notType
  have h2 := F.called_set.canCreate
  have hct := F.typeCall_set_1 (.str x u)
  repeat (any_goals (first | assumption | wp_step))

  refine codeAny_mono (code_set_led1 (.str x u) (E := E) (Q₁ := fun obj s₁ => obj = .ref s.heap.objs.size ∧ s₁ = { s with heap := s.heap.push { cls := .type "set", dict := none, data := .set #[] 0 (.fresh 0 0 (!w.params.followText "set-order")) } }) ⟨rfl, rfl⟩) fun r s₁ hr => ?_
  cases r with
  | error e => exact hr
  | ok fl =>
    cases fl with
    | ret obj =>
      obtain ⟨rfl, rfl⟩ := hr
      have hS : (s.heap.push { cls := .type "set", dict := none, data := .set #[] 0 (.fresh 0 0 (!w.params.followText "set-order")) }).get? s.heap.objs.size = some { cls := .type "set", dict := none, data := .set #[] 0 (.fresh 0 0 (!w.params.followText "set-order")) } := Heap.get?_push_size _ rfl
      have hT : Shared.TypeIs { s with heap := s.heap.push { cls := .type "set", dict := none, data := .set #[] 0 (.fresh 0 0 (!w.params.followText "set-order")) } } (.ref s.heap.objs.size) "set" := ⟨_, hS, rfl⟩
      have hli := F.called_set.init.lookup
      have hbi := F.called_set.init.bind (.ref s.heap.objs.size)
      repeat (any_goals (first | assumption | wp_step))

      refine codeAny_mono (codeAny_call_builtin (R := wants (fun r s₂ => r = .none ∧ ∃ h' tk c, s₂ = { s with heap := h', toks := tk } ∧ SetTX w h' s.heap.objs.size (fun j => decide (j ∈ signsT x)) c ∧ c ≤ (signsT x).length ∧
          (∀ b o, s.heap.get? b = some o → h'.get? b = some o)) E) F.called_set.init.plain F.entry_set_init (check_set_init_1 hT ?_)) fun r₂ s₂ hr₂ => ?_
      · have hsls := F.sub_str_set
        have hslf := F.sub_str_frozenset
        have hne : (Value.type "str" == Value.type "dict") = false := by decide
        have hTx : Shared.TypeIs { s with heap := (s.heap.push { cls := .type "set", dict := none, data := .set #[] 0 (.fresh 0 0 (!w.params.followText "set-order")) }) } (.str x u) "str" := typeIs_str _ _ _
        unfold Builtin.«set.__init__» noKeywords Builtin.Frozenset.updateFrom
        generalize hPI : pyIter = PI
        wp_walk
        subst hPI
        refine wpAny_pyIter_str fun oI St hW hst => ?_
        refine wpAny_bind (wpAny_runValue ?_)
        have hh3 : A.in1.in1.in1.handled = none := by simp [hh]
        have hSf : s.heap.objs.size ∉ [(s.heap.push { cls := .type "set", dict := none, data := .set #[] 0 (.fresh 0 0 (!w.params.followText "set-order")) }).objs.size] := by
          rw [Heap.size_push]; simp only [List.mem_singleton]
          exact Nat.ne_of_lt (Nat.lt_succ_self _)
        have hval : ∀ (i : Nat) (v : Value), SignAt x i v → ∃ k t, (signsT x)[i]? = some k ∧ v = .str k t := fun i v hv => by
          obtain ⟨c, t, hc, rfl⟩ := hv
          refine ⟨_, t, ?_, rfl⟩
          unfold signsT
          rw [List.getElem?_map, Array.getElem?_toList, hc]
          rfl
        refine set_update_txt ((hW _ hh3).toS) s.heap.objs.size
          hSf (signsT x) hisz Fs hFs hb hval (x.cps.size - 0) 0 _ (by omega) (Nat.zero_le _)
          hst ?hS0 ?hR
        case hS0 =>
          have hget : ((s.heap.push { cls := .type "set", dict := none, data := .set #[] 0 (.fresh 0 0 (!w.params.followText "set-order")) }).push oI).get? s.heap.objs.size
              = some { cls := .type "set", dict := none, data := .set #[] 0 (.fresh 0 0 (!w.params.followText "set-order")) } := Heap.get?_push_of_some _ hS
          exact ⟨0, Nat.le_refl 0, setT_new_at hget⟩
        case hR =>
          intro s' c' hm hc' hS'
          obtain ⟨h', g2, d', tk', os'⟩ := s'
          have eg : g2 = s.gens := hm.gens
          have ed : d' = s.drawn := hm.drawn
          have eo : os' = s.os := hm.os
          subst eg; subst ed; subst eo
          show wpAny _ _ _ _ _ _
          refine wpAny_pure ?_
          show wpAny _ _ (ret Value.none) _ _ _
          rw [hisz] at hc'
          refine wpAny_pure ⟨rfl, h', tk', c', rfl, hS', hc', fun b o e => ?_⟩
          have hb0 : b < s.heap.objs.size := Heap.lt_size e
          have hb1 : b ≠ s.heap.objs.size := Nat.ne_of_lt hb0
          have hb2 : b ≠ (s.heap.push { cls := .type "set", dict := none, data := .set #[] 0 (.fresh 0 0 (!w.params.followText "set-order")) }).objs.size := by
            rw [Heap.size_push]; exact Nat.ne_of_lt (Nat.lt_succ_of_lt hb0)
          exact hm.heap b o (by simp only [List.mem_cons, List.mem_singleton, List.not_mem_nil, or_false, not_or]; exact ⟨hb1, hb2⟩) (Heap.get?_push_of_some _ (Heap.get?_push_of_some _ e))

      · cases r₂ with
        | error e => exact hr₂
        | ok fl₂ =>
          cases fl₂ with
          | ret r =>
            obtain ⟨rfl, h', tk, c', rfl, hS', hc', hk'⟩ := hr₂
            repeat (any_goals (first | assumption | wp_step))
            exact h _ _ _ hS' hc' hk'
          | _ => exact hr₂.elim
    | _ => exact hr.elim
end
section
variable {P : Program} {w : World} {A : Around} {E : Value → Shared → Prop} {s : Shared} {a : Addr} {S : Str → Bool} {n : Nat}
theorem key_str (e : Int × Value) : (∃ k tk, e.2 = Value.str k tk) → keyT e = strOf e.2 := by
  rintro ⟨k, tk, h⟩
  unfold keyT
  rw [h]
  rfl
theorem sorted_setT {Q : Value → Shared → Prop} (R : SetTX w s.heap a S n) (hh : A.handled = none) (h64 : n < 64)
    (hQ : ∀ s' p (out : Array Value) (c : Nat) (ns : List Str), (∀ b o, s.heap.get? b = some o → s'.heap.get? b = some o) → s'.gens = s.gens → s'.os = s.os → s.heap.objs.size ≤ p →
      s'.heap.get? p = some (seqObj "list" out c) → StrsAre out.toList ns → sortedS ns = true → ns.Nodup → (∀ k, k ∈ ns ↔ S k = true) → ns.length = n → Q (.ref p) s') :
    wpAny (model P w) A (call (.builtin "sorted") [.ref a]) Q E s := by
  obtain ⟨o, es, ep, t, ho, hex, hd, g, nd, hm, hb, hf, hn, hr, hl⟩ := R
  refine Calls.call_function_entry kind_sorted plain_sorted entry_sorted (args_sorted1 _) ?_
  unfold Builtin.«sorted»
  refine wpAny_bind (m := checkCount "sorted" 1 1 _) (wpAny_pure ?_)
  refine wpAny_bind (collect_set (A := A.in1) hh ⟨o, ho, hex.1, hd⟩ hf hb hr hl fun s1 vs k1 hz g1 o1 pm => ?_)
  have hvl : vs.length = n := by rw [pm.length_eq, List.length_map, Array.length_toList]; exact hn
  have hI : StrsAre vs (vs.map strOf) := strsAre_map vs fun v hv => by
    obtain ⟨e, he, q⟩ := List.mem_map.mp (pm.mem_iff.mp hv)
    obtain ⟨k, tk, h1, _⟩ := g e he
    exact ⟨k, tk, by rw [← q]; exact h1⟩
  have pk : (vs.map strOf).Perm (es.toList.map keyT) := by
    have q := pm.map strOf
    rw [List.map_map] at q
    have e : es.toList.map keyT = es.toList.map (strOf ∘ fun x => x.2) := List.map_congr_left fun e he => key_str e (by obtain ⟨k, tk, h1, _⟩ := g e he; exact ⟨k, tk, h1⟩)
    rw [e]
    exact q
  refine wpAny_bind (wpAny_newList ?_ (by rw [hvl, sizeLine_eq]; omega))
  have hoL : (s1.heap.push (seqObj "list" vs.toArray 0)).get? s1.heap.objs.size = some (seqObj "list" vs.toArray 0) := Heap.get?_push_size _ rfl
  refine wpAny_bind (wpAny_holding (wpAny_call_entry slot_list_sort ⟨_, hoL, rfl⟩ entry_list_sort (list_sort_treeK PyProof.Rows.strKind_oneLt hoL hI.keysOf (fun v₁ v₂ rest e => keyKind_strs (by rw [← e]; exact hI)) (by rw [hvl]; exact h64) fun st' hp hs => ⟨_, rfl, ?_⟩) (args_list_sort _)))
  obtain ⟨ns', a1, a2, a3⟩ := sorted_out_str hI hp hs
  obtain ⟨c, hc⟩ := sortedHeap_at (vs := vs) (out := (arrOf st').map (·.2)) hoL
  have pn : ns'.Perm (es.toList.map keyT) := a2.trans pk
  refine wpAny_pure ⟨_, rfl, hQ _ s1.heap.objs.size _ c ns' (fun b u e => ?_) g1 o1 hz hc a1 a3 (pn.nodup_iff.mpr nd) (fun k => by rw [pn.mem_iff, ← hm k]) ?_⟩
  · have q := k1 b u e
    have hlt := Heap.lt_size q
    show (sortedHeap (s1.heap.push (seqObj "list" vs.toArray 0)) s1.heap.objs.size vs _).get? b = some u
    rw [sortedHeap_old (Nat.ne_of_lt hlt) (by rw [size_push']; exact Nat.lt_succ_of_lt hlt)]
    exact Heap.get?_push_of_some _ q
  · rw [pn.length_eq, List.length_map, Array.length_toList]; exact hn
end
/-- sorted(set(text)) -/
def tSortedSet (ta : TE) : TE := fun σ H Q => ta σ H fun x H1 => ∃ t : Str, x = .str t ∧ (∃ Fs : List Str, Fs.length ≤ 60 ∧ ∀ k ∈ signsT t, k ∈ Fs) ∧ ∀ (ss : List Str) (p : Addr), sortedS ss = true → ss.Nodup → (∀ k, k ∈ ss ↔ k ∈ signsT t) → H1 p = none → Q (.ref p) (upd H1 p (.lst (ss.map V.str)))
section
variable {X : Cx}
theorem pe_sortedSet {a : Expr} {ta : TE} {p p2 q pos : Pos} (hc : X.calm = true) (hg : Gl X "sorted") (hm : X.mg "sorted" = none) (hg2 : Gl X "set") (hm2 : X.mg "set" = none) (ha : PE X a ta)
    (na : starEach [a] X.env = (false, eval a X.env) :: starEach [] X.env := by rfl) : PE X (.Call (.Name "sorted" p) [.Call (.Name "set" p2) [a] [] q] [] pos) (tSortedSet ta) := by
  refine ⟨fun pins s σ H Q I h => ?_⟩
  refine Call_ (ld_blt I hg hm (by decide +kernel : bootBuiltins "sorted" = some (.builtin "sorted")) ?_)
  refine PyProof.Rows.callWith_builtin1 (PyProof.Rows.args_cons ?_ rfl) rfl rfl
  refine Call_ (ld_blt I hg2 hm2 boot_set ?_)
  refine PyProof.Rows.callWith_type1 (PyProof.Rows.args_cons (thn (ha.run pins s σ H _ I h) fun v s1 ⟨x, H1, I1, r1, q1⟩ => PyProof.Rows.args_nil ?_) na) na rfl
  obtain ⟨t, rfl, hl, q1⟩ := q1
  obtain ⟨u, rfl⟩ := r1
  have hsl : (signsT t).length = t.length := by simp [signsT, Str.length]
  obtain ⟨Fs, hF60, hFs⟩ := hl
  refine call_set_txt (I1.ok.hd hc) Fs hFs (by unfold scanBound; omega) fun h' tk c R hcl hk => ?_
  have hcF : c ≤ Fs.length := setTX_le R fun j hj => hFs j (of_decide_eq_true hj)
  refine PyProof.Rows.args_nil ?_
  have I2 : Inv X pins σ H1 { s1 with heap := h', toks := tk } := I1.kept hk
  refine sorted_setT (s := { s1 with heap := h', toks := tk }) R (I2.ok.hd hc) (by omega) fun s' p out c ns k g o hp hg hi hs hn hm hl => ?_
  have hlen : (ns.map V.str).length ≤ sizeLine := by rw [List.length_map, hl, sizeLine_eq]; omega
  have hnone : H1 p = none := I2.hok.fresh hp
  have J : Inv X pins σ (upd H1 p (.lst (ns.map V.str))) { ({ s1 with heap := h', toks := tk } : Shared) with heap := s'.heap, gens := s'.gens, drawn := s'.drawn, toks := s'.toks } :=
    I2.call (ch := []) (Un.laid k hp hnone) (I2.hok.laid k hp ⟨hlen, out.toList, c, vals_of_strs hi, hg⟩) (by rw [g]; exact I2.bare) (fun _ z => nomatch z)
  have e : s' = { ({ s1 with heap := h', toks := tk } : Shared) with heap := s'.heap, gens := s'.gens, drawn := s'.drawn, toks := s'.toks } := by
    cases s'
    cases s1
    cases o
    rfl
  rw [e]
  exact ⟨.ref p, _, J, rfl, q1 ns p hs hn (fun k => (hm k).trans decide_eq_true_iff) hnone⟩
end
end L2
/-! texts: the data's rules -/
namespace L2
open PySem PySem.Spec PyProof.Rows
/-- list(text) -/
def rListT : List V → Hp → VK → Prop := fun xs H Q => ∃ t : Str, xs = [.str t] ∧ t.length ≤ 100000 ∧ ∀ l, H l = none → Q (.ref l) (upd H l (.lst ((signsT t).map V.str)))
theorem vals_signs {x : Str} {acc : Array Value} (h : ItemsOf (SignAt x) acc x.cps.size) : Vals ((signsT x).map V.str) acc.toList := by
  refine vals_of_strs ?_
  have key : ∀ (us : List Value) (l : List Nat), us.length = l.length → (∀ (i : Nat) (v : Value), us[i]? = some v → ∃ (c : Nat) (u : Tok), l[i]? = some c ∧ v = Value.str ⟨#[c]⟩ u) → StrsAre us (l.map fun c => (⟨#[c]⟩ : Str)) := by
    intro us
    induction us with
    | nil =>
      intro l hl _
      cases l with
      | nil => exact .nil
      | cons c l => simp at hl
    | cons v us ih =>
      intro l hl h
      cases l with
      | nil => simp at hl
      | cons c l =>
        obtain ⟨c', u, h1, h2⟩ := h 0 v rfl
        cases h1
        subst h2
        exact .cons _ u (ih l (by simpa using hl) fun i v hv => h (i + 1) v hv)
  unfold signsT
  refine key acc.toList x.cps.toList ?_ fun i v hv => ?_
  · have := h.1
    simp [this]
  · rw [Array.getElem?_toList] at hv
    obtain ⟨c, u, hc, e⟩ := h.2 i v hv
    exact ⟨c, u, by rw [Array.getElem?_toList]; exact hc, e⟩
theorem call_list_txt {X : Cx} (hc : X.calm = true) : CallR X (.type "list") rListT := by
  intro pins s σ H xs us Q I r h
  obtain ⟨t, rfl, hl, q⟩ := h
  obtain ⟨u, rfl, rx⟩ := vals1 r
  obtain ⟨tk, rfl⟩ := rx
  have hsl : t.cps.size ≤ sizeLine := by
    have : t.cps.size = t.length := rfl
    rw [sizeLine_eq]
    omega
  refine call_list_str (I.ok.hd hc) t tk (fun h' tk' acc' c' k e hi => ?_) hsl
  exact ⟨.ref s.heap.objs.size, _, I.laid (t' := tk') k (Nat.le_refl _) (show ObjOk X.prog X.w _ h' _ (.lst ((signsT t).map V.str)) from ⟨by rw [List.length_map]; simp [signsT]; exact hsl, acc'.toList, c', vals_signs hi, e⟩), rfl, q _ (I.hok.fresh (Nat.le_refl _))⟩
end L2
namespace Wv
open PySem L2 PyProof.Rows
open Evl (Ex fresh_back ex_l)
abbrev rIntS : List V → Hp → VK → Prop := fun xs H Q => ∃ a n, xs = [.str a] ∧ PySem.intText? a = some n ∧ a.length ≤ 640 ∧ Q (.int n) H
abbrev rStrI : List V → Hp → VK → Prop := fun xs H Q => ∃ i, xs = [.int i] ∧ i.natAbs.log2 < 1920 ∧ Q (.str (toString i)) H
abbrev rLenS : List V → Hp → VK → Prop := fun xs H Q => ∃ z, xs = [.str z] ∧ z.length ≤ sizeLine ∧ Q (.int (z.length : Nat)) H
def strL (xs : List Str) : D := .lst (xs.map .str)
section
variable {K : PySem.W.Frag} {E : XK} {B0 H0 B H : Hp} {sl : List Sl} {ta te tb : TE} {x y : Str} {xs ys : List Str}
theorem denL_strs' : ∀ ns : List Str, DenL K B (ns.map D.str) (ns.map V.str)
  | [] => denL_nil
  | n :: ns => denL_cons (mk_str n) (denL_strs' ns)
theorem od_addS (hz : x.length + y.length ≤ sizeLine) : OpD K (fun x y H Q => ∃ i j, x = .str i ∧ y = .str j ∧ i.length + j.length ≤ sizeLine ∧ Q (.str (i ++ j)) H) (.str x) (.str y) (.dat (.str (x ++ y))) := fun B H vx vy e dx dy E Q q => by
  rw [den_str dx, den_str dy]
  exact ⟨x, y, rfl, rfl, hz, post_v e q (mk_str _)⟩
theorem cb_strI {i : Int} (h : i.natAbs.log2 < 1920) : CbD K (fun xs H Q => ∃ i, xs = [.int i] ∧ i.natAbs.log2 < 1920 ∧ Q (.str (toString i)) H) [.int i] (.dat (.str (toString i))) := fun B H vs e d E Q q => by
  obtain ⟨v, rfl, h1⟩ := denL_one d
  rw [den_int h1]
  exact ⟨i, rfl, h, post_v e q (mk_str _)⟩
theorem cb_intS {n : Int} (h : PySem.intText? x = some n) (hl : x.length ≤ 640) : CbD K (fun xs H Q => ∃ a n, xs = [.str a] ∧ PySem.intText? a = some n ∧ a.length ≤ 640 ∧ Q (.int n) H) [.str x] (.dat (.int n)) := fun B H vs e d E Q q => by
  obtain ⟨v, rfl, h1⟩ := denL_one d
  rw [den_str h1]
  exact ⟨x, n, rfl, h, hl, post_v e q (mk_int _)⟩
theorem od_ixS {i : Int} {c : Nat} (hl : x.length ≤ sizeLine) (h : atI x.cps.toList i = some c) : OpD K rIxS (.str x) (.int i) (.dat (.str ⟨#[c]⟩)) := fun B H vx vy e dx dy E Q q => by
  rw [den_str dx, den_int dy]
  exact ⟨x, i, c, rfl, rfl, hl, h, post_v e q (mk_str _)⟩
theorem cb_lenS (hz : x.length ≤ sizeLine) : CbD K (fun xs H Q => ∃ z, xs = [.str z] ∧ z.length ≤ sizeLine ∧ Q (.int (z.length : Nat)) H) [.str x] (.dat (.int ((x.length : Nat) : Int))) := fun B H vs e d E Q q => by
  obtain ⟨v, rfl, h1⟩ := denL_one d
  rw [den_str h1]
  exact ⟨x, rfl, hz, post_v e q (mk_int _)⟩
theorem cb_listT (h : x.length ≤ 100000) : CbD K rListT [.str x] (.new ((signsT x).map .str)) := fun B H vs e d E Q q => by
  obtain ⟨v, rfl, h1⟩ := denL_one d
  rw [den_str h1]
  exact ⟨x, rfl, h, fun p hp => q p _ _ _ (Gr.lay e hp) hp (fresh_back e hp) upd_same (denL_strs' _)⟩
theorem ev_sortedSet (h : EvR K E0 te sl (.dat (.str x))) (hl : ∃ Fs : List Str, Fs.length ≤ 60 ∧ ∀ k ∈ signsT x, k ∈ Fs) {ss : List Str} (hs : ∀ r : List Str, sortedS r = true → r.Nodup → (∀ k, k ∈ r ↔ k ∈ signsT x) → r = ss) : EvR K E (tSortedSet te) sl (.new (ss.map .str)) := fun B0 H0 B H σ sd Q q =>
  h B0 H0 B H σ sd _ fun v B1 H1 g1 d1 => by
    rw [den_str d1]
    refine ⟨x, rfl, hl, fun r p h1 h2 h3 hp => ?_⟩
    rw [hs r h1 h2 h3]
    exact (q.shift g1) p _ _ _ (Gr.lay g1.sub hp) hp (fresh_back g1.sub hp) upd_same (denL_strs' _)
theorem ev_m1 {r : V → List V → Hp → VK → Prop} {z : Rs} {d : D} (ho : EvR K E0 ta sl (.dat (.str x))) (ha : EvR K E0 te sl (.dat d)) (hr : ∀ B H vy, Ex B H → Den K B d vy → ∀ (E : XK) (Q : VK), Post K E B H Q z → r (.str x) [vy] H Q) : EvR K E (tM1 r ta te) sl z := fun B0 H0 B H σ sd Q q =>
  ho B0 H0 B H σ sd _ fun v B1 H1 g1 d1 => by
    rw [den_str d1]
    exact ⟨⟨x, rfl⟩, ha B0 H0 B1 H1 σ (sd.grow g1) _ fun vy B2 H2 g2 d2 => hr B2 H2 vy g2.sub d2 E Q ((q.shift g1).shift g2)⟩
theorem ev_join (ho : EvR K E0 ta sl (.dat (.str x))) (ha : EvR K E0 te sl (.dat (strL ys))) (hz : (ys.map (·.length)).sum + ys.length * x.length ≤ 16777216) :
    EvR K E (tM1 (fun x xs H Q => ∃ a p, ∃ ys : List Str, x = .str a ∧ xs = [.ref p] ∧ (SqL K H p (ys.map V.str) ∨ SqT K H p (ys.map V.str)) ∧ (ys.map (·.length)).sum + ys.length * a.length ≤ 16777216 ∧ Q (.str (Txt.join a ys)) H) ta te) sl (.dat (.str (Txt.join x ys))) :=
  ev_m1 ho ha fun B H vy e d E Q q => by
    obtain ⟨p, vs, rfl, h1, h2⟩ := den_lst d
    rw [denL_strs h2] at h1
    exact ⟨x, p, ys, rfl, rfl, .inl (SqL.of (e p _ h1)), hz, post_v e q (mk_str _)⟩
theorem ev_split (ho : EvR K E0 ta sl (.dat (.str x))) (ha : EvR K E0 te sl (.dat (.str y))) (hy : (y.length == 0) = false) (hz : x.length + 2 ≤ sizeLine) :
    EvR K E (tM1 (fun x xs H Q => ∃ a b, x = .str a ∧ xs = [.str b] ∧ (b.length == 0) = false ∧ a.length + 2 ≤ sizeLine ∧ rNewStrs (Txt.split a b) H Q) ta te) sl (.new ((Txt.split x y).map .str)) :=
  ev_m1 ho ha fun B H vy e d E Q q => by
    rw [den_str d]
    exact ⟨x, y, rfl, rfl, hy, hz, fun p hp => q p _ _ _ (Gr.lay e hp) hp (fresh_back e hp) upd_same (denL_strs' _)⟩
theorem mtd_strip (hz : x.length ≤ sizeLine) : MtD K "str" (fun x xs H Q => ∃ a b, x = .str a ∧ xs = [.str b] ∧ a.length ≤ sizeLine ∧ Q (.str (Txt.stripChars a b)) H) (.str x) [.str y] (.dat (.str (Txt.stripChars x y))) := fun B H v vs e d dd E Q q => by
  obtain ⟨w, rfl, h1⟩ := denL_one dd
  rw [den_str d, den_str h1]
  exact ⟨rfl, x, y, rfl, rfl, hz, post_v e q (mk_str _)⟩
/-! == of lists of texts -/
theorem dp_strs : ∀ ns : List Str, DpAll K H (ns.map V.str) (ns.map PyData.str)
  | [] => .nil
  | n :: ns => .cons (.str n) (dp_strs ns)
theorem lay_strs : ∀ ns : List Str, (∀ n ∈ ns, PyData.strOk n = true) → PyData.canLayAll0 (ns.map PyData.str) = true
  | [], _ => by simp [PyData.canLayAll0]
  | n :: ns, h => by
    have ih := lay_strs ns fun m hm => h m (List.mem_cons_of_mem _ hm)
    simp [PyData.canLayAll0, PyData.canLay0, ih, h n List.mem_cons_self]
theorem dep_strs : ∀ ns : List Str, PyData.depthAll (ns.map PyData.str) = 0
  | [] => by simp [PyData.depthAll]
  | n :: ns => by simp [PyData.depthAll, PyData.depth, dep_strs ns]
theorem sh_strs (ns : List Str) (h : ∀ n ∈ ns, PyData.strOk n = true) : SeqAt.shaped (.list (ns.map PyData.str)) = true := by
  unfold SeqAt.shaped
  simp [PyData.canLay0, PyData.depth, lay_strs ns h, dep_strs]
theorem eqv_strs : ∀ ns ms : List Str, PyData.eqvAll (ns.map PyData.str) (ms.map PyData.str) = decide (ns = ms)
  | [], [] => by simp [PyData.eqvAll]
  | [], _ :: _ => by simp [PyData.eqvAll]
  | _ :: _, [] => by simp [PyData.eqvAll]
  | n :: ns, m :: ms => by
    simp only [List.map_cons, PyData.eqvAll, PyData.eqv, eqv_strs ns ms]
    rw [Bool.eq_iff_iff]
    simp
theorem od_neT (hx : ∀ n ∈ xs, PyData.strOk n = true) (hy : ∀ n ∈ ys, PyData.strOk n = true) : OpD K (rNeD K) (strL xs) (strL ys) (.dat (.bl (!decide (xs = ys)))) := fun B H vx vy e dx dy E Q q => by
  obtain ⟨a, vs, rfl, h1, h2⟩ := den_lst dx
  obtain ⟨b, us, rfl, h3, h4⟩ := den_lst dy
  rw [denL_strs h2] at h1
  rw [denL_strs h4] at h3
  refine ⟨_, _, .lst (SqL.of (e a _ h1)) (dp_strs xs), .lst (SqL.of (e b _ h3)) (dp_strs ys), sh_strs xs hx, sh_strs ys hy, ?_⟩
  simp only [PyData.eqv, eqv_strs]
  exact post_v e q (mk_bl _)
theorem flat_strsV (ys : List Str) : (ys.map V.str).all flatV = true := by
  rw [List.all_map, List.all_eq_true]
  intro b _
  rfl
theorem inV_strs (x : Str) : ∀ ys : List Str, inV (.str x) (ys.map V.str) = decide (x ∈ ys)
  | [] => by simp [inV]
  | y :: ys => by
    have ih := inV_strs x ys
    unfold inV at ih ⊢
    rw [List.map_cons, List.any_cons, ih]
    have e : eqV (.str y) (.str x) = decide (y = x) := by
      show (y == x) = _
      rw [Bool.eq_iff_iff, beq_iff_eq, decide_eq_true_iff]
    rw [e, Bool.eq_iff_iff, Bool.or_eq_true, decide_eq_true_iff, decide_eq_true_iff, decide_eq_true_iff, List.mem_cons]
    exact ⟨fun z => z.elim (fun w => .inl w.symm) .inr, fun z => z.elim (fun w => .inl w.symm) .inr⟩
theorem od_notInS : OpD K (rIn K true) (.str x) (strL ys) (.dat (.bl (!decide (x ∈ ys)))) := fun B H vx vy e dx dy E Q q => by
  obtain ⟨b, us, rfl, h3, h4⟩ := den_lst dy
  rw [den_str dx]
  rw [denL_strs h4] at h3
  refine ⟨b, ys.map V.str, rfl, .inl (SqL.of (e b _ h3)), rfl, flat_strsV ys, ?_⟩
  rw [if_pos rfl, inV_strs]
  exact post_v e q (mk_bl _)
/-- for sign in text -/
theorem it_str (h : EvR K E0 te sl (.dat (.str x))) : ItE K (iStr te) sl ((signsT x).map .str) := fun B0 H0 B H σ sd R q =>
  h B0 H0 B H σ sd _ fun v B1 H1 g1 d1 => by
    rw [den_str d1]
    have hl : ((signsT x).map D.str).length = x.cps.size := by simp [signsT]
    refine ⟨x, rfl, q _ _ _ g1 fun i H2 e2 => ⟨fun d hd => ?_, fun hl2 => ?_⟩⟩
    · rw [List.getElem?_map] at hd
      unfold signsT at hd
      rw [List.getElem?_map, Array.getElem?_toList] at hd
      cases hc : x.cps[i]? with
      | none => rw [hc] at hd; cases hd
      | some c =>
        rw [hc] at hd
        cases hd
        refine ⟨(Array.getElem?_eq_some_iff.mp hc).1, fun y H3 hy => ⟨hy.1, ?_⟩⟩
        obtain ⟨c', h1, rfl⟩ := hy.2
        rw [hc] at h1
        cases h1
        exact mk_str _
    · show x.cps.size ≤ i
      rw [← hl]
      exact hl2
end
theorem cut_drop (xs : List D) (a : Nat) : cutD xs (some (a : Int)) none = xs.drop a := by
  have e : HT.sIx xs.length 0 (some (a : Int)) = min a xs.length := HT.sIx_nat xs.length 0 a
  unfold cutD
  rw [HT.sIx_none, e]
  by_cases h : a ≤ xs.length
  · rw [Nat.min_eq_left h, List.take_of_length_le (by rw [List.length_drop]; exact Nat.le_refl _)]
  · rw [Nat.min_eq_right (by omega), List.drop_eq_nil_of_le (as := xs) (i := a) (by omega), Nat.sub_self, List.take_zero]
end Wv
/-! the plain law: texts of councils -/
namespace Wv
open PySem PySem.Spec L2 PyProof.Rows
def sg (c : Nat) : Str := ⟨#[c]⟩
def figs (g : Nat) : List Nat := (List.range 5).filter fun k => g.testBit k
def gtext (g : Nat) : Str := if g = 0 then "-" else Txt.join "" ((figs g).map fun k => sg (48 + k))
def nword (n : Nat) : Str := Str.ofString (toString ((n : Nat) : Int)) ++ (":" : Str)
def wtext (n : Nat) (t : List Bool) : Str := Txt.join " " (nword n :: (leastM t).map gtext)
theorem gtext_len : ∀ g, g < 32 → (gtext g).length ≤ 5 := by decide +kernel
theorem gtext_dash : ∀ g, g < 32 → decide (gtext g = "-") = decide (g = 0) := by decide +kernel
theorem gtext_some : ∀ g, g < 32 → decide (gtext g = "") = false := by decide +kernel
theorem gtext_signs : ∀ g, g < 32 → g ≠ 0 → signsT (gtext g) = (figs g).map fun k => sg (48 + k) := by decide +kernel
theorem gtext_codes : ∀ g, g < 32 → g ≠ 0 → (gtext g).cps.toList = (figs g).map fun k => 48 + k := by decide +kernel
theorem gtext_strip : ∀ g, g < 32 → g ≠ 0 → Txt.stripChars (gtext g) "01234" = "" := by decide +kernel
theorem gtext_sum : ∀ g, g < 32 → ((figs g).map fun k => (2 : Nat) ^ k).sum = g := by decide +kernel
theorem gtext_sp : ∀ g, g < 32 → 32 ∉ TL.tl (gtext g) := by decide +kernel
theorem gtext_ok : ∀ g, g < 32 → ∀ s ∈ signsT (gtext g), PyData.strOk s = true := by decide +kernel
theorem sg_int : ∀ k, k < 5 → PySem.intText? (sg (48 + k)) = some ((k : Nat) : Int) := by decide +kernel
theorem fig_at : ∀ k, k < 5 → atI ("01234" : Str).cps.toList ((k : Nat) : Int) = some (48 + k) := by decide +kernel
theorem num_sg : ∀ k, k < 5 → Str.ofString (toString ((k : Nat) : Int)) = sg (48 + k) := by decide +kernel
theorem nword_sp : ∀ n, n < 6 → 32 ∉ TL.tl (nword n) := by decide +kernel
theorem nword_len : ∀ n, n < 6 → (nword n).length = 2 := by decide +kernel
theorem nword_in : ∀ n, n < 6 → 1 ≤ n → nword n ∈ (["1:", "2:", "3:", "4:", "5:"] : List Str) := by decide +kernel
theorem nword_at : ∀ n, n < 6 → atI (nword n).cps.toList 0 = some (48 + n) := by decide +kernel
theorem nword_int : ∀ n, n < 6 → PySem.intText? (sg (48 + n)) = some ((n : Nat) : Int) := by decide +kernel
/-! a sorted list without doubles is told by its members -/
theorem lt_sg (x p : Nat) : ltCps (sg x).cps.toList (sg p).cps.toList = decide (x < p) := by
  rw [ltCps_eq]
  show decide ([x] < [p]) = _
  rw [decide_eq_decide]
  simp [List.cons_lt_cons_iff]
theorem rising_sg : ∀ (l : List Nat) (p : Nat), risingS (sg p) (l.map sg) = true → (p :: l).Pairwise (· ≤ ·)
  | [], p, _ => List.pairwise_singleton _ _
  | x :: l, p, h => by
    have h : (!ltCps (sg x).cps.toList (sg p).cps.toList && risingS (sg x) (l.map sg)) = true := h
    rw [Bool.and_eq_true, Bool.not_eq_true', lt_sg, decide_eq_false_iff_not] at h
    have ih := rising_sg l x h.2
    refine List.pairwise_cons.mpr ⟨fun y hy => ?_, ih⟩
    rcases List.mem_cons.mp hy with rfl | hy
    · exact Nat.le_of_not_lt h.1
    · have q : x ≤ y := List.rel_of_pairwise_cons ih hy
      exact Nat.le_trans (Nat.le_of_not_lt h.1) q
theorem sorted_sg : ∀ l : List Nat, sortedS (l.map sg) = true → l.Pairwise (· ≤ ·)
  | [], _ => List.Pairwise.nil
  | x :: l, h => rising_sg l x h
theorem sg_inj {a b : Nat} (h : sg a = sg b) : a = b := by
  have : [a] = [b] := congrArg (fun y : Str => y.cps.toList) h
  exact (List.cons.inj this).1
theorem sorted_told {l : List Nat} (hl : l.Pairwise (· < ·)) {r : List Str} (hs : sortedS r = true) (hn : r.Nodup) (hm : ∀ k, k ∈ r ↔ k ∈ l.map sg) : r = l.map sg := by
  have er : r = (r.map fun s => s.cps.toList.headD 0).map sg := by
    rw [List.map_map]
    have : r.map (sg ∘ fun s => s.cps.toList.headD 0) = r.map id := List.map_congr_left fun s hs => by
      obtain ⟨c, _, rfl⟩ := List.mem_map.mp ((hm s).mp hs)
      rfl
    rw [this, List.map_id]
  generalize (r.map fun s => s.cps.toList.headD 0) = m at er
  subst er
  have hp := sorted_sg m hs
  have hmn : m.Nodup := by
    have := List.pairwise_map.mp (show ((m.map sg).Pairwise (· ≠ ·)) from hn)
    exact this.imp fun h e => h (congrArg sg e)
  have hln : l.Nodup := hl.imp fun h => Nat.ne_of_lt h
  have hmm : ∀ c, c ∈ m ↔ c ∈ l := fun c => by
    constructor
    · intro h
      obtain ⟨d, hd, e⟩ := List.mem_map.mp ((hm (sg c)).mp (List.mem_map_of_mem h))
      rw [← sg_inj e]
      exact hd
    · intro h
      obtain ⟨d, hd, e⟩ := List.mem_map.mp ((hm (sg c)).mpr (List.mem_map_of_mem h))
      rw [← sg_inj e]
      exact hd
  have pm : m.Perm l := (List.perm_ext_iff_of_nodup hmn hln).mpr hmm
  rw [List.Perm.eq_of_pairwise (le := (· ≤ ·)) (fun a b _ _ h1 h2 => by omega) hp (hl.imp fun h => Nat.le_of_lt h) pm]
theorem figs_rise (g : Nat) : ((figs g).map fun k => 48 + k).Pairwise (· < ·) := by
  rw [List.pairwise_map]
  exact (List.Pairwise.filter _ List.pairwise_lt_range).imp fun h => by omega
theorem gtext_sorted {g : Nat} (hg : g < 32) (h0 : g ≠ 0) : ∀ r : List Str, sortedS r = true → r.Nodup → (∀ k, k ∈ r ↔ k ∈ signsT (gtext g)) → r = signsT (gtext g) := fun r h1 h2 h3 => by
  have e : signsT (gtext g) = ((figs g).map fun k => 48 + k).map sg := by
    rw [gtext_signs g hg h0, List.map_map]
    rfl
  rw [e] at h3 ⊢
  exact sorted_told (figs_rise g) h1 h2 h3
/-! the least groups tell the table -/
theorem least_under {n : Nat} {t : List Bool} (hn : n ≤ 5) (h : Mono n t) : ∀ g, g < 2 ^ n → t.getD g false = true → ∃ o, o ∈ leastM t ∧ g &&& o = o := by
  intro g
  induction g using Nat.strongRecOn with
  | ind g ih =>
    intro hg ht
    by_cases c : ((wo g).any fun l => t.getD l false) = true
    · obtain ⟨l, hl, hc⟩ := List.any_eq_true.mp c
      have hlg := wo_lt hl
      obtain ⟨o, ho, e⟩ := ih l hlg (by omega) hc
      refine ⟨o, ho, ?_⟩
      obtain ⟨k, hk, rfl⟩ := List.mem_map.mp hl
      have hb := (List.mem_filter.mp hk).2
      have hsub : g &&& (g ^^^ 2 ^ k) = g ^^^ 2 ^ k := by
        apply Nat.eq_of_testBit_eq
        intro i
        rw [Nat.testBit_and, Nat.testBit_xor]
        by_cases e2 : i = k
        · subst e2
          rw [Nat.testBit_two_pow_self, hb]
          rfl
        · rw [Nat.testBit_two_pow_of_ne (Ne.symm e2)]
          cases g.testBit i <;> rfl
      rw [← e, ← Nat.and_assoc, hsub]
    · refine ⟨g, ?_, Nat.and_self g⟩
      refine List.mem_filter.mpr ⟨List.mem_range.mpr (by rw [h.1]; exact hg), ?_⟩
      rw [ht, Bool.true_and, Bool.not_eq_true']
      exact Bool.eq_false_iff.mpr c
theorem tab_least {n : Nat} {t : List Bool} (hn : n ≤ 5) (h : Mono n t) : tab n (leastM t) = t := by
  refine list_ext_get (n := 2 ^ n) (tab_len n _) h.1 fun g hg => ?_
  rw [tab_get hg, Bool.eq_iff_iff, List.any_eq_true]
  constructor
  · rintro ⟨o, ho, e⟩
    obtain ⟨h1, h2⟩ := List.mem_filter.mp ho
    have h1 := List.mem_range.mp h1
    rw [h.1] at h1
    rw [Bool.and_eq_true] at h2
    exact h.2 g o hg h1 (of_decide_eq_true e) h2.1
  · intro ht
    obtain ⟨o, ho, e⟩ := least_under hn h g hg ht
    exact ⟨o, ho, decide_eq_true e⟩
theorem wtext_split {n : Nat} {t : List Bool} (hn : n < 6) (hl : ∀ g ∈ leastM t, g < 32) : Txt.split (wtext n t) " " = nword n :: (leastM t).map gtext := by
  refine TL.split_join (s := 32) (S := []) rfl (by decide +kernel) (by simp) fun p hp => ?_
  rcases List.mem_cons.mp hp with rfl | hp
  · exact nword_sp n hn
  · obtain ⟨g, hg, rfl⟩ := List.mem_map.mp hp
    exact gtext_sp g (hl g hg)
end Wv
/-! a comprehension whose element may raise (an error whose context is None, out of a call) -/
namespace L2
open PySem PySem.Spec PyProof.Rows
/-- the block's context: what a call may let out -/
abbrev Cx.blkE (X : Cx) (s3 : Shared) (H3 : Hp) (sc : Scope) (ce : Env) (fp : List Addr) (Er : XK) : Cx :=
  (X.blk s3 H3 sc ce fp).wish fun e s' => ∃ (pb : List (Addr × Obj)) (σb : St) (Hb : Hp) (sb : Shared), Inv (X.blk s3 H3 sc ce fp) pb σb Hb sb ∧ L2N.CX X.prog X.w X.stack Hb sb Er e s'
theorem passBlk {X : Cx} {s3 : Shared} {H3 : Hp} {sc : Scope} {ce : Env} {fp : List Addr} {Er : XK} : Passes (L2N.CX (X.blkE s3 H3 sc ce fp Er).prog (X.blkE s3 H3 sc ce fp Er).w) (X.blkE s3 H3 sc ce fp Er) Er :=
  fun pb σb Hb sb e s' I c => ⟨pb, σb, Hb, sb, I.unwish, c⟩
theorem frames_but {h h' B B' : Heap} {C : Addr} (k : ∀ b, b ≠ C → h'.get? b = h.get? b) (n : ∀ b, B.get? b = none → B'.get? b = none) : ∀ {l : List Env}, C ∉ frs l → h.FunFrames B l → h'.FunFrames B' l
  | [], _, _ => trivial
  | env :: l, hc, ⟨h1, ⟨L, o, e1, e2, e3, e4⟩, h2⟩ => by
    have hL : L ≠ C := fun z => hc (List.mem_filterMap.mpr ⟨env, List.mem_cons_self, by rw [e1, z]⟩)
    exact ⟨h1, ⟨L, o, e1, n L e2, (k L hL).trans e3, e4⟩, frames_but k n (fun m => by
      obtain ⟨x, hx, q⟩ := List.mem_filterMap.mp m
      exact hc (List.mem_filterMap.mpr ⟨x, List.mem_cons_of_mem _ hx, q⟩)) h2⟩
section
variable {X : Cx} {pins : List (Addr × Obj)} {σ : St} {Er : XK} {W : WX}
/-- what a call in the element lets out leaves the block, and the def's frame holds it -/
theorem blk_out (hs : X.stack = X.env :: X.outer) (hf : X.env.frame = some X.env.locals) (tk : L2N.Takes X W) (hW : ∀ cls d H, Er cls d H → W cls d σ H) {s3 sb s' : Shared} {H3 Hb : Hp} {sc : Scope} {ce : Env} {fp : List Addr} {pb : List (Addr × Obj)} {σb : St} {e : Value} (J : Inv X pins σ H3 s3)
    (cL : ce.locals = s3.heap.objs.size) (cf : ce.frame = X.env.frame) (hfp : ∀ b ∈ fp, FpOk X pins H3 b ∧ b < s3.heap.objs.size) (Ib : Inv (X.blk s3 H3 sc ce fp) pb σb Hb sb) (c : L2N.CX X.prog X.w X.stack Hb sb Er e s') :
    notedBy (model X.prog X.w) X.A ce (CompFails (model X.prog X.w) X.A X.xe ce) e s' := by
  obtain ⟨a, B, Hn, cls, d, rfl, fly, okn, un, na, sos, bare, he⟩ := c
  show wpAny _ X.A (noteFrame (.ref a) ce) _ _ s'
  rw [noteFrame_env (.ref a) cf]
  have fr0 : X.A.frames = some (X.env :: X.outer) := by
    rw [J.ok.frames, hs]
  have fly0 : HandSPX.FlyingZ B (X.env :: X.outer) a (L2N.Zn cls d) s'.heap := by
    rw [← hs]
    exact fly
  refine PXN.looks_onZ L2N.Zn.steady fr0 hf fly0 fun h1 held1 up1 => ?_
  generalize hCd : s3.heap.objs.size = C at cL hfp
  -- the block's own dict
  obtain ⟨mb, hnb, _⟩ := Ib.loc
  obtain ⟨oC, es, ep, hoC, hdC, hrC⟩ := id hnb
  have hoC : sb.heap.get? C = some oC := by
    rw [← cL]
    exact hoC
  have freeC : Hb C = none := by
    have z : Hb ce.locals = none := Ib.free
    rwa [cL] at z
  obtain ⟨_, c1, c2, c3, c4, c5⟩ := J.fpOk (b := C) (H' := Hb) (Nat.le_of_eq hCd) freeC
  have cStk : C ∉ frs X.stack := fun m => by
    rcases List.mem_cons.mp (J.stkSub C m) with z | z
    · exact c1 z
    · exact c2 z
  have cB : B.get? C = some oC := un.keep C oC hoC freeC cStk
  have cH1 : h1.get? C = some oC := held1.1 C oC cB
  have notC : ∀ {b : Addr} {o : Obj} {vs : Array Value}, h1.get? b = some o → o.data = .fields vs → b ≠ C := fun {b o vs} x y z => by
    rw [z, cH1] at x
    cases x
    rw [hdC] at y
    cases y
  refine ⟨mb, ⟨oC, es, ep, by rw [cL]; exact cH1, hdC, hrC⟩, fun h2 m2 _ sb2 => ?_⟩
  have same : ∀ b, b ≠ C → h2.get? b = h1.get? b := fun b hb => sb2.2 b (by rw [cL]; exact hb)
  -- the ground without it
  have gNo : ∀ b o, (PySem.W.hideAll B [C]).get? b = some o → b ≠ C ∧ B.get? b = some o := fun b o x => by
    refine ⟨fun z => ?_, PySem.W.of_hideAll [C] x⟩
    rw [z, PySem.W.hideAll_none [C] List.mem_cons_self] at x
    cases x
  have gNone : ∀ b, B.get? b = none → (PySem.W.hideAll B [C]).get? b = none := fun b hb => by
    cases q : (PySem.W.hideAll B [C]).get? b with
    | none => rfl
    | some o =>
      rw [(gNo b o q).2] at hb
      cases hb
  obtain ⟨k1, k2, k3, oe, vs, T, oT, ts, he1, hz1, hd1, ht1, hnT, hTa, hT1, hdT, hfl⟩ := held1
  have aC := notC he1 hd1
  have tC := notC hT1 hdT
  have he2 : h2.get? a = some oe := (same a aC).trans he1
  unfold PySem.passOn
  refine wpAny_bind (wpAny_field he2 hd1 ht1 ?_)
  rw [if_neg (show ¬ ((Value.ref T == Value.none) = true) from by simp), cf, hf]
  have held2 : HandSPX.HeldZ (PySem.W.hideAll B [C]) (X.env :: X.outer) a (L2N.Zn cls d) X.env.locals h2 :=
    ⟨fun b o x => (same b (gNo b o x).1).trans (k1 b o (gNo b o x).2), gNone a k2, frames_but same gNone (by rw [← hs]; exact cStk) k3, oe, vs, T, oT, ts, he2, hz1, hd1, ht1, gNone T hnT, hTa, (same T tC).trans hT1, hdT, hfl⟩
  -- a state of ours without it
  obtain ⟨G, g1, g2⟩ := restrict s'.heap fun b => ((PySem.W.hideAll B [C]).get? b).isSome || decide (b ∈ frs X.stack)
  have stay' : B.StaysIn s'.heap := fly.1
  have inG : ∀ b o, B.get? b = some o → b ≠ C → G.get? b = some o := fun b o x hb => by
    rw [g1 b (by rw [PySem.W.hideAll_get [C] x (by simpa using hb)]; rfl)]
    exact stay' b o x
  have frG : ∀ b, b ∈ frs X.stack → G.get? b = s'.heap.get? b := fun b hb => g1 b (by rw [decide_eq_true hb, Bool.or_true])
  have ofG : ∀ b o, G.get? b = some o → s'.heap.get? b = some o ∧ (((PySem.W.hideAll B [C]).get? b).isSome = true ∨ b ∈ frs X.stack) := fun b o x => by
    cases q : (((PySem.W.hideAll B [C]).get? b).isSome || decide (b ∈ frs X.stack)) with
    | false =>
      rw [g2 b q] at x
      cases x
    | true =>
      rw [g1 b q] at x
      refine ⟨x, ?_⟩
      rcases Bool.or_eq_true_iff.mp q with z | z
      · exact .inl z
      · exact .inr (of_decide_eq_true z)
  have freeCn : Hn C = none := un.free C oC hoC freeC
  have blkKeep := Ib.base
  have frB : frs X.stack = (X.blk s3 H3 sc ce fp).fs := rfl
  have J2 : Inv X pins σ Hn { s3 with heap := G, gens := s'.gens, drawn := s'.drawn, toks := s'.toks } := by
    refine J.call' (s' := { s3 with heap := G, gens := s'.gens, drawn := s'.drawn, toks := s'.toks }) (ch := C :: fp) rfl ⟨fun b o x nb hb hx => ?_, fun b o x nb hb hx => ?_, fun b o x nb hx => ?_, fun b o x hx => ?_, fun b xs x => ?_, fun b ob u x => ?_, fun b ps x => ?_⟩ (fun b u x => ?_) bare fun b hb => ?_
    · have x1 : b ≠ C := fun z => hx (by rw [z]; exact List.mem_cons_self)
      have x2 : b ∉ fp := fun z => hx (List.mem_cons_of_mem _ z)
      exact inG b o (un.keep b o (blkKeep.keep b o x nb hb x2) (blkKeep.free b o x nb x2) hb) x1
    · have x2 : b ∉ fp := fun z => hx (List.mem_cons_of_mem _ z)
      obtain ⟨sl, q1⟩ := blkKeep.slot b o x nb hb x2
      obtain ⟨sl2, q2⟩ := un.slot b _ q1 hb
      exact ⟨sl2, by rw [frG b hb]; exact q2⟩
    · have x2 : b ∉ fp := fun z => hx (List.mem_cons_of_mem _ z)
      obtain ⟨o', q1⟩ := blkKeep.there b o x x2
      exact un.free b o' q1 (blkKeep.free b o x nb x2)
    · have x1 : b ≠ C := fun z => hx (by rw [z]; exact List.mem_cons_self)
      have x2 : b ∉ fp := fun z => hx (List.mem_cons_of_mem _ z)
      obtain ⟨o', q1⟩ := blkKeep.there b o x x2
      by_cases hb : b ∈ frs X.stack
      · obtain ⟨sl, q2⟩ := un.slot b o' q1 hb
        exact ⟨_, by rw [frG b hb]; exact q2⟩
      · obtain ⟨o2, q2⟩ := un.there b o' q1 hb
        exact ⟨o2, inG b o2 q2 x1⟩
    · exact un.tups b xs (blkKeep.tups b xs x)
    · exact un.frzs b ob u (blkKeep.frzs b ob u x)
    · obtain ⟨p1, q1⟩ := blkKeep.tbls b ps x
      obtain ⟨p2, q2⟩ := un.tbls b _ q1
      exact ⟨p1 ++ p2, by rw [q2, Array.append_assoc]⟩
    · refine (okn b u x).stay (fun y v hy q => ?_) (fun _ q => q) fun _ _ q => q
      have yC : y ≠ C := fun z => by
        rcases hy with w | w
        · rw [← w, z, freeCn] at x
          cases x
        · rw [z, freeCn] at w
          cases w
      exact inG y v q yC
    · rcases List.mem_cons.mp hb with z | z
      · rw [z]
        exact ⟨c3, c1, c4, c5⟩
      · obtain ⟨⟨_, f1, f2, f3, f4, f5⟩, _⟩ := hfp b z
        exact ⟨f3, f1, f4, f5⟩
  have upG : Heap.UpToSlots G h2 := fun b o x hnf => by
    obtain ⟨x1, x2⟩ := ofG b o x
    have bC : b ≠ C := fun z => by
      rcases x2 with w | w
      · rw [z, PySem.W.hideAll_none [C] List.mem_cons_self] at w
        cases w
      · rw [z] at w
        exact cStk w
    obtain ⟨sl, q⟩ := up1 b o x1 hnf
    exact ⟨sl, (same b bC).trans q⟩
  have upG' : ∀ h3, Heap.UpToSlots h2 h3 → Heap.UpToSlots G h3 := fun h3 u => upG.trans u
  obtain ⟨q1, q2, q3, q4⟩ := held2
  refine wpAny_bind (HandSPX.setFlight_anyZ (fr := some X.env.locals) q1 q3 q4 fun h3 r1 r2 r3 u3 => wpAny_throw (tk _ _ ?_))
  refine ⟨a, PySem.W.hideAll B [C], _, pins, σ, Hn, cls, d, rfl, J2, fun b o x hb => ?_, upG' h3 u3, .inr (.inr ?_), na, ?_, bare, hW _ _ _ he⟩
  · obtain ⟨x1, x2⟩ := ofG b o x
    rcases x2 with w | w
    · obtain ⟨o', q⟩ := Option.isSome_iff_exists.mp w
      have z := stay' b o' (gNo b o' q).2
      rw [x1] at z
      cases z
      exact q
    · exact absurd w hb
  · rw [hs]
    exact ⟨r1, q2, r2, r3⟩
  · have z : sb.os = s3.os := Ib.os
    exact sos.trans z
/-- [elt for target in iter if ..], elt may raise: as lc_core, the block's wish is what its call lets out -/
theorem pe_lcE {elt tg iter : Expr} {ifs : List Expr} {scope : Scope} {own : List (Str × Nat)} {pos : Pos} {wi : TI} {g : TG} {tt : TT} {te : TE} (hc : X.calm = true) (hN : X.N.Nodup) (hs : X.stack = X.env :: X.outer) (hf : X.env.frame = some X.env.locals) (tk : L2N.Takes X fun cls d _ H => Er cls d H) (hi : PI X tg iter wi) (ok : BlkOk X.N X.env.scope scope own)
    (hg : ∀ (s : Shared) (H : Hp) (C : Addr) (cl : List (Str × Addr)) (fp : List Addr), PG (X.blk s H scope (compEnvC scope cl C X.env) fp) tg g) (ht : ∀ (s : Shared) (H : Hp) (C : Addr) (cl : List (Str × Addr)) (fp : List Addr), PTs (X.blk s H scope (compEnvC scope cl C X.env) fp) ifs tt)
    (he : ∀ (s : Shared) (H : Hp) (C : Addr) (cl : List (Str × Addr)) (fp : List Addr), PE (X.blkE s H scope (compEnvC scope cl C X.env) fp Er) elt te) (hfs : ∀ x, foldedSetIterable iter X.env x = pure x := by intro _; rfl) :
    PE X (.ListComp elt [⟨tg, iter, ifs, 0⟩] scope pos) (tLc wi g tt te (own.map (·.2))) := by
  refine ⟨fun pins s σ H Q I h => ?_⟩
  rw [eval_ListComp]
  have clo : ∀ y ∈ scope.names, y.2 = .free → ∃ c, X.env.cells.lookup y.1 = some c := fun y hy z => (ok.free y hy z).elim (fun k => I.ok.has _ (.inl k)) fun k => I.ok.has _ (.inr k)
  refine comprehension_at (use := none) rfl hfs (closure_ok clo) ok.kind (fun y hy z => by rw [ok.uniq y hy, z]) (thn (hi.run pins s σ H _ I h) fun itr s1 h1 => thn h1 fun _ s2 h2 => ?_)
  obtain ⟨ia, fp, tn, J, Ha, rfl, Ia, Tr, ta, fa, qa⟩ := h2
  refine wpAny_newObj_type (newEnv_comp ?_) (by show 0 ≤ sizeLine; decide)
  generalize hD : s2.heap.objs.size = Dl
  have Dn : Ha Dl = none := Ia.hok.fresh (Nat.le_of_eq hD)
  obtain ⟨Wl, ⟨m0, w0⟩, turn⟩ := qa Dl Dn
  generalize hs3 : ({ s2 with heap := s2.heap.push { cls := .type "list", data := .seq ([] : List Value).toArray } } : Shared) = s3
  have h3 : s3.heap = s2.heap.push { cls := .type "list", data := .seq ([] : List Value).toArray } := by
    rw [← hs3]
  have I3 : Inv X pins σ (upd Ha Dl (.lst [])) s3 := by
    rw [← hs3]
    refine Ia.laid (t' := s2.toks) (fun _ _ z => Heap.get?_push_of_some _ z) (Nat.le_of_eq hD) ⟨Nat.zero_le _, [], 0, .nil, ?_⟩
    rw [← hD]
    exact Heap.get?_push_size _ rfl
  have old : ∀ b ∈ fp, b < s2.heap.objs.size := fun b hb => by
    obtain ⟨_, z, _⟩ := Tr.obj _ _ ta b hb
    exact Heap.lt_size z
  have f3 : ∀ b ∈ fp, FpOk X pins (upd Ha Dl (.lst [])) b ∧ b < s3.heap.objs.size := fun b hb => by
    refine ⟨⟨?_, (fa b hb).2⟩, by rw [h3, Heap.size_push]; exact Nat.lt_succ_of_lt (old b hb)⟩
    rw [upd_ne (by rw [← hD]; exact Nat.ne_of_lt (old b hb))]
    exact (fa b hb).1
  have t3 : tn 0 s3.heap := Tr.keep _ _ _ ta fun b _ o z => by
    rw [h3]
    exact Heap.get?_push_of_some _ z
  have I4 := block_start I3 ok hN f3
  have pg := hg s3 (upd Ha Dl (.lst [])) s3.heap.objs.size (cellsFrom (s3.heap.objs.size + 1) scope.names (cloFrom X.env.cells scope.names [])) fp
  have pt := ht s3 (upd Ha Dl (.lst [])) s3.heap.objs.size (cellsFrom (s3.heap.objs.size + 1) scope.names (cloFrom X.env.cells scope.names [])) fp
  have pe := he s3 (upd Ha Dl (.lst [])) s3.heap.objs.size (cellsFrom (s3.heap.objs.size + 1) scope.names (cloFrom X.env.cells scope.names [])) fp
  show codeAny _ _ (.compStart (.ListComp elt [⟨tg, iter, ifs, 0⟩] scope pos) 0 (.ref ia) (.ref Dl) (compEnvC scope (cellsFrom (s3.heap.objs.size + 1) scope.names (cloFrom X.env.cells scope.names [])) s3.heap.objs.size X.env)) (compEnds (model X.prog X.w) X.A X.xe none (EP X pins σ Q) (.ref Dl) (compEnvC scope (cellsFrom (s3.heap.objs.size + 1) scope.names (cloFrom X.env.cells scope.names [])) s3.heap.objs.size X.env)) { s3 with heap := pushCells (s3.heap.push { cls := .type "dict", data := .dict #[] }) scope.names }
  have fpn : ∀ b ∈ fp, (upd Ha Dl (.lst [])) b = none := fun b hb => (f3 b hb).1.1
  generalize hce : compEnvC scope (cellsFrom (s3.heap.objs.size + 1) scope.names (cloFrom X.env.cells scope.names [])) s3.heap.objs.size X.env = ce at I4 pg pt pe ⊢
  have cL : ce.locals = s3.heap.objs.size := by
    subst hce
    rfl
  have cF : ce.frame = X.env.frame := by
    subst hce
    rfl
  generalize hHb : upd Ha Dl (.lst []) = Hb at I3 I4 pg pt pe w0 fpn f3
  generalize hs4 : ({ s3 with heap := pushCells (s3.heap.push { cls := .type "dict", data := .dict #[] }) scope.names } : Shared) = s4 at I4 ⊢
  have t4 : tn 0 s4.heap := Tr.keep _ _ _ t3 fun b _ o z => by
    rw [← hs4]
    exact pushCells_keeps _ _ _ _ (Heap.get?_push_of_some _ z)
  have stat : ∀ {σ' : St} {H' : Hp} {s' : Shared}, Inv (X.blk s3 Hb scope ce fp) [] σ' H' s' → (∀ b ∈ fp, H' b = none) → ∀ b ∈ fp, FpOk (X.blk s3 Hb scope ce fp) [] H' b := fun {σ' H' s'} Ib hn b hb =>
    ⟨hn b hb, (Ib.ok.exf b hb).1, Ib.ok.exfs b hb, .inl hb, fun x c z => (Ib.ok.exf b hb).2 x c z, fun p hp => absurd (show p ∈ ([] : List (Addr × Obj)) ++ [] from hp) (by simp)⟩
  have loop : codeAny (model X.prog X.w) X.A (.compLoop (.ListComp elt [⟨tg, iter, ifs, 0⟩] scope pos) 0 (.ref ia) (.ref Dl) ce) (compEnds (model X.prog X.w) X.A X.xe none (EP X pins σ Q) (.ref Dl) ce) s4 := by
    refine compLoop_any (fun n s' => ∃ i H', Inv (X.blk s3 Hb scope ce fp) [] (wipe σ (own.map (·.2))) H' s' ∧ tn i s'.heap ∧ (∀ b ∈ fp, H' b = none) ∧ Wl i n H') ?_ m0 ⟨0, Hb, I4, t4, fpn, w0⟩
    rintro n s5 ⟨i, H5, I5, t5, n5, w5⟩
    rcases turn i n H5 w5 with ⟨stop, qq⟩ | ⟨go, Nx, hNx, step⟩
    · refine thnF (Tr.done (X.blk s3 Hb scope ce fp) rfl rfl rfl hc i [] s5 _ H5 (fun _ _ => False) I5 (stat I5 n5) t5 stop) fun r s6 ⟨hr, I6⟩ => ?_
      subst hr
      have I7 : Inv X pins σ H5 s6 := I3.call' (ch := fp) I6.os I6.base I6.hok I6.bare fun b hb => by
        obtain ⟨_, z1, z2, z3, z4, z5⟩ := (f3 b hb).1
        exact ⟨z3, z1, z4, z5⟩
      have nC : H5 s3.heap.objs.size = none := by
        have z : H5 ce.locals = none := I6.free
        rwa [cL] at z
      obtain ⟨m, hn, _⟩ := I6.loc
      obtain ⟨f0, f1, f2, f4, f5, f6⟩ := I3.fpOk (b := s3.heap.objs.size) (H' := H5) (Nat.le_refl _) nC
      refine ⟨m, hn, fun h'' sb => ⟨.ref Dl, H5, I7.turned (t' := s6.toks) (it := s3.heap.objs.size) (fun b o hb z => (sb.2 b (by rw [cL]; exact hb)).trans z) f0 f1 f4 f5 f6, rfl, qq⟩⟩
    · refine thnF (Tr.item (X.blk s3 Hb scope ce fp) rfl rfl rfl hc i [] s5 _ H5 (fun _ _ => False) I5 (stat I5 n5) t5 go) fun r s6 ⟨u, hr, h6⟩ => ?_
      subst hr
      refine thnF h6 fun _ s7 ⟨x, H7, I7, r7, y7, t7, n7⟩ => ?_
      have I7' := I7.pinned (stat I7 n7) (Tr.obj _ _ t7)
      refine thnF (pg.run _ s7 _ H7 x u _ I7' r7 (step x H7 y7)) fun _ s8 ⟨σ8, H8, I8, hw8, q8⟩ => ?_
      refine thnF (pt.run _ s8 σ8 H8 _ I8 q8) fun b s9 ⟨H9, I9, q9⟩ => ?_
      have next_ : ∀ {s' : Shared} {H' : Hp}, Inv (X.blk s3 Hb scope ce fp) ([] ++ pinsAt fp s7.heap) σ8 H' s' → Nx H' → ∃ m, m < n ∧ ∃ i H', Inv (X.blk s3 Hb scope ce fp) [] (wipe σ (own.map (·.2))) H' s' ∧ tn i s'.heap ∧ (∀ b ∈ fp, H' b = none) ∧ Wl i m H' := fun {s' H'} Ib nx => by
        obtain ⟨m', lt, w'⟩ := hNx H' nx
        have pin' : ∀ b ∈ fp, ∀ o, s7.heap.get? b = some o → s'.heap.get? b = some o ∧ H' b = none := fun b hb o z =>
          have y := Ib.pin (b, o) (List.mem_append_right _ (List.mem_append_right _ (mem_pinsAt hb z)))
          ⟨y.1, y.2.1⟩
        refine ⟨m', lt, i + 1, H', (Ib.unpinned (pins := [])).weak (by rw [← hw8, wipe_length]) (fun j v z => ?_), Tr.keep _ _ _ t7 fun b hb o z => (pin' b hb o z).1, fun b hb => ?_, w'⟩
        · rw [← hw8] at z
          exact (wipe_some z).1
        · obtain ⟨o, z, _⟩ := Tr.obj _ _ t7 b hb
          exact (pin' b hb o z).2
      cases b with
      | false =>
        simp only [Bool.false_eq_true, if_false] at q9 ⊢
        exact next_ I9 q9
      | true =>
        simp only [if_true] at q9 ⊢
        refine wpAny_mono (pe.run _ s9 σ8 H9 _ (I9.wish _) q9) (fun z s10 hz => ?_) fun e s' hx => ?_
        · obtain ⟨yv, H10, I10, r10, acc, hD10, hz10, nx⟩ := hz
          exact app_ok (X := X.blk s3 Hb scope ce fp) I10.unwish hD10 hz10 r10 fun s11 I11 => next_ I11 nx
        · obtain ⟨pb, σb, H', sb, Ib, cx⟩ := hx
          exact blk_out hs hf tk (fun _ _ _ z => z) I3 cL cF f3 Ib cx
  exact codeAny_compStart_list loop (Tr.self X.A 0 _ _ _ t4 loop)
end
end L2
/-! errors whose context is None, or an error whose own context is None -/
namespace L3
open PySem PySem.Spec PyProof.Rows L2
/-- class, dict and context of an error's object -/
def Z3 (cls : Value) (d : Option Addr) (cc : Value) : Obj → Prop := fun o => o.cls = cls ∧ o.dict = d ∧ ∀ vs : Array Value, o.data = .fields vs → vs[2]? = some cc
theorem Z3.steady {cls : Value} {d : Option Addr} {cc : Value} : PXN.Steady1 (Z3 cls d cc) := fun o v ⟨h1, h2, h3⟩ => by
  refine ⟨PXN.steady_cls o v h1, PXN.steady_dict o v h2, ?_⟩
  obtain ⟨oc, od, dt, sl⟩ := o
  cases dt with
  | fields ws =>
    intro vs z
    have z1 : ws.setIfInBounds 1 v = vs := Data.fields.inj z
    rw [← z1]
    have z2 : (ws.setIfInBounds 1 v)[2]? = ws[2]? := by
      first
      | exact Array.getElem?_setIfInBounds_ne (by decide)
      | simp [Array.getElem?_setIfInBounds]
    rw [z2]
    exact h3 ws rfl
  | _ =>
    intro vs z
    first
    | exact Data.noConfusion z
    | cases z
/-- an error that is another's context: its own context is None -/
def CtxO (b : Addr) : HO := .ext fun h => ∃ (ob : Obj) (vs : Array Value), h.get? b = some ob ∧ ob.data = .fields vs ∧ vs[2]? = some .none
def Ctx1 (cc : Value) (H : Hp) : Prop := cc = .none ∨ ∃ b, cc = .ref b ∧ H b = some (CtxO b)
theorem ctxO_ok {P : Program} {w : World} {H : Hp} {h : Heap} {b : Addr} {ob : Obj} {vs : Array Value} (e : h.get? b = some ob) (d : ob.data = .fields vs) (n : vs[2]? = some .none) : ObjOk P w H h b (CtxO b) :=
  ⟨⟨ob, vs, e, d, n⟩, ⟨ob, e⟩, fun h1 h2 ⟨o1, v1, e1, d1, n1⟩ st => ⟨o1, v1, st _ e1, d1, n1⟩⟩
/-- an error in the air of X -/
def XE3 (X : Cx) (W : WX) (u : Value) (s' : Shared) : Prop :=
  ∃ (a : Addr) (B : Heap) (sI : Shared) (pins : List (Addr × Obj)) (σ : L2.St) (H : Hp) (cls : Value) (d : Option Addr) (cc : Value),
    u = .ref a ∧ Inv X pins σ H sI ∧ (∀ b o, sI.heap.get? b = some o → b ∉ frs X.stack → B.get? b = some o) ∧ sI.heap.UpToSlots s'.heap ∧
      Sky B X.stack a (Z3 cls d cc) X.env.locals s'.heap ∧ H a = none ∧ s'.os = sI.os ∧ AllBare s'.gens ∧ Ctx1 cc H ∧ W cls d σ H
def Takes3 (X : Cx) (W : WX) : Prop := ∀ u s', XE3 X W u s' → X.xe u s'
/-- behind a call that let one out -/
def CX3 (P : Program) (w : World) (outer : List Env) (H : Hp) (s : Shared) (E : XK) (u : Value) (s' : Shared) : Prop :=
  ∃ (a : Addr) (B : Heap) (Hn : Hp) (cls : Value) (d : Option Addr) (cc : Value), u = .ref a ∧ HandSPX.FlyingZ B outer a (Z3 cls d cc) s'.heap ∧ HOk P w Hn B ∧ UB (frs outer) H Hn s.heap B s'.heap ∧ Hn a = none ∧ s'.os = s.os ∧ AllBare s'.gens ∧ Ctx1 cc Hn ∧ E cls d Hn
section
variable {X : Cx} {pins : List (Addr × Obj)} {σ : L2.St} {H : Hp} {sI s s' : Shared} {B : Heap} {W : WX} {E : XK}
/-- an error without a context is one of these -/
theorem XE3.ofN {u : Value} (x : L2N.XE X W u s') : XE3 X W u s' := by
  obtain ⟨a, B, sI, pins, σ, H, cls, d, e, I, nb, up, sky, na, os, ag, w⟩ := x
  exact ⟨a, B, sI, pins, σ, H, cls, d, .none, e, I, nb, up, sky, na, os, ag, .inl rfl, w⟩
theorem takesN (tk : Takes3 X W) : L2N.Takes X W := fun u s' x => tk u s' (.ofN x)
/-- a state of ours behind a call that let an error out -/
theorem air_of {Z : Obj → Prop} {Hn : Hp} {a : Addr} (I : Inv X pins σ H s) (fly : HandSPX.FlyingZ B X.stack a Z s'.heap) (okn : HOk X.prog X.w Hn B) (un : UB (frs X.stack) H Hn s.heap B s'.heap) (bare : AllBare s'.gens) :
    ∃ sJ : Shared, Inv X pins σ Hn sJ ∧ (∀ b o, sJ.heap.get? b = some o → b ∉ frs X.stack → B.get? b = some o) ∧ sJ.heap.UpToSlots s'.heap ∧ sJ.os = s.os := by
  obtain ⟨G, g1, g2⟩ := restrict s'.heap fun b => (B.get? b).isSome || decide (b ∈ frs X.stack)
  have sB : B.StaysIn s'.heap := fly.1
  have inG : ∀ b o, B.get? b = some o → G.get? b = some o := fun b o x => by
    rw [g1 b (by rw [x]; rfl)]
    exact sB b o x
  have frG : ∀ b, b ∈ frs X.stack → G.get? b = s'.heap.get? b := fun b hb => g1 b (by rw [decide_eq_true hb, Bool.or_true])
  have ofG : ∀ b o, G.get? b = some o → s'.heap.get? b = some o ∧ ((B.get? b).isSome = true ∨ b ∈ frs X.stack) := fun b o x => by
    cases q : ((B.get? b).isSome || decide (b ∈ frs X.stack)) with
    | false =>
      rw [g2 b q] at x
      cases x
    | true =>
      rw [g1 b q] at x
      refine ⟨x, ?_⟩
      rcases Bool.or_eq_true_iff.mp q with z | z
      · exact .inl z
      · exact .inr (of_decide_eq_true z)
  refine ⟨{ s with heap := G, gens := s'.gens, drawn := s'.drawn, toks := s'.toks }, I.call (ch := []) ⟨fun b o x nb hb _ => inG b o (un.keep b o x nb hb), fun b o x nb hb _ => ?_, fun b o x nb _ => un.free b o x nb, fun b o x _ => ?_, un.tups, un.frzs, un.tbls⟩ (okn.kept inG) bare (fun _ z => nomatch z), fun b o x hb => ?_, Heap.UpToSlots.of_keeps fun b o x => (ofG b o x).1, rfl⟩
  · obtain ⟨sl, q⟩ := un.slot b o x hb
    exact ⟨sl, by rw [frG b hb]; exact q⟩
  · by_cases hb : b ∈ frs X.stack
    · obtain ⟨sl, q⟩ := un.slot b o x hb
      exact ⟨_, by rw [frG b hb]; exact q⟩
    · obtain ⟨o', q⟩ := un.there b o x hb
      exact ⟨o', inG b o' q⟩
  · obtain ⟨x1, x2⟩ := ofG b o x
    rcases x2 with w | w
    · obtain ⟨o', q⟩ := Option.isSome_iff_exists.mp w
      have z := sB b o' q
      rw [x1] at z
      cases z
      exact q
    · exact absurd w hb
theorem XE3.of_call (I : Inv X pins σ H s) (hW : ∀ cls d Hn, E cls d Hn → W cls d σ Hn) {u : Value} (c : CX3 X.prog X.w X.stack H s E u s') : XE3 X W u s' := by
  obtain ⟨a, B, Hn, cls, d, cc, rfl, fly, okn, un, na, os, ag, hc, hE⟩ := c
  obtain ⟨sJ, J, nb, up, eo⟩ := air_of I fly okn un ag
  exact ⟨a, B, sJ, pins, σ, Hn, cls, d, cc, rfl, J, nb, up, .inr (.inl fly), na, os.trans eo.symm, ag, hc, hW _ _ _ hE⟩
theorem passes3 (tk : Takes3 X W) (hW : ∀ cls d σ H, E cls d H → W cls d σ H) : Passes (CX3 X.prog X.w) X E := fun _ σ _ _ u s' I c => tk u s' (XE3.of_call I (fun cls d Hn h => hW cls d σ Hn h) c)
/-- it leaves the def -/
theorem XE3.leave (hs : X.stack = X.env :: X.outer) (hf : X.env.frame = some X.env.locals) (hex : X.ex = []) {E₁ : Value → Shared → Prop} (hW : ∀ cls d σ H, W cls d σ H → E cls d H) {u : Value} (x : XE3 X W u s') :
    wpAny (model X.prog X.w) X.A (leaving X.env u) (fun _ s2 => CX3 X.prog X.w X.outer X.H_0 X.s_0 E u s2) E₁ s' := by
  obtain ⟨a, B, sI, pins, σ, H, cls, d, cc, rfl, I, nb, up, sky, na, os, ag, hc, w⟩ := x
  have hfr : X.A.frames = some (X.env :: X.outer) := by
    rw [I.ok.frames, hs]
  have noF : ∀ b o, X.s_0.heap.get? b = some o → b ∉ X.fs → b ∉ frs X.stack := fun b o e hb hm => by
    rcases List.mem_cons.mp (I.stkSub b hm) with z | z
    · have y1 := Heap.lt_size e
      rw [z] at y1
      exact absurd (Nat.lt_of_lt_of_le y1 I.ok.above) (Nat.lt_irrefl _)
    · exact hb z
  have noX : ∀ b, b ∉ X.ex := fun b hb => by
    rw [hex] at hb
    cases hb
  have okB := I.inGround nb
  have fin : ∀ h2, HandSPX.FlyingZ B X.outer a (Z3 cls d cc) h2 → s'.heap.UpToSlots h2 → CX3 X.prog X.w X.outer X.H_0 X.s_0 E (.ref a) { s' with heap := h2 } := fun h2 fly up2 => by
    refine ⟨a, B, H, cls, d, cc, rfl, fly, okB, ⟨fun b o e n hb => nb b o (I.base.keep b o e n hb (noX b)) (noF b o e hb), fun b o e hb => ?_, fun b o e n => I.base.free b o e n (noX b), fun b o e hb => ?_, I.base.tups, I.base.frzs, I.base.tbls⟩, na, os.trans I.os, ag, hc, hW _ _ _ _ w⟩
    · obtain ⟨_, ob, eb, hnf⟩ := I.ok.funs.mem hb
      rw [e] at eb
      cases eb
      obtain ⟨sl, y1⟩ := I.base.slot b o e (I.ok.frf b hb) hb (noX b)
      obtain ⟨sl2, y2⟩ := up b _ y1 hnf
      obtain ⟨sl3, y3⟩ := up2 b _ y2 hnf
      exact ⟨sl3, y3⟩
    · obtain ⟨ob, y1⟩ := I.base.there b o e (noX b)
      exact ⟨ob, nb b ob y1 (noF b o e hb)⟩
  rw [hs] at sky
  rcases sky with ⟨y1, y2, y3, oe, vs, y4, y5, y6, y7⟩ | fl | hd
  · exact PXN.leaving_firstZ Z3.steady hfr y3 hf y4 y1 y2 y6 y7 y5 fin
  · exact PXN.leaves_onZ Z3.steady hfr hf fl fin
  · exact HandSPX.leaves_heldZ hf hd fin
theorem takes_of (hs : X.stack = X.env :: X.outer) (hf : X.env.frame = some X.env.locals) (hex : X.ex = []) {E₁ : Value → Shared → Prop}
    (hx : X.xe = fun e s' => wpAny (model X.prog X.w) X.A (leaving X.env e) (fun _ s2 => CX3 X.prog X.w X.outer X.H_0 X.s_0 E e s2) E₁ s') : Takes3 X (fun cls d _ H => E cls d H) := fun u s' x => by
  rw [hx]
  exact XE3.leave (W := fun cls d _ H => E cls d H) (E := E) hs hf hex (fun _ _ _ _ h => h) x
end
/-! ### a suite that raises: the error's context is the one that is handled, at b -/
def XEC (b : Addr) (X : Cx) (W : WX) (u : Value) (s' : Shared) : Prop :=
  ∃ (a : Addr) (B : Heap) (sI : Shared) (pins : List (Addr × Obj)) (σ : L2.St) (H : Hp) (cls : Value) (d : Option Addr),
    u = .ref a ∧ Inv X pins σ H sI ∧ (∀ c o, sI.heap.get? c = some o → c ∉ frs X.stack → B.get? c = some o) ∧ sI.heap.UpToSlots s'.heap ∧
      Sky B X.stack a (Z3 cls d (.ref b)) X.env.locals s'.heap ∧ H a = none ∧ s'.os = sI.os ∧ AllBare s'.gens ∧ W cls d σ H
def TakesC (b : Addr) (X : Cx) (W : WX) : Prop := ∀ u s', XEC b X W u s' → X.xe u s'
theorem ps_raiseC {X : Cx} {W : WX} {e : Expr} {t : L2.St → Hp → XK → Prop} {pos : Pos} {p : Addr × Obj} (hot : L2H.Hot1 X.A p) (hp : p ∈ X.pn) (tk : TakesC p.1 X W) (he : L2N.PMk X e t) : PS X (.Raise (some e) none pos) (fun _ σ H => t σ H fun cls d Hn => W cls d σ Hn) := by
  refine ⟨fun pins s σ H D I h => ?_⟩
  obtain ⟨hh, pv, p1, p2⟩ := hot
  show wpAny _ _ (do standAt pos; raiseStmt X.env (some (do let v ← eval e X.env; standAt pos; pure v)) none) _ _ _
  refine wpAny_bind (wpAny_standAt (HotX.raise_made_hot (x1 := p.1) (wpAny_bind (wpAny_mono (he pins s σ H _ I h) (fun u s1 hu => wpAny_bind (wpAny_standAt (wpAny_pure ?_))) fun _ _ x => x))))
  obtain ⟨a, oe, vs, sI, Hn, cls, d, rfl, J, keep, fresh, ha, hz, hd, hn1, na, os, ag, ra, q⟩ := hu
  obtain ⟨r1, r2⟩ := ra (model X.prog X.w) s1.heap (J.kIn.keeps keep)
  have atP := (J.pin p (List.mem_append_left _ hp)).1
  have ne : p.1 ≠ a := fun z => by
    rw [z, fresh] at atP
    cases atP
  have l2 : 2 < vs.size := (Array.getElem?_eq_some_iff.mp (hz.2.2 vs hd)).1
  have new1 : (vs.setIfInBounds 2 (Value.ref p.1))[1]? = some Value.none := by
    have y : (vs.setIfInBounds 2 (Value.ref p.1))[1]? = vs[1]? := by
      first
      | exact Array.getElem?_setIfInBounds_ne (by decide)
      | simp [Array.getElem?_setIfInBounds]
    rw [y]
    exact hn1
  have new2 : (vs.setIfInBounds 2 (Value.ref p.1))[2]? = some (Value.ref p.1) := by
    simp [l2]
  have dat := Obj.data_mapFields hd fun ws => ws.setIfInBounds 2 (Value.ref p.1)
  have at' : (s1.heap.update a (Obj.mapFields (·.setIfInBounds 2 (.ref p.1)))).get? a = some (oe.mapFields (·.setIfInBounds 2 (.ref p.1))) := Heap.get?_update_self _ ha (Obj.isFreed_of_fields dat)
  have kept : ∀ b u, sI.heap.get? b = some u → (s1.heap.update a (Obj.mapFields (·.setIfInBounds 2 (.ref p.1)))).get? b = some u := fun b u z => by
    rw [Heap.get?_update_other _ _ (fun y => by rw [y, z] at fresh; cases fresh)]
    exact keep b u z
  have z3 : Z3 cls d (.ref p.1) (oe.mapFields (·.setIfInBounds 2 (.ref p.1))) := ⟨(Obj.cls_mapFields ..).trans hz.1, (HandSPX.dict_mapFields ..).trans hz.2.1, fun ws y => by
    rw [dat] at y
    cases y
    exact new2⟩
  refine ⟨a, oe, vs, cls, rfl, ha, hz.1, hd, hn1, l2, ne, ⟨hh, p.2, pv, keep _ _ atP, p1, p2⟩, r1, r2, tk _ _ ⟨a, PySem.W.hideAll sI.heap (frs X.stack), sI, pins, σ, Hn, cls, d, rfl, J, fun b o y hb => PySem.W.hideAll_get _ y hb, Heap.UpToSlots.of_keeps kept, .inl ⟨fun b o y => kept b o (PySem.W.of_hideAll _ y), ?_, ?_, _, _, at', z3, dat, new1⟩, na, os, ag, q⟩⟩
  · cases y : (PySem.W.hideAll sI.heap (frs X.stack)).get? a with
    | none => rfl
    | some o =>
      rw [PySem.W.of_hideAll _ y] at fresh
      cases fresh
  · exact Heap.FunFrames.of_keeps (fun b o y _ => ⟨o, kept b o y, rfl⟩) (funFrames_none J.stack fun b hb => PySem.W.hideAll_none _ hb)
/-- an object that nobody tracks is tracked from now on -/
theorem Inv_track {X : Cx} {pins : List (Addr × Obj)} {σ : L2.St} {H : Hp} {s : Shared} {b : Addr} {o : Obj} {φ : Heap → Prop} (I : Inv X pins σ H s) (hb : s.heap.get? b = some o) (hn : H b = none) (new : ObjOk X.prog X.w (upd H b (.ext φ)) s.heap b (.ext φ)) (nL : b ≠ X.env.locals) (nF : b ∉ X.fs) (n0 : X.s_0.heap.get? b = none) (nC : ∀ x c, X.env.cells.lookup x = some c → c ≠ b) (nP : ∀ p ∈ X.pn ++ pins, p.1 ≠ b) : Inv X pins σ (upd H b (.ext φ)) s := by
  have same : ∀ c, c ≠ b → upd H b (.ext φ) c = H c := fun c hc => upd_ne hc
  have old : ∀ c o', X.s_0.heap.get? c = some o' → c ≠ b := fun c o' e z => by
    rw [z, n0] at e
    cases e
  have big : ∀ c u, H c = some u → upd H b (.ext φ) c = some u := fun c u e => by
    rw [same c (ne_of_none e hn)]
    exact e
  refine ⟨I.ok, I.os, I.bare, ⟨I.base.keep, I.base.slot, fun c o' e n hx => ?_, I.base.there, fun c xs e => big c _ (I.base.tups c xs e), fun c ob u e => big c _ (I.base.frzs c ob u e), fun c ps e => ?_⟩, I.loc, I.cell, ?_, fun x c e => ?_, fun p hp => ?_, fun c u e => ?_, I.len⟩
  · rw [same c (old c o' e)]
    exact I.base.free c o' e n hx
  · obtain ⟨m, y⟩ := I.base.tbls c ps e
    exact ⟨m, big c _ y⟩
  · rw [same _ (Ne.symm nL)]
    exact I.free
  · rw [same c (nC x c e)]
    exact I.freeC x c e
  · obtain ⟨y1, y2, y3⟩ := I.pin p hp
    exact ⟨y1, by rw [same _ (nP p hp)]; exact y2, y3⟩
  · by_cases z : c = b
    · subst z
      rw [upd_same] at e
      cases e
      exact new
    · rw [same c z] at e
      refine (I.hok c u e).stay (fun _ _ _ y => y) (fun y hy => big y _ hy) fun y xs hy => big y _ hy
section
variable {X : Cx} {x : Str} {c : Value} {body suite : List Stmt} {b₀ : Stmt} {np pos pos' : Pos} {tb : WX → TS} {ts : Addr → Value → Option Addr → TS} {Wout : WX}
/-- try: body (its errors have no context) except x: suite, which may raise -/
theorem ps_try_only3 (hs : X.stack = X.env :: X.outer) (hf : X.env.frame = some X.env.locals) (hex : X.ex = []) (hc : Names X x c) (hpa : ∀ hd : Option Value, PassesOwnAt (model X.prog X.w) (X.A.mark hd) X.A X.env X.xe) (tk : Takes3 X Wout)
    (hb : ∀ (W : WX) (pn : List (Addr × Obj)) (xe : Value → Shared → Prop), L2N.Takes (X.tr pn xe) W → PassesOwn (model X.prog X.w) X.A X.env xe → PSs (X.tr pn xe) body (tb W))
    (hsu : ∀ (a : Addr) (oe : Obj) (cls : Value) (d : Option Addr) (pn : List (Addr × Obj)), L2N.Zn cls d oe → L2H.Hot1 (L2H.suiteX X a ((a, oe) :: pn)).A (a, oe) → TakesC a (L2H.suiteX X a ((a, oe) :: pn)) (fun cls d σ H => H a = none → Wout cls d σ (upd H a (CtxO a))) →
      PSs (L2H.suiteX X a ((a, oe) :: pn)) (b₀ :: suite) (ts a cls d)) :
    PS X (.Try body [.ExceptHandler (some (.Name x np)) none (b₀ :: suite) pos'] [] [] pos) (fun D σ H => tb (wOnly X.K c ts Wout D) D σ H) := by
  refine ⟨fun pins s σ H D I h => ?_⟩
  have ok := I.ok
  have fr0 : X.A.frames = some (X.env :: X.outer) := by
    rw [ok.frames, hs]
  refine wpAny_Try_except ?_
  refine wpAny_mono ((hb (wOnly X.K c ts Wout D) (X.pn ++ pins) (fun e s₁ => wpAny (model X.prog X.w) X.A (noteFrame e X.env) (fun _ s₂ => wpAny (model X.prog X.w) X.A (setFlight e none) (fun _ s₃ =>
    wpAny (model X.prog X.w) X.A (handleBy e X.env [.ExceptHandler (some (.Name x np)) none (b₀ :: suite) pos']) (SP X pins D) X.xe s₃) X.xe s₂) X.xe s₁) (fun u s' xx => ?_) PassesOwn.looking).run [] s σ H D (I.toTry _) h) (fun f s1 hsp => ?_) (fun e s1 he => he)
  · obtain ⟨a, B, sI, pn1, σ1, H1, cls, d, rfl, J1, nb, up, sky, na, os, ag, b, hb1, yes, no⟩ := xx
    have J : Inv X pins σ1 H1 sI := J1.ofTry ok
    have sky1 : Sky B (X.env :: X.outer) a (L2N.Zn cls d) X.env.locals s'.heap := by
      rw [← hs]
      exact sky
    show wpAny (model X.prog X.w) X.A (noteFrame (.ref a) X.env) _ _ _
    refine L2N.Sky.land L2N.Zn.steady fr0 hf sky1 fun h3 fl3 up3 => ?_
    have J3 : Inv X pins σ1 H1 { s' with heap := h3 } := J.landed nb fl3.1 (up.trans up3) os ag
    obtain ⟨oe3, vs3, he3, hz3, hd3⟩ := fl3.there
    have off : ∀ {h : Heap} {o : Obj} {vs : Array Value}, h.FunFrames B (X.env :: X.outer) → h.get? a = some o → o.data = .fields vs → a ∉ frs (X.env :: X.outer) := fun {h o vs} ff e dd hm => by
      obtain ⟨_, o', e', hnf⟩ := ff.mem hm
      rw [e] at e'
      cases e'
      exact hnf _ dd
    have nfr := off fl3.2.2.1 he3 hd3
    have nL : a ≠ X.env.locals := fun z => nfr (List.mem_filterMap.mpr ⟨X.env, List.mem_cons_self, by rw [hf, z]⟩)
    have nF : a ∉ X.fs := fun hm => by
      obtain ⟨v, hv, q⟩ := List.mem_filterMap.mp hm
      exact nfr (List.mem_filterMap.mpr ⟨v, List.mem_cons_of_mem _ hv, q⟩)
    have nB : B.get? a = none := fl3.2.1
    have n0 : X.s_0.heap.get? a = none := by
      cases q : X.s_0.heap.get? a with
      | none => rfl
      | some o =>
        obtain ⟨o', q'⟩ := J.base.there a o q (by rw [hex]; simp)
        rw [nb a o' q' (by rw [hs]; exact nfr)] at nB
        cases nB
    have nP : ∀ p ∈ X.pn ++ pins, p.1 ≠ a := fun p hp z => by
      have y := (J.pin p hp).1
      rw [z] at y
      rw [nb a _ y (by rw [hs]; exact nfr)] at nB
      cases nB
    have nC : ∀ x c, X.env.cells.lookup x = some c → c ≠ a := fun y cc e z => by
      obtain ⟨v, ob, q1, q2⟩ := J3.cell y cc e
      rw [z] at q1
      have q1 : h3.get? a = some ob := q1
      rw [he3] at q1
      cases q1
      rw [hd3] at q2
      cases q2
    have S3 := J3.suite he3 hd3 na nL nF
    refine wpAny_handleBy_cons (codeAny_handlers_test ?_) (by intro q; cases q)
    have LT : PySem.W.Looks (model X.prog X.w) h3 (typeOf (.ref a)) cls := fun A Q E s k q => wpAny_typeOf_ref (k _ _ he3) (by rw [hz3.1]; exact q)
    have LM := PySem.W.exm_one (M := model X.prog X.w) (J3.kIn) LT hb1
    have test : ∀ {Q : Value → Shared → Prop} {E : Value → Shared → Prop}, Q c { s' with heap := h3 } → wpAny (model X.prog X.w) (X.A.mark (some (.ref a))) (eval (.Name x np) X.env) Q E { s' with heap := h3 } := fun {Q E} q => by
      obtain ⟨y1, y2, y3 | ⟨y3, y4, y5⟩⟩ := hc
      · exact ld_glob (X := X.suite a ((a, oe3) :: (X.pn ++ pins))) S3 y1 y3 q y2
      · exact ld_blt (X := X.suite a ((a, oe3) :: (X.pn ++ pins))) S3 y1 y3 y4 q y5 y2
    refine test (LM.here ?_)
    cases b with
    | true =>
      refine codeAny_handlers_suite ?_
      refine HandSPX.lands_againZ fl3 fun h4 fl4 up4 => ?_
      have J4 : Inv X pins σ1 H1 { s' with heap := h4 } := J.landed nb fl4.1 ((up.trans up3).trans up4) os ag
      obtain ⟨oe4, vs4, he4, hz4, hd4⟩ := fl4.there
      have S4 := J4.suite he4 hd4 na nL nF
      have hot : L2H.Hot1 (L2H.suiteX X a ((a, oe4) :: (X.pn ++ pins))).A (a, oe4) := ⟨rfl, vs4, hd4, hz4.2.2 vs4 hd4⟩
      have tkS : TakesC a (L2H.suiteX X a ((a, oe4) :: (X.pn ++ pins))) (fun cls d σ H => H a = none → Wout cls d σ (upd H a (CtxO a))) := fun u2 s2 x2 => by
        obtain ⟨a2, B2, sI2, pn2, σ2, H2, cls2, d2, e2, I2, nb2, up2, sky2, na2, os2, ag2, w2⟩ := x2
        obtain ⟨y1, y2, _⟩ := I2.pin (a, oe4) (List.mem_append_left _ List.mem_cons_self)
        have K2 := L2H.unsuiteX I2 ok
        have ne2 : a2 ≠ a := fun z => by
          have y3 : B2.get? a = some oe4 := nb2 a oe4 y1 (by rw [hs]; exact nfr)
          rw [← z] at y3
          rcases sky2 with ⟨_, q, _⟩ | q | q
          · rw [y3] at q
            cases q
          · have q := q.2.1
            rw [y3] at q
            cases q
          · have q := q.2.1
            rw [y3] at q
            cases q
        have T2 := Inv_track K2 y1 y2 (φ := fun h => ∃ (ob : Obj) (vs : Array Value), h.get? a = some ob ∧ ob.data = .fields vs ∧ vs[2]? = some .none) (ctxO_ok y1 hd4 (hz4.2.2 vs4 hd4)) nL nF n0 nC nP
        exact tk u2 s2 ⟨a2, B2, sI2, pins, σ2, upd H2 a (CtxO a), cls2, d2, .ref a, e2, T2, nb2, up2, sky2, by rw [upd_ne ne2]; exact na2, os2, ag2, .inr ⟨a, rfl, upd_same⟩, w2 y2⟩
      refine wpAny_mono ((hsu a oe4 cls d (X.pn ++ pins) hz4 hot tkS).run [] _ _ H1 _ (L2H.suiteX_of S4) (yes rfl a na)) (fun f s6 hsp => ?_) (fun e6 s6 z => hpa (some (.ref a)) e6 s6 z)
      cases f with
      | next =>
        obtain ⟨σ6, H6, S6, q6⟩ := hsp
        exact ⟨_, _, L2H.unsuiteX S6 ok, q6⟩
      | brk =>
        obtain ⟨σ6, H6, S6, q6⟩ := hsp
        exact ⟨_, _, L2H.unsuiteX S6 ok, q6⟩
      | cont =>
        obtain ⟨σ6, H6, S6, q6⟩ := hsp
        exact ⟨_, _, L2H.unsuiteX S6 ok, q6⟩
      | ret u =>
        obtain ⟨v6, σ6, H6, S6, r6, q6⟩ := hsp
        exact ⟨_, _, _, L2H.unsuiteX S6 ok, r6, q6⟩
    | false =>
      show wpAny _ X.A (handleBy (.ref a) X.env []) _ _ _
      refine wpAny_handleBy_nil ?_
      obtain ⟨y1, y2, y3, oe, vs, T, oT, ts', y4, y5, y6, y7, y8⟩ := id fl3
      unfold PySem.passOn
      refine wpAny_bind (wpAny_field y4 y6 y7 ?_)
      rw [if_neg (show ¬ ((Value.ref T == Value.none) = true) from by simp), hf]
      have fin : wpAny (model X.prog X.w) X.A (setFlight (.ref a) (some X.env.locals)) (fun _ s4 => wpAny (model X.prog X.w) X.A (throw (.ref a) : Sem Flow) (SP X pins D) X.xe s4) X.xe { s' with heap := h3 } :=
        HandSPX.setFlight_upZ fl3 fun h4 hh4 up4 => wpAny_throw (takesN tk _ _ ⟨a, B, sI, pins, σ1, H1, cls, d, rfl, J, nb, (up.trans up3).trans up4, .inr (.inr (by rw [hs]; exact hh4)), na, os, ag, no rfl⟩)
      first
        | exact wpAny_bind (wpAny_pure (wpAny_bind fin))
        | exact wpAny_bind fin
  · cases f with
    | next =>
      obtain ⟨σ', H', J', q⟩ := hsp
      exact wpAny_execs_nil ⟨σ', H', J'.ofTry ok, q⟩
    | brk =>
      obtain ⟨σ', H', J', q⟩ := hsp
      exact ⟨σ', H', J'.ofTry ok, q⟩
    | cont =>
      obtain ⟨σ', H', J', q⟩ := hsp
      exact ⟨σ', H', J'.ofTry ok, q⟩
    | ret u =>
      obtain ⟨v, σ', H', J', r, q⟩ := hsp
      exact ⟨v, σ', H', J'.ofTry ok, r, q⟩
end
/-! ### caught: the error's context is known -/
def wAs3 (K : PySem.W.Frag) (c : Value) (i : Nat) (ts : Addr → Value → Option Addr → Value → TS) (Wout : WX) (D : Ends) : WX := fun cls d σ H =>
  ∃ b, PySem.W.exmOne K cls c = some b ∧ (b = true → ∀ a cc, H a = none → Ctx1 cc H → ts a cls d cc { nx := fun σ' H' => D.nx (σ'.set i none) H', rt := D.rt, bk := fun σ' H' => D.bk (σ'.set i none) H', ct := fun σ' H' => D.ct (σ'.set i none) H' } (σ.set i (some (.ref a))) H) ∧ (b = false → Wout cls d σ H)
section
variable {X : Cx} {x n : Str} {c : Value} {i : Nat} {body suite : List Stmt} {b₀ : Stmt} {np pos pos' : Pos} {tb : WX → TS} {ts : Addr → Value → Option Addr → Value → TS} {Wout : WX}
theorem ps_try_as3 (hs : X.stack = X.env :: X.outer) (hf : X.env.frame = some X.env.locals) (hN : X.N.Nodup) (hi : X.N[i]? = some n) (hln : X.env.kindOf n = some .local) (hc : Names X x c) (tk : Takes3 X Wout)
    (hb : ∀ (W : WX) (pn : List (Addr × Obj)) (xe : Value → Shared → Prop), Takes3 (X.tr pn xe) W → PassesOwn (model X.prog X.w) X.A X.env xe → PSs (X.tr pn xe) body (tb W))
    (hsu : ∀ (a : Addr) (oe : Obj) (cls : Value) (d : Option Addr) (cc : Value) (pn : List (Addr × Obj)), Z3 cls d cc oe → (∃ vs, oe.data = .fields vs) → PSs (X.suite a ((a, oe) :: pn)) (b₀ :: suite) (ts a cls d cc)) :
    PS X (.Try body [.ExceptHandler (some (.Name x np)) (some n) (b₀ :: suite) pos'] [] [] pos) (fun D σ H => tb (wAs3 X.K c i ts Wout D) D σ H) := by
  refine ⟨fun pins s σ H D I h => ?_⟩
  have ok := I.ok
  have fr0 : X.A.frames = some (X.env :: X.outer) := by
    rw [ok.frames, hs]
  refine wpAny_Try_except ?_
  refine wpAny_mono ((hb (wAs3 X.K c i ts Wout D) (X.pn ++ pins) (fun e s₁ => wpAny (model X.prog X.w) X.A (noteFrame e X.env) (fun _ s₂ => wpAny (model X.prog X.w) X.A (setFlight e none) (fun _ s₃ =>
    wpAny (model X.prog X.w) X.A (handleBy e X.env [.ExceptHandler (some (.Name x np)) (some n) (b₀ :: suite) pos']) (SP X pins D) X.xe s₃) X.xe s₂) X.xe s₁) (fun u s' xx => ?_) PassesOwn.looking).run [] s σ H D (I.toTry _) h) (fun f s1 hsp => ?_) (fun e s1 he => he)
  · obtain ⟨a, B, sI, pn1, σ1, H1, cls, d, cc, rfl, J1, nb, up, sky, na, os, ag, hcc, b, hb1, yes, no⟩ := xx
    have J : Inv X pins σ1 H1 sI := J1.ofTry ok
    have sky1 : Sky B (X.env :: X.outer) a (Z3 cls d cc) X.env.locals s'.heap := by
      rw [← hs]
      exact sky
    show wpAny (model X.prog X.w) X.A (noteFrame (.ref a) X.env) _ _ _
    refine L2N.Sky.land Z3.steady fr0 hf sky1 fun h3 fl3 up3 => ?_
    have J3 : Inv X pins σ1 H1 { s' with heap := h3 } := J.landed nb fl3.1 (up.trans up3) os ag
    obtain ⟨oe3, vs3, he3, hz3, hd3⟩ := fl3.there
    have nfr : a ∉ frs (X.env :: X.outer) := fun hm => by
      obtain ⟨_, o', e', hnf⟩ := fl3.2.2.1.mem hm
      rw [he3] at e'
      cases e'
      exact hnf _ hd3
    have nL : a ≠ X.env.locals := fun z => nfr (List.mem_filterMap.mpr ⟨X.env, List.mem_cons_self, by rw [hf, z]⟩)
    have nF : a ∉ X.fs := fun hm => by
      obtain ⟨v, hv, q⟩ := List.mem_filterMap.mp hm
      exact nfr (List.mem_filterMap.mpr ⟨v, List.mem_cons_of_mem _ hv, q⟩)
    have S3 := J3.suite he3 hd3 na nL nF
    refine wpAny_handleBy_cons (codeAny_handlers_test ?_) (by intro q; cases q)
    have LT : PySem.W.Looks (model X.prog X.w) h3 (typeOf (.ref a)) cls := fun A Q E s k q => wpAny_typeOf_ref (k _ _ he3) (by rw [hz3.1]; exact q)
    have LM := PySem.W.exm_one (M := model X.prog X.w) (J3.kIn) LT hb1
    have test : ∀ {Q : Value → Shared → Prop} {E : Value → Shared → Prop}, Q c { s' with heap := h3 } → wpAny (model X.prog X.w) (X.A.mark (some (.ref a))) (eval (.Name x np) X.env) Q E { s' with heap := h3 } := fun {Q E} q => by
      obtain ⟨y1, y2, y3 | ⟨y3, y4, y5⟩⟩ := hc
      · exact ld_glob (X := X.suite a ((a, oe3) :: (X.pn ++ pins))) S3 y1 y3 q y2
      · exact ld_blt (X := X.suite a ((a, oe3) :: (X.pn ++ pins))) S3 y1 y3 y4 q y5 y2
    refine test (LM.here ?_)
    cases b with
    | true =>
      refine codeAny_handlers_suite_as ?_
      refine HandSPX.lands_againZ fl3 fun h4 fl4 up4 => ?_
      have J4 : Inv X pins σ1 H1 { s' with heap := h4 } := J.landed nb fl4.1 ((up.trans up3).trans up4) os ag
      obtain ⟨oe4, vs4, he4, hz4, hd4⟩ := fl4.there
      have S4 := J4.suite he4 hd4 na nL nF
      refine store_ok (X := X.suite a ((a, oe4) :: (X.pn ++ pins))) (v := .ref a) S4 hN hi (.inl hln) rfl (fun s5 S5 => ?_) (.inr hln)
      refine wpAny_mono ((hsu a oe4 cls d cc (X.pn ++ pins) hz4 ⟨_, hd4⟩).run [] s5 _ H1 _ S5 (yes rfl a cc na hcc)) (fun f s6 hsp => ?_) (fun _ _ z => False.elim z)
      have over : ∀ {σ6 : L2.St} {H6 : Hp} {Q : Shared → Prop}, Inv (X.suite a ((a, oe4) :: (X.pn ++ pins))) [] σ6 H6 s6 → (∀ s7, Inv X pins (σ6.set i none) H6 s7 → Q s7) →
          wpAny (model X.prog X.w) X.A (do bindName X.env n .none; unbindBehindTheSuite X.env n pos') (fun _ s7 => Q s7) X.xe s6 := fun {σ6 H6 Q} S6 hq => gone_ok (S6.unsuite ok) hN hi hln hq
      cases f with
      | next =>
        obtain ⟨σ6, H6, S6, q6⟩ := hsp
        exact over S6 fun s7 J7 => ⟨_, _, J7, q6⟩
      | brk =>
        obtain ⟨σ6, H6, S6, q6⟩ := hsp
        exact over S6 fun s7 J7 => ⟨_, _, J7, q6⟩
      | cont =>
        obtain ⟨σ6, H6, S6, q6⟩ := hsp
        exact over S6 fun s7 J7 => ⟨_, _, J7, q6⟩
      | ret u =>
        obtain ⟨v6, σ6, H6, S6, r6, q6⟩ := hsp
        exact over S6 fun s7 J7 => ⟨_, _, _, J7, r6, q6⟩
    | false =>
      show wpAny _ X.A (handleBy (.ref a) X.env []) _ _ _
      refine wpAny_handleBy_nil ?_
      obtain ⟨y1, y2, y3, oe, vs, T, oT, ts', y4, y5, y6, y7, y8⟩ := id fl3
      unfold PySem.passOn
      refine wpAny_bind (wpAny_field y4 y6 y7 ?_)
      rw [if_neg (show ¬ ((Value.ref T == Value.none) = true) from by simp), hf]
      have fin : wpAny (model X.prog X.w) X.A (setFlight (.ref a) (some X.env.locals)) (fun _ s4 => wpAny (model X.prog X.w) X.A (throw (.ref a) : Sem Flow) (SP X pins D) X.xe s4) X.xe { s' with heap := h3 } :=
        HandSPX.setFlight_upZ fl3 fun h4 hh4 up4 => wpAny_throw (tk _ _ ⟨a, B, sI, pins, σ1, H1, cls, d, cc, rfl, J, nb, (up.trans up3).trans up4, .inr (.inr (by rw [hs]; exact hh4)), na, os, ag, hcc, no rfl⟩)
      first
        | exact wpAny_bind (wpAny_pure (wpAny_bind fin))
        | exact wpAny_bind fin
  · cases f with
    | next =>
      obtain ⟨σ', H', J', q⟩ := hsp
      exact wpAny_execs_nil ⟨σ', H', J'.ofTry ok, q⟩
    | brk =>
      obtain ⟨σ', H', J', q⟩ := hsp
      exact ⟨σ', H', J'.ofTry ok, q⟩
    | cont =>
      obtain ⟨σ', H', J', q⟩ := hsp
      exact ⟨σ', H', J'.ofTry ok, q⟩
    | ret u =>
      obtain ⟨v, σ', H', J', r, q⟩ := hsp
      exact ⟨v, σ', H', J'.ofTry ok, r, q⟩
end
/-! ### any() while an error with a context is handled -/
/-- the handled one's chain: x1, then b, then none -/
def Chain2 (h : Heap) (x1 : Addr) : Prop := ∃ (o1 : Obj) (v1 : Array Value), h.get? x1 = some o1 ∧ o1.data = .fields v1 ∧ (v1[2]? = some .none ∨ ∃ b ob vb, v1[2]? = some (.ref b) ∧ b ≠ x1 ∧ h.get? b = some ob ∧ ob.data = .fields vb ∧ vb[2]? = some .none)
theorem Chain2.keeps {h h' : Heap} {x1 : Addr} (c : Chain2 h x1) (k : ∀ b o, h.get? b = some o → h'.get? b = some o) : Chain2 h' x1 := by
  obtain ⟨o1, v1, e1, d1, z⟩ := c
  refine ⟨o1, v1, k _ _ e1, d1, ?_⟩
  rcases z with z | ⟨b, ob, vb, z1, z2, z3, z4⟩
  · exact .inl z
  · exact .inr ⟨b, ob, vb, z1, z2, k _ _ z3, z4⟩
section
variable {prog : Program} {w : World} {A : Around} {E : Value → Shared → Prop} {s : Shared}
theorem unchain2 {x1 a : Addr} {Q : Value → Shared → Prop} (c : Chain2 s.heap x1) (na : ∀ o, s.heap.get? a = some o → a ≠ x1) (nb : ∀ (b : Addr) (o1 : Obj) (v1 : Array Value), s.heap.get? x1 = some o1 → o1.data = .fields v1 → v1[2]? = some (.ref b) → b ≠ a) (q : Q .none s) :
    wpAny (model prog w) A (runValue (.builtin "proto.unchain" ⟨[.ref a, .ref x1, .ref x1, .bool false], []⟩)) Q E s := by
  obtain ⟨o1, v1, e1, d1, z⟩ := c
  rcases z with z | ⟨b, ob, vb, z1, z2, z3, z4, z5⟩
  · exact wpAny_unchain e1 d1 z q
  · have ba := nb b o1 v1 e1 d1 z1
    refine wpAny_runValue (codeAny_builtin entry_unchain ?_)
    unfold Builtin.«proto.unchain»
    dsimp only
    refine wpAny_bind (wpAny_field e1 d1 z1 ?_)
    rw [if_neg (show ¬ ((Value.ref b == Value.none) = true) from by simp)]
    rw [if_neg (show ¬ ((Value.ref b == Value.ref a) = true) from by simp [ba])]
    rw [if_neg (show ¬ ((Value.ref b == Value.ref x1) = true) from by simp [z2])]
    rw [if_neg Bool.false_ne_true]
    refine wpAny_bind (wpAny_pure (wpAny_pure ⟨plainId_quiet (by kernel_rfl) _, codeAny_builtin entry_unchain ?_⟩))
    unfold Builtin.«proto.unchain»
    dsimp only
    refine wpAny_bind (wpAny_field z3 z4 z5 ?_)
    rw [if_pos (show (Value.none == Value.none) = true from by simp)]
    first
      | exact wpAny_bind (wpAny_pure (wpAny_pure q))
      | exact wpAny_pure q
theorem raise_hot2 {α : Type} {a x1 : Addr} {oe : Obj} {vs : Array Value} {Q : α → Shared → Prop} (hh : A.handled = some (.ref x1)) (c : Chain2 s.heap x1) (hne : x1 ≠ a) (nb : ∀ (b : Addr) (o1 : Obj) (v1 : Array Value), s.heap.get? x1 = some o1 → o1.data = .fields v1 → v1[2]? = some (.ref b) → b ≠ a) (ha : s.heap.get? a = some oe) (da : oe.data = .fields vs) (hi : 2 < vs.size)
    (hE : E (.ref a) { s with heap := s.heap.update a (Obj.mapFields (·.setIfInBounds 2 (.ref x1))) }) : wpAny (model prog w) A (raiseNew (.ref a) : Sem α) Q E s := by
  unfold raiseNew
  refine wpAny_bind (wpAny_handled ?_)
  rw [hh]
  dsimp only
  rw [if_pos (HotX.ref_bne hne)]
  first
    | (refine wpAny_bind (wpAny_holding (unchain2 c (fun _ _ => Ne.symm hne) nb ?_))
       refine wpAny_bind ?_
       exact HotX.chained ha da hi (wpAny_throw hE))
    | (refine wpAny_bind (wpAny_bind (wpAny_holding (unchain2 c (fun _ _ => Ne.symm hne) nb ?_)))
       exact HotX.chained ha da hi (wpAny_throw hE))
/-- a list's iterator ends -/
theorem list_end2 {it l x1 : Addr} {i : Nat} {items : Array Value} {Q : Option Value → Shared → Prop} (hh : A.handled = some (.ref x1)) (c : Chain2 s.heap x1) (k : ∀ h', (∀ b o, b ≠ it → s.heap.get? b = some o → h'.get? b = some o) → Chain2 h' x1) (hne : x1 ≠ it)
    (hit : s.heap.IsListIter it l i) (hl : s.heap.IsList l items) (hx : items[i]? = none)
    (hQ : ∀ h', (∀ b o, b ≠ it → s.heap.get? b = some o → h'.get? b = some o) → Q none { s with heap := h' }) : wpAny (model prog w) A (pyNext (.ref it)) Q E s := by
  obtain ⟨o, ho, hc, hd⟩ := id hit
  obtain ⟨ol, hol, _, nl, hdl⟩ := hl
  unfold pyNext
  refine wpAny_bind (wpAny_attempt (wpAny_callSpecial?_slot (name := Str.ofString "__next__") hit.typeIs slot_listiter_next
    (wpAny_call_entry slot_listiter_next hit.typeIs entry_listiter_next ?_ (args_listiter_next _))))
  show wpAny _ _ (field (.ref it) 0 >>= _) _ _ s
  refine wpAny_bind (wpAny_field ho hd (x := .ref l) rfl ?_)
  show wpAny _ _ (if (Value.ref l == Value.none) = true then _ else _) _ _ s
  rw [if_neg (show ¬ ((Value.ref l == Value.none) = true) from Bool.false_ne_true)]
  show wpAny _ _ (field (.ref it) 1 >>= _) _ _ s
  refine wpAny_bind (wpAny_field ho hd (x := .int i 0) rfl ?_)
  show wpAny _ _ (seqItems? (.ref l) >>= _) _ _ s
  refine wpAny_bind (wpAny_seqItems hol hdl ?_)
  simp only [Int.toNat_natCast, hx]
  refine wpAny_bind (wpAny_rule (wpAny_bind (wpAny_setField ho hd (by simp) ?_)))
  show wpAny _ _ (newExc (.type "StopIteration") [] >>= _) _ _ _
  refine wpAny_bind ?_
  simp only [newExc, newTuple]
  refine wpAny_bind (wpAny_newObj_type ?_ (by size_fits))
  refine wpAny_bind (m := firstArgMember _ _) (wpAny_of_eq (a := Value.none) (by first | rfl | (simp only [firstArgMember]; rfl)) ?_)
  refine wpAny_newObj_type ?_ (by size_fits)
  have k1 : ∀ b o', b ≠ it → s.heap.get? b = some o' → (s.heap.update it (Obj.mapFields (·.setIfInBounds 0 .none))).get? b = some o' := fun b o' hb e => by
    rw [Heap.get?_update_other _ _ (Ne.symm hb)]
    exact e
  have c1 := k _ k1
  obtain ⟨o1, v1, e1, d1, z⟩ := id c1
  refine raise_hot2 (x1 := x1) hh ((c1.keeps fun b o e => Heap.get?_push_of_some _ e).keeps fun b o e => Heap.get?_push_of_some _ e) (Nat.ne_of_lt (Heap.lt_size (Heap.get?_push_of_some _ e1))) (fun b o2 v2 y1 y2 y3 => ?_) (Heap.get?_push_size _ rfl) rfl (by first | (simp; done) | (simp; omega) | (simp only [Array.size_append]; simp; omega)) ?_
  · have y4 := Heap.get?_push_of_some { cls := Value.type "StopIteration", data := Data.fields (#[Value.ref (s.heap.update it (Obj.mapFields fun x => x.setIfInBounds 0 Value.none)).objs.size, Value.none, Value.none, Value.none, Value.bool false, Value.none] ++ ownMembersOf (Value.type "StopIteration") []) } (Heap.get?_push_of_some { cls := Value.type "tuple", data := Data.seq #[] } e1)
    have y5 := y4.symm.trans y1
    cases y5
    rw [d1] at y2
    cases y2
    rcases z with z | ⟨b', ob, vb, z1, z2, z3, z4, z5⟩
    · rw [z] at y3
      cases y3
    · rw [z1] at y3
      cases y3
      exact Nat.ne_of_lt (Heap.lt_size (Heap.get?_push_of_some _ z3))
  refine wpAny_bind (wpAny_isInstance (T := "StopIteration") (b := true) ⟨_, Heap.get?_update_self _ (Heap.get?_push_size _ rfl) rfl, rfl⟩ isSubtype_stop ?_)
  refine wpAny_pure (hQ _ fun b o' hb e => ?_)
  rw [Heap.get?_update_other _ _ (Nat.ne_of_gt (Heap.lt_size (Heap.get?_push_of_some _ (k1 _ _ hb e))))]
  exact Heap.get?_push_of_some _ (Heap.get?_push_of_some _ (k1 _ _ hb e))
end
/-- a list walked, what is asked of the heap kept -/
theorem walks2 {prog : Program} {w : World} {A : Around} {x1 : Addr} {S : List (Addr × Obj)} (hh : A.handled = some (.ref x1)) (hS : ∀ h : Heap, (∀ p ∈ S, h.get? p.1 = some p.2) → Chain2 h x1) (I ax : Addr) (hne : ax ≠ I) (h1 : x1 ≠ I) (h2 : ∀ p ∈ S, p.1 ≠ I) (items : Array Value) :
    Walks prog w A I (I :: ax :: S.map (·.1)) [I] items.size (fun i v => items[i]? = some v) (fun i h => h.IsListIter I ax i ∧ h.IsList ax items ∧ ∀ p ∈ S, h.get? p.1 = some p.2) where
  sub := fun b hb => by
    rw [List.mem_singleton.mp hb]
    exact List.mem_cons_self
  frame := fun _ _ _ st hk => ⟨st.1.at fun o e => hk I List.mem_cons_self o e, st.2.1.at fun o e => hk ax (List.mem_cons_of_mem _ List.mem_cons_self) o e, fun p hp => hk p.1 (List.mem_cons_of_mem _ (List.mem_cons_of_mem _ (List.mem_map.mpr ⟨p, hp, rfl⟩))) p.2 (st.2.2 p hp)⟩
  item := fun i s Q E hi st hQ => by
    refine wpAny_pyNext_list_item st.1 st.2.1 (x := items[i]) (by simp [hi]) fun h' hit' hs' => ?_
    exact hQ _ h' s.toks (by simp [hi]) ⟨hit', st.2.1.extBut hs'.extBut hne, fun p hp => hs'.extBut _ _ (h2 p hp) (st.2.2 p hp)⟩ fun b o hb e => hs'.extBut b o (fun h => hb (by simp [h])) e
  done := fun s Q E st hQ => list_end2 hh (hS _ st.2.2) (fun h' k => hS h' fun p hp => k p.1 p.2 (h2 p hp) (st.2.2 p hp)) h1 st.1 st.2.1 (by simp) fun h' he' => hQ h' s.toks fun b o hb e => he' b o (fun h => hb (by simp [h])) e
  self := fun _ _ _ _ st hQ => wpAny_pyIter_listiter st.1 hQ
theorem cr_any3 {X : Cx} {a : Addr} {oe : Obj} {cls : Value} {d : Option Addr} {cc : Value} (hh : X.A.handled = some (.ref a)) (hp : (a, oe) ∈ X.pn) (hz : Z3 cls d cc oe) (hf : ∃ vs, oe.data = .fields vs) : CallR X (.builtin "any") (fun xs H Q => Ctx1 cc H ∧ rAny X.K xs H Q) := by
  intro pins s σ H vs us Q I r h
  obtain ⟨hc, l, bs, rfl, hs, q⟩ := h
  obtain ⟨its, rv, hl, _⟩ := I.list hs
  obtain ⟨ws, hw⟩ := hf
  have ea := (I.pin (a, oe) (List.mem_append_left _ hp)).1
  have hctx := hz.2.2 ws hw
  rw [Vals.ref1 r]
  have hb := rv.bls
  -- the objects that the chain leans on
  obtain ⟨S, hS1, hS2⟩ : ∃ S : List (Addr × Obj), (∀ p ∈ S, s.heap.get? p.1 = some p.2) ∧ ∀ h : Heap, (∀ p ∈ S, h.get? p.1 = some p.2) → Chain2 h a := by
    rcases hc with z | ⟨b, z, hb⟩
    · exact ⟨[(a, oe)], fun p hp => by rw [List.mem_singleton.mp hp]; exact ea, fun h k => ⟨oe, ws, k (a, oe) List.mem_cons_self, hw, .inl (by rw [hctx, z])⟩⟩
    · obtain ⟨⟨ob, vb, e1, d1, n1⟩, _⟩ := (show ObjOk X.prog X.w H s.heap b (CtxO b) from I.hok b _ hb)
      have ne : b ≠ a := fun y => by
        rw [y, ea] at e1
        cases e1
        rw [hw] at d1
        cases d1
        rw [hctx, z] at n1
        cases n1
      exact ⟨[(a, oe), (b, ob)], fun p hp => by
        rcases List.mem_cons.mp hp with y | y
        · rw [y]; exact ea
        · rw [List.mem_singleton.mp y]; exact e1, fun h k => ⟨oe, ws, k (a, oe) List.mem_cons_self, hw, .inr ⟨b, ob, vb, by rw [hctx, z], ne, k (b, ob) (List.mem_cons_of_mem _ List.mem_cons_self), d1, n1⟩⟩⟩
  refine call_any_walk (iter_any hl.isList fun s₂ e2 st hne => ?_)
  subst e2
  have lt : ∀ p ∈ S, p.1 ≠ s.heap.objs.size := fun p hp => Nat.ne_of_lt (Heap.lt_size (hS1 p hp))
  refine ⟨_, _, _, _, _, _, _, rfl, walks2 (A := X.A.in1) hh hS2 _ l hne (Nat.ne_of_lt (Heap.lt_size ea)) lt its.toArray, ⟨st.1, st.2, fun p hp => Heap.get?_push_of_some _ (hS1 p hp)⟩, truth_bools hb, fun h' tk hk => ?_⟩
  refine ⟨.bl _, H, I.kept fun b o eo => hk b o (fun hmem => ?_) (Heap.get?_push_of_some _ eo), ?_, q⟩
  · rcases List.mem_cons.mp hmem with e1 | hmem
    · exact absurd (e1 ▸ Heap.lt_size eo) (Nat.lt_irrefl _)
    · cases hmem
  · show Value.bool _ = Value.bool _
    rw [← L2.any_range, hb, List.size_toArray, List.length_map]
end L3
/-! errors with a context, at the level of data; errors out of a comprehension -/
namespace Wv
open PySem L2 PyProof.Rows
open Evl (Ex fresh_back ex_l)
/-- as Fun.ok, for a def that may raise within a suite -/
theorem ok3 {P : Program} {w : World} {K : PySem.W.Frag} {mg : Str → Option Value} {base : Heap} {x qual : Str} {st : Stmt} {f : Addr} {fd : FuncData} {N ps : List Str} {k : Nat} {sp : Sp} (F : Fun K x qual st f fd) (S : FnScope N ps (defScope st)) (len : ∀ vs H Q E, sp vs H Q E → vs.length = ps.length)
    (hbody : ∀ (cdv : Value) (A : Around) (outer : List Env) (s : Shared) (H : Hp) (vs : List V) (Q : VK) (E : XK), Room k (A.deeper (envOfC qual (defScope st) s.heap.objs.size f cdv)) → sp vs H Q E →
      ∃ t, PSs (cxOf (L3.CX3 P w) P w K mg base N qual (defScope st) f cdv A outer s H E) (defBody st) t ∧ t { nx := fun _ H' => Q .non H', rt := Q } (L2.start N vs) H) : FnOk P w K mg base (L3.CX3 P w) (k + 1) f fd ps sp := by
  obtain ⟨oc, od, kV, doc, pm, an, cdv, ct, osl, rfl, lk, hcd⟩ := F.ex
  exact fn_of lk hcd S len fun A outer s H vs Q E hr hsp => hbody cdv A outer s H vs Q E hr hsp
/-! ### a raise in a suite -/
def tRaiseC (a C : Addr) (E : XK) : TS := fun _ _ H => H a = none → E (.ref C) none (upd H a (L3.CtxO a))
theorem ps_raiseCD {X : Cx} {C : Addr} {E : XK} {x m : Str} {j : Nat} {p p2 pos pos2 : Pos} {oe : Obj} {a : Addr} (hot : L2H.Hot1 X.A (a, oe)) (hp : (a, oe) ∈ X.pn) (tk : L3.TakesC a X (fun cls d σ H => H a = none → E cls d (upd H a (L3.CtxO a)))) (R : ErrAt X.K X.mg x C) (hg : Gl X x) (hdb : (x == ("__debug__" : Str)) = false := by decide) :
    PS X (.Raise (some (.Call (.Name x p) [.Constant (.str m) j p2] [] pos)) none pos2) (tRaiseC a C E) :=
  L3.ps_raiseC (p := (a, oe)) hot hp tk (L2N.pmk_own PySem.F.excBase_ValueError R.q R.g R.k (raises_own R.s R.t) hg hdb)
/-! ### try: body, except c: a suite that raises -/
def wOnlyA (n : Nat) (K : PySem.W.Frag) (c : Value) (ts : Addr → Value → Option Addr → TS) (Wout : WX) (D : Ends) : XK := fun cls d H => ∀ σ : L2.St, σ.length = n → wOnly K c ts Wout D cls d σ H
def tTry3 (n : Nat) (K : PySem.W.Frag) (c : Value) (ts : Addr → Value → Option Addr → TS) (E : XK) (tb : XK → TS) : TS := fun D σ H => tb (wOnlyA n K c ts (fun cls d _ H => E cls d H) D) D σ H
theorem takes_all {X : Cx} {n : Nat} (hn : X.N.length = n) {W : WX} (t : L2N.Takes X W) : L2N.Takes X (fun cls d _ H => ∀ σ : L2.St, σ.length = n → W cls d σ H) := fun u s' ⟨a, B, sI, pins, σ, H, cls, d, e, I, nb, up, sky, na, os, ag, w⟩ =>
  t u s' ⟨a, B, sI, pins, σ, H, cls, d, e, I, nb, up, sky, na, os, ag, w σ (by rw [← hn]; exact I.len)⟩
theorem ps_try3 {X : Cx} {x : Str} {c : Value} {body suite : List Stmt} {b₀ : Stmt} {np pos pos' : Pos} {tb : XK → TS} {ts : Addr → Value → Option Addr → TS} {E : XK}
    (hs : X.stack = X.env :: X.outer) (hf : X.env.frame = some X.env.locals) (hex : X.ex = []) (hc : Names X x c) (hpa : ∀ hd : Option Value, PassesOwnAt (model X.prog X.w) (X.A.mark hd) X.A X.env X.xe) (tk : L3.Takes3 X (fun cls d _ H => E cls d H))
    (hb : ∀ (Eb : XK) (pn : List (Addr × Obj)) (xe : Value → Shared → Prop), L2N.Takes (X.tr pn xe) (fun cls d _ H => Eb cls d H) → PSs (X.tr pn xe) body (tb Eb))
    (hsu : ∀ (a : Addr) (oe : Obj) (cls : Value) (d : Option Addr) (pn : List (Addr × Obj)), L2H.Hot1 (L2H.suiteX X a ((a, oe) :: pn)).A (a, oe) → L3.TakesC a (L2H.suiteX X a ((a, oe) :: pn)) (fun cls d σ H => H a = none → E cls d (upd H a (L3.CtxO a))) →
      PSs (L2H.suiteX X a ((a, oe) :: pn)) (b₀ :: suite) (ts a cls d)) :
    PS X (.Try body [.ExceptHandler (some (.Name x np)) none (b₀ :: suite) pos'] [] [] pos) (tTry3 X.N.length X.K c ts E tb) :=
  ⟨fun pins s σ H D I h => (L3.ps_try_only3 (tb := fun W => tb (fun cls d H => ∀ σ : L2.St, σ.length = X.N.length → W cls d σ H)) hs hf hex hc hpa tk (fun W pn xe t0 po => hb _ pn xe (takes_all rfl t0)) (fun a oe cls d pn hz hot tkc => hsu a oe cls d pn hot tkc)).run pins s σ H D I h⟩
section
variable {K : PySem.W.Frag} {E : XK} {sl : List Sl} {P : En} {c : Value} {i n : Nat} {te : XK → TE} {ts : Addr → Value → Option Addr → TS} {U C : Addr} {d : D}
theorem w_raiseC {a : Addr} (k : P.rt (.exc C)) : W K E (tRaiseC a C E) sl P := fun B0 H0 B H σ D sd m ha => by
  have q := m.rt (.exc C) B H sd.gr k
  exact q B _ (Gr.lay sd.sub ha)
/-- the body raises nothing -/
theorem w_try3 {tb : XK → TS} (h : ∀ Eb, W K Eb (tb Eb) sl { P with rt := fun _ => False }) : W K E (tTry3 n K c ts E tb) sl P := fun B0 H0 B H σ D sd m =>
  h _ B0 H0 B H σ D sd ⟨m.nx, m.bk, m.ct, fun _ _ _ _ z => z.elim⟩
/-- it raises what the clause doesn't name -/
theorem w_try3pass {g : TG} (hx : PySem.W.exmOne K (.ref U) c = some false) (h : ∀ Eb, EvR K Eb (te Eb) sl (.exc U)) (k : P.rt (.exc U)) : W K E (tTry3 n K c ts E (fun Eb => tAsg (te Eb) g)) sl P := fun B0 H0 B H σ D sd m =>
  h _ B0 H0 B H σ sd _ fun B2 H2 g2 σ' _ => ⟨false, hx, (fun z => nomatch z), fun _ => m.rt (.exc U) B H sd.gr k B2 H2 g2⟩
/-- .. what it names -/
theorem w_try3catch {g : TG} (hx : PySem.W.exmOne K (.ref U) c = some true) (h : ∀ Eb, EvR K Eb (te Eb) sl (.exc U)) (hs : ∀ a, W K E (ts a (.ref U) none) (List.replicate n .un) P) : W K E (tTry3 n K c ts E (fun Eb => tAsg (te Eb) g)) sl P := fun B0 H0 B H σ D sd m =>
  h _ B0 H0 B H σ sd _ fun B2 H2 g2 σ' hl => ⟨true, hx, (fun _ a ha => hs a B0 H0 B2 H2 σ' D (sd_uns (sd.gr.trans g2) hl) m), fun z => nomatch z⟩
end
/-! ### errors out of arguments, out of a comprehension -/
def EvAX (K : PySem.W.Frag) (E : XK) (ta : TA) (sl : List Sl) (U : Addr) : Prop := ∀ B0 H0 B H σ, SD K B0 H0 B H σ sl → ∀ Q : List V → Hp → Prop, (∀ B' H', Gr B H B' H' → E (.ref U) none H') → ta σ H Q
section
variable {K : PySem.W.Frag} {E : XK} {sl : List Sl} {ta te : TE} {tr : TA} {U C : Addr} {x : D} {xs : List D}
theorem eax_here (h : EvR K E ta sl (.exc U)) : EvAX K E (tCons ta tr) sl U := fun B0 H0 B H σ sd Q q => h B0 H0 B H σ sd _ q
theorem eax_there (h : EvR K E0 ta sl (.dat x)) (hr : EvAX K E tr sl U) : EvAX K E (tCons ta tr) sl U := fun B0 H0 B H σ sd Q q =>
  h B0 H0 B H σ sd _ fun v B1 H1 g1 d1 => hr B0 H0 B1 H1 σ (sd.grow g1) _ fun B2 H2 g2 => q B2 H2 (g1.trans g2)
theorem ev_makeAX {sp : Sp} {E' : XK} (h : EvAX K E tr sl U) : EvR K E (tMake C sp [] E' tr) sl (.exc U) := fun B0 H0 B H σ sd Q q => h B0 H0 B H σ sd _ q
/-- the first that raises -/
theorem ev_lcX {α : Type} {ys : List α} {c : α → D} {v : α → D} {ti : TI} {j : Nat} {vs : List Nat} {k : Nat} {a : α} (hi : ItE K ti sl (ys.map c)) (hz : ys.length ≤ 1000000) (hj : j ∈ vs) (hk : ys[k]? = some a)
    (hpre : ∀ i b, i < k → ys[i]? = some b → EvR K E te ((wipeS sl vs).set j (.fz (c b))) (.dat (v b))) (hbad : EvR K E te ((wipeS sl vs).set j (.fz (c a))) (.exc U)) :
    EvR K E (tLc ti (gName j) tYes te vs) sl (.exc U) := fun B0 H0 B H σ sd Q q => by
  refine hi B0 H0 B H σ sd _ fun J B1 H1 g1 jo Dl hD => ?_
  have sd1 := (sd.grow g1).wipe vs
  have kl : k < ys.length := (List.getElem?_eq_some_iff.mp hk).1
  refine ⟨fun i m H2 => m = ys.length - i ∧ i ≤ k ∧ ∃ B2 acc, Gr B1 H1 B2 H2 ∧ B2 Dl = none ∧ H2 Dl = some (.lst acc) ∧ acc.length = i, ⟨ys.length, by simp, Nat.zero_le _, B1, [], Gr.lay g1.sub hD, fresh_back g1.sub hD, upd_same, rfl⟩, ?_⟩
  rintro i m H2 ⟨rfl, hi2, B2, acc, g2, b2, h2, l2⟩
  obtain ⟨jg, js⟩ := (jo.mono g2.eb) i H2 g2.sub
  right
  have il : i < ys.length := by omega
  have hy : ys[i]? = some ys[i] := List.getElem?_eq_getElem il
  have hx : (ys.map c)[i]? = some (c ys[i]) := by rw [List.getElem?_map, hy]; rfl
  obtain ⟨go, yl⟩ := jg _ hx
  refine ⟨go, fun H' => i + 1 ≤ k ∧ ∃ B2 acc, Gr B1 H1 B2 H' ∧ B2 Dl = none ∧ H' Dl = some (.lst acc) ∧ acc.length = i + 1, fun H' ⟨h1, h3⟩ => ⟨ys.length - (i + 1), by omega, rfl, h1, h3⟩, fun x H3 hyy => ?_⟩
  obtain ⟨e3, dx⟩ := yl x H3 hyy
  rw [e3]
  have sd2 : SD K B0 H0 B2 H2 ((L2.wipe σ vs).set j (some x)) ((wipeS sl vs).set j (.fz (c ys[i]))) := (sd1.grow g2).setFz dx
  refine ⟨by rw [wipe_set _ hj, wipe_wipe], ?_⟩
  refine et_yes B0 H0 B2 H2 _ sd2 _ fun B3 H3 g3 => ?_
  rw [if_pos rfl]
  by_cases e : i = k
  · have ea : ys[i] = a := by
      subst e
      rw [hy] at hk
      exact Option.some.inj hk
    rw [ea] at sd2
    exact hbad B0 H0 B3 H3 _ (sd2.grow g3) _ fun B4 H4 g4 => q B4 H4 (((g1.trans g2).trans g3).trans g4)
  · refine hpre i ys[i] (by omega) hy B0 H0 B3 H3 _ (sd2.grow g3) _ fun y B4 H4 g4 d4 => ?_
    have b3 : B3 Dl = none := g3.out Dl b2 (by rw [h2]; simp)
    have b4 : B4 Dl = none := g4.out Dl b3 (by rw [g3.eh _ _ h2]; simp)
    have h4 : H4 Dl = some (.lst acc) := g4.eh _ _ (g3.eh _ _ h2)
    refine ⟨acc, h4, by rw [sizeLine_eq]; omega, by omega, B4, acc ++ [y], ?_, b4, upd_same, by rw [List.length_append, l2]; rfl⟩
    have g := (g2.trans g3).trans g4
    refine ⟨g.eb, fun a o h => ?_, fun a o h => ?_, g.out⟩
    · rw [upd_ne (ne_of_none h hD)]
      exact g.eh a o h
    · rw [upd_ne (ne_of_none h b4)]
      exact g.sub a o h
end
/-! ### try: body, except c as n: a suite that looks at the error -/
def wAs3A (n : Nat) (K : PySem.W.Frag) (c : Value) (i : Nat) (ts : Addr → Value → Option Addr → Value → TS) (D : Ends) : XK := fun cls d H => ∀ σ : L2.St, σ.length = n → L3.wAs3 K c i ts (fun _ _ _ _ => False) D cls d σ H
def tTry4 (n : Nat) (K : PySem.W.Frag) (c : Value) (i : Nat) (ts : Addr → Value → Option Addr → Value → TS) (tb : XK → TS) : TS := fun D σ H => tb (wAs3A n K c i ts D) D σ H
theorem takes_none {X : Cx} : L3.Takes3 X (fun _ _ _ _ => False) := fun _ _ x => by
  obtain ⟨_, _, _, _, _, _, _, _, _, _, _, _, _, _, _, _, _, _, z⟩ := x
  exact z.elim
theorem ps_try4 {X : Cx} {x n : Str} {c : Value} {i : Nat} {body suite : List Stmt} {b₀ : Stmt} {np pos pos' : Pos} {tb : XK → TS} {ts : Addr → Value → Option Addr → Value → TS}
    (hs : X.stack = X.env :: X.outer) (hf : X.env.frame = some X.env.locals) (hN : X.N.Nodup) (hi : X.N[i]? = some n) (hln : X.env.kindOf n = some .local) (hc : Names X x c)
    (hb : ∀ (E : XK) (pn : List (Addr × Obj)) (xe : Value → Shared → Prop), Passes (L3.CX3 X.prog X.w) (X.tr pn xe) E → PSs (X.tr pn xe) body (tb E))
    (hsu : ∀ (a : Addr) (oe : Obj) (cls : Value) (d : Option Addr) (cc : Value) (pn : List (Addr × Obj)), L3.Z3 cls d cc oe → (∃ vs, oe.data = .fields vs) → PSs (X.suite a ((a, oe) :: pn)) (b₀ :: suite) (ts a cls d cc)) :
    PS X (.Try body [.ExceptHandler (some (.Name x np)) (some n) (b₀ :: suite) pos'] [] [] pos) (tTry4 X.N.length X.K c i ts tb) :=
  ⟨fun pins s σ H D I h => (L3.ps_try_as3 (tb := fun W => tb (fun cls d H => ∀ σ : L2.St, σ.length = X.N.length → W cls d σ H)) hs hf hN hi hln hc takes_none (fun W pn xe t0 po => hb _ pn xe (fun pins σ H s e s' I c => t0 e s' (L3.XE3.of_call I (fun cls d H' q => q σ I.len) c))) hsu).run pins s σ H D I h⟩
/-- what the suite looks at: the error -/
abbrev errD (a : Addr) (cc : Value) : D := .err a (L3.Ctx1 cc)
section
variable {K : PySem.W.Frag} {E : XK} {sl : List Sl} {P : En} {c : Value} {i n : Nat} {tb : XK → TS} {te : XK → TE} {ts : Addr → Value → Option Addr → Value → TS} {U a : Addr} {d : D} {cc : Value} {tr : TA} {b : Bool}
theorem ctx1_mono {H H' : Hp} (e : Ex H H') (h : L3.Ctx1 cc H) : L3.Ctx1 cc H' := by
  rcases h with z | ⟨b, z, q⟩
  · exact .inl z
  · exact .inr ⟨b, z, e _ _ q⟩
theorem ev_err (hi : sl[i]? = some (.fz (errD a cc))) : EvR K E (tVar i) sl (.dat (.fn a)) := fun B0 H0 B H σ sd Q q => by
  obtain ⟨v, h1, h2⟩ := sd.fz i _ hi
  simp only [Den] at h2
  obtain ⟨rfl, _⟩ := h2
  exact ⟨_, h1, post_v sd.sub q (mk_fn a)⟩
theorem ev_any3 {ns : List Bool} (hi : sl[i]? = some (.fz (errD a cc))) (h : EvA K tr sl [.lst (ns.map D.bl)]) : EvR K E (tCB (fun xs H Q => L3.Ctx1 cc H ∧ rAny K xs H Q) tr) sl (.dat (.bl (ns.any id))) := fun B0 H0 B H σ sd Q q => by
  refine h B0 H0 B H σ sd _ fun vs B1 H1 g1 d1 => ⟨?_, cb_any B1 H1 vs g1.sub d1 E Q (q.shift g1)⟩
  obtain ⟨v, h1, h2⟩ := sd.fz i _ hi
  simp only [Den] at h2
  obtain ⟨_, Hc, h3, h4⟩ := h2
  exact ctx1_mono ((h3.trans g1.eb).trans g1.sub) h4
/-- the body raises nothing -/
theorem w_try4 (h : ∀ Eb, W K Eb (tb Eb) sl { P with rt := fun _ => False }) : W K E (tTry4 n K c i ts tb) sl P := fun B0 H0 B H σ D sd m =>
  h _ B0 H0 B H σ D sd ⟨m.nx, m.bk, m.ct, fun _ _ _ _ z => z.elim⟩
/-- it raises U; the suite ends with a return of a scalar -/
theorem w_try4catch (hx : PySem.W.exmOne K (.ref U) c = some true) (h : ∀ Eb, EvR K Eb (te Eb) sl (.exc U)) (hr : P.rt (.dat d)) (hd : sca d = true)
    (hs : ∀ a cc, W K E (ts a (.ref U) none cc) ((List.replicate n Sl.un).set i (.fz (errD a cc))) { nx := fun _ => False, rt := fun r => r = .dat d }) : W K E (tTry4 n K c i ts (fun Eb => tDrop (te Eb))) sl P := fun B0 H0 B H σ D sd m =>
  h _ B0 H0 B H σ sd _ fun B2 H2 g2 σ' hl => ⟨true, hx, (fun _ a cc ha hcc => by
    -- a ground of its own
    have g3 : Gr H2 H2 H2 H2 := Gr.refl (Ex.refl _)
    have s3 : SD K H2 H2 H2 H2 (σ'.set i (some (.ref a))) ((List.replicate n Sl.un).set i (.fz (errD a cc))) := (sd_uns g3 hl).setFz (d := errD a cc) (by
      simp only [Den]
      exact ⟨trivial, H2, Ex.refl _, hcc⟩)
    refine hs a cc H2 H2 H2 H2 _ _ s3 ⟨fun _ _ _ _ _ z => z.elim, fun _ _ _ _ _ z => z.elim, fun _ _ _ _ _ z => z.elim, fun r B4 H4 g4 z => ?_⟩
    subst z
    have g5 : Gr B0 H0 B2 H4 := ⟨(sd.gr.trans g2).eb, (sd.gr.trans g2).eh.trans g4.eh, g2.sub.trans g4.eh, (sd.gr.trans g2).out⟩
    have q := m.rt (.dat d) B2 H4 g5 hr
    intro v B' H' g' dv
    exact q v B2 H' ⟨Ex.refl _, g'.eh, (g2.sub.trans g4.eh).trans g'.eh, fun _ z _ => z⟩ (den_sca hd dv)), fun z => nomatch z⟩
end
end Wv
/-! texts: repeated, cut, one sign asked for; the plain law of reading -/
namespace L2
open PySem PySem.Spec PyProof.Rows
def repT (z : Str) (k : Nat) : Str := ⟨(List.replicate k z.cps).foldl (· ++ ·) #[]⟩
def rRepS : R2 := fun x y H Q => ∃ (z : Str) (k : Nat), x = .str z ∧ y = .int k ∧ 1 ≤ z.length ∧ 2 ≤ k ∧ z.length * k ≤ 1000000 ∧ Q (.str (repT z k)) H
theorem repT_len (z : Str) : ∀ k, (repT z k).length = z.length * k := by
  have key : ∀ (k : Nat) (a : Array Nat), ((List.replicate k z.cps).foldl (· ++ ·) a).size = a.size + z.cps.size * k := by
    intro k
    induction k with
    | zero => intro a; simp
    | succ k ih =>
      intro a
      rw [List.replicate_succ, List.foldl_cons, ih, Array.size_append, Nat.mul_succ]
      omega
  intro k
  have := key k #[]
  rw [Array.size_empty, Nat.zero_add] at this
  exact this
theorem op_repS {X : Cx} : OpR X (binaryOp .Mult) rRepS := by
  intro pins s σ H x y v u Q I rx ry h
  obtain ⟨z, k, rfl, rfl, h1, h2, hz, q⟩ := h
  obtain ⟨t, rfl⟩ := rx
  obtain ⟨t', rfl⟩ := ry
  have hk : k ≤ 1000000 := Nat.le_trans (by rw [Nat.mul_comm]; exact Nat.le_mul_of_pos_right _ h1) hz
  have hzl : z.length ≤ 1000000 := Nat.le_trans (Nat.le_mul_of_pos_right _ (by omega)) hz
  have e1 : ¬ ((k : Nat) : Int) < 1 := by omega
  have e2 : ((((k : Nat) : Int) == 1) || (z.length == 0)) = false := by
    rw [Bool.or_eq_false_iff, beq_eq_false_iff_ne, beq_eq_false_iff_ne]
    omega
  refine PySem.P.mul_str (by rw [decide_eq_false (by omega), decide_eq_false (by omega)]; rfl) (fun _ _ => ?_) (fun _ _ => ?_) ?_
  · have e3 : (1000000 : Int) ≤ (2 ^ 63 - 1) / ((k : Nat) : Int) := by
      refine (Int.le_ediv_iff_mul_le (by omega)).mpr ?_
      omega
    omega
  · unfold Builtin.Str.tooLong
    rw [Int.toNat_natCast]
    exact decide_eq_false (by rw [sizeLine_eq]; omega)
  · rw [if_neg e1, if_neg (by rw [e2]; exact Bool.false_ne_true), Int.toNat_natCast]
    have hl := repT_len z k
    exact ⟨by show (repT z k).length ≤ _; rw [hl, sizeLine_eq]; omega, .str (repT z k), H, I.tok _, ⟨_, rfl⟩, q⟩
end L2
namespace Wv
open PySem PySem.Spec L2 PyProof.Rows
open Evl (Ex fresh_back ex_l)
section
variable {K : PySem.W.Frag} {E E' : XK} {sl : List Sl} {ta te tb : TE} {x y : Str} {c k : Nat}
theorem od_repS (h1 : 1 ≤ x.length) (h2 : 2 ≤ k) (hz : x.length * k ≤ 1000000) : OpD K rRepS (.str x) (nat k) (.dat (.str (repT x k))) := fun B H vx vy e dx dy E Q q => by
  rw [den_str dx, den_int dy]
  exact ⟨x, k, rfl, rfl, h1, h2, hz, post_v e q (mk_str _)⟩
theorem od_inSg : OpD K (fun x y H Q => ∃ (c : Nat) (z : Str), x = .str ⟨#[c]⟩ ∧ y = .str z ∧ Q (.bl (decide (c ∈ z.cps.toList))) H) (.str ⟨#[c]⟩) (.str x) (.dat (.bl (decide (c ∈ x.cps.toList)))) := fun B H vx vy e dx dy E Q q => by
  rw [den_str dx, den_str dy]
  exact ⟨c, x, rfl, rfl, post_v e q (mk_bl _)⟩
theorem od_notInSg : OpD K (fun x y H Q => ∃ (c : Nat) (z : Str), x = .str ⟨#[c]⟩ ∧ y = .str z ∧ Q (.bl (!decide (c ∈ z.cps.toList))) H) (.str ⟨#[c]⟩) (.str x) (.dat (.bl (!decide (c ∈ x.cps.toList)))) := fun B H vx vy e dx dy E Q q => by
  rw [den_str dx, den_str dy]
  exact ⟨c, x, rfl, rfl, post_v e q (mk_bl _)⟩
theorem ev_slS {tl th : TO} {lo hi : Option Int} (h : EvR K E te sl (.dat (.str x))) (hl : EvO K tl sl lo) (hh : EvO K th sl hi) (hz : x.length ≤ sizeLine) : EvR K E (tSl rSlS te tl th) sl (.dat (.str (cutS x lo hi))) := fun B0 H0 B H σ sd Q q =>
  h B0 H0 B H σ sd _ fun v B1 H1 g1 d1 => by
    rw [den_str d1]
    refine hl B0 H0 B1 H1 σ (sd.grow g1) _ fun B2 H2 g2 => ?_
    refine hh B0 H0 B2 H2 σ ((sd.grow g1).grow g2) _ fun B3 H3 g3 => ?_
    exact ⟨x, rfl, hz, post_v g3.sub (((q.shift g1).shift g2).shift g3) (mk_str _)⟩
end
end Wv
/-! the plain law of reading -/
namespace Wv
open PySem PySem.Spec L2 PyProof.Rows
theorem str_ext {a b : Str} (h : a.cps.toList = b.cps.toList) : a = b := TL.ext_tl h
def fcodes (g : Nat) : List Nat := (figs g).map fun k => 48 + k
theorem gtext_inj : ∀ g, g < 32 → ∀ h, h < 32 → gtext g = gtext h → g = h := by decide +kernel
def gin (w : Str) : Option Nat := (List.range 32).find? fun g => decide (w = gtext g)
theorem gin_iff {w : Str} {g : Nat} : gin w = some g ↔ g < 32 ∧ w = gtext g := by
  unfold gin
  constructor
  · intro h
    exact ⟨List.mem_range.mp (List.mem_of_find?_eq_some h), of_decide_eq_true (List.find?_some (p := fun g => decide (w = gtext g)) h)⟩
  · rintro ⟨h1, rfl⟩
    rw [List.find?_range_eq_some]
    refine ⟨decide_eq_true rfl, List.mem_range.mpr h1, fun j hj => ?_⟩
    rw [Bool.not_eq_true', decide_eq_false_iff_not]
    intro e
    have := gtext_inj g h1 j (by omega) e
    omega
theorem gin_none {w : Str} (h : gin w = none) {g : Nat} (hg : g < 32) : w ≠ gtext g := fun e => by
  rw [gin_iff.mpr ⟨hg, e⟩] at h
  cases h
/-! strip -/
theorem tw_full {p : Nat → Bool} : ∀ l : List Nat, (l.takeWhile p).length = l.length → ∀ c ∈ l, p c = true
  | [], _, _, h => nomatch h
  | a :: l, h, c, hc => by
    cases ha : p a with
    | false =>
      rw [List.takeWhile_cons, ha] at h
      simp at h
    | true =>
      rw [List.takeWhile_cons, ha] at h
      rcases List.mem_cons.mp hc with rfl | hc
      · exact ha
      · exact tw_full l (by simpa using h) c hc
theorem tw_drop {p : Nat → Bool} : ∀ l : List Nat, l.drop (l.takeWhile p).length = [] ∨ ∃ a r, l.drop (l.takeWhile p).length = a :: r ∧ p a = false
  | [] => .inl rfl
  | a :: l => by
    cases ha : p a with
    | false =>
      rw [List.takeWhile_cons, ha]
      exact .inr ⟨a, l, rfl, ha⟩
    | true =>
      rw [List.takeWhile_cons, ha]
      simpa using tw_drop l
theorem strip_all {w y : Str} (h : Txt.stripChars w y = "") : ∀ c ∈ w.cps.toList, y.cps.contains c = true := by
  have e0 : (("" : Str)).cps.toList = [] := by decide +kernel
  have h := congrArg (fun z : Str => z.cps.toList) h
  rw [e0] at h
  unfold Txt.stripChars Txt.stripBy at h
  split at h
  · intro c hc
    rw [h] at hc
    cases hc
  · have hl : (w.cps.toList.takeWhile y.cps.contains).length ≤ w.cps.toList.length := (List.takeWhile_sublist _).length_le
    unfold stripped stripLo stripHi at h
    simp only [if_true] at h
    unfold Builtin.Str.strSub at h
    have hsz := congrArg List.length h
    simp only [Array.length_toList, Array.size_extract, List.length_nil] at hsz
    have wl : w.length = w.cps.size := rfl
    have hl2 : (w.cps.toList.takeWhile y.cps.contains).length ≤ w.cps.size := by
      rw [← Array.length_toList]; exact hl
    rw [wl] at hsz
    rcases tw_drop (p := y.cps.contains) w.cps.toList with z | ⟨a, r, z, ha⟩
    · refine tw_full _ ?_
      have := congrArg List.length z
      rw [List.length_drop, List.length_nil] at this
      omega
    · exfalso
      have hd : (w.cps.toList.drop (w.cps.toList.takeWhile y.cps.contains).length).length = w.cps.size - (w.cps.toList.takeWhile y.cps.contains).length := by
        rw [List.length_drop, Array.length_toList]
      have hq : ((w.cps.toList.drop (w.cps.toList.takeWhile y.cps.contains).length).reverse.takeWhile y.cps.contains).length ≤ (w.cps.toList.drop (w.cps.toList.takeWhile y.cps.contains).length).length := by
        have := (List.takeWhile_sublist (l := (w.cps.toList.drop (w.cps.toList.takeWhile y.cps.contains).length).reverse) y.cps.contains).length_le
        rwa [List.length_reverse] at this
      have hne : ((w.cps.toList.drop (w.cps.toList.takeWhile y.cps.contains).length).reverse.takeWhile y.cps.contains).length ≠ (w.cps.toList.drop (w.cps.toList.takeWhile y.cps.contains).length).length := fun e => by
        have := tw_full (p := y.cps.contains) (w.cps.toList.drop (w.cps.toList.takeWhile y.cps.contains).length).reverse (by rw [List.length_reverse]; exact e) a (by rw [List.mem_reverse, z]; exact List.mem_cons_self)
        rw [ha] at this
        cases this
      have hpos : 0 < (w.cps.toList.drop (w.cps.toList.takeWhile y.cps.contains).length).length := by
        rw [z]
        exact Nat.succ_pos _
      omega
theorem strip_figs {w : Str} (h : Txt.stripChars w "01234" = "") : ∀ c ∈ w.cps.toList, c ∈ ([48, 49, 50, 51, 52] : List Nat) := fun c hc => by
  have := strip_all h c hc
  have e : (("01234" : Str)).cps = #[48, 49, 50, 51, 52] := by decide +kernel
  rw [e] at this
  simpa using this
theorem filt_fcodes (p : Nat → Bool) : ∃ g, g < 32 ∧ ([48, 49, 50, 51, 52].filter p) = fcodes g := by
  have key : ∀ a b c d e : Bool, ∃ g, g < 32 ∧ (if a = true then 48 :: (if b = true then 49 :: (if c = true then 50 :: (if d = true then 51 :: (if e = true then [52] else []) else (if e = true then [52] else [])) else (if d = true then 51 :: (if e = true then [52] else []) else (if e = true then [52] else []))) else (if c = true then 50 :: (if d = true then 51 :: (if e = true then [52] else []) else (if e = true then [52] else [])) else (if d = true then 51 :: (if e = true then [52] else []) else (if e = true then [52] else [])))) else (if b = true then 49 :: (if c = true then 50 :: (if d = true then 51 :: (if e = true then [52] else []) else (if e = true then [52] else [])) else (if d = true then 51 :: (if e = true then [52] else []) else (if e = true then [52] else []))) else (if c = true then 50 :: (if d = true then 51 :: (if e = true then [52] else []) else (if e = true then [52] else [])) else (if d = true then 51 :: (if e = true then [52] else []) else (if e = true then [52] else []))))) = fcodes g := by
    intro a b c d e
    refine ⟨(if a then 1 else 0) + (if b then 2 else 0) + (if c then 4 else 0) + (if d then 8 else 0) + (if e then 16 else 0), ?_⟩
    revert a b c d e
    decide
  obtain ⟨g, h1, h2⟩ := key (p 48) (p 49) (p 50) (p 51) (p 52)
  exact ⟨g, h1, by simp only [List.filter_cons, List.filter_nil]; exact h2⟩
theorem fcodes_gtext : ∀ g, g < 32 → g ≠ 0 → (gtext g).cps.toList = fcodes g := by decide +kernel
theorem fcodes_zero : fcodes 0 = [] := by decide
/-- a word of figures that rise is a group's -/
theorem gin_of_codes {w : Str} {g : Nat} (hg : g < 32) (hw : w ≠ "") (h : w.cps.toList = fcodes g) : gin w = some g := by
  have h0 : g ≠ 0 := fun e => by
    subst e
    rw [fcodes_zero] at h
    exact hw (str_ext (h.trans (by decide +kernel)))
  exact gin_iff.mpr ⟨hg, str_ext (h.trans (fcodes_gtext g hg h0).symm)⟩
theorem signs_codes (w : Str) : signsT w = w.cps.toList.map sg := rfl
/-- what sorted(set(word)) is, of a word of figures -/
def setF (w : Str) : List Str := ([48, 49, 50, 51, 52].filter fun c => decide (c ∈ w.cps.toList)).map sg
theorem setF_told {w : Str} (h : ∀ c ∈ w.cps.toList, c ∈ ([48, 49, 50, 51, 52] : List Nat)) : ∀ r : List Str, sortedS r = true → r.Nodup → (∀ k, k ∈ r ↔ k ∈ signsT w) → r = setF w := fun r h1 h2 h3 => by
  refine sorted_told (List.Pairwise.filter _ (by decide)) h1 h2 fun k => ?_
  rw [h3, signs_codes]
  constructor
  · intro hk
    obtain ⟨c, hc, rfl⟩ := List.mem_map.mp hk
    exact List.mem_map_of_mem (List.mem_filter.mpr ⟨h c hc, decide_eq_true hc⟩)
  · intro hk
    obtain ⟨c, hc, rfl⟩ := List.mem_map.mp hk
    exact List.mem_map_of_mem (of_decide_eq_true (List.mem_filter.mp hc).2)
theorem setF_ok (w : Str) : ∀ s ∈ setF w, PyData.strOk s = true := fun s hs => by
  obtain ⟨c, hc, rfl⟩ := List.mem_map.mp hs
  have := (List.mem_filter.mp hc).1
  simp only [List.mem_cons, List.not_mem_nil, or_false] at this
  rcases this with rfl | rfl | rfl | rfl | rfl <;> decide +kernel
theorem figs_few {w : Str} (h : ∀ c ∈ w.cps.toList, c ∈ ([48, 49, 50, 51, 52] : List Nat)) : ∃ Fs : List Str, Fs.length ≤ 60 ∧ ∀ k ∈ signsT w, k ∈ Fs :=
  ⟨[48, 49, 50, 51, 52].map sg, by decide, fun k hk => by
    rw [signs_codes] at hk
    obtain ⟨c, hc, rfl⟩ := List.mem_map.mp hk
    exact List.mem_map_of_mem (h c hc)⟩
theorem figs_signOk {w : Str} (h : ∀ c ∈ w.cps.toList, c ∈ ([48, 49, 50, 51, 52] : List Nat)) : ∀ s ∈ signsT w, PyData.strOk s = true := fun s hs => by
  rw [signs_codes] at hs
  obtain ⟨c, hc, rfl⟩ := List.mem_map.mp hs
  have := h c hc
  simp only [List.mem_cons, List.not_mem_nil, or_false] at this
  rcases this with rfl | rfl | rfl | rfl | rfl <;> decide +kernel
theorem sg_inj' {l m : List Nat} (h : l.map sg = m.map sg) : l = m := by
  induction l generalizing m with
  | nil =>
    cases m with
    | nil => rfl
    | cons b m => cases h
  | cons a l ih =>
    cases m with
    | nil => cases h
    | cons b m =>
      rw [List.map_cons, List.map_cons, List.cons.injEq] at h
      rw [sg_inj h.1, ih h.2]
theorem set_gin {w : Str} (hw : w ≠ "") (h : setF w = signsT w) : ∃ g, gin w = some g := by
  obtain ⟨g, hg, e⟩ := filt_fcodes fun c => decide (c ∈ w.cps.toList)
  have := sg_inj' h
  exact ⟨g, gin_of_codes hg hw (this.symm.trans e)⟩
/-! the law's own reading of a group -/
def lgl (n : Nat) : Nat → List Nat → Option Nat
  | g, [] => some g
  | g, c :: cs => if (c ∈ ([48, 49, 50, 51, 52] : List Nat) ∧ c - 48 < n) ∧ g / 2 ^ (c - 48) = 0 then lgl n (g ||| 2 ^ (c - 48)) cs else none
theorem lgl_step : ∀ n, n < 6 → ∀ g, g < 2 ^ n → ∀ k, k < n → g / 2 ^ k = 0 → (g ||| 2 ^ k) < 2 ^ n ∧ fcodes (g ||| 2 ^ k) = fcodes g ++ [48 + k] := by
  have key : ∀ n, n < 6 → ∀ g, g < 2 ^ n → ∀ k, k < n → ((!decide (g / 2 ^ k = 0)) || (decide ((g ||| 2 ^ k) < 2 ^ n) && decide (fcodes (g ||| 2 ^ k) = fcodes g ++ [48 + k]))) = true := by decide +kernel
  intro n hn g hg k hk h
  have q := key n hn g hg k hk
  rw [decide_eq_true h, Bool.not_true, Bool.false_or, Bool.and_eq_true, decide_eq_true_eq, decide_eq_true_eq] at q
  exact q
theorem lgl_yes : ∀ n, n < 6 → ∀ g, g < 2 ^ n → lgl n 0 (fcodes g) = some g := by decide +kernel
theorem lgl_ok {n : Nat} (hn : n < 6) : ∀ (cs : List Nat) (g h : Nat), g < 2 ^ n → lgl n g cs = some h → h < 2 ^ n ∧ fcodes g ++ cs = fcodes h
  | [], g, h, hg, e => by
    cases e
    exact ⟨hg, List.append_nil _⟩
  | c :: cs, g, h, hg, e => by
    unfold lgl at e
    split at e
    · rename_i q
      obtain ⟨⟨q1, q2⟩, q3⟩ := q
      obtain ⟨s1, s2⟩ := lgl_step n hn g hg (c - 48) q2 q3
      obtain ⟨t1, t2⟩ := lgl_ok hn cs _ h s1 e
      refine ⟨t1, ?_⟩
      rw [s2, List.append_assoc] at t2
      have : 48 + (c - 48) = c := by
        simp only [List.mem_cons, List.not_mem_nil, or_false] at q1
        omega
      rw [this] at t2
      exact t2
    · cases e
def lgM (n : Nat) (w : Str) : Int := if w = "-" then 0 else match lgl n 0 w.cps.toList with
  | some g => if 0 < g then (g : Int) else -1
  | none => -1
def lgS (n : Nat) (w : Str) : Int := match gin w with
  | some g => if g < 2 ^ n then (g : Int) else -1
  | none => -1
theorem lgM_gin {n : Nat} (hn : n ≤ 5) (w : Str) : lgM n w = lgS n w := by
  unfold lgM lgS
  by_cases h0 : w = "-"
  · rw [if_pos h0, gin_iff.mpr ⟨by decide, show w = gtext 0 from h0⟩]
    show (0 : Int) = if 0 < 2 ^ n then ((0 : Nat) : Int) else -1
    rw [if_pos (Nat.two_pow_pos n)]
    rfl
  · rw [if_neg h0]
    cases e : lgl n 0 w.cps.toList with
    | some g =>
      obtain ⟨t1, t2⟩ := lgl_ok (by omega) _ _ _ (Nat.two_pow_pos n) e
      rw [fcodes_zero, List.nil_append] at t2
      have hp := pow_le n hn
      by_cases hg : 0 < g
      · have hw : gin w = some g := gin_iff.mpr ⟨by omega, str_ext (t2.trans (fcodes_gtext g (by omega) (by omega)).symm)⟩
        rw [hw]
        show (if 0 < g then (g : Int) else -1) = if g < 2 ^ n then (g : Int) else -1
        rw [if_pos hg, if_pos t1]
      · have g0 : g = 0 := by omega
        subst g0
        rw [fcodes_zero] at t2
        have hw : w = "" := str_ext (t2.trans (by decide +kernel))
        have : gin w = none := by
          rw [hw]
          decide +kernel
        rw [this]
        rfl
    | none =>
      cases e2 : gin w with
      | none => rfl
      | some g =>
        obtain ⟨hg, hw⟩ := gin_iff.mp e2
        have g0 : g ≠ 0 := fun z => h0 (by rw [hw, z]; rfl)
        show (-1 : Int) = if g < 2 ^ n then (g : Int) else -1
        by_cases hb : g < 2 ^ n
        · rw [hw, fcodes_gtext g hg g0, lgl_yes n (by omega) g hb] at e
          cases e
        · rw [if_neg hb]
/-! words -/
theorem spl_ne : ∀ (l acc : List Nat), TL.spl [32] 0 acc l ≠ []
  | [], acc => by
    rw [TL.spl_nil]
    exact List.cons_ne_nil _ _
  | c :: r, acc => by
    cases h : TL.pre [32] (c :: r) with
    | true =>
      rw [TL.spl_hit h]
      exact List.cons_ne_nil _ _
    | false =>
      rw [TL.spl_miss h]
      exact spl_ne r _
theorem spl_joinL : ∀ (l acc : List Nat), TL.joinL [32] (TL.spl [32] 0 acc l) = acc ++ l
  | [], acc => by
    rw [TL.spl_nil, List.append_nil]
    rfl
  | c :: r, acc => by
    cases h : TL.pre [32] (c :: r) with
    | true =>
      rw [TL.spl_hit h]
      have ih := spl_joinL r []
      have hc : c = 32 := by
        simpa [TL.pre] using h
      show TL.joinL [32] (acc :: TL.spl [32] 0 [] r) = _
      cases e : TL.spl [32] 0 [] r with
      | nil => exact absurd e (spl_ne r [])
      | cons p ps =>
        rw [e] at ih
        show acc ++ ([32] ++ TL.joinL [32] (p :: ps)) = _
        rw [ih, hc]
        rfl
    | false =>
      rw [TL.spl_miss h, spl_joinL r]
      simp
def wordsM (x : Str) : List Str := Txt.split x " "
theorem words_tl (x : Str) : (wordsM x).map TL.tl = TL.spl [32] 0 [] (TL.tl x) := TL.split_spl x " " (by decide +kernel) (TL.kind_ok (by decide +kernel))
theorem words_ne (x : Str) : wordsM x ≠ [] := fun e => by
  have := words_tl x
  rw [e] at this
  exact spl_ne _ _ this.symm
theorem words_join (x : Str) : Txt.join " " (wordsM x) = x := by
  apply TL.ext_tl
  rw [TL.join_eq, TL.tl_join, words_tl]
  exact spl_joinL _ _
theorem spl_count : ∀ (l acc : List Nat), (TL.spl [32] 0 acc l).length ≤ l.length + 1
  | [], acc => by
    rw [TL.spl_nil]
    exact Nat.le_refl _
  | c :: r, acc => by
    cases h : TL.pre [32] (c :: r) with
    | true =>
      rw [TL.spl_hit h]
      have := spl_count r []
      show (TL.spl [32] 0 [] r).length + 1 ≤ _
      rw [List.length_cons]
      omega
    | false =>
      rw [TL.spl_miss h]
      have := spl_count r (acc ++ [c])
      rw [List.length_cons]
      omega
theorem words_count (x : Str) : (wordsM x).length ≤ x.length + 1 := by
  have := spl_count (TL.tl x) []
  rw [← words_tl, List.length_map, ← TL.len_tl] at this
  exact this
theorem spl_words : ∀ (l acc : List Nat), ∀ p ∈ TL.spl [32] 0 acc l, p.length ≤ acc.length + l.length
  | [], acc, p, hp => by
    rw [TL.spl_nil] at hp
    rw [List.mem_singleton.mp hp]
    exact Nat.le_add_right _ _
  | c :: r, acc, p, hp => by
    cases h : TL.pre [32] (c :: r) with
    | true =>
      rw [TL.spl_hit h] at hp
      rcases List.mem_cons.mp hp with rfl | hp
      · exact Nat.le_add_right _ _
      · have := spl_words r [] p hp
        rw [List.length_cons]
        simp only [List.length_nil] at this
        omega
    | false =>
      rw [TL.spl_miss h] at hp
      have := spl_words r (acc ++ [c]) p hp
      rw [List.length_append, List.length_singleton] at this
      rw [List.length_cons]
      omega
theorem words_len {x w : Str} (hw : w ∈ wordsM x) : w.length ≤ x.length := by
  have := spl_words (TL.tl x) [] (TL.tl w) (by rw [← words_tl]; exact List.mem_map_of_mem hw)
  rw [List.length_nil, Nat.zero_add] at this
  rw [TL.len_tl, TL.len_tl]
  exact this
def nin (w : Str) : Option Nat := (List.range 6).find? fun n => decide (1 ≤ n ∧ w = nword n)
theorem nword_inj : ∀ n, n < 6 → ∀ m, m < 6 → nword n = nword m → n = m := by decide +kernel
theorem nin_iff {w : Str} {n : Nat} : nin w = some n ↔ (1 ≤ n ∧ n ≤ 5) ∧ w = nword n := by
  unfold nin
  constructor
  · intro h
    have h1 := List.mem_range.mp (List.mem_of_find?_eq_some h)
    have h2 := of_decide_eq_true (List.find?_some (p := fun n => decide (1 ≤ n ∧ w = nword n)) h)
    exact ⟨⟨h2.1, by omega⟩, h2.2⟩
  · rintro ⟨⟨h1, h5⟩, rfl⟩
    rw [List.find?_range_eq_some]
    refine ⟨decide_eq_true ⟨h1, rfl⟩, List.mem_range.mpr (by omega), fun j hj => ?_⟩
    rw [Bool.not_eq_true', decide_eq_false_iff_not]
    rintro ⟨_, e⟩
    have := nword_inj n (by omega) j (by omega) e
    omega
theorem nin_none {w : Str} (h : nin w = none) : w ∉ (["1:", "2:", "3:", "4:", "5:"] : List Str) := fun hm => by
  have key : ∀ s ∈ (["1:", "2:", "3:", "4:", "5:"] : List Str), nin s ≠ none := by decide +kernel
  exact key w hm h
theorem nin_some {w : Str} {n : Nat} (h : nin w = some n) : w ∈ (["1:", "2:", "3:", "4:", "5:"] : List Str) := by
  obtain ⟨⟨h1, h5⟩, rfl⟩ := nin_iff.mp h
  exact nword_in n (by omega) h1
/-! least groups -/
def okG (gs : List Nat) : Prop := gs.Pairwise fun a b => a < b ∧ b &&& a ≠ a
theorem under_wo : ∀ g, g < 32 → ∀ o, o < 32 → g &&& o = o → g ≠ o → (wo g).any (fun l => decide (l &&& o = o)) = true := by
  have key : ∀ g, g < 32 → ∀ o, o < 32 → ((!decide (g &&& o = o)) || (decide (g = o) || (wo g).any (fun l => decide (l &&& o = o)))) = true := by decide +kernel
  intro g hg o ho h1 h2
  have q := key g hg o ho
  rw [decide_eq_true h1, decide_eq_false h2] at q
  simpa using q
theorem wo_under : ∀ g, g < 32 → ∀ l ∈ wo g, ∀ o, o < 32 → l &&& o = o → g &&& o = o := by
  have key : ∀ g, g < 32 → ∀ l ∈ wo g, ∀ o, o < 32 → ((!decide (l &&& o = o)) || decide (g &&& o = o)) = true := by decide +kernel
  intro g hg l hl o ho h
  have q := key g hg l hl o ho
  rw [decide_eq_true h] at q
  simpa using q
theorem least_rise (t : List Bool) : (leastM t).Pairwise (· < ·) := List.Pairwise.filter _ List.pairwise_lt_range
theorem least_ok {n : Nat} {t : List Bool} (hn : n ≤ 5) (h : Mono n t) : okG (leastM t) := by
  have hp := pow_le n hn
  refine (least_rise t).imp_of_mem fun {a b} ha hb hab => ⟨hab, fun e => ?_⟩
  obtain ⟨ha1, ha2⟩ := List.mem_filter.mp ha
  obtain ⟨hb1, hb2⟩ := List.mem_filter.mp hb
  have ha1 := List.mem_range.mp ha1
  have hb1 := List.mem_range.mp hb1
  rw [h.1] at ha1 hb1
  rw [Bool.and_eq_true, Bool.not_eq_true', List.any_eq_false] at hb2
  rw [Bool.and_eq_true] at ha2
  obtain ⟨l, hl, e2⟩ := List.any_eq_true.mp (under_wo b (by omega) a (by omega) e (by omega))
  have hlb := wo_lt hl
  exact hb2.2 l hl (h.2 l a (by omega) ha1 (of_decide_eq_true e2) ha2.1)
theorem rise_ext {l m : List Nat} (hl : l.Pairwise (· < ·)) (hm : m.Pairwise (· < ·)) (h : ∀ a, a ∈ l ↔ a ∈ m) : l = m := by
  have p : l.Perm m := (List.perm_ext_iff_of_nodup (hl.imp fun h => Nat.ne_of_lt h) (hm.imp fun h => Nat.ne_of_lt h)).mpr h
  exact List.Perm.eq_of_pairwise (le := (· ≤ ·)) (fun a b _ _ h1 h2 => by omega) (hl.imp fun h => Nat.le_of_lt h) (hm.imp fun h => Nat.le_of_lt h) p
theorem okG_at {gs : List Nat} (ok : okG gs) {a b : Nat} (ha : a ∈ gs) (hb : b ∈ gs) (e : b &&& a = a) : a = b := by
  induction gs with
  | nil => cases ha
  | cons c gs ih =>
    obtain ⟨h1, h2⟩ := List.pairwise_cons.mp ok
    rcases List.mem_cons.mp ha with ea | ha
    · rcases List.mem_cons.mp hb with eb | hb
      · rw [ea, eb]
      · rw [ea] at e
        exact absurd e (h1 b hb).2
    · rcases List.mem_cons.mp hb with eb | hb
      · have q := (h1 a ha).1
        have : b &&& a ≤ b := Nat.and_le_left
        rw [e] at this
        omega
      · exact ih h2 ha hb
theorem tab_any {n g : Nat} {gs : List Nat} (h : g < 2 ^ n) : (tab n gs).getD g false = true ↔ ∃ o, o ∈ gs ∧ g &&& o = o := by
  rw [tab_get h, List.any_eq_true]
  exact ⟨fun ⟨o, h1, h2⟩ => ⟨o, h1, of_decide_eq_true h2⟩, fun ⟨o, h1, h2⟩ => ⟨o, h1, decide_eq_true h2⟩⟩
theorem least_tab {n : Nat} {gs : List Nat} (hn : n ≤ 5) (hg : ∀ g ∈ gs, g < 2 ^ n) (ok : okG gs) : leastM (tab n gs) = gs := by
  have hp := pow_le n hn
  refine rise_ext (least_rise _) (ok.imp fun h => h.1) fun g => ?_
  unfold leastM
  rw [List.mem_filter, List.mem_range, tab_len, Bool.and_eq_true, Bool.not_eq_true', List.any_eq_false]
  constructor
  · rintro ⟨h1, h2, h3⟩
    obtain ⟨o, ho, e⟩ := (tab_any h1).mp h2
    by_cases q : g = o
    · rw [q]
      exact ho
    · exfalso
      have ho2 := hg o ho
      obtain ⟨l, hl, e2⟩ := List.any_eq_true.mp (under_wo g (by omega) o (by omega) e q)
      have hlg := wo_lt hl
      exact h3 l hl ((tab_any (by omega)).mpr ⟨o, ho, of_decide_eq_true e2⟩)
  · intro h
    have h1 := hg g h
    refine ⟨h1, (tab_any h1).mpr ⟨g, h, Nat.and_self g⟩, fun l hl ht => ?_⟩
    have hlg := wo_lt hl
    obtain ⟨o, ho, e⟩ := (tab_any (by omega)).mp ht
    have ho2 := hg o ho
    have e2 := wo_under g (by omega) l hl o (by omega) e
    have q := okG_at ok ho h e2
    have : l &&& o ≤ l := Nat.and_le_left
    rw [e] at this
    omega
/-! reading -/
def bad (L : List Int) (k : Nat) : Bool := (decide (L.getD k 0 < 0) || (decide (0 < k) && decide (L.getD k 0 ≤ L.getD (k - 1) 0))) || (L.take k).any fun o => decide (Builtin.bitAnd (L.getD k 0) o = o)
def lawInM (x : Str) : Option (Nat × List Nat) := match wordsM x with
  | [] => none
  | w0 :: ws => match nin w0 with
    | none => none
    | some n => if (List.range ws.length).any (bad (ws.map (lgM n))) then none else some (n, (ws.map (lgM n)).map Int.toNat)
def readG (n : Nat) (ws : List Str) : Option (List Nat) := if (ws.all fun w => match gin w with | some g => decide (g < 2 ^ n) | none => false) = true then some (ws.map fun w => (gin w).getD 0) else none
def readM (x : Str) : Option (Nat × List Bool) := match wordsM x with
  | [] => none
  | w0 :: ws => match nin w0 with
    | none => none
    | some n => match readG n ws with
      | none => none
      | some gs => if wtext n (tab n gs) = x then some (n, tab n gs) else none
theorem readG_some {n : Nat} {ws : List Str} {gs : List Nat} (h : readG n ws = some gs) : gs = ws.map (fun w => (gin w).getD 0) ∧ ws = gs.map gtext ∧ (∀ g ∈ gs, g < 2 ^ n) ∧ ∀ w ∈ ws, ∃ g, gin w = some g ∧ g < 2 ^ n := by
  unfold readG at h
  split at h
  · rename_i q
    rw [List.all_eq_true] at q
    have key : ∀ w ∈ ws, ∃ g, gin w = some g ∧ g < 2 ^ n := fun w hw => by
      have z := q w hw
      cases e : gin w with
      | none => rw [e] at z; cases z
      | some g =>
        rw [e] at z
        exact ⟨g, rfl, of_decide_eq_true z⟩
    cases h
    refine ⟨rfl, ?_, fun g hg => ?_, key⟩
    · rw [List.map_map]
      have : ws.map (gtext ∘ fun w => (gin w).getD 0) = ws.map id := List.map_congr_left fun w hw => by
        obtain ⟨g, e, _⟩ := key w hw
        show gtext ((gin w).getD 0) = w
        rw [e]
        exact (gin_iff.mp e).2.symm
      rw [this, List.map_id]
    · obtain ⟨w, hw, rfl⟩ := List.mem_map.mp hg
      obtain ⟨g, e, hb⟩ := key w hw
      rw [e]
      exact hb
  · cases h
theorem lgM_list {n : Nat} (hn : n ≤ 5) {ws : List Str} (h : ∀ w ∈ ws, ∃ g, gin w = some g ∧ g < 2 ^ n) : ws.map (lgM n) = (ws.map fun w => (gin w).getD 0).map fun g => ((g : Nat) : Int) := by
  rw [List.map_map]
  refine List.map_congr_left fun w hw => ?_
  obtain ⟨g, e, hb⟩ := h w hw
  rw [lgM_gin hn]
  unfold lgS
  show _ = (((gin w).getD 0 : Nat) : Int)
  rw [e]
  show (if g < 2 ^ n then (g : Int) else -1) = _
  rw [if_pos hb]
  rfl
theorem getD_int (gs : List Nat) (k : Nat) : (gs.map fun g => ((g : Nat) : Int)).getD k 0 = ((gs.getD k 0 : Nat) : Int) := by
  rw [List.getD_eq_getElem?_getD, List.getD_eq_getElem?_getD, List.getElem?_map]
  cases gs[k]? <;> rfl
theorem bad_nat {gs : List Nat} {k : Nat} : bad (gs.map fun g => ((g : Nat) : Int)) k = ((decide (0 < k) && decide (gs.getD k 0 ≤ gs.getD (k - 1) 0)) || (gs.take k).any fun o => decide (gs.getD k 0 &&& o = o)) := by
  unfold bad
  rw [getD_int, getD_int, ← List.map_take, List.any_map, decide_eq_false (by omega : ¬ ((gs.getD k 0 : Nat) : Int) < 0), Bool.false_or]
  congr 1
  · congr 1
    rw [decide_eq_decide]
    omega
  · congr 1
    funext o
    exact holds_nat _ _
theorem okG_of {gs : List Nat} (h : ∀ k, k < gs.length → bad (gs.map fun g => ((g : Nat) : Int)) k = false) : okG gs := by
  have key : ∀ k, k < gs.length → (0 < k → gs.getD (k - 1) 0 < gs.getD k 0) ∧ ∀ o ∈ gs.take k, gs.getD k 0 &&& o ≠ o := fun k hk => by
    have q := h k hk
    rw [bad_nat, Bool.or_eq_false_iff, List.any_eq_false] at q
    refine ⟨fun h0 => ?_, fun o ho e => q.2 o ho (decide_eq_true e)⟩
    have q1 := q.1
    rw [decide_eq_true h0, Bool.true_and, decide_eq_false_iff_not] at q1
    omega
  have rise : ∀ k, k < gs.length → ∀ j, j < k → gs.getD j 0 < gs.getD k 0 := by
    intro k
    induction k with
    | zero => intro _ j hj; omega
    | succ k ih =>
      intro hk j hj
      have q := (key (k + 1) hk).1 (by omega)
      rw [Nat.add_sub_cancel] at q
      rcases Nat.lt_or_eq_of_le (Nat.lt_succ_iff.mp hj) with z | z
      · exact Nat.lt_trans (ih (by omega) j z) q
      · rw [z]
        exact q
  refine List.pairwise_iff_getElem.mpr fun i j hi hj hij => ?_
  have r := rise j hj i hij
  rw [List.getD_eq_getElem?_getD, List.getD_eq_getElem?_getD, List.getElem?_eq_getElem hi, List.getElem?_eq_getElem hj] at r
  refine ⟨r, ?_⟩
  have q := (key j hj).2 gs[i] (List.mem_take_iff_getElem.mpr ⟨i, by omega, rfl⟩)
  rw [List.getD_eq_getElem?_getD, List.getElem?_eq_getElem hj] at q
  exact q
theorem ok_noBad {gs : List Nat} (ok : okG gs) {k : Nat} (hk : k < gs.length) : bad (gs.map fun g => ((g : Nat) : Int)) k = false := by
  have p := List.pairwise_iff_getElem.mp ok
  have ek : gs.getD k 0 = gs[k] := by rw [List.getD_eq_getElem?_getD, List.getElem?_eq_getElem hk]; rfl
  rw [bad_nat, Bool.or_eq_false_iff, List.any_eq_false, ek]
  constructor
  · by_cases h0 : 0 < k
    · have e1 : gs.getD (k - 1) 0 = gs[k - 1] := by rw [List.getD_eq_getElem?_getD, List.getElem?_eq_getElem (by omega)]; rfl
      have q := (p (k - 1) k (by omega) hk (by omega)).1
      rw [e1, decide_eq_true h0, Bool.true_and, decide_eq_false_iff_not]
      omega
    · rw [decide_eq_false h0]
      rfl
  · intro o ho e
    obtain ⟨i, hi, rfl⟩ := List.mem_take_iff_getElem.mp ho
    exact (p i k (by omega) hk (by omega)).2 (of_decide_eq_true e)
/-- what the law reads, the program reads -/
theorem law_read {x : Str} {n : Nat} {gs : List Nat} (h : lawInM x = some (n, gs)) : readM x = some (n, tab n gs) ∧ leastM (tab n gs) = gs ∧ (1 ≤ n ∧ n ≤ 5) ∧ gs.length ≤ 32 ∧ ∀ g ∈ gs, g < 2 ^ n := by
  unfold lawInM at h
  unfold readM
  cases ew : wordsM x with
  | nil => exact absurd ew (words_ne x)
  | cons w0 ws =>
    rw [ew] at h
    dsimp only at h ⊢
    cases en : nin w0 with
    | none => rw [en] at h; cases h
    | some m =>
      rw [en] at h
      dsimp only at h ⊢
      obtain ⟨⟨h1, h5⟩, hw0⟩ := nin_iff.mp en
      split at h
      · cases h
      · rename_i q
        rw [Bool.not_eq_true, List.any_eq_false] at q
        have all : ∀ w ∈ ws, ∃ g, gin w = some g ∧ g < 2 ^ m := fun w hw => by
          obtain ⟨k, hk, rfl⟩ := List.getElem_of_mem hw
          have z := q k (List.mem_range.mpr hk)
          rw [Bool.not_eq_true] at z
          unfold bad at z
          rw [Bool.or_eq_false_iff, Bool.or_eq_false_iff, decide_eq_false_iff_not, List.getD_eq_getElem?_getD, List.getElem?_map, List.getElem?_eq_getElem hk] at z
          have z1 : ¬ lgM m ws[k] < 0 := z.1.1
          rw [lgM_gin h5] at z1
          unfold lgS at z1
          cases e : gin ws[k] with
          | none =>
            rw [e] at z1
            exact absurd (show (-1 : Int) < 0 by decide) z1
          | some g =>
            rw [e] at z1
            dsimp only at z1
            by_cases hb : g < 2 ^ m
            · exact ⟨g, rfl, hb⟩
            · rw [if_neg hb] at z1
              exact absurd (show (-1 : Int) < 0 by decide) z1
        have eL := lgM_list h5 all
        rw [eL] at h q
        have eR : readG m ws = some (ws.map fun w => (gin w).getD 0) := by
          unfold readG
          rw [if_pos]
          rw [List.all_eq_true]
          intro w hw
          obtain ⟨g, e, hb⟩ := all w hw
          rw [e]
          exact decide_eq_true hb
        obtain ⟨_, r1, r2, _⟩ := readG_some eR
        rw [eR]
        generalize (ws.map fun w => (gin w).getD 0) = gi at h q r1 r2
        have ok : okG gi := okG_of fun k hk => by
          have := q k (List.mem_range.mpr (by rw [r1, List.length_map]; exact hk))
          rwa [Bool.not_eq_true] at this
        have lt := least_tab h5 r2 ok
        have eg : (gi.map fun g => ((g : Nat) : Int)).map Int.toNat = gi := by
          rw [List.map_map]
          exact List.map_id' gi
        rw [eg] at h
        cases h
        dsimp only
        have ex : wtext n (tab n gs) = x := by
          unfold wtext
          rw [lt, ← r1, ← hw0, ← ew]
          exact words_join x
        rw [if_pos ex]
        have hp := pow_le n h5
        refine ⟨rfl, lt, ⟨h1, h5⟩, ?_, r2⟩
        rw [← lt]
        exact leastM_len (by rw [tab_len]; exact hp)
/-- what the law doesn't read, the program doesn't -/
theorem law_unread {x : Str} (h : lawInM x = none) : readM x = none := by
  unfold lawInM at h
  unfold readM
  cases ew : wordsM x with
  | nil => rfl
  | cons w0 ws =>
    rw [ew] at h
    dsimp only at h ⊢
    cases en : nin w0 with
    | none => rfl
    | some m =>
      rw [en] at h
      dsimp only at h ⊢
      obtain ⟨⟨h1, h5⟩, hw0⟩ := nin_iff.mp en
      cases er : readG m ws with
      | none => rfl
      | some gs =>
        obtain ⟨r0, r1, r2, r3⟩ := readG_some er
        dsimp only
        split
        · rename_i ex
          exfalso
          have hp := pow_le m h5
          have hl : ∀ g ∈ leastM (tab m gs), g < 32 := fun g hg => by
            have := List.mem_range.mp (List.mem_filter.mp hg).1
            rw [tab_len] at this
            omega
          have sp := wtext_split (n := m) (t := tab m gs) (by omega) hl
          rw [ex] at sp
          have sp2 : w0 :: ws = nword m :: (leastM (tab m gs)).map gtext := ew.symm.trans sp
          have e1 := (List.cons.inj sp2).2
          rw [r1] at e1
          have e2 : gs = leastM (tab m gs) := by
            have e3 := congrArg (List.map fun w => (gin w).getD 0) e1
            rw [List.map_map, List.map_map] at e3
            have key : ∀ l : List Nat, (∀ g ∈ l, g < 32) → l.map ((fun w => (gin w).getD 0) ∘ gtext) = l := fun l hl => by
              have : l.map ((fun w => (gin w).getD 0) ∘ gtext) = l.map id := List.map_congr_left fun g hg => by
                show (gin (gtext g)).getD 0 = g
                rw [gin_iff.mpr ⟨hl g hg, rfl⟩]
                rfl
              rw [this, List.map_id]
            rw [key gs fun g hg => Nat.lt_of_lt_of_le (r2 g hg) hp, key _ hl] at e3
            exact e3
          have ok : okG gs := by
            rw [e2]
            exact least_ok h5 mono_tab
          rw [lgM_list h5 r3, ← r0] at h
          split at h
          · rename_i q
            obtain ⟨k, hk, hb⟩ := List.any_eq_true.mp q
            have hk := List.mem_range.mp hk
            rw [ok_noBad ok (by rw [r0, List.length_map]; exact hk)] at hb
            cases hb
          · cases h
        · rfl
end Wv
/-! reading: small rules -/
namespace Wv
open PySem PySem.Spec L2 PyProof.Rows
open Evl (Ex fresh_back ex_l)
theorem pass3 {X : Cx} : Passes (L3.CX3 X.prog X.w) X E0 := fun _ _ _ _ _ _ _ h => by
  obtain ⟨_, _, _, _, _, _, _, _, _, _, _, _, _, _, z⟩ := h
  exact z.elim
section
variable {K : PySem.W.Frag} {E E' : XK} {sl : List Sl} {P : En} {ta te tb : TE} {x y : Str} {c k : Nat}
theorem od_isN : OpD K (fun x y H Q => y = .non ∧ Q (.bl (decide (x = .non))) H) .non .non (.dat (.bl true)) := fun B H vx vy e dx dy E Q q => by
  rw [den_non dx, den_non dy]
  exact ⟨rfl, by rw [decide_eq_true rfl]; exact post_v e q (mk_bl _)⟩
theorem od_isNT {ds : List D} : OpD K (fun x y H Q => y = .non ∧ Q (.bl (decide (x = .non))) H) (.tup ds) .non (.dat (.bl false)) := fun B H vx vy e dx dy E Q q => by
  obtain ⟨a, us, rfl, h1, h2⟩ := den_tup dx
  rw [den_non dy]
  exact ⟨rfl, by rw [decide_eq_false (fun z => nomatch z)]; exact post_v e q (mk_bl _)⟩
theorem od_catS {xs ys : List Str} (h : xs.length + ys.length ≤ sizeLine) : OpD K rCat (strL xs) (strL ys) (.new ((xs ++ ys).map .str)) := by
  have q : OpD K rCat (.lst (xs.map D.str)) (.lst (ys.map D.str)) (.new (xs.map D.str ++ ys.map D.str)) := od_cat (by rw [List.length_map, List.length_map]; exact h)
  rw [List.map_append]
  exact q
theorem w_forEach {xs : List D} {ti : TI} {j : Nat} {tb : TS} (S : List Sl) (hi : ItE K ti sl xs) (h0 : Fgt sl S)
    (hs : ∀ d, d ∈ xs → W K E tb (S.set j (.fz d)) { nx := fun s => Fgt s S, ct := fun s => Fgt s S, bk := P.nx, rt := P.rt }) (hd : ∀ s, Fgt s S → P.nx s) : W K E (tFor ti (gName j) tb) sl P :=
  w_for (fun _ s => Fgt s S) hi h0 (fun i d s h1 h2 => gw_name (w_fgt (fgt_set h2) (hs d (List.mem_of_getElem? h1)))) fun s h => hd s h
/-- a list of texts, none of them long -/
def EvStrs (K : PySem.W.Frag) (tr : TA) (sl : List Sl) (n : Nat) : Prop := ∃ zs : List Str, EvA K tr sl (zs.map .str) ∧ (∀ z ∈ zs, z.length ≤ 20000) ∧ zs.length ≤ n
theorem es_nil : EvStrs K tNil sl 0 := ⟨[], ea_nil, (fun _ h => nomatch h), Nat.le_refl _⟩
theorem es_cons {tr : TA} {n : Nat} (h : EvR K E0 ta sl (.dat (.str x))) (hx : x.length ≤ 20000) (hr : EvStrs K tr sl n) : EvStrs K (tCons ta tr) sl (n + 1) := by
  obtain ⟨zs, h1, h2, h3⟩ := hr
  refine ⟨x :: zs, ea_cons h h1, fun z hz => ?_, Nat.succ_le_succ h3⟩
  rcases List.mem_cons.mp hz with rfl | hz
  · exact hx
  · exact h2 z hz
theorem w_asgS {tr : TA} {i n : Nat} (h : EvStrs K tr sl n) (hn : n ≤ 1000) (k : ∀ zs : List Str, (∀ z ∈ zs, z.length ≤ 20000) → zs.length ≤ n → P.nx (sl.set i (.fz (strL zs)))) : W K E (tAsg (tLst tr) (gName i)) sl P := by
  obtain ⟨zs, h1, h2, h3⟩ := h
  exact w_asg (d := strL zs) (EvR.fz (ev_lst h1 (by rw [List.length_map, sizeLine_eq]; omega))) (k zs h2 h3)
theorem w_asgS2 {tr : TA} {i n : Nat} {xs : List Str} (hi : sl[i]? = some (.fz (strL xs))) (h : EvStrs K tr sl n) (hn : n ≤ 1000) (hx : xs.length ≤ 1000)
    (k : ∀ zs : List Str, (∀ z ∈ zs, z.length ≤ 20000) → zs.length ≤ n → P.nx (sl.set i (.fz (strL (xs ++ zs))))) : W K E (tAsg (tOp rCat (tVar i) (tLst tr)) (gName i)) sl P := by
  obtain ⟨zs, h1, h2, h3⟩ := h
  exact w_asg (d := strL (xs ++ zs)) (EvR.fz (ev_op (ev_var hi) (EvR.fz (ev_lst h1 (by rw [List.length_map, sizeLine_eq]; omega))) (od_catS (by rw [sizeLine_eq]; omega)))) (k zs h2 h3)
/-- a list walked; what has been passed is kept in mind -/
theorem w_forPre {xs : List D} {ti : TI} {j : Nat} {t : TS} (S : List Sl) (G : Nat → Prop) (hi : ItE K ti sl xs) (h0 : Fgt sl S) (g0 : G 0)
    (hs : ∀ i d, xs[i]? = some d → G i → W K E t (S.set j (.fz d)) { nx := fun s => Fgt s S ∧ G (i + 1), ct := fun s => Fgt s S ∧ G (i + 1), bk := P.nx, rt := P.rt }) (hd : ∀ s, Fgt s S → G xs.length → P.nx s) : W K E (tFor ti (gName j) t) sl P :=
  w_for (fun i s => Fgt s S ∧ G i) hi ⟨h0, g0⟩ (fun i d s h1 h2 => gw_name (w_fgt (fgt_set h2.1) (hs i d h1 h2.2))) fun s h => hd s h.1 h.2
end
theorem cut_takeD (xs : List D) (a : Nat) : cutD xs none (some (a : Int)) = xs.take a := by
  unfold cutD
  rw [HT.sIx_none, HT.sIx_nat, List.drop_zero, Nat.sub_zero]
  by_cases h : a ≤ xs.length
  · rw [Nat.min_eq_left h]
  · rw [Nat.min_eq_right (by omega), List.take_of_length_le (Nat.le_refl _), List.take_of_length_le (by omega)]
theorem atI_nat {l : List Nat} {j : Nat} (h : j < l.length) : atI l (j : Int) = some (l.getD j 0) := by
  unfold atI ixN
  rw [if_pos (by omega), if_pos (by omega), Int.toNat_natCast, List.getD_eq_getElem?_getD]
  show l[j]? = _
  rw [List.getElem?_eq_getElem h]
  rfl
/-! what the law makes of a text -/
def signsM : Str := ("0123456:- x" : Str) ++ ("\t\n+/" : Str)
theorem signsM_len : signsM.length = 15 := by decide +kernel
def otherM (x : Str) (c : Int) (k : Nat) : Str :=
  let a := drawM c k ((x.length : Nat) + 1)
  let z : Str := ⟨#[signsM.cps.toList.getD (drawM c (k + 3) 15) 0]⟩
  if drawM c (k + 5) 3 = 0 then cutS x none (some (a : Int)) ++ z ++ cutS x (some (a : Int)) none
  else cutS x none (some (a : Int)) ++ (if drawM c (k + 5) 3 = 1 then ("" : Str) else z) ++ cutS x (some ((a : Int) + 1)) none
theorem otherM_len (x : Str) (c : Int) (k : Nat) : (otherM x c k).length ≤ 2 * x.length + 1 := by
  have h1 := cutS_length x none (some (drawM c k ((x.length : Nat) + 1) : Int))
  have h2 := cutS_length x (some (drawM c k ((x.length : Nat) + 1) : Int)) none
  have h3 := cutS_length x (some ((drawM c k ((x.length : Nat) + 1) : Int) + 1)) none
  have h4 : (⟨#[signsM.cps.toList.getD (drawM c (k + 3) 15) 0]⟩ : Str).length = 1 := rfl
  have h5 : (("" : Str)).length = 0 := by decide +kernel
  unfold otherM
  dsimp only
  split
  · rw [TL.len_tl, TL.tl_append, TL.tl_append, List.length_append, List.length_append, ← TL.len_tl, ← TL.len_tl, ← TL.len_tl]
    omega
  · rw [TL.len_tl, TL.tl_append, TL.tl_append, List.length_append, List.length_append, ← TL.len_tl, ← TL.len_tl, ← TL.len_tl]
    split <;> omega
/-- the first that is none -/
theorem first_bad : ∀ ws : List Str, (∀ w ∈ ws, ∃ g, gin w = some g) ∨ ∃ (k : Nat) (a : Str), ws[k]? = some a ∧ gin a = none ∧ ∀ (i : Nat) (b : Str), i < k → ws[i]? = some b → ∃ g, gin b = some g
  | [] => .inl fun _ h => nomatch h
  | w :: ws => by
    cases e : gin w with
    | none => exact .inr ⟨0, w, rfl, e, fun i b h => absurd h (Nat.not_lt_zero i)⟩
    | some g =>
      rcases first_bad ws with h | ⟨k, a, h1, h2, h3⟩
      · exact .inl fun v hv => by
          rcases List.mem_cons.mp hv with rfl | hv
          · exact ⟨g, e⟩
          · exact h v hv
      · refine .inr ⟨k + 1, a, by simpa using h1, h2, fun i b hi hb => ?_⟩
        cases i with
        | zero =>
          have : w = b := by simpa using hb
          exact ⟨g, this ▸ e⟩
        | succ i => exact h3 i b (by omega) (by simpa using hb)
end Wv
namespace Wv
open PySem L2 PyProof.Rows
open Evl (Ex fresh_back ex_l)
def top (i : Nat) : Stmt := PySem.Challenge.pw_weighvote_k07_texts_misread.main.body.getD i (.Pass ⟨0, 0, 0, 0⟩)
/-! ### the words that evaluate -/
local macro_rules | `(tactic| walk_at "side0") => `(tactic| first
  | assumption | exact True.intro | (with_reducible exact rfl) | omega | (constructor <;> first | assumption | omega) | decide | (solve_by_elim) | (simp; done) | (simp <;> omega))
local macro_rules | `(tactic| walk_at "side") => `(tactic| first | walk_at "side0" | (dsimp only; walk_at "side0"))
local macro_rules | `(tactic| walk_at "nt") => `(tactic| first
  | (with_reducible exact pw_nat _) | (with_reducible exact shl_one _) | (with_reducible exact rfl) | (with_reducible exact lit0) | (with_reducible exact lit1) | (with_reducible exact lit2) | (with_reducible exact lit3) | (with_reducible exact lit4) | (with_reducible exact lit5) | (with_reducible exact lit6) | (with_reducible exact lit7) | (with_reducible exact lit8) | (with_reducible exact lit31) | (with_reducible exact lit32) | (with_reducible exact lit40) | exact rfl | omega | (simp; done))
local macro_rules | `(tactic| walk_at "od") => `(tactic| first
  | (with_reducible exact od_andN) | (with_reducible exact od_orN) | (with_reducible exact od_xorN) | ((with_reducible apply od_shl1); omega) | (with_reducible exact od_eqNat) | (with_reducible exact od_neNat)
  | (with_reducible exact od_i) | (with_reducible exact od_b) | (with_reducible exact od_eqI) | (with_reducible exact od_neI) | (with_reducible exact od_eqB) | (with_reducible exact od_neB) | (with_reducible exact od_eqS) | (with_reducible exact od_neS)
  | ((with_reducible refine od_ixB ?_); walk_at "side") | ((with_reducible refine od_ixI ?_); walk_at "side") | ((with_reducible refine od_ixN ?_); walk_at "side")
  | ((with_reducible apply od_ixR); (· walk_at "side"); (· walk_at "side"))
  | ((with_reducible apply od_ixT); (· walk_at "side"); (· exact rfl)) | ((with_reducible apply od_ixL); (· walk_at "side"); (· exact rfl))
  | (with_reducible exact od_eqN) | (with_reducible exact od_neN) | (with_reducible exact od_eqL) | (with_reducible exact od_neL) | (with_reducible exact od_eqLb)
  | (with_reducible exact od_inI)
  | (with_reducible exact od_isB) | (with_reducible exact od_notB) | (with_reducible exact od_neLL) | (with_reducible exact od_inLL) | ((with_reducible refine od_ixLL ?_); walk_at "side")
  | ((with_reducible refine od_ic ?_); walk_at "oc")
  | ((with_reducible refine od_cat ?_); walk_at "sz"))
local macro_rules | `(tactic| walk_at "oc") => `(tactic| first
  | assumption | (refine And.intro ?_ (And.intro ?_ ?_) <;> first | assumption | omega | decide) | (refine And.intro ?_ ?_ <;> first | assumption | omega | decide) | (refine Or.inl (And.intro ?_ ?_) <;> first | omega | decide) | (refine Or.inr (And.intro ?_ ?_) <;> first | omega | decide) | (show (0 : Int) ≤ _; omega) | (show (0 : Int) < _; omega) | (show (0 : Int) < _; decide) | decide)
local macro_rules | `(tactic| walk_at "sz") => `(tactic| first
  | omega | (with_reducible exact wo_big _) | (simp only [List.length_map, List.length_range, List.length_cons, List.length_nil, sizeLine_eq] <;> omega)
  | (rw [sizeLine_eq]; simp <;> omega) | (simp <;> omega) | decide)
local macro_rules | `(tactic| walk_at "cf") => `(tactic| first
  | assumption | exact c_within.i _ _ _
  | ((refine c_law_table.mk ?_ ?_); (· walk_at "side"); (· walk_at "sz"))
  | ((refine c_law_is.mk ?_); walk_at "side") | ((refine RC1.mk ?_); walk_at "side") | ((refine RC2.mk ?_); walk_at "side") | ((refine RCC.mk ?_); walk_at "side")
  | ((refine RC3.mk ⟨?_, ?_, ?_, ?_⟩) <;> walk_at "side")
  | ((refine R1.mk ?_); walk_at "side") | ((refine R2'.mk ?_); walk_at "side") | ((refine R3.mk ?_); walk_at "side") | ((refine R4.mk ?_); walk_at "side"))
local macro_rules | `(tactic| walk_at "cb") => `(tactic| first
  | (with_reducible exact cb_lenM) | (with_reducible exact cb_len) | (with_reducible exact cb_lenT) | (with_reducible exact cb_lenR) | (with_reducible exact cb_anyM) | (with_reducible exact cb_allM) | (with_reducible exact cb_sumM)
  | (with_reducible exact cb_sortedN) | (with_reducible exact cb_min2) | (with_reducible exact cb_max2) | ((with_reducible apply cb_isiO) <;> assumption)
  | (with_reducible exact cb_any) | (with_reducible exact cb_all) | (with_reducible exact cb_sum) | (with_reducible exact cb_list)
  | ((with_reducible apply cb_isi); (· constructor); (· first | (with_reducible exact kit_ii) | (with_reducible exact kit_ib) | (with_reducible exact kit_bb) | (with_reducible exact kit_bi) | (with_reducible exact kit_ll) | (with_reducible exact kit_ss) | (with_reducible exact kit_li) | (with_reducible exact kit_lb) | (with_reducible exact kit_ti) | (with_reducible exact kit_tl) | (with_reducible exact kit_si) | (with_reducible exact kit_sl) | (with_reducible exact kit_ni) | (with_reducible exact kit_nl) | (with_reducible exact kit_il) | (with_reducible exact kit_lt) | (with_reducible exact kit_tt) | (with_reducible exact kit_ns) | (with_reducible exact kit_is) | (with_reducible exact kit_ls) | (with_reducible exact kit_bs))))
local macro_rules | `(tactic| walk_at "ea") => `(tactic| first
  | (with_reducible exact ea_nil)
  | ((with_reducible apply ea_cons); (· walk_at "ev"); (· walk_at "ea")))
local macro_rules | `(tactic| walk_at "ne") => `(tactic| first | exact Or.inr rfl | exact Or.inl (fun _ z => nomatch z))
local macro_rules | `(tactic| walk_at "et") => `(tactic| first
  | (with_reducible exact et_yes)
  | ((with_reducible apply et_test); walk_at "ev") | ((with_reducible apply et_B); walk_at "ev")
  | ((with_reducible apply et_not); walk_at "et")
  | ((with_reducible apply et_and); (· walk_at "et"); (· intro hq; walk_at "et"))
  | ((with_reducible apply et_or); (· walk_at "et"); (· intro hq; walk_at "et")))
local macro_rules | `(tactic| walk_at "it") => `(tactic| first
  | ((with_reducible apply it_rngN); (· walk_at "ea"); (· walk_at "nt"); (· walk_at "side"))
  | ((with_reducible apply it_list); walk_at "ev") | ((with_reducible apply it_tup); walk_at "ev"))
local macro_rules | `(tactic| walk_at "evN") => `(tactic| first
  | ((with_reducible apply ev_callG); (· walk_at "ea"); (· walk_at "cf"); (· walk_at "ne"))
  | ((with_reducible apply ev_methG); (· walk_at "ev"); (· decide +kernel); (· walk_at "ea"); (· walk_at "cf"); (· walk_at "ne"))
  | ((with_reducible apply ev_lst); (· walk_at "ea"); (· walk_at "sz"))
  | ((with_reducible apply ev_cb); (· walk_at "ea"); (· walk_at "cb"))
  | ((with_reducible apply ev_op); (· walk_at "ev"); (· walk_at "ev"); (· walk_at "od"))
  | ((with_reducible apply ev_lcM); (· walk_at "it"); (· walk_at "sz"); (· decide); (· (intro a ha; (try replace ha := List.mem_range.mp ha); walk_at "ev")))
  | ((with_reducible apply ev_lcF); (· walk_at "it"); (· walk_at "sz"); (· decide); (· (intro a ha; (try replace ha := List.mem_range.mp ha); walk_at "et")); (· (intro a ha hf; (try replace ha := List.mem_range.mp ha); walk_at "ev")))
  | ((with_reducible apply ev_revL); walk_at "ev")
  | ((with_reducible apply ev_listRg1); (· walk_at "ev"); (· walk_at "nt"); (· walk_at "side")))
local macro_rules | `(tactic| walk_at "ev") => `(tactic| first
  | ((with_reducible apply ev_var); exact rfl)
  | (with_reducible exact ev_int) | (with_reducible exact ev_bl) | (with_reducible exact ev_str) | (with_reducible exact ev_non) | (with_reducible exact ev_ty) | (with_reducible exact ev_fn)
  | ((with_reducible apply ev_op); (· walk_at "ev"); (· walk_at "ev"); (· walk_at "od"))
  | ((with_reducible apply ev_un); (· walk_at "ev"); (· exact ud_i))
  | ((with_reducible apply ev_chain); (· walk_at "ev"); (· walk_at "ev"); (· walk_at "ev"); (· walk_at "od"); (· walk_at "od"))
  | ((with_reducible apply ev_andV); (· walk_at "ev"); (· intro hq; walk_at "ev"))
  | ((with_reducible apply ev_orV); (· walk_at "ev"); (· intro hq; walk_at "ev"))
  | ((with_reducible apply ev_notV); walk_at "ev")
  | ((with_reducible apply ev_if); (· walk_at "et"); (· intro hq; walk_at "ev"); (· intro hq; walk_at "ev"))
  | ((with_reducible apply ev_fld); (· walk_at "ev"); (· assumption); (· assumption); (· first | exact lk_members _ _ | exact lk_table _ _ | exact lk_f1 | exact lk_f41 | exact lk_f42 | exact lk_f43 | exact lk_f44))
  | ((with_reducible apply ev_callG); (· walk_at "ea"); (· walk_at "cf"); (· walk_at "ne"))
  | ((with_reducible apply ev_methG); (· walk_at "ev"); (· decide +kernel); (· walk_at "ea"); (· walk_at "cf"); (· walk_at "ne"))
  | ((with_reducible apply EvR.ofF); walk_at "evO")
  | ((with_reducible apply ev_cb); (· walk_at "ea"); (· walk_at "cb"))
  | ((with_reducible apply ev_tup); (· walk_at "ea"); (· walk_at "sz"))
  | ((with_reducible apply ev_count); (· walk_at "ev"); (· walk_at "ev"))
  | ((with_reducible apply EvR.fz); walk_at "evN"))
local macro_rules | `(tactic| walk_at "ci") => `(tactic| first
  | assumption | (refine c_Council_init.mk ?_ ?_ ?_ ?_ <;> walk_at "side"))
local macro_rules | `(tactic| walk_at "evO") => `(tactic| first
  | ((with_reducible apply ev_make); (· walk_at "ea"); (· walk_at "ci"))
  | ((with_reducible apply ev_callG); (· walk_at "ea"); (· walk_at "cf"); (· walk_at "ne"))
  | ((with_reducible apply ev_methG); (· walk_at "ev"); (· decide +kernel); (· walk_at "ea"); (· walk_at "cf"); (· walk_at "ne"))
  | (with_reducible exact ev_emp))
local macro_rules | `(tactic| walk_at "evF") => `(tactic| first
  | walk_at "evO"
  | ((with_reducible apply EvR.frsS); (· walk_at "ev"); (· exact rfl))
  | ((with_reducible apply EvR.frsL); (· walk_at "evN"); (· simp [sca])))
structure Txt (K : PySem.W.Frag) (mg : Str → Option Value) (C_Council C_CouncilError C_BadCouncil C_BadGroup C_NoMember C_Unlike C_BadWeights C_BadText : Addr) : Prop where
  n_all : mg "all" = none
  n_any : mg "any" = none
  n_bool : mg "bool" = none
  n_int : mg "int" = none
  n_isinstance : mg "isinstance" = none
  n_len : mg "len" = none
  n_list : mg "list" = none
  n_range : mg "range" = none
  n_set : mg "set" = none
  n_sorted : mg "sorted" = none
  n_str : mg "str" = none
  n_sum : mg "sum" = none
  n_ValueError : mg "ValueError" = none
  c_MOST : ∃ t, mg "MOST" = some (.int 5 t)
  c_FIGURES : ∃ t, mg "FIGURES" = some (.str "01234" t)
  g_Council : mg "Council" = some (.ref C_Council)
  cl_Council : Cls K C_Council
  na_Council_members : NoAttr K C_Council "members"
  na_Council_table : NoAttr K C_Council "table"
  x_CouncilError : ErrAt K mg "CouncilError" C_CouncilError
  x_BadCouncil : ErrAt K mg "BadCouncil" C_BadCouncil
  x_BadGroup : ErrAt K mg "BadGroup" C_BadGroup
  x_NoMember : ErrAt K mg "NoMember" C_NoMember
  x_Unlike : ErrAt K mg "Unlike" C_Unlike
  x_BadWeights : ErrAt K mg "BadWeights" C_BadWeights
  x_BadText : ErrAt K mg "BadText" C_BadText
  ec_BadText : ExcC K C_BadText
  xm_BadText : PySem.W.exmOne K (.ref C_BadText) (.ref C_CouncilError) = some true
  xm_BadCouncil : PySem.W.exmOne K (.ref C_BadCouncil) (.ref C_BadCouncil) = some true
  xn_BadText : PySem.W.exmOne K (.ref C_BadText) (.ref C_BadCouncil) = some false
  ki_BT_BadCouncil : PySem.W.kitOne K (.ref C_BadText) (.ref C_BadCouncil) = some false
  ki_BT_BadGroup : PySem.W.kitOne K (.ref C_BadText) (.ref C_BadGroup) = some false
  ki_BT_NoMember : PySem.W.kitOne K (.ref C_BadText) (.ref C_NoMember) = some false
  ki_BT_BadWeights : PySem.W.kitOne K (.ref C_BadText) (.ref C_BadWeights) = some false
  ki_BT_Unlike : PySem.W.kitOne K (.ref C_BadText) (.ref C_Unlike) = some false
  ki_BT_BadText : PySem.W.kitOne K (.ref C_BadText) (.ref C_BadText) = some true
  ki_BT_VE : PySem.W.kitOne K (.ref C_BadText) (.type "ValueError") = some true
section
variable {P : Program} {w : World} {K : PySem.W.Frag} {mg : Str → Option Value} {base : Heap} {C_Council C_CouncilError C_BadCouncil C_BadGroup C_NoMember C_Unlike C_BadWeights C_BadText : Addr}
abbrev st_within : Stmt := top 11
abbrev n_within : List Str := ["number", "low", "high"]
abbrev p_within : List Str := ["number", "low", "high"]
theorem sc_within : FnScope n_within p_within (defScope st_within) := ⟨rfl, rfl, rfl, by decide +kernel, rfl, by decide +kernel, by decide +kernel⟩
theorem ok_within {f : Addr} {fd : FuncData} (F : Fun K "within" "within" st_within f fd) (T : Txt K mg C_Council C_CouncilError C_BadCouncil C_BadGroup C_NoMember C_Unlike C_BadWeights C_BadText) : FnOk P w K mg base CX0 1 f fd p_within (SpR K c_within) := by
  refine F.ok sc_within (sp_len c_within.len) (fun cdv A outer s H vs Q E hr h => ?_)
  have hcl_Council := T.cl_Council
  have hna_Council_members := T.na_Council_members
  have hna_Council_table := T.na_Council_table
  have hki_BT_BadCouncil := T.ki_BT_BadCouncil
  have hki_BT_BadGroup := T.ki_BT_BadGroup
  have hki_BT_NoMember := T.ki_BT_NoMember
  have hki_BT_BadWeights := T.ki_BT_BadWeights
  have hki_BT_Unlike := T.ki_BT_Unlike
  have hki_BT_BadText := T.ki_BT_BadText
  have hki_BT_VE := T.ki_BT_VE
  refine ⟨_, (pss_one (ps_ret (pe_and (pe_callB call_isi (by rfl) T.n_isinstance (by decide +kernel) (pa_cons (pv 0) (pa_cons (pe_bltn (v := .ty "int") (by rfl) T.n_int (by decide +kernel) rfl) pa_nil))) (pe_and (pe_not (pe_callB call_isi (by rfl) T.n_isinstance (by decide +kernel) (pa_cons (pv 0) (pa_cons (pe_bltn (v := .ty "bool") (by rfl) T.n_bool (by decide +kernel) rfl) pa_nil)))) (pe_one (pe_chain op_le op_le (pv 1) (pv 0) (pv 2))))))), go_of ?_ h⟩
  try dsimp only [L2.cxOf, L2.Cx.nox, L2.Cx.wish, L2.Cx.blk]
  rintro ds r ⟨x, lo, hi, b, rfl, hw, rfl⟩
  refine w_ret (r := .dat (.bl b)) ?_ rfl
  cases hw with
  | int n =>
    refine ev_is (d := .bl (true && (!false && (decide (lo ≤ n) && decide (n ≤ hi))))) ?_ (by simp)
    walk_at "ev"
  | bl b =>
    refine ev_is (d := .bl (true && false)) ?_ rfl
    refine ev_andV (by walk_at "ev") fun _ => ev_andV' ?_
    refine ev_is (d := .bl (!true)) ?_ rfl
    walk_at "ev"
  | no _ T _ _ h hT =>
    refine ev_andV' ?_
    exact ev_cb (ea_cons (ev_var rfl) (ea_cons ev_ty ea_nil)) (cb_isi h hT)
def c_holds_all : List D → Rs → Prop := R2' nat nat (fun _ _ => True) fun g o => .dat (.bl (decide (g &&& o = o)))
abbrev st_holds_all : Stmt := top 12
abbrev n_holds_all : List Str := ["group", "other"]
abbrev p_holds_all : List Str := ["group", "other"]
theorem sc_holds_all : FnScope n_holds_all p_holds_all (defScope st_holds_all) := ⟨rfl, rfl, rfl, by decide +kernel, rfl, by decide +kernel, by decide +kernel⟩
theorem ok_holds_all {f : Addr} {fd : FuncData} (F : Fun K "holds_all" "holds_all" st_holds_all f fd) (T : Txt K mg C_Council C_CouncilError C_BadCouncil C_BadGroup C_NoMember C_Unlike C_BadWeights C_BadText) : FnOk P w K mg base CX0 1 f fd p_holds_all (SpR K c_holds_all) := by
  refine F.ok sc_holds_all (sp_len R2'.len) (fun cdv A outer s H vs Q E hr h => ?_)
  have hcl_Council := T.cl_Council
  have hna_Council_members := T.na_Council_members
  have hna_Council_table := T.na_Council_table
  have hki_BT_BadCouncil := T.ki_BT_BadCouncil
  have hki_BT_BadGroup := T.ki_BT_BadGroup
  have hki_BT_NoMember := T.ki_BT_NoMember
  have hki_BT_BadWeights := T.ki_BT_BadWeights
  have hki_BT_Unlike := T.ki_BT_Unlike
  have hki_BT_BadText := T.ki_BT_BadText
  have hki_BT_VE := T.ki_BT_VE
  refine ⟨_, (pss_one (ps_ret (pe_cmpR op_eq (pe_op op_and (pv 0) (pv 1)) (pv 1) (nomark _)))), go_of ?_ h⟩
  try dsimp only [L2.cxOf, L2.Cx.nox, L2.Cx.wish, L2.Cx.blk]
  rintro ds r ⟨g, o, rfl, -, rfl⟩
  refine w_ret ?_ rfl
  walk_at "ev"
def c_without_one : List D → Rs → Prop := R1 nat (fun _ => True) fun g => .new ((wo g).map nat)
abbrev st_without_one : Stmt := top 14
abbrev n_without_one : List Str := ["group", "k"]
abbrev p_without_one : List Str := ["group"]
theorem sc_without_one : FnScope n_without_one p_without_one (defScope st_without_one) := ⟨rfl, rfl, rfl, by decide +kernel, rfl, by decide +kernel, by decide +kernel⟩
theorem ok_without_one {f : Addr} {fd : FuncData} (F : Fun K "without_one" "without_one" st_without_one f fd) (T : Txt K mg C_Council C_CouncilError C_BadCouncil C_BadGroup C_NoMember C_Unlike C_BadWeights C_BadText) : FnOk P w K mg base CX0 1 f fd p_without_one (SpR K c_without_one) := by
  refine F.ok sc_without_one (sp_len R1.len) (fun cdv A outer s H vs Q E hr h => ?_)
  have hcl_Council := T.cl_Council
  have hna_Council_members := T.na_Council_members
  have hna_Council_table := T.na_Council_table
  have hki_BT_BadCouncil := T.ki_BT_BadCouncil
  have hki_BT_BadGroup := T.ki_BT_BadGroup
  have hki_BT_NoMember := T.ki_BT_NoMember
  have hki_BT_BadWeights := T.ki_BT_BadWeights
  have hki_BT_Unlike := T.ki_BT_Unlike
  have hki_BT_BadText := T.ki_BT_BadText
  have hki_BT_VE := T.ki_BT_VE
  refine ⟨_, (pss_one (ps_ret (pe_lc (own := [("k", 1)]) (g := gName 1) (te := (tOp (rI0 fun i j => .int (Builtin.bitXor i j)) (tVar 0) (tOp (rI CPow fun i j => .int (i * 2 ^ j.toNat)) (tC (.int 1)) (tVar 1)))) (tt := (tTest (tOp (rEq) (tOp (rI0 fun i j => .int (Builtin.bitAnd i j)) (tOp (rI (fun _ j => 0 ≤ j) fun i j => .int (i / 2 ^ j.toNat)) (tVar 0) (tVar 1)) (tC (.int 1))) (tC (.int 1))))) (by exact rfl) sc_without_one.nd (pi_range1 (by rfl) T.n_range (pa_cons (pe_glob (v := .int 5) rfl T.c_MOST.choose_spec (by exact ⟨_, rfl⟩)) pa_nil)) (blkOk_by (N := n_without_one) (sc := defScope st_without_one) (own := [("k", 1)]) (by decide +kernel)) (fun _ _ _ _ _ => (pg_name (i := 1) sc_without_one.nd rfl (by first | exact Or.inl rfl | exact Or.inr rfl))) (fun _ _ _ _ _ => pts_one (pt_cmpR op_eq (pe_op op_and (pe_op op_shr (pv 0) (pv 1)) pe_int) pe_int (nomark _))) (fun _ _ _ _ _ => (pe_op op_xor (pv 0) (pe_op op_shl pe_int (pv 1))))))), go_of ?_ h⟩
  try dsimp only [L2.cxOf, L2.Cx.nox, L2.Cx.wish, L2.Cx.blk]
  rintro ds r ⟨g, rfl, -, rfl⟩
  refine w_ret ?_ rfl
  apply ev_isN
  · walk_at "evN"
  · simp only [bit_is, wo, List.map_map]
    rfl
theorem Wi.out {k lo hi : Int} (h : ¬(lo ≤ k ∧ k ≤ hi)) : Wi (.int k) lo hi false := by
  have q := Wi.int k lo hi
  rwa [show (decide (lo ≤ k) && decide (k ≤ hi)) = false by simpa using h] at q
theorem Wi.inn {k lo hi : Int} (h1 : lo ≤ k) (h2 : k ≤ hi) : Wi (.int k) lo hi true := by
  have q := Wi.int k lo hi
  rwa [show (decide (lo ≤ k) && decide (k ≤ hi)) = true by simp [h1, h2]] at q
/-- items, and whether each is within -/
def Wis (ps : List (D × Bool)) (lo hi : Int) : Prop := ps.length ≤ 100000 ∧ (∀ p ∈ ps, Wi p.1 lo hi p.2) ∧ (ps.all fun p => p.2) = false
def c8_init (U : Addr) : List D → Ri → Prop := fun ds r => c_Council_init ds r ∨ (r = .exc U ∧ ((∃ x y, ds = [x, y] ∧ Wi x 1 5 false) ∨ (∃ n y T, ds = [nat n, y] ∧ (1 ≤ n ∧ n ≤ 5) ∧ TyD y T ∧ kitB T "list" = some false) ∨
  ∃ n ps, ds = [nat n, .lst (ps.map fun p => p.1)] ∧ (1 ≤ n ∧ n ≤ 5) ∧ Wis ps 0 (((2 ^ n : Nat) : Int) - 1)))
theorem c8_init.len {U : Addr} : ∀ ds r, c8_init U ds r → ds.length + 1 = 3 := by
  rintro ds r (⟨_, _, rfl, _⟩ | ⟨_, ⟨_, _, rfl, _⟩ | ⟨_, _, _, rfl, _⟩ | ⟨_, _, rfl, _⟩⟩) <;> rfl
abbrev st_Council_init : Stmt := inClass (top 13) 0
abbrev n_Council_init : List Str := ["self", "members", "groups", "group", "one"]
abbrev p_Council_init : List Str := ["self", "members", "groups"]
theorem sc_Council_init : FnScope n_Council_init p_Council_init (defScope st_Council_init) := ⟨rfl, rfl, rfl, by decide +kernel, rfl, by decide +kernel, by decide +kernel⟩
theorem ok_Council_init {f : Addr} {fd : FuncData} (F : Fun K "__init__" "Council.__init__" st_Council_init f fd) (T : Txt K mg C_Council C_CouncilError C_BadCouncil C_BadGroup C_NoMember C_Unlike C_BadWeights C_BadText) (g_within : OkD P w K mg base CX0 1 "within" p_within (SpR K c_within)) (g_holds_all : OkD P w K mg base CX0 1 "holds_all" p_holds_all (SpR K c_holds_all)) : FnOk P w K mg base (L2N.CX P w) 2 f fd p_Council_init (SpI K C_Council (c8_init C_BadCouncil)) := by
  refine okN F sc_Council_init (spI_len c8_init.len) (fun cdv A outer s H vs Q E hr h => ?_)
  have hcl_Council := T.cl_Council
  have hna_Council_members := T.na_Council_members
  have hna_Council_table := T.na_Council_table
  have hki_BT_BadCouncil := T.ki_BT_BadCouncil
  have hki_BT_BadGroup := T.ki_BT_BadGroup
  have hki_BT_NoMember := T.ki_BT_NoMember
  have hki_BT_BadWeights := T.ki_BT_BadWeights
  have hki_BT_Unlike := T.ki_BT_Unlike
  have hki_BT_BadText := T.ki_BT_BadText
  have hki_BT_VE := T.ki_BT_VE
  refine ⟨_, (pss_cons (ps_if (PW.pt (pw_or (pt_not (pt_val (pe_callD g_within (hr.mono (by decide)) (by rfl) pass0 (pa_cons (pv 1) (pa_cons pe_int (pa_cons (pe_glob (v := .int 5) rfl T.c_MOST.choose_spec (by exact ⟨_, rfl⟩)) pa_nil)))))) (pw_or1 (pt_not (pt_val (pe_callB call_isi (by rfl) T.n_isinstance (by decide +kernel) (pa_cons (pv 2) (pa_cons (pe_bltn (v := .ty "list") (by rfl) T.n_list (by decide +kernel) rfl) pa_nil)))))))) (pss_one (ps_raiseD rfl (L2N.takes_of rfl rfl rfl rfl) T.x_BadCouncil (by rfl))) pss_nil)
  (pss_cons (ps_if (pt_not (pt_val (pe_callB (cr_all rfl) (by rfl) T.n_all (by decide +kernel) (pa_cons (pe_lc (own := [("group", 3)]) (g := gName 3) (tt := tYes) (te := (tCall (SpR K c_within) [] E0 (tCons (tVar 3) (tCons (tC (.int 0)) (tCons (tOp (rI0 fun i j => .int (i - j)) (tOp (rI CPow fun i j => .int (i * 2 ^ j.toNat)) (tC (.int 1)) (tVar 1)) (tC (.int 1))) tNil))))) (by exact rfl) sc_Council_init.nd (pi_list (pv 2)) (blkOk_by (N := n_Council_init) (sc := defScope st_Council_init) (own := [("group", 3)]) (by decide +kernel)) (fun _ _ _ _ _ => (pg_name (i := 3) sc_Council_init.nd rfl (by first | exact Or.inl rfl | exact Or.inr rfl))) (fun _ _ _ _ _ => pts_nil) (fun _ _ _ _ _ => (pe_callD g_within (hr.mono (by decide)) (by rfl) pass0 (pa_cons (pv 3) (pa_cons pe_int (pa_cons (pe_op op_sub (pe_op op_shl pe_int (pv 1)) pe_int) pa_nil)))))) pa_nil)))) (pss_one (ps_raiseD rfl (L2N.takes_of rfl rfl rfl rfl) T.x_BadCouncil (by rfl))) pss_nil)
  (pss_cons (ps_fld (pv 0) (pv 1) rfl)
  (pss_one (ps_fld (pv 0) (pe_lc (own := [("group", 3)]) (g := gName 3) (tt := tYes) (te := (tCB (rAny K) (tCons (tLc (iList K (tVar 2)) (gName 4) tYes (tCall (SpR K c_holds_all) [] E0 (tCons (tVar 3) (tCons (tVar 4) tNil))) [4]) tNil))) (by exact rfl) sc_Council_init.nd (pi_range1 (by rfl) T.n_range (pa_cons (pe_op op_shl pe_int (pv 1)) pa_nil)) (blkOk_by (N := n_Council_init) (sc := defScope st_Council_init) (own := [("group", 3)]) (by decide +kernel)) (fun _ _ _ _ _ => (pg_name (i := 3) sc_Council_init.nd rfl (by first | exact Or.inl rfl | exact Or.inr rfl))) (fun _ _ _ _ _ => pts_nil) (fun _ _ _ _ _ => (pe_callB (cr_any rfl) (by rfl) T.n_any (by decide +kernel) (pa_cons (pe_lc (own := [("one", 4)]) (g := gName 4) (tt := tYes) (te := (tCall (SpR K c_holds_all) [] E0 (tCons (tVar 3) (tCons (tVar 4) tNil)))) (by exact rfl) sc_Council_init.nd (pi_list (pv 2)) (blkOk_by (own := [("one", 4)]) (by kernel_rfl)) (fun _ _ _ _ _ => (pg_name (i := 4) sc_Council_init.nd rfl (by first | exact Or.inl rfl | exact Or.inr rfl))) (fun _ _ _ _ _ => pts_nil) (fun _ _ _ _ _ => (pe_callD g_holds_all (hr.mono (by decide)) (by rfl) pass0 (pa_cons (pv 3) (pa_cons (pv 4) pa_nil))))) pa_nil)))) rfl))))), goI_of ?_ h⟩
  try dsimp only [L2.cxOf, L2.Cx.nox, L2.Cx.wish, L2.Cx.blk]
  rintro x ds r (⟨n, gs, rfl, ⟨h1, h5, hl, hg⟩, rfl⟩ | ⟨rfl, ⟨y, z, rfl, hy⟩ | ⟨n, z, ty, rfl, ⟨h1, h5⟩, hz, hk⟩ | ⟨n, ps, rfl, ⟨h1, h5⟩, hl, hp, ha⟩⟩)
  · have hp := pow_le n h5
    show W K E _ [.ob x C_Council [] [], .fz (nat n), .fz (natL gs), .un, .un] _
    refine w_seq (w_ifF ?_ (w_next ?_))
    · apply et_is
      · walk_at "et"
      · simp
        omega
    refine w_seq (w_ifF ?_ (w_next ?_))
    · apply et_is
      · walk_at "et"
      · rw [Bool.not_eq_false', List.all_eq_true]
        intro g hm
        have := hg g hm
        rw [Bool.and_eq_true, decide_eq_true_eq, decide_eq_true_eq]
        omega
    refine w_seq (w_fld rfl T.cl_Council T.na_Council_members (by decide) (by decide) (d := nat n) ?_ ?_ (by simp))
    · walk_at "evF"
    refine w_fld rfl T.cl_Council T.na_Council_table (by decide +kernel) (by decide) (d := blL (tab n gs)) ?_ ?_ (by simp)
    · apply ev_isF
      · walk_at "evF"
      · simp only [tab, blL, List.map_map]
        rfl
    · exact ⟨_, _, rfl, rfl⟩
  · have hw : c_within [y, .int 1, .int 5] (.dat (.bl false)) := ⟨_, _, _, _, rfl, hy, rfl⟩
    show W K E _ [.ob x C_Council [] [], .fz y, .fz z, .un, .un] _
    refine w_seq (w_if (b := true) ?_ (fun _ => w_raise ⟨_, rfl, rfl⟩) fun z => nomatch z)
    refine et_is (b := !false || true) ?_ rfl
    refine et_or ?_ fun z => nomatch z
    walk_at "et"
  · have hw : c_within [nat n, .int 1, .int 5] (.dat (.bl true)) := ⟨_, _, _, _, rfl, Wi.inn (by omega) (by omega), rfl⟩
    show W K E _ [.ob x C_Council [] [], .fz (nat n), .fz z, .un, .un] _
    refine w_seq (w_if (b := true) ?_ (fun _ => w_raise ⟨_, rfl, rfl⟩) fun z => nomatch z)
    refine et_is (b := !true || !false) ?_ rfl
    refine et_or ?_ fun _ => ?_
    · walk_at "et"
    · apply et_not
      apply et_B
      with_reducible apply ev_cb
      · walk_at "ea"
      · exact cb_isi hz hk
  · have hw : c_within [nat n, .int 1, .int 5] (.dat (.bl true)) := ⟨_, _, _, _, rfl, Wi.inn (by omega) (by omega), rfl⟩
    have hpw := pow_le n h5
    show W K E _ [.ob x C_Council [] [], .fz (nat n), .fz (.lst (ps.map fun p => p.1)), .un, .un] _
    refine w_seq (w_ifF ?_ (w_next ?_))
    · apply et_is
      · walk_at "et"
      · rfl
    refine w_seq (w_if (b := true) ?_ (fun _ => w_raise ⟨_, rfl, rfl⟩) fun z => nomatch z)
    refine et_is (a := !(ps.all fun p => p.2)) ?_ (show (!(ps.all fun p => p.2)) = true by simp [ha])
    apply et_not
    apply et_B
    with_reducible apply ev_cb
    · with_reducible apply ea_cons
      · apply EvR.fz
        with_reducible apply ev_lcM (ys := ps) (c := fun p => p.1) (v := fun p => .bl p.2)
        · with_reducible apply it_list
          walk_at "ev"
        · omega
        · decide
        · intro q hq
          have hc : c_within [q.1, .int 0, .int (((2 ^ n : Nat) : Int) - 1)] (.dat (.bl q.2)) := ⟨_, _, _, _, rfl, hp q hq, rfl⟩
          walk_at "ev"
      · exact ea_nil
    · exact cb_allM
def c_Council_carries (C : Addr) : List D → Rs → Prop := RC2 C nat (fun n t g => g < t.length) fun n t g => .dat (.bl (t.getD g false))
abbrev st_Council_carries : Stmt := inClass (top 13) 1
abbrev n_Council_carries : List Str := ["self", "group"]
abbrev p_Council_carries : List Str := ["self", "group"]
theorem sc_Council_carries : FnScope n_Council_carries p_Council_carries (defScope st_Council_carries) := ⟨rfl, rfl, rfl, by decide +kernel, rfl, by decide +kernel, by decide +kernel⟩
theorem ok_Council_carries {f : Addr} {fd : FuncData} (F : Fun K "carries" "Council.carries" st_Council_carries f fd) (T : Txt K mg C_Council C_CouncilError C_BadCouncil C_BadGroup C_NoMember C_Unlike C_BadWeights C_BadText) (g_within : OkD P w K mg base CX0 1 "within" p_within (SpR K c_within)) : FnOk P w K mg base CX0 2 f fd p_Council_carries (SpR K (c_Council_carries C_Council)) := by
  refine F.ok sc_Council_carries (sp_len RC2.len) (fun cdv A outer s H vs Q E hr h => ?_)
  have hcl_Council := T.cl_Council
  have hna_Council_members := T.na_Council_members
  have hna_Council_table := T.na_Council_table
  have hki_BT_BadCouncil := T.ki_BT_BadCouncil
  have hki_BT_BadGroup := T.ki_BT_BadGroup
  have hki_BT_NoMember := T.ki_BT_NoMember
  have hki_BT_BadWeights := T.ki_BT_BadWeights
  have hki_BT_Unlike := T.ki_BT_Unlike
  have hki_BT_BadText := T.ki_BT_BadText
  have hki_BT_VE := T.ki_BT_VE
  refine ⟨_, (pss_cons (ps_if (pt_not (pt_val (pe_callD g_within (hr.mono (by decide)) (by rfl) pass0 (pa_cons (pv 1) (pa_cons pe_int (pa_cons (pe_op op_sub (pe_callB call_len_seq (by rfl) T.n_len (PySem.boot_len) (pa_cons (pe_fld (pv 0) rfl) pa_nil)) pe_int) pa_nil)))))) (pss_one ps_never) pss_nil)
  (pss_one (ps_ret (pe_ix ix_list (pe_fld (pv 0) rfl) (pv 1) (fun _ _ => rfl))))), go_of ?_ h⟩
  try dsimp only [L2.cxOf, L2.Cx.nox, L2.Cx.wish, L2.Cx.blk]
  rintro ds r ⟨n, t, g, rfl, hg, rfl⟩
  show W K E _ [.fz (cou C_Council n t), .fz (nat g)] _
  refine w_seq (w_ifF ?_ (w_next ?_))
  · apply et_is
    · walk_at "et"
    · simp
      omega
  · refine w_ret ?_ rfl
    walk_at "ev"
def c_Council_least (C : Addr) : List D → Rs → Prop := RC1 C (fun n t => t.length ≤ 32) fun n t => .new ((leastM t).map nat)
abbrev st_Council_least : Stmt := inClass (top 13) 2
abbrev n_Council_least : List Str := ["self", "found", "group", "less"]
abbrev p_Council_least : List Str := ["self"]
theorem sc_Council_least : FnScope n_Council_least p_Council_least (defScope st_Council_least) := ⟨rfl, rfl, rfl, by decide +kernel, rfl, by decide +kernel, by decide +kernel⟩
theorem ok_Council_least {f : Addr} {fd : FuncData} (F : Fun K "least" "Council.least" st_Council_least f fd) (T : Txt K mg C_Council C_CouncilError C_BadCouncil C_BadGroup C_NoMember C_Unlike C_BadWeights C_BadText) (g_without_one : OkD P w K mg base CX0 1 "without_one" p_without_one (SpR K c_without_one)) : FnOk P w K mg base CX0 2 f fd p_Council_least (SpR K (c_Council_least C_Council)) := by
  refine F.ok sc_Council_least (sp_len RC1.len) (fun cdv A outer s H vs Q E hr h => ?_)
  have hcl_Council := T.cl_Council
  have hna_Council_members := T.na_Council_members
  have hna_Council_table := T.na_Council_table
  have hki_BT_BadCouncil := T.ki_BT_BadCouncil
  have hki_BT_BadGroup := T.ki_BT_BadGroup
  have hki_BT_NoMember := T.ki_BT_NoMember
  have hki_BT_BadWeights := T.ki_BT_BadWeights
  have hki_BT_Unlike := T.ki_BT_Unlike
  have hki_BT_BadText := T.ki_BT_BadText
  have hki_BT_VE := T.ki_BT_VE
  refine ⟨_, (pss_cons (ps_set (i := 1) sc_Council_least.nd rfl (by first | exact Or.inl rfl | exact Or.inr rfl) (pe_lst pa_nil))
  (pss_cons (ps_for PassesOwn.never rfl (pi_range1 (by rfl) T.n_range (pa_cons (pe_callB call_len_seq (by rfl) T.n_len (PySem.boot_len) (pa_cons (pe_fld (pv 0) rfl) pa_nil)) pa_nil)) (pg_name (i := 2) sc_Council_least.nd rfl (by first | exact Or.inl rfl | exact Or.inr rfl))
  (pss_one (ps_if (PW.pt (pw_and (pt_val (pe_ix ix_list (pe_fld (pv 0) rfl) (pv 2) (fun _ _ => rfl))) (pw_and1 (pt_not (pt_val (pe_callB (cr_any rfl) (by rfl) T.n_any (by decide +kernel) (pa_cons (pe_lc (own := [("less", 3)]) (g := gName 3) (tt := tYes) (te := (tOp (rIxL K) (tFld K (tVar 0) "table") (tVar 3))) (by exact rfl) sc_Council_least.nd (pi_list (pe_callD g_without_one (hr.mono (by decide)) (by rfl) pass0 (pa_cons (pv 2) pa_nil))) (blkOk_by (N := n_Council_least) (sc := defScope st_Council_least) (own := [("less", 3)]) (by decide +kernel)) (fun _ _ _ _ _ => (pg_name (i := 3) sc_Council_least.nd rfl (by first | exact Or.inl rfl | exact Or.inr rfl))) (fun _ _ _ _ _ => pts_nil) (fun _ _ _ _ _ => (pe_ix ix_list (pe_fld (pv 0) rfl) (pv 3) (fun _ _ => rfl)))) pa_nil))))))) (pss_one (ps_expr (pe_bm PySem.F.plainAttrs_list PySem.F.slot_list_append PySem.F.type_list_append mt_append (pv 1) (pa_cons (pv 2) pa_nil)))) pss_nil)))
  (pss_one (ps_ret (pv 1))))), go_of ?_ h⟩
  try dsimp only [L2.cxOf, L2.Cx.nox, L2.Cx.wish, L2.Cx.blk]
  rintro ds r ⟨n, t, rfl, ht, rfl⟩
  show W K E _ [.fz (cou C_Council n t), .un, .un, .un] _
  refine w_seq (w_asgN (xs := []) ?_ ?_)
  · walk_at "evN"
  refine w_seq (w_forS (ys := List.range t.length) (f := nat) (fun i => [.fz (cou C_Council n t), .ow (((List.range i).filter fun g => t.getD g false && !((wo g).any fun l => t.getD l false)).map nat), .un, .un]) ?_ (Fgt.refl _) ?_ ?_)
  · walk_at "it"
  · intro i a ha
    obtain ⟨hi, rfl⟩ := List.getElem?_eq_some_iff.mp ha
    rw [List.length_range] at hi
    rw [List.getElem_range]
    have hw : ∀ l, l ∈ wo i → l < t.length := fun l hl => Nat.lt_trans (wo_lt hl) hi
    refine w_if (b := t.getD i false && !((wo i).any fun l => t.getD l false)) ?_ ?_ ?_
    · apply et_is
      · walk_at "et"
      · rfl
    · intro hb
      refine w_app rfl (d := nat i) ?_ ?_ ?_
      · with_reducible apply ev_var
        exact rfl
      · rw [List.length_map]
        have := filt_len (fun g => t.getD g false && !((wo g).any fun l => t.getD l false)) i
        omega
      · show Fgt _ _
        rw [filt_yes hb, List.map_append]
        exact .keep (.keep (.drop (.keep .nil)))
    · intro hb
      refine w_next ?_
      show Fgt _ _
      rw [filt_no hb]
      exact .keep (.keep (.drop (.keep .nil)))
  · intro s hs
    refine w_fgt hs (w_retO (i := 1) rfl ?_)
    rw [List.length_range]
    rfl
theorem sum_ones (l : List Nat) : (l.map fun _ => 1).sum = l.length := by
  induction l with
  | nil => rfl
  | cons a l ih => rw [List.map_cons, List.sum_cons, ih, List.length_cons, Nat.add_comm]
def c_group_text : List D → Rs → Prop := R1 nat (fun g => g < 32) fun g => .dat (.str (gtext g))
abbrev st_group_text : Stmt := top 18
abbrev n_group_text : List Str := ["group", "k"]
abbrev p_group_text : List Str := ["group"]
theorem sc_group_text : FnScope n_group_text p_group_text (defScope st_group_text) := ⟨rfl, rfl, rfl, by decide +kernel, rfl, by decide +kernel, by decide +kernel⟩
theorem ok_group_text {f : Addr} {fd : FuncData} (F : Fun K "group_text" "group_text" st_group_text f fd) (T : Txt K mg C_Council C_CouncilError C_BadCouncil C_BadGroup C_NoMember C_Unlike C_BadWeights C_BadText) : FnOk P w K mg base CX0 1 f fd p_group_text (SpR K c_group_text) := by
  refine F.ok sc_group_text (sp_len R1.len) (fun cdv A outer s H vs Q E hr h => ?_)
  have hcl_Council := T.cl_Council
  have hna_Council_members := T.na_Council_members
  have hna_Council_table := T.na_Council_table
  have hki_BT_BadCouncil := T.ki_BT_BadCouncil
  have hki_BT_BadGroup := T.ki_BT_BadGroup
  have hki_BT_NoMember := T.ki_BT_NoMember
  have hki_BT_BadWeights := T.ki_BT_BadWeights
  have hki_BT_Unlike := T.ki_BT_Unlike
  have hki_BT_BadText := T.ki_BT_BadText
  have hki_BT_VE := T.ki_BT_VE
  refine ⟨_, (pss_cons (ps_if (pt_cmpR op_eq (pv 0) pe_int (nomark _)) (pss_one (ps_ret pe_str)) pss_nil)
  (pss_one (ps_ret (pe_join pe_str (pe_lc (own := [("k", 1)]) (g := gName 1) (te := (tOp (rIxS) (tC (.str "01234")) (tVar 1))) (tt := (tTest (tOp (rEq) (tOp (rI0 fun i j => .int (Builtin.bitAnd i j)) (tOp (rI (fun _ j => 0 ≤ j) fun i j => .int (i / 2 ^ j.toNat)) (tVar 0) (tVar 1)) (tC (.int 1))) (tC (.int 1))))) (by exact rfl) sc_group_text.nd (pi_range1 (by rfl) T.n_range (pa_cons (pe_callB call_len_str (by rfl) T.n_len (PySem.boot_len) (pa_cons (pe_glob (v := .str "01234") rfl T.c_FIGURES.choose_spec (by exact ⟨_, rfl⟩)) pa_nil)) pa_nil)) (blkOk_by (N := n_group_text) (sc := defScope st_group_text) (own := [("k", 1)]) (by decide +kernel)) (fun _ _ _ _ _ => (pg_name (i := 1) sc_group_text.nd rfl (by first | exact Or.inl rfl | exact Or.inr rfl))) (fun _ _ _ _ _ => pts_one (pt_cmpR op_eq (pe_op op_and (pe_op op_shr (pv 0) (pv 1)) pe_int) pe_int (nomark _))) (fun _ _ _ _ _ => (pe_ix ix_str (pe_glob (v := .str "01234") rfl T.c_FIGURES.choose_spec (by exact ⟨_, rfl⟩)) (pv 1) (fun _ _ => rfl)))))))), go_of ?_ h⟩
  try dsimp only [L2.cxOf, L2.Cx.nox, L2.Cx.wish, L2.Cx.blk]
  rintro ds r ⟨g, rfl, hg, rfl⟩
  show W K E _ [.fz (nat g), .un] _
  refine w_seq (w_if (b := decide (g = 0)) ?_ (fun hb => ?_) fun hb => w_next ?_)
  · apply et_is
    · walk_at "et"
    · rw [decide_eq_decide]
      omega
  · have hb := of_decide_eq_true hb
    subst hb
    exact w_ret (r := .dat (.str (gtext 0))) ev_str rfl
  · have hb : g ≠ 0 := by simpa using hb
    refine w_ret (r := .dat (.str (gtext g))) ?_ rfl
    have eg : gtext g = Txt.join "" ((figs g).map fun k => sg (48 + k)) := if_neg hb
    rw [eg]
    have hl : (figs g).length ≤ 5 := filt_len _ 5
    apply ev_join
    · walk_at "ev"
    · apply EvR.fz
      apply ev_isN
      · with_reducible apply ev_lcF (ys := List.range 5) (c := nat) (f := fun k => g.testBit k) (v := fun k => .str (sg (48 + k)))
        · refine it_rngN (m := ((("01234" : Str).length : Nat) : Int)) ?_ (by decide +kernel) (by decide)
          refine ea_cons ?_ ea_nil
          exact ev_cb (ea_cons ev_str ea_nil) (cb_lenS (by decide +kernel))
        · walk_at "sz"
        · decide
        · intro k hk
          apply et_is
          · walk_at "et"
          · rw [bit_is]
        · intro k hk hf
          have hk := List.mem_range.mp hk
          with_reducible apply ev_op
          · walk_at "ev"
          · walk_at "ev"
          · exact od_ixS (by decide +kernel) (fig_at k hk)
      · rw [List.map_map]
        rfl
    · have e1 : (((figs g).map fun k => sg (48 + k)).map (·.length)).sum = (figs g).length := by
        rw [List.map_map]
        exact sum_ones (figs g)
      rw [e1, List.length_map]
      have : (("" : Str)).length = 0 := by decide +kernel
      rw [this]
      omega
def c_written (C : Addr) : List D → Rs → Prop := RC1 C (fun n t => (1 ≤ n ∧ n ≤ 5) ∧ t.length = 2 ^ n) fun n t => .dat (.str (wtext n t))
theorem lens_sum (l : List Str) (m : Nat) (h : ∀ s ∈ l, s.length ≤ m) : (l.map (·.length)).sum ≤ l.length * m := by
  induction l with
  | nil => simp
  | cons x l ih =>
    have h1 := h x List.mem_cons_self
    have h2 := ih fun s hs => h s (List.mem_cons_of_mem _ hs)
    rw [List.map_cons, List.sum_cons, List.length_cons, Nat.add_mul]
    omega
theorem join_room {n : Nat} {t : List Bool} (hn : n < 6) (ht : (leastM t).length ≤ 32) (hl : ∀ g ∈ leastM t, g < 32) : ((nword n :: (leastM t).map gtext).map (·.length)).sum + (nword n :: (leastM t).map gtext).length * ((" " : Str)).length ≤ 16777216 := by
  have h := lens_sum (nword n :: (leastM t).map gtext) 5 fun s hs => by
    rcases List.mem_cons.mp hs with rfl | hs
    · rw [nword_len n hn]
      omega
    · obtain ⟨g, hg, rfl⟩ := List.mem_map.mp hs
      exact gtext_len g (hl g hg)
  have : ((" " : Str)).length = 1 := by decide +kernel
  rw [this]
  have : (nword n :: (leastM t).map gtext).length ≤ 33 := by
    rw [List.length_cons, List.length_map]
    omega
  omega
theorem least_lt {n : Nat} {t : List Bool} (hn : n ≤ 5) (ht : t.length = 2 ^ n) : ∀ g ∈ leastM t, g < 32 := fun g hg => by
  have h := List.mem_range.mp (List.mem_filter.mp hg).1
  have := pow_le n hn
  omega
theorem log_small : ∀ n, n < 6 → (((n : Nat) : Int)).natAbs.log2 < 1920 := by decide +kernel
abbrev st_written : Stmt := top 17
abbrev n_written : List Str := ["council", "words", "group"]
abbrev p_written : List Str := ["council"]
theorem sc_written : FnScope n_written p_written (defScope st_written) := ⟨rfl, rfl, rfl, by decide +kernel, rfl, by decide +kernel, by decide +kernel⟩
theorem ok_written {f : Addr} {fd : FuncData} (F : Fun K "written" "written" st_written f fd) (T : Txt K mg C_Council C_CouncilError C_BadCouncil C_BadGroup C_NoMember C_Unlike C_BadWeights C_BadText) (g_Council_least : OkM P w K mg base CX0 2 C_Council "least" p_Council_least (SpR K (c_Council_least C_Council))) (g_group_text : OkD P w K mg base CX0 1 "group_text" p_group_text (SpR K c_group_text)) : FnOk P w K mg base CX0 3 f fd p_written (SpR K (c_written C_Council)) := by
  refine F.ok sc_written (sp_len RC1.len) (fun cdv A outer s H vs Q E hr h => ?_)
  have hcl_Council := T.cl_Council
  have hna_Council_members := T.na_Council_members
  have hna_Council_table := T.na_Council_table
  have hki_BT_BadCouncil := T.ki_BT_BadCouncil
  have hki_BT_BadGroup := T.ki_BT_BadGroup
  have hki_BT_NoMember := T.ki_BT_NoMember
  have hki_BT_BadWeights := T.ki_BT_BadWeights
  have hki_BT_Unlike := T.ki_BT_Unlike
  have hki_BT_BadText := T.ki_BT_BadText
  have hki_BT_VE := T.ki_BT_VE
  refine ⟨_, (pss_cons (ps_set (i := 1) sc_written.nd rfl (by first | exact Or.inl rfl | exact Or.inr rfl) (pe_lst (pa_cons (pe_op op_add_str (pe_callTy call_str_int (by rfl) T.n_str (by decide +kernel) (pa_cons (pe_fld (pv 0) rfl) pa_nil)) pe_str) pa_nil)))
  (pss_cons (ps_for PassesOwn.never rfl (pi_list (pe_methD0 (pv 0) T.cl_Council g_Council_least (hr.mono (by decide)) pass0)) (pg_name (i := 2) sc_written.nd rfl (by first | exact Or.inl rfl | exact Or.inr rfl))
  (pss_one (ps_expr (pe_bm PySem.F.plainAttrs_list PySem.F.slot_list_append PySem.F.type_list_append mt_append (pv 1) (pa_cons (pe_callD g_group_text (hr.mono (by decide)) (by rfl) pass0 (pa_cons (pv 2) pa_nil)) pa_nil)))))
  (pss_one (ps_ret (pe_join pe_str (pv 1)))))), go_of ?_ h⟩
  try dsimp only [L2.cxOf, L2.Cx.nox, L2.Cx.wish, L2.Cx.blk]
  rintro ds r ⟨n, t, rfl, ⟨⟨h1, hn⟩, ht⟩, rfl⟩
  have hp := pow_le n hn
  have hL := leastM_len (t := t) (by omega)
  have hlt := least_lt hn ht
  show W K E _ [.fz (cou C_Council n t), .un, .un] _
  refine w_seq (w_asgN (xs := [.str (nword n)]) ?_ ?_)
  · with_reducible apply ev_lst
    · with_reducible apply ea_cons
      · with_reducible apply ev_op
        · with_reducible apply ev_cb
          · walk_at "ea"
          · exact cb_strI (log_small n (by omega))
        · walk_at "ev"
        · refine od_addS ?_
          have := nword_len n (by omega)
          have e : (Str.ofString (toString ((n : Nat) : Int))).length + ((":" : Str)).length = (nword n).length := by
            unfold nword
            first | rw [Str.length_append] | simp [Str.length]
          rw [e, this, sizeLine_eq]
          omega
      · exact ea_nil
    · walk_at "sz"
  refine w_seq (w_forS (ys := leastM t) (f := nat) (fun i => [.fz (cou C_Council n t), .ow ((nword n :: ((leastM t).take i).map gtext).map .str), .un]) ?_ (Fgt.refl _) ?_ ?_)
  · walk_at "it"
  · intro i g hg
    have hg32 := hlt g (List.mem_of_getElem? hg)
    refine w_app rfl (d := .str (gtext g)) ?_ ?_ ?_
    · walk_at "ev"
    · simp
      omega
    · show Fgt _ _
      rw [List.take_add_one, hg]
      simp only [Option.toList, List.map_append, List.map_cons, List.map_nil, List.cons_append]
      exact .keep (.keep (.drop .nil))
  · intro s hs
    rw [List.take_length] at hs
    refine w_fgt hs (w_fix (i := 1) rfl (w_ret (r := .dat (.str (wtext n t))) ?_ rfl))
    apply ev_join (ys := nword n :: (leastM t).map gtext)
    · walk_at "ev"
    · exact ev_var rfl
    · exact join_room (by omega) hL hlt
abbrev st_law_cell_at : Stmt := top 22
abbrev n_law_cell_at : List Str := ["_law_script", "_law_k"]
abbrev p_law_cell_at : List Str := ["_law_script", "_law_k"]
theorem sc_law_cell_at : FnScope n_law_cell_at p_law_cell_at (defScope st_law_cell_at) := ⟨rfl, rfl, rfl, by decide +kernel, rfl, by decide +kernel, by decide +kernel⟩
theorem ok_law_cell_at {f : Addr} {fd : FuncData} (F : Fun K "_law_cell_at" "_law_cell_at" st_law_cell_at f fd) (T : Txt K mg C_Council C_CouncilError C_BadCouncil C_BadGroup C_NoMember C_Unlike C_BadWeights C_BadText) : FnOk P w K mg base CX0 1 f fd p_law_cell_at (SpR K c_law_cell_at) := by
  refine F.ok sc_law_cell_at (sp_len R2'.len) (fun cdv A outer s H vs Q E hr h => ?_)
  have hcl_Council := T.cl_Council
  have hna_Council_members := T.na_Council_members
  have hna_Council_table := T.na_Council_table
  have hki_BT_BadCouncil := T.ki_BT_BadCouncil
  have hki_BT_BadGroup := T.ki_BT_BadGroup
  have hki_BT_NoMember := T.ki_BT_NoMember
  have hki_BT_BadWeights := T.ki_BT_BadWeights
  have hki_BT_Unlike := T.ki_BT_Unlike
  have hki_BT_BadText := T.ki_BT_BadText
  have hki_BT_VE := T.ki_BT_VE
  refine ⟨_, (pss_cons (ps_if (pt_cmpR op_lt (pv 1) (pe_callB call_len_seq (by rfl) T.n_len (PySem.boot_len) (pa_cons (pv 0) pa_nil)) (nomark _)) (pss_one (ps_ret (pe_ix ix_list (pv 0) (pv 1) (fun _ _ => rfl)))) pss_nil)
  (pss_one (ps_ret pe_int))), go_of ?_ h⟩
  try dsimp only [L2.cxOf, L2.Cx.nox, L2.Cx.wish, L2.Cx.blk]
  rintro ds r ⟨ns, k, rfl, -, rfl⟩
  show W K E _ [.fz (.scr ns), .fz (nat k)] _
  refine w_seq (w_if (b := decide (k < ns.length)) ?_ (fun hk => ?_) fun hk => w_next ?_)
  · apply et_is
    · walk_at "et"
    · rw [decide_eq_decide]
      omega
  · have hk := of_decide_eq_true hk
    refine w_ret (r := .dat (.int (ns.getD k 0))) ?_ rfl
    with_reducible apply ev_op
    · walk_at "ev"
    · walk_at "ev"
    · refine od_ixR (by omega) ?_
      rw [Int.toNat_natCast, List.getD_eq_getElem?_getD, List.getElem?_eq_getElem hk]
      rfl
  · have hk := of_decide_eq_false hk
    refine w_ret (r := .dat (.int (ns.getD k 0))) ?_ rfl
    rw [List.getD_eq_getElem?_getD, List.getElem?_eq_none (by omega)]
    exact ev_int
abbrev st_law_draw : Stmt := top 23
abbrev n_law_draw : List Str := ["_law_cell", "_law_k", "_law_many", "_law_primes", "_law_blend"]
abbrev p_law_draw : List Str := ["_law_cell", "_law_k", "_law_many"]
theorem sc_law_draw : FnScope n_law_draw p_law_draw (defScope st_law_draw) := ⟨rfl, rfl, rfl, by decide +kernel, rfl, by decide +kernel, by decide +kernel⟩
theorem ok_law_draw {f : Addr} {fd : FuncData} (F : Fun K "_law_draw" "_law_draw" st_law_draw f fd) (T : Txt K mg C_Council C_CouncilError C_BadCouncil C_BadGroup C_NoMember C_Unlike C_BadWeights C_BadText) : FnOk P w K mg base CX0 1 f fd p_law_draw (SpR K c_law_draw) := by
  refine F.ok sc_law_draw (sp_len R3.len) (fun cdv A outer s H vs Q E hr h => ?_)
  have hcl_Council := T.cl_Council
  have hna_Council_members := T.na_Council_members
  have hna_Council_table := T.na_Council_table
  have hki_BT_BadCouncil := T.ki_BT_BadCouncil
  have hki_BT_BadGroup := T.ki_BT_BadGroup
  have hki_BT_NoMember := T.ki_BT_NoMember
  have hki_BT_BadWeights := T.ki_BT_BadWeights
  have hki_BT_Unlike := T.ki_BT_Unlike
  have hki_BT_BadText := T.ki_BT_BadText
  have hki_BT_VE := T.ki_BT_VE
  refine ⟨_, (pss_cons (ps_set (i := 3) sc_law_draw.nd rfl (by first | exact Or.inl rfl | exact Or.inr rfl) (pe_tup (pa_cons pe_int (pa_cons pe_int (pa_cons pe_int (pa_cons pe_int (pa_cons pe_int (pa_cons pe_int (pa_cons pe_int (pa_cons pe_int pa_nil))))))))))
  (pss_cons (ps_set (i := 4) sc_law_draw.nd rfl (by first | exact Or.inl rfl | exact Or.inr rfl) (pe_op op_add (pe_op op_add (pe_op op_mul (pv 0) pe_int) (pe_op op_mul (pv 1) pe_int)) (pe_op op_mul (pe_op op_mod (pe_op op_fdiv (pv 0) pe_int) pe_int) pe_int)))
  (pss_one (ps_ret (pe_op op_mod (pe_op op_mod (pv 4) (pe_ix ix_tup (pv 3) (pe_op op_mod (pv 1) pe_int) (fun _ _ => rfl))) (pv 2)))))), go_of ?_ h⟩
  try dsimp only [L2.cxOf, L2.Cx.nox, L2.Cx.wish, L2.Cx.blk]
  rintro ds r ⟨c, k, m, rfl, hm, rfl⟩
  show W K E _ [.fz (.int c), .fz (nat k), .fz (.int m), .un, .un] _
  refine w_seq (w_asg (d := .tup (primesM.map nat)) ?_ ?_)
  · apply ev_is
    · walk_at "ev"
    · rfl
  refine w_seq (w_asg (d := .int (blendM c k)) ?_ ?_)
  · apply ev_is
    · walk_at "ev"
    · rfl
  refine w_ret ?_ rfl
  have h8 : ((k : Int) % 8).toNat = k % 8 := by omega
  have hp : 0 < primesM.getD (k % 8) 1 := primes_pos _ (by omega)
  apply ev_is
  · with_reducible apply ev_op
    · with_reducible apply ev_op
      · walk_at "ev"
      · with_reducible apply ev_op
        · walk_at "ev"
        · walk_at "ev"
        · refine od_ixTN (by omega) ?_
          rw [h8]
          show k % 8 < 8
          omega
      · refine od_ic ?_
        show (0 : Int) < _
        rw [h8]
        have e : primesM.getD (k % 8) 0 = primesM.getD (k % 8) 1 := by
          have hl : k % 8 < primesM.length := by show k % 8 < 8; omega
          rw [List.getD_eq_getElem?_getD, List.getD_eq_getElem?_getD, List.getElem?_eq_getElem hl]
          rfl
        rw [e]
        omega
    · walk_at "ev"
    · exact od_ic hm
  · have e : primesM.getD (k % 8) 0 = primesM.getD (k % 8) 1 := by
      have hl : k % 8 < primesM.length := by show k % 8 < 8; omega
      rw [List.getD_eq_getElem?_getD, List.getD_eq_getElem?_getD, List.getElem?_eq_getElem hl]
      rfl
    rw [h8, e]
    show D.int _ = D.int ((drawM c k m : Nat) : Int)
    unfold drawM
    have h1 := Int.emod_nonneg (blendM c k % ((primesM.getD (k % 8) 1 : Nat) : Int)) (show m ≠ 0 by omega)
    rw [Int.toNat_of_nonneg h1]
abbrev st_law_has : Stmt := top 26
abbrev n_law_has : List Str := ["_law_group", "_law_member"]
abbrev p_law_has : List Str := ["_law_group", "_law_member"]
theorem sc_law_has : FnScope n_law_has p_law_has (defScope st_law_has) := ⟨rfl, rfl, rfl, by decide +kernel, rfl, by decide +kernel, by decide +kernel⟩
theorem c_law_table.len : ∀ ds r, c_law_table ds r → ds.length = 1 := by
  rintro ds r ⟨_, _, rfl, _⟩
  rfl
abbrev st_law_table : Stmt := top 25
abbrev n_law_table : List Str := ["_law_told_here", "_law_found", "_law_group", "_law_one"]
abbrev p_law_table : List Str := ["_law_told_here"]
theorem sc_law_table : FnScope n_law_table p_law_table (defScope st_law_table) := ⟨rfl, rfl, rfl, by decide +kernel, rfl, by decide +kernel, by decide +kernel⟩
theorem ok_law_table {f : Addr} {fd : FuncData} (F : Fun K "_law_table" "_law_table" st_law_table f fd) (T : Txt K mg C_Council C_CouncilError C_BadCouncil C_BadGroup C_NoMember C_Unlike C_BadWeights C_BadText) : FnOk P w K mg base CX0 1 f fd p_law_table (SpR K c_law_table) := by
  refine F.ok sc_law_table (sp_len c_law_table.len) (fun cdv A outer s H vs Q E hr h => ?_)
  have hcl_Council := T.cl_Council
  have hna_Council_members := T.na_Council_members
  have hna_Council_table := T.na_Council_table
  have hki_BT_BadCouncil := T.ki_BT_BadCouncil
  have hki_BT_BadGroup := T.ki_BT_BadGroup
  have hki_BT_NoMember := T.ki_BT_NoMember
  have hki_BT_BadWeights := T.ki_BT_BadWeights
  have hki_BT_Unlike := T.ki_BT_Unlike
  have hki_BT_BadText := T.ki_BT_BadText
  have hki_BT_VE := T.ki_BT_VE
  refine ⟨_, (pss_cons (ps_set (i := 1) sc_law_table.nd rfl (by first | exact Or.inl rfl | exact Or.inr rfl) (pe_lst pa_nil))
  (pss_cons (ps_for PassesOwn.never rfl (pi_range1 (by rfl) T.n_range (pa_cons (pe_op op_shl pe_int (pe_ix ix_tup (pv 0) pe_int (fun _ _ => rfl))) pa_nil)) (pg_name (i := 2) sc_law_table.nd rfl (by first | exact Or.inl rfl | exact Or.inr rfl))
  (pss_one (ps_expr (pe_bm PySem.F.plainAttrs_list PySem.F.slot_list_append PySem.F.type_list_append mt_append (pv 1) (pa_cons (pe_callB (cr_any rfl) (by rfl) T.n_any (by decide +kernel) (pa_cons (pe_lc (own := [("_law_one", 3)]) (g := gName 3) (tt := tYes) (te := (tOp (rEq) (tOp (rI0 fun i j => .int (Builtin.bitAnd i j)) (tVar 2) (tVar 3)) (tVar 3))) (by exact rfl) sc_law_table.nd (pi_list (pe_ix ix_tup (pv 0) pe_int (fun _ _ => rfl))) (blkOk_by (N := n_law_table) (sc := defScope st_law_table) (own := [("_law_one", 3)]) (by decide +kernel)) (fun _ _ _ _ _ => (pg_name (i := 3) sc_law_table.nd rfl (by first | exact Or.inl rfl | exact Or.inr rfl))) (fun _ _ _ _ _ => pts_nil) (fun _ _ _ _ _ => (pe_cmpR op_eq (pe_op op_and (pv 2) (pv 3)) (pv 3) (nomark _)))) pa_nil)) pa_nil)))))
  (pss_one (ps_ret (pv 1))))), go_of ?_ h⟩
  try dsimp only [L2.cxOf, L2.Cx.nox, L2.Cx.wish, L2.Cx.blk]
  rintro ds r ⟨m, gs, rfl, ⟨h5, hl⟩, rfl⟩
  have hp := pow_le m h5
  show W K E _ [.fz (.tup [nat m, natL gs]), .un, .un, .un] _
  refine w_seq (w_asgN (xs := []) ?_ ?_)
  · walk_at "evN"
  refine w_seq (w_forS (ys := List.range (2 ^ m)) (f := nat) (fun i => [.fz (.tup [nat m, natL gs]), .ow ((List.range i).map fun g => .bl (gs.any fun o => decide (g &&& o = o))), .un, .un]) ?_ (Fgt.refl _) ?_ ?_)
  · walk_at "it"
  · intro i a ha
    obtain ⟨hi, rfl⟩ := List.getElem?_eq_some_iff.mp ha
    rw [List.length_range] at hi
    rw [List.getElem_range]
    refine w_app rfl (d := .bl (gs.any fun o => decide (i &&& o = o))) ?_ ?_ ?_
    · walk_at "ev"
    · simp
      omega
    · show Fgt _ _
      rw [List.range_succ, List.map_append]
      exact .keep (.keep (.drop (.keep .nil)))
  · intro s hs
    refine w_fgt hs (w_retO (i := 1) rfl ?_)
    rw [List.length_range]
    simp only [tab, List.map_map]
    rfl
theorem c_law_told.len : ∀ ds F, c_law_told ds F → ds.length = 2 := by
  rintro ds F ⟨_, _, rfl, _⟩
  rfl
theorem sum_nn : ∀ ws : List Nat, 0 ≤ (ws.map fun (w : Nat) => (w : Int)).sum
  | [] => by simp
  | w :: ws => by
    have := sum_nn ws
    simp only [List.map_cons, List.sum_cons]
    omega
abbrev st_law_told : Stmt := top 24
abbrev n_law_told : List Str := ["_law_script", "_law_first", "_law_cell", "_law_other_here", "_law_members", "_law_groups", "_law_weights", "_law_quota", "_law_group", "_law_k"]
abbrev p_law_told : List Str := ["_law_script", "_law_first"]
theorem sc_law_told : FnScope n_law_told p_law_told (defScope st_law_told) := ⟨rfl, rfl, rfl, by decide +kernel, rfl, by decide +kernel, by decide +kernel⟩
theorem ok_law_told {f : Addr} {fd : FuncData} (F : Fun K "_law_told" "_law_told" st_law_told f fd) (T : Txt K mg C_Council C_CouncilError C_BadCouncil C_BadGroup C_NoMember C_Unlike C_BadWeights C_BadText) (g_law_cell_at : OkD P w K mg base CX0 1 "_law_cell_at" p_law_cell_at (SpR K c_law_cell_at)) (g_law_draw : OkD P w K mg base CX0 1 "_law_draw" p_law_draw (SpR K c_law_draw)) : FnOk P w K mg base CX0 2 f fd p_law_told (SpU K c_law_told) := by
  refine F.ok sc_law_told (spU_len c_law_told.len) (fun cdv A outer s H vs Q E hr h => ?_)
  have hcl_Council := T.cl_Council
  have hna_Council_members := T.na_Council_members
  have hna_Council_table := T.na_Council_table
  have hki_BT_BadCouncil := T.ki_BT_BadCouncil
  have hki_BT_BadGroup := T.ki_BT_BadGroup
  have hki_BT_NoMember := T.ki_BT_NoMember
  have hki_BT_BadWeights := T.ki_BT_BadWeights
  have hki_BT_Unlike := T.ki_BT_Unlike
  have hki_BT_BadText := T.ki_BT_BadText
  have hki_BT_VE := T.ki_BT_VE
  refine ⟨_, (pss_cons (ps_set (i := 2) sc_law_told.nd rfl (by first | exact Or.inl rfl | exact Or.inr rfl) (pe_callD g_law_cell_at (hr.mono (by decide)) (by rfl) pass0 (pa_cons (pv 0) (pa_cons (pv 1) pa_nil))))
  (pss_cons (ps_set (i := 3) sc_law_told.nd rfl (by first | exact Or.inl rfl | exact Or.inr rfl) (pe_callD g_law_cell_at (hr.mono (by decide)) (by rfl) pass0 (pa_cons (pv 0) (pa_cons (pe_op op_add (pv 1) pe_int) pa_nil))))
  (pss_cons (ps_set (i := 4) sc_law_told.nd rfl (by first | exact Or.inl rfl | exact Or.inr rfl) (pe_ix ix_tup (pe_tup (pa_cons pe_int (pa_cons pe_int (pa_cons pe_int (pa_cons pe_int (pa_cons pe_int (pa_cons pe_int (pa_cons pe_int pa_nil)))))))) (pe_op op_mod (pv 2) pe_int) (fun _ _ => rfl)))
  (pss_cons (ps_set (i := 5) sc_law_told.nd rfl (by first | exact Or.inl rfl | exact Or.inr rfl) (pe_lst pa_nil))
  (pss_cons (ps_if (pt_cmpR op_eq (pe_op op_mod (pe_op op_fdiv (pv 2) pe_int) pe_int) pe_int (nomark _)) (pss_cons (ps_set (i := 6) sc_law_told.nd rfl (by first | exact Or.inl rfl | exact Or.inr rfl) (pe_lc (own := [("_law_k", 9)]) (g := gName 9) (tt := tYes) (te := (tCall (SpR K c_law_draw) [] E0 (tCons (tVar 3) (tCons (tVar 9) (tCons (tC (.int 7)) tNil))))) (by exact rfl) sc_law_told.nd (pi_range1 (by rfl) T.n_range (pa_cons (pv 4) pa_nil)) (blkOk_by (N := n_law_told) (sc := defScope st_law_told) (own := [("_law_k", 9)]) (by decide +kernel)) (fun _ _ _ _ _ => (pg_name (i := 9) sc_law_told.nd rfl (by first | exact Or.inl rfl | exact Or.inr rfl))) (fun _ _ _ _ _ => pts_nil) (fun _ _ _ _ _ => (pe_callD g_law_draw (hr.mono (by decide)) (by rfl) pass0 (pa_cons (pv 3) (pa_cons (pv 9) (pa_cons pe_int pa_nil)))))))
  (pss_cons (ps_set (i := 7) sc_law_told.nd rfl (by first | exact Or.inl rfl | exact Or.inr rfl) (pe_callD g_law_draw (hr.mono (by decide)) (by rfl) pass0 (pa_cons (pv 3) (pa_cons pe_int (pa_cons (pe_op op_add (pe_callB (cr_sum rfl) (by rfl) T.n_sum (by decide +kernel) (pa_cons (pv 6) pa_nil)) pe_int) pa_nil)))))
  (pss_one (ps_for PassesOwn.never rfl (pi_range1 (by rfl) T.n_range (pa_cons (pe_op op_shl pe_int (pv 4)) pa_nil)) (pg_name (i := 8) sc_law_told.nd rfl (by first | exact Or.inl rfl | exact Or.inr rfl))
  (pss_one (ps_if (pt_cmpR op_ge (pe_callB (cr_sum rfl) (by rfl) T.n_sum (by decide +kernel) (pa_cons (pe_lc (own := [("_law_k", 9)]) (g := gName 9) (te := (tOp (rIxL K) (tVar 6) (tVar 9))) (tt := (tTest (tOp (rEq) (tOp (rI0 fun i j => .int (Builtin.bitAnd i j)) (tOp (rI (fun _ j => 0 ≤ j) fun i j => .int (i / 2 ^ j.toNat)) (tVar 8) (tVar 9)) (tC (.int 1))) (tC (.int 1))))) (by exact rfl) sc_law_told.nd (pi_range1 (by rfl) T.n_range (pa_cons (pv 4) pa_nil)) (blkOk_by (N := n_law_told) (sc := defScope st_law_told) (own := [("_law_k", 9)]) (by decide +kernel)) (fun _ _ _ _ _ => (pg_name (i := 9) sc_law_told.nd rfl (by first | exact Or.inl rfl | exact Or.inr rfl))) (fun _ _ _ _ _ => pts_one (pt_cmpR op_eq (pe_op op_and (pe_op op_shr (pv 8) (pv 9)) pe_int) pe_int (nomark _))) (fun _ _ _ _ _ => (pe_ix ix_list (pv 6) (pv 9) (fun _ _ => rfl)))) pa_nil)) (pv 7) (nomark _)) (pss_one (ps_expr (pe_bm PySem.F.plainAttrs_list PySem.F.slot_list_append PySem.F.type_list_append mt_append (pv 5) (pa_cons (pv 8) pa_nil)))) pss_nil)))))) (pss_one (ps_for PassesOwn.never rfl (pi_range1 (by rfl) T.n_range (pa_cons (pe_callD g_law_draw (hr.mono (by decide)) (by rfl) pass0 (pa_cons (pv 3) (pa_cons pe_int (pa_cons pe_int pa_nil)))) pa_nil)) (pg_name (i := 9) sc_law_told.nd rfl (by first | exact Or.inl rfl | exact Or.inr rfl))
  (pss_cons (ps_set (i := 8) sc_law_told.nd rfl (by first | exact Or.inl rfl | exact Or.inr rfl) (pe_callD g_law_draw (hr.mono (by decide)) (by rfl) pass0 (pa_cons (pv 3) (pa_cons (pe_op op_add (pv 9) pe_int) (pa_cons (pe_op op_shl pe_int (pv 4)) pa_nil)))))
  (pss_cons (ps_if (pt_cmpR op_eq (pe_op op_mod (pe_op op_fdiv (pv 2) pe_int) pe_int) pe_int (nomark _)) (pss_one (ps_set (i := 8) sc_law_told.nd rfl (by first | exact Or.inl rfl | exact Or.inr rfl) (pe_op op_or (pe_op op_and (pv 8) (pe_callD g_law_draw (hr.mono (by decide)) (by rfl) pass0 (pa_cons (pe_op op_add (pe_op op_fdiv (pv 3) pe_int) (pe_op op_mul pe_int (pv 9))) (pa_cons pe_int (pa_cons (pe_op op_shl pe_int (pv 4)) pa_nil))))) (pe_op op_shl pe_int (pe_callD g_law_draw (hr.mono (by decide)) (by rfl) pass0 (pa_cons (pv 3) (pa_cons (pe_op op_add (pv 9) pe_int) (pa_cons (pv 4) pa_nil)))))))) pss_nil)
  (pss_one (ps_expr (pe_bm PySem.F.plainAttrs_list PySem.F.slot_list_append PySem.F.type_list_append mt_append (pv 5) (pa_cons (pv 8) pa_nil)))))))))
  (pss_one (ps_ret (pe_tup (pa_cons (pv 4) (pa_cons (pv 5) pa_nil)))))))))), goU_of ?_ h⟩
  try dsimp only [L2.cxOf, L2.Cx.nox, L2.Cx.wish, L2.Cx.blk]
  rintro ds F ⟨ns, k, rfl, hk, rfl⟩
  show W K E _ [.fz (.scr ns), .fz (nat k), .un, .un, .un, .un, .un, .un, .un, .un] _
  refine w_seq (w_asg (d := .int (ns.getD k 0)) ?_ ?_)
  · walk_at "ev"
  generalize ns.getD k 0 = c
  refine w_seq (w_asg (d := .int (ns.getD (k + 1) 0)) ?_ ?_)
  · with_reducible apply ev_call
    · walk_at "ea"
    · exact R2'.mk (c := D.scr) (d := nat) (x := ns) (y := k + 1) trivial
  generalize ns.getD (k + 1) 0 = o
  have h7 : (c % 7).toNat < 7 := by omega
  have hm := seats_ok _ h7
  refine w_seq (w_asg (d := nat (seatsM.getD (c % 7).toNat 0)) ?_ ?_)
  · with_reducible apply ev_op
    · apply ev_is
      · walk_at "ev"
      · show _ = D.tup (seatsM.map nat)
        rfl
    · walk_at "ev"
    · exact od_ixTN (by omega) h7
  generalize seatsM.getD (c % 7).toNat 0 = m at hm
  have hp := pow_le m hm.2
  refine w_seq (w_asgN (xs := []) ?_ ?_)
  · walk_at "evN"
  refine w_seqM (fun s => ∃ gs, ToldOk m gs ∧ Fgt s [.fz (.scr ns), .fz (nat k), .fz (.int c), .fz (.int o), .fz (nat m), .ow (gs.map nat), .un, .un, .un, .un]) (w_if (b := decide (c / 7 % 3 = 0)) ?_ (fun _ => ?_) fun _ => ?_) ?_
  · walk_at "et"
  · -- by weights
    refine w_seq (w_asg (d := natL ((List.range m).map fun k => drawM o k 7)) ?_ ?_)
    · apply ev_is
      · walk_at "ev"
      · simp only [natL, List.map_map]
        rfl
    have hl : ((List.range m).map fun k => drawM o k 7).length = m := by simp
    generalize (List.range m).map (fun k => drawM o k 7) = ws at hl
    have hs := sum_nn ws
    refine w_seq (w_asg (d := nat (drawM o 5 ((ws.map fun (w : Nat) => (w : Int)).sum + 2))) ?_ ?_)
    · with_reducible apply ev_call
      · walk_at "ea"
      · exact R3.mk (ca := D.int) (cb := nat) (cc := D.int) (x := o) (y := 5) (z := (ws.map fun (w : Nat) => (w : Int)).sum + 2) (show (0 : Int) < (ws.map fun (w : Nat) => (w : Int)).sum + 2 by omega)
    generalize drawM o 5 ((ws.map fun (w : Nat) => (w : Int)).sum + 2) = q
    refine w_forX (ys := List.range (2 ^ m)) (f := nat) (fun i gs => GsB (2 ^ m) i gs) (fun gs => [.fz (.scr ns), .fz (nat k), .fz (.int c), .fz (.int o), .fz (nat m), .ow (gs.map nat), .fz (natL ws), .fz (nat q), .un, .un]) ?_ [] GsB.nil (Fgt.refl _) ?_ ?_
    · walk_at "it"
    · intro i a gs ha hg
      obtain ⟨hi, rfl⟩ := List.getElem?_eq_some_iff.mp ha
      rw [List.length_range] at hi
      rw [List.getElem_range]
      refine w_if (b := decide ((q : Int) ≤ (((List.range m).filter fun k => i.testBit k).map fun k => ((ws.getD k 0 : Nat) : Int)).sum)) ?_ (fun _ => ?_) fun _ => w_next ?_
      · apply et_is
        · walk_at "et"
        · simp only [bit_is]
      · refine w_app1 rfl (g := i) ?_ ?_ ?_
        · with_reducible apply ev_var
          exact rfl
        · have := hg.1
          omega
        · exact ⟨gs ++ [i], hg.app hi, .keep (.keep (.keep (.keep (.keep (.keep (.keep (.keep (.drop (.keep .nil)))))))))⟩
      · exact ⟨gs, hg.up, .keep (.keep (.keep (.keep (.keep (.keep (.keep (.keep (.drop (.keep .nil)))))))))⟩
    · intro s gs hg hf
      rw [List.length_range] at hg
      exact ⟨gs, ⟨hm.1, hm.2, by have := hg.1; omega, hg.2⟩, hf.tr (.keep (.keep (.keep (.keep (.keep (.keep (.drop (.drop (.keep (.keep .nil))))))))))⟩
  · -- drawn
    have hd := drawM_lt o 6 (m := 5) (by omega)
    refine w_forX (ys := List.range (drawM o 6 5)) (f := nat) (fun i gs => GsB (2 ^ m) i gs) (fun gs => [.fz (.scr ns), .fz (nat k), .fz (.int c), .fz (.int o), .fz (nat m), .ow (gs.map nat), .un, .un, .un, .un]) ?_ [] GsB.nil (Fgt.refl _) ?_ ?_
    · walk_at "it"
    · intro i a gs ha hg
      obtain ⟨hi, rfl⟩ := List.getElem?_eq_some_iff.mp ha
      rw [List.length_range] at hi
      rw [List.getElem_range]
      have p2 : 0 < 2 ^ m := Nat.two_pow_pos m
      have hg2 : drawM o (i + 7) ((2 ^ m : Nat) : Int) < 2 ^ m := drawM_nat o (i + 7) p2
      refine w_seq (w_asg (d := nat (drawM o (i + 7) ((2 ^ m : Nat) : Int))) ?_ ?_)
      · with_reducible apply ev_call
        · walk_at "ea"
        · exact R3.mk (ca := D.int) (cb := nat) (cc := D.int) (x := o) (y := i + 7) (z := ((2 ^ m : Nat) : Int)) (show (0 : Int) < ((2 ^ m : Nat) : Int) by omega)
      generalize drawM o (i + 7) ((2 ^ m : Nat) : Int) = g at hg2
      refine w_seqM (fun s => ∃ g', g' < 2 ^ m ∧ Fgt s [.fz (.scr ns), .fz (nat k), .fz (.int c), .fz (.int o), .fz (nat m), .ow (gs.map nat), .un, .un, .fz (nat g'), .fz (nat i)]) (w_if (b := decide (c / 21 % 2 = 0)) ?_ (fun _ => ?_) fun _ => w_next ?_) ?_
      · walk_at "et"
      · have h1 : drawM (o / 7 + 31 * (i : Int)) 6 ((2 ^ m : Nat) : Int) < 2 ^ m := drawM_nat _ 6 p2
        have h2 := drawM_nat o (i + 4) (m := m) (by omega)
        refine w_asg (d := nat (g &&& drawM (o / 7 + 31 * (i : Int)) 6 ((2 ^ m : Nat) : Int) ||| 2 ^ drawM o (i + 4) (m : Int))) ?_ ?_
        · with_reducible apply ev_op
          · with_reducible apply ev_op
            · walk_at "ev"
            · with_reducible apply ev_call
              · walk_at "ea"
              · exact R3.mk (ca := D.int) (cb := nat) (cc := D.int) (x := o / 7 + 31 * (i : Int)) (y := 6) (z := ((2 ^ m : Nat) : Int)) (show (0 : Int) < ((2 ^ m : Nat) : Int) by omega)
            · exact od_andN
          · with_reducible apply ev_op
            · walk_at "ev"
            · with_reducible apply ev_call
              · walk_at "ea"
              · exact R3.mk (ca := D.int) (cb := nat) (cc := D.int) (x := o) (y := i + 4) (z := (m : Int)) (show (0 : Int) < (m : Int) by omega)
            · exact od_shl1 (by omega)
          · exact od_orN
        · refine ⟨_, Nat.or_lt_two_pow (Nat.lt_of_le_of_lt Nat.and_le_left hg2) (Nat.pow_lt_pow_right (by decide) h2), Fgt.refl _⟩
      · exact ⟨g, hg2, Fgt.refl _⟩
      · rintro s ⟨g', hg', hf⟩
        refine w_fgt hf (w_app1 rfl (g := g') ?_ ?_ ?_)
        · with_reducible apply ev_var
          exact rfl
        · have := hg.1
          omega
        · exact ⟨gs ++ [g'], hg.app hg', .keep (.keep (.keep (.keep (.keep (.keep (.keep (.keep (.drop (.drop .nil)))))))))⟩
    · intro s gs hg hf
      rw [List.length_range] at hg
      exact ⟨gs, ⟨hm.1, hm.2, by have := hg.1; omega, hg.2⟩, hf⟩
  · rintro s ⟨gs, hgs, hf⟩
    refine w_fgt hf (w_fix (i := 5) rfl (w_ret (r := .dat (.tup [nat m, natL gs])) ?_ ⟨_, rfl, m, gs, rfl, hgs⟩))
    with_reducible apply ev_tup
    · walk_at "ea"
    · exact (by decide : 2 ≤ sizeLine)
def c7_group_in (U : Addr) : List D → Rs → Prop := fun ds r => ∃ w : Str, ds = [.str w] ∧ w.length ≤ 50000 ∧ r = (match gin w with | some g => .dat (nat g) | none => .exc U)
theorem c7_group_in.len {U : Addr} : ∀ ds r, c7_group_in U ds r → ds.length = 1 := by
  rintro ds r ⟨w, rfl, _⟩
  rfl
theorem pow_sum (l : List Nat) : ((l.map fun k => ((2 ^ k : Nat) : Int)).sum) = (((l.map fun k => (2 : Nat) ^ k).sum : Nat) : Int) := by
  induction l with
  | nil => rfl
  | cons a l ih =>
    simp only [List.map_cons, List.sum_cons]
    rw [ih]
    omega
abbrev st_group_in : Stmt := top 19
abbrev n_group_in : List Str := ["word", "sign"]
abbrev p_group_in : List Str := ["word"]
theorem sc_group_in : FnScope n_group_in p_group_in (defScope st_group_in) := ⟨rfl, rfl, rfl, by decide +kernel, rfl, by decide +kernel, by decide +kernel⟩
theorem ok_group_in {f : Addr} {fd : FuncData} (F : Fun K "group_in" "group_in" st_group_in f fd) (T : Txt K mg C_Council C_CouncilError C_BadCouncil C_BadGroup C_NoMember C_Unlike C_BadWeights C_BadText) : FnOk P w K mg base (L2N.CX P w) 1 f fd p_group_in (SpR K (c7_group_in C_BadText)) := by
  refine okN F sc_group_in (sp_len c7_group_in.len) (fun cdv A outer s H vs Q E hr h => ?_)
  have hcl_Council := T.cl_Council
  have hna_Council_members := T.na_Council_members
  have hna_Council_table := T.na_Council_table
  have hki_BT_BadCouncil := T.ki_BT_BadCouncil
  have hki_BT_BadGroup := T.ki_BT_BadGroup
  have hki_BT_NoMember := T.ki_BT_NoMember
  have hki_BT_BadWeights := T.ki_BT_BadWeights
  have hki_BT_Unlike := T.ki_BT_Unlike
  have hki_BT_BadText := T.ki_BT_BadText
  have hki_BT_VE := T.ki_BT_VE
  refine ⟨_, (pss_cons (ps_if (pt_cmpR op_eq (pv 0) pe_str (nomark _)) (pss_one (ps_ret pe_int)) pss_nil)
  (pss_cons (ps_if (PW.pt (pw_or (pt_cmpR op_eq (pv 0) pe_str (nomark _)) (pw_or (pt_cmpR op_ne (pe_bm PySem.F.plainAttrs_str PySem.F.slot_str_strip PySem.F.type_str_strip mt_stripChars (pv 0) (pa_cons (pe_glob (v := .str "01234") rfl T.c_FIGURES.choose_spec (by exact ⟨_, rfl⟩)) pa_nil)) pe_str (nomark _)) (pw_or1 (pt_cmpR (op_neD (hu64 hr)) (pe_sortedSet rfl (by rfl) T.n_sorted (by rfl) T.n_set (pv 0)) (pe_callTy (call_list_txt rfl) (by rfl) T.n_list (by decide +kernel) (pa_cons (pv 0) pa_nil)) (nomark _)))))) (pss_one (ps_raiseD rfl (L2N.takes_of rfl rfl rfl rfl) T.x_BadText (by rfl))) pss_nil)
  (pss_one (ps_ret (pe_callB (cr_sum rfl) (by rfl) T.n_sum (by decide +kernel) (pa_cons (pe_lc (own := [("sign", 1)]) (g := gName 1) (tt := tYes) (te := (tOp (rI CPow fun i j => .int (i * 2 ^ j.toNat)) (tC (.int 1)) (tCB (rIntS) (tCons (tVar 1) tNil)))) (by exact rfl) sc_group_in.nd (pi_str (pv 0)) (blkOk_by (N := n_group_in) (sc := defScope st_group_in) (own := [("sign", 1)]) (by decide +kernel)) (fun _ _ _ _ _ => (pg_name (i := 1) sc_group_in.nd rfl (by first | exact Or.inl rfl | exact Or.inr rfl))) (fun _ _ _ _ _ => pts_nil) (fun _ _ _ _ _ => (pe_op op_shl pe_int (pe_callTy call_int_str (by rfl) T.n_int (by decide +kernel) (pa_cons (pv 1) pa_nil))))) pa_nil)))))), go_of ?_ h⟩
  try dsimp only [L2.cxOf, L2.Cx.nox, L2.Cx.wish, L2.Cx.blk]
  rintro ds r ⟨x, rfl, hx, rfl⟩
  cases ew : gin x with
  | some g =>
    obtain ⟨hg, rfl⟩ := gin_iff.mp ew
    show W K E _ [.fz (.str (gtext g)), .un] _
    have hlen := gtext_len g hg
    refine w_seq (w_if (b := decide (g = 0)) ?_ (fun hb => ?_) fun hb => w_next ?_)
    · apply et_is
      · walk_at "et"
      · exact gtext_dash g hg
    · have hb := of_decide_eq_true hb
      subst hb
      exact w_ret (r := .dat (nat 0)) ev_int rfl
    · have hb : g ≠ 0 := by simpa using hb
      have hok := gtext_ok g hg
      have hsg := gtext_signs g hg hb
      refine w_seq (w_ifF ?_ (w_next ?_))
      · refine et_is (a := decide (gtext g = "") || ((!decide (Txt.stripChars (gtext g) "01234" = "")) || (!decide (signsT (gtext g) = signsT (gtext g))))) ?_ (by rw [gtext_some g hg, gtext_strip g hg hb]; simp)
        refine et_or ?_ fun _ => et_or ?_ fun _ => ?_
        · walk_at "et"
        · apply et_test
          with_reducible apply ev_op
          · exact ev_bm (ev_var rfl) (ea_cons ev_str ea_nil) (mtd_strip (by rw [sizeLine_eq]; omega)) fun B H v e d => by rw [den_str d]; rfl
          · exact ev_str
          · exact od_neS
        · apply et_test
          with_reducible apply ev_op
          · apply EvR.fz
            exact ev_sortedSet (ev_var rfl) ⟨signsT (gtext g), by rw [hsg, List.length_map]; have := filt_len (fun k => g.testBit k) 5; unfold figs; omega, fun k hk => hk⟩ (gtext_sorted hg hb)
          · apply EvR.fz
            with_reducible apply ev_cb
            · walk_at "ea"
            · exact cb_listT (by omega)
          · exact od_neT hok hok
      refine w_ret (r := .dat (nat g)) ?_ rfl
      apply ev_is
      · with_reducible apply ev_cb
        · with_reducible apply ea_cons
          · apply EvR.fz
            with_reducible apply ev_lcM (ys := figs g) (c := fun k => .str (sg (48 + k))) (v := fun k => .int ((2 ^ k : Nat) : Int))
            · have e : (figs g).map (fun k => D.str (sg (48 + k))) = (signsT (gtext g)).map .str := by
                rw [hsg, List.map_map]
                rfl
              rw [e]
              exact it_str (ev_var rfl)
            · have : (figs g).length ≤ 5 := filt_len _ 5
              omega
            · decide
            · intro k hk
              have hk := List.mem_range.mp (List.mem_filter.mp hk).1
              with_reducible apply ev_op
              · walk_at "ev"
              · with_reducible apply ev_cb
                · walk_at "ea"
                · exact cb_intS (sg_int k hk) (by show 1 ≤ 640; omega)
              · exact od_shl1 (by omega)
          · exact ea_nil
        · exact cb_sumM
      · rw [pow_sum, gtext_sum g hg]
  | none =>
    show W K E _ [.fz (.str x), .un] _
    refine w_seq (w_ifF ?_ (w_next ?_))
    · refine et_is (a := decide (x = "-")) (by walk_at "et") ?_
      rw [decide_eq_false_iff_not]
      exact gin_none ew (g := 0) (by decide)
    refine w_seq (w_if (b := true) ?_ (fun _ => w_raise rfl) fun z => nomatch z)
    by_cases h1 : x = ""
    · refine et_is (a := decide (x = "") || true) ?_ (by simp)
      refine et_or (by walk_at "et") fun z => absurd z (by rw [decide_eq_true h1]; exact Bool.noConfusion)
    by_cases h2 : Txt.stripChars x "01234" = ""
    · have hc := strip_figs h2
      refine et_is (a := decide (x = "") || ((!decide (Txt.stripChars x "01234" = "")) || (!decide (setF x = signsT x)))) ?_ ?_
      · refine et_or (by walk_at "et") fun _ => et_or ?_ fun _ => ?_
        · apply et_test
          with_reducible apply ev_op
          · exact ev_bm (ev_var rfl) (ea_cons ev_str ea_nil) (mtd_strip (by rw [sizeLine_eq]; omega)) fun B H v e d => by rw [den_str d]; rfl
          · exact ev_str
          · exact od_neS
        · apply et_test
          with_reducible apply ev_op
          · apply EvR.fz
            exact ev_sortedSet (ev_var rfl) (figs_few hc) (setF_told hc)
          · apply EvR.fz
            with_reducible apply ev_cb
            · walk_at "ea"
            · exact cb_listT (by omega)
          · exact od_neT (setF_ok x) (figs_signOk hc)
      · have h3 : ¬ setF x = signsT x := fun z => by
          obtain ⟨g, e⟩ := set_gin h1 z
          rw [ew] at e
          cases e
        rw [decide_eq_false h3]
        simp
    · refine et_is (a := decide (x = "") || ((!decide (Txt.stripChars x "01234" = "")) || true)) ?_ (by simp)
      refine et_or (by walk_at "et") fun _ => et_or ?_ fun z => absurd z (by rw [decide_eq_false h2]; exact Bool.noConfusion)
      apply et_test
      with_reducible apply ev_op
      · exact ev_bm (ev_var rfl) (ea_cons ev_str ea_nil) (mtd_strip (by rw [sizeLine_eq]; omega)) fun B H v e d => by rw [den_str d]; rfl
      · exact ev_str
      · exact od_neS
abbrev rIntT : List V → Hp → VK → Prop := fun xs H Q => ∃ a n, xs = [.str a] ∧ PySem.intText? a = some n ∧ a.length ≤ 640 ∧ Q (.int n) H
def c7_read (C U : Addr) : List D → Rs → Prop := fun ds r => (∃ x : Str, ds = [.str x] ∧ x.length ≤ 20000 ∧ r = (match readM x with | some p => .dat (cou C p.1 p.2) | none => .exc U)) ∨ ∃ d T, ds = [d] ∧ TyD d T ∧ kitB T "str" = some false ∧ r = .exc U
theorem c7_read.len {C U : Addr} : ∀ ds r, c7_read C U ds r → ds.length = 1 := by
  rintro ds r (⟨_, rfl, _⟩ | ⟨_, _, rfl, _⟩) <;> rfl
abbrev st_read : Stmt := top 20
abbrev n_read : List Str := ["text", "words", "council", "word"]
abbrev p_read : List Str := ["text"]
theorem sc_read : FnScope n_read p_read (defScope st_read) := ⟨rfl, rfl, rfl, by decide +kernel, rfl, by decide +kernel, by decide +kernel⟩
theorem ok_read {f : Addr} {fd : FuncData} (F : Fun K "read" "read" st_read f fd) (T : Txt K mg C_Council C_CouncilError C_BadCouncil C_BadGroup C_NoMember C_Unlike C_BadWeights C_BadText) (g_Council_init : OkI P w K mg base (L2N.CX P w) 2 "Council" C_Council p_Council_init (SpI K C_Council (c8_init C_BadCouncil))) (g_group_in : OkD P w K mg base (L2N.CX P w) 1 "group_in" p_group_in (SpR K (c7_group_in C_BadText))) (g_written : OkD P w K mg base CX0 3 "written" p_written (SpR K (c_written C_Council))) : FnOk P w K mg base (L3.CX3 P w) 4 f fd p_read (SpR K (c7_read C_Council C_BadText)) := by
  refine ok3 F sc_read (sp_len c7_read.len) (fun cdv A outer s H vs Q E hr h => ?_)
  have hcl_Council := T.cl_Council
  have hna_Council_members := T.na_Council_members
  have hna_Council_table := T.na_Council_table
  have hki_BT_BadCouncil := T.ki_BT_BadCouncil
  have hki_BT_BadGroup := T.ki_BT_BadGroup
  have hki_BT_NoMember := T.ki_BT_NoMember
  have hki_BT_BadWeights := T.ki_BT_BadWeights
  have hki_BT_Unlike := T.ki_BT_Unlike
  have hki_BT_BadText := T.ki_BT_BadText
  have hki_BT_VE := T.ki_BT_VE
  refine ⟨_, (pss_cons (ps_if (pt_not (pt_val (pe_callB call_isi (by rfl) T.n_isinstance (by decide +kernel) (pa_cons (pv 0) (pa_cons (pe_bltn (v := .ty "str") (by rfl) T.n_str (by decide +kernel) rfl) pa_nil))))) (pss_one (ps_raiseD rfl (L3.takesN (L3.takes_of rfl rfl rfl rfl)) T.x_BadText (by rfl))) pss_nil)
  (pss_cons (ps_set (i := 1) sc_read.nd rfl (by first | exact Or.inl rfl | exact Or.inr rfl) (pe_split (pv 0) pe_str))
  (pss_cons (ps_if (pt_cmpR op_notIn_seq (pe_ix ix_list (pv 1) pe_int (fun _ _ => rfl)) (pe_lst (pa_cons pe_str (pa_cons pe_str (pa_cons pe_str (pa_cons pe_str (pa_cons pe_str pa_nil)))))) (by rfl)) (pss_one (ps_raiseD rfl (L3.takesN (L3.takes_of rfl rfl rfl rfl)) T.x_BadText (by rfl))) pss_nil)
  (pss_cons (ps_try3 (tb := fun Eb => tAsg (tMake C_Council (SpI K C_Council (c8_init C_BadCouncil)) [] Eb (tCons (tCB rIntT (tCons (tOp rIxS (tOp (rIxL K) (tVar 1) (tC (.int 0))) (tC (.int 0))) tNil)) (tCons (tLc (iList K (tSl (rSlL K) (tVar 1) (tPart (tC (.int 1))) tNoPart)) (gName 3) tYes (tCall (SpR K (c7_group_in C_BadText)) [] Eb (tCons (tVar 3) tNil)) [3]) tNil))) (gName 2)) rfl rfl rfl  ⟨rfl, by decide, Or.inl T.x_BadCouncil.g⟩ (L2H.passesAt_of rfl) (L3.takes_of rfl rfl rfl rfl)
  (fun Eb pn xe tkE => (pss_one (ps_set (i := 2) sc_read.nd rfl (by first | exact Or.inl rfl | exact Or.inr rfl) (pe_makeD g_Council_init (hr.mono (by decide)) (by rfl) (L2N.passes_call tkE (fun _ _ _ _ h => h)) (pa_cons (pe_callTy call_int_str (by rfl) T.n_int (by decide +kernel) (pa_cons (pe_ix ix_str (pe_ix ix_list (pv 1) pe_int (fun _ _ => rfl)) pe_int (fun _ _ => rfl)) pa_nil)) (pa_cons (pe_lcE (Er := Eb) (own := [("word", 3)]) (g := gName 3) (tt := tYes) (by exact rfl) sc_read.nd (by rfl) (by rfl) tkE (pi_list (pe_slice sl_list (pv 1) (po_some pe_int) po_none)) (blkOk_by (N := n_read) (sc := defScope st_read) (own := [("word", 3)]) (by decide +kernel)) (fun _ _ _ _ _ => (pg_name (i := 3) sc_read.nd rfl (by first | exact Or.inl rfl | exact Or.inr rfl))) (fun _ _ _ _ _ => pts_nil) (fun _ _ _ _ _ => (pe_callD g_group_in (hr.mono (by decide)) (by rfl) passBlk (pa_cons (pv 3) pa_nil)))) pa_nil))))))
  (fun a oe cls d pn hot tkc => (pss_one (ps_raiseCD hot List.mem_cons_self tkc T.x_BadText (by rfl)))))
  (pss_cons (ps_if (pt_cmpR op_ne (pe_callD g_written (hr.mono (by decide)) (by rfl) pass0 (pa_cons (pv 2) pa_nil)) (pv 0) (nomark _)) (pss_one (ps_raiseD rfl (L3.takesN (L3.takes_of rfl rfl rfl rfl)) T.x_BadText (by rfl))) pss_nil)
  (pss_one (ps_ret (pv 2)))))))), go_of ?_ h⟩
  try dsimp only [L2.cxOf, L2.Cx.nox, L2.Cx.wish, L2.Cx.blk]
  rintro ds r (⟨x, rfl, hx, rfl⟩ | ⟨d, ty, rfl, hd, hk, rfl⟩)
  · show W K E _ [.fz (.str x), .un, .un, .un] _
    refine w_seq (w_ifF ?_ (w_next ?_))
    · apply et_is
      · walk_at "et"
      · rfl
    have hcount := words_count x
    have hwl : ∀ w ∈ wordsM x, w.length ≤ x.length := fun w hw => words_len hw
    refine w_seq (w_asg (d := strL (wordsM x)) ?_ ?_)
    · apply EvR.fz
      exact ev_split (ev_var rfl) ev_str (by decide +kernel) (by rw [sizeLine_eq]; omega)
    unfold readM
    cases ew : wordsM x with
    | nil => exact absurd ew (words_ne x)
    | cons w0 ws =>
      dsimp only
      rw [ew] at hcount hwl
      have hw0 : ∀ sl : List Sl, sl[1]? = some (.fz (strL (w0 :: ws))) → ∀ E, EvR K E (tOp (rIxL K) (tVar 1) (tC (.int 0))) sl (.dat (.str w0)) := fun sl h E => by
        with_reducible apply ev_op
        · exact ev_var h
        · exact ev_int
        · exact od_ixL (by omega) rfl
      have hf : ∀ Q : Prop, (nin w0 = none → Q) → (∀ n, nin w0 = some n → Q) → Q := fun Q q1 q2 => by
        cases e : nin w0 with
        | none => exact q1 e
        | some n => exact q2 n e
      refine w_seq (w_if (b := !decide (w0 ∈ (["1:", "2:", "3:", "4:", "5:"] : List Str))) ?_ (fun hb => ?_) fun hb => w_next ?_)
      · apply et_test
        with_reducible apply ev_op (x := .str w0) (y := strL ["1:", "2:", "3:", "4:", "5:"])
        · exact hw0 _ rfl _
        · apply EvR.fz
          with_reducible apply ev_lst
          · exact ea_cons ev_str (ea_cons ev_str (ea_cons ev_str (ea_cons ev_str (ea_cons ev_str ea_nil))))
          · walk_at "sz"
        · exact od_notInS
      · refine w_raise ?_
        cases en : nin w0 with
        | none => rfl
        | some n =>
          rw [decide_eq_true (nin_some en)] at hb
          cases hb
      cases en : nin w0 with
      | none =>
        rw [decide_eq_false (nin_none en)] at hb
        cases hb
      | some n =>
        dsimp only
        obtain ⟨⟨h1, h5⟩, e0⟩ := nin_iff.mp en
        have hp := pow_le n h5
        have hn : ∀ (sl : List Sl) (E : XK), sl[1]? = some (.fz (strL (w0 :: ws))) → EvR K E (tCB rIntT (tCons (tOp rIxS (tOp (rIxL K) (tVar 1) (tC (.int 0))) (tC (.int 0))) tNil)) sl (.dat (nat n)) := fun sl E h => by
          with_reducible apply ev_cb
          · with_reducible apply ea_cons (x := .str (sg (48 + n)))
            · with_reducible apply ev_op (x := .str w0)
              · exact hw0 _ h _
              · exact ev_int
              · rw [e0]
                exact od_ixS (by rw [nword_len n (by omega), sizeLine_eq]; omega) (nword_at n (by omega))
            · exact ea_nil
          · exact cb_intS (nword_int n (by omega)) (by show 1 ≤ 640; omega)
        have hcut : cutD ((w0 :: ws).map D.str) (some 1) none = ws.map .str := by
          rw [show (1 : Int) = ((1 : Nat) : Int) from rfl, cut_drop]
          rfl
        have hit : ItE K (iList K (tSl (rSlL K) (tVar 1) (tPart (tC (.int 1))) tNoPart)) [.fz (.str x), .fz (strL (w0 :: ws)), .un, .un] (ws.map D.str) := by
          with_reducible apply it_list
          apply EvR.fz
          apply ev_isN
          · with_reducible apply ev_sl
            · exact ev_var rfl
            · exact eo_some ev_int
            · exact eo_none
          · exact hcut
        rcases first_bad ws with hall | ⟨k, a, hk1, hk2, hk3⟩
        · -- all words are groups'
          have hlc : ∀ (Eb E : XK), EvR K E (tLc (iList K (tSl (rSlL K) (tVar 1) (tPart (tC (.int 1))) tNoPart)) (gName 3) tYes (tCall (SpR K (c7_group_in C_BadText)) [] Eb (tCons (tVar 3) tNil)) [3]) [.fz (.str x), .fz (strL (w0 :: ws)), .un, .un] (.dat (natL (ws.map fun w => (gin w).getD 0))) := fun Eb E => by
            apply EvR.fz
            apply ev_isN
            · with_reducible apply ev_lcM (ys := ws) (c := .str) (v := fun w => nat ((gin w).getD 0))
              · exact hit
              · rw [List.length_cons] at hcount
                omega
              · decide
              · intro w hw
                obtain ⟨g, e⟩ := hall w hw
                have hq : c7_group_in C_BadText [.str w] (.dat (nat ((gin w).getD 0))) := ⟨w, rfl, by have := hwl w (List.mem_cons_of_mem _ hw); omega, by rw [e]; rfl⟩
                exact ev_call (ea_cons (ev_var rfl) ea_nil) hq
            · rw [List.map_map]
              rfl
          have hgl : (ws.map fun w => (gin w).getD 0).length ≤ 100000 := by
            rw [List.length_map]
            rw [List.length_cons] at hcount
            omega
          cases er : readG n ws with
          | none =>
            -- a group with members that there aren't
            dsimp only
            refine w_seq (w_try3catch T.xm_BadCouncil (fun Eb => ?_) fun a => w_raiseC rfl)
            have hq : c8_init C_BadCouncil [nat n, natL (ws.map fun w => (gin w).getD 0)] (.exc C_BadCouncil) := by
              refine .inr ⟨rfl, .inr (.inr ⟨n, (ws.map fun w => (gin w).getD 0).map fun g => (nat g, decide (g < 2 ^ n)), ?_, ⟨h1, h5⟩, by rw [List.length_map]; exact hgl, fun p hp => ?_, ?_⟩)⟩
              · rw [List.map_map]
                rfl
              · obtain ⟨g, hg, rfl⟩ := List.mem_map.mp hp
                have q := Wi.int ((g : Nat) : Int) 0 (((2 ^ n : Nat) : Int) - 1)
                have e : (decide ((0 : Int) ≤ ((g : Nat) : Int)) && decide (((g : Nat) : Int) ≤ ((2 ^ n : Nat) : Int) - 1)) = decide (g < 2 ^ n) := by
                  rw [decide_eq_true (by omega), Bool.true_and, decide_eq_decide]
                  omega
                rw [e] at q
                exact q
              · rw [List.all_eq_false]
                unfold readG at er
                split at er
                · cases er
                · rename_i q
                  rw [Bool.not_eq_true, List.all_eq_false] at q
                  obtain ⟨w, hw, z⟩ := q
                  obtain ⟨g, e⟩ := hall w hw
                  rw [e] at z
                  refine ⟨(nat g, decide (g < 2 ^ n)), List.mem_map.mpr ⟨g, List.mem_map.mpr ⟨w, hw, by rw [e]; rfl⟩, rfl⟩, z⟩
            exact ev_makeX (ea_cons (hn _ _ rfl) (ea_cons (hlc _ _) ea_nil)) hq
          | some gs =>
            obtain ⟨r0, r1, r2, r3⟩ := readG_some er
            dsimp only
            rw [← r0] at hlc hgl
            have hw : c_written C_Council [cou C_Council n (tab n gs)] (.dat (.str (wtext n (tab n gs)))) := RC1.mk ⟨⟨h1, h5⟩, tab_len n gs⟩
            refine w_seq (w_try3 fun Eb => w_asg (d := cou C_Council n (tab n gs)) ?_ ?_)
            · apply EvR.ofF
              with_reducible apply ev_make
              · exact ea_cons (hn _ _ rfl) (ea_cons (hlc _ _) ea_nil)
              · exact .inl (c_Council_init.mk h1 h5 hgl r2)
            refine w_seq (w_if (b := !decide (wtext n (tab n gs) = x)) ?_ (fun hb => w_raise ?_) fun hb => w_next ?_)
            · walk_at "et"
            · have hb : ¬ wtext n (tab n gs) = x := by simpa using hb
              show Rs.exc C_BadText = _
              rw [if_neg hb]
            · have hb : wtext n (tab n gs) = x := by simpa using hb
              refine w_ret (r := .dat (cou C_Council n (tab n gs))) (ev_var rfl) ?_
              show Rs.dat _ = _
              rw [if_pos hb]
        · -- a word that is no group's
          have er : readG n ws = none := by
            cases e : readG n ws with
            | none => rfl
            | some gs =>
              obtain ⟨_, _, _, r3⟩ := readG_some e
              obtain ⟨g, e2, _⟩ := r3 a (List.mem_of_getElem? hk1)
              rw [hk2] at e2
              cases e2
          rw [er]
          dsimp only
          refine w_seq (w_try3pass T.xn_BadText (fun Eb => ?_) rfl)
          apply ev_makeAX
          refine eax_there (hn _ _ rfl) (eax_here ?_)
          refine ev_lcX (ys := ws) (c := .str) (v := fun w => nat ((gin w).getD 0)) hit ?_ (by decide) hk1 (fun i b hi hb => ?_) ?_
          · rw [List.length_cons] at hcount
            omega
          · obtain ⟨g, e⟩ := hk3 i b hi hb
            have hq : c7_group_in C_BadText [.str b] (.dat (nat ((gin b).getD 0))) := ⟨b, rfl, by have := hwl b (List.mem_cons_of_mem _ (List.mem_of_getElem? hb)); omega, by rw [e]; rfl⟩
            exact ev_call (ea_cons (ev_var rfl) ea_nil) hq
          · have hq : c7_group_in C_BadText [.str a] (.exc C_BadText) := ⟨a, rfl, by have := hwl a (List.mem_cons_of_mem _ (List.mem_of_getElem? hk1)); omega, by rw [hk2]⟩
            exact ev_callX (ea_cons (ev_var rfl) ea_nil) hq
  · show W K E _ [.fz d, .un, .un, .un] _
    refine w_seq (w_if (b := true) ?_ (fun _ => w_raise rfl) fun z => nomatch z)
    refine et_is (a := !false) ?_ rfl
    apply et_not
    apply et_B
    with_reducible apply ev_cb
    · walk_at "ea"
    · exact cb_isi hd hk
def c7_refused : List D → Rs → Prop := fun ds r => (∃ x : Str, ds = [.str x] ∧ x.length ≤ 20000 ∧ r = .dat (.bl (readM x).isNone)) ∨ ∃ d T, ds = [d] ∧ TyD d T ∧ kitB T "str" = some false ∧ r = .dat (.bl true)
theorem c7_refused.len : ∀ ds r, c7_refused ds r → ds.length = 1 := by
  rintro ds r (⟨_, rfl, _⟩ | ⟨_, _, rfl, _⟩) <;> rfl
abbrev st_law_refused : Stmt := top 27
abbrev n_law_refused : List Str := ["_law_text", "error", "_law_others"]
abbrev p_law_refused : List Str := ["_law_text"]
theorem sc_law_refused : FnScope n_law_refused p_law_refused (defScope st_law_refused) := ⟨rfl, rfl, rfl, by decide +kernel, rfl, by decide +kernel, by decide +kernel⟩
theorem ok_law_refused {f : Addr} {fd : FuncData} (F : Fun K "_law_refused" "_law_refused" st_law_refused f fd) (T : Txt K mg C_Council C_CouncilError C_BadCouncil C_BadGroup C_NoMember C_Unlike C_BadWeights C_BadText) (g_read : OkD P w K mg base (L3.CX3 P w) 4 "read" p_read (SpR K (c7_read C_Council C_BadText))) : FnOk P w K mg base CX0 5 f fd p_law_refused (SpR K c7_refused) := by
  refine F.ok sc_law_refused (sp_len c7_refused.len) (fun cdv A outer s H vs Q E hr h => ?_)
  have hcl_Council := T.cl_Council
  have hna_Council_members := T.na_Council_members
  have hna_Council_table := T.na_Council_table
  have hki_BT_BadCouncil := T.ki_BT_BadCouncil
  have hki_BT_BadGroup := T.ki_BT_BadGroup
  have hki_BT_NoMember := T.ki_BT_NoMember
  have hki_BT_BadWeights := T.ki_BT_BadWeights
  have hki_BT_Unlike := T.ki_BT_Unlike
  have hki_BT_BadText := T.ki_BT_BadText
  have hki_BT_VE := T.ki_BT_VE
  refine ⟨_, (pss_cons (ps_try4 (i := 1) rfl rfl sc_law_refused.nd rfl rfl ⟨rfl, by decide, Or.inl T.x_CouncilError.g⟩
  (fun E pn xe hE => (pss_one (ps_expr (pe_callD g_read (hr.mono (by decide)) (by rfl) hE (pa_cons (pv 0) pa_nil)))))
  (fun a oe cls d cc pn hz hf => pss_guard (p := cls = .ref C_BadText ∧ d = none) (fun hg => (pss_cons (ps_set (i := 2) sc_law_refused.nd rfl (by first | exact Or.inl rfl | exact Or.inr rfl) (pe_lst (pa_cons (pe_callB (call_isE T.ec_BadText (by have hz2 : Zc cls d oe := ⟨hz.1, hz.2.1⟩; rw [hg.1, hg.2] at hz2; exact hz2) hf) (by rfl) T.n_isinstance (by decide +kernel) (pa_cons (pv 1) (pa_cons (pe_glob (v := .ref C_BadCouncil) (by rfl) T.x_BadCouncil.g rfl) pa_nil))) (pa_cons (pe_callB (call_isE T.ec_BadText (by have hz2 : Zc cls d oe := ⟨hz.1, hz.2.1⟩; rw [hg.1, hg.2] at hz2; exact hz2) hf) (by rfl) T.n_isinstance (by decide +kernel) (pa_cons (pv 1) (pa_cons (pe_glob (v := .ref C_BadGroup) (by rfl) T.x_BadGroup.g rfl) pa_nil))) (pa_cons (pe_callB (call_isE T.ec_BadText (by have hz2 : Zc cls d oe := ⟨hz.1, hz.2.1⟩; rw [hg.1, hg.2] at hz2; exact hz2) hf) (by rfl) T.n_isinstance (by decide +kernel) (pa_cons (pv 1) (pa_cons (pe_glob (v := .ref C_NoMember) (by rfl) T.x_NoMember.g rfl) pa_nil))) pa_nil)))))
  (pss_cons (ps_set (i := 2) sc_law_refused.nd rfl (by first | exact Or.inl rfl | exact Or.inr rfl) (pe_op op_cat (pv 2) (pe_lst (pa_cons (pe_callB (call_isE T.ec_BadText (by have hz2 : Zc cls d oe := ⟨hz.1, hz.2.1⟩; rw [hg.1, hg.2] at hz2; exact hz2) hf) (by rfl) T.n_isinstance (by decide +kernel) (pa_cons (pv 1) (pa_cons (pe_glob (v := .ref C_BadWeights) (by rfl) T.x_BadWeights.g rfl) pa_nil))) (pa_cons (pe_callB (call_isE T.ec_BadText (by have hz2 : Zc cls d oe := ⟨hz.1, hz.2.1⟩; rw [hg.1, hg.2] at hz2; exact hz2) hf) (by rfl) T.n_isinstance (by decide +kernel) (pa_cons (pv 1) (pa_cons (pe_glob (v := .ref C_Unlike) (by rfl) T.x_Unlike.g rfl) pa_nil))) pa_nil)))))
  (pss_one (ps_ret (pe_and (pe_callB (call_isE T.ec_BadText (by have hz2 : Zc cls d oe := ⟨hz.1, hz.2.1⟩; rw [hg.1, hg.2] at hz2; exact hz2) hf) (by rfl) T.n_isinstance (by decide +kernel) (pa_cons (pv 1) (pa_cons (pe_glob (v := .ref C_BadText) (by rfl) T.x_BadText.g rfl) pa_nil))) (pe_and (pe_callB (call_isE T.ec_BadText (by have hz2 : Zc cls d oe := ⟨hz.1, hz.2.1⟩; rw [hg.1, hg.2] at hz2; exact hz2) hf) (by rfl) T.n_isinstance (by decide +kernel) (pa_cons (pv 1) (pa_cons (pe_bltn (v := .ty "ValueError") (by rfl) T.n_ValueError (by decide +kernel) rfl) pa_nil))) (pe_one (pe_not (pe_callB (show CallR _ (.builtin "any") (fun xs H Q => L3.Ctx1 cc H ∧ rAny K xs H Q) from L3.cr_any3 rfl List.mem_cons_self hz hf) (by rfl) T.n_any (by decide +kernel) (pa_cons (pv 2) pa_nil)))))))))))))
  (pss_one (ps_ret pe_bl))), go_of ?_ h⟩
  try dsimp only [L2.cxOf, L2.Cx.nox, L2.Cx.wish, L2.Cx.blk]
  have key : ∀ ds r, c7_refused ds r → ∃ d, ds = [d] ∧ ((r = .dat (.bl true) ∧ c7_read C_Council C_BadText [d] (.exc C_BadText)) ∨ (r = .dat (.bl false) ∧ ∃ p : Nat × List Bool, c7_read C_Council C_BadText [d] (.dat (cou C_Council p.1 p.2)))) := by
    rintro ds r (⟨x, rfl, hx, rfl⟩ | ⟨d, ty, rfl, hd, hk, rfl⟩)
    · refine ⟨_, rfl, ?_⟩
      cases e : readM x with
      | none => exact .inl ⟨rfl, .inl ⟨x, rfl, hx, by rw [e]⟩⟩
      | some p => exact .inr ⟨rfl, p, .inl ⟨x, rfl, hx, by rw [e]⟩⟩
    · exact ⟨_, rfl, .inl ⟨rfl, .inr ⟨d, ty, rfl, hd, hk, rfl⟩⟩⟩
  intro ds r hds
  obtain ⟨d, rfl, ⟨rfl, hq⟩ | ⟨rfl, p, hq⟩⟩ := key ds r hds
  · show W K E _ [.fz d, .un, .un] _
    refine w_seq (w_try4catch (d := .bl true) (te := fun Eb => tCall (SpR K (c7_read C_Council C_BadText)) [] Eb (tCons (tVar 0) tNil)) T.xm_BadText (fun Eb => ev_callX (ea_cons (ev_var rfl) ea_nil) hq) rfl rfl fun a cc => ?_)
    refine w_guard ⟨rfl, rfl⟩ ?_
    refine w_seq (w_asg (d := .lst [.bl false, .bl false, .bl false]) ?_ ?_)
    · apply EvR.fz
      with_reducible apply ev_lst
      · refine ea_cons (ev_cb (ea_cons (ev_err rfl) (ea_cons ev_fn ea_nil)) (cb_isE T.ki_BT_BadCouncil)) (ea_cons (ev_cb (ea_cons (ev_err rfl) (ea_cons ev_fn ea_nil)) (cb_isE T.ki_BT_BadGroup)) (ea_cons (ev_cb (ea_cons (ev_err rfl) (ea_cons ev_fn ea_nil)) (cb_isE T.ki_BT_NoMember)) ea_nil))
      · walk_at "sz"
    refine w_seq (w_asg (d := blL [false, false, false, false, false]) ?_ ?_)
    · apply EvR.fz
      apply ev_isN
      · with_reducible apply ev_op
        · exact ev_var rfl
        · with_reducible apply EvR.fz
          with_reducible apply ev_lst
          · refine ea_cons (ev_cb (ea_cons (ev_err rfl) (ea_cons ev_fn ea_nil)) (cb_isE T.ki_BT_BadWeights)) (ea_cons (ev_cb (ea_cons (ev_err rfl) (ea_cons ev_fn ea_nil)) (cb_isE T.ki_BT_Unlike)) ea_nil)
          · walk_at "sz"
        · refine od_cat ?_
          show 5 ≤ _
          rw [sizeLine_eq]
          omega
      · rfl
    refine w_ret (r := .dat (.bl true)) ?_ rfl
    refine ev_is (d := .bl (true && (true && !([false, false, false, false, false] : List Bool).any id))) ?_ rfl
    refine ev_andV (ev_cb (ea_cons (ev_err rfl) (ea_cons ev_fn ea_nil)) (cb_isE T.ki_BT_BadText)) fun _ => ev_andV (ev_cb (ea_cons (ev_err rfl) (ea_cons ev_ty ea_nil)) (cb_isET T.ki_BT_VE)) fun _ => ev_notV ?_
    exact ev_any3 (i := 1) rfl (ea_cons (ev_var rfl) ea_nil)
  · show W K E _ [.fz d, .un, .un] _
    refine w_seq (w_try4 fun Eb => w_drop (d := cou C_Council p.1 p.2) ?_ ?_)
    · exact ev_call (ea_cons (ev_var rfl) ea_nil) hq
    exact w_ret (r := .dat (.bl false)) ev_bl rfl
def c7_lgin : List D → Rs → Prop := fun ds r => ∃ (w : Str) (n : Nat), ds = [.str w, nat n] ∧ n ≤ 5 ∧ w.length ≤ 50000 ∧ r = .dat (.int (lgM n w))
theorem c7_lgin.len : ∀ ds r, c7_lgin ds r → ds.length = 2 := by
  rintro ds r ⟨_, _, rfl, _⟩
  rfl
abbrev st_law_group_in : Stmt := top 28
abbrev n_law_group_in : List Str := ["_law_word", "_law_members", "_law_group", "_law_sign"]
abbrev p_law_group_in : List Str := ["_law_word", "_law_members"]
theorem sc_law_group_in : FnScope n_law_group_in p_law_group_in (defScope st_law_group_in) := ⟨rfl, rfl, rfl, by decide +kernel, rfl, by decide +kernel, by decide +kernel⟩
theorem ok_law_group_in {f : Addr} {fd : FuncData} (F : Fun K "_law_group_in" "_law_group_in" st_law_group_in f fd) (T : Txt K mg C_Council C_CouncilError C_BadCouncil C_BadGroup C_NoMember C_Unlike C_BadWeights C_BadText) : FnOk P w K mg base CX0 1 f fd p_law_group_in (SpR K c7_lgin) := by
  refine F.ok sc_law_group_in (sp_len c7_lgin.len) (fun cdv A outer s H vs Q E hr h => ?_)
  have hcl_Council := T.cl_Council
  have hna_Council_members := T.na_Council_members
  have hna_Council_table := T.na_Council_table
  have hki_BT_BadCouncil := T.ki_BT_BadCouncil
  have hki_BT_BadGroup := T.ki_BT_BadGroup
  have hki_BT_NoMember := T.ki_BT_NoMember
  have hki_BT_BadWeights := T.ki_BT_BadWeights
  have hki_BT_Unlike := T.ki_BT_Unlike
  have hki_BT_BadText := T.ki_BT_BadText
  have hki_BT_VE := T.ki_BT_VE
  refine ⟨_, (pss_cons (ps_if (pt_cmpR op_eq (pv 0) pe_str (nomark _)) (pss_one (ps_ret pe_int)) pss_nil)
  (pss_cons (ps_set (i := 2) sc_law_group_in.nd rfl (by first | exact Or.inl rfl | exact Or.inr rfl) pe_int)
  (pss_cons (ps_for PassesOwn.never rfl (pi_str (pv 0)) (pg_name (i := 3) sc_law_group_in.nd rfl (by first | exact Or.inl rfl | exact Or.inr rfl))
  (pss_cons (ps_if (PW.pt (pw_or (pt_cmpR op_notIn_sign (pv 3) pe_str (by rfl)) (pw_or (pt_cmpR op_ge (pe_callTy call_int_str (by rfl) T.n_int (by decide +kernel) (pa_cons (pv 3) pa_nil)) (pv 1) (nomark _)) (pw_or1 (pt_cmpR op_gt (pe_op op_shr (pv 2) (pe_callTy call_int_str (by rfl) T.n_int (by decide +kernel) (pa_cons (pv 3) pa_nil))) pe_int (nomark _)))))) (pss_one (ps_ret (pe_un un_neg pe_int))) pss_nil)
  (pss_one (ps_set (i := 2) sc_law_group_in.nd rfl (by first | exact Or.inl rfl | exact Or.inr rfl) (pe_op op_or (pv 2) (pe_op op_shl pe_int (pe_callTy call_int_str (by rfl) T.n_int (by decide +kernel) (pa_cons (pv 3) pa_nil))))))))
  (pss_one (ps_ret (pe_ifExp (pt_cmpR op_gt (pv 2) pe_int (nomark _)) (pv 2) (pe_un un_neg pe_int))))))), go_of ?_ h⟩
  try dsimp only [L2.cxOf, L2.Cx.nox, L2.Cx.wish, L2.Cx.blk]
  rintro ds r ⟨x, n, rfl, h5, hx, rfl⟩
  show W K E _ [.fz (.str x), .fz (nat n), .un, .un] _
  refine w_seq (w_if (b := decide (x = "-")) (by walk_at "et") (fun hb => ?_) fun hb => w_next ?_)
  · refine w_ret (r := .dat (.int 0)) ev_int ?_
    unfold lgM
    rw [if_pos (of_decide_eq_true hb)]
  have hb : ¬ x = "-" := by simpa using hb
  refine w_seq (w_asg (d := nat 0) ev_int ?_)
  refine w_seq (w_for (fun i s => ∃ g, lgl n g (x.cps.toList.drop i) = lgl n 0 x.cps.toList ∧ Fgt s [.fz (.str x), .fz (nat n), .fz (nat g), .un]) (it_str (ev_var rfl)) ⟨0, by rw [List.drop_zero], Fgt.refl _⟩ ?_ ?_)
  · rintro i d s hi ⟨g, hg, hf⟩
    rw [signs_codes, List.map_map, List.getElem?_map] at hi
    cases hc : x.cps.toList[i]? with
    | none => rw [hc] at hi; cases hi
    | some c =>
      rw [hc] at hi
      cases hi
      have hdrop : x.cps.toList.drop i = c :: x.cps.toList.drop (i + 1) := by
        obtain ⟨hi, e⟩ := List.getElem?_eq_some_iff.mp hc
        rw [List.drop_eq_getElem_cons hi, e]
      rw [hdrop] at hg
      have efig : (("01234" : Str)).cps.toList = [48, 49, 50, 51, 52] := by decide +kernel
      refine gw_name (w_fgt (fgt_set hf) ?_)
      show W K E _ [.fz (.str x), .fz (nat n), .fz (nat g), .fz (.str ⟨#[c]⟩)] _
      by_cases hm : c ∈ ([48, 49, 50, 51, 52] : List Nat)
      · have hk : c - 48 < 5 ∧ c = 48 + (c - 48) := by
          simp only [List.mem_cons, List.not_mem_nil, or_false] at hm
          omega
        have hint : ∀ (sl : List Sl) (E : XK), sl[3]? = some (.fz (.str ⟨#[c]⟩)) → EvR K E (tCB rIntT (tCons (tVar 3) tNil)) sl (.dat (nat (c - 48))) := fun sl E h => by
          have e : (⟨#[c]⟩ : Str) = sg (48 + (c - 48)) := by rw [← hk.2]; rfl
          rw [e] at h
          exact ev_cb (ea_cons (ev_var h) ea_nil) (cb_intS (sg_int _ hk.1) (by show 1 ≤ 640; omega))
        generalize hkk : c - 48 = k at hint hk
        refine w_seq (w_if (b := decide (n ≤ k) || decide (0 < g / 2 ^ k)) ?_ (fun hq => ?_) fun hq => w_next ?_)
        · refine et_is (a := (!decide (c ∈ ("01234" : Str).cps.toList)) || (decide ((n : Int) ≤ (k : Int)) || decide ((0 : Int) < (g : Int) / 2 ^ ((k : Int)).toNat))) ?_ ?_
          · refine et_or ?_ fun _ => et_or ?_ fun _ => ?_
            · apply et_test
              exact ev_op (ev_var rfl) ev_str od_notInSg
            · apply et_test
              exact ev_op (hint _ _ rfl) (ev_var rfl) od_b
            · apply et_test
              refine ev_op (ev_op (ev_var rfl) (hint _ _ rfl) (od_ic ?_)) ev_int od_b
              show (0 : Int) ≤ _
              omega
          · rw [efig, decide_eq_true hm, Bool.not_true, Bool.false_or, Int.toNat_natCast]
            congr 1
            · rw [decide_eq_decide]
              omega
            · rw [decide_eq_decide]
              have : (g : Int) / 2 ^ k = ((g / 2 ^ k : Nat) : Int) := by
                rw [Int.natCast_ediv, Int.natCast_pow]
                rfl
              rw [this]
              omega
        · refine w_ret (r := .dat (.int (-1))) (ev_is (d := .int (-1)) (by walk_at "ev") rfl) ?_
          unfold lgM
          rw [if_neg hb, ← hg]
          unfold lgl
          rw [if_neg]
          rintro ⟨⟨_, q1⟩, q2⟩
          rw [hkk] at q1 q2
          rw [decide_eq_false (by omega), q2] at hq
          cases hq
        · rw [Bool.or_eq_false_iff, decide_eq_false_iff_not, decide_eq_false_iff_not] at hq
          refine w_asg (d := nat (g ||| 2 ^ k)) ?_ ⟨g ||| 2 ^ k, ?_, ?_⟩
          · refine ev_op (ev_var rfl) (ev_op ev_int (hint _ _ rfl) (od_shl1 (by omega))) od_orN
          · rw [← hg, show lgl n g (c :: x.cps.toList.drop (i + 1)) = lgl n (g ||| 2 ^ (c - 48)) (x.cps.toList.drop (i + 1)) from if_pos ⟨⟨hm, by omega⟩, by rw [hkk]; exact Nat.eq_zero_of_not_pos hq.2⟩, hkk]
          · exact .keep (.keep (.keep (.drop .nil)))
      · refine w_seq (w_if (b := true) ?_ (fun hq => ?_) fun hq => nomatch hq)
        · refine et_is (a := (!decide (c ∈ ("01234" : Str).cps.toList)) || false) ?_ ?_
          · refine et_or ?_ fun z => absurd z ?_
            · apply et_test
              exact ev_op (ev_var rfl) ev_str od_notInSg
            · rw [efig, decide_eq_false hm]
              exact fun z => nomatch z
          · rw [efig, decide_eq_false hm]
            rfl
        · refine w_ret (r := .dat (.int (-1))) (ev_is (d := .int (-1)) (by walk_at "ev") rfl) ?_
          unfold lgM
          rw [if_neg hb, ← hg]
          unfold lgl
          rw [if_neg fun z => hm z.1.1]
  · rintro s ⟨g, hg, hf⟩
    refine w_fgt hf ?_
    have hl : ((signsT x).map D.str).length = x.cps.toList.length := by rw [signs_codes, List.length_map, List.length_map]
    rw [hl, List.drop_length] at hg
    refine w_ret (r := .dat (.int (lgM n x))) ?_ rfl
    unfold lgM
    rw [if_neg hb, ← hg]
    show EvR K E _ _ (.dat (.int (if 0 < g then (g : Int) else -1)))
    refine ev_if (b := decide ((0 : Int) < (g : Int))) (by walk_at "et") (fun q => ?_) fun q => ?_
    · rw [if_pos (by have := of_decide_eq_true q; omega)]
      exact ev_var rfl
    · rw [if_neg (by have := of_decide_eq_false q; omega)]
      exact ev_is (d := .int (-1)) (by walk_at "ev") rfl
def c7_lin : List D → Rs → Prop := fun ds r => ∃ x : Str, ds = [.str x] ∧ x.length ≤ 20000 ∧ r = .dat (match lawInM x with | some p => .tup [nat p.1, natL p.2] | none => .non)
theorem c7_lin.len : ∀ ds r, c7_lin ds r → ds.length = 1 := by
  rintro ds r ⟨_, rfl, _⟩
  rfl
theorem int_nat {L : List Int} (h : ∀ l ∈ L, 0 ≤ l) : intL L = natL (L.map Int.toNat) := by
  show D.lst (L.map .int) = D.lst ((L.map Int.toNat).map nat)
  rw [List.map_map]
  congr 1
  refine List.map_congr_left fun l hl => ?_
  show D.int l = D.int ((l.toNat : Nat) : Int)
  rw [Int.toNat_of_nonneg (h l hl)]
abbrev st_law_in : Stmt := top 29
abbrev n_law_in : List Str := ["_law_text", "_law_words", "_law_groups", "_law_k", "_law_word", "_law_one"]
abbrev p_law_in : List Str := ["_law_text"]
theorem sc_law_in : FnScope n_law_in p_law_in (defScope st_law_in) := ⟨rfl, rfl, rfl, by decide +kernel, rfl, by decide +kernel, by decide +kernel⟩
theorem ok_law_in {f : Addr} {fd : FuncData} (F : Fun K "_law_in" "_law_in" st_law_in f fd) (T : Txt K mg C_Council C_CouncilError C_BadCouncil C_BadGroup C_NoMember C_Unlike C_BadWeights C_BadText) (g_law_group_in : OkD P w K mg base CX0 1 "_law_group_in" p_law_group_in (SpR K c7_lgin)) : FnOk P w K mg base CX0 2 f fd p_law_in (SpR K c7_lin) := by
  refine F.ok sc_law_in (sp_len c7_lin.len) (fun cdv A outer s H vs Q E hr h => ?_)
  have hcl_Council := T.cl_Council
  have hna_Council_members := T.na_Council_members
  have hna_Council_table := T.na_Council_table
  have hki_BT_BadCouncil := T.ki_BT_BadCouncil
  have hki_BT_BadGroup := T.ki_BT_BadGroup
  have hki_BT_NoMember := T.ki_BT_NoMember
  have hki_BT_BadWeights := T.ki_BT_BadWeights
  have hki_BT_Unlike := T.ki_BT_Unlike
  have hki_BT_BadText := T.ki_BT_BadText
  have hki_BT_VE := T.ki_BT_VE
  refine ⟨_, (pss_cons (ps_set (i := 1) sc_law_in.nd rfl (by first | exact Or.inl rfl | exact Or.inr rfl) (pe_split (pv 0) pe_str))
  (pss_cons (ps_if (pt_cmpR op_notIn_seq (pe_ix ix_list (pv 1) pe_int (fun _ _ => rfl)) (pe_lst (pa_cons pe_str (pa_cons pe_str (pa_cons pe_str (pa_cons pe_str (pa_cons pe_str pa_nil)))))) (by rfl)) (pss_one (ps_ret pe_non)) pss_nil)
  (pss_cons (ps_set (i := 2) sc_law_in.nd rfl (by first | exact Or.inl rfl | exact Or.inr rfl) (pe_lc (own := [("_law_word", 4)]) (g := gName 4) (tt := tYes) (te := (tCall (SpR K c7_lgin) [] E0 (tCons (tVar 4) (tCons (tCB (rIntS) (tCons (tOp (rIxS) (tOp (rIxL K) (tVar 1) (tC (.int 0))) (tC (.int 0))) tNil)) tNil)))) (by exact rfl) sc_law_in.nd (pi_list (pe_slice sl_list (pv 1) (po_some pe_int) po_none)) (blkOk_by (N := n_law_in) (sc := defScope st_law_in) (own := [("_law_word", 4)]) (by decide +kernel)) (fun _ _ _ _ _ => (pg_name (i := 4) sc_law_in.nd rfl (by first | exact Or.inl rfl | exact Or.inr rfl))) (fun _ _ _ _ _ => pts_nil) (fun _ _ _ _ _ => (pe_callD g_law_group_in (hr.mono (by decide)) (by rfl) pass0 (pa_cons (pv 4) (pa_cons (pe_callTy call_int_str (by rfl) T.n_int (by decide +kernel) (pa_cons (pe_ix ix_str (pe_ix ix_list (pv 1) pe_int (fun _ _ => rfl)) pe_int (fun _ _ => rfl)) pa_nil)) pa_nil))))))
  (pss_cons (ps_for PassesOwn.never rfl (pi_range1 (by rfl) T.n_range (pa_cons (pe_callB call_len_seq (by rfl) T.n_len (PySem.boot_len) (pa_cons (pv 2) pa_nil)) pa_nil)) (pg_name (i := 3) sc_law_in.nd rfl (by first | exact Or.inl rfl | exact Or.inr rfl))
  (pss_cons (ps_if (PW.pt (pw_or (pt_cmpR op_lt (pe_ix ix_list (pv 2) (pv 3) (fun _ _ => rfl)) pe_int (nomark _)) (pw_or1 (PW.pt (pw_and (pt_cmpR op_gt (pv 3) pe_int (nomark _)) (pw_and1 (pt_cmpR op_ge (pe_ix ix_list (pv 2) (pe_op op_sub (pv 3) pe_int) (fun _ _ => rfl)) (pe_ix ix_list (pv 2) (pv 3) (fun _ _ => rfl)) (nomark _)))))))) (pss_one (ps_ret pe_non)) pss_nil)
  (pss_one (ps_if (pt_val (pe_callB (cr_any rfl) (by rfl) T.n_any (by decide +kernel) (pa_cons (pe_lc (own := [("_law_one", 5)]) (g := gName 5) (tt := tYes) (te := (tOp (rEq) (tOp (rI0 fun i j => .int (Builtin.bitAnd i j)) (tOp (rIxL K) (tVar 2) (tVar 3)) (tVar 5)) (tVar 5))) (by exact rfl) sc_law_in.nd (pi_list (pe_slice sl_list (pv 2) po_none (po_some (pv 3)))) (blkOk_by (N := n_law_in) (sc := defScope st_law_in) (own := [("_law_one", 5)]) (by decide +kernel)) (fun _ _ _ _ _ => (pg_name (i := 5) sc_law_in.nd rfl (by first | exact Or.inl rfl | exact Or.inr rfl))) (fun _ _ _ _ _ => pts_nil) (fun _ _ _ _ _ => (pe_cmpR op_eq (pe_op op_and (pe_ix ix_list (pv 2) (pv 3) (fun _ _ => rfl)) (pv 5)) (pv 5) (nomark _)))) pa_nil))) (pss_one (ps_ret pe_non)) pss_nil))))
  (pss_one (ps_ret (pe_tup (pa_cons (pe_callTy call_int_str (by rfl) T.n_int (by decide +kernel) (pa_cons (pe_ix ix_str (pe_ix ix_list (pv 1) pe_int (fun _ _ => rfl)) pe_int (fun _ _ => rfl)) pa_nil)) (pa_cons (pv 2) pa_nil))))))))), go_of ?_ h⟩
  try dsimp only [L2.cxOf, L2.Cx.nox, L2.Cx.wish, L2.Cx.blk]
  rintro ds r ⟨x, rfl, hx, rfl⟩
  show W K E _ [.fz (.str x), .un, .un, .un, .un, .un] _
  have hcount := words_count x
  have hwl : ∀ w ∈ wordsM x, w.length ≤ x.length := fun w hw => words_len hw
  refine w_seq (w_asg (d := strL (wordsM x)) ?_ ?_)
  · apply EvR.fz
    exact ev_split (ev_var rfl) ev_str (by decide +kernel) (by rw [sizeLine_eq]; omega)
  unfold lawInM
  cases ew : wordsM x with
  | nil => exact absurd ew (words_ne x)
  | cons w0 ws =>
    dsimp only
    rw [ew] at hcount hwl
    rw [List.length_cons] at hcount
    have hw0 : ∀ sl : List Sl, sl[1]? = some (.fz (strL (w0 :: ws))) → ∀ E, EvR K E (tOp (rIxL K) (tVar 1) (tC (.int 0))) sl (.dat (.str w0)) := fun sl h E => by
      with_reducible apply ev_op
      · exact ev_var h
      · exact ev_int
      · exact od_ixL (by omega) rfl
    refine w_seq (w_if (b := !decide (w0 ∈ (["1:", "2:", "3:", "4:", "5:"] : List Str))) ?_ (fun hb => ?_) fun hb => w_next ?_)
    · apply et_test
      with_reducible apply ev_op (x := .str w0) (y := strL ["1:", "2:", "3:", "4:", "5:"])
      · exact hw0 _ rfl _
      · apply EvR.fz
        with_reducible apply ev_lst
        · exact ea_cons ev_str (ea_cons ev_str (ea_cons ev_str (ea_cons ev_str (ea_cons ev_str ea_nil))))
        · walk_at "sz"
      · exact od_notInS
    · refine w_ret (r := .dat .non) ev_non ?_
      cases en : nin w0 with
      | none => rfl
      | some n =>
        rw [decide_eq_true (nin_some en)] at hb
        cases hb
    cases en : nin w0 with
    | none =>
      rw [decide_eq_false (nin_none en)] at hb
      cases hb
    | some n =>
      dsimp only
      obtain ⟨⟨h1, h5⟩, e0⟩ := nin_iff.mp en
      have hn : ∀ (sl : List Sl) (E : XK), sl[1]? = some (.fz (strL (w0 :: ws))) → EvR K E (tCB rIntT (tCons (tOp rIxS (tOp (rIxL K) (tVar 1) (tC (.int 0))) (tC (.int 0))) tNil)) sl (.dat (nat n)) := fun sl E h => by
        with_reducible apply ev_cb
        · with_reducible apply ea_cons (x := .str (sg (48 + n)))
          · with_reducible apply ev_op (x := .str w0)
            · exact hw0 _ h _
            · exact ev_int
            · rw [e0]
              exact od_ixS (by rw [nword_len n (by omega), sizeLine_eq]; omega) (nword_at n (by omega))
          · exact ea_nil
        · exact cb_intS (nword_int n (by omega)) (by show 1 ≤ 640; omega)
      refine w_seq (w_asg (d := intL (ws.map (lgM n))) ?_ ?_)
      · apply EvR.fz
        apply ev_isN
        · with_reducible apply ev_lcM (ys := ws) (c := .str) (v := fun w => .int (lgM n w))
          · with_reducible apply it_list
            apply EvR.fz
            apply ev_isN
            · with_reducible apply ev_sl
              · exact ev_var rfl
              · exact eo_some ev_int
              · exact eo_none
            · show cutD ((w0 :: ws).map D.str) (some 1) none = ws.map .str
              rw [show (1 : Int) = ((1 : Nat) : Int) from rfl, cut_drop]
              rfl
          · omega
          · decide
          · intro w hw
            have hq : c7_lgin [.str w, nat n] (.dat (.int (lgM n w))) := ⟨w, n, rfl, h5, by have := hwl w (List.mem_cons_of_mem _ hw); omega, rfl⟩
            exact ev_call (ea_cons (ev_var rfl) (ea_cons (hn _ _ rfl) ea_nil)) hq
        · rw [List.map_map]
          rfl
      have eLl : (ws.map (lgM n)).length = ws.length := List.length_map _
      generalize ws.map (lgM n) = L at eLl
      refine w_seq (w_forPre (xs := (List.range L.length).map nat) [.fz (.str x), .fz (strL (w0 :: ws)), .fz (intL L), .un, .un, .un] (fun i => ∀ j, j < i → bad L j = false) ?_ (Fgt.refl _) (fun j h => absurd h (Nat.not_lt_zero j)) (fun i d hi hG => ?_) fun s hf hG => ?_)
      · walk_at "it"
      · rw [List.getElem?_map] at hi
        obtain ⟨j, hj, rfl⟩ := Option.map_eq_some_iff.mp hi
        obtain ⟨hi2, e⟩ := List.getElem?_eq_some_iff.mp hj
        rw [List.getElem_range] at e
        subst e
        rw [List.length_range] at hi2
        show W K E _ [.fz (.str x), .fz (strL (w0 :: ws)), .fz (intL L), .fz (nat i), .un, .un] _
        refine w_seq (w_if (b := decide (L.getD i 0 < 0) || (decide (0 < i) && decide (L.getD i 0 ≤ L.getD (i - 1) 0))) ?_ (fun hb => ?_) fun hb => w_next ?_)
        · refine et_or ?_ fun _ => ?_
          · apply et_test
            exact ev_op (ev_op (ev_var rfl) (ev_var rfl) (od_ixI hi2)) ev_int od_b
          · refine et_is (a := decide ((0 : Int) < (i : Int)) && decide (L.getD i 0 ≤ L.getD (i - 1) 0)) ?_ ?_
            · refine et_and ?_ fun z => ?_
              · apply et_test
                exact ev_op (ev_var rfl) ev_int od_b
              · have z := of_decide_eq_true z
                apply et_test
                refine ev_op (x := .int (L.getD (i - 1) 0)) (ev_op (y := nat (i - 1)) (ev_var rfl) ?_ (od_ixI (by omega))) (ev_op (ev_var rfl) (ev_var rfl) (od_ixI hi2)) od_b
                refine ev_is (d := .int ((i : Int) - 1)) (ev_op (ev_var rfl) ev_int od_i) ?_
                show D.int _ = D.int _
                congr 1
                omega
            · congr 1
              rw [decide_eq_decide]
              omega
        · refine w_ret (r := .dat .non) ev_non ?_
          have hbad : bad L i = true := by
            unfold bad
            rw [hb]
            rfl
          rw [if_pos (List.any_eq_true.mpr ⟨i, List.mem_range.mpr (by omega), hbad⟩)]
        refine w_if (b := (L.take i).any fun o => decide (Builtin.bitAnd (L.getD i 0) o = o)) ?_ (fun hb2 => ?_) fun hb2 => w_next ⟨?_, fun j hj => ?_⟩
        · apply et_B
          with_reducible apply ev_cb
          · refine ea_cons (x := .lst ((L.take i).map fun o => .bl (decide (Builtin.bitAnd (L.getD i 0) o = o)))) ?_ ea_nil
            apply EvR.fz
            with_reducible apply ev_lcM (ys := L.take i) (c := .int) (v := fun o => .bl (decide (Builtin.bitAnd (L.getD i 0) o = o)))
            · with_reducible apply it_list
              apply EvR.fz
              apply ev_isN
              · with_reducible apply ev_sl
                · exact ev_var rfl
                · exact eo_none
                · exact eo_some (ev_var rfl)
              · rw [cut_takeD, List.map_take]
            · rw [List.length_take]
              omega
            · decide
            · intro o ho
              exact ev_op (ev_op (ev_op (ev_var rfl) (ev_var rfl) (od_ixI hi2)) (ev_var rfl) od_i) (ev_var rfl) od_eqI
          · exact cb_anyM
        · refine w_ret (r := .dat .non) ev_non ?_
          have hbad : bad L i = true := by
            unfold bad
            rw [hb, hb2]
            rfl
          rw [if_pos (List.any_eq_true.mpr ⟨i, List.mem_range.mpr (by omega), hbad⟩)]
        · exact .keep (.keep (.keep (.drop (.keep (.keep .nil)))))
        · rcases Nat.lt_or_eq_of_le (Nat.lt_succ_iff.mp hj) with z | z
          · exact hG j z
          · subst z
            unfold bad
            rw [hb, hb2]
            rfl
      · rw [List.length_map, List.length_range] at hG
        have none_bad : ¬ ((List.range ws.length).any (bad L)) = true := fun z => by
          obtain ⟨j, hj, e⟩ := List.any_eq_true.mp z
          rw [hG j (by rw [eLl]; exact List.mem_range.mp hj)] at e
          cases e
        have nn : ∀ l ∈ L, 0 ≤ l := fun l hl => by
          obtain ⟨j, hj, rfl⟩ := List.getElem_of_mem hl
          have z := hG j hj
          unfold bad at z
          rw [Bool.or_eq_false_iff, Bool.or_eq_false_iff, decide_eq_false_iff_not, List.getD_eq_getElem?_getD, List.getElem?_eq_getElem hj] at z
          have z1 : ¬ L[j] < 0 := z.1.1
          omega
        rw [if_neg none_bad]
        refine w_fgt hf (w_ret (r := .dat (.tup [nat n, intL L])) ?_ ?_)
        · with_reducible apply ev_tup
          · exact ea_cons (hn _ _ rfl) (ea_cons (ev_var rfl) ea_nil)
          · exact (by decide : 2 ≤ sizeLine)
        · rw [int_nat nn]
def c7_right : List D → Rs → Prop := fun ds r => ∃ x : Str, ds = [.str x] ∧ x.length ≤ 20000 ∧ r = .dat (.bl true)
theorem c7_right.len : ∀ ds r, c7_right ds r → ds.length = 1 := by
  rintro ds r ⟨_, rfl, _⟩
  rfl
abbrev st_law_right : Stmt := top 30
abbrev n_law_right : List Str := ["_law_text", "_law_due", "_law_council", "_law_group"]
abbrev p_law_right : List Str := ["_law_text"]
theorem sc_law_right : FnScope n_law_right p_law_right (defScope st_law_right) := ⟨rfl, rfl, rfl, by decide +kernel, rfl, by decide +kernel, by decide +kernel⟩
theorem ok_law_right {f : Addr} {fd : FuncData} (F : Fun K "_law_right" "_law_right" st_law_right f fd) (T : Txt K mg C_Council C_CouncilError C_BadCouncil C_BadGroup C_NoMember C_Unlike C_BadWeights C_BadText) (g_law_in : OkD P w K mg base CX0 2 "_law_in" p_law_in (SpR K c7_lin)) (g_law_refused : OkD P w K mg base CX0 5 "_law_refused" p_law_refused (SpR K c7_refused)) (g_read : OkD P w K mg base (L3.CX3 P w) 4 "read" p_read (SpR K (c7_read C_Council C_BadText))) (g_Council_least : OkM P w K mg base CX0 2 C_Council "least" p_Council_least (SpR K (c_Council_least C_Council))) (g_Council_carries : OkM P w K mg base CX0 2 C_Council "carries" p_Council_carries (SpR K (c_Council_carries C_Council))) (g_law_table : OkD P w K mg base CX0 1 "_law_table" p_law_table (SpR K c_law_table)) : FnOk P w K mg base CX0 6 f fd p_law_right (SpR K c7_right) := by
  refine F.ok sc_law_right (sp_len c7_right.len) (fun cdv A outer s H vs Q E hr h => ?_)
  have hcl_Council := T.cl_Council
  have hna_Council_members := T.na_Council_members
  have hna_Council_table := T.na_Council_table
  have hki_BT_BadCouncil := T.ki_BT_BadCouncil
  have hki_BT_BadGroup := T.ki_BT_BadGroup
  have hki_BT_NoMember := T.ki_BT_NoMember
  have hki_BT_BadWeights := T.ki_BT_BadWeights
  have hki_BT_Unlike := T.ki_BT_Unlike
  have hki_BT_BadText := T.ki_BT_BadText
  have hki_BT_VE := T.ki_BT_VE
  refine ⟨_, (pss_cons (ps_set (i := 1) sc_law_right.nd rfl (by first | exact Or.inl rfl | exact Or.inr rfl) (pe_callD g_law_in (hr.mono (by decide)) (by rfl) pass0 (pa_cons (pv 0) pa_nil)))
  (pss_cons (ps_if (pt_cmpR op_isN (pv 1) pe_non (nomark _)) (pss_one (ps_ret (pe_callD g_law_refused (hr.mono (by decide)) (by rfl) pass0 (pa_cons (pv 0) pa_nil)))) pss_nil)
  (pss_cons (ps_set (i := 2) sc_law_right.nd rfl (by first | exact Or.inl rfl | exact Or.inr rfl) (pe_callD g_read (hr.mono (by decide)) (by rfl) pass3 (pa_cons (pv 0) pa_nil)))
  (pss_cons (ps_if (PW.pt (pw_or (pt_cmpR op_ne (pe_fld (pv 2) rfl) (pe_ix ix_tup (pv 1) pe_int (fun _ _ => rfl)) (nomark _)) (pw_or1 (pt_cmpR (op_neD (hu64 hr)) (pe_methD0 (pv 2) T.cl_Council g_Council_least (hr.mono (by decide)) pass0) (pe_ix ix_tup (pv 1) pe_int (fun _ _ => rfl)) (nomark _))))) (pss_one (ps_ret pe_bl)) pss_nil)
  (pss_one (ps_ret (pe_cmpR (op_eqD (hu64 hr)) (pe_lc (own := [("_law_group", 3)]) (g := gName 3) (tt := tYes) (te := (tMeth C_Council "carries" (SpR K (c_Council_carries C_Council)) [] E0 (tVar 2) (tCons (tVar 3) tNil))) (by exact rfl) sc_law_right.nd (pi_range1 (by rfl) T.n_range (pa_cons (pe_op op_shl pe_int (pe_ix ix_tup (pv 1) pe_int (fun _ _ => rfl))) pa_nil)) (blkOk_by (N := n_law_right) (sc := defScope st_law_right) (own := [("_law_group", 3)]) (by decide +kernel)) (fun _ _ _ _ _ => (pg_name (i := 3) sc_law_right.nd rfl (by first | exact Or.inl rfl | exact Or.inr rfl))) (fun _ _ _ _ _ => pts_nil) (fun _ _ _ _ _ => (pe_methD (pv 2) T.cl_Council g_Council_carries (hr.mono (by decide)) pass0 (pa_cons (pv 3) pa_nil)))) (pe_callD g_law_table (hr.mono (by decide)) (by rfl) pass0 (pa_cons (pv 1) pa_nil)) (nomark _)))))))), go_of ?_ h⟩
  try dsimp only [L2.cxOf, L2.Cx.nox, L2.Cx.wish, L2.Cx.blk]
  rintro ds r ⟨x, rfl, hx, rfl⟩
  show W K E _ [.fz (.str x), .un, .un, .un] _
  cases e : lawInM x with
  | none =>
    have hq : c7_lin [.str x] (.dat .non) := ⟨x, rfl, hx, by rw [e]⟩
    have hr2 : c7_refused [.str x] (.dat (.bl true)) := .inl ⟨x, rfl, hx, by rw [law_unread e]; rfl⟩
    refine w_seq (w_asg (d := .non) (ev_call (ea_cons (ev_var rfl) ea_nil) hq) ?_)
    refine w_seq (w_if (b := true) ?_ (fun _ => ?_) fun z => nomatch z)
    · apply et_test
      exact ev_op (ev_var rfl) ev_non od_isN
    · exact w_ret (r := .dat (.bl true)) (ev_call (ea_cons (ev_var rfl) ea_nil) hr2) rfl
  | some p =>
    obtain ⟨n, gs⟩ := p
    obtain ⟨e1, e2, ⟨h1, h5⟩, hl, hg⟩ := law_read e
    have hp := pow_le n h5
    have ht := tab_len n gs
    have hq : c7_lin [.str x] (.dat (.tup [nat n, natL gs])) := ⟨x, rfl, hx, by rw [e]⟩
    have hq2 : c7_read C_Council C_BadText [.str x] (.dat (cou C_Council n (tab n gs))) := .inl ⟨x, rfl, hx, by rw [e1]⟩
    refine w_seq (w_asg (d := .tup [nat n, natL gs]) (ev_call (ea_cons (ev_var rfl) ea_nil) hq) ?_)
    refine w_seq (w_ifF ?_ (w_next ?_))
    · apply et_test
      exact ev_op (ev_var rfl) ev_non od_isNT
    refine w_seq (w_asg (d := cou C_Council n (tab n gs)) (ev_call (ea_cons (ev_var rfl) ea_nil) hq2) ?_)
    refine w_seq (w_ifF ?_ (w_next ?_))
    · apply et_is
      · walk_at "et"
      · rw [e2]
        simp
    refine w_ret (r := .dat (.bl true)) ?_ rfl
    refine ev_is (d := .bl (decide (tab n gs = tab n gs))) ?_ (by simp)
    have hpos : 0 < 2 ^ n := Nat.two_pow_pos n
    with_reducible apply ev_op (x := blL (tab n gs)) (y := blL (tab n gs))
    · apply EvR.fz
      apply ev_isN
      · with_reducible apply ev_lcM (ys := List.range (2 ^ n)) (c := nat) (v := fun g => .bl ((tab n gs).getD g false))
        · walk_at "it"
        · walk_at "sz"
        · decide
        · intro g hg
          replace hg := List.mem_range.mp hg
          rw [← ht] at hg
          walk_at "ev"
      · have : (List.range (2 ^ n)).map (fun g => (tab n gs).getD g false) = tab n gs := by
          refine list_ext_get (n := 2 ^ n) (by simp) ht fun g hg => ?_
          rw [List.getD_eq_getElem?_getD, List.getElem?_map, List.getElem?_range hg]
          rfl
        refine Eq.trans ?_ (congrArg (List.map D.bl) this)
        rw [List.map_map]
        rfl
    · walk_at "ev"
    · exact od_eqLb
def c7_other : List D → Rs → Prop := fun ds r => ∃ (x : Str) (c : Int) (k : Nat), ds = [.str x, .int c, nat k] ∧ x.length ≤ 9000 ∧ r = .dat (.str (otherM x c k))
theorem c7_other.len : ∀ ds r, c7_other ds r → ds.length = 3 := by
  rintro ds r ⟨_, _, _, rfl, _⟩
  rfl
abbrev st_law_other : Stmt := top 31
abbrev n_law_other : List Str := ["_law_text", "_law_cell", "_law_k", "_law_at", "_law_sign", "_law_way"]
abbrev p_law_other : List Str := ["_law_text", "_law_cell", "_law_k"]
theorem sc_law_other : FnScope n_law_other p_law_other (defScope st_law_other) := ⟨rfl, rfl, rfl, by decide +kernel, rfl, by decide +kernel, by decide +kernel⟩
theorem ok_law_other {f : Addr} {fd : FuncData} (F : Fun K "_law_other" "_law_other" st_law_other f fd) (T : Txt K mg C_Council C_CouncilError C_BadCouncil C_BadGroup C_NoMember C_Unlike C_BadWeights C_BadText) (g_law_draw : OkD P w K mg base CX0 1 "_law_draw" p_law_draw (SpR K c_law_draw)) : FnOk P w K mg base CX0 2 f fd p_law_other (SpR K c7_other) := by
  refine F.ok sc_law_other (sp_len c7_other.len) (fun cdv A outer s H vs Q E hr h => ?_)
  have hcl_Council := T.cl_Council
  have hna_Council_members := T.na_Council_members
  have hna_Council_table := T.na_Council_table
  have hki_BT_BadCouncil := T.ki_BT_BadCouncil
  have hki_BT_BadGroup := T.ki_BT_BadGroup
  have hki_BT_NoMember := T.ki_BT_NoMember
  have hki_BT_BadWeights := T.ki_BT_BadWeights
  have hki_BT_Unlike := T.ki_BT_Unlike
  have hki_BT_BadText := T.ki_BT_BadText
  have hki_BT_VE := T.ki_BT_VE
  refine ⟨_, (pss_cons (ps_set (i := 3) sc_law_other.nd rfl (by first | exact Or.inl rfl | exact Or.inr rfl) (pe_callD g_law_draw (hr.mono (by decide)) (by rfl) pass0 (pa_cons (pv 1) (pa_cons (pv 2) (pa_cons (pe_op op_add (pe_callB call_len_str (by rfl) T.n_len (PySem.boot_len) (pa_cons (pv 0) pa_nil)) pe_int) pa_nil)))))
  (pss_cons (ps_set (i := 4) sc_law_other.nd rfl (by first | exact Or.inl rfl | exact Or.inr rfl) (pe_op op_add_str pe_str pe_str))
  (pss_cons (ps_set (i := 4) sc_law_other.nd rfl (by first | exact Or.inl rfl | exact Or.inr rfl) (pe_ix ix_str (pv 4) (pe_callD g_law_draw (hr.mono (by decide)) (by rfl) pass0 (pa_cons (pv 1) (pa_cons (pe_op op_add (pv 2) pe_int) (pa_cons (pe_callB call_len_str (by rfl) T.n_len (PySem.boot_len) (pa_cons (pv 4) pa_nil)) pa_nil)))) (fun _ _ => rfl)))
  (pss_cons (ps_set (i := 5) sc_law_other.nd rfl (by first | exact Or.inl rfl | exact Or.inr rfl) (pe_callD g_law_draw (hr.mono (by decide)) (by rfl) pass0 (pa_cons (pv 1) (pa_cons (pe_op op_add (pv 2) pe_int) (pa_cons pe_int pa_nil)))))
  (pss_cons (ps_if (pt_cmpR op_eq (pv 5) pe_int (nomark _)) (pss_one (ps_ret (pe_op op_add_str (pe_op op_add_str (pe_slice sl_str (pv 0) po_none (po_some (pv 3))) (pv 4)) (pe_slice sl_str (pv 0) (po_some (pv 3)) po_none)))) pss_nil)
  (pss_one (ps_ret (pe_op op_add_str (pe_op op_add_str (pe_slice sl_str (pv 0) po_none (po_some (pv 3))) (pe_ix ix_list (pe_lst (pa_cons pe_str (pa_cons (pv 4) pa_nil))) (pe_op op_sub (pv 5) pe_int) (fun _ _ => rfl))) (pe_slice sl_str (pv 0) (po_some (pe_op op_add (pv 3) pe_int)) po_none))))))))), go_of ?_ h⟩
  try dsimp only [L2.cxOf, L2.Cx.nox, L2.Cx.wish, L2.Cx.blk]
  rintro ds r ⟨x, c, k, rfl, hx, rfl⟩
  show W K E _ [.fz (.str x), .fz (.int c), .fz (nat k), .un, .un, .un] _
  have hlen : ∀ (z : Str) (sl : List Sl) (E : XK) (te : TE), EvR K E0 te sl (.dat (.str z)) → z.length ≤ 100000 → EvR K E (tCB (fun xs H Q => ∃ z, xs = [.str z] ∧ z.length ≤ sizeLine ∧ Q (.int (z.length : Nat)) H) (tCons te tNil)) sl (.dat (.int ((z.length : Nat) : Int))) := fun z sl E te h1 h2 => ev_cb (ea_cons h1 ea_nil) (cb_lenS (by rw [sizeLine_eq]; omega))
  have ha : (drawM c k ((x.length : Nat) + 1) : Int) < (x.length : Nat) + 1 := drawM_lt c k (by omega)
  have hj := drawM_lt c (k + 3) (m := 15) (by omega)
  have hw := drawM_lt c (k + 5) (m := 3) (by omega)
  refine w_seq (w_asg (d := nat (drawM c k ((x.length : Nat) + 1))) ?_ ?_)
  · with_reducible apply ev_call
    · refine ea_cons (ev_var rfl) (ea_cons (ev_var rfl) (ea_cons (x := .int ((x.length : Nat) + 1)) (ev_op (hlen x _ _ _ (ev_var rfl) (by omega)) ev_int od_i) ea_nil))
    · exact R3.mk (ca := D.int) (cb := nat) (cc := D.int) (x := c) (y := k) (z := (x.length : Nat) + 1) (show (0 : Int) < (x.length : Nat) + 1 by omega)
  refine w_seq (w_asg (d := .str signsM) ?_ ?_)
  · refine ev_op ev_str ev_str (od_addS ?_)
    have e1 : (("0123456:- x" : Str)).length = 11 := by decide +kernel
    have e2 : (("\t\n+/" : Str)).length = 4 := by decide +kernel
    rw [e1, e2, sizeLine_eq]
    omega
  refine w_seq (w_asg (d := .str ⟨#[signsM.cps.toList.getD (drawM c (k + 3) 15) 0]⟩) ?_ ?_)
  · refine ev_op (y := nat (drawM c (k + 3) 15)) (ev_var rfl) ?_ (od_ixS (by rw [signsM_len, sizeLine_eq]; omega) (atI_nat ?_))
    · with_reducible apply ev_call
      · refine ea_cons (ev_var rfl) (ea_cons (x := nat (k + 3)) (ev_is (d := .int ((k : Int) + 3)) (ev_op (ev_var rfl) ev_int od_i) rfl) (ea_cons (x := .int 15) (ev_is (hlen signsM _ _ _ (ev_var rfl) (by rw [signsM_len]; omega)) (by rw [signsM_len]; rfl)) ea_nil))
      · exact R3.mk (ca := D.int) (cb := nat) (cc := D.int) (x := c) (y := k + 3) (z := 15) (show (0 : Int) < 15 by omega)
    · have e : signsM.cps.toList.length = 15 := by decide +kernel
      rw [e]
      omega
  refine w_seq (w_asg (d := nat (drawM c (k + 5) 3)) ?_ ?_)
  · with_reducible apply ev_call
    · refine ea_cons (ev_var rfl) (ea_cons (x := nat (k + 5)) (ev_is (d := .int ((k : Int) + 5)) (ev_op (ev_var rfl) ev_int od_i) rfl) (ea_cons (x := .int 3) ev_int ea_nil))
    · exact R3.mk (ca := D.int) (cb := nat) (cc := D.int) (x := c) (y := k + 5) (z := 3) (show (0 : Int) < 3 by omega)
  have h1 := cutS_length x none (some (drawM c k ((x.length : Nat) + 1) : Int))
  have h2 := cutS_length x (some (drawM c k ((x.length : Nat) + 1) : Int)) none
  have h3 := cutS_length x (some ((drawM c k ((x.length : Nat) + 1) : Int) + 1)) none
  have ez : (⟨#[signsM.cps.toList.getD (drawM c (k + 3) 15) 0]⟩ : Str).length = 1 := rfl
  have e0 : (("" : Str)).length = 0 := by decide +kernel
  have eo : otherM x c k = if drawM c (k + 5) 3 = 0 then cutS x none (some (drawM c k ((x.length : Nat) + 1) : Int)) ++ ⟨#[signsM.cps.toList.getD (drawM c (k + 3) 15) 0]⟩ ++ cutS x (some (drawM c k ((x.length : Nat) + 1) : Int)) none
      else cutS x none (some (drawM c k ((x.length : Nat) + 1) : Int)) ++ (if drawM c (k + 5) 3 = 1 then ("" : Str) else ⟨#[signsM.cps.toList.getD (drawM c (k + 3) 15) 0]⟩) ++ cutS x (some ((drawM c k ((x.length : Nat) + 1) : Int) + 1)) none := rfl
  rw [eo]
  generalize (⟨#[signsM.cps.toList.getD (drawM c (k + 3) 15) 0]⟩ : Str) = z at ez
  generalize drawM c (k + 5) 3 = wy at hw
  generalize drawM c k ((x.length : Nat) + 1) = at_ at ha h1 h2 h3
  have app : ∀ a b : Str, (a ++ b).length = a.length + b.length := fun a b => by rw [TL.len_tl, TL.tl_append, List.length_append, ← TL.len_tl, ← TL.len_tl]
  refine w_seq (w_if (b := decide (wy = 0)) ?_ (fun hb => ?_) fun hb => w_next ?_)
  · apply et_is
    · walk_at "et"
    · rw [decide_eq_decide]
      omega
  · refine w_ret (r := .dat (.str (cutS x none (some (at_ : Int)) ++ z ++ cutS x (some (at_ : Int)) none))) ?_ (by rw [if_pos (of_decide_eq_true hb)])
    refine ev_op (ev_op (ev_slS (ev_var rfl) eo_none (eo_some (ev_var rfl)) (by rw [sizeLine_eq]; omega)) (ev_var rfl) (od_addS ?_)) (ev_slS (ev_var rfl) (eo_some (ev_var rfl)) eo_none (by rw [sizeLine_eq]; omega)) (od_addS ?_)
    · rw [ez, sizeLine_eq]
      omega
    · rw [app, ez, sizeLine_eq]
      omega
  · have hb : ¬ wy = 0 := by simpa using hb
    refine w_ret (r := .dat (.str (cutS x none (some (at_ : Int)) ++ (if wy = 1 then ("" : Str) else z) ++ cutS x (some ((at_ : Int) + 1)) none))) ?_ (by rw [if_neg hb])
    have ez2 : (if wy = 1 then ("" : Str) else z).length ≤ 1 := by split <;> omega
    refine ev_op (ev_op (ev_slS (ev_var rfl) eo_none (eo_some (ev_var rfl)) (by rw [sizeLine_eq]; omega)) (ev_op (x := strL ["", z]) (y := nat (wy - 1)) ?_ ?_ (od_ixL (by omega) ?_)) (od_addS ?_)) (ev_slS (ev_var rfl) (eo_some (ev_op (ev_var rfl) ev_int od_i)) eo_none (by rw [sizeLine_eq]; omega)) (od_addS ?_)
    · apply EvR.fz
      with_reducible apply ev_lst
      · exact ea_cons ev_str (ea_cons (ev_var rfl) ea_nil)
      · walk_at "sz"
    · refine ev_is (d := .int ((wy : Int) - 1)) (ev_op (ev_var rfl) ev_int od_i) ?_
      show D.int _ = D.int _
      congr 1
      omega
    · rw [Int.toNat_natCast]
      rcases (show wy = 1 ∨ wy = 2 by omega) with rfl | rfl <;> rfl
    · rw [sizeLine_eq]
      omega
    · rw [app, sizeLine_eq]
      omega
theorem wtext_len {n : Nat} {t : List Bool} (hn : n < 6) (ht : (leastM t).length ≤ 32) (hl : ∀ g ∈ leastM t, g < 32) : (wtext n t).length ≤ 9000 := by
  unfold wtext
  rw [TL.join_eq, TL.len_tl, TL.tl_join]
  have key : ∀ (S : List Nat) (ps : List (List Nat)), S.length ≤ 1 → (∀ p ∈ ps, p.length ≤ 5) → (TL.joinL S ps).length ≤ ps.length * 6 := by
    intro S ps hS
    induction ps with
    | nil => intro _; simp [TL.joinL]
    | cons p ps ih =>
      intro h
      have h1 := h p List.mem_cons_self
      have h2 := ih fun q hq => h q (List.mem_cons_of_mem _ hq)
      cases ps with
      | nil => simp [TL.joinL]; omega
      | cons q ps =>
        simp only [TL.joinL, List.length_append, List.length_cons] at h2 ⊢
        omega
  have := key (TL.tl (" " : Str)) ((nword n :: (leastM t).map gtext).map TL.tl) (by decide +kernel) fun p hp => by
    obtain ⟨s, hs, rfl⟩ := List.mem_map.mp hp
    rw [← TL.len_tl]
    rcases List.mem_cons.mp hs with rfl | hs
    · rw [nword_len n hn]
      omega
    · obtain ⟨g, hg, rfl⟩ := List.mem_map.mp hs
      exact gtext_len g (hl g hg)
  rw [List.length_map, List.length_cons, List.length_map] at this
  omega
theorem app_len (a b : Str) : (a ++ b).length = a.length + b.length := by rw [TL.len_tl, TL.tl_append, List.length_append, ← TL.len_tl, ← TL.len_tl]
abbrev st_law : Stmt := top 32
abbrev n_law : List Str := ["_law_script", "_law_told_here", "_law_text", "_law_cell", "_law_few", "_law_other_here", "_law_thing"]
abbrev p_law : List Str := ["_law_script"]
theorem sc_law : FnScope n_law p_law (defScope st_law) := ⟨rfl, rfl, rfl, by decide +kernel, rfl, by decide +kernel, by decide +kernel⟩
theorem ok_law {f : Addr} {fd : FuncData} (F : Fun K "law" "law" st_law f fd) (T : Txt K mg C_Council C_CouncilError C_BadCouncil C_BadGroup C_NoMember C_Unlike C_BadWeights C_BadText) (g_law_told : OkD P w K mg base CX0 2 "_law_told" p_law_told (SpU K c_law_told)) (g_written : OkD P w K mg base CX0 3 "written" p_written (SpR K (c_written C_Council))) (g_Council_init : OkI P w K mg base (L2N.CX P w) 2 "Council" C_Council p_Council_init (SpI K C_Council (c8_init C_BadCouncil))) (g_law_cell_at : OkD P w K mg base CX0 1 "_law_cell_at" p_law_cell_at (SpR K c_law_cell_at)) (g_law_other : OkD P w K mg base CX0 2 "_law_other" p_law_other (SpR K c7_other)) (g_law_right : OkD P w K mg base CX0 6 "_law_right" p_law_right (SpR K c7_right)) (g_law_refused : OkD P w K mg base CX0 5 "_law_refused" p_law_refused (SpR K c7_refused)) : FnOk P w K mg base CX0 7 f fd p_law (SpR K c_law) := by
  refine F.ok sc_law (sp_len R1.len) (fun cdv A outer s H vs Q E hr h => ?_)
  have hcl_Council := T.cl_Council
  have hna_Council_members := T.na_Council_members
  have hna_Council_table := T.na_Council_table
  have hki_BT_BadCouncil := T.ki_BT_BadCouncil
  have hki_BT_BadGroup := T.ki_BT_BadGroup
  have hki_BT_NoMember := T.ki_BT_NoMember
  have hki_BT_BadWeights := T.ki_BT_BadWeights
  have hki_BT_Unlike := T.ki_BT_Unlike
  have hki_BT_BadText := T.ki_BT_BadText
  have hki_BT_VE := T.ki_BT_VE
  refine ⟨_, (pss_cons (ps_set (i := 1) sc_law.nd rfl (by first | exact Or.inl rfl | exact Or.inr rfl) (pe_callD g_law_told (hr.mono (by decide)) (by rfl) pass0 (pa_cons (pv 0) (pa_cons pe_int pa_nil))))
  (pss_cons (ps_set (i := 2) sc_law.nd rfl (by first | exact Or.inl rfl | exact Or.inr rfl) (pe_callD g_written (hr.mono (by decide)) (by rfl) pass0 (pa_cons (pe_makeD g_Council_init (hr.mono (by decide)) (by rfl) passN (pa_cons (pe_ix ix_tup (pv 1) pe_int (fun _ _ => rfl)) (pa_cons (pe_ix ix_tup (pv 1) pe_int (fun _ _ => rfl)) pa_nil))) pa_nil)))
  (pss_cons (ps_set (i := 3) sc_law.nd rfl (by first | exact Or.inl rfl | exact Or.inr rfl) (pe_callD g_law_cell_at (hr.mono (by decide)) (by rfl) pass0 (pa_cons (pv 0) (pa_cons pe_int pa_nil))))
  (pss_cons (ps_set (i := 4) sc_law.nd rfl (by first | exact Or.inl rfl | exact Or.inr rfl) (pe_lst (pa_cons pe_str (pa_cons pe_str (pa_cons pe_str (pa_cons pe_str (pa_cons pe_str (pa_cons pe_str (pa_cons pe_str (pa_cons pe_str (pa_cons pe_str (pa_cons pe_str (pa_cons pe_str (pa_cons pe_str (pa_cons pe_str (pa_cons pe_str pa_nil))))))))))))))))
  (pss_cons (ps_set (i := 4) sc_law.nd rfl (by first | exact Or.inl rfl | exact Or.inr rfl) (pe_op op_cat (pv 4) (pe_lst (pa_cons pe_str (pa_cons pe_str (pa_cons pe_str (pa_cons pe_str (pa_cons pe_str (pa_cons pe_str (pa_cons pe_str (pa_cons pe_str (pa_cons pe_str (pa_cons pe_str pa_nil)))))))))))))
  (pss_cons (ps_set (i := 4) sc_law.nd rfl (by first | exact Or.inl rfl | exact Or.inr rfl) (pe_op op_cat (pv 4) (pe_lst (pa_cons pe_str (pa_cons pe_str (pa_cons pe_str (pa_cons pe_str (pa_cons pe_str (pa_cons pe_str (pa_cons pe_str (pa_cons pe_str (pa_cons pe_str pa_nil))))))))))))
  (pss_cons (ps_set (i := 4) sc_law.nd rfl (by first | exact Or.inl rfl | exact Or.inr rfl) (pe_op op_cat (pv 4) (pe_lst (pa_cons pe_str (pa_cons (pe_op op_add_str pe_str (pe_op op_repS pe_str pe_int)) (pa_cons (pe_op op_add_str (pe_op op_repS pe_str pe_int) pe_str) (pa_cons pe_str (pa_cons pe_str (pa_cons pe_str (pa_cons pe_str (pa_cons pe_str pa_nil)))))))))))
  (pss_cons (ps_for PassesOwn.never rfl (pi_list (pe_op op_cat (pv 4) (pe_lst (pa_cons (pv 2) (pa_cons (pe_callD g_law_other (hr.mono (by decide)) (by rfl) pass0 (pa_cons (pv 2) (pa_cons (pv 3) (pa_cons pe_int pa_nil)))) (pa_cons (pe_callD g_law_other (hr.mono (by decide)) (by rfl) pass0 (pa_cons (pv 2) (pa_cons (pv 3) (pa_cons pe_int pa_nil)))) pa_nil)))))) (pg_name (i := 5) sc_law.nd rfl (by first | exact Or.inl rfl | exact Or.inr rfl))
  (pss_one (ps_if (pt_not (pt_val (pe_callD g_law_right (hr.mono (by decide)) (by rfl) pass0 (pa_cons (pv 5) pa_nil)))) (pss_one (ps_ret pe_bl)) pss_nil)))
  (pss_one (ps_ret (pe_callB (cr_all rfl) (by rfl) T.n_all (by decide +kernel) (pa_cons (pe_lc (own := [("_law_thing", 6)]) (g := gName 6) (tt := tYes) (te := (tCall (SpR K c7_refused) [] E0 (tCons (tVar 6) tNil))) (by exact rfl) sc_law.nd (pi_list (pe_lst (pa_cons pe_non (pa_cons pe_int (pa_cons (pe_lst (pa_cons pe_str pa_nil)) (pa_cons pe_bl pa_nil)))))) (blkOk_by (N := n_law) (sc := defScope st_law) (own := [("_law_thing", 6)]) (by decide +kernel)) (fun _ _ _ _ _ => (pg_name (i := 6) sc_law.nd rfl (by first | exact Or.inl rfl | exact Or.inr rfl))) (fun _ _ _ _ _ => pts_nil) (fun _ _ _ _ _ => (pe_callD g_law_refused (hr.mono (by decide)) (by rfl) pass0 (pa_cons (pv 6) pa_nil)))) pa_nil)))))))))))), go_of ?_ h⟩
  try dsimp only [L2.cxOf, L2.Cx.nox, L2.Cx.wish, L2.Cx.blk]
  rintro ds r ⟨ns, rfl, -, rfl⟩
  show W K E _ [.fz (.scr ns), .un, .un, .un, .un, .un, .un] _
  refine w_seq (w_asgU (F := fun d => ∃ m gs, d = .tup [nat m, natL gs] ∧ ToldOk m gs) ?_ ?_)
  · with_reducible apply ev_callU
    · walk_at "ea"
    · exact ⟨ns, 0, rfl, by decide, rfl⟩
  rintro d ⟨m, gs, rfl, h1, h5, hl, hg⟩
  have hp := pow_le m h5
  have ht := tab_len m gs
  refine w_seq (w_asg (d := .str (wtext m (tab m gs))) ?_ ?_)
  · with_reducible apply ev_call
    · refine ea_cons (x := cou C_Council m (tab m gs)) ?_ ea_nil
      apply EvR.ofF
      with_reducible apply ev_make
      · walk_at "ea"
      · exact .inl (c_Council_init.mk h1 h5 (by omega) hg)
    · exact RC1.mk ⟨⟨h1, h5⟩, ht⟩
  have hwl : (wtext m (tab m gs)).length ≤ 9000 := wtext_len (by omega) (leastM_len (by omega)) (least_lt h5 ht)
  generalize wtext m (tab m gs) = x at hwl
  refine w_seq (w_asg (d := .int (ns.getD 2 0)) (by walk_at "ev") ?_)
  generalize ns.getD 2 0 = c
  have hz : ∀ z : Str, z.length = 1 → (repT z 4000).length = 4000 := fun z h => by rw [repT_len, h]
  refine w_seq (w_asgS ?_ (n := 14) (by omega) fun z1 b1 n1 => ?_)
  · repeat (first | exact es_nil | refine es_cons ev_str (by decide +kernel) ?_)
  refine w_seq (w_asgS2 rfl ?_ (n := 10) (by omega) (by omega) fun z2 b2 n2 => ?_)
  · repeat (first | exact es_nil | refine es_cons ev_str (by decide +kernel) ?_)
  refine w_seq (w_asgS2 rfl ?_ (n := 9) (by omega) (by rw [List.length_append]; omega) fun z3 b3 n3 => ?_)
  · repeat (first | exact es_nil | refine es_cons ev_str (by decide +kernel) ?_)
  refine w_seq (w_asgS2 rfl ?_ (n := 8) (by omega) (by rw [List.length_append, List.length_append]; omega) fun z4 b4 n4 => ?_)
  · have hk : ∀ sl : List Sl, ∀ E, EvR K E (tC (.int 4000)) sl (.dat (nat 4000)) := fun sl E => ev_is (d := .int 4000) ev_int rfl
    refine es_cons ev_str (by decide +kernel) (es_cons (ev_op ev_str (ev_op ev_str (hk _ _) (od_repS (by decide +kernel) (by omega) (by decide +kernel))) (od_addS ?_)) ?_ (es_cons (ev_op (ev_op ev_str (hk _ _) (od_repS (by decide +kernel) (by omega) (by decide +kernel))) ev_str (od_addS ?_)) ?_ ?_))
    · rw [hz _ (by decide +kernel), sizeLine_eq]
      decide +kernel
    · rw [app_len, hz _ (by decide +kernel)]
      decide +kernel
    · rw [hz _ (by decide +kernel), sizeLine_eq]
      decide +kernel
    · rw [app_len, hz _ (by decide +kernel)]
      decide +kernel
    · repeat (first | exact es_nil | refine es_cons ev_str (by decide +kernel) ?_)
  have hfl : ∀ z ∈ ((z1 ++ z2) ++ z3) ++ z4, z.length ≤ 20000 := fun z hz => by
    simp only [List.mem_append] at hz
    rcases hz with ((hz | hz) | hz) | hz
    · exact b1 z hz
    · exact b2 z hz
    · exact b3 z hz
    · exact b4 z hz
  have hfn : (((z1 ++ z2) ++ z3) ++ z4).length ≤ 41 := by
    simp only [List.length_append]
    omega
  generalize ((z1 ++ z2) ++ z3) ++ z4 = few at hfl hfn
  have ho0 : c7_other [.str x, .int c, .int 0] (.dat (.str (otherM x c 0))) := ⟨x, c, 0, rfl, hwl, rfl⟩
  have ho1 : c7_other [.str x, .int c, .int 1] (.dat (.str (otherM x c 1))) := ⟨x, c, 1, rfl, hwl, rfl⟩
  have l0 := otherM_len x c 0
  have l1 := otherM_len x c 1
  have hall : ∀ z ∈ few ++ [x, otherM x c 0, otherM x c 1], z.length ≤ 20000 := fun z hz => by
    rcases List.mem_append.mp hz with hz | hz
    · exact hfl z hz
    · simp only [List.mem_cons, List.not_mem_nil, or_false] at hz
      rcases hz with rfl | rfl | rfl <;> omega
  refine w_seq (w_forEach (xs := (few ++ [x, otherM x c 0, otherM x c 1]).map .str) [.fz (.scr ns), .fz (.tup [nat m, natL gs]), .fz (.str x), .fz (.int c), .fz (strL few), .un, .un] ?_ (Fgt.refl _) (fun d hd => ?_) fun s hs => ?_)
  · with_reducible apply it_list
    apply EvR.fz
    refine ev_op (y := strL [x, otherM x c 0, otherM x c 1]) (ev_var rfl) ?_ (od_catS (by rw [sizeLine_eq]; show _ + 3 ≤ _; omega))
    apply EvR.fz
    with_reducible apply ev_lst
    · exact ea_cons (ev_var rfl) (ea_cons (ev_call (ea_cons (ev_var rfl) (ea_cons (ev_var rfl) (ea_cons ev_int ea_nil))) ho0) (ea_cons (ev_call (ea_cons (ev_var rfl) (ea_cons (ev_var rfl) (ea_cons ev_int ea_nil))) ho1) ea_nil))
    · rw [sizeLine_eq]; show 3 ≤ _; omega
  · obtain ⟨z, hz, rfl⟩ := List.mem_map.mp hd
    have hq : c7_right [.str z] (.dat (.bl true)) := ⟨z, rfl, hall z hz, rfl⟩
    refine w_ifF (et_is (a := !true) (et_not (et_B (ev_call (ea_cons (ev_var rfl) ea_nil) hq))) rfl) (w_next ?_)
    exact .keep (.keep (.keep (.keep (.keep (.drop (.keep .nil))))))
  · refine w_fgt hs (w_ret (r := .dat (.bl true)) ?_ rfl)
    have hq : ∀ d ∈ ([.non, .int 3, .lst [.str "3:"], .bl true] : List D), c7_refused [d] (.dat (.bl true)) := fun d hd => by
      simp only [List.mem_cons, List.not_mem_nil, or_false] at hd
      rcases hd with rfl | rfl | rfl | rfl
      · exact .inr ⟨_, _, rfl, .non, by decide +kernel, rfl⟩
      · exact .inr ⟨_, _, rfl, .int _, by decide +kernel, rfl⟩
      · exact .inr ⟨_, _, rfl, .lst _, by decide +kernel, rfl⟩
      · exact .inr ⟨_, _, rfl, .bl _, by decide +kernel, rfl⟩
    refine ev_is (d := .bl (([.non, .int 3, .lst [.str "3:"], .bl true] : List D).all fun _ => true)) ?_ rfl
    with_reducible apply ev_cb
    · refine ea_cons (x := .lst (([.non, .int 3, .lst [.str "3:"], .bl true] : List D).map fun _ => .bl true)) ?_ ea_nil
      apply EvR.fz
      with_reducible apply ev_lcM (ys := ([.non, .int 3, .lst [.str "3:"], .bl true] : List D)) (c := fun d => d) (v := fun _ => .bl true)
      · rw [List.map_id']
        with_reducible apply it_list
        apply EvR.fz
        with_reducible apply ev_lst
        · exact ea_cons ev_non (ea_cons ev_int (ea_cons (EvR.fz (ev_lst (ea_cons ev_str ea_nil) (by rw [sizeLine_eq]; decide))) (ea_cons ev_bl ea_nil)))
        · rw [sizeLine_eq]; decide
      · decide
      · decide
      · intro d hd
        exact ev_call (ea_cons (ev_var rfl) ea_nil) (hq d hd)
    · exact cb_allM
end
theorem txt_mk {K : PySem.W.Frag} {mg : Str → Option Value} {h : Heap} {C_Council C_CouncilError C_BadCouncil C_BadGroup C_NoMember C_Unlike C_BadWeights C_BadText : Addr} {t_MOST t_FIGURES : Tok} (X : K.In h) (G : h.Ns mainGlobals mg)
    (n_all : PySem.W.nsIn K mainGlobals "all" = some none)
    (n_any : PySem.W.nsIn K mainGlobals "any" = some none)
    (n_bool : PySem.W.nsIn K mainGlobals "bool" = some none)
    (n_int : PySem.W.nsIn K mainGlobals "int" = some none)
    (n_isinstance : PySem.W.nsIn K mainGlobals "isinstance" = some none)
    (n_len : PySem.W.nsIn K mainGlobals "len" = some none)
    (n_list : PySem.W.nsIn K mainGlobals "list" = some none)
    (n_range : PySem.W.nsIn K mainGlobals "range" = some none)
    (n_set : PySem.W.nsIn K mainGlobals "set" = some none)
    (n_sorted : PySem.W.nsIn K mainGlobals "sorted" = some none)
    (n_str : PySem.W.nsIn K mainGlobals "str" = some none)
    (n_sum : PySem.W.nsIn K mainGlobals "sum" = some none)
    (n_ValueError : PySem.W.nsIn K mainGlobals "ValueError" = some none)
    (c_MOST : PySem.W.nsIn K mainGlobals "MOST" = some (some (.int 5 t_MOST)))
    (c_FIGURES : PySem.W.nsIn K mainGlobals "FIGURES" = some (some (.str "01234" t_FIGURES)))
    (g_Council : PySem.W.nsIn K mainGlobals "Council" = some (some (.ref C_Council)))
    (pg_Council : PySem.W.plainGet K C_Council Str.empty = true)
    (hd_Council : PySem.W.hasDictIn K C_Council = true)
    (po_Council : PySem.W.plainOver K C_Council = true)
    (sa_Council : PySem.W.findIn K (.ref C_Council) "__setattr__" = some (some (.builtin "object.__setattr__")))
    (na_Council_members : PySem.W.findIn K (.ref C_Council) "members" = some none)
    (na_Council_table : PySem.W.findIn K (.ref C_Council) "table" = some none)
    (xg_CouncilError : PySem.W.nsIn K mainGlobals "CouncilError" = some (some (.ref C_CouncilError)))
    (xq_CouncilError : PySem.W.excIn K C_CouncilError [.type "ValueError", .type "Exception", .type "BaseException", .type "object"] "ValueError.__new__" = true)
    (xk_CouncilError : PySem.W.keepIn K (.ref C_CouncilError) = true)
    (xs_CouncilError : PySem.W.subIn K (.ref C_CouncilError) (.type "BaseException") = some true)
    (xt_CouncilError : PySem.W.typeIn K (.ref C_CouncilError) = some (.type "type"))
    (xg_BadCouncil : PySem.W.nsIn K mainGlobals "BadCouncil" = some (some (.ref C_BadCouncil)))
    (xq_BadCouncil : PySem.W.excIn K C_BadCouncil [.type "ValueError", .type "Exception", .type "BaseException", .type "object"] "ValueError.__new__" = true)
    (xk_BadCouncil : PySem.W.keepIn K (.ref C_BadCouncil) = true)
    (xs_BadCouncil : PySem.W.subIn K (.ref C_BadCouncil) (.type "BaseException") = some true)
    (xt_BadCouncil : PySem.W.typeIn K (.ref C_BadCouncil) = some (.type "type"))
    (xg_BadGroup : PySem.W.nsIn K mainGlobals "BadGroup" = some (some (.ref C_BadGroup)))
    (xq_BadGroup : PySem.W.excIn K C_BadGroup [.type "ValueError", .type "Exception", .type "BaseException", .type "object"] "ValueError.__new__" = true)
    (xk_BadGroup : PySem.W.keepIn K (.ref C_BadGroup) = true)
    (xs_BadGroup : PySem.W.subIn K (.ref C_BadGroup) (.type "BaseException") = some true)
    (xt_BadGroup : PySem.W.typeIn K (.ref C_BadGroup) = some (.type "type"))
    (xg_NoMember : PySem.W.nsIn K mainGlobals "NoMember" = some (some (.ref C_NoMember)))
    (xq_NoMember : PySem.W.excIn K C_NoMember [.type "ValueError", .type "Exception", .type "BaseException", .type "object"] "ValueError.__new__" = true)
    (xk_NoMember : PySem.W.keepIn K (.ref C_NoMember) = true)
    (xs_NoMember : PySem.W.subIn K (.ref C_NoMember) (.type "BaseException") = some true)
    (xt_NoMember : PySem.W.typeIn K (.ref C_NoMember) = some (.type "type"))
    (xg_Unlike : PySem.W.nsIn K mainGlobals "Unlike" = some (some (.ref C_Unlike)))
    (xq_Unlike : PySem.W.excIn K C_Unlike [.type "ValueError", .type "Exception", .type "BaseException", .type "object"] "ValueError.__new__" = true)
    (xk_Unlike : PySem.W.keepIn K (.ref C_Unlike) = true)
    (xs_Unlike : PySem.W.subIn K (.ref C_Unlike) (.type "BaseException") = some true)
    (xt_Unlike : PySem.W.typeIn K (.ref C_Unlike) = some (.type "type"))
    (xg_BadWeights : PySem.W.nsIn K mainGlobals "BadWeights" = some (some (.ref C_BadWeights)))
    (xq_BadWeights : PySem.W.excIn K C_BadWeights [.type "ValueError", .type "Exception", .type "BaseException", .type "object"] "ValueError.__new__" = true)
    (xk_BadWeights : PySem.W.keepIn K (.ref C_BadWeights) = true)
    (xs_BadWeights : PySem.W.subIn K (.ref C_BadWeights) (.type "BaseException") = some true)
    (xt_BadWeights : PySem.W.typeIn K (.ref C_BadWeights) = some (.type "type"))
    (xg_BadText : PySem.W.nsIn K mainGlobals "BadText" = some (some (.ref C_BadText)))
    (xq_BadText : PySem.W.excIn K C_BadText [.type "ValueError", .type "Exception", .type "BaseException", .type "object"] "ValueError.__new__" = true)
    (xk_BadText : PySem.W.keepIn K (.ref C_BadText) = true)
    (xs_BadText : PySem.W.subIn K (.ref C_BadText) (.type "BaseException") = some true)
    (xt_BadText : PySem.W.typeIn K (.ref C_BadText) = some (.type "type"))
    (yg_BadText : PySem.W.findIn K (.ref C_BadText) "__getattribute__" = some (some (.builtin "BaseException.__getattribute__")))
    (yk_BadText : PySem.W.findIn K (.ref C_BadText) "__getattr__" = some none)
    (yd_BadText : PySem.W.hasDictIn K C_BadText = true)
    (ya_BadText : PySem.W.findIn K (.ref C_BadText) "__class__" = some (some (.builtin "object.__class__")))
    (yn_BadText : PySem.W.specialIn K (.builtin "object.__class__") "__get__" = some (some (.builtin "getset_descriptor.__get__")))
    (yt_BadText : PySem.W.takesIn K (.builtin "object.__class__") = some true)
    (ym_BadText : PySem.W.mroIn K C_BadText (.type "object") = some true)
    (zh_BadCouncil : PySem.W.hasDictIn K C_BadCouncil = true)
    (zh_CouncilError : PySem.W.hasDictIn K C_CouncilError = true)
    (zs_BadText : PySem.W.subIn K (.ref C_BadText) (.ref C_CouncilError) = some true)
    (zs_BadCouncil : PySem.W.subIn K (.ref C_BadCouncil) (.ref C_BadCouncil) = some true)
    (zn_BadText : PySem.W.subIn K (.ref C_BadText) (.ref C_BadCouncil) = some false)
    (ki_BT_BadCouncil : PySem.W.kitOne K (.ref C_BadText) (.ref C_BadCouncil) = some false)
    (ki_BT_BadGroup : PySem.W.kitOne K (.ref C_BadText) (.ref C_BadGroup) = some false)
    (ki_BT_NoMember : PySem.W.kitOne K (.ref C_BadText) (.ref C_NoMember) = some false)
    (ki_BT_BadWeights : PySem.W.kitOne K (.ref C_BadText) (.ref C_BadWeights) = some false)
    (ki_BT_Unlike : PySem.W.kitOne K (.ref C_BadText) (.ref C_Unlike) = some false)
    (ki_BT_BadText : PySem.W.kitOne K (.ref C_BadText) (.ref C_BadText) = some true)
    (ki_BT_VE : PySem.W.kitOne K (.ref C_BadText) (.type "ValueError") = some true) : Txt K mg C_Council C_CouncilError C_BadCouncil C_BadGroup C_NoMember C_Unlike C_BadWeights C_BadText :=
  ⟨PySem.W.mg_none_of X G n_all, PySem.W.mg_none_of X G n_any, PySem.W.mg_none_of X G n_bool, PySem.W.mg_none_of X G n_int, PySem.W.mg_none_of X G n_isinstance, PySem.W.mg_none_of X G n_len, PySem.W.mg_none_of X G n_list, PySem.W.mg_none_of X G n_range, PySem.W.mg_none_of X G n_set, PySem.W.mg_none_of X G n_sorted, PySem.W.mg_none_of X G n_str, PySem.W.mg_none_of X G n_sum, PySem.W.mg_none_of X G n_ValueError, ⟨t_MOST, PySem.W.mg_of X G c_MOST⟩, ⟨t_FIGURES, PySem.W.mg_of X G c_FIGURES⟩, PySem.W.mg_of X G g_Council, ⟨pg_Council, hd_Council, po_Council, sa_Council⟩, na_Council_members, na_Council_table, ⟨PySem.W.mg_of X G xg_CouncilError, xq_CouncilError, xk_CouncilError, xs_CouncilError, xt_CouncilError⟩, ⟨PySem.W.mg_of X G xg_BadCouncil, xq_BadCouncil, xk_BadCouncil, xs_BadCouncil, xt_BadCouncil⟩, ⟨PySem.W.mg_of X G xg_BadGroup, xq_BadGroup, xk_BadGroup, xs_BadGroup, xt_BadGroup⟩, ⟨PySem.W.mg_of X G xg_NoMember, xq_NoMember, xk_NoMember, xs_NoMember, xt_NoMember⟩, ⟨PySem.W.mg_of X G xg_Unlike, xq_Unlike, xk_Unlike, xs_Unlike, xt_Unlike⟩, ⟨PySem.W.mg_of X G xg_BadWeights, xq_BadWeights, xk_BadWeights, xs_BadWeights, xt_BadWeights⟩, ⟨PySem.W.mg_of X G xg_BadText, xq_BadText, xk_BadText, xs_BadText, xt_BadText⟩, ⟨yg_BadText, yk_BadText, xs_BadText, yd_BadText, ya_BadText, yn_BadText, yt_BadText, ym_BadText⟩, PySem.W.exm_ref xs_CouncilError zh_CouncilError xt_CouncilError zs_BadText, PySem.W.exm_ref xs_BadCouncil zh_BadCouncil xt_BadCouncil zs_BadCouncil, PySem.W.exm_ref xs_BadCouncil zh_BadCouncil xt_BadCouncil zn_BadText, ki_BT_BadCouncil, ki_BT_BadGroup, ki_BT_NoMember, ki_BT_BadWeights, ki_BT_Unlike, ki_BT_BadText, ki_BT_VE⟩
theorem all_ok {l : PySem.W.OpenLaw} {w : World} {K : PySem.W.Frag} {mg : Str → Option Value} {fa : Addr} {C_Council C_CouncilError C_BadCouncil C_BadGroup C_NoMember C_Unlike C_BadWeights C_BadText : Addr} (T : Txt K mg C_Council C_CouncilError C_BadCouncil C_BadGroup C_NoMember C_Unlike C_BadWeights C_BadText) (hfa : mg "law" = some (.ref fa))
    (h_law_cell_at : FnAt K mg "_law_cell_at" st_law_cell_at p_law_cell_at)
    (h_law_draw : FnAt K mg "_law_draw" st_law_draw p_law_draw)
    (h_law_told : FnAt K mg "_law_told" st_law_told p_law_told)
    (h_without_one : FnAt K mg "without_one" st_without_one p_without_one)
    (h_Council_least : MtAt K C_Council "least" "Council.least" st_Council_least p_Council_least)
    (h_group_text : FnAt K mg "group_text" st_group_text p_group_text)
    (h_written : FnAt K mg "written" st_written p_written)
    (h_within : FnAt K mg "within" st_within p_within)
    (h_holds_all : FnAt K mg "holds_all" st_holds_all p_holds_all)
    (h_Council_init : MkAt K mg "Council" C_Council "Council.__init__" st_Council_init p_Council_init)
    (h_law_other : FnAt K mg "_law_other" st_law_other p_law_other)
    (h_law_group_in : FnAt K mg "_law_group_in" st_law_group_in p_law_group_in)
    (h_law_in : FnAt K mg "_law_in" st_law_in p_law_in)
    (h_group_in : FnAt K mg "group_in" st_group_in p_group_in)
    (h_read : FnAt K mg "read" st_read p_read)
    (h_law_refused : FnAt K mg "_law_refused" st_law_refused p_law_refused)
    (h_Council_carries : MtAt K C_Council "carries" "Council.carries" st_Council_carries p_Council_carries)
    (h_law_table : FnAt K mg "_law_table" st_law_table p_law_table)
    (h_law_right : FnAt K mg "_law_right" st_law_right p_law_right)
    (h_law : LawAt K mg st_law) :
    ∃ fd : FuncData, (∀ (s : Shared) (v : Value), BindsTo s fd ⟨[v], []⟩ [("_law_script", v)]) ∧ ∀ base : Heap, K.In base → base.Ns mainGlobals mg → FnOk l.prog w K mg base CX0 7 fa fd ["_law_script"] (SpR K c_law) := by
  obtain ⟨f, fd, e, F, hb⟩ := h_law
  have e2 := hfa.symm.trans e
  cases e2
  refine ⟨fd, fun s v => .of_eq (hb v), fun base _ _ => ?_⟩
  have g_law_cell_at : OkD l.prog w K mg base CX0 1 "_law_cell_at" p_law_cell_at (SpR K c_law_cell_at) := okD h_law_cell_at fun f fd F => ok_law_cell_at F T
  have g_law_draw : OkD l.prog w K mg base CX0 1 "_law_draw" p_law_draw (SpR K c_law_draw) := okD h_law_draw fun f fd F => ok_law_draw F T
  have g_law_told : OkD l.prog w K mg base CX0 2 "_law_told" p_law_told (SpU K c_law_told) := okD h_law_told fun f fd F => ok_law_told F T g_law_cell_at g_law_draw
  have g_without_one : OkD l.prog w K mg base CX0 1 "without_one" p_without_one (SpR K c_without_one) := okD h_without_one fun f fd F => ok_without_one F T
  have g_Council_least : OkM l.prog w K mg base CX0 2 C_Council "least" p_Council_least (SpR K (c_Council_least C_Council)) := okM h_Council_least fun f fd F => ok_Council_least F T g_without_one
  have g_group_text : OkD l.prog w K mg base CX0 1 "group_text" p_group_text (SpR K c_group_text) := okD h_group_text fun f fd F => ok_group_text F T
  have g_written : OkD l.prog w K mg base CX0 3 "written" p_written (SpR K (c_written C_Council)) := okD h_written fun f fd F => ok_written F T g_Council_least g_group_text
  have g_within : OkD l.prog w K mg base CX0 1 "within" p_within (SpR K c_within) := okD h_within fun f fd F => ok_within F T
  have g_holds_all : OkD l.prog w K mg base CX0 1 "holds_all" p_holds_all (SpR K c_holds_all) := okD h_holds_all fun f fd F => ok_holds_all F T
  have g_Council_init : OkI l.prog w K mg base (L2N.CX l.prog w) 2 "Council" C_Council p_Council_init (SpI K C_Council (c8_init C_BadCouncil)) := okI h_Council_init fun f fd F => ok_Council_init F T g_within g_holds_all
  have g_law_other : OkD l.prog w K mg base CX0 2 "_law_other" p_law_other (SpR K c7_other) := okD h_law_other fun f fd F => ok_law_other F T g_law_draw
  have g_law_group_in : OkD l.prog w K mg base CX0 1 "_law_group_in" p_law_group_in (SpR K c7_lgin) := okD h_law_group_in fun f fd F => ok_law_group_in F T
  have g_law_in : OkD l.prog w K mg base CX0 2 "_law_in" p_law_in (SpR K c7_lin) := okD h_law_in fun f fd F => ok_law_in F T g_law_group_in
  have g_group_in : OkD l.prog w K mg base (L2N.CX l.prog w) 1 "group_in" p_group_in (SpR K (c7_group_in C_BadText)) := okD h_group_in fun f fd F => ok_group_in F T
  have g_read : OkD l.prog w K mg base (L3.CX3 l.prog w) 4 "read" p_read (SpR K (c7_read C_Council C_BadText)) := okD h_read fun f fd F => ok_read F T g_Council_init g_group_in g_written
  have g_law_refused : OkD l.prog w K mg base CX0 5 "_law_refused" p_law_refused (SpR K c7_refused) := okD h_law_refused fun f fd F => ok_law_refused F T g_read
  have g_Council_carries : OkM l.prog w K mg base CX0 2 C_Council "carries" p_Council_carries (SpR K (c_Council_carries C_Council)) := okM h_Council_carries fun f fd F => ok_Council_carries F T g_within
  have g_law_table : OkD l.prog w K mg base CX0 1 "_law_table" p_law_table (SpR K c_law_table) := okD h_law_table fun f fd F => ok_law_table F T
  have g_law_right : OkD l.prog w K mg base CX0 6 "_law_right" p_law_right (SpR K c7_right) := okD h_law_right fun f fd F => ok_law_right F T g_law_in g_law_refused g_read g_Council_least g_Council_carries g_law_table
  exact ok_law F T g_law_told g_written g_Council_init g_law_cell_at g_law_other g_law_right g_law_refused
end Wv

open PySem PySem.W PyProof.Rows in
set_option maxRecDepth 100000 in
set_option maxHeartbeats 0 in
theorem PySem.Challenge.cw_weighvote_k07_texts_misread_holds : PySem.Challenge.rw_weighvote_k07_texts_misread.Holds := by
  w_on; o_law; k_head; (case hw => w_witness2)
  k_fill
  refine Wv.walk (l := PySem.Challenge.rw_weighvote_k07_texts_misread) (k := 7) rfl rfl ⟨rfl, by decide, by decide⟩ (fun w h Y => PySem.W.kIn_of Y) ?F
  case F =>
    intro w mg fa h KX G hmg
    refine' Wv.all_ok (l := PySem.Challenge.rw_weighvote_k07_texts_misread) ?T hmg ?h_law_cell_at ?h_law_draw ?h_law_told ?h_without_one ?h_Council_least ?h_group_text ?h_written ?h_within ?h_holds_all ?h_Council_init ?h_law_other ?h_law_group_in ?h_law_in ?h_group_in ?h_read ?h_law_refused ?h_Council_carries ?h_law_table ?h_law_right ?h_law
    case T =>
      refine' Wv.txt_mk KX G ?n_all ?n_any ?n_bool ?n_int ?n_isinstance ?n_len ?n_list ?n_range ?n_set ?n_sorted ?n_str ?n_sum ?n_ValueError ?c_MOST ?c_FIGURES ?g_Council ?pg_Council ?hd_Council ?po_Council ?sa_Council ?na_Council_members ?na_Council_table ?xg_CouncilError ?xq_CouncilError ?xk_CouncilError ?xs_CouncilError ?xt_CouncilError ?xg_BadCouncil ?xq_BadCouncil ?xk_BadCouncil ?xs_BadCouncil ?xt_BadCouncil ?xg_BadGroup ?xq_BadGroup ?xk_BadGroup ?xs_BadGroup ?xt_BadGroup ?xg_NoMember ?xq_NoMember ?xk_NoMember ?xs_NoMember ?xt_NoMember ?xg_Unlike ?xq_Unlike ?xk_Unlike ?xs_Unlike ?xt_Unlike ?xg_BadWeights ?xq_BadWeights ?xk_BadWeights ?xs_BadWeights ?xt_BadWeights ?xg_BadText ?xq_BadText ?xk_BadText ?xs_BadText ?xt_BadText ?yg_BadText ?yk_BadText ?yd_BadText ?ya_BadText ?yn_BadText ?yt_BadText ?ym_BadText ?zh_BadCouncil ?zh_CouncilError ?zs_BadText ?zs_BadCouncil ?zn_BadText ?ki_BT_BadCouncil ?ki_BT_BadGroup ?ki_BT_NoMember ?ki_BT_BadWeights ?ki_BT_Unlike ?ki_BT_BadText ?ki_BT_VE
      (case n_all => k_is)
      (case n_any => k_is)
      (case n_bool => k_is)
      (case n_int => k_is)
      (case n_isinstance => k_is)
      (case n_len => k_is)
      (case n_list => k_is)
      (case n_range => k_is)
      (case n_set => k_is)
      (case n_sorted => k_is)
      (case n_str => k_is)
      (case n_sum => k_is)
      (case n_ValueError => k_is)
      (case c_MOST => k_is)
      (case c_FIGURES => k_is)
      (case g_Council => k_is)
      (case pg_Council => k_is)
      (case hd_Council => k_is)
      (case po_Council => k_is)
      (case sa_Council => k_is)
      (case na_Council_members => k_is)
      (case na_Council_table => k_is)
      (case xg_CouncilError => k_is)
      (case xq_CouncilError => k_exc)
      (case xk_CouncilError => k_is)
      (case xs_CouncilError => k_is)
      (case xt_CouncilError => k_is)
      (case xg_BadCouncil => k_is)
      (case xq_BadCouncil => k_exc)
      (case xk_BadCouncil => k_is)
      (case xs_BadCouncil => k_is)
      (case xt_BadCouncil => k_is)
      (case xg_BadGroup => k_is)
      (case xq_BadGroup => k_exc)
      (case xk_BadGroup => k_is)
      (case xs_BadGroup => k_is)
      (case xt_BadGroup => k_is)
      (case xg_NoMember => k_is)
      (case xq_NoMember => k_exc)
      (case xk_NoMember => k_is)
      (case xs_NoMember => k_is)
      (case xt_NoMember => k_is)
      (case xg_Unlike => k_is)
      (case xq_Unlike => k_exc)
      (case xk_Unlike => k_is)
      (case xs_Unlike => k_is)
      (case xt_Unlike => k_is)
      (case xg_BadWeights => k_is)
      (case xq_BadWeights => k_exc)
      (case xk_BadWeights => k_is)
      (case xs_BadWeights => k_is)
      (case xt_BadWeights => k_is)
      (case xg_BadText => k_is)
      (case xq_BadText => k_exc)
      (case xk_BadText => k_is)
      (case xs_BadText => k_is)
      (case xt_BadText => k_is)
      (case yg_BadText => k_is)
      (case yk_BadText => k_is)
      (case yd_BadText => k_is)
      (case ya_BadText => k_is)
      (case yn_BadText => k_is)
      (case yt_BadText => k_is)
      (case ym_BadText => k_is)
      (case zh_BadCouncil => k_is)
      (case zh_CouncilError => k_is)
      (case zs_BadText => k_is)
      (case zs_BadCouncil => k_is)
      (case zn_BadText => k_is)
      (case ki_BT_BadCouncil => kit_is)
      (case ki_BT_BadGroup => kit_is)
      (case ki_BT_NoMember => kit_is)
      (case ki_BT_BadWeights => kit_is)
      (case ki_BT_Unlike => kit_is)
      (case ki_BT_BadText => kit_is)
      (case ki_BT_VE => kit_is)
    case h_law_cell_at =>
      refine' Wv.fnAt_mk KX G ?a ?l ?c ?k ?b
      (case a => k_is)
      (case l => k_is)
      (case c => k_is)
      (case k => k_is)
      (case b => exact fun _ _ _ _ _ _ us hl => match us, hl with | [_, _], _ => rfl)
    case h_law_draw =>
      refine' Wv.fnAt_mk KX G ?a ?l ?c ?k ?b
      (case a => k_is)
      (case l => k_is)
      (case c => k_is)
      (case k => k_is)
      (case b => exact fun _ _ _ _ _ _ us hl => match us, hl with | [_, _, _], _ => rfl)
    case h_law_told =>
      refine' Wv.fnAt_mk KX G ?a ?l ?c ?k ?b
      (case a => k_is)
      (case l => k_is)
      (case c => k_is)
      (case k => k_is)
      (case b => exact fun _ _ _ _ _ _ us hl => match us, hl with | [_, _], _ => rfl)
    case h_without_one =>
      refine' Wv.fnAt_mk KX G ?a ?l ?c ?k ?b
      (case a => k_is)
      (case l => k_is)
      (case c => k_is)
      (case k => k_is)
      (case b => exact fun _ _ _ _ _ _ us hl => match us, hl with | [_], _ => rfl)
    case h_Council_least =>
      refine' Wv.mtAt_mk ?a ?i ?l ?c ?k ?b
      (case a => k_is)
      (case i => k_is)
      (case l => k_is)
      (case c => k_is)
      (case k => k_is)
      (case b => exact fun _ _ _ _ _ _ us hl => match us, hl with | [_], _ => rfl)
    case h_group_text =>
      refine' Wv.fnAt_mk KX G ?a ?l ?c ?k ?b
      (case a => k_is)
      (case l => k_is)
      (case c => k_is)
      (case k => k_is)
      (case b => exact fun _ _ _ _ _ _ us hl => match us, hl with | [_], _ => rfl)
    case h_written =>
      refine' Wv.fnAt_mk KX G ?a ?l ?c ?k ?b
      (case a => k_is)
      (case l => k_is)
      (case c => k_is)
      (case k => k_is)
      (case b => exact fun _ _ _ _ _ _ us hl => match us, hl with | [_], _ => rfl)
    case h_within =>
      refine' Wv.fnAt_mk KX G ?a ?l ?c ?k ?b
      (case a => k_is)
      (case l => k_is)
      (case c => k_is)
      (case k => k_is)
      (case b => exact fun _ _ _ _ _ _ us hl => match us, hl with | [_, _, _], _ => rfl)
    case h_holds_all =>
      refine' Wv.fnAt_mk KX G ?a ?l ?c ?k ?b
      (case a => k_is)
      (case l => k_is)
      (case c => k_is)
      (case k => k_is)
      (case b => exact fun _ _ _ _ _ _ us hl => match us, hl with | [_, _], _ => rfl)
    case h_Council_init =>
      refine' Wv.mkAt_mk (PySem.W.mg_of KX G ?g) ?m ?a ?i ?kc ?l ?c ?k ?b
      (case g => k_is)
      (case m => k_is)
      (case a => k_is)
      (case i => k_is)
      (case kc => k_is)
      (case l => k_is)
      (case c => k_is)
      (case k => k_is)
      (case b => exact fun _ _ _ _ _ _ us hl => match us, hl with | [_, _, _], _ => rfl)
    case h_law_other =>
      refine' Wv.fnAt_mk KX G ?a ?l ?c ?k ?b
      (case a => k_is)
      (case l => k_is)
      (case c => k_is)
      (case k => k_is)
      (case b => exact fun _ _ _ _ _ _ us hl => match us, hl with | [_, _, _], _ => rfl)
    case h_law_group_in =>
      refine' Wv.fnAt_mk KX G ?a ?l ?c ?k ?b
      (case a => k_is)
      (case l => k_is)
      (case c => k_is)
      (case k => k_is)
      (case b => exact fun _ _ _ _ _ _ us hl => match us, hl with | [_, _], _ => rfl)
    case h_law_in =>
      refine' Wv.fnAt_mk KX G ?a ?l ?c ?k ?b
      (case a => k_is)
      (case l => k_is)
      (case c => k_is)
      (case k => k_is)
      (case b => exact fun _ _ _ _ _ _ us hl => match us, hl with | [_], _ => rfl)
    case h_group_in =>
      refine' Wv.fnAt_mk KX G ?a ?l ?c ?k ?b
      (case a => k_is)
      (case l => k_is)
      (case c => k_is)
      (case k => k_is)
      (case b => exact fun _ _ _ _ _ _ us hl => match us, hl with | [_], _ => rfl)
    case h_read =>
      refine' Wv.fnAt_mk KX G ?a ?l ?c ?k ?b
      (case a => k_is)
      (case l => k_is)
      (case c => k_is)
      (case k => k_is)
      (case b => exact fun _ _ _ _ _ _ us hl => match us, hl with | [_], _ => rfl)
    case h_law_refused =>
      refine' Wv.fnAt_mk KX G ?a ?l ?c ?k ?b
      (case a => k_is)
      (case l => k_is)
      (case c => k_is)
      (case k => k_is)
      (case b => exact fun _ _ _ _ _ _ us hl => match us, hl with | [_], _ => rfl)
    case h_Council_carries =>
      refine' Wv.mtAt_mk ?a ?i ?l ?c ?k ?b
      (case a => k_is)
      (case i => k_is)
      (case l => k_is)
      (case c => k_is)
      (case k => k_is)
      (case b => exact fun _ _ _ _ _ _ us hl => match us, hl with | [_, _], _ => rfl)
    case h_law_table =>
      refine' Wv.fnAt_mk KX G ?a ?l ?c ?k ?b
      (case a => k_is)
      (case l => k_is)
      (case c => k_is)
      (case k => k_is)
      (case b => exact fun _ _ _ _ _ _ us hl => match us, hl with | [_], _ => rfl)
    case h_law_right =>
      refine' Wv.fnAt_mk KX G ?a ?l ?c ?k ?b
      (case a => k_is)
      (case l => k_is)
      (case c => k_is)
      (case k => k_is)
      (case b => exact fun _ _ _ _ _ _ us hl => match us, hl with | [_], _ => rfl)
    case h_law =>
      refine' Wv.lawAt_mk KX G ?a ?l ?c ?k ?b
      (case a => k_is)
      (case l => k_is)
      (case c => k_is)
      (case k => k_is)
      (case b => exact fun _ _ _ _ _ _ _ => rfl)
#print axioms PySem.Challenge.cw_weighvote_k07_texts_misread_holds
