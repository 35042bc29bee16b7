import PyProof.Rows.All
import Wide.All
import OpenK.AllK
import Wide.FinOn
import HandS.ForExc
import HandS.ForMost
import HandS.TupAny
import HandS.TupLe
import HandS.TupMul
import HandS.IsInst
import HandS.Wide
import HandS.Deep
import HandS.Codes
import HandS.Rev
import HandS.Zip
import PySem.Challenge.RW_halfrun_k01_values
set_option Elab.async false
set_option linter.all false
set_option maxRecDepth 100000
set_option maxHeartbeats 4000000
set_option autoImplicit false
namespace HF
open PySem PySem.Spec PyProof.Rows L2
/-! ### data -/
inductive Ty where
  | int | bool | str | tuple | list
  deriving DecidableEq
def Ty.name : Ty → String
  | .int => "int"
  | .bool => "bool"
  | .str => "str"
  | .tuple => "tuple"
  | .list => "list"
inductive D where
  | non
  | bl (b : Bool)
  | int (i : Int)
  | str (s : Str)
  | tup (xs : List D)
  | lst (xs : List D)
  | dct (ks : List Key) (xs : List D)
  | scr (ns : List Int)
  | ty (n : Ty)
instance : Inhabited D := ⟨.non⟩
mutual
def Rp (K : PySem.W.Frag) (G : Hp) : D → V → Prop
  | .non, v => v = .non
  | .bl b, v => v = .bl b
  | .int i, v => v = .int i
  | .str s, v => v = .str s
  | .tup ds, v => ∃ a xs, v = .ref a ∧ SqT K G a xs ∧ RpL K G ds xs
  | .lst ds, v => ∃ a xs, v = .ref a ∧ G a = some (.lst xs) ∧ RpL K G ds xs
  | .dct ks ds, v => ∃ a kvs, v = .ref a ∧ G a = some (.dK kvs) ∧ kvs.map (·.1) = ks ∧ RpL K G ds (kvs.map (·.2))
  | .scr ns, v => ∃ a, v = .ref a ∧ SqL K G a (ns.map V.int)
  | .ty n, v => v = .ty n.name
def RpL (K : PySem.W.Frag) (G : Hp) : List D → List V → Prop
  | [], xs => xs = []
  | d :: ds, xs => ∃ x r, xs = x :: r ∧ Rp K G d x ∧ RpL K G ds r
end
theorem Same.sqT {K : PySem.W.Frag} {H H' : Hp} {a : Addr} {xs : List V} (e : Same H H') (h : SqT K H a xs) : SqT K H' a xs := by
  rcases h with (h | ⟨o, h⟩) | h
  · exact .inl (.inl (e _ _ h))
  · exact .inl (.inr ⟨o, e _ _ h⟩)
  · exact .inr h
mutual
theorem Rp.mono {K : PySem.W.Frag} {G G' : Hp} (e : Same G G') : ∀ (d : D) (v : V), Rp K G d v → Rp K G' d v
  | .non, v, h => h
  | .bl b, v, h => h
  | .int i, v, h => h
  | .str s, v, h => h
  | .tup ds, v, h => by
    obtain ⟨a, xs, e1, h1, h2⟩ := h
    exact ⟨a, xs, e1, Same.sqT e h1, RpL.mono e ds xs h2⟩
  | .lst ds, v, h => by
    obtain ⟨a, xs, e1, h1, h2⟩ := h
    exact ⟨a, xs, e1, e _ _ h1, RpL.mono e ds xs h2⟩
  | .dct ks ds, v, h => by
    obtain ⟨a, kvs, e1, h1, h3, h2⟩ := h
    exact ⟨a, kvs, e1, e _ _ h1, h3, RpL.mono e ds _ h2⟩
  | .scr ns, v, h => by
    obtain ⟨a, e1, h1⟩ := h
    exact ⟨a, e1, e.seq h1⟩
  | .ty n, v, h => h
theorem RpL.mono {K : PySem.W.Frag} {G G' : Hp} (e : Same G G') : ∀ (ds : List D) (xs : List V), RpL K G ds xs → RpL K G' ds xs
  | [], xs, h => h
  | d :: ds, xs, h => by
    obtain ⟨x, r, e1, h1, h2⟩ := h
    exact ⟨x, r, e1, Rp.mono e d x h1, RpL.mono e ds r h2⟩
end
section
variable {K : PySem.W.Frag} {G : Hp}
theorem RpL.length : ∀ {ds : List D} {xs : List V}, RpL K G ds xs → xs.length = ds.length
  | [], xs, h => by rw [show xs = [] from h]; rfl
  | d :: ds, xs, h => by
    obtain ⟨x, r, rfl, _, h2⟩ := h
    rw [List.length_cons, List.length_cons, RpL.length h2]
theorem RpL.get : ∀ {ds : List D} {xs : List V} {i : Nat} {d : D}, RpL K G ds xs → ds[i]? = some d → ∃ x, xs[i]? = some x ∧ Rp K G d x
  | [], xs, i, d, h, e => by simp at e
  | d :: ds, xs, 0, d', h, e => by
    obtain ⟨x, r, rfl, h1, _⟩ := h
    have : d = d' := by simpa using e
    subst this
    exact ⟨x, rfl, h1⟩
  | d :: ds, xs, i + 1, d', h, e => by
    obtain ⟨x, r, rfl, _, h2⟩ := h
    obtain ⟨y, e1, h3⟩ := RpL.get (i := i) (d := d') h2 (by simpa using e)
    exact ⟨y, by simpa using e1, h3⟩
theorem RpL.append : ∀ {ds es : List D} {xs ys : List V}, RpL K G ds xs → RpL K G es ys → RpL K G (ds ++ es) (xs ++ ys)
  | [], es, xs, ys, h, k => by rw [show xs = [] from h]; exact k
  | d :: ds, es, xs, ys, h, k => by
    obtain ⟨x, r, rfl, h1, h2⟩ := h
    exact ⟨x, r ++ ys, rfl, h1, RpL.append h2 k⟩
theorem RpL.one {d : D} {x : V} (h : Rp K G d x) : RpL K G [d] [x] := ⟨x, [], rfl, h, rfl⟩
theorem RpL.take : ∀ {ds : List D} {xs : List V} (n : Nat), RpL K G ds xs → RpL K G (ds.take n) (xs.take n)
  | _, _, 0, _ => rfl
  | [], xs, n + 1, h => by rw [show xs = [] from h]; rfl
  | d :: ds, xs, n + 1, h => by
    obtain ⟨x, r, rfl, h1, h2⟩ := h
    exact ⟨x, r.take n, rfl, h1, RpL.take n h2⟩
theorem RpL.drop : ∀ {ds : List D} {xs : List V} (n : Nat), RpL K G ds xs → RpL K G (ds.drop n) (xs.drop n)
  | _, _, 0, h => h
  | [], xs, n + 1, h => by rw [show xs = [] from h]; rfl
  | d :: ds, xs, n + 1, h => by
    obtain ⟨x, r, rfl, h1, h2⟩ := h
    exact RpL.drop n h2
theorem RpL.set : ∀ {ds : List D} {xs : List V} (i : Nat) {d : D} {x : V}, RpL K G ds xs → Rp K G d x → RpL K G (ds.set i d) (xs.set i x)
  | [], xs, i, d, x, h, k => by rw [show xs = [] from h]; exact rfl
  | d :: ds, xs, 0, d', x', h, k => by
    obtain ⟨x, r, rfl, h1, h2⟩ := h
    exact ⟨x', r, rfl, k, h2⟩
  | d :: ds, xs, i + 1, d', x', h, k => by
    obtain ⟨x, r, rfl, h1, h2⟩ := h
    exact ⟨x, r.set i x', rfl, h1, RpL.set i h2 k⟩
theorem RpL.rep (k : Nat) {ds : List D} {xs : List V} (h : RpL K G ds xs) : RpL K G (List.replicate k ds).flatten (List.replicate k xs).flatten := by
  induction k with
  | zero => exact rfl
  | succ k ih =>
    rw [List.replicate_succ, List.replicate_succ, List.flatten_cons, List.flatten_cons]
    exact h.append ih
theorem RpL.reverse : ∀ {ds : List D} {xs : List V}, RpL K G ds xs → RpL K G ds.reverse xs.reverse
  | [], xs, h => by rw [show xs = [] from h]; exact rfl
  | d :: ds, xs, h => by
    obtain ⟨x, r, rfl, h1, h2⟩ := h
    rw [List.reverse_cons, List.reverse_cons]
    exact (RpL.reverse h2).append (RpL.one h1)
theorem RpL.ints : ∀ (ns : List Int), RpL K G (ns.map D.int) (ns.map V.int)
  | [] => rfl
  | n :: r => ⟨_, _, rfl, rfl, RpL.ints r⟩
end
/-! ### slots -/
inductive Sl where
  | non
  | val (d : D)
  | own (d : D)
  | io (d : D)
@[simp] def Sl.mu : Sl → Option D
  | .own d => some d
  | .io d => some d
  | _ => none
/-- with other contents -/
@[simp] def Sl.put (s : Sl) (d : D) : Sl := match s with
  | .own _ => .own d
  | .io _ => .io d
  | s => s
/-- what stands at p may be written: d -/
def MuAt (K : PySem.W.Frag) (H G : Hp) : D → Addr → Prop
  | .lst ds, p => ∃ xs, H p = some (.lst xs) ∧ RpL K G ds xs
  | .dct ks ds, p => ∃ kvs, H p = some (.dK kvs) ∧ kvs.map (·.1) = ks ∧ RpL K G ds (kvs.map (·.2))
  | _, _ => False
theorem MuAt.there {K : PySem.W.Frag} {H G : Hp} {d : D} {p : Addr} (h : MuAt K H G d p) : H p ≠ none := by
  cases d <;> first | exact h.elim | (obtain ⟨_, e, _⟩ := h; rw [e]; exact fun z => by cases z)
theorem MuAt.mono {K : PySem.W.Frag} {H G H' G' : Hp} {d : D} {p : Addr} (h : MuAt K H G d p) (e : H' p = H p) (g : Same G G') : MuAt K H' G' d p := by
  cases d with
  | lst ds =>
    obtain ⟨xs, e1, h1⟩ := h
    exact ⟨xs, by rw [e]; exact e1, RpL.mono g ds xs h1⟩
  | dct ks ds =>
    obtain ⟨xs, e1, h3, h1⟩ := h
    exact ⟨xs, by rw [e]; exact e1, h3, RpL.mono g ds _ h1⟩
  | _ => exact h.elim
/-- what is written is frozen -/
theorem MuAt.frz {K : PySem.W.Frag} {H G : Hp} {d : D} {p : Addr} (h : MuAt K H G d p) (hp : G p = none) (s : Same G H) : ∃ G', Same G G' ∧ Same G' H ∧ (∀ b, b ≠ p → G' b = G b) ∧ Rp K G' d (.ref p) := by
  cases d with
  | lst ds =>
    obtain ⟨xs, e1, h1⟩ := h
    refine ⟨upd G p (.lst xs), fun b o q => by rw [upd_ne (ne_of_none q hp)]; exact q, fun b o q => ?_, fun b hb => upd_ne hb, p, xs, rfl, upd_same, RpL.mono (fun b o q => by rw [upd_ne (ne_of_none q hp)]; exact q) ds xs h1⟩
    by_cases hb : b = p
    · subst hb; rw [upd_same] at q; cases q; exact e1
    · rw [upd_ne hb] at q; exact s _ _ q
  | dct ks ds =>
    obtain ⟨xs, e1, h3, h1⟩ := h
    refine ⟨upd G p (.dK xs), fun b o q => by rw [upd_ne (ne_of_none q hp)]; exact q, fun b o q => ?_, fun b hb => upd_ne hb, p, xs, rfl, upd_same, h3, RpL.mono (fun b o q => by rw [upd_ne (ne_of_none q hp)]; exact q) ds _ h1⟩
    by_cases hb : b = p
    · subst hb; rw [upd_same] at q; cases q; exact e1
    · rw [upd_ne hb] at q; exact s _ _ q
  | _ => exact h.elim
/-- the slot i can be written and stands at p -/
def MuIs (σ : L2.St) (env : List Sl) (p : Addr) : Prop := ∃ (i : Nat) (s : Sl) (d : D), env[i]? = some s ∧ s.mu = some d ∧ σ[i]? = some (some (.ref p))
/-- the environment env is what the slots σ hold in the heap H; G: what never changes -/
structure ER (K : PySem.W.Frag) (H G : Hp) (σ : L2.St) (env : List Sl) : Prop where
  len : σ.length = env.length
  sub : Same G H
  val : ∀ (i : Nat) (d : D), env[i]? = some (.val d) → ∃ v, σ[i]? = some (some v) ∧ Rp K G d v
  mu : ∀ (i : Nat) (s : Sl) (d : D), env[i]? = some s → s.mu = some d → ∃ p, σ[i]? = some (some (.ref p)) ∧ G p = none ∧ MuAt K H G d p
  sep : ∀ (i j : Nat) (s t : Sl) (d e : D) (p : Addr), env[i]? = some s → s.mu = some d → env[j]? = some t → t.mu = some e → σ[i]? = some (some (.ref p)) → σ[j]? = some (some (.ref p)) → i = j
/-- of one kind -/
def Kin : Option Sl → Option Sl → Prop
  | some (.own _), t => ∃ e, t = some (.own e)
  | some (.io _), t => ∃ e, t = some (.io e)
  | s, t => t = s
theorem Kin.refl (s : Option Sl) : Kin s s := by
  cases s with
  | none => rfl
  | some s => cases s <;> first | rfl | exact ⟨_, rfl⟩
theorem Kin.trans {a b c : Option Sl} (h : Kin a b) (k : Kin b c) : Kin a c := by
  cases a with
  | none => cases (show b = none from h); exact k
  | some s =>
    cases s with
    | non => cases (show b = some .non from h); exact k
    | val d => cases (show b = some (.val d) from h); exact k
    | own d => obtain ⟨e, rfl⟩ := (show ∃ e, b = some (.own e) from h); exact k
    | io d => obtain ⟨e, rfl⟩ := (show ∃ e, b = some (.io e) from h); exact k
theorem Kin.mu {s : Sl} {o : Option Sl} (h : Kin (some s) o) {d : D} (hd : s.mu = some d) : ∃ t e, o = some t ∧ t.mu = some e := by
  cases s with
  | non => cases hd
  | val d => cases hd
  | own d => obtain ⟨e, rfl⟩ := (show ∃ e, o = some (.own e) from h); exact ⟨_, _, rfl, rfl⟩
  | io d => obtain ⟨e, rfl⟩ := (show ∃ e, o = some (.io e) from h); exact ⟨_, _, rfl, rfl⟩
theorem Kin.back {s : Option Sl} {t : Sl} (h : Kin s (some t)) {d : D} (hd : t.mu = some d) : ∃ u e, s = some u ∧ u.mu = some e := by
  cases s with
  | none => cases (show some t = none from h)
  | some s =>
    cases s with
    | non => cases (show some t = some .non from h); cases hd
    | val d => cases (show some t = some (.val d) from h); cases hd
    | own d => exact ⟨_, _, rfl, rfl⟩
    | io d => exact ⟨_, _, rfl, rfl⟩
/-- a step of the heap: what may be written alone is changed -/
structure Stp (K : PySem.W.Frag) (σ : L2.St) (H G : Hp) (env : List Sl) (H' G' : Hp) (env' : List Sl) : Prop where
  er : ER K H' G' σ env'
  gr : Same G G'
  old : ∀ b, H b ≠ none → G b = none → G' b = none
  keep : ∀ b o, H b = some o → ¬ MuIs σ env b → H' b = some o
  kin : ∀ i : Nat, Kin (env[i]?) (env'[i]?)
theorem MuIs.to {σ : L2.St} {env env' : List Sl} {p : Addr} (kin : ∀ i : Nat, Kin (env[i]?) (env'[i]?)) (h : MuIs σ env p) : MuIs σ env' p := by
  obtain ⟨i, s, d, e1, e2, e3⟩ := h
  have k := kin i
  rw [e1] at k
  obtain ⟨t, e, q1, q2⟩ := k.mu e2
  exact ⟨i, t, e, q1, q2, e3⟩
theorem MuIs.of {σ : L2.St} {env env' : List Sl} {p : Addr} (kin : ∀ i : Nat, Kin (env[i]?) (env'[i]?)) (h : MuIs σ env' p) : MuIs σ env p := by
  obtain ⟨i, s, d, e1, e2, e3⟩ := h
  have k := kin i
  rw [e1] at k
  obtain ⟨t, e, q1, q2⟩ := k.back e2
  exact ⟨i, t, e, q1, q2, e3⟩
theorem Stp.refl {K : PySem.W.Frag} {σ : L2.St} {H G : Hp} {env : List Sl} (r : ER K H G σ env) : Stp K σ H G env H G env :=
  ⟨r, Same.refl _, fun _ _ h => h, fun _ _ h _ => h, fun _ => Kin.refl _⟩
theorem Stp.trans {K : PySem.W.Frag} {σ : L2.St} {H G H1 G1 H2 G2 : Hp} {env env1 env2 : List Sl} (a : Stp K σ H G env H1 G1 env1) (b : Stp K σ H1 G1 env1 H2 G2 env2) (r : ER K H G σ env) : Stp K σ H G env H2 G2 env2 where
  er := b.er
  gr := a.gr.trans b.gr
  old := fun c hc hg => by
    refine b.old c ?_ (a.old c hc hg)
    by_cases m : MuIs σ env c
    · obtain ⟨i, s, d, e1, e2, e3⟩ := m.to a.kin
      obtain ⟨p, q1, _, q3⟩ := a.er.mu i s d e1 e2
      rw [e3] at q1
      cases q1
      exact q3.there
    · cases e : H c with
      | none => exact absurd e hc
      | some o =>
        rw [a.keep c o e m]
        exact fun z => by cases z
  keep := fun c o e m => b.keep c o (a.keep c o e m) fun z => m (z.of a.kin)
  kin := fun i => (a.kin i).trans (b.kin i)
/-- new things alone -/
structure GS (H G H' G' : Hp) : Prop where
  hh : Same H H'
  gg : Same G G'
  gh : Same G' H'
  old : ∀ b, H b ≠ none → G b = none → G' b = none
theorem GS.refl {H G : Hp} (s : Same G H) : GS H G H G := ⟨Same.refl _, Same.refl _, s, fun _ _ h => h⟩
theorem GS.trans {H G H1 G1 H2 G2 : Hp} (a : GS H G H1 G1) (b : GS H1 G1 H2 G2) : GS H G H2 G2 :=
  ⟨a.hh.trans b.hh, a.gg.trans b.gg, b.gh, fun c hc hg => b.old c (fun z => hc (by
    cases e : H c with
    | none => rfl
    | some o => rw [a.hh c o e] at z; cases z)) (a.old c hc hg)⟩
theorem GS.new {H G : Hp} {p : Addr} {o : HO} (s : Same G H) (hp : H p = none) : GS H G (upd H p o) (upd G p o) := by
  have gp : G p = none := s.free hp
  refine ⟨fun b u q => by rw [upd_ne (ne_of_none q hp)]; exact q, fun b u q => by rw [upd_ne (ne_of_none q gp)]; exact q, fun b u q => ?_, fun b hb hg => ?_⟩
  · by_cases e : b = p
    · subst e; rw [upd_same] at q ⊢; exact q
    · rw [upd_ne e] at q ⊢; exact s _ _ q
  · have e : b ≠ p := fun e => hb (by rw [e]; exact hp)
    rw [upd_ne e]; exact hg
theorem GS.newH {H G : Hp} {p : Addr} {o : HO} (s : Same G H) (hp : H p = none) : GS H G (upd H p o) G :=
  ⟨fun b u q => by rw [upd_ne (ne_of_none q hp)]; exact q, Same.refl _, fun b u q => by rw [upd_ne (ne_of_none (s _ _ q) hp)]; exact s _ _ q, fun _ _ h => h⟩
theorem ER.gs {K : PySem.W.Frag} {σ : L2.St} {H G H' G' : Hp} {env : List Sl} (r : ER K H G σ env) (g : GS H G H' G') : ER K H' G' σ env where
  len := r.len
  sub := g.gh
  val := fun i d e => let ⟨v, q, h⟩ := r.val i d e; ⟨v, q, Rp.mono g.gg d v h⟩
  mu := fun i s d e1 e2 => by
    obtain ⟨p, q1, q2, q3⟩ := r.mu i s d e1 e2
    refine ⟨p, q1, g.old p q3.there q2, q3.mono ?_ g.gg⟩
    cases e : H p with
    | none => exact absurd e q3.there
    | some o => exact g.hh p o e
  sep := r.sep
theorem Stp.gs {K : PySem.W.Frag} {σ : L2.St} {H G H' G' : Hp} {env : List Sl} (r : ER K H G σ env) (g : GS H G H' G') : Stp K σ H G env H' G' env :=
  ⟨r.gs g, g.gg, g.old, fun b o e _ => g.hh b o e, fun _ => Kin.refl _⟩
/-! ### values -/
inductive Vl where
  | im (d : D)
  | fr (d : D)
  | bo (i : Nat)
def VlAt (K : PySem.W.Frag) (H0 H G : Hp) (σ : L2.St) (env : List Sl) : Vl → V → Prop
  | .im d, v => Rp K G d v
  | .fr d, v => ∃ p, v = .ref p ∧ H0 p = none ∧ G p = none ∧ MuAt K H G d p
  | .bo i, v => ∃ (s : Sl) (d : D) (p : Addr), env[i]? = some s ∧ s.mu = some d ∧ σ[i]? = some (some (.ref p)) ∧ v = .ref p
theorem MuIs.old {K : PySem.W.Frag} {σ : L2.St} {H G : Hp} {env : List Sl} (r : ER K H G σ env) {p : Addr} (h : MuIs σ env p) : H p ≠ none := by
  obtain ⟨i, s, d, e1, e2, e3⟩ := h
  obtain ⟨q, q1, _, q3⟩ := r.mu i s d e1 e2
  rw [e3] at q1
  cases q1
  exact q3.there
theorem VlAt.step {K : PySem.W.Frag} {σ : L2.St} {H0 H1 G1 H2 G2 : Hp} {env1 env2 : List Sl} {vl : Vl} {v : V} (h : VlAt K H0 H1 G1 σ env1 vl v) (s : Stp K σ H1 G1 env1 H2 G2 env2) (nm : ∀ p, H0 p = none → ¬ MuIs σ env1 p) : VlAt K H0 H2 G2 σ env2 vl v := by
  cases vl with
  | im d => exact Rp.mono s.gr d v h
  | fr d =>
    obtain ⟨p, e1, e2, e3, e4⟩ := h
    refine ⟨p, e1, e2, s.old p e4.there e3, e4.mono ?_ s.gr⟩
    cases e : H1 p with
    | none => exact absurd e e4.there
    | some o => exact s.keep p o e (nm p e2)
  | bo i =>
    obtain ⟨t, d, p, e1, e2, e3, e4⟩ := h
    have k := s.kin i
    rw [e1] at k
    obtain ⟨u, e, q1, q2⟩ := k.mu e2
    exact ⟨u, e, p, q1, q2, e3, e4⟩
/-- earlier start -/
theorem VlAt.from {K : PySem.W.Frag} {σ : L2.St} {H0 H1 H G : Hp} {env : List Sl} {vl : Vl} {v : V} (h : VlAt K H1 H G σ env vl v) (f : ∀ p, H1 p = none → H0 p = none) : VlAt K H0 H G σ env vl v := by
  cases vl with
  | im d => exact h
  | fr d =>
    obtain ⟨p, e1, e2, e3⟩ := h
    exact ⟨p, e1, f p e2, e3⟩
  | bo i => exact h
@[simp] def Vl.rd (env : List Sl) : Vl → Option D
  | .im d => some d
  | .fr d => some d
  | .bo i => (env[i]?).bind Sl.mu
/-- as it is to be read -/
def RdAt (K : PySem.W.Frag) (H G : Hp) (d : D) (v : V) : Prop := Rp K G d v ∨ ∃ p, v = .ref p ∧ MuAt K H G d p
theorem VlAt.read {K : PySem.W.Frag} {σ : L2.St} {H0 H G : Hp} {env : List Sl} {vl : Vl} {v : V} {d : D} (h : VlAt K H0 H G σ env vl v) (r : ER K H G σ env) (e : vl.rd env = some d) : RdAt K H G d v := by
  cases vl with
  | im d' => cases e; exact .inl h
  | fr d' => cases e; obtain ⟨p, e1, _, _, e4⟩ := h; exact .inr ⟨p, e1, e4⟩
  | bo i =>
    obtain ⟨s, d', p, e1, e2, e3, e4⟩ := h
    have q : (env[i]?).bind Sl.mu = some d := e
    rw [e1] at q
    have q' : s.mu = some d := q
    rw [e2] at q'
    cases q'
    obtain ⟨p', q1, _, q3⟩ := r.mu i s d e1 e2
    rw [e3] at q1
    cases q1
    exact .inr ⟨p, e4, q3⟩
@[simp] def Vl.toIm : Vl → Option D
  | .im d => some d
  | .fr d => some d
  | .bo _ => none
/-- frozen -/
theorem VlAt.imm {K : PySem.W.Frag} {σ : L2.St} {H0 G0 H G : Hp} {env0 env : List Sl} {vl : Vl} {v : V} {d : D} (h : VlAt K H0 H G σ env vl v) (s : Stp K σ H0 G0 env0 H G env) (r0 : ER K H0 G0 σ env0) (e : vl.toIm = some d) :
    ∃ G', Stp K σ H0 G0 env0 H G' env ∧ Same G G' ∧ (∀ b, H0 b ≠ none → G' b = G b) ∧ Rp K G' d v := by
  cases vl with
  | im d' => cases e; exact ⟨G, s, Same.refl _, fun _ _ => rfl, h⟩
  | bo i => cases e
  | fr d' =>
    cases e
    obtain ⟨p, e1, e2, e3, e4⟩ := h
    obtain ⟨G', g1, g2, g3, g4⟩ := e4.frz e3 s.er.sub
    have np : ∀ b, H0 b ≠ none → b ≠ p := fun b hb z => hb (by rw [z]; exact e2)
    refine ⟨G', ⟨⟨s.er.len, g2, fun i d q => ?_, fun i t d q1 q2 => ?_, s.er.sep⟩, s.gr.trans g1, fun b hb hg => ?_, s.keep, s.kin⟩, g1, fun b hb => g3 b (np b hb), by rw [e1]; exact g4⟩
    · obtain ⟨v, w1, w2⟩ := s.er.val i d q
      exact ⟨v, w1, Rp.mono g1 d v w2⟩
    · obtain ⟨p', w1, w2, w3⟩ := s.er.mu i t d q1 q2
      have m : MuIs σ env0 p' := MuIs.of s.kin ⟨i, t, d, q1, q2, w1⟩
      exact ⟨p', w1, by rw [g3 p' (np p' (m.old r0))]; exact w2, w3.mono rfl g1⟩
    · rw [g3 b (np b hb)]
      exact s.old b hb hg
end HF

set_option Elab.async false
set_option linter.all false
set_option maxRecDepth 100000
set_option maxHeartbeats 4000000
set_option autoImplicit false
namespace HF
open PySem PySem.Spec PyProof.Rows L2
/-! ### results -/
inductive Rs where
  | ok (v : Vl) (env : List Sl)
  | err (c : Str) (env : Option (List Sl))
  | stk
abbrev Fx := List Sl → Rs
@[simp] def bindR (r : Rs) (f : Vl → List Sl → Rs) : Rs := match r with
  | .ok v e => f v e
  | .err c e => .err c e
  | .stk => .stk
theorem bindR_ok (v : Vl) (e : List Sl) (f : Vl → List Sl → Rs) : bindR (.ok v e) f = f v e := rfl
def ErrAt (K : PySem.W.Frag) (σ : L2.St) (H G : Hp) (env : List Sl) (H' : Hp) : Option (List Sl) → Prop
  | some env' => ∃ G', Stp K σ H G env H' G' env'
  | none => ∀ b o, H b = some o → ¬ MuIs σ env b → H' b = some o
def PostR (K : PySem.W.Frag) (mg : Str → Option Value) (W : WX) (σ : L2.St) (H G : Hp) (env : List Sl) (Q : VK) : Rs → Prop
  | .ok vl env' => ∀ v H' G', Stp K σ H G env H' G' env' → VlAt K H H' G' σ env' vl v → Q v H'
  | .err c e => ∀ C H', mg c = some (.ref C) → ErrAt K σ H G env H' e → W (.ref C) none σ H'
  | .stk => False
def tD (K : PySem.W.Frag) (mg : Str → Option Value) (W : WX) (F : Fx) : TE := fun σ H Q => ∃ G env, ER K H G σ env ∧ PostR K mg W σ H G env Q (F env)
def EX (X : Cx) (W : WX) (e : Expr) (F : Fx) : Prop := PE X e (tD X.K X.mg W F)
theorem PE.weak {X : Cx} {e : Expr} {t t' : TE} (h : PE X e t) (w : ∀ σ H Q, t' σ H Q → t σ H Q) : PE X e t' := ⟨fun pins s σ H Q I q => h.run pins s σ H Q I (w σ H Q q)⟩
theorem PT.weak {X : Cx} {e : Expr} {t t' : TT} (h : PT X e t) (w : ∀ σ H Q, t' σ H Q → t σ H Q) : PT X e t' := ⟨fun pins s σ H Q I q => h.run pins s σ H Q I (w σ H Q q)⟩
theorem PW.weak {X : Cx} {e : Expr} {t t' : TT} (h : PW X e t) (w : ∀ σ H Q, t' σ H Q → t σ H Q) : PW X e t' := ⟨fun u pins s σ H Q I q => h.run u pins s σ H Q I (w σ H Q q)⟩
theorem PA.weak {X : Cx} {es : List Expr} {t t' : TA} (h : PA X es t) (w : ∀ σ H Q, t' σ H Q → t σ H Q) : PA X es t' := ⟨fun pos pins s σ H Q I q => h.run pos pins s σ H Q I (w σ H Q q)⟩
theorem PS.weak {X : Cx} {st : Stmt} {t t' : TS} (h : PS X st t) (w : ∀ D σ H, t' D σ H → t D σ H) : PS X st t' := ⟨fun pins s σ H D I q => h.run pins s σ H D I (w D σ H q)⟩
theorem PSs.weak {X : Cx} {st : List Stmt} {t t' : TS} (h : PSs X st t) (w : ∀ D σ H, t' D σ H → t D σ H) : PSs X st t' := ⟨fun pins s σ H D I q => h.run pins s σ H D I (w D σ H q)⟩
section
variable {K : PySem.W.Frag} {mg : Str → Option Value} {W : WX} {σ : L2.St} {H G H1 G1 H2 G2 : Hp} {env env1 env2 : List Sl} {Q : VK}
theorem Stp.free (s : Stp K σ H G env H1 G1 env1) (r : ER K H G σ env) {p : Addr} (h : H1 p = none) : H p = none := by
  by_cases m : MuIs σ env p
  · exact absurd h (MuIs.old s.er (m.to s.kin))
  · cases e : H p with
    | none => rfl
    | some o => rw [s.keep p o e m] at h; cases h
theorem PostR.shift (s : Stp K σ H G env H1 G1 env1) (r : ER K H G σ env) : ∀ {R : Rs}, PostR K mg W σ H G env Q R → PostR K mg W σ H1 G1 env1 Q R
  | .ok vl env', h => fun v H' G' s' v' => h v H' G' (s.trans s' r) (v'.from fun p e => s.free r e)
  | .err c (some e), h => fun C H' m ⟨G', s'⟩ => h C H' m ⟨G', s.trans s' r⟩
  | .err c none, h => fun C H' m k => h C H' m fun b o e nm => k b o (s.keep b o e nm) fun z => nm (z.of s.kin)
  | .stk, h => h
theorem tD_bind {F : Fx} {k : VK} {f : Vl → List Sl → Rs} (r : ER K H G σ env) (h : PostR K mg W σ H G env Q (bindR (F env) f))
    (st : ∀ vl env1 v H1 G1, Stp K σ H G env H1 G1 env1 → VlAt K H H1 G1 σ env1 vl v → PostR K mg W σ H G env Q (f vl env1) → k v H1) : tD K mg W F σ H k := by
  refine ⟨G, env, r, ?_⟩
  cases e : F env with
  | ok vl env1 =>
    rw [e] at h
    exact fun v H1 G1 s v1 => st vl env1 v H1 G1 s v1 h
  | err c e' =>
    rw [e] at h
    exact h
  | stk =>
    rw [e] at h
    exact h
theorem MuIs.new (r : ER K H G σ env) {p : Addr} (h : H p = none) : ¬ MuIs σ env p := fun m => m.old r h
end
/-! ### results of the operations that raise nothing -/
inductive Gr where
  | im (d : D)
  | fr (d : D)
  | stk
@[simp] def Gr.rs (env : List Sl) : Gr → Rs
  | .im d => .ok (.im d) env
  | .fr d => .ok (.fr d) env
  | .stk => .stk
def GrPost (K : PySem.W.Frag) (H G : Hp) (Q : VK) : Gr → Prop
  | .im d => ∀ v H' G', GS H G H' G' → Rp K G' d v → Q v H'
  | .fr d => ∀ p H' G', GS H G H' G' → H p = none → G' p = none → MuAt K H' G' d p → Q (.ref p) H'
  | .stk => False
section
variable {K : PySem.W.Frag} {mg : Str → Option Value} {W : WX} {σ : L2.St} {H G : Hp} {env : List Sl} {Q : VK}
theorem GrPost.of (r : ER K H G σ env) : ∀ {g : Gr}, PostR K mg W σ H G env Q (g.rs env) → GrPost K H G Q g
  | .im d, h => fun v H' G' g hv => h v H' G' (Stp.gs r g) hv
  | .fr d, h => fun p H' G' g h1 h2 h3 => h (.ref p) H' G' (Stp.gs r g) ⟨p, rfl, h1, h2, h3⟩
  | .stk, h => h
/-- the same heap -/
theorem GrPost.same {d : D} {v : V} (s : Same G H) (h : GrPost K H G Q (.im d)) (hv : Rp K G d v) : Q v H := h v H G (GS.refl s) hv
end
/-! ### two places -/
def OpSound (K : PySem.W.Frag) (g : D → D → Gr) (r : R2) : Prop := ∀ (H G : Hp) (x y : V) (a b : D) (Q : VK), Same G H → RdAt K H G a x → RdAt K H G b y → GrPost K H G Q (g a b) → r x y H Q
@[simp] def opR (g : D → D → Gr) (va vb : Vl) (env : List Sl) : Rs := match va.rd env, vb.rd env with
  | some a, some b => (g a b).rs env
  | _, _ => .stk
@[simp] def op2F (g : D → D → Gr) (Fa Fb : Fx)  (env : List Sl) : Rs := bindR (Fa env) fun va e1 => bindR (Fb e1) fun vb e2 => opR g va vb e2
section
variable {K : PySem.W.Frag} {mg : Str → Option Value} {W : WX}
theorem tOp_of {g : D → D → Gr} {r : R2} {Fa Fb : Fx} (hs : OpSound K g r) : ∀ σ H Q, tD K mg W (op2F g Fa Fb) σ H Q → tOp r (tD K mg W Fa) (tD K mg W Fb) σ H Q := by
  intro σ H Q ⟨G, env, re, h⟩
  refine tD_bind re h fun va e1 x H1 G1 s1 v1 p1 => ?_
  refine tD_bind s1.er (PostR.shift s1 re p1) fun vb e2 y H2 G2 s2 v2 p2 => ?_
  have p3 := PostR.shift s2 s1.er p2
  have v1' := v1.step s2 fun p hp m => (MuIs.new re hp) (m.of s1.kin)
  have p3 : PostR K mg W σ H2 G2 e2 Q (opR g va vb e2) := p3
  unfold opR at p3
  cases ea : va.rd e2 with
  | none => rw [ea] at p3; exact p3.elim
  | some a =>
    cases eb : vb.rd e2 with
    | none => rw [ea, eb] at p3; exact p3.elim
    | some b =>
      rw [ea, eb] at p3
      exact hs H2 G2 x y a b Q s2.er.sub (v1'.read s2.er ea) (v2.read s2.er eb) (GrPost.of s2.er p3)
end
section
variable {X : Cx} {W : WX} {a b : Expr} {Fa Fb : Fx} {pos : Pos}
theorem ex_op {op : Operator} {g : D → D → Gr} {r : R2} (ho : OpR X (binaryOp op) r) (hs : OpSound X.K g r) (ha : EX X W a Fa) (hb : EX X W b Fb) : EX X W (.BinOp a op b pos) (op2F g Fa Fb) :=
  PE.weak (pe_op ho ha hb) (tOp_of hs)
theorem ex_cmp {op : CmpOp} {g : D → D → Gr} {r : R2} (ho : OpR X (compareOp op) r) (hs : OpSound X.K g r) (ha : EX X W a Fa) (hb : EX X W b Fb) (hm : behindInMarks op b = false) : EX X W (.Compare a [op] [b] pos) (op2F g Fa Fb) :=
  PE.weak (pe_cmpR ho ha hb hm) (tOp_of hs)
theorem ex_ix {g : D → D → Gr} {r : R2} (ho : IxR X r) (hs : OpSound X.K g r) (ha : EX X W a Fa) (hb : EX X W b Fb) (hp : PlainIx b) : EX X W (.Subscript a b pos) (op2F g Fa Fb) :=
  PE.weak (pe_ix ho ha hb hp) (tOp_of hs)
end
/-! ### constants, names -/
@[simp] def cF (d : D)  (env : List Sl) : Rs := .ok (.im d) env
@[simp] def vF (i : Nat)  (env : List Sl) : Rs := match env[i]? with
  | some (.val d) => .ok (.im d) env
  | some (.own _) => .ok (.bo i) env
  | some (.io _) => .ok (.bo i) env
  | _ => .stk
section
variable {X : Cx} {W : WX}
theorem ex_c {e : Expr} {v : V} {d : D} (h : PE X e (tC v)) (hv : ∀ G, Rp X.K G d v) : EX X W e (cF d) :=
  PE.weak h fun σ H Q ⟨G, env, r, h⟩ => h v H G (Stp.refl r) (hv G)
theorem ex_int {i j pos} : EX X W (.Constant (.int i) j pos) (cF (.int i)) := ex_c pe_int fun _ => rfl
theorem ex_bl {b j pos} : EX X W (.Constant (.bool b) j pos) (cF (.bl b)) := ex_c pe_bl fun _ => rfl
theorem ex_non {j pos} : EX X W (.Constant .none j pos) (cF .non) := ex_c pe_non fun _ => rfl
theorem ex_str {x j pos} : EX X W (.Constant (.str x) j pos) (cF (.str x)) := ex_c pe_str fun _ => rfl
theorem ex_var (i : Nat) {x : Str} {pos : Pos} (hN : X.N[i]? = some x := by rfl) (hv : Vis X.env.scope x := by first | exact Or.inl rfl | exact Or.inr (Or.inl rfl) | exact Or.inr (Or.inr rfl)) (hd : (x == ("__debug__" : Str)) = false := by decide)
    (hcd : (x == ("__classdict__" : Str)) = false := by decide) : EX X W (.Name x pos) (vF i) := by
  refine PE.weak (pe_var hN hv hd hcd) fun σ H Q ⟨G, env, r, h⟩ => ?_
  unfold vF at h
  cases e : env[i]? with
  | none => rw [e] at h; exact h.elim
  | some s =>
    rw [e] at h
    cases s with
    | non => exact h.elim
    | val d =>
      obtain ⟨v, q1, q2⟩ := r.val i d e
      exact ⟨v, q1, h v H G (Stp.refl r) q2⟩
    | own d =>
      obtain ⟨p, q1, q2, q3⟩ := r.mu i _ d e rfl
      exact ⟨.ref p, q1, h _ H G (Stp.refl r) ⟨_, d, p, e, rfl, q1, rfl⟩⟩
    | io d =>
      obtain ⟨p, q1, q2, q3⟩ := r.mu i _ d e rfl
      exact ⟨.ref p, q1, h _ H G (Stp.refl r) ⟨_, d, p, e, rfl, q1, rfl⟩⟩
/-- a name of the module -/
theorem ex_glob {x : Str} {v : V} {u : Value} {d : D} {pos : Pos} (hm : X.mg x = some u) (r : RelV v u) (hv : ∀ G, Rp X.K G d v) (hg : Gl X x := by rfl) (hd : (x == ("__debug__" : Str)) = false := by decide) : EX X W (.Name x pos) (cF d) := ex_c (pe_glob hg hm r hd) hv
end
/-! ### arguments -/
inductive RsL where
  | ok (vs : List Vl) (env : List Sl)
  | err (c : Str) (env : Option (List Sl))
  | stk
abbrev FxL := List Sl → RsL
@[simp] def bindL (r : RsL) (f : List Vl → List Sl → Rs) : Rs := match r with
  | .ok v e => f v e
  | .err c e => .err c e
  | .stk => .stk
def VlsAt (K : PySem.W.Frag) (H0 H G : Hp) (σ : L2.St) (env : List Sl) : List Vl → List V → Prop
  | [], xs => xs = []
  | l :: ls, xs => ∃ x r, xs = x :: r ∧ VlAt K H0 H G σ env l x ∧ VlsAt K H0 H G σ env ls r
def PostA (K : PySem.W.Frag) (mg : Str → Option Value) (W : WX) (σ : L2.St) (H G : Hp) (env : List Sl) (Q : List V → Hp → Prop) : RsL → Prop
  | .ok vls env' => ∀ vs H' G', Stp K σ H G env H' G' env' → VlsAt K H H' G' σ env' vls vs → Q vs H'
  | .err c e => ∀ C H', mg c = some (.ref C) → ErrAt K σ H G env H' e → W (.ref C) none σ H'
  | .stk => False
def tDA (K : PySem.W.Frag) (mg : Str → Option Value) (W : WX) (F : FxL) : TA := fun σ H Q => ∃ G env, ER K H G σ env ∧ PostA K mg W σ H G env Q (F env)
def AX (X : Cx) (W : WX) (es : List Expr) (F : FxL) : Prop := PA X es (tDA X.K X.mg W F)
@[simp] def nilF  (env : List Sl) : RsL := .ok [] env
@[simp] def consF (F : Fx) (Fs : FxL)  (env : List Sl) : RsL := match F env with
  | .ok v e1 => (match Fs e1 with
    | .ok vs e2 => .ok (v :: vs) e2
    | .err c e => .err c e
    | .stk => .stk)
  | .err c e => .err c e
  | .stk => .stk
section
variable {K : PySem.W.Frag} {mg : Str → Option Value} {W : WX} {σ : L2.St} {H G H1 G1 H2 G2 : Hp} {env env1 env2 : List Sl} {Q : VK}
theorem tDA_bind {F : FxL} {k : List V → Hp → Prop} {f : List Vl → List Sl → Rs} (r : ER K H G σ env) (h : PostR K mg W σ H G env Q (bindL (F env) f))
    (st : ∀ vls env1 vs H1 G1, Stp K σ H G env H1 G1 env1 → VlsAt K H H1 G1 σ env1 vls vs → PostR K mg W σ H G env Q (f vls env1) → k vs H1) : tDA K mg W F σ H k := by
  refine ⟨G, env, r, ?_⟩
  cases e : F env with
  | ok vl env1 =>
    rw [e] at h
    exact fun v H1 G1 s v1 => st vl env1 v H1 G1 s v1 h
  | err c e' =>
    rw [e] at h
    exact h
  | stk =>
    rw [e] at h
    exact h
theorem PostA.shift {Q : List V → Hp → Prop} (s : Stp K σ H G env H1 G1 env1) (r : ER K H G σ env) : ∀ {R : RsL}, (∀ (ls : List Vl) (vs : List V) (H' G' : Hp) (e : List Sl), VlsAt K H1 H' G' σ e ls vs → VlsAt K H H' G' σ e ls vs) → PostA K mg W σ H G env Q R → PostA K mg W σ H1 G1 env1 Q R
  | .ok vl env', z, h => fun v H' G' s' v' => h v H' G' (s.trans s' r) (z _ _ _ _ _ v')
  | .err c (some e), z, h => fun C H' m ⟨G', s'⟩ => h C H' m ⟨G', s.trans s' r⟩
  | .err c none, z, h => fun C H' m k => h C H' m fun b o e nm => k b o (s.keep b o e nm) fun z => nm (z.of s.kin)
  | .stk, z, h => h
theorem VlsAt.from {H0 : Hp} (f : ∀ p, H1 p = none → H0 p = none) : ∀ {ls : List Vl} {vs : List V}, VlsAt K H1 H G σ env ls vs → VlsAt K H0 H G σ env ls vs
  | [], vs, h => h
  | l :: ls, vs, h => by
    obtain ⟨x, r, e, h1, h2⟩ := h
    exact ⟨x, r, e, h1.from f, VlsAt.from f h2⟩
theorem VlsAt.step {H0 : Hp} (s : Stp K σ H1 G1 env1 H2 G2 env2) (nm : ∀ p, H0 p = none → ¬ MuIs σ env1 p) : ∀ {ls : List Vl} {vs : List V}, VlsAt K H0 H1 G1 σ env1 ls vs → VlsAt K H0 H2 G2 σ env2 ls vs
  | [], vs, h => h
  | l :: ls, vs, h => by
    obtain ⟨x, r, e, h1, h2⟩ := h
    exact ⟨x, r, e, h1.step s nm, VlsAt.step s nm h2⟩
theorem VlsAt.length {H0 : Hp} : ∀ {ls : List Vl} {vs : List V}, VlsAt K H0 H G σ env ls vs → vs.length = ls.length
  | [], vs, h => by rw [show vs = [] from h]; rfl
  | l :: ls, vs, h => by
    obtain ⟨x, r, rfl, h1, h2⟩ := h
    rw [List.length_cons, List.length_cons, VlsAt.length h2]
end
section
variable {X : Cx} {W : WX}
theorem ax_nil : AX X W [] nilF := PA.weak pa_nil fun σ H Q ⟨G, env, r, h⟩ => h [] H G (Stp.refl r) rfl
theorem ax_cons {e : Expr} {es : List Expr} {F : Fx} {Fs : FxL} (h1 : EX X W e F) (h2 : AX X W es Fs) (hs : starEach (e :: es) X.env = (false, eval e X.env) :: starEach es X.env := by rfl) : AX X W (e :: es) (consF F Fs) := by
  refine PA.weak (pa_cons h1 h2 hs) fun σ H Q ⟨G, env, r, h⟩ => ?_
  refine ⟨G, env, r, ?_⟩
  unfold consF at h
  cases e1 : F env with
  | stk => rw [e1] at h; exact h
  | err c e => rw [e1] at h; exact h
  | ok vl env1 =>
    rw [e1] at h
    intro v H1 G1 s1 v1
    refine ⟨G1, env1, s1.er, ?_⟩
    cases e2 : Fs env1 with
    | stk => simp only [e2] at h; exact h
    | err c e =>
      simp only [e2] at h
      cases e with
      | some e => exact fun C H' m ⟨G', s'⟩ => h C H' m ⟨G', s1.trans s' r⟩
      | none => exact fun C H' m k => h C H' m fun b o e nm => k b o (s1.keep b o e nm) fun z => nm (z.of s1.kin)
    | ok vls env2 =>
      simp only [e2] at h
      intro vs H2 G2 s2 v2
      exact h (v :: vs) H2 G2 (s1.trans s2 r) ⟨v, vs, rfl, v1.step s2 fun p hp m => (MuIs.new r hp) (m.of s1.kin), v2.from fun p hp => s1.free r hp⟩
end
/-! ### built-in functions by values -/
@[simp] def Vls.rd (env : List Sl) : List Vl → Option (List D)
  | [] => some []
  | l :: ls => match l.rd env, Vls.rd env ls with
    | some d, some ds => some (d :: ds)
    | _, _ => none
def RdsAt (K : PySem.W.Frag) (H G : Hp) : List D → List V → Prop
  | [], xs => xs = []
  | d :: ds, xs => ∃ x r, xs = x :: r ∧ RdAt K H G d x ∧ RdsAt K H G ds r
theorem VlsAt.read {K : PySem.W.Frag} {σ : L2.St} {H0 H G : Hp} {env : List Sl} (r : ER K H G σ env) : ∀ {ls : List Vl} {vs : List V} {ds : List D}, VlsAt K H0 H G σ env ls vs → Vls.rd env ls = some ds → RdsAt K H G ds vs
  | [], vs, ds, h, e => by cases e; exact h
  | l :: ls, vs, ds, h, e => by
    obtain ⟨x, xs, rfl, h1, h2⟩ := h
    unfold Vls.rd at e
    cases e1 : l.rd env with
    | none => rw [e1] at e; cases e
    | some d =>
      cases e2 : Vls.rd env ls with
      | none => rw [e1, e2] at e; cases e
      | some ds' =>
        rw [e1, e2] at e
        cases e
        exact ⟨x, xs, rfl, h1.read r e1, VlsAt.read r h2 e2⟩
@[simp] def blF (g : List D → Gr) (Fs : FxL)  (env : List Sl) : Rs := bindL (Fs env) fun vls e => match Vls.rd e vls with
  | some ds => (g ds).rs e
  | none => .stk
def ClSound (K : PySem.W.Frag) (g : List D → Gr) (r : List V → Hp → VK → Prop) : Prop := ∀ (H G : Hp) (xs : List V) (ds : List D) (Q : VK), Same G H → RdsAt K H G ds xs → GrPost K H G Q (g ds) → r xs H Q
section
variable {X : Cx} {W : WX} {x : Str} {p pos : Pos} {e : Expr} {es : List Expr} {Fs : FxL} {id T : String} {r : List V → Hp → VK → Prop} {g : List D → Gr}
theorem tCB_of {K : PySem.W.Frag} {mg : Str → Option Value} (hs : ClSound K g r) : ∀ σ H Q, tD K mg W (blF g Fs) σ H Q → tCB r (tDA K mg W Fs) σ H Q := by
  intro σ H Q ⟨G, env, re, h⟩
  refine tDA_bind re h fun vls e1 xs H1 G1 s1 v1 p1 => ?_
  have p2 := PostR.shift s1 re p1
  cases e2 : Vls.rd e1 vls with
  | none => simp only [e2] at p2; exact p2.elim
  | some ds =>
    simp only [e2] at p2
    exact hs H1 G1 xs ds Q s1.er.sub (VlsAt.read s1.er v1 e2) (GrPost.of s1.er p2)
theorem ex_callB (hc : CallR X (.builtin id) r) (hs : ClSound X.K g r) (hm : X.mg x = none) (hv : bootBuiltins x = some (.builtin id)) (ha : AX X W (e :: es) Fs) (hg : Gl X x := by rfl) (hn : x ≠ "__name__" := by decide) (hdb : (x == ("__debug__" : Str)) = false := by decide)
    (he : starEach (e :: es) X.env = (false, eval e X.env) :: starEach es X.env := by rfl) (hpl : (backTo pos (starEach es X.env)).any (·.1) = false := by rfl) : EX X W (.Call (.Name x p) (e :: es) [] pos) (blF g Fs) :=
  PE.weak (pe_callB hc hg hm hv ha hn hdb he hpl) (tCB_of hs)
theorem ex_callTy (hc : CallR X (.type T) r) (hs : ClSound X.K g r) (hm : X.mg x = none) (hv : bootBuiltins x = some (.type T)) (ha : AX X W (e :: es) Fs) (hg : Gl X x := by rfl) (hn : x ≠ "__name__" := by decide) (hdb : (x == ("__debug__" : Str)) = false := by decide)
    (he : starEach (e :: es) X.env = (false, eval e X.env) :: starEach es X.env := by rfl) (hpl : (backTo pos (starEach es X.env)).any (·.1) = false := by rfl) : EX X W (.Call (.Name x p) (e :: es) [] pos) (blF g Fs) :=
  PE.weak (pe_callTy hc hg hm hv ha hn hdb he hpl) (tCB_of hs)
end
end HF

set_option Elab.async false
set_option linter.all false
set_option maxRecDepth 100000
set_option maxHeartbeats 4000000
set_option autoImplicit false
namespace HF
open PySem PySem.Spec PyProof.Rows L2
/-! ### data for == -/
mutual
def D.py : D → PyData
  | .non => .none
  | .bl b => .bool b
  | .int i => .int i
  | .str s => .str s
  | .tup xs => .tuple (D.pyL xs)
  | .lst xs => .list (D.pyL xs)
  | .dct _ _ => .dict []
  | .scr _ => .dict []
  | .ty _ => .dict []
def D.pyL : List D → List PyData
  | [] => []
  | d :: ds => D.py d :: D.pyL ds
end
theorem D.pyL_map : ∀ ds : List D, D.pyL ds = ds.map D.py
  | [] => rfl
  | d :: ds => by rw [D.pyL, List.map_cons, D.pyL_map ds]
section
variable {K : PySem.W.Frag} {H G : Hp}
mutual
theorem Rp.dp : ∀ (d : D) (v : V), d.py.canLay0 = true → Rp K H d v → Dp K H v d.py
  | .non, v, _, h => by rw [show v = .non from h]; exact .non
  | .bl b, v, _, h => by rw [show v = .bl b from h]; exact .bl b
  | .int i, v, _, h => by rw [show v = .int i from h]; exact .int i
  | .str s, v, _, h => by rw [show v = .str s from h]; exact .str s
  | .tup ds, v, c, h => by
    obtain ⟨a, xs, rfl, h1, h2⟩ := h
    exact .tup h1 (RpL.dp ds xs (by simpa only [D.py, PyData.canLay0] using c) h2)
  | .lst ds, v, c, h => by
    obtain ⟨a, xs, rfl, h1, h2⟩ := h
    exact .lst (SqL.of h1) (RpL.dp ds xs (by simpa only [D.py, PyData.canLay0] using c) h2)
  | .dct ks ds, v, c, h => by simp [D.py, PyData.canLay0] at c
  | .scr ns, v, c, h => by simp [D.py, PyData.canLay0] at c
  | .ty n, v, c, h => by simp [D.py, PyData.canLay0] at c
theorem RpL.dp : ∀ (ds : List D) (vs : List V), PyData.canLayAll0 (D.pyL ds) = true → RpL K H ds vs → DpAll K H vs (D.pyL ds)
  | [], vs, _, h => by rw [show vs = [] from h]; exact .nil
  | d :: ds, vs, c, h => by
    obtain ⟨x, r, rfl, h1, h2⟩ := h
    simp only [D.pyL, PyData.canLayAll0, Bool.and_eq_true] at c
    exact .cons (Rp.dp d x c.1 h1) (RpL.dp ds r c.2 h2)
end
theorem RdAt.dp {d : D} {v : V} (s : Same G H) (c : d.py.canLay0 = true) (h : RdAt K H G d v) : Dp K H v d.py := by
  rcases h with h | ⟨p, rfl, h⟩
  · exact Rp.dp d v c (Rp.mono s d v h)
  · cases d with
    | lst ds =>
      obtain ⟨xs, h1, h2⟩ := h
      exact .lst (SqL.of h1) (RpL.dp ds xs (by simpa only [D.py, PyData.canLay0] using c) (RpL.mono s ds xs h2))
    | dct ks ds => simp [D.py, PyData.canLay0] at c
    | _ => exact h.elim
/-- a list that is read -/
theorem RdAt.lst {ds : List D} {v : V} (s : Same G H) (h : RdAt K H G (.lst ds) v) : ∃ p xs, v = .ref p ∧ H p = some (.lst xs) ∧ RpL K G ds xs := by
  rcases h with ⟨a, xs, e, h1, h2⟩ | ⟨p, e, xs, h1, h2⟩
  · exact ⟨a, xs, e, s _ _ h1, h2⟩
  · exact ⟨p, xs, e, h1, h2⟩
theorem RdAt.dct {ks : List Key} {ds : List D} {v : V} (s : Same G H) (h : RdAt K H G (.dct ks ds) v) : ∃ p kvs, v = .ref p ∧ H p = some (.dK kvs) ∧ kvs.map (·.1) = ks ∧ RpL K G ds (kvs.map (·.2)) := by
  rcases h with ⟨a, xs, e, h1, h2⟩ | ⟨p, e, xs, h1, h2⟩
  · exact ⟨a, xs, e, s _ _ h1, h2⟩
  · exact ⟨p, xs, e, h1, h2⟩
theorem RdAt.tup {ds : List D} {v : V} (s : Same G H) (h : RdAt K H G (.tup ds) v) : ∃ p xs, v = .ref p ∧ SqT K H p xs ∧ RpL K G ds xs := by
  rcases h with ⟨a, xs, e, h1, h2⟩ | ⟨p, e, h1⟩
  · exact ⟨a, xs, e, Same.sqT s h1, h2⟩
  · exact h1.elim
theorem RdAt.tup0 {ds : List D} {v : V} (h : RdAt K H G (.tup ds) v) : Rp K G (.tup ds) v := by
  rcases h with h | ⟨p, e, h1⟩
  · exact h
  · exact h1.elim
theorem RdAt.scr {ns : List Int} {v : V} (s : Same G H) (h : RdAt K H G (.scr ns) v) : ∃ p, v = .ref p ∧ SqL K H p (ns.map V.int) := by
  rcases h with ⟨a, e, h1⟩ | ⟨p, e, h1⟩
  · exact ⟨a, e, s.seq h1⟩
  · exact h1.elim
theorem RdAt.non {v : V} (h : RdAt K H G .non v) : v = .non := by
  rcases h with h | ⟨p, e, h1⟩
  · exact h
  · exact h1.elim
theorem RdAt.bl {b : Bool} {v : V} (h : RdAt K H G (.bl b) v) : v = .bl b := by
  rcases h with h | ⟨p, e, h1⟩
  · exact h
  · exact h1.elim
theorem RdAt.int {i : Int} {v : V} (h : RdAt K H G (.int i) v) : v = .int i := by
  rcases h with h | ⟨p, e, h1⟩
  · exact h
  · exact h1.elim
theorem RdAt.str {x : Str} {v : V} (h : RdAt K H G (.str x) v) : v = .str x := by
  rcases h with h | ⟨p, e, h1⟩
  · exact h
  · exact h1.elim
theorem RdAt.ty {n : Ty} {v : V} (h : RdAt K H G (.ty n) v) : v = .ty n.name := by
  rcases h with h | ⟨p, e, h1⟩
  · exact h
  · exact h1.elim
/-- a new tuple -/
theorem GrPost.newT {ds : List D} {xs : List V} {Q : VK} {p : Addr} (s : Same G H) (h : GrPost K H G Q (.im (.tup ds))) (r : RpL K G ds xs) (hp : H p = none) : Q (.ref p) (upd H p (.tup xs)) := by
  have g := GS.new (o := .tup xs) s hp
  exact h _ _ _ g ⟨p, xs, rfl, SqT.of upd_same, RpL.mono g.gg ds xs r⟩
/-- a new list -/
theorem GrPost.newL {ds : List D} {xs : List V} {Q : VK} {p : Addr} (s : Same G H) (h : GrPost K H G Q (.fr (.lst ds))) (r : RpL K G ds xs) (hp : H p = none) : Q (.ref p) (upd H p (.lst xs)) :=
  h _ _ _ (GS.newH s hp) hp (s.free hp) ⟨xs, upd_same, r⟩
end
/-! ### arithmetic -/
@[simp] def szB (n : Nat) : Bool := decide (n ≤ 16777216)
theorem szB_le {n : Nat} (h : szB n = true) : n ≤ sizeLine := by rw [sizeLine_eq]; exact of_decide_eq_true h
@[simp] def addD : D → D → Gr
  | .int i, .int j => .im (.int (i + j))
  | .str x, .str y => if szB (x.length + y.length) then .im (.str (x ++ y)) else .stk
  | .lst xs, .lst ys => if szB (xs.length + ys.length) then .fr (.lst (xs ++ ys)) else .stk
  | .tup xs, .tup ys => if szB (xs.length + ys.length) then .im (.tup (xs ++ ys)) else .stk
  | _, _ => .stk
@[simp] def subD : D → D → Gr
  | .int i, .int j => .im (.int (i - j))
  | _, _ => .stk
/-- the size of a product: one factor below 2 ^ 64, or together a million bits -/
@[simp] def mulB (i j : Int) : Bool := decide (-(2 ^ 64) < i ∧ i < 2 ^ 64) || decide (-(2 ^ 64) < j ∧ j < 2 ^ 64) || decide (i.natAbs.log2 + j.natAbs.log2 < 1000000)
def repS (x : Str) (n : Nat) : Str := ⟨(List.replicate n x.cps.toList).flatten.toArray⟩
@[simp] def mulD : D → D → Gr
  | .int i, .int j => if mulB i j then .im (.int (i * j)) else .stk
  | .str x, .int k => if decide (0 ≤ k ∧ k ≤ 100000 ∧ x.length ≤ 100) then .im (.str (repS x k.toNat)) else .stk
  | .tup xs, .int k => if decide (xs ≠ [] ∧ 2 ≤ k ∧ k ≤ 1000 ∧ xs.length ≤ 1000) then .im (.tup (List.replicate k.toNat xs).flatten) else .stk
  | .lst xs, .int k => if decide (0 ≤ k ∧ k ≤ 1000 ∧ xs.length ≤ 1000) then .fr (.lst (List.replicate k.toNat xs).flatten) else .stk
  | _, _ => .stk
@[simp] def divB (j : Int) : Bool := decide (j ≠ 0 ∧ (j.natAbs < 18446744073709551616 ∨ j.natAbs.log2 < 9000))
@[simp] def divD : D → D → Gr
  | .int i, .int j => if divB j then .im (.int (i.fdiv j)) else .stk
  | _, _ => .stk
@[simp] def modD : D → D → Gr
  | .int i, .int j => if decide (j ≠ 0) then .im (.int (i.fmod j)) else .stk
  | _, _ => .stk
@[simp] def powD : D → D → Gr
  | .int i, .int j => if decide (0 ≤ j ∧ j ≤ 1000000 ∧ i.natAbs < 2 ^ 64) then .im (.int (i ^ j.toNat)) else .stk
  | _, _ => .stk
end HF

set_option Elab.async false
set_option linter.all false
set_option maxRecDepth 100000
set_option maxHeartbeats 4000000
set_option autoImplicit false
namespace HF
open PySem PySem.Spec PyProof.Rows L2
/-! ### rules for the operators -/
theorem GrPost.cond {K : PySem.W.Frag} {H G : Hp} {Q : VK} {c : Bool} {g : Gr} (h : GrPost K H G Q (if c = true then g else .stk)) : c = true ∧ GrPost K H G Q g := by
  cases c with
  | true => exact ⟨rfl, h⟩
  | false => exact h.elim
theorem GrPost.condD {K : PySem.W.Frag} {H G : Hp} {Q : VK} {c : Prop} [Decidable c] {g : Gr} (h : GrPost K H G Q (if decide c = true then g else .stk)) : c ∧ GrPost K H G Q g :=
  let ⟨a, b⟩ := GrPost.cond h
  ⟨of_decide_eq_true a, b⟩
section
variable {X : Cx}
def rRepS : R2 := fun x y H Q => ∃ z k, x = .str z ∧ y = .int k ∧ 0 ≤ k ∧ k ≤ 100000 ∧ z.length ≤ 100 ∧ Q (.str (repS z k.toNat)) H
theorem foldl_arr : ∀ (k : Nat) (c acc : Array Nat), (List.replicate k c).foldl (· ++ ·) acc = acc ++ (List.replicate k c.toList).flatten.toArray := by
  intro k
  induction k with
  | zero => intro c acc; simp
  | succ k ih =>
    intro c acc
    rw [List.replicate_succ, List.foldl_cons, ih, List.replicate_succ, List.flatten_cons, Array.append_assoc]
    congr 1
    apply Array.toList_inj.mp
    simp
theorem op_repS : OpR X (binaryOp .Mult) rRepS := by
  intro pins s σ H x y v u Q I rx ry h
  obtain ⟨z, k, rfl, rfl, h0, h1, h2, q⟩ := h
  obtain ⟨t, rfl⟩ := rx
  obtain ⟨t', rfl⟩ := ry
  have hs : sizeLine = 16777216 := sizeLine_eq
  have hk : k.toNat ≤ 100000 := by omega
  have hm : z.length * k.toNat ≤ 10000000 := Nat.le_trans (Nat.mul_le_mul h2 hk) (by decide)
  refine PySem.P.mul_str ?_ (fun _ _ => ?_) (fun _ _ => ?_) ?_
  · rw [decide_eq_false (by omega), decide_eq_false (by omega)]; rfl
  · have h3 : (100 : Int) ≤ (2 ^ 63 - 1) / k := by
      rw [Int.le_ediv_iff_mul_le (by omega)]
      omega
    omega
  · unfold Builtin.Str.tooLong
    rw [hs]
    exact decide_eq_false (by omega)
  · by_cases c1 : k < 1
    · rw [if_pos c1]
      refine ⟨by decide, ?_⟩
      have e : k = 0 := by omega
      subst e
      exact ⟨.str (repS z (0 : Int).toNat), H, I.tok _, ⟨_, rfl⟩, q⟩
    · rw [if_neg c1]
      by_cases c2 : (k == 1 || z.length == 0) = true
      · rw [if_pos c2]
        have e : repS z k.toNat = z := by
          simp only [Bool.or_eq_true, beq_iff_eq] at c2
          rcases c2 with c2 | c2
          · subst c2
            unfold repS
            simp
          · unfold repS
            have z0 : z.cps = #[] := Array.eq_empty_of_size_eq_zero c2
            obtain ⟨cps⟩ := z
            simp only at z0
            subst z0
            simp
        exact ⟨.str z, H, I, ⟨_, rfl⟩, by rw [e] at q; exact q⟩
      · rw [if_neg c2]
        have e : (⟨(List.replicate k.toNat z.cps).foldl (· ++ ·) #[]⟩ : Str) = repS z k.toNat := by
          unfold repS
          rw [foldl_arr]
          simp
        rw [e]
        refine ⟨?_, .str (repS z k.toNat), H, I.tok _, ⟨_, rfl⟩, q⟩
        unfold repS
        show (List.flatten _).toArray.size ≤ _
        have e2 : z.cps.size * k.toNat ≤ 10000000 := hm
        rw [List.size_toArray, List.length_flatten, List.map_replicate, List.sum_replicate_nat, hs]
        rw [Nat.mul_comm] at e2
        simp only [Array.length_toList]
        omega
theorem op_addA : OpR X (binaryOp .Add) (fun x y H Q => rI0 (fun i j => .int (i + j)) x y H Q ∨ (∃ i j, x = .str i ∧ y = .str j ∧ i.length + j.length ≤ sizeLine ∧ Q (.str (i ++ j)) H) ∨ rCat x y H Q ∨ rCatA X.K x y H Q) := op_add.or (op_add_str.or (op_cat.or op_catA))
theorem op_mulG : OpR X (binaryOp .Mult) (rI (fun i j => mulB i j = true) fun i j => .int (i * j)) := opI fun i j _ _ _ _ _ hc q => by
  unfold mulB at hc
  simp only [Bool.or_eq_true, decide_eq_true_eq] at hc
  refine mul_int q ?_
  rcases hc with hc | hc
  · exact CMul.ok hc
  · exact CMulW.ok hc
theorem op_mulA : OpR X (binaryOp .Mult) (fun x y H Q => rI (fun i j => mulB i j = true) (fun i j => .int (i * j)) x y H Q ∨ rRepS x y H Q ∨ rRep x y H Q ∨ rRepT X.K x y H Q) := op_mulG.or (op_repS.or (op_rep.or op_repT))
theorem op_divG : OpR X (binaryOp .FloorDiv) (rI (fun _ j => divB j = true) fun i j => .int (i.fdiv j)) := opI fun i j _ _ _ _ _ hc q => by
  have h := of_decide_eq_true hc
  have h2 : j.natAbs.log2 < 9000 := h.2.elim (fun a => Nat.lt_of_lt_of_le ((Nat.log2_lt (by omega)).mpr (Nat.lt_of_lt_of_le a (by decide) : j.natAbs < 2 ^ 64)) (by decide)) id
  exact floordiv_int h.1 q (.inl (PyProof.noPylong_of_log2 h2))
variable {K : PySem.W.Frag}
theorem snd_add : OpSound X.K addD (fun x y H Q => rI0 (fun i j => .int (i + j)) x y H Q ∨ (∃ i j, x = .str i ∧ y = .str j ∧ i.length + j.length ≤ sizeLine ∧ Q (.str (i ++ j)) H) ∨ rCat x y H Q ∨ rCatA X.K x y H Q) := by
  intro H G x y a b Q s ha hb hq
  cases a with
  | int i =>
    cases b with
    | int j => exact .inl ⟨i, j, ha.int, hb.int, hq.same s rfl⟩
    | _ => exact hq.elim
  | str i =>
    cases b with
    | str j =>
      obtain ⟨c, hq⟩ := GrPost.cond hq
      exact .inr (.inl ⟨i, j, ha.str, hb.str, szB_le c, hq.same s rfl⟩)
    | _ => exact hq.elim
  | lst as =>
    cases b with
    | lst bs =>
      obtain ⟨c, hq⟩ := GrPost.cond hq
      obtain ⟨p, xs, rfl, h1, h2⟩ := ha.lst s
      obtain ⟨p', ys, rfl, h3, h4⟩ := hb.lst s
      exact .inr (.inr (.inl ⟨p, p', xs, ys, rfl, rfl, h1, h3, by rw [h2.length, h4.length]; exact szB_le c, fun q hq' => hq.newL s (h2.append h4) hq'⟩))
    | _ => exact hq.elim
  | tup as =>
    cases b with
    | tup bs =>
      obtain ⟨c, hq⟩ := GrPost.cond hq
      obtain ⟨p, xs, rfl, h1, h2⟩ := ha.tup s
      obtain ⟨p', ys, rfl, h3, h4⟩ := hb.tup s
      refine .inr (.inr (.inr ⟨p, p', xs, ys, rfl, rfl, h1, h3, by rw [h2.length, h4.length]; exact szB_le c, fun e => ?_, fun e1 e2 => ?_, fun _ _ q hq' => hq.newT s (h2.append h4) hq'⟩))
      · subst e
        have e3 : as = [] := by
          have := h2.length
          exact List.eq_nil_of_length_eq_zero this.symm
        subst e3
        exact hq.same s hb.tup0
      · subst e2
        have e3 : bs = [] := by
          have := h4.length
          exact List.eq_nil_of_length_eq_zero this.symm
        subst e3
        rw [List.append_nil] at hq
        exact hq.same s ha.tup0
    | _ => exact hq.elim
  | _ => cases b <;> exact hq.elim
theorem snd_sub : OpSound K subD (rI0 fun i j => .int (i - j)) := by
  intro H G x y a b Q s ha hb hq
  cases a with
  | int i =>
    cases b with
    | int j => exact ⟨i, j, ha.int, hb.int, hq.same s rfl⟩
    | _ => exact hq.elim
  | _ => cases b <;> exact hq.elim
theorem snd_mul : OpSound X.K mulD (fun x y H Q => rI (fun i j => mulB i j = true) (fun i j => .int (i * j)) x y H Q ∨ rRepS x y H Q ∨ rRep x y H Q ∨ rRepT X.K x y H Q) := by
  intro H G x y a b Q s ha hb hq
  cases a with
  | int i =>
    cases b with
    | int j =>
      obtain ⟨c, hq⟩ := GrPost.cond hq
      exact .inl ⟨i, j, ha.int, hb.int, c, hq.same s rfl⟩
    | _ => exact hq.elim
  | str i =>
    cases b with
    | int k =>
      obtain ⟨c, hq⟩ := GrPost.cond hq
      have c := of_decide_eq_true c
      exact .inr (.inl ⟨i, k, ha.str, hb.int, c.1, c.2.1, c.2.2, hq.same s rfl⟩)
    | _ => exact hq.elim
  | lst as =>
    cases b with
    | int k =>
      obtain ⟨c, hq⟩ := GrPost.cond hq
      have c := of_decide_eq_true c
      obtain ⟨p, xs, rfl, h1, h2⟩ := ha.lst s
      refine .inr (.inr (.inl ⟨p, k, xs, rfl, hb.int, h1, by omega, by omega, ?_, fun q hq' => hq.newL s (h2.rep _) hq'⟩))
      rw [h2.length, sizeLine_eq]
      exact Nat.le_trans (Nat.mul_le_mul c.2.2 (show k.toNat ≤ 1000 by omega)) (by decide)
    | _ => exact hq.elim
  | tup as =>
    cases b with
    | int k =>
      obtain ⟨c, hq⟩ := GrPost.cond hq
      have c := of_decide_eq_true c
      obtain ⟨p, xs, rfl, h1, h2⟩ := ha.tup s
      refine .inr (.inr (.inr ⟨p, k, xs, rfl, hb.int, h1, fun e => ?_, c.2.1, c.2.2.1, by rw [h2.length]; exact c.2.2.2, fun q hq' => hq.newT s (h2.rep _) hq'⟩))
      subst e
      exact c.1 (List.eq_nil_of_length_eq_zero h2.length.symm)
    | _ => exact hq.elim
  | _ => cases b <;> exact hq.elim
theorem snd_div : OpSound K divD (rI (fun _ j => divB j = true) fun i j => .int (i.fdiv j)) := by
  intro H G x y a b Q s ha hb hq
  cases a with
  | int i =>
    cases b with
    | int j =>
      obtain ⟨c, hq⟩ := GrPost.cond hq
      exact ⟨i, j, ha.int, hb.int, c, hq.same s rfl⟩
    | _ => exact hq.elim
  | _ => cases b <;> exact hq.elim
theorem snd_mod : OpSound K modD (rI (fun _ j => j ≠ 0) fun i j => .int (i.fmod j)) := by
  intro H G x y a b Q s ha hb hq
  cases a with
  | int i =>
    cases b with
    | int j =>
      obtain ⟨c, hq⟩ := GrPost.cond hq
      exact ⟨i, j, ha.int, hb.int, of_decide_eq_true c, hq.same s rfl⟩
    | _ => exact hq.elim
  | _ => cases b <;> exact hq.elim
theorem snd_pow : OpSound K powD (rI CPow fun i j => .int (i ^ j.toNat)) := by
  intro H G x y a b Q s ha hb hq
  cases a with
  | int i =>
    cases b with
    | int j =>
      obtain ⟨c, hq⟩ := GrPost.cond hq
      have c : (0 ≤ j ∧ j ≤ 1000000 ∧ i.natAbs < 2 ^ 64) := of_decide_eq_true c
      exact ⟨i, j, ha.int, hb.int, c, hq.same s rfl⟩
    | _ => exact hq.elim
  | _ => cases b <;> exact hq.elim
end
section
variable {X : Cx} {W : WX} {a b : Expr} {Fa Fb : Fx} {pos : Pos}
theorem ex_add (ha : EX X W a Fa) (hb : EX X W b Fb) : EX X W (.BinOp a .Add b pos) (op2F addD Fa Fb) := ex_op op_addA snd_add ha hb
theorem ex_sub (ha : EX X W a Fa) (hb : EX X W b Fb) : EX X W (.BinOp a .Sub b pos) (op2F subD Fa Fb) := ex_op op_sub snd_sub ha hb
theorem ex_mul (ha : EX X W a Fa) (hb : EX X W b Fb) : EX X W (.BinOp a .Mult b pos) (op2F mulD Fa Fb) := ex_op op_mulA snd_mul ha hb
theorem ex_div (ha : EX X W a Fa) (hb : EX X W b Fb) : EX X W (.BinOp a .FloorDiv b pos) (op2F divD Fa Fb) := ex_op op_divG snd_div ha hb
theorem ex_mod (ha : EX X W a Fa) (hb : EX X W b Fb) : EX X W (.BinOp a .Mod b pos) (op2F modD Fa Fb) := ex_op op_modN snd_mod ha hb
theorem ex_pow (ha : EX X W a Fa) (hb : EX X W b Fb) : EX X W (.BinOp a .Pow b pos) (op2F powD Fa Fb) := ex_op op_pow snd_pow ha hb
end
end HF

set_option Elab.async false
set_option linter.all false
set_option maxRecDepth 100000
set_option maxHeartbeats 4000000
set_option autoImplicit false
namespace HF
open PySem PySem.Spec PyProof.Rows L2
/-! ### comparisons -/
section
variable {X : Cx}
def rEqM (K : PySem.W.Frag) : R2 := fun x y H Q => ∃ d e, Dp K H x d ∧ Dp K H y e ∧ d.canLay0 = true ∧ e.canLay0 = true ∧ min d.depth e.depth ≤ 64 ∧ Q (.bl (PyData.eqv d e)) H
def rNeM (K : PySem.W.Frag) : R2 := fun x y H Q => ∃ d e, Dp K H x d ∧ Dp K H y e ∧ d.canLay0 = true ∧ e.canLay0 = true ∧ min d.depth e.depth ≤ 64 ∧ Q (.bl (!PyData.eqv d e)) H
theorem op_eqM (hu : X.A.units + 64 < cLine) : OpR X (compareOp .Eq) (rEqM X.K) := by
  intro pins s σ H x y v u Q I rx ry h
  obtain ⟨d, e, hd, he, sd, se, hm, q⟩ := h
  obtain ⟨as, r1⟩ := Dp.reads I d x v hd rx
  obtain ⟨bs, r2⟩ := Dp.reads I e y u he ry
  exact SeqAt.compareEq_reads r1 r2 sd se (by omega) ⟨.bl _, H, I, rfl, q⟩
theorem op_neM (hu : X.A.units + 64 < cLine) : OpR X (compareOp .NotEq) (rNeM X.K) := by
  intro pins s σ H x y v u Q I rx ry h
  obtain ⟨d, e, hd, he, sd, se, hm, q⟩ := h
  obtain ⟨as, r1⟩ := Dp.reads I d x v hd rx
  obtain ⟨bs, r2⟩ := Dp.reads I e y u he ry
  exact SeqAt.compareNe_reads r1 r2 sd se (by omega) ⟨.bl _, H, I, rfl, q⟩
end
/-- == of two data -/
@[simp] def D.eqB (a b : D) : Option Bool := match a, b with
  | .int i, .int j => some (decide (i = j))
  | .str x, .str y => some (decide (x = y))
  | .bl x, .bl y => some (decide (x = y))
  | a, b => if a.py.canLay0 && b.py.canLay0 && decide (min a.py.depth b.py.depth ≤ 64) then some (PyData.eqv a.py b.py) else none
@[simp] def blO (f : Bool → Bool) : Option Bool → Gr
  | some b => .im (.bl (f b))
  | none => .stk
@[simp] def eqD (a b : D) : Gr := blO id (a.eqB b)
@[simp] def neD (a b : D) : Gr := blO not (a.eqB b)
@[simp] def ltD : D → D → Gr
  | .int i, .int j => .im (.bl (decide (i < j)))
  | _, _ => .stk
@[simp] def leD : D → D → Gr
  | .int i, .int j => .im (.bl (decide (i ≤ j)))
  | _, _ => .stk
@[simp] def gtD : D → D → Gr
  | .int i, .int j => .im (.bl (decide (j < i)))
  | _, _ => .stk
@[simp] def geD : D → D → Gr
  | .int i, .int j => .im (.bl (decide (j ≤ i)))
  | _, _ => .stk
@[simp] def D.isB : D → D → Option Bool
  | .bl a, .bl b => some (decide (a = b))
  | .non, .non => some true
  | .bl _, .non => some false
  | .int _, .non => some false
  | .str _, .non => some false
  | .tup _, .non => some false
  | .lst _, .non => some false
  | .dct _ _, .non => some false
  | _, _ => none
@[simp] def isD (a b : D) : Gr := blO id (a.isB b)
@[simp] def isNotD (a b : D) : Gr := blO not (a.isB b)
@[simp] def D.flat : D → Bool
  | .non => true
  | .bl _ => true
  | .int _ => true
  | .str _ => true
  | _ => false
/-- x in xs -/
@[simp] def D.inB (x : D) : D → Option Bool
  | .str z => match x with
    | .str ⟨⟨[c]⟩⟩ => some (decide (c ∈ z.cps.toList))
    | _ => none
  | .tup ds => if x.flat && ds.all D.flat then some (ds.any fun y => PyData.eqv y.py x.py) else none
  | .lst ds => if x.flat && ds.all D.flat then some (ds.any fun y => PyData.eqv y.py x.py) else
      if SeqAt.shaped x.py && SeqAt.shaped (D.lst ds).py then some (ds.any fun y => PyData.eqv y.py x.py) else none
  | _ => none
@[simp] def inD (a b : D) : Gr := blO id (a.inB b)
@[simp] def notInD (a b : D) : Gr := blO not (a.inB b)
theorem flat_V {K : PySem.W.Frag} {G : Hp} {d : D} {v : V} (f : d.flat = true) (h : Rp K G d v) : flatV v = true := by
  cases d with
  | non => rw [show v = .non from h]; rfl
  | bl b => rw [show v = .bl b from h]; rfl
  | int b => rw [show v = .int b from h]; rfl
  | str b => rw [show v = .str b from h]; rfl
  | _ => cases f
theorem flat_eqV {K : PySem.W.Frag} {G : Hp} {d e : D} {v u : V} (f : d.flat = true) (f' : e.flat = true) (h : Rp K G d v) (h' : Rp K G e u) : eqV v u = PyData.eqv d.py e.py := by
  cases d with
  | non => rw [show v = .non from h]; cases e <;> first | (simp [D.flat] at f'; done) | (rw [show u = _ from h']; simp [eqV, D.py, PyData.eqv])
  | bl b => rw [show v = .bl b from h]; cases e <;> first | (simp [D.flat] at f'; done) | (rw [show u = _ from h']; simp [eqV, D.py, PyData.eqv])
  | int b => rw [show v = .int b from h]; cases e <;> first | (simp [D.flat] at f'; done) | (rw [show u = _ from h']; simp [eqV, D.py, PyData.eqv])
  | str b => rw [show v = .str b from h]; cases e <;> first | (simp [D.flat] at f'; done) | (rw [show u = _ from h']; simp [eqV, D.py, PyData.eqv])
  | _ => cases f
theorem flat_all {K : PySem.W.Frag} {G : Hp} : ∀ {ds : List D} {vs : List V}, ds.all D.flat = true → RpL K G ds vs → vs.all flatV = true
  | [], vs, _, h => by rw [show vs = [] from h]; rfl
  | d :: ds, vs, f, h => by
    obtain ⟨x, r, rfl, h1, h2⟩ := h
    simp only [List.all_cons, Bool.and_eq_true] at f ⊢
    exact ⟨flat_V f.1 h1, flat_all f.2 h2⟩
theorem flat_in {K : PySem.W.Frag} {G : Hp} {e : D} {u : V} (f' : e.flat = true) (h' : Rp K G e u) : ∀ {ds : List D} {vs : List V}, ds.all D.flat = true → RpL K G ds vs → inV u vs = ds.any fun y => PyData.eqv y.py e.py
  | [], vs, _, h => by rw [show vs = [] from h]; rfl
  | d :: ds, vs, f, h => by
    obtain ⟨x, r, rfl, h1, h2⟩ := h
    simp only [List.all_cons, Bool.and_eq_true] at f
    have ih := flat_in f' h' f.2 h2
    unfold inV at ih ⊢
    rw [List.any_cons, List.any_cons, ih, flat_eqV f.1 f' h1 h']
theorem RdAt.flat {K : PySem.W.Frag} {H G : Hp} {d : D} {v : V} (f : d.flat = true) (h : RdAt K H G d v) : Rp K G d v := by
  rcases h with h | ⟨p, e, h⟩
  · exact h
  · cases d <;> first | (simp [D.flat] at f; done) | exact h.elim
theorem GrPost.blO {K : PySem.W.Frag} {H G : Hp} {Q : VK} {f : Bool → Bool} {o : Option Bool} (s : Same G H) (h : GrPost K H G Q (blO f o)) : ∃ b, o = some b ∧ Q (.bl (f b)) H := by
  cases o with
  | none => exact h.elim
  | some b => exact ⟨b, rfl, h.same s rfl⟩
section
variable {K : PySem.W.Frag} {X : Cx}
theorem eqB_deep {a b : D} {r : Bool} {H G : Hp} {x y : V} (s : Same G H) (ha : RdAt K H G a x) (hb : RdAt K H G b y) (e : a.eqB b = some r) :
    (scal x y = true ∧ decide (x = y) = r) ∨ (a.py.canLay0 = true ∧ b.py.canLay0 = true ∧ min a.py.depth b.py.depth ≤ 64 ∧ PyData.eqv a.py b.py = r) := by
  have deep : ∀ {a b : D}, (if (a.py.canLay0 && b.py.canLay0 && decide (min a.py.depth b.py.depth ≤ 64)) = true then some (PyData.eqv a.py b.py) else none) = some r → (a.py.canLay0 = true ∧ b.py.canLay0 = true ∧ min a.py.depth b.py.depth ≤ 64 ∧ PyData.eqv a.py b.py = r) := by
    intro a b h
    split at h
    · rename_i c
      simp only [Bool.and_eq_true, decide_eq_true_eq] at c
      exact ⟨c.1.1, c.1.2, c.2, Option.some.inj h⟩
    · cases h
  unfold D.eqB at e
  split at e
  · left
    rw [ha.int, hb.int]
    refine ⟨rfl, ?_⟩
    rw [← Option.some.inj e]
    simp
  · left
    rw [ha.str, hb.str]
    refine ⟨rfl, ?_⟩
    rw [← Option.some.inj e]
    simp
  · left
    rw [ha.bl, hb.bl]
    refine ⟨rfl, ?_⟩
    rw [← Option.some.inj e]
    simp
  · exact .inr (deep e)
theorem snd_eq : OpSound K eqD (fun x y H Q => rEq x y H Q ∨ rEqM K x y H Q) := by
  intro H G x y a b Q s ha hb hq
  obtain ⟨r, e, q⟩ := GrPost.blO s hq
  rcases eqB_deep s ha hb e with ⟨h1, h2⟩ | ⟨h1, h2, h3, h4⟩
  · exact .inl ⟨h1, by rw [h2]; exact q⟩
  · exact .inr ⟨_, _, ha.dp s h1, hb.dp s h2, h1, h2, h3, by rw [h4]; exact q⟩
theorem snd_ne : OpSound K neD (fun x y H Q => rNe x y H Q ∨ rNeM K x y H Q) := by
  intro H G x y a b Q s ha hb hq
  obtain ⟨r, e, q⟩ := GrPost.blO s hq
  rcases eqB_deep s ha hb e with ⟨h1, h2⟩ | ⟨h1, h2, h3, h4⟩
  · exact .inl ⟨h1, by rw [h2]; exact q⟩
  · exact .inr ⟨_, _, ha.dp s h1, hb.dp s h2, h1, h2, h3, by rw [h4]; exact q⟩
theorem snd_lt : OpSound K ltD (rI0 fun i j => .bl (decide (i < j))) := by
  intro H G x y a b Q s ha hb hq
  cases a <;> cases b <;> first | exact hq.elim | exact ⟨_, _, ha.int, hb.int, hq.same s rfl⟩
theorem snd_le : OpSound K leD (rI0 fun i j => .bl (decide (i ≤ j))) := by
  intro H G x y a b Q s ha hb hq
  cases a <;> cases b <;> first | exact hq.elim | exact ⟨_, _, ha.int, hb.int, hq.same s rfl⟩
theorem snd_gt : OpSound K gtD (rI0 fun i j => .bl (decide (j < i))) := by
  intro H G x y a b Q s ha hb hq
  cases a <;> cases b <;> first | exact hq.elim | exact ⟨_, _, ha.int, hb.int, hq.same s rfl⟩
theorem snd_ge : OpSound K geD (rI0 fun i j => .bl (decide (j ≤ i))) := by
  intro H G x y a b Q s ha hb hq
  cases a <;> cases b <;> first | exact hq.elim | exact ⟨_, _, ha.int, hb.int, hq.same s rfl⟩
def rIsB : R2 := fun x y H Q => ∃ a b, x = .bl a ∧ y = .bl b ∧ Q (.bl (decide (a = b))) H
def rNotB : R2 := fun x y H Q => ∃ a b, x = .bl a ∧ y = .bl b ∧ Q (.bl (!decide (a = b))) H
theorem isB_of {a b : D} {r : Bool} {H G : Hp} {x y : V} (s : Same G H) (ha : RdAt K H G a x) (hb : RdAt K H G b y) (e : a.isB b = some r) :
    (∃ c d, x = .bl c ∧ y = .bl d ∧ decide (c = d) = r) ∨ (y = .non ∧ decide (x = .non) = r) := by
  have no : ∀ {p : Addr}, decide (V.ref p = V.non) = false := fun {p} => decide_eq_false (fun z => nomatch z)
  cases a with
  | bl c =>
    cases b with
    | bl d => exact .inl ⟨c, d, ha.bl, hb.bl, Option.some.inj e⟩
    | non => rw [ha.bl]; exact .inr ⟨hb.non, by rw [← Option.some.inj e]; rfl⟩
    | _ => cases e
  | non =>
    cases b with
    | non => rw [ha.non]; exact .inr ⟨hb.non, by rw [← Option.some.inj e]; rfl⟩
    | _ => cases e
  | int c =>
    cases b with
    | non => rw [ha.int]; exact .inr ⟨hb.non, by rw [← Option.some.inj e]; rfl⟩
    | _ => cases e
  | str c =>
    cases b with
    | non => rw [ha.str]; exact .inr ⟨hb.non, by rw [← Option.some.inj e]; rfl⟩
    | _ => cases e
  | tup c =>
    cases b with
    | non => obtain ⟨p, xs, rfl, _⟩ := ha.tup s; exact .inr ⟨hb.non, by rw [← Option.some.inj e]; exact no⟩
    | _ => cases e
  | lst c =>
    cases b with
    | non => obtain ⟨p, xs, rfl, _⟩ := ha.lst s; exact .inr ⟨hb.non, by rw [← Option.some.inj e]; exact no⟩
    | _ => cases e
  | dct c ds =>
    cases b with
    | non => obtain ⟨p, xs, rfl, _⟩ := ha.dct s; exact .inr ⟨hb.non, by rw [← Option.some.inj e]; exact no⟩
    | _ => cases e
  | _ => cases b <;> cases e
theorem snd_is : OpSound K isD (fun x y H Q => rIsB x y H Q ∨ (y = .non ∧ Q (.bl (decide (x = .non))) H)) := by
  intro H G x y a b Q s ha hb hq
  obtain ⟨r, e, q⟩ := GrPost.blO s hq
  rcases isB_of s ha hb e with ⟨c, d, h1, h2, h3⟩ | ⟨h1, h2⟩
  · exact .inl ⟨c, d, h1, h2, by rw [h3]; exact q⟩
  · exact .inr ⟨h1, by rw [h2]; exact q⟩
theorem snd_isnot : OpSound K isNotD (fun x y H Q => rNotB x y H Q ∨ (y = .non ∧ Q (.bl (!decide (x = .non))) H)) := by
  intro H G x y a b Q s ha hb hq
  obtain ⟨r, e, q⟩ := GrPost.blO s hq
  rcases isB_of s ha hb e with ⟨c, d, h1, h2, h3⟩ | ⟨h1, h2⟩
  · exact .inl ⟨c, d, h1, h2, by rw [h3]; exact q⟩
  · exact .inr ⟨h1, by rw [h2]; exact q⟩
/-- what in asks of the values -/
theorem inB_of {a b : D} {r : Bool} {H G : Hp} {x y : V} (s : Same G H) (ha : RdAt K H G a x) (hb : RdAt K H G b y) (e : a.inB b = some r) :
    (∃ (c : Nat) (z : Str), x = .str ⟨#[c]⟩ ∧ y = .str z ∧ decide (c ∈ z.cps.toList) = r) ∨ (∃ p xs, y = .ref p ∧ (SqL K H p xs ∨ SqT K H p xs) ∧ flatV x = true ∧ xs.all flatV = true ∧ inV x xs = r) ∨
      (∃ d ds, Dp K H x d ∧ Dp K H y (.list ds) ∧ SeqAt.shaped d = true ∧ SeqAt.shaped (.list ds) = true ∧ (ds.any fun z => PyData.eqv z d) = r) := by
  have fl : ∀ {ds : List D} {xs : List V}, (a.flat && ds.all D.flat) = true → RpL K G ds xs → flatV x = true ∧ xs.all flatV = true ∧ inV x xs = ds.any fun y => PyData.eqv y.py a.py := by
    intro ds xs c h2
    simp only [Bool.and_eq_true] at c
    have h := ha.flat c.1
    exact ⟨flat_V c.1 h, flat_all c.2 h2, flat_in c.1 h c.2 h2⟩
  cases b with
  | str z =>
    unfold D.inB at e
    simp only at e
    split at e
    · rename_i c
      exact .inl ⟨c, z, ha.str, hb.str, Option.some.inj e⟩
    · cases e
  | tup ds =>
    obtain ⟨p, xs, rfl, h1, h2⟩ := hb.tup s
    unfold D.inB at e
    simp only at e
    split at e
    · rename_i c
      obtain ⟨f1, f2, f3⟩ := fl c h2
      exact .inr (.inl ⟨p, xs, rfl, .inr h1, f1, f2, f3.trans (Option.some.inj e)⟩)
    · cases e
  | lst ds =>
    unfold D.inB at e
    simp only at e
    split at e
    · rename_i c
      obtain ⟨p, xs, rfl, h1, h2⟩ := hb.lst s
      obtain ⟨f1, f2, f3⟩ := fl c h2
      exact .inr (.inl ⟨p, xs, rfl, .inl (SqL.of h1), f1, f2, f3.trans (Option.some.inj e)⟩)
    · split at e
      · rename_i c
        simp only [Bool.and_eq_true] at c
        refine .inr (.inr ⟨a.py, D.pyL ds, ha.dp s (SeqAt.canLay_of_shaped c.1), hb.dp s (SeqAt.canLay_of_shaped c.2), c.1, c.2, ?_⟩)
        rw [← Option.some.inj e, D.pyL_map, List.any_map]
        rfl
      · cases e
  | _ => cases e
def rInS1 : R2 := fun x y H Q => ∃ (c : Nat) (z : Str), x = .str ⟨#[c]⟩ ∧ y = .str z ∧ Q (.bl (decide (c ∈ z.cps.toList))) H
def rNotInS1 : R2 := fun x y H Q => ∃ (c : Nat) (z : Str), x = .str ⟨#[c]⟩ ∧ y = .str z ∧ Q (.bl (!decide (c ∈ z.cps.toList))) H
theorem snd_in : OpSound K inD (fun x y H Q => rInS1 x y H Q ∨ rIn K false x y H Q ∨ rInD K x y H Q) := by
  intro H G x y a b Q s ha hb hq
  obtain ⟨r, e, q⟩ := GrPost.blO s hq
  rcases inB_of s ha hb e with ⟨c, z, h1, h2, h3⟩ | ⟨p, xs, h1, h2, h3, h4, h5⟩ | ⟨d, ds, h1, h2, h3, h4, h5⟩
  · exact .inl ⟨c, z, h1, h2, by rw [h3]; exact q⟩
  · refine .inr (.inl ⟨p, xs, h1, h2, h3, h4, ?_⟩)
    show Q (.bl (inV x xs)) H
    rw [h5]; exact q
  · exact .inr (.inr ⟨d, ds, h1, h2, h3, h4, by rw [h5]; exact q⟩)
theorem snd_notin : OpSound K notInD (fun x y H Q => rNotInS1 x y H Q ∨ rIn K true x y H Q ∨ rNotInD K x y H Q) := by
  intro H G x y a b Q s ha hb hq
  obtain ⟨r, e, q⟩ := GrPost.blO s hq
  rcases inB_of s ha hb e with ⟨c, z, h1, h2, h3⟩ | ⟨p, xs, h1, h2, h3, h4, h5⟩ | ⟨d, ds, h1, h2, h3, h4, h5⟩
  · exact .inl ⟨c, z, h1, h2, by rw [h3]; exact q⟩
  · refine .inr (.inl ⟨p, xs, h1, h2, h3, h4, ?_⟩)
    show Q (.bl (!inV x xs)) H
    rw [h5]; exact q
  · exact .inr (.inr ⟨d, ds, h1, h2, h3, h4, by rw [h5]; exact q⟩)
theorem op_eqA (hu : X.A.units + 65 < cLine) : OpR X (compareOp .Eq) (fun x y H Q => rEq x y H Q ∨ rEqM X.K x y H Q) := op_eq.or (op_eqM (by omega))
theorem op_neA (hu : X.A.units + 65 < cLine) : OpR X (compareOp .NotEq) (fun x y H Q => rNe x y H Q ∨ rNeM X.K x y H Q) := op_ne.or (op_neM (by omega))
theorem op_isA : OpR X (compareOp .Is) (fun x y H Q => rIsB x y H Q ∨ (y = .non ∧ Q (.bl (decide (x = .non))) H)) := op_is_bl.or op_isN
theorem op_isnotA : OpR X (compareOp .IsNot) (fun x y H Q => rNotB x y H Q ∨ (y = .non ∧ Q (.bl (!decide (x = .non))) H)) := op_isnot_bl.or op_notN
theorem op_inA (hu : X.A.units + 65 < cLine) : OpR X (compareOp .In) (fun x y H Q => rInS1 x y H Q ∨ rIn X.K false x y H Q ∨ rInD X.K x y H Q) := op_in_sign.or (op_in_seq.or (op_inD hu))
theorem op_notinA (hu : X.A.units + 65 < cLine) : OpR X (compareOp .NotIn) (fun x y H Q => rNotInS1 x y H Q ∨ rIn X.K true x y H Q ∨ rNotInD X.K x y H Q) := op_notIn_sign.or (op_notIn_seq.or (op_notInD hu))
end
section
variable {X : Cx} {W : WX} {a b : Expr} {Fa Fb : Fx} {pos : Pos}
theorem ex_eq (hu : X.A.units + 65 < cLine) (ha : EX X W a Fa) (hb : EX X W b Fb) : EX X W (.Compare a [.Eq] [b] pos) (op2F eqD Fa Fb) := ex_cmp (op_eqA hu) snd_eq ha hb (nomark _)
theorem ex_ne (hu : X.A.units + 65 < cLine) (ha : EX X W a Fa) (hb : EX X W b Fb) : EX X W (.Compare a [.NotEq] [b] pos) (op2F neD Fa Fb) := ex_cmp (op_neA hu) snd_ne ha hb (nomark _)
theorem ex_lt (ha : EX X W a Fa) (hb : EX X W b Fb) : EX X W (.Compare a [.Lt] [b] pos) (op2F ltD Fa Fb) := ex_cmp op_lt snd_lt ha hb (nomark _)
theorem ex_le (ha : EX X W a Fa) (hb : EX X W b Fb) : EX X W (.Compare a [.LtE] [b] pos) (op2F leD Fa Fb) := ex_cmp op_le snd_le ha hb (nomark _)
theorem ex_gt (ha : EX X W a Fa) (hb : EX X W b Fb) : EX X W (.Compare a [.Gt] [b] pos) (op2F gtD Fa Fb) := ex_cmp op_gt snd_gt ha hb (nomark _)
theorem ex_ge (ha : EX X W a Fa) (hb : EX X W b Fb) : EX X W (.Compare a [.GtE] [b] pos) (op2F geD Fa Fb) := ex_cmp op_ge snd_ge ha hb (nomark _)
theorem ex_is (ha : EX X W a Fa) (hb : EX X W b Fb) : EX X W (.Compare a [.Is] [b] pos) (op2F isD Fa Fb) := ex_cmp op_isA snd_is ha hb (nomark _)
theorem ex_isnot (ha : EX X W a Fa) (hb : EX X W b Fb) : EX X W (.Compare a [.IsNot] [b] pos) (op2F isNotD Fa Fb) := ex_cmp op_isnotA snd_isnot ha hb (nomark _)
theorem ex_in (hu : X.A.units + 65 < cLine) (ha : EX X W a Fa) (hb : EX X W b Fb) (hm : behindInMarks .In b = false := by rfl) : EX X W (.Compare a [.In] [b] pos) (op2F inD Fa Fb) := ex_cmp (op_inA hu) snd_in ha hb hm
theorem ex_notin (hu : X.A.units + 65 < cLine) (ha : EX X W a Fa) (hb : EX X W b Fb) (hm : behindInMarks .NotIn b = false := by rfl) : EX X W (.Compare a [.NotIn] [b] pos) (op2F notInD Fa Fb) := ex_cmp (op_notinA hu) snd_notin ha hb hm
end
end HF

set_option Elab.async false
set_option linter.all false
set_option maxRecDepth 100000
set_option maxHeartbeats 4000000
set_option autoImplicit false
namespace HF
open PySem PySem.Spec PyProof.Rows L2
/-! ### items -/
theorem RpL.atI {K : PySem.W.Frag} {G : Hp} {ds : List D} {xs : List V} {i : Int} {d : D} (h : RpL K G ds xs) (e : L2.atI ds i = some d) : ∃ x, L2.atI xs i = some x ∧ Rp K G d x := by
  unfold L2.atI at e ⊢
  rw [h.length]
  cases q : ixN ds.length i with
  | none => rw [q] at e; cases e
  | some j =>
    rw [q] at e
    exact h.get e
theorem atI_map {α β : Type} (f : α → β) (xs : List α) (i : Int) : L2.atI (xs.map f) i = (L2.atI xs i).map f := by
  unfold L2.atI
  rw [List.length_map]
  cases ixN xs.length i with
  | none => rfl
  | some j => exact List.getElem?_map
@[simp] def imO : Option D → Gr
  | some d => .im d
  | none => .stk
@[simp] def ixD : D → D → Gr
  | .tup ds, .int i => imO (L2.atI ds i)
  | .lst ds, .int i => imO (L2.atI ds i)
  | .str z, .int i => if szB z.length then imO ((L2.atI z.cps.toList i).map fun c => .str ⟨#[c]⟩) else .stk
  | .scr ns, .int i => imO ((L2.atI ns i).map D.int)
  | _, _ => .stk
theorem GrPost.imO {K : PySem.W.Frag} {H G : Hp} {Q : VK} {o : Option D} (h : GrPost K H G Q (imO o)) : ∃ d, o = some d ∧ GrPost K H G Q (.im d) := by
  cases o with
  | none => exact h.elim
  | some d => exact ⟨d, rfl, h⟩
theorem snd_ix {K : PySem.W.Frag} : OpSound K ixD (rIx K) := by
  intro H G x y a b Q s ha hb hq
  cases a with
  | tup ds =>
    cases b with
    | int i =>
      obtain ⟨d, e, q⟩ := hq.imO
      obtain ⟨p, xs, rfl, h1, h2⟩ := ha.tup s
      obtain ⟨v, e2, hv⟩ := h2.atI e
      exact .inr (.inl ⟨p, xs, i, v, rfl, hb.int, h1, e2, q.same s hv⟩)
    | _ => exact hq.elim
  | lst ds =>
    cases b with
    | int i =>
      obtain ⟨d, e, q⟩ := hq.imO
      obtain ⟨p, xs, rfl, h1, h2⟩ := ha.lst s
      obtain ⟨v, e2, hv⟩ := h2.atI e
      exact .inl ⟨p, xs, i, v, rfl, hb.int, SqL.of h1, e2, q.same s hv⟩
    | _ => exact hq.elim
  | str z =>
    cases b with
    | int i =>
      obtain ⟨c, hq⟩ := GrPost.cond hq
      obtain ⟨d, e, q⟩ := hq.imO
      cases e2 : L2.atI z.cps.toList i with
      | none => rw [e2] at e; cases e
      | some k =>
        rw [e2] at e
        cases e
        exact .inr (.inr ⟨z, i, k, ha.str, hb.int, szB_le c, e2, q.same s rfl⟩)
    | _ => exact hq.elim
  | scr ns =>
    cases b with
    | int i =>
      obtain ⟨d, e, q⟩ := hq.imO
      obtain ⟨p, rfl, h1⟩ := ha.scr s
      cases e2 : L2.atI ns i with
      | none => rw [e2] at e; cases e
      | some k =>
        rw [e2] at e
        cases e
        exact .inl ⟨p, _, i, .int k, rfl, hb.int, h1, by rw [atI_map, e2]; rfl, q.same s rfl⟩
    | _ => exact hq.elim
  | _ => cases b <;> exact hq.elim
theorem ex_item {X : Cx} {W : WX} {a b : Expr} {Fa Fb : Fx} {pos : Pos} (ha : EX X W a Fa) (hb : EX X W b Fb) (hp : PlainIx b := by exact fun _ _ => rfl) : EX X W (.Subscript a b pos) (op2F ixD Fa Fb) := ex_ix ix_seq snd_ix ha hb hp
/-! ### slices -/
inductive RsO where
  | ok (o : Option Int) (env : List Sl)
  | err (c : Str) (env : Option (List Sl))
  | stk
abbrev FxO := List Sl → RsO
def PostO (K : PySem.W.Frag) (mg : Str → Option Value) (W : WX) (σ : L2.St) (H G : Hp) (env : List Sl) (Q : Option Int → Hp → Prop) : RsO → Prop
  | .ok o env' => ∀ H' G', Stp K σ H G env H' G' env' → Q o H'
  | .err c e => ∀ C H', mg c = some (.ref C) → ErrAt K σ H G env H' e → W (.ref C) none σ H'
  | .stk => False
def tDO (K : PySem.W.Frag) (mg : Str → Option Value) (W : WX) (F : FxO) : TO := fun σ H Q => ∃ G env, ER K H G σ env ∧ PostO K mg W σ H G env Q (F env)
def OX (X : Cx) (W : WX) (e : Option Expr) (F : FxO) : Prop := PO X e (tDO X.K X.mg W F)
@[simp] def noneO  (env : List Sl) : RsO := .ok none env
@[simp] def someO (F : Fx)  (env : List Sl) : RsO := match F env with
  | .ok v e => (match v.rd e with
    | some (.int i) => .ok (some i) e
    | _ => .stk)
  | .err c e => .err c e
  | .stk => .stk
theorem PO.weak {X : Cx} {e : Option Expr} {t t' : TO} (h : PO X e t) (w : ∀ σ H Q, t' σ H Q → t σ H Q) : PO X e t' := ⟨fun pins s σ H Q I q => h.run pins s σ H Q I (w σ H Q q)⟩
section
variable {X : Cx} {W : WX}
theorem ox_none : OX X W none noneO := PO.weak po_none fun σ H Q ⟨G, env, r, h⟩ => h H G (Stp.refl r)
theorem ox_some {e : Expr} {F : Fx} (h : EX X W e F) : OX X W (some e) (someO F) := by
  refine PO.weak (po_some h) fun σ H Q ⟨G, env, r, h⟩ => ?_
  refine ⟨G, env, r, ?_⟩
  unfold someO at h
  cases e1 : F env with
  | stk => rw [e1] at h; exact h
  | err c e => rw [e1] at h; exact h
  | ok vl env1 =>
    rw [e1] at h
    simp only at h
    cases e2 : vl.rd env1 with
    | none => rw [e2] at h; exact h.elim
    | some d =>
      rw [e2] at h
      cases d with
      | int i => exact fun v H' G' s hv => ⟨i, (hv.read s.er e2).int, h H' G' s⟩
      | _ => exact h.elim
end
def cutL {α : Type} (xs : List α) (lo hi : Option Int) : List α := (xs.drop (HT.sIx xs.length 0 lo)).take (HT.sIx xs.length xs.length hi - HT.sIx xs.length 0 lo)
theorem RpL.cut {K : PySem.W.Frag} {G : Hp} {ds : List D} {xs : List V} (h : RpL K G ds xs) (lo hi : Option Int) : RpL K G (cutL ds lo hi) (cutV xs lo hi) := by
  unfold cutL cutV
  rw [h.length]
  exact (h.drop _).take _
@[simp] def slD (d : D) (lo hi : Option Int) : Gr := match d with
  | .lst ds => .fr (.lst (cutL ds lo hi))
  | .scr ns => .fr (.lst (cutL (ns.map D.int) lo hi))
  | .tup ds => .im (.tup (cutL ds lo hi))
  | .str z => if szB z.length then .im (.str (cutS z lo hi)) else .stk
  | _ => .stk
@[simp] def slF (Fa : Fx) (Fl Fh : FxO)  (env : List Sl) : Rs := bindR (Fa env) fun va e1 => match Fl e1 with
  | .ok lo e2 => (match Fh e2 with
    | .ok hi e3 => (match va.rd e3 with
      | some d => (slD d lo hi).rs e3
      | none => .stk)
    | .err c e => .err c e
    | .stk => .stk)
  | .err c e => .err c e
  | .stk => .stk
theorem PostO.shift {K : PySem.W.Frag} {mg : Str → Option Value} {W : WX} {σ : L2.St} {H G H1 G1 : Hp} {env env1 : List Sl} {Q : Option Int → Hp → Prop} (s : Stp K σ H G env H1 G1 env1) (r : ER K H G σ env) : ∀ {R : RsO}, PostO K mg W σ H G env Q R → PostO K mg W σ H1 G1 env1 Q R
  | .ok vl env', h => fun H' G' s' => h H' G' (s.trans s' r)
  | .err c (some e), h => fun C H' m ⟨G', s'⟩ => h C H' m ⟨G', s.trans s' r⟩
  | .err c none, h => fun C H' m k => h C H' m fun b o e nm => k b o (s.keep b o e nm) fun z => nm (z.of s.kin)
  | .stk, h => h
section
variable {X : Cx} {W : WX}
theorem sl_all {K : PySem.W.Frag} {H G : Hp} {x : V} {d : D} {lo hi : Option Int} {Q : VK} (s : Same G H) (h : RdAt K H G d x) (hq : GrPost K H G Q (slD d lo hi)) : rSlL K x lo hi H Q ∨ rSlA K x lo hi H Q ∨ rSlS x lo hi H Q := by
  cases d with
  | lst ds =>
    obtain ⟨p, xs, rfl, h1, h2⟩ := h.lst s
    exact .inl ⟨p, xs, rfl, SqL.of h1, fun q hp => hq.newL s (h2.cut lo hi) hp⟩
  | scr ns =>
    obtain ⟨p, rfl, h1⟩ := h.scr s
    exact .inl ⟨p, _, rfl, h1, fun q hp => hq.newL s ((RpL.ints ns).cut lo hi) hp⟩
  | tup ds =>
    obtain ⟨p, xs, rfl, h1, h2⟩ := h.tup s
    refine .inr (.inl ⟨p, xs, rfl, h1, fun w => ?_, fun w q hp => hq.newT s (h2.cut lo hi) hp⟩)
    have e : cutL ds lo hi = ds := by
      unfold cutL
      rw [h2.length] at w
      rw [w.1, w.2, List.drop_zero, Nat.sub_zero, List.take_length]
    rw [show slD (.tup ds) lo hi = .im (.tup (cutL ds lo hi)) from rfl, e] at hq
    exact hq.same s h.tup0
  | str z =>
    obtain ⟨c, hq⟩ := GrPost.cond hq
    exact .inr (.inr ⟨z, h.str, szB_le c, hq.same s rfl⟩)
  | _ => exact hq.elim
theorem ex_slice {e : Expr} {lo hi : Option Expr} {Fa : Fx} {Fl Fh : FxO} {p2 pos : Pos} (he : EX X W e Fa) (hl : OX X W lo Fl) (hh : OX X W hi Fh) : EX X W (.Subscript e (.Slice lo hi none p2) pos) (slF Fa Fl Fh) := by
  refine PE.weak (pe_slice (sl_list.or (sl_tupA.or sl_str)) he hl hh) fun σ H Q ⟨G, env, r, h⟩ => ?_
  refine tD_bind r h fun va e1 x H1 G1 s1 v1 p1 => ?_
  refine ⟨G1, e1, s1.er, ?_⟩
  have p1 := PostR.shift s1 r p1
  cases c1 : Fl e1 with
  | stk => simp only [c1] at p1; exact p1
  | err c e => simp only [c1] at p1; cases e <;> exact p1
  | ok lo e2 =>
    simp only [c1] at p1
    intro H2 G2 s2
    refine ⟨G2, e2, s2.er, ?_⟩
    have p2 := PostR.shift s2 s1.er p1
    cases c2 : Fh e2 with
    | stk => simp only [c2] at p2; exact p2
    | err c e => simp only [c2] at p2; cases e <;> exact p2
    | ok hi e3 =>
      simp only [c2] at p2
      intro H3 G3 s3
      have p3 := PostR.shift s3 s2.er p2
      cases c3 : va.rd e3 with
      | none => simp only [c3] at p3; exact p3.elim
      | some d =>
        simp only [c3] at p3
        have nm1 : ∀ p, H p = none → ¬ MuIs σ e1 p := fun p hp m => (MuIs.new r hp) (m.of s1.kin)
        have nm2 : ∀ p, H p = none → ¬ MuIs σ e2 p := fun p hp m => nm1 p hp (m.of s2.kin)
        have v3 := (v1.step s2 nm1).step s3 nm2
        exact sl_all s3.er.sub (v3.read s3.er c3) (GrPost.of s3.er p3)
end
/-! ### displays -/
@[simp] def Vls.toIm : List Vl → Option (List D)
  | [] => some []
  | l :: ls => match l.toIm, Vls.toIm ls with
    | some d, some ds => some (d :: ds)
    | _, _ => none
/-- as VlAt, perhaps frozen -/
def VlW (K : PySem.W.Frag) (H0 H G : Hp) (σ : L2.St) (env : List Sl) : Vl → V → Prop
  | .im d, v => Rp K G d v
  | .fr d, v => ∃ p, v = .ref p ∧ H0 p = none ∧ (G p = none ∨ G p = H p) ∧ MuAt K H G d p
  | .bo i, v => ∃ (s : Sl) (d : D) (p : Addr), env[i]? = some s ∧ s.mu = some d ∧ σ[i]? = some (some (.ref p)) ∧ v = .ref p
def VlsW (K : PySem.W.Frag) (H0 H G : Hp) (σ : L2.St) (env : List Sl) : List Vl → List V → Prop
  | [], xs => xs = []
  | l :: ls, xs => ∃ x r, xs = x :: r ∧ VlW K H0 H G σ env l x ∧ VlsW K H0 H G σ env ls r
theorem VlAt.w {K : PySem.W.Frag} {H0 H G : Hp} {σ : L2.St} {env : List Sl} {l : Vl} {v : V} (h : VlAt K H0 H G σ env l v) : VlW K H0 H G σ env l v := by
  cases l with
  | im d => exact h
  | fr d => obtain ⟨p, e1, e2, e3, e4⟩ := h; exact ⟨p, e1, e2, .inl e3, e4⟩
  | bo i => exact h
theorem VlsAt.w {K : PySem.W.Frag} {H0 H G : Hp} {σ : L2.St} {env : List Sl} : ∀ {ls : List Vl} {vs : List V}, VlsAt K H0 H G σ env ls vs → VlsW K H0 H G σ env ls vs
  | [], vs, h => h
  | l :: ls, vs, h => by
    obtain ⟨x, r, e, h1, h2⟩ := h
    exact ⟨x, r, e, h1.w, VlsAt.w h2⟩
theorem VlW.up {K : PySem.W.Frag} {H0 H G G' : Hp} {σ : L2.St} {env : List Sl} {l : Vl} {v : V} (h : VlW K H0 H G σ env l v) (g : Same G G') (k : ∀ b, G' b = G b ∨ G' b = H b) : VlW K H0 H G' σ env l v := by
  cases l with
  | im d => exact Rp.mono g d v h
  | bo i => exact h
  | fr d =>
    obtain ⟨p, e1, e2, e3, e4⟩ := h
    refine ⟨p, e1, e2, ?_, e4.mono rfl g⟩
    rcases k p with z | z
    · rw [z]; exact e3
    · exact .inr z
theorem VlsW.up {K : PySem.W.Frag} {H0 H G G' : Hp} {σ : L2.St} {env : List Sl} (g : Same G G') (k : ∀ b, G' b = G b ∨ G' b = H b) : ∀ {ls : List Vl} {vs : List V}, VlsW K H0 H G σ env ls vs → VlsW K H0 H G' σ env ls vs
  | [], vs, h => h
  | l :: ls, vs, h => by
    obtain ⟨x, r, e, h1, h2⟩ := h
    exact ⟨x, r, e, h1.up g k, VlsW.up g k h2⟩
theorem VlW.imm {K : PySem.W.Frag} {σ : L2.St} {H0 G0 H G : Hp} {env0 env : List Sl} {vl : Vl} {v : V} {d : D} (h : VlW K H0 H G σ env vl v) (s : Stp K σ H0 G0 env0 H G env) (r0 : ER K H0 G0 σ env0) (e : vl.toIm = some d) :
    ∃ G', Stp K σ H0 G0 env0 H G' env ∧ Same G G' ∧ (∀ b, G' b = G b ∨ G' b = H b) ∧ Rp K G' d v := by
  cases vl with
  | im d' => cases e; exact ⟨G, s, Same.refl _, fun _ => .inl rfl, h⟩
  | bo i => cases e
  | fr d' =>
    cases e
    obtain ⟨p, e1, e2, e3, e4⟩ := h
    by_cases gp : G p = none
    · have h' : VlAt K H0 H G σ env (.fr d) v := ⟨p, e1, e2, gp, e4⟩
      obtain ⟨G', g1, g2, g3, g4⟩ := e4.frz gp s.er.sub
      obtain ⟨G'', w1, w2, w3, w4⟩ := h'.imm s r0 rfl
      have np : ∀ b, H0 b ≠ none → b ≠ p := fun b hb z => hb (by rw [z]; exact e2)
      refine ⟨G', ⟨⟨s.er.len, g2, fun i d q => ?_, fun i t d q1 q2 => ?_, s.er.sep⟩, s.gr.trans g1, fun b hb hg => ?_, s.keep, s.kin⟩, g1, fun b => ?_, by rw [e1]; exact g4⟩
      · obtain ⟨v, w1, w2⟩ := s.er.val i d q
        exact ⟨v, w1, Rp.mono g1 d v w2⟩
      · obtain ⟨p', w1, w2, w3⟩ := s.er.mu i t d q1 q2
        have m : MuIs σ env0 p' := MuIs.of s.kin ⟨i, t, d, q1, q2, w1⟩
        exact ⟨p', w1, by rw [g3 p' (np p' (m.old r0))]; exact w2, w3.mono rfl g1⟩
      · rw [g3 b (np b hb)]
        exact s.old b hb hg
      · by_cases hb : b = p
        · right
          cases q : G' b with
          | none =>
            exfalso
            subst hb
            cases d with
            | lst ds => obtain ⟨a, xs, ea, eb, _⟩ := g4; cases ea; rw [q] at eb; cases eb
            | dct ks ds => obtain ⟨a, xs, ea, eb, _⟩ := g4; cases ea; rw [q] at eb; cases eb
            | _ => exact e4.elim
          | some o => exact (g2 b o q).symm
        · exact .inl (g3 b hb)
    · have e5 : G p = H p := by
        rcases e3 with z | z
        · exact absurd z gp
        · exact z
      refine ⟨G, s, Same.refl _, fun _ => .inl rfl, ?_⟩
      rw [e1]
      cases d with
      | lst ds => obtain ⟨xs, q1, q2⟩ := e4; exact ⟨p, xs, rfl, by rw [e5]; exact q1, q2⟩
      | dct ks ds => obtain ⟨xs, q1, q2, q3⟩ := e4; exact ⟨p, xs, rfl, by rw [e5]; exact q1, q2, q3⟩
      | _ => exact e4.elim
theorem VlsW.imm {K : PySem.W.Frag} {σ : L2.St} {H0 G0 H : Hp} {env0 env : List Sl} (r0 : ER K H0 G0 σ env0) : ∀ {vls : List Vl} {vs : List V} {ds : List D} {G : Hp}, VlsW K H0 H G σ env vls vs → Stp K σ H0 G0 env0 H G env → Vls.toIm vls = some ds →
    ∃ G', Stp K σ H0 G0 env0 H G' env ∧ Same G G' ∧ (∀ b, G' b = G b ∨ G' b = H b) ∧ RpL K G' ds vs
  | [], vs, ds, G, h, s, e => by cases e; exact ⟨G, s, Same.refl _, fun _ => .inl rfl, h⟩
  | l :: ls, vs, ds, G, h, s, e => by
    obtain ⟨x, r, rfl, h1, h2⟩ := h
    unfold Vls.toIm at e
    cases e1 : l.toIm with
    | none => rw [e1] at e; cases e
    | some d =>
      cases e2 : Vls.toIm ls with
      | none => rw [e1, e2] at e; cases e
      | some ds' =>
        rw [e1, e2] at e
        cases e
        obtain ⟨G1, s1, g1, k1, q1⟩ := h1.imm s r0 e1
        obtain ⟨G2, s2, g2, k2, q2⟩ := VlsW.imm r0 (VlsW.up g1 k1 h2) s1 e2
        refine ⟨G2, s2, g1.trans g2, fun b => ?_, x, r, rfl, Rp.mono g2 d x q1, q2⟩
        rcases k2 b with z | z
        · rw [z]; exact k1 b
        · exact .inr z
@[simp] def tupF (Fs : FxL)  (env : List Sl) : Rs := bindL (Fs env) fun vls e => match Vls.toIm vls with
  | some ds => if szB ds.length then .ok (.im (.tup ds)) e else .stk
  | none => .stk
@[simp] def lstF (Fs : FxL)  (env : List Sl) : Rs := bindL (Fs env) fun vls e => match Vls.toIm vls with
  | some ds => if szB ds.length then .ok (.fr (.lst ds)) e else .stk
  | none => .stk
theorem imL_length : ∀ {vls : List Vl} {ds : List D}, Vls.toIm vls = some ds → ds.length = vls.length
  | [], ds, e => by cases e; rfl
  | l :: ls, ds, e => by
    unfold Vls.toIm at e
    cases e1 : l.toIm with
    | none => rw [e1] at e; cases e
    | some d =>
      cases e2 : Vls.toIm ls with
      | none => rw [e1, e2] at e; cases e
      | some ds' =>
        rw [e1, e2] at e
        cases e
        rw [List.length_cons, List.length_cons, imL_length e2]
section
variable {X : Cx} {W : WX} {es : List Expr} {Fs : FxL} {pos : Pos}
theorem ex_tup {x1} (h : AX X W es Fs) : EX X W (.Tuple es x1 pos) (tupF Fs) := by
  refine PE.weak (pe_tup h) fun σ H Q ⟨G, env, r, h⟩ => ?_
  refine tDA_bind r h fun vls e1 vs H1 G1 s1 v1 p1 => ?_
  cases e : Vls.toIm vls with
  | none => simp only [e] at p1; exact p1.elim
  | some ds =>
    simp only [e] at p1
    split at p1
    · rename_i c
      obtain ⟨G2, s2, g2, k2, q2⟩ := VlsW.imm r v1.w s1 e
      refine ⟨by rw [q2.length]; exact szB_le c, fun p hp => ?_⟩
      have g := GS.new (o := .tup vs) s2.er.sub hp
      exact p1 _ _ _ (s2.trans (Stp.gs s2.er g) r) ⟨p, vs, rfl, SqT.of upd_same, RpL.mono g.gg _ _ q2⟩
    · exact p1.elim
theorem ex_lst (h : AX X W es Fs) : EX X W (.List es pos) (lstF Fs) := by
  refine PE.weak (pe_lst h) fun σ H Q ⟨G, env, r, h⟩ => ?_
  refine tDA_bind r h fun vls e1 vs H1 G1 s1 v1 p1 => ?_
  cases e : Vls.toIm vls with
  | none => simp only [e] at p1; exact p1.elim
  | some ds =>
    simp only [e] at p1
    split at p1
    · rename_i c
      obtain ⟨G2, s2, g2, k2, q2⟩ := VlsW.imm r v1.w s1 e
      refine ⟨by rw [q2.length]; exact szB_le c, fun p hp => ?_⟩
      have g := GS.newH (o := .lst vs) s2.er.sub hp
      exact p1 _ _ _ (s2.trans (Stp.gs s2.er g) r) ⟨p, rfl, s2.free r hp, s2.er.sub.free hp, vs, upd_same, q2⟩
    · exact p1.elim
end
end HF

set_option Elab.async false
set_option linter.all false
set_option maxRecDepth 100000
set_option maxHeartbeats 4000000
set_option autoImplicit false
namespace HF
open PySem PySem.Spec PyProof.Rows L2
/-! ### built-in functions -/
def D.cn : D → Option String
  | .non => some "NoneType"
  | .bl _ => some "bool"
  | .int _ => some "int"
  | .str _ => some "str"
  | .tup _ => some "tuple"
  | .lst _ => some "list"
  | .dct _ _ => some "dict"
  | _ => none
@[simp] def D.isi : D → Ty → Option Bool
  | .non, _ => some false
  | .bl _, .bool => some true
  | .bl _, .int => some true
  | .bl _, _ => some false
  | .int _, .int => some true
  | .int _, _ => some false
  | .str _, .str => some true
  | .str _, _ => some false
  | .tup _, .tuple => some true
  | .tup _, _ => some false
  | .lst _, .list => some true
  | .lst _, _ => some false
  | .dct _ _, _ => some false
  | _, _ => none
@[simp] def isiG : List D → Gr
  | [x, .ty t] => blO id (x.isi t)
  | _ => .stk
theorem isi_kit : ∀ {x : D} {t : Ty} {b : Bool}, x.isi t = some b → ∃ c, x.cn = some c ∧ kitB c t.name = some b := by
  intro x t b h
  cases x <;> cases t <;> first | (cases h; exact ⟨_, rfl, by decide +kernel⟩) | cases h
theorem RdAt.tyX {K : PySem.W.Frag} {H G : Hp} {x : D} {v : V} {c : String} (s : Same G H) (h : RdAt K H G x v) (e : x.cn = some c) : TyX K H v (.type c) := by
  cases x with
  | non => cases e; rw [h.non]; exact .base .non
  | bl b => cases e; rw [h.bl]; exact .base (.bl _)
  | int b => cases e; rw [h.int]; exact .base (.int _)
  | str b => cases e; rw [h.str]; exact .base (.str _)
  | tup ds =>
    cases e
    obtain ⟨p, xs, rfl, h1, h2⟩ := h.tup s
    rcases h1 with (h1 | ⟨o, h1⟩) | ⟨o, its, n, h1, h2, _⟩
    · exact .base (.tup h1)
    · exact .fTuple h1
    · exact .kTuple h1 h2
  | lst ds =>
    cases e
    obtain ⟨p, xs, rfl, h1, h2⟩ := h.lst s
    exact .base (.lst h1)
  | dct ks ds =>
    cases e
    obtain ⟨p, xs, rfl, h1, h2⟩ := h.dct s
    exact .base (.dK h1)
  | _ => cases e
theorem RdsAt.two {K : PySem.W.Frag} {H G : Hp} {a b : D} {xs : List V} (h : RdsAt K H G [a, b] xs) : ∃ x y, xs = [x, y] ∧ RdAt K H G a x ∧ RdAt K H G b y := by
  obtain ⟨x, r, rfl, h1, y, r', rfl, h2, h3⟩ := h
  rw [show r' = [] from h3]
  exact ⟨x, y, rfl, h1, h2⟩
theorem RdsAt.one {K : PySem.W.Frag} {H G : Hp} {a : D} {xs : List V} (h : RdsAt K H G [a] xs) : ∃ x, xs = [x] ∧ RdAt K H G a x := by
  obtain ⟨x, r, rfl, h1, h3⟩ := h
  rw [show r = [] from h3]
  exact ⟨x, rfl, h1⟩
theorem snd_isi {K : PySem.W.Frag} : ClSound K isiG (rIsi K) := by
  intro H G xs ds Q s h hq
  unfold isiG at hq
  split at hq
  · rename_i x t
    obtain ⟨b, e, q⟩ := GrPost.blO s hq
    obtain ⟨v, u, rfl, h1, h2⟩ := h.two
    obtain ⟨c, e1, e2⟩ := isi_kit e
    exact ⟨v, u, .type c, .type t.name, b, rfl, by rw [h2.ty]; exact .ty _, h1.tyX s e1, kit_ty e2, q⟩
  · exact hq.elim
@[simp] def lenG : List D → Gr
  | [.str z] => if szB z.length then .im (.int z.length) else .stk
  | [.tup ds] => .im (.int ds.length)
  | [.lst ds] => .im (.int ds.length)
  | [.scr ns] => .im (.int ns.length)
  | _ => .stk
theorem snd_len {K : PySem.W.Frag} : ClSound K lenG (fun xs H Q => ∃ x n, xs = [x] ∧ LenV K x H n ∧ Q (.int n) H) := by
  intro H G xs ds Q s h hq
  unfold lenG at hq
  split at hq
  · rename_i z
    obtain ⟨c, hq⟩ := GrPost.cond hq
    obtain ⟨v, rfl, h1⟩ := h.one
    exact ⟨v, z.length, rfl, by rw [h1.str]; exact ⟨szB_le c, rfl⟩, hq.same s rfl⟩
  · rename_i ds
    obtain ⟨v, rfl, h1⟩ := h.one
    obtain ⟨p, xs, rfl, h1, h2⟩ := h1.tup s
    exact ⟨_, ds.length, rfl, .inr ⟨xs, h1, h2.length.symm⟩, hq.same s rfl⟩
  · rename_i ds
    obtain ⟨v, rfl, h1⟩ := h.one
    obtain ⟨p, xs, rfl, h1, h2⟩ := h1.lst s
    exact ⟨_, ds.length, rfl, .inl ⟨xs, SqL.of h1, h2.length.symm⟩, hq.same s rfl⟩
  · rename_i ns
    obtain ⟨v, rfl, h0⟩ := h.one
    obtain ⟨p, rfl, h1⟩ := RdAt.scr s h0
    exact ⟨_, ns.length, rfl, .inl ⟨_, h1, (List.length_map _).symm⟩, hq.same s rfl⟩
  · exact hq.elim
@[simp] def absG : List D → Gr
  | [.int i] => .im (.int (if i < 0 then -i else i))
  | _ => .stk
theorem snd_abs {K : PySem.W.Frag} : ClSound K absG (fun xs H Q => ∃ i, xs = [.int i] ∧ Q (.int (if i < 0 then -i else i)) H) := by
  intro H G xs ds Q s h hq
  unfold absG at hq
  split at hq
  · rename_i i
    obtain ⟨v, rfl, h1⟩ := h.one
    exact ⟨i, by rw [h1.int], hq.same s rfl⟩
  · exact hq.elim
@[simp] def intG : List D → Gr
  | [.int i] => .im (.int i)
  | [.bl b] => .im (.int (if b then 1 else 0))
  | [.str a] => if decide (a.length ≤ 640) then imO ((PySem.intText? a).map D.int) else .stk
  | _ => .stk
theorem snd_int {K : PySem.W.Frag} : ClSound K intG (fun xs H Q => ((∃ i, xs = [.int i] ∧ Q (.int i) H) ∨ ∃ k, xs = [.bl k] ∧ Q (.int (if k then 1 else 0)) H) ∨ ∃ a n, xs = [.str a] ∧ PySem.intText? a = some n ∧ a.length ≤ 640 ∧ Q (.int n) H) := by
  intro H G xs ds Q s h hq
  unfold intG at hq
  split at hq
  · rename_i i
    obtain ⟨v, rfl, h1⟩ := h.one
    exact .inl (.inl ⟨i, by rw [h1.int], hq.same s rfl⟩)
  · rename_i i
    obtain ⟨v, rfl, h1⟩ := h.one
    exact .inl (.inr ⟨i, by rw [h1.bl], hq.same s rfl⟩)
  · rename_i a
    obtain ⟨c, hq⟩ := GrPost.cond hq
    obtain ⟨v, rfl, h1⟩ := h.one
    obtain ⟨d, e, q⟩ := hq.imO
    cases e2 : PySem.intText? a with
    | none => rw [e2] at e; cases e
    | some n =>
      rw [e2] at e
      cases e
      exact .inr ⟨a, n, by rw [h1.str], e2, of_decide_eq_true c, q.same s rfl⟩
  · exact hq.elim
@[simp] def strG : List D → Gr
  | [.int i] => if decide (i.natAbs.log2 < 1920) then .im (.str (toString i : String)) else .stk
  | _ => .stk
theorem snd_str {K : PySem.W.Frag} : ClSound K strG (fun xs H Q => ∃ i, xs = [.int i] ∧ i.natAbs.log2 < 1920 ∧ Q (.str (toString i)) H) := by
  intro H G xs ds Q s h hq
  unfold strG at hq
  split at hq
  · rename_i i
    obtain ⟨c, hq⟩ := GrPost.condD hq
    obtain ⟨v, rfl, h1⟩ := h.one
    exact ⟨i, by rw [h1.int], c, hq.same s rfl⟩
  · exact hq.elim
@[simp] def tupG : List D → Gr
  | [.lst ds] => .im (.tup ds)
  | [.tup ds] => .im (.tup ds)
  | _ => .stk
theorem snd_tupOf {K : PySem.W.Frag} : ClSound K tupG (fun xs H Q => ∃ p ys, xs = [.ref p] ∧ ((SqL K H p ys ∧ ∀ l, H l = none → Q (.ref l) (upd H l (.tup ys))) ∨ (SqT K H p ys ∧ Q (.ref p) H))) := by
  intro H G xs ds Q s h hq
  unfold tupG at hq
  split at hq
  · rename_i ds
    obtain ⟨v, rfl, h1⟩ := h.one
    obtain ⟨p, xs, rfl, h1, h2⟩ := h1.lst s
    exact ⟨p, xs, rfl, .inl ⟨SqL.of h1, fun l hl => hq.newT s h2 hl⟩⟩
  · rename_i ds
    obtain ⟨v, rfl, h1⟩ := h.one
    have h0 := h1.tup0
    obtain ⟨p, xs, rfl, h1, h2⟩ := h1.tup s
    exact ⟨p, xs, rfl, .inr ⟨h1, hq.same s h0⟩⟩
  · exact hq.elim
@[simp] def lstG : List D → Gr
  | [.lst ds] => .fr (.lst ds)
  | [.tup ds] => .fr (.lst ds)
  | [.scr ns] => .fr (.lst (ns.map D.int))
  | _ => .stk
theorem snd_lstOf {K : PySem.W.Frag} : ClSound K lstG (fun xs H Q => ∃ p ys, xs = [.ref p] ∧ (SqL K H p ys ∨ SqT K H p ys) ∧ ∀ l, H l = none → Q (.ref l) (upd H l (.lst ys))) := by
  intro H G xs ds Q s h hq
  unfold lstG at hq
  split at hq
  · rename_i ds
    obtain ⟨v, rfl, h1⟩ := h.one
    obtain ⟨p, xs, rfl, h1, h2⟩ := h1.lst s
    exact ⟨p, xs, rfl, .inl (SqL.of h1), fun l hl => hq.newL s h2 hl⟩
  · rename_i ds
    obtain ⟨v, rfl, h1⟩ := h.one
    obtain ⟨p, xs, rfl, h1, h2⟩ := h1.tup s
    exact ⟨p, xs, rfl, .inr h1, fun l hl => hq.newL s h2 hl⟩
  · rename_i ns
    obtain ⟨v, rfl, h0⟩ := h.one
    obtain ⟨p, rfl, h1⟩ := RdAt.scr s h0
    exact ⟨p, _, rfl, .inl h1, fun l hl => hq.newL s (RpL.ints ns) hl⟩
  · exact hq.elim
@[simp] def blsD : List D → Option (List Bool)
  | [] => some []
  | .bl b :: r => (blsD r).map (b :: ·)
  | _ => none
@[simp] def intsD : List D → Option (List Int)
  | [] => some []
  | .int b :: r => (intsD r).map (b :: ·)
  | _ => none
theorem blsD_of {K : PySem.W.Frag} {G : Hp} : ∀ {ds : List D} {xs : List V} {bs : List Bool}, RpL K G ds xs → blsD ds = some bs → xs = bs.map V.bl
  | [], xs, bs, h, e => by cases e; exact h
  | .bl b :: r, xs, bs, h, e => by
    obtain ⟨x, r', rfl, h1, h2⟩ := h
    unfold blsD at e
    cases e2 : blsD r with
    | none => rw [e2] at e; cases e
    | some bs' =>
      rw [e2] at e
      cases e
      rw [blsD_of h2 e2, show x = .bl b from h1]
      rfl
  | .non :: r, xs, bs, h, e => by cases e
  | .int _ :: r, xs, bs, h, e => by cases e
  | .str _ :: r, xs, bs, h, e => by cases e
  | .tup _ :: r, xs, bs, h, e => by cases e
  | .lst _ :: r, xs, bs, h, e => by cases e
  | .dct _ _ :: r, xs, bs, h, e => by cases e
  | .scr _ :: r, xs, bs, h, e => by cases e
  | .ty _ :: r, xs, bs, h, e => by cases e
theorem intsD_of {K : PySem.W.Frag} {G : Hp} : ∀ {ds : List D} {xs : List V} {bs : List Int}, RpL K G ds xs → intsD ds = some bs → xs = bs.map V.int
  | [], xs, bs, h, e => by cases e; exact h
  | .int b :: r, xs, bs, h, e => by
    obtain ⟨x, r', rfl, h1, h2⟩ := h
    unfold intsD at e
    cases e2 : intsD r with
    | none => rw [e2] at e; cases e
    | some bs' =>
      rw [e2] at e
      cases e
      rw [intsD_of h2 e2, show x = .int b from h1]
      rfl
  | .non :: r, xs, bs, h, e => by cases e
  | .bl _ :: r, xs, bs, h, e => by cases e
  | .str _ :: r, xs, bs, h, e => by cases e
  | .tup _ :: r, xs, bs, h, e => by cases e
  | .lst _ :: r, xs, bs, h, e => by cases e
  | .dct _ _ :: r, xs, bs, h, e => by cases e
  | .scr _ :: r, xs, bs, h, e => by cases e
  | .ty _ :: r, xs, bs, h, e => by cases e
@[simp] def allG : List D → Gr
  | [.lst ds] => imO ((blsD ds).map fun bs => .bl (bs.all id))
  | _ => .stk
@[simp] def anyG : List D → Gr
  | [.lst ds] => imO ((blsD ds).map fun bs => .bl (bs.any id))
  | _ => .stk
@[simp] def sumG : List D → Gr
  | [.lst ds] => imO ((intsD ds).map fun bs => .int bs.sum)
  | _ => .stk
theorem snd_all {K : PySem.W.Frag} : ClSound K allG (rAll K) := by
  intro H G xs ds Q s h hq
  unfold allG at hq
  split at hq
  · rename_i ds
    obtain ⟨v, rfl, h1⟩ := h.one
    obtain ⟨p, xs, rfl, h1, h2⟩ := h1.lst s
    obtain ⟨d, e, q⟩ := hq.imO
    cases e2 : blsD ds with
    | none => rw [e2] at e; cases e
    | some bs =>
      rw [e2] at e
      cases e
      exact ⟨p, bs, rfl, by rw [← blsD_of h2 e2]; exact SqL.of h1, q.same s rfl⟩
  · exact hq.elim
theorem snd_any {K : PySem.W.Frag} : ClSound K anyG (rAny K) := by
  intro H G xs ds Q s h hq
  unfold anyG at hq
  split at hq
  · rename_i ds
    obtain ⟨v, rfl, h1⟩ := h.one
    obtain ⟨p, xs, rfl, h1, h2⟩ := h1.lst s
    obtain ⟨d, e, q⟩ := hq.imO
    cases e2 : blsD ds with
    | none => rw [e2] at e; cases e
    | some bs =>
      rw [e2] at e
      cases e
      exact ⟨p, bs, rfl, by rw [← blsD_of h2 e2]; exact SqL.of h1, q.same s rfl⟩
  · exact hq.elim
theorem snd_sum {K : PySem.W.Frag} : ClSound K sumG (rSum K) := by
  intro H G xs ds Q s h hq
  unfold sumG at hq
  split at hq
  · rename_i ds
    obtain ⟨v, rfl, h1⟩ := h.one
    obtain ⟨p, xs, rfl, h1, h2⟩ := h1.lst s
    obtain ⟨d, e, q⟩ := hq.imO
    cases e2 : intsD ds with
    | none => rw [e2] at e; cases e
    | some bs =>
      rw [e2] at e
      cases e
      exact ⟨p, bs, rfl, by rw [← intsD_of h2 e2]; exact SqL.of h1, q.same s rfl⟩
  · exact hq.elim
section
variable {X : Cx} {W : WX} {p pos : Pos} {e : Expr} {es : List Expr} {Fs : FxL}
theorem ex_ty {x : Str} {t : Ty} {pos : Pos} (hm : X.mg x = none) (hv : bootBuiltins x = some (.type t.name) := by decide +kernel) (hg : Gl X x := by rfl) (hn : x ≠ "__name__" := by decide) (hd : (x == ("__debug__" : Str)) = false := by decide) : EX X W (.Name x pos) (cF (.ty t)) :=
  ex_c (pe_bltn (v := .ty t.name) hg hm hv rfl hn hd) fun _ => rfl
theorem ex_isi (hm : X.mg "isinstance" = none) (ha : AX X W (e :: es) Fs) (hg : Gl X "isinstance" := by rfl) (he : starEach (e :: es) X.env = (false, eval e X.env) :: starEach es X.env := by rfl) (hpl : (backTo pos (starEach es X.env)).any (·.1) = false := by rfl) : EX X W (.Call (.Name "isinstance" p) (e :: es) [] pos) (blF isiG Fs) :=
  ex_callB (id := "isinstance") call_isi snd_isi hm (by decide +kernel) ha hg (by decide) (by decide) he hpl
theorem ex_len (hm : X.mg "len" = none) (ha : AX X W (e :: es) Fs) (hg : Gl X "len" := by rfl) (he : starEach (e :: es) X.env = (false, eval e X.env) :: starEach es X.env := by rfl) (hpl : (backTo pos (starEach es X.env)).any (·.1) = false := by rfl) : EX X W (.Call (.Name "len" p) (e :: es) [] pos) (blF lenG Fs) :=
  ex_callB (id := "len") call_len snd_len hm (by decide +kernel) ha hg (by decide) (by decide) he hpl
theorem ex_abs (hm : X.mg "abs" = none) (ha : AX X W (e :: es) Fs) (hg : Gl X "abs" := by rfl) (he : starEach (e :: es) X.env = (false, eval e X.env) :: starEach es X.env := by rfl) (hpl : (backTo pos (starEach es X.env)).any (·.1) = false := by rfl) : EX X W (.Call (.Name "abs" p) (e :: es) [] pos) (blF absG Fs) :=
  ex_callB (id := "abs") call_abs snd_abs hm (by decide +kernel) ha hg (by decide) (by decide) he hpl
theorem ex_intC (hm : X.mg "int" = none) (ha : AX X W (e :: es) Fs) (hg : Gl X "int" := by rfl) (he : starEach (e :: es) X.env = (false, eval e X.env) :: starEach es X.env := by rfl) (hpl : (backTo pos (starEach es X.env)).any (·.1) = false := by rfl) : EX X W (.Call (.Name "int" p) (e :: es) [] pos) (blF intG Fs) :=
  ex_callTy (T := "int") (call_int1.or call_int_str) snd_int hm (by decide +kernel) ha hg (by decide) (by decide) he hpl
theorem ex_strC (hm : X.mg "str" = none) (ha : AX X W (e :: es) Fs) (hg : Gl X "str" := by rfl) (he : starEach (e :: es) X.env = (false, eval e X.env) :: starEach es X.env := by rfl) (hpl : (backTo pos (starEach es X.env)).any (·.1) = false := by rfl) : EX X W (.Call (.Name "str" p) (e :: es) [] pos) (blF strG Fs) :=
  ex_callTy (T := "str") call_str_int snd_str hm (by decide +kernel) ha hg (by decide) (by decide) he hpl
theorem ex_tupC (hm : X.mg "tuple" = none) (ha : AX X W (e :: es) Fs) (hg : Gl X "tuple" := by rfl) (he : starEach (e :: es) X.env = (false, eval e X.env) :: starEach es X.env := by rfl) (hpl : (backTo pos (starEach es X.env)).any (·.1) = false := by rfl) : EX X W (.Call (.Name "tuple" p) (e :: es) [] pos) (blF tupG Fs) :=
  ex_callTy (T := "tuple") call_tuple_of snd_tupOf hm (by decide +kernel) ha hg (by decide) (by decide) he hpl
theorem ex_lstC (hm : X.mg "list" = none) (ha : AX X W (e :: es) Fs) (hg : Gl X "list" := by rfl) (he : starEach (e :: es) X.env = (false, eval e X.env) :: starEach es X.env := by rfl) (hpl : (backTo pos (starEach es X.env)).any (·.1) = false := by rfl) : EX X W (.Call (.Name "list" p) (e :: es) [] pos) (blF lstG Fs) :=
  ex_callTy (T := "list") call_list_of snd_lstOf hm (by decide +kernel) ha hg (by decide) (by decide) he hpl
theorem ex_all (hc : X.calm = true) (hm : X.mg "all" = none) (ha : AX X W (e :: es) Fs) (hg : Gl X "all" := by rfl) (he : starEach (e :: es) X.env = (false, eval e X.env) :: starEach es X.env := by rfl) (hpl : (backTo pos (starEach es X.env)).any (·.1) = false := by rfl) : EX X W (.Call (.Name "all" p) (e :: es) [] pos) (blF allG Fs) :=
  ex_callB (id := "all") (cr_all hc) snd_all hm (by decide +kernel) ha hg (by decide) (by decide) he hpl
theorem ex_any (hc : X.calm = true) (hm : X.mg "any" = none) (ha : AX X W (e :: es) Fs) (hg : Gl X "any" := by rfl) (he : starEach (e :: es) X.env = (false, eval e X.env) :: starEach es X.env := by rfl) (hpl : (backTo pos (starEach es X.env)).any (·.1) = false := by rfl) : EX X W (.Call (.Name "any" p) (e :: es) [] pos) (blF anyG Fs) :=
  ex_callB (id := "any") (cr_any hc) snd_any hm (by decide +kernel) ha hg (by decide) (by decide) he hpl
theorem ex_sum (hc : X.calm = true) (hm : X.mg "sum" = none) (ha : AX X W (e :: es) Fs) (hg : Gl X "sum" := by rfl) (he : starEach (e :: es) X.env = (false, eval e X.env) :: starEach es X.env := by rfl) (hpl : (backTo pos (starEach es X.env)).any (·.1) = false := by rfl) : EX X W (.Call (.Name "sum" p) (e :: es) [] pos) (blF sumG Fs) :=
  ex_callB (id := "sum") (cr_sum hc) snd_sum hm (by decide +kernel) ha hg (by decide) (by decide) he hpl
end
/-! ### tests -/
def PostT (K : PySem.W.Frag) (mg : Str → Option Value) (W : WX) (σ : L2.St) (H G : Hp) (env : List Sl) (Q : Bool → Hp → Prop) : Rs → Prop
  | .ok (.im (.bl b)) env' => ∀ H' G', Stp K σ H G env H' G' env' → Q b H'
  | .err c e => ∀ C H', mg c = some (.ref C) → ErrAt K σ H G env H' e → W (.ref C) none σ H'
  | _ => False
def tT (K : PySem.W.Frag) (mg : Str → Option Value) (W : WX) (F : Fx) : TT := fun σ H Q => ∃ G env, ER K H G σ env ∧ PostT K mg W σ H G env Q (F env)
def TX (X : Cx) (W : WX) (e : Expr) (F : Fx) : Prop := PT X e (tT X.K X.mg W F)
theorem tT_tD {K : PySem.W.Frag} {mg : Str → Option Value} {W : WX} {F : Fx} {σ : L2.St} {H : Hp} {Q : Bool → Hp → Prop} (h : tT K mg W F σ H Q) : tD K mg W F σ H (fun x H' => ∃ k, x = .bl k ∧ Q k H') := by
  obtain ⟨G, env, r, h⟩ := h
  refine ⟨G, env, r, ?_⟩
  cases e : F env with
  | stk => rw [e] at h; exact h
  | err c e' => rw [e] at h; exact h
  | ok vl env' =>
    rw [e] at h
    cases vl with
    | im d =>
      cases d with
      | bl b => exact fun v H' G' s hv => ⟨b, hv, h H' G' s⟩
      | _ => exact h.elim
    | _ => exact h.elim
@[simp] def andF (Fa Fb : Fx)  (env : List Sl) : Rs := bindR (Fa env) fun v e => match v with
  | .im (.bl true) => Fb e
  | .im (.bl false) => .ok (.im (.bl false)) e
  | _ => .stk
@[simp] def orF (Fa Fb : Fx)  (env : List Sl) : Rs := bindR (Fa env) fun v e => match v with
  | .im (.bl false) => Fb e
  | .im (.bl true) => .ok (.im (.bl true)) e
  | _ => .stk
@[simp] def notF (Fa : Fx)  (env : List Sl) : Rs := bindR (Fa env) fun v e => match v with
  | .im (.bl b) => .ok (.im (.bl (!b))) e
  | _ => .stk
@[simp] def iteF (Fc Fa Fb : Fx)  (env : List Sl) : Rs := bindR (Fc env) fun v e => match v with
  | .im (.bl true) => Fa e
  | .im (.bl false) => Fb e
  | _ => .stk
section
variable {K : PySem.W.Frag} {mg : Str → Option Value} {W : WX} {σ : L2.St} {H G H1 G1 : Hp} {env env1 : List Sl}
theorem PostT.shift {Q : Bool → Hp → Prop} (s : Stp K σ H G env H1 G1 env1) (r : ER K H G σ env) : ∀ {R : Rs}, PostT K mg W σ H G env Q R → PostT K mg W σ H1 G1 env1 Q R
  | .ok (.im (.bl b)) env', h => fun H' G' s' => h H' G' (s.trans s' r)
  | .ok (.im .non) env', h => h
  | .ok (.im (.int _)) env', h => h
  | .ok (.im (.str _)) env', h => h
  | .ok (.im (.tup _)) env', h => h
  | .ok (.im (.lst _)) env', h => h
  | .ok (.im (.dct _ _)) env', h => h
  | .ok (.im (.scr _)) env', h => h
  | .ok (.im (.ty _)) env', h => h
  | .ok (.fr _) env', h => h
  | .ok (.bo _) env', h => h
  | .err c (some e), h => fun C H' m ⟨G', s'⟩ => h C H' m ⟨G', s.trans s' r⟩
  | .err c none, h => fun C H' m k => h C H' m fun b o e nm => k b o (s.keep b o e nm) fun z => nm (z.of s.kin)
  | .stk, h => h
/-- a test first -/
theorem tT_bind {F : Fx} {k : Bool → Hp → Prop} {P : Rs → Prop} {f : Bool → List Sl → Rs} (r : ER K H G σ env)
    (hb : ∀ b e, F env = .ok (.im (.bl b)) e → P (f b e)) (he : ∀ c e, F env = .err c e → PostT K mg W σ H G env k (.err c e)) (hs : ∀ vl e, F env = .ok vl e → (∀ b, vl ≠ .im (.bl b)) → False) (h0 : F env ≠ .stk)
    (st : ∀ b env1 H1 G1, Stp K σ H G env H1 G1 env1 → P (f b env1) → k b H1) : tT K mg W F σ H k := by
  refine ⟨G, env, r, ?_⟩
  cases e : F env with
  | stk => exact absurd e h0
  | err c e' => exact he c e' e
  | ok vl env' =>
    cases vl with
    | im d =>
      cases d with
      | bl b => exact fun H1 G1 s => st b env' H1 G1 s (hb b env' e)
      | _ => exact (hs _ _ e (fun b z => nomatch z)).elim
    | _ => exact (hs _ _ e (fun b z => nomatch z)).elim
/-- the same, of a result that is to be reached by the test's branches -/
theorem tT_then {F : Fx} {k : Bool → Hp → Prop} {Q : VK} {A B : List Sl → Rs} (r : ER K H G σ env)
    (h : PostR K mg W σ H G env Q (bindR (F env) fun v e => match v with
      | .im (.bl true) => A e
      | .im (.bl false) => B e
      | _ => .stk))
    (st : ∀ b env1 H1 G1, Stp K σ H G env H1 G1 env1 → PostR K mg W σ H1 G1 env1 Q (if b then A env1 else B env1) → k b H1) : tT K mg W F σ H k := by
  refine ⟨G, env, r, ?_⟩
  cases e : F env with
  | stk => rw [e] at h; exact h
  | err c e' => rw [e] at h; exact h
  | ok vl env' =>
    rw [e] at h
    cases vl with
    | im d =>
      cases d with
      | bl b =>
        intro H1 G1 s
        refine st b env' H1 G1 s ?_
        cases b <;> exact PostR.shift s r h
      | _ => exact h.elim
    | _ => exact h.elim
theorem tT_thenT {F : Fx} {k : Bool → Hp → Prop} {Q : Bool → Hp → Prop} {A B : List Sl → Rs} (r : ER K H G σ env)
    (h : PostT K mg W σ H G env Q (bindR (F env) fun v e => match v with
      | .im (.bl true) => A e
      | .im (.bl false) => B e
      | _ => .stk))
    (st : ∀ b env1 H1 G1, Stp K σ H G env H1 G1 env1 → PostT K mg W σ H1 G1 env1 Q (if b then A env1 else B env1) → k b H1) : tT K mg W F σ H k := by
  refine ⟨G, env, r, ?_⟩
  cases e : F env with
  | stk => rw [e] at h; exact h
  | err c e' => rw [e] at h; exact h
  | ok vl env' =>
    rw [e] at h
    cases vl with
    | im d =>
      cases d with
      | bl b =>
        intro H1 G1 s
        refine st b env' H1 G1 s ?_
        cases b <;> exact PostT.shift s r h
      | _ => exact h.elim
    | _ => exact h.elim
end
def TWX (X : Cx) (W : WX) (e : Expr) (F : Fx) : Prop := PW X e (tT X.K X.mg W F)
section
variable {X : Cx} {W : WX} {a b : Expr} {rest : List Expr} {Fa Fb Fc : Fx} {pos : Pos}
theorem orF_swap : ∀ env, orF Fa Fb env = bindR (Fa env) fun v e => match v with
      | .im (.bl true) => .ok (.im (.bl true)) e
      | .im (.bl false) => Fb e
      | _ => .stk := by
  intro env
  unfold orF
  congr 1
  funext v e
  cases v with
  | im d =>
    cases d with
    | bl b => cases b <;> rfl
    | _ => rfl
  | _ => rfl
/-- a comparison, as a test -/
theorem tx_cmp {op : CmpOp} {g : D → D → Gr} {r : R2} (ho : OpR X (compareOp op) r) (hs : OpSound X.K g r) (ha : EX X W a Fa) (hb : EX X W b Fb) (hm : behindInMarks op b = false) : TX X W (.Compare a [op] [b] pos) (op2F g Fa Fb) :=
  PT.weak (pt_cmpR ho ha hb hm) fun σ H Q h => tOp_of hs σ H _ (tT_tD h)
/-- any expression that is True or False -/
theorem tx_val (h : EX X W a Fa) (he : ∀ whole, isTrue a X.env whole = (do let v ← whole; standAt a.pos; holding [v] (truthy v)) := by intro _; rfl) : TX X W a Fa :=
  PT.weak (pt_val h he) fun σ H Q h => tT_tD h
theorem tx_not (h : TX X W a Fa) : TX X W (.UnaryOp .Not a pos) (notF Fa) := by
  refine PT.weak (pt_not h) fun σ H Q ⟨G, env, r, h⟩ => ?_
  refine ⟨G, env, r, ?_⟩
  unfold notF at h
  cases e : Fa env with
  | stk => rw [e] at h; exact h
  | err c e' => rw [e] at h; exact h
  | ok vl env' =>
    rw [e] at h
    cases vl with
    | im d =>
      cases d with
      | bl b => exact h
      | _ => exact h.elim
    | _ => exact h.elim
theorem tw_and1 {a : Expr} (h : TX X W a Fa) : TWX X W (.BoolOp .And [a] pos) Fa := pw_and1 h
theorem tw_or1 {a : Expr} (h : TX X W a Fa) : TWX X W (.BoolOp .Or [a] pos) Fa := pw_or1 h
theorem tw_and (ha : TX X W a Fa) (hb : TWX X W (.BoolOp .And (b :: rest) pos) Fb) : TWX X W (.BoolOp .And (a :: b :: rest) pos) (andF Fa Fb) := by
  refine PW.weak (pw_and ha hb) fun σ H Q ⟨G, env, r, h⟩ => ?_
  refine tT_thenT r h fun b env1 H1 G1 s p => ?_
  cases b with
  | true => exact L2.iteT ⟨G1, env1, s.er, p⟩
  | false => exact L2.iteF (p H1 G1 (Stp.refl s.er))
theorem tw_or (ha : TX X W a Fa) (hb : TWX X W (.BoolOp .Or (b :: rest) pos) Fb) : TWX X W (.BoolOp .Or (a :: b :: rest) pos) (orF Fa Fb) := by
  refine PW.weak (pw_or ha hb) fun σ H Q ⟨G, env, r, h⟩ => ?_
  rw [orF_swap] at h
  refine tT_thenT r h fun b env1 H1 G1 s p => ?_
  cases b with
  | true => exact L2.iteT (p H1 G1 (Stp.refl s.er))
  | false => exact L2.iteF ⟨G1, env1, s.er, p⟩
theorem tx_w (h : TWX X W a Fa) : TX X W a Fa := h.pt
/-! values -/
theorem ex_one {op : BoolOp} (h : EX X W a Fa) : EX X W (.BoolOp op [a] pos) Fa := pe_one h
theorem ex_and (ha : EX X W a Fa) (hb : EX X W (.BoolOp .And (b :: rest) pos) Fb) : EX X W (.BoolOp .And (a :: b :: rest) pos) (andF Fa Fb) := by
  refine PE.weak (pe_and ha hb) fun σ H Q ⟨G, env, r, h⟩ => ?_
  refine tT_tD (tT_then (k := fun c H1 => if c = true then tD X.K X.mg W Fb σ H1 Q else Q (.bl false) H1) r h fun b env1 H1 G1 s p => ?_)
  cases b with
  | true => exact L2.iteT ⟨G1, env1, s.er, p⟩
  | false => exact L2.iteF (p _ H1 G1 (Stp.refl s.er) rfl)
theorem ex_or (ha : EX X W a Fa) (hb : EX X W (.BoolOp .Or (b :: rest) pos) Fb) : EX X W (.BoolOp .Or (a :: b :: rest) pos) (orF Fa Fb) := by
  refine PE.weak (pe_or ha hb) fun σ H Q ⟨G, env, r, h⟩ => ?_
  rw [orF_swap] at h
  refine tT_tD (tT_then (k := fun c H1 => if c = true then Q (.bl true) H1 else tD X.K X.mg W Fb σ H1 Q) r h fun b env1 H1 G1 s p => ?_)
  cases b with
  | true => exact L2.iteT (p _ H1 G1 (Stp.refl s.er) rfl)
  | false => exact L2.iteF ⟨G1, env1, s.er, p⟩
theorem ex_not (h : EX X W a Fa) : EX X W (.UnaryOp .Not a pos) (notF Fa) := by
  refine PE.weak (pe_not h) fun σ H Q ⟨G, env, r, h⟩ => ?_
  refine ⟨G, env, r, ?_⟩
  unfold notF at h
  cases e : Fa env with
  | stk => rw [e] at h; exact h
  | err c e' => rw [e] at h; exact h
  | ok vl env' =>
    rw [e] at h
    cases vl with
    | im d =>
      cases d with
      | bl b => exact fun v H' G' s hv => ⟨b, hv, h _ H' G' s rfl⟩
      | _ => exact h.elim
    | _ => exact h.elim
theorem ex_ifx {c : Expr} (hc : TX X W c Fc) (ha : EX X W a Fa) (hb : EX X W b Fb) : EX X W (.IfExp c a b pos) (iteF Fc Fa Fb) := by
  refine PE.weak (pe_ifExp hc ha hb) fun σ H Q ⟨G, env, r, h⟩ => ?_
  refine tT_then r h fun b env1 H1 G1 s p => ?_
  cases b with
  | true => exact L2.iteT ⟨G1, env1, s.er, p⟩
  | false => exact L2.iteF ⟨G1, env1, s.er, p⟩
end
end HF

set_option Elab.async false
set_option linter.all false
set_option maxRecDepth 100000
set_option maxHeartbeats 4000000
set_option autoImplicit false
namespace HF
open PySem PySem.Spec PyProof.Rows L2
/-! ### statements -/
inductive Out where
  | nx (env : List Sl)
  | rt (v : Vl) (env : List Sl)
  | bk (env : List Sl)
  | ct (env : List Sl)
  | err (c : Str) (env : Option (List Sl))
  | stk
abbrev Sx := List Sl → Out
structure SR (K : PySem.W.Frag) (H0 G0 : Hp) (pa : Nat → Option Addr) (H G : Hp) (σ : L2.St) (env : List Sl) : Prop where
  er : ER K H G σ env
  gr : Same G0 G
  old : ∀ b, H0 b ≠ none → G0 b = none → G b = none
  keep : ∀ b o, H0 b = some o → (∀ j, pa j ≠ some b) → H b = some o
  own : ∀ (i : Nat) (d : D) (p : Addr), env[i]? = some (.own d) → σ[i]? = some (some (.ref p)) → H0 p = none
  io : ∀ j p, pa j = some p → σ[j]? = some (some (.ref p)) ∧ ∃ d, env[j]? = some (.io d)
  iof : ∀ (j : Nat) (d : D), env[j]? = some (.io d) → ∃ p, pa j = some p
section
variable {K : PySem.W.Frag} {mg : Str → Option Value} {W : WX} {H0 G0 H G H1 G1 : Hp} {pa : Nat → Option Addr} {σ : L2.St} {env env1 : List Sl}
theorem SR.notMu (r : SR K H0 G0 pa H G σ env) {b : Addr} {o : HO} (h : H0 b = some o) (n : ∀ j, pa j ≠ some b) : ¬ MuIs σ env b := fun ⟨i, s, d, e1, e2, e3⟩ => by
  cases s with
  | own d' => have := r.own i d' b e1 e3; rw [h] at this; cases this
  | io d' =>
    obtain ⟨p, hp⟩ := r.iof i d' e1
    have := (r.io i p hp).1
    rw [e3] at this
    cases this
    exact n i hp
  | _ => cases e2
theorem SR.step (r : SR K H0 G0 pa H G σ env) (s : Stp K σ H G env H1 G1 env1) : SR K H0 G0 pa H1 G1 σ env1 where
  er := s.er
  gr := r.gr.trans s.gr
  old := fun b hb hg => by
    cases e : H b with
    | some o => exact s.old b (by rw [e]; exact fun z => nomatch z) (r.old b hb hg)
    | none =>
      -- it stood at H0, so it stands
      cases e0 : H0 b with
      | none => exact absurd e0 hb
      | some o =>
        by_cases n : ∀ j, pa j ≠ some b
        · rw [r.keep b o e0 n] at e; cases e
        · have : ∃ j, pa j = some b := by
            apply Classical.byContradiction
            intro z
            exact n fun j hj => z ⟨j, hj⟩
          obtain ⟨j, hj⟩ := this
          obtain ⟨q1, d, q2⟩ := r.io j b hj
          obtain ⟨p, w1, _, w3⟩ := r.er.mu j _ d q2 rfl
          rw [q1] at w1
          cases w1
          exact absurd e w3.there
  keep := fun b o e n => s.keep b o (r.keep b o e n) (r.notMu e n)
  own := fun i d p e1 e2 => by
    have k := s.kin i
    rw [e1] at k
    cases e : env[i]? with
    | none => rw [e] at k; cases (show some (Sl.own d) = none from k)
    | some t =>
      rw [e] at k
      cases t with
      | own d' => exact r.own i d' p e e2
      | io d' => obtain ⟨_, z⟩ := (show ∃ x, some (Sl.own d) = some (.io x) from k); cases z
      | non => cases (show some (Sl.own d) = some .non from k)
      | val d' => cases (show some (Sl.own d) = some (.val d') from k)
  io := fun j p hj => by
    obtain ⟨q1, d, q2⟩ := r.io j p hj
    have k := s.kin j
    rw [q2] at k
    exact ⟨q1, k⟩
  iof := fun j d e => by
    have k := s.kin j
    rw [e] at k
    cases e' : env[j]? with
    | none => rw [e'] at k; cases (show some (Sl.io d) = none from k)
    | some t =>
      rw [e'] at k
      cases t with
      | io d' => exact r.iof j d' e'
      | own d' => obtain ⟨_, z⟩ := (show ∃ x, some (Sl.io d) = some (.own x) from k); cases z
      | non => cases (show some (Sl.io d) = some .non from k)
      | val d' => cases (show some (Sl.io d) = some (.val d') from k)
theorem SR.free0 (r : SR K H0 G0 pa H G σ env) {p : Addr} (h : H p = none) : H0 p = none := by
  cases e0 : H0 p with
  | none => rfl
  | some o =>
    by_cases n : ∀ j, pa j ≠ some p
    · rw [r.keep p o e0 n] at h; cases h
    · have : ∃ j, pa j = some p := by
        apply Classical.byContradiction
        intro z
        exact n fun j hj => z ⟨j, hj⟩
      obtain ⟨j, hj⟩ := this
      obtain ⟨q1, d, q2⟩ := r.io j p hj
      obtain ⟨p', w1, _, w3⟩ := r.er.mu j _ d q2 rfl
      rw [q1] at w1
      cases w1
      exact absurd h w3.there
def SErr (K : PySem.W.Frag) (H0 G0 : Hp) (pa : Nat → Option Addr) (σ' : L2.St) (H' : Hp) : Option (List Sl) → Prop
  | some env' => ∃ G', SR K H0 G0 pa H' G' σ' env'
  | none => ∀ b o, H0 b = some o → (∀ j, pa j ≠ some b) → H' b = some o
def RvAt (K : PySem.W.Frag) (H0 H G : Hp) : Vl → V → Prop
  | .im d, v => Rp K G d v
  | .fr d, v => ∃ p, v = .ref p ∧ H0 p = none ∧ G p = none ∧ MuAt K H G d p
  | .bo _, _ => False
def PostS (K : PySem.W.Frag) (mg : Str → Option Value) (W : WX) (H0 G0 : Hp) (pa : Nat → Option Addr) (D : Ends) : Out → Prop
  | .nx env' => ∀ σ' H' G', SR K H0 G0 pa H' G' σ' env' → D.nx σ' H'
  | .rt vl env' => ∀ v σ' H' G', SR K H0 G0 pa H' G' σ' env' → RvAt K H0 H' G' vl v → D.rt v H'
  | .bk env' => ∀ σ' H' G', SR K H0 G0 pa H' G' σ' env' → D.bk σ' H'
  | .ct env' => ∀ σ' H' G', SR K H0 G0 pa H' G' σ' env' → D.ct σ' H'
  | .err c e => ∀ C σ' H', mg c = some (.ref C) → SErr K H0 G0 pa σ' H' e → W (.ref C) none σ' H'
  | .stk => False
def tS (K : PySem.W.Frag) (mg : Str → Option Value) (W : WX) (H0 G0 : Hp) (pa : Nat → Option Addr) (S : Sx) : TS := fun D σ H => ∃ G env, SR K H0 G0 pa H G σ env ∧ PostS K mg W H0 G0 pa D (S env)
/-- an expression within a statement -/
theorem SR.bind {F : Fx} {D : Ends} {k : VK} {f : Vl → List Sl → Out} (r : SR K H0 G0 pa H G σ env)
    (h : PostS K mg W H0 G0 pa D (match F env with
      | .ok v e => f v e
      | .err c e => .err c e
      | .stk => .stk))
    (st : ∀ vl env1 v H1 G1, F env = .ok vl env1 → Stp K σ H G env H1 G1 env1 → VlAt K H H1 G1 σ env1 vl v → SR K H0 G0 pa H1 G1 σ env1 → PostS K mg W H0 G0 pa D (f vl env1) → k v H1) : tD K mg W F σ H k := by
  refine ⟨G, env, r.er, ?_⟩
  cases e : F env with
  | stk => rw [e] at h; exact h
  | ok vl env1 =>
    rw [e] at h
    exact fun v H1 G1 s v1 => st vl env1 v H1 G1 e s v1 (r.step s) h
  | err c e' =>
    rw [e] at h
    intro C H' m ea
    refine h C σ H' m ?_
    cases e' with
    | some e' => obtain ⟨G', s⟩ := ea; exact ⟨G', r.step s⟩
    | none => exact fun b o q n => ea b o (r.keep b o q n) (r.notMu q n)
/-- a slot is given a new value -/
theorem SR.set {i : Nat} {s : Sl} {d : D} {v : V} (r : SR K H0 G0 pa H G σ env) (hi : env[i]? = some s) (hn : ∀ d, s ≠ .io d) (hv : Rp K G d v) : SR K H0 G0 pa H G (σ.set i (some v)) (env.set i (.val d)) := by
  obtain ⟨hl, _⟩ := List.getElem?_eq_some_iff.mp hi
  have hl' : i < σ.length := by rw [r.er.len]; exact hl
  have ne : ∀ j, i ≠ j → (σ.set i (some v))[j]? = σ[j]? ∧ (env.set i (.val d))[j]? = env[j]? := fun j h => ⟨List.getElem?_set_ne h, List.getElem?_set_ne h⟩
  have eqi : (env.set i (.val d))[i]? = some (.val d) := List.getElem?_set_self hl
  have eqs : (σ.set i (some v))[i]? = some (some v) := List.getElem?_set_self hl'
  refine ⟨⟨by rw [List.length_set, List.length_set]; exact r.er.len, r.er.sub, fun j e hj => ?_, fun j t e h1 h2 => ?_, fun j k t u e f p h1 h2 h3 h4 h5 h6 => ?_⟩, r.gr, r.old, r.keep, fun j e p h1 h2 => ?_, fun j p hj => ?_, fun j e h1 => ?_⟩
  · by_cases z : i = j
    · subst z
      rw [eqi] at hj
      cases hj
      exact ⟨v, eqs, hv⟩
    · rw [(ne j z).2] at hj
      rw [(ne j z).1]
      exact r.er.val j e hj
  · by_cases z : i = j
    · subst z
      rw [eqi] at h1
      cases h1
      cases h2
    · rw [(ne j z).2] at h1
      rw [(ne j z).1]
      exact r.er.mu j t e h1 h2
  · have z1 : i ≠ j := fun z => by subst z; rw [eqi] at h1; cases h1; cases h2
    have z2 : i ≠ k := fun z => by subst z; rw [eqi] at h3; cases h3; cases h4
    rw [(ne j z1).2] at h1
    rw [(ne j z1).1] at h5
    rw [(ne k z2).2] at h3
    rw [(ne k z2).1] at h6
    exact r.er.sep j k t u e f p h1 h2 h3 h4 h5 h6
  · have z1 : i ≠ j := fun z => by subst z; rw [eqi] at h1; cases h1
    rw [(ne j z1).2] at h1
    rw [(ne j z1).1] at h2
    exact r.own j e p h1 h2
  · obtain ⟨q1, e, q2⟩ := r.io j p hj
    have z1 : i ≠ j := fun z => by subst z; rw [hi] at q2; cases q2; exact hn e rfl
    rw [(ne j z1).2, (ne j z1).1]
    exact ⟨q1, e, q2⟩
  · have z1 : i ≠ j := fun z => by subst z; rw [eqi] at h1; cases h1
    rw [(ne j z1).2] at h1
    exact r.iof j e h1
theorem SR.setOwn {i : Nat} {s : Sl} {d : D} {p : Addr} (r : SR K H0 G0 pa H G σ env) (hi : env[i]? = some s) (hn : ∀ d, s ≠ .io d) (hp0 : H0 p = none) (hpm : ¬ MuIs σ env p) (hg : G p = none) (hm : MuAt K H G d p) : SR K H0 G0 pa H G (σ.set i (some (.ref p))) (env.set i (.own d)) := by
  obtain ⟨hl, _⟩ := List.getElem?_eq_some_iff.mp hi
  have hl' : i < σ.length := by rw [r.er.len]; exact hl
  have ne : ∀ j, i ≠ j → (σ.set i (some (.ref p)))[j]? = σ[j]? ∧ (env.set i (.own d))[j]? = env[j]? := fun j h => ⟨List.getElem?_set_ne h, List.getElem?_set_ne h⟩
  have eqi : (env.set i (.own d))[i]? = some (.own d) := List.getElem?_set_self hl
  have eqs : (σ.set i (some (.ref p)))[i]? = some (some (.ref p)) := List.getElem?_set_self hl'
  refine ⟨⟨by rw [List.length_set, List.length_set]; exact r.er.len, r.er.sub, fun j e hj => ?_, fun j t e h1 h2 => ?_, fun j k t u e f q h1 h2 h3 h4 h5 h6 => ?_⟩, r.gr, r.old, r.keep, fun j e q h1 h2 => ?_, fun j q hj => ?_, fun j e h1 => ?_⟩
  · have z1 : i ≠ j := fun z => by subst z; rw [eqi] at hj; cases hj
    rw [(ne j z1).2] at hj
    rw [(ne j z1).1]
    exact r.er.val j e hj
  · by_cases z : i = j
    · subst z
      rw [eqi] at h1
      cases h1
      cases h2
      exact ⟨p, eqs, hg, hm⟩
    · rw [(ne j z).2] at h1
      rw [(ne j z).1]
      exact r.er.mu j t e h1 h2
  · by_cases z1 : i = j
    · by_cases z2 : i = k
      · rw [← z1, ← z2]
      · subst z1
        rw [eqs] at h5
        cases h5
        rw [(ne k z2).2] at h3
        rw [(ne k z2).1] at h6
        exact (hpm ⟨k, u, f, h3, h4, h6⟩).elim
    · by_cases z2 : i = k
      · subst z2
        rw [eqs] at h6
        cases h6
        rw [(ne j z1).2] at h1
        rw [(ne j z1).1] at h5
        exact (hpm ⟨j, t, e, h1, h2, h5⟩).elim
      · rw [(ne j z1).2] at h1
        rw [(ne j z1).1] at h5
        rw [(ne k z2).2] at h3
        rw [(ne k z2).1] at h6
        exact r.er.sep j k t u e f q h1 h2 h3 h4 h5 h6
  · by_cases z : i = j
    · subst z
      rw [eqs] at h2
      cases h2
      exact hp0
    · rw [(ne j z).2] at h1
      rw [(ne j z).1] at h2
      exact r.own j e q h1 h2
  · obtain ⟨q1, e, q2⟩ := r.io j q hj
    have z1 : i ≠ j := fun z => by subst z; rw [hi] at q2; cases q2; exact hn e rfl
    rw [(ne j z1).2, (ne j z1).1]
    exact ⟨q1, e, q2⟩
  · have z1 : i ≠ j := fun z => by subst z; rw [eqi] at h1; cases h1
    rw [(ne j z1).2] at h1
    exact r.iof j e h1
end
/-- what a name may hold from now on -/
@[simp] def Vl.st : Vl → Option Sl
  | .im d => some (.val d)
  | .fr d => some (.own d)
  | .bo _ => none
@[simp] def isIo : Option Sl → Bool
  | some (.io _) => true
  | none => true
  | _ => false
@[simp] def setE (i : Nat) (vl : Vl) (e : List Sl) : Option (List Sl) := match vl.st with
  | some s => if isIo e[i]? then none else some (e.set i s)
  | none => none
@[simp] def asgS (i : Nat) (F : Fx)  (env : List Sl) : Out := match F env with
  | .ok v e => (match setE i v e with
    | some e' => .nx e'
    | none => .stk)
  | .err c e => .err c e
  | .stk => .stk
@[simp] def exprS (F : Fx)  (env : List Sl) : Out := match F env with
  | .ok _ e => .nx e
  | .err c e => .err c e
  | .stk => .stk
@[simp] def retS (F : Fx)  (env : List Sl) : Out := match F env with
  | .ok (.bo i) e => (match e[i]? with
    | some (.own d) => .rt (.fr d) e
    | _ => .stk)
  | .ok v e => .rt v e
  | .err c e => .err c e
  | .stk => .stk
@[simp] def ifS (C : Fx) (S T : Sx)  (env : List Sl) : Out := match C env with
  | .ok (.im (.bl true)) e => S e
  | .ok (.im (.bl false)) e => T e
  | .err c e => .err c e
  | _ => .stk
@[simp] def seqS (S T : Sx)  (env : List Sl) : Out := match S env with
  | .nx e => T e
  | o => o
@[simp] def passS  (env : List Sl) : Out := .nx env
@[simp] def raiseS (c : Str)  (env : List Sl) : Out := .err c (some env)
theorem SR.setE {K : PySem.W.Frag} {H0 G0 H H1 G1 : Hp} {pa : Nat → Option Addr} {σ : L2.St} {env1 e' : List Sl} {i : Nat} {vl : Vl} {v : V} (r : SR K H0 G0 pa H1 G1 σ env1) (h : VlAt K H H1 G1 σ env1 vl v) (nm : ∀ p, H p = none → ¬ MuIs σ env1 p) (f0 : ∀ p, H p = none → H0 p = none) (e : setE i vl env1 = some e') : SR K H0 G0 pa H1 G1 (σ.set i (some v)) e' := by
  unfold HF.setE at e
  cases e1 : vl.st with
  | none => rw [e1] at e; cases e
  | some s =>
    rw [e1] at e
    simp only at e
    split at e
    · cases e
    · rename_i c
      cases e
      cases q : env1[i]? with
      | none => rw [q] at c; exact absurd rfl c
      | some t =>
        rw [q] at c
        have hn : ∀ d, t ≠ .io d := fun d z => by rw [z] at c; exact c rfl
        cases vl with
        | im d => cases e1; exact r.set q hn h
        | fr d =>
          cases e1
          obtain ⟨p, rfl, h1, h2, h3⟩ := h
          exact r.setOwn q hn (f0 p h1) (nm p h1) h2 h3
        | bo j => cases e1
section
variable {X : Cx} {W : WX} {H0 G0 : Hp} {pa : Nat → Option Addr}
abbrev ST (X : Cx) (W : WX) (st : Stmt) (S : Sx) : Prop := ∀ (H0 G0 : Hp) (pa : Nat → Option Addr), PS X st (tS X.K X.mg W H0 G0 pa S)
abbrev STs (X : Cx) (W : WX) (st : List Stmt) (S : Sx) : Prop := ∀ (H0 G0 : Hp) (pa : Nat → Option Addr), PSs X st (tS X.K X.mg W H0 G0 pa S)
theorem sts_nil : STs X W [] passS := fun H0 G0 pa => PSs.weak pss_nil fun D σ H ⟨G, env, r, h⟩ => h σ H G r
theorem tS_seq {K : PySem.W.Frag} {mg : Str → Option Value} {S T : Sx} {D : Ends} {σ : L2.St} {H : Hp} (h : tS K mg W H0 G0 pa (seqS S T) D σ H) : tSeq (tS K mg W H0 G0 pa S) (tS K mg W H0 G0 pa T) D σ H := by
  obtain ⟨G, env, r, h⟩ := h
  refine ⟨G, env, r, ?_⟩
  unfold seqS at h
  cases e : S env with
  | nx e1 => rw [e] at h; exact fun σ' H' G' r' => ⟨G', e1, r', h⟩
  | rt v e1 => rw [e] at h; exact h
  | bk e1 => rw [e] at h; exact h
  | ct e1 => rw [e] at h; exact h
  | err c e1 => rw [e] at h; exact h
  | stk => rw [e] at h; exact h
theorem sts_cons {st : Stmt} {rest : List Stmt} {S T : Sx} (h1 : ST X W st S) (h2 : STs X W rest T) : STs X W (st :: rest) (seqS S T) := fun H0 G0 pa => PSs.weak (pss_cons (h1 H0 G0 pa) (h2 H0 G0 pa)) fun D σ H h => tS_seq h
theorem sts_one {st : Stmt} {S : Sx} (h1 : ST X W st S) : STs X W [st] S := fun H0 G0 pa => pss_one (h1 H0 G0 pa)
theorem st_set {i : Nat} {x : Str} {e : Expr} {F : Fx} {pos pos' : Pos} (hN : X.N.Nodup) (he : EX X W e F) (hi : X.N[i]? = some x := by rfl) (hx : Loc X.env.scope x := by first | exact .inl rfl | exact .inr rfl) (hs : swapsWith e (some (.Name x pos')) pos.line X.env = pure false := by rfl) (hf : X.fn x = true ∨ X.env.scope.names.lookup x = some .local := by first | exact .inl rfl | exact .inr rfl) :
    ST X W (.Assign [.Name x pos'] e pos) (asgS i F) := by
  intro H0 G0 pa
  refine PS.weak (ps_set hN hi hx he hs hf) fun D σ H ⟨G, env, r, h⟩ => ?_
  refine SR.bind r h fun vl env1 v H1 G1 _ s v1 r1 p => ?_
  cases e1 : setE i vl env1 with
  | none => simp only [e1] at p; exact p.elim
  | some e' =>
    simp only [e1] at p
    exact p _ _ _ (r1.setE v1 (fun p hp m => (MuIs.new r.er hp) (m.of s.kin)) (fun p hp => r.free0 hp) e1)
theorem st_expr {e : Expr} {F : Fx} {pos : Pos} (he : EX X W e F) (hs : swapsWith e none pos.line X.env = pure false := by rfl) : ST X W (.Expr e pos) (exprS F) :=
  fun H0 G0 pa => PS.weak (ps_expr he hs) fun D σ H ⟨G, env, r, h⟩ => SR.bind r h fun vl env1 v H1 G1 _ s v1 r1 p => p _ _ _ r1
theorem st_doc {x j pos pos'} : ST X W (.Expr (.Constant (.str x) j pos) pos') passS := fun H0 G0 pa => PS.weak ps_doc fun D σ H ⟨G, env, r, h⟩ => h σ H G r
theorem st_pass {pos} : ST X W (.Pass pos) passS := fun H0 G0 pa => PS.weak ps_pass fun D σ H ⟨G, env, r, h⟩ => h σ H G r
theorem st_ret {e : Expr} {F : Fx} {pos : Pos} (he : EX X W e F) : ST X W (.Return (some e) pos) (retS F) := by
  intro H0 G0 pa
  refine PS.weak (ps_ret he) fun D σ H ⟨G, env, r, h⟩ => ?_
  have h' : PostS X.K X.mg W H0 G0 pa D (match F env with
      | .ok v e => (match v with
        | .bo i => (match e[i]? with
          | some (.own d) => Out.rt (.fr d) e
          | _ => .stk)
        | v => .rt v e)
      | .err c e => .err c e
      | .stk => .stk) := by
    unfold retS at h
    cases e1 : F env with
    | ok v e => rw [e1] at h; cases v <;> exact h
    | err c e => rw [e1] at h; exact h
    | stk => rw [e1] at h; exact h
  refine SR.bind r h' fun vl env1 v H1 G1 _ s v1 r1 p => ?_
  cases vl with
  | im d => exact p v σ H1 G1 r1 v1
  | fr d =>
    obtain ⟨q, rfl, h1, h2, h3⟩ := v1
    exact p _ σ H1 G1 r1 ⟨q, rfl, r.free0 h1, h2, h3⟩
  | bo i =>
    obtain ⟨t, d, q, q1, q2, q3, rfl⟩ := v1
    simp only [q1] at p
    cases t with
    | own d' =>
      obtain ⟨q', w1, w2, w3⟩ := r1.er.mu i _ d' q1 rfl
      rw [q3] at w1
      cases w1
      exact p _ σ H1 G1 r1 ⟨q, rfl, r1.own i d' q q1 q3, w2, w3⟩
    | _ => exact p.elim
@[simp] def retNS  (env : List Sl) : Out := .rt (.im .non) env
theorem st_retN {pos : Pos} : ST X W (.Return none pos) retNS := fun H0 G0 pa => PS.weak ps_retN fun D σ H ⟨G, env, r, h⟩ => h .non σ H G r rfl
@[simp] def brkS  (env : List Sl) : Out := .bk env
@[simp] def cntS  (env : List Sl) : Out := .ct env
theorem st_brk {pos : Pos} : ST X W (.Break pos) brkS := fun H0 G0 pa => PS.weak ps_break fun D σ H ⟨G, env, r, h⟩ => h σ H G r
theorem st_cnt {pos : Pos} : ST X W (.Continue pos) cntS := fun H0 G0 pa => PS.weak ps_continue fun D σ H ⟨G, env, r, h⟩ => h σ H G r
theorem SR.test {K : PySem.W.Frag} {mg : Str → Option Value} {H G : Hp} {σ : L2.St} {env : List Sl} {F : Fx} {D : Ends} {k : Bool → Hp → Prop} {A B : Sx} (r : SR K H0 G0 pa H G σ env) (h : PostS K mg W H0 G0 pa D (ifS F A B env))
    (st : ∀ b env1 H1 G1, SR K H0 G0 pa H1 G1 σ env1 → PostS K mg W H0 G0 pa D (if b then A env1 else B env1) → k b H1) : tT K mg W F σ H k := by
  refine ⟨G, env, r.er, ?_⟩
  unfold ifS at h
  cases e : F env with
  | stk => rw [e] at h; exact h
  | ok vl env1 =>
    rw [e] at h
    cases vl with
    | im d =>
      cases d with
      | bl b =>
        intro H1 G1 s
        refine st b env1 H1 G1 (r.step s) ?_
        cases b <;> exact h
      | _ => exact h.elim
    | _ => exact h.elim
  | err c e' =>
    rw [e] at h
    intro C H' m ea
    refine h C σ H' m ?_
    cases e' with
    | some e' => obtain ⟨G', s⟩ := ea; exact ⟨G', r.step s⟩
    | none => exact fun b o q n => ea b o (r.keep b o q n) (r.notMu q n)
theorem st_if {c : Expr} {a b : List Stmt} {C : Fx} {S T : Sx} {pos : Pos} (hc : TX X W c C) (ha : STs X W a S) (hb : STs X W b T) : ST X W (.If c a b pos) (ifS C S T) := by
  intro H0 G0 pa
  refine PS.weak (ps_if hc (ha H0 G0 pa) (hb H0 G0 pa)) fun D σ H ⟨G, env, r, h⟩ => ?_
  refine SR.test r h fun b env1 H1 G1 r1 p => ?_
  cases b with
  | true => exact L2.iteT ⟨G1, env1, r1, p⟩
  | false => exact L2.iteF ⟨G1, env1, r1, p⟩
/-- raise C('..') -/
theorem st_raise {x m : Str} {j : Nat} {p p2 pos pos2 : Pos} {C : Addr} {bmB : List Value} {B newId initId : String} (hc : X.calm = true) (tk : Takes X W) (F : ExcBaseFacts B newId initId bmB) (q : PySem.W.excIn X.K C bmB newId = true) (gC : X.mg x = some (.ref C)) (kC : PySem.W.keepIn X.K (.ref C) = true) (rs : Raises X (.ref C)) (hg : Gl X x := by rfl) (hdb : (x == ("__debug__" : Str)) = false := by decide) :
    ST X W (.Raise (some (.Call (.Name x p) [.Constant (.str m) j p2] [] pos)) none pos2) (raiseS x) :=
  fun H0 G0 pa => PS.weak (ps_raise hc tk (pmk_own F q gC kC rs hg hdb)) fun D σ H ⟨G, env, r, h⟩ => h C σ H gC ⟨G, r⟩
end
end HF

set_option Elab.async false
set_option linter.all false
set_option maxRecDepth 100000
set_option maxHeartbeats 4000000
set_option autoImplicit false
namespace HF
open PySem PySem.Spec PyProof.Rows L2
/-! ### functions -/
inductive Ar where
  | val (d : D)
  | io (d : D)
@[simp] def Ar.sl : Ar → Sl
  | .val d => .val d
  | .io d => .io d
def ArAt (K : PySem.W.Frag) (H G : Hp) : Ar → V → Prop
  | .val d, v => Rp K G d v
  | .io d, v => ∃ p, v = .ref p ∧ G p = none ∧ MuAt K H G d p
def ArsAt (K : PySem.W.Frag) (H G : Hp) : List Ar → List V → Prop
  | [], xs => xs = []
  | a :: as, xs => ∃ x r, xs = x :: r ∧ ArAt K H G a x ∧ ArsAt K H G as r
theorem ArsAt.length {K : PySem.W.Frag} {H G : Hp} : ∀ {as : List Ar} {vs : List V}, ArsAt K H G as vs → vs.length = as.length
  | [], vs, h => by rw [show vs = [] from h]; rfl
  | a :: as, vs, h => by
    obtain ⟨x, r, rfl, _, h2⟩ := h
    rw [List.length_cons, List.length_cons, ArsAt.length h2]
theorem ArsAt.get {K : PySem.W.Frag} {H G : Hp} : ∀ {as : List Ar} {vs : List V} {i : Nat} {a : Ar}, ArsAt K H G as vs → as[i]? = some a → ∃ v, vs[i]? = some v ∧ ArAt K H G a v
  | [], vs, i, a, h, e => by simp at e
  | b :: as, vs, 0, a, h, e => by
    obtain ⟨x, r, rfl, h1, _⟩ := h
    have : b = a := by simpa using e
    subst this
    exact ⟨x, rfl, h1⟩
  | b :: as, vs, i + 1, a, h, e => by
    obtain ⟨x, r, rfl, _, h2⟩ := h
    obtain ⟨y, e1, h3⟩ := ArsAt.get (i := i) (a := a) h2 (by simpa using e)
    exact ⟨y, by simpa using e1, h3⟩
theorem ArsAt.mk {K : PySem.W.Frag} {H G : Hp} : ∀ {as : List Ar} {vs : List V}, vs.length = as.length → (∀ (i : Nat) (a : Ar) (v : V), as[i]? = some a → vs[i]? = some v → ArAt K H G a v) → ArsAt K H G as vs
  | [], vs, l, h => List.eq_nil_of_length_eq_zero l
  | a :: as, [], l, h => by simp at l
  | a :: as, v :: vs, l, h => ⟨v, vs, rfl, h 0 a v rfl rfl, ArsAt.mk (by simpa using l) fun i b u e1 e2 => h (i + 1) b u (by simpa using e1) (by simpa using e2)⟩
def IoP (as : List Ar) (vs : List V) (p : Addr) : Prop := ∃ (j : Nat) (d : D), as[j]? = some (.io d) ∧ vs[j]? = some (.ref p)
inductive FR where
  | im (d : D) (as : List Ar)
  | fr (d : D) (as : List Ar)
  | err (c : Str)
  | stk
structure CStp (K : PySem.W.Frag) (as : List Ar) (vs : List V) (H G H' G' : Hp) (as' : List Ar) : Prop where
  gr : Same G G'
  gh : Same G' H'
  old : ∀ b, H b ≠ none → G b = none → G' b = none
  keep : ∀ b o, H b = some o → ¬ IoP as vs b → H' b = some o
  ars : ArsAt K H' G' as' vs
  kin : ∀ (j : Nat) (d : D), as[j]? = some (.io d) → ∃ d', as'[j]? = some (.io d')
def PostF (K : PySem.W.Frag) (mg : Str → Option Value) (as : List Ar) (vs : List V) (H G : Hp) (Q : VK) (E : XK) : FR → Prop
  | .im d as' => ∀ v H' G', CStp K as vs H G H' G' as' → Rp K G' d v → Q v H'
  | .fr d as' => ∀ p H' G', CStp K as vs H G H' G' as' → H p = none → G' p = none → MuAt K H' G' d p → Q (.ref p) H'
  | .err c => ∀ C H', mg c = some (.ref C) → (∀ b o, H b = some o → ¬ IoP as vs b → H' b = some o) → E (.ref C) none H'
  | .stk => False
structure ArsOk (K : PySem.W.Frag) (H G : Hp) (as : List Ar) (vs : List V) : Prop where
  sub : Same G H
  ars : ArsAt K H G as vs
  sep : ∀ (i j : Nat) (d e : D) (p : Addr), as[i]? = some (.io d) → as[j]? = some (.io e) → vs[i]? = some (.ref p) → vs[j]? = some (.ref p) → i = j
/-- the promise of a function on data -/
def spD (K : PySem.W.Frag) (mg : Str → Option Value) (n : Nat) (Φ : List Ar → FR) : Sp := fun vs H Q E => ∃ G as, as.length = n ∧ ArsOk K H G as vs ∧ PostF K mg as vs H G Q E (Φ as)
@[simp] def backA : List Ar → List Sl → List Ar
  | [], _ => []
  | .val d :: r, e => .val d :: backA r e.tail
  | .io d :: r, e => (match e.head? with
    | some (.io d') => .io d'
    | _ => .io d) :: backA r e.tail
@[simp] def startE (n : Nat) (as : List Ar) : List Sl := as.map Ar.sl ++ List.replicate (n - as.length) .non
@[simp] def outF (as : List Ar) : Out → FR
  | .nx e => .im .non (backA as e)
  | .rt (.im d) e => .im d (backA as e)
  | .rt (.fr d) e => .fr d (backA as e)
  | .err c _ => .err c
  | _ => .stk
/-- what the function with the body S tells: n names in all -/
@[simp] def runF (n : Nat) (S : Sx) (as : List Ar) : FR := outF as (S (startE n as))
def paOf (as : List Ar) (vs : List V) (j : Nat) : Option Addr := match as[j]?, vs[j]? with
  | some (.io _), some (.ref p) => some p
  | _, _ => none
theorem paOf_io {as : List Ar} {vs : List V} {j : Nat} {p : Addr} : paOf as vs j = some p ↔ ∃ d, as[j]? = some (.io d) ∧ vs[j]? = some (.ref p) := by
  unfold paOf
  constructor
  · intro h
    split at h
    · rename_i d p' e1 e2
      cases h
      exact ⟨d, e1, e2⟩
    · cases h
  · rintro ⟨d, e1, e2⟩
    rw [e1, e2]
theorem getElem_start {n : Nat} {as : List Ar} {i : Nat} {s : Sl} (h : (startE n as)[i]? = some s) (hs : ∀ (z : s = .non), False) : ∃ a, as[i]? = some a ∧ s = a.sl := by
  unfold startE at h
  by_cases hi : i < as.length
  · rw [List.getElem?_append_left (by simpa using hi), List.getElem?_map] at h
    cases e : as[i]? with
    | none => rw [e] at h; cases h
    | some a => rw [e] at h; exact ⟨a, rfl, (Option.some.inj h).symm⟩
  · rw [List.getElem?_append_right (by simpa using hi)] at h
    have := List.mem_of_getElem? h
    exact (hs (List.eq_of_mem_replicate this)).elim
theorem getElem_startV {N : List Str} {vs : List V} {i : Nat} {v : V} (h : vs[i]? = some v) : (L2.start N vs)[i]? = some (some v) := by
  unfold L2.start
  obtain ⟨hi, _⟩ := List.getElem?_eq_some_iff.mp h
  rw [List.getElem?_append_left (by simpa using hi), List.getElem?_map, h]
  rfl
section
variable {K : PySem.W.Frag} {mg : Str → Option Value}
theorem SR.begin {H G : Hp} {as : List Ar} {vs : List V} {N : List Str} (o : ArsOk K H G as vs) (hn : as.length ≤ N.length) : SR K H G (paOf as vs) H G (L2.start N vs) (startE N.length as) := by
  have hl := o.ars.length
  have sv : ∀ (i : Nat) (a : Ar), as[i]? = some a → ∃ v, (L2.start N vs)[i]? = some (some v) ∧ vs[i]? = some v ∧ ArAt K H G a v := fun i a e => by
    obtain ⟨v, e1, e2⟩ := o.ars.get e
    exact ⟨v, getElem_startV e1, e1, e2⟩
  have at_ : ∀ (i : Nat) (a : Ar), as[i]? = some a → (startE N.length as)[i]? = some a.sl := fun i a e => by
    unfold startE
    obtain ⟨hi, _⟩ := List.getElem?_eq_some_iff.mp e
    rw [List.getElem?_append_left (by simpa using hi), List.getElem?_map, e]
    rfl
  have muA : ∀ {i : Nat} {s : Sl} {d : D}, (startE N.length as)[i]? = some s → s.mu = some d → as[i]? = some (.io d) := fun {i s d} e1 e2 => by
    obtain ⟨a, q1, q2⟩ := getElem_start e1 (fun z => by rw [z] at e2; cases e2)
    cases a with
    | val d' => rw [q2] at e2; cases e2
    | io d' => rw [q2] at e2; cases e2; exact q1
  refine ⟨⟨by unfold L2.start startE; simp only [List.length_append, List.length_map, List.length_replicate]; omega, o.sub, fun i d e => ?_, fun i s d e1 e2 => ?_, fun i j s t d e p h1 h2 h3 h4 h5 h6 => ?_⟩, Same.refl _, fun _ _ h => h, fun _ _ h _ => h, fun i d p e1 e2 => ?_, fun j p hj => ?_, fun j d e => ?_⟩
  · obtain ⟨a, q1, q2⟩ := getElem_start e (fun z => nomatch z)
    cases a with
    | val d' =>
      cases q2
      obtain ⟨v, w1, w2, w3⟩ := sv i _ q1
      exact ⟨v, w1, w3⟩
    | io d' => cases q2
  · obtain ⟨v, w1, w2, p, rfl, w3, w4⟩ := sv i _ (muA e1 e2)
    exact ⟨p, w1, w3, w4⟩
  · obtain ⟨v, w1, w2, _⟩ := sv i _ (muA h1 h2)
    obtain ⟨u, z1, z2, _⟩ := sv j _ (muA h3 h4)
    rw [w1] at h5
    rw [z1] at h6
    cases h5
    cases h6
    exact o.sep i j d e p (muA h1 h2) (muA h3 h4) w2 z2
  · obtain ⟨a, q1, q2⟩ := getElem_start e1 (fun z => nomatch z)
    cases a <;> cases q2
  · obtain ⟨d, e1, e2⟩ := paOf_io.mp hj
    exact ⟨getElem_startV e2, d, at_ j _ e1⟩
  · obtain ⟨v, w1, w2, p, rfl, w3, w4⟩ := sv j _ (muA e rfl)
    exact ⟨p, paOf_io.mpr ⟨d, muA e rfl, w2⟩⟩
theorem backA_get : ∀ {as : List Ar} {e : List Sl} {i : Nat} {a : Ar}, (backA as e)[i]? = some a → ∃ b, as[i]? = some b ∧ match b with
    | .val d => a = .val d
    | .io d => (∃ d', e[i]? = some (.io d') ∧ a = .io d') ∨ ((∀ d', e[i]? ≠ some (.io d')) ∧ a = .io d)
  | [], e, i, a, h => by simp [backA] at h
  | .val d :: r, e, 0, a, h => by
    have : Ar.val d = a := by simpa [backA] using h
    exact ⟨.val d, rfl, this.symm⟩
  | .io d :: r, e, 0, a, h => by
    refine ⟨.io d, rfl, ?_⟩
    cases e with
    | nil =>
      right
      have : Ar.io d = a := by simpa [backA] using h
      exact ⟨fun d' => by simp, this.symm⟩
    | cons s t =>
      cases s with
      | io d' =>
        left
        have : Ar.io d' = a := by simpa [backA] using h
        exact ⟨d', rfl, this.symm⟩
      | _ =>
        right
        have : Ar.io d = a := by simpa [backA] using h
        exact ⟨fun d' => by simp, this.symm⟩
  | .val d :: r, e, i + 1, a, h => by
    have h' : (backA r e.tail)[i]? = some a := by simpa [backA] using h
    obtain ⟨b, q1, q2⟩ := backA_get h'
    refine ⟨b, by simpa using q1, ?_⟩
    have ee : e.tail[i]? = e[i + 1]? := by cases e <;> simp
    rw [ee] at q2
    exact q2
  | .io d :: r, e, i + 1, a, h => by
    have h' : (backA r e.tail)[i]? = some a := by simpa [backA] using h
    obtain ⟨b, q1, q2⟩ := backA_get h'
    refine ⟨b, by simpa using q1, ?_⟩
    have ee : e.tail[i]? = e[i + 1]? := by cases e <;> simp
    rw [ee] at q2
    exact q2
theorem backA_length : ∀ (as : List Ar) (e : List Sl), (backA as e).length = as.length
  | [], e => rfl
  | .val d :: r, e => by simp [backA, backA_length r]
  | .io d :: r, e => by simp [backA, backA_length r]
theorem SR.cstp {H G H' G' : Hp} {as : List Ar} {vs : List V} {N : List Str} {σ' : L2.St} {env' : List Sl} (o : ArsOk K H G as vs) (r : SR K H G (paOf as vs) H' G' σ' env') : CStp K as vs H G H' G' (backA as env') := by
  have nio : ∀ b, ¬ IoP as vs b → ∀ j, paOf as vs j ≠ some b := fun b n j hj => n (by
    obtain ⟨d, e1, e2⟩ := paOf_io.mp hj
    exact ⟨j, d, e1, e2⟩)
  have cio : ∀ (j : Nat) (d : D), as[j]? = some (.io d) → ∃ (p : Addr) (d' : D), vs[j]? = some (.ref p) ∧ env'[j]? = some (.io d') ∧ G' p = none ∧ MuAt K H' G' d' p := fun j d e => by
    obtain ⟨v, e1, p, rfl, e2, e3⟩ := o.ars.get e
    obtain ⟨q1, d', q2⟩ := r.io j p (paOf_io.mpr ⟨d, e, e1⟩)
    obtain ⟨p', w1, w2, w3⟩ := r.er.mu j _ d' q2 rfl
    rw [q1] at w1
    cases w1
    exact ⟨p, d', e1, q2, w2, w3⟩
  refine ⟨r.gr, r.er.sub, r.old, fun b ob e n => r.keep b ob e (nio b n), ArsAt.mk (by rw [backA_length, o.ars.length]) fun i a v e1 e2 => ?_, fun j d e => ?_⟩
  · obtain ⟨b, q1, q2⟩ := backA_get e1
    cases b with
    | val d =>
      rw [show a = .val d from q2]
      obtain ⟨u, w1, w2⟩ := o.ars.get q1
      rw [e2] at w1
      cases w1
      exact Rp.mono r.gr d v w2
    | io d =>
      obtain ⟨p, d', w1, w2, w3, w4⟩ := cio i d q1
      rw [e2] at w1
      cases w1
      rcases q2 with ⟨d'', z1, rfl⟩ | ⟨z1, _⟩
      · rw [w2] at z1
        cases z1
        exact ⟨p, rfl, w3, w4⟩
      · exact absurd w2 (z1 d')
  · obtain ⟨p, d', w1, w2, w3, w4⟩ := cio j d e
    have hl : j < (backA as env').length := by
      rw [backA_length]
      exact (List.getElem?_eq_some_iff.mp e).1
    obtain ⟨b, q1, q2⟩ := backA_get (List.getElem?_eq_getElem hl)
    rw [e] at q1
    cases q1
    rcases q2 with ⟨d'', z1, z2⟩ | ⟨z1, _⟩
    · exact ⟨d'', by rw [List.getElem?_eq_getElem hl, z2]⟩
    · exact absurd w2 (z1 d')
end
/-- a def that keeps its promise on data, by its name -/
def Cal (P : Program) (w : World) (K : PySem.W.Frag) (mg : Str → Option Value) (base : Heap) (k : Nat) (x : Str) (n : Nat) (Φ : List Ar → FR) : Prop :=
  ∃ f fd ps, FnOk P w K mg base (L2.CX P w) k f fd ps (spD K mg n Φ) ∧ mg x = some (.ref f) ∧ PySem.W.keepIn K (.ref f) = true ∧ Binds K fd ps []
theorem Cal.mono {P : Program} {w : World} {K : PySem.W.Frag} {mg : Str → Option Value} {base : Heap} {j k n : Nat} {x : Str} {Φ : List Ar → FR} (h : Cal P w K mg base j x n Φ) (hk : j ≤ k) : Cal P w K mg base k x n Φ :=
  let ⟨f, fd, ps, F, r⟩ := h
  ⟨f, fd, ps, F.mono hk, r⟩
/-- another function, where it tells anything -/
theorem Cal.imp {P : Program} {w : World} {K : PySem.W.Frag} {mg : Str → Option Value} {base : Heap} {k n : Nat} {x : Str} {Φ Ψ : List Ar → FR} (h : Cal P w K mg base k x n Φ) (e : ∀ as, as.length = n → Ψ as = .stk ∨ Ψ as = Φ as) : Cal P w K mg base k x n Ψ := by
  obtain ⟨f, fd, ps, F, r⟩ := h
  refine ⟨f, fd, ps, F.imp fun vs H Q E ⟨G, as, hl, o, p⟩ => ⟨G, as, hl, o, ?_⟩, r⟩
  rcases e as hl with z | z
  · rw [z] at p; exact p.elim
  · rw [← z]; exact p
section
variable {P : Program} {w : World} {K : PySem.W.Frag} {mg : Str → Option Value} {base : Heap}
/-- THE RULE for a def -/
theorem fn_ok {x qual : Str} {st : Stmt} {f : Addr} {fd : FuncData} {N ps : List Str} {k n : Nat} {S : Sx} (F : Fun K x qual st f fd) (sc : FnScope N ps (defScope st)) (hm : mg x = some (.ref f)) (hb : Binds K fd ps []) (hn : ps.length = n) (hN : n ≤ N.length)
    (hbody : ∀ (cdv : Value) (A : Around) (outer : List Env) (s : Shared) (H : Hp) (E : XK), Room k (A.deeper (envOfC qual (defScope st) s.heap.objs.size f cdv)) →
      STs (cxOf (L2.CX P w) P w K mg base N qual (defScope st) f cdv A outer s H E) (fun cls d _ H => E cls d H) (defBody st) S) : FnOk P w K mg base (L2.CX P w) (k + 1) f fd ps (spD K mg n (runF N.length S)) := by
  refine F.okX sc (fun vs H Q E h => ?_) (fun cdv A outer s H vs Q E hr h => ?_)
  · obtain ⟨G, as, hl, o, _⟩ := h
    rw [o.ars.length, hl, hn]
  · obtain ⟨G, as, hl, o, p⟩ := h
    refine ⟨_, hbody cdv A outer s H E hr H G (paOf as vs), G, startE N.length as, SR.begin o (by rw [hl]; exact hN), ?_⟩
    have nio : ∀ b, ¬ IoP as vs b → ∀ j, paOf as vs j ≠ some b := fun b n j hj => n (by
      obtain ⟨d, e1, e2⟩ := paOf_io.mp hj
      exact ⟨j, d, e1, e2⟩)
    unfold runF at p
    cases e : S (startE N.length as) with
    | nx e1 =>
      rw [e] at p
      exact fun σ' H' G' r => p .non H' G' (SR.cstp (N := N) o r) rfl
    | rt vl e1 =>
      rw [e] at p
      intro v σ' H' G' r rv
      cases vl with
      | im d => exact p v H' G' (SR.cstp (N := N) o r) rv
      | fr d =>
        obtain ⟨q, rfl, h1, h2, h3⟩ := rv
        exact p q H' G' (SR.cstp (N := N) o r) h1 h2 h3
      | bo i => exact p.elim
    | bk e1 => rw [e] at p; exact p.elim
    | ct e1 => rw [e] at p; exact p.elim
    | err c e1 =>
      rw [e] at p
      intro C σ' H' m se
      refine p C H' m fun b ob q n => ?_
      cases e1 with
      | some e1 => obtain ⟨G', r⟩ := se; exact r.keep b ob q (nio b n)
      | none => exact se b ob q (nio b n)
    | stk => rw [e] at p; exact p.elim
theorem fn_cal {x qual : Str} {st : Stmt} {f : Addr} {fd : FuncData} {N ps : List Str} {k n : Nat} {S : Sx} (F : Fun K x qual st f fd) (sc : FnScope N ps (defScope st)) (hm : mg x = some (.ref f)) (hb : Binds K fd ps []) (hn : ps.length = n) (hN : n ≤ N.length)
    (hbody : ∀ (cdv : Value) (A : Around) (outer : List Env) (s : Shared) (H : Hp) (E : XK), Room k (A.deeper (envOfC qual (defScope st) s.heap.objs.size f cdv)) →
      STs (cxOf (L2.CX P w) P w K mg base N qual (defScope st) f cdv A outer s H E) (fun cls d _ H => E cls d H) (defBody st) S) : Cal P w K mg base (k + 1) x n (runF N.length S) :=
  ⟨f, fd, ps, fn_ok F sc hm hb hn hN hbody, hm, F.kp, hb⟩
end
end HF

set_option Elab.async false
set_option linter.all false
set_option maxRecDepth 100000
set_option maxHeartbeats 4000000
set_option autoImplicit false
namespace HF
open PySem PySem.Spec PyProof.Rows L2
/-! ### calls of defs -/
@[simp] def conv1 (io : Bool) (e : List Sl) (l : Vl) : Option Ar := match io with
  | true => (match l with
    | .bo i => ((e[i]?).bind Sl.mu).map Ar.io
    | _ => none)
  | false => l.toIm.map Ar.val
@[simp] def conv : List Bool → List Sl → List Vl → Option (List Ar)
  | [], _, [] => some []
  | io :: sg, e, l :: ls => match conv1 io e l, conv sg e ls with
    | some a, some as => some (a :: as)
    | _, _ => none
  | _, _, _ => none
@[simp] def putE (i : Nat) (d : D) (e : List Sl) : List Sl := match e[i]? with
  | some s => e.set i (s.put d)
  | none => e
@[simp] def updL : List (Nat × D) → List Sl → List Sl
  | [], e => e
  | (i, d) :: r, e => updL r (putE i d e)
@[simp] def mkL : List Bool → List Vl → List Ar → List (Nat × D)
  | true :: sg, .bo i :: ls, .io d :: as => (i, d) :: mkL sg ls as
  | _ :: sg, _ :: ls, _ :: as => mkL sg ls as
  | _, _, _ => []
@[simp] def keysL : List Bool → List Vl → List Nat
  | true :: sg, .bo i :: ls => i :: keysL sg ls
  | _ :: sg, _ :: ls => keysL sg ls
  | _, _ => []
@[simp] def noIo (sg : List Bool) : Bool := sg.all fun b => !b
@[simp] def ndB (l : List Nat) : Bool := decide l.Nodup
@[simp] def callR (sg : List Bool) (Φ : List Ar → FR) (vls : List Vl) (e : List Sl) : Rs := match conv sg e vls with
  | some as => if ndB (keysL sg vls) then (match Φ as with
    | .im d as' => .ok (.im d) (updL (mkL sg vls as') e)
    | .fr d as' => .ok (.fr d) (updL (mkL sg vls as') e)
    | .err c => .err c (if noIo sg then some e else none)
    | .stk => .stk) else .stk
  | none => .stk
@[simp] def callF (sg : List Bool) (Φ : List Ar → FR) (Fs : FxL)  (env : List Sl) : Rs := bindL (Fs env) fun vls e => callR sg Φ vls e
theorem putE_get (i : Nat) (d : D) (e : List Sl) (k : Nat) : (putE i d e)[k]? = if i = k then (e[k]?).map (·.put d) else e[k]? := by
  unfold putE
  cases h : e[i]? with
  | none =>
    by_cases z : i = k
    · subst z
      rw [if_pos rfl, h]
      rfl
    · rw [if_neg z]
  | some s =>
    obtain ⟨hl, _⟩ := List.getElem?_eq_some_iff.mp h
    by_cases z : i = k
    · subst z
      rw [if_pos rfl]
      show (e.set i (s.put d))[i]? = _
      rw [List.getElem?_set_self hl, h]
      rfl
    · rw [if_neg z]
      show (e.set i (s.put d))[k]? = _
      rw [List.getElem?_set_ne z]
theorem lookup_notin {i : Nat} : ∀ {L : List (Nat × D)}, i ∉ L.map (·.1) → L.lookup i = none
  | [], _ => rfl
  | (j, d) :: r, h => by
    simp only [List.map_cons, List.mem_cons, not_or] at h
    rw [List.lookup_cons, beq_eq_false_iff_ne.mpr h.1]
    exact lookup_notin h.2
theorem updL_get : ∀ (L : List (Nat × D)) (e : List Sl) (k : Nat), (L.map (·.1)).Nodup → (updL L e)[k]? = match L.lookup k with
    | some d => (e[k]?).map (·.put d)
    | none => e[k]?
  | [], e, k, _ => rfl
  | (i, d) :: r, e, k, h => by
    simp only [List.map_cons, List.nodup_cons] at h
    unfold updL
    rw [updL_get r _ k h.2, putE_get, List.lookup_cons]
    by_cases z : i = k
    · subst z
      rw [lookup_notin h.1, if_pos rfl, beq_self_eq_true]
    · rw [if_neg z, beq_eq_false_iff_ne.mpr (fun q => z q.symm)]
theorem mkL_keys : ∀ (sg : List Bool) (vls : List Vl) (as : List Ar), (∀ (j : Nat) (i : Nat), sg[j]? = some true → vls[j]? = some (.bo i) → ∃ d, as[j]? = some (.io d)) → sg.length = as.length → vls.length = as.length → (mkL sg vls as).map (·.1) = keysL sg vls
  | [], vls, [], h, h1, h2 => by
    have : vls = [] := List.eq_nil_of_length_eq_zero h2
    subst this
    rfl
  | [], vls, a :: as, h, h1, h2 => by simp at h1
  | b :: sg, [], [], h, h1, h2 => by simp at h1
  | b :: sg, [], a :: as, h, h1, h2 => by simp at h2
  | b :: sg, l :: ls, [], h, h1, h2 => by simp at h1
  | b :: sg, l :: ls, a :: as, h, h1, h2 => by
    have ih := mkL_keys sg ls as (fun j i e1 e2 => by simpa using h (j + 1) i (by simpa using e1) (by simpa using e2)) (by simpa using h1) (by simpa using h2)
    cases b with
    | false => cases l <;> cases a <;> exact ih
    | true =>
      cases l with
      | bo i =>
        obtain ⟨d, e⟩ := h 0 i rfl rfl
        have : a = .io d := by simpa using e
        subst this
        show i :: (mkL sg ls as).map (·.1) = i :: keysL sg ls
        rw [ih]
      | im d => cases a <;> exact ih
      | fr d => cases a <;> exact ih
theorem mkL_mem : ∀ {sg : List Bool} {vls : List Vl} {as : List Ar} {i : Nat} {d : D}, (i, d) ∈ mkL sg vls as → ∃ j : Nat, sg[j]? = some true ∧ vls[j]? = some (.bo i) ∧ as[j]? = some (.io d)
  | [], vls, as, i, d, h => by cases vls <;> cases as <;> cases h
  | b :: sg, [], as, i, d, h => by cases b <;> cases as <;> cases h
  | b :: sg, l :: ls, [], i, d, h => by cases b <;> cases l <;> cases h
  | b :: sg, l :: ls, a :: as, i, d, h => by
    have rec_ : (i, d) ∈ mkL sg ls as → ∃ j : Nat, (b :: sg)[j]? = some true ∧ (l :: ls)[j]? = some (.bo i) ∧ (a :: as)[j]? = some (.io d) := fun h => by
      obtain ⟨j, e1, e2, e3⟩ := mkL_mem h
      exact ⟨j + 1, by simpa using e1, by simpa using e2, by simpa using e3⟩
    cases b with
    | false => cases l <;> cases a <;> exact rec_ h
    | true =>
      cases l with
      | im _ => cases a <;> exact rec_ h
      | fr _ => cases a <;> exact rec_ h
      | bo i' =>
        cases a with
        | val _ => exact rec_ h
        | io d' =>
          rcases List.mem_cons.mp h with z | z
          · cases z
            exact ⟨0, rfl, rfl, rfl⟩
          · exact rec_ z
theorem keysL_mem : ∀ {sg : List Bool} {vls : List Vl} {j i : Nat}, sg[j]? = some true → vls[j]? = some (.bo i) → i ∈ keysL sg vls
  | [], vls, j, i, h, e => by simp at h
  | b :: sg, [], j, i, h, e => by simp at e
  | b :: sg, l :: ls, 0, i, h, e => by
    have hb : b = true := by simpa using h
    have hl : l = .bo i := by simpa using e
    subst hb hl
    exact List.mem_cons_self
  | b :: sg, l :: ls, j + 1, i, h, e => by
    have ih := keysL_mem (sg := sg) (vls := ls) (j := j) (i := i) (by simpa using h) (by simpa using e)
    cases b with
    | false => cases l <;> exact ih
    | true => cases l <;> first | exact ih | exact List.mem_cons_of_mem _ ih
theorem lookup_mem {i : Nat} {d : D} : ∀ {L : List (Nat × D)}, L.lookup i = some d → (i, d) ∈ L
  | [], h => by cases h
  | (j, e) :: r, h => by
    rw [List.lookup_cons] at h
    by_cases z : i = j
    · subst z
      rw [beq_self_eq_true] at h
      cases h
      exact List.mem_cons_self
    · rw [beq_eq_false_iff_ne.mpr z] at h
      exact List.mem_cons_of_mem _ (lookup_mem h)
theorem conv_get : ∀ {sg : List Bool} {e : List Sl} {vls : List Vl} {as : List Ar}, conv sg e vls = some as → sg.length = as.length ∧ vls.length = as.length ∧ ∀ (j : Nat) (a : Ar), as[j]? = some a → ∃ io l, sg[j]? = some io ∧ vls[j]? = some l ∧ conv1 io e l = some a
  | [], e, [], as, h => by cases h; exact ⟨rfl, rfl, fun j a q => by simp at q⟩
  | [], e, l :: ls, as, h => by cases h
  | b :: sg, e, [], as, h => by cases h
  | b :: sg, e, l :: ls, as, h => by
    unfold conv at h
    cases e1 : conv1 b e l with
    | none => rw [e1] at h; cases h
    | some a =>
      cases e2 : conv sg e ls with
      | none => rw [e1, e2] at h; cases h
      | some as' =>
        rw [e1, e2] at h
        cases h
        obtain ⟨h1, h2, h3⟩ := conv_get e2
        refine ⟨by simp [h1], by simp [h2], fun j c q => ?_⟩
        cases j with
        | zero =>
          have : a = c := by simpa using q
          subst this
          exact ⟨b, l, rfl, rfl, e1⟩
        | succ j =>
          obtain ⟨io, l', q1, q2, q3⟩ := h3 j c (by simpa using q)
          exact ⟨io, l', by simpa using q1, by simpa using q2, q3⟩
/-- the values to be handed on: frozen, or lent -/
def ArV (K : PySem.W.Frag) (G : Hp) (σ : L2.St) (env : List Sl) : Ar → V → Prop
  | .val d, v => Rp K G d v
  | .io d, v => ∃ (i : Nat) (s : Sl) (p : Addr), env[i]? = some s ∧ s.mu = some d ∧ σ[i]? = some (some (.ref p)) ∧ v = .ref p
def ArsV (K : PySem.W.Frag) (G : Hp) (σ : L2.St) (env : List Sl) : List Ar → List V → Prop
  | [], xs => xs = []
  | a :: as, xs => ∃ x r, xs = x :: r ∧ ArV K G σ env a x ∧ ArsV K G σ env as r
section
variable {K : PySem.W.Frag} {σ : L2.St} {H0 G0 H : Hp} {env0 env : List Sl}
theorem conv_ok (r0 : ER K H0 G0 σ env0) : ∀ {sg : List Bool} {vls : List Vl} {vs : List V} {as : List Ar} {G : Hp}, VlsW K H0 H G σ env vls vs → Stp K σ H0 G0 env0 H G env → conv sg env vls = some as →
    ∃ G', Stp K σ H0 G0 env0 H G' env ∧ Same G G' ∧ (∀ b, G' b = G b ∨ G' b = H b) ∧ ArsV K G' σ env as vs
  | [], [], vs, as, G, h, s, e => by cases e; exact ⟨G, s, Same.refl _, fun _ => .inl rfl, h⟩
  | [], l :: ls, vs, as, G, h, s, e => by cases e
  | b :: sg, [], vs, as, G, h, s, e => by cases e
  | b :: sg, l :: ls, vs, as, G, h, s, e => by
    obtain ⟨x, r, rfl, h1, h2⟩ := h
    unfold conv at e
    cases e1 : conv1 b env l with
    | none => rw [e1] at e; cases e
    | some a =>
      cases e2 : conv sg env ls with
      | none => rw [e1, e2] at e; cases e
      | some as' =>
        rw [e1, e2] at e
        cases e
        cases b with
        | true =>
          cases l with
          | im _ => cases e1
          | fr _ => cases e1
          | bo i =>
            obtain ⟨t, d, p, q1, q2, q3, q4⟩ := h1
            have ea : ((env[i]?).bind Sl.mu).map Ar.io = some a := e1
            rw [q1] at ea
            have ea : (t.mu).map Ar.io = some a := ea
            rw [q2] at ea
            cases ea
            obtain ⟨G2, s2, g2, k2, w2⟩ := conv_ok r0 h2 s e2
            exact ⟨G2, s2, g2, k2, x, r, rfl, ⟨i, t, p, q1, q2, q3, q4⟩, w2⟩
        | false =>
          have ea : l.toIm.map Ar.val = some a := e1
          cases e3 : l.toIm with
          | none => rw [e3] at ea; cases ea
          | some d =>
            rw [e3] at ea
            cases ea
            obtain ⟨G1, s1, g1, k1, q1⟩ := h1.imm s r0 e3
            obtain ⟨G2, s2, g2, k2, w2⟩ := conv_ok r0 (VlsW.up g1 k1 h2) s1 e2
            refine ⟨G2, s2, g1.trans g2, fun b => ?_, x, r, rfl, Rp.mono g2 d x q1, w2⟩
            rcases k2 b with z | z
            · rw [z]; exact k1 b
            · exact .inr z
theorem ArsV.ars {G : Hp} (r : ER K H G σ env) : ∀ {as : List Ar} {vs : List V}, ArsV K G σ env as vs → ArsAt K H G as vs
  | [], vs, h => h
  | .val d :: as, vs, h => by
    obtain ⟨x, t, rfl, h1, h2⟩ := h
    exact ⟨x, t, rfl, h1, ArsV.ars r h2⟩
  | .io d :: as, vs, h => by
    obtain ⟨x, t, rfl, ⟨i, s, p, q1, q2, q3, q4⟩, h2⟩ := h
    obtain ⟨p', w1, w2, w3⟩ := r.mu i s d q1 q2
    rw [q3] at w1
    cases w1
    exact ⟨x, t, rfl, ⟨p, q4, w2, w3⟩, ArsV.ars r h2⟩
theorem VlsW.get {G : Hp} : ∀ {ls : List Vl} {vs : List V} {j : Nat} {l : Vl}, VlsW K H0 H G σ env ls vs → ls[j]? = some l → ∃ v, vs[j]? = some v ∧ VlW K H0 H G σ env l v
  | [], vs, j, l, h, e => by simp at e
  | l' :: ls, vs, 0, l, h, e => by
    obtain ⟨x, r, rfl, h1, _⟩ := h
    have : l' = l := by simpa using e
    subst this
    exact ⟨x, rfl, h1⟩
  | l' :: ls, vs, j + 1, l, h, e => by
    obtain ⟨x, r, rfl, _, h2⟩ := h
    obtain ⟨v, e1, h3⟩ := VlsW.get (j := j) (l := l) h2 (by simpa using e)
    exact ⟨v, by simpa using e1, h3⟩
theorem put_mu {s : Sl} {d e : D} (h : s.mu = some e) : (s.put d).mu = some d := by
  cases s <;> first | rfl | cases h
theorem put_kin {s : Sl} {d : D} : Kin (some s) (some (s.put d)) := by
  cases s <;> first | rfl | exact ⟨_, rfl⟩
/-- behind a call -/
theorem call_step {G H' G' : Hp} {sg : List Bool} {vls : List Vl} {vs : List V} {as as' : List Ar} (r : ER K H G σ env) (hw : VlsW K H0 H G σ env vls vs) (hc : conv sg env vls = some as) (nd : ndB (keysL sg vls) = true) (c : CStp K as vs H G H' G' as') :
    Stp K σ H G env H' G' (updL (mkL sg vls as') env) := by
  obtain ⟨l1, l2, cg⟩ := conv_get hc
  have nd : (keysL sg vls).Nodup := of_decide_eq_true nd
  have hl : vs.length = as'.length := c.ars.length
  have io_at : ∀ (j i : Nat), sg[j]? = some true → vls[j]? = some (.bo i) → ∃ s d p, env[i]? = some s ∧ s.mu = some d ∧ σ[i]? = some (some (.ref p)) ∧ vs[j]? = some (.ref p) ∧ as[j]? = some (.io d) := fun j i e1 e2 => by
    obtain ⟨v, q1, s, d, p, w1, w2, w3, w4⟩ := hw.get e2
    have hj : j < as.length := by rw [← l2]; exact (List.getElem?_eq_some_iff.mp e2).1
    obtain ⟨io, l, z1, z2, z3⟩ := cg j as[j] (List.getElem?_eq_getElem hj)
    rw [e1] at z1
    rw [e2] at z2
    cases z1
    cases z2
    have z3 : ((env[i]?).bind Sl.mu).map Ar.io = some as[j] := z3
    rw [w1] at z3
    have z3 : (s.mu).map Ar.io = some as[j] := z3
    rw [w2] at z3
    refine ⟨s, d, p, w1, w2, w3, by rw [q1, w4], ?_⟩
    rw [List.getElem?_eq_getElem hj]
    exact congrArg some (Option.some.inj z3).symm
  have la : as'.length = as.length := by
    have q : ArsAt K H' G' as' vs := c.ars
    rw [← q.length]
    have z : ∀ {ls : List Vl} {us : List V}, VlsW K H0 H G σ env ls us → us.length = ls.length := by
      intro ls
      induction ls with
      | nil => intro us h; rw [show us = [] from h]; rfl
      | cons l ls ih =>
        intro us h
        obtain ⟨x, t, rfl, _, h2⟩ := h
        rw [List.length_cons, List.length_cons, ih h2]
    rw [z hw, l2]
  have keys : (mkL sg vls as').map (·.1) = keysL sg vls := mkL_keys sg vls as' (fun j i e1 e2 => by
    obtain ⟨s, d, p, _, _, _, _, q⟩ := io_at j i e1 e2
    exact c.kin j d q) (by rw [l1, la]) (by rw [l2, la])
  have ug : ∀ k : Nat, (updL (mkL sg vls as') env)[k]? = match (mkL sg vls as').lookup k with
    | some d => (env[k]?).map (·.put d)
    | none => env[k]? := fun k => updL_get _ _ k (by rw [keys]; exact nd)
  have kin : ∀ k : Nat, Kin (env[k]?) ((updL (mkL sg vls as') env)[k]?) := fun k => by
    rw [ug k]
    cases e : (mkL sg vls as').lookup k with
    | none => exact Kin.refl _
    | some d =>
      cases e2 : env[k]? with
      | none => exact rfl
      | some s => exact put_kin
  have iop : ∀ p, IoP as vs p → ∃ i, i ∈ keysL sg vls ∧ σ[i]? = some (some (.ref p)) ∧ MuIs σ env p := fun p ⟨j, d, e1, e2⟩ => by
    obtain ⟨io, l, z1, z2, z3⟩ := cg j _ e1
    cases io with
    | false =>
      have z3 : l.toIm.map Ar.val = some (.io d) := z3
      cases hq : l.toIm with
      | none => rw [hq] at z3; cases z3
      | some x => rw [hq] at z3; cases z3
    | true =>
      cases l with
      | im _ => cases z3
      | fr _ => cases z3
      | bo i =>
        obtain ⟨s, d', p', w1, w2, w3, w4, w5⟩ := io_at j i z1 z2
        rw [e2] at w4
        cases w4
        exact ⟨i, keysL_mem z1 z2, w3, i, s, d', w1, w2, w3⟩
  have keepM : ∀ b o, H b = some o → ¬ MuIs σ env b → H' b = some o := fun b o e n => c.keep b o e fun z => by
    obtain ⟨i, _, _, m⟩ := iop b z
    exact n m
  refine ⟨⟨?_, c.gh, fun i d e => ?_, fun i s d e1 e2 => ?_, fun i j s t d e p h1 h2 h3 h4 h5 h6 => ?_⟩, c.gr, c.old, keepM, kin⟩
  · rw [r.len]
    have : ∀ (L : List (Nat × D)) (e : List Sl), (updL L e).length = e.length := by
      intro L
      induction L with
      | nil => intro e; rfl
      | cons a L ih =>
        intro e
        obtain ⟨i, d⟩ := a
        unfold updL
        rw [ih]
        unfold putE
        split <;> simp
    rw [this]
  · rw [ug i] at e
    have e' : env[i]? = some (.val d) := by
      cases q : (mkL sg vls as').lookup i with
      | none => rw [q] at e; exact e
      | some x =>
        rw [q] at e
        cases q2 : env[i]? with
        | none => rw [q2] at e; cases e
        | some s =>
          rw [q2] at e
          have e : some (s.put x) = some (.val d) := e
          cases s <;> first | exact e | cases e
    obtain ⟨v, w1, w2⟩ := r.val i d e'
    exact ⟨v, w1, Rp.mono c.gr d v w2⟩
  · rw [ug i] at e1
    cases q : (mkL sg vls as').lookup i with
    | none =>
      rw [q] at e1
      obtain ⟨p, w1, w2, w3⟩ := r.mu i s d e1 e2
      refine ⟨p, w1, c.old p w3.there w2, w3.mono ?_ c.gr⟩
      cases z : H p with
      | none => exact absurd z w3.there
      | some o =>
        refine c.keep p o z fun hio => ?_
        obtain ⟨i', m1, m2, _⟩ := iop p hio
        -- the lent slot is this one
        obtain ⟨j, y1, y2⟩ : ∃ j : Nat, sg[j]? = some true ∧ vls[j]? = some (.bo i') := by
          rw [← keys] at m1
          obtain ⟨⟨a, b⟩, y1, y2⟩ := List.mem_map.mp m1
          obtain ⟨j, x1, x2, _⟩ := mkL_mem y1
          cases y2
          exact ⟨j, x1, x2⟩
        obtain ⟨s', d', p', v1, v2, v3, _, _⟩ := io_at j i' y1 y2
        rw [m2] at v3
        cases v3
        have ei : i = i' := r.sep i i' s s' d d' p e1 e2 v1 v2 w1 m2
        rw [← ei, ← keys] at m1
        have : (mkL sg vls as').lookup i ≠ none := by
          intro hn
          obtain ⟨⟨a, b⟩, y1, y2⟩ := List.mem_map.mp m1
          have ea : a = i := y2
          rw [ea] at y1
          have : ∀ {L : List (Nat × D)}, (i, b) ∈ L → L.lookup i ≠ none := by
            intro L
            induction L with
            | nil => intro h; cases h
            | cons x L ih =>
              intro h
              obtain ⟨x1, x2⟩ := x
              rw [List.lookup_cons]
              by_cases hx : i = x1
              · subst hx; rw [beq_self_eq_true]; exact fun z => nomatch z
              · rw [beq_eq_false_iff_ne.mpr hx]
                rcases List.mem_cons.mp h with h | h
                · cases h; exact absurd rfl hx
                · exact ih h
          exact this y1 hn
        exact absurd q this
    | some x =>
      rw [q] at e1
      cases q2 : env[i]? with
      | none => rw [q2] at e1; cases e1
      | some t =>
        rw [q2] at e1
        have e1 : some (t.put x) = some s := e1
        cases e1
        obtain ⟨j, y1, y2, y3⟩ := mkL_mem (lookup_mem q)
        obtain ⟨s', d', p, v1, v2, v3, v4, v5⟩ := io_at j i y1 y2
        rw [q2] at v1
        cases v1
        rw [put_mu v2] at e2
        cases e2
        obtain ⟨v, u1, p', u2, u3, u4⟩ := c.ars.get y3
        rw [v4] at u1
        cases u1
        cases u2
        exact ⟨p, v3, u3, u4⟩
  · have back : ∀ {i : Nat} {s : Sl} {d : D}, (updL (mkL sg vls as') env)[i]? = some s → s.mu = some d → ∃ t e, env[i]? = some t ∧ t.mu = some e := fun {i s d} e1 e2 => by
      have k := kin i
      rw [e1] at k
      obtain ⟨u, e, q1, q2⟩ := k.back e2
      exact ⟨u, e, q1, q2⟩
    obtain ⟨s', d', x1, x2⟩ := back h1 h2
    obtain ⟨t', e', y1, y2⟩ := back h3 h4
    exact r.sep i j s' t' d' e' p x1 x2 y1 y2 h5 h6
end
section
variable {X : Cx} {W : WX} {x : Str} {k k' n : Nat} {Φ : List Ar → FR} {p pos : Pos} {e : Expr} {es : List Expr} {Fs : FxL} {sg : List Bool}
theorem call_of {H G : Hp} {σ : L2.St} {env : List Sl} {vls : List Vl} {vs : List V} {H1 G1 : Hp} {env1 : List Sl} {Q : VK} (r : ER X.K H G σ env) (s1 : Stp X.K σ H G env H1 G1 env1) (v1 : VlsAt X.K H H1 G1 σ env1 vls vs)
    (h : PostR X.K X.mg W σ H G env Q (callR sg Φ vls env1)) (hn : sg.length = n) : spD X.K X.mg n Φ vs H1 Q (WE W σ) := by
  unfold callR at h
  cases ec : conv sg env1 vls with
  | none => rw [ec] at h; exact h.elim
  | some as =>
    rw [ec] at h
    simp only at h
    split at h
    · rename_i nd
      obtain ⟨G2, s2, g2, k2, av⟩ := conv_ok r v1.w s1 ec
      have hw : VlsW X.K H H1 G2 σ env1 vls vs := VlsW.up g2 k2 v1.w
      have ars := ArsV.ars s2.er av
      obtain ⟨l1, l2, cg⟩ := conv_get ec
      have iom : ∀ b, IoP as vs b → MuIs σ env1 b := fun b ⟨j, d, e1, e2⟩ => by
        obtain ⟨io, l, z1, z2, z3⟩ := cg j _ e1
        obtain ⟨v, y1, y2⟩ := hw.get z2
        rw [e2] at y1
        cases y1
        cases io with
        | false =>
          have z3 : l.toIm.map Ar.val = some (.io d) := z3
          cases hq : l.toIm with
          | none => rw [hq] at z3; cases z3
          | some x => rw [hq] at z3; cases z3
        | true =>
          cases l with
          | im _ => cases z3
          | fr _ => cases z3
          | bo i =>
            obtain ⟨s, d', p', w1, w2, w3, w4⟩ := y2
            cases w4
            exact ⟨i, s, d', w1, w2, w3⟩
      refine ⟨G2, as, by rw [← l1, hn], ⟨s2.er.sub, ars, fun i j d e p h1 h2 h3 h4 => ?_⟩, ?_⟩
      · -- the lent slots are apart
        obtain ⟨io, l, z1, z2, z3⟩ := cg i _ h1
        obtain ⟨io', l', z1', z2', z3'⟩ := cg j _ h2
        have bo_of : ∀ {io : Bool} {l : Vl} {d : D}, conv1 io env1 l = some (.io d) → io = true ∧ ∃ i, l = .bo i := by
          intro io l d z
          cases io with
          | false =>
            have z : l.toIm.map Ar.val = some (.io d) := z
            cases hq : l.toIm with
            | none => rw [hq] at z; cases z
            | some x => rw [hq] at z; cases z
          | true => cases l <;> first | exact ⟨rfl, _, rfl⟩ | cases z
        obtain ⟨rfl, a, rfl⟩ := bo_of z3
        obtain ⟨rfl, b, rfl⟩ := bo_of z3'
        obtain ⟨v, y1, s, d', p', w1, w2, w3, w4⟩ := hw.get z2
        obtain ⟨v', y1', s', d'', p'', w1', w2', w3', w4'⟩ := hw.get z2'
        rw [h3] at y1
        rw [h4] at y1'
        cases y1
        cases y1'
        cases w4
        cases w4'
        have eab : a = b := s2.er.sep a b s s' d' d'' p w1 w2 w1' w2' w3 w3'
        subst eab
        have nd' : (keysL sg vls).Nodup := of_decide_eq_true nd
        have : ∀ {sg : List Bool} {vls : List Vl} {i j a : Nat}, (keysL sg vls).Nodup → sg[i]? = some true → vls[i]? = some (.bo a) → sg[j]? = some true → vls[j]? = some (.bo a) → i = j := by
          intro sg
          induction sg with
          | nil => intro vls i j a _ h; simp at h
          | cons b sg ih =>
            intro vls i j a hnd h1 h2 h3 h4
            cases vls with
            | nil => simp at h2
            | cons l ls =>
              have hnd' : (keysL sg ls).Nodup := by
                cases b with
                | false => cases l <;> exact hnd
                | true => cases l <;> first | exact hnd | exact (List.nodup_cons.mp hnd).2
              cases i with
              | zero =>
                cases j with
                | zero => rfl
                | succ j =>
                  have hb : b = true := by simpa using h1
                  have hl : l = .bo a := by simpa using h2
                  subst hb hl
                  exact absurd (keysL_mem (by simpa using h3) (by simpa using h4)) (List.nodup_cons.mp hnd).1
              | succ i =>
                cases j with
                | zero =>
                  have hb : b = true := by simpa using h3
                  have hl : l = .bo a := by simpa using h4
                  subst hb hl
                  exact absurd (keysL_mem (by simpa using h1) (by simpa using h2)) (List.nodup_cons.mp hnd).1
                | succ j => exact congrArg (· + 1) (ih (vls := ls) (i := i) (j := j) (a := a) hnd' (by simpa using h1) (by simpa using h2) (by simpa using h3) (by simpa using h4))
        exact this nd' z1 z2 z1' z2'
      · cases ef : Φ as with
        | stk => rw [ef] at h; exact h.elim
        | im d as' =>
          rw [ef] at h
          intro v H' G' c hv
          exact h v H' G' (s2.trans (call_step s2.er hw ec nd c) r) hv
        | fr d as' =>
          rw [ef] at h
          intro q H' G' c h1 h2 h3
          exact h _ H' G' (s2.trans (call_step s2.er hw ec nd c) r) ⟨q, rfl, s2.free r h1, h2, h3⟩
        | err c =>
          rw [ef] at h
          intro C H' m ke
          refine h C H' m ?_
          split
          · rename_i no
            have nio : ∀ b, ¬ IoP as vs b := fun b ⟨j, d, e1, e2⟩ => by
              obtain ⟨io, l, z1, z2, z3⟩ := cg j _ e1
              cases io with
              | false =>
                have z : l.toIm.map Ar.val = some (.io d) := z3
                cases hq : l.toIm with
                | none => rw [hq] at z; cases z
                | some x => rw [hq] at z; cases z
              | true =>
                have := List.all_eq_true.mp no true (List.mem_of_getElem? z1)
                cases this
            have sm : Same H1 H' := fun b o e => ke b o e (nio b)
            exact ⟨G2, s2.trans (Stp.gs s2.er ⟨sm, Same.refl _, s2.er.sub.trans sm, fun _ _ h => h⟩) r⟩
          · intro b o e n
            exact ke b o (s1.keep b o e n) fun z => n ((iom b z).of s1.kin)
    · exact h.elim
theorem ex_call (c : Cal X.prog X.w X.K X.mg X.base k x n Φ) (hr : Room k' X.A) (hk : k ≤ k') (tk : Takes X W) (hn : sg.length = n) (ha : AX X W (e :: es) Fs) (hg : Gl X x := by rfl) (hdb : (x == ("__debug__" : Str)) = false := by decide) (he : starEach (e :: es) X.env = (false, eval e X.env) :: starEach es X.env := by rfl) (hpl : (backTo pos (starEach es X.env)).any (·.1) = false := by rfl) :
    EX X W (.Call (.Name x p) (e :: es) [] pos) (callF sg Φ Fs) := by
  obtain ⟨f, fd, ps, F, gm, gk, gb⟩ := c
  refine PE.weak (pe_callS F (hr.mono hk) hg gm gk gb (fun σ => passAt tk σ) ha hdb he hpl) fun σ H Q ⟨G, env, r, h⟩ => ?_
  exact tDA_bind r h fun vls e1 vs H1 G1 s1 v1 p1 => call_of r s1 v1 p1 hn
end
end HF

set_option Elab.async false
set_option linter.all false
set_option maxRecDepth 100000
set_option maxHeartbeats 4000000
set_option autoImplicit false
namespace HF
open PySem PySem.Spec PyProof.Rows L2
/-! ### what is walked -/
inductive RsS where
  | ok (ds : List D) (env : List Sl)
  | err (c : Str) (env : Option (List Sl))
  | stk
abbrev SFx := List Sl → RsS
/-- the walk J gives ds, while what is frozen in G1 stands -/
structure JOk (K : PySem.W.Frag) (J : It) (ds : List D) (G1 : Hp) : Prop where
  go : ∀ H G i, Same G1 G → Same G H → i < ds.length → J.go i H
  yld : ∀ H G i x H', Same G1 G → Same G H → i < ds.length → J.yld i H x H' → ∃ G' d, ds[i]? = some d ∧ GS H G H' G' ∧ Rp K G' d x
  stop : ∀ H G, Same G1 G → Same G H → J.stop ds.length H
def PostI (K : PySem.W.Frag) (mg : Str → Option Value) (W : WX) (σ : L2.St) (H G : Hp) (env : List Sl) (R : It → Hp → Prop) : RsS → Prop
  | .ok ds env' => ∀ J H' G', Stp K σ H G env H' G' env' → JOk K J ds G' → R J H'
  | .err c e => ∀ C H', mg c = some (.ref C) → ErrAt K σ H G env H' e → W (.ref C) none σ H'
  | .stk => False
def tI (K : PySem.W.Frag) (mg : Str → Option Value) (W : WX) (F : SFx) : TI := fun σ H R => ∃ G env, ER K H G σ env ∧ PostI K mg W σ H G env R (F env)
def SX (X : Cx) (W : WX) (tg iter : Expr) (F : SFx) : Prop := PI X tg iter (tI X.K X.mg W F)
theorem PI.weak {X : Cx} {tg iter : Expr} {t t' : TI} (h : PI X tg iter t) (w : ∀ σ H R, t' σ H R → t σ H R) : PI X tg iter t' := ⟨fun pins s σ H R I q => h.run pins s σ H R I (w σ H R q)⟩
theorem PI.or {X : Cx} {tg iter : Expr} {t t' : TI} (h : PI X tg iter t) (h' : PI X tg iter t') : PI X tg iter (fun σ H R => t σ H R ∨ t' σ H R) := ⟨fun pins s σ H R I q => q.elim (h.run pins s σ H R I) (h'.run pins s σ H R I)⟩
theorem tI_bind {K : PySem.W.Frag} {mg : Str → Option Value} {W : WX} {σ : L2.St} {H G : Hp} {env : List Sl} {F : Fx} {R : It → Hp → Prop} {k : VK} {f : Vl → List Sl → RsS} (r : ER K H G σ env)
    (h : PostI K mg W σ H G env R (match F env with
      | .ok v e => f v e
      | .err c e => .err c e
      | .stk => .stk))
    (st : ∀ vl env1 v H1 G1, F env = .ok vl env1 → Stp K σ H G env H1 G1 env1 → VlAt K H H1 G1 σ env1 vl v → PostI K mg W σ H G env R (f vl env1) → k v H1) : tD K mg W F σ H k := by
  refine ⟨G, env, r, ?_⟩
  cases e : F env with
  | ok vl env1 =>
    rw [e] at h
    exact fun v H1 G1 s v1 => st vl env1 v H1 G1 e s v1 h
  | err c e' =>
    rw [e] at h
    exact h
  | stk =>
    rw [e] at h
    exact h
theorem tI_bindA {K : PySem.W.Frag} {mg : Str → Option Value} {W : WX} {σ : L2.St} {H G : Hp} {env : List Sl} {F : FxL} {R : It → Hp → Prop} {k : List V → Hp → Prop} {f : List Vl → List Sl → RsS} (r : ER K H G σ env)
    (h : PostI K mg W σ H G env R (match F env with
      | .ok v e => f v e
      | .err c e => .err c e
      | .stk => .stk))
    (st : ∀ vls env1 vs H1 G1, Stp K σ H G env H1 G1 env1 → VlsAt K H H1 G1 σ env1 vls vs → PostI K mg W σ H G env R (f vls env1) → k vs H1) : tDA K mg W F σ H k := by
  refine ⟨G, env, r, ?_⟩
  cases e : F env with
  | ok vl env1 =>
    rw [e] at h
    exact fun v H1 G1 s v1 => st vl env1 v H1 G1 s v1 h
  | err c e' =>
    rw [e] at h
    exact h
  | stk =>
    rw [e] at h
    exact h
/-- a list or a tuple, as it stands -/
@[simp] def seqD : D → Option (List D)
  | .lst ds => some ds
  | .tup ds => some ds
  | .scr ns => some (ns.map D.int)
  | _ => none
@[simp] def seqS' (F : Fx)  (env : List Sl) : RsS := match F env with
  | .ok v e => (match v.toIm.bind seqD with
    | some ds => .ok ds e
    | none => .stk)
  | .err c e => .err c e
  | .stk => .stk
section
variable {K : PySem.W.Frag} {G1 : Hp} {a : Addr} {xs : List V} {ds : List D}
theorem jok_list (h : ∀ H G, Same G1 G → Same G H → SqL K H a xs) (r : RpL K G1 ds xs) : JOk K (Itl K a) ds G1 where
  go := fun H G i g s hi => by
    obtain ⟨x, e, _⟩ := r.get (List.getElem?_eq_getElem hi)
    exact ⟨xs, x, h H G g s, e⟩
  yld := fun H G i x H' g s hi y => by
    obtain ⟨rfl, y⟩ := y
    obtain ⟨x', e, hr⟩ := r.get (List.getElem?_eq_getElem hi)
    have := y xs (h _ G g s)
    rw [e] at this
    cases this
    exact ⟨G, ds[i], List.getElem?_eq_getElem hi, GS.refl s, Rp.mono g _ _ hr⟩
  stop := fun H G g s => ⟨xs, h H G g s, by rw [r.length]; exact Nat.le_refl _⟩
theorem jok_tup (h : ∀ H G, Same G1 G → Same G H → SqT K H a xs) (r : RpL K G1 ds xs) : JOk K (Itt K a) ds G1 where
  go := fun H G i g s hi => by
    obtain ⟨x, e, _⟩ := r.get (List.getElem?_eq_getElem hi)
    exact ⟨xs, x, h H G g s, e⟩
  yld := fun H G i x H' g s hi y => by
    obtain ⟨rfl, y⟩ := y
    obtain ⟨x', e, hr⟩ := r.get (List.getElem?_eq_getElem hi)
    have := y xs (h _ G g s)
    rw [e] at this
    cases this
    exact ⟨G, ds[i], List.getElem?_eq_getElem hi, GS.refl s, Rp.mono g _ _ hr⟩
  stop := fun H G g s => ⟨xs, h H G g s, by rw [r.length]; exact Nat.le_refl _⟩
/-- the same from behind -/
theorem jok_rlist (h : ∀ H G, Same G1 G → Same G H → SqL K H a xs) (r : RpL K G1 ds xs) : JOk K (Itv K a xs.length) ds.reverse G1 where
  go := fun H G i g s hi => by
    rw [List.length_reverse] at hi
    have hl := r.length
    obtain ⟨x, e, _⟩ := r.get (List.getElem?_eq_getElem (show xs.length - 1 - i < ds.length by omega))
    exact ⟨by omega, xs, x, h H G g s, e⟩
  yld := fun H G i x H' g s hi y => by
    obtain ⟨rfl, y⟩ := y
    rw [List.length_reverse] at hi
    have hl := r.length
    have hi' : xs.length - 1 - i < ds.length := by omega
    obtain ⟨x', e, hr⟩ := r.get (List.getElem?_eq_getElem hi')
    have := y xs (h _ G g s)
    rw [e] at this
    cases this
    refine ⟨G, ds[xs.length - 1 - i], ?_, GS.refl s, Rp.mono g _ _ hr⟩
    rw [List.getElem?_reverse hi, ← hl, List.getElem?_eq_getElem hi']
  stop := fun H G g s => by rw [List.length_reverse, ← r.length]; exact Nat.le_refl _
theorem jok_rtup (h : ∀ H G, Same G1 G → Same G H → SqT K H a xs) (r : RpL K G1 ds xs) : JOk K (RT.ItvT K a xs.length) ds.reverse G1 where
  go := fun H G i g s hi => by
    rw [List.length_reverse] at hi
    have hl := r.length
    obtain ⟨x, e, _⟩ := r.get (List.getElem?_eq_getElem (show xs.length - 1 - i < ds.length by omega))
    exact ⟨by omega, xs, x, h H G g s, e⟩
  yld := fun H G i x H' g s hi y => by
    obtain ⟨rfl, y⟩ := y
    rw [List.length_reverse] at hi
    have hl := r.length
    have hi' : xs.length - 1 - i < ds.length := by omega
    obtain ⟨x', e, hr⟩ := r.get (List.getElem?_eq_getElem hi')
    have := y xs (h _ G g s)
    rw [e] at this
    cases this
    refine ⟨G, ds[xs.length - 1 - i], ?_, GS.refl s, Rp.mono g _ _ hr⟩
    rw [List.getElem?_reverse hi, ← hl, List.getElem?_eq_getElem hi']
  stop := fun H G g s => by rw [List.length_reverse, ← r.length]; exact Nat.le_refl _
theorem jok_range (lo : Int) (n : Nat) : JOk K (Itr lo n) ((List.range n).map fun (i : Nat) => D.int (lo + i)) G1 where
  go := fun H G i g s hi => by
    have hi' : i < n := by simpa using hi
    exact hi'
  yld := fun H G i x H' g s hi y => by
    obtain ⟨rfl, rfl⟩ := y
    refine ⟨G, .int (lo + i), ?_, GS.refl s, rfl⟩
    have hi' : i < n := by simpa using hi
    rw [List.getElem?_map, List.getElem?_range hi']
    rfl
  stop := fun H G g s => by show n ≤ _; simp
theorem jok_rangeC (lo c : Int) (n : Nat) : JOk K (Itc lo c n) ((List.range n).map fun (i : Nat) => D.int (lo + i * c)) G1 where
  go := fun H G i g s hi => by
    have hi' : i < n := by simpa using hi
    exact hi'
  yld := fun H G i x H' g s hi y => by
    obtain ⟨rfl, rfl⟩ := y
    refine ⟨G, .int (lo + i * c), ?_, GS.refl s, rfl⟩
    have hi' : i < n := by simpa using hi
    rw [List.getElem?_map, List.getElem?_range hi']
    rfl
  stop := fun H G g s => by show n ≤ _; simp
theorem jok_str (z : Str) : JOk K (Its z) (z.cps.toList.map fun c => D.str ⟨#[c]⟩) G1 where
  go := fun H G i g s hi => by
    have hi' : i < z.cps.size := by simpa using hi
    exact hi'
  yld := fun H G i x H' g s hi y => by
    obtain ⟨rfl, c, e, rfl⟩ := y
    refine ⟨G, .str ⟨#[c]⟩, ?_, GS.refl s, rfl⟩
    rw [List.getElem?_map, Array.getElem?_toList, e]
    rfl
  stop := fun H G g s => by show z.cps.size ≤ _; simp
end
/-- pairs of two lists -/
def zipD (as bs : List D) : List D := (as.zip bs).map fun p => .tup [p.1, p.2]
theorem jok_zip {K : PySem.W.Frag} {G1 : Hp} {a b : Addr} {xs ys : List V} {ds es : List D} {P : Hp → Addr → List V → Prop} {J : It} (r : RpL K G1 ds xs) (q : RpL K G1 es ys) (h : ∀ H G, Same G1 G → Same G H → P H a xs ∧ P H b ys)
    (jg : J.go = fun i H => ∃ (xs ys : List V) (x y : V), P H a xs ∧ P H b ys ∧ xs[i]? = some x ∧ ys[i]? = some y)
    (jy : J.yld = fun i H v H' => ∃ T x y, v = .ref T ∧ H T = none ∧ H' = upd H T (.tup [x, y]) ∧ (∀ xs, P H a xs → xs[i]? = some x) ∧ ∀ ys, P H b ys → ys[i]? = some y)
    (js : J.stop = fun i H => ∃ xs ys : List V, P H a xs ∧ P H b ys ∧ (xs.length ≤ i ∨ ys.length ≤ i)) : JOk K J (zipD ds es) G1 where
  go := fun H G i g s hi => by
    rw [jg]
    have hi : i < ds.length ∧ i < es.length := by
      unfold zipD at hi
      rw [List.length_map, List.length_zip] at hi
      omega
    obtain ⟨x, e1, _⟩ := r.get (List.getElem?_eq_getElem hi.1)
    obtain ⟨y, e2, _⟩ := q.get (List.getElem?_eq_getElem hi.2)
    exact ⟨xs, ys, x, y, (h H G g s).1, (h H G g s).2, e1, e2⟩
  yld := fun H G i v H' g s hi y => by
    rw [jy] at y
    obtain ⟨T, x, y, rfl, hT, rfl, h1, h2⟩ := y
    have hi : i < ds.length ∧ i < es.length := by
      unfold zipD at hi
      rw [List.length_map, List.length_zip] at hi
      omega
    obtain ⟨x', e1, q1⟩ := r.get (List.getElem?_eq_getElem hi.1)
    obtain ⟨y', e2, q2⟩ := q.get (List.getElem?_eq_getElem hi.2)
    have z1 := h1 xs (h H G g s).1
    have z2 := h2 ys (h H G g s).2
    rw [e1] at z1
    rw [e2] at z2
    cases z1
    cases z2
    have gs := GS.new (o := .tup [x, y]) s hT
    refine ⟨_, .tup [ds[i]'hi.1, es[i]'hi.2], ?_, gs, T, [x, y], rfl, SqT.of upd_same, ?_⟩
    · unfold zipD
      have hz : (ds.zip es)[i]? = some (ds[i]'hi.1, es[i]'hi.2) := List.getElem?_zip_eq_some.mpr ⟨List.getElem?_eq_getElem hi.1, List.getElem?_eq_getElem hi.2⟩
      rw [List.getElem?_map, hz]
      rfl
    · exact ⟨x, [y], rfl, Rp.mono (g.trans gs.gg) _ _ q1, y, [], rfl, Rp.mono (g.trans gs.gg) _ _ q2, rfl⟩
  stop := fun H G g s => by
    rw [js]
    refine ⟨xs, ys, (h H G g s).1, (h H G g s).2, ?_⟩
    unfold zipD
    rw [List.length_map, List.length_zip, r.length, q.length]
    omega
/-- a frozen list or tuple -/
theorem Rp.seq {K : PySem.W.Frag} {G : Hp} {d : D} {v : V} {ds : List D} (h : Rp K G d v) (e : seqD d = some ds) : ∃ a xs, v = .ref a ∧ RpL K G ds xs ∧ ((∀ H G', Same G G' → Same G' H → SqL K H a xs) ∨ ((∃ es, d = .tup es) ∧ ∀ H G', Same G G' → Same G' H → SqT K H a xs)) := by
  cases d with
  | lst es =>
    cases e
    obtain ⟨a, xs, rfl, h1, h2⟩ := h
    exact ⟨a, xs, rfl, h2, .inl fun H G' g s => SqL.of (s _ _ (g _ _ h1))⟩
  | tup es =>
    cases e
    obtain ⟨a, xs, rfl, h1, h2⟩ := h
    exact ⟨a, xs, rfl, h2, .inr ⟨⟨_, rfl⟩, fun H G' g s => Same.sqT s (Same.sqT g h1)⟩⟩
  | scr ns =>
    cases e
    obtain ⟨a, rfl, h1⟩ := h
    exact ⟨a, _, rfl, RpL.ints ns, .inl fun H G' g s => s.seq (g.seq h1)⟩
  | _ => cases e
section
variable {X : Cx} {W : WX} {tg e : Expr} {F : Fx} {p pos : Pos}
theorem sx_seq (he : EX X W e F) : SX X W tg e (seqS' F) := by
  refine PI.weak (PI.or (pi_list he) (pi_tup he)) fun σ H R ⟨G, env, r, h⟩ => ?_
  have key : ∀ {k1 k2 : VK}, (∀ vl env1 v H1 G1, F env = .ok vl env1 → Stp X.K σ H G env H1 G1 env1 → VlAt X.K H H1 G1 σ env1 vl v → PostI X.K X.mg W σ H G env R (match vl.toIm.bind seqD with
    | some ds => .ok ds env1
    | none => .stk) → k1 v H1) → tD X.K X.mg W F σ H k1 := fun {k1 k2} st => tI_bind r h st
  cases e1 : F env with
  | stk => simp only [seqS', e1] at h; exact h.elim
  | err c e' => simp only [seqS', e1] at h; exact .inl ⟨G, env, r, by rw [e1]; exact h⟩
  | ok vl env1 =>
    cases e2 : vl.toIm with
    | none => simp only [seqS', e1, e2] at h; exact h.elim
    | some d =>
      cases e3 : seqD d with
      | none => simp only [seqS', e1, e2, Option.bind_some, e3] at h; exact h.elim
      | some ds =>
        simp only [seqS', e1, e2, Option.bind_some, e3] at h
        by_cases ht : ∃ es, d = .tup es
        · refine .inr ⟨G, env, r, ?_⟩
          rw [e1]
          intro v H1 G1 s v1
          obtain ⟨G2, s2, g2, k2, hr⟩ := v1.w.imm s r e2
          obtain ⟨a, xs, rfl, hx, hs⟩ := hr.seq e3
          rcases hs with hs | ⟨_, hs⟩
          · obtain ⟨es, rfl⟩ := ht
            obtain ⟨a', xs', ea, q1, q2⟩ := hr
            cases ea
            cases e3
            exact ⟨a, rfl, ⟨xs', Same.sqT s2.er.sub q1⟩, h _ H1 G2 s2 (jok_tup (fun H' G' g s => Same.sqT s (Same.sqT g q1)) q2)⟩
          · exact ⟨a, rfl, ⟨xs, hs H1 G2 (Same.refl _) s2.er.sub⟩, h _ H1 G2 s2 (jok_tup hs hx)⟩
        · refine .inl ⟨G, env, r, ?_⟩
          rw [e1]
          intro v H1 G1 s v1
          obtain ⟨G2, s2, g2, k2, hr⟩ := v1.w.imm s r e2
          obtain ⟨a, xs, rfl, hx, hs⟩ := hr.seq e3
          rcases hs with hs | ⟨ht', hs⟩
          · exact ⟨a, rfl, ⟨xs, hs H1 G2 (Same.refl _) s2.er.sub⟩, h _ H1 G2 s2 (jok_list hs hx)⟩
          · exact absurd ht' ht
@[simp] def strS' (F : Fx)  (env : List Sl) : RsS := match F env with
  | .ok v e => (match v with
    | .im (.str z) => .ok (z.cps.toList.map fun c => D.str ⟨#[c]⟩) e
    | _ => .stk)
  | .err c e => .err c e
  | .stk => .stk
theorem sx_str (he : EX X W e F) : SX X W tg e (strS' F) := by
  refine PI.weak (pi_str he) fun σ H R ⟨G, env, r, h⟩ => ?_
  refine tI_bind r h fun vl env1 v H1 G1 _ s v1 p => ?_
  cases vl with
  | im d =>
    cases d with
    | str z => exact ⟨z, v1, p _ H1 G1 s (jok_str z)⟩
    | _ => exact p.elim
  | _ => exact p.elim
@[simp] def revS' (F : Fx)  (env : List Sl) : RsS := match F env with
  | .ok v e => (match v.toIm.bind seqD with
    | some ds => .ok ds.reverse e
    | none => .stk)
  | .err c e => .err c e
  | .stk => .stk
theorem sx_rev (hm : X.mg "reversed" = none) (he : EX X W e F) (hg : Gl X "reversed" := by rfl) (hs : starEach [e] X.env = (false, eval e X.env) :: starEach [] X.env := by rfl) : SX X W tg (.Call (.Name "reversed" p) [e] [] pos) (revS' F) := by
  refine PI.weak (RT.pi_revA hg hm he hs) fun σ H R ⟨G, env, r, h⟩ => ?_
  refine tI_bind r h fun vl env1 v H1 G1 _ s v1 p => ?_
  cases e2 : vl.toIm with
  | none => rw [e2] at p; exact p.elim
  | some d =>
    cases e3 : seqD d with
    | none => simp only [e2, Option.bind_some, e3] at p; exact p.elim
    | some ds =>
      simp only [e2, Option.bind_some, e3] at p
      obtain ⟨G2, s2, g2, k2, hr⟩ := v1.w.imm s r e2
      obtain ⟨a, xs, rfl, hx, hs⟩ := hr.seq e3
      rcases hs with hs | ⟨_, hs⟩
      · exact ⟨a, xs, rfl, .inl ⟨hs H1 G2 (Same.refl _) s2.er.sub, p _ H1 G2 s2 (jok_rlist hs hx)⟩⟩
      · exact ⟨a, xs, rfl, .inr ⟨hs H1 G2 (Same.refl _) s2.er.sub, p _ H1 G2 s2 (jok_rtup hs hx)⟩⟩
end
/-! range -/
@[simp] def rngB (i : Int) : Bool := decide (-(2 ^ 62) ≤ i ∧ i < 2 ^ 62)
def rgD (lo : Int) (n : Nat) : List D := (List.range n).map fun (i : Nat) => D.int (lo + i)
@[simp] def rng1 : List D → Option (List D)
  | [.int j] => if rngB j then some (rgD 0 j.toNat) else none
  | _ => none
@[simp] def rng2 : List D → Option (List D)
  | [.int i, .int j] => if rngB i && rngB j then some (rgD i (j - i).toNat) else none
  | _ => none
/-- downward -/
@[simp] def rng3 : List D → Option (List D)
  | [.int i, .int j, .int c] => if rngB i && rngB j && decide (c = -1) then some ((List.range (i - j).toNat).map fun (k : Nat) => D.int (i + k * (-1))) else none
  | _ => none
@[simp] def rngS' (g : List D → Option (List D)) (Fs : FxL)  (env : List Sl) : RsS := match Fs env with
  | .ok vls e => (match (Vls.rd e vls).bind g with
    | some ds => .ok ds e
    | none => .stk)
  | .err c e => .err c e
  | .stk => .stk
theorem rng_step {K : PySem.W.Frag} {mg : Str → Option Value} {W : WX} {σ : L2.St} {H G H1 G1 : Hp} {env env1 : List Sl} {R : It → Hp → Prop} {vls : List Vl} {vs : List V} {g : List D → Option (List D)} (s : Stp K σ H G env H1 G1 env1) (v1 : VlsAt K H H1 G1 σ env1 vls vs)
    (p : PostI K mg W σ H G env R (match (Vls.rd env1 vls).bind g with
    | some ds => .ok ds env1
    | none => .stk)) : ∃ ds es, RdsAt K H1 G1 ds vs ∧ g ds = some es ∧ ∀ J, JOk K J es G1 → R J H1 := by
  cases e2 : Vls.rd env1 vls with
  | none => rw [e2] at p; exact p.elim
  | some ds =>
    cases e3 : g ds with
    | none => simp only [e2, Option.bind_some, e3] at p; exact p.elim
    | some es =>
      simp only [e2, Option.bind_some, e3] at p
      exact ⟨ds, es, VlsAt.read s.er v1 e2, e3, fun J j => p J H1 G1 s j⟩
theorem rng1_of {ds es : List D} (h : rng1 ds = some es) : ∃ j, ds = [.int j] ∧ -(2 ^ 62) ≤ j ∧ j < 2 ^ 62 ∧ es = rgD 0 j.toNat := by
  unfold rng1 at h
  split at h
  · rename_i j
    split at h
    · rename_i c
      have c := of_decide_eq_true c
      exact ⟨j, rfl, c.1, c.2, (Option.some.inj h).symm⟩
    · cases h
  · cases h
theorem rng2_of {ds es : List D} (h : rng2 ds = some es) : ∃ i j, ds = [.int i, .int j] ∧ (-(2 ^ 62) ≤ i ∧ i < 2 ^ 62 ∧ -(2 ^ 62) ≤ j ∧ j < 2 ^ 62) ∧ es = rgD i (j - i).toNat := by
  unfold rng2 at h
  split at h
  · rename_i i j
    split at h
    · rename_i c
      simp only [Bool.and_eq_true] at c
      have c1 := of_decide_eq_true c.1
      have c2 := of_decide_eq_true c.2
      exact ⟨i, j, rfl, ⟨c1.1, c1.2, c2.1, c2.2⟩, (Option.some.inj h).symm⟩
    · cases h
  · cases h
theorem rng3_of {ds es : List D} (h : rng3 ds = some es) : ∃ i j, ds = [.int i, .int j, .int (-1)] ∧ (-(2 ^ 62) ≤ i ∧ i < 2 ^ 62 ∧ -(2 ^ 62) ≤ j ∧ j < 2 ^ 62) ∧ es = (List.range (i - j).toNat).map fun (k : Nat) => D.int (i + k * (-1)) := by
  unfold rng3 at h
  split at h
  · rename_i i j k
    split at h
    · rename_i c
      simp only [Bool.and_eq_true] at c
      have c1 := of_decide_eq_true c.1.1
      have c2 := of_decide_eq_true c.1.2
      have c3 := of_decide_eq_true c.2
      subst c3
      exact ⟨i, j, rfl, ⟨c1.1, c1.2, c2.1, c2.2⟩, (Option.some.inj h).symm⟩
    · cases h
  · cases h
section
variable {X : Cx} {W : WX} {tg a b c : Expr} {Fs : FxL} {p pos : Pos}
theorem sx_range1 (hm : X.mg "range" = none) (ha : AX X W [a] Fs) (hg : Gl X "range" := by rfl) (hs : starEach [a] X.env = [(false, eval a X.env)] := by rfl) : SX X W tg (.Call (.Name "range" p) [a] [] pos) (rngS' rng1 Fs) := by
  refine PI.weak (pi_range1 hg hm ha hs) fun σ H R ⟨G, env, r, h⟩ => ?_
  refine tI_bindA r h fun vls env1 vs H1 G1 s v1 p => ?_
  obtain ⟨ds, es, rd, e, k⟩ := rng_step s v1 p
  obtain ⟨j, rfl, h1, h2, rfl⟩ := rng1_of e
  obtain ⟨x, rfl, hx⟩ := rd.one
  exact ⟨j, by rw [hx.int], h1, h2, k _ (jok_range 0 j.toNat)⟩
theorem sx_range2 (hm : X.mg "range" = none) (ha : AX X W [a, b] Fs) (hg : Gl X "range" := by rfl) (hs : starEach [a, b] X.env = [(false, eval a X.env), (false, eval b X.env)] := by rfl) (hs2 : starEach [b] X.env = [(false, eval b X.env)] := by rfl) : SX X W tg (.Call (.Name "range" p) [a, b] [] pos) (rngS' rng2 Fs) := by
  refine PI.weak (pi_range2 hg hm ha hs hs2) fun σ H R ⟨G, env, r, h⟩ => ?_
  refine tI_bindA r h fun vls env1 vs H1 G1 s v1 p => ?_
  obtain ⟨ds, es, rd, e, k⟩ := rng_step s v1 p
  obtain ⟨i, j, rfl, h1, rfl⟩ := rng2_of e
  obtain ⟨x, y, rfl, hx, hy⟩ := rd.two
  exact ⟨i, j, by rw [hx.int, hy.int], h1, k _ (jok_range i (j - i).toNat)⟩
theorem sx_range3 (hm : X.mg "range" = none) (ha : AX X W [a, b, c] Fs) (hg : Gl X "range" := by rfl) (hs : starEach [a, b, c] X.env = (false, eval a X.env) :: starEach [b, c] X.env := by rfl) (hpl : (backTo pos (starEach [b, c] X.env)).any (·.1) = false := by rfl) : SX X W tg (.Call (.Name "range" p) [a, b, c] [] pos) (rngS' rng3 Fs) := by
  refine PI.weak (pi_range3 hg hm ha hs hpl) fun σ H R ⟨G, env, r, h⟩ => ?_
  refine tI_bindA r h fun vls env1 vs H1 G1 s v1 p => ?_
  obtain ⟨ds, es, rd, e, k⟩ := rng_step s v1 p
  obtain ⟨i, j, rfl, h1, rfl⟩ := rng3_of e
  obtain ⟨x, t, rfl, hx, y, t', rfl, hy, z, t'', rfl, hz, ht⟩ := rd
  rw [show t'' = [] from ht]
  exact ⟨i, j, -1, (i - j).toNat, by rw [hx.int, hy.int, hz.int], RgC.neg h1.1 h1.2.1 h1.2.2.1 h1.2.2.2, k _ (jok_rangeC i (-1) _)⟩
end
/-! zip -/
@[simp] def zipS' (Fs : FxL)  (env : List Sl) : RsS := match Fs env with
  | .ok vls e => (match Vls.toIm vls with
    | some [.tup ds, .tup es] => .ok (zipD ds es) e
    | some [.lst ds, .lst es] => .ok (zipD ds es) e
    | _ => .stk)
  | .err c e => .err c e
  | .stk => .stk
section
variable {X : Cx} {W : WX} {e e2 : Expr} {Fs : FxL} {p pos tpos : Pos} {elts : List Expr} {kk : Nat}
theorem sx_zip (hm : X.mg "zip" = none) (ha : AX X W [e, e2] Fs) (hg : Gl X "zip" := by rfl) (hs : starEach [e, e2] X.env = (false, eval e X.env) :: starEach [e2] X.env := by rfl) (hpl : (backTo pos (starEach [e2] X.env)).any (·.1) = false := by rfl) :
    SX X W (.Tuple elts kk tpos) (.Call (.Name "zip" p) [e, e2] [] pos) (zipS' Fs) := by
  refine PI.weak (RZ.pi_zipA hg hm ha hs hpl) fun σ H R ⟨G, env, r, h⟩ => ?_
  refine tI_bindA r h fun vls env1 vs H1 G1 s v1 p => ?_
  cases e2 : Vls.toIm vls with
  | none => rw [e2] at p; exact p.elim
  | some ds =>
    simp only [e2] at p
    obtain ⟨G2, s2, g2, k2, hr⟩ := VlsW.imm r v1.w s e2
    split at p
    · rename_i ds es q
      cases q
      obtain ⟨x, t, rfl, ⟨a, xs, rfl, a1, a2⟩, y, t', rfl, ⟨b, ys, rfl, b1, b2⟩, ht⟩ := hr
      rw [show t' = [] from ht]
      refine ⟨a, b, xs, ys, rfl, .inr ⟨Same.sqT s2.er.sub a1, Same.sqT s2.er.sub b1, p _ H1 G2 s2 ?_⟩⟩
      exact jok_zip (P := fun H a xs => SqT X.K H a xs) a2 b2 (fun H G g s => ⟨Same.sqT s (Same.sqT g a1), Same.sqT s (Same.sqT g b1)⟩) rfl rfl rfl
    · rename_i ds es q
      cases q
      obtain ⟨x, t, rfl, ⟨a, xs, rfl, a1, a2⟩, y, t', rfl, ⟨b, ys, rfl, b1, b2⟩, ht⟩ := hr
      rw [show t' = [] from ht]
      refine ⟨a, b, xs, ys, rfl, .inl ⟨SqL.of (s2.er.sub _ _ a1), SqL.of (s2.er.sub _ _ b1), p _ H1 G2 s2 ?_⟩⟩
      exact jok_zip (P := fun H a xs => SqL X.K H a xs) a2 b2 (fun H G g s => ⟨SqL.of (s _ _ (g _ _ a1)), SqL.of (s _ _ (g _ _ b1))⟩) rfl rfl rfl
    · exact p.elim
end
end HF

set_option Elab.async false
set_option linter.all false
set_option maxRecDepth 100000
set_option maxHeartbeats 4000000
set_option autoImplicit false
namespace HF
open PySem PySem.Spec PyProof.Rows L2
/-! ### targets -/
abbrev TFx := D → List Sl → Option (List Sl)
@[simp] def tgN (i : Nat)  (d : D) (e : List Sl) : Option (List Sl) := setE i (.im d) e
@[simp] def setsE : List Nat → List D → List Sl → Option (List Sl)
  | [], [], e => some e
  | i :: is, d :: ds, e => (setE i (.im d) e).bind (setsE is ds)
  | _, _, _ => none
@[simp] def tgT (is : List Nat)  (d : D) (e : List Sl) : Option (List Sl) := match d with
  | .tup ds => setsE is ds e
  | _ => none
/-- a target -/
def GX (X : Cx) (tg : Expr) (TF : TFx) : Prop := ∃ g : TG, PG X tg g ∧ ∀ (H0 G0 : Hp) (pa : Nat → Option Addr) (H G : Hp) (σ : L2.St) (env e' : List Sl) (d : D) (v : V) (Q : L2.St → Hp → Prop),
  SR X.K H0 G0 pa H G σ env → Rp X.K G d v → TF d env = some e' → (∀ σ', SR X.K H0 G0 pa H G σ' e' → Q σ' H) → g v σ H Q
theorem SR.setIm {K : PySem.W.Frag} {H0 G0 H G : Hp} {pa : Nat → Option Addr} {σ : L2.St} {env e' : List Sl} {i : Nat} {d : D} {v : V} (r : SR K H0 G0 pa H G σ env) (h : Rp K G d v) (e : HF.setE i (.im d) env = some e') : SR K H0 G0 pa H G (σ.set i (some v)) e' := by
  unfold HF.setE at e
  simp only [Vl.st] at e
  split at e
  · cases e
  · rename_i c
    cases e
    cases q : env[i]? with
    | none => rw [q] at c; exact absurd rfl c
    | some t =>
      rw [q] at c
      exact r.set q (fun d z => by rw [z] at c; exact c rfl) h
section
variable {X : Cx}
theorem gx_name {i : Nat} {x : Str} {pos : Pos} (hN : X.N.Nodup) (hi : X.N[i]? = some x := by rfl) (hx : Loc X.env.scope x := by first | exact .inl rfl | exact .inr rfl) (hf : X.fn x = true ∨ X.env.scope.names.lookup x = some .local := by first | exact .inl rfl | exact .inr rfl) : GX X (.Name x pos) (tgN i) :=
  ⟨gName i, pg_name hN hi hx hf, fun H0 G0 pa H G σ env e' d v Q r hv e k => k _ (r.setIm hv e)⟩
/-- names of a written tuple -/
def GXs (X : Cx) (tgs : List Expr) (is : List Nat) : Prop := ∃ g : TGs, PGs X tgs g ∧ ∀ (H0 G0 : Hp) (pa : Nat → Option Addr) (H G : Hp) (σ : L2.St) (env e' : List Sl) (ds : List D) (vs : List V) (Q : L2.St → Hp → Prop),
  SR X.K H0 G0 pa H G σ env → RpL X.K G ds vs → setsE is ds env = some e' → (∀ σ', SR X.K H0 G0 pa H G σ' e' → Q σ' H) → g vs σ H Q
theorem gxs_nil : GXs X [] [] := ⟨gNil, pgs_nil, fun H0 G0 pa H G σ env e' ds vs Q r hv e k => by
  cases ds with
  | nil => cases e; exact ⟨hv, k σ r⟩
  | cons d ds => cases e⟩
theorem gxs_cons {i : Nat} {is : List Nat} {x : Str} {pos : Pos} {tgs : List Expr} (hN : X.N.Nodup) (h : GXs X tgs is) (hi : X.N[i]? = some x := by rfl) (hx : Loc X.env.scope x := by first | exact .inl rfl | exact .inr rfl) (hf : X.fn x = true ∨ X.env.scope.names.lookup x = some .local := by first | exact .inl rfl | exact .inr rfl) (hs : (assignEach (.Name x pos :: tgs) X.env).map (·.2) = assign (.Name x pos) X.env :: (assignEach tgs X.env).map (·.2) := by rfl) :
    GXs X (.Name x pos :: tgs) (i :: is) := by
  obtain ⟨g, hg, hk⟩ := h
  refine ⟨gCons (gName i) g, pgs_cons (pg_name hN hi hx hf) hg hs, fun H0 G0 pa H G σ env e' ds vs Q r hv e k => ?_⟩
  cases ds with
  | nil => cases e
  | cons d ds =>
    obtain ⟨v, rest, rfl, h1, h2⟩ := hv
    have e : (HF.setE i (.im d) env).bind (setsE is ds) = some e' := e
    cases e1 : HF.setE i (.im d) env with
    | none => rw [e1] at e; cases e
    | some env1 =>
      rw [e1] at e
      exact ⟨v, rest, rfl, hk H0 G0 pa H G _ env1 e' ds rest Q (r.setIm h1 e1) h2 e k⟩
theorem setsE_len : ∀ {is : List Nat} {ds : List D} {e e' : List Sl}, setsE is ds e = some e' → ds.length = is.length
  | [], [], _, _, _ => rfl
  | [], d :: ds, _, _, h => by cases h
  | i :: is, [], _, _, h => by cases h
  | i :: is, d :: ds, e, e', h => by
    have h : (setE i (.im d) e).bind (setsE is ds) = some e' := h
    cases e1 : setE i (.im d) e with
    | none => rw [e1] at h; cases h
    | some e2 =>
      rw [e1] at h
      rw [List.length_cons, List.length_cons, setsE_len h]
theorem gx_tup {is : List Nat} {es : List Expr} {k : Nat} {pos : Pos} (hc : X.calm = true) (h : GXs X es is) (hn : (assignEach es X.env).length = is.length := by rfl) (hst : (assignEach es X.env).findIdx? (·.1) = none := by rfl) : GX X (.Tuple es k pos) (tgT is) := by
  obtain ⟨g, hg, hk⟩ := h
  refine ⟨_, pg_tup hc hg hn hst, fun H0 G0 pa H G σ env e' d v Q r hv e k => ?_⟩
  cases d with
  | tup ds =>
    obtain ⟨a, xs, rfl, h1, h2⟩ := hv
    have e : setsE is ds env = some e' := e
    exact ⟨a, xs, rfl, Same.sqT r.er.sub h1, by rw [h2.length, setsE_len e], hk H0 G0 pa H G σ env e' ds xs Q r h2 e k⟩
  | _ => cases e
end
/-! ### a, b = e -/
@[simp] def unpS (TF : TFx) (F : Fx)  (env : List Sl) : Out := match F env with
  | .ok v e => (match v.toIm.bind fun d => TF d e with
    | some e' => .nx e'
    | none => .stk)
  | .err c e => .err c e
  | .stk => .stk
theorem SR.frz {K : PySem.W.Frag} {H0 G0 H0' G0' H G G' : Hp} {pa : Nat → Option Addr} {σ : L2.St} {env : List Sl} (r : SR K H0 G0 pa H G σ env) (er : ER K H G' σ env) (g : Same G G') (o : ∀ b, H0 b ≠ none → G' b = G b) : SR K H0 G0 pa H G' σ env :=
  ⟨er, r.gr.trans g, fun b hb hg => by rw [o b hb]; exact r.old b hb hg, r.keep, r.own, r.io, r.iof⟩
section
variable {X : Cx} {W : WX}
theorem st_unp {tg e : Expr} {F : Fx} {TF : TFx} {pos : Pos} (he : EX X W e F) (hg : GX X tg TF) (hs : swapsWithSole [tg] e pos.line X.env = pure false := by rfl) (hw : swappedStores [tg] e X.env = pure none := by rfl)
    (h1 : (assignEach [tg] X.env).map (·.2) = [assign tg X.env] := by rfl) : ST X W (.Assign [tg] e pos) (unpS TF F) := by
  obtain ⟨g, hg, hk⟩ := hg
  intro H0 G0 pa
  refine PS.weak (ps_asg he hg hs hw h1) fun D σ H ⟨G, env, r, h⟩ => ?_
  refine SR.bind r h fun vl env1 v H1 G1 _ s v1 r1 p => ?_
  cases e1 : vl.toIm with
  | none => simp only [e1] at p; exact p.elim
  | some d =>
    cases e2 : TF d env1 with
    | none => simp only [e1, Option.bind_some, e2] at p; exact p.elim
    | some e' =>
      simp only [e1, Option.bind_some, e2] at p
      obtain ⟨G2, s2, g2, k2, hr⟩ := v1.w.imm s r.er e1
      exact hk H0 G0 pa H1 G2 σ env1 e' d v _ (r.step s2) hr e2 fun σ' r' => p σ' H1 G2 r'
end
/-! ### for -/
@[simp] def forL (TF : TFx) (S : Sx) : List D → List Sl → Out
  | [], e => .nx e
  | d :: r, e => match TF d e with
    | none => .stk
    | some e1 => (match S e1 with
      | .nx e2 => forL TF S r e2
      | .ct e2 => forL TF S r e2
      | .bk e2 => .nx e2
      | .rt v e2 => .rt v e2
      | .err c e2 => .err c e2
      | .stk => .stk)
@[simp] def forS (SF : SFx) (TF : TFx) (S : Sx)  (env : List Sl) : Out := match SF env with
  | .ok ds e => forL TF S ds e
  | .err c e => .err c e
  | .stk => .stk
section
variable {X : Cx} {W : WX}
/-- more is frozen at the start -/
theorem SR.base {K : PySem.W.Frag} {H0 G0 H G H1 G1 : Hp} {pa : Nat → Option Addr} {σ σ1 : L2.St} {env env1 : List Sl} (r0 : SR K H0 G0 pa H1 G1 σ1 env1) : (SR K H0 G1 pa H G σ env → SR K H0 G0 pa H G σ env) ∧ (SR K H0 G0 pa H G σ env → Same G1 G → SR K H0 G1 pa H G σ env) :=
  ⟨fun r => ⟨r.er, r0.gr.trans r.gr, fun b hb hg => r.old b hb (r0.old b hb hg), r.keep, r.own, r.io, r.iof⟩,
    fun r g => ⟨r.er, g, fun b hb hg => r.old b hb (r0.gr.free hg), r.keep, r.own, r.io, r.iof⟩⟩
theorem st_for {tg iter : Expr} {body : List Stmt} {SF : SFx} {TF : TFx} {S : Sx} {pos : Pos} (hp : PassesOwn (model X.prog X.w) X.A X.env X.xe) (hc : X.calm = true) (hi : SX X W tg iter SF) (hg : GX X tg TF) (hb : STs X W body S)
    (hs : ∀ x, foldedSetIterable iter X.env x = pure x := by intro _; rfl) : ST X W (.For tg iter body [] pos) (forS SF TF S) := by
  obtain ⟨g, hg, hk⟩ := hg
  intro H0 G0 pa
  -- the body is run with all that is frozen at the loop's start as its base
  have hb' : PSs X body (fun D σ H => ∃ G1 : Hp, tS X.K X.mg W H0 G1 pa S D σ H) := ⟨fun pins s σ H D I ⟨G1, q⟩ => (hb H0 G1 pa).run pins s σ H D I q⟩
  refine PS.weak (ps_for hp hc hi hg hb' hs) fun D σ H ⟨G, env, r, h⟩ => ?_
  refine ⟨G, env, r.er, ?_⟩
  cases e1 : SF env with
  | stk => simp only [forS, e1] at h; exact h.elim
  | err c e' =>
    simp only [forS, e1] at h
    intro C H' m ea
    refine h C σ H' m ?_
    cases e' with
    | some e' => obtain ⟨G', s⟩ := ea; exact ⟨G', r.step s⟩
    | none => exact fun b o q n => ea b o (r.keep b o q n) (r.notMu q n)
  | ok ds env1 =>
    simp only [forS, e1] at h
    intro J H1 G1 s jok
    have r1 := r.step s
    have base : ∀ {H' G' : Hp} {σ' : L2.St} {e' : List Sl}, (SR X.K H0 G1 pa H' G' σ' e' → SR X.K H0 G0 pa H' G' σ' e') ∧ (SR X.K H0 G0 pa H' G' σ' e' → Same G1 G' → SR X.K H0 G1 pa H' G' σ' e') := fun {H' G' σ' e'} => SR.base r1
    refine ⟨fun i m σ H => m = ds.length - i ∧ i ≤ ds.length ∧ ∃ G e, SR X.K H0 G1 pa H G σ e ∧ PostS X.K X.mg W H0 G0 pa D (forL TF S (ds.drop i) e), ⟨ds.length, rfl, Nat.zero_le _, G1, env1, base.2 r1 (Same.refl _), h⟩, ?_⟩
    rintro i m σ2 H2 ⟨rfl, hi', G2, e2, r2, p2⟩
    by_cases hlt : i < ds.length
    · refine .inr ⟨jok.go H2 G2 i r2.gr r2.er.sub hlt, fun σ' H' => i + 1 ≤ ds.length ∧ ∃ G e, SR X.K H0 G1 pa H' G σ' e ∧ PostS X.K X.mg W H0 G0 pa D (forL TF S (ds.drop (i + 1)) e), fun σ' H' ⟨a, b⟩ => ⟨ds.length - (i + 1), by omega, rfl, a, b⟩, fun x H3 y => ?_⟩
      obtain ⟨G3, d, ed, gs, hx⟩ := jok.yld H2 G2 i x H3 r2.gr r2.er.sub hlt y
      have r3 : SR X.K H0 G1 pa H3 G3 σ2 e2 := r2.step (Stp.gs r2.er gs)
      have edrop : ds.drop i = d :: ds.drop (i + 1) := by
        rw [List.drop_eq_getElem_cons hlt]
        rw [List.getElem?_eq_getElem hlt] at ed
        rw [Option.some.inj ed]
      rw [edrop] at p2
      unfold forL at p2
      cases et : TF d e2 with
      | none => rw [et] at p2; exact p2.elim
      | some e3 =>
        rw [et] at p2
        simp only at p2
        refine hk H0 G1 pa H3 G3 σ2 e2 e3 d x _ r3 hx et fun σ4 r4 => ⟨G1, G3, e3, r4, ?_⟩
        cases es : S e3 with
        | nx e5 => simp only [es] at p2; exact fun σ' H' G' r5 => ⟨hlt, G', e5, r5, p2⟩
        | ct e5 => simp only [es] at p2; exact fun σ' H' G' r5 => ⟨hlt, G', e5, r5, p2⟩
        | bk e5 => simp only [es] at p2; exact fun σ' H' G' r5 => p2 σ' H' G' (base.1 r5)
        | rt v e5 => simp only [es] at p2; exact fun u σ' H' G' r5 rv => p2 u σ' H' G' (base.1 r5) rv
        | err c e5 =>
          simp only [es] at p2
          intro C σ' H' m se
          refine p2 C σ' H' m ?_
          cases e5 with
          | some e5 => obtain ⟨G', r5⟩ := se; exact ⟨G', base.1 r5⟩
          | none => exact se
        | stk => simp only [es] at p2; exact p2.elim
    · have e : i = ds.length := by omega
      subst e
      rw [List.drop_length] at p2
      exact .inl ⟨jok.stop H2 G2 r2.gr r2.er.sub, p2 σ2 H2 G2 (base.1 r2)⟩
/-! ### while: so many turns at most -/
def whileL (C : Fx) (S : Sx) : Nat → List Sl → Out
  | 0, _ => .stk
  | n + 1, e => match C e with
    | .ok (.im (.bl true)) e1 => (match S e1 with
      | .nx e2 => whileL C S n e2
      | .ct e2 => whileL C S n e2
      | .bk e2 => .nx e2
      | .rt v e2 => .rt v e2
      | .err c e2 => .err c e2
      | .stk => .stk)
    | .ok (.im (.bl false)) e1 => .nx e1
    | .err c e1 => .err c e1
    | _ => .stk
@[simp] def whileS (n : List Sl → Nat) (C : Fx) (S : Sx)  (env : List Sl) : Out := whileL C S (n env) env
theorem st_while {c : Expr} {body : List Stmt} {C : Fx} {S : Sx} {pos : Pos} (n : List Sl → Nat) (hp : PassesOwn (model X.prog X.w) X.A X.env X.xe) (hc : TX X W c C) (hb : STs X W body S) : ST X W (.While c body [] pos) (whileS n C S) := by
  intro H0 G0 pa
  refine PS.weak (ps_while hp hc (hb H0 G0 pa)) fun D σ H ⟨G, env, r, h⟩ => ?_
  refine ⟨fun m σ H => ∃ G e, SR X.K H0 G0 pa H G σ e ∧ PostS X.K X.mg W H0 G0 pa D (whileL C S m e), ⟨n env, G, env, r, h⟩, ?_⟩
  rintro m σ2 H2 ⟨G2, e2, r2, p2⟩
  cases m with
  | zero => exact p2.elim
  | succ m =>
    refine ⟨G2, e2, r2.er, ?_⟩
    unfold whileL at p2
    cases e : C e2 with
    | stk => rw [e] at p2; exact p2
    | err c e' =>
      rw [e] at p2
      intro C' H' mm ea
      refine p2 C' σ2 H' mm ?_
      cases e' with
      | some e' => obtain ⟨G', s⟩ := ea; exact ⟨G', r2.step s⟩
      | none => exact fun b o q n => ea b o (r2.keep b o q n) (r2.notMu q n)
    | ok vl e3 =>
      rw [e] at p2
      cases vl with
      | im d =>
        cases d with
        | bl b =>
          intro H3 G3 s
          have r3 := r2.step s
          cases b with
          | false => exact L2.iteF (p2 σ2 H3 G3 r3)
          | true =>
            refine L2.iteT ⟨fun σ' H' => ∃ G e, SR X.K H0 G0 pa H' G σ' e ∧ PostS X.K X.mg W H0 G0 pa D (whileL C S m e), fun σ' H' q => ⟨m, Nat.lt_succ_self _, q⟩, G3, e3, r3, ?_⟩
            simp only at p2
            cases es : S e3 with
            | nx e5 => simp only [es] at p2; exact fun σ' H' G' r5 => ⟨G', e5, r5, p2⟩
            | ct e5 => simp only [es] at p2; exact fun σ' H' G' r5 => ⟨G', e5, r5, p2⟩
            | bk e5 => simp only [es] at p2; exact fun σ' H' G' r5 => p2 σ' H' G' r5
            | rt v e5 => simp only [es] at p2; exact p2
            | err c e5 => simp only [es] at p2; exact p2
            | stk => simp only [es] at p2; exact p2.elim
        | _ => exact p2.elim
      | _ => exact p2.elim
end
/-! ### comprehensions -/
@[simp] def wipeE (e : List Sl) : List Nat → List Sl
  | [] => e
  | v :: vs => (wipeE e vs).set v .non
/-- the block's own names as they were -/
@[simp] def backE (e0 e : List Sl) : List Nat → List Sl
  | [] => e
  | v :: vs => match e0[v]? with
    | some s => (backE e0 e vs).set v s
    | none => backE e0 e vs
/-- the turns; acc: the list so far -/
@[simp] def lcL (TF : TFx) (T E : Fx) (vs : List Nat) : List D → List Sl → List D → Rs
  | [], e, acc => .ok (.fr (.lst acc)) e
  | d :: r, e, acc => match TF d e with
    | none => .stk
    | some e1 => (match T e1 with
      | .ok (.im (.bl true)) e2 => (match E e2 with
        | .ok v e3 => (match v.toIm with
          | some x => if decide (acc.length < 16777216) then lcL TF T E vs r (wipeE e3 vs) (acc ++ [x]) else .stk
          | none => .stk)
        | _ => .stk)
      | .ok (.im (.bl false)) e2 => lcL TF T E vs r (wipeE e2 vs) acc
      | _ => .stk)
@[simp] def lcF (SF : SFx) (TF : TFx) (T E : Fx) (vs : List Nat)  (env : List Sl) : Rs := match SF env with
  | .ok ds e => (match lcL TF T E vs ds (wipeE e vs) [] with
    | .ok v e2 => .ok v (backE e e2 vs)
    | _ => .stk)
  | .err c e => .err c e
  | .stk => .stk
@[simp] def yesF  (env : List Sl) : Rs := .ok (.im (.bl true)) env
/-! the names of a target, told apart -/
inductive Tg where
  | nm (i : Nat)
  | tp (is : List Nat)
@[simp] def Tg.F : Tg → TFx
  | .nm i => tgN i
  | .tp is => tgT is
def Tg.ix : Tg → List Nat
  | .nm i => [i]
  | .tp is => is
def gsOf : List Nat → TGs
  | [] => gNil
  | i :: is => gCons (gName i) (gsOf is)
def Tg.g (K : PySem.W.Frag) : Tg → TG
  | .nm i => gName i
  | .tp is => gTup K is.length (gsOf is)
def PGT (X : Cx) (tg : Expr) (t : Tg) : Prop := PG X tg (t.g X.K)
theorem pgt_name {X : Cx} {i : Nat} {x : Str} {pos : Pos} (hN : X.N.Nodup) (hi : X.N[i]? = some x := by rfl) (hx : Loc X.env.scope x := by first | exact .inl rfl | exact .inr rfl) (hf : X.fn x = true ∨ X.env.scope.names.lookup x = some .local := by first | exact .inl rfl | exact .inr rfl) : PGT X (.Name x pos) (.nm i) := pg_name hN hi hx hf
def PGTs (X : Cx) (tgs : List Expr) (is : List Nat) : Prop := PGs X tgs (gsOf is)
theorem pgts_nil {X : Cx} : PGTs X [] [] := pgs_nil
theorem pgts_cons {X : Cx} {i : Nat} {is : List Nat} {x : Str} {pos : Pos} {tgs : List Expr} (hN : X.N.Nodup) (h : PGTs X tgs is) (hi : X.N[i]? = some x := by rfl) (hx : Loc X.env.scope x := by first | exact .inl rfl | exact .inr rfl) (hf : X.fn x = true ∨ X.env.scope.names.lookup x = some .local := by first | exact .inl rfl | exact .inr rfl) (hs : (assignEach (.Name x pos :: tgs) X.env).map (·.2) = assign (.Name x pos) X.env :: (assignEach tgs X.env).map (·.2) := by rfl) : PGTs X (.Name x pos :: tgs) (i :: is) := pgs_cons (pg_name hN hi hx hf) h hs
theorem pgt_tup {X : Cx} {is : List Nat} {es : List Expr} {k : Nat} {pos : Pos} (hc : X.calm = true) (h : PGTs X es is) (hn : (assignEach es X.env).length = is.length := by rfl) (hst : (assignEach es X.env).findIdx? (·.1) = none := by rfl) : PGT X (.Tuple es k pos) (.tp is) := pg_tup hc h hn hst
theorem wipe_get (σ : L2.St) : ∀ (vs : List Nat) (k : Nat), (wipe σ vs)[k]? = if k ∈ vs then (σ[k]?).map (fun _ => Option.none) else σ[k]?
  | [], k => by rw [if_neg (by simp)]; rfl
  | v :: vs, k => by
    unfold wipe
    by_cases h : v = k
    · subst h
      rw [if_pos List.mem_cons_self]
      rw [List.getElem?_set]
      simp only [if_true]
      rw [wipe_length]
      by_cases hl : v < σ.length
      · rw [if_pos hl, List.getElem?_eq_getElem hl]; rfl
      · rw [if_neg hl, List.getElem?_eq_none (by omega)]; rfl
    · rw [List.getElem?_set_ne h, wipe_get σ vs k]
      by_cases h2 : k ∈ vs
      · rw [if_pos h2, if_pos (List.mem_cons_of_mem _ h2)]
      · rw [if_neg h2, if_neg (by simp only [List.mem_cons, not_or]; exact ⟨fun z => h z.symm, h2⟩)]
theorem wipeE_length (e : List Sl) : ∀ vs : List Nat, (wipeE e vs).length = e.length
  | [] => rfl
  | v :: vs => by unfold wipeE; rw [List.length_set, wipeE_length e vs]
theorem wipeE_get (e : List Sl) : ∀ (vs : List Nat) (k : Nat), (wipeE e vs)[k]? = if k ∈ vs then (e[k]?).map (fun _ => Sl.non) else e[k]?
  | [], k => by rw [if_neg (by simp)]; rfl
  | v :: vs, k => by
    unfold wipeE
    by_cases h : v = k
    · subst h
      rw [if_pos List.mem_cons_self]
      rw [List.getElem?_set]
      simp only [if_true]
      rw [wipeE_length]
      by_cases hl : v < e.length
      · rw [if_pos hl, List.getElem?_eq_getElem hl]; rfl
      · rw [if_neg hl, List.getElem?_eq_none (by omega)]; rfl
    · rw [List.getElem?_set_ne h, wipeE_get e vs k]
      by_cases h2 : k ∈ vs
      · rw [if_pos h2, if_pos (List.mem_cons_of_mem _ h2)]
      · rw [if_neg h2, if_neg (by simp only [List.mem_cons, not_or]; exact ⟨fun z => h z.symm, h2⟩)]
theorem backE_length (e0 e : List Sl) : ∀ vs : List Nat, (backE e0 e vs).length = e.length
  | [] => rfl
  | v :: vs => by
    unfold backE
    split
    · rw [List.length_set, backE_length e0 e vs]
    · exact backE_length e0 e vs
theorem backE_get {e0 e : List Sl} (hl : e.length = e0.length) : ∀ (vs : List Nat) (k : Nat), (backE e0 e vs)[k]? = if k ∈ vs then e0[k]? else e[k]?
  | [], k => by rw [if_neg (by simp)]; rfl
  | v :: vs, k => by
    unfold backE
    by_cases h : v = k
    · subst h
      rw [if_pos List.mem_cons_self]
      cases q : e0[v]? with
      | none =>
        simp only
        rw [backE_get hl vs v]
        split
        · exact q
        · rw [List.getElem?_eq_none_iff] at q ⊢; omega
      | some s =>
        simp only
        obtain ⟨h1, _⟩ := List.getElem?_eq_some_iff.mp q
        rw [List.getElem?_set_self (by rw [backE_length]; omega)]
    · have e1 : ∀ s, ((backE e0 e vs).set v s)[k]? = (backE e0 e vs)[k]? := fun s => List.getElem?_set_ne h
      have e2 : (if k ∈ v :: vs then e0[k]? else e[k]?) = if k ∈ vs then e0[k]? else e[k]? := by
        by_cases h2 : k ∈ vs
        · rw [if_pos h2, if_pos (List.mem_cons_of_mem _ h2)]
        · rw [if_neg h2, if_neg (by simp only [List.mem_cons, not_or]; exact ⟨fun z => h z.symm, h2⟩)]
      rw [e2, ← backE_get hl vs k]
      split
      · exact e1 _
      · rfl
theorem ER.wiped {K : PySem.W.Frag} {H G : Hp} {σ : L2.St} {env : List Sl} (r : ER K H G σ env) (vs : List Nat) : ER K H G (wipe σ vs) (wipeE env vs) := by
  have out : ∀ {k : Nat} {s : Sl}, (wipeE env vs)[k]? = some s → s ≠ .non → k ∉ vs ∧ env[k]? = some s := fun {k s} h hs => by
    rw [wipeE_get] at h
    split at h
    · cases q : env[k]? with
      | none => rw [q] at h; cases h
      | some t => rw [q] at h; exact absurd (Option.some.inj h).symm hs
    · rename_i hk
      exact ⟨hk, h⟩
  have sg : ∀ {k : Nat}, k ∉ vs → (wipe σ vs)[k]? = σ[k]? := fun {k} hk => by rw [wipe_get, if_neg hk]
  refine ⟨by rw [wipe_length, wipeE_length]; exact r.len, r.sub, fun i d h => ?_, fun i s d h1 h2 => ?_, fun i j s t d e p h1 h2 h3 h4 h5 h6 => ?_⟩
  · obtain ⟨hk, h⟩ := out h (fun z => nomatch z)
    rw [sg hk]
    exact r.val i d h
  · obtain ⟨hk, h⟩ := out h1 (fun z => by rw [z] at h2; cases h2)
    rw [sg hk]
    exact r.mu i s d h h2
  · obtain ⟨hk, h⟩ := out h1 (fun z => by rw [z] at h2; cases h2)
    obtain ⟨hk', h'⟩ := out h3 (fun z => by rw [z] at h4; cases h4)
    rw [sg hk] at h5
    rw [sg hk'] at h6
    exact r.sep i j s t d e p h h2 h' h4 h5 h6
/-- a slot that is not written is set -/
theorem ER.setVal {K : PySem.W.Frag} {H G : Hp} {σ : L2.St} {env : List Sl} {i : Nat} {d : D} {v : V} (r : ER K H G σ env) (hl : i < env.length) (hv : Rp K G d v) : ER K H G (σ.set i (some v)) (env.set i (.val d)) := by
  have hl' : i < σ.length := by rw [r.len]; exact hl
  have ne : ∀ j, i ≠ j → (σ.set i (some v))[j]? = σ[j]? ∧ (env.set i (.val d))[j]? = env[j]? := fun j h => ⟨List.getElem?_set_ne h, List.getElem?_set_ne h⟩
  have eqi : (env.set i (.val d))[i]? = some (.val d) := List.getElem?_set_self hl
  have eqs : (σ.set i (some v))[i]? = some (some v) := List.getElem?_set_self hl'
  refine ⟨by rw [List.length_set, List.length_set]; exact r.len, r.sub, fun j e hj => ?_, fun j t e h1 h2 => ?_, fun j k t u e f p h1 h2 h3 h4 h5 h6 => ?_⟩
  · by_cases z : i = j
    · subst z
      rw [eqi] at hj
      cases hj
      exact ⟨v, eqs, hv⟩
    · rw [(ne j z).2] at hj
      rw [(ne j z).1]
      exact r.val j e hj
  · have z1 : i ≠ j := fun z => by subst z; rw [eqi] at h1; cases h1; cases h2
    rw [(ne j z1).2] at h1
    rw [(ne j z1).1]
    exact r.mu j t e h1 h2
  · have z1 : i ≠ j := fun z => by subst z; rw [eqi] at h1; cases h1; cases h2
    have z2 : i ≠ k := fun z => by subst z; rw [eqi] at h3; cases h3; cases h4
    rw [(ne j z1).2] at h1
    rw [(ne j z1).1] at h5
    rw [(ne k z2).2] at h3
    rw [(ne k z2).1] at h6
    exact r.sep j k t u e f p h1 h2 h3 h4 h5 h6
theorem setE_im {i : Nat} {d : D} {e e' : List Sl} (h : setE i (.im d) e = some e') : i < e.length ∧ e' = e.set i (.val d) := by
  unfold setE at h
  simp only [Vl.st] at h
  split at h
  · cases h
  · rename_i c
    cases h
    cases q : e[i]? with
    | none => rw [q] at c; exact absurd rfl c
    | some t => exact ⟨(List.getElem?_eq_some_iff.mp q).1, rfl⟩
/-- within vs alone -/
structure InVs (vs : List Nat) (σ : L2.St) (e : List Sl) (σ' : L2.St) (e' : List Sl) : Prop where
  so : ∀ k : Nat, k ∉ vs → σ'[k]? = σ[k]?
  eo : ∀ k : Nat, k ∉ vs → e'[k]? = e[k]?
  nm : ∀ (k : Nat) (s : Sl), k ∈ vs → e'[k]? = some s → s.mu = none
  ln : σ'.length = σ.length
theorem InVs.set {vs : List Nat} {σ0 σ : L2.St} {e0 e : List Sl} {i : Nat} {d : D} {v : V} (h : InVs vs σ0 e0 σ e) (hi : i ∈ vs) : InVs vs σ0 e0 (σ.set i (some v)) (e.set i (.val d)) where
  so := fun k hk => by rw [List.getElem?_set_ne (fun z => hk (by rw [← z]; exact hi))]; exact h.so k hk
  eo := fun k hk => by rw [List.getElem?_set_ne (fun z => hk (by rw [← z]; exact hi))]; exact h.eo k hk
  nm := fun k s hk q => by
    by_cases z : i = k
    · subst z
      rw [List.getElem?_set] at q
      simp only [if_true] at q
      split at q
      · cases q; rfl
      · cases q
    · rw [List.getElem?_set_ne z] at q
      exact h.nm k s hk q
  ln := by rw [List.length_set]; exact h.ln
theorem InVs.wipe {vs : List Nat} {σ0 σ : L2.St} {e0 e : List Sl} (h : InVs vs σ0 e0 σ e) : wipe σ vs = wipe σ0 vs := by
  apply List.ext_getElem?
  intro k
  rw [wipe_get, wipe_get]
  by_cases hk : k ∈ vs
  · rw [if_pos hk, if_pos hk]
    by_cases hl : k < σ0.length
    · rw [List.getElem?_eq_getElem hl, List.getElem?_eq_getElem (by rw [h.ln]; exact hl)]; rfl
    · have hl' : σ0.length ≤ k := by omega
      have hl2 : σ.length ≤ k := by rw [h.ln]; exact hl'
      rw [List.getElem?_eq_none hl', List.getElem?_eq_none hl2]
  · rw [if_neg hk, if_neg hk, h.so k hk]
theorem gs_er {K : PySem.W.Frag} {H G : Hp} {vs : List Nat} {σ0 : L2.St} {e0 : List Sl} : ∀ {is : List Nat} {ds : List D} {xs : List V} {σ : L2.St} {e e' : List Sl} {Q : L2.St → Hp → Prop}, (∀ i ∈ is, i ∈ vs) → ER K H G σ e → InVs vs σ0 e0 σ e → RpL K G ds xs → setsE is ds e = some e' →
    (∀ σ', ER K H G σ' e' → InVs vs σ0 e0 σ' e' → Q σ' H) → gsOf is xs σ H Q
  | [], [], xs, σ, e, e', Q, hi, r, iv, hx, h, k => by cases h; exact ⟨hx, k σ r iv⟩
  | [], d :: ds, xs, σ, e, e', Q, hi, r, iv, hx, h, k => by cases h
  | i :: is, [], xs, σ, e, e', Q, hi, r, iv, hx, h, k => by cases h
  | i :: is, d :: ds, xs, σ, e, e', Q, hi, r, iv, hx, h, k => by
    obtain ⟨x, t, rfl, h1, h2⟩ := hx
    have h : (setE i (.im d) e).bind (setsE is ds) = some e' := h
    cases e1 : setE i (.im d) e with
    | none => rw [e1] at h; cases h
    | some e2 =>
      rw [e1] at h
      obtain ⟨hl, rfl⟩ := setE_im e1
      exact ⟨x, t, rfl, gs_er (fun j hj => hi j (List.mem_cons_of_mem _ hj)) (r.setVal hl h1) (iv.set (hi i List.mem_cons_self)) h2 h k⟩
theorem Tg.er {K : PySem.W.Frag} {H G : Hp} {vs : List Nat} {t : Tg} {d : D} {v : V} {σ : L2.St} {e e' : List Sl} {Q : L2.St → Hp → Prop} (hi : ∀ i ∈ t.ix, i ∈ vs) (r : ER K H G σ e) (iv : InVs vs σ e σ e) (hv : Rp K G d v) (h : t.F d e = some e')
    (k : ∀ σ', ER K H G σ' e' → InVs vs σ e σ' e' → Q σ' H) : t.g K v σ H Q := by
  cases t with
  | nm i =>
    obtain ⟨hl, rfl⟩ := setE_im (show setE i (.im d) e = some e' from h)
    exact k _ (r.setVal hl hv) (iv.set (hi i List.mem_cons_self))
  | tp is =>
    cases d with
    | tup ds =>
      obtain ⟨a, xs, rfl, h1, h2⟩ := hv
      have h : setsE is ds e = some e' := h
      exact ⟨a, xs, rfl, Same.sqT r.sub h1, by rw [h2.length, setsE_len h], gs_er hi r iv h2 h k⟩
    | _ => cases h
theorem Tg.gx {X : Cx} {tg : Expr} {t : Tg} (h : PGT X tg t) : GX X tg t.F := by
  refine ⟨t.g X.K, h, fun H0 G0 pa H G σ env e' d v Q r hv e k => ?_⟩
  cases t with
  | nm i => exact k _ (r.setIm hv e)
  | tp is =>
    cases d with
    | tup ds =>
      obtain ⟨a, xs, rfl, h1, h2⟩ := hv
      have e : setsE is ds env = some e' := e
      refine ⟨a, xs, rfl, Same.sqT r.er.sub h1, by rw [h2.length, setsE_len e], ?_⟩
      have go : ∀ {is : List Nat} {ds : List D} {xs : List V} {σ : L2.St} {env : List Sl}, SR X.K H0 G0 pa H G σ env → RpL X.K G ds xs → setsE is ds env = some e' → gsOf is xs σ H Q := by
        intro is
        induction is with
        | nil =>
          intro ds xs σ env r hx e
          cases ds with
          | nil => cases e; exact ⟨hx, k σ r⟩
          | cons d ds => cases e
        | cons i is ih =>
          intro ds xs σ env r hx e
          cases ds with
          | nil => cases e
          | cons d ds =>
            obtain ⟨x, t, rfl, h1, h2⟩ := hx
            have e : (HF.setE i (.im d) env).bind (setsE is ds) = some e' := e
            cases e1 : HF.setE i (.im d) env with
            | none => rw [e1] at e; cases e
            | some e2 => rw [e1] at e; exact ⟨x, t, rfl, ih (r.setIm h1 e1) h2 e⟩
      exact go r h2 e
    | _ => cases e
end HF

set_option Elab.async false
set_option linter.all false
set_option maxRecDepth 100000
set_option maxHeartbeats 4000000
set_option autoImplicit false
namespace HF
open PySem PySem.Spec PyProof.Rows L2
/-! ### the rule for a comprehension -/
abbrev W0 : WX := fun _ _ _ _ => False
theorem PTs.weak {X : Cx} {ifs : List Expr} {t t' : TT} (h : PTs X ifs t) (w : ∀ σ H Q, t' σ H Q → t σ H Q) : PTs X ifs t' := ⟨fun pins s σ H Q I q => h.run pins s σ H Q I (w σ H Q q)⟩
def LTX (X : Cx) (ifs : List Expr) (T : Fx) : Prop := PTs X ifs (tT X.K X.mg W0 T)
theorem ltx_nil {X : Cx} : LTX X [] yesF := PTs.weak pts_nil fun σ H Q ⟨G, env, r, h⟩ => h H G (Stp.refl r)
theorem ltx_one {X : Cx} {c : Expr} {T : Fx} (h : TX X W0 c T) : LTX X [c] T := pts_one h
section
variable {K : PySem.W.Frag} {mg : Str → Option Value}
/-- the block's turn as a step of the wiped frame -/
theorem turn_step {H G H5 G5 : Hp} {vs : List Nat} {σw σ2 : L2.St} {e e2 e5 : List Sl} (rw0 : ER K H G σw e) (hw : wipeE e vs = e) (hs : wipe σw vs = σw) (iv : InVs vs σw e σ2 e2) (s : Stp K σ2 H G e2 H5 G5 e5) : Stp K σw H G e H5 G5 (wipeE e5 vs) := by
  have ew : ∀ (k : Nat) (t : Sl), k ∈ vs → e[k]? = some t → t = .non := fun k t hk q => by
    rw [← hw, wipeE_get, if_pos hk] at q
    cases z : e[k]? with
    | none => rw [z] at q; cases q
    | some u => rw [z] at q; exact (Option.some.inj q).symm
  have er : ER K H5 G5 σw (wipeE e5 vs) := by
    have := s.er.wiped vs
    rw [iv.wipe, hs] at this
    exact this
  have notm : ∀ b, ¬ MuIs σw e b → ¬ MuIs σ2 e2 b := fun b n ⟨k, t, d, q1, q2, q3⟩ => by
    by_cases hk : k ∈ vs
    · have := iv.nm k t hk q1
      rw [this] at q2
      cases q2
    · rw [iv.eo k hk] at q1
      rw [iv.so k hk] at q3
      exact n ⟨k, t, d, q1, q2, q3⟩
  refine ⟨er, s.gr, s.old, fun b o q n => s.keep b o q (notm b n), fun k => ?_⟩
  rw [wipeE_get]
  by_cases hk : k ∈ vs
  · rw [if_pos hk]
    have l1 : e5.length = e.length := by
      have a1 := s.er.len
      have a2 := iv.ln
      have a3 := rw0.len
      omega
    by_cases hl : k < e.length
    · rw [List.getElem?_eq_getElem (show k < e5.length by omega)]
      cases q : e[k]? with
      | none => rw [List.getElem?_eq_none_iff] at q; omega
      | some t => rw [ew k t hk q]; exact rfl
    · rw [List.getElem?_eq_none (show e5.length ≤ k by omega), List.getElem?_eq_none (show e.length ≤ k by omega)]
      exact rfl
  · rw [if_neg hk, ← iv.eo k hk]
    exact s.kin k
/-- out of the block -/
theorem back_step {H G H5 G5 : Hp} {vs : List Nat} {σ : L2.St} {e e5 : List Sl} (r : ER K H G σ e) (s : Stp K (wipe σ vs) H G (wipeE e vs) H5 G5 e5) : Stp K σ H G e H5 G5 (backE e e5 vs) := by
  have hl : e5.length = e.length := by
    have a1 := s.er.len
    rw [wipe_length] at a1
    have := r.len
    omega
  have bg := backE_get hl vs
  have sg : ∀ {k : Nat}, k ∉ vs → (wipe σ vs)[k]? = σ[k]? := fun {k} hk => by rw [wipe_get, if_neg hk]
  have wg : ∀ {k : Nat}, k ∉ vs → (wipeE e vs)[k]? = e[k]? := fun {k} hk => by rw [wipeE_get, if_neg hk]
  have mw : ∀ b, MuIs (wipe σ vs) (wipeE e vs) b → ∃ k : Nat, k ∉ vs ∧ ∃ t d, e[k]? = some t ∧ t.mu = some d ∧ σ[k]? = some (some (.ref b)) := fun b ⟨k, t, d, q1, q2, q3⟩ => by
    by_cases hk : k ∈ vs
    · rw [wipeE_get, if_pos hk] at q1
      cases z : e[k]? with
      | none => rw [z] at q1; cases q1
      | some u => rw [z] at q1; cases q1; cases q2
    · rw [wg hk] at q1
      rw [sg hk] at q3
      exact ⟨k, hk, t, d, q1, q2, q3⟩
  refine ⟨⟨by rw [backE_length, hl]; exact r.len, s.er.sub, fun i d h => ?_, fun i t d h1 h2 => ?_, fun i j t u d f p h1 h2 h3 h4 h5 h6 => ?_⟩, s.gr, s.old, fun b o q n => s.keep b o q fun m => n ?_, fun k => ?_⟩
  · rw [bg] at h
    by_cases hk : i ∈ vs
    · rw [if_pos hk] at h
      obtain ⟨v, w1, w2⟩ := r.val i d h
      exact ⟨v, w1, Rp.mono s.gr d v w2⟩
    · rw [if_neg hk] at h
      obtain ⟨v, w1, w2⟩ := s.er.val i d h
      rw [sg hk] at w1
      exact ⟨v, w1, w2⟩
  · rw [bg] at h1
    by_cases hk : i ∈ vs
    · rw [if_pos hk] at h1
      obtain ⟨p, w1, w2, w3⟩ := r.mu i t d h1 h2
      refine ⟨p, w1, s.old p w3.there w2, w3.mono ?_ s.gr⟩
      cases z : H p with
      | none => exact absurd z w3.there
      | some o =>
        refine s.keep p o z fun m => ?_
        obtain ⟨k, hk', t', d', q1, q2, q3⟩ := mw p m
        have := r.sep i k t t' d d' p h1 h2 q1 q2 w1 q3
        exact hk' (this ▸ hk)
    · rw [if_neg hk] at h1
      obtain ⟨p, w1, w2⟩ := s.er.mu i t d h1 h2
      rw [sg hk] at w1
      exact ⟨p, w1, w2⟩
  · have back : ∀ {i : Nat} {t : Sl} {d : D}, (backE e e5 vs)[i]? = some t → t.mu = some d → ∃ t' d', e[i]? = some t' ∧ t'.mu = some d' := fun {i t d} h1 h2 => by
      rw [bg] at h1
      by_cases hk : i ∈ vs
      · rw [if_pos hk] at h1; exact ⟨t, d, h1, h2⟩
      · rw [if_neg hk] at h1
        have k := s.kin i
        rw [h1, wg hk] at k
        exact k.back h2
    obtain ⟨t', d', x1, x2⟩ := back h1 h2
    obtain ⟨u', f', y1, y2⟩ := back h3 h4
    exact r.sep i j t' u' d' f' p x1 x2 y1 y2 h5 h6
  · obtain ⟨k, _, t, d, q1, q2, q3⟩ := mw b m
    exact ⟨k, t, d, q1, q2, q3⟩
  · rw [bg]
    by_cases hk : k ∈ vs
    · rw [if_pos hk]; exact Kin.refl _
    · rw [if_neg hk, ← wg hk]; exact s.kin k
theorem wipe_idem (σ : L2.St) (vs : List Nat) : wipe (wipe σ vs) vs = wipe σ vs := by
  apply List.ext_getElem?
  intro k
  rw [wipe_get, wipe_get]
  by_cases hk : k ∈ vs
  · rw [if_pos hk, if_pos hk]
    cases σ[k]? <;> rfl
  · rw [if_neg hk, if_neg hk]
theorem wipeE_idem (e : List Sl) (vs : List Nat) : wipeE (wipeE e vs) vs = wipeE e vs := by
  apply List.ext_getElem?
  intro k
  rw [wipeE_get, wipeE_get]
  by_cases hk : k ∈ vs
  · rw [if_pos hk, if_pos hk]
    cases e[k]? <;> rfl
  · rw [if_neg hk, if_neg hk]
/-- the list that is made, at D: accs so far -/
structure LcSt (K : PySem.W.Frag) (σw : L2.St) (H1 G1 : Hp) (ew : List Sl) (vs : List Nat) (Da : Addr) (H G : Hp) (e : List Sl) (acc : List D) : Prop where
  stp : Stp K σw H1 G1 ew H G e
  wp : wipeE e vs = e
  at_ : ∃ xs, H Da = some (.lst xs) ∧ RpL K G acc xs
  gn : G Da = none
theorem lc_go {wi : SFx} {t : Tg} {T E : Fx} {vs : List Nat} {J : It} {ds : List D} {H1 G1 : Hp} {σ : L2.St} {e1 : List Sl} {Q : VK} {Da : Addr} (hi : ∀ i ∈ t.ix, i ∈ vs) (r1 : ER K H1 G1 σ e1) (jok : JOk K J ds G1) (hD : H1 Da = none) (R : Vl → List Sl → Prop)
    (hR : ∃ acc e', lcL t.F T E vs ds (wipeE e1 vs) [] = .ok (.fr (.lst acc)) e')
    (done : ∀ acc e' H' G', lcL t.F T E vs ds (wipeE e1 vs) [] = .ok (.fr (.lst acc)) e' → LcSt K (wipe σ vs) H1 G1 (wipeE e1 vs) vs Da H' G' e' acc → Q (.ref Da) H') :
    ∃ W : Nat → Nat → Hp → Prop, (∃ m, W 0 m (upd H1 Da (.lst []))) ∧ ∀ i m H, W i m H →
      (J.stop i H ∧ Q (.ref Da) H) ∨ (J.go i H ∧ ∃ Nx : Hp → Prop, (∀ H', Nx H' → ∃ m', m' < m ∧ W (i + 1) m' H') ∧ ∀ x H', J.yld i H x H' → t.g K x (wipe σ vs) H' fun σ2 H2 => wipe σ2 vs = wipe σ vs ∧ tT K mg W0 T σ2 H2 fun b H3 =>
        if b = true then tD K mg W0 E σ2 H3 fun y H4 => ∃ acc, H4 Da = some (.lst acc) ∧ acc.length < sizeLine ∧ Nx (upd H4 Da (.lst (acc ++ [y]))) else Nx H3) := by
  have rw1 : ER K H1 G1 (wipe σ vs) (wipeE e1 vs) := r1.wiped vs
  have notD : ∀ {H G : Hp} {e : List Sl}, Stp K (wipe σ vs) H1 G1 (wipeE e1 vs) H G e → ¬ MuIs (wipe σ vs) e Da := fun {H G e} s m => MuIs.new rw1 hD (m.of s.kin)
  -- the rest of the turns gives what all of them give
  refine ⟨fun i m H => m = ds.length - i ∧ i ≤ ds.length ∧ ∃ G e acc, LcSt K (wipe σ vs) H1 G1 (wipeE e1 vs) vs Da H G e acc ∧ lcL t.F T E vs (ds.drop i) e acc = lcL t.F T E vs ds (wipeE e1 vs) [],
    ⟨ds.length, rfl, Nat.zero_le _, G1, wipeE e1 vs, [], ⟨Stp.gs rw1 (GS.newH r1.sub hD), wipeE_idem _ _, ⟨[], upd_same, rfl⟩, r1.sub.free hD⟩, rfl⟩, ?_⟩
  rintro i m H ⟨rfl, hle, G, e, acc, st, eq⟩
  have er := st.stp.er
  by_cases hlt : i < ds.length
  · refine .inr ⟨jok.go H G i st.stp.gr er.sub hlt, fun H' => i + 1 ≤ ds.length ∧ ∃ G e acc, LcSt K (wipe σ vs) H1 G1 (wipeE e1 vs) vs Da H' G e acc ∧ lcL t.F T E vs (ds.drop (i + 1)) e acc = lcL t.F T E vs ds (wipeE e1 vs) [], fun H' ⟨a, b⟩ => ⟨ds.length - (i + 1), by omega, rfl, a, b⟩, fun x H3 y => ?_⟩
    obtain ⟨G3, d, ed, gs, hx⟩ := jok.yld H G i x H3 st.stp.gr er.sub hlt y
    have er3 := er.gs gs
    have edrop : ds.drop i = d :: ds.drop (i + 1) := by
      rw [List.drop_eq_getElem_cons hlt]
      rw [List.getElem?_eq_getElem hlt] at ed
      rw [Option.some.inj ed]
    obtain ⟨acc0, e0, h0⟩ := hR
    rw [edrop, h0] at eq
    unfold lcL at eq
    have ne : ∀ {r : Rs}, r = Rs.ok (.fr (.lst acc0)) e0 → r ≠ .stk := fun {r} q z => by rw [q] at z; cases z
    cases et : t.F d e with
    | none => rw [et] at eq; exact absurd rfl (ne eq)
    | some e2 =>
      rw [et] at eq
      simp only at eq
      have ivv : InVs vs (wipe σ vs) e (wipe σ vs) e := ⟨fun _ _ => rfl, fun _ _ => rfl, fun k s hk q => by
        rw [← st.wp, wipeE_get, if_pos hk] at q
        cases z : e[k]? with
        | none => rw [z] at q; cases q
        | some u => rw [z] at q; rw [← Option.some.inj q]; rfl, rfl⟩
      refine Tg.er hi er3 ivv hx et fun σ2 r2 iv => ⟨iv.wipe.trans (wipe_idem σ vs), G3, e2, r2, ?_⟩
      -- Da at H3
      obtain ⟨xs, hDa, hacc⟩ := st.at_
      have gn3 : G3 Da = none := gs.old Da (by rw [hDa]; exact fun z => nomatch z) st.gn
      have hDa3 : H3 Da = some (.lst xs) := gs.hh _ _ hDa
      have notD2 : ∀ {σ2 : L2.St} {e2 : List Sl}, InVs vs (wipe σ vs) e σ2 e2 → ¬ MuIs σ2 e2 Da := fun {σ2 e2} iv ⟨k, t, d, q1, q2, q3⟩ => by
        by_cases hk : k ∈ vs
        · rw [iv.nm k t hk q1] at q2; cases q2
        · rw [iv.eo k hk] at q1
          rw [iv.so k hk] at q3
          exact notD st.stp ⟨k, t, d, q1, q2, q3⟩
      cases eT : T e2 with
      | stk => rw [eT] at eq; exact absurd rfl (ne eq)
      | err c e' => rw [eT] at eq; exact absurd rfl (ne eq)
      | ok vl e4 =>
        rw [eT] at eq
        cases vl with
        | fr _ => exact absurd rfl (ne eq)
        | bo _ => exact absurd rfl (ne eq)
        | im dd =>
          cases dd with
          | bl b =>
            intro H4 G4 s4
            have D4 : H4 Da = some (.lst xs) := s4.keep Da _ hDa3 (notD2 iv)
            have g4 : G4 Da = none := s4.old Da (by rw [hDa3]; exact fun z => nomatch z) gn3
            cases b with
            | false =>
              simp only at eq
              refine L2.iteF ⟨hlt, G4, wipeE e4 vs, acc, ⟨?_, wipeE_idem _ _, ⟨xs, D4, RpL.mono (gs.gg.trans s4.gr) _ _ hacc⟩, g4⟩, eq.trans h0.symm⟩
              exact (st.stp.trans (Stp.gs er gs) rw1).trans (turn_step er3 st.wp (wipe_idem σ vs) iv s4) rw1
            | true =>
              simp only at eq
              refine L2.iteT ⟨G4, e4, s4.er, ?_⟩
              cases eE : E e4 with
              | stk => rw [eE] at eq; exact absurd rfl (ne eq)
              | err c e' => rw [eE] at eq; exact absurd rfl (ne eq)
              | ok v5 e5 =>
                rw [eE] at eq
                simp only at eq
                cases ex : v5.toIm with
                | none => rw [ex] at eq; exact absurd rfl (ne eq)
                | some x5 =>
                  rw [ex] at eq
                  simp only at eq
                  split at eq
                  · rename_i csz
                    intro y H5 G5 s5 v5'
                    obtain ⟨G6, s6, g6, k6, q6⟩ := v5'.w.imm s5 s4.er ex
                    have iv4 : ¬ MuIs σ2 e4 Da := fun m => notD2 iv (m.of s4.kin)
                    have D5 : H5 Da = some (.lst xs) := s5.keep Da _ D4 iv4
                    have s36 : Stp K σ2 H3 G3 e2 H5 G6 e5 := s4.trans s6 r2
                    have g6n : G6 Da = none := s36.old Da (by rw [hDa3]; exact fun z => nomatch z) gn3
                    have accn : RpL K G6 acc xs := RpL.mono (gs.gg.trans s36.gr) _ _ hacc
                    refine ⟨xs, D5, ?_, hlt, G6, wipeE e5 vs, acc ++ [x5], ⟨?_, wipeE_idem _ _, ⟨xs ++ [y], upd_same, accn.append (RpL.one q6)⟩, g6n⟩, eq.trans h0.symm⟩
                    · rw [accn.length, sizeLine_eq]
                      exact of_decide_eq_true csz
                    · have sa : Stp K (wipe σ vs) H1 G1 (wipeE e1 vs) H5 G6 (wipeE e5 vs) := (st.stp.trans (Stp.gs er gs) rw1).trans (turn_step er3 st.wp (wipe_idem σ vs) iv s36) rw1
                      -- the new list alone is written
                      have ne1 : ∀ b o, H1 b = some o → b ≠ Da := fun b o q z => by rw [z, hD] at q; cases q
                      refine ⟨⟨sa.er.len, fun b o q => ?_, sa.er.val, fun i t d q1 q2 => ?_, sa.er.sep⟩, sa.gr, sa.old, fun b o q n => ?_, sa.kin⟩
                      · rw [upd_ne (fun z => by rw [z, g6n] at q; cases q)]
                        exact sa.er.sub b o q
                      · obtain ⟨p, w1, w2, w3⟩ := sa.er.mu i t d q1 q2
                        refine ⟨p, w1, w2, w3.mono (upd_ne fun z => ?_) (Same.refl _)⟩
                        exact notD sa ⟨i, t, d, q1, q2, by rw [← z]; exact w1⟩
                      · rw [upd_ne (ne1 b o q)]
                        exact sa.keep b o q n
                  · exact absurd rfl (ne eq)
          | _ => exact absurd rfl (ne eq)
  · have e : i = ds.length := by omega
    subst e
    rw [List.drop_length] at eq
    exact .inl ⟨jok.stop H G st.stp.gr er.sub, done _ _ H G eq.symm st⟩
end
section
variable {X : Cx} {W : WX} {elt tg iter : Expr} {ifs : List Expr} {scope : Scope} {own : List (Str × Nat)} {pos : Pos} {SF : SFx} {t : Tg} {T E : Fx}
theorem lc_read (hi : ∀ i ∈ t.ix, i ∈ own.map (·.2)) {σ : L2.St} {H : Hp} {Q : VK} (h : tD X.K X.mg W (lcF SF t.F T E (own.map (·.2))) σ H Q) :
    tLc (tI X.K X.mg W SF) (t.g X.K) (tT X.K X.mg W0 T) (tD X.K X.mg W0 E) (own.map (·.2)) σ H Q := by
  obtain ⟨G, env, r, h⟩ := h
  refine ⟨G, env, r, ?_⟩
  cases e1 : SF env with
  | stk => simp only [lcF, e1] at h; exact h.elim
  | err c e' => simp only [lcF, e1] at h; exact h
  | ok ds env1 =>
    simp only [lcF, e1] at h
    intro J H1 G1 s jok Da hD
    cases e2 : lcL t.F T E (own.map (·.2)) ds (wipeE env1 (own.map (·.2))) [] with
    | stk => rw [e2] at h; exact h.elim
    | err c e' => rw [e2] at h; exact h.elim
    | ok vl e3 =>
      rw [e2] at h
      have lst : ∀ (ds : List D) (e : List Sl) (acc : List D) {vl : Vl} {e' : List Sl}, lcL t.F T E (own.map (·.2)) ds e acc = .ok vl e' → ∃ acc', vl = .fr (.lst acc') := by
        intro ds
        induction ds with
        | nil => intro e acc vl e' q; cases q; exact ⟨acc, rfl⟩
        | cons d ds ih =>
          intro e acc vl e' q
          unfold lcL at q
          split at q
          · cases q
          · split at q
            · split at q
              · split at q
                · split at q
                  · exact ih _ _ q
                  · cases q
                · cases q
              · cases q
            · exact ih _ _ q
            · cases q
      obtain ⟨acc, rfl⟩ := lst _ _ _ e2
      refine lc_go (wi := SF) hi s.er jok hD (fun _ _ => True) ⟨acc, e3, e2⟩ fun acc' e' H' G' q st => ?_
      rw [e2] at q
      cases q
      obtain ⟨xs, hx, hr⟩ := st.at_
      exact h _ H' G' (s.trans (back_step s.er st.stp) r) ⟨Da, rfl, s.free r hD, st.gn, xs, hx, hr⟩
theorem ex_lc (hc : X.calm = true) (hN : X.N.Nodup) (hs : SX X W tg iter SF) (ok : BlkOk X.N X.env.scope scope own)
    (hg : ∀ (s : Shared) (H : Hp) (C : Addr) (cl : List (Str × Addr)) (fp : List Addr), PGT (X.blk s H scope (compEnvC scope cl C X.env) fp) tg t) (ht : ∀ (s : Shared) (H : Hp) (C : Addr) (cl : List (Str × Addr)) (fp : List Addr), LTX (X.blk s H scope (compEnvC scope cl C X.env) fp) ifs T)
    (he : ∀ (s : Shared) (H : Hp) (C : Addr) (cl : List (Str × Addr)) (fp : List Addr), EX (X.blk s H scope (compEnvC scope cl C X.env) fp) W0 elt E) {vs : List Nat} (hv : own.map (·.2) = vs := by rfl) (hi : ∀ i ∈ t.ix, i ∈ own.map (·.2) := by decide) (hf : ∀ x, foldedSetIterable iter X.env x = pure x := by intro _; rfl) :
    EX X W (.ListComp elt [⟨tg, iter, ifs, 0⟩] scope pos) (lcF SF t.F T E vs) := by
  subst hv
  exact PE.weak (pe_lc (wi := tI X.K X.mg W SF) (g := t.g X.K) (tt := tT X.K X.mg W0 T) (te := tD X.K X.mg W0 E) hc hN hs ok hg ht he hf) fun σ H Q h => lc_read hi h
/-- y = [..] -/
theorem st_setLc {i : Nat} {y : Str} {py spos : Pos} (hc : X.calm = true) (hN : X.N.Nodup) (hsw : swapsWith (.ListComp elt [⟨tg, iter, ifs, 0⟩] scope pos) (some (.Name y py)) spos.line X.env = pure true) (hs : SX X W tg iter SF) (ok : BlkOk X.N X.env.scope scope own)
    (hg : ∀ (s : Shared) (H : Hp) (C : Addr) (cl : List (Str × Addr)) (fp : List Addr), PGT (X.blk s H scope (compEnvC scope cl C X.env) fp) tg t) (ht : ∀ (s : Shared) (H : Hp) (C : Addr) (cl : List (Str × Addr)) (fp : List Addr), LTX (X.blk s H scope (compEnvC scope cl C X.env) fp) ifs T)
    (he : ∀ (s : Shared) (H : Hp) (C : Addr) (cl : List (Str × Addr)) (fp : List Addr), EX (X.blk s H scope (compEnvC scope cl C X.env) fp) W0 elt E) (hy : X.N[i]? = some y := by rfl) (hyl : X.env.scope.names.lookup y = some .local := by rfl) {vs : List Nat} (hv : own.map (·.2) = vs := by rfl) (hi : ∀ i ∈ t.ix, i ∈ own.map (·.2) := by decide) (hf : ∀ x, foldedSetIterable iter X.env x = pure x := by intro _; rfl) :
    ST X W (.Assign [.Name y py] (.ListComp elt [⟨tg, iter, ifs, 0⟩] scope pos) spos) (asgS i (lcF SF t.F T E vs)) := by
  subst hv
  intro H0 G0 pa
  refine PS.weak (ps_setLc (wi := tI X.K X.mg W SF) (g := t.g X.K) (tt := tT X.K X.mg W0 T) (te := tD X.K X.mg W0 E) hc hN hy hyl hsw hs ok hg ht he hf) fun D σ H ⟨G, env, r, h⟩ => ?_
  refine lc_read (W := W) hi (SR.bind r h fun vl env1 v H1 G1 _ s v1 r1 p => ?_)
  cases e1 : setE i vl env1 with
  | none => simp only [e1] at p; exact p.elim
  | some e' =>
    simp only [e1] at p
    exact p _ _ _ (r1.setE v1 (fun p hp m => (MuIs.new r.er hp) (m.of s.kin)) (fun p hp => r.free0 hp) e1)
end
end HF

set_option Elab.async false
set_option linter.all false
set_option maxRecDepth 100000
set_option maxHeartbeats 4000000
set_option autoImplicit false
namespace HF
open PySem PySem.Spec PyProof.Rows L2
end HF
namespace PySem
open PySem
theorem list_extend_tupG (l : Addr) (items : Array Value) (n : Nat) (b : Addr) (items2 : Array Value) (n2 : Nat) (dd : Option Addr) (sl : Array (Option Value)) (hs0 : ¬(!items.isEmpty && Builtin.List.listTooLong (items.size + items2.size)) = true) (hs1 : items.size ≤ sizeLine) (hs2 : items.size + items2.size ≤ sizeLine + 1) :
    Meets (Builtin.«list.extend» ⟨[.ref l, .ref b], []⟩) (fun _ R s => s.heap.get? l = some { cls := .type "list", dict := none, data := .seq items n, slots := #[] } ∧ s.heap.get? b = some { cls := .type "tuple", dict := dd, data := .seq items2 n2, slots := sl } ∧ R (.ok (.ret Value.none)) { s with heap := s.heap.update l (Obj.mapSeq fun x => x ++ items2), toks := s.toks }) :=
  .of_wp fun prog w A R s h => by
    obtain ⟨hp, g, d, tk, os⟩ := s; obtain ⟨hl, hb, h⟩ := h; have f1 := AutoSeq1.idx_int; have f2 := AutoSeq1.sub_tuple_tuple; have f3 := AutoSeq1.sub_list_list; have f4 := AutoSeq1.sub_tuple_list; have f5 := AutoSeq1.sub_list_tuple;
    have hz' : (items ++ items2).size ≤ sizeLine + 1 := by rw [Array.size_append]; exact hs2
    wp_walk using (wpAny_updateSeq hl rfl (hz := hs1) (_hz' := hz')), wpAny_loadPart' hl, wpAny_loadPart' hb; exact ⟨_, rfl, h⟩
end PySem
namespace HF
open PySem PySem.Spec PyProof.Rows L2
section
variable {X : Cx}
def rExtendT (K : PySem.W.Frag) : V → List V → Hp → VK → Prop := fun x vs H Q => ∃ l b xs zs, x = .ref l ∧ vs = [.ref b] ∧ H l = some (.lst xs) ∧ SqT K H b zs ∧ xs.length + zs.length ≤ sizeLine ∧ Q .non (upd H l (.lst (xs ++ zs)))
theorem mt_extendT : MtM X "list.extend" (rExtendT X.K) := by
  intro pins s σ H x vs v us Q I rx rv h
  obtain ⟨l, b, xs, zs, rfl, rfl, hH, hB, hz, q⟩ := h
  cases rx
  obtain ⟨u, rfl, ru⟩ := L2.Vals.one rv
  cases ru
  obtain ⟨z, its, n, r, hl, e⟩ := I.lstM hH
  obtain ⟨its2, r2, ⟨⟨cls, dd, dt, sl⟩, e2, c2, n2, d2⟩, hz2⟩ := I.tuple hB
  simp only at c2 d2
  subst c2 d2
  have hl2 := r2.length
  have hsz : its.toArray.size + its2.toArray.size ≤ sizeLine := by rw [List.size_toArray, List.size_toArray]; omega
  have hlong : ¬ (!its.toArray.isEmpty && Builtin.List.listTooLong (its.toArray.size + its2.toArray.size)) = true := by
    rw [notLongL hsz, Bool.and_false]
    exact Bool.false_ne_true
  refine call_meets F.slot_list_extend ⟨_, e, rfl⟩ F.entry_list_extend (F.args_list_extend_2 _ _)
    (PySem.list_extend_tupG l its.toArray n b its2.toArray n2 dd sl hlong (by rw [List.size_toArray]; omega) (by omega)) ⟨e, e2, ?_⟩
  refine ⟨.non, _, I.lset (its' := its ++ its2) hH e (by simp) (r.append r2) ?_, rfl, q⟩
  rw [List.length_append]
  omega
end
/-! ### methods that write -/
@[simp] def isLstE (e : List Sl) (i : Nat) : Bool := match (e[i]?).bind Sl.mu with
  | some (.lst _) => true
  | _ => false
@[simp] def mtR (g : D → List D → Option (D × D)) (i : Nat) (vls : List Vl) (e : List Sl) : Rs := match Vls.toIm vls, (e[i]?).bind Sl.mu with
  | some ds, some d => (match g d ds with
    | some (d', r) => .ok (.im r) (putE i d' e)
    | none => .stk)
  | _, _ => .stk
/-- xs.m(..), xs in slot i, a list -/
@[simp] def mtF (g : D → List D → Option (D × D)) (i : Nat) (Fs : FxL)  (env : List Sl) : Rs := if isLstE env i then bindL (Fs env) fun vls e => mtR g i vls e else .stk
def MtS (K : PySem.W.Frag) (g : D → List D → Option (D × D)) (r : V → List V → Hp → VK → Prop) : Prop := ∀ (H G : Hp) (p : Addr) (d : D) (ds : List D) (xs : List V) (d' r' : D) (Q : VK), Same G H → G p = none → MuAt K H G d p → RpL K G ds xs → g d ds = some (d', r') →
  (∀ v H', (∀ b, b ≠ p → H' b = H b) → MuAt K H' G d' p → Rp K G r' v → Q v H') → r (.ref p) xs H Q
theorem ER.put {K : PySem.W.Frag} {H G H' : Hp} {σ : L2.St} {env : List Sl} {i : Nat} {s : Sl} {d d' : D} {p : Addr} (r : ER K H G σ env) (h1 : env[i]? = some s) (h2 : s.mu = some d) (h3 : σ[i]? = some (some (.ref p))) (hk : ∀ b, b ≠ p → H' b = H b) (hm : MuAt K H' G d' p) : Stp K σ H G env H' G (putE i d' env) := by
  obtain ⟨hl, _⟩ := List.getElem?_eq_some_iff.mp h1
  have kin : ∀ k : Nat, Kin (env[k]?) ((putE i d' env)[k]?) := fun k => by
    rw [putE_get]
    by_cases z : i = k
    · subst z
      rw [if_pos rfl, h1]
      exact put_kin
    · rw [if_neg z]
      exact Kin.refl _
  have gp : G p = none := by
    obtain ⟨p', w1, w2, _⟩ := r.mu i s d h1 h2
    rw [h3] at w1
    cases w1
    exact w2
  refine ⟨⟨?_, fun b o q => ?_, fun j e h => ?_, fun j t e q1 q2 => ?_, fun j k t u e f q x1 x2 x3 x4 x5 x6 => ?_⟩, Same.refl _, fun _ _ h => h, fun b o q n => ?_, kin⟩
  · rw [r.len]
    unfold putE
    rw [h1]
    simp
  · rw [hk b (fun z => by rw [z, gp] at q; cases q)]
    exact r.sub b o q
  · rw [putE_get] at h
    split at h
    · rename_i z
      subst z
      rw [h1] at h
      have h : some (s.put d') = some (Sl.val e) := h
      cases s <;> first | (cases h; done) | cases h2
    · exact r.val j e h
  · rw [putE_get] at q1
    split at q1
    · rename_i z
      subst z
      rw [h1] at q1
      have q1 : some (s.put d') = some t := q1
      cases q1
      rw [put_mu h2] at q2
      cases q2
      exact ⟨p, h3, gp, hm⟩
    · rename_i z
      obtain ⟨p', w1, w2, w3⟩ := r.mu j t e q1 q2
      refine ⟨p', w1, w2, w3.mono (hk p' fun y => ?_) (Same.refl _)⟩
      subst y
      exact z (r.sep i j s t d e p' h1 h2 q1 q2 h3 w1)
  · have back : ∀ {i' : Nat} {t : Sl} {d : D}, (putE i d' env)[i']? = some t → t.mu = some d → ∃ t' d', env[i']? = some t' ∧ t'.mu = some d' := fun {i' t d} q1 q2 => by
      have k := kin i'
      rw [q1] at k
      exact k.back q2
    obtain ⟨t', d1, y1, y2⟩ := back x1 x2
    obtain ⟨u', d2, y3, y4⟩ := back x3 x4
    exact r.sep j k t' u' d1 d2 q y1 y2 y3 y4 x5 x6
  · exact (hk b fun z => n ⟨i, s, d, h1, h2, z ▸ h3⟩).trans q
section
variable {K : PySem.W.Frag} {mg : Str → Option Value} {W : WX}
theorem mt_read {g : D → List D → Option (D × D)} {r : V → List V → Hp → VK → Prop} (hs : MtS K g r) {σ : L2.St} {H G H1 G1 : Hp} {env env1 : List Sl} {i : Nat} {vls : List Vl} {vs : List V} {p : Addr} {Q : VK} (re : ER K H G σ env) (s1 : Stp K σ H G env H1 G1 env1) (v1 : VlsAt K H H1 G1 σ env1 vls vs)
    (hp : σ[i]? = some (some (.ref p))) (h : PostR K mg W σ H G env Q (mtR g i vls env1)) : r (.ref p) vs H1 Q := by
  unfold mtR at h
  cases e1 : Vls.toIm vls with
  | none => rw [e1] at h; exact h.elim
  | some ds =>
    cases e2 : (env1[i]?).bind Sl.mu with
    | none => rw [e1, e2] at h; exact h.elim
    | some d =>
      rw [e1, e2] at h
      simp only at h
      cases e3 : g d ds with
      | none => rw [e3] at h; exact h.elim
      | some dr =>
        obtain ⟨d', r'⟩ := dr
        rw [e3] at h
        simp only at h
        obtain ⟨G2, s2, g2, k2, hr⟩ := VlsW.imm re v1.w s1 e1
        cases e4 : env1[i]? with
        | none => rw [e4] at e2; cases e2
        | some s =>
          rw [e4] at e2
          have e2 : s.mu = some d := e2
          obtain ⟨p', w1, w2, w3⟩ := s2.er.mu i s d e4 e2
          rw [hp] at w1
          cases w1
          refine hs H1 G2 p d ds vs d' r' Q s2.er.sub w2 w3 hr e3 fun v H' hk hm hv => ?_
          exact h v H' G2 (s2.trans (s2.er.put e4 e2 hp hk hm) re) hv
theorem lst_ty {σ : L2.St} {H G : Hp} {env : List Sl} {i : Nat} {d : D} (re : ER K H G σ env) (h : isLstE env i = true) : ∃ p, σ[i]? = some (some (.ref p)) ∧ tyV K "list" (.ref p) H := by
  unfold isLstE at h
  cases e : env[i]? with
  | none => rw [e] at h; cases h
  | some s =>
    rw [e] at h
    cases e2 : s.mu with
    | none => have h : (match s.mu with | some (.lst _) => true | _ => false) = true := h; rw [e2] at h; cases h
    | some d =>
      have h : (match s.mu with | some (.lst _) => true | _ => false) = true := h
      rw [e2] at h
      obtain ⟨p, w1, w2, w3⟩ := re.mu i s d e e2
      cases d with
      | lst ds =>
        obtain ⟨xs, q1, _⟩ := w3
        exact ⟨p, w1, .inl ⟨rfl, xs, SqL.of q1⟩⟩
      | _ => cases h
end
section
variable {X : Cx} {W : WX} {i : Nat} {x name : Str} {p apos cpos : Pos} {e : Expr} {es : List Expr} {Fs : FxL} {id : String} {g : D → List D → Option (D × D)} {r : V → List V → Hp → VK → Prop}
theorem ex_mt (hm : MtR X id r) (hs : MtS X.K g r) (slot : Slot "list" name id) (hty : typeOf (.builtin id) = pure (.type "method_descriptor")) (ho : PE X (.Name x p) (tVar i)) (ha : AX X W (e :: es) Fs)
    (hx : ∀ (he : PE X (.Name x p) (tVar i)) (ha : PA X (e :: es) (tDA X.K X.mg W Fs)), PE X (.Call (.Attribute (.Name x p) name apos) (e :: es) [] cpos) (tBM X.K "list" r (tVar i) (tDA X.K X.mg W Fs))) :
    EX X W (.Call (.Attribute (.Name x p) name apos) (e :: es) [] cpos) (mtF g i Fs) := by
  refine PE.weak (hx ho ha) fun σ H Q ⟨G, env, re, h⟩ => ?_
  unfold mtF at h
  split at h
  · rename_i c
    obtain ⟨p, w1, w2⟩ := lst_ty (d := .non) re c
    exact ⟨_, w1, w2, tDA_bind re h fun vls e1 vs H1 G1 s1 v1 p1 => mt_read hs re s1 v1 w1 p1⟩
  · exact h.elim
theorem ex_mt0 (hm : MtR X id r) (hs : MtS X.K g r) (ho : PE X (.Name x p) (tVar i))
    (hx : ∀ (he : PE X (.Name x p) (tVar i)), PE X (.Call (.Attribute (.Name x p) name apos) [] [] cpos) (tBM0 X.K "list" r (tVar i))) :
    EX X W (.Call (.Attribute (.Name x p) name apos) [] [] cpos) (mtF g i nilF) := by
  refine PE.weak (hx ho) fun σ H Q ⟨G, env, re, h⟩ => ?_
  unfold mtF at h
  split at h
  · rename_i c
    obtain ⟨p, w1, w2⟩ := lst_ty (d := .non) re c
    exact ⟨_, w1, w2, mt_read hs re (Stp.refl re) (vls := []) rfl w1 h⟩
  · exact h.elim
end
@[simp] def appM : D → List D → Option (D × D)
  | .lst ds, [x] => if decide (ds.length < 16777216) then some (.lst (ds ++ [x]), .non) else none
  | _, _ => none
@[simp] def popM : D → List D → Option (D × D)
  | .lst ds, [] => match ds.getLast? with
    | some d => some (.lst ds.dropLast, d)
    | none => none
  | _, _ => none
@[simp] def extM : D → List D → Option (D × D)
  | .lst ds, [.lst es] => if szB (ds.length + es.length) then some (.lst (ds ++ es), .non) else none
  | .lst ds, [.tup es] => if szB (ds.length + es.length) then some (.lst (ds ++ es), .non) else none
  | _, _ => none
@[simp] def clrM : D → List D → Option (D × D)
  | .lst _, [] => some (.lst [], .non)
  | _, _ => none
section
variable {X : Cx} {K : PySem.W.Frag}
theorem mts_app : MtS K appM rAppend := by
  intro H G p d ds xs d' r' Q s gp hm hr e k
  unfold appM at e
  split at e
  · rename_i as x
    split at e
    · rename_i c
      cases e
      obtain ⟨ys, h1, h2⟩ := hm
      obtain ⟨y, t, rfl, h3, h4⟩ := hr
      rw [show t = [] from h4]
      refine ⟨p, ys, y, rfl, rfl, h1, ?_, k _ _ (fun b hb => upd_ne hb) ⟨_, upd_same, h2.append (RpL.one h3)⟩ rfl⟩
      rw [h2.length, sizeLine_eq]
      exact of_decide_eq_true c
    · cases e
  · cases e
theorem RpL.dropLast {G : Hp} {ds : List D} {xs : List V} (h : RpL K G ds xs) : RpL K G ds.dropLast xs.dropLast := by
  rw [List.dropLast_eq_take, List.dropLast_eq_take, h.length]
  exact h.take _
theorem mts_pop : MtS K popM rPop := by
  intro H G p d ds xs d' r' Q s gp hm hr e k
  unfold popM at e
  split at e
  · rename_i as
    split at e
    · rename_i x q
      cases e
      obtain ⟨ys, h1, h2⟩ := hm
      rw [List.getLast?_eq_getElem?] at q
      obtain ⟨y, h3, h4⟩ := h2.get q
      rw [show xs = [] from hr]
      exact ⟨p, ys, y, rfl, rfl, h1, by rw [h2.length]; exact h3, k _ _ (fun b hb => upd_ne hb) ⟨_, upd_same, RpL.dropLast h2⟩ h4⟩
    · cases e
  · cases e
theorem mts_ext : MtS K extM (fun x vs H Q => rExtend x vs H Q ∨ rExtendT K x vs H Q) := by
  intro H G p d ds xs d' r' Q s gp hm hr e k
  unfold extM at e
  split at e
  · rename_i as bs
    split at e
    · rename_i c
      cases e
      obtain ⟨ys, h1, h2⟩ := hm
      obtain ⟨y, t, rfl, ⟨b, zs, rfl, h3, h5⟩, h4⟩ := hr
      rw [show t = [] from h4]
      exact .inl ⟨p, b, ys, zs, rfl, rfl, h1, s _ _ h3, by rw [h2.length, h5.length]; exact szB_le c, k _ _ (fun b hb => upd_ne hb) ⟨_, upd_same, h2.append h5⟩ rfl⟩
    · cases e
  · rename_i as bs
    split at e
    · rename_i c
      cases e
      obtain ⟨ys, h1, h2⟩ := hm
      obtain ⟨y, t, rfl, ⟨b, zs, rfl, h3, h5⟩, h4⟩ := hr
      rw [show t = [] from h4]
      exact .inr ⟨p, b, ys, zs, rfl, rfl, h1, Same.sqT s h3, by rw [h2.length, h5.length]; exact szB_le c, k _ _ (fun b hb => upd_ne hb) ⟨_, upd_same, h2.append h5⟩ rfl⟩
    · cases e
  · cases e
theorem mts_clr : MtS K clrM rClear := by
  intro H G p d ds xs d' r' Q s gp hm hr e k
  unfold clrM at e
  split at e
  · cases e
    obtain ⟨ys, h1, h2⟩ := hm
    rw [show xs = [] from hr]
    exact ⟨p, ys, rfl, rfl, h1, k _ _ (fun b hb => upd_ne hb) ⟨_, upd_same, rfl⟩ rfl⟩
  · cases e
variable {W : WX} {x : Str} {p apos cpos : Pos} {e : Expr} {es : List Expr} {Fs : FxL}
theorem ex_append {i : Nat} (ho : PE X (.Name x p) (tVar i)) (ha : AX X W (e :: es) Fs) (hbase : attributeBase (.Name x p) "append" X.env (eval (.Name x p) X.env) = eval (.Name x p) X.env := by rfl)
    (hfew : ((backTo cpos (starEach (e :: es) X.env)).all (fun x => !x.1) && (backToKw cpos (keywordEach [] X.env)).all (fun x => x.1.isSome)
      && decide ((e :: es).length + ([] : List Keyword).length + (if ([] : List Keyword).isEmpty then 0 else 1) < 30)) = true := by rfl)
    (hline : (apos.endLine == cpos.line) = true := by rfl) (hs : starEach (e :: es) X.env = (false, eval e X.env) :: starEach es X.env := by rfl) (hplain : (backTo cpos (starEach es X.env)).any (·.1) = false := by rfl) : EX X W (.Call (.Attribute (.Name x p) "append" apos) (e :: es) [] cpos) (mtF appM i Fs) :=
  ex_mt mt_append mts_app PySem.F.slot_list_append PySem.F.type_list_append ho ha fun ho ha => pe_bm PySem.F.plainAttrs_list PySem.F.slot_list_append PySem.F.type_list_append mt_append ho ha hbase hfew hline hs hplain
theorem ex_extend {i : Nat} (ho : PE X (.Name x p) (tVar i)) (ha : AX X W (e :: es) Fs) (hbase : attributeBase (.Name x p) "extend" X.env (eval (.Name x p) X.env) = eval (.Name x p) X.env := by rfl)
    (hfew : ((backTo cpos (starEach (e :: es) X.env)).all (fun x => !x.1) && (backToKw cpos (keywordEach [] X.env)).all (fun x => x.1.isSome)
      && decide ((e :: es).length + ([] : List Keyword).length + (if ([] : List Keyword).isEmpty then 0 else 1) < 30)) = true := by rfl)
    (hline : (apos.endLine == cpos.line) = true := by rfl) (hs : starEach (e :: es) X.env = (false, eval e X.env) :: starEach es X.env := by rfl) (hplain : (backTo cpos (starEach es X.env)).any (·.1) = false := by rfl) : EX X W (.Call (.Attribute (.Name x p) "extend" apos) (e :: es) [] cpos) (mtF extM i Fs) :=
  ex_mt (L2.MtR.or mt_extend mt_extendT) mts_ext PySem.F.slot_list_extend PySem.F.type_list_extend ho ha fun ho ha => pe_bm PySem.F.plainAttrs_list PySem.F.slot_list_extend PySem.F.type_list_extend (L2.MtR.or mt_extend mt_extendT) ho ha hbase hfew hline hs hplain
theorem ex_pop {i : Nat} (ho : PE X (.Name x p) (tVar i)) (hbase : attributeBase (.Name x p) "pop" X.env (eval (.Name x p) X.env) = eval (.Name x p) X.env := by rfl) (hline : (apos.endLine == cpos.line) = true := by rfl) : EX X W (.Call (.Attribute (.Name x p) "pop" apos) [] [] cpos) (mtF popM i nilF) :=
  ex_mt0 mt_pop mts_pop ho fun ho => pe_bm0 PySem.F.plainAttrs_list PySem.F.slot_list_pop PySem.F.type_list_pop mt_pop ho hbase hline
theorem ex_clear {i : Nat} (ho : PE X (.Name x p) (tVar i)) (hbase : attributeBase (.Name x p) "clear" X.env (eval (.Name x p) X.env) = eval (.Name x p) X.env := by rfl) (hline : (apos.endLine == cpos.line) = true := by rfl) : EX X W (.Call (.Attribute (.Name x p) "clear" apos) [] [] cpos) (mtF clrM i nilF) :=
  ex_mt0 mt_clear mts_clr ho fun ho => pe_bm0 PySem.F.plainAttrs_list PySem.F.slot_list_clear PySem.F.type_list_clear mt_clear ho hbase hline
/-! ### xs[i] = e -/
@[simp] def stoR (k : Nat) (v vi : Vl) (e2 : List Sl) : Out := match v.toIm, vi.rd e2, (e2[k]?).bind Sl.mu with
  | some d, some (.int i), some (.lst ds) => (match ixN ds.length i with
    | some j => .nx (putE k (.lst (ds.set j d)) e2)
    | none => .stk)
  | _, _, _ => .stk
/-- xs in slot k, a list -/
@[simp] def stoS (k : Nat) (Fi F : Fx)  (env : List Sl) : Out := match F env with
  | .ok v e1 => if isLstE e1 k then (match Fi e1 with
    | .ok vi e2 => stoR k v vi e2
    | .err c e => .err c e
    | .stk => .stk) else .stk
  | .err c e => .err c e
  | .stk => .stk
theorem st_sto {k : Nat} {i e' : Expr} {Fi F : Fx} {pos pos2 : Pos} (ho : PE X (.Name x p) (tVar k)) (he : EX X W e' F) (hi : EX X W i Fi)
    (ha : ∀ v, assign (.Subscript (.Name x p) i pos2) X.env v = (do
      let ov ← holding [v] (eval (.Name x p) X.env)
      let iv ← holding [v, ov] (eval i X.env)
      standAt pos2
      holding [v, ov, iv] (setItem ov iv v)
      release [v, ov, iv] []) := by intro _; rfl)
    (hs : swapsWithSole [.Subscript (.Name x p) i pos2] e' pos.line X.env = pure false := by rfl) (hw : swappedStores [.Subscript (.Name x p) i pos2] e' X.env = pure none := by rfl)
    (h1 : (assignEach [.Subscript (.Name x p) i pos2] X.env).map (·.2) = [assign (.Subscript (.Name x p) i pos2) X.env] := by rfl) : ST X W (.Assign [.Subscript (.Name x p) i pos2] e' pos) (stoS k Fi F) := by
  intro H0 G0 pa
  refine PS.weak (ps_asg he (pg_sub ho hi set_list ha) hs hw h1) fun D σ H ⟨G, env, r, h⟩ => ?_
  have h' : PostS X.K X.mg W H0 G0 pa D (match F env with
      | .ok v e => (fun v e1 => if isLstE e1 k then (match Fi e1 with
    | .ok vi e2 => stoR k v vi e2
    | .err c e => .err c e
    | .stk => .stk) else .stk) v e
      | .err c e => .err c e
      | .stk => .stk) := h
  refine SR.bind r h' fun vl env1 v H1 G1 _ s v1 r1 p => ?_
  split at p
  · rename_i c
    obtain ⟨q, w1, w2⟩ := lst_ty (K := X.K) (d := .non) r1.er c
    refine ⟨_, w1, SR.bind (f := fun vi e2 => stoR k vl vi e2) r1 p fun vi env2 u H2 G2 _ s2 v2 r2 p2 => ?_⟩
    unfold stoR at p2
    cases e1 : vl.toIm with
    | none => simp only [e1] at p2; exact p2.elim
    | some d =>
      cases e2 : vi.rd env2 with
      | none => simp only [e1, e2] at p2; exact p2.elim
      | some di =>
        cases di with
        | int ii =>
          cases e3 : (env2[k]?).bind Sl.mu with
          | none => simp only [e1, e2, e3] at p2; exact p2.elim
          | some dk =>
            cases dk with
            | lst ds =>
              simp only [e1, e2, e3] at p2
              cases e4 : ixN ds.length ii with
              | none => simp only [e4] at p2; exact p2.elim
              | some j =>
                simp only [e4] at p2
                have v1' : VlAt X.K H H2 G2 σ env2 vl v := v1.step s2 fun p hp m => (MuIs.new r.er hp) (m.of s.kin)
                have s12 := s.trans s2 r.er
                obtain ⟨G3, s3, g3, k3, hr⟩ := v1'.w.imm s12 r.er e1
                cases e5 : env2[k]? with
                | none => rw [e5] at e3; cases e3
                | some t =>
                  rw [e5] at e3
                  have e3 : t.mu = some (.lst ds) := e3
                  obtain ⟨q', y1, y2, xs, y3, y4⟩ := s3.er.mu k t _ e5 e3
                  rw [w1] at y1
                  cases y1
                  refine ⟨q, xs, ii, j, rfl, (v2.read r2.er e2).int, y3, by rw [y4.length]; exact e4, ?_⟩
                  have st := s3.er.put (H' := upd H2 q (.lst (xs.set j v))) e5 e3 w1 (fun b hb => upd_ne hb) (d' := .lst (ds.set j d)) ⟨_, upd_same, y4.set j hr⟩
                  exact p2 σ _ G3 ((r.step s3).step st)
            | _ => simp only [e1, e2, e3] at p2; exact p2.elim
        | _ => simp only [e1, e2] at p2; exact p2.elim
  · exact p.elim
end
end HF

set_option Elab.async false
set_option linter.all false
set_option maxRecDepth 100000
set_option maxHeartbeats 4000000
set_option autoImplicit false
namespace HF
open PySem PySem.Spec PyProof.Rows L2
/-! ### what a law's text brings -/
def bltL : List Str := ["len", "isinstance", "abs", "int", "str", "tuple", "list", "all", "any", "sum", "range", "zip", "reversed", "bool", "set", "dict"]
def Blt (mg : Str → Option Value) : Prop := ∀ x, x ∈ bltL → mg x = none
theorem hu65 {k : Nat} {A : Around} (hr : Room k A) : A.units + 65 < cLine := by have := hr.un; omega
/-- a constant of the module -/
def GConst (K : PySem.W.Frag) (mg : Str → Option Value) (x : Str) (d : D) : Prop := ∃ v u, mg x = some u ∧ RelV v u ∧ ∀ G, Rp K G d v
theorem ex_gc {X : Cx} {W : WX} {x : Str} {d : D} {pos : Pos} (g : GConst X.K X.mg x d) (hg : Gl X x := by rfl) (hd : (x == ("__debug__" : Str)) = false := by decide) : EX X W (.Name x pos) (cF d) := by
  obtain ⟨v, u, h1, h2, h3⟩ := g
  exact ex_glob h1 h2 h3 hg hd
/-- an error class of the module -/
def GExc (K : PySem.W.Frag) (mg : Str → Option Value) (x : Str) : Prop := ∃ (C : Addr) (bmB : List Value) (B newId initId : String), ∃ (F : ExcBaseFacts B newId initId bmB), PySem.W.excIn K C bmB newId = true ∧ mg x = some (.ref C) ∧ PySem.W.keepIn K (.ref C) = true ∧
  PySem.W.subIn K (.ref C) (.type "BaseException") = some true ∧ PySem.W.typeIn K (.ref C) = some (.type "type")
@[simp] def negG : D → Gr
  | .int i => .im (.int (-i))
  | _ => .stk
@[simp] def negF (Fa : Fx)  (env : List Sl) : Rs := bindR (Fa env) fun va e => match va.rd e with
  | some d => (negG d).rs e
  | none => .stk
section
variable {X : Cx} {W : WX} {a b c : Expr} {Fa Fb Fc : Fx} {pos : Pos}
theorem ex_neg (ha : EX X W a Fa) : EX X W (.UnaryOp .USub a pos) (negF Fa) := by
  refine PE.weak (pe_un un_neg ha) fun σ H Q ⟨G, env, r, h⟩ => ?_
  refine tD_bind r h fun va e1 x H1 G1 s1 v1 p1 => ?_
  have p1 := PostR.shift s1 r p1
  cases ea : va.rd e1 with
  | none => simp only [ea] at p1; exact p1.elim
  | some d =>
    simp only [ea] at p1
    have rd := v1.read s1.er ea
    cases d with
    | int i => exact ⟨i, rd.int, (GrPost.of s1.er p1).same s1.er.sub rfl⟩
    | _ => exact p1.elim
@[simp] def chainR (g g' : D → D → Gr) (Fc : Fx) (va vb : Vl) (e2 : List Sl) : Rs := match va.rd e2, vb.rd e2 with
  | some a, some b => (match g a b with
    | .im (.bl true) => bindR (Fc e2) fun vc e3 => opR g' vb vc e3
    | .im (.bl false) => .ok (.im (.bl false)) e2
    | _ => .stk)
  | _, _ => .stk
@[simp] def chainF (g g' : D → D → Gr) (Fa Fb Fc : Fx)  (env : List Sl) : Rs := bindR (Fa env) fun va e1 => bindR (Fb e1) fun vb e2 => chainR g g' Fc va vb e2
theorem chain_of {K : PySem.W.Frag} {mg : Str → Option Value} {g g' : D → D → Gr} {r r' : R2} (hs : OpSound K g r) (hs' : OpSound K g' r') : ∀ σ H Q, tD K mg W (chainF g g' Fa Fb Fc) σ H Q → tChain r r' (tD K mg W Fa) (tD K mg W Fb) (tD K mg W Fc) σ H Q := by
  intro σ H Q ⟨G, env, re, h⟩
  refine tD_bind re h fun va e1 x H1 G1 s1 v1 p1 => ?_
  refine tD_bind s1.er (PostR.shift s1 re p1) fun vb e2 y H2 G2 s2 v2 p2 => ?_
  have p3 := PostR.shift s2 s1.er p2
  have v1' := v1.step s2 fun p hp m => (MuIs.new re hp) (m.of s1.kin)
  have p3 : PostR K mg W σ H2 G2 e2 Q (chainR g g' Fc va vb e2) := p3
  unfold chainR at p3
  cases ea : va.rd e2 with
  | none => rw [ea] at p3; exact p3.elim
  | some da =>
    cases eb : vb.rd e2 with
    | none => rw [ea, eb] at p3; exact p3.elim
    | some db =>
      rw [ea, eb] at p3
      simp only at p3
      refine hs H2 G2 x y da db _ s2.er.sub (v1'.read s2.er ea) (v2.read s2.er eb) ?_
      cases eg : g da db with
      | stk => rw [eg] at p3; exact p3.elim
      | fr d => rw [eg] at p3; exact p3.elim
      | im d =>
        rw [eg] at p3
        cases d with
        | bl k =>
          intro v H3 G3 gs hv
          have s3 : Stp K σ H2 G2 e2 H3 G3 e2 := Stp.gs s2.er gs
          refine ⟨k, hv, ?_⟩
          cases k with
          | false => exact L2.iteF (p3 _ H3 G3 s3 rfl)
          | true =>
            refine L2.iteT ?_
            refine tD_bind s3.er (PostR.shift s3 s2.er p3) fun vc e4 z H4 G4 s4 v4 p4 => ?_
            have p5 := PostR.shift s4 s3.er p4
            have v2' : VlAt K H1 H4 G4 σ e4 vb y := (v2.step s3 fun p hp m => (MuIs.new s1.er hp) (m.of s2.kin)).step s4 fun p hp m => (MuIs.new s1.er hp) (m.of s2.kin)
            have p5 : PostR K mg W σ H4 G4 e4 Q (opR g' vb vc e4) := p5
            unfold opR at p5
            cases ec : vb.rd e4 with
            | none => rw [ec] at p5; exact p5.elim
            | some dc =>
              cases ed : vc.rd e4 with
              | none => rw [ec, ed] at p5; exact p5.elim
              | some dd =>
                rw [ec, ed] at p5
                exact hs' H4 G4 y z dc dd Q s4.er.sub (v2'.read s4.er ec) (v4.read s4.er ed) (GrPost.of s4.er p5)
        | _ => exact p3.elim
theorem ex_chain {op op' : CmpOp} {g g' : D → D → Gr} {r r' : R2} (ho : OpR X (compareOp op) r) (hs : OpSound X.K g r) (ho' : OpR X (compareOp op') r') (hs' : OpSound X.K g' r') (ha : EX X W a Fa) (hb : EX X W b Fb) (hc : EX X W c Fc)
    (hm : lastMarks [op, op'] [b, c] = false := by with_unfolding_all rfl) : EX X W (.Compare a [op, op'] [b, c] pos) (chainF g g' Fa Fb Fc) :=
  PE.weak (pe_chain ho ho' ha hb hc hm) (chain_of hs hs')
theorem tx_chain {op op' : CmpOp} {g g' : D → D → Gr} {r r' : R2} (ho : OpR X (compareOp op) r) (hs : OpSound X.K g r) (ho' : OpR X (compareOp op') r') (hs' : OpSound X.K g' r') (ha : EX X W a Fa) (hb : EX X W b Fb) (hc : EX X W c Fc)
    (hm : lastMarks [op, op'] [b, c] = false := by with_unfolding_all rfl) : TX X W (.Compare a [op, op'] [b, c] pos) (chainF g g' Fa Fb Fc) :=
  PT.weak (pt_chain ho ho' ha hb hc hm) fun σ H Q h => chain_of hs hs' σ H _ (tT_tD h)
end
/-! ### calls without arguments -/
@[simp] def callF0 (Φ : List Ar → FR)  (env : List Sl) : Rs := callR [] Φ [] env
section
variable {X : Cx} {W : WX} {x : Str} {k k' : Nat} {Φ : List Ar → FR} {p pos : Pos}
theorem ex_call0 (c : Cal X.prog X.w X.K X.mg X.base k x 0 Φ) (hr : Room k' X.A) (hk : k ≤ k') (tk : Takes X W) (hg : Gl X x := by rfl) (hdb : (x == ("__debug__" : Str)) = false := by decide) :
    EX X W (.Call (.Name x p) [] [] pos) (callF0 Φ) := by
  obtain ⟨f, fd, ps, F, gm, gk, gb⟩ := c
  have pe : PE X (.Call (.Name x p) [] [] pos) (fun σ H Q => spD X.K X.mg 0 Φ [] H Q (WE W σ)) := by
    refine ⟨fun pins s σ H Q I h => ?_⟩
    refine wpAny_Call_Name_kw (ld_glob I hg gm ?_ hdb)
    exact PySem.W.callWith_K0 I.kIn gk (run_fnS (us := []) (E := fun σ => WE W σ) F (hr.mono hk) gb (passAt tk σ) I .nil h)
  refine PE.weak pe fun σ H Q ⟨G, env, r, h⟩ => ?_
  exact call_of (vls := []) (sg := []) r (Stp.refl r) rfl h rfl
end
/-! ### the law itself -/
def spLaw (K : PySem.W.Frag) : Sp := fun vs H Q _ => ∃ (a : Addr) (ns : List Int), vs = [.ref a] ∧ SqL K H a (ns.map V.int) ∧ ns.length ≤ 63 ∧ ∀ H', Q (.bl true) H'
theorem law_fn {P : Program} {w : World} {K : PySem.W.Frag} {mg : Str → Option Value} {base : Heap} {k : Nat} {Φ : List Ar → FR} {f : Addr} {fd : FuncData} {ps : List Str} (F : FnOk P w K mg base (L2.CX P w) k f fd ps (spD K mg 1 Φ)) (hl : ∀ ns : List Int, ns.length ≤ 63 → Φ [.val (.scr ns)] = .im (.bl true) [.val (.scr ns)]) :
    FnOk P w K mg base (L2.CX P w) k f fd ps (spLaw K) := by
  refine F.imp fun vs H Q E ⟨a, ns, e, hS, h63, q⟩ => ?_
  subst e
  refine ⟨H, [.val (.scr ns)], rfl, ⟨Same.refl _, ⟨.ref a, [], rfl, ⟨a, rfl, hS⟩, rfl⟩, fun i j d e p h1 => ?_⟩, ?_⟩
  · cases i with
    | zero => cases h1
    | succ i => simp at h1
  · rw [hl ns h63]
    intro v H' G' c hv
    rw [show v = .bl true from hv]
    exact q H'
theorem Cal.law {P : Program} {w : World} {K : PySem.W.Frag} {mg : Str → Option Value} {base : Heap} {k : Nat} {Φ : List Ar → FR} {f : Addr} {x : Str} (c : Cal P w K mg base k x 1 Φ) (hm : mg x = some (.ref f)) (hl : ∀ ns : List Int, ns.length ≤ 63 → Φ [.val (.scr ns)] = .im (.bl true) [.val (.scr ns)]) :
    ∃ fd ps, FnOk P w K mg base (L2.CX P w) k f fd ps (spLaw K) := by
  obtain ⟨f', fd, ps, F, h1, _⟩ := c
  rw [hm] at h1
  cases h1
  exact ⟨fd, ps, law_fn F hl⟩
/-- a def's facts -/
theorem cal_of {P : Program} {w : World} {K : PySem.W.Frag} {mg : Str → Option Value} {base : Heap} {k : Nat} {f : Addr} {fd : FuncData} {ps : List Str} {n : Nat} {Φ : List Ar → FR} {x : Str} (F : FnOk P w K mg base (L2.CX P w) k f fd ps (spD K mg n Φ)) (hm : mg x = some (.ref f)) (hk : PySem.W.keepIn K (.ref f) = true) (hb : Binds K fd ps []) : Cal P w K mg base k x n Φ := ⟨f, fd, ps, F, hm, hk, hb⟩
end HF

set_option Elab.async false
set_option linter.all false
set_option maxRecDepth 100000
set_option maxHeartbeats 4000000
set_option autoImplicit false
namespace HF
open PySem PySem.Spec PyProof.Rows L2
/-! ### plain facts -/
theorem Cal.never {P : Program} {w : World} {K : PySem.W.Frag} {mg : Str → Option Value} {base : Heap} {k n : Nat} {x : Str} {f : Addr} {fd : FuncData} {ps : List Str} (hm : mg x = some (.ref f)) (hk : PySem.W.keepIn K (.ref f) = true) (hb : Binds K fd ps []) : Cal P w K mg base k x n (fun _ => .stk) :=
  ⟨f, fd, ps, ⟨fun vs H Q E ⟨_, _, _, _, h⟩ => h.elim, fun A outer s H args us vs Q E hr he hbt hv ⟨_, _, _, _, h⟩ => h.elim⟩, hm, hk, hb⟩
def iterF (F : (List Ar → FR) → List Ar → FR) : Nat → List Ar → FR
  | 0 => fun _ => .stk
  | n + 1 => F (iterF F n)
theorem Cal.iter {P : Program} {w : World} {K : PySem.W.Frag} {mg : Str → Option Value} {base : Heap} {k0 n : Nat} {x : Str} {F : (List Ar → FR) → List Ar → FR} (h0 : Cal P w K mg base k0 x n (fun _ => .stk)) (st : ∀ k Φ, k0 ≤ k → Cal P w K mg base k x n Φ → Cal P w K mg base (k + 1) x n (F Φ)) : ∀ N, Cal P w K mg base (k0 + N) x n (iterF F N)
  | 0 => h0
  | N + 1 => st _ _ (Nat.le_add_right _ _) (Cal.iter h0 st N)
mutual
def D.wt : D → Nat
  | .tup xs => 1 + D.wtL xs
  | _ => 1
def D.wtL : List D → Nat
  | [] => 0
  | d :: ds => D.wt d + D.wtL ds
end
@[simp] theorem D.wtL_nil : D.wtL [] = 0 := by rw [D.wtL]
@[simp] theorem D.wtL_cons (d : D) (ds : List D) : D.wtL (d :: ds) = d.wt + D.wtL ds := by rw [D.wtL]
@[simp] theorem D.wt_tup (xs : List D) : (D.tup xs).wt = 1 + D.wtL xs := by rw [D.wt]
@[simp] theorem D.wtL_append (a b : List D) : D.wtL (a ++ b) = D.wtL a + D.wtL b := by
  induction a with
  | nil => simp
  | cons x a ih => simp [ih]; omega
theorem D.wt_pos (d : D) : 1 ≤ d.wt := by
  cases d <;> simp [D.wt]
theorem D.length_le_wtL (ds : List D) : ds.length ≤ D.wtL ds := by
  induction ds with
  | nil => simp
  | cons d ds ih => have := d.wt_pos; simp; omega
/-- data that == can look at -/
abbrev D.pl (d : D) : Prop := d.py.canLay0 = true
abbrev D.plL (ds : List D) : Prop := PyData.canLayAll0 (D.pyL ds) = true
abbrev D.dp (d : D) : Nat := d.py.depth
abbrev D.dpL (ds : List D) : Nat := PyData.depthAll (D.pyL ds)
@[simp] theorem D.py_non : D.py .non = .none := by rw [D.py]
@[simp] theorem D.py_bl (b : Bool) : D.py (.bl b) = .bool b := by rw [D.py]
@[simp] theorem D.py_int (i : Int) : D.py (.int i) = .int i := by rw [D.py]
@[simp] theorem D.py_str (s : Str) : D.py (.str s) = .str s := by rw [D.py]
@[simp] theorem D.py_tup (xs : List D) : D.py (.tup xs) = .tuple (D.pyL xs) := by rw [D.py]
@[simp] theorem D.py_lst (xs : List D) : D.py (.lst xs) = .list (D.pyL xs) := by rw [D.py]
@[simp] theorem D.pyL_nil : D.pyL [] = [] := by rw [D.pyL]
@[simp] theorem D.pyL_cons (d : D) (ds : List D) : D.pyL (d :: ds) = d.py :: D.pyL ds := by rw [D.pyL]
@[simp] theorem D.pyL_append (a b : List D) : D.pyL (a ++ b) = D.pyL a ++ D.pyL b := by simp [D.pyL_map]
@[simp] theorem canLay0_tup (xs : List PyData) : (PyData.tuple xs).canLay0 = PyData.canLayAll0 xs := by rw [PyData.canLay0]
@[simp] theorem canLay0_lst (xs : List PyData) : (PyData.list xs).canLay0 = PyData.canLayAll0 xs := by rw [PyData.canLay0]
@[simp] theorem canLay0_int (i : Int) : (PyData.int i).canLay0 = true := by rw [PyData.canLay0]
@[simp] theorem canLay0_bool (i : Bool) : (PyData.bool i).canLay0 = true := by rw [PyData.canLay0]
@[simp] theorem canLay0_none : (PyData.none).canLay0 = true := by rw [PyData.canLay0]
@[simp] theorem canLay0_str (x : Str) : (PyData.str x).canLay0 = PyData.strOk x := by rw [PyData.canLay0]
@[simp] theorem canLayAll0_nil : PyData.canLayAll0 [] = true := by rw [PyData.canLayAll0]
@[simp] theorem canLayAll0_cons (d : PyData) (ds : List PyData) : PyData.canLayAll0 (d :: ds) = (d.canLay0 && PyData.canLayAll0 ds) := by rw [PyData.canLayAll0]
@[simp] theorem canLayAll0_append (a b : List PyData) : PyData.canLayAll0 (a ++ b) = (PyData.canLayAll0 a && PyData.canLayAll0 b) := by
  induction a with
  | nil => simp
  | cons x a ih => simp [ih, Bool.and_assoc]
@[simp] theorem depth_tup (xs : List PyData) : (PyData.tuple xs).depth = PyData.depthAll xs + 1 := by rw [PyData.depth]
@[simp] theorem depth_lst (xs : List PyData) : (PyData.list xs).depth = PyData.depthAll xs + 1 := by rw [PyData.depth]
@[simp] theorem depthAll_nil : PyData.depthAll [] = 0 := by rw [PyData.depthAll]
@[simp] theorem depthAll_cons (d : PyData) (ds : List PyData) : PyData.depthAll (d :: ds) = max d.depth (PyData.depthAll ds) := by rw [PyData.depthAll]
@[simp] theorem depthAll_append (a b : List PyData) : PyData.depthAll (a ++ b) = max (PyData.depthAll a) (PyData.depthAll b) := by
  induction a with
  | nil => simp
  | cons x a ih => simp [ih, Nat.max_assoc]
theorem D.plL_mem {ds : List D} {d : D} (h : D.plL ds) (m : d ∈ ds) : d.pl := by
  induction ds with
  | nil => cases m
  | cons x ds ih =>
    simp only [D.plL, D.pyL_cons, canLayAll0_cons, Bool.and_eq_true] at h
    cases m with
    | head => exact h.1
    | tail _ m => exact ih h.2 m
theorem D.plL_of {ds : List D} (h : ∀ d ∈ ds, d.pl) : D.plL ds := by
  induction ds with
  | nil => simp [D.plL]
  | cons x ds ih => simp [D.plL]; exact ⟨h x (by simp), ih fun d m => h d (by simp [m])⟩
theorem D.dpL_le {ds : List D} {n : Nat} : D.dpL ds ≤ n ↔ ∀ d ∈ ds, d.dp ≤ n := by
  induction ds with
  | nil => simp [D.dpL]
  | cons x ds ih => simp only [D.dpL, D.pyL_cons, depthAll_cons, Nat.max_le, List.mem_cons, forall_eq_or_imp] at ih ⊢; rw [ih]
@[simp] theorem eqv_lst (a b : List PyData) : PyData.eqv (.list a) (.list b) = PyData.eqvAll a b := by rw [PyData.eqv]
@[simp] theorem eqv_tup (a b : List PyData) : PyData.eqv (.tuple a) (.tuple b) = PyData.eqvAll a b := by rw [PyData.eqv]
/-- == with the empty list -/
theorem D.eqB_nil {xs : List D} (h : D.plL xs) : D.eqB (.lst xs) (.lst []) = some (decide (xs = [])) := by
  have h' : PyData.canLayAll0 (D.pyL xs) = true := h
  simp [D.eqB, h']
  cases xs with
  | nil => simp [PyData.eqvAll]
  | cons x xs => simp [PyData.eqvAll]
/-! ### loops -/
theorem forL_nx {TF : TFx} {S : Sx} (I : List D → List Sl → Prop) (all : List D) (h : ∀ dn d rest e, all = dn ++ d :: rest → I dn e → ∃ e1 e2, TF d e = some e1 ∧ S e1 = .nx e2 ∧ I (dn ++ [d]) e2) : ∀ e, I [] e → ∃ e', forL TF S all e = .nx e' ∧ I all e' := by
  have go : ∀ (rest dn : List D) (e : List Sl), all = dn ++ rest → I dn e → ∃ e', forL TF S rest e = .nx e' ∧ I all e' := by
    intro rest
    induction rest with
    | nil => intro dn e ha hi; exact ⟨e, by simp, by rw [ha, List.append_nil]; exact hi⟩
    | cons d rest ih =>
      intro dn e ha hi
      obtain ⟨e1, e2, h1, h2, h3⟩ := h dn d rest e ha hi
      obtain ⟨e', h4, h5⟩ := ih (dn ++ [d]) e2 (by simp [ha]) h3
      exact ⟨e', by simp [h1, h2, h4], h5⟩
  exact fun e hi => go all [] e rfl hi
/-- a comprehension over one name -/
theorem lcL_filter {i : Nat} {T E : Fx} (p : D → Bool) (g : D → D) {e : List Sl} (hi : e[i]? = some .non) : ∀ (ds acc : List D), acc.length + ds.length ≤ 16777216 → (∀ d ∈ ds, T (e.set i (.val d)) = .ok (.im (.bl (p d))) (e.set i (.val d))) → (∀ d ∈ ds, p d = true → E (e.set i (.val d)) = .ok (.im (g d)) (e.set i (.val d))) →
    lcL (Tg.F (.nm i)) T E [i] ds e acc = .ok (.fr (.lst (acc ++ (ds.filter p).map g))) e := by
  have hlt : i < e.length := (List.getElem?_eq_some_iff.mp hi).1
  have hs : e.set i .non = e := by
    apply List.ext_getElem? fun n => ?_
    by_cases z : i = n
    · subst z; rw [List.getElem?_set_self hlt, hi]
    · rw [List.getElem?_set_ne z]
  have hg : e[i] = Sl.non := (List.getElem?_eq_some_iff.mp hi).2
  intro ds
  induction ds with
  | nil => intro acc _ _ _; simp
  | cons d ds ih =>
    intro acc hl ht he
    simp only [List.length_cons] at hl
    have h1 := ht d (by simp)
    have r1 := ih acc (by omega) (fun d m => ht d (by simp [m])) (fun d m => he d (by simp [m]))
    cases hp : p d with
    | true =>
      have h2 := he d (by simp) hp
      have r2 := ih (acc ++ [g d]) (by simp; omega) (fun d m => ht d (by simp [m])) (fun d m => he d (by simp [m]))
      have hd : acc.length < 16777216 := by omega
      simp [setE, hi, h1, h2, hp, hs, hlt, hg, List.filter_cons, hd]
      simpa using r2
    | false =>
      simp [setE, hi, h1, hp, hs, hlt, hg, List.filter_cons]
      simpa using r1
theorem lcL_map {i : Nat} {E : Fx} (g : D → D) {e : List Sl} (hi : e[i]? = some .non) (ds acc : List D) (hl : acc.length + ds.length ≤ 16777216) (he : ∀ d ∈ ds, E (e.set i (.val d)) = .ok (.im (g d)) (e.set i (.val d))) :
    lcL (Tg.F (.nm i)) yesF E [i] ds e acc = .ok (.fr (.lst (acc ++ ds.map g))) e := by
  have := lcL_filter (T := yesF) (fun _ => true) g hi ds acc hl (fun d _ => by simp) (fun d m _ => he d m)
  rwa [List.filter_eq_self.mpr (fun _ _ => rfl)] at this
theorem intsD_map (g : D → Int) (ds : List D) : intsD (ds.map fun d => D.int (g d)) = some (ds.map g) := by
  induction ds with
  | nil => simp
  | cons d ds ih => simp [ih]
end HF

set_option Elab.async false
set_option linter.all false
set_option maxRecDepth 100000
set_option maxHeartbeats 4000000
set_option autoImplicit false
namespace HF
open PySem PySem.Spec PyProof.Rows L2
/-! ### the program's top -/
def Has (K : PySem.W.Frag) (mg : Str → Option Value) (x : Str) (st : Stmt) (ps : List Str) : Prop := ∃ f fd, Fun K x x st f fd ∧ mg x = some (.ref f) ∧ Binds K fd ps []
section
variable {K : PySem.W.Frag} {mg : Str → Option Value} {h : Heap}
theorem Has.mk {x : Str} {st : Stmt} {ps : List Str} {f : Addr} {fd : FuncData} (X : K.In h) (G : h.Ns mainGlobals mg) (a : PySem.W.nsIn K mainGlobals x = some (some (.ref f))) (F : Fun K x x st f fd) (b : Binds K fd ps []) : Has K mg x st ps := ⟨f, fd, F, PySem.W.mg_of X G a, b⟩
theorem GConst.int {x : Str} {i : Int} {t : Tok} (X : K.In h) (G : h.Ns mainGlobals mg) (a : PySem.W.nsIn K mainGlobals x = some (some (.int i t))) : GConst K mg x (.int i) :=
  ⟨.int i, .int i t, PySem.W.mg_of X G a, ⟨t, rfl⟩, fun _ => rfl⟩
theorem Blt.mk (h1 : mg "len" = none) (h2 : mg "isinstance" = none) (h3 : mg "abs" = none) (h4 : mg "int" = none) (h5 : mg "str" = none) (h6 : mg "tuple" = none) (h7 : mg "list" = none) (h8 : mg "all" = none) (h9 : mg "any" = none) (h10 : mg "sum" = none) (h11 : mg "range" = none) (h12 : mg "zip" = none) (h13 : mg "reversed" = none) (h14 : mg "bool" = none) (h15 : mg "set" = none) (h16 : mg "dict" = none) : Blt mg := by
  intro x hx
  simp only [bltL, List.mem_cons, List.not_mem_nil, or_false] at hx
  rcases hx with rfl | rfl | rfl | rfl | rfl | rfl | rfl | rfl | rfl | rfl | rfl | rfl | rfl | rfl | rfl | rfl <;> assumption
theorem Has.never {P : Program} {w : World} {base : Heap} {k n : Nat} {x : Str} {st : Stmt} {ps : List Str} (H : Has K mg x st ps) : Cal P w K mg base k x n (fun _ => .stk) := by
  obtain ⟨f, fd, F, hm, hb⟩ := H
  exact Cal.never hm F.kp hb
end
theorem no_exc {P : Program} {w : World} {H : Hp} {s : Shared} {e : Value} {s' : Shared} (h : L2.CX P w [] H s (fun _ _ _ => False) e s') : False := by
  obtain ⟨_, _, _, _, _, _, _, _, _, _, _, _, z⟩ := h
  exact z
theorem spLaw_go {K : PySem.W.Frag} {H : Hp} {a : Addr} {ns : List Int} (hl : ns.length ≤ 63) (hS : SqL K H a (ns.map V.int)) : spLaw K [.ref a] H (fun v _ => v = .bl true) fun _ _ _ => False := ⟨a, ns, rfl, hS, hl, fun _ => rfl⟩
end HF

set_option Elab.async false
set_option linter.all false
set_option maxRecDepth 100000
set_option maxHeartbeats 4000000
set_option autoImplicit false
namespace HFL
open PySem PySem.Spec PyProof.Rows L2 HF
def topS (i : Nat) : Stmt := PySem.Challenge.pw_halfrun_k01_values.main.body.getD i (.Pass ⟨0, 0, 0, 0⟩)
abbrev s_is_whole : Stmt := topS 3
abbrev N_is_whole : List Str := ["thing"]
theorem sc_is_whole : FnScope N_is_whole ["thing"] (defScope s_is_whole) := ⟨rfl, rfl, rfl, by decide +kernel, rfl, by decide +kernel, by decide +kernel⟩
def b_is_whole (c_MOST_NUMBER : D) : Sx := (retS (andF (blF isiG (consF (vF 0) (consF (cF (.ty .int)) nilF))) (andF (notF (blF isiG (consF (vF 0) (consF (cF (.ty .bool)) nilF)))) (op2F ltD (blF absG (consF (vF 0) nilF)) (cF c_MOST_NUMBER)))))
theorem ok_is_whole {P : Program} {w : World} {K : PySem.W.Frag} {mg : Str → Option Value} {base : Heap} {f : Addr} {fd : FuncData} {k : Nat} (B : Blt mg) (F : Fun K "is_whole" "is_whole" s_is_whole f fd) (hm : mg "is_whole" = some (.ref f)) (hb : Binds K fd ["thing"] []) {c_MOST_NUMBER : D} (g_MOST_NUMBER : GConst K mg "MOST_NUMBER" c_MOST_NUMBER) : Cal P w K mg base (k + 1) "is_whole" 1 (runF 1 (b_is_whole c_MOST_NUMBER)) := by
  refine fn_cal F sc_is_whole hm hb rfl (by decide) fun cdv A outer s H E hr => ?_
  have hu := hu65 hr
  have nd := sc_is_whole.nd
  have tk := takes_of (X := cxOf (L2.CX P w) P w K mg base N_is_whole "is_whole" (defScope s_is_whole) f cdv A outer s H E) (E := E) rfl rfl rfl rfl
  exact (sts_one (st_ret (ex_and (ex_isi (B _ (by decide)) (ax_cons (ex_var 0) (ax_cons (ex_ty (t := .int) (B _ (by decide))) ax_nil))) (ex_and (ex_not (ex_isi (B _ (by decide)) (ax_cons (ex_var 0) (ax_cons (ex_ty (t := .bool) (B _ (by decide))) ax_nil)))) (ex_one (ex_lt (ex_abs (B _ (by decide)) (ax_cons (ex_var 0) ax_nil)) (ex_gc g_MOST_NUMBER)))))))
abbrev s_weight : Stmt := topS 4
abbrev N_weight : List Str := ["value", "count", "left", "one"]
theorem sc_weight : FnScope N_weight ["value"] (defScope s_weight) := ⟨rfl, rfl, rfl, by decide +kernel, rfl, by decide +kernel, by decide +kernel⟩
def C0_weight (w_0 : List Sl → Nat) : Fx := (op2F neD (vF 2) (lstF nilF))
def L0_weight (w_0 : List Sl → Nat) : Sx := (seqS (asgS 3 (mtF popM 2 nilF))
    (seqS (asgS 1 (op2F addD (vF 1) (cF (.int 1))))
    (ifS (blF isiG (consF (vF 3) (consF (cF (.ty .tuple)) nilF))) (exprS (mtF extM 2 (consF (vF 3) nilF))) passS)))
def b_weight (w_0 : List Sl → Nat) : Sx := (seqS (asgS 1 (cF (.int 0)))
    (seqS (asgS 2 (lstF (consF (vF 0) nilF)))
    (seqS (whileS w_0 (C0_weight w_0) (L0_weight w_0))
    (retS (vF 1)))))
theorem ok_weight {P : Program} {w : World} {K : PySem.W.Frag} {mg : Str → Option Value} {base : Heap} {f : Addr} {fd : FuncData} {k : Nat} (B : Blt mg) (F : Fun K "weight" "weight" s_weight f fd) (hm : mg "weight" = some (.ref f)) (hb : Binds K fd ["value"] []) (w_0 : List Sl → Nat) : Cal P w K mg base (k + 1) "weight" 1 (runF 4 (b_weight w_0)) := by
  refine fn_cal F sc_weight hm hb rfl (by decide) fun cdv A outer s H E hr => ?_
  have hu := hu65 hr
  have nd := sc_weight.nd
  have tk := takes_of (X := cxOf (L2.CX P w) P w K mg base N_weight "weight" (defScope s_weight) f cdv A outer s H E) (E := E) rfl rfl rfl rfl
  exact (sts_cons (st_set (i := 1) nd ex_int)
    (sts_cons (st_set (i := 2) nd (ex_lst (ax_cons (ex_var 0) ax_nil)))
    (sts_cons (st_while w_0 (passes_of rfl) (tx_cmp (op_neA hu) snd_ne (ex_var 2) (ex_lst ax_nil) (nomark _)) (sts_cons (st_set (i := 3) nd (ex_pop (pv 2)))
    (sts_cons (st_set (i := 1) nd (ex_add (ex_var 1) ex_int))
    (sts_one (st_if (tx_val (ex_isi (B _ (by decide)) (ax_cons (ex_var 3) (ax_cons (ex_ty (t := .tuple) (B _ (by decide))) ax_nil)))) (sts_one (st_expr (ex_extend (pv 2) (ax_cons (ex_var 3) ax_nil)))) sts_nil)))))
    (sts_one (st_ret (ex_var 1))))))
abbrev s_is_value : Stmt := topS 5
abbrev N_is_value : List Str := ["thing", "count", "left", "one"]
theorem sc_is_value : FnScope N_is_value ["thing"] (defScope s_is_value) := ⟨rfl, rfl, rfl, by decide +kernel, rfl, by decide +kernel, by decide +kernel⟩
def C0_is_value (f_is_whole : List Ar → FR) (w_0 : List Sl → Nat) (c_MOST_WEIGHT : D) : Fx := (op2F neD (vF 2) (lstF nilF))
def L0_is_value (f_is_whole : List Ar → FR) (w_0 : List Sl → Nat) (c_MOST_WEIGHT : D) : Sx := (seqS (asgS 3 (mtF popM 2 nilF))
    (seqS (asgS 1 (op2F addD (vF 1) (cF (.int 1))))
    (seqS (ifS (orF (op2F gtD (vF 1) (cF c_MOST_WEIGHT)) (andF (notF (blF isiG (consF (vF 3) (consF (cF (.ty .tuple)) nilF)))) (notF (callF [false] f_is_whole (consF (vF 3) nilF))))) (retS (cF (.bl false))) passS)
    (ifS (blF isiG (consF (vF 3) (consF (cF (.ty .tuple)) nilF))) (exprS (mtF extM 2 (consF (vF 3) nilF))) passS))))
def b_is_value (f_is_whole : List Ar → FR) (w_0 : List Sl → Nat) (c_MOST_WEIGHT : D) : Sx := (seqS (asgS 1 (cF (.int 0)))
    (seqS (asgS 2 (lstF (consF (vF 0) nilF)))
    (seqS (whileS w_0 (C0_is_value f_is_whole w_0 c_MOST_WEIGHT) (L0_is_value f_is_whole w_0 c_MOST_WEIGHT))
    (retS (cF (.bl true))))))
theorem ok_is_value {P : Program} {w : World} {K : PySem.W.Frag} {mg : Str → Option Value} {base : Heap} {f : Addr} {fd : FuncData} {k : Nat} (B : Blt mg) (F : Fun K "is_value" "is_value" s_is_value f fd) (hm : mg "is_value" = some (.ref f)) (hb : Binds K fd ["thing"] []) {f_is_whole : List Ar → FR} {k_is_whole : Nat} (h_is_whole : Cal P w K mg base k_is_whole "is_whole" 1 f_is_whole) (l_is_whole : k_is_whole ≤ k) (w_0 : List Sl → Nat) {c_MOST_WEIGHT : D} (g_MOST_WEIGHT : GConst K mg "MOST_WEIGHT" c_MOST_WEIGHT) : Cal P w K mg base (k + 1) "is_value" 1 (runF 4 (b_is_value f_is_whole w_0 c_MOST_WEIGHT)) := by
  refine fn_cal F sc_is_value hm hb rfl (by decide) fun cdv A outer s H E hr => ?_
  have hu := hu65 hr
  have nd := sc_is_value.nd
  have tk := takes_of (X := cxOf (L2.CX P w) P w K mg base N_is_value "is_value" (defScope s_is_value) f cdv A outer s H E) (E := E) rfl rfl rfl rfl
  exact (sts_cons (st_set (i := 1) nd ex_int)
    (sts_cons (st_set (i := 2) nd (ex_lst (ax_cons (ex_var 0) ax_nil)))
    (sts_cons (st_while w_0 (passes_of rfl) (tx_cmp (op_neA hu) snd_ne (ex_var 2) (ex_lst ax_nil) (nomark _)) (sts_cons (st_set (i := 3) nd (ex_pop (pv 2)))
    (sts_cons (st_set (i := 1) nd (ex_add (ex_var 1) ex_int))
    (sts_cons (st_if (tx_w (tw_or (tx_cmp (op_gt) snd_gt (ex_var 1) (ex_gc g_MOST_WEIGHT) (nomark _)) (tw_or1 (tx_w (tw_and (tx_not (tx_val (ex_isi (B _ (by decide)) (ax_cons (ex_var 3) (ax_cons (ex_ty (t := .tuple) (B _ (by decide))) ax_nil))))) (tw_and1 (tx_not (tx_val (ex_call (sg := [false]) h_is_whole hr l_is_whole tk rfl (ax_cons (ex_var 3) ax_nil)))))))))) (sts_one (st_ret ex_bl)) sts_nil)
    (sts_one (st_if (tx_val (ex_isi (B _ (by decide)) (ax_cons (ex_var 3) (ax_cons (ex_ty (t := .tuple) (B _ (by decide))) ax_nil)))) (sts_one (st_expr (ex_extend (pv 2) (ax_cons (ex_var 3) ax_nil)))) sts_nil))))))
    (sts_one (st_ret ex_bl)))))
abbrev s_law_cell_at : Stmt := topS 7
abbrev N_law_cell_at : List Str := ["_law_script", "_law_k"]
theorem sc_law_cell_at : FnScope N_law_cell_at ["_law_script", "_law_k"] (defScope s_law_cell_at) := ⟨rfl, rfl, rfl, by decide +kernel, rfl, by decide +kernel, by decide +kernel⟩
def b_law_cell_at : Sx := (seqS (ifS (op2F ltD (vF 1) (blF lenG (consF (vF 0) nilF))) (retS (op2F ixD (vF 0) (vF 1))) passS)
    (retS (cF (.int 0))))
theorem ok_law_cell_at {P : Program} {w : World} {K : PySem.W.Frag} {mg : Str → Option Value} {base : Heap} {f : Addr} {fd : FuncData} {k : Nat} (B : Blt mg) (F : Fun K "_law_cell_at" "_law_cell_at" s_law_cell_at f fd) (hm : mg "_law_cell_at" = some (.ref f)) (hb : Binds K fd ["_law_script", "_law_k"] []) : Cal P w K mg base (k + 1) "_law_cell_at" 2 (runF 2 (b_law_cell_at)) := by
  refine fn_cal F sc_law_cell_at hm hb rfl (by decide) fun cdv A outer s H E hr => ?_
  have hu := hu65 hr
  have nd := sc_law_cell_at.nd
  have tk := takes_of (X := cxOf (L2.CX P w) P w K mg base N_law_cell_at "_law_cell_at" (defScope s_law_cell_at) f cdv A outer s H E) (E := E) rfl rfl rfl rfl
  exact (sts_cons (st_if (tx_cmp (op_lt) snd_lt (ex_var 1) (ex_len (B _ (by decide)) (ax_cons (ex_var 0) ax_nil)) (nomark _)) (sts_one (st_ret (ex_item (ex_var 0) (ex_var 1)))) sts_nil)
    (sts_one (st_ret ex_int)))
abbrev s_law_leaf : Stmt := topS 8
abbrev N_law_leaf : List Str := ["_law_cell", "_law_some"]
theorem sc_law_leaf : FnScope N_law_leaf ["_law_cell"] (defScope s_law_leaf) := ⟨rfl, rfl, rfl, by decide +kernel, rfl, by decide +kernel, by decide +kernel⟩
def b_law_leaf : Sx := (seqS (asgS 1 (lstF (consF (cF (.int 0)) (consF (cF (.int 1)) (consF (negF (cF (.int 1))) (consF (op2F subD (op2F powD (cF (.int 10)) (cF (.int 18))) (cF (.int 1))) (consF (op2F subD (cF (.int 1)) (op2F powD (cF (.int 10)) (cF (.int 18)))) (consF (op2F powD (cF (.int 10)) (cF (.int 18))) (consF (negF (op2F powD (cF (.int 10)) (cF (.int 18)))) (consF (cF (.bl true)) (consF (cF (.bl false)) (consF (cF .non) (consF (cF (.str "7")) (consF (op2F powD (cF (.int 10)) (cF (.int 30))) nilF))))))))))))))
    (seqS (ifS (op2F gtD (op2F modD (vF 0) (cF (.int 4))) (cF (.int 0))) (retS (op2F subD (op2F modD (op2F divD (vF 0) (cF (.int 4))) (cF (.int 1000))) (cF (.int 500)))) passS)
    (retS (op2F ixD (vF 1) (op2F modD (op2F divD (vF 0) (cF (.int 4))) (cF (.int 12)))))))
theorem ok_law_leaf {P : Program} {w : World} {K : PySem.W.Frag} {mg : Str → Option Value} {base : Heap} {f : Addr} {fd : FuncData} {k : Nat} (B : Blt mg) (F : Fun K "_law_leaf" "_law_leaf" s_law_leaf f fd) (hm : mg "_law_leaf" = some (.ref f)) (hb : Binds K fd ["_law_cell"] []) : Cal P w K mg base (k + 1) "_law_leaf" 1 (runF 2 (b_law_leaf)) := by
  refine fn_cal F sc_law_leaf hm hb rfl (by decide) fun cdv A outer s H E hr => ?_
  have hu := hu65 hr
  have nd := sc_law_leaf.nd
  have tk := takes_of (X := cxOf (L2.CX P w) P w K mg base N_law_leaf "_law_leaf" (defScope s_law_leaf) f cdv A outer s H E) (E := E) rfl rfl rfl rfl
  exact (sts_cons (st_set (i := 1) nd (ex_lst (ax_cons ex_int (ax_cons ex_int (ax_cons (ex_neg ex_int) (ax_cons (ex_sub (ex_pow ex_int ex_int) ex_int) (ax_cons (ex_sub ex_int (ex_pow ex_int ex_int)) (ax_cons (ex_pow ex_int ex_int) (ax_cons (ex_neg (ex_pow ex_int ex_int)) (ax_cons ex_bl (ax_cons ex_bl (ax_cons ex_non (ax_cons ex_str (ax_cons (ex_pow ex_int ex_int) ax_nil))))))))))))))
    (sts_cons (st_if (tx_cmp (op_gt) snd_gt (ex_mod (ex_var 0) ex_int) ex_int (nomark _)) (sts_one (st_ret (ex_sub (ex_mod (ex_div (ex_var 0) ex_int) ex_int) ex_int))) sts_nil)
    (sts_one (st_ret (ex_item (ex_var 1) (ex_mod (ex_div (ex_var 0) ex_int) ex_int))))))
abbrev s_law_thing : Stmt := topS 9
abbrev N_law_thing : List Str := ["_law_script", "_law_pile", "_law_cell", "_law_at", "_law_many"]
theorem sc_law_thing : FnScope N_law_thing ["_law_script"] (defScope s_law_thing) := ⟨rfl, rfl, rfl, by decide +kernel, rfl, by decide +kernel, by decide +kernel⟩
def L0_law_thing (f_law_cell_at : List Ar → FR) (f_law_leaf : List Ar → FR) : Sx := (ifS (op2F ltD (op2F modD (vF 2) (cF (.int 5))) (cF (.int 3))) (exprS (mtF appM 1 (consF (callF [false] f_law_leaf (consF (op2F addD (op2F mulD (op2F divD (vF 2) (cF (.int 5))) (cF (.int 4))) (cF (.int 1))) nilF)) nilF))) (ifS (op2F eqD (op2F modD (vF 2) (cF (.int 5))) (cF (.int 3))) (seqS (asgS 4 (op2F modD (op2F divD (vF 2) (cF (.int 5))) (op2F addD (cF (.int 1)) (blF lenG (consF (vF 1) nilF)))))
    (asgS 1 (op2F addD (slF (vF 1) noneO (someO (op2F subD (blF lenG (consF (vF 1) nilF)) (vF 4)))) (lstF (consF (blF tupG (consF (slF (vF 1) (someO (op2F subD (blF lenG (consF (vF 1) nilF)) (vF 4))) noneO) nilF)) nilF))))) (exprS (mtF appM 1 (consF (blF tupG (consF (op2F mulD (lstF (consF (op2F modD (op2F divD (vF 2) (cF (.int 5))) (cF (.int 7))) nilF)) (op2F modD (op2F divD (vF 2) (cF (.int 35))) (cF (.int 5)))) nilF)) nilF)))))
def b_law_thing (f_law_cell_at : List Ar → FR) (f_law_leaf : List Ar → FR) : Sx := (seqS (asgS 1 (lstF nilF))
    (seqS (forS (seqS' (slF (vF 0) (someO (cF (.int 1))) (someO (op2F addD (cF (.int 1)) (op2F modD (callF [false, false] f_law_cell_at (consF (vF 0) (consF (cF (.int 0)) nilF))) (cF (.int 61))))))) (Tg.F (.nm 2)) (L0_law_thing f_law_cell_at f_law_leaf))
    (seqS (ifS (andF (op2F eqD (op2F modD (op2F divD (callF [false, false] f_law_cell_at (consF (vF 0) (consF (cF (.int 0)) nilF))) (cF (.int 61))) (cF (.int 2))) (cF (.int 1))) (op2F neD (vF 1) (lstF nilF))) (seqS (asgS 3 (op2F modD (op2F divD (callF [false, false] f_law_cell_at (consF (vF 0) (consF (cF (.int 0)) nilF))) (cF (.int 122))) (blF lenG (consF (vF 1) nilF))))
    (stoS 1 (vF 3) (callF [false] f_law_leaf (consF (op2F mulD (op2F divD (op2F divD (callF [false, false] f_law_cell_at (consF (vF 0) (consF (cF (.int 0)) nilF))) (cF (.int 122))) (cF (.int 61))) (cF (.int 4))) nilF)))) passS)
    (seqS (ifS (orF (op2F eqD (blF lenG (consF (vF 1) nilF)) (cF (.int 1))) (andF (op2F eqD (op2F modD (op2F divD (callF [false, false] f_law_cell_at (consF (vF 0) (consF (cF (.int 0)) nilF))) (cF (.int 2))) (cF (.int 5))) (cF (.int 0))) (op2F neD (vF 1) (lstF nilF)))) (retS (op2F ixD (vF 1) (cF (.int 0)))) passS)
    (retS (blF tupG (consF (vF 1) nilF)))))))
theorem ok_law_thing {P : Program} {w : World} {K : PySem.W.Frag} {mg : Str → Option Value} {base : Heap} {f : Addr} {fd : FuncData} {k : Nat} (B : Blt mg) (F : Fun K "_law_thing" "_law_thing" s_law_thing f fd) (hm : mg "_law_thing" = some (.ref f)) (hb : Binds K fd ["_law_script"] []) {f_law_cell_at : List Ar → FR} {k_law_cell_at : Nat} (h_law_cell_at : Cal P w K mg base k_law_cell_at "_law_cell_at" 2 f_law_cell_at) (l_law_cell_at : k_law_cell_at ≤ k) {f_law_leaf : List Ar → FR} {k_law_leaf : Nat} (h_law_leaf : Cal P w K mg base k_law_leaf "_law_leaf" 1 f_law_leaf) (l_law_leaf : k_law_leaf ≤ k) : Cal P w K mg base (k + 1) "_law_thing" 1 (runF 5 (b_law_thing f_law_cell_at f_law_leaf)) := by
  refine fn_cal F sc_law_thing hm hb rfl (by decide) fun cdv A outer s H E hr => ?_
  have hu := hu65 hr
  have nd := sc_law_thing.nd
  have tk := takes_of (X := cxOf (L2.CX P w) P w K mg base N_law_thing "_law_thing" (defScope s_law_thing) f cdv A outer s H E) (E := E) rfl rfl rfl rfl
  exact (sts_cons (st_set (i := 1) nd (ex_lst ax_nil))
    (sts_cons (st_for (passes_of rfl) rfl (sx_seq (ex_slice (ex_var 0) (ox_some ex_int) (ox_some (ex_add ex_int (ex_mod (ex_call (sg := [false, false]) h_law_cell_at hr l_law_cell_at tk rfl (ax_cons (ex_var 0) (ax_cons ex_int ax_nil))) ex_int))))) (Tg.gx (t := (.nm 2)) (pgt_name (i := 2) nd)) (sts_one (st_if (tx_cmp (op_lt) snd_lt (ex_mod (ex_var 2) ex_int) ex_int (nomark _)) (sts_one (st_expr (ex_append (pv 1) (ax_cons (ex_call (sg := [false]) h_law_leaf hr l_law_leaf tk rfl (ax_cons (ex_add (ex_mul (ex_div (ex_var 2) ex_int) ex_int) ex_int) ax_nil)) ax_nil)))) (sts_one (st_if (tx_cmp (op_eqA hu) snd_eq (ex_mod (ex_var 2) ex_int) ex_int (nomark _)) (sts_cons (st_set (i := 4) nd (ex_mod (ex_div (ex_var 2) ex_int) (ex_add ex_int (ex_len (B _ (by decide)) (ax_cons (ex_var 1) ax_nil)))))
    (sts_one (st_set (i := 1) nd (ex_add (ex_slice (ex_var 1) ox_none (ox_some (ex_sub (ex_len (B _ (by decide)) (ax_cons (ex_var 1) ax_nil)) (ex_var 4)))) (ex_lst (ax_cons (ex_tupC (B _ (by decide)) (ax_cons (ex_slice (ex_var 1) (ox_some (ex_sub (ex_len (B _ (by decide)) (ax_cons (ex_var 1) ax_nil)) (ex_var 4))) ox_none) ax_nil)) ax_nil)))))) (sts_one (st_expr (ex_append (pv 1) (ax_cons (ex_tupC (B _ (by decide)) (ax_cons (ex_mul (ex_lst (ax_cons (ex_mod (ex_div (ex_var 2) ex_int) ex_int) ax_nil)) (ex_mod (ex_div (ex_var 2) ex_int) ex_int)) ax_nil)) ax_nil)))))))))
    (sts_cons (st_if (tx_w (tw_and (tx_cmp (op_eqA hu) snd_eq (ex_mod (ex_div (ex_call (sg := [false, false]) h_law_cell_at hr l_law_cell_at tk rfl (ax_cons (ex_var 0) (ax_cons ex_int ax_nil))) ex_int) ex_int) ex_int (nomark _)) (tw_and1 (tx_cmp (op_neA hu) snd_ne (ex_var 1) (ex_lst ax_nil) (nomark _))))) (sts_cons (st_set (i := 3) nd (ex_mod (ex_div (ex_call (sg := [false, false]) h_law_cell_at hr l_law_cell_at tk rfl (ax_cons (ex_var 0) (ax_cons ex_int ax_nil))) ex_int) (ex_len (B _ (by decide)) (ax_cons (ex_var 1) ax_nil))))
    (sts_one (st_sto (pv 1) (ex_call (sg := [false]) h_law_leaf hr l_law_leaf tk rfl (ax_cons (ex_mul (ex_div (ex_div (ex_call (sg := [false, false]) h_law_cell_at hr l_law_cell_at tk rfl (ax_cons (ex_var 0) (ax_cons ex_int ax_nil))) ex_int) ex_int) ex_int) ax_nil)) (ex_var 3)))) sts_nil)
    (sts_cons (st_if (tx_w (tw_or (tx_cmp (op_eqA hu) snd_eq (ex_len (B _ (by decide)) (ax_cons (ex_var 1) ax_nil)) ex_int (nomark _)) (tw_or1 (tx_w (tw_and (tx_cmp (op_eqA hu) snd_eq (ex_mod (ex_div (ex_call (sg := [false, false]) h_law_cell_at hr l_law_cell_at tk rfl (ax_cons (ex_var 0) (ax_cons ex_int ax_nil))) ex_int) ex_int) ex_int (nomark _)) (tw_and1 (tx_cmp (op_neA hu) snd_ne (ex_var 1) (ex_lst ax_nil) (nomark _)))))))) (sts_one (st_ret (ex_item (ex_var 1) ex_int))) sts_nil)
    (sts_one (st_ret (ex_tupC (B _ (by decide)) (ax_cons (ex_var 1) ax_nil))))))))
abbrev s_law_weight : Stmt := topS 10
abbrev N_law_weight : List Str := ["_law_thing_here", "_law_one"]
theorem sc_law_weight : FnScope N_law_weight ["_law_thing_here"] (defScope s_law_weight) := ⟨rfl, rfl, rfl, by decide +kernel, rfl, by decide +kernel, by decide +kernel⟩
def E0_law_weight (f_law_weight : List Ar → FR) : Fx := (callF [false] f_law_weight (consF (vF 1) nilF))
def b_law_weight (f_law_weight : List Ar → FR) : Sx := (seqS (ifS (blF isiG (consF (vF 0) (consF (cF (.ty .tuple)) nilF))) (retS (op2F addD (cF (.int 1)) (blF sumG (consF (lcF (seqS' (vF 0)) (Tg.F (.nm 1)) yesF (E0_law_weight f_law_weight) [1]) nilF)))) passS)
    (retS (cF (.int 1))))
theorem ok_law_weight {P : Program} {w : World} {K : PySem.W.Frag} {mg : Str → Option Value} {base : Heap} {f : Addr} {fd : FuncData} {k : Nat} (B : Blt mg) (F : Fun K "_law_weight" "_law_weight" s_law_weight f fd) (hm : mg "_law_weight" = some (.ref f)) (hb : Binds K fd ["_law_thing_here"] []) {f_law_weight : List Ar → FR} {k_law_weight : Nat} (h_law_weight : Cal P w K mg base k_law_weight "_law_weight" 1 f_law_weight) (l_law_weight : k_law_weight ≤ k) : Cal P w K mg base (k + 1) "_law_weight" 1 (runF 2 (b_law_weight f_law_weight)) := by
  refine fn_cal F sc_law_weight hm hb rfl (by decide) fun cdv A outer s H E hr => ?_
  have hu := hu65 hr
  have nd := sc_law_weight.nd
  have tk := takes_of (X := cxOf (L2.CX P w) P w K mg base N_law_weight "_law_weight" (defScope s_law_weight) f cdv A outer s H E) (E := E) rfl rfl rfl rfl
  exact (sts_cons (st_if (tx_val (ex_isi (B _ (by decide)) (ax_cons (ex_var 0) (ax_cons (ex_ty (t := .tuple) (B _ (by decide))) ax_nil)))) (sts_one (st_ret (ex_add ex_int (ex_sum rfl (B _ (by decide)) (ax_cons (ex_lc rfl nd (sx_seq (ex_var 0)) (blkOk_by (own := [("_law_one", 1)]) (N := N_law_weight) (sc := defScope s_law_weight) (by decide +kernel)) (fun _ _ _ _ _ => (pgt_name (i := 1) nd)) (fun _ _ _ _ _ => ltx_nil) (fun _ _ _ _ _ => (ex_call (sg := [false]) h_law_weight hr l_law_weight takes0 rfl (ax_cons (ex_var 1) ax_nil)))) ax_nil))))) sts_nil)
    (sts_one (st_ret ex_int)))
abbrev s_law_good : Stmt := topS 11
abbrev N_law_good : List Str := ["_law_thing_here", "_law_one"]
theorem sc_law_good : FnScope N_law_good ["_law_thing_here"] (defScope s_law_good) := ⟨rfl, rfl, rfl, by decide +kernel, rfl, by decide +kernel, by decide +kernel⟩
def T0_law_good (f_law_good : List Ar → FR) : Fx := (notF (callF [false] f_law_good (consF (vF 1) nilF)))
def E0_law_good (f_law_good : List Ar → FR) : Fx := (vF 1)
def b_law_good (f_law_good : List Ar → FR) : Sx := (seqS (ifS (blF isiG (consF (vF 0) (consF (cF (.ty .tuple)) nilF))) (retS (op2F eqD (blF lenG (consF (lcF (seqS' (vF 0)) (Tg.F (.nm 1)) (T0_law_good f_law_good) (E0_law_good f_law_good) [1]) nilF)) (cF (.int 0)))) passS)
    (seqS (ifS (orF (notF (blF isiG (consF (vF 0) (consF (cF (.ty .int)) nilF)))) (blF isiG (consF (vF 0) (consF (cF (.ty .bool)) nilF)))) (retS (cF (.bl false))) passS)
    (retS (andF (op2F ltD (negF (op2F powD (cF (.int 10)) (cF (.int 18)))) (vF 0)) (op2F ltD (vF 0) (op2F powD (cF (.int 10)) (cF (.int 18))))))))
theorem ok_law_good {P : Program} {w : World} {K : PySem.W.Frag} {mg : Str → Option Value} {base : Heap} {f : Addr} {fd : FuncData} {k : Nat} (B : Blt mg) (F : Fun K "_law_good" "_law_good" s_law_good f fd) (hm : mg "_law_good" = some (.ref f)) (hb : Binds K fd ["_law_thing_here"] []) {f_law_good : List Ar → FR} {k_law_good : Nat} (h_law_good : Cal P w K mg base k_law_good "_law_good" 1 f_law_good) (l_law_good : k_law_good ≤ k) : Cal P w K mg base (k + 1) "_law_good" 1 (runF 2 (b_law_good f_law_good)) := by
  refine fn_cal F sc_law_good hm hb rfl (by decide) fun cdv A outer s H E hr => ?_
  have hu := hu65 hr
  have nd := sc_law_good.nd
  have tk := takes_of (X := cxOf (L2.CX P w) P w K mg base N_law_good "_law_good" (defScope s_law_good) f cdv A outer s H E) (E := E) rfl rfl rfl rfl
  exact (sts_cons (st_if (tx_val (ex_isi (B _ (by decide)) (ax_cons (ex_var 0) (ax_cons (ex_ty (t := .tuple) (B _ (by decide))) ax_nil)))) (sts_one (st_ret (ex_eq hu (ex_len (B _ (by decide)) (ax_cons (ex_lc rfl nd (sx_seq (ex_var 0)) (blkOk_by (own := [("_law_one", 1)]) (N := N_law_good) (sc := defScope s_law_good) (by decide +kernel)) (fun _ _ _ _ _ => (pgt_name (i := 1) nd)) (fun _ _ _ _ _ => (ltx_one (tx_not (tx_val (ex_call (sg := [false]) h_law_good hr l_law_good takes0 rfl (ax_cons (ex_var 1) ax_nil)))))) (fun _ _ _ _ _ => (ex_var 1))) ax_nil)) ex_int))) sts_nil)
    (sts_cons (st_if (tx_w (tw_or (tx_not (tx_val (ex_isi (B _ (by decide)) (ax_cons (ex_var 0) (ax_cons (ex_ty (t := .int) (B _ (by decide))) ax_nil))))) (tw_or1 (tx_val (ex_isi (B _ (by decide)) (ax_cons (ex_var 0) (ax_cons (ex_ty (t := .bool) (B _ (by decide))) ax_nil))))))) (sts_one (st_ret ex_bl)) sts_nil)
    (sts_one (st_ret (ex_and (ex_lt (ex_neg (ex_pow ex_int ex_int)) (ex_var 0)) (ex_one (ex_lt (ex_var 0) (ex_pow ex_int ex_int))))))))
abbrev s_law : Stmt := topS 12
abbrev N_law : List Str := ["_law_script", "_law_thing_here", "_law_due", "_law_turn", "_law_many", "_law_found"]
theorem sc_law : FnScope N_law ["_law_script"] (defScope s_law) := ⟨rfl, rfl, rfl, by decide +kernel, rfl, by decide +kernel, by decide +kernel⟩
def L0_law (f_law_thing : List Ar → FR) (f_law_good : List Ar → FR) (f_law_weight : List Ar → FR) (f_is_value : List Ar → FR) (f_weight : List Ar → FR) : Sx := (seqS (asgS 5 (callF [false] f_is_value (consF (vF 1) nilF)))
    (seqS (ifS (orF (notF (blF isiG (consF (vF 5) (consF (cF (.ty .bool)) nilF)))) (op2F neD (vF 5) (vF 2))) (retS (cF (.bl false))) passS)
    (seqS (ifS (orF (op2F isNotD (callF [false] f_is_value (consF (tupF (consF (cF (.int 1)) (consF (tupF (consF (cF (.int 2)) nilF)) nilF))) nilF)) (cF (.bl true))) (op2F isNotD (callF [false] f_is_value (consF (tupF (consF (cF (.bl true)) nilF)) nilF)) (cF (.bl false)))) (retS (cF (.bl false))) passS)
    (seqS (ifS (orF (op2F isNotD (callF [false] f_is_value (consF (op2F mulD (tupF (consF (cF (.int 0)) nilF)) (cF (.int 49))) nilF)) (cF (.bl true))) (op2F isNotD (callF [false] f_is_value (consF (op2F addD (op2F mulD (tupF (consF (cF (.int 0)) nilF)) (cF (.int 48))) (op2F mulD (tupF (consF (tupF nilF) nilF)) (cF (.int 2)))) nilF)) (cF (.bl false)))) (retS (cF (.bl false))) passS)
    (ifS (orF (op2F isNotD (callF [false] f_is_value (consF (op2F subD (op2F powD (cF (.int 10)) (cF (.int 18))) (cF (.int 1))) nilF)) (cF (.bl true))) (op2F isNotD (callF [false] f_is_value (consF (tupF (consF (cF (.int 1)) (consF (tupF (consF (op2F powD (cF (.int 10)) (cF (.int 18))) nilF)) nilF))) nilF)) (cF (.bl false)))) (retS (cF (.bl false))) passS)))))
def b_law (f_law_thing : List Ar → FR) (f_law_good : List Ar → FR) (f_law_weight : List Ar → FR) (f_is_value : List Ar → FR) (f_weight : List Ar → FR) : Sx := (seqS (asgS 1 (callF [false] f_law_thing (consF (vF 0) nilF)))
    (seqS (asgS 2 (andF (callF [false] f_law_good (consF (vF 1) nilF)) (op2F leD (callF [false] f_law_weight (consF (vF 1) nilF)) (cF (.int 50)))))
    (seqS (forS (rngS' rng1 (consF (cF (.int 2)) nilF)) (Tg.F (.nm 3)) (L0_law f_law_thing f_law_good f_law_weight f_is_value f_weight))
    (seqS (ifS (notF (vF 2)) (retS (cF (.bl true))) passS)
    (seqS (asgS 4 (callF [false] f_weight (consF (vF 1) nilF)))
    (retS (andF (blF isiG (consF (vF 4) (consF (cF (.ty .int)) nilF))) (andF (notF (blF isiG (consF (vF 4) (consF (cF (.ty .bool)) nilF)))) (op2F eqD (vF 4) (callF [false] f_law_weight (consF (vF 1) nilF)))))))))))
theorem ok_law {P : Program} {w : World} {K : PySem.W.Frag} {mg : Str → Option Value} {base : Heap} {f : Addr} {fd : FuncData} {k : Nat} (B : Blt mg) (F : Fun K "law" "law" s_law f fd) (hm : mg "law" = some (.ref f)) (hb : Binds K fd ["_law_script"] []) {f_law_thing : List Ar → FR} {k_law_thing : Nat} (h_law_thing : Cal P w K mg base k_law_thing "_law_thing" 1 f_law_thing) (l_law_thing : k_law_thing ≤ k) {f_law_good : List Ar → FR} {k_law_good : Nat} (h_law_good : Cal P w K mg base k_law_good "_law_good" 1 f_law_good) (l_law_good : k_law_good ≤ k) {f_law_weight : List Ar → FR} {k_law_weight : Nat} (h_law_weight : Cal P w K mg base k_law_weight "_law_weight" 1 f_law_weight) (l_law_weight : k_law_weight ≤ k) {f_is_value : List Ar → FR} {k_is_value : Nat} (h_is_value : Cal P w K mg base k_is_value "is_value" 1 f_is_value) (l_is_value : k_is_value ≤ k) {f_weight : List Ar → FR} {k_weight : Nat} (h_weight : Cal P w K mg base k_weight "weight" 1 f_weight) (l_weight : k_weight ≤ k) : FnOk P w K mg base (L2.CX P w) (k + 1) f fd ["_law_script"] (spD K mg 1 (runF 6 (b_law f_law_thing f_law_good f_law_weight f_is_value f_weight))) := by
  refine fn_ok F sc_law hm hb rfl (by decide) fun cdv A outer s H E hr => ?_
  have hu := hu65 hr
  have nd := sc_law.nd
  have tk := takes_of (X := cxOf (L2.CX P w) P w K mg base N_law "law" (defScope s_law) f cdv A outer s H E) (E := E) rfl rfl rfl rfl
  exact (sts_cons (st_set (i := 1) nd (ex_call (sg := [false]) h_law_thing hr l_law_thing tk rfl (ax_cons (ex_var 0) ax_nil)))
    (sts_cons (st_set (i := 2) nd (ex_and (ex_call (sg := [false]) h_law_good hr l_law_good tk rfl (ax_cons (ex_var 1) ax_nil)) (ex_one (ex_le (ex_call (sg := [false]) h_law_weight hr l_law_weight tk rfl (ax_cons (ex_var 1) ax_nil)) ex_int))))
    (sts_cons (st_for (passes_of rfl) rfl (sx_range1 (B _ (by decide)) (ax_cons ex_int ax_nil)) (Tg.gx (t := (.nm 3)) (pgt_name (i := 3) nd)) (sts_cons (st_set (i := 5) nd (ex_call (sg := [false]) h_is_value hr l_is_value tk rfl (ax_cons (ex_var 1) ax_nil)))
    (sts_cons (st_if (tx_w (tw_or (tx_not (tx_val (ex_isi (B _ (by decide)) (ax_cons (ex_var 5) (ax_cons (ex_ty (t := .bool) (B _ (by decide))) ax_nil))))) (tw_or1 (tx_cmp (op_neA hu) snd_ne (ex_var 5) (ex_var 2) (nomark _))))) (sts_one (st_ret ex_bl)) sts_nil)
    (sts_cons (st_if (tx_w (tw_or (tx_cmp (op_isnotA) snd_isnot (ex_call (sg := [false]) h_is_value hr l_is_value tk rfl (ax_cons (ex_tup (ax_cons ex_int (ax_cons (ex_tup (ax_cons ex_int ax_nil)) ax_nil))) ax_nil)) ex_bl (nomark _)) (tw_or1 (tx_cmp (op_isnotA) snd_isnot (ex_call (sg := [false]) h_is_value hr l_is_value tk rfl (ax_cons (ex_tup (ax_cons ex_bl ax_nil)) ax_nil)) ex_bl (nomark _))))) (sts_one (st_ret ex_bl)) sts_nil)
    (sts_cons (st_if (tx_w (tw_or (tx_cmp (op_isnotA) snd_isnot (ex_call (sg := [false]) h_is_value hr l_is_value tk rfl (ax_cons (ex_mul (ex_tup (ax_cons ex_int ax_nil)) ex_int) ax_nil)) ex_bl (nomark _)) (tw_or1 (tx_cmp (op_isnotA) snd_isnot (ex_call (sg := [false]) h_is_value hr l_is_value tk rfl (ax_cons (ex_add (ex_mul (ex_tup (ax_cons ex_int ax_nil)) ex_int) (ex_mul (ex_tup (ax_cons (ex_tup ax_nil) ax_nil)) ex_int)) ax_nil)) ex_bl (nomark _))))) (sts_one (st_ret ex_bl)) sts_nil)
    (sts_one (st_if (tx_w (tw_or (tx_cmp (op_isnotA) snd_isnot (ex_call (sg := [false]) h_is_value hr l_is_value tk rfl (ax_cons (ex_sub (ex_pow ex_int ex_int) ex_int) ax_nil)) ex_bl (nomark _)) (tw_or1 (tx_cmp (op_isnotA) snd_isnot (ex_call (sg := [false]) h_is_value hr l_is_value tk rfl (ax_cons (ex_tup (ax_cons ex_int (ax_cons (ex_tup (ax_cons (ex_pow ex_int ex_int) ax_nil)) ax_nil))) ax_nil)) ex_bl (nomark _))))) (sts_one (st_ret ex_bl)) sts_nil)))))))
    (sts_cons (st_if (tx_not (tx_val (ex_var 2))) (sts_one (st_ret ex_bl)) sts_nil)
    (sts_cons (st_set (i := 4) nd (ex_call (sg := [false]) h_weight hr l_weight tk rfl (ax_cons (ex_var 1) ax_nil)))
    (sts_one (st_ret (ex_and (ex_isi (B _ (by decide)) (ax_cons (ex_var 4) (ax_cons (ex_ty (t := .int) (B _ (by decide))) ax_nil))) (ex_and (ex_not (ex_isi (B _ (by decide)) (ax_cons (ex_var 4) (ax_cons (ex_ty (t := .bool) (B _ (by decide))) ax_nil)))) (ex_one (ex_eq hu (ex_var 4) (ex_call (sg := [false]) h_law_weight hr l_law_weight tk rfl (ax_cons (ex_var 1) ax_nil)))))))))))))

end HFL
set_option Elab.async false
set_option linter.all false
set_option maxRecDepth 100000
set_option maxHeartbeats 4000000
set_option autoImplicit false
namespace HFL
open PySem PySem.Spec PyProof.Rows L2 HF
/-! ### is_whole, weight, is_value -/
def big : Int := 1000000000000000000
def whole : D → Bool
  | .int i => decide ((if i < 0 then -i else i) < big)
  | _ => false
mutual
def good : D → Bool
  | .tup xs => goodL xs
  | d => whole d
def goodL : List D → Bool
  | [] => true
  | d :: ds => good d && goodL ds
end
@[simp] theorem goodL_nil : goodL [] = true := by rw [goodL]
@[simp] theorem goodL_cons (d : D) (ds : List D) : goodL (d :: ds) = (good d && goodL ds) := by rw [goodL]
@[simp] theorem good_tup (xs : List D) : good (.tup xs) = goodL xs := by rw [good]
@[simp] theorem goodL_append (a b : List D) : goodL (a ++ b) = (goodL a && goodL b) := by
  induction a with
  | nil => simp
  | cons x a ih => simp [ih, Bool.and_assoc]
theorem goodL_all (ds : List D) : goodL ds = ds.all good := by
  induction ds with
  | nil => simp
  | cons x a ih => simp [ih]
/-- tuples, numbers, truths, None, texts -/
def leafy : D → Bool
  | .non => true
  | .bl _ => true
  | .int _ => true
  | .str s => PyData.strOk s
  | _ => false
mutual
def thg : D → Bool
  | .tup xs => thgL xs
  | d => leafy d
def thgL : List D → Bool
  | [] => true
  | d :: ds => thg d && thgL ds
end
@[simp] theorem thgL_nil : thgL [] = true := by rw [thgL]
@[simp] theorem thgL_cons (d : D) (ds : List D) : thgL (d :: ds) = (thg d && thgL ds) := by rw [thgL]
@[simp] theorem thg_tup (xs : List D) : thg (.tup xs) = thgL xs := by rw [thg]
@[simp] theorem thgL_append (a b : List D) : thgL (a ++ b) = (thgL a && thgL b) := by
  induction a with
  | nil => simp
  | cons x a ih => simp [ih, Bool.and_assoc]
theorem thgL_mem {ds : List D} {d : D} (h : thgL ds = true) (m : d ∈ ds) : thg d = true := by
  induction ds with
  | nil => cases m
  | cons x ds ih =>
    simp only [thgL_cons, Bool.and_eq_true] at h
    cases m with
    | head => exact h.1
    | tail _ m => exact ih h.2 m
theorem thgL_of {ds : List D} (h : ∀ d ∈ ds, thg d = true) : thgL ds = true := by
  induction ds with
  | nil => simp
  | cons x ds ih => simp; exact ⟨h x (by simp), ih fun d m => h d (by simp [m])⟩
mutual
theorem thg_pl : ∀ d : D, thg d = true → d.pl
  | .tup xs, h => by simp at h; simpa [D.pl] using thgL_pl xs h
  | .non, h => by simp [D.pl]
  | .bl _, h => by simp [D.pl]
  | .int _, h => by simp [D.pl]
  | .str s, h => by simpa [D.pl, thg, leafy] using h
  | .lst _, h => by simp [thg, leafy] at h
  | .dct _ _, h => by simp [thg, leafy] at h
  | .scr _, h => by simp [thg, leafy] at h
  | .ty _, h => by simp [thg, leafy] at h
theorem thgL_pl : ∀ ds : List D, thgL ds = true → D.plL ds
  | [], _ => by simp [D.plL]
  | d :: ds, h => by simp at h; simpa [D.plL] using ⟨thg_pl d h.1, thgL_pl ds h.2⟩
end
theorem run_is_whole (d : D) (h : thg d = true) : runF 1 (b_is_whole (.int big)) [.val d] = .im (.bl (whole d)) [.val d] := by
  cases d <;> simp [thg, leafy] at h <;> simp [b_is_whole, whole]
/-- is it a tuple -/
def isT : D → Bool
  | .tup _ => true
  | _ => false
theorem isi_tup {d : D} (h : thg d = true) : d.isi .tuple = some (isT d) := by
  cases d <;> simp [thg, leafy] at h <;> rfl
def isI : D → Bool
  | .int _ => true
  | .bl _ => true
  | _ => false
def isB' : D → Bool
  | .bl _ => true
  | _ => false
theorem isi_int {d : D} (h : thg d = true) : d.isi .int = some (isI d) := by
  cases d <;> simp [thg, leafy] at h <;> rfl
theorem isi_bool {d : D} (h : thg d = true) : d.isi .bool = some (isB' d) := by
  cases d <;> simp [thg, leafy] at h <;> rfl
/-- the stack behind a thing -/
def kids : D → List D
  | .tup xs => xs
  | _ => []
theorem kids_thg {d : D} (h : thg d = true) : thgL (kids d) = true := by
  cases d <;> simp [kids] <;> simpa using h
theorem kids_wt (d : D) : d.wt = 1 + D.wtL (kids d) := by
  cases d <;> simp [kids, D.wt]
theorem snoc_cases {α : Type} (xs : List α) : xs = [] ∨ ∃ ys y, xs = ys ++ [y] := by
  cases h : xs.reverse with
  | nil => left; simpa using h
  | cons y ys => right; exact ⟨ys.reverse, y, by have := congrArg List.reverse h; simpa using this⟩
theorem eqB_nn : D.eqB (.lst []) (.lst []) = some true := D.eqB_nil (xs := []) (by simp [D.plL])
def frees (x : Sl) : Prop := x = .non ∨ ∃ z, x = .val z
theorem weight_loop (w : List Sl → Nat) (t : D) : ∀ (n : Nat) (left : List D) (c : Int) (x : Sl), frees x → D.wtL left ≤ n → n ≤ 16777216 → thgL left = true →
    ∃ y : Sl, whileL (C0_weight w) (L0_weight w) (n + 1) [.val t, .val (.int c), .own (.lst left), x] = .nx [.val t, .val (.int (c + D.wtL left)), .own (.lst []), y] := by
  intro n
  induction n with
  | zero =>
    intro left c x hx hw _ hp
    have : left = [] := by
      have := D.length_le_wtL left
      exact List.eq_nil_of_length_eq_zero (by omega)
    subst this
    exact ⟨x, by simp [whileL, C0_weight, -D.eqB, eqB_nn]⟩
  | succ n ih =>
    intro left c x hx hw hn hp
    rcases snoc_cases left with rfl | ⟨ys, y, rfl⟩
    · exact ⟨x, by simp [whileL, C0_weight, -D.eqB, eqB_nn]⟩
    · have hpl := thgL_pl _ hp
      simp only [thgL_append, Bool.and_eq_true, thgL_cons, thgL_nil, and_true] at hp
      simp only [D.wtL_append, D.wtL_cons, D.wtL_nil] at hw
      have hk := kids_wt y
      have h1 := D.length_le_wtL ys
      have h2 := D.length_le_wtL (kids y)
      obtain ⟨z, hz⟩ := ih (ys ++ kids y) (c + 1) (.val y) (.inr ⟨y, rfl⟩) (by simp; omega) (by omega) (by simp [hp, kids_thg])
      refine ⟨z, ?_⟩
      have e : c + 1 + (D.wtL (ys ++ kids y) : Int) = c + (D.wtL (ys ++ [y]) : Int) := by simp; omega
      rw [e] at hz
      rw [← hz]
      conv => lhs; unfold whileL
      have hlen : ys.length + (kids y).length ≤ 16777216 := by omega
      have hi := isi_tup hp.2
      have hky : kids y = [] ∨ ∃ ks, y = .tup ks := by cases y <;> simp [kids]
      rcases hx with rfl | ⟨x, rfl⟩ <;> cases hT : isT y
      case inl.false | inr.false =>
        have : kids y = [] := by cases y <;> simp [kids, isT] at hT ⊢
        simp [C0_weight, L0_weight, -D.eqB, D.eqB_nil hpl, -D.isi, hi, hT, this]
      case inl.true | inr.true =>
        cases y <;> simp [isT] at hT
        simp [kids] at hlen
        simp [C0_weight, L0_weight, -D.eqB, D.eqB_nil hpl, kids, hlen]
theorem run_weight (d : D) (w : List Sl → Nat) (h : thg d = true) (hw : ∀ e, w e = 1001) (hb : d.wt ≤ 1000) : runF 4 (b_weight w) [.val d] = .im (.int d.wt) [.val d] := by
  obtain ⟨y, hy⟩ := weight_loop w d 1000 [d] 0 .non (.inl rfl) (by simpa using hb) (by omega) (by simp [h])
  simp at hy
  simp [b_weight, hw, hy]
theorem good_kids {d : D} (h : thg d = true) : good d = (if isT d then goodL (kids d) else whole d) := by
  cases d <;> simp [isT, kids, good]
theorem value_loop (fw : List Ar → FR) (hfw : ∀ d, thg d = true → fw [.val d] = .im (.bl (whole d)) [.val d]) (w : List Sl → Nat) (t : D) : ∀ (n : Nat) (left : List D) (c : Nat) (x : Sl), frees x → D.wtL left ≤ n → n ≤ 16777216 → thgL left = true → c ≤ 50 →
    ∃ e' : List Sl, whileL (C0_is_value fw w (.int 50)) (L0_is_value fw w (.int 50)) (n + 1) [.val t, .val (.int c), .own (.lst left), x] = if goodL left = true ∧ c + D.wtL left ≤ 50 then .nx e' else .rt (.im (.bl false)) e' := by
  intro n
  induction n with
  | zero =>
    intro left c x hx hw _ hp hc
    have : left = [] := by
      have := D.length_le_wtL left
      exact List.eq_nil_of_length_eq_zero (by omega)
    subst this
    exact ⟨_, by simp [whileL, C0_is_value, -D.eqB, eqB_nn, hc]; rfl⟩
  | succ n ih =>
    intro left c x hx hw hn hp hc
    rcases snoc_cases left with rfl | ⟨ys, y, rfl⟩
    · exact ⟨_, by simp [whileL, C0_is_value, -D.eqB, eqB_nn, hc]; rfl⟩
    · have hpl := thgL_pl _ hp
      simp only [thgL_append, Bool.and_eq_true, thgL_cons, thgL_nil, and_true] at hp
      simp only [D.wtL_append, D.wtL_cons, D.wtL_nil] at hw
      have hk := kids_wt y
      have h1 := D.length_le_wtL ys
      have h2 := D.length_le_wtL (kids y)
      have hg := good_kids hp.2
      have hlen : ys.length + (kids y).length ≤ 16777216 := by omega
      have hi := isi_tup hp.2
      by_cases hc50 : c = 50
      · subst hc50
        have hno : ¬ (goodL (ys ++ [y]) = true ∧ 50 + D.wtL (ys ++ [y]) ≤ 50) := by simp; intro _ _; omega
        simp only [if_neg hno]
        unfold whileL
        rcases hx with rfl | ⟨x, rfl⟩ <;> simp [C0_is_value, L0_is_value, -D.eqB, D.eqB_nil hpl]
      · have hcc : ¬ (50 : Int) < (c : Int) + 1 := by omega
        obtain ⟨z, hz⟩ := ih (ys ++ kids y) (c + 1) (.val y) (.inr ⟨y, rfl⟩) (by simp; omega) (by omega) (by simp [hp, kids_thg]) (by omega)
        simp only [Int.natCast_add, Int.cast_ofNat_Int] at hz
        cases hT : isT y
        case false =>
          have hky : kids y = [] := by cases y <;> simp [kids, isT] at hT ⊢
          cases hW : whole y
          case false =>
            have hno : ¬ (goodL (ys ++ [y]) = true ∧ c + D.wtL (ys ++ [y]) ≤ 50) := by simp [hg, hT, hW]
            simp only [if_neg hno]
            unfold whileL
            rcases hx with rfl | ⟨x, rfl⟩ <;> simp [C0_is_value, L0_is_value, -D.eqB, D.eqB_nil hpl, hcc, hfw y hp.2, hi, hT, hW, -D.isi]
          case true =>
            refine ⟨z, ?_⟩
            have e : (goodL (ys ++ kids y) = true ∧ c + 1 + D.wtL (ys ++ kids y) ≤ 50) ↔ (goodL (ys ++ [y]) = true ∧ c + D.wtL (ys ++ [y]) ≤ 50) := by
              rw [hky] at hk; simp [hky, hg, hT, hW] at hk ⊢; omega
            simp only [e] at hz
            rw [← hz]
            conv => lhs; unfold whileL
            rcases hx with rfl | ⟨x, rfl⟩ <;> simp [C0_is_value, L0_is_value, -D.eqB, D.eqB_nil hpl, hcc, hfw y hp.2, hi, hT, hW, -D.isi, hky]
        case true =>
          refine ⟨z, ?_⟩
          have e : (goodL (ys ++ kids y) = true ∧ c + 1 + D.wtL (ys ++ kids y) ≤ 50) ↔ (goodL (ys ++ [y]) = true ∧ c + D.wtL (ys ++ [y]) ≤ 50) := by
            simp [hg, hT]; omega
          simp only [e] at hz
          rw [← hz]
          conv => lhs; unfold whileL
          cases y <;> simp [isT] at hT
          simp [kids] at hlen
          rcases hx with rfl | ⟨x, rfl⟩ <;> simp [C0_is_value, L0_is_value, -D.eqB, D.eqB_nil hpl, hcc, kids, hlen]
theorem run_is_value (fw : List Ar → FR) (hfw : ∀ d, thg d = true → fw [.val d] = .im (.bl (whole d)) [.val d]) (d : D) (w : List Sl → Nat) (h : thg d = true) (hw : ∀ e, w e = 1001) (hb : d.wt ≤ 1000) : runF 4 (b_is_value fw w (.int 50)) [.val d] = .im (.bl (good d && decide (d.wt ≤ 50))) [.val d] := by
  obtain ⟨y, hy⟩ := value_loop fw hfw w d 1000 [d] 0 .non (.inl rfl) (by simpa using hb) (by omega) (by simp [h]) (by omega)
  simp at hy
  simp [b_is_value, hw, hy]
  by_cases hh : good d = true ∧ d.wt ≤ 50
  · simp [hh]
  · rw [if_neg hh]; simp; intro a; exact Nat.lt_of_not_le fun b => hh ⟨a, b⟩
/-! ### the law's cells -/
def cell (ns : List Int) (k : Int) : Int := if k < ns.length then (L2.atI ns k).getD 0 else 0
theorem atI_lt {α : Type} {xs : List α} {k : Int} (h0 : 0 ≤ k) (h : k < xs.length) : ∃ x, L2.atI xs k = some x ∧ x ∈ xs := by
  have : k.toNat < xs.length := by omega
  refine ⟨xs[k.toNat], ?_, by simp⟩
  unfold L2.atI L2.ixN
  rw [if_pos h0, if_pos h]
  simp [List.getElem?_eq_getElem this]
theorem run_cell_at (ns : List Int) (k : Int) (h0 : 0 ≤ k) : runF 2 b_law_cell_at [.val (.scr ns), .val (.int k)] = .im (.int (cell ns k)) [.val (.scr ns), .val (.int k)] := by
  by_cases h : k < ns.length
  · obtain ⟨x, hx, _⟩ := atI_lt h0 h
    simp [b_law_cell_at, hx, cell, h]
  · simp [b_law_cell_at, cell, h]
def leafs : List D := [.int 0, .int 1, .int (-1), .int (big - 1), .int (1 - big), .int big, .int (-big), .bl true, .bl false, .non, .str "7", .int (10 ^ 30)]
theorem leafs_ok : ∀ d ∈ leafs, leafy d = true := by decide +kernel
theorem run_leaf (c : Int) : ∃ d, runF 2 b_law_leaf [.val (.int c)] = .im d [.val (.int c)] ∧ leafy d = true := by
  have h4 : 0 ≤ c.fmod 4 := Int.fmod_nonneg_of_pos c (by omega)
  by_cases h : 0 < c.fmod 4
  · exact ⟨_, by simp [b_law_leaf, h]; rfl, rfl⟩
  · have h1 : 0 ≤ (c.fdiv 4).fmod 12 := Int.fmod_nonneg_of_pos _ (by omega)
    have h2 : (c.fdiv 4).fmod 12 < 12 := Int.fmod_lt_of_pos _ (by omega)
    obtain ⟨d, hd, hm⟩ := atI_lt (xs := leafs) h1 (by simpa [leafs] using h2)
    refine ⟨d, ?_, leafs_ok d hm⟩
    simp [leafs, big] at hd
    simp [b_law_leaf, h, hd]
theorem leafy_facts {d : D} (h : leafy d = true) : thg d = true ∧ d.wt = 1 ∧ d.dp ≤ 1 := by
  cases d <;> simp [leafy] at h <;> simp [thg, leafy, D.wt, D.dp, h, PyData.depth]
end HFL

set_option Elab.async false
set_option linter.all false
set_option maxRecDepth 100000
set_option maxHeartbeats 4000000
set_option autoImplicit false
namespace HFL
open PySem PySem.Spec PyProof.Rows L2 HF
theorem cutL_hi {α : Type} (xs : List α) {k : Int} (h0 : 0 ≤ k) (h1 : k ≤ xs.length) : cutL xs none (some k) = xs.take k.toNat := by
  unfold cutL
  have : HT.sIx xs.length xs.length (some k) = k.toNat := by unfold HT.sIx; simp only; rw [if_neg (by omega)]; omega
  rw [this]; simp [HT.sIx]
theorem cutL_lo {α : Type} (xs : List α) {k : Int} (h0 : 0 ≤ k) (h1 : k ≤ xs.length) : cutL xs (some k) none = xs.drop k.toNat := by
  unfold cutL
  have : HT.sIx xs.length 0 (some k) = k.toNat := by unfold HT.sIx; simp only; rw [if_neg (by omega)]; omega
  rw [this]; simp [HT.sIx, List.take_of_length_le]
theorem cutL_sub {α : Type} (xs : List α) (a b : Option Int) : ∀ x ∈ cutL xs a b, x ∈ xs := fun x m => List.mem_of_mem_drop (List.mem_of_mem_take m)
theorem cutL_len {α : Type} (xs : List α) (k m : Int) (h : 0 ≤ k) (hm : 0 ≤ m) : (cutL xs (some k) (some (k + m))).length ≤ m.toNat := by
  unfold cutL HT.sIx
  simp only
  rw [if_neg (by omega), if_neg (by omega)]
  simp
  omega
theorem wtL_take (ds : List D) (n : Nat) : D.wtL (ds.take n) + D.wtL (ds.drop n) = D.wtL ds := by
  rw [← D.wtL_append, List.take_append_drop]
theorem dpL_mem {ds : List D} {n : Nat} : D.dpL ds ≤ n ↔ ∀ d ∈ ds, d.dp ≤ n := D.dpL_le
theorem thgL_iff {ds : List D} : thgL ds = true ↔ ∀ d ∈ ds, thg d = true := ⟨fun h _ m => thgL_mem h m, thgL_of⟩
theorem wtL_ints (n : Nat) (i : Int) : D.wtL (List.replicate n [D.int i]).flatten = n := by
  induction n with
  | zero => simp
  | succ n ih => rw [List.replicate_succ, List.flatten_cons, D.wtL_append, ih]; simp [D.wt]; omega
theorem mem_ints {n : Nat} {i : Int} {d : D} (m : d ∈ (List.replicate n [D.int i]).flatten) : d = .int i := by
  simp at m; exact m.2
structure Pile (pile : List D) (n : Nat) : Prop where
  th : ∀ d ∈ pile, thg d = true
  wt : D.wtL pile ≤ 5 * n
  dp : ∀ d ∈ pile, d.dp ≤ n + 1
theorem thing_turn {fc fl : List Ar → FR} (hl : ∀ c, ∃ d, fl [.val (.int c)] = .im d [.val (.int c)] ∧ leafy d = true) (ns : List Int) (pile : List D) (s2 s4 : Sl) (f2 : frees s2) (f4 : frees s4) (n : Nat) (hn : n ≤ 100) (P : Pile pile n) (c : Int) :
    ∃ pile' s4', L0_law_thing fc fl [.val (.scr ns), .own (.lst pile), .val (.int c), .non, s4] = .nx [.val (.scr ns), .own (.lst pile'), .val (.int c), .non, s4'] ∧ frees s4' ∧ Pile pile' (n + 1) := by
  have hlen := D.length_le_wtL pile
  have hw := P.wt
  have h5 : 0 ≤ c.fmod 5 := Int.fmod_nonneg_of_pos c (by omega)
  by_cases h3 : c.fmod 5 < 3
  · obtain ⟨d, hd, hy⟩ := hl (c.fdiv 5 * 4 + 1)
    have ⟨q1, q2, q3⟩ := leafy_facts hy
    refine ⟨pile ++ [d], s4, ?_, f4, ⟨?_, ?_, ?_⟩⟩
    · have : pile.length < 16777216 := by omega
      simp [L0_law_thing, h3, hd, this]
    · intro x m; simp at m; rcases m with m | rfl
      · exact P.th x m
      · exact q1
    · simp; omega
    · intro x m; simp at m; rcases m with m | rfl
      · have := P.dp x m; omega
      · omega
  · by_cases e3 : c.fmod 5 = 3
    · have a1 : 0 ≤ (c.fdiv 5).fmod (1 + (pile.length : Int)) := Int.fmod_nonneg_of_pos _ (by omega)
      have a2 : (c.fdiv 5).fmod (1 + (pile.length : Int)) < 1 + (pile.length : Int) := Int.fmod_lt_of_pos _ (by omega)
      generalize hm : (c.fdiv 5).fmod (1 + (pile.length : Int)) = m at a1 a2
      have hk0 : (0 : Int) ≤ (pile.length : Int) - m := by omega
      have hk1 : (pile.length : Int) - m ≤ pile.length := by omega
      have c1 := cutL_hi pile hk0 hk1
      have c2 := cutL_lo pile hk0 hk1
      generalize hq : ((pile.length : Int) - m).toNat = q at c1 c2
      refine ⟨pile.take q ++ [.tup (pile.drop q)], .val (.int m), ?_, .inr ⟨_, rfl⟩, ⟨?_, ?_, ?_⟩⟩
      · have hne : (1 : Int) + (pile.length : Int) ≠ 0 := by omega
        have hsz : min q pile.length + 1 ≤ 16777216 := by omega
        rcases f4 with rfl | ⟨z, rfl⟩ <;> simp [L0_law_thing, e3, hne, hm, c1, c2, hsz]
      · intro x mm; simp at mm; rcases mm with mm | rfl
        · exact P.th x (List.mem_of_mem_take mm)
        · rw [thg_tup]; exact thgL_of fun y my => P.th y (List.mem_of_mem_drop my)
      · have := wtL_take pile q; simp; omega
      · intro x mm; simp at mm; rcases mm with mm | rfl
        · have := P.dp x (List.mem_of_mem_take mm); omega
        · have : D.dpL (pile.drop q) ≤ n + 1 := dpL_mem.mpr fun y my => P.dp y (List.mem_of_mem_drop my)
          simp [D.dp] at this ⊢; omega
    · have a1 : 0 ≤ (c.fdiv 35).fmod 5 := Int.fmod_nonneg_of_pos _ (by omega)
      have a2 : (c.fdiv 35).fmod 5 < 5 := Int.fmod_lt_of_pos _ (by omega)
      generalize hm : (c.fdiv 35).fmod 5 = m at a1 a2
      refine ⟨pile ++ [.tup (List.replicate m.toNat [D.int ((c.fdiv 5).fmod 7)]).flatten], s4, ?_, f4, ⟨?_, ?_, ?_⟩⟩
      · have : pile.length < 16777216 := by omega
        have hb : m ≤ 1000 := by omega
        simp [L0_law_thing, h3, e3, this, hm, a1, hb]
      · intro x mm; simp only [List.mem_append, List.mem_singleton] at mm; rcases mm with mm | rfl
        · exact P.th x mm
        · rw [thg_tup]; exact thgL_of fun y my => by rw [mem_ints my]; rfl
      · simp only [D.wtL_append, D.wtL_cons, D.wtL_nil, D.wt_tup, wtL_ints]; omega
      · intro x mm; simp only [List.mem_append, List.mem_singleton] at mm; rcases mm with mm | rfl
        · have := P.dp x mm; omega
        · have : D.dpL (List.replicate m.toNat [D.int ((c.fdiv 5).fmod 7)]).flatten ≤ 1 := dpL_mem.mpr fun y my => by rw [mem_ints my]; simp [D.dp, PyData.depth]
          simp only [D.dp, D.py_tup, depth_tup]
          unfold D.dpL at this
          omega
/-- what law_thing makes -/
structure Thing (d : D) : Prop where
  th : thg d = true
  wt : d.wt ≤ 400
  dp : d.dp ≤ 63
theorem run_thing {fc fl : List Ar → FR} (ns : List Int) (hc : ∀ k, 0 ≤ k → fc [.val (.scr ns), .val (.int k)] = .im (.int (cell ns k)) [.val (.scr ns), .val (.int k)]) (hl : ∀ c, ∃ d, fl [.val (.int c)] = .im d [.val (.int c)] ∧ leafy d = true) :
    ∃ d, runF 5 (b_law_thing fc fl) [.val (.scr ns)] = .im d [.val (.scr ns)] ∧ Thing d := by
  have h0 := hc 0 (by omega)
  generalize hx : cell ns 0 = x at h0
  have a1 : 0 ≤ x.fmod 61 := Int.fmod_nonneg_of_pos _ (by omega)
  have a2 : x.fmod 61 < 61 := Int.fmod_lt_of_pos _ (by omega)
  have hlen := cutL_len (ns.map D.int) 1 (x.fmod 61) (by omega) a1
  generalize hal : cutL (ns.map D.int) (some 1) (some (1 + x.fmod 61)) = al at hlen
  have hsub : ∀ d ∈ al, ∃ c, d = D.int c := by
    intro d m
    rw [← hal] at m
    have := cutL_sub _ _ _ d m
    simp at this
    obtain ⟨c, _, rfl⟩ := this
    exact ⟨c, rfl⟩
  obtain ⟨e', h1, ⟨pile, s2, s4, rfl, f2, f4, P⟩⟩ := forL_nx (TF := Tg.F (.nm 2)) (S := L0_law_thing fc fl) (fun dn e => ∃ pile s2 s4, e = [.val (.scr ns), .own (.lst pile), s2, .non, s4] ∧ frees s2 ∧ frees s4 ∧ Pile pile dn.length) al (by
    rintro dn d rest e ha ⟨pile, s2, s4, rfl, f2, f4, P⟩
    obtain ⟨c, rfl⟩ := hsub d (by rw [ha]; simp)
    have hn : dn.length ≤ 100 := by rw [ha] at hlen; simp at hlen; omega
    obtain ⟨pile', s4', t1, t2, t3⟩ := thing_turn (fc := fc) hl ns pile s2 s4 f2 f4 _ hn P c
    refine ⟨[.val (.scr ns), .own (.lst pile), .val (.int c), .non, s4], _, ?_, t1, pile', .val (.int c), s4', rfl, .inr ⟨_, rfl⟩, t2, by simpa using t3⟩
    rcases f2 with rfl | ⟨z, rfl⟩ <;> simp) [.val (.scr ns), .own (.lst []), .non, .non, .non] ⟨[], .non, .non, rfl, .inl rfl, .inl rfl, ⟨by simp, by simp, by simp⟩⟩
  simp only [Tg.F] at h1
  have hpl : D.plL pile := thgL_pl _ (thgL_of P.th)
  have hw := P.wt
  have hd := P.dp
  have hll : al.length ≤ 60 := by omega
  -- what is told of a pile at the end
  have fin : ∀ (p : List D) (s3 : Sl), (∀ d ∈ p, thg d = true) → D.wtL p ≤ 300 → (∀ d ∈ p, d.dp ≤ 61) → ∀ S : Sx, S = seqS (ifS (orF (op2F eqD (blF lenG (consF (vF 1) nilF)) (cF (.int 1))) (andF (op2F eqD (op2F modD (op2F divD (callF [false, false] fc (consF (vF 0) (consF (cF (.int 0)) nilF))) (cF (.int 2))) (cF (.int 5))) (cF (.int 0))) (op2F neD (vF 1) (lstF nilF)))) (retS (op2F ixD (vF 1) (cF (.int 0)))) passS) (retS (blF tupG (consF (vF 1) nilF))) →
      ∃ d, outF [.val (.scr ns)] (S [.val (.scr ns), .own (.lst p), s2, s3, s4]) = .im d [.val (.scr ns)] ∧ Thing d := by
    intro p s3 pt pw pd S hS
    subst hS
    have ppl : D.plL p := thgL_pl _ (thgL_of pt)
    have dd : D.dpL p ≤ 61 := dpL_mem.mpr pd
    have tupT : Thing (.tup p) := ⟨by rw [thg_tup]; exact thgL_of pt, by simp; omega, by unfold D.dpL at dd; simp [D.dp]; omega⟩
    cases p with
    | nil =>
      by_cases q : (x.fdiv 2).fmod 5 = 0
      · exact ⟨_, by simp [h0, q, -D.eqB, eqB_nn, D.eqB.eq_1], tupT⟩
      · exact ⟨_, by simp [h0, q, -D.eqB, D.eqB.eq_1], tupT⟩
    | cons y ys =>
      have yT : Thing y := ⟨pt y (by simp), by simp at pw; omega, by have := pd y (by simp); omega⟩
      have hat : atI (y :: ys) 0 = some y := by simp [atI, ixN]
      have hnn := D.eqB_nil ppl
      by_cases q1 : ys = []
      · subst q1; exact ⟨y, by simp [h0, -D.eqB, D.eqB.eq_1, hat], yT⟩
      · have q5 : ¬ ((ys.length : Int) + 1 = 1) := by
          intro z; exact q1 (List.eq_nil_of_length_eq_zero (by omega))
        by_cases q : (x.fdiv 2).fmod 5 = 0
        · exact ⟨y, by simp [h0, -D.eqB, D.eqB.eq_1, hat, q1, q5, q, hnn], yT⟩
        · exact ⟨_, by simp [h0, -D.eqB, D.eqB.eq_1, hat, q1, q5, q, hnn], tupT⟩
  have hnn := D.eqB_nil hpl
  by_cases q1 : (x.fdiv 61).fmod 2 = 1 ∧ pile ≠ []
  · obtain ⟨q1, q2⟩ := q1
    have hpos : 0 < pile.length := by cases pile with | nil => exact absurd rfl q2 | cons _ _ => simp
    have b1 : 0 ≤ (x.fdiv 122).fmod (pile.length : Int) := Int.fmod_nonneg_of_pos _ (by omega)
    have b2 : (x.fdiv 122).fmod (pile.length : Int) < (pile.length : Int) := Int.fmod_lt_of_pos _ (by omega)
    generalize hm : (x.fdiv 122).fmod (pile.length : Int) = m at b1 b2
    obtain ⟨y, hy, yl⟩ := hl (((x.fdiv 122).fdiv 61) * 4)
    have ⟨y1, y2, y3⟩ := leafy_facts yl
    have hix : ixN pile.length m = some m.toNat := by unfold ixN; rw [if_pos b1, if_pos b2]
    have hwt : D.wtL (pile.set m.toNat y) ≤ D.wtL pile := by
      have : ∀ (p : List D) (n : Nat), D.wtL (p.set n y) ≤ D.wtL p := by
        intro p
        induction p with
        | nil => intro n; simp
        | cons z p ih =>
          intro n
          have := z.wt_pos
          cases n with
          | zero => simp; omega
          | succ n => have := ih n; simp; omega
      exact this _ _
    obtain ⟨d, e, T⟩ := fin (pile.set m.toNat y) (.val (.int m)) (fun d hd => (List.mem_or_eq_of_mem_set hd).elim (P.th d) (fun e => e ▸ y1)) (by omega) (fun d hd' => (List.mem_or_eq_of_mem_set hd').elim (fun h => by have := P.dp d h; omega) (fun e => by rw [e]; omega)) _ rfl
    refine ⟨d, ?_, T⟩
    rw [← e]
    simp [b_law_thing, h0, hal, h1, -D.eqB, D.eqB.eq_1, q1, q2, hnn, hm, hy, hix, Int.ne_of_gt (show (0:Int) < (pile.length : Int) by omega)]
  · obtain ⟨d, e, T⟩ := fin pile .non P.th (by omega) (fun d m => by have := P.dp d m; omega) _ rfl
    refine ⟨d, ?_, T⟩
    rw [← e]
    by_cases q2 : (x.fdiv 61).fmod 2 = 1
    · have q3 : pile = [] := Classical.byContradiction fun z => q1 ⟨q2, z⟩
      simp [b_law_thing, h0, hal, h1, -D.eqB, D.eqB.eq_1, q2, hnn, q3, eqB_nn]
    · simp [b_law_thing, h0, hal, h1, -D.eqB, D.eqB.eq_1, q2]
end HFL

set_option Elab.async false
set_option linter.all false
set_option maxRecDepth 100000
set_option maxHeartbeats 4000000
set_option autoImplicit false
namespace HFL
open PySem PySem.Spec PyProof.Rows L2 HF
mutual
theorem dp_ge : ∀ d : D, thg d = true → (isT d = true → 1 ≤ d.dp)
  | .tup xs, _, _ => by simp [D.dp]
  | .non, _, h => by simp [isT] at h
  | .bl _, _, h => by simp [isT] at h
  | .int _, _, h => by simp [isT] at h
  | .str _, _, h => by simp [isT] at h
  | .lst _, _, h => by simp [isT] at h
  | .dct _ _, _, h => by simp [isT] at h
  | .scr _, _, h => by simp [isT] at h
  | .ty _, _, h => by simp [isT] at h
end
theorem thing_tup {xs : List D} {n : Nat} (h : thg (.tup xs) = true) (hd : (D.tup xs).dp ≤ n + 1) : ∀ d ∈ xs, thg d = true ∧ d.dp ≤ n := fun d m => by
  rw [thg_tup] at h
  simp only [D.dp, D.py_tup, depth_tup, Nat.add_le_add_iff_right] at hd
  exact ⟨thgL_mem h m, dpL_mem.mp hd d m⟩
theorem wtL_sum (ds : List D) : (ds.map fun d => (d.wt : Int)).sum = (D.wtL ds : Int) := by
  induction ds with
  | nil => simp
  | cons d ds ih => simp [ih]
theorem run_law_weight : ∀ (n : Nat) (d : D), thg d = true → d.dp ≤ n → d.wt ≤ 1000 → iterF (fun Φ => runF 2 (b_law_weight Φ)) (n + 1) [.val d] = .im (.int d.wt) [.val d] := by
  intro n
  induction n with
  | zero =>
    intro d h hd hw
    unfold iterF
    cases d with
    | tup xs => simp [D.dp] at hd
    | _ => first | (simp [thg, leafy] at h; done) | simp [b_law_weight, D.wt]
  | succ n ih =>
    intro d h hd hw
    unfold iterF
    cases d with
    | tup xs =>
      have hk := thing_tup h hd
      have hl := D.length_le_wtL xs
      simp only [D.wt_tup] at hw
      have hlc := lcL_map (i := 1) (E := E0_law_weight (iterF (fun Φ => runF 2 (b_law_weight Φ)) (n + 1))) (fun d => .int d.wt) (e := [.val (.tup xs), .non]) rfl xs [] (by simp; omega) (fun d m => by
        have : d.wt ≤ D.wtL xs := by
          obtain ⟨a, b, rfl⟩ := List.append_of_mem m
          simp; omega
        simp [E0_law_weight, ih d (hk d m).1 (hk d m).2 (by omega)])
      simp only [Tg.F, List.nil_append] at hlc
      generalize iterF (fun Φ => runF 2 (b_law_weight Φ)) (n + 1) = Φ at hlc
      simp [b_law_weight, hlc, intsD_map, wtL_sum]
    | _ => first | (simp [thg, leafy] at h; done) | simp [b_law_weight, D.wt]
theorem good_int (i : Int) : good (.int i) = (decide (-1000000000000000000 < i) && decide (i < 1000000000000000000)) := by
  simp only [good, whole, big]
  rw [← Bool.decide_and]
  apply decide_eq_decide.mpr
  split <;> omega
theorem run_law_good : ∀ (n : Nat) (d : D), thg d = true → d.dp ≤ n → d.wt ≤ 1000 → iterF (fun Φ => runF 2 (b_law_good Φ)) (n + 1) [.val d] = .im (.bl (good d)) [.val d] := by
  intro n
  have leaf : ∀ Φ d, thg d = true → isT d = false → runF 2 (b_law_good Φ) [.val d] = .im (.bl (good d)) [.val d] := by
    intro Φ d h ht
    cases d with
    | tup xs => simp [isT] at ht
    | int i =>
      by_cases h1 : -1000000000000000000 < i
      · simp [b_law_good, good_int, h1]
      · simp [b_law_good, good_int, h1]
    | _ => first | (simp [thg, leafy] at h; done) | simp [b_law_good, good, whole]
  induction n with
  | zero =>
    intro d h hd hw
    unfold iterF
    cases d with
    | tup xs => simp [D.dp] at hd
    | _ => exact leaf _ _ h rfl
  | succ n ih =>
    intro d h hd hw
    unfold iterF
    cases d with
    | tup xs =>
      have hk := thing_tup h hd
      have hl := D.length_le_wtL xs
      simp only [D.wt_tup] at hw
      have hlc := lcL_filter (i := 1) (T := T0_law_good (iterF (fun Φ => runF 2 (b_law_good Φ)) (n + 1))) (E := E0_law_good (iterF (fun Φ => runF 2 (b_law_good Φ)) (n + 1))) (fun d => !good d) id (e := [.val (.tup xs), .non]) rfl xs [] (by simp; omega) (fun d m => by
        have : d.wt ≤ D.wtL xs := by
          obtain ⟨a, b, rfl⟩ := List.append_of_mem m
          simp; omega
        simp [T0_law_good, ih d (hk d m).1 (hk d m).2 (by omega)]) (fun d m _ => by simp [E0_law_good])
      simp only [Tg.F, List.nil_append, List.map_id] at hlc
      generalize iterF (fun Φ => runF 2 (b_law_good Φ)) (n + 1) = Φ at hlc
      have e : ((xs.filter fun d => !good d).length = 0) ↔ goodL xs = true := by
        rw [goodL_all, List.length_eq_zero_iff, List.filter_eq_nil_iff]; simp
      simp [b_law_good, hlc]
      by_cases z : goodL xs = true
      · rw [z]; simpa using e.mpr z
      · simp only [z]; have := fun q => z (e.mp q); simpa using this
    | _ => exact leaf _ _ h rfl
theorem rgD2 : rgD 0 2 = [.int 0, .int 1] := rfl
theorem run_law {ft fg fw fv fn : List Ar → FR} (ns : List Int) {t : D} (ht : ft [.val (.scr ns)] = .im t [.val (.scr ns)]) (T : Thing t) (hg : ∀ d, Thing d → fg [.val d] = .im (.bl (good d)) [.val d]) (hw : ∀ d, Thing d → fw [.val d] = .im (.int d.wt) [.val d])
    (hv : ∀ d, thg d = true → d.wt ≤ 1000 → fv [.val d] = .im (.bl (good d && decide (d.wt ≤ 50))) [.val d]) (hn : ∀ d, thg d = true → d.wt ≤ 1000 → fn [.val d] = .im (.int d.wt) [.val d]) :
    runF 6 (b_law ft fg fw fv fn) [.val (.scr ns)] = .im (.bl true) [.val (.scr ns)] := by
  have g1 := hg t T
  have w1 := hw t T
  have v1 := hv t T.th (by have := T.wt; omega)
  have n1 := hn t T.th (by have := T.wt; omega)
  have c1 : fv [.val (.tup [.int 1, .tup [.int 2]])] = .im (.bl true) [.val (.tup [.int 1, .tup [.int 2]])] := by rw [hv _ (by decide) (by decide)]; rfl
  have c2 : fv [.val (.tup [.bl true])] = .im (.bl false) [.val (.tup [.bl true])] := by rw [hv _ (by decide) (by decide)]; rfl
  have c3 : fv [.val (.tup (List.replicate 49 (.int 0)))] = .im (.bl true) [.val (.tup (List.replicate 49 (.int 0)))] := by rw [hv _ (by decide) (by decide)]; rfl
  have c4 : fv [.val (.tup (List.replicate 48 (.int 0) ++ List.replicate 2 (.tup [])))] = .im (.bl false) [.val (.tup (List.replicate 48 (.int 0) ++ List.replicate 2 (.tup [])))] := by rw [hv _ (by decide) (by decide)]; rfl
  have c5 : fv [.val (.int 999999999999999999)] = .im (.bl true) [.val (.int 999999999999999999)] := by rw [hv _ (by decide) (by decide)]; rfl
  have c6 : fv [.val (.tup [.int 1, .tup [.int 1000000000000000000]])] = .im (.bl false) [.val (.tup [.int 1, .tup [.int 1000000000000000000]])] := by rw [hv _ (by decide) (by decide)]; rfl
  have hL : ∀ (k : D) (s4 s5 : Sl), frees s5 → L0_law ft fg fw fv fn [.val (.scr ns), .val t, .val (.bl (good t && decide (t.wt ≤ 50))), .val k, s4, s5] = .nx [.val (.scr ns), .val t, .val (.bl (good t && decide (t.wt ≤ 50))), .val k, s4, .val (.bl (good t && decide (t.wt ≤ 50)))] := by
    intro k s4 s5 f5
    generalize hb : (good t && decide (t.wt ≤ 50)) = b at v1
    rcases f5 with rfl | ⟨z, rfl⟩ <;> simp [-List.reduceReplicate, L0_law, v1, c1, c2, c3, c4, c5, c6]
  have h50 : ((t.wt : Int) ≤ 50) ↔ t.wt ≤ 50 := by omega
  have a1 := hL (.int 0) .non .non (.inl rfl)
  have a2 := hL (.int 1) .non (.val (.bl (good t && decide (t.wt ≤ 50)))) (.inr ⟨_, rfl⟩)
  clear hL
  cases hgt : good t with
  | false =>
    simp [hgt] at a1 a2
    simp [b_law, ht, g1, hgt, rgD2, a1, a2]
  | true =>
    by_cases hle : t.wt ≤ 50
    · simp [hgt, hle] at a1 a2
      simp [b_law, ht, g1, hgt, rgD2, a1, a2, w1, hle, h50, n1]
    · simp [hgt, hle] at a1 a2
      simp [b_law, ht, g1, hgt, rgD2, a1, a2, w1, hle, h50, n1]
end HFL

set_option Elab.async false
set_option linter.all false
set_option maxRecDepth 100000
set_option maxHeartbeats 4000000
set_option autoImplicit false
namespace HFL
open PySem PySem.Spec PyProof.Rows L2 HF
theorem main {P : Program} {w : World} {K : PySem.W.Frag} {mg : Str → Option Value} {base : Heap} {f : Addr} {fd : FuncData} (B : Blt mg) (H0 : Has K mg "is_whole" s_is_whole ["thing"]) (H1 : Has K mg "weight" s_weight ["value"]) (H2 : Has K mg "is_value" s_is_value ["thing"])
    (H3 : Has K mg "_law_cell_at" s_law_cell_at ["_law_script", "_law_k"]) (H4 : Has K mg "_law_leaf" s_law_leaf ["_law_cell"]) (H5 : Has K mg "_law_thing" s_law_thing ["_law_script"]) (H6 : Has K mg "_law_weight" s_law_weight ["_law_thing_here"]) (H7 : Has K mg "_law_good" s_law_good ["_law_thing_here"])
    (g1 : GConst K mg "MOST_NUMBER" (.int 1000000000000000000)) (g2 : GConst K mg "MOST_WEIGHT" (.int 50)) (F : Fun K "law" "law" s_law f fd) (hm : mg "law" = some (.ref f)) (hb : Binds K fd ["_law_script"] []) :
    FnOk P w K mg base (L2.CX P w) 80 f fd ["_law_script"] (HF.spLaw K) := by
  have n6 := H6.never (P := P) (w := w) (base := base) (k := 0) (n := 1)
  have n7 := H7.never (P := P) (w := w) (base := base) (k := 0) (n := 1)
  obtain ⟨f0, d0, F0, m0, b0⟩ := H0
  obtain ⟨f1, d1, F1, m1, b1⟩ := H1
  obtain ⟨f2, d2, F2, m2, b2⟩ := H2
  obtain ⟨f3, d3, F3, m3, b3⟩ := H3
  obtain ⟨f4, d4, F4, m4, b4⟩ := H4
  obtain ⟨f5, d5, F5, m5, b5⟩ := H5
  obtain ⟨f6, d6, F6, m6, b6⟩ := H6
  obtain ⟨f7, d7, F7, m7, b7⟩ := H7
  have k0 := ok_is_whole (P := P) (w := w) (base := base) (k := 0) B F0 m0 b0 g1
  have k1 := ok_weight (P := P) (w := w) (base := base) (k := 0) B F1 m1 b1 (fun _ => 1001)
  have k2 := ok_is_value (P := P) (w := w) (base := base) (k := 1) B F2 m2 b2 k0 (Nat.le_refl _) (fun _ => 1001) g2
  have k3 := ok_law_cell_at (P := P) (w := w) (base := base) (k := 0) B F3 m3 b3
  have k4 := ok_law_leaf (P := P) (w := w) (base := base) (k := 0) B F4 m4 b4
  have k5 := ok_law_thing (P := P) (w := w) (base := base) (k := 1) B F5 m5 b5 k3 (Nat.le_refl _) k4 (Nat.le_refl _)
  have k6 := Cal.iter n6 (fun k Φ _ h => ok_law_weight (P := P) (w := w) (base := base) (k := k) B F6 m6 b6 h (Nat.le_refl _)) 64
  have k7 := Cal.iter n7 (fun k Φ _ h => ok_law_good (P := P) (w := w) (base := base) (k := k) B F7 m7 b7 h (Nat.le_refl _)) 64
  refine law_fn (ok_law (P := P) (w := w) (base := base) (k := 79) B F hm hb k5 (by decide) k7 (by decide) k6 (by decide) k2 (by decide) k1 (by decide)) fun ns h63 => ?_
  obtain ⟨t, ht, T⟩ := run_thing (fc := runF 2 b_law_cell_at) (fl := runF 2 b_law_leaf) ns (fun k h => run_cell_at ns k h) run_leaf
  exact run_law ns ht T (fun d D => run_law_good 63 d D.th D.dp (by have := D.wt; omega)) (fun d D => run_law_weight 63 d D.th D.dp (by have := D.wt; omega)) (fun d h hw => run_is_value _ run_is_whole d _ h (fun _ => rfl) hw) (fun d h hw => run_weight d _ h (fun _ => rfl) hw)
end HFL

set_option Elab.async false
set_option linter.all false
set_option maxRecDepth 100000
set_option maxHeartbeats 4000000
set_option autoImplicit false
namespace HFL
open PySem PySem.Spec PyProof.Rows L2 HF
theorem all_mk {P : Program} {w : World} {K : PySem.W.Frag} {h : Heap} {mg : Str → Option Value} {fa f0 f1 f2 f3 f4 f5 f6 f7 f8 : Addr} (X : K.In h) (G : h.Ns mainGlobals mg) (hfa : mg "law" = some (.ref fa))
    {od0 an0 od1 an1 od2 an2 od3 an3 od4 an4 od5 an5 od6 an6 od7 an7 od8 an8 : Option Addr} {sl0 sl1 sl2 sl3 sl4 sl5 sl6 sl7 sl8 : Array (Option Value)} {oc0 kV0 dc0 pm0 cd0 ct0 oc1 kV1 dc1 pm1 cd1 ct1 oc2 kV2 dc2 pm2 cd2 ct2 oc3 kV3 dc3 pm3 cd3 ct3 oc4 kV4 dc4 pm4 cd4 ct4 oc5 kV5 dc5 pm5 cd5 ct5 oc6 kV6 dc6 pm6 cd6 ct6 oc7 kV7 dc7 pm7 cd7 ct7 oc8 kV8 dc8 pm8 cd8 ct8 : Value} {t_MOST_NUMBER t_MOST_WEIGHT : Tok}
    (a0 : PySem.W.nsIn K mainGlobals "is_whole" = some (some (.ref f0))) (l0 : K.lookup f0 = some ⟨oc0, od0, .func (PySem.W.fnOf "is_whole" "is_whole" (defArgs s_is_whole) (defBody s_is_whole) (defScope s_is_whole) .none kV0 dc0 pm0 an0 cd0 ct0), sl0⟩) (c0 : PySem.W.codeIn K cd0 "is_whole" = true) (k0 : PySem.W.keepIn K (.ref f0) = true)
    (a1 : PySem.W.nsIn K mainGlobals "weight" = some (some (.ref f1))) (l1 : K.lookup f1 = some ⟨oc1, od1, .func (PySem.W.fnOf "weight" "weight" (defArgs s_weight) (defBody s_weight) (defScope s_weight) .none kV1 dc1 pm1 an1 cd1 ct1), sl1⟩) (c1 : PySem.W.codeIn K cd1 "weight" = true) (k1 : PySem.W.keepIn K (.ref f1) = true)
    (a2 : PySem.W.nsIn K mainGlobals "is_value" = some (some (.ref f2))) (l2 : K.lookup f2 = some ⟨oc2, od2, .func (PySem.W.fnOf "is_value" "is_value" (defArgs s_is_value) (defBody s_is_value) (defScope s_is_value) .none kV2 dc2 pm2 an2 cd2 ct2), sl2⟩) (c2 : PySem.W.codeIn K cd2 "is_value" = true) (k2 : PySem.W.keepIn K (.ref f2) = true)
    (a3 : PySem.W.nsIn K mainGlobals "_law_cell_at" = some (some (.ref f3))) (l3 : K.lookup f3 = some ⟨oc3, od3, .func (PySem.W.fnOf "_law_cell_at" "_law_cell_at" (defArgs s_law_cell_at) (defBody s_law_cell_at) (defScope s_law_cell_at) .none kV3 dc3 pm3 an3 cd3 ct3), sl3⟩) (c3 : PySem.W.codeIn K cd3 "_law_cell_at" = true) (k3 : PySem.W.keepIn K (.ref f3) = true)
    (a4 : PySem.W.nsIn K mainGlobals "_law_leaf" = some (some (.ref f4))) (l4 : K.lookup f4 = some ⟨oc4, od4, .func (PySem.W.fnOf "_law_leaf" "_law_leaf" (defArgs s_law_leaf) (defBody s_law_leaf) (defScope s_law_leaf) .none kV4 dc4 pm4 an4 cd4 ct4), sl4⟩) (c4 : PySem.W.codeIn K cd4 "_law_leaf" = true) (k4 : PySem.W.keepIn K (.ref f4) = true)
    (a5 : PySem.W.nsIn K mainGlobals "_law_thing" = some (some (.ref f5))) (l5 : K.lookup f5 = some ⟨oc5, od5, .func (PySem.W.fnOf "_law_thing" "_law_thing" (defArgs s_law_thing) (defBody s_law_thing) (defScope s_law_thing) .none kV5 dc5 pm5 an5 cd5 ct5), sl5⟩) (c5 : PySem.W.codeIn K cd5 "_law_thing" = true) (k5 : PySem.W.keepIn K (.ref f5) = true)
    (a6 : PySem.W.nsIn K mainGlobals "_law_weight" = some (some (.ref f6))) (l6 : K.lookup f6 = some ⟨oc6, od6, .func (PySem.W.fnOf "_law_weight" "_law_weight" (defArgs s_law_weight) (defBody s_law_weight) (defScope s_law_weight) .none kV6 dc6 pm6 an6 cd6 ct6), sl6⟩) (c6 : PySem.W.codeIn K cd6 "_law_weight" = true) (k6 : PySem.W.keepIn K (.ref f6) = true)
    (a7 : PySem.W.nsIn K mainGlobals "_law_good" = some (some (.ref f7))) (l7 : K.lookup f7 = some ⟨oc7, od7, .func (PySem.W.fnOf "_law_good" "_law_good" (defArgs s_law_good) (defBody s_law_good) (defScope s_law_good) .none kV7 dc7 pm7 an7 cd7 ct7), sl7⟩) (c7 : PySem.W.codeIn K cd7 "_law_good" = true) (k7 : PySem.W.keepIn K (.ref f7) = true)
    (a8 : PySem.W.nsIn K mainGlobals "law" = some (some (.ref f8))) (l8 : K.lookup f8 = some ⟨oc8, od8, .func (PySem.W.fnOf "law" "law" (defArgs s_law) (defBody s_law) (defScope s_law) .none kV8 dc8 pm8 an8 cd8 ct8), sl8⟩) (c8 : PySem.W.codeIn K cd8 "law" = true) (k8 : PySem.W.keepIn K (.ref f8) = true)
    (z_len : PySem.W.nsIn K mainGlobals "len" = some none)
    (z_isinstance : PySem.W.nsIn K mainGlobals "isinstance" = some none)
    (z_abs : PySem.W.nsIn K mainGlobals "abs" = some none)
    (z_int : PySem.W.nsIn K mainGlobals "int" = some none)
    (z_str : PySem.W.nsIn K mainGlobals "str" = some none)
    (z_tuple : PySem.W.nsIn K mainGlobals "tuple" = some none)
    (z_list : PySem.W.nsIn K mainGlobals "list" = some none)
    (z_all : PySem.W.nsIn K mainGlobals "all" = some none)
    (z_any : PySem.W.nsIn K mainGlobals "any" = some none)
    (z_sum : PySem.W.nsIn K mainGlobals "sum" = some none)
    (z_range : PySem.W.nsIn K mainGlobals "range" = some none)
    (z_zip : PySem.W.nsIn K mainGlobals "zip" = some none)
    (z_reversed : PySem.W.nsIn K mainGlobals "reversed" = some none)
    (z_bool : PySem.W.nsIn K mainGlobals "bool" = some none)
    (z_set : PySem.W.nsIn K mainGlobals "set" = some none)
    (z_dict : PySem.W.nsIn K mainGlobals "dict" = some none)
    (g_MOST_NUMBER : PySem.W.nsIn K mainGlobals "MOST_NUMBER" = some (some (.int (1000000000000000000) t_MOST_NUMBER)))
    (g_MOST_WEIGHT : PySem.W.nsIn K mainGlobals "MOST_WEIGHT" = some (some (.int (50) t_MOST_WEIGHT))) :
    ∃ fd : FuncData, (∀ (s : Shared) (v : Value), BindsTo s fd ⟨[v], []⟩ [("_law_script", v)]) ∧ ∀ base : Heap, K.In base → base.Ns mainGlobals mg → FnOk P w K mg base (L2.CX P w) 80 fa fd ["_law_script"] (HF.spLaw K) := by
  have e := hfa.symm.trans (PySem.W.mg_of X G a8)
  cases e
  have F0 := fun_mk (st := s_is_whole) l0 c0 k0
  have b0 := F0.binds (ps := ["thing"]) fun _ _ _ _ _ _ us hl => match us, hl with | [_], _ => rfl
  have F1 := fun_mk (st := s_weight) l1 c1 k1
  have b1 := F1.binds (ps := ["value"]) fun _ _ _ _ _ _ us hl => match us, hl with | [_], _ => rfl
  have F2 := fun_mk (st := s_is_value) l2 c2 k2
  have b2 := F2.binds (ps := ["thing"]) fun _ _ _ _ _ _ us hl => match us, hl with | [_], _ => rfl
  have F3 := fun_mk (st := s_law_cell_at) l3 c3 k3
  have b3 := F3.binds (ps := ["_law_script", "_law_k"]) fun _ _ _ _ _ _ us hl => match us, hl with | [_, _], _ => rfl
  have F4 := fun_mk (st := s_law_leaf) l4 c4 k4
  have b4 := F4.binds (ps := ["_law_cell"]) fun _ _ _ _ _ _ us hl => match us, hl with | [_], _ => rfl
  have F5 := fun_mk (st := s_law_thing) l5 c5 k5
  have b5 := F5.binds (ps := ["_law_script"]) fun _ _ _ _ _ _ us hl => match us, hl with | [_], _ => rfl
  have F6 := fun_mk (st := s_law_weight) l6 c6 k6
  have b6 := F6.binds (ps := ["_law_thing_here"]) fun _ _ _ _ _ _ us hl => match us, hl with | [_], _ => rfl
  have F7 := fun_mk (st := s_law_good) l7 c7 k7
  have b7 := F7.binds (ps := ["_law_thing_here"]) fun _ _ _ _ _ _ us hl => match us, hl with | [_], _ => rfl
  have F8 := fun_mk (st := s_law) l8 c8 k8
  have b8 := F8.binds (ps := ["_law_script"]) fun _ _ _ _ _ _ us hl => match us, hl with | [_], _ => rfl
  have B : Blt mg := Blt.mk (PySem.W.mg_none_of X G z_len) (PySem.W.mg_none_of X G z_isinstance) (PySem.W.mg_none_of X G z_abs) (PySem.W.mg_none_of X G z_int) (PySem.W.mg_none_of X G z_str) (PySem.W.mg_none_of X G z_tuple) (PySem.W.mg_none_of X G z_list) (PySem.W.mg_none_of X G z_all) (PySem.W.mg_none_of X G z_any) (PySem.W.mg_none_of X G z_sum) (PySem.W.mg_none_of X G z_range) (PySem.W.mg_none_of X G z_zip) (PySem.W.mg_none_of X G z_reversed) (PySem.W.mg_none_of X G z_bool) (PySem.W.mg_none_of X G z_set) (PySem.W.mg_none_of X G z_dict)
  refine ⟨PySem.W.fnOf "law" "law" (defArgs s_law) (defBody s_law) (defScope s_law) .none kV8 dc8 pm8 an8 cd8 ct8, fun s v => .of_eq rfl, fun base _ _ => ?_⟩
  exact main B (Has.mk X G a0 F0 b0) (Has.mk X G a1 F1 b1) (Has.mk X G a2 F2 b2) (Has.mk X G a3 F3 b3) (Has.mk X G a4 F4 b4) (Has.mk X G a5 F5 b5) (Has.mk X G a6 F6 b6) (Has.mk X G a7 F7 b7) (GConst.int X G g_MOST_NUMBER) (GConst.int X G g_MOST_WEIGHT) F8 hfa b8
theorem walk {l : PySem.W.OpenLaw} {q : Program} {loose : List Str} {XP : (Str → Option Value) → Heap → Prop} {YP : World → Heap → Prop} {d : DefRec} {K : Params → PySem.W.Frag} (hn : l.most = some 63) (hdf : d.params.defaults = [])
    (hY : ∀ (w : World) (h : Heap), YP w h → (K w.params).In h)
    (F : ∀ (w : World) (mg : Str → Option Value) (fa : Addr) (h : Heap), (K w.params).In h → h.Ns mainGlobals mg → mg d.name = some (.ref fa) →
      ∃ fd : FuncData, (∀ (s : Shared) (u : Value), BindsTo s fd ⟨[u], []⟩ [("_law_script", u)]) ∧ ∀ base : Heap, (K w.params).In base → base.Ns mainGlobals mg → FnOk l.prog w (K w.params) mg base (L2.CX l.prog w) 80 fa fd ["_law_script"] (HF.spLaw (K w.params))) :
    PySem.W.WalkO q loose XP YP l.row.toRowW d [] (fun f vs => PySem.call f vs) :=
  L2.walk_of (n := 63) (k := 80) (x := "_law_script") (CX := fun w => L2.CX l.prog w) (sp := fun w => HF.spLaw (K w.params)) hn (by decide) hdf ⟨rfl, by decide, by decide⟩ hY F (fun _ _ a ns hl _ hS => spLaw_go hl hS) fun _ _ _ _ _ z => no_exc z
end HFL
open PySem PySem.W PyProof.Rows
set_option maxRecDepth 100000 in
set_option maxHeartbeats 0 in
theorem PySem.Challenge.cw_halfrun_k01_values_holds : PySem.Challenge.rw_halfrun_k01_values.Holds := by
  w_on; o_law; k_head; (case hw => w_witness2)
  k_fill
  refine HFL.walk (l := PySem.Challenge.rw_halfrun_k01_values) rfl rfl (fun w h Y => PySem.W.kIn_of Y) ?F
  case F =>
    intro w mg fa h KX G hmg
    refine' HFL.all_mk KX G hmg ?a0 ?l0 ?c0 ?k0 ?a1 ?l1 ?c1 ?k1 ?a2 ?l2 ?c2 ?k2 ?a3 ?l3 ?c3 ?k3 ?a4 ?l4 ?c4 ?k4 ?a5 ?l5 ?c5 ?k5 ?a6 ?l6 ?c6 ?k6 ?a7 ?l7 ?c7 ?k7 ?a8 ?l8 ?c8 ?k8 ?z_len ?z_isinstance ?z_abs ?z_int ?z_str ?z_tuple ?z_list ?z_all ?z_any ?z_sum ?z_range ?z_zip ?z_reversed ?z_bool ?z_set ?z_dict ?g_MOST_NUMBER ?g_MOST_WEIGHT
    (case a0 => k_is)
    (case l0 => k_is)
    (case c0 => k_is)
    (case k0 => k_is)
    (case a1 => k_is)
    (case l1 => k_is)
    (case c1 => k_is)
    (case k1 => k_is)
    (case a2 => k_is)
    (case l2 => k_is)
    (case c2 => k_is)
    (case k2 => k_is)
    (case a3 => k_is)
    (case l3 => k_is)
    (case c3 => k_is)
    (case k3 => k_is)
    (case a4 => k_is)
    (case l4 => k_is)
    (case c4 => k_is)
    (case k4 => k_is)
    (case a5 => k_is)
    (case l5 => k_is)
    (case c5 => k_is)
    (case k5 => k_is)
    (case a6 => k_is)
    (case l6 => k_is)
    (case c6 => k_is)
    (case k6 => k_is)
    (case a7 => k_is)
    (case l7 => k_is)
    (case c7 => k_is)
    (case k7 => k_is)
    (case a8 => k_is)
    (case l8 => k_is)
    (case c8 => k_is)
    (case k8 => k_is)
    (case z_len => k_is)
    (case z_isinstance => k_is)
    (case z_abs => k_is)
    (case z_int => k_is)
    (case z_str => k_is)
    (case z_tuple => k_is)
    (case z_list => k_is)
    (case z_all => k_is)
    (case z_any => k_is)
    (case z_sum => k_is)
    (case z_range => k_is)
    (case z_zip => k_is)
    (case z_reversed => k_is)
    (case z_bool => k_is)
    (case z_set => k_is)
    (case z_dict => k_is)
    (case g_MOST_NUMBER => k_is)
    (case g_MOST_WEIGHT => k_is)
