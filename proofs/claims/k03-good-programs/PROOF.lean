import PyProof.Rows.All
import Wide.All
import OpenK.AllK
import Wide.FinOn
import HandS.ForExc
import HandS.ForMost
import HandS.TupAny
import HandS.TupLe
import HandS.TupMul
import HandS.IsInst
import HandS.Wide
import HandS.Deep
import HandS.Codes
import HandS.Rev
import HandS.Zip
import HandS.ExcCtx
import HandS.HotCalls
import HandS.ExcIs
import HandS.More
import PySem.Challenge.RW_halfrun_k03_good_programs
set_option Elab.async false
set_option linter.all false
set_option maxRecDepth 100000
set_option maxHeartbeats 4000000
set_option autoImplicit false
namespace HF
open PySem PySem.Spec PyProof.Rows L2
/-! ### data -/
inductive Ty where
  | int | bool | str | tuple | list
  deriving DecidableEq
def Ty.name : Ty → String
  | .int => "int"
  | .bool => "bool"
  | .str => "str"
  | .tuple => "tuple"
  | .list => "list"
inductive D where
  | non
  | bl (b : Bool)
  | int (i : Int)
  | str (s : Str)
  | tup (xs : List D)
  | lst (xs : List D)
  | dct (ks : List Key) (xs : List D)
  | scr (ns : List Int)
  | ty (n : Ty)
  | ob (a : Addr)
instance : Inhabited D := ⟨.non⟩
mutual
def Rp (K : PySem.W.Frag) (G : Hp) : D → V → Prop
  | .non, v => v = .non
  | .bl b, v => v = .bl b
  | .int i, v => v = .int i
  | .str s, v => v = .str s
  | .tup ds, v => ∃ a xs, v = .ref a ∧ SqT K G a xs ∧ RpL K G ds xs
  | .lst ds, v => ∃ a xs, v = .ref a ∧ G a = some (.lst xs) ∧ RpL K G ds xs
  | .dct ks ds, v => ∃ a kvs, v = .ref a ∧ G a = some (.dK kvs) ∧ kvs.map (·.1) = ks ∧ RpL K G ds (kvs.map (·.2))
  | .scr ns, v => ∃ a, v = .ref a ∧ SqL K G a (ns.map V.int)
  | .ty n, v => v = .ty n.name
  | .ob a, v => v = .ref a
def RpL (K : PySem.W.Frag) (G : Hp) : List D → List V → Prop
  | [], xs => xs = []
  | d :: ds, xs => ∃ x r, xs = x :: r ∧ Rp K G d x ∧ RpL K G ds r
end
theorem Same.sqT {K : PySem.W.Frag} {H H' : Hp} {a : Addr} {xs : List V} (e : Same H H') (h : SqT K H a xs) : SqT K H' a xs := by
  rcases h with (h | ⟨o, h⟩) | h
  · exact .inl (.inl (e _ _ h))
  · exact .inl (.inr ⟨o, e _ _ h⟩)
  · exact .inr h
mutual
theorem Rp.mono {K : PySem.W.Frag} {G G' : Hp} (e : Same G G') : ∀ (d : D) (v : V), Rp K G d v → Rp K G' d v
  | .non, v, h => h
  | .bl b, v, h => h
  | .int i, v, h => h
  | .str s, v, h => h
  | .tup ds, v, h => by
    obtain ⟨a, xs, e1, h1, h2⟩ := h
    exact ⟨a, xs, e1, Same.sqT e h1, RpL.mono e ds xs h2⟩
  | .lst ds, v, h => by
    obtain ⟨a, xs, e1, h1, h2⟩ := h
    exact ⟨a, xs, e1, e _ _ h1, RpL.mono e ds xs h2⟩
  | .dct ks ds, v, h => by
    obtain ⟨a, kvs, e1, h1, h3, h2⟩ := h
    exact ⟨a, kvs, e1, e _ _ h1, h3, RpL.mono e ds _ h2⟩
  | .scr ns, v, h => by
    obtain ⟨a, e1, h1⟩ := h
    exact ⟨a, e1, e.seq h1⟩
  | .ty n, v, h => h
  | .ob a, v, h => h
theorem RpL.mono {K : PySem.W.Frag} {G G' : Hp} (e : Same G G') : ∀ (ds : List D) (xs : List V), RpL K G ds xs → RpL K G' ds xs
  | [], xs, h => h
  | d :: ds, xs, h => by
    obtain ⟨x, r, e1, h1, h2⟩ := h
    exact ⟨x, r, e1, Rp.mono e d x h1, RpL.mono e ds r h2⟩
end
section
variable {K : PySem.W.Frag} {G : Hp}
theorem RpL.length : ∀ {ds : List D} {xs : List V}, RpL K G ds xs → xs.length = ds.length
  | [], xs, h => by rw [show xs = [] from h]; rfl
  | d :: ds, xs, h => by
    obtain ⟨x, r, rfl, _, h2⟩ := h
    rw [List.length_cons, List.length_cons, RpL.length h2]
theorem RpL.get : ∀ {ds : List D} {xs : List V} {i : Nat} {d : D}, RpL K G ds xs → ds[i]? = some d → ∃ x, xs[i]? = some x ∧ Rp K G d x
  | [], xs, i, d, h, e => by simp at e
  | d :: ds, xs, 0, d', h, e => by
    obtain ⟨x, r, rfl, h1, _⟩ := h
    have : d = d' := by simpa using e
    subst this
    exact ⟨x, rfl, h1⟩
  | d :: ds, xs, i + 1, d', h, e => by
    obtain ⟨x, r, rfl, _, h2⟩ := h
    obtain ⟨y, e1, h3⟩ := RpL.get (i := i) (d := d') h2 (by simpa using e)
    exact ⟨y, by simpa using e1, h3⟩
theorem RpL.append : ∀ {ds es : List D} {xs ys : List V}, RpL K G ds xs → RpL K G es ys → RpL K G (ds ++ es) (xs ++ ys)
  | [], es, xs, ys, h, k => by rw [show xs = [] from h]; exact k
  | d :: ds, es, xs, ys, h, k => by
    obtain ⟨x, r, rfl, h1, h2⟩ := h
    exact ⟨x, r ++ ys, rfl, h1, RpL.append h2 k⟩
theorem RpL.one {d : D} {x : V} (h : Rp K G d x) : RpL K G [d] [x] := ⟨x, [], rfl, h, rfl⟩
theorem RpL.take : ∀ {ds : List D} {xs : List V} (n : Nat), RpL K G ds xs → RpL K G (ds.take n) (xs.take n)
  | _, _, 0, _ => rfl
  | [], xs, n + 1, h => by rw [show xs = [] from h]; rfl
  | d :: ds, xs, n + 1, h => by
    obtain ⟨x, r, rfl, h1, h2⟩ := h
    exact ⟨x, r.take n, rfl, h1, RpL.take n h2⟩
theorem RpL.drop : ∀ {ds : List D} {xs : List V} (n : Nat), RpL K G ds xs → RpL K G (ds.drop n) (xs.drop n)
  | _, _, 0, h => h
  | [], xs, n + 1, h => by rw [show xs = [] from h]; rfl
  | d :: ds, xs, n + 1, h => by
    obtain ⟨x, r, rfl, h1, h2⟩ := h
    exact RpL.drop n h2
theorem RpL.set : ∀ {ds : List D} {xs : List V} (i : Nat) {d : D} {x : V}, RpL K G ds xs → Rp K G d x → RpL K G (ds.set i d) (xs.set i x)
  | [], xs, i, d, x, h, k => by rw [show xs = [] from h]; exact rfl
  | d :: ds, xs, 0, d', x', h, k => by
    obtain ⟨x, r, rfl, h1, h2⟩ := h
    exact ⟨x', r, rfl, k, h2⟩
  | d :: ds, xs, i + 1, d', x', h, k => by
    obtain ⟨x, r, rfl, h1, h2⟩ := h
    exact ⟨x, r.set i x', rfl, h1, RpL.set i h2 k⟩
theorem RpL.rep (k : Nat) {ds : List D} {xs : List V} (h : RpL K G ds xs) : RpL K G (List.replicate k ds).flatten (List.replicate k xs).flatten := by
  induction k with
  | zero => exact rfl
  | succ k ih =>
    rw [List.replicate_succ, List.replicate_succ, List.flatten_cons, List.flatten_cons]
    exact h.append ih
theorem RpL.reverse : ∀ {ds : List D} {xs : List V}, RpL K G ds xs → RpL K G ds.reverse xs.reverse
  | [], xs, h => by rw [show xs = [] from h]; exact rfl
  | d :: ds, xs, h => by
    obtain ⟨x, r, rfl, h1, h2⟩ := h
    rw [List.reverse_cons, List.reverse_cons]
    exact (RpL.reverse h2).append (RpL.one h1)
theorem RpL.ints : ∀ (ns : List Int), RpL K G (ns.map D.int) (ns.map V.int)
  | [] => rfl
  | n :: r => ⟨_, _, rfl, rfl, RpL.ints r⟩
end
/-! ### slots -/
inductive Sl where
  | non
  | val (d : D)
  | own (d : D)
  | io (d : D)
@[simp] def Sl.mu : Sl → Option D
  | .own d => some d
  | .io d => some d
  | _ => none
/-- with other contents -/
@[simp] def Sl.put (s : Sl) (d : D) : Sl := match s with
  | .own _ => .own d
  | .io _ => .io d
  | s => s
/-- what stands at p may be written: d -/
def MuAt (K : PySem.W.Frag) (H G : Hp) : D → Addr → Prop
  | .lst ds, p => ∃ xs, H p = some (.lst xs) ∧ RpL K G ds xs
  | .dct ks ds, p => ∃ kvs, H p = some (.dK kvs) ∧ kvs.map (·.1) = ks ∧ RpL K G ds (kvs.map (·.2))
  | _, _ => False
theorem MuAt.there {K : PySem.W.Frag} {H G : Hp} {d : D} {p : Addr} (h : MuAt K H G d p) : H p ≠ none := by
  cases d <;> first | exact h.elim | (obtain ⟨_, e, _⟩ := h; rw [e]; exact fun z => by cases z)
theorem MuAt.mono {K : PySem.W.Frag} {H G H' G' : Hp} {d : D} {p : Addr} (h : MuAt K H G d p) (e : H' p = H p) (g : Same G G') : MuAt K H' G' d p := by
  cases d with
  | lst ds =>
    obtain ⟨xs, e1, h1⟩ := h
    exact ⟨xs, by rw [e]; exact e1, RpL.mono g ds xs h1⟩
  | dct ks ds =>
    obtain ⟨xs, e1, h3, h1⟩ := h
    exact ⟨xs, by rw [e]; exact e1, h3, RpL.mono g ds _ h1⟩
  | _ => exact h.elim
/-- what is written is frozen -/
theorem MuAt.frz {K : PySem.W.Frag} {H G : Hp} {d : D} {p : Addr} (h : MuAt K H G d p) (hp : G p = none) (s : Same G H) : ∃ G', Same G G' ∧ Same G' H ∧ (∀ b, b ≠ p → G' b = G b) ∧ Rp K G' d (.ref p) := by
  cases d with
  | lst ds =>
    obtain ⟨xs, e1, h1⟩ := h
    refine ⟨upd G p (.lst xs), fun b o q => by rw [upd_ne (ne_of_none q hp)]; exact q, fun b o q => ?_, fun b hb => upd_ne hb, p, xs, rfl, upd_same, RpL.mono (fun b o q => by rw [upd_ne (ne_of_none q hp)]; exact q) ds xs h1⟩
    by_cases hb : b = p
    · subst hb; rw [upd_same] at q; cases q; exact e1
    · rw [upd_ne hb] at q; exact s _ _ q
  | dct ks ds =>
    obtain ⟨xs, e1, h3, h1⟩ := h
    refine ⟨upd G p (.dK xs), fun b o q => by rw [upd_ne (ne_of_none q hp)]; exact q, fun b o q => ?_, fun b hb => upd_ne hb, p, xs, rfl, upd_same, h3, RpL.mono (fun b o q => by rw [upd_ne (ne_of_none q hp)]; exact q) ds _ h1⟩
    by_cases hb : b = p
    · subst hb; rw [upd_same] at q; cases q; exact e1
    · rw [upd_ne hb] at q; exact s _ _ q
  | _ => exact h.elim
/-- the slot i can be written and stands at p -/
def MuIs (σ : L2.St) (env : List Sl) (p : Addr) : Prop := ∃ (i : Nat) (s : Sl) (d : D), env[i]? = some s ∧ s.mu = some d ∧ σ[i]? = some (some (.ref p))
/-- the environment env is what the slots σ hold in the heap H; G: what never changes -/
structure ER (K : PySem.W.Frag) (H G : Hp) (σ : L2.St) (env : List Sl) : Prop where
  len : σ.length = env.length
  sub : Same G H
  val : ∀ (i : Nat) (d : D), env[i]? = some (.val d) → ∃ v, σ[i]? = some (some v) ∧ Rp K G d v
  mu : ∀ (i : Nat) (s : Sl) (d : D), env[i]? = some s → s.mu = some d → ∃ p, σ[i]? = some (some (.ref p)) ∧ G p = none ∧ MuAt K H G d p
  sep : ∀ (i j : Nat) (s t : Sl) (d e : D) (p : Addr), env[i]? = some s → s.mu = some d → env[j]? = some t → t.mu = some e → σ[i]? = some (some (.ref p)) → σ[j]? = some (some (.ref p)) → i = j
/-- of one kind -/
def Kin : Option Sl → Option Sl → Prop
  | some (.own _), t => ∃ e, t = some (.own e)
  | some (.io _), t => ∃ e, t = some (.io e)
  | s, t => t = s
theorem Kin.refl (s : Option Sl) : Kin s s := by
  cases s with
  | none => rfl
  | some s => cases s <;> first | rfl | exact ⟨_, rfl⟩
theorem Kin.trans {a b c : Option Sl} (h : Kin a b) (k : Kin b c) : Kin a c := by
  cases a with
  | none => cases (show b = none from h); exact k
  | some s =>
    cases s with
    | non => cases (show b = some .non from h); exact k
    | val d => cases (show b = some (.val d) from h); exact k
    | own d => obtain ⟨e, rfl⟩ := (show ∃ e, b = some (.own e) from h); exact k
    | io d => obtain ⟨e, rfl⟩ := (show ∃ e, b = some (.io e) from h); exact k
theorem Kin.mu {s : Sl} {o : Option Sl} (h : Kin (some s) o) {d : D} (hd : s.mu = some d) : ∃ t e, o = some t ∧ t.mu = some e := by
  cases s with
  | non => cases hd
  | val d => cases hd
  | own d => obtain ⟨e, rfl⟩ := (show ∃ e, o = some (.own e) from h); exact ⟨_, _, rfl, rfl⟩
  | io d => obtain ⟨e, rfl⟩ := (show ∃ e, o = some (.io e) from h); exact ⟨_, _, rfl, rfl⟩
theorem Kin.back {s : Option Sl} {t : Sl} (h : Kin s (some t)) {d : D} (hd : t.mu = some d) : ∃ u e, s = some u ∧ u.mu = some e := by
  cases s with
  | none => cases (show some t = none from h)
  | some s =>
    cases s with
    | non => cases (show some t = some .non from h); cases hd
    | val d => cases (show some t = some (.val d) from h); cases hd
    | own d => exact ⟨_, _, rfl, rfl⟩
    | io d => exact ⟨_, _, rfl, rfl⟩
/-- a step of the heap: what may be written alone is changed -/
structure Stp (K : PySem.W.Frag) (σ : L2.St) (H G : Hp) (env : List Sl) (H' G' : Hp) (env' : List Sl) : Prop where
  er : ER K H' G' σ env'
  gr : Same G G'
  old : ∀ b, H b ≠ none → G b = none → G' b = none
  keep : ∀ b o, H b = some o → ¬ MuIs σ env b → H' b = some o
  kin : ∀ i : Nat, Kin (env[i]?) (env'[i]?)
theorem MuIs.to {σ : L2.St} {env env' : List Sl} {p : Addr} (kin : ∀ i : Nat, Kin (env[i]?) (env'[i]?)) (h : MuIs σ env p) : MuIs σ env' p := by
  obtain ⟨i, s, d, e1, e2, e3⟩ := h
  have k := kin i
  rw [e1] at k
  obtain ⟨t, e, q1, q2⟩ := k.mu e2
  exact ⟨i, t, e, q1, q2, e3⟩
theorem MuIs.of {σ : L2.St} {env env' : List Sl} {p : Addr} (kin : ∀ i : Nat, Kin (env[i]?) (env'[i]?)) (h : MuIs σ env' p) : MuIs σ env p := by
  obtain ⟨i, s, d, e1, e2, e3⟩ := h
  have k := kin i
  rw [e1] at k
  obtain ⟨t, e, q1, q2⟩ := k.back e2
  exact ⟨i, t, e, q1, q2, e3⟩
theorem Stp.refl {K : PySem.W.Frag} {σ : L2.St} {H G : Hp} {env : List Sl} (r : ER K H G σ env) : Stp K σ H G env H G env :=
  ⟨r, Same.refl _, fun _ _ h => h, fun _ _ h _ => h, fun _ => Kin.refl _⟩
theorem Stp.trans {K : PySem.W.Frag} {σ : L2.St} {H G H1 G1 H2 G2 : Hp} {env env1 env2 : List Sl} (a : Stp K σ H G env H1 G1 env1) (b : Stp K σ H1 G1 env1 H2 G2 env2) (r : ER K H G σ env) : Stp K σ H G env H2 G2 env2 where
  er := b.er
  gr := a.gr.trans b.gr
  old := fun c hc hg => by
    refine b.old c ?_ (a.old c hc hg)
    by_cases m : MuIs σ env c
    · obtain ⟨i, s, d, e1, e2, e3⟩ := m.to a.kin
      obtain ⟨p, q1, _, q3⟩ := a.er.mu i s d e1 e2
      rw [e3] at q1
      cases q1
      exact q3.there
    · cases e : H c with
      | none => exact absurd e hc
      | some o =>
        rw [a.keep c o e m]
        exact fun z => by cases z
  keep := fun c o e m => b.keep c o (a.keep c o e m) fun z => m (z.of a.kin)
  kin := fun i => (a.kin i).trans (b.kin i)
/-- new things alone -/
structure GS (H G H' G' : Hp) : Prop where
  hh : Same H H'
  gg : Same G G'
  gh : Same G' H'
  old : ∀ b, H b ≠ none → G b = none → G' b = none
theorem GS.refl {H G : Hp} (s : Same G H) : GS H G H G := ⟨Same.refl _, Same.refl _, s, fun _ _ h => h⟩
theorem GS.trans {H G H1 G1 H2 G2 : Hp} (a : GS H G H1 G1) (b : GS H1 G1 H2 G2) : GS H G H2 G2 :=
  ⟨a.hh.trans b.hh, a.gg.trans b.gg, b.gh, fun c hc hg => b.old c (fun z => hc (by
    cases e : H c with
    | none => rfl
    | some o => rw [a.hh c o e] at z; cases z)) (a.old c hc hg)⟩
theorem GS.new {H G : Hp} {p : Addr} {o : HO} (s : Same G H) (hp : H p = none) : GS H G (upd H p o) (upd G p o) := by
  have gp : G p = none := s.free hp
  refine ⟨fun b u q => by rw [upd_ne (ne_of_none q hp)]; exact q, fun b u q => by rw [upd_ne (ne_of_none q gp)]; exact q, fun b u q => ?_, fun b hb hg => ?_⟩
  · by_cases e : b = p
    · subst e; rw [upd_same] at q ⊢; exact q
    · rw [upd_ne e] at q ⊢; exact s _ _ q
  · have e : b ≠ p := fun e => hb (by rw [e]; exact hp)
    rw [upd_ne e]; exact hg
theorem GS.newH {H G : Hp} {p : Addr} {o : HO} (s : Same G H) (hp : H p = none) : GS H G (upd H p o) G :=
  ⟨fun b u q => by rw [upd_ne (ne_of_none q hp)]; exact q, Same.refl _, fun b u q => by rw [upd_ne (ne_of_none (s _ _ q) hp)]; exact s _ _ q, fun _ _ h => h⟩
theorem ER.gs {K : PySem.W.Frag} {σ : L2.St} {H G H' G' : Hp} {env : List Sl} (r : ER K H G σ env) (g : GS H G H' G') : ER K H' G' σ env where
  len := r.len
  sub := g.gh
  val := fun i d e => let ⟨v, q, h⟩ := r.val i d e; ⟨v, q, Rp.mono g.gg d v h⟩
  mu := fun i s d e1 e2 => by
    obtain ⟨p, q1, q2, q3⟩ := r.mu i s d e1 e2
    refine ⟨p, q1, g.old p q3.there q2, q3.mono ?_ g.gg⟩
    cases e : H p with
    | none => exact absurd e q3.there
    | some o => exact g.hh p o e
  sep := r.sep
theorem Stp.gs {K : PySem.W.Frag} {σ : L2.St} {H G H' G' : Hp} {env : List Sl} (r : ER K H G σ env) (g : GS H G H' G') : Stp K σ H G env H' G' env :=
  ⟨r.gs g, g.gg, g.old, fun b o e _ => g.hh b o e, fun _ => Kin.refl _⟩
/-! ### values -/
inductive Vl where
  | im (d : D)
  | fr (d : D)
  | bo (i : Nat)
def VlAt (K : PySem.W.Frag) (H0 H G : Hp) (σ : L2.St) (env : List Sl) : Vl → V → Prop
  | .im d, v => Rp K G d v
  | .fr d, v => ∃ p, v = .ref p ∧ H0 p = none ∧ G p = none ∧ MuAt K H G d p
  | .bo i, v => ∃ (s : Sl) (d : D) (p : Addr), env[i]? = some s ∧ s.mu = some d ∧ σ[i]? = some (some (.ref p)) ∧ v = .ref p
theorem MuIs.old {K : PySem.W.Frag} {σ : L2.St} {H G : Hp} {env : List Sl} (r : ER K H G σ env) {p : Addr} (h : MuIs σ env p) : H p ≠ none := by
  obtain ⟨i, s, d, e1, e2, e3⟩ := h
  obtain ⟨q, q1, _, q3⟩ := r.mu i s d e1 e2
  rw [e3] at q1
  cases q1
  exact q3.there
theorem VlAt.step {K : PySem.W.Frag} {σ : L2.St} {H0 H1 G1 H2 G2 : Hp} {env1 env2 : List Sl} {vl : Vl} {v : V} (h : VlAt K H0 H1 G1 σ env1 vl v) (s : Stp K σ H1 G1 env1 H2 G2 env2) (nm : ∀ p, H0 p = none → ¬ MuIs σ env1 p) : VlAt K H0 H2 G2 σ env2 vl v := by
  cases vl with
  | im d => exact Rp.mono s.gr d v h
  | fr d =>
    obtain ⟨p, e1, e2, e3, e4⟩ := h
    refine ⟨p, e1, e2, s.old p e4.there e3, e4.mono ?_ s.gr⟩
    cases e : H1 p with
    | none => exact absurd e e4.there
    | some o => exact s.keep p o e (nm p e2)
  | bo i =>
    obtain ⟨t, d, p, e1, e2, e3, e4⟩ := h
    have k := s.kin i
    rw [e1] at k
    obtain ⟨u, e, q1, q2⟩ := k.mu e2
    exact ⟨u, e, p, q1, q2, e3, e4⟩
/-- earlier start -/
theorem VlAt.from {K : PySem.W.Frag} {σ : L2.St} {H0 H1 H G : Hp} {env : List Sl} {vl : Vl} {v : V} (h : VlAt K H1 H G σ env vl v) (f : ∀ p, H1 p = none → H0 p = none) : VlAt K H0 H G σ env vl v := by
  cases vl with
  | im d => exact h
  | fr d =>
    obtain ⟨p, e1, e2, e3⟩ := h
    exact ⟨p, e1, f p e2, e3⟩
  | bo i => exact h
@[simp] def Vl.rd (env : List Sl) : Vl → Option D
  | .im d => some d
  | .fr d => some d
  | .bo i => (env[i]?).bind Sl.mu
/-- as it is to be read -/
def RdAt (K : PySem.W.Frag) (H G : Hp) (d : D) (v : V) : Prop := Rp K G d v ∨ ∃ p, v = .ref p ∧ MuAt K H G d p
theorem VlAt.read {K : PySem.W.Frag} {σ : L2.St} {H0 H G : Hp} {env : List Sl} {vl : Vl} {v : V} {d : D} (h : VlAt K H0 H G σ env vl v) (r : ER K H G σ env) (e : vl.rd env = some d) : RdAt K H G d v := by
  cases vl with
  | im d' => cases e; exact .inl h
  | fr d' => cases e; obtain ⟨p, e1, _, _, e4⟩ := h; exact .inr ⟨p, e1, e4⟩
  | bo i =>
    obtain ⟨s, d', p, e1, e2, e3, e4⟩ := h
    have q : (env[i]?).bind Sl.mu = some d := e
    rw [e1] at q
    have q' : s.mu = some d := q
    rw [e2] at q'
    cases q'
    obtain ⟨p', q1, _, q3⟩ := r.mu i s d e1 e2
    rw [e3] at q1
    cases q1
    exact .inr ⟨p, e4, q3⟩
@[simp] def Vl.toIm : Vl → Option D
  | .im d => some d
  | .fr d => some d
  | .bo _ => none
/-- frozen -/
theorem VlAt.imm {K : PySem.W.Frag} {σ : L2.St} {H0 G0 H G : Hp} {env0 env : List Sl} {vl : Vl} {v : V} {d : D} (h : VlAt K H0 H G σ env vl v) (s : Stp K σ H0 G0 env0 H G env) (r0 : ER K H0 G0 σ env0) (e : vl.toIm = some d) :
    ∃ G', Stp K σ H0 G0 env0 H G' env ∧ Same G G' ∧ (∀ b, H0 b ≠ none → G' b = G b) ∧ Rp K G' d v := by
  cases vl with
  | im d' => cases e; exact ⟨G, s, Same.refl _, fun _ _ => rfl, h⟩
  | bo i => cases e
  | fr d' =>
    cases e
    obtain ⟨p, e1, e2, e3, e4⟩ := h
    obtain ⟨G', g1, g2, g3, g4⟩ := e4.frz e3 s.er.sub
    have np : ∀ b, H0 b ≠ none → b ≠ p := fun b hb z => hb (by rw [z]; exact e2)
    refine ⟨G', ⟨⟨s.er.len, g2, fun i d q => ?_, fun i t d q1 q2 => ?_, s.er.sep⟩, s.gr.trans g1, fun b hb hg => ?_, s.keep, s.kin⟩, g1, fun b hb => g3 b (np b hb), by rw [e1]; exact g4⟩
    · obtain ⟨v, w1, w2⟩ := s.er.val i d q
      exact ⟨v, w1, Rp.mono g1 d v w2⟩
    · obtain ⟨p', w1, w2, w3⟩ := s.er.mu i t d q1 q2
      have m : MuIs σ env0 p' := MuIs.of s.kin ⟨i, t, d, q1, q2, w1⟩
      exact ⟨p', w1, by rw [g3 p' (np p' (m.old r0))]; exact w2, w3.mono rfl g1⟩
    · rw [g3 b (np b hb)]
      exact s.old b hb hg
end HF

set_option Elab.async false
set_option linter.all false
set_option maxRecDepth 100000
set_option maxHeartbeats 4000000
set_option autoImplicit false
namespace HF
open PySem PySem.Spec PyProof.Rows L2
/-! ### results -/
inductive Rs where
  | ok (v : Vl) (env : List Sl)
  | err (c : Str) (env : Option (List Sl))
  | stk
abbrev Fx := List Sl → Rs
@[simp] def bindR (r : Rs) (f : Vl → List Sl → Rs) : Rs := match r with
  | .ok v e => f v e
  | .err c e => .err c e
  | .stk => .stk
theorem bindR_ok (v : Vl) (e : List Sl) (f : Vl → List Sl → Rs) : bindR (.ok v e) f = f v e := rfl
def ErrAt (K : PySem.W.Frag) (σ : L2.St) (H G : Hp) (env : List Sl) (H' : Hp) : Option (List Sl) → Prop
  | some env' => ∃ G', Stp K σ H G env H' G' env'
  | none => ∀ b o, H b = some o → ¬ MuIs σ env b → H' b = some o
def PostR (K : PySem.W.Frag) (mg : Str → Option Value) (W : WX) (σ : L2.St) (H G : Hp) (env : List Sl) (Q : VK) : Rs → Prop
  | .ok vl env' => ∀ v H' G', Stp K σ H G env H' G' env' → VlAt K H H' G' σ env' vl v → Q v H'
  | .err c e => ∀ C H', mg c = some (.ref C) → ErrAt K σ H G env H' e → W (.ref C) none σ H'
  | .stk => False
def tD (K : PySem.W.Frag) (mg : Str → Option Value) (W : WX) (F : Fx) : TE := fun σ H Q => ∃ G env, ER K H G σ env ∧ PostR K mg W σ H G env Q (F env)
def EX (X : Cx) (W : WX) (e : Expr) (F : Fx) : Prop := PE X e (tD X.K X.mg W F)
theorem PE.weak {X : Cx} {e : Expr} {t t' : TE} (h : PE X e t) (w : ∀ σ H Q, t' σ H Q → t σ H Q) : PE X e t' := ⟨fun pins s σ H Q I q => h.run pins s σ H Q I (w σ H Q q)⟩
theorem PT.weak {X : Cx} {e : Expr} {t t' : TT} (h : PT X e t) (w : ∀ σ H Q, t' σ H Q → t σ H Q) : PT X e t' := ⟨fun pins s σ H Q I q => h.run pins s σ H Q I (w σ H Q q)⟩
theorem PW.weak {X : Cx} {e : Expr} {t t' : TT} (h : PW X e t) (w : ∀ σ H Q, t' σ H Q → t σ H Q) : PW X e t' := ⟨fun u pins s σ H Q I q => h.run u pins s σ H Q I (w σ H Q q)⟩
theorem PA.weak {X : Cx} {es : List Expr} {t t' : TA} (h : PA X es t) (w : ∀ σ H Q, t' σ H Q → t σ H Q) : PA X es t' := ⟨fun pos pins s σ H Q I q => h.run pos pins s σ H Q I (w σ H Q q)⟩
theorem PS.weak {X : Cx} {st : Stmt} {t t' : TS} (h : PS X st t) (w : ∀ D σ H, t' D σ H → t D σ H) : PS X st t' := ⟨fun pins s σ H D I q => h.run pins s σ H D I (w D σ H q)⟩
theorem PSs.weak {X : Cx} {st : List Stmt} {t t' : TS} (h : PSs X st t) (w : ∀ D σ H, t' D σ H → t D σ H) : PSs X st t' := ⟨fun pins s σ H D I q => h.run pins s σ H D I (w D σ H q)⟩
section
variable {K : PySem.W.Frag} {mg : Str → Option Value} {W : WX} {σ : L2.St} {H G H1 G1 H2 G2 : Hp} {env env1 env2 : List Sl} {Q : VK}
theorem Stp.free (s : Stp K σ H G env H1 G1 env1) (r : ER K H G σ env) {p : Addr} (h : H1 p = none) : H p = none := by
  by_cases m : MuIs σ env p
  · exact absurd h (MuIs.old s.er (m.to s.kin))
  · cases e : H p with
    | none => rfl
    | some o => rw [s.keep p o e m] at h; cases h
theorem PostR.shift (s : Stp K σ H G env H1 G1 env1) (r : ER K H G σ env) : ∀ {R : Rs}, PostR K mg W σ H G env Q R → PostR K mg W σ H1 G1 env1 Q R
  | .ok vl env', h => fun v H' G' s' v' => h v H' G' (s.trans s' r) (v'.from fun p e => s.free r e)
  | .err c (some e), h => fun C H' m ⟨G', s'⟩ => h C H' m ⟨G', s.trans s' r⟩
  | .err c none, h => fun C H' m k => h C H' m fun b o e nm => k b o (s.keep b o e nm) fun z => nm (z.of s.kin)
  | .stk, h => h
theorem tD_bind {F : Fx} {k : VK} {f : Vl → List Sl → Rs} (r : ER K H G σ env) (h : PostR K mg W σ H G env Q (bindR (F env) f))
    (st : ∀ vl env1 v H1 G1, Stp K σ H G env H1 G1 env1 → VlAt K H H1 G1 σ env1 vl v → PostR K mg W σ H G env Q (f vl env1) → k v H1) : tD K mg W F σ H k := by
  refine ⟨G, env, r, ?_⟩
  cases e : F env with
  | ok vl env1 =>
    rw [e] at h
    exact fun v H1 G1 s v1 => st vl env1 v H1 G1 s v1 h
  | err c e' =>
    rw [e] at h
    exact h
  | stk =>
    rw [e] at h
    exact h
theorem MuIs.new (r : ER K H G σ env) {p : Addr} (h : H p = none) : ¬ MuIs σ env p := fun m => m.old r h
end
/-! ### results of the operations that raise nothing -/
inductive Gr where
  | im (d : D)
  | fr (d : D)
  | stk
@[simp] def Gr.rs (env : List Sl) : Gr → Rs
  | .im d => .ok (.im d) env
  | .fr d => .ok (.fr d) env
  | .stk => .stk
def GrPost (K : PySem.W.Frag) (H G : Hp) (Q : VK) : Gr → Prop
  | .im d => ∀ v H' G', GS H G H' G' → Rp K G' d v → Q v H'
  | .fr d => ∀ p H' G', GS H G H' G' → H p = none → G' p = none → MuAt K H' G' d p → Q (.ref p) H'
  | .stk => False
section
variable {K : PySem.W.Frag} {mg : Str → Option Value} {W : WX} {σ : L2.St} {H G : Hp} {env : List Sl} {Q : VK}
theorem GrPost.of (r : ER K H G σ env) : ∀ {g : Gr}, PostR K mg W σ H G env Q (g.rs env) → GrPost K H G Q g
  | .im d, h => fun v H' G' g hv => h v H' G' (Stp.gs r g) hv
  | .fr d, h => fun p H' G' g h1 h2 h3 => h (.ref p) H' G' (Stp.gs r g) ⟨p, rfl, h1, h2, h3⟩
  | .stk, h => h
/-- the same heap -/
theorem GrPost.same {d : D} {v : V} (s : Same G H) (h : GrPost K H G Q (.im d)) (hv : Rp K G d v) : Q v H := h v H G (GS.refl s) hv
end
/-! ### two places -/
def OpSound (K : PySem.W.Frag) (g : D → D → Gr) (r : R2) : Prop := ∀ (H G : Hp) (x y : V) (a b : D) (Q : VK), Same G H → RdAt K H G a x → RdAt K H G b y → GrPost K H G Q (g a b) → r x y H Q
@[simp] def opR (g : D → D → Gr) (va vb : Vl) (env : List Sl) : Rs := match va.rd env, vb.rd env with
  | some a, some b => (g a b).rs env
  | _, _ => .stk
@[simp] def op2F (g : D → D → Gr) (Fa Fb : Fx)  (env : List Sl) : Rs := bindR (Fa env) fun va e1 => bindR (Fb e1) fun vb e2 => opR g va vb e2
section
variable {K : PySem.W.Frag} {mg : Str → Option Value} {W : WX}
theorem tOp_of {g : D → D → Gr} {r : R2} {Fa Fb : Fx} (hs : OpSound K g r) : ∀ σ H Q, tD K mg W (op2F g Fa Fb) σ H Q → tOp r (tD K mg W Fa) (tD K mg W Fb) σ H Q := by
  intro σ H Q ⟨G, env, re, h⟩
  refine tD_bind re h fun va e1 x H1 G1 s1 v1 p1 => ?_
  refine tD_bind s1.er (PostR.shift s1 re p1) fun vb e2 y H2 G2 s2 v2 p2 => ?_
  have p3 := PostR.shift s2 s1.er p2
  have v1' := v1.step s2 fun p hp m => (MuIs.new re hp) (m.of s1.kin)
  have p3 : PostR K mg W σ H2 G2 e2 Q (opR g va vb e2) := p3
  unfold opR at p3
  cases ea : va.rd e2 with
  | none => rw [ea] at p3; exact p3.elim
  | some a =>
    cases eb : vb.rd e2 with
    | none => rw [ea, eb] at p3; exact p3.elim
    | some b =>
      rw [ea, eb] at p3
      exact hs H2 G2 x y a b Q s2.er.sub (v1'.read s2.er ea) (v2.read s2.er eb) (GrPost.of s2.er p3)
end
section
variable {X : Cx} {W : WX} {a b : Expr} {Fa Fb : Fx} {pos : Pos}
theorem ex_op {op : Operator} {g : D → D → Gr} {r : R2} (ho : OpR X (binaryOp op) r) (hs : OpSound X.K g r) (ha : EX X W a Fa) (hb : EX X W b Fb) : EX X W (.BinOp a op b pos) (op2F g Fa Fb) :=
  PE.weak (pe_op ho ha hb) (tOp_of hs)
theorem ex_cmp {op : CmpOp} {g : D → D → Gr} {r : R2} (ho : OpR X (compareOp op) r) (hs : OpSound X.K g r) (ha : EX X W a Fa) (hb : EX X W b Fb) (hm : behindInMarks op b = false) : EX X W (.Compare a [op] [b] pos) (op2F g Fa Fb) :=
  PE.weak (pe_cmpR ho ha hb hm) (tOp_of hs)
theorem ex_ix {g : D → D → Gr} {r : R2} (ho : IxR X r) (hs : OpSound X.K g r) (ha : EX X W a Fa) (hb : EX X W b Fb) (hp : PlainIx b) : EX X W (.Subscript a b pos) (op2F g Fa Fb) :=
  PE.weak (pe_ix ho ha hb hp) (tOp_of hs)
end
/-! ### constants, names -/
@[simp] def cF (d : D)  (env : List Sl) : Rs := .ok (.im d) env
@[simp] def vF (i : Nat)  (env : List Sl) : Rs := match env[i]? with
  | some (.val d) => .ok (.im d) env
  | some (.own _) => .ok (.bo i) env
  | some (.io _) => .ok (.bo i) env
  | _ => .stk
section
variable {X : Cx} {W : WX}
theorem ex_c {e : Expr} {v : V} {d : D} (h : PE X e (tC v)) (hv : ∀ G, Rp X.K G d v) : EX X W e (cF d) :=
  PE.weak h fun σ H Q ⟨G, env, r, h⟩ => h v H G (Stp.refl r) (hv G)
theorem ex_int {i j pos} : EX X W (.Constant (.int i) j pos) (cF (.int i)) := ex_c pe_int fun _ => rfl
theorem ex_bl {b j pos} : EX X W (.Constant (.bool b) j pos) (cF (.bl b)) := ex_c pe_bl fun _ => rfl
theorem ex_non {j pos} : EX X W (.Constant .none j pos) (cF .non) := ex_c pe_non fun _ => rfl
theorem ex_str {x j pos} : EX X W (.Constant (.str x) j pos) (cF (.str x)) := ex_c pe_str fun _ => rfl
theorem ex_var (i : Nat) {x : Str} {pos : Pos} (hN : X.N[i]? = some x := by rfl) (hv : Vis X.env.scope x := by first | exact Or.inl rfl | exact Or.inr (Or.inl rfl) | exact Or.inr (Or.inr rfl)) (hd : (x == ("__debug__" : Str)) = false := by decide)
    (hcd : (x == ("__classdict__" : Str)) = false := by decide) : EX X W (.Name x pos) (vF i) := by
  refine PE.weak (pe_var hN hv hd hcd) fun σ H Q ⟨G, env, r, h⟩ => ?_
  unfold vF at h
  cases e : env[i]? with
  | none => rw [e] at h; exact h.elim
  | some s =>
    rw [e] at h
    cases s with
    | non => exact h.elim
    | val d =>
      obtain ⟨v, q1, q2⟩ := r.val i d e
      exact ⟨v, q1, h v H G (Stp.refl r) q2⟩
    | own d =>
      obtain ⟨p, q1, q2, q3⟩ := r.mu i _ d e rfl
      exact ⟨.ref p, q1, h _ H G (Stp.refl r) ⟨_, d, p, e, rfl, q1, rfl⟩⟩
    | io d =>
      obtain ⟨p, q1, q2, q3⟩ := r.mu i _ d e rfl
      exact ⟨.ref p, q1, h _ H G (Stp.refl r) ⟨_, d, p, e, rfl, q1, rfl⟩⟩
/-- a name of the module -/
theorem ex_glob {x : Str} {v : V} {u : Value} {d : D} {pos : Pos} (hm : X.mg x = some u) (r : RelV v u) (hv : ∀ G, Rp X.K G d v) (hg : Gl X x := by rfl) (hd : (x == ("__debug__" : Str)) = false := by decide) : EX X W (.Name x pos) (cF d) := ex_c (pe_glob hg hm r hd) hv
end
/-! ### arguments -/
inductive RsL where
  | ok (vs : List Vl) (env : List Sl)
  | err (c : Str) (env : Option (List Sl))
  | stk
abbrev FxL := List Sl → RsL
@[simp] def bindL (r : RsL) (f : List Vl → List Sl → Rs) : Rs := match r with
  | .ok v e => f v e
  | .err c e => .err c e
  | .stk => .stk
def VlsAt (K : PySem.W.Frag) (H0 H G : Hp) (σ : L2.St) (env : List Sl) : List Vl → List V → Prop
  | [], xs => xs = []
  | l :: ls, xs => ∃ x r, xs = x :: r ∧ VlAt K H0 H G σ env l x ∧ VlsAt K H0 H G σ env ls r
def PostA (K : PySem.W.Frag) (mg : Str → Option Value) (W : WX) (σ : L2.St) (H G : Hp) (env : List Sl) (Q : List V → Hp → Prop) : RsL → Prop
  | .ok vls env' => ∀ vs H' G', Stp K σ H G env H' G' env' → VlsAt K H H' G' σ env' vls vs → Q vs H'
  | .err c e => ∀ C H', mg c = some (.ref C) → ErrAt K σ H G env H' e → W (.ref C) none σ H'
  | .stk => False
def tDA (K : PySem.W.Frag) (mg : Str → Option Value) (W : WX) (F : FxL) : TA := fun σ H Q => ∃ G env, ER K H G σ env ∧ PostA K mg W σ H G env Q (F env)
def AX (X : Cx) (W : WX) (es : List Expr) (F : FxL) : Prop := PA X es (tDA X.K X.mg W F)
@[simp] def nilF  (env : List Sl) : RsL := .ok [] env
@[simp] def consF (F : Fx) (Fs : FxL)  (env : List Sl) : RsL := match F env with
  | .ok v e1 => (match Fs e1 with
    | .ok vs e2 => .ok (v :: vs) e2
    | .err c e => .err c e
    | .stk => .stk)
  | .err c e => .err c e
  | .stk => .stk
section
variable {K : PySem.W.Frag} {mg : Str → Option Value} {W : WX} {σ : L2.St} {H G H1 G1 H2 G2 : Hp} {env env1 env2 : List Sl} {Q : VK}
theorem tDA_bind {F : FxL} {k : List V → Hp → Prop} {f : List Vl → List Sl → Rs} (r : ER K H G σ env) (h : PostR K mg W σ H G env Q (bindL (F env) f))
    (st : ∀ vls env1 vs H1 G1, Stp K σ H G env H1 G1 env1 → VlsAt K H H1 G1 σ env1 vls vs → PostR K mg W σ H G env Q (f vls env1) → k vs H1) : tDA K mg W F σ H k := by
  refine ⟨G, env, r, ?_⟩
  cases e : F env with
  | ok vl env1 =>
    rw [e] at h
    exact fun v H1 G1 s v1 => st vl env1 v H1 G1 s v1 h
  | err c e' =>
    rw [e] at h
    exact h
  | stk =>
    rw [e] at h
    exact h
theorem PostA.shift {Q : List V → Hp → Prop} (s : Stp K σ H G env H1 G1 env1) (r : ER K H G σ env) : ∀ {R : RsL}, (∀ (ls : List Vl) (vs : List V) (H' G' : Hp) (e : List Sl), VlsAt K H1 H' G' σ e ls vs → VlsAt K H H' G' σ e ls vs) → PostA K mg W σ H G env Q R → PostA K mg W σ H1 G1 env1 Q R
  | .ok vl env', z, h => fun v H' G' s' v' => h v H' G' (s.trans s' r) (z _ _ _ _ _ v')
  | .err c (some e), z, h => fun C H' m ⟨G', s'⟩ => h C H' m ⟨G', s.trans s' r⟩
  | .err c none, z, h => fun C H' m k => h C H' m fun b o e nm => k b o (s.keep b o e nm) fun z => nm (z.of s.kin)
  | .stk, z, h => h
theorem VlsAt.from {H0 : Hp} (f : ∀ p, H1 p = none → H0 p = none) : ∀ {ls : List Vl} {vs : List V}, VlsAt K H1 H G σ env ls vs → VlsAt K H0 H G σ env ls vs
  | [], vs, h => h
  | l :: ls, vs, h => by
    obtain ⟨x, r, e, h1, h2⟩ := h
    exact ⟨x, r, e, h1.from f, VlsAt.from f h2⟩
theorem VlsAt.step {H0 : Hp} (s : Stp K σ H1 G1 env1 H2 G2 env2) (nm : ∀ p, H0 p = none → ¬ MuIs σ env1 p) : ∀ {ls : List Vl} {vs : List V}, VlsAt K H0 H1 G1 σ env1 ls vs → VlsAt K H0 H2 G2 σ env2 ls vs
  | [], vs, h => h
  | l :: ls, vs, h => by
    obtain ⟨x, r, e, h1, h2⟩ := h
    exact ⟨x, r, e, h1.step s nm, VlsAt.step s nm h2⟩
theorem VlsAt.length {H0 : Hp} : ∀ {ls : List Vl} {vs : List V}, VlsAt K H0 H G σ env ls vs → vs.length = ls.length
  | [], vs, h => by rw [show vs = [] from h]; rfl
  | l :: ls, vs, h => by
    obtain ⟨x, r, rfl, h1, h2⟩ := h
    rw [List.length_cons, List.length_cons, VlsAt.length h2]
end
section
variable {X : Cx} {W : WX}
theorem ax_nil : AX X W [] nilF := PA.weak pa_nil fun σ H Q ⟨G, env, r, h⟩ => h [] H G (Stp.refl r) rfl
theorem tDA_cons {K : PySem.W.Frag} {mg : Str → Option Value} {F : Fx} {Fs : FxL} {σ : L2.St} {H : Hp} {Q : List V → Hp → Prop} (h : tDA K mg W (consF F Fs) σ H Q) : tD K mg W F σ H fun x H1 => tDA K mg W Fs σ H1 fun xs H2 => Q (x :: xs) H2 := by
  obtain ⟨G, env, r, h⟩ := h
  refine ⟨G, env, r, ?_⟩
  unfold consF at h
  cases e1 : F env with
  | stk => rw [e1] at h; exact h
  | err c e => rw [e1] at h; exact h
  | ok vl env1 =>
    rw [e1] at h
    intro v H1 G1 s1 v1
    refine ⟨G1, env1, s1.er, ?_⟩
    cases e2 : Fs env1 with
    | stk => simp only [e2] at h; exact h
    | err c e =>
      simp only [e2] at h
      cases e with
      | some e => exact fun C H' m ⟨G', s'⟩ => h C H' m ⟨G', s1.trans s' r⟩
      | none => exact fun C H' m k => h C H' m fun b o e nm => k b o (s1.keep b o e nm) fun z => nm (z.of s1.kin)
    | ok vls env2 =>
      simp only [e2] at h
      intro vs H2 G2 s2 v2
      exact h (v :: vs) H2 G2 (s1.trans s2 r) ⟨v, vs, rfl, v1.step s2 fun p hp m => (MuIs.new r hp) (m.of s1.kin), v2.from fun p hp => s1.free r hp⟩
theorem ax_cons {e : Expr} {es : List Expr} {F : Fx} {Fs : FxL} (h1 : EX X W e F) (h2 : AX X W es Fs) (hs : starEach (e :: es) X.env = (false, eval e X.env) :: starEach es X.env := by rfl) : AX X W (e :: es) (consF F Fs) :=
  PA.weak (pa_cons h1 h2 hs) fun σ H Q h => tDA_cons h
end
/-! ### built-in functions by values -/
@[simp] def Vls.rd (env : List Sl) : List Vl → Option (List D)
  | [] => some []
  | l :: ls => match l.rd env, Vls.rd env ls with
    | some d, some ds => some (d :: ds)
    | _, _ => none
def RdsAt (K : PySem.W.Frag) (H G : Hp) : List D → List V → Prop
  | [], xs => xs = []
  | d :: ds, xs => ∃ x r, xs = x :: r ∧ RdAt K H G d x ∧ RdsAt K H G ds r
theorem VlsAt.read {K : PySem.W.Frag} {σ : L2.St} {H0 H G : Hp} {env : List Sl} (r : ER K H G σ env) : ∀ {ls : List Vl} {vs : List V} {ds : List D}, VlsAt K H0 H G σ env ls vs → Vls.rd env ls = some ds → RdsAt K H G ds vs
  | [], vs, ds, h, e => by cases e; exact h
  | l :: ls, vs, ds, h, e => by
    obtain ⟨x, xs, rfl, h1, h2⟩ := h
    unfold Vls.rd at e
    cases e1 : l.rd env with
    | none => rw [e1] at e; cases e
    | some d =>
      cases e2 : Vls.rd env ls with
      | none => rw [e1, e2] at e; cases e
      | some ds' =>
        rw [e1, e2] at e
        cases e
        exact ⟨x, xs, rfl, h1.read r e1, VlsAt.read r h2 e2⟩
@[simp] def blF (g : List D → Gr) (Fs : FxL)  (env : List Sl) : Rs := bindL (Fs env) fun vls e => match Vls.rd e vls with
  | some ds => (g ds).rs e
  | none => .stk
def ClSound (K : PySem.W.Frag) (g : List D → Gr) (r : List V → Hp → VK → Prop) : Prop := ∀ (H G : Hp) (xs : List V) (ds : List D) (Q : VK), Same G H → RdsAt K H G ds xs → GrPost K H G Q (g ds) → r xs H Q
section
variable {X : Cx} {W : WX} {x : Str} {p pos : Pos} {e : Expr} {es : List Expr} {Fs : FxL} {id T : String} {r : List V → Hp → VK → Prop} {g : List D → Gr}
theorem tCB_of {K : PySem.W.Frag} {mg : Str → Option Value} (hs : ClSound K g r) : ∀ σ H Q, tD K mg W (blF g Fs) σ H Q → tCB r (tDA K mg W Fs) σ H Q := by
  intro σ H Q ⟨G, env, re, h⟩
  refine tDA_bind re h fun vls e1 xs H1 G1 s1 v1 p1 => ?_
  have p2 := PostR.shift s1 re p1
  cases e2 : Vls.rd e1 vls with
  | none => simp only [e2] at p2; exact p2.elim
  | some ds =>
    simp only [e2] at p2
    exact hs H1 G1 xs ds Q s1.er.sub (VlsAt.read s1.er v1 e2) (GrPost.of s1.er p2)
theorem ex_callB (hc : CallR X (.builtin id) r) (hs : ClSound X.K g r) (hm : X.mg x = none) (hv : bootBuiltins x = some (.builtin id)) (ha : AX X W (e :: es) Fs) (hg : Gl X x := by rfl) (hn : x ≠ "__name__" := by decide) (hdb : (x == ("__debug__" : Str)) = false := by decide)
    (he : starEach (e :: es) X.env = (false, eval e X.env) :: starEach es X.env := by rfl) (hpl : (backTo pos (starEach es X.env)).any (·.1) = false := by rfl) : EX X W (.Call (.Name x p) (e :: es) [] pos) (blF g Fs) :=
  PE.weak (pe_callB hc hg hm hv ha hn hdb he hpl) (tCB_of hs)
theorem ex_callTy (hc : CallR X (.type T) r) (hs : ClSound X.K g r) (hm : X.mg x = none) (hv : bootBuiltins x = some (.type T)) (ha : AX X W (e :: es) Fs) (hg : Gl X x := by rfl) (hn : x ≠ "__name__" := by decide) (hdb : (x == ("__debug__" : Str)) = false := by decide)
    (he : starEach (e :: es) X.env = (false, eval e X.env) :: starEach es X.env := by rfl) (hpl : (backTo pos (starEach es X.env)).any (·.1) = false := by rfl) : EX X W (.Call (.Name x p) (e :: es) [] pos) (blF g Fs) :=
  PE.weak (pe_callTy hc hg hm hv ha hn hdb he hpl) (tCB_of hs)
end
end HF

set_option Elab.async false
set_option linter.all false
set_option maxRecDepth 100000
set_option maxHeartbeats 4000000
set_option autoImplicit false
namespace HF
open PySem PySem.Spec PyProof.Rows L2
/-! ### data for == -/
mutual
def D.py : D → PyData
  | .non => .none
  | .bl b => .bool b
  | .int i => .int i
  | .str s => .str s
  | .tup xs => .tuple (D.pyL xs)
  | .lst xs => .list (D.pyL xs)
  | .dct _ _ => .dict []
  | .scr _ => .dict []
  | .ty _ => .dict []
  | .ob _ => .dict []
def D.pyL : List D → List PyData
  | [] => []
  | d :: ds => D.py d :: D.pyL ds
end
theorem D.pyL_map : ∀ ds : List D, D.pyL ds = ds.map D.py
  | [] => rfl
  | d :: ds => by rw [D.pyL, List.map_cons, D.pyL_map ds]
section
variable {K : PySem.W.Frag} {H G : Hp}
mutual
theorem Rp.dp : ∀ (d : D) (v : V), d.py.canLay0 = true → Rp K H d v → Dp K H v d.py
  | .non, v, _, h => by rw [show v = .non from h]; exact .non
  | .bl b, v, _, h => by rw [show v = .bl b from h]; exact .bl b
  | .int i, v, _, h => by rw [show v = .int i from h]; exact .int i
  | .str s, v, _, h => by rw [show v = .str s from h]; exact .str s
  | .tup ds, v, c, h => by
    obtain ⟨a, xs, rfl, h1, h2⟩ := h
    exact .tup h1 (RpL.dp ds xs (by simpa only [D.py, PyData.canLay0] using c) h2)
  | .lst ds, v, c, h => by
    obtain ⟨a, xs, rfl, h1, h2⟩ := h
    exact .lst (SqL.of h1) (RpL.dp ds xs (by simpa only [D.py, PyData.canLay0] using c) h2)
  | .dct ks ds, v, c, h => by simp [D.py, PyData.canLay0] at c
  | .scr ns, v, c, h => by simp [D.py, PyData.canLay0] at c
  | .ty n, v, c, h => by simp [D.py, PyData.canLay0] at c
  | .ob n, v, c, h => by simp [D.py, PyData.canLay0] at c
theorem RpL.dp : ∀ (ds : List D) (vs : List V), PyData.canLayAll0 (D.pyL ds) = true → RpL K H ds vs → DpAll K H vs (D.pyL ds)
  | [], vs, _, h => by rw [show vs = [] from h]; exact .nil
  | d :: ds, vs, c, h => by
    obtain ⟨x, r, rfl, h1, h2⟩ := h
    simp only [D.pyL, PyData.canLayAll0, Bool.and_eq_true] at c
    exact .cons (Rp.dp d x c.1 h1) (RpL.dp ds r c.2 h2)
end
theorem RdAt.dp {d : D} {v : V} (s : Same G H) (c : d.py.canLay0 = true) (h : RdAt K H G d v) : Dp K H v d.py := by
  rcases h with h | ⟨p, rfl, h⟩
  · exact Rp.dp d v c (Rp.mono s d v h)
  · cases d with
    | lst ds =>
      obtain ⟨xs, h1, h2⟩ := h
      exact .lst (SqL.of h1) (RpL.dp ds xs (by simpa only [D.py, PyData.canLay0] using c) (RpL.mono s ds xs h2))
    | dct ks ds => simp [D.py, PyData.canLay0] at c
    | _ => exact h.elim
/-- a list that is read -/
theorem RdAt.lst {ds : List D} {v : V} (s : Same G H) (h : RdAt K H G (.lst ds) v) : ∃ p xs, v = .ref p ∧ H p = some (.lst xs) ∧ RpL K G ds xs := by
  rcases h with ⟨a, xs, e, h1, h2⟩ | ⟨p, e, xs, h1, h2⟩
  · exact ⟨a, xs, e, s _ _ h1, h2⟩
  · exact ⟨p, xs, e, h1, h2⟩
theorem RdAt.dct {ks : List Key} {ds : List D} {v : V} (s : Same G H) (h : RdAt K H G (.dct ks ds) v) : ∃ p kvs, v = .ref p ∧ H p = some (.dK kvs) ∧ kvs.map (·.1) = ks ∧ RpL K G ds (kvs.map (·.2)) := by
  rcases h with ⟨a, xs, e, h1, h2⟩ | ⟨p, e, xs, h1, h2⟩
  · exact ⟨a, xs, e, s _ _ h1, h2⟩
  · exact ⟨p, xs, e, h1, h2⟩
theorem RdAt.tup {ds : List D} {v : V} (s : Same G H) (h : RdAt K H G (.tup ds) v) : ∃ p xs, v = .ref p ∧ SqT K H p xs ∧ RpL K G ds xs := by
  rcases h with ⟨a, xs, e, h1, h2⟩ | ⟨p, e, h1⟩
  · exact ⟨a, xs, e, Same.sqT s h1, h2⟩
  · exact h1.elim
theorem RdAt.tup0 {ds : List D} {v : V} (h : RdAt K H G (.tup ds) v) : Rp K G (.tup ds) v := by
  rcases h with h | ⟨p, e, h1⟩
  · exact h
  · exact h1.elim
theorem RdAt.scr {ns : List Int} {v : V} (s : Same G H) (h : RdAt K H G (.scr ns) v) : ∃ p, v = .ref p ∧ SqL K H p (ns.map V.int) := by
  rcases h with ⟨a, e, h1⟩ | ⟨p, e, h1⟩
  · exact ⟨a, e, s.seq h1⟩
  · exact h1.elim
theorem RdAt.non {v : V} (h : RdAt K H G .non v) : v = .non := by
  rcases h with h | ⟨p, e, h1⟩
  · exact h
  · exact h1.elim
theorem RdAt.bl {b : Bool} {v : V} (h : RdAt K H G (.bl b) v) : v = .bl b := by
  rcases h with h | ⟨p, e, h1⟩
  · exact h
  · exact h1.elim
theorem RdAt.int {i : Int} {v : V} (h : RdAt K H G (.int i) v) : v = .int i := by
  rcases h with h | ⟨p, e, h1⟩
  · exact h
  · exact h1.elim
theorem RdAt.str {x : Str} {v : V} (h : RdAt K H G (.str x) v) : v = .str x := by
  rcases h with h | ⟨p, e, h1⟩
  · exact h
  · exact h1.elim
theorem RdAt.ty {n : Ty} {v : V} (h : RdAt K H G (.ty n) v) : v = .ty n.name := by
  rcases h with h | ⟨p, e, h1⟩
  · exact h
  · exact h1.elim
/-- a new tuple -/
theorem GrPost.newT {ds : List D} {xs : List V} {Q : VK} {p : Addr} (s : Same G H) (h : GrPost K H G Q (.im (.tup ds))) (r : RpL K G ds xs) (hp : H p = none) : Q (.ref p) (upd H p (.tup xs)) := by
  have g := GS.new (o := .tup xs) s hp
  exact h _ _ _ g ⟨p, xs, rfl, SqT.of upd_same, RpL.mono g.gg ds xs r⟩
/-- a new list -/
theorem GrPost.newL {ds : List D} {xs : List V} {Q : VK} {p : Addr} (s : Same G H) (h : GrPost K H G Q (.fr (.lst ds))) (r : RpL K G ds xs) (hp : H p = none) : Q (.ref p) (upd H p (.lst xs)) :=
  h _ _ _ (GS.newH s hp) hp (s.free hp) ⟨xs, upd_same, r⟩
end
/-! ### arithmetic -/
@[simp] def szB (n : Nat) : Bool := decide (n ≤ 16777216)
theorem szB_le {n : Nat} (h : szB n = true) : n ≤ sizeLine := by rw [sizeLine_eq]; exact of_decide_eq_true h
@[simp] def addD : D → D → Gr
  | .int i, .int j => .im (.int (i + j))
  | .str x, .str y => if szB (x.length + y.length) then .im (.str (x ++ y)) else .stk
  | .lst xs, .lst ys => if szB (xs.length + ys.length) then .fr (.lst (xs ++ ys)) else .stk
  | .tup xs, .tup ys => if szB (xs.length + ys.length) then .im (.tup (xs ++ ys)) else .stk
  | _, _ => .stk
@[simp] def subD : D → D → Gr
  | .int i, .int j => .im (.int (i - j))
  | _, _ => .stk
/-- the size of a product: one factor below 2 ^ 64, or together a million bits -/
@[simp] def mulB (i j : Int) : Bool := decide (i.natAbs < 18446744073709551616) || decide (j.natAbs < 18446744073709551616) || decide (i.natAbs.log2 + j.natAbs.log2 < 1000000)
def repS (x : Str) (n : Nat) : Str := ⟨(List.replicate n x.cps.toList).flatten.toArray⟩
@[simp] def mulD : D → D → Gr
  | .int i, .int j => if mulB i j then .im (.int (i * j)) else .stk
  | .str x, .int k => if decide (0 ≤ k ∧ k ≤ 100000 ∧ x.length ≤ 100) then .im (.str (repS x k.toNat)) else .stk
  | .tup xs, .int k => if decide (xs ≠ [] ∧ 2 ≤ k ∧ k ≤ 1000 ∧ xs.length ≤ 1000) then .im (.tup (List.replicate k.toNat xs).flatten) else .stk
  | .lst xs, .int k => if decide (0 ≤ k ∧ k ≤ 1000 ∧ xs.length ≤ 1000) then .fr (.lst (List.replicate k.toNat xs).flatten) else .stk
  | _, _ => .stk
@[simp] def divB (j : Int) : Bool := decide (j ≠ 0 ∧ (j.natAbs < 18446744073709551616 ∨ j.natAbs.log2 < 9000))
@[simp] def divD : D → D → Gr
  | .int i, .int j => if divB j then .im (.int (i.fdiv j)) else .stk
  | _, _ => .stk
@[simp] def modD : D → D → Gr
  | .int i, .int j => if decide (j ≠ 0) then .im (.int (i.fmod j)) else .stk
  | _, _ => .stk
@[simp] def powD : D → D → Gr
  | .int i, .int j => if decide (0 ≤ j ∧ j ≤ 1000000 ∧ i.natAbs < 2 ^ 64) then .im (.int (i ^ j.toNat)) else .stk
  | _, _ => .stk
end HF

set_option Elab.async false
set_option linter.all false
set_option maxRecDepth 100000
set_option maxHeartbeats 4000000
set_option autoImplicit false
namespace HF
open PySem PySem.Spec PyProof.Rows L2
/-! ### rules for the operators -/
theorem GrPost.cond {K : PySem.W.Frag} {H G : Hp} {Q : VK} {c : Bool} {g : Gr} (h : GrPost K H G Q (if c = true then g else .stk)) : c = true ∧ GrPost K H G Q g := by
  cases c with
  | true => exact ⟨rfl, h⟩
  | false => exact h.elim
theorem GrPost.condD {K : PySem.W.Frag} {H G : Hp} {Q : VK} {c : Prop} [Decidable c] {g : Gr} (h : GrPost K H G Q (if decide c = true then g else .stk)) : c ∧ GrPost K H G Q g :=
  let ⟨a, b⟩ := GrPost.cond h
  ⟨of_decide_eq_true a, b⟩
section
variable {X : Cx}
def rRepS : R2 := fun x y H Q => ∃ z k, x = .str z ∧ y = .int k ∧ 0 ≤ k ∧ k ≤ 100000 ∧ z.length ≤ 100 ∧ Q (.str (repS z k.toNat)) H
theorem foldl_arr : ∀ (k : Nat) (c acc : Array Nat), (List.replicate k c).foldl (· ++ ·) acc = acc ++ (List.replicate k c.toList).flatten.toArray := by
  intro k
  induction k with
  | zero => intro c acc; simp
  | succ k ih =>
    intro c acc
    rw [List.replicate_succ, List.foldl_cons, ih, List.replicate_succ, List.flatten_cons, Array.append_assoc]
    congr 1
    apply Array.toList_inj.mp
    simp
theorem op_repS : OpR X (binaryOp .Mult) rRepS := by
  intro pins s σ H x y v u Q I rx ry h
  obtain ⟨z, k, rfl, rfl, h0, h1, h2, q⟩ := h
  obtain ⟨t, rfl⟩ := rx
  obtain ⟨t', rfl⟩ := ry
  have hs : sizeLine = 16777216 := sizeLine_eq
  have hk : k.toNat ≤ 100000 := by omega
  have hm : z.length * k.toNat ≤ 10000000 := Nat.le_trans (Nat.mul_le_mul h2 hk) (by decide)
  refine PySem.P.mul_str ?_ (fun _ _ => ?_) (fun _ _ => ?_) ?_
  · rw [decide_eq_false (by omega), decide_eq_false (by omega)]; rfl
  · have h3 : (100 : Int) ≤ (2 ^ 63 - 1) / k := by
      rw [Int.le_ediv_iff_mul_le (by omega)]
      omega
    omega
  · unfold Builtin.Str.tooLong
    rw [hs]
    exact decide_eq_false (by omega)
  · by_cases c1 : k < 1
    · rw [if_pos c1]
      refine ⟨by decide, ?_⟩
      have e : k = 0 := by omega
      subst e
      exact ⟨.str (repS z (0 : Int).toNat), H, I.tok _, ⟨_, rfl⟩, q⟩
    · rw [if_neg c1]
      by_cases c2 : (k == 1 || z.length == 0) = true
      · rw [if_pos c2]
        have e : repS z k.toNat = z := by
          simp only [Bool.or_eq_true, beq_iff_eq] at c2
          rcases c2 with c2 | c2
          · subst c2
            unfold repS
            simp
          · unfold repS
            have z0 : z.cps = #[] := Array.eq_empty_of_size_eq_zero c2
            obtain ⟨cps⟩ := z
            simp only at z0
            subst z0
            simp
        exact ⟨.str z, H, I, ⟨_, rfl⟩, by rw [e] at q; exact q⟩
      · rw [if_neg c2]
        have e : (⟨(List.replicate k.toNat z.cps).foldl (· ++ ·) #[]⟩ : Str) = repS z k.toNat := by
          unfold repS
          rw [foldl_arr]
          simp
        rw [e]
        refine ⟨?_, .str (repS z k.toNat), H, I.tok _, ⟨_, rfl⟩, q⟩
        unfold repS
        show (List.flatten _).toArray.size ≤ _
        have e2 : z.cps.size * k.toNat ≤ 10000000 := hm
        rw [List.size_toArray, List.length_flatten, List.map_replicate, List.sum_replicate_nat, hs]
        rw [Nat.mul_comm] at e2
        simp only [Array.length_toList]
        omega
theorem op_addA : OpR X (binaryOp .Add) (fun x y H Q => rI0 (fun i j => .int (i + j)) x y H Q ∨ (∃ i j, x = .str i ∧ y = .str j ∧ i.length + j.length ≤ sizeLine ∧ Q (.str (i ++ j)) H) ∨ rCat x y H Q ∨ rCatA X.K x y H Q) := op_add.or (op_add_str.or (op_cat.or op_catA))
theorem op_mulG : OpR X (binaryOp .Mult) (rI (fun i j => mulB i j = true) fun i j => .int (i * j)) := opI fun i j _ _ _ _ _ hc q => by
  unfold mulB at hc
  simp only [Bool.or_eq_true, decide_eq_true_eq] at hc
  refine mul_int q ?_
  rcases hc with hc | hc
  · refine CMul.ok ?_
    rcases hc with hc | hc
    · exact .inl ⟨by omega, by omega⟩
    · exact .inr ⟨by omega, by omega⟩
  · exact CMulW.ok hc
theorem op_mulA : OpR X (binaryOp .Mult) (fun x y H Q => rI (fun i j => mulB i j = true) (fun i j => .int (i * j)) x y H Q ∨ rRepS x y H Q ∨ rRep x y H Q ∨ rRepT X.K x y H Q) := op_mulG.or (op_repS.or (op_rep.or op_repT))
theorem op_divG : OpR X (binaryOp .FloorDiv) (rI (fun _ j => divB j = true) fun i j => .int (i.fdiv j)) := opI fun i j _ _ _ _ _ hc q => by
  have h := of_decide_eq_true hc
  have h2 : j.natAbs.log2 < 9000 := h.2.elim (fun a => Nat.lt_of_lt_of_le ((Nat.log2_lt (by omega)).mpr (Nat.lt_of_lt_of_le a (by decide) : j.natAbs < 2 ^ 64)) (by decide)) id
  exact floordiv_int h.1 q (.inl (PyProof.noPylong_of_log2 h2))
variable {K : PySem.W.Frag}
theorem snd_add : OpSound X.K addD (fun x y H Q => rI0 (fun i j => .int (i + j)) x y H Q ∨ (∃ i j, x = .str i ∧ y = .str j ∧ i.length + j.length ≤ sizeLine ∧ Q (.str (i ++ j)) H) ∨ rCat x y H Q ∨ rCatA X.K x y H Q) := by
  intro H G x y a b Q s ha hb hq
  cases a with
  | int i =>
    cases b with
    | int j => exact .inl ⟨i, j, ha.int, hb.int, hq.same s rfl⟩
    | _ => exact hq.elim
  | str i =>
    cases b with
    | str j =>
      obtain ⟨c, hq⟩ := GrPost.cond hq
      exact .inr (.inl ⟨i, j, ha.str, hb.str, szB_le c, hq.same s rfl⟩)
    | _ => exact hq.elim
  | lst as =>
    cases b with
    | lst bs =>
      obtain ⟨c, hq⟩ := GrPost.cond hq
      obtain ⟨p, xs, rfl, h1, h2⟩ := ha.lst s
      obtain ⟨p', ys, rfl, h3, h4⟩ := hb.lst s
      exact .inr (.inr (.inl ⟨p, p', xs, ys, rfl, rfl, h1, h3, by rw [h2.length, h4.length]; exact szB_le c, fun q hq' => hq.newL s (h2.append h4) hq'⟩))
    | _ => exact hq.elim
  | tup as =>
    cases b with
    | tup bs =>
      obtain ⟨c, hq⟩ := GrPost.cond hq
      obtain ⟨p, xs, rfl, h1, h2⟩ := ha.tup s
      obtain ⟨p', ys, rfl, h3, h4⟩ := hb.tup s
      refine .inr (.inr (.inr ⟨p, p', xs, ys, rfl, rfl, h1, h3, by rw [h2.length, h4.length]; exact szB_le c, fun e => ?_, fun e1 e2 => ?_, fun _ _ q hq' => hq.newT s (h2.append h4) hq'⟩))
      · subst e
        have e3 : as = [] := by
          have := h2.length
          exact List.eq_nil_of_length_eq_zero this.symm
        subst e3
        exact hq.same s hb.tup0
      · subst e2
        have e3 : bs = [] := by
          have := h4.length
          exact List.eq_nil_of_length_eq_zero this.symm
        subst e3
        rw [List.append_nil] at hq
        exact hq.same s ha.tup0
    | _ => exact hq.elim
  | _ => cases b <;> exact hq.elim
theorem snd_sub : OpSound K subD (rI0 fun i j => .int (i - j)) := by
  intro H G x y a b Q s ha hb hq
  cases a with
  | int i =>
    cases b with
    | int j => exact ⟨i, j, ha.int, hb.int, hq.same s rfl⟩
    | _ => exact hq.elim
  | _ => cases b <;> exact hq.elim
theorem snd_mul : OpSound X.K mulD (fun x y H Q => rI (fun i j => mulB i j = true) (fun i j => .int (i * j)) x y H Q ∨ rRepS x y H Q ∨ rRep x y H Q ∨ rRepT X.K x y H Q) := by
  intro H G x y a b Q s ha hb hq
  cases a with
  | int i =>
    cases b with
    | int j =>
      obtain ⟨c, hq⟩ := GrPost.cond hq
      exact .inl ⟨i, j, ha.int, hb.int, c, hq.same s rfl⟩
    | _ => exact hq.elim
  | str i =>
    cases b with
    | int k =>
      obtain ⟨c, hq⟩ := GrPost.cond hq
      have c := of_decide_eq_true c
      exact .inr (.inl ⟨i, k, ha.str, hb.int, c.1, c.2.1, c.2.2, hq.same s rfl⟩)
    | _ => exact hq.elim
  | lst as =>
    cases b with
    | int k =>
      obtain ⟨c, hq⟩ := GrPost.cond hq
      have c := of_decide_eq_true c
      obtain ⟨p, xs, rfl, h1, h2⟩ := ha.lst s
      refine .inr (.inr (.inl ⟨p, k, xs, rfl, hb.int, h1, by omega, by omega, ?_, fun q hq' => hq.newL s (h2.rep _) hq'⟩))
      rw [h2.length, sizeLine_eq]
      exact Nat.le_trans (Nat.mul_le_mul c.2.2 (show k.toNat ≤ 1000 by omega)) (by decide)
    | _ => exact hq.elim
  | tup as =>
    cases b with
    | int k =>
      obtain ⟨c, hq⟩ := GrPost.cond hq
      have c := of_decide_eq_true c
      obtain ⟨p, xs, rfl, h1, h2⟩ := ha.tup s
      refine .inr (.inr (.inr ⟨p, k, xs, rfl, hb.int, h1, fun e => ?_, c.2.1, c.2.2.1, by rw [h2.length]; exact c.2.2.2, fun q hq' => hq.newT s (h2.rep _) hq'⟩))
      subst e
      exact c.1 (List.eq_nil_of_length_eq_zero h2.length.symm)
    | _ => exact hq.elim
  | _ => cases b <;> exact hq.elim
theorem snd_div : OpSound K divD (rI (fun _ j => divB j = true) fun i j => .int (i.fdiv j)) := by
  intro H G x y a b Q s ha hb hq
  cases a with
  | int i =>
    cases b with
    | int j =>
      obtain ⟨c, hq⟩ := GrPost.cond hq
      exact ⟨i, j, ha.int, hb.int, c, hq.same s rfl⟩
    | _ => exact hq.elim
  | _ => cases b <;> exact hq.elim
theorem snd_mod : OpSound K modD (rI (fun _ j => j ≠ 0) fun i j => .int (i.fmod j)) := by
  intro H G x y a b Q s ha hb hq
  cases a with
  | int i =>
    cases b with
    | int j =>
      obtain ⟨c, hq⟩ := GrPost.cond hq
      exact ⟨i, j, ha.int, hb.int, of_decide_eq_true c, hq.same s rfl⟩
    | _ => exact hq.elim
  | _ => cases b <;> exact hq.elim
theorem snd_pow : OpSound K powD (rI CPow fun i j => .int (i ^ j.toNat)) := by
  intro H G x y a b Q s ha hb hq
  cases a with
  | int i =>
    cases b with
    | int j =>
      obtain ⟨c, hq⟩ := GrPost.cond hq
      have c : (0 ≤ j ∧ j ≤ 1000000 ∧ i.natAbs < 2 ^ 64) := of_decide_eq_true c
      exact ⟨i, j, ha.int, hb.int, c, hq.same s rfl⟩
    | _ => exact hq.elim
  | _ => cases b <;> exact hq.elim
end
section
variable {X : Cx} {W : WX} {a b : Expr} {Fa Fb : Fx} {pos : Pos}
theorem ex_add (ha : EX X W a Fa) (hb : EX X W b Fb) : EX X W (.BinOp a .Add b pos) (op2F addD Fa Fb) := ex_op op_addA snd_add ha hb
theorem ex_sub (ha : EX X W a Fa) (hb : EX X W b Fb) : EX X W (.BinOp a .Sub b pos) (op2F subD Fa Fb) := ex_op op_sub snd_sub ha hb
theorem ex_mul (ha : EX X W a Fa) (hb : EX X W b Fb) : EX X W (.BinOp a .Mult b pos) (op2F mulD Fa Fb) := ex_op op_mulA snd_mul ha hb
theorem ex_div (ha : EX X W a Fa) (hb : EX X W b Fb) : EX X W (.BinOp a .FloorDiv b pos) (op2F divD Fa Fb) := ex_op op_divG snd_div ha hb
theorem ex_mod (ha : EX X W a Fa) (hb : EX X W b Fb) : EX X W (.BinOp a .Mod b pos) (op2F modD Fa Fb) := ex_op op_modN snd_mod ha hb
theorem ex_pow (ha : EX X W a Fa) (hb : EX X W b Fb) : EX X W (.BinOp a .Pow b pos) (op2F powD Fa Fb) := ex_op op_pow snd_pow ha hb
end
end HF

set_option Elab.async false
set_option linter.all false
set_option maxRecDepth 100000
set_option maxHeartbeats 4000000
set_option autoImplicit false
namespace HF
open PySem PySem.Spec PyProof.Rows L2
/-! ### comparisons -/
section
variable {X : Cx}
def rEqM (K : PySem.W.Frag) : R2 := fun x y H Q => ∃ d e, Dp K H x d ∧ Dp K H y e ∧ d.canLay0 = true ∧ e.canLay0 = true ∧ min d.depth e.depth ≤ 64 ∧ Q (.bl (PyData.eqv d e)) H
def rNeM (K : PySem.W.Frag) : R2 := fun x y H Q => ∃ d e, Dp K H x d ∧ Dp K H y e ∧ d.canLay0 = true ∧ e.canLay0 = true ∧ min d.depth e.depth ≤ 64 ∧ Q (.bl (!PyData.eqv d e)) H
theorem op_eqM (hu : X.A.units + 64 < cLine) : OpR X (compareOp .Eq) (rEqM X.K) := by
  intro pins s σ H x y v u Q I rx ry h
  obtain ⟨d, e, hd, he, sd, se, hm, q⟩ := h
  obtain ⟨as, r1⟩ := Dp.reads I d x v hd rx
  obtain ⟨bs, r2⟩ := Dp.reads I e y u he ry
  exact SeqAt.compareEq_reads r1 r2 sd se (by omega) ⟨.bl _, H, I, rfl, q⟩
theorem op_neM (hu : X.A.units + 64 < cLine) : OpR X (compareOp .NotEq) (rNeM X.K) := by
  intro pins s σ H x y v u Q I rx ry h
  obtain ⟨d, e, hd, he, sd, se, hm, q⟩ := h
  obtain ⟨as, r1⟩ := Dp.reads I d x v hd rx
  obtain ⟨bs, r2⟩ := Dp.reads I e y u he ry
  exact SeqAt.compareNe_reads r1 r2 sd se (by omega) ⟨.bl _, H, I, rfl, q⟩
end
/-- == of two data -/
@[simp] def D.eqB (a b : D) : Option Bool := match a, b with
  | .int i, .int j => some (decide (i = j))
  | .str x, .str y => some (decide (x = y))
  | .bl x, .bl y => some (decide (x = y))
  | a, b => if a.py.canLay0 && b.py.canLay0 && decide (min a.py.depth b.py.depth ≤ 64) then some (PyData.eqv a.py b.py) else none
@[simp] def blO (f : Bool → Bool) : Option Bool → Gr
  | some b => .im (.bl (f b))
  | none => .stk
@[simp] def eqD (a b : D) : Gr := blO id (a.eqB b)
@[simp] def neD (a b : D) : Gr := blO not (a.eqB b)
@[simp] def ltD : D → D → Gr
  | .int i, .int j => .im (.bl (decide (i < j)))
  | _, _ => .stk
@[simp] def leD : D → D → Gr
  | .int i, .int j => .im (.bl (decide (i ≤ j)))
  | _, _ => .stk
@[simp] def gtD : D → D → Gr
  | .int i, .int j => .im (.bl (decide (j < i)))
  | _, _ => .stk
@[simp] def geD : D → D → Gr
  | .int i, .int j => .im (.bl (decide (j ≤ i)))
  | _, _ => .stk
@[simp] def D.isB : D → D → Option Bool
  | .bl a, .bl b => some (decide (a = b))
  | .non, .non => some true
  | .bl _, .non => some false
  | .int _, .non => some false
  | .str _, .non => some false
  | .tup _, .non => some false
  | .lst _, .non => some false
  | .dct _ _, .non => some false
  | _, _ => none
@[simp] def isD (a b : D) : Gr := blO id (a.isB b)
@[simp] def isNotD (a b : D) : Gr := blO not (a.isB b)
@[simp] def D.flat : D → Bool
  | .non => true
  | .bl _ => true
  | .int _ => true
  | .str _ => true
  | _ => false
/-- x in xs -/
@[simp] def D.inB (x : D) : D → Option Bool
  | .str z => match x with
    | .str ⟨⟨[c]⟩⟩ => some (decide (c ∈ z.cps.toList))
    | _ => none
  | .tup ds => if x.flat && ds.all D.flat then some (ds.any fun y => PyData.eqv y.py x.py) else none
  | .lst ds => if x.flat && ds.all D.flat then some (ds.any fun y => PyData.eqv y.py x.py) else
      if SeqAt.shaped x.py && SeqAt.shaped (D.lst ds).py then some (ds.any fun y => PyData.eqv y.py x.py) else none
  | _ => none
@[simp] def inD (a b : D) : Gr := blO id (a.inB b)
@[simp] def notInD (a b : D) : Gr := blO not (a.inB b)
theorem flat_V {K : PySem.W.Frag} {G : Hp} {d : D} {v : V} (f : d.flat = true) (h : Rp K G d v) : flatV v = true := by
  cases d with
  | non => rw [show v = .non from h]; rfl
  | bl b => rw [show v = .bl b from h]; rfl
  | int b => rw [show v = .int b from h]; rfl
  | str b => rw [show v = .str b from h]; rfl
  | _ => cases f
theorem flat_eqV {K : PySem.W.Frag} {G : Hp} {d e : D} {v u : V} (f : d.flat = true) (f' : e.flat = true) (h : Rp K G d v) (h' : Rp K G e u) : eqV v u = PyData.eqv d.py e.py := by
  cases d with
  | non => rw [show v = .non from h]; cases e <;> first | (simp [D.flat] at f'; done) | (rw [show u = _ from h']; simp [eqV, D.py, PyData.eqv])
  | bl b => rw [show v = .bl b from h]; cases e <;> first | (simp [D.flat] at f'; done) | (rw [show u = _ from h']; simp [eqV, D.py, PyData.eqv])
  | int b => rw [show v = .int b from h]; cases e <;> first | (simp [D.flat] at f'; done) | (rw [show u = _ from h']; simp [eqV, D.py, PyData.eqv])
  | str b => rw [show v = .str b from h]; cases e <;> first | (simp [D.flat] at f'; done) | (rw [show u = _ from h']; simp [eqV, D.py, PyData.eqv])
  | _ => cases f
theorem flat_all {K : PySem.W.Frag} {G : Hp} : ∀ {ds : List D} {vs : List V}, ds.all D.flat = true → RpL K G ds vs → vs.all flatV = true
  | [], vs, _, h => by rw [show vs = [] from h]; rfl
  | d :: ds, vs, f, h => by
    obtain ⟨x, r, rfl, h1, h2⟩ := h
    simp only [List.all_cons, Bool.and_eq_true] at f ⊢
    exact ⟨flat_V f.1 h1, flat_all f.2 h2⟩
theorem flat_in {K : PySem.W.Frag} {G : Hp} {e : D} {u : V} (f' : e.flat = true) (h' : Rp K G e u) : ∀ {ds : List D} {vs : List V}, ds.all D.flat = true → RpL K G ds vs → inV u vs = ds.any fun y => PyData.eqv y.py e.py
  | [], vs, _, h => by rw [show vs = [] from h]; rfl
  | d :: ds, vs, f, h => by
    obtain ⟨x, r, rfl, h1, h2⟩ := h
    simp only [List.all_cons, Bool.and_eq_true] at f
    have ih := flat_in f' h' f.2 h2
    unfold inV at ih ⊢
    rw [List.any_cons, List.any_cons, ih, flat_eqV f.1 f' h1 h']
theorem RdAt.flat {K : PySem.W.Frag} {H G : Hp} {d : D} {v : V} (f : d.flat = true) (h : RdAt K H G d v) : Rp K G d v := by
  rcases h with h | ⟨p, e, h⟩
  · exact h
  · cases d <;> first | (simp [D.flat] at f; done) | exact h.elim
theorem GrPost.blO {K : PySem.W.Frag} {H G : Hp} {Q : VK} {f : Bool → Bool} {o : Option Bool} (s : Same G H) (h : GrPost K H G Q (blO f o)) : ∃ b, o = some b ∧ Q (.bl (f b)) H := by
  cases o with
  | none => exact h.elim
  | some b => exact ⟨b, rfl, h.same s rfl⟩
section
variable {K : PySem.W.Frag} {X : Cx}
theorem eqB_deep {a b : D} {r : Bool} {H G : Hp} {x y : V} (s : Same G H) (ha : RdAt K H G a x) (hb : RdAt K H G b y) (e : a.eqB b = some r) :
    (scal x y = true ∧ decide (x = y) = r) ∨ (a.py.canLay0 = true ∧ b.py.canLay0 = true ∧ min a.py.depth b.py.depth ≤ 64 ∧ PyData.eqv a.py b.py = r) := by
  have deep : ∀ {a b : D}, (if (a.py.canLay0 && b.py.canLay0 && decide (min a.py.depth b.py.depth ≤ 64)) = true then some (PyData.eqv a.py b.py) else none) = some r → (a.py.canLay0 = true ∧ b.py.canLay0 = true ∧ min a.py.depth b.py.depth ≤ 64 ∧ PyData.eqv a.py b.py = r) := by
    intro a b h
    split at h
    · rename_i c
      simp only [Bool.and_eq_true, decide_eq_true_eq] at c
      exact ⟨c.1.1, c.1.2, c.2, Option.some.inj h⟩
    · cases h
  unfold D.eqB at e
  split at e
  · left
    rw [ha.int, hb.int]
    refine ⟨rfl, ?_⟩
    rw [← Option.some.inj e]
    simp
  · left
    rw [ha.str, hb.str]
    refine ⟨rfl, ?_⟩
    rw [← Option.some.inj e]
    simp
  · left
    rw [ha.bl, hb.bl]
    refine ⟨rfl, ?_⟩
    rw [← Option.some.inj e]
    simp
  · exact .inr (deep e)
theorem snd_eq : OpSound K eqD (fun x y H Q => rEq x y H Q ∨ rEqM K x y H Q) := by
  intro H G x y a b Q s ha hb hq
  obtain ⟨r, e, q⟩ := GrPost.blO s hq
  rcases eqB_deep s ha hb e with ⟨h1, h2⟩ | ⟨h1, h2, h3, h4⟩
  · exact .inl ⟨h1, by rw [h2]; exact q⟩
  · exact .inr ⟨_, _, ha.dp s h1, hb.dp s h2, h1, h2, h3, by rw [h4]; exact q⟩
theorem snd_ne : OpSound K neD (fun x y H Q => rNe x y H Q ∨ rNeM K x y H Q) := by
  intro H G x y a b Q s ha hb hq
  obtain ⟨r, e, q⟩ := GrPost.blO s hq
  rcases eqB_deep s ha hb e with ⟨h1, h2⟩ | ⟨h1, h2, h3, h4⟩
  · exact .inl ⟨h1, by rw [h2]; exact q⟩
  · exact .inr ⟨_, _, ha.dp s h1, hb.dp s h2, h1, h2, h3, by rw [h4]; exact q⟩
theorem snd_lt : OpSound K ltD (rI0 fun i j => .bl (decide (i < j))) := by
  intro H G x y a b Q s ha hb hq
  cases a <;> cases b <;> first | exact hq.elim | exact ⟨_, _, ha.int, hb.int, hq.same s rfl⟩
theorem snd_le : OpSound K leD (rI0 fun i j => .bl (decide (i ≤ j))) := by
  intro H G x y a b Q s ha hb hq
  cases a <;> cases b <;> first | exact hq.elim | exact ⟨_, _, ha.int, hb.int, hq.same s rfl⟩
theorem snd_gt : OpSound K gtD (rI0 fun i j => .bl (decide (j < i))) := by
  intro H G x y a b Q s ha hb hq
  cases a <;> cases b <;> first | exact hq.elim | exact ⟨_, _, ha.int, hb.int, hq.same s rfl⟩
theorem snd_ge : OpSound K geD (rI0 fun i j => .bl (decide (j ≤ i))) := by
  intro H G x y a b Q s ha hb hq
  cases a <;> cases b <;> first | exact hq.elim | exact ⟨_, _, ha.int, hb.int, hq.same s rfl⟩
def rIsB : R2 := fun x y H Q => ∃ a b, x = .bl a ∧ y = .bl b ∧ Q (.bl (decide (a = b))) H
def rNotB : R2 := fun x y H Q => ∃ a b, x = .bl a ∧ y = .bl b ∧ Q (.bl (!decide (a = b))) H
theorem isB_of {a b : D} {r : Bool} {H G : Hp} {x y : V} (s : Same G H) (ha : RdAt K H G a x) (hb : RdAt K H G b y) (e : a.isB b = some r) :
    (∃ c d, x = .bl c ∧ y = .bl d ∧ decide (c = d) = r) ∨ (y = .non ∧ decide (x = .non) = r) := by
  have no : ∀ {p : Addr}, decide (V.ref p = V.non) = false := fun {p} => decide_eq_false (fun z => nomatch z)
  cases a with
  | bl c =>
    cases b with
    | bl d => exact .inl ⟨c, d, ha.bl, hb.bl, Option.some.inj e⟩
    | non => rw [ha.bl]; exact .inr ⟨hb.non, by rw [← Option.some.inj e]; rfl⟩
    | _ => cases e
  | non =>
    cases b with
    | non => rw [ha.non]; exact .inr ⟨hb.non, by rw [← Option.some.inj e]; rfl⟩
    | _ => cases e
  | int c =>
    cases b with
    | non => rw [ha.int]; exact .inr ⟨hb.non, by rw [← Option.some.inj e]; rfl⟩
    | _ => cases e
  | str c =>
    cases b with
    | non => rw [ha.str]; exact .inr ⟨hb.non, by rw [← Option.some.inj e]; rfl⟩
    | _ => cases e
  | tup c =>
    cases b with
    | non => obtain ⟨p, xs, rfl, _⟩ := ha.tup s; exact .inr ⟨hb.non, by rw [← Option.some.inj e]; exact no⟩
    | _ => cases e
  | lst c =>
    cases b with
    | non => obtain ⟨p, xs, rfl, _⟩ := ha.lst s; exact .inr ⟨hb.non, by rw [← Option.some.inj e]; exact no⟩
    | _ => cases e
  | dct c ds =>
    cases b with
    | non => obtain ⟨p, xs, rfl, _⟩ := ha.dct s; exact .inr ⟨hb.non, by rw [← Option.some.inj e]; exact no⟩
    | _ => cases e
  | _ => cases b <;> cases e
theorem snd_is : OpSound K isD (fun x y H Q => rIsB x y H Q ∨ (y = .non ∧ Q (.bl (decide (x = .non))) H)) := by
  intro H G x y a b Q s ha hb hq
  obtain ⟨r, e, q⟩ := GrPost.blO s hq
  rcases isB_of s ha hb e with ⟨c, d, h1, h2, h3⟩ | ⟨h1, h2⟩
  · exact .inl ⟨c, d, h1, h2, by rw [h3]; exact q⟩
  · exact .inr ⟨h1, by rw [h2]; exact q⟩
theorem snd_isnot : OpSound K isNotD (fun x y H Q => rNotB x y H Q ∨ (y = .non ∧ Q (.bl (!decide (x = .non))) H)) := by
  intro H G x y a b Q s ha hb hq
  obtain ⟨r, e, q⟩ := GrPost.blO s hq
  rcases isB_of s ha hb e with ⟨c, d, h1, h2, h3⟩ | ⟨h1, h2⟩
  · exact .inl ⟨c, d, h1, h2, by rw [h3]; exact q⟩
  · exact .inr ⟨h1, by rw [h2]; exact q⟩
/-- what in asks of the values -/
theorem inB_of {a b : D} {r : Bool} {H G : Hp} {x y : V} (s : Same G H) (ha : RdAt K H G a x) (hb : RdAt K H G b y) (e : a.inB b = some r) :
    (∃ (c : Nat) (z : Str), x = .str ⟨#[c]⟩ ∧ y = .str z ∧ decide (c ∈ z.cps.toList) = r) ∨ (∃ p xs, y = .ref p ∧ (SqL K H p xs ∨ SqT K H p xs) ∧ flatV x = true ∧ xs.all flatV = true ∧ inV x xs = r) ∨
      (∃ d ds, Dp K H x d ∧ Dp K H y (.list ds) ∧ SeqAt.shaped d = true ∧ SeqAt.shaped (.list ds) = true ∧ (ds.any fun z => PyData.eqv z d) = r) := by
  have fl : ∀ {ds : List D} {xs : List V}, (a.flat && ds.all D.flat) = true → RpL K G ds xs → flatV x = true ∧ xs.all flatV = true ∧ inV x xs = ds.any fun y => PyData.eqv y.py a.py := by
    intro ds xs c h2
    simp only [Bool.and_eq_true] at c
    have h := ha.flat c.1
    exact ⟨flat_V c.1 h, flat_all c.2 h2, flat_in c.1 h c.2 h2⟩
  cases b with
  | str z =>
    unfold D.inB at e
    simp only at e
    split at e
    · rename_i c
      exact .inl ⟨c, z, ha.str, hb.str, Option.some.inj e⟩
    · cases e
  | tup ds =>
    obtain ⟨p, xs, rfl, h1, h2⟩ := hb.tup s
    unfold D.inB at e
    simp only at e
    split at e
    · rename_i c
      obtain ⟨f1, f2, f3⟩ := fl c h2
      exact .inr (.inl ⟨p, xs, rfl, .inr h1, f1, f2, f3.trans (Option.some.inj e)⟩)
    · cases e
  | lst ds =>
    unfold D.inB at e
    simp only at e
    split at e
    · rename_i c
      obtain ⟨p, xs, rfl, h1, h2⟩ := hb.lst s
      obtain ⟨f1, f2, f3⟩ := fl c h2
      exact .inr (.inl ⟨p, xs, rfl, .inl (SqL.of h1), f1, f2, f3.trans (Option.some.inj e)⟩)
    · split at e
      · rename_i c
        simp only [Bool.and_eq_true] at c
        refine .inr (.inr ⟨a.py, D.pyL ds, ha.dp s (SeqAt.canLay_of_shaped c.1), hb.dp s (SeqAt.canLay_of_shaped c.2), c.1, c.2, ?_⟩)
        rw [← Option.some.inj e, D.pyL_map, List.any_map]
        rfl
      · cases e
  | _ => cases e
def rInS1 : R2 := fun x y H Q => ∃ (c : Nat) (z : Str), x = .str ⟨#[c]⟩ ∧ y = .str z ∧ Q (.bl (decide (c ∈ z.cps.toList))) H
def rNotInS1 : R2 := fun x y H Q => ∃ (c : Nat) (z : Str), x = .str ⟨#[c]⟩ ∧ y = .str z ∧ Q (.bl (!decide (c ∈ z.cps.toList))) H
theorem snd_in : OpSound K inD (fun x y H Q => rInS1 x y H Q ∨ rIn K false x y H Q ∨ rInD K x y H Q) := by
  intro H G x y a b Q s ha hb hq
  obtain ⟨r, e, q⟩ := GrPost.blO s hq
  rcases inB_of s ha hb e with ⟨c, z, h1, h2, h3⟩ | ⟨p, xs, h1, h2, h3, h4, h5⟩ | ⟨d, ds, h1, h2, h3, h4, h5⟩
  · exact .inl ⟨c, z, h1, h2, by rw [h3]; exact q⟩
  · refine .inr (.inl ⟨p, xs, h1, h2, h3, h4, ?_⟩)
    show Q (.bl (inV x xs)) H
    rw [h5]; exact q
  · exact .inr (.inr ⟨d, ds, h1, h2, h3, h4, by rw [h5]; exact q⟩)
theorem snd_notin : OpSound K notInD (fun x y H Q => rNotInS1 x y H Q ∨ rIn K true x y H Q ∨ rNotInD K x y H Q) := by
  intro H G x y a b Q s ha hb hq
  obtain ⟨r, e, q⟩ := GrPost.blO s hq
  rcases inB_of s ha hb e with ⟨c, z, h1, h2, h3⟩ | ⟨p, xs, h1, h2, h3, h4, h5⟩ | ⟨d, ds, h1, h2, h3, h4, h5⟩
  · exact .inl ⟨c, z, h1, h2, by rw [h3]; exact q⟩
  · refine .inr (.inl ⟨p, xs, h1, h2, h3, h4, ?_⟩)
    show Q (.bl (!inV x xs)) H
    rw [h5]; exact q
  · exact .inr (.inr ⟨d, ds, h1, h2, h3, h4, by rw [h5]; exact q⟩)
theorem op_eqA (hu : X.A.units + 65 < cLine) : OpR X (compareOp .Eq) (fun x y H Q => rEq x y H Q ∨ rEqM X.K x y H Q) := op_eq.or (op_eqM (by omega))
theorem op_neA (hu : X.A.units + 65 < cLine) : OpR X (compareOp .NotEq) (fun x y H Q => rNe x y H Q ∨ rNeM X.K x y H Q) := op_ne.or (op_neM (by omega))
theorem op_isA : OpR X (compareOp .Is) (fun x y H Q => rIsB x y H Q ∨ (y = .non ∧ Q (.bl (decide (x = .non))) H)) := op_is_bl.or op_isN
theorem op_isnotA : OpR X (compareOp .IsNot) (fun x y H Q => rNotB x y H Q ∨ (y = .non ∧ Q (.bl (!decide (x = .non))) H)) := op_isnot_bl.or op_notN
theorem op_inA (hu : X.A.units + 65 < cLine) : OpR X (compareOp .In) (fun x y H Q => rInS1 x y H Q ∨ rIn X.K false x y H Q ∨ rInD X.K x y H Q) := op_in_sign.or (op_in_seq.or (op_inD hu))
theorem op_notinA (hu : X.A.units + 65 < cLine) : OpR X (compareOp .NotIn) (fun x y H Q => rNotInS1 x y H Q ∨ rIn X.K true x y H Q ∨ rNotInD X.K x y H Q) := op_notIn_sign.or (op_notIn_seq.or (op_notInD hu))
end
section
variable {X : Cx} {W : WX} {a b : Expr} {Fa Fb : Fx} {pos : Pos}
theorem ex_eq (hu : X.A.units + 65 < cLine) (ha : EX X W a Fa) (hb : EX X W b Fb) : EX X W (.Compare a [.Eq] [b] pos) (op2F eqD Fa Fb) := ex_cmp (op_eqA hu) snd_eq ha hb (nomark _)
theorem ex_ne (hu : X.A.units + 65 < cLine) (ha : EX X W a Fa) (hb : EX X W b Fb) : EX X W (.Compare a [.NotEq] [b] pos) (op2F neD Fa Fb) := ex_cmp (op_neA hu) snd_ne ha hb (nomark _)
theorem ex_lt (ha : EX X W a Fa) (hb : EX X W b Fb) : EX X W (.Compare a [.Lt] [b] pos) (op2F ltD Fa Fb) := ex_cmp op_lt snd_lt ha hb (nomark _)
theorem ex_le (ha : EX X W a Fa) (hb : EX X W b Fb) : EX X W (.Compare a [.LtE] [b] pos) (op2F leD Fa Fb) := ex_cmp op_le snd_le ha hb (nomark _)
theorem ex_gt (ha : EX X W a Fa) (hb : EX X W b Fb) : EX X W (.Compare a [.Gt] [b] pos) (op2F gtD Fa Fb) := ex_cmp op_gt snd_gt ha hb (nomark _)
theorem ex_ge (ha : EX X W a Fa) (hb : EX X W b Fb) : EX X W (.Compare a [.GtE] [b] pos) (op2F geD Fa Fb) := ex_cmp op_ge snd_ge ha hb (nomark _)
theorem ex_is (ha : EX X W a Fa) (hb : EX X W b Fb) : EX X W (.Compare a [.Is] [b] pos) (op2F isD Fa Fb) := ex_cmp op_isA snd_is ha hb (nomark _)
theorem ex_isnot (ha : EX X W a Fa) (hb : EX X W b Fb) : EX X W (.Compare a [.IsNot] [b] pos) (op2F isNotD Fa Fb) := ex_cmp op_isnotA snd_isnot ha hb (nomark _)
theorem ex_in (hu : X.A.units + 65 < cLine) (ha : EX X W a Fa) (hb : EX X W b Fb) (hm : behindInMarks .In b = false := by rfl) : EX X W (.Compare a [.In] [b] pos) (op2F inD Fa Fb) := ex_cmp (op_inA hu) snd_in ha hb hm
theorem ex_notin (hu : X.A.units + 65 < cLine) (ha : EX X W a Fa) (hb : EX X W b Fb) (hm : behindInMarks .NotIn b = false := by rfl) : EX X W (.Compare a [.NotIn] [b] pos) (op2F notInD Fa Fb) := ex_cmp (op_notinA hu) snd_notin ha hb hm
end
end HF

set_option Elab.async false
set_option linter.all false
set_option maxRecDepth 100000
set_option maxHeartbeats 4000000
set_option autoImplicit false
namespace HF
open PySem PySem.Spec PyProof.Rows L2
/-! ### items -/
theorem RpL.atI {K : PySem.W.Frag} {G : Hp} {ds : List D} {xs : List V} {i : Int} {d : D} (h : RpL K G ds xs) (e : L2.atI ds i = some d) : ∃ x, L2.atI xs i = some x ∧ Rp K G d x := by
  unfold L2.atI at e ⊢
  rw [h.length]
  cases q : ixN ds.length i with
  | none => rw [q] at e; cases e
  | some j =>
    rw [q] at e
    exact h.get e
theorem atI_map {α β : Type} (f : α → β) (xs : List α) (i : Int) : L2.atI (xs.map f) i = (L2.atI xs i).map f := by
  unfold L2.atI
  rw [List.length_map]
  cases ixN xs.length i with
  | none => rfl
  | some j => exact List.getElem?_map
@[simp] def imO : Option D → Gr
  | some d => .im d
  | none => .stk
@[simp] def ixD : D → D → Gr
  | .tup ds, .int i => imO (L2.atI ds i)
  | .lst ds, .int i => imO (L2.atI ds i)
  | .str z, .int i => if szB z.length then imO ((L2.atI z.cps.toList i).map fun c => .str ⟨#[c]⟩) else .stk
  | .scr ns, .int i => imO ((L2.atI ns i).map D.int)
  | _, _ => .stk
theorem GrPost.imO {K : PySem.W.Frag} {H G : Hp} {Q : VK} {o : Option D} (h : GrPost K H G Q (imO o)) : ∃ d, o = some d ∧ GrPost K H G Q (.im d) := by
  cases o with
  | none => exact h.elim
  | some d => exact ⟨d, rfl, h⟩
theorem snd_ix {K : PySem.W.Frag} : OpSound K ixD (rIx K) := by
  intro H G x y a b Q s ha hb hq
  cases a with
  | tup ds =>
    cases b with
    | int i =>
      obtain ⟨d, e, q⟩ := hq.imO
      obtain ⟨p, xs, rfl, h1, h2⟩ := ha.tup s
      obtain ⟨v, e2, hv⟩ := h2.atI e
      exact .inr (.inl ⟨p, xs, i, v, rfl, hb.int, h1, e2, q.same s hv⟩)
    | _ => exact hq.elim
  | lst ds =>
    cases b with
    | int i =>
      obtain ⟨d, e, q⟩ := hq.imO
      obtain ⟨p, xs, rfl, h1, h2⟩ := ha.lst s
      obtain ⟨v, e2, hv⟩ := h2.atI e
      exact .inl ⟨p, xs, i, v, rfl, hb.int, SqL.of h1, e2, q.same s hv⟩
    | _ => exact hq.elim
  | str z =>
    cases b with
    | int i =>
      obtain ⟨c, hq⟩ := GrPost.cond hq
      obtain ⟨d, e, q⟩ := hq.imO
      cases e2 : L2.atI z.cps.toList i with
      | none => rw [e2] at e; cases e
      | some k =>
        rw [e2] at e
        cases e
        exact .inr (.inr ⟨z, i, k, ha.str, hb.int, szB_le c, e2, q.same s rfl⟩)
    | _ => exact hq.elim
  | scr ns =>
    cases b with
    | int i =>
      obtain ⟨d, e, q⟩ := hq.imO
      obtain ⟨p, rfl, h1⟩ := ha.scr s
      cases e2 : L2.atI ns i with
      | none => rw [e2] at e; cases e
      | some k =>
        rw [e2] at e
        cases e
        exact .inl ⟨p, _, i, .int k, rfl, hb.int, h1, by rw [atI_map, e2]; rfl, q.same s rfl⟩
    | _ => exact hq.elim
  | _ => cases b <;> exact hq.elim
theorem ex_item {X : Cx} {W : WX} {a b : Expr} {Fa Fb : Fx} {pos : Pos} (ha : EX X W a Fa) (hb : EX X W b Fb) (hp : PlainIx b := by exact fun _ _ => rfl) : EX X W (.Subscript a b pos) (op2F ixD Fa Fb) := ex_ix ix_seq snd_ix ha hb hp
/-! ### slices -/
inductive RsO where
  | ok (o : Option Int) (env : List Sl)
  | err (c : Str) (env : Option (List Sl))
  | stk
abbrev FxO := List Sl → RsO
def PostO (K : PySem.W.Frag) (mg : Str → Option Value) (W : WX) (σ : L2.St) (H G : Hp) (env : List Sl) (Q : Option Int → Hp → Prop) : RsO → Prop
  | .ok o env' => ∀ H' G', Stp K σ H G env H' G' env' → Q o H'
  | .err c e => ∀ C H', mg c = some (.ref C) → ErrAt K σ H G env H' e → W (.ref C) none σ H'
  | .stk => False
def tDO (K : PySem.W.Frag) (mg : Str → Option Value) (W : WX) (F : FxO) : TO := fun σ H Q => ∃ G env, ER K H G σ env ∧ PostO K mg W σ H G env Q (F env)
def OX (X : Cx) (W : WX) (e : Option Expr) (F : FxO) : Prop := PO X e (tDO X.K X.mg W F)
@[simp] def noneO  (env : List Sl) : RsO := .ok none env
@[simp] def someO (F : Fx)  (env : List Sl) : RsO := match F env with
  | .ok v e => (match v.rd e with
    | some (.int i) => .ok (some i) e
    | _ => .stk)
  | .err c e => .err c e
  | .stk => .stk
theorem PO.weak {X : Cx} {e : Option Expr} {t t' : TO} (h : PO X e t) (w : ∀ σ H Q, t' σ H Q → t σ H Q) : PO X e t' := ⟨fun pins s σ H Q I q => h.run pins s σ H Q I (w σ H Q q)⟩
section
variable {X : Cx} {W : WX}
theorem ox_none : OX X W none noneO := PO.weak po_none fun σ H Q ⟨G, env, r, h⟩ => h H G (Stp.refl r)
theorem ox_some {e : Expr} {F : Fx} (h : EX X W e F) : OX X W (some e) (someO F) := by
  refine PO.weak (po_some h) fun σ H Q ⟨G, env, r, h⟩ => ?_
  refine ⟨G, env, r, ?_⟩
  unfold someO at h
  cases e1 : F env with
  | stk => rw [e1] at h; exact h
  | err c e => rw [e1] at h; exact h
  | ok vl env1 =>
    rw [e1] at h
    simp only at h
    cases e2 : vl.rd env1 with
    | none => rw [e2] at h; exact h.elim
    | some d =>
      rw [e2] at h
      cases d with
      | int i => exact fun v H' G' s hv => ⟨i, (hv.read s.er e2).int, h H' G' s⟩
      | _ => exact h.elim
end
def cutL {α : Type} (xs : List α) (lo hi : Option Int) : List α := (xs.drop (HT.sIx xs.length 0 lo)).take (HT.sIx xs.length xs.length hi - HT.sIx xs.length 0 lo)
theorem RpL.cut {K : PySem.W.Frag} {G : Hp} {ds : List D} {xs : List V} (h : RpL K G ds xs) (lo hi : Option Int) : RpL K G (cutL ds lo hi) (cutV xs lo hi) := by
  unfold cutL cutV
  rw [h.length]
  exact (h.drop _).take _
@[simp] def slD (d : D) (lo hi : Option Int) : Gr := match d with
  | .lst ds => .fr (.lst (cutL ds lo hi))
  | .scr ns => .fr (.lst (cutL (ns.map D.int) lo hi))
  | .tup ds => .im (.tup (cutL ds lo hi))
  | .str z => if szB z.length then .im (.str (cutS z lo hi)) else .stk
  | _ => .stk
@[simp] def slF (Fa : Fx) (Fl Fh : FxO)  (env : List Sl) : Rs := bindR (Fa env) fun va e1 => match Fl e1 with
  | .ok lo e2 => (match Fh e2 with
    | .ok hi e3 => (match va.rd e3 with
      | some d => (slD d lo hi).rs e3
      | none => .stk)
    | .err c e => .err c e
    | .stk => .stk)
  | .err c e => .err c e
  | .stk => .stk
theorem PostO.shift {K : PySem.W.Frag} {mg : Str → Option Value} {W : WX} {σ : L2.St} {H G H1 G1 : Hp} {env env1 : List Sl} {Q : Option Int → Hp → Prop} (s : Stp K σ H G env H1 G1 env1) (r : ER K H G σ env) : ∀ {R : RsO}, PostO K mg W σ H G env Q R → PostO K mg W σ H1 G1 env1 Q R
  | .ok vl env', h => fun H' G' s' => h H' G' (s.trans s' r)
  | .err c (some e), h => fun C H' m ⟨G', s'⟩ => h C H' m ⟨G', s.trans s' r⟩
  | .err c none, h => fun C H' m k => h C H' m fun b o e nm => k b o (s.keep b o e nm) fun z => nm (z.of s.kin)
  | .stk, h => h
section
variable {X : Cx} {W : WX}
theorem sl_all {K : PySem.W.Frag} {H G : Hp} {x : V} {d : D} {lo hi : Option Int} {Q : VK} (s : Same G H) (h : RdAt K H G d x) (hq : GrPost K H G Q (slD d lo hi)) : rSlL K x lo hi H Q ∨ rSlA K x lo hi H Q ∨ rSlS x lo hi H Q := by
  cases d with
  | lst ds =>
    obtain ⟨p, xs, rfl, h1, h2⟩ := h.lst s
    exact .inl ⟨p, xs, rfl, SqL.of h1, fun q hp => hq.newL s (h2.cut lo hi) hp⟩
  | scr ns =>
    obtain ⟨p, rfl, h1⟩ := h.scr s
    exact .inl ⟨p, _, rfl, h1, fun q hp => hq.newL s ((RpL.ints ns).cut lo hi) hp⟩
  | tup ds =>
    obtain ⟨p, xs, rfl, h1, h2⟩ := h.tup s
    refine .inr (.inl ⟨p, xs, rfl, h1, fun w => ?_, fun w q hp => hq.newT s (h2.cut lo hi) hp⟩)
    have e : cutL ds lo hi = ds := by
      unfold cutL
      rw [h2.length] at w
      rw [w.1, w.2, List.drop_zero, Nat.sub_zero, List.take_length]
    rw [show slD (.tup ds) lo hi = .im (.tup (cutL ds lo hi)) from rfl, e] at hq
    exact hq.same s h.tup0
  | str z =>
    obtain ⟨c, hq⟩ := GrPost.cond hq
    exact .inr (.inr ⟨z, h.str, szB_le c, hq.same s rfl⟩)
  | _ => exact hq.elim
theorem ex_slice {e : Expr} {lo hi : Option Expr} {Fa : Fx} {Fl Fh : FxO} {p2 pos : Pos} (he : EX X W e Fa) (hl : OX X W lo Fl) (hh : OX X W hi Fh) : EX X W (.Subscript e (.Slice lo hi none p2) pos) (slF Fa Fl Fh) := by
  refine PE.weak (pe_slice (sl_list.or (sl_tupA.or sl_str)) he hl hh) fun σ H Q ⟨G, env, r, h⟩ => ?_
  refine tD_bind r h fun va e1 x H1 G1 s1 v1 p1 => ?_
  refine ⟨G1, e1, s1.er, ?_⟩
  have p1 := PostR.shift s1 r p1
  cases c1 : Fl e1 with
  | stk => simp only [c1] at p1; exact p1
  | err c e => simp only [c1] at p1; cases e <;> exact p1
  | ok lo e2 =>
    simp only [c1] at p1
    intro H2 G2 s2
    refine ⟨G2, e2, s2.er, ?_⟩
    have p2 := PostR.shift s2 s1.er p1
    cases c2 : Fh e2 with
    | stk => simp only [c2] at p2; exact p2
    | err c e => simp only [c2] at p2; cases e <;> exact p2
    | ok hi e3 =>
      simp only [c2] at p2
      intro H3 G3 s3
      have p3 := PostR.shift s3 s2.er p2
      cases c3 : va.rd e3 with
      | none => simp only [c3] at p3; exact p3.elim
      | some d =>
        simp only [c3] at p3
        have nm1 : ∀ p, H p = none → ¬ MuIs σ e1 p := fun p hp m => (MuIs.new r hp) (m.of s1.kin)
        have nm2 : ∀ p, H p = none → ¬ MuIs σ e2 p := fun p hp m => nm1 p hp (m.of s2.kin)
        have v3 := (v1.step s2 nm1).step s3 nm2
        exact sl_all s3.er.sub (v3.read s3.er c3) (GrPost.of s3.er p3)
end
/-! ### displays -/
@[simp] def Vls.toIm : List Vl → Option (List D)
  | [] => some []
  | l :: ls => match l.toIm, Vls.toIm ls with
    | some d, some ds => some (d :: ds)
    | _, _ => none
/-- as VlAt, perhaps frozen -/
def VlW (K : PySem.W.Frag) (H0 H G : Hp) (σ : L2.St) (env : List Sl) : Vl → V → Prop
  | .im d, v => Rp K G d v
  | .fr d, v => ∃ p, v = .ref p ∧ H0 p = none ∧ (G p = none ∨ G p = H p) ∧ MuAt K H G d p
  | .bo i, v => ∃ (s : Sl) (d : D) (p : Addr), env[i]? = some s ∧ s.mu = some d ∧ σ[i]? = some (some (.ref p)) ∧ v = .ref p
def VlsW (K : PySem.W.Frag) (H0 H G : Hp) (σ : L2.St) (env : List Sl) : List Vl → List V → Prop
  | [], xs => xs = []
  | l :: ls, xs => ∃ x r, xs = x :: r ∧ VlW K H0 H G σ env l x ∧ VlsW K H0 H G σ env ls r
theorem VlAt.w {K : PySem.W.Frag} {H0 H G : Hp} {σ : L2.St} {env : List Sl} {l : Vl} {v : V} (h : VlAt K H0 H G σ env l v) : VlW K H0 H G σ env l v := by
  cases l with
  | im d => exact h
  | fr d => obtain ⟨p, e1, e2, e3, e4⟩ := h; exact ⟨p, e1, e2, .inl e3, e4⟩
  | bo i => exact h
theorem VlsAt.w {K : PySem.W.Frag} {H0 H G : Hp} {σ : L2.St} {env : List Sl} : ∀ {ls : List Vl} {vs : List V}, VlsAt K H0 H G σ env ls vs → VlsW K H0 H G σ env ls vs
  | [], vs, h => h
  | l :: ls, vs, h => by
    obtain ⟨x, r, e, h1, h2⟩ := h
    exact ⟨x, r, e, h1.w, VlsAt.w h2⟩
theorem VlW.up {K : PySem.W.Frag} {H0 H G G' : Hp} {σ : L2.St} {env : List Sl} {l : Vl} {v : V} (h : VlW K H0 H G σ env l v) (g : Same G G') (k : ∀ b, G' b = G b ∨ G' b = H b) : VlW K H0 H G' σ env l v := by
  cases l with
  | im d => exact Rp.mono g d v h
  | bo i => exact h
  | fr d =>
    obtain ⟨p, e1, e2, e3, e4⟩ := h
    refine ⟨p, e1, e2, ?_, e4.mono rfl g⟩
    rcases k p with z | z
    · rw [z]; exact e3
    · exact .inr z
theorem VlsW.up {K : PySem.W.Frag} {H0 H G G' : Hp} {σ : L2.St} {env : List Sl} (g : Same G G') (k : ∀ b, G' b = G b ∨ G' b = H b) : ∀ {ls : List Vl} {vs : List V}, VlsW K H0 H G σ env ls vs → VlsW K H0 H G' σ env ls vs
  | [], vs, h => h
  | l :: ls, vs, h => by
    obtain ⟨x, r, e, h1, h2⟩ := h
    exact ⟨x, r, e, h1.up g k, VlsW.up g k h2⟩
theorem VlW.imm {K : PySem.W.Frag} {σ : L2.St} {H0 G0 H G : Hp} {env0 env : List Sl} {vl : Vl} {v : V} {d : D} (h : VlW K H0 H G σ env vl v) (s : Stp K σ H0 G0 env0 H G env) (r0 : ER K H0 G0 σ env0) (e : vl.toIm = some d) :
    ∃ G', Stp K σ H0 G0 env0 H G' env ∧ Same G G' ∧ (∀ b, G' b = G b ∨ G' b = H b) ∧ Rp K G' d v := by
  cases vl with
  | im d' => cases e; exact ⟨G, s, Same.refl _, fun _ => .inl rfl, h⟩
  | bo i => cases e
  | fr d' =>
    cases e
    obtain ⟨p, e1, e2, e3, e4⟩ := h
    by_cases gp : G p = none
    · have h' : VlAt K H0 H G σ env (.fr d) v := ⟨p, e1, e2, gp, e4⟩
      obtain ⟨G', g1, g2, g3, g4⟩ := e4.frz gp s.er.sub
      obtain ⟨G'', w1, w2, w3, w4⟩ := h'.imm s r0 rfl
      have np : ∀ b, H0 b ≠ none → b ≠ p := fun b hb z => hb (by rw [z]; exact e2)
      refine ⟨G', ⟨⟨s.er.len, g2, fun i d q => ?_, fun i t d q1 q2 => ?_, s.er.sep⟩, s.gr.trans g1, fun b hb hg => ?_, s.keep, s.kin⟩, g1, fun b => ?_, by rw [e1]; exact g4⟩
      · obtain ⟨v, w1, w2⟩ := s.er.val i d q
        exact ⟨v, w1, Rp.mono g1 d v w2⟩
      · obtain ⟨p', w1, w2, w3⟩ := s.er.mu i t d q1 q2
        have m : MuIs σ env0 p' := MuIs.of s.kin ⟨i, t, d, q1, q2, w1⟩
        exact ⟨p', w1, by rw [g3 p' (np p' (m.old r0))]; exact w2, w3.mono rfl g1⟩
      · rw [g3 b (np b hb)]
        exact s.old b hb hg
      · by_cases hb : b = p
        · right
          cases q : G' b with
          | none =>
            exfalso
            subst hb
            cases d with
            | lst ds => obtain ⟨a, xs, ea, eb, _⟩ := g4; cases ea; rw [q] at eb; cases eb
            | dct ks ds => obtain ⟨a, xs, ea, eb, _⟩ := g4; cases ea; rw [q] at eb; cases eb
            | _ => exact e4.elim
          | some o => exact (g2 b o q).symm
        · exact .inl (g3 b hb)
    · have e5 : G p = H p := by
        rcases e3 with z | z
        · exact absurd z gp
        · exact z
      refine ⟨G, s, Same.refl _, fun _ => .inl rfl, ?_⟩
      rw [e1]
      cases d with
      | lst ds => obtain ⟨xs, q1, q2⟩ := e4; exact ⟨p, xs, rfl, by rw [e5]; exact q1, q2⟩
      | dct ks ds => obtain ⟨xs, q1, q2, q3⟩ := e4; exact ⟨p, xs, rfl, by rw [e5]; exact q1, q2, q3⟩
      | _ => exact e4.elim
theorem VlsW.imm {K : PySem.W.Frag} {σ : L2.St} {H0 G0 H : Hp} {env0 env : List Sl} (r0 : ER K H0 G0 σ env0) : ∀ {vls : List Vl} {vs : List V} {ds : List D} {G : Hp}, VlsW K H0 H G σ env vls vs → Stp K σ H0 G0 env0 H G env → Vls.toIm vls = some ds →
    ∃ G', Stp K σ H0 G0 env0 H G' env ∧ Same G G' ∧ (∀ b, G' b = G b ∨ G' b = H b) ∧ RpL K G' ds vs
  | [], vs, ds, G, h, s, e => by cases e; exact ⟨G, s, Same.refl _, fun _ => .inl rfl, h⟩
  | l :: ls, vs, ds, G, h, s, e => by
    obtain ⟨x, r, rfl, h1, h2⟩ := h
    unfold Vls.toIm at e
    cases e1 : l.toIm with
    | none => rw [e1] at e; cases e
    | some d =>
      cases e2 : Vls.toIm ls with
      | none => rw [e1, e2] at e; cases e
      | some ds' =>
        rw [e1, e2] at e
        cases e
        obtain ⟨G1, s1, g1, k1, q1⟩ := h1.imm s r0 e1
        obtain ⟨G2, s2, g2, k2, q2⟩ := VlsW.imm r0 (VlsW.up g1 k1 h2) s1 e2
        refine ⟨G2, s2, g1.trans g2, fun b => ?_, x, r, rfl, Rp.mono g2 d x q1, q2⟩
        rcases k2 b with z | z
        · rw [z]; exact k1 b
        · exact .inr z
@[simp] def tupF (Fs : FxL)  (env : List Sl) : Rs := bindL (Fs env) fun vls e => match Vls.toIm vls with
  | some ds => if szB ds.length then .ok (.im (.tup ds)) e else .stk
  | none => .stk
@[simp] def lstF (Fs : FxL)  (env : List Sl) : Rs := bindL (Fs env) fun vls e => match Vls.toIm vls with
  | some ds => if szB ds.length then .ok (.fr (.lst ds)) e else .stk
  | none => .stk
theorem imL_length : ∀ {vls : List Vl} {ds : List D}, Vls.toIm vls = some ds → ds.length = vls.length
  | [], ds, e => by cases e; rfl
  | l :: ls, ds, e => by
    unfold Vls.toIm at e
    cases e1 : l.toIm with
    | none => rw [e1] at e; cases e
    | some d =>
      cases e2 : Vls.toIm ls with
      | none => rw [e1, e2] at e; cases e
      | some ds' =>
        rw [e1, e2] at e
        cases e
        rw [List.length_cons, List.length_cons, imL_length e2]
section
variable {X : Cx} {W : WX} {es : List Expr} {Fs : FxL} {pos : Pos}
theorem ex_tup {x1} (h : AX X W es Fs) : EX X W (.Tuple es x1 pos) (tupF Fs) := by
  refine PE.weak (pe_tup h) fun σ H Q ⟨G, env, r, h⟩ => ?_
  refine tDA_bind r h fun vls e1 vs H1 G1 s1 v1 p1 => ?_
  cases e : Vls.toIm vls with
  | none => simp only [e] at p1; exact p1.elim
  | some ds =>
    simp only [e] at p1
    split at p1
    · rename_i c
      obtain ⟨G2, s2, g2, k2, q2⟩ := VlsW.imm r v1.w s1 e
      refine ⟨by rw [q2.length]; exact szB_le c, fun p hp => ?_⟩
      have g := GS.new (o := .tup vs) s2.er.sub hp
      exact p1 _ _ _ (s2.trans (Stp.gs s2.er g) r) ⟨p, vs, rfl, SqT.of upd_same, RpL.mono g.gg _ _ q2⟩
    · exact p1.elim
theorem ex_lst (h : AX X W es Fs) : EX X W (.List es pos) (lstF Fs) := by
  refine PE.weak (pe_lst h) fun σ H Q ⟨G, env, r, h⟩ => ?_
  refine tDA_bind r h fun vls e1 vs H1 G1 s1 v1 p1 => ?_
  cases e : Vls.toIm vls with
  | none => simp only [e] at p1; exact p1.elim
  | some ds =>
    simp only [e] at p1
    split at p1
    · rename_i c
      obtain ⟨G2, s2, g2, k2, q2⟩ := VlsW.imm r v1.w s1 e
      refine ⟨by rw [q2.length]; exact szB_le c, fun p hp => ?_⟩
      have g := GS.newH (o := .lst vs) s2.er.sub hp
      exact p1 _ _ _ (s2.trans (Stp.gs s2.er g) r) ⟨p, rfl, s2.free r hp, s2.er.sub.free hp, vs, upd_same, q2⟩
    · exact p1.elim
end
end HF

set_option Elab.async false
set_option linter.all false
set_option maxRecDepth 100000
set_option maxHeartbeats 4000000
set_option autoImplicit false
namespace HF
open PySem PySem.Spec PyProof.Rows L2
/-! ### built-in functions -/
def D.cn : D → Option String
  | .non => some "NoneType"
  | .bl _ => some "bool"
  | .int _ => some "int"
  | .str _ => some "str"
  | .tup _ => some "tuple"
  | .lst _ => some "list"
  | .dct _ _ => some "dict"
  | _ => none
@[simp] def D.isi : D → Ty → Option Bool
  | .non, _ => some false
  | .bl _, .bool => some true
  | .bl _, .int => some true
  | .bl _, _ => some false
  | .int _, .int => some true
  | .int _, _ => some false
  | .str _, .str => some true
  | .str _, _ => some false
  | .tup _, .tuple => some true
  | .tup _, _ => some false
  | .lst _, .list => some true
  | .lst _, _ => some false
  | .dct _ _, _ => some false
  | _, _ => none
@[simp] def isiG : List D → Gr
  | [x, .ty t] => blO id (x.isi t)
  | _ => .stk
theorem isi_kit : ∀ {x : D} {t : Ty} {b : Bool}, x.isi t = some b → ∃ c, x.cn = some c ∧ kitB c t.name = some b := by
  intro x t b h
  cases x <;> cases t <;> first | (cases h; exact ⟨_, rfl, by decide +kernel⟩) | cases h
theorem RdAt.tyX {K : PySem.W.Frag} {H G : Hp} {x : D} {v : V} {c : String} (s : Same G H) (h : RdAt K H G x v) (e : x.cn = some c) : TyX K H v (.type c) := by
  cases x with
  | non => cases e; rw [h.non]; exact .base .non
  | bl b => cases e; rw [h.bl]; exact .base (.bl _)
  | int b => cases e; rw [h.int]; exact .base (.int _)
  | str b => cases e; rw [h.str]; exact .base (.str _)
  | tup ds =>
    cases e
    obtain ⟨p, xs, rfl, h1, h2⟩ := h.tup s
    rcases h1 with (h1 | ⟨o, h1⟩) | ⟨o, its, n, h1, h2, _⟩
    · exact .base (.tup h1)
    · exact .fTuple h1
    · exact .kTuple h1 h2
  | lst ds =>
    cases e
    obtain ⟨p, xs, rfl, h1, h2⟩ := h.lst s
    exact .base (.lst h1)
  | dct ks ds =>
    cases e
    obtain ⟨p, xs, rfl, h1, h2⟩ := h.dct s
    exact .base (.dK h1)
  | _ => cases e
theorem RdsAt.two {K : PySem.W.Frag} {H G : Hp} {a b : D} {xs : List V} (h : RdsAt K H G [a, b] xs) : ∃ x y, xs = [x, y] ∧ RdAt K H G a x ∧ RdAt K H G b y := by
  obtain ⟨x, r, rfl, h1, y, r', rfl, h2, h3⟩ := h
  rw [show r' = [] from h3]
  exact ⟨x, y, rfl, h1, h2⟩
theorem RdsAt.one {K : PySem.W.Frag} {H G : Hp} {a : D} {xs : List V} (h : RdsAt K H G [a] xs) : ∃ x, xs = [x] ∧ RdAt K H G a x := by
  obtain ⟨x, r, rfl, h1, h3⟩ := h
  rw [show r = [] from h3]
  exact ⟨x, rfl, h1⟩
theorem snd_isi {K : PySem.W.Frag} : ClSound K isiG (rIsi K) := by
  intro H G xs ds Q s h hq
  unfold isiG at hq
  split at hq
  · rename_i x t
    obtain ⟨b, e, q⟩ := GrPost.blO s hq
    obtain ⟨v, u, rfl, h1, h2⟩ := h.two
    obtain ⟨c, e1, e2⟩ := isi_kit e
    exact ⟨v, u, .type c, .type t.name, b, rfl, by rw [h2.ty]; exact .ty _, h1.tyX s e1, kit_ty e2, q⟩
  · exact hq.elim
@[simp] def lenG : List D → Gr
  | [.str z] => if szB z.length then .im (.int z.length) else .stk
  | [.tup ds] => .im (.int ds.length)
  | [.lst ds] => .im (.int ds.length)
  | [.scr ns] => .im (.int ns.length)
  | _ => .stk
theorem snd_len {K : PySem.W.Frag} : ClSound K lenG (fun xs H Q => ∃ x n, xs = [x] ∧ LenV K x H n ∧ Q (.int n) H) := by
  intro H G xs ds Q s h hq
  unfold lenG at hq
  split at hq
  · rename_i z
    obtain ⟨c, hq⟩ := GrPost.cond hq
    obtain ⟨v, rfl, h1⟩ := h.one
    exact ⟨v, z.length, rfl, by rw [h1.str]; exact ⟨szB_le c, rfl⟩, hq.same s rfl⟩
  · rename_i ds
    obtain ⟨v, rfl, h1⟩ := h.one
    obtain ⟨p, xs, rfl, h1, h2⟩ := h1.tup s
    exact ⟨_, ds.length, rfl, .inr ⟨xs, h1, h2.length.symm⟩, hq.same s rfl⟩
  · rename_i ds
    obtain ⟨v, rfl, h1⟩ := h.one
    obtain ⟨p, xs, rfl, h1, h2⟩ := h1.lst s
    exact ⟨_, ds.length, rfl, .inl ⟨xs, SqL.of h1, h2.length.symm⟩, hq.same s rfl⟩
  · rename_i ns
    obtain ⟨v, rfl, h0⟩ := h.one
    obtain ⟨p, rfl, h1⟩ := RdAt.scr s h0
    exact ⟨_, ns.length, rfl, .inl ⟨_, h1, (List.length_map _).symm⟩, hq.same s rfl⟩
  · exact hq.elim
@[simp] def absG : List D → Gr
  | [.int i] => .im (.int (if i < 0 then -i else i))
  | _ => .stk
theorem snd_abs {K : PySem.W.Frag} : ClSound K absG (fun xs H Q => ∃ i, xs = [.int i] ∧ Q (.int (if i < 0 then -i else i)) H) := by
  intro H G xs ds Q s h hq
  unfold absG at hq
  split at hq
  · rename_i i
    obtain ⟨v, rfl, h1⟩ := h.one
    exact ⟨i, by rw [h1.int], hq.same s rfl⟩
  · exact hq.elim
@[simp] def intG : List D → Gr
  | [.int i] => .im (.int i)
  | [.bl b] => .im (.int (if b then 1 else 0))
  | [.str a] => if decide (a.length ≤ 640) then imO ((PySem.intText? a).map D.int) else .stk
  | _ => .stk
theorem snd_int {K : PySem.W.Frag} : ClSound K intG (fun xs H Q => ((∃ i, xs = [.int i] ∧ Q (.int i) H) ∨ ∃ k, xs = [.bl k] ∧ Q (.int (if k then 1 else 0)) H) ∨ ∃ a n, xs = [.str a] ∧ PySem.intText? a = some n ∧ a.length ≤ 640 ∧ Q (.int n) H) := by
  intro H G xs ds Q s h hq
  unfold intG at hq
  split at hq
  · rename_i i
    obtain ⟨v, rfl, h1⟩ := h.one
    exact .inl (.inl ⟨i, by rw [h1.int], hq.same s rfl⟩)
  · rename_i i
    obtain ⟨v, rfl, h1⟩ := h.one
    exact .inl (.inr ⟨i, by rw [h1.bl], hq.same s rfl⟩)
  · rename_i a
    obtain ⟨c, hq⟩ := GrPost.cond hq
    obtain ⟨v, rfl, h1⟩ := h.one
    obtain ⟨d, e, q⟩ := hq.imO
    cases e2 : PySem.intText? a with
    | none => rw [e2] at e; cases e
    | some n =>
      rw [e2] at e
      cases e
      exact .inr ⟨a, n, by rw [h1.str], e2, of_decide_eq_true c, q.same s rfl⟩
  · exact hq.elim
@[simp] def strG : List D → Gr
  | [.int i] => if decide (i.natAbs.log2 < 1920) then .im (.str (toString i : String)) else .stk
  | _ => .stk
theorem snd_str {K : PySem.W.Frag} : ClSound K strG (fun xs H Q => ∃ i, xs = [.int i] ∧ i.natAbs.log2 < 1920 ∧ Q (.str (toString i)) H) := by
  intro H G xs ds Q s h hq
  unfold strG at hq
  split at hq
  · rename_i i
    obtain ⟨c, hq⟩ := GrPost.condD hq
    obtain ⟨v, rfl, h1⟩ := h.one
    exact ⟨i, by rw [h1.int], c, hq.same s rfl⟩
  · exact hq.elim
@[simp] def tupG : List D → Gr
  | [.lst ds] => .im (.tup ds)
  | [.tup ds] => .im (.tup ds)
  | _ => .stk
theorem snd_tupOf {K : PySem.W.Frag} : ClSound K tupG (fun xs H Q => ∃ p ys, xs = [.ref p] ∧ ((SqL K H p ys ∧ ∀ l, H l = none → Q (.ref l) (upd H l (.tup ys))) ∨ (SqT K H p ys ∧ Q (.ref p) H))) := by
  intro H G xs ds Q s h hq
  unfold tupG at hq
  split at hq
  · rename_i ds
    obtain ⟨v, rfl, h1⟩ := h.one
    obtain ⟨p, xs, rfl, h1, h2⟩ := h1.lst s
    exact ⟨p, xs, rfl, .inl ⟨SqL.of h1, fun l hl => hq.newT s h2 hl⟩⟩
  · rename_i ds
    obtain ⟨v, rfl, h1⟩ := h.one
    have h0 := h1.tup0
    obtain ⟨p, xs, rfl, h1, h2⟩ := h1.tup s
    exact ⟨p, xs, rfl, .inr ⟨h1, hq.same s h0⟩⟩
  · exact hq.elim
@[simp] def lstG : List D → Gr
  | [.lst ds] => .fr (.lst ds)
  | [.tup ds] => .fr (.lst ds)
  | [.scr ns] => .fr (.lst (ns.map D.int))
  | _ => .stk
theorem snd_lstOf {K : PySem.W.Frag} : ClSound K lstG (fun xs H Q => ∃ p ys, xs = [.ref p] ∧ (SqL K H p ys ∨ SqT K H p ys) ∧ ∀ l, H l = none → Q (.ref l) (upd H l (.lst ys))) := by
  intro H G xs ds Q s h hq
  unfold lstG at hq
  split at hq
  · rename_i ds
    obtain ⟨v, rfl, h1⟩ := h.one
    obtain ⟨p, xs, rfl, h1, h2⟩ := h1.lst s
    exact ⟨p, xs, rfl, .inl (SqL.of h1), fun l hl => hq.newL s h2 hl⟩
  · rename_i ds
    obtain ⟨v, rfl, h1⟩ := h.one
    obtain ⟨p, xs, rfl, h1, h2⟩ := h1.tup s
    exact ⟨p, xs, rfl, .inr h1, fun l hl => hq.newL s h2 hl⟩
  · rename_i ns
    obtain ⟨v, rfl, h0⟩ := h.one
    obtain ⟨p, rfl, h1⟩ := RdAt.scr s h0
    exact ⟨p, _, rfl, .inl h1, fun l hl => hq.newL s (RpL.ints ns) hl⟩
  · exact hq.elim
@[simp] def blsD : List D → Option (List Bool)
  | [] => some []
  | .bl b :: r => (blsD r).map (b :: ·)
  | _ => none
@[simp] def intsD : List D → Option (List Int)
  | [] => some []
  | .int b :: r => (intsD r).map (b :: ·)
  | _ => none
theorem blsD_of {K : PySem.W.Frag} {G : Hp} : ∀ {ds : List D} {xs : List V} {bs : List Bool}, RpL K G ds xs → blsD ds = some bs → xs = bs.map V.bl
  | [], xs, bs, h, e => by cases e; exact h
  | .bl b :: r, xs, bs, h, e => by
    obtain ⟨x, r', rfl, h1, h2⟩ := h
    unfold blsD at e
    cases e2 : blsD r with
    | none => rw [e2] at e; cases e
    | some bs' =>
      rw [e2] at e
      cases e
      rw [blsD_of h2 e2, show x = .bl b from h1]
      rfl
  | .non :: r, xs, bs, h, e => by cases e
  | .int _ :: r, xs, bs, h, e => by cases e
  | .str _ :: r, xs, bs, h, e => by cases e
  | .tup _ :: r, xs, bs, h, e => by cases e
  | .lst _ :: r, xs, bs, h, e => by cases e
  | .dct _ _ :: r, xs, bs, h, e => by cases e
  | .scr _ :: r, xs, bs, h, e => by cases e
  | .ty _ :: r, xs, bs, h, e => by cases e
  | .ob _ :: r, xs, bs, h, e => by cases e
theorem intsD_of {K : PySem.W.Frag} {G : Hp} : ∀ {ds : List D} {xs : List V} {bs : List Int}, RpL K G ds xs → intsD ds = some bs → xs = bs.map V.int
  | [], xs, bs, h, e => by cases e; exact h
  | .int b :: r, xs, bs, h, e => by
    obtain ⟨x, r', rfl, h1, h2⟩ := h
    unfold intsD at e
    cases e2 : intsD r with
    | none => rw [e2] at e; cases e
    | some bs' =>
      rw [e2] at e
      cases e
      rw [intsD_of h2 e2, show x = .int b from h1]
      rfl
  | .non :: r, xs, bs, h, e => by cases e
  | .bl _ :: r, xs, bs, h, e => by cases e
  | .str _ :: r, xs, bs, h, e => by cases e
  | .tup _ :: r, xs, bs, h, e => by cases e
  | .lst _ :: r, xs, bs, h, e => by cases e
  | .dct _ _ :: r, xs, bs, h, e => by cases e
  | .scr _ :: r, xs, bs, h, e => by cases e
  | .ty _ :: r, xs, bs, h, e => by cases e
  | .ob _ :: r, xs, bs, h, e => by cases e
@[simp] def allG : List D → Gr
  | [.lst ds] => imO ((blsD ds).map fun bs => .bl (bs.all id))
  | _ => .stk
@[simp] def anyG : List D → Gr
  | [.lst ds] => imO ((blsD ds).map fun bs => .bl (bs.any id))
  | _ => .stk
@[simp] def sumG : List D → Gr
  | [.lst ds] => imO ((intsD ds).map fun bs => .int bs.sum)
  | _ => .stk
theorem snd_all {K : PySem.W.Frag} : ClSound K allG (rAll K) := by
  intro H G xs ds Q s h hq
  unfold allG at hq
  split at hq
  · rename_i ds
    obtain ⟨v, rfl, h1⟩ := h.one
    obtain ⟨p, xs, rfl, h1, h2⟩ := h1.lst s
    obtain ⟨d, e, q⟩ := hq.imO
    cases e2 : blsD ds with
    | none => rw [e2] at e; cases e
    | some bs =>
      rw [e2] at e
      cases e
      exact ⟨p, bs, rfl, by rw [← blsD_of h2 e2]; exact SqL.of h1, q.same s rfl⟩
  · exact hq.elim
theorem snd_any {K : PySem.W.Frag} : ClSound K anyG (rAny K) := by
  intro H G xs ds Q s h hq
  unfold anyG at hq
  split at hq
  · rename_i ds
    obtain ⟨v, rfl, h1⟩ := h.one
    obtain ⟨p, xs, rfl, h1, h2⟩ := h1.lst s
    obtain ⟨d, e, q⟩ := hq.imO
    cases e2 : blsD ds with
    | none => rw [e2] at e; cases e
    | some bs =>
      rw [e2] at e
      cases e
      exact ⟨p, bs, rfl, by rw [← blsD_of h2 e2]; exact SqL.of h1, q.same s rfl⟩
  · exact hq.elim
theorem snd_sum {K : PySem.W.Frag} : ClSound K sumG (rSum K) := by
  intro H G xs ds Q s h hq
  unfold sumG at hq
  split at hq
  · rename_i ds
    obtain ⟨v, rfl, h1⟩ := h.one
    obtain ⟨p, xs, rfl, h1, h2⟩ := h1.lst s
    obtain ⟨d, e, q⟩ := hq.imO
    cases e2 : intsD ds with
    | none => rw [e2] at e; cases e
    | some bs =>
      rw [e2] at e
      cases e
      exact ⟨p, bs, rfl, by rw [← intsD_of h2 e2]; exact SqL.of h1, q.same s rfl⟩
  · exact hq.elim
section
variable {X : Cx} {W : WX} {p pos : Pos} {e : Expr} {es : List Expr} {Fs : FxL}
theorem ex_ty {x : Str} {t : Ty} {pos : Pos} (hm : X.mg x = none) (hv : bootBuiltins x = some (.type t.name) := by decide +kernel) (hg : Gl X x := by rfl) (hn : x ≠ "__name__" := by decide) (hd : (x == ("__debug__" : Str)) = false := by decide) : EX X W (.Name x pos) (cF (.ty t)) :=
  ex_c (pe_bltn (v := .ty t.name) hg hm hv rfl hn hd) fun _ => rfl
theorem ex_isi (hm : X.mg "isinstance" = none) (ha : AX X W (e :: es) Fs) (hg : Gl X "isinstance" := by rfl) (he : starEach (e :: es) X.env = (false, eval e X.env) :: starEach es X.env := by rfl) (hpl : (backTo pos (starEach es X.env)).any (·.1) = false := by rfl) : EX X W (.Call (.Name "isinstance" p) (e :: es) [] pos) (blF isiG Fs) :=
  ex_callB (id := "isinstance") call_isi snd_isi hm (by decide +kernel) ha hg (by decide) (by decide) he hpl
theorem ex_len (hm : X.mg "len" = none) (ha : AX X W (e :: es) Fs) (hg : Gl X "len" := by rfl) (he : starEach (e :: es) X.env = (false, eval e X.env) :: starEach es X.env := by rfl) (hpl : (backTo pos (starEach es X.env)).any (·.1) = false := by rfl) : EX X W (.Call (.Name "len" p) (e :: es) [] pos) (blF lenG Fs) :=
  ex_callB (id := "len") call_len snd_len hm (by decide +kernel) ha hg (by decide) (by decide) he hpl
theorem ex_abs (hm : X.mg "abs" = none) (ha : AX X W (e :: es) Fs) (hg : Gl X "abs" := by rfl) (he : starEach (e :: es) X.env = (false, eval e X.env) :: starEach es X.env := by rfl) (hpl : (backTo pos (starEach es X.env)).any (·.1) = false := by rfl) : EX X W (.Call (.Name "abs" p) (e :: es) [] pos) (blF absG Fs) :=
  ex_callB (id := "abs") call_abs snd_abs hm (by decide +kernel) ha hg (by decide) (by decide) he hpl
theorem ex_intC (hm : X.mg "int" = none) (ha : AX X W (e :: es) Fs) (hg : Gl X "int" := by rfl) (he : starEach (e :: es) X.env = (false, eval e X.env) :: starEach es X.env := by rfl) (hpl : (backTo pos (starEach es X.env)).any (·.1) = false := by rfl) : EX X W (.Call (.Name "int" p) (e :: es) [] pos) (blF intG Fs) :=
  ex_callTy (T := "int") (call_int1.or call_int_str) snd_int hm (by decide +kernel) ha hg (by decide) (by decide) he hpl
theorem ex_strC (hm : X.mg "str" = none) (ha : AX X W (e :: es) Fs) (hg : Gl X "str" := by rfl) (he : starEach (e :: es) X.env = (false, eval e X.env) :: starEach es X.env := by rfl) (hpl : (backTo pos (starEach es X.env)).any (·.1) = false := by rfl) : EX X W (.Call (.Name "str" p) (e :: es) [] pos) (blF strG Fs) :=
  ex_callTy (T := "str") call_str_int snd_str hm (by decide +kernel) ha hg (by decide) (by decide) he hpl
theorem ex_tupC (hm : X.mg "tuple" = none) (ha : AX X W (e :: es) Fs) (hg : Gl X "tuple" := by rfl) (he : starEach (e :: es) X.env = (false, eval e X.env) :: starEach es X.env := by rfl) (hpl : (backTo pos (starEach es X.env)).any (·.1) = false := by rfl) : EX X W (.Call (.Name "tuple" p) (e :: es) [] pos) (blF tupG Fs) :=
  ex_callTy (T := "tuple") call_tuple_of snd_tupOf hm (by decide +kernel) ha hg (by decide) (by decide) he hpl
theorem ex_lstC (hm : X.mg "list" = none) (ha : AX X W (e :: es) Fs) (hg : Gl X "list" := by rfl) (he : starEach (e :: es) X.env = (false, eval e X.env) :: starEach es X.env := by rfl) (hpl : (backTo pos (starEach es X.env)).any (·.1) = false := by rfl) : EX X W (.Call (.Name "list" p) (e :: es) [] pos) (blF lstG Fs) :=
  ex_callTy (T := "list") call_list_of snd_lstOf hm (by decide +kernel) ha hg (by decide) (by decide) he hpl
theorem ex_all (hc : X.calm = true) (hm : X.mg "all" = none) (ha : AX X W (e :: es) Fs) (hg : Gl X "all" := by rfl) (he : starEach (e :: es) X.env = (false, eval e X.env) :: starEach es X.env := by rfl) (hpl : (backTo pos (starEach es X.env)).any (·.1) = false := by rfl) : EX X W (.Call (.Name "all" p) (e :: es) [] pos) (blF allG Fs) :=
  ex_callB (id := "all") (cr_all hc) snd_all hm (by decide +kernel) ha hg (by decide) (by decide) he hpl
theorem ex_any (hc : X.calm = true) (hm : X.mg "any" = none) (ha : AX X W (e :: es) Fs) (hg : Gl X "any" := by rfl) (he : starEach (e :: es) X.env = (false, eval e X.env) :: starEach es X.env := by rfl) (hpl : (backTo pos (starEach es X.env)).any (·.1) = false := by rfl) : EX X W (.Call (.Name "any" p) (e :: es) [] pos) (blF anyG Fs) :=
  ex_callB (id := "any") (cr_any hc) snd_any hm (by decide +kernel) ha hg (by decide) (by decide) he hpl
theorem ex_sum (hc : X.calm = true) (hm : X.mg "sum" = none) (ha : AX X W (e :: es) Fs) (hg : Gl X "sum" := by rfl) (he : starEach (e :: es) X.env = (false, eval e X.env) :: starEach es X.env := by rfl) (hpl : (backTo pos (starEach es X.env)).any (·.1) = false := by rfl) : EX X W (.Call (.Name "sum" p) (e :: es) [] pos) (blF sumG Fs) :=
  ex_callB (id := "sum") (cr_sum hc) snd_sum hm (by decide +kernel) ha hg (by decide) (by decide) he hpl
end
/-! ### tests -/
def PostT (K : PySem.W.Frag) (mg : Str → Option Value) (W : WX) (σ : L2.St) (H G : Hp) (env : List Sl) (Q : Bool → Hp → Prop) : Rs → Prop
  | .ok (.im (.bl b)) env' => ∀ H' G', Stp K σ H G env H' G' env' → Q b H'
  | .err c e => ∀ C H', mg c = some (.ref C) → ErrAt K σ H G env H' e → W (.ref C) none σ H'
  | _ => False
def tT (K : PySem.W.Frag) (mg : Str → Option Value) (W : WX) (F : Fx) : TT := fun σ H Q => ∃ G env, ER K H G σ env ∧ PostT K mg W σ H G env Q (F env)
def TX (X : Cx) (W : WX) (e : Expr) (F : Fx) : Prop := PT X e (tT X.K X.mg W F)
theorem tT_tD {K : PySem.W.Frag} {mg : Str → Option Value} {W : WX} {F : Fx} {σ : L2.St} {H : Hp} {Q : Bool → Hp → Prop} (h : tT K mg W F σ H Q) : tD K mg W F σ H (fun x H' => ∃ k, x = .bl k ∧ Q k H') := by
  obtain ⟨G, env, r, h⟩ := h
  refine ⟨G, env, r, ?_⟩
  cases e : F env with
  | stk => rw [e] at h; exact h
  | err c e' => rw [e] at h; exact h
  | ok vl env' =>
    rw [e] at h
    cases vl with
    | im d =>
      cases d with
      | bl b => exact fun v H' G' s hv => ⟨b, hv, h H' G' s⟩
      | _ => exact h.elim
    | _ => exact h.elim
@[simp] def andF (Fa Fb : Fx)  (env : List Sl) : Rs := bindR (Fa env) fun v e => match v with
  | .im (.bl true) => Fb e
  | .im (.bl false) => .ok (.im (.bl false)) e
  | _ => .stk
@[simp] def orF (Fa Fb : Fx)  (env : List Sl) : Rs := bindR (Fa env) fun v e => match v with
  | .im (.bl false) => Fb e
  | .im (.bl true) => .ok (.im (.bl true)) e
  | _ => .stk
@[simp] def notF (Fa : Fx)  (env : List Sl) : Rs := bindR (Fa env) fun v e => match v with
  | .im (.bl b) => .ok (.im (.bl (!b))) e
  | _ => .stk
@[simp] def iteF (Fc Fa Fb : Fx)  (env : List Sl) : Rs := bindR (Fc env) fun v e => match v with
  | .im (.bl true) => Fa e
  | .im (.bl false) => Fb e
  | _ => .stk
section
variable {K : PySem.W.Frag} {mg : Str → Option Value} {W : WX} {σ : L2.St} {H G H1 G1 : Hp} {env env1 : List Sl}
theorem PostT.shift {Q : Bool → Hp → Prop} (s : Stp K σ H G env H1 G1 env1) (r : ER K H G σ env) : ∀ {R : Rs}, PostT K mg W σ H G env Q R → PostT K mg W σ H1 G1 env1 Q R
  | .ok (.im (.bl b)) env', h => fun H' G' s' => h H' G' (s.trans s' r)
  | .ok (.im .non) env', h => h
  | .ok (.im (.int _)) env', h => h
  | .ok (.im (.str _)) env', h => h
  | .ok (.im (.tup _)) env', h => h
  | .ok (.im (.lst _)) env', h => h
  | .ok (.im (.dct _ _)) env', h => h
  | .ok (.im (.scr _)) env', h => h
  | .ok (.im (.ty _)) env', h => h
  | .ok (.fr _) env', h => h
  | .ok (.bo _) env', h => h
  | .err c (some e), h => fun C H' m ⟨G', s'⟩ => h C H' m ⟨G', s.trans s' r⟩
  | .err c none, h => fun C H' m k => h C H' m fun b o e nm => k b o (s.keep b o e nm) fun z => nm (z.of s.kin)
  | .stk, h => h
/-- a test first -/
theorem tT_bind {F : Fx} {k : Bool → Hp → Prop} {P : Rs → Prop} {f : Bool → List Sl → Rs} (r : ER K H G σ env)
    (hb : ∀ b e, F env = .ok (.im (.bl b)) e → P (f b e)) (he : ∀ c e, F env = .err c e → PostT K mg W σ H G env k (.err c e)) (hs : ∀ vl e, F env = .ok vl e → (∀ b, vl ≠ .im (.bl b)) → False) (h0 : F env ≠ .stk)
    (st : ∀ b env1 H1 G1, Stp K σ H G env H1 G1 env1 → P (f b env1) → k b H1) : tT K mg W F σ H k := by
  refine ⟨G, env, r, ?_⟩
  cases e : F env with
  | stk => exact absurd e h0
  | err c e' => exact he c e' e
  | ok vl env' =>
    cases vl with
    | im d =>
      cases d with
      | bl b => exact fun H1 G1 s => st b env' H1 G1 s (hb b env' e)
      | _ => exact (hs _ _ e (fun b z => nomatch z)).elim
    | _ => exact (hs _ _ e (fun b z => nomatch z)).elim
/-- the same, of a result that is to be reached by the test's branches -/
theorem tT_then {F : Fx} {k : Bool → Hp → Prop} {Q : VK} {A B : List Sl → Rs} (r : ER K H G σ env)
    (h : PostR K mg W σ H G env Q (bindR (F env) fun v e => match v with
      | .im (.bl true) => A e
      | .im (.bl false) => B e
      | _ => .stk))
    (st : ∀ b env1 H1 G1, Stp K σ H G env H1 G1 env1 → PostR K mg W σ H1 G1 env1 Q (if b then A env1 else B env1) → k b H1) : tT K mg W F σ H k := by
  refine ⟨G, env, r, ?_⟩
  cases e : F env with
  | stk => rw [e] at h; exact h
  | err c e' => rw [e] at h; exact h
  | ok vl env' =>
    rw [e] at h
    cases vl with
    | im d =>
      cases d with
      | bl b =>
        intro H1 G1 s
        refine st b env' H1 G1 s ?_
        cases b <;> exact PostR.shift s r h
      | _ => exact h.elim
    | _ => exact h.elim
theorem tT_thenT {F : Fx} {k : Bool → Hp → Prop} {Q : Bool → Hp → Prop} {A B : List Sl → Rs} (r : ER K H G σ env)
    (h : PostT K mg W σ H G env Q (bindR (F env) fun v e => match v with
      | .im (.bl true) => A e
      | .im (.bl false) => B e
      | _ => .stk))
    (st : ∀ b env1 H1 G1, Stp K σ H G env H1 G1 env1 → PostT K mg W σ H1 G1 env1 Q (if b then A env1 else B env1) → k b H1) : tT K mg W F σ H k := by
  refine ⟨G, env, r, ?_⟩
  cases e : F env with
  | stk => rw [e] at h; exact h
  | err c e' => rw [e] at h; exact h
  | ok vl env' =>
    rw [e] at h
    cases vl with
    | im d =>
      cases d with
      | bl b =>
        intro H1 G1 s
        refine st b env' H1 G1 s ?_
        cases b <;> exact PostT.shift s r h
      | _ => exact h.elim
    | _ => exact h.elim
end
def TWX (X : Cx) (W : WX) (e : Expr) (F : Fx) : Prop := PW X e (tT X.K X.mg W F)
section
variable {X : Cx} {W : WX} {a b : Expr} {rest : List Expr} {Fa Fb Fc : Fx} {pos : Pos}
theorem orF_swap : ∀ env, orF Fa Fb env = bindR (Fa env) fun v e => match v with
      | .im (.bl true) => .ok (.im (.bl true)) e
      | .im (.bl false) => Fb e
      | _ => .stk := by
  intro env
  unfold orF
  congr 1
  funext v e
  cases v with
  | im d =>
    cases d with
    | bl b => cases b <;> rfl
    | _ => rfl
  | _ => rfl
/-- a comparison, as a test -/
theorem tx_cmp {op : CmpOp} {g : D → D → Gr} {r : R2} (ho : OpR X (compareOp op) r) (hs : OpSound X.K g r) (ha : EX X W a Fa) (hb : EX X W b Fb) (hm : behindInMarks op b = false) : TX X W (.Compare a [op] [b] pos) (op2F g Fa Fb) :=
  PT.weak (pt_cmpR ho ha hb hm) fun σ H Q h => tOp_of hs σ H _ (tT_tD h)
/-- any expression that is True or False -/
theorem tx_val (h : EX X W a Fa) (he : ∀ whole, isTrue a X.env whole = (do let v ← whole; standAt a.pos; holding [v] (truthy v)) := by intro _; rfl) : TX X W a Fa :=
  PT.weak (pt_val h he) fun σ H Q h => tT_tD h
theorem tx_not (h : TX X W a Fa) : TX X W (.UnaryOp .Not a pos) (notF Fa) := by
  refine PT.weak (pt_not h) fun σ H Q ⟨G, env, r, h⟩ => ?_
  refine ⟨G, env, r, ?_⟩
  unfold notF at h
  cases e : Fa env with
  | stk => rw [e] at h; exact h
  | err c e' => rw [e] at h; exact h
  | ok vl env' =>
    rw [e] at h
    cases vl with
    | im d =>
      cases d with
      | bl b => exact h
      | _ => exact h.elim
    | _ => exact h.elim
theorem tw_and1 {a : Expr} (h : TX X W a Fa) : TWX X W (.BoolOp .And [a] pos) Fa := pw_and1 h
theorem tw_or1 {a : Expr} (h : TX X W a Fa) : TWX X W (.BoolOp .Or [a] pos) Fa := pw_or1 h
theorem tw_and (ha : TX X W a Fa) (hb : TWX X W (.BoolOp .And (b :: rest) pos) Fb) : TWX X W (.BoolOp .And (a :: b :: rest) pos) (andF Fa Fb) := by
  refine PW.weak (pw_and ha hb) fun σ H Q ⟨G, env, r, h⟩ => ?_
  refine tT_thenT r h fun b env1 H1 G1 s p => ?_
  cases b with
  | true => exact L2.iteT ⟨G1, env1, s.er, p⟩
  | false => exact L2.iteF (p H1 G1 (Stp.refl s.er))
theorem tw_or (ha : TX X W a Fa) (hb : TWX X W (.BoolOp .Or (b :: rest) pos) Fb) : TWX X W (.BoolOp .Or (a :: b :: rest) pos) (orF Fa Fb) := by
  refine PW.weak (pw_or ha hb) fun σ H Q ⟨G, env, r, h⟩ => ?_
  rw [orF_swap] at h
  refine tT_thenT r h fun b env1 H1 G1 s p => ?_
  cases b with
  | true => exact L2.iteT (p H1 G1 (Stp.refl s.er))
  | false => exact L2.iteF ⟨G1, env1, s.er, p⟩
theorem tx_w (h : TWX X W a Fa) : TX X W a Fa := h.pt
/-! values -/
theorem ex_one {op : BoolOp} (h : EX X W a Fa) : EX X W (.BoolOp op [a] pos) Fa := pe_one h
theorem ex_and (ha : EX X W a Fa) (hb : EX X W (.BoolOp .And (b :: rest) pos) Fb) : EX X W (.BoolOp .And (a :: b :: rest) pos) (andF Fa Fb) := by
  refine PE.weak (pe_and ha hb) fun σ H Q ⟨G, env, r, h⟩ => ?_
  refine tT_tD (tT_then (k := fun c H1 => if c = true then tD X.K X.mg W Fb σ H1 Q else Q (.bl false) H1) r h fun b env1 H1 G1 s p => ?_)
  cases b with
  | true => exact L2.iteT ⟨G1, env1, s.er, p⟩
  | false => exact L2.iteF (p _ H1 G1 (Stp.refl s.er) rfl)
theorem ex_or (ha : EX X W a Fa) (hb : EX X W (.BoolOp .Or (b :: rest) pos) Fb) : EX X W (.BoolOp .Or (a :: b :: rest) pos) (orF Fa Fb) := by
  refine PE.weak (pe_or ha hb) fun σ H Q ⟨G, env, r, h⟩ => ?_
  rw [orF_swap] at h
  refine tT_tD (tT_then (k := fun c H1 => if c = true then Q (.bl true) H1 else tD X.K X.mg W Fb σ H1 Q) r h fun b env1 H1 G1 s p => ?_)
  cases b with
  | true => exact L2.iteT (p _ H1 G1 (Stp.refl s.er) rfl)
  | false => exact L2.iteF ⟨G1, env1, s.er, p⟩
theorem ex_not (h : EX X W a Fa) : EX X W (.UnaryOp .Not a pos) (notF Fa) := by
  refine PE.weak (pe_not h) fun σ H Q ⟨G, env, r, h⟩ => ?_
  refine ⟨G, env, r, ?_⟩
  unfold notF at h
  cases e : Fa env with
  | stk => rw [e] at h; exact h
  | err c e' => rw [e] at h; exact h
  | ok vl env' =>
    rw [e] at h
    cases vl with
    | im d =>
      cases d with
      | bl b => exact fun v H' G' s hv => ⟨b, hv, h _ H' G' s rfl⟩
      | _ => exact h.elim
    | _ => exact h.elim
theorem ex_ifx {c : Expr} (hc : TX X W c Fc) (ha : EX X W a Fa) (hb : EX X W b Fb) : EX X W (.IfExp c a b pos) (iteF Fc Fa Fb) := by
  refine PE.weak (pe_ifExp hc ha hb) fun σ H Q ⟨G, env, r, h⟩ => ?_
  refine tT_then r h fun b env1 H1 G1 s p => ?_
  cases b with
  | true => exact L2.iteT ⟨G1, env1, s.er, p⟩
  | false => exact L2.iteF ⟨G1, env1, s.er, p⟩
end
end HF

set_option Elab.async false
set_option linter.all false
set_option maxRecDepth 100000
set_option maxHeartbeats 4000000
set_option autoImplicit false
namespace HF
open PySem PySem.Spec PyProof.Rows L2
/-! ### statements -/
inductive Out where
  | nx (env : List Sl)
  | rt (v : Vl) (env : List Sl)
  | bk (env : List Sl)
  | ct (env : List Sl)
  | err (c : Str) (env : Option (List Sl))
  | stk
abbrev Sx := List Sl → Out
structure SR (K : PySem.W.Frag) (H0 G0 : Hp) (pa : Nat → Option Addr) (H G : Hp) (σ : L2.St) (env : List Sl) : Prop where
  er : ER K H G σ env
  gr : Same G0 G
  old : ∀ b, H0 b ≠ none → G0 b = none → G b = none
  keep : ∀ b o, H0 b = some o → (∀ j, pa j ≠ some b) → H b = some o
  own : ∀ (i : Nat) (d : D) (p : Addr), env[i]? = some (.own d) → σ[i]? = some (some (.ref p)) → H0 p = none
  io : ∀ j p, pa j = some p → σ[j]? = some (some (.ref p)) ∧ ∃ d, env[j]? = some (.io d)
  iof : ∀ (j : Nat) (d : D), env[j]? = some (.io d) → ∃ p, pa j = some p
section
variable {K : PySem.W.Frag} {mg : Str → Option Value} {W : WX} {H0 G0 H G H1 G1 : Hp} {pa : Nat → Option Addr} {σ : L2.St} {env env1 : List Sl}
theorem SR.notMu (r : SR K H0 G0 pa H G σ env) {b : Addr} {o : HO} (h : H0 b = some o) (n : ∀ j, pa j ≠ some b) : ¬ MuIs σ env b := fun ⟨i, s, d, e1, e2, e3⟩ => by
  cases s with
  | own d' => have := r.own i d' b e1 e3; rw [h] at this; cases this
  | io d' =>
    obtain ⟨p, hp⟩ := r.iof i d' e1
    have := (r.io i p hp).1
    rw [e3] at this
    cases this
    exact n i hp
  | _ => cases e2
theorem SR.step (r : SR K H0 G0 pa H G σ env) (s : Stp K σ H G env H1 G1 env1) : SR K H0 G0 pa H1 G1 σ env1 where
  er := s.er
  gr := r.gr.trans s.gr
  old := fun b hb hg => by
    cases e : H b with
    | some o => exact s.old b (by rw [e]; exact fun z => nomatch z) (r.old b hb hg)
    | none =>
      -- it stood at H0, so it stands
      cases e0 : H0 b with
      | none => exact absurd e0 hb
      | some o =>
        by_cases n : ∀ j, pa j ≠ some b
        · rw [r.keep b o e0 n] at e; cases e
        · have : ∃ j, pa j = some b := by
            apply Classical.byContradiction
            intro z
            exact n fun j hj => z ⟨j, hj⟩
          obtain ⟨j, hj⟩ := this
          obtain ⟨q1, d, q2⟩ := r.io j b hj
          obtain ⟨p, w1, _, w3⟩ := r.er.mu j _ d q2 rfl
          rw [q1] at w1
          cases w1
          exact absurd e w3.there
  keep := fun b o e n => s.keep b o (r.keep b o e n) (r.notMu e n)
  own := fun i d p e1 e2 => by
    have k := s.kin i
    rw [e1] at k
    cases e : env[i]? with
    | none => rw [e] at k; cases (show some (Sl.own d) = none from k)
    | some t =>
      rw [e] at k
      cases t with
      | own d' => exact r.own i d' p e e2
      | io d' => obtain ⟨_, z⟩ := (show ∃ x, some (Sl.own d) = some (.io x) from k); cases z
      | non => cases (show some (Sl.own d) = some .non from k)
      | val d' => cases (show some (Sl.own d) = some (.val d') from k)
  io := fun j p hj => by
    obtain ⟨q1, d, q2⟩ := r.io j p hj
    have k := s.kin j
    rw [q2] at k
    exact ⟨q1, k⟩
  iof := fun j d e => by
    have k := s.kin j
    rw [e] at k
    cases e' : env[j]? with
    | none => rw [e'] at k; cases (show some (Sl.io d) = none from k)
    | some t =>
      rw [e'] at k
      cases t with
      | io d' => exact r.iof j d' e'
      | own d' => obtain ⟨_, z⟩ := (show ∃ x, some (Sl.io d) = some (.own x) from k); cases z
      | non => cases (show some (Sl.io d) = some .non from k)
      | val d' => cases (show some (Sl.io d) = some (.val d') from k)
theorem SR.free0 (r : SR K H0 G0 pa H G σ env) {p : Addr} (h : H p = none) : H0 p = none := by
  cases e0 : H0 p with
  | none => rfl
  | some o =>
    by_cases n : ∀ j, pa j ≠ some p
    · rw [r.keep p o e0 n] at h; cases h
    · have : ∃ j, pa j = some p := by
        apply Classical.byContradiction
        intro z
        exact n fun j hj => z ⟨j, hj⟩
      obtain ⟨j, hj⟩ := this
      obtain ⟨q1, d, q2⟩ := r.io j p hj
      obtain ⟨p', w1, _, w3⟩ := r.er.mu j _ d q2 rfl
      rw [q1] at w1
      cases w1
      exact absurd h w3.there
def SErr (K : PySem.W.Frag) (H0 G0 : Hp) (pa : Nat → Option Addr) (σ' : L2.St) (H' : Hp) : Option (List Sl) → Prop
  | some env' => ∃ G', SR K H0 G0 pa H' G' σ' env'
  | none => ∀ b o, H0 b = some o → (∀ j, pa j ≠ some b) → H' b = some o
def RvAt (K : PySem.W.Frag) (H0 H G : Hp) : Vl → V → Prop
  | .im d, v => Rp K G d v
  | .fr d, v => ∃ p, v = .ref p ∧ H0 p = none ∧ G p = none ∧ MuAt K H G d p
  | .bo _, _ => False
def PostS (K : PySem.W.Frag) (mg : Str → Option Value) (W : WX) (H0 G0 : Hp) (pa : Nat → Option Addr) (D : Ends) : Out → Prop
  | .nx env' => ∀ σ' H' G', SR K H0 G0 pa H' G' σ' env' → D.nx σ' H'
  | .rt vl env' => ∀ v σ' H' G', SR K H0 G0 pa H' G' σ' env' → RvAt K H0 H' G' vl v → D.rt v H'
  | .bk env' => ∀ σ' H' G', SR K H0 G0 pa H' G' σ' env' → D.bk σ' H'
  | .ct env' => ∀ σ' H' G', SR K H0 G0 pa H' G' σ' env' → D.ct σ' H'
  | .err c e => ∀ C σ' H', mg c = some (.ref C) → SErr K H0 G0 pa σ' H' e → W (.ref C) none σ' H'
  | .stk => False
def tS (K : PySem.W.Frag) (mg : Str → Option Value) (W : WX) (H0 G0 : Hp) (pa : Nat → Option Addr) (S : Sx) : TS := fun D σ H => ∃ G env, SR K H0 G0 pa H G σ env ∧ PostS K mg W H0 G0 pa D (S env)
/-- an expression within a statement -/
theorem SR.bind {F : Fx} {D : Ends} {k : VK} {f : Vl → List Sl → Out} (r : SR K H0 G0 pa H G σ env)
    (h : PostS K mg W H0 G0 pa D (match F env with
      | .ok v e => f v e
      | .err c e => .err c e
      | .stk => .stk))
    (st : ∀ vl env1 v H1 G1, F env = .ok vl env1 → Stp K σ H G env H1 G1 env1 → VlAt K H H1 G1 σ env1 vl v → SR K H0 G0 pa H1 G1 σ env1 → PostS K mg W H0 G0 pa D (f vl env1) → k v H1) : tD K mg W F σ H k := by
  refine ⟨G, env, r.er, ?_⟩
  cases e : F env with
  | stk => rw [e] at h; exact h
  | ok vl env1 =>
    rw [e] at h
    exact fun v H1 G1 s v1 => st vl env1 v H1 G1 e s v1 (r.step s) h
  | err c e' =>
    rw [e] at h
    intro C H' m ea
    refine h C σ H' m ?_
    cases e' with
    | some e' => obtain ⟨G', s⟩ := ea; exact ⟨G', r.step s⟩
    | none => exact fun b o q n => ea b o (r.keep b o q n) (r.notMu q n)
/-- a slot is given a new value -/
theorem SR.set {i : Nat} {s : Sl} {d : D} {v : V} (r : SR K H0 G0 pa H G σ env) (hi : env[i]? = some s) (hn : ∀ d, s ≠ .io d) (hv : Rp K G d v) : SR K H0 G0 pa H G (σ.set i (some v)) (env.set i (.val d)) := by
  obtain ⟨hl, _⟩ := List.getElem?_eq_some_iff.mp hi
  have hl' : i < σ.length := by rw [r.er.len]; exact hl
  have ne : ∀ j, i ≠ j → (σ.set i (some v))[j]? = σ[j]? ∧ (env.set i (.val d))[j]? = env[j]? := fun j h => ⟨List.getElem?_set_ne h, List.getElem?_set_ne h⟩
  have eqi : (env.set i (.val d))[i]? = some (.val d) := List.getElem?_set_self hl
  have eqs : (σ.set i (some v))[i]? = some (some v) := List.getElem?_set_self hl'
  refine ⟨⟨by rw [List.length_set, List.length_set]; exact r.er.len, r.er.sub, fun j e hj => ?_, fun j t e h1 h2 => ?_, fun j k t u e f p h1 h2 h3 h4 h5 h6 => ?_⟩, r.gr, r.old, r.keep, fun j e p h1 h2 => ?_, fun j p hj => ?_, fun j e h1 => ?_⟩
  · by_cases z : i = j
    · subst z
      rw [eqi] at hj
      cases hj
      exact ⟨v, eqs, hv⟩
    · rw [(ne j z).2] at hj
      rw [(ne j z).1]
      exact r.er.val j e hj
  · by_cases z : i = j
    · subst z
      rw [eqi] at h1
      cases h1
      cases h2
    · rw [(ne j z).2] at h1
      rw [(ne j z).1]
      exact r.er.mu j t e h1 h2
  · have z1 : i ≠ j := fun z => by subst z; rw [eqi] at h1; cases h1; cases h2
    have z2 : i ≠ k := fun z => by subst z; rw [eqi] at h3; cases h3; cases h4
    rw [(ne j z1).2] at h1
    rw [(ne j z1).1] at h5
    rw [(ne k z2).2] at h3
    rw [(ne k z2).1] at h6
    exact r.er.sep j k t u e f p h1 h2 h3 h4 h5 h6
  · have z1 : i ≠ j := fun z => by subst z; rw [eqi] at h1; cases h1
    rw [(ne j z1).2] at h1
    rw [(ne j z1).1] at h2
    exact r.own j e p h1 h2
  · obtain ⟨q1, e, q2⟩ := r.io j p hj
    have z1 : i ≠ j := fun z => by subst z; rw [hi] at q2; cases q2; exact hn e rfl
    rw [(ne j z1).2, (ne j z1).1]
    exact ⟨q1, e, q2⟩
  · have z1 : i ≠ j := fun z => by subst z; rw [eqi] at h1; cases h1
    rw [(ne j z1).2] at h1
    exact r.iof j e h1
theorem SR.setOwn {i : Nat} {s : Sl} {d : D} {p : Addr} (r : SR K H0 G0 pa H G σ env) (hi : env[i]? = some s) (hn : ∀ d, s ≠ .io d) (hp0 : H0 p = none) (hpm : ¬ MuIs σ env p) (hg : G p = none) (hm : MuAt K H G d p) : SR K H0 G0 pa H G (σ.set i (some (.ref p))) (env.set i (.own d)) := by
  obtain ⟨hl, _⟩ := List.getElem?_eq_some_iff.mp hi
  have hl' : i < σ.length := by rw [r.er.len]; exact hl
  have ne : ∀ j, i ≠ j → (σ.set i (some (.ref p)))[j]? = σ[j]? ∧ (env.set i (.own d))[j]? = env[j]? := fun j h => ⟨List.getElem?_set_ne h, List.getElem?_set_ne h⟩
  have eqi : (env.set i (.own d))[i]? = some (.own d) := List.getElem?_set_self hl
  have eqs : (σ.set i (some (.ref p)))[i]? = some (some (.ref p)) := List.getElem?_set_self hl'
  refine ⟨⟨by rw [List.length_set, List.length_set]; exact r.er.len, r.er.sub, fun j e hj => ?_, fun j t e h1 h2 => ?_, fun j k t u e f q h1 h2 h3 h4 h5 h6 => ?_⟩, r.gr, r.old, r.keep, fun j e q h1 h2 => ?_, fun j q hj => ?_, fun j e h1 => ?_⟩
  · have z1 : i ≠ j := fun z => by subst z; rw [eqi] at hj; cases hj
    rw [(ne j z1).2] at hj
    rw [(ne j z1).1]
    exact r.er.val j e hj
  · by_cases z : i = j
    · subst z
      rw [eqi] at h1
      cases h1
      cases h2
      exact ⟨p, eqs, hg, hm⟩
    · rw [(ne j z).2] at h1
      rw [(ne j z).1]
      exact r.er.mu j t e h1 h2
  · by_cases z1 : i = j
    · by_cases z2 : i = k
      · rw [← z1, ← z2]
      · subst z1
        rw [eqs] at h5
        cases h5
        rw [(ne k z2).2] at h3
        rw [(ne k z2).1] at h6
        exact (hpm ⟨k, u, f, h3, h4, h6⟩).elim
    · by_cases z2 : i = k
      · subst z2
        rw [eqs] at h6
        cases h6
        rw [(ne j z1).2] at h1
        rw [(ne j z1).1] at h5
        exact (hpm ⟨j, t, e, h1, h2, h5⟩).elim
      · rw [(ne j z1).2] at h1
        rw [(ne j z1).1] at h5
        rw [(ne k z2).2] at h3
        rw [(ne k z2).1] at h6
        exact r.er.sep j k t u e f q h1 h2 h3 h4 h5 h6
  · by_cases z : i = j
    · subst z
      rw [eqs] at h2
      cases h2
      exact hp0
    · rw [(ne j z).2] at h1
      rw [(ne j z).1] at h2
      exact r.own j e q h1 h2
  · obtain ⟨q1, e, q2⟩ := r.io j q hj
    have z1 : i ≠ j := fun z => by subst z; rw [hi] at q2; cases q2; exact hn e rfl
    rw [(ne j z1).2, (ne j z1).1]
    exact ⟨q1, e, q2⟩
  · have z1 : i ≠ j := fun z => by subst z; rw [eqi] at h1; cases h1
    rw [(ne j z1).2] at h1
    exact r.iof j e h1
end
/-- what a name may hold from now on -/
@[simp] def Vl.st : Vl → Option Sl
  | .im d => some (.val d)
  | .fr d => some (.own d)
  | .bo _ => none
@[simp] def isIo : Option Sl → Bool
  | some (.io _) => true
  | none => true
  | _ => false
@[simp] def setE (i : Nat) (vl : Vl) (e : List Sl) : Option (List Sl) := match vl.st with
  | some s => if isIo e[i]? then none else some (e.set i s)
  | none => none
@[simp] def asgS (i : Nat) (F : Fx)  (env : List Sl) : Out := match F env with
  | .ok v e => (match setE i v e with
    | some e' => .nx e'
    | none => .stk)
  | .err c e => .err c e
  | .stk => .stk
@[simp] def exprS (F : Fx)  (env : List Sl) : Out := match F env with
  | .ok _ e => .nx e
  | .err c e => .err c e
  | .stk => .stk
@[simp] def retS (F : Fx)  (env : List Sl) : Out := match F env with
  | .ok (.bo i) e => (match e[i]? with
    | some (.own d) => .rt (.fr d) e
    | _ => .stk)
  | .ok v e => .rt v e
  | .err c e => .err c e
  | .stk => .stk
@[simp] def ifS (C : Fx) (S T : Sx)  (env : List Sl) : Out := match C env with
  | .ok (.im (.bl true)) e => S e
  | .ok (.im (.bl false)) e => T e
  | .err c e => .err c e
  | _ => .stk
@[simp] def seqS (S T : Sx)  (env : List Sl) : Out := match S env with
  | .nx e => T e
  | o => o
@[simp] def passS  (env : List Sl) : Out := .nx env
@[simp] def raiseS (c : Str)  (env : List Sl) : Out := .err c (some env)
theorem SR.setE {K : PySem.W.Frag} {H0 G0 H H1 G1 : Hp} {pa : Nat → Option Addr} {σ : L2.St} {env1 e' : List Sl} {i : Nat} {vl : Vl} {v : V} (r : SR K H0 G0 pa H1 G1 σ env1) (h : VlAt K H H1 G1 σ env1 vl v) (nm : ∀ p, H p = none → ¬ MuIs σ env1 p) (f0 : ∀ p, H p = none → H0 p = none) (e : setE i vl env1 = some e') : SR K H0 G0 pa H1 G1 (σ.set i (some v)) e' := by
  unfold HF.setE at e
  cases e1 : vl.st with
  | none => rw [e1] at e; cases e
  | some s =>
    rw [e1] at e
    simp only at e
    split at e
    · cases e
    · rename_i c
      cases e
      cases q : env1[i]? with
      | none => rw [q] at c; exact absurd rfl c
      | some t =>
        rw [q] at c
        have hn : ∀ d, t ≠ .io d := fun d z => by rw [z] at c; exact c rfl
        cases vl with
        | im d => cases e1; exact r.set q hn h
        | fr d =>
          cases e1
          obtain ⟨p, rfl, h1, h2, h3⟩ := h
          exact r.setOwn q hn (f0 p h1) (nm p h1) h2 h3
        | bo j => cases e1
section
variable {X : Cx} {W : WX} {H0 G0 : Hp} {pa : Nat → Option Addr}
abbrev ST (X : Cx) (W : WX) (st : Stmt) (S : Sx) : Prop := ∀ (H0 G0 : Hp) (pa : Nat → Option Addr), PS X st (tS X.K X.mg W H0 G0 pa S)
abbrev STs (X : Cx) (W : WX) (st : List Stmt) (S : Sx) : Prop := ∀ (H0 G0 : Hp) (pa : Nat → Option Addr), PSs X st (tS X.K X.mg W H0 G0 pa S)
theorem sts_nil : STs X W [] passS := fun H0 G0 pa => PSs.weak pss_nil fun D σ H ⟨G, env, r, h⟩ => h σ H G r
theorem tS_seq {K : PySem.W.Frag} {mg : Str → Option Value} {S T : Sx} {D : Ends} {σ : L2.St} {H : Hp} (h : tS K mg W H0 G0 pa (seqS S T) D σ H) : tSeq (tS K mg W H0 G0 pa S) (tS K mg W H0 G0 pa T) D σ H := by
  obtain ⟨G, env, r, h⟩ := h
  refine ⟨G, env, r, ?_⟩
  unfold seqS at h
  cases e : S env with
  | nx e1 => rw [e] at h; exact fun σ' H' G' r' => ⟨G', e1, r', h⟩
  | rt v e1 => rw [e] at h; exact h
  | bk e1 => rw [e] at h; exact h
  | ct e1 => rw [e] at h; exact h
  | err c e1 => rw [e] at h; exact h
  | stk => rw [e] at h; exact h
theorem sts_cons {st : Stmt} {rest : List Stmt} {S T : Sx} (h1 : ST X W st S) (h2 : STs X W rest T) : STs X W (st :: rest) (seqS S T) := fun H0 G0 pa => PSs.weak (pss_cons (h1 H0 G0 pa) (h2 H0 G0 pa)) fun D σ H h => tS_seq h
theorem sts_one {st : Stmt} {S : Sx} (h1 : ST X W st S) : STs X W [st] S := fun H0 G0 pa => pss_one (h1 H0 G0 pa)
theorem st_set {i : Nat} {x : Str} {e : Expr} {F : Fx} {pos pos' : Pos} (hN : X.N.Nodup) (he : EX X W e F) (hi : X.N[i]? = some x := by rfl) (hx : Loc X.env.scope x := by first | exact .inl rfl | exact .inr rfl) (hs : swapsWith e (some (.Name x pos')) pos.line X.env = pure false := by rfl) (hf : X.fn x = true ∨ X.env.scope.names.lookup x = some .local := by first | exact .inl rfl | exact .inr rfl) :
    ST X W (.Assign [.Name x pos'] e pos) (asgS i F) := by
  intro H0 G0 pa
  refine PS.weak (ps_set hN hi hx he hs hf) fun D σ H ⟨G, env, r, h⟩ => ?_
  refine SR.bind r h fun vl env1 v H1 G1 _ s v1 r1 p => ?_
  cases e1 : setE i vl env1 with
  | none => simp only [e1] at p; exact p.elim
  | some e' =>
    simp only [e1] at p
    exact p _ _ _ (r1.setE v1 (fun p hp m => (MuIs.new r.er hp) (m.of s.kin)) (fun p hp => r.free0 hp) e1)
theorem st_expr {e : Expr} {F : Fx} {pos : Pos} (he : EX X W e F) (hs : swapsWith e none pos.line X.env = pure false := by rfl) : ST X W (.Expr e pos) (exprS F) :=
  fun H0 G0 pa => PS.weak (ps_expr he hs) fun D σ H ⟨G, env, r, h⟩ => SR.bind r h fun vl env1 v H1 G1 _ s v1 r1 p => p _ _ _ r1
theorem st_doc {x j pos pos'} : ST X W (.Expr (.Constant (.str x) j pos) pos') passS := fun H0 G0 pa => PS.weak ps_doc fun D σ H ⟨G, env, r, h⟩ => h σ H G r
theorem st_pass {pos} : ST X W (.Pass pos) passS := fun H0 G0 pa => PS.weak ps_pass fun D σ H ⟨G, env, r, h⟩ => h σ H G r
theorem st_ret {e : Expr} {F : Fx} {pos : Pos} (he : EX X W e F) : ST X W (.Return (some e) pos) (retS F) := by
  intro H0 G0 pa
  refine PS.weak (ps_ret he) fun D σ H ⟨G, env, r, h⟩ => ?_
  have h' : PostS X.K X.mg W H0 G0 pa D (match F env with
      | .ok v e => (match v with
        | .bo i => (match e[i]? with
          | some (.own d) => Out.rt (.fr d) e
          | _ => .stk)
        | v => .rt v e)
      | .err c e => .err c e
      | .stk => .stk) := by
    unfold retS at h
    cases e1 : F env with
    | ok v e => rw [e1] at h; cases v <;> exact h
    | err c e => rw [e1] at h; exact h
    | stk => rw [e1] at h; exact h
  refine SR.bind r h' fun vl env1 v H1 G1 _ s v1 r1 p => ?_
  cases vl with
  | im d => exact p v σ H1 G1 r1 v1
  | fr d =>
    obtain ⟨q, rfl, h1, h2, h3⟩ := v1
    exact p _ σ H1 G1 r1 ⟨q, rfl, r.free0 h1, h2, h3⟩
  | bo i =>
    obtain ⟨t, d, q, q1, q2, q3, rfl⟩ := v1
    simp only [q1] at p
    cases t with
    | own d' =>
      obtain ⟨q', w1, w2, w3⟩ := r1.er.mu i _ d' q1 rfl
      rw [q3] at w1
      cases w1
      exact p _ σ H1 G1 r1 ⟨q, rfl, r1.own i d' q q1 q3, w2, w3⟩
    | _ => exact p.elim
@[simp] def retNS  (env : List Sl) : Out := .rt (.im .non) env
theorem st_retN {pos : Pos} : ST X W (.Return none pos) retNS := fun H0 G0 pa => PS.weak ps_retN fun D σ H ⟨G, env, r, h⟩ => h .non σ H G r rfl
@[simp] def brkS  (env : List Sl) : Out := .bk env
@[simp] def cntS  (env : List Sl) : Out := .ct env
theorem st_brk {pos : Pos} : ST X W (.Break pos) brkS := fun H0 G0 pa => PS.weak ps_break fun D σ H ⟨G, env, r, h⟩ => h σ H G r
theorem st_cnt {pos : Pos} : ST X W (.Continue pos) cntS := fun H0 G0 pa => PS.weak ps_continue fun D σ H ⟨G, env, r, h⟩ => h σ H G r
theorem SR.test {K : PySem.W.Frag} {mg : Str → Option Value} {H G : Hp} {σ : L2.St} {env : List Sl} {F : Fx} {D : Ends} {k : Bool → Hp → Prop} {A B : Sx} (r : SR K H0 G0 pa H G σ env) (h : PostS K mg W H0 G0 pa D (ifS F A B env))
    (st : ∀ b env1 H1 G1, SR K H0 G0 pa H1 G1 σ env1 → PostS K mg W H0 G0 pa D (if b then A env1 else B env1) → k b H1) : tT K mg W F σ H k := by
  refine ⟨G, env, r.er, ?_⟩
  unfold ifS at h
  cases e : F env with
  | stk => rw [e] at h; exact h
  | ok vl env1 =>
    rw [e] at h
    cases vl with
    | im d =>
      cases d with
      | bl b =>
        intro H1 G1 s
        refine st b env1 H1 G1 (r.step s) ?_
        cases b <;> exact h
      | _ => exact h.elim
    | _ => exact h.elim
  | err c e' =>
    rw [e] at h
    intro C H' m ea
    refine h C σ H' m ?_
    cases e' with
    | some e' => obtain ⟨G', s⟩ := ea; exact ⟨G', r.step s⟩
    | none => exact fun b o q n => ea b o (r.keep b o q n) (r.notMu q n)
theorem st_if {c : Expr} {a b : List Stmt} {C : Fx} {S T : Sx} {pos : Pos} (hc : TX X W c C) (ha : STs X W a S) (hb : STs X W b T) : ST X W (.If c a b pos) (ifS C S T) := by
  intro H0 G0 pa
  refine PS.weak (ps_if hc (ha H0 G0 pa) (hb H0 G0 pa)) fun D σ H ⟨G, env, r, h⟩ => ?_
  refine SR.test r h fun b env1 H1 G1 r1 p => ?_
  cases b with
  | true => exact L2.iteT ⟨G1, env1, r1, p⟩
  | false => exact L2.iteF ⟨G1, env1, r1, p⟩
/-- raise C('..') -/
theorem st_raise {x m : Str} {j : Nat} {p p2 pos pos2 : Pos} {C : Addr} {bmB : List Value} {B newId initId : String} (hc : X.calm = true) (tk : L2N.Takes X W) (F : ExcBaseFacts B newId initId bmB) (q : PySem.W.excIn X.K C bmB newId = true) (gC : X.mg x = some (.ref C)) (kC : PySem.W.keepIn X.K (.ref C) = true) (rs : Raises X (.ref C)) (hg : Gl X x := by rfl) (hdb : (x == ("__debug__" : Str)) = false := by decide) :
    ST X W (.Raise (some (.Call (.Name x p) [.Constant (.str m) j p2] [] pos)) none pos2) (raiseS x) :=
  fun H0 G0 pa => PS.weak (L2N.ps_raise hc tk (L2N.pmk_own F q gC kC rs hg hdb)) fun D σ H ⟨G, env, r, h⟩ => h C σ H gC ⟨G, r⟩
end
end HF

set_option Elab.async false
set_option linter.all false
set_option maxRecDepth 100000
set_option maxHeartbeats 4000000
set_option autoImplicit false
namespace HF
open PySem PySem.Spec PyProof.Rows L2
/-! ### functions -/
inductive Ar where
  | val (d : D)
  | io (d : D)
@[simp] def Ar.sl : Ar → Sl
  | .val d => .val d
  | .io d => .io d
def ArAt (K : PySem.W.Frag) (H G : Hp) : Ar → V → Prop
  | .val d, v => Rp K G d v
  | .io d, v => ∃ p, v = .ref p ∧ G p = none ∧ MuAt K H G d p
def ArsAt (K : PySem.W.Frag) (H G : Hp) : List Ar → List V → Prop
  | [], xs => xs = []
  | a :: as, xs => ∃ x r, xs = x :: r ∧ ArAt K H G a x ∧ ArsAt K H G as r
theorem ArsAt.length {K : PySem.W.Frag} {H G : Hp} : ∀ {as : List Ar} {vs : List V}, ArsAt K H G as vs → vs.length = as.length
  | [], vs, h => by rw [show vs = [] from h]; rfl
  | a :: as, vs, h => by
    obtain ⟨x, r, rfl, _, h2⟩ := h
    rw [List.length_cons, List.length_cons, ArsAt.length h2]
theorem ArsAt.get {K : PySem.W.Frag} {H G : Hp} : ∀ {as : List Ar} {vs : List V} {i : Nat} {a : Ar}, ArsAt K H G as vs → as[i]? = some a → ∃ v, vs[i]? = some v ∧ ArAt K H G a v
  | [], vs, i, a, h, e => by simp at e
  | b :: as, vs, 0, a, h, e => by
    obtain ⟨x, r, rfl, h1, _⟩ := h
    have : b = a := by simpa using e
    subst this
    exact ⟨x, rfl, h1⟩
  | b :: as, vs, i + 1, a, h, e => by
    obtain ⟨x, r, rfl, _, h2⟩ := h
    obtain ⟨y, e1, h3⟩ := ArsAt.get (i := i) (a := a) h2 (by simpa using e)
    exact ⟨y, by simpa using e1, h3⟩
theorem ArsAt.mk {K : PySem.W.Frag} {H G : Hp} : ∀ {as : List Ar} {vs : List V}, vs.length = as.length → (∀ (i : Nat) (a : Ar) (v : V), as[i]? = some a → vs[i]? = some v → ArAt K H G a v) → ArsAt K H G as vs
  | [], vs, l, h => List.eq_nil_of_length_eq_zero l
  | a :: as, [], l, h => by simp at l
  | a :: as, v :: vs, l, h => ⟨v, vs, rfl, h 0 a v rfl rfl, ArsAt.mk (by simpa using l) fun i b u e1 e2 => h (i + 1) b u (by simpa using e1) (by simpa using e2)⟩
def IoP (as : List Ar) (vs : List V) (p : Addr) : Prop := ∃ (j : Nat) (d : D), as[j]? = some (.io d) ∧ vs[j]? = some (.ref p)
inductive FR where
  | im (d : D) (as : List Ar)
  | fr (d : D) (as : List Ar)
  | err (c : Str)
  | stk
structure CStp (K : PySem.W.Frag) (as : List Ar) (vs : List V) (H G H' G' : Hp) (as' : List Ar) : Prop where
  gr : Same G G'
  gh : Same G' H'
  old : ∀ b, H b ≠ none → G b = none → G' b = none
  keep : ∀ b o, H b = some o → ¬ IoP as vs b → H' b = some o
  ars : ArsAt K H' G' as' vs
  kin : ∀ (j : Nat) (d : D), as[j]? = some (.io d) → ∃ d', as'[j]? = some (.io d')
def PostF (K : PySem.W.Frag) (mg : Str → Option Value) (as : List Ar) (vs : List V) (H G : Hp) (Q : VK) (E : XK) : FR → Prop
  | .im d as' => ∀ v H' G', CStp K as vs H G H' G' as' → Rp K G' d v → Q v H'
  | .fr d as' => ∀ p H' G', CStp K as vs H G H' G' as' → H p = none → G' p = none → MuAt K H' G' d p → Q (.ref p) H'
  | .err c => ∀ C H', mg c = some (.ref C) → (∀ b o, H b = some o → ¬ IoP as vs b → H' b = some o) → E (.ref C) none H'
  | .stk => False
structure ArsOk (K : PySem.W.Frag) (H G : Hp) (as : List Ar) (vs : List V) : Prop where
  sub : Same G H
  ars : ArsAt K H G as vs
  sep : ∀ (i j : Nat) (d e : D) (p : Addr), as[i]? = some (.io d) → as[j]? = some (.io e) → vs[i]? = some (.ref p) → vs[j]? = some (.ref p) → i = j
/-- the promise of a function on data -/
def spD (K : PySem.W.Frag) (mg : Str → Option Value) (n : Nat) (Φ : List Ar → FR) : Sp := fun vs H Q E => ∃ G as, as.length = n ∧ ArsOk K H G as vs ∧ PostF K mg as vs H G Q E (Φ as)
@[simp] def backA : List Ar → List Sl → List Ar
  | [], _ => []
  | .val d :: r, e => .val d :: backA r e.tail
  | .io d :: r, e => (match e.head? with
    | some (.io d') => .io d'
    | _ => .io d) :: backA r e.tail
@[simp] def startE (n : Nat) (as : List Ar) : List Sl := as.map Ar.sl ++ List.replicate (n - as.length) .non
@[simp] def outF (as : List Ar) : Out → FR
  | .nx e => .im .non (backA as e)
  | .rt (.im d) e => .im d (backA as e)
  | .rt (.fr d) e => .fr d (backA as e)
  | .err c _ => .err c
  | _ => .stk
/-- what the function with the body S tells: n names in all -/
@[simp] def runF (n : Nat) (S : Sx) (as : List Ar) : FR := outF as (S (startE n as))
def paOf (as : List Ar) (vs : List V) (j : Nat) : Option Addr := match as[j]?, vs[j]? with
  | some (.io _), some (.ref p) => some p
  | _, _ => none
theorem paOf_io {as : List Ar} {vs : List V} {j : Nat} {p : Addr} : paOf as vs j = some p ↔ ∃ d, as[j]? = some (.io d) ∧ vs[j]? = some (.ref p) := by
  unfold paOf
  constructor
  · intro h
    split at h
    · rename_i d p' e1 e2
      cases h
      exact ⟨d, e1, e2⟩
    · cases h
  · rintro ⟨d, e1, e2⟩
    rw [e1, e2]
theorem getElem_start {n : Nat} {as : List Ar} {i : Nat} {s : Sl} (h : (startE n as)[i]? = some s) (hs : ∀ (z : s = .non), False) : ∃ a, as[i]? = some a ∧ s = a.sl := by
  unfold startE at h
  by_cases hi : i < as.length
  · rw [List.getElem?_append_left (by simpa using hi), List.getElem?_map] at h
    cases e : as[i]? with
    | none => rw [e] at h; cases h
    | some a => rw [e] at h; exact ⟨a, rfl, (Option.some.inj h).symm⟩
  · rw [List.getElem?_append_right (by simpa using hi)] at h
    have := List.mem_of_getElem? h
    exact (hs (List.eq_of_mem_replicate this)).elim
theorem getElem_startV {N : List Str} {vs : List V} {i : Nat} {v : V} (h : vs[i]? = some v) : (L2.start N vs)[i]? = some (some v) := by
  unfold L2.start
  obtain ⟨hi, _⟩ := List.getElem?_eq_some_iff.mp h
  rw [List.getElem?_append_left (by simpa using hi), List.getElem?_map, h]
  rfl
section
variable {K : PySem.W.Frag} {mg : Str → Option Value}
theorem SR.begin {H G : Hp} {as : List Ar} {vs : List V} {N : List Str} (o : ArsOk K H G as vs) (hn : as.length ≤ N.length) : SR K H G (paOf as vs) H G (L2.start N vs) (startE N.length as) := by
  have hl := o.ars.length
  have sv : ∀ (i : Nat) (a : Ar), as[i]? = some a → ∃ v, (L2.start N vs)[i]? = some (some v) ∧ vs[i]? = some v ∧ ArAt K H G a v := fun i a e => by
    obtain ⟨v, e1, e2⟩ := o.ars.get e
    exact ⟨v, getElem_startV e1, e1, e2⟩
  have at_ : ∀ (i : Nat) (a : Ar), as[i]? = some a → (startE N.length as)[i]? = some a.sl := fun i a e => by
    unfold startE
    obtain ⟨hi, _⟩ := List.getElem?_eq_some_iff.mp e
    rw [List.getElem?_append_left (by simpa using hi), List.getElem?_map, e]
    rfl
  have muA : ∀ {i : Nat} {s : Sl} {d : D}, (startE N.length as)[i]? = some s → s.mu = some d → as[i]? = some (.io d) := fun {i s d} e1 e2 => by
    obtain ⟨a, q1, q2⟩ := getElem_start e1 (fun z => by rw [z] at e2; cases e2)
    cases a with
    | val d' => rw [q2] at e2; cases e2
    | io d' => rw [q2] at e2; cases e2; exact q1
  refine ⟨⟨by unfold L2.start startE; simp only [List.length_append, List.length_map, List.length_replicate]; omega, o.sub, fun i d e => ?_, fun i s d e1 e2 => ?_, fun i j s t d e p h1 h2 h3 h4 h5 h6 => ?_⟩, Same.refl _, fun _ _ h => h, fun _ _ h _ => h, fun i d p e1 e2 => ?_, fun j p hj => ?_, fun j d e => ?_⟩
  · obtain ⟨a, q1, q2⟩ := getElem_start e (fun z => nomatch z)
    cases a with
    | val d' =>
      cases q2
      obtain ⟨v, w1, w2, w3⟩ := sv i _ q1
      exact ⟨v, w1, w3⟩
    | io d' => cases q2
  · obtain ⟨v, w1, w2, p, rfl, w3, w4⟩ := sv i _ (muA e1 e2)
    exact ⟨p, w1, w3, w4⟩
  · obtain ⟨v, w1, w2, _⟩ := sv i _ (muA h1 h2)
    obtain ⟨u, z1, z2, _⟩ := sv j _ (muA h3 h4)
    rw [w1] at h5
    rw [z1] at h6
    cases h5
    cases h6
    exact o.sep i j d e p (muA h1 h2) (muA h3 h4) w2 z2
  · obtain ⟨a, q1, q2⟩ := getElem_start e1 (fun z => nomatch z)
    cases a <;> cases q2
  · obtain ⟨d, e1, e2⟩ := paOf_io.mp hj
    exact ⟨getElem_startV e2, d, at_ j _ e1⟩
  · obtain ⟨v, w1, w2, p, rfl, w3, w4⟩ := sv j _ (muA e rfl)
    exact ⟨p, paOf_io.mpr ⟨d, muA e rfl, w2⟩⟩
theorem backA_get : ∀ {as : List Ar} {e : List Sl} {i : Nat} {a : Ar}, (backA as e)[i]? = some a → ∃ b, as[i]? = some b ∧ match b with
    | .val d => a = .val d
    | .io d => (∃ d', e[i]? = some (.io d') ∧ a = .io d') ∨ ((∀ d', e[i]? ≠ some (.io d')) ∧ a = .io d)
  | [], e, i, a, h => by simp [backA] at h
  | .val d :: r, e, 0, a, h => by
    have : Ar.val d = a := by simpa [backA] using h
    exact ⟨.val d, rfl, this.symm⟩
  | .io d :: r, e, 0, a, h => by
    refine ⟨.io d, rfl, ?_⟩
    cases e with
    | nil =>
      right
      have : Ar.io d = a := by simpa [backA] using h
      exact ⟨fun d' => by simp, this.symm⟩
    | cons s t =>
      cases s with
      | io d' =>
        left
        have : Ar.io d' = a := by simpa [backA] using h
        exact ⟨d', rfl, this.symm⟩
      | _ =>
        right
        have : Ar.io d = a := by simpa [backA] using h
        exact ⟨fun d' => by simp, this.symm⟩
  | .val d :: r, e, i + 1, a, h => by
    have h' : (backA r e.tail)[i]? = some a := by simpa [backA] using h
    obtain ⟨b, q1, q2⟩ := backA_get h'
    refine ⟨b, by simpa using q1, ?_⟩
    have ee : e.tail[i]? = e[i + 1]? := by cases e <;> simp
    rw [ee] at q2
    exact q2
  | .io d :: r, e, i + 1, a, h => by
    have h' : (backA r e.tail)[i]? = some a := by simpa [backA] using h
    obtain ⟨b, q1, q2⟩ := backA_get h'
    refine ⟨b, by simpa using q1, ?_⟩
    have ee : e.tail[i]? = e[i + 1]? := by cases e <;> simp
    rw [ee] at q2
    exact q2
theorem backA_length : ∀ (as : List Ar) (e : List Sl), (backA as e).length = as.length
  | [], e => rfl
  | .val d :: r, e => by simp [backA, backA_length r]
  | .io d :: r, e => by simp [backA, backA_length r]
theorem SR.cstp {H G H' G' : Hp} {as : List Ar} {vs : List V} {N : List Str} {σ' : L2.St} {env' : List Sl} (o : ArsOk K H G as vs) (r : SR K H G (paOf as vs) H' G' σ' env') : CStp K as vs H G H' G' (backA as env') := by
  have nio : ∀ b, ¬ IoP as vs b → ∀ j, paOf as vs j ≠ some b := fun b n j hj => n (by
    obtain ⟨d, e1, e2⟩ := paOf_io.mp hj
    exact ⟨j, d, e1, e2⟩)
  have cio : ∀ (j : Nat) (d : D), as[j]? = some (.io d) → ∃ (p : Addr) (d' : D), vs[j]? = some (.ref p) ∧ env'[j]? = some (.io d') ∧ G' p = none ∧ MuAt K H' G' d' p := fun j d e => by
    obtain ⟨v, e1, p, rfl, e2, e3⟩ := o.ars.get e
    obtain ⟨q1, d', q2⟩ := r.io j p (paOf_io.mpr ⟨d, e, e1⟩)
    obtain ⟨p', w1, w2, w3⟩ := r.er.mu j _ d' q2 rfl
    rw [q1] at w1
    cases w1
    exact ⟨p, d', e1, q2, w2, w3⟩
  refine ⟨r.gr, r.er.sub, r.old, fun b ob e n => r.keep b ob e (nio b n), ArsAt.mk (by rw [backA_length, o.ars.length]) fun i a v e1 e2 => ?_, fun j d e => ?_⟩
  · obtain ⟨b, q1, q2⟩ := backA_get e1
    cases b with
    | val d =>
      rw [show a = .val d from q2]
      obtain ⟨u, w1, w2⟩ := o.ars.get q1
      rw [e2] at w1
      cases w1
      exact Rp.mono r.gr d v w2
    | io d =>
      obtain ⟨p, d', w1, w2, w3, w4⟩ := cio i d q1
      rw [e2] at w1
      cases w1
      rcases q2 with ⟨d'', z1, rfl⟩ | ⟨z1, _⟩
      · rw [w2] at z1
        cases z1
        exact ⟨p, rfl, w3, w4⟩
      · exact absurd w2 (z1 d')
  · obtain ⟨p, d', w1, w2, w3, w4⟩ := cio j d e
    have hl : j < (backA as env').length := by
      rw [backA_length]
      exact (List.getElem?_eq_some_iff.mp e).1
    obtain ⟨b, q1, q2⟩ := backA_get (List.getElem?_eq_getElem hl)
    rw [e] at q1
    cases q1
    rcases q2 with ⟨d'', z1, z2⟩ | ⟨z1, _⟩
    · exact ⟨d'', by rw [List.getElem?_eq_getElem hl, z2]⟩
    · exact absurd w2 (z1 d')
end
/-- a def that keeps its promise on data, by its name -/
def Cal (P : Program) (w : World) (K : PySem.W.Frag) (mg : Str → Option Value) (base : Heap) (k : Nat) (x : Str) (n : Nat) (Φ : List Ar → FR) : Prop :=
  ∃ f fd ps, FnOk P w K mg base (L2N.CX P w) k f fd ps (spD K mg n Φ) ∧ mg x = some (.ref f) ∧ PySem.W.keepIn K (.ref f) = true ∧ Binds K fd ps []
theorem Cal.mono {P : Program} {w : World} {K : PySem.W.Frag} {mg : Str → Option Value} {base : Heap} {j k n : Nat} {x : Str} {Φ : List Ar → FR} (h : Cal P w K mg base j x n Φ) (hk : j ≤ k) : Cal P w K mg base k x n Φ :=
  let ⟨f, fd, ps, F, r⟩ := h
  ⟨f, fd, ps, F.mono hk, r⟩
/-- another function, where it tells anything -/
theorem Cal.imp {P : Program} {w : World} {K : PySem.W.Frag} {mg : Str → Option Value} {base : Heap} {k n : Nat} {x : Str} {Φ Ψ : List Ar → FR} (h : Cal P w K mg base k x n Φ) (e : ∀ as, as.length = n → Ψ as = .stk ∨ Ψ as = Φ as) : Cal P w K mg base k x n Ψ := by
  obtain ⟨f, fd, ps, F, r⟩ := h
  refine ⟨f, fd, ps, F.imp fun vs H Q E ⟨G, as, hl, o, p⟩ => ⟨G, as, hl, o, ?_⟩, r⟩
  rcases e as hl with z | z
  · rw [z] at p; exact p.elim
  · rw [← z]; exact p
section
variable {P : Program} {w : World} {K : PySem.W.Frag} {mg : Str → Option Value} {base : Heap}
/-- THE RULE for a def -/
theorem run_start {N : List Str} {n : Nat} {S : Sx} {as : List Ar} {vs : List V} {H G : Hp} {Q : VK} {E : XK} (hl : as.length = n) (hN : n ≤ N.length) (o : ArsOk K H G as vs) (p : PostF K mg as vs H G Q E (runF N.length S as)) :
    tS K mg (fun cls d _ H => E cls d H) H G (paOf as vs) S { nx := fun _ H' => Q .non H', rt := Q } (L2.start N vs) H := by
  refine ⟨G, startE N.length as, SR.begin o (by rw [hl]; exact hN), ?_⟩
  have nio : ∀ b, ¬ IoP as vs b → ∀ j, paOf as vs j ≠ some b := fun b n j hj => n (by
    obtain ⟨d, e1, e2⟩ := paOf_io.mp hj
    exact ⟨j, d, e1, e2⟩)
  unfold runF at p
  cases e : S (startE N.length as) with
  | nx e1 =>
    rw [e] at p
    exact fun σ' H' G' r => p .non H' G' (SR.cstp (N := N) o r) rfl
  | rt vl e1 =>
    rw [e] at p
    intro v σ' H' G' r rv
    cases vl with
    | im d => exact p v H' G' (SR.cstp (N := N) o r) rv
    | fr d =>
      obtain ⟨q, rfl, h1, h2, h3⟩ := rv
      exact p q H' G' (SR.cstp (N := N) o r) h1 h2 h3
    | bo i => exact p.elim
  | bk e1 => rw [e] at p; exact p.elim
  | ct e1 => rw [e] at p; exact p.elim
  | err c e1 =>
    rw [e] at p
    intro C σ' H' m se
    refine p C H' m fun b ob q n => ?_
    cases e1 with
    | some e1 => obtain ⟨G', r⟩ := se; exact r.keep b ob q (nio b n)
    | none => exact se b ob q (nio b n)
  | stk => rw [e] at p; exact p.elim
theorem fn_ok {x qual : Str} {st : Stmt} {f : Addr} {fd : FuncData} {N ps : List Str} {k n : Nat} {S : Sx} (F : Fun K x qual st f fd) (sc : FnScope N ps (defScope st)) (hm : mg x = some (.ref f)) (hb : Binds K fd ps []) (hn : ps.length = n) (hN : n ≤ N.length)
    (hbody : ∀ (cdv : Value) (A : Around) (outer : List Env) (s : Shared) (H : Hp) (E : XK), Room k (A.deeper (envOfC qual (defScope st) s.heap.objs.size f cdv)) →
      STs (cxOf (L2N.CX P w) P w K mg base N qual (defScope st) f cdv A outer s H E) (fun cls d _ H => E cls d H) (defBody st) S) : FnOk P w K mg base (L2N.CX P w) (k + 1) f fd ps (spD K mg n (runF N.length S)) := by
  obtain ⟨oc, od, kV, doc, pm, an, cdv, ct, osl, rfl, lk, hcd⟩ := F.ex
  refine fn_of lk hcd sc (fun vs H Q E h => ?_) (fun A outer s H vs Q E hr h => ?_)
  · obtain ⟨G, as, hl, o, _⟩ := h
    rw [o.ars.length, hl, hn]
  · obtain ⟨G, as, hl, o, p⟩ := h
    exact ⟨_, hbody cdv A outer s H E hr H G (paOf as vs), run_start hl hN o p⟩
theorem fn_cal {x qual : Str} {st : Stmt} {f : Addr} {fd : FuncData} {N ps : List Str} {k n : Nat} {S : Sx} (F : Fun K x qual st f fd) (sc : FnScope N ps (defScope st)) (hm : mg x = some (.ref f)) (hb : Binds K fd ps []) (hn : ps.length = n) (hN : n ≤ N.length)
    (hbody : ∀ (cdv : Value) (A : Around) (outer : List Env) (s : Shared) (H : Hp) (E : XK), Room k (A.deeper (envOfC qual (defScope st) s.heap.objs.size f cdv)) →
      STs (cxOf (L2N.CX P w) P w K mg base N qual (defScope st) f cdv A outer s H E) (fun cls d _ H => E cls d H) (defBody st) S) : Cal P w K mg base (k + 1) x n (runF N.length S) :=
  ⟨f, fd, ps, fn_ok F sc hm hb hn hN hbody, hm, F.kp, hb⟩
end
end HF

set_option Elab.async false
set_option linter.all false
set_option maxRecDepth 100000
set_option maxHeartbeats 4000000
set_option autoImplicit false
namespace HF
open PySem PySem.Spec PyProof.Rows L2
/-! ### calls of defs -/
@[simp] def conv1 (io : Bool) (e : List Sl) (l : Vl) : Option Ar := match io with
  | true => (match l with
    | .bo i => ((e[i]?).bind Sl.mu).map Ar.io
    | _ => none)
  | false => l.toIm.map Ar.val
@[simp] def conv : List Bool → List Sl → List Vl → Option (List Ar)
  | [], _, [] => some []
  | io :: sg, e, l :: ls => match conv1 io e l, conv sg e ls with
    | some a, some as => some (a :: as)
    | _, _ => none
  | _, _, _ => none
@[simp] def putE (i : Nat) (d : D) (e : List Sl) : List Sl := match e[i]? with
  | some s => e.set i (s.put d)
  | none => e
@[simp] def updL : List (Nat × D) → List Sl → List Sl
  | [], e => e
  | (i, d) :: r, e => updL r (putE i d e)
@[simp] def mkL : List Bool → List Vl → List Ar → List (Nat × D)
  | true :: sg, .bo i :: ls, .io d :: as => (i, d) :: mkL sg ls as
  | _ :: sg, _ :: ls, _ :: as => mkL sg ls as
  | _, _, _ => []
@[simp] def keysL : List Bool → List Vl → List Nat
  | true :: sg, .bo i :: ls => i :: keysL sg ls
  | _ :: sg, _ :: ls => keysL sg ls
  | _, _ => []
@[simp] def noIo (sg : List Bool) : Bool := sg.all fun b => !b
@[simp] def ndB (l : List Nat) : Bool := decide l.Nodup
@[simp] def callR (sg : List Bool) (Φ : List Ar → FR) (vls : List Vl) (e : List Sl) : Rs := match conv sg e vls with
  | some as => if ndB (keysL sg vls) then (match Φ as with
    | .im d as' => .ok (.im d) (updL (mkL sg vls as') e)
    | .fr d as' => .ok (.fr d) (updL (mkL sg vls as') e)
    | .err c => .err c (if noIo sg then some e else none)
    | .stk => .stk) else .stk
  | none => .stk
/-- own lists are lent: what is told bears none -/
@[simp] def Vl.isBo : Vl → Bool
  | .bo _ => true
  | _ => false
@[simp] def lend1 (e : List Sl) : Vl → Option D
  | .im d => some d
  | .fr d => some d
  | .bo i => (e[i]?).bind Sl.mu
@[simp] def lends (e : List Sl) : List Vl → Option (List D)
  | [] => some []
  | l :: ls => match lend1 e l, lends e ls with
    | some d, some ds => some (d :: ds)
    | _, _ => none
mutual
def D.pure : D → Bool
  | .tup xs => D.pureL xs
  | .lst _ => false
  | .dct _ _ => false
  | .scr _ => false
  | .non => true
  | .bl _ => true
  | .int _ => true
  | .str _ => true
  | .ty _ => true
  | .ob _ => true
def D.pureL : List D → Bool
  | [] => true
  | d :: ds => D.pure d && D.pureL ds
end
@[simp] theorem D.pure_tup (xs : List D) : (D.tup xs).pure = D.pureL xs := by rw [D.pure]
@[simp] theorem D.pure_int (i : Int) : (D.int i).pure = true := by rw [D.pure]
@[simp] theorem D.pure_bl (i : Bool) : (D.bl i).pure = true := by rw [D.pure]
@[simp] theorem D.pure_str (i : Str) : (D.str i).pure = true := by rw [D.pure]
@[simp] theorem D.pure_non : D.non.pure = true := by rw [D.pure]
@[simp] theorem D.pureL_nil : D.pureL [] = true := by rw [D.pureL]
@[simp] theorem D.pureL_cons (d : D) (ds : List D) : D.pureL (d :: ds) = (d.pure && D.pureL ds) := by rw [D.pureL]
@[simp] def D.pureF : D → Bool
  | .lst xs => D.pureL xs
  | _ => false
@[simp] def lendR (Φ : List Ar → FR) (vls : List Vl) (e : List Sl) : Rs := match lends e vls with
  | some ds => (match Φ (ds.map Ar.val) with
    | .im d _ => if d.pure then .ok (.im d) e else .stk
    | .fr d _ => if d.pureF then .ok (.fr d) e else .stk
    | .err c => .err c (some e)
    | .stk => .stk)
  | none => .stk
@[simp] def callX (sg : List Bool) (Φ : List Ar → FR) (vls : List Vl) (e : List Sl) : Rs := if noIo sg && (vls.any Vl.isBo && decide (vls.length = sg.length)) then lendR Φ vls e else callR sg Φ vls e
@[simp] def callF (sg : List Bool) (Φ : List Ar → FR) (Fs : FxL)  (env : List Sl) : Rs := bindL (Fs env) fun vls e => callX sg Φ vls e
theorem putE_get (i : Nat) (d : D) (e : List Sl) (k : Nat) : (putE i d e)[k]? = if i = k then (e[k]?).map (·.put d) else e[k]? := by
  unfold putE
  cases h : e[i]? with
  | none =>
    by_cases z : i = k
    · subst z
      rw [if_pos rfl, h]
      rfl
    · rw [if_neg z]
  | some s =>
    obtain ⟨hl, _⟩ := List.getElem?_eq_some_iff.mp h
    by_cases z : i = k
    · subst z
      rw [if_pos rfl]
      show (e.set i (s.put d))[i]? = _
      rw [List.getElem?_set_self hl, h]
      rfl
    · rw [if_neg z]
      show (e.set i (s.put d))[k]? = _
      rw [List.getElem?_set_ne z]
theorem lookup_notin {i : Nat} : ∀ {L : List (Nat × D)}, i ∉ L.map (·.1) → L.lookup i = none
  | [], _ => rfl
  | (j, d) :: r, h => by
    simp only [List.map_cons, List.mem_cons, not_or] at h
    rw [List.lookup_cons, beq_eq_false_iff_ne.mpr h.1]
    exact lookup_notin h.2
theorem updL_get : ∀ (L : List (Nat × D)) (e : List Sl) (k : Nat), (L.map (·.1)).Nodup → (updL L e)[k]? = match L.lookup k with
    | some d => (e[k]?).map (·.put d)
    | none => e[k]?
  | [], e, k, _ => rfl
  | (i, d) :: r, e, k, h => by
    simp only [List.map_cons, List.nodup_cons] at h
    unfold updL
    rw [updL_get r _ k h.2, putE_get, List.lookup_cons]
    by_cases z : i = k
    · subst z
      rw [lookup_notin h.1, if_pos rfl, beq_self_eq_true]
    · rw [if_neg z, beq_eq_false_iff_ne.mpr (fun q => z q.symm)]
theorem mkL_keys : ∀ (sg : List Bool) (vls : List Vl) (as : List Ar), (∀ (j : Nat) (i : Nat), sg[j]? = some true → vls[j]? = some (.bo i) → ∃ d, as[j]? = some (.io d)) → sg.length = as.length → vls.length = as.length → (mkL sg vls as).map (·.1) = keysL sg vls
  | [], vls, [], h, h1, h2 => by
    have : vls = [] := List.eq_nil_of_length_eq_zero h2
    subst this
    rfl
  | [], vls, a :: as, h, h1, h2 => by simp at h1
  | b :: sg, [], [], h, h1, h2 => by simp at h1
  | b :: sg, [], a :: as, h, h1, h2 => by simp at h2
  | b :: sg, l :: ls, [], h, h1, h2 => by simp at h1
  | b :: sg, l :: ls, a :: as, h, h1, h2 => by
    have ih := mkL_keys sg ls as (fun j i e1 e2 => by simpa using h (j + 1) i (by simpa using e1) (by simpa using e2)) (by simpa using h1) (by simpa using h2)
    cases b with
    | false => cases l <;> cases a <;> exact ih
    | true =>
      cases l with
      | bo i =>
        obtain ⟨d, e⟩ := h 0 i rfl rfl
        have : a = .io d := by simpa using e
        subst this
        show i :: (mkL sg ls as).map (·.1) = i :: keysL sg ls
        rw [ih]
      | im d => cases a <;> exact ih
      | fr d => cases a <;> exact ih
theorem mkL_mem : ∀ {sg : List Bool} {vls : List Vl} {as : List Ar} {i : Nat} {d : D}, (i, d) ∈ mkL sg vls as → ∃ j : Nat, sg[j]? = some true ∧ vls[j]? = some (.bo i) ∧ as[j]? = some (.io d)
  | [], vls, as, i, d, h => by cases vls <;> cases as <;> cases h
  | b :: sg, [], as, i, d, h => by cases b <;> cases as <;> cases h
  | b :: sg, l :: ls, [], i, d, h => by cases b <;> cases l <;> cases h
  | b :: sg, l :: ls, a :: as, i, d, h => by
    have rec_ : (i, d) ∈ mkL sg ls as → ∃ j : Nat, (b :: sg)[j]? = some true ∧ (l :: ls)[j]? = some (.bo i) ∧ (a :: as)[j]? = some (.io d) := fun h => by
      obtain ⟨j, e1, e2, e3⟩ := mkL_mem h
      exact ⟨j + 1, by simpa using e1, by simpa using e2, by simpa using e3⟩
    cases b with
    | false => cases l <;> cases a <;> exact rec_ h
    | true =>
      cases l with
      | im _ => cases a <;> exact rec_ h
      | fr _ => cases a <;> exact rec_ h
      | bo i' =>
        cases a with
        | val _ => exact rec_ h
        | io d' =>
          rcases List.mem_cons.mp h with z | z
          · cases z
            exact ⟨0, rfl, rfl, rfl⟩
          · exact rec_ z
theorem keysL_mem : ∀ {sg : List Bool} {vls : List Vl} {j i : Nat}, sg[j]? = some true → vls[j]? = some (.bo i) → i ∈ keysL sg vls
  | [], vls, j, i, h, e => by simp at h
  | b :: sg, [], j, i, h, e => by simp at e
  | b :: sg, l :: ls, 0, i, h, e => by
    have hb : b = true := by simpa using h
    have hl : l = .bo i := by simpa using e
    subst hb hl
    exact List.mem_cons_self
  | b :: sg, l :: ls, j + 1, i, h, e => by
    have ih := keysL_mem (sg := sg) (vls := ls) (j := j) (i := i) (by simpa using h) (by simpa using e)
    cases b with
    | false => cases l <;> exact ih
    | true => cases l <;> first | exact ih | exact List.mem_cons_of_mem _ ih
theorem lookup_mem {i : Nat} {d : D} : ∀ {L : List (Nat × D)}, L.lookup i = some d → (i, d) ∈ L
  | [], h => by cases h
  | (j, e) :: r, h => by
    rw [List.lookup_cons] at h
    by_cases z : i = j
    · subst z
      rw [beq_self_eq_true] at h
      cases h
      exact List.mem_cons_self
    · rw [beq_eq_false_iff_ne.mpr z] at h
      exact List.mem_cons_of_mem _ (lookup_mem h)
theorem conv_get : ∀ {sg : List Bool} {e : List Sl} {vls : List Vl} {as : List Ar}, conv sg e vls = some as → sg.length = as.length ∧ vls.length = as.length ∧ ∀ (j : Nat) (a : Ar), as[j]? = some a → ∃ io l, sg[j]? = some io ∧ vls[j]? = some l ∧ conv1 io e l = some a
  | [], e, [], as, h => by cases h; exact ⟨rfl, rfl, fun j a q => by simp at q⟩
  | [], e, l :: ls, as, h => by cases h
  | b :: sg, e, [], as, h => by cases h
  | b :: sg, e, l :: ls, as, h => by
    unfold conv at h
    cases e1 : conv1 b e l with
    | none => rw [e1] at h; cases h
    | some a =>
      cases e2 : conv sg e ls with
      | none => rw [e1, e2] at h; cases h
      | some as' =>
        rw [e1, e2] at h
        cases h
        obtain ⟨h1, h2, h3⟩ := conv_get e2
        refine ⟨by simp [h1], by simp [h2], fun j c q => ?_⟩
        cases j with
        | zero =>
          have : a = c := by simpa using q
          subst this
          exact ⟨b, l, rfl, rfl, e1⟩
        | succ j =>
          obtain ⟨io, l', q1, q2, q3⟩ := h3 j c (by simpa using q)
          exact ⟨io, l', by simpa using q1, by simpa using q2, q3⟩
/-- the values to be handed on: frozen, or lent -/
def ArV (K : PySem.W.Frag) (G : Hp) (σ : L2.St) (env : List Sl) : Ar → V → Prop
  | .val d, v => Rp K G d v
  | .io d, v => ∃ (i : Nat) (s : Sl) (p : Addr), env[i]? = some s ∧ s.mu = some d ∧ σ[i]? = some (some (.ref p)) ∧ v = .ref p
def ArsV (K : PySem.W.Frag) (G : Hp) (σ : L2.St) (env : List Sl) : List Ar → List V → Prop
  | [], xs => xs = []
  | a :: as, xs => ∃ x r, xs = x :: r ∧ ArV K G σ env a x ∧ ArsV K G σ env as r
section
variable {K : PySem.W.Frag} {σ : L2.St} {H0 G0 H : Hp} {env0 env : List Sl}
theorem conv_ok (r0 : ER K H0 G0 σ env0) : ∀ {sg : List Bool} {vls : List Vl} {vs : List V} {as : List Ar} {G : Hp}, VlsW K H0 H G σ env vls vs → Stp K σ H0 G0 env0 H G env → conv sg env vls = some as →
    ∃ G', Stp K σ H0 G0 env0 H G' env ∧ Same G G' ∧ (∀ b, G' b = G b ∨ G' b = H b) ∧ ArsV K G' σ env as vs
  | [], [], vs, as, G, h, s, e => by cases e; exact ⟨G, s, Same.refl _, fun _ => .inl rfl, h⟩
  | [], l :: ls, vs, as, G, h, s, e => by cases e
  | b :: sg, [], vs, as, G, h, s, e => by cases e
  | b :: sg, l :: ls, vs, as, G, h, s, e => by
    obtain ⟨x, r, rfl, h1, h2⟩ := h
    unfold conv at e
    cases e1 : conv1 b env l with
    | none => rw [e1] at e; cases e
    | some a =>
      cases e2 : conv sg env ls with
      | none => rw [e1, e2] at e; cases e
      | some as' =>
        rw [e1, e2] at e
        cases e
        cases b with
        | true =>
          cases l with
          | im _ => cases e1
          | fr _ => cases e1
          | bo i =>
            obtain ⟨t, d, p, q1, q2, q3, q4⟩ := h1
            have ea : ((env[i]?).bind Sl.mu).map Ar.io = some a := e1
            rw [q1] at ea
            have ea : (t.mu).map Ar.io = some a := ea
            rw [q2] at ea
            cases ea
            obtain ⟨G2, s2, g2, k2, w2⟩ := conv_ok r0 h2 s e2
            exact ⟨G2, s2, g2, k2, x, r, rfl, ⟨i, t, p, q1, q2, q3, q4⟩, w2⟩
        | false =>
          have ea : l.toIm.map Ar.val = some a := e1
          cases e3 : l.toIm with
          | none => rw [e3] at ea; cases ea
          | some d =>
            rw [e3] at ea
            cases ea
            obtain ⟨G1, s1, g1, k1, q1⟩ := h1.imm s r0 e3
            obtain ⟨G2, s2, g2, k2, w2⟩ := conv_ok r0 (VlsW.up g1 k1 h2) s1 e2
            refine ⟨G2, s2, g1.trans g2, fun b => ?_, x, r, rfl, Rp.mono g2 d x q1, w2⟩
            rcases k2 b with z | z
            · rw [z]; exact k1 b
            · exact .inr z
theorem ArsV.ars {G : Hp} (r : ER K H G σ env) : ∀ {as : List Ar} {vs : List V}, ArsV K G σ env as vs → ArsAt K H G as vs
  | [], vs, h => h
  | .val d :: as, vs, h => by
    obtain ⟨x, t, rfl, h1, h2⟩ := h
    exact ⟨x, t, rfl, h1, ArsV.ars r h2⟩
  | .io d :: as, vs, h => by
    obtain ⟨x, t, rfl, ⟨i, s, p, q1, q2, q3, q4⟩, h2⟩ := h
    obtain ⟨p', w1, w2, w3⟩ := r.mu i s d q1 q2
    rw [q3] at w1
    cases w1
    exact ⟨x, t, rfl, ⟨p, q4, w2, w3⟩, ArsV.ars r h2⟩
theorem VlsW.get {G : Hp} : ∀ {ls : List Vl} {vs : List V} {j : Nat} {l : Vl}, VlsW K H0 H G σ env ls vs → ls[j]? = some l → ∃ v, vs[j]? = some v ∧ VlW K H0 H G σ env l v
  | [], vs, j, l, h, e => by simp at e
  | l' :: ls, vs, 0, l, h, e => by
    obtain ⟨x, r, rfl, h1, _⟩ := h
    have : l' = l := by simpa using e
    subst this
    exact ⟨x, rfl, h1⟩
  | l' :: ls, vs, j + 1, l, h, e => by
    obtain ⟨x, r, rfl, _, h2⟩ := h
    obtain ⟨v, e1, h3⟩ := VlsW.get (j := j) (l := l) h2 (by simpa using e)
    exact ⟨v, by simpa using e1, h3⟩
theorem put_mu {s : Sl} {d e : D} (h : s.mu = some e) : (s.put d).mu = some d := by
  cases s <;> first | rfl | cases h
theorem put_kin {s : Sl} {d : D} : Kin (some s) (some (s.put d)) := by
  cases s <;> first | rfl | exact ⟨_, rfl⟩
/-- behind a call -/
theorem call_step {G H' G' : Hp} {sg : List Bool} {vls : List Vl} {vs : List V} {as as' : List Ar} (r : ER K H G σ env) (hw : VlsW K H0 H G σ env vls vs) (hc : conv sg env vls = some as) (nd : ndB (keysL sg vls) = true) (c : CStp K as vs H G H' G' as') :
    Stp K σ H G env H' G' (updL (mkL sg vls as') env) := by
  obtain ⟨l1, l2, cg⟩ := conv_get hc
  have nd : (keysL sg vls).Nodup := of_decide_eq_true nd
  have hl : vs.length = as'.length := c.ars.length
  have io_at : ∀ (j i : Nat), sg[j]? = some true → vls[j]? = some (.bo i) → ∃ s d p, env[i]? = some s ∧ s.mu = some d ∧ σ[i]? = some (some (.ref p)) ∧ vs[j]? = some (.ref p) ∧ as[j]? = some (.io d) := fun j i e1 e2 => by
    obtain ⟨v, q1, s, d, p, w1, w2, w3, w4⟩ := hw.get e2
    have hj : j < as.length := by rw [← l2]; exact (List.getElem?_eq_some_iff.mp e2).1
    obtain ⟨io, l, z1, z2, z3⟩ := cg j as[j] (List.getElem?_eq_getElem hj)
    rw [e1] at z1
    rw [e2] at z2
    cases z1
    cases z2
    have z3 : ((env[i]?).bind Sl.mu).map Ar.io = some as[j] := z3
    rw [w1] at z3
    have z3 : (s.mu).map Ar.io = some as[j] := z3
    rw [w2] at z3
    refine ⟨s, d, p, w1, w2, w3, by rw [q1, w4], ?_⟩
    rw [List.getElem?_eq_getElem hj]
    exact congrArg some (Option.some.inj z3).symm
  have la : as'.length = as.length := by
    have q : ArsAt K H' G' as' vs := c.ars
    rw [← q.length]
    have z : ∀ {ls : List Vl} {us : List V}, VlsW K H0 H G σ env ls us → us.length = ls.length := by
      intro ls
      induction ls with
      | nil => intro us h; rw [show us = [] from h]; rfl
      | cons l ls ih =>
        intro us h
        obtain ⟨x, t, rfl, _, h2⟩ := h
        rw [List.length_cons, List.length_cons, ih h2]
    rw [z hw, l2]
  have keys : (mkL sg vls as').map (·.1) = keysL sg vls := mkL_keys sg vls as' (fun j i e1 e2 => by
    obtain ⟨s, d, p, _, _, _, _, q⟩ := io_at j i e1 e2
    exact c.kin j d q) (by rw [l1, la]) (by rw [l2, la])
  have ug : ∀ k : Nat, (updL (mkL sg vls as') env)[k]? = match (mkL sg vls as').lookup k with
    | some d => (env[k]?).map (·.put d)
    | none => env[k]? := fun k => updL_get _ _ k (by rw [keys]; exact nd)
  have kin : ∀ k : Nat, Kin (env[k]?) ((updL (mkL sg vls as') env)[k]?) := fun k => by
    rw [ug k]
    cases e : (mkL sg vls as').lookup k with
    | none => exact Kin.refl _
    | some d =>
      cases e2 : env[k]? with
      | none => exact rfl
      | some s => exact put_kin
  have iop : ∀ p, IoP as vs p → ∃ i, i ∈ keysL sg vls ∧ σ[i]? = some (some (.ref p)) ∧ MuIs σ env p := fun p ⟨j, d, e1, e2⟩ => by
    obtain ⟨io, l, z1, z2, z3⟩ := cg j _ e1
    cases io with
    | false =>
      have z3 : l.toIm.map Ar.val = some (.io d) := z3
      cases hq : l.toIm with
      | none => rw [hq] at z3; cases z3
      | some x => rw [hq] at z3; cases z3
    | true =>
      cases l with
      | im _ => cases z3
      | fr _ => cases z3
      | bo i =>
        obtain ⟨s, d', p', w1, w2, w3, w4, w5⟩ := io_at j i z1 z2
        rw [e2] at w4
        cases w4
        exact ⟨i, keysL_mem z1 z2, w3, i, s, d', w1, w2, w3⟩
  have keepM : ∀ b o, H b = some o → ¬ MuIs σ env b → H' b = some o := fun b o e n => c.keep b o e fun z => by
    obtain ⟨i, _, _, m⟩ := iop b z
    exact n m
  refine ⟨⟨?_, c.gh, fun i d e => ?_, fun i s d e1 e2 => ?_, fun i j s t d e p h1 h2 h3 h4 h5 h6 => ?_⟩, c.gr, c.old, keepM, kin⟩
  · rw [r.len]
    have : ∀ (L : List (Nat × D)) (e : List Sl), (updL L e).length = e.length := by
      intro L
      induction L with
      | nil => intro e; rfl
      | cons a L ih =>
        intro e
        obtain ⟨i, d⟩ := a
        unfold updL
        rw [ih]
        unfold putE
        split <;> simp
    rw [this]
  · rw [ug i] at e
    have e' : env[i]? = some (.val d) := by
      cases q : (mkL sg vls as').lookup i with
      | none => rw [q] at e; exact e
      | some x =>
        rw [q] at e
        cases q2 : env[i]? with
        | none => rw [q2] at e; cases e
        | some s =>
          rw [q2] at e
          have e : some (s.put x) = some (.val d) := e
          cases s <;> first | exact e | cases e
    obtain ⟨v, w1, w2⟩ := r.val i d e'
    exact ⟨v, w1, Rp.mono c.gr d v w2⟩
  · rw [ug i] at e1
    cases q : (mkL sg vls as').lookup i with
    | none =>
      rw [q] at e1
      obtain ⟨p, w1, w2, w3⟩ := r.mu i s d e1 e2
      refine ⟨p, w1, c.old p w3.there w2, w3.mono ?_ c.gr⟩
      cases z : H p with
      | none => exact absurd z w3.there
      | some o =>
        refine c.keep p o z fun hio => ?_
        obtain ⟨i', m1, m2, _⟩ := iop p hio
        -- the lent slot is this one
        obtain ⟨j, y1, y2⟩ : ∃ j : Nat, sg[j]? = some true ∧ vls[j]? = some (.bo i') := by
          rw [← keys] at m1
          obtain ⟨⟨a, b⟩, y1, y2⟩ := List.mem_map.mp m1
          obtain ⟨j, x1, x2, _⟩ := mkL_mem y1
          cases y2
          exact ⟨j, x1, x2⟩
        obtain ⟨s', d', p', v1, v2, v3, _, _⟩ := io_at j i' y1 y2
        rw [m2] at v3
        cases v3
        have ei : i = i' := r.sep i i' s s' d d' p e1 e2 v1 v2 w1 m2
        rw [← ei, ← keys] at m1
        have : (mkL sg vls as').lookup i ≠ none := by
          intro hn
          obtain ⟨⟨a, b⟩, y1, y2⟩ := List.mem_map.mp m1
          have ea : a = i := y2
          rw [ea] at y1
          have : ∀ {L : List (Nat × D)}, (i, b) ∈ L → L.lookup i ≠ none := by
            intro L
            induction L with
            | nil => intro h; cases h
            | cons x L ih =>
              intro h
              obtain ⟨x1, x2⟩ := x
              rw [List.lookup_cons]
              by_cases hx : i = x1
              · subst hx; rw [beq_self_eq_true]; exact fun z => nomatch z
              · rw [beq_eq_false_iff_ne.mpr hx]
                rcases List.mem_cons.mp h with h | h
                · cases h; exact absurd rfl hx
                · exact ih h
          exact this y1 hn
        exact absurd q this
    | some x =>
      rw [q] at e1
      cases q2 : env[i]? with
      | none => rw [q2] at e1; cases e1
      | some t =>
        rw [q2] at e1
        have e1 : some (t.put x) = some s := e1
        cases e1
        obtain ⟨j, y1, y2, y3⟩ := mkL_mem (lookup_mem q)
        obtain ⟨s', d', p, v1, v2, v3, v4, v5⟩ := io_at j i y1 y2
        rw [q2] at v1
        cases v1
        rw [put_mu v2] at e2
        cases e2
        obtain ⟨v, u1, p', u2, u3, u4⟩ := c.ars.get y3
        rw [v4] at u1
        cases u1
        cases u2
        exact ⟨p, v3, u3, u4⟩
  · have back : ∀ {i : Nat} {s : Sl} {d : D}, (updL (mkL sg vls as') env)[i]? = some s → s.mu = some d → ∃ t e, env[i]? = some t ∧ t.mu = some e := fun {i s d} e1 e2 => by
      have k := kin i
      rw [e1] at k
      obtain ⟨u, e, q1, q2⟩ := k.back e2
      exact ⟨u, e, q1, q2⟩
    obtain ⟨s', d', x1, x2⟩ := back h1 h2
    obtain ⟨t', e', y1, y2⟩ := back h3 h4
    exact r.sep i j s' t' d' e' p x1 x2 y1 y2 h5 h6
end
section
variable {X : Cx} {W : WX} {x : Str} {k k' n : Nat} {Φ : List Ar → FR} {p pos : Pos} {e : Expr} {es : List Expr} {Fs : FxL} {sg : List Bool}
theorem call_of {H G : Hp} {σ : L2.St} {env : List Sl} {vls : List Vl} {vs : List V} {H1 G1 : Hp} {env1 : List Sl} {Q : VK} (r : ER X.K H G σ env) (s1 : Stp X.K σ H G env H1 G1 env1) (v1 : VlsAt X.K H H1 G1 σ env1 vls vs)
    (h : PostR X.K X.mg W σ H G env Q (callR sg Φ vls env1)) (hn : sg.length = n) : spD X.K X.mg n Φ vs H1 Q (WE W σ) := by
  unfold callR at h
  cases ec : conv sg env1 vls with
  | none => rw [ec] at h; exact h.elim
  | some as =>
    rw [ec] at h
    simp only at h
    split at h
    · rename_i nd
      obtain ⟨G2, s2, g2, k2, av⟩ := conv_ok r v1.w s1 ec
      have hw : VlsW X.K H H1 G2 σ env1 vls vs := VlsW.up g2 k2 v1.w
      have ars := ArsV.ars s2.er av
      obtain ⟨l1, l2, cg⟩ := conv_get ec
      have iom : ∀ b, IoP as vs b → MuIs σ env1 b := fun b ⟨j, d, e1, e2⟩ => by
        obtain ⟨io, l, z1, z2, z3⟩ := cg j _ e1
        obtain ⟨v, y1, y2⟩ := hw.get z2
        rw [e2] at y1
        cases y1
        cases io with
        | false =>
          have z3 : l.toIm.map Ar.val = some (.io d) := z3
          cases hq : l.toIm with
          | none => rw [hq] at z3; cases z3
          | some x => rw [hq] at z3; cases z3
        | true =>
          cases l with
          | im _ => cases z3
          | fr _ => cases z3
          | bo i =>
            obtain ⟨s, d', p', w1, w2, w3, w4⟩ := y2
            cases w4
            exact ⟨i, s, d', w1, w2, w3⟩
      refine ⟨G2, as, by rw [← l1, hn], ⟨s2.er.sub, ars, fun i j d e p h1 h2 h3 h4 => ?_⟩, ?_⟩
      · -- the lent slots are apart
        obtain ⟨io, l, z1, z2, z3⟩ := cg i _ h1
        obtain ⟨io', l', z1', z2', z3'⟩ := cg j _ h2
        have bo_of : ∀ {io : Bool} {l : Vl} {d : D}, conv1 io env1 l = some (.io d) → io = true ∧ ∃ i, l = .bo i := by
          intro io l d z
          cases io with
          | false =>
            have z : l.toIm.map Ar.val = some (.io d) := z
            cases hq : l.toIm with
            | none => rw [hq] at z; cases z
            | some x => rw [hq] at z; cases z
          | true => cases l <;> first | exact ⟨rfl, _, rfl⟩ | cases z
        obtain ⟨rfl, a, rfl⟩ := bo_of z3
        obtain ⟨rfl, b, rfl⟩ := bo_of z3'
        obtain ⟨v, y1, s, d', p', w1, w2, w3, w4⟩ := hw.get z2
        obtain ⟨v', y1', s', d'', p'', w1', w2', w3', w4'⟩ := hw.get z2'
        rw [h3] at y1
        rw [h4] at y1'
        cases y1
        cases y1'
        cases w4
        cases w4'
        have eab : a = b := s2.er.sep a b s s' d' d'' p w1 w2 w1' w2' w3 w3'
        subst eab
        have nd' : (keysL sg vls).Nodup := of_decide_eq_true nd
        have : ∀ {sg : List Bool} {vls : List Vl} {i j a : Nat}, (keysL sg vls).Nodup → sg[i]? = some true → vls[i]? = some (.bo a) → sg[j]? = some true → vls[j]? = some (.bo a) → i = j := by
          intro sg
          induction sg with
          | nil => intro vls i j a _ h; simp at h
          | cons b sg ih =>
            intro vls i j a hnd h1 h2 h3 h4
            cases vls with
            | nil => simp at h2
            | cons l ls =>
              have hnd' : (keysL sg ls).Nodup := by
                cases b with
                | false => cases l <;> exact hnd
                | true => cases l <;> first | exact hnd | exact (List.nodup_cons.mp hnd).2
              cases i with
              | zero =>
                cases j with
                | zero => rfl
                | succ j =>
                  have hb : b = true := by simpa using h1
                  have hl : l = .bo a := by simpa using h2
                  subst hb hl
                  exact absurd (keysL_mem (by simpa using h3) (by simpa using h4)) (List.nodup_cons.mp hnd).1
              | succ i =>
                cases j with
                | zero =>
                  have hb : b = true := by simpa using h3
                  have hl : l = .bo a := by simpa using h4
                  subst hb hl
                  exact absurd (keysL_mem (by simpa using h1) (by simpa using h2)) (List.nodup_cons.mp hnd).1
                | succ j => exact congrArg (· + 1) (ih (vls := ls) (i := i) (j := j) (a := a) hnd' (by simpa using h1) (by simpa using h2) (by simpa using h3) (by simpa using h4))
        exact this nd' z1 z2 z1' z2'
      · cases ef : Φ as with
        | stk => rw [ef] at h; exact h.elim
        | im d as' =>
          rw [ef] at h
          intro v H' G' c hv
          exact h v H' G' (s2.trans (call_step s2.er hw ec nd c) r) hv
        | fr d as' =>
          rw [ef] at h
          intro q H' G' c h1 h2 h3
          exact h _ H' G' (s2.trans (call_step s2.er hw ec nd c) r) ⟨q, rfl, s2.free r h1, h2, h3⟩
        | err c =>
          rw [ef] at h
          intro C H' m ke
          refine h C H' m ?_
          split
          · rename_i no
            have nio : ∀ b, ¬ IoP as vs b := fun b ⟨j, d, e1, e2⟩ => by
              obtain ⟨io, l, z1, z2, z3⟩ := cg j _ e1
              cases io with
              | false =>
                have z : l.toIm.map Ar.val = some (.io d) := z3
                cases hq : l.toIm with
                | none => rw [hq] at z; cases z
                | some x => rw [hq] at z; cases z
              | true =>
                have := List.all_eq_true.mp no true (List.mem_of_getElem? z1)
                cases this
            have sm : Same H1 H' := fun b o e => ke b o e (nio b)
            exact ⟨G2, s2.trans (Stp.gs s2.er ⟨sm, Same.refl _, s2.er.sub.trans sm, fun _ _ h => h⟩) r⟩
          · intro b o e n
            exact ke b o (s1.keep b o e n) fun z => n ((iom b z).of s1.kin)
    · exact h.elim
/-- readable, perhaps frozen -/
def RpW (K : PySem.W.Frag) (H G : Hp) (d : D) (v : V) : Prop := Rp K G d v ∨ ∃ p, v = .ref p ∧ (G p = none ∨ G p = H p) ∧ MuAt K H G d p
def LstAt (H : Hp) (b : Addr) : Prop := (∃ xs, H b = some (.lst xs)) ∨ ∃ kvs, H b = some (.dK kvs)
theorem MuAt.lstAt {K : PySem.W.Frag} {H G : Hp} {d : D} {p : Addr} (h : MuAt K H G d p) : LstAt H p := by
  cases d with
  | lst ds => obtain ⟨xs, e, _⟩ := h; exact .inl ⟨xs, e⟩
  | dct ks ds => obtain ⟨xs, e, _⟩ := h; exact .inr ⟨xs, e⟩
  | _ => exact h.elim
theorem RpW.frz {K : PySem.W.Frag} {H G : Hp} {d : D} {v : V} (s : Same G H) (h : RpW K H G d v) : ∃ G', Same G G' ∧ Same G' H ∧ (∀ b, G' b = G b ∨ (G' b = H b ∧ LstAt H b)) ∧ Rp K G' d v := by
  rcases h with h | ⟨p, rfl, hp, m⟩
  · exact ⟨G, Same.refl _, s, fun _ => .inl rfl, h⟩
  · by_cases g : G p = none
    · obtain ⟨G', g1, g2, g3, g4⟩ := m.frz g s
      refine ⟨G', g1, g2, fun b => ?_, g4⟩
      by_cases hb : b = p
      · subst hb
        right
        refine ⟨?_, m.lstAt⟩
        cases q : G' b with
        | some o => exact (g2 b o q).symm
        | none =>
          exfalso
          cases d with
          | lst ds => obtain ⟨a, xs, ea, eb, _⟩ := g4; cases ea; rw [q] at eb; cases eb
          | dct ks ds => obtain ⟨a, xs, ea, eb, _⟩ := g4; cases ea; rw [q] at eb; cases eb
          | _ => exact m.elim
      · exact .inl (g3 b hb)
    · have e5 : G p = H p := hp.resolve_left g
      refine ⟨G, Same.refl _, s, fun _ => .inl rfl, ?_⟩
      cases d with
      | lst ds => obtain ⟨xs, q1, q2⟩ := m; exact ⟨p, xs, rfl, by rw [e5]; exact q1, q2⟩
      | dct ks ds => obtain ⟨xs, q1, q2, q3⟩ := m; exact ⟨p, xs, rfl, by rw [e5]; exact q1, q2, q3⟩
      | _ => exact m.elim
theorem RpW.up {K : PySem.W.Frag} {H G G' : Hp} {d : D} {v : V} (g : Same G G') (k : ∀ b, G' b = G b ∨ (G' b = H b ∧ LstAt H b)) (h : RpW K H G d v) : RpW K H G' d v := by
  rcases h with h | ⟨p, e, hp, m⟩
  · exact .inl (Rp.mono g d v h)
  · refine .inr ⟨p, e, ?_, m.mono rfl g⟩
    rcases k p with z | z
    · rw [z]; exact hp
    · exact .inr z.1
def RpWs (K : PySem.W.Frag) (H G : Hp) : List D → List V → Prop
  | [], xs => xs = []
  | d :: ds, xs => ∃ x r, xs = x :: r ∧ RpW K H G d x ∧ RpWs K H G ds r
theorem RpWs.up {K : PySem.W.Frag} {H G G' : Hp} (g : Same G G') (k : ∀ b, G' b = G b ∨ (G' b = H b ∧ LstAt H b)) : ∀ {ds : List D} {vs : List V}, RpWs K H G ds vs → RpWs K H G' ds vs
  | [], vs, h => h
  | d :: ds, vs, ⟨x, r, e, h1, h2⟩ => ⟨x, r, e, h1.up g k, RpWs.up g k h2⟩
theorem RpWs.frz {K : PySem.W.Frag} {H : Hp} : ∀ {ds : List D} {vs : List V} {G : Hp}, Same G H → RpWs K H G ds vs → ∃ G', Same G G' ∧ Same G' H ∧ (∀ b, G' b = G b ∨ (G' b = H b ∧ LstAt H b)) ∧ RpL K G' ds vs
  | [], vs, G, s, h => ⟨G, Same.refl _, s, fun _ => .inl rfl, h⟩
  | d :: ds, vs, G, s, ⟨x, r, e, h1, h2⟩ => by
    obtain ⟨G1, a1, a2, a3, a4⟩ := h1.frz s
    obtain ⟨G2, b1, b2, b3, b4⟩ := RpWs.frz a2 (RpWs.up a1 a3 h2)
    refine ⟨G2, a1.trans b1, b2, fun b => ?_, x, r, e, Rp.mono b1 d x a4, b4⟩
    rcases b3 b with z | z
    · rw [z]; exact a3 b
    · exact .inr z
theorem lends_ok {K : PySem.W.Frag} {H0 H G : Hp} {σ : L2.St} {env : List Sl} (r : ER K H G σ env) : ∀ {vls : List Vl} {vs : List V} {ds : List D}, VlsW K H0 H G σ env vls vs → lends env vls = some ds → RpWs K H G ds vs
  | [], vs, ds, h, e => by cases e; exact h
  | l :: ls, vs, ds, ⟨x, rr, e0, h1, h2⟩, e => by
    unfold lends at e
    cases e1 : lend1 env l with
    | none => rw [e1] at e; cases e
    | some d =>
      cases e2 : lends env ls with
      | none => rw [e1, e2] at e; cases e
      | some ds' =>
        rw [e1, e2] at e
        cases e
        refine ⟨x, rr, e0, ?_, lends_ok r h2 e2⟩
        cases l with
        | im d' => cases e1; exact .inl h1
        | fr d' =>
          cases e1
          obtain ⟨p, q1, q2, q3, q4⟩ := h1
          exact .inr ⟨p, q1, q3, q4⟩
        | bo i =>
          obtain ⟨s, d', p, q1, q2, q3, q4⟩ := h1
          have e1 : (env[i]?).bind Sl.mu = some d := e1
          rw [q1] at e1
          have e1 : s.mu = some d := e1
          obtain ⟨p', w1, w2, w3⟩ := r.mu i s d q1 e1
          rw [q3] at w1
          cases w1
          exact .inr ⟨p, q4, .inl w2, w3⟩
theorem RpL.vals {K : PySem.W.Frag} {H G : Hp} : ∀ {ds : List D} {vs : List V}, RpL K G ds vs → ArsAt K H G (ds.map Ar.val) vs
  | [], vs, h => h
  | d :: ds, vs, ⟨x, r, e, h1, h2⟩ => ⟨x, r, e, h1, RpL.vals h2⟩
mutual
/-- what bears no list does not need the lists -/
theorem Rp.less {K : PySem.W.Frag} {G G' : Hp} (e : ∀ a, (∃ xs, G a = some (.tup xs)) ∨ (∃ o xs, G a = some (.frz o (.tup xs))) → G' a = G a) : ∀ (d : D) (v : V), d.pure = true → Rp K G d v → Rp K G' d v
  | .non, v, _, h => h
  | .bl _, v, _, h => h
  | .int _, v, _, h => h
  | .str _, v, _, h => h
  | .tup ds, v, hp, h => by
    obtain ⟨a, xs, e1, h1, h2⟩ := h
    refine ⟨a, xs, e1, ?_, RpL.less e ds xs (by simpa using hp) h2⟩
    rcases h1 with (h1 | ⟨o, h1⟩) | h1
    · exact .inl (.inl (by rw [e a (.inl ⟨xs, h1⟩)]; exact h1))
    · exact .inl (.inr ⟨o, by rw [e a (.inr ⟨o, xs, h1⟩)]; exact h1⟩)
    · exact .inr h1
  | .lst _, v, hp, h => by rw [D.pure] at hp; cases hp
  | .dct _ _, v, hp, h => by rw [D.pure] at hp; cases hp
  | .scr _, v, hp, h => by rw [D.pure] at hp; cases hp
  | .ty _, v, _, h => h
  | .ob _, v, _, h => h
theorem RpL.less {K : PySem.W.Frag} {G G' : Hp} (e : ∀ a, (∃ xs, G a = some (.tup xs)) ∨ (∃ o xs, G a = some (.frz o (.tup xs))) → G' a = G a) : ∀ (ds : List D) (vs : List V), D.pureL ds = true → RpL K G ds vs → RpL K G' ds vs
  | [], vs, _, h => h
  | d :: ds, vs, hp, h => by
    obtain ⟨x, r, e1, h1, h2⟩ := h
    simp only [D.pureL_cons, Bool.and_eq_true] at hp
    exact ⟨x, r, e1, Rp.less e d x hp.1 h1, RpL.less e ds r hp.2 h2⟩
end
theorem lend_of {H G : Hp} {σ : L2.St} {env : List Sl} {vls : List Vl} {vs : List V} {H1 G1 : Hp} {env1 : List Sl} {Q : VK} (r : ER X.K H G σ env) (s1 : Stp X.K σ H G env H1 G1 env1) (v1 : VlsAt X.K H H1 G1 σ env1 vls vs)
    (h : PostR X.K X.mg W σ H G env Q (lendR Φ vls env1)) (hn : vls.length = n) : spD X.K X.mg n Φ vs H1 Q (WE W σ) := by
  unfold lendR at h
  cases el : lends env1 vls with
  | none => rw [el] at h; exact h.elim
  | some ds =>
    rw [el] at h
    simp only at h
    obtain ⟨G2, g1, g2, g3, g4⟩ := RpWs.frz s1.er.sub (lends_ok s1.er v1.w el)
    have noio : ∀ b, ¬ IoP (ds.map Ar.val) vs b := fun b ⟨j, d, e1, _⟩ => by
      rw [List.getElem?_map] at e1
      cases q : ds[j]? with
      | none => rw [q] at e1; cases e1
      | some x => rw [q] at e1; cases e1
    have ln : (ds.map Ar.val).length = n := by
      rw [List.length_map, ← hn]
      have : ∀ {ls : List Vl} {ds : List D}, lends env1 ls = some ds → ds.length = ls.length := by
        intro ls
        induction ls with
        | nil => intro ds e; cases e; rfl
        | cons l ls ih =>
          intro ds e
          unfold lends at e
          cases e1 : lend1 env1 l with
          | none => rw [e1] at e; cases e
          | some d =>
            cases e2 : lends env1 ls with
            | none => rw [e1, e2] at e; cases e
            | some ds' => rw [e1, e2] at e; cases e; rw [List.length_cons, List.length_cons, ih e2]
      exact this el
    refine ⟨G2, ds.map Ar.val, ln, ⟨g2, g4.vals, fun i j d e p h1 _ h3 _ => (noio p ⟨i, d, h1, h3⟩).elim⟩, ?_⟩
    -- behind the call the lent are own again
    have back : ∀ {H' G' : Hp} {as' : List Ar}, CStp X.K (ds.map Ar.val) vs H1 G2 H' G' as' → ∃ G3, Stp X.K σ H1 G1 env1 H' G3 env1 ∧ (∀ a, (∃ xs, G' a = some (.tup xs)) ∨ (∃ o xs, G' a = some (.frz o (.tup xs))) → G3 a = G' a) ∧ (∀ b, G' b = none → G3 b = none) := by
      intro H' G' as' c
      classical
      refine ⟨fun b => if H1 b ≠ none ∧ G1 b = none then none else G' b, ?_, fun a ha => ?_, fun b hb => ?_⟩
      · have up : Same G1 (fun b => if H1 b ≠ none ∧ G1 b = none then none else G' b) := fun b o q => by
          have : ¬ (H1 b ≠ none ∧ G1 b = none) := fun z => by rw [z.2] at q; cases q
          show (if H1 b ≠ none ∧ G1 b = none then none else G' b) = some o
          rw [if_neg this]
          exact c.gr b o (g1 b o q)
        refine ⟨⟨s1.er.len, fun b o q => ?_, fun i d q => ?_, fun i s d q1 q2 => ?_, s1.er.sep⟩, up, fun b hb hg => if_pos ⟨hb, hg⟩, fun b o q _ => c.keep b o q (noio b), fun _ => Kin.refl _⟩
        · have q : (if H1 b ≠ none ∧ G1 b = none then none else G' b) = some o := q
          split at q
          · cases q
          · exact c.gh b o q
        · obtain ⟨v, w1, w2⟩ := s1.er.val i d q
          exact ⟨v, w1, Rp.mono up d v w2⟩
        · obtain ⟨p, w1, w2, w3⟩ := s1.er.mu i s d q1 q2
          refine ⟨p, w1, if_pos ⟨w3.there, w2⟩, w3.mono ?_ up⟩
          cases z : H1 p with
          | none => exact absurd z w3.there
          | some o => exact c.keep p o z (noio p)
      · show (if H1 a ≠ none ∧ G1 a = none then none else G' a) = G' a
        refine if_neg fun ⟨z1, z2⟩ => ?_
        have notT : ∀ {o : HO}, G2 a = some o → LstAt H1 a → H1 a = some o → False := fun {o} e1 e2 e3 => by
          have e4 := c.gr a o e1
          rcases ha with ⟨xs, ha⟩ | ⟨o', xs, ha⟩ <;> (rw [e4] at ha; cases ha; rcases e2 with ⟨ys, e2⟩ | ⟨ys, e2⟩ <;> (rw [e3] at e2; cases e2))
        cases e2 : G2 a with
        | none =>
          have := c.old a z1 e2
          rcases ha with ⟨xs, ha⟩ | ⟨o', xs, ha⟩ <;> (rw [this] at ha; cases ha)
        | some o =>
          rcases g3 a with z | ⟨z, l⟩
          · rw [z, z2] at e2; cases e2
          · exact notT e2 l (by rw [← z]; exact e2)
      · show (if H1 b ≠ none ∧ G1 b = none then none else G' b) = none
        split
        · rfl
        · exact hb
    cases ef : Φ (ds.map Ar.val) with
    | stk => rw [ef] at h; exact h.elim
    | im d as' =>
      rw [ef] at h
      simp only at h
      split at h
      · rename_i hp
        intro v H' G' c hv
        obtain ⟨G3, st, less, _⟩ := back c
        exact h v H' G3 (s1.trans st r) (Rp.less less d v hp hv)
      · exact h.elim
    | fr d as' =>
      rw [ef] at h
      simp only at h
      split at h
      · rename_i hp
        intro q H' G' c h1 h2 h3
        obtain ⟨G3, st, less, keepN⟩ := back c
        refine h _ H' G3 (s1.trans st r) ⟨q, rfl, s1.free r h1, keepN q h2, ?_⟩
        cases d with
        | lst xs =>
          obtain ⟨ys, e1, e2⟩ := h3
          exact ⟨ys, e1, RpL.less less xs ys hp e2⟩
        | _ => cases hp
      · exact h.elim
    | err c =>
      rw [ef] at h
      intro C H' m ke
      refine h C H' m ?_
      have sm : Same H1 H' := fun b o e => ke b o e (noio b)
      exact ⟨G1, s1.trans (Stp.gs s1.er ⟨sm, Same.refl _, s1.er.sub.trans sm, fun _ _ h => h⟩) r⟩
theorem callX_of {H G : Hp} {σ : L2.St} {env : List Sl} {vls : List Vl} {vs : List V} {H1 G1 : Hp} {env1 : List Sl} {Q : VK} (r : ER X.K H G σ env) (s1 : Stp X.K σ H G env H1 G1 env1) (v1 : VlsAt X.K H H1 G1 σ env1 vls vs)
    (h : PostR X.K X.mg W σ H G env Q (callX sg Φ vls env1)) (hn : sg.length = n) : spD X.K X.mg n Φ vs H1 Q (WE W σ) := by
  unfold callX at h
  split at h
  · rename_i c
    simp only [Bool.and_eq_true, decide_eq_true_eq] at c
    exact lend_of r s1 v1 h (c.2.2.trans hn)
  · exact call_of r s1 v1 h hn
theorem ex_call (c : Cal X.prog X.w X.K X.mg X.base k x n Φ) (hr : Room k' X.A) (hk : k ≤ k') (tk : L2N.Takes X W) (hn : sg.length = n) (ha : AX X W (e :: es) Fs) (hg : Gl X x := by rfl) (hdb : (x == ("__debug__" : Str)) = false := by decide) (he : starEach (e :: es) X.env = (false, eval e X.env) :: starEach es X.env := by rfl) (hpl : (backTo pos (starEach es X.env)).any (·.1) = false := by rfl) :
    EX X W (.Call (.Name x p) (e :: es) [] pos) (callF sg Φ Fs) := by
  obtain ⟨f, fd, ps, F, gm, gk, gb⟩ := c
  refine PE.weak (pe_callS F (hr.mono hk) hg gm gk gb (fun σ => L2N.passAt tk σ) ha hdb he hpl) fun σ H Q ⟨G, env, r, h⟩ => ?_
  exact tDA_bind r h fun vls e1 vs H1 G1 s1 v1 p1 => callX_of r s1 v1 p1 hn
end
end HF

set_option Elab.async false
set_option linter.all false
set_option maxRecDepth 100000
set_option maxHeartbeats 4000000
set_option autoImplicit false
namespace HF
open PySem PySem.Spec PyProof.Rows L2
/-! ### what is walked -/
inductive RsS where
  | ok (ds : List D) (env : List Sl)
  | err (c : Str) (env : Option (List Sl))
  | stk
abbrev SFx := List Sl → RsS
/-- the walk J gives ds, while what is frozen in G1 stands -/
structure JOk (K : PySem.W.Frag) (J : It) (ds : List D) (G1 : Hp) : Prop where
  go : ∀ H G i, Same G1 G → Same G H → i < ds.length → J.go i H
  yld : ∀ H G i x H', Same G1 G → Same G H → i < ds.length → J.yld i H x H' → ∃ G' d, ds[i]? = some d ∧ GS H G H' G' ∧ Rp K G' d x
  stop : ∀ H G, Same G1 G → Same G H → J.stop ds.length H
def PostI (K : PySem.W.Frag) (mg : Str → Option Value) (W : WX) (σ : L2.St) (H G : Hp) (env : List Sl) (R : It → Hp → Prop) : RsS → Prop
  | .ok ds env' => ∀ J H' G', Stp K σ H G env H' G' env' → JOk K J ds G' → R J H'
  | .err c e => ∀ C H', mg c = some (.ref C) → ErrAt K σ H G env H' e → W (.ref C) none σ H'
  | .stk => False
def tI (K : PySem.W.Frag) (mg : Str → Option Value) (W : WX) (F : SFx) : TI := fun σ H R => ∃ G env, ER K H G σ env ∧ PostI K mg W σ H G env R (F env)
def SX (X : Cx) (W : WX) (tg iter : Expr) (F : SFx) : Prop := PI X tg iter (tI X.K X.mg W F)
theorem PI.weak {X : Cx} {tg iter : Expr} {t t' : TI} (h : PI X tg iter t) (w : ∀ σ H R, t' σ H R → t σ H R) : PI X tg iter t' := ⟨fun pins s σ H R I q => h.run pins s σ H R I (w σ H R q)⟩
theorem PI.or {X : Cx} {tg iter : Expr} {t t' : TI} (h : PI X tg iter t) (h' : PI X tg iter t') : PI X tg iter (fun σ H R => t σ H R ∨ t' σ H R) := ⟨fun pins s σ H R I q => q.elim (h.run pins s σ H R I) (h'.run pins s σ H R I)⟩
theorem tI_bind {K : PySem.W.Frag} {mg : Str → Option Value} {W : WX} {σ : L2.St} {H G : Hp} {env : List Sl} {F : Fx} {R : It → Hp → Prop} {k : VK} {f : Vl → List Sl → RsS} (r : ER K H G σ env)
    (h : PostI K mg W σ H G env R (match F env with
      | .ok v e => f v e
      | .err c e => .err c e
      | .stk => .stk))
    (st : ∀ vl env1 v H1 G1, F env = .ok vl env1 → Stp K σ H G env H1 G1 env1 → VlAt K H H1 G1 σ env1 vl v → PostI K mg W σ H G env R (f vl env1) → k v H1) : tD K mg W F σ H k := by
  refine ⟨G, env, r, ?_⟩
  cases e : F env with
  | ok vl env1 =>
    rw [e] at h
    exact fun v H1 G1 s v1 => st vl env1 v H1 G1 e s v1 h
  | err c e' =>
    rw [e] at h
    exact h
  | stk =>
    rw [e] at h
    exact h
theorem tI_bindA {K : PySem.W.Frag} {mg : Str → Option Value} {W : WX} {σ : L2.St} {H G : Hp} {env : List Sl} {F : FxL} {R : It → Hp → Prop} {k : List V → Hp → Prop} {f : List Vl → List Sl → RsS} (r : ER K H G σ env)
    (h : PostI K mg W σ H G env R (match F env with
      | .ok v e => f v e
      | .err c e => .err c e
      | .stk => .stk))
    (st : ∀ vls env1 vs H1 G1, Stp K σ H G env H1 G1 env1 → VlsAt K H H1 G1 σ env1 vls vs → PostI K mg W σ H G env R (f vls env1) → k vs H1) : tDA K mg W F σ H k := by
  refine ⟨G, env, r, ?_⟩
  cases e : F env with
  | ok vl env1 =>
    rw [e] at h
    exact fun v H1 G1 s v1 => st vl env1 v H1 G1 s v1 h
  | err c e' =>
    rw [e] at h
    exact h
  | stk =>
    rw [e] at h
    exact h
/-- a list or a tuple, as it stands -/
@[simp] def seqD : D → Option (List D)
  | .lst ds => some ds
  | .tup ds => some ds
  | .scr ns => some (ns.map D.int)
  | _ => none
@[simp] def seqS' (F : Fx)  (env : List Sl) : RsS := match F env with
  | .ok v e => (match v.toIm.bind seqD with
    | some ds => .ok ds e
    | none => .stk)
  | .err c e => .err c e
  | .stk => .stk
section
variable {K : PySem.W.Frag} {G1 : Hp} {a : Addr} {xs : List V} {ds : List D}
theorem jok_list (h : ∀ H G, Same G1 G → Same G H → SqL K H a xs) (r : RpL K G1 ds xs) : JOk K (Itl K a) ds G1 where
  go := fun H G i g s hi => by
    obtain ⟨x, e, _⟩ := r.get (List.getElem?_eq_getElem hi)
    exact ⟨xs, x, h H G g s, e⟩
  yld := fun H G i x H' g s hi y => by
    obtain ⟨rfl, y⟩ := y
    obtain ⟨x', e, hr⟩ := r.get (List.getElem?_eq_getElem hi)
    have := y xs (h _ G g s)
    rw [e] at this
    cases this
    exact ⟨G, ds[i], List.getElem?_eq_getElem hi, GS.refl s, Rp.mono g _ _ hr⟩
  stop := fun H G g s => ⟨xs, h H G g s, by rw [r.length]; exact Nat.le_refl _⟩
theorem jok_tup (h : ∀ H G, Same G1 G → Same G H → SqT K H a xs) (r : RpL K G1 ds xs) : JOk K (Itt K a) ds G1 where
  go := fun H G i g s hi => by
    obtain ⟨x, e, _⟩ := r.get (List.getElem?_eq_getElem hi)
    exact ⟨xs, x, h H G g s, e⟩
  yld := fun H G i x H' g s hi y => by
    obtain ⟨rfl, y⟩ := y
    obtain ⟨x', e, hr⟩ := r.get (List.getElem?_eq_getElem hi)
    have := y xs (h _ G g s)
    rw [e] at this
    cases this
    exact ⟨G, ds[i], List.getElem?_eq_getElem hi, GS.refl s, Rp.mono g _ _ hr⟩
  stop := fun H G g s => ⟨xs, h H G g s, by rw [r.length]; exact Nat.le_refl _⟩
/-- the same from behind -/
theorem jok_rlist (h : ∀ H G, Same G1 G → Same G H → SqL K H a xs) (r : RpL K G1 ds xs) : JOk K (Itv K a xs.length) ds.reverse G1 where
  go := fun H G i g s hi => by
    rw [List.length_reverse] at hi
    have hl := r.length
    obtain ⟨x, e, _⟩ := r.get (List.getElem?_eq_getElem (show xs.length - 1 - i < ds.length by omega))
    exact ⟨by omega, xs, x, h H G g s, e⟩
  yld := fun H G i x H' g s hi y => by
    obtain ⟨rfl, y⟩ := y
    rw [List.length_reverse] at hi
    have hl := r.length
    have hi' : xs.length - 1 - i < ds.length := by omega
    obtain ⟨x', e, hr⟩ := r.get (List.getElem?_eq_getElem hi')
    have := y xs (h _ G g s)
    rw [e] at this
    cases this
    refine ⟨G, ds[xs.length - 1 - i], ?_, GS.refl s, Rp.mono g _ _ hr⟩
    rw [List.getElem?_reverse hi, ← hl, List.getElem?_eq_getElem hi']
  stop := fun H G g s => by rw [List.length_reverse, ← r.length]; exact Nat.le_refl _
theorem jok_rtup (h : ∀ H G, Same G1 G → Same G H → SqT K H a xs) (r : RpL K G1 ds xs) : JOk K (RT.ItvT K a xs.length) ds.reverse G1 where
  go := fun H G i g s hi => by
    rw [List.length_reverse] at hi
    have hl := r.length
    obtain ⟨x, e, _⟩ := r.get (List.getElem?_eq_getElem (show xs.length - 1 - i < ds.length by omega))
    exact ⟨by omega, xs, x, h H G g s, e⟩
  yld := fun H G i x H' g s hi y => by
    obtain ⟨rfl, y⟩ := y
    rw [List.length_reverse] at hi
    have hl := r.length
    have hi' : xs.length - 1 - i < ds.length := by omega
    obtain ⟨x', e, hr⟩ := r.get (List.getElem?_eq_getElem hi')
    have := y xs (h _ G g s)
    rw [e] at this
    cases this
    refine ⟨G, ds[xs.length - 1 - i], ?_, GS.refl s, Rp.mono g _ _ hr⟩
    rw [List.getElem?_reverse hi, ← hl, List.getElem?_eq_getElem hi']
  stop := fun H G g s => by rw [List.length_reverse, ← r.length]; exact Nat.le_refl _
theorem jok_range (lo : Int) (n : Nat) : JOk K (Itr lo n) ((List.range n).map fun (i : Nat) => D.int (lo + i)) G1 where
  go := fun H G i g s hi => by
    have hi' : i < n := by simpa using hi
    exact hi'
  yld := fun H G i x H' g s hi y => by
    obtain ⟨rfl, rfl⟩ := y
    refine ⟨G, .int (lo + i), ?_, GS.refl s, rfl⟩
    have hi' : i < n := by simpa using hi
    rw [List.getElem?_map, List.getElem?_range hi']
    rfl
  stop := fun H G g s => by show n ≤ _; simp
theorem jok_rangeC (lo c : Int) (n : Nat) : JOk K (Itc lo c n) ((List.range n).map fun (i : Nat) => D.int (lo + i * c)) G1 where
  go := fun H G i g s hi => by
    have hi' : i < n := by simpa using hi
    exact hi'
  yld := fun H G i x H' g s hi y => by
    obtain ⟨rfl, rfl⟩ := y
    refine ⟨G, .int (lo + i * c), ?_, GS.refl s, rfl⟩
    have hi' : i < n := by simpa using hi
    rw [List.getElem?_map, List.getElem?_range hi']
    rfl
  stop := fun H G g s => by show n ≤ _; simp
theorem jok_str (z : Str) : JOk K (Its z) (z.cps.toList.map fun c => D.str ⟨#[c]⟩) G1 where
  go := fun H G i g s hi => by
    have hi' : i < z.cps.size := by simpa using hi
    exact hi'
  yld := fun H G i x H' g s hi y => by
    obtain ⟨rfl, c, e, rfl⟩ := y
    refine ⟨G, .str ⟨#[c]⟩, ?_, GS.refl s, rfl⟩
    rw [List.getElem?_map, Array.getElem?_toList, e]
    rfl
  stop := fun H G g s => by show z.cps.size ≤ _; simp
end
/-- pairs of two lists -/
def zipD (as bs : List D) : List D := (as.zip bs).map fun p => .tup [p.1, p.2]
theorem jok_zip {K : PySem.W.Frag} {G1 : Hp} {a b : Addr} {xs ys : List V} {ds es : List D} {P : Hp → Addr → List V → Prop} {J : It} (r : RpL K G1 ds xs) (q : RpL K G1 es ys) (h : ∀ H G, Same G1 G → Same G H → P H a xs ∧ P H b ys)
    (jg : J.go = fun i H => ∃ (xs ys : List V) (x y : V), P H a xs ∧ P H b ys ∧ xs[i]? = some x ∧ ys[i]? = some y)
    (jy : J.yld = fun i H v H' => ∃ T x y, v = .ref T ∧ H T = none ∧ H' = upd H T (.tup [x, y]) ∧ (∀ xs, P H a xs → xs[i]? = some x) ∧ ∀ ys, P H b ys → ys[i]? = some y)
    (js : J.stop = fun i H => ∃ xs ys : List V, P H a xs ∧ P H b ys ∧ (xs.length ≤ i ∨ ys.length ≤ i)) : JOk K J (zipD ds es) G1 where
  go := fun H G i g s hi => by
    rw [jg]
    have hi : i < ds.length ∧ i < es.length := by
      unfold zipD at hi
      rw [List.length_map, List.length_zip] at hi
      omega
    obtain ⟨x, e1, _⟩ := r.get (List.getElem?_eq_getElem hi.1)
    obtain ⟨y, e2, _⟩ := q.get (List.getElem?_eq_getElem hi.2)
    exact ⟨xs, ys, x, y, (h H G g s).1, (h H G g s).2, e1, e2⟩
  yld := fun H G i v H' g s hi y => by
    rw [jy] at y
    obtain ⟨T, x, y, rfl, hT, rfl, h1, h2⟩ := y
    have hi : i < ds.length ∧ i < es.length := by
      unfold zipD at hi
      rw [List.length_map, List.length_zip] at hi
      omega
    obtain ⟨x', e1, q1⟩ := r.get (List.getElem?_eq_getElem hi.1)
    obtain ⟨y', e2, q2⟩ := q.get (List.getElem?_eq_getElem hi.2)
    have z1 := h1 xs (h H G g s).1
    have z2 := h2 ys (h H G g s).2
    rw [e1] at z1
    rw [e2] at z2
    cases z1
    cases z2
    have gs := GS.new (o := .tup [x, y]) s hT
    refine ⟨_, .tup [ds[i]'hi.1, es[i]'hi.2], ?_, gs, T, [x, y], rfl, SqT.of upd_same, ?_⟩
    · unfold zipD
      have hz : (ds.zip es)[i]? = some (ds[i]'hi.1, es[i]'hi.2) := List.getElem?_zip_eq_some.mpr ⟨List.getElem?_eq_getElem hi.1, List.getElem?_eq_getElem hi.2⟩
      rw [List.getElem?_map, hz]
      rfl
    · exact ⟨x, [y], rfl, Rp.mono (g.trans gs.gg) _ _ q1, y, [], rfl, Rp.mono (g.trans gs.gg) _ _ q2, rfl⟩
  stop := fun H G g s => by
    rw [js]
    refine ⟨xs, ys, (h H G g s).1, (h H G g s).2, ?_⟩
    unfold zipD
    rw [List.length_map, List.length_zip, r.length, q.length]
    omega
/-- a frozen list or tuple -/
theorem Rp.seq {K : PySem.W.Frag} {G : Hp} {d : D} {v : V} {ds : List D} (h : Rp K G d v) (e : seqD d = some ds) : ∃ a xs, v = .ref a ∧ RpL K G ds xs ∧ ((∀ H G', Same G G' → Same G' H → SqL K H a xs) ∨ ((∃ es, d = .tup es) ∧ ∀ H G', Same G G' → Same G' H → SqT K H a xs)) := by
  cases d with
  | lst es =>
    cases e
    obtain ⟨a, xs, rfl, h1, h2⟩ := h
    exact ⟨a, xs, rfl, h2, .inl fun H G' g s => SqL.of (s _ _ (g _ _ h1))⟩
  | tup es =>
    cases e
    obtain ⟨a, xs, rfl, h1, h2⟩ := h
    exact ⟨a, xs, rfl, h2, .inr ⟨⟨_, rfl⟩, fun H G' g s => Same.sqT s (Same.sqT g h1)⟩⟩
  | scr ns =>
    cases e
    obtain ⟨a, rfl, h1⟩ := h
    exact ⟨a, _, rfl, RpL.ints ns, .inl fun H G' g s => s.seq (g.seq h1)⟩
  | _ => cases e
section
variable {X : Cx} {W : WX} {tg e : Expr} {F : Fx} {p pos : Pos}
theorem sx_seq (he : EX X W e F) : SX X W tg e (seqS' F) := by
  refine PI.weak (PI.or (pi_list he) (pi_tup he)) fun σ H R ⟨G, env, r, h⟩ => ?_
  have key : ∀ {k1 k2 : VK}, (∀ vl env1 v H1 G1, F env = .ok vl env1 → Stp X.K σ H G env H1 G1 env1 → VlAt X.K H H1 G1 σ env1 vl v → PostI X.K X.mg W σ H G env R (match vl.toIm.bind seqD with
    | some ds => .ok ds env1
    | none => .stk) → k1 v H1) → tD X.K X.mg W F σ H k1 := fun {k1 k2} st => tI_bind r h st
  cases e1 : F env with
  | stk => simp only [seqS', e1] at h; exact h.elim
  | err c e' => simp only [seqS', e1] at h; exact .inl ⟨G, env, r, by rw [e1]; exact h⟩
  | ok vl env1 =>
    cases e2 : vl.toIm with
    | none => simp only [seqS', e1, e2] at h; exact h.elim
    | some d =>
      cases e3 : seqD d with
      | none => simp only [seqS', e1, e2, Option.bind_some, e3] at h; exact h.elim
      | some ds =>
        simp only [seqS', e1, e2, Option.bind_some, e3] at h
        by_cases ht : ∃ es, d = .tup es
        · refine .inr ⟨G, env, r, ?_⟩
          rw [e1]
          intro v H1 G1 s v1
          obtain ⟨G2, s2, g2, k2, hr⟩ := v1.w.imm s r e2
          obtain ⟨a, xs, rfl, hx, hs⟩ := hr.seq e3
          rcases hs with hs | ⟨_, hs⟩
          · obtain ⟨es, rfl⟩ := ht
            obtain ⟨a', xs', ea, q1, q2⟩ := hr
            cases ea
            cases e3
            exact ⟨a, rfl, ⟨xs', Same.sqT s2.er.sub q1⟩, h _ H1 G2 s2 (jok_tup (fun H' G' g s => Same.sqT s (Same.sqT g q1)) q2)⟩
          · exact ⟨a, rfl, ⟨xs, hs H1 G2 (Same.refl _) s2.er.sub⟩, h _ H1 G2 s2 (jok_tup hs hx)⟩
        · refine .inl ⟨G, env, r, ?_⟩
          rw [e1]
          intro v H1 G1 s v1
          obtain ⟨G2, s2, g2, k2, hr⟩ := v1.w.imm s r e2
          obtain ⟨a, xs, rfl, hx, hs⟩ := hr.seq e3
          rcases hs with hs | ⟨ht', hs⟩
          · exact ⟨a, rfl, ⟨xs, hs H1 G2 (Same.refl _) s2.er.sub⟩, h _ H1 G2 s2 (jok_list hs hx)⟩
          · exact absurd ht' ht
@[simp] def strS' (F : Fx)  (env : List Sl) : RsS := match F env with
  | .ok v e => (match v with
    | .im (.str z) => .ok (z.cps.toList.map fun c => D.str ⟨#[c]⟩) e
    | _ => .stk)
  | .err c e => .err c e
  | .stk => .stk
theorem sx_str (he : EX X W e F) : SX X W tg e (strS' F) := by
  refine PI.weak (pi_str he) fun σ H R ⟨G, env, r, h⟩ => ?_
  refine tI_bind r h fun vl env1 v H1 G1 _ s v1 p => ?_
  cases vl with
  | im d =>
    cases d with
    | str z => exact ⟨z, v1, p _ H1 G1 s (jok_str z)⟩
    | _ => exact p.elim
  | _ => exact p.elim
@[simp] def revS' (F : Fx)  (env : List Sl) : RsS := match F env with
  | .ok v e => (match v.toIm.bind seqD with
    | some ds => .ok ds.reverse e
    | none => .stk)
  | .err c e => .err c e
  | .stk => .stk
theorem sx_rev (hm : X.mg "reversed" = none) (he : EX X W e F) (hg : Gl X "reversed" := by rfl) (hs : starEach [e] X.env = (false, eval e X.env) :: starEach [] X.env := by rfl) : SX X W tg (.Call (.Name "reversed" p) [e] [] pos) (revS' F) := by
  refine PI.weak (RT.pi_revA hg hm he hs) fun σ H R ⟨G, env, r, h⟩ => ?_
  refine tI_bind r h fun vl env1 v H1 G1 _ s v1 p => ?_
  cases e2 : vl.toIm with
  | none => rw [e2] at p; exact p.elim
  | some d =>
    cases e3 : seqD d with
    | none => simp only [e2, Option.bind_some, e3] at p; exact p.elim
    | some ds =>
      simp only [e2, Option.bind_some, e3] at p
      obtain ⟨G2, s2, g2, k2, hr⟩ := v1.w.imm s r e2
      obtain ⟨a, xs, rfl, hx, hs⟩ := hr.seq e3
      rcases hs with hs | ⟨_, hs⟩
      · exact ⟨a, xs, rfl, .inl ⟨hs H1 G2 (Same.refl _) s2.er.sub, p _ H1 G2 s2 (jok_rlist hs hx)⟩⟩
      · exact ⟨a, xs, rfl, .inr ⟨hs H1 G2 (Same.refl _) s2.er.sub, p _ H1 G2 s2 (jok_rtup hs hx)⟩⟩
end
/-! range -/
@[simp] def rngB (i : Int) : Bool := decide (i.natAbs < 4611686018427387904)
theorem rngB_at {i : Int} (h : rngB i = true) : -(2 ^ 62) ≤ i ∧ i < 2 ^ 62 := by
  have h := of_decide_eq_true h
  omega
def rgD (lo : Int) (n : Nat) : List D := (List.range n).map fun (i : Nat) => D.int (lo + i)
@[simp] def rng1 : List D → Option (List D)
  | [.int j] => if rngB j then some (rgD 0 j.toNat) else none
  | _ => none
@[simp] def rng2 : List D → Option (List D)
  | [.int i, .int j] => if rngB i && rngB j then some (rgD i (j - i).toNat) else none
  | _ => none
/-- downward -/
@[simp] def rng3 : List D → Option (List D)
  | [.int i, .int j, .int c] => if rngB i && rngB j && decide (c = -1) then some ((List.range (i - j).toNat).map fun (k : Nat) => D.int (i + k * (-1))) else none
  | _ => none
@[simp] def rngS' (g : List D → Option (List D)) (Fs : FxL)  (env : List Sl) : RsS := match Fs env with
  | .ok vls e => (match (Vls.rd e vls).bind g with
    | some ds => .ok ds e
    | none => .stk)
  | .err c e => .err c e
  | .stk => .stk
theorem rng_step {K : PySem.W.Frag} {mg : Str → Option Value} {W : WX} {σ : L2.St} {H G H1 G1 : Hp} {env env1 : List Sl} {R : It → Hp → Prop} {vls : List Vl} {vs : List V} {g : List D → Option (List D)} (s : Stp K σ H G env H1 G1 env1) (v1 : VlsAt K H H1 G1 σ env1 vls vs)
    (p : PostI K mg W σ H G env R (match (Vls.rd env1 vls).bind g with
    | some ds => .ok ds env1
    | none => .stk)) : ∃ ds es, RdsAt K H1 G1 ds vs ∧ g ds = some es ∧ ∀ J, JOk K J es G1 → R J H1 := by
  cases e2 : Vls.rd env1 vls with
  | none => rw [e2] at p; exact p.elim
  | some ds =>
    cases e3 : g ds with
    | none => simp only [e2, Option.bind_some, e3] at p; exact p.elim
    | some es =>
      simp only [e2, Option.bind_some, e3] at p
      exact ⟨ds, es, VlsAt.read s.er v1 e2, e3, fun J j => p J H1 G1 s j⟩
theorem rng1_of {ds es : List D} (h : rng1 ds = some es) : ∃ j, ds = [.int j] ∧ -(2 ^ 62) ≤ j ∧ j < 2 ^ 62 ∧ es = rgD 0 j.toNat := by
  unfold rng1 at h
  split at h
  · rename_i j
    split at h
    · rename_i c
      have c := rngB_at c
      exact ⟨j, rfl, c.1, c.2, (Option.some.inj h).symm⟩
    · cases h
  · cases h
theorem rng2_of {ds es : List D} (h : rng2 ds = some es) : ∃ i j, ds = [.int i, .int j] ∧ (-(2 ^ 62) ≤ i ∧ i < 2 ^ 62 ∧ -(2 ^ 62) ≤ j ∧ j < 2 ^ 62) ∧ es = rgD i (j - i).toNat := by
  unfold rng2 at h
  split at h
  · rename_i i j
    split at h
    · rename_i c
      simp only [Bool.and_eq_true] at c
      have c1 := rngB_at c.1
      have c2 := rngB_at c.2
      exact ⟨i, j, rfl, ⟨c1.1, c1.2, c2.1, c2.2⟩, (Option.some.inj h).symm⟩
    · cases h
  · cases h
theorem rng3_of {ds es : List D} (h : rng3 ds = some es) : ∃ i j, ds = [.int i, .int j, .int (-1)] ∧ (-(2 ^ 62) ≤ i ∧ i < 2 ^ 62 ∧ -(2 ^ 62) ≤ j ∧ j < 2 ^ 62) ∧ es = (List.range (i - j).toNat).map fun (k : Nat) => D.int (i + k * (-1)) := by
  unfold rng3 at h
  split at h
  · rename_i i j k
    split at h
    · rename_i c
      simp only [Bool.and_eq_true] at c
      have c1 := rngB_at c.1.1
      have c2 := rngB_at c.1.2
      have c3 := of_decide_eq_true c.2
      subst c3
      exact ⟨i, j, rfl, ⟨c1.1, c1.2, c2.1, c2.2⟩, (Option.some.inj h).symm⟩
    · cases h
  · cases h
section
variable {X : Cx} {W : WX} {tg a b c : Expr} {Fs : FxL} {p pos : Pos}
theorem sx_range1 (hm : X.mg "range" = none) (ha : AX X W [a] Fs) (hg : Gl X "range" := by rfl) (hs : starEach [a] X.env = [(false, eval a X.env)] := by rfl) : SX X W tg (.Call (.Name "range" p) [a] [] pos) (rngS' rng1 Fs) := by
  refine PI.weak (pi_range1 hg hm ha hs) fun σ H R ⟨G, env, r, h⟩ => ?_
  refine tI_bindA r h fun vls env1 vs H1 G1 s v1 p => ?_
  obtain ⟨ds, es, rd, e, k⟩ := rng_step s v1 p
  obtain ⟨j, rfl, h1, h2, rfl⟩ := rng1_of e
  obtain ⟨x, rfl, hx⟩ := rd.one
  exact ⟨j, by rw [hx.int], h1, h2, k _ (jok_range 0 j.toNat)⟩
theorem sx_range2 (hm : X.mg "range" = none) (ha : AX X W [a, b] Fs) (hg : Gl X "range" := by rfl) (hs : starEach [a, b] X.env = [(false, eval a X.env), (false, eval b X.env)] := by rfl) (hs2 : starEach [b] X.env = [(false, eval b X.env)] := by rfl) : SX X W tg (.Call (.Name "range" p) [a, b] [] pos) (rngS' rng2 Fs) := by
  refine PI.weak (pi_range2 hg hm ha hs hs2) fun σ H R ⟨G, env, r, h⟩ => ?_
  refine tI_bindA r h fun vls env1 vs H1 G1 s v1 p => ?_
  obtain ⟨ds, es, rd, e, k⟩ := rng_step s v1 p
  obtain ⟨i, j, rfl, h1, rfl⟩ := rng2_of e
  obtain ⟨x, y, rfl, hx, hy⟩ := rd.two
  exact ⟨i, j, by rw [hx.int, hy.int], h1, k _ (jok_range i (j - i).toNat)⟩
theorem sx_range3 (hm : X.mg "range" = none) (ha : AX X W [a, b, c] Fs) (hg : Gl X "range" := by rfl) (hs : starEach [a, b, c] X.env = (false, eval a X.env) :: starEach [b, c] X.env := by rfl) (hpl : (backTo pos (starEach [b, c] X.env)).any (·.1) = false := by rfl) : SX X W tg (.Call (.Name "range" p) [a, b, c] [] pos) (rngS' rng3 Fs) := by
  refine PI.weak (pi_range3 hg hm ha hs hpl) fun σ H R ⟨G, env, r, h⟩ => ?_
  refine tI_bindA r h fun vls env1 vs H1 G1 s v1 p => ?_
  obtain ⟨ds, es, rd, e, k⟩ := rng_step s v1 p
  obtain ⟨i, j, rfl, h1, rfl⟩ := rng3_of e
  obtain ⟨x, t, rfl, hx, y, t', rfl, hy, z, t'', rfl, hz, ht⟩ := rd
  rw [show t'' = [] from ht]
  exact ⟨i, j, -1, (i - j).toNat, by rw [hx.int, hy.int, hz.int], RgC.neg h1.1 h1.2.1 h1.2.2.1 h1.2.2.2, k _ (jok_rangeC i (-1) _)⟩
end
/-! zip -/
@[simp] def zipS' (Fs : FxL)  (env : List Sl) : RsS := match Fs env with
  | .ok vls e => (match Vls.toIm vls with
    | some [.tup ds, .tup es] => .ok (zipD ds es) e
    | some [.lst ds, .lst es] => .ok (zipD ds es) e
    | _ => .stk)
  | .err c e => .err c e
  | .stk => .stk
section
variable {X : Cx} {W : WX} {e e2 : Expr} {Fs : FxL} {p pos tpos : Pos} {elts : List Expr} {kk : Nat}
theorem sx_zip (hm : X.mg "zip" = none) (ha : AX X W [e, e2] Fs) (hg : Gl X "zip" := by rfl) (hs : starEach [e, e2] X.env = (false, eval e X.env) :: starEach [e2] X.env := by rfl) (hpl : (backTo pos (starEach [e2] X.env)).any (·.1) = false := by rfl) :
    SX X W (.Tuple elts kk tpos) (.Call (.Name "zip" p) [e, e2] [] pos) (zipS' Fs) := by
  refine PI.weak (RZ.pi_zipA hg hm ha hs hpl) fun σ H R ⟨G, env, r, h⟩ => ?_
  refine tI_bindA r h fun vls env1 vs H1 G1 s v1 p => ?_
  cases e2 : Vls.toIm vls with
  | none => rw [e2] at p; exact p.elim
  | some ds =>
    simp only [e2] at p
    obtain ⟨G2, s2, g2, k2, hr⟩ := VlsW.imm r v1.w s e2
    split at p
    · rename_i ds es q
      cases q
      obtain ⟨x, t, rfl, ⟨a, xs, rfl, a1, a2⟩, y, t', rfl, ⟨b, ys, rfl, b1, b2⟩, ht⟩ := hr
      rw [show t' = [] from ht]
      refine ⟨a, b, xs, ys, rfl, .inr ⟨Same.sqT s2.er.sub a1, Same.sqT s2.er.sub b1, p _ H1 G2 s2 ?_⟩⟩
      exact jok_zip (P := fun H a xs => SqT X.K H a xs) a2 b2 (fun H G g s => ⟨Same.sqT s (Same.sqT g a1), Same.sqT s (Same.sqT g b1)⟩) rfl rfl rfl
    · rename_i ds es q
      cases q
      obtain ⟨x, t, rfl, ⟨a, xs, rfl, a1, a2⟩, y, t', rfl, ⟨b, ys, rfl, b1, b2⟩, ht⟩ := hr
      rw [show t' = [] from ht]
      refine ⟨a, b, xs, ys, rfl, .inl ⟨SqL.of (s2.er.sub _ _ a1), SqL.of (s2.er.sub _ _ b1), p _ H1 G2 s2 ?_⟩⟩
      exact jok_zip (P := fun H a xs => SqL X.K H a xs) a2 b2 (fun H G g s => ⟨SqL.of (s _ _ (g _ _ a1)), SqL.of (s _ _ (g _ _ b1))⟩) rfl rfl rfl
    · exact p.elim
end
end HF

set_option Elab.async false
set_option linter.all false
set_option maxRecDepth 100000
set_option maxHeartbeats 4000000
set_option autoImplicit false
namespace HF
open PySem PySem.Spec PyProof.Rows L2
/-! ### targets -/
abbrev TFx := D → List Sl → Option (List Sl)
@[simp] def tgN (i : Nat)  (d : D) (e : List Sl) : Option (List Sl) := setE i (.im d) e
@[simp] def setsE : List Nat → List D → List Sl → Option (List Sl)
  | [], [], e => some e
  | i :: is, d :: ds, e => (setE i (.im d) e).bind (setsE is ds)
  | _, _, _ => none
@[simp] def tgT (is : List Nat)  (d : D) (e : List Sl) : Option (List Sl) := match d with
  | .tup ds => setsE is ds e
  | _ => none
/-- a target -/
def GX (X : Cx) (tg : Expr) (TF : TFx) : Prop := ∃ g : TG, PG X tg g ∧ ∀ (H0 G0 : Hp) (pa : Nat → Option Addr) (H G : Hp) (σ : L2.St) (env e' : List Sl) (d : D) (v : V) (Q : L2.St → Hp → Prop),
  SR X.K H0 G0 pa H G σ env → Rp X.K G d v → TF d env = some e' → (∀ σ', SR X.K H0 G0 pa H G σ' e' → Q σ' H) → g v σ H Q
theorem SR.setIm {K : PySem.W.Frag} {H0 G0 H G : Hp} {pa : Nat → Option Addr} {σ : L2.St} {env e' : List Sl} {i : Nat} {d : D} {v : V} (r : SR K H0 G0 pa H G σ env) (h : Rp K G d v) (e : HF.setE i (.im d) env = some e') : SR K H0 G0 pa H G (σ.set i (some v)) e' := by
  unfold HF.setE at e
  simp only [Vl.st] at e
  split at e
  · cases e
  · rename_i c
    cases e
    cases q : env[i]? with
    | none => rw [q] at c; exact absurd rfl c
    | some t =>
      rw [q] at c
      exact r.set q (fun d z => by rw [z] at c; exact c rfl) h
section
variable {X : Cx}
theorem gx_name {i : Nat} {x : Str} {pos : Pos} (hN : X.N.Nodup) (hi : X.N[i]? = some x := by rfl) (hx : Loc X.env.scope x := by first | exact .inl rfl | exact .inr rfl) (hf : X.fn x = true ∨ X.env.scope.names.lookup x = some .local := by first | exact .inl rfl | exact .inr rfl) : GX X (.Name x pos) (tgN i) :=
  ⟨gName i, pg_name hN hi hx hf, fun H0 G0 pa H G σ env e' d v Q r hv e k => k _ (r.setIm hv e)⟩
/-- names of a written tuple -/
def GXs (X : Cx) (tgs : List Expr) (is : List Nat) : Prop := ∃ g : TGs, PGs X tgs g ∧ ∀ (H0 G0 : Hp) (pa : Nat → Option Addr) (H G : Hp) (σ : L2.St) (env e' : List Sl) (ds : List D) (vs : List V) (Q : L2.St → Hp → Prop),
  SR X.K H0 G0 pa H G σ env → RpL X.K G ds vs → setsE is ds env = some e' → (∀ σ', SR X.K H0 G0 pa H G σ' e' → Q σ' H) → g vs σ H Q
theorem gxs_nil : GXs X [] [] := ⟨gNil, pgs_nil, fun H0 G0 pa H G σ env e' ds vs Q r hv e k => by
  cases ds with
  | nil => cases e; exact ⟨hv, k σ r⟩
  | cons d ds => cases e⟩
theorem gxs_cons {i : Nat} {is : List Nat} {x : Str} {pos : Pos} {tgs : List Expr} (hN : X.N.Nodup) (h : GXs X tgs is) (hi : X.N[i]? = some x := by rfl) (hx : Loc X.env.scope x := by first | exact .inl rfl | exact .inr rfl) (hf : X.fn x = true ∨ X.env.scope.names.lookup x = some .local := by first | exact .inl rfl | exact .inr rfl) (hs : (assignEach (.Name x pos :: tgs) X.env).map (·.2) = assign (.Name x pos) X.env :: (assignEach tgs X.env).map (·.2) := by rfl) :
    GXs X (.Name x pos :: tgs) (i :: is) := by
  obtain ⟨g, hg, hk⟩ := h
  refine ⟨gCons (gName i) g, pgs_cons (pg_name hN hi hx hf) hg hs, fun H0 G0 pa H G σ env e' ds vs Q r hv e k => ?_⟩
  cases ds with
  | nil => cases e
  | cons d ds =>
    obtain ⟨v, rest, rfl, h1, h2⟩ := hv
    have e : (HF.setE i (.im d) env).bind (setsE is ds) = some e' := e
    cases e1 : HF.setE i (.im d) env with
    | none => rw [e1] at e; cases e
    | some env1 =>
      rw [e1] at e
      exact ⟨v, rest, rfl, hk H0 G0 pa H G _ env1 e' ds rest Q (r.setIm h1 e1) h2 e k⟩
theorem setsE_len : ∀ {is : List Nat} {ds : List D} {e e' : List Sl}, setsE is ds e = some e' → ds.length = is.length
  | [], [], _, _, _ => rfl
  | [], d :: ds, _, _, h => by cases h
  | i :: is, [], _, _, h => by cases h
  | i :: is, d :: ds, e, e', h => by
    have h : (setE i (.im d) e).bind (setsE is ds) = some e' := h
    cases e1 : setE i (.im d) e with
    | none => rw [e1] at h; cases h
    | some e2 =>
      rw [e1] at h
      rw [List.length_cons, List.length_cons, setsE_len h]
theorem gx_tup {is : List Nat} {es : List Expr} {k : Nat} {pos : Pos} (hc : X.calm = true) (h : GXs X es is) (hn : (assignEach es X.env).length = is.length := by rfl) (hst : (assignEach es X.env).findIdx? (·.1) = none := by rfl) : GX X (.Tuple es k pos) (tgT is) := by
  obtain ⟨g, hg, hk⟩ := h
  refine ⟨_, pg_tup hc hg hn hst, fun H0 G0 pa H G σ env e' d v Q r hv e k => ?_⟩
  cases d with
  | tup ds =>
    obtain ⟨a, xs, rfl, h1, h2⟩ := hv
    have e : setsE is ds env = some e' := e
    exact ⟨a, xs, rfl, Same.sqT r.er.sub h1, by rw [h2.length, setsE_len e], hk H0 G0 pa H G σ env e' ds xs Q r h2 e k⟩
  | _ => cases e
end
/-! ### a, b = e -/
@[simp] def unpS (TF : TFx) (F : Fx)  (env : List Sl) : Out := match F env with
  | .ok v e => (match v.toIm.bind fun d => TF d e with
    | some e' => .nx e'
    | none => .stk)
  | .err c e => .err c e
  | .stk => .stk
theorem SR.frz {K : PySem.W.Frag} {H0 G0 H0' G0' H G G' : Hp} {pa : Nat → Option Addr} {σ : L2.St} {env : List Sl} (r : SR K H0 G0 pa H G σ env) (er : ER K H G' σ env) (g : Same G G') (o : ∀ b, H0 b ≠ none → G' b = G b) : SR K H0 G0 pa H G' σ env :=
  ⟨er, r.gr.trans g, fun b hb hg => by rw [o b hb]; exact r.old b hb hg, r.keep, r.own, r.io, r.iof⟩
section
variable {X : Cx} {W : WX}
theorem st_unp {tg e : Expr} {F : Fx} {TF : TFx} {pos : Pos} (he : EX X W e F) (hg : GX X tg TF) (hs : swapsWithSole [tg] e pos.line X.env = pure false := by rfl) (hw : swappedStores [tg] e X.env = pure none := by rfl)
    (h1 : (assignEach [tg] X.env).map (·.2) = [assign tg X.env] := by rfl) : ST X W (.Assign [tg] e pos) (unpS TF F) := by
  obtain ⟨g, hg, hk⟩ := hg
  intro H0 G0 pa
  refine PS.weak (ps_asg he hg hs hw h1) fun D σ H ⟨G, env, r, h⟩ => ?_
  refine SR.bind r h fun vl env1 v H1 G1 _ s v1 r1 p => ?_
  cases e1 : vl.toIm with
  | none => simp only [e1] at p; exact p.elim
  | some d =>
    cases e2 : TF d env1 with
    | none => simp only [e1, Option.bind_some, e2] at p; exact p.elim
    | some e' =>
      simp only [e1, Option.bind_some, e2] at p
      obtain ⟨G2, s2, g2, k2, hr⟩ := v1.w.imm s r.er e1
      exact hk H0 G0 pa H1 G2 σ env1 e' d v _ (r.step s2) hr e2 fun σ' r' => p σ' H1 G2 r'
end
/-! ### for -/
@[simp] def forL (TF : TFx) (S : Sx) : List D → List Sl → Out
  | [], e => .nx e
  | d :: r, e => match TF d e with
    | none => .stk
    | some e1 => (match S e1 with
      | .nx e2 => forL TF S r e2
      | .ct e2 => forL TF S r e2
      | .bk e2 => .nx e2
      | .rt v e2 => .rt v e2
      | .err c e2 => .err c e2
      | .stk => .stk)
@[simp] def forS (SF : SFx) (TF : TFx) (S : Sx)  (env : List Sl) : Out := match SF env with
  | .ok ds e => forL TF S ds e
  | .err c e => .err c e
  | .stk => .stk
section
variable {X : Cx} {W : WX}
/-- more is frozen at the start -/
theorem SR.base {K : PySem.W.Frag} {H0 G0 H G H1 G1 : Hp} {pa : Nat → Option Addr} {σ σ1 : L2.St} {env env1 : List Sl} (r0 : SR K H0 G0 pa H1 G1 σ1 env1) : (SR K H0 G1 pa H G σ env → SR K H0 G0 pa H G σ env) ∧ (SR K H0 G0 pa H G σ env → Same G1 G → SR K H0 G1 pa H G σ env) :=
  ⟨fun r => ⟨r.er, r0.gr.trans r.gr, fun b hb hg => r.old b hb (r0.old b hb hg), r.keep, r.own, r.io, r.iof⟩,
    fun r g => ⟨r.er, g, fun b hb hg => r.old b hb (r0.gr.free hg), r.keep, r.own, r.io, r.iof⟩⟩
theorem st_for {tg iter : Expr} {body : List Stmt} {SF : SFx} {TF : TFx} {S : Sx} {pos : Pos} (hp : PassesOwn (model X.prog X.w) X.A X.env X.xe) (hc : X.calm = true) (hi : SX X W tg iter SF) (hg : GX X tg TF) (hb : STs X W body S)
    (hs : ∀ x, foldedSetIterable iter X.env x = pure x := by intro _; rfl) : ST X W (.For tg iter body [] pos) (forS SF TF S) := by
  obtain ⟨g, hg, hk⟩ := hg
  intro H0 G0 pa
  -- the body is run with all that is frozen at the loop's start as its base
  have hb' : PSs X body (fun D σ H => ∃ G1 : Hp, tS X.K X.mg W H0 G1 pa S D σ H) := ⟨fun pins s σ H D I ⟨G1, q⟩ => (hb H0 G1 pa).run pins s σ H D I q⟩
  refine PS.weak (ps_for hp hc hi hg hb' hs) fun D σ H ⟨G, env, r, h⟩ => ?_
  refine ⟨G, env, r.er, ?_⟩
  cases e1 : SF env with
  | stk => simp only [forS, e1] at h; exact h.elim
  | err c e' =>
    simp only [forS, e1] at h
    intro C H' m ea
    refine h C σ H' m ?_
    cases e' with
    | some e' => obtain ⟨G', s⟩ := ea; exact ⟨G', r.step s⟩
    | none => exact fun b o q n => ea b o (r.keep b o q n) (r.notMu q n)
  | ok ds env1 =>
    simp only [forS, e1] at h
    intro J H1 G1 s jok
    have r1 := r.step s
    have base : ∀ {H' G' : Hp} {σ' : L2.St} {e' : List Sl}, (SR X.K H0 G1 pa H' G' σ' e' → SR X.K H0 G0 pa H' G' σ' e') ∧ (SR X.K H0 G0 pa H' G' σ' e' → Same G1 G' → SR X.K H0 G1 pa H' G' σ' e') := fun {H' G' σ' e'} => SR.base r1
    refine ⟨fun i m σ H => m = ds.length - i ∧ i ≤ ds.length ∧ ∃ G e, SR X.K H0 G1 pa H G σ e ∧ PostS X.K X.mg W H0 G0 pa D (forL TF S (ds.drop i) e), ⟨ds.length, rfl, Nat.zero_le _, G1, env1, base.2 r1 (Same.refl _), h⟩, ?_⟩
    rintro i m σ2 H2 ⟨rfl, hi', G2, e2, r2, p2⟩
    by_cases hlt : i < ds.length
    · refine .inr ⟨jok.go H2 G2 i r2.gr r2.er.sub hlt, fun σ' H' => i + 1 ≤ ds.length ∧ ∃ G e, SR X.K H0 G1 pa H' G σ' e ∧ PostS X.K X.mg W H0 G0 pa D (forL TF S (ds.drop (i + 1)) e), fun σ' H' ⟨a, b⟩ => ⟨ds.length - (i + 1), by omega, rfl, a, b⟩, fun x H3 y => ?_⟩
      obtain ⟨G3, d, ed, gs, hx⟩ := jok.yld H2 G2 i x H3 r2.gr r2.er.sub hlt y
      have r3 : SR X.K H0 G1 pa H3 G3 σ2 e2 := r2.step (Stp.gs r2.er gs)
      have edrop : ds.drop i = d :: ds.drop (i + 1) := by
        rw [List.drop_eq_getElem_cons hlt]
        rw [List.getElem?_eq_getElem hlt] at ed
        rw [Option.some.inj ed]
      rw [edrop] at p2
      unfold forL at p2
      cases et : TF d e2 with
      | none => rw [et] at p2; exact p2.elim
      | some e3 =>
        rw [et] at p2
        simp only at p2
        refine hk H0 G1 pa H3 G3 σ2 e2 e3 d x _ r3 hx et fun σ4 r4 => ⟨G1, G3, e3, r4, ?_⟩
        cases es : S e3 with
        | nx e5 => simp only [es] at p2; exact fun σ' H' G' r5 => ⟨hlt, G', e5, r5, p2⟩
        | ct e5 => simp only [es] at p2; exact fun σ' H' G' r5 => ⟨hlt, G', e5, r5, p2⟩
        | bk e5 => simp only [es] at p2; exact fun σ' H' G' r5 => p2 σ' H' G' (base.1 r5)
        | rt v e5 => simp only [es] at p2; exact fun u σ' H' G' r5 rv => p2 u σ' H' G' (base.1 r5) rv
        | err c e5 =>
          simp only [es] at p2
          intro C σ' H' m se
          refine p2 C σ' H' m ?_
          cases e5 with
          | some e5 => obtain ⟨G', r5⟩ := se; exact ⟨G', base.1 r5⟩
          | none => exact se
        | stk => simp only [es] at p2; exact p2.elim
    · have e : i = ds.length := by omega
      subst e
      rw [List.drop_length] at p2
      exact .inl ⟨jok.stop H2 G2 r2.gr r2.er.sub, p2 σ2 H2 G2 (base.1 r2)⟩
/-! ### for over an own list: it is written no more -/
theorem SR.ownVal {K : PySem.W.Frag} {H0 G0 H G : Hp} {pa : Nat → Option Addr} {σ : L2.St} {env : List Sl} (r : SR K H0 G0 pa H G σ env) {i : Nat} {d : D} (hi : env[i]? = some (.own d)) : ∃ G', SR K H0 G0 pa H G' σ (env.set i (.val d)) := by
  have len := (List.getElem?_eq_some_iff.mp hi).1
  obtain ⟨p, w1, w2, w3⟩ := r.er.mu i _ d hi rfl
  obtain ⟨G', g1, g2, g3, g4⟩ := w3.frz w2 r.er.sub
  have hp0 := r.own i d p hi w1
  have eqs : (env.set i (.val d))[i]? = some (.val d) := List.getElem?_set_self len
  have ne : ∀ (j : Nat), i ≠ j → (env.set i (.val d))[j]? = env[j]? := fun j z => List.getElem?_set_ne z
  have mu : ∀ {j : Nat} {s : Sl} {e : D}, (env.set i (.val d))[j]? = some s → s.mu = some e → i ≠ j ∧ env[j]? = some s := fun {j s e} h m => by
    by_cases z : i = j
    · subst z; rw [eqs] at h; cases h; cases m
    · exact ⟨z, by rw [← ne j z]; exact h⟩
  refine ⟨G', ⟨⟨by rw [List.length_set]; exact r.er.len, g2, fun j e h => ?_, fun j s e h m => ?_, fun j k s t a b q h1 m1 h2 m2 => r.er.sep j k s t a b q (mu h1 m1).2 m1 (mu h2 m2).2 m2⟩, r.gr.trans g1, fun b hb hg => ?_, r.keep, fun j e q h1 h2 => ?_, fun j q h => ?_, fun j e h => ?_⟩⟩
  · by_cases z : i = j
    · subst z; rw [eqs] at h; cases h; exact ⟨_, w1, g4⟩
    · rw [ne j z] at h
      obtain ⟨v, a, b⟩ := r.er.val j e h
      exact ⟨v, a, Rp.mono g1 e v b⟩
  · obtain ⟨z, h'⟩ := mu h m
    obtain ⟨q, a, b, c⟩ := r.er.mu j s e h' m
    have : q ≠ p := fun zz => z (r.er.sep i j _ s d e p hi rfl h' m w1 (by rw [← zz]; exact a))
    exact ⟨q, a, by rw [g3 q this]; exact b, c.mono rfl g1⟩
  · have : b ≠ p := fun z => hb (by rw [z]; exact hp0)
    rw [g3 b this]
    exact r.old b hb hg
  · exact r.own j e q (mu h1 rfl).2 h2
  · obtain ⟨a, e, b⟩ := r.io j q h
    have z : i ≠ j := fun z => by subst z; rw [hi] at b; cases b
    exact ⟨a, e, by rw [ne j z]; exact b⟩
  · have z : i ≠ j := fun z => by subst z; rw [eqs] at h; cases h
    exact r.iof j e (by rw [← ne j z]; exact h)
@[simp] def frzE (i : Nat) (env : List Sl) : List Sl := match env[i]? with
  | some (.own d) => env.set i (.val d)
  | _ => env
@[simp] def frzS (i : Nat) (S : Sx) (env : List Sl) : Out := S (frzE i env)
theorem st_frz {X : Cx} {W : WX} {st : Stmt} {S : Sx} (i : Nat) (h : ST X W st S) : ST X W st (frzS i S) := by
  intro H0 G0 pa
  refine PS.weak (h H0 G0 pa) fun D σ H ⟨G, env, r, q⟩ => ?_
  unfold frzS frzE at q
  split at q
  · rename_i d e
    obtain ⟨G', r'⟩ := r.ownVal e
    exact ⟨G', _, r', q⟩
  · exact ⟨G, env, r, q⟩
/-! ### while: so many turns at most -/
def whileL (C : Fx) (S : Sx) : Nat → List Sl → Out
  | 0, _ => .stk
  | n + 1, e => match C e with
    | .ok (.im (.bl true)) e1 => (match S e1 with
      | .nx e2 => whileL C S n e2
      | .ct e2 => whileL C S n e2
      | .bk e2 => .nx e2
      | .rt v e2 => .rt v e2
      | .err c e2 => .err c e2
      | .stk => .stk)
    | .ok (.im (.bl false)) e1 => .nx e1
    | .err c e1 => .err c e1
    | _ => .stk
@[simp] def whileS (n : List Sl → Nat) (C : Fx) (S : Sx)  (env : List Sl) : Out := whileL C S (n env) env
theorem st_while {c : Expr} {body : List Stmt} {C : Fx} {S : Sx} {pos : Pos} (n : List Sl → Nat) (hp : PassesOwn (model X.prog X.w) X.A X.env X.xe) (hc : TX X W c C) (hb : STs X W body S) : ST X W (.While c body [] pos) (whileS n C S) := by
  intro H0 G0 pa
  refine PS.weak (ps_while hp hc (hb H0 G0 pa)) fun D σ H ⟨G, env, r, h⟩ => ?_
  refine ⟨fun m σ H => ∃ G e, SR X.K H0 G0 pa H G σ e ∧ PostS X.K X.mg W H0 G0 pa D (whileL C S m e), ⟨n env, G, env, r, h⟩, ?_⟩
  rintro m σ2 H2 ⟨G2, e2, r2, p2⟩
  cases m with
  | zero => exact p2.elim
  | succ m =>
    refine ⟨G2, e2, r2.er, ?_⟩
    unfold whileL at p2
    cases e : C e2 with
    | stk => rw [e] at p2; exact p2
    | err c e' =>
      rw [e] at p2
      intro C' H' mm ea
      refine p2 C' σ2 H' mm ?_
      cases e' with
      | some e' => obtain ⟨G', s⟩ := ea; exact ⟨G', r2.step s⟩
      | none => exact fun b o q n => ea b o (r2.keep b o q n) (r2.notMu q n)
    | ok vl e3 =>
      rw [e] at p2
      cases vl with
      | im d =>
        cases d with
        | bl b =>
          intro H3 G3 s
          have r3 := r2.step s
          cases b with
          | false => exact L2.iteF (p2 σ2 H3 G3 r3)
          | true =>
            refine L2.iteT ⟨fun σ' H' => ∃ G e, SR X.K H0 G0 pa H' G σ' e ∧ PostS X.K X.mg W H0 G0 pa D (whileL C S m e), fun σ' H' q => ⟨m, Nat.lt_succ_self _, q⟩, G3, e3, r3, ?_⟩
            simp only at p2
            cases es : S e3 with
            | nx e5 => simp only [es] at p2; exact fun σ' H' G' r5 => ⟨G', e5, r5, p2⟩
            | ct e5 => simp only [es] at p2; exact fun σ' H' G' r5 => ⟨G', e5, r5, p2⟩
            | bk e5 => simp only [es] at p2; exact fun σ' H' G' r5 => p2 σ' H' G' r5
            | rt v e5 => simp only [es] at p2; exact p2
            | err c e5 => simp only [es] at p2; exact p2
            | stk => simp only [es] at p2; exact p2.elim
        | _ => exact p2.elim
      | _ => exact p2.elim
end
/-! ### comprehensions -/
@[simp] def wipeE (e : List Sl) : List Nat → List Sl
  | [] => e
  | v :: vs => (wipeE e vs).set v .non
/-- the block's own names as they were -/
@[simp] def backE (e0 e : List Sl) : List Nat → List Sl
  | [] => e
  | v :: vs => match e0[v]? with
    | some s => (backE e0 e vs).set v s
    | none => backE e0 e vs
/-- the turns; acc: the list so far -/
@[simp] def lcL (TF : TFx) (T E : Fx) (vs : List Nat) : List D → List Sl → List D → Rs
  | [], e, acc => .ok (.fr (.lst acc)) e
  | d :: r, e, acc => match TF d e with
    | none => .stk
    | some e1 => (match T e1 with
      | .ok (.im (.bl true)) e2 => (match E e2 with
        | .ok v e3 => (match v.toIm with
          | some x => if decide (acc.length < 16777216) then lcL TF T E vs r (wipeE e3 vs) (acc ++ [x]) else .stk
          | none => .stk)
        | _ => .stk)
      | .ok (.im (.bl false)) e2 => lcL TF T E vs r (wipeE e2 vs) acc
      | _ => .stk)
@[simp] def lcF (SF : SFx) (TF : TFx) (T E : Fx) (vs : List Nat)  (env : List Sl) : Rs := match SF env with
  | .ok ds e => (match lcL TF T E vs ds (wipeE e vs) [] with
    | .ok v e2 => .ok v (backE e e2 vs)
    | _ => .stk)
  | .err c e => .err c e
  | .stk => .stk
@[simp] def yesF  (env : List Sl) : Rs := .ok (.im (.bl true)) env
/-! the names of a target, told apart -/
inductive Tg where
  | nm (i : Nat)
  | tp (is : List Nat)
@[simp] def Tg.F : Tg → TFx
  | .nm i => tgN i
  | .tp is => tgT is
def Tg.ix : Tg → List Nat
  | .nm i => [i]
  | .tp is => is
def gsOf : List Nat → TGs
  | [] => gNil
  | i :: is => gCons (gName i) (gsOf is)
def Tg.g (K : PySem.W.Frag) : Tg → TG
  | .nm i => gName i
  | .tp is => gTup K is.length (gsOf is)
def PGT (X : Cx) (tg : Expr) (t : Tg) : Prop := PG X tg (t.g X.K)
theorem pgt_name {X : Cx} {i : Nat} {x : Str} {pos : Pos} (hN : X.N.Nodup) (hi : X.N[i]? = some x := by rfl) (hx : Loc X.env.scope x := by first | exact .inl rfl | exact .inr rfl) (hf : X.fn x = true ∨ X.env.scope.names.lookup x = some .local := by first | exact .inl rfl | exact .inr rfl) : PGT X (.Name x pos) (.nm i) := pg_name hN hi hx hf
def PGTs (X : Cx) (tgs : List Expr) (is : List Nat) : Prop := PGs X tgs (gsOf is)
theorem pgts_nil {X : Cx} : PGTs X [] [] := pgs_nil
theorem pgts_cons {X : Cx} {i : Nat} {is : List Nat} {x : Str} {pos : Pos} {tgs : List Expr} (hN : X.N.Nodup) (h : PGTs X tgs is) (hi : X.N[i]? = some x := by rfl) (hx : Loc X.env.scope x := by first | exact .inl rfl | exact .inr rfl) (hf : X.fn x = true ∨ X.env.scope.names.lookup x = some .local := by first | exact .inl rfl | exact .inr rfl) (hs : (assignEach (.Name x pos :: tgs) X.env).map (·.2) = assign (.Name x pos) X.env :: (assignEach tgs X.env).map (·.2) := by rfl) : PGTs X (.Name x pos :: tgs) (i :: is) := pgs_cons (pg_name hN hi hx hf) h hs
theorem pgt_tup {X : Cx} {is : List Nat} {es : List Expr} {k : Nat} {pos : Pos} (hc : X.calm = true) (h : PGTs X es is) (hn : (assignEach es X.env).length = is.length := by rfl) (hst : (assignEach es X.env).findIdx? (·.1) = none := by rfl) : PGT X (.Tuple es k pos) (.tp is) := pg_tup hc h hn hst
theorem wipe_get (σ : L2.St) : ∀ (vs : List Nat) (k : Nat), (wipe σ vs)[k]? = if k ∈ vs then (σ[k]?).map (fun _ => Option.none) else σ[k]?
  | [], k => by rw [if_neg (by simp)]; rfl
  | v :: vs, k => by
    unfold wipe
    by_cases h : v = k
    · subst h
      rw [if_pos List.mem_cons_self]
      rw [List.getElem?_set]
      simp only [if_true]
      rw [wipe_length]
      by_cases hl : v < σ.length
      · rw [if_pos hl, List.getElem?_eq_getElem hl]; rfl
      · rw [if_neg hl, List.getElem?_eq_none (by omega)]; rfl
    · rw [List.getElem?_set_ne h, wipe_get σ vs k]
      by_cases h2 : k ∈ vs
      · rw [if_pos h2, if_pos (List.mem_cons_of_mem _ h2)]
      · rw [if_neg h2, if_neg (by simp only [List.mem_cons, not_or]; exact ⟨fun z => h z.symm, h2⟩)]
theorem wipeE_length (e : List Sl) : ∀ vs : List Nat, (wipeE e vs).length = e.length
  | [] => rfl
  | v :: vs => by unfold wipeE; rw [List.length_set, wipeE_length e vs]
theorem wipeE_get (e : List Sl) : ∀ (vs : List Nat) (k : Nat), (wipeE e vs)[k]? = if k ∈ vs then (e[k]?).map (fun _ => Sl.non) else e[k]?
  | [], k => by rw [if_neg (by simp)]; rfl
  | v :: vs, k => by
    unfold wipeE
    by_cases h : v = k
    · subst h
      rw [if_pos List.mem_cons_self]
      rw [List.getElem?_set]
      simp only [if_true]
      rw [wipeE_length]
      by_cases hl : v < e.length
      · rw [if_pos hl, List.getElem?_eq_getElem hl]; rfl
      · rw [if_neg hl, List.getElem?_eq_none (by omega)]; rfl
    · rw [List.getElem?_set_ne h, wipeE_get e vs k]
      by_cases h2 : k ∈ vs
      · rw [if_pos h2, if_pos (List.mem_cons_of_mem _ h2)]
      · rw [if_neg h2, if_neg (by simp only [List.mem_cons, not_or]; exact ⟨fun z => h z.symm, h2⟩)]
theorem backE_length (e0 e : List Sl) : ∀ vs : List Nat, (backE e0 e vs).length = e.length
  | [] => rfl
  | v :: vs => by
    unfold backE
    split
    · rw [List.length_set, backE_length e0 e vs]
    · exact backE_length e0 e vs
theorem backE_get {e0 e : List Sl} (hl : e.length = e0.length) : ∀ (vs : List Nat) (k : Nat), (backE e0 e vs)[k]? = if k ∈ vs then e0[k]? else e[k]?
  | [], k => by rw [if_neg (by simp)]; rfl
  | v :: vs, k => by
    unfold backE
    by_cases h : v = k
    · subst h
      rw [if_pos List.mem_cons_self]
      cases q : e0[v]? with
      | none =>
        simp only
        rw [backE_get hl vs v]
        split
        · exact q
        · rw [List.getElem?_eq_none_iff] at q ⊢; omega
      | some s =>
        simp only
        obtain ⟨h1, _⟩ := List.getElem?_eq_some_iff.mp q
        rw [List.getElem?_set_self (by rw [backE_length]; omega)]
    · have e1 : ∀ s, ((backE e0 e vs).set v s)[k]? = (backE e0 e vs)[k]? := fun s => List.getElem?_set_ne h
      have e2 : (if k ∈ v :: vs then e0[k]? else e[k]?) = if k ∈ vs then e0[k]? else e[k]? := by
        by_cases h2 : k ∈ vs
        · rw [if_pos h2, if_pos (List.mem_cons_of_mem _ h2)]
        · rw [if_neg h2, if_neg (by simp only [List.mem_cons, not_or]; exact ⟨fun z => h z.symm, h2⟩)]
      rw [e2, ← backE_get hl vs k]
      split
      · exact e1 _
      · rfl
theorem ER.wiped {K : PySem.W.Frag} {H G : Hp} {σ : L2.St} {env : List Sl} (r : ER K H G σ env) (vs : List Nat) : ER K H G (wipe σ vs) (wipeE env vs) := by
  have out : ∀ {k : Nat} {s : Sl}, (wipeE env vs)[k]? = some s → s ≠ .non → k ∉ vs ∧ env[k]? = some s := fun {k s} h hs => by
    rw [wipeE_get] at h
    split at h
    · cases q : env[k]? with
      | none => rw [q] at h; cases h
      | some t => rw [q] at h; exact absurd (Option.some.inj h).symm hs
    · rename_i hk
      exact ⟨hk, h⟩
  have sg : ∀ {k : Nat}, k ∉ vs → (wipe σ vs)[k]? = σ[k]? := fun {k} hk => by rw [wipe_get, if_neg hk]
  refine ⟨by rw [wipe_length, wipeE_length]; exact r.len, r.sub, fun i d h => ?_, fun i s d h1 h2 => ?_, fun i j s t d e p h1 h2 h3 h4 h5 h6 => ?_⟩
  · obtain ⟨hk, h⟩ := out h (fun z => nomatch z)
    rw [sg hk]
    exact r.val i d h
  · obtain ⟨hk, h⟩ := out h1 (fun z => by rw [z] at h2; cases h2)
    rw [sg hk]
    exact r.mu i s d h h2
  · obtain ⟨hk, h⟩ := out h1 (fun z => by rw [z] at h2; cases h2)
    obtain ⟨hk', h'⟩ := out h3 (fun z => by rw [z] at h4; cases h4)
    rw [sg hk] at h5
    rw [sg hk'] at h6
    exact r.sep i j s t d e p h h2 h' h4 h5 h6
/-- a slot that is not written is set -/
theorem ER.setVal {K : PySem.W.Frag} {H G : Hp} {σ : L2.St} {env : List Sl} {i : Nat} {d : D} {v : V} (r : ER K H G σ env) (hl : i < env.length) (hv : Rp K G d v) : ER K H G (σ.set i (some v)) (env.set i (.val d)) := by
  have hl' : i < σ.length := by rw [r.len]; exact hl
  have ne : ∀ j, i ≠ j → (σ.set i (some v))[j]? = σ[j]? ∧ (env.set i (.val d))[j]? = env[j]? := fun j h => ⟨List.getElem?_set_ne h, List.getElem?_set_ne h⟩
  have eqi : (env.set i (.val d))[i]? = some (.val d) := List.getElem?_set_self hl
  have eqs : (σ.set i (some v))[i]? = some (some v) := List.getElem?_set_self hl'
  refine ⟨by rw [List.length_set, List.length_set]; exact r.len, r.sub, fun j e hj => ?_, fun j t e h1 h2 => ?_, fun j k t u e f p h1 h2 h3 h4 h5 h6 => ?_⟩
  · by_cases z : i = j
    · subst z
      rw [eqi] at hj
      cases hj
      exact ⟨v, eqs, hv⟩
    · rw [(ne j z).2] at hj
      rw [(ne j z).1]
      exact r.val j e hj
  · have z1 : i ≠ j := fun z => by subst z; rw [eqi] at h1; cases h1; cases h2
    rw [(ne j z1).2] at h1
    rw [(ne j z1).1]
    exact r.mu j t e h1 h2
  · have z1 : i ≠ j := fun z => by subst z; rw [eqi] at h1; cases h1; cases h2
    have z2 : i ≠ k := fun z => by subst z; rw [eqi] at h3; cases h3; cases h4
    rw [(ne j z1).2] at h1
    rw [(ne j z1).1] at h5
    rw [(ne k z2).2] at h3
    rw [(ne k z2).1] at h6
    exact r.sep j k t u e f p h1 h2 h3 h4 h5 h6
theorem setE_im {i : Nat} {d : D} {e e' : List Sl} (h : setE i (.im d) e = some e') : i < e.length ∧ e' = e.set i (.val d) := by
  unfold setE at h
  simp only [Vl.st] at h
  split at h
  · cases h
  · rename_i c
    cases h
    cases q : e[i]? with
    | none => rw [q] at c; exact absurd rfl c
    | some t => exact ⟨(List.getElem?_eq_some_iff.mp q).1, rfl⟩
/-- within vs alone -/
structure InVs (vs : List Nat) (σ : L2.St) (e : List Sl) (σ' : L2.St) (e' : List Sl) : Prop where
  so : ∀ k : Nat, k ∉ vs → σ'[k]? = σ[k]?
  eo : ∀ k : Nat, k ∉ vs → e'[k]? = e[k]?
  nm : ∀ (k : Nat) (s : Sl), k ∈ vs → e'[k]? = some s → s.mu = none
  ln : σ'.length = σ.length
theorem InVs.set {vs : List Nat} {σ0 σ : L2.St} {e0 e : List Sl} {i : Nat} {d : D} {v : V} (h : InVs vs σ0 e0 σ e) (hi : i ∈ vs) : InVs vs σ0 e0 (σ.set i (some v)) (e.set i (.val d)) where
  so := fun k hk => by rw [List.getElem?_set_ne (fun z => hk (by rw [← z]; exact hi))]; exact h.so k hk
  eo := fun k hk => by rw [List.getElem?_set_ne (fun z => hk (by rw [← z]; exact hi))]; exact h.eo k hk
  nm := fun k s hk q => by
    by_cases z : i = k
    · subst z
      rw [List.getElem?_set] at q
      simp only [if_true] at q
      split at q
      · cases q; rfl
      · cases q
    · rw [List.getElem?_set_ne z] at q
      exact h.nm k s hk q
  ln := by rw [List.length_set]; exact h.ln
theorem InVs.wipe {vs : List Nat} {σ0 σ : L2.St} {e0 e : List Sl} (h : InVs vs σ0 e0 σ e) : wipe σ vs = wipe σ0 vs := by
  apply List.ext_getElem?
  intro k
  rw [wipe_get, wipe_get]
  by_cases hk : k ∈ vs
  · rw [if_pos hk, if_pos hk]
    by_cases hl : k < σ0.length
    · rw [List.getElem?_eq_getElem hl, List.getElem?_eq_getElem (by rw [h.ln]; exact hl)]; rfl
    · have hl' : σ0.length ≤ k := by omega
      have hl2 : σ.length ≤ k := by rw [h.ln]; exact hl'
      rw [List.getElem?_eq_none hl', List.getElem?_eq_none hl2]
  · rw [if_neg hk, if_neg hk, h.so k hk]
theorem gs_er {K : PySem.W.Frag} {H G : Hp} {vs : List Nat} {σ0 : L2.St} {e0 : List Sl} : ∀ {is : List Nat} {ds : List D} {xs : List V} {σ : L2.St} {e e' : List Sl} {Q : L2.St → Hp → Prop}, (∀ i ∈ is, i ∈ vs) → ER K H G σ e → InVs vs σ0 e0 σ e → RpL K G ds xs → setsE is ds e = some e' →
    (∀ σ', ER K H G σ' e' → InVs vs σ0 e0 σ' e' → Q σ' H) → gsOf is xs σ H Q
  | [], [], xs, σ, e, e', Q, hi, r, iv, hx, h, k => by cases h; exact ⟨hx, k σ r iv⟩
  | [], d :: ds, xs, σ, e, e', Q, hi, r, iv, hx, h, k => by cases h
  | i :: is, [], xs, σ, e, e', Q, hi, r, iv, hx, h, k => by cases h
  | i :: is, d :: ds, xs, σ, e, e', Q, hi, r, iv, hx, h, k => by
    obtain ⟨x, t, rfl, h1, h2⟩ := hx
    have h : (setE i (.im d) e).bind (setsE is ds) = some e' := h
    cases e1 : setE i (.im d) e with
    | none => rw [e1] at h; cases h
    | some e2 =>
      rw [e1] at h
      obtain ⟨hl, rfl⟩ := setE_im e1
      exact ⟨x, t, rfl, gs_er (fun j hj => hi j (List.mem_cons_of_mem _ hj)) (r.setVal hl h1) (iv.set (hi i List.mem_cons_self)) h2 h k⟩
theorem Tg.er {K : PySem.W.Frag} {H G : Hp} {vs : List Nat} {t : Tg} {d : D} {v : V} {σ : L2.St} {e e' : List Sl} {Q : L2.St → Hp → Prop} (hi : ∀ i ∈ t.ix, i ∈ vs) (r : ER K H G σ e) (iv : InVs vs σ e σ e) (hv : Rp K G d v) (h : t.F d e = some e')
    (k : ∀ σ', ER K H G σ' e' → InVs vs σ e σ' e' → Q σ' H) : t.g K v σ H Q := by
  cases t with
  | nm i =>
    obtain ⟨hl, rfl⟩ := setE_im (show setE i (.im d) e = some e' from h)
    exact k _ (r.setVal hl hv) (iv.set (hi i List.mem_cons_self))
  | tp is =>
    cases d with
    | tup ds =>
      obtain ⟨a, xs, rfl, h1, h2⟩ := hv
      have h : setsE is ds e = some e' := h
      exact ⟨a, xs, rfl, Same.sqT r.sub h1, by rw [h2.length, setsE_len h], gs_er hi r iv h2 h k⟩
    | _ => cases h
theorem Tg.gx {X : Cx} {tg : Expr} {t : Tg} (h : PGT X tg t) : GX X tg t.F := by
  refine ⟨t.g X.K, h, fun H0 G0 pa H G σ env e' d v Q r hv e k => ?_⟩
  cases t with
  | nm i => exact k _ (r.setIm hv e)
  | tp is =>
    cases d with
    | tup ds =>
      obtain ⟨a, xs, rfl, h1, h2⟩ := hv
      have e : setsE is ds env = some e' := e
      refine ⟨a, xs, rfl, Same.sqT r.er.sub h1, by rw [h2.length, setsE_len e], ?_⟩
      have go : ∀ {is : List Nat} {ds : List D} {xs : List V} {σ : L2.St} {env : List Sl}, SR X.K H0 G0 pa H G σ env → RpL X.K G ds xs → setsE is ds env = some e' → gsOf is xs σ H Q := by
        intro is
        induction is with
        | nil =>
          intro ds xs σ env r hx e
          cases ds with
          | nil => cases e; exact ⟨hx, k σ r⟩
          | cons d ds => cases e
        | cons i is ih =>
          intro ds xs σ env r hx e
          cases ds with
          | nil => cases e
          | cons d ds =>
            obtain ⟨x, t, rfl, h1, h2⟩ := hx
            have e : (HF.setE i (.im d) env).bind (setsE is ds) = some e' := e
            cases e1 : HF.setE i (.im d) env with
            | none => rw [e1] at e; cases e
            | some e2 => rw [e1] at e; exact ⟨x, t, rfl, ih (r.setIm h1 e1) h2 e⟩
      exact go r h2 e
    | _ => cases e
end HF

set_option Elab.async false
set_option linter.all false
set_option maxRecDepth 100000
set_option maxHeartbeats 4000000
set_option autoImplicit false
namespace HF
open PySem PySem.Spec PyProof.Rows L2
/-! ### the rule for a comprehension -/
abbrev W0 : WX := fun _ _ _ _ => False
theorem PTs.weak {X : Cx} {ifs : List Expr} {t t' : TT} (h : PTs X ifs t) (w : ∀ σ H Q, t' σ H Q → t σ H Q) : PTs X ifs t' := ⟨fun pins s σ H Q I q => h.run pins s σ H Q I (w σ H Q q)⟩
def LTX (X : Cx) (ifs : List Expr) (T : Fx) : Prop := PTs X ifs (tT X.K X.mg W0 T)
theorem ltx_nil {X : Cx} : LTX X [] yesF := PTs.weak pts_nil fun σ H Q ⟨G, env, r, h⟩ => h H G (Stp.refl r)
theorem ltx_one {X : Cx} {c : Expr} {T : Fx} (h : TX X W0 c T) : LTX X [c] T := pts_one h
section
variable {K : PySem.W.Frag} {mg : Str → Option Value}
/-- the block's turn as a step of the wiped frame -/
theorem turn_step {H G H5 G5 : Hp} {vs : List Nat} {σw σ2 : L2.St} {e e2 e5 : List Sl} (rw0 : ER K H G σw e) (hw : wipeE e vs = e) (hs : wipe σw vs = σw) (iv : InVs vs σw e σ2 e2) (s : Stp K σ2 H G e2 H5 G5 e5) : Stp K σw H G e H5 G5 (wipeE e5 vs) := by
  have ew : ∀ (k : Nat) (t : Sl), k ∈ vs → e[k]? = some t → t = .non := fun k t hk q => by
    rw [← hw, wipeE_get, if_pos hk] at q
    cases z : e[k]? with
    | none => rw [z] at q; cases q
    | some u => rw [z] at q; exact (Option.some.inj q).symm
  have er : ER K H5 G5 σw (wipeE e5 vs) := by
    have := s.er.wiped vs
    rw [iv.wipe, hs] at this
    exact this
  have notm : ∀ b, ¬ MuIs σw e b → ¬ MuIs σ2 e2 b := fun b n ⟨k, t, d, q1, q2, q3⟩ => by
    by_cases hk : k ∈ vs
    · have := iv.nm k t hk q1
      rw [this] at q2
      cases q2
    · rw [iv.eo k hk] at q1
      rw [iv.so k hk] at q3
      exact n ⟨k, t, d, q1, q2, q3⟩
  refine ⟨er, s.gr, s.old, fun b o q n => s.keep b o q (notm b n), fun k => ?_⟩
  rw [wipeE_get]
  by_cases hk : k ∈ vs
  · rw [if_pos hk]
    have l1 : e5.length = e.length := by
      have a1 := s.er.len
      have a2 := iv.ln
      have a3 := rw0.len
      omega
    by_cases hl : k < e.length
    · rw [List.getElem?_eq_getElem (show k < e5.length by omega)]
      cases q : e[k]? with
      | none => rw [List.getElem?_eq_none_iff] at q; omega
      | some t => rw [ew k t hk q]; exact rfl
    · rw [List.getElem?_eq_none (show e5.length ≤ k by omega), List.getElem?_eq_none (show e.length ≤ k by omega)]
      exact rfl
  · rw [if_neg hk, ← iv.eo k hk]
    exact s.kin k
/-- out of the block -/
theorem back_step {H G H5 G5 : Hp} {vs : List Nat} {σ : L2.St} {e e5 : List Sl} (r : ER K H G σ e) (s : Stp K (wipe σ vs) H G (wipeE e vs) H5 G5 e5) : Stp K σ H G e H5 G5 (backE e e5 vs) := by
  have hl : e5.length = e.length := by
    have a1 := s.er.len
    rw [wipe_length] at a1
    have := r.len
    omega
  have bg := backE_get hl vs
  have sg : ∀ {k : Nat}, k ∉ vs → (wipe σ vs)[k]? = σ[k]? := fun {k} hk => by rw [wipe_get, if_neg hk]
  have wg : ∀ {k : Nat}, k ∉ vs → (wipeE e vs)[k]? = e[k]? := fun {k} hk => by rw [wipeE_get, if_neg hk]
  have mw : ∀ b, MuIs (wipe σ vs) (wipeE e vs) b → ∃ k : Nat, k ∉ vs ∧ ∃ t d, e[k]? = some t ∧ t.mu = some d ∧ σ[k]? = some (some (.ref b)) := fun b ⟨k, t, d, q1, q2, q3⟩ => by
    by_cases hk : k ∈ vs
    · rw [wipeE_get, if_pos hk] at q1
      cases z : e[k]? with
      | none => rw [z] at q1; cases q1
      | some u => rw [z] at q1; cases q1; cases q2
    · rw [wg hk] at q1
      rw [sg hk] at q3
      exact ⟨k, hk, t, d, q1, q2, q3⟩
  refine ⟨⟨by rw [backE_length, hl]; exact r.len, s.er.sub, fun i d h => ?_, fun i t d h1 h2 => ?_, fun i j t u d f p h1 h2 h3 h4 h5 h6 => ?_⟩, s.gr, s.old, fun b o q n => s.keep b o q fun m => n ?_, fun k => ?_⟩
  · rw [bg] at h
    by_cases hk : i ∈ vs
    · rw [if_pos hk] at h
      obtain ⟨v, w1, w2⟩ := r.val i d h
      exact ⟨v, w1, Rp.mono s.gr d v w2⟩
    · rw [if_neg hk] at h
      obtain ⟨v, w1, w2⟩ := s.er.val i d h
      rw [sg hk] at w1
      exact ⟨v, w1, w2⟩
  · rw [bg] at h1
    by_cases hk : i ∈ vs
    · rw [if_pos hk] at h1
      obtain ⟨p, w1, w2, w3⟩ := r.mu i t d h1 h2
      refine ⟨p, w1, s.old p w3.there w2, w3.mono ?_ s.gr⟩
      cases z : H p with
      | none => exact absurd z w3.there
      | some o =>
        refine s.keep p o z fun m => ?_
        obtain ⟨k, hk', t', d', q1, q2, q3⟩ := mw p m
        have := r.sep i k t t' d d' p h1 h2 q1 q2 w1 q3
        exact hk' (this ▸ hk)
    · rw [if_neg hk] at h1
      obtain ⟨p, w1, w2⟩ := s.er.mu i t d h1 h2
      rw [sg hk] at w1
      exact ⟨p, w1, w2⟩
  · have back : ∀ {i : Nat} {t : Sl} {d : D}, (backE e e5 vs)[i]? = some t → t.mu = some d → ∃ t' d', e[i]? = some t' ∧ t'.mu = some d' := fun {i t d} h1 h2 => by
      rw [bg] at h1
      by_cases hk : i ∈ vs
      · rw [if_pos hk] at h1; exact ⟨t, d, h1, h2⟩
      · rw [if_neg hk] at h1
        have k := s.kin i
        rw [h1, wg hk] at k
        exact k.back h2
    obtain ⟨t', d', x1, x2⟩ := back h1 h2
    obtain ⟨u', f', y1, y2⟩ := back h3 h4
    exact r.sep i j t' u' d' f' p x1 x2 y1 y2 h5 h6
  · obtain ⟨k, _, t, d, q1, q2, q3⟩ := mw b m
    exact ⟨k, t, d, q1, q2, q3⟩
  · rw [bg]
    by_cases hk : k ∈ vs
    · rw [if_pos hk]; exact Kin.refl _
    · rw [if_neg hk, ← wg hk]; exact s.kin k
theorem wipe_idem (σ : L2.St) (vs : List Nat) : wipe (wipe σ vs) vs = wipe σ vs := by
  apply List.ext_getElem?
  intro k
  rw [wipe_get, wipe_get]
  by_cases hk : k ∈ vs
  · rw [if_pos hk, if_pos hk]
    cases σ[k]? <;> rfl
  · rw [if_neg hk, if_neg hk]
theorem wipeE_idem (e : List Sl) (vs : List Nat) : wipeE (wipeE e vs) vs = wipeE e vs := by
  apply List.ext_getElem?
  intro k
  rw [wipeE_get, wipeE_get]
  by_cases hk : k ∈ vs
  · rw [if_pos hk, if_pos hk]
    cases e[k]? <;> rfl
  · rw [if_neg hk, if_neg hk]
/-- the list that is made, at D: accs so far -/
structure LcSt (K : PySem.W.Frag) (σw : L2.St) (H1 G1 : Hp) (ew : List Sl) (vs : List Nat) (Da : Addr) (H G : Hp) (e : List Sl) (acc : List D) : Prop where
  stp : Stp K σw H1 G1 ew H G e
  wp : wipeE e vs = e
  at_ : ∃ xs, H Da = some (.lst xs) ∧ RpL K G acc xs
  gn : G Da = none
theorem lc_go {wi : SFx} {t : Tg} {T E : Fx} {vs : List Nat} {J : It} {ds : List D} {H1 G1 : Hp} {σ : L2.St} {e1 : List Sl} {Q : VK} {Da : Addr} (hi : ∀ i ∈ t.ix, i ∈ vs) (r1 : ER K H1 G1 σ e1) (jok : JOk K J ds G1) (hD : H1 Da = none) (R : Vl → List Sl → Prop)
    (hR : ∃ acc e', lcL t.F T E vs ds (wipeE e1 vs) [] = .ok (.fr (.lst acc)) e')
    (done : ∀ acc e' H' G', lcL t.F T E vs ds (wipeE e1 vs) [] = .ok (.fr (.lst acc)) e' → LcSt K (wipe σ vs) H1 G1 (wipeE e1 vs) vs Da H' G' e' acc → Q (.ref Da) H') :
    ∃ W : Nat → Nat → Hp → Prop, (∃ m, W 0 m (upd H1 Da (.lst []))) ∧ ∀ i m H, W i m H →
      (J.stop i H ∧ Q (.ref Da) H) ∨ (J.go i H ∧ ∃ Nx : Hp → Prop, (∀ H', Nx H' → ∃ m', m' < m ∧ W (i + 1) m' H') ∧ ∀ x H', J.yld i H x H' → t.g K x (wipe σ vs) H' fun σ2 H2 => wipe σ2 vs = wipe σ vs ∧ tT K mg W0 T σ2 H2 fun b H3 =>
        if b = true then tD K mg W0 E σ2 H3 fun y H4 => ∃ acc, H4 Da = some (.lst acc) ∧ acc.length < sizeLine ∧ Nx (upd H4 Da (.lst (acc ++ [y]))) else Nx H3) := by
  have rw1 : ER K H1 G1 (wipe σ vs) (wipeE e1 vs) := r1.wiped vs
  have notD : ∀ {H G : Hp} {e : List Sl}, Stp K (wipe σ vs) H1 G1 (wipeE e1 vs) H G e → ¬ MuIs (wipe σ vs) e Da := fun {H G e} s m => MuIs.new rw1 hD (m.of s.kin)
  -- the rest of the turns gives what all of them give
  refine ⟨fun i m H => m = ds.length - i ∧ i ≤ ds.length ∧ ∃ G e acc, LcSt K (wipe σ vs) H1 G1 (wipeE e1 vs) vs Da H G e acc ∧ lcL t.F T E vs (ds.drop i) e acc = lcL t.F T E vs ds (wipeE e1 vs) [],
    ⟨ds.length, rfl, Nat.zero_le _, G1, wipeE e1 vs, [], ⟨Stp.gs rw1 (GS.newH r1.sub hD), wipeE_idem _ _, ⟨[], upd_same, rfl⟩, r1.sub.free hD⟩, rfl⟩, ?_⟩
  rintro i m H ⟨rfl, hle, G, e, acc, st, eq⟩
  have er := st.stp.er
  by_cases hlt : i < ds.length
  · refine .inr ⟨jok.go H G i st.stp.gr er.sub hlt, fun H' => i + 1 ≤ ds.length ∧ ∃ G e acc, LcSt K (wipe σ vs) H1 G1 (wipeE e1 vs) vs Da H' G e acc ∧ lcL t.F T E vs (ds.drop (i + 1)) e acc = lcL t.F T E vs ds (wipeE e1 vs) [], fun H' ⟨a, b⟩ => ⟨ds.length - (i + 1), by omega, rfl, a, b⟩, fun x H3 y => ?_⟩
    obtain ⟨G3, d, ed, gs, hx⟩ := jok.yld H G i x H3 st.stp.gr er.sub hlt y
    have er3 := er.gs gs
    have edrop : ds.drop i = d :: ds.drop (i + 1) := by
      rw [List.drop_eq_getElem_cons hlt]
      rw [List.getElem?_eq_getElem hlt] at ed
      rw [Option.some.inj ed]
    obtain ⟨acc0, e0, h0⟩ := hR
    rw [edrop, h0] at eq
    unfold lcL at eq
    have ne : ∀ {r : Rs}, r = Rs.ok (.fr (.lst acc0)) e0 → r ≠ .stk := fun {r} q z => by rw [q] at z; cases z
    cases et : t.F d e with
    | none => rw [et] at eq; exact absurd rfl (ne eq)
    | some e2 =>
      rw [et] at eq
      simp only at eq
      have ivv : InVs vs (wipe σ vs) e (wipe σ vs) e := ⟨fun _ _ => rfl, fun _ _ => rfl, fun k s hk q => by
        rw [← st.wp, wipeE_get, if_pos hk] at q
        cases z : e[k]? with
        | none => rw [z] at q; cases q
        | some u => rw [z] at q; rw [← Option.some.inj q]; rfl, rfl⟩
      refine Tg.er hi er3 ivv hx et fun σ2 r2 iv => ⟨iv.wipe.trans (wipe_idem σ vs), G3, e2, r2, ?_⟩
      -- Da at H3
      obtain ⟨xs, hDa, hacc⟩ := st.at_
      have gn3 : G3 Da = none := gs.old Da (by rw [hDa]; exact fun z => nomatch z) st.gn
      have hDa3 : H3 Da = some (.lst xs) := gs.hh _ _ hDa
      have notD2 : ∀ {σ2 : L2.St} {e2 : List Sl}, InVs vs (wipe σ vs) e σ2 e2 → ¬ MuIs σ2 e2 Da := fun {σ2 e2} iv ⟨k, t, d, q1, q2, q3⟩ => by
        by_cases hk : k ∈ vs
        · rw [iv.nm k t hk q1] at q2; cases q2
        · rw [iv.eo k hk] at q1
          rw [iv.so k hk] at q3
          exact notD st.stp ⟨k, t, d, q1, q2, q3⟩
      cases eT : T e2 with
      | stk => rw [eT] at eq; exact absurd rfl (ne eq)
      | err c e' => rw [eT] at eq; exact absurd rfl (ne eq)
      | ok vl e4 =>
        rw [eT] at eq
        cases vl with
        | fr _ => exact absurd rfl (ne eq)
        | bo _ => exact absurd rfl (ne eq)
        | im dd =>
          cases dd with
          | bl b =>
            intro H4 G4 s4
            have D4 : H4 Da = some (.lst xs) := s4.keep Da _ hDa3 (notD2 iv)
            have g4 : G4 Da = none := s4.old Da (by rw [hDa3]; exact fun z => nomatch z) gn3
            cases b with
            | false =>
              simp only at eq
              refine L2.iteF ⟨hlt, G4, wipeE e4 vs, acc, ⟨?_, wipeE_idem _ _, ⟨xs, D4, RpL.mono (gs.gg.trans s4.gr) _ _ hacc⟩, g4⟩, eq.trans h0.symm⟩
              exact (st.stp.trans (Stp.gs er gs) rw1).trans (turn_step er3 st.wp (wipe_idem σ vs) iv s4) rw1
            | true =>
              simp only at eq
              refine L2.iteT ⟨G4, e4, s4.er, ?_⟩
              cases eE : E e4 with
              | stk => rw [eE] at eq; exact absurd rfl (ne eq)
              | err c e' => rw [eE] at eq; exact absurd rfl (ne eq)
              | ok v5 e5 =>
                rw [eE] at eq
                simp only at eq
                cases ex : v5.toIm with
                | none => rw [ex] at eq; exact absurd rfl (ne eq)
                | some x5 =>
                  rw [ex] at eq
                  simp only at eq
                  split at eq
                  · rename_i csz
                    intro y H5 G5 s5 v5'
                    obtain ⟨G6, s6, g6, k6, q6⟩ := v5'.w.imm s5 s4.er ex
                    have iv4 : ¬ MuIs σ2 e4 Da := fun m => notD2 iv (m.of s4.kin)
                    have D5 : H5 Da = some (.lst xs) := s5.keep Da _ D4 iv4
                    have s36 : Stp K σ2 H3 G3 e2 H5 G6 e5 := s4.trans s6 r2
                    have g6n : G6 Da = none := s36.old Da (by rw [hDa3]; exact fun z => nomatch z) gn3
                    have accn : RpL K G6 acc xs := RpL.mono (gs.gg.trans s36.gr) _ _ hacc
                    refine ⟨xs, D5, ?_, hlt, G6, wipeE e5 vs, acc ++ [x5], ⟨?_, wipeE_idem _ _, ⟨xs ++ [y], upd_same, accn.append (RpL.one q6)⟩, g6n⟩, eq.trans h0.symm⟩
                    · rw [accn.length, sizeLine_eq]
                      exact of_decide_eq_true csz
                    · have sa : Stp K (wipe σ vs) H1 G1 (wipeE e1 vs) H5 G6 (wipeE e5 vs) := (st.stp.trans (Stp.gs er gs) rw1).trans (turn_step er3 st.wp (wipe_idem σ vs) iv s36) rw1
                      -- the new list alone is written
                      have ne1 : ∀ b o, H1 b = some o → b ≠ Da := fun b o q z => by rw [z, hD] at q; cases q
                      refine ⟨⟨sa.er.len, fun b o q => ?_, sa.er.val, fun i t d q1 q2 => ?_, sa.er.sep⟩, sa.gr, sa.old, fun b o q n => ?_, sa.kin⟩
                      · rw [upd_ne (fun z => by rw [z, g6n] at q; cases q)]
                        exact sa.er.sub b o q
                      · obtain ⟨p, w1, w2, w3⟩ := sa.er.mu i t d q1 q2
                        refine ⟨p, w1, w2, w3.mono (upd_ne fun z => ?_) (Same.refl _)⟩
                        exact notD sa ⟨i, t, d, q1, q2, by rw [← z]; exact w1⟩
                      · rw [upd_ne (ne1 b o q)]
                        exact sa.keep b o q n
                  · exact absurd rfl (ne eq)
          | _ => exact absurd rfl (ne eq)
  · have e : i = ds.length := by omega
    subst e
    rw [List.drop_length] at eq
    exact .inl ⟨jok.stop H G st.stp.gr er.sub, done _ _ H G eq.symm st⟩
end
section
variable {X : Cx} {W : WX} {elt tg iter : Expr} {ifs : List Expr} {scope : Scope} {own : List (Str × Nat)} {pos : Pos} {SF : SFx} {t : Tg} {T E : Fx}
theorem lc_read (hi : ∀ i ∈ t.ix, i ∈ own.map (·.2)) {σ : L2.St} {H : Hp} {Q : VK} (h : tD X.K X.mg W (lcF SF t.F T E (own.map (·.2))) σ H Q) :
    tLc (tI X.K X.mg W SF) (t.g X.K) (tT X.K X.mg W0 T) (tD X.K X.mg W0 E) (own.map (·.2)) σ H Q := by
  obtain ⟨G, env, r, h⟩ := h
  refine ⟨G, env, r, ?_⟩
  cases e1 : SF env with
  | stk => simp only [lcF, e1] at h; exact h.elim
  | err c e' => simp only [lcF, e1] at h; exact h
  | ok ds env1 =>
    simp only [lcF, e1] at h
    intro J H1 G1 s jok Da hD
    cases e2 : lcL t.F T E (own.map (·.2)) ds (wipeE env1 (own.map (·.2))) [] with
    | stk => rw [e2] at h; exact h.elim
    | err c e' => rw [e2] at h; exact h.elim
    | ok vl e3 =>
      rw [e2] at h
      have lst : ∀ (ds : List D) (e : List Sl) (acc : List D) {vl : Vl} {e' : List Sl}, lcL t.F T E (own.map (·.2)) ds e acc = .ok vl e' → ∃ acc', vl = .fr (.lst acc') := by
        intro ds
        induction ds with
        | nil => intro e acc vl e' q; cases q; exact ⟨acc, rfl⟩
        | cons d ds ih =>
          intro e acc vl e' q
          unfold lcL at q
          split at q
          · cases q
          · split at q
            · split at q
              · split at q
                · split at q
                  · exact ih _ _ q
                  · cases q
                · cases q
              · cases q
            · exact ih _ _ q
            · cases q
      obtain ⟨acc, rfl⟩ := lst _ _ _ e2
      refine lc_go (wi := SF) hi s.er jok hD (fun _ _ => True) ⟨acc, e3, e2⟩ fun acc' e' H' G' q st => ?_
      rw [e2] at q
      cases q
      obtain ⟨xs, hx, hr⟩ := st.at_
      exact h _ H' G' (s.trans (back_step s.er st.stp) r) ⟨Da, rfl, s.free r hD, st.gn, xs, hx, hr⟩
theorem ex_lc (hc : X.calm = true) (hN : X.N.Nodup) (hs : SX X W tg iter SF) (ok : BlkOk X.N X.env.scope scope own)
    (hg : ∀ (s : Shared) (H : Hp) (C : Addr) (cl : List (Str × Addr)) (fp : List Addr), PGT (X.blk s H scope (compEnvC scope cl C X.env) fp) tg t) (ht : ∀ (s : Shared) (H : Hp) (C : Addr) (cl : List (Str × Addr)) (fp : List Addr), LTX (X.blk s H scope (compEnvC scope cl C X.env) fp) ifs T)
    (he : ∀ (s : Shared) (H : Hp) (C : Addr) (cl : List (Str × Addr)) (fp : List Addr), EX (X.blk s H scope (compEnvC scope cl C X.env) fp) W0 elt E) {vs : List Nat} (hv : own.map (·.2) = vs := by rfl) (hi : ∀ i ∈ t.ix, i ∈ own.map (·.2) := by decide) (hf : ∀ x, foldedSetIterable iter X.env x = pure x := by intro _; rfl) :
    EX X W (.ListComp elt [⟨tg, iter, ifs, 0⟩] scope pos) (lcF SF t.F T E vs) := by
  subst hv
  exact PE.weak (pe_lc (wi := tI X.K X.mg W SF) (g := t.g X.K) (tt := tT X.K X.mg W0 T) (te := tD X.K X.mg W0 E) hc hN hs ok hg ht he hf) fun σ H Q h => lc_read hi h
/-- y = [..] -/
theorem st_setLc {i : Nat} {y : Str} {py spos : Pos} (hc : X.calm = true) (hN : X.N.Nodup) (hsw : swapsWith (.ListComp elt [⟨tg, iter, ifs, 0⟩] scope pos) (some (.Name y py)) spos.line X.env = pure true) (hs : SX X W tg iter SF) (ok : BlkOk X.N X.env.scope scope own)
    (hg : ∀ (s : Shared) (H : Hp) (C : Addr) (cl : List (Str × Addr)) (fp : List Addr), PGT (X.blk s H scope (compEnvC scope cl C X.env) fp) tg t) (ht : ∀ (s : Shared) (H : Hp) (C : Addr) (cl : List (Str × Addr)) (fp : List Addr), LTX (X.blk s H scope (compEnvC scope cl C X.env) fp) ifs T)
    (he : ∀ (s : Shared) (H : Hp) (C : Addr) (cl : List (Str × Addr)) (fp : List Addr), EX (X.blk s H scope (compEnvC scope cl C X.env) fp) W0 elt E) (hy : X.N[i]? = some y := by rfl) (hyl : X.env.scope.names.lookup y = some .local := by rfl) {vs : List Nat} (hv : own.map (·.2) = vs := by rfl) (hi : ∀ i ∈ t.ix, i ∈ own.map (·.2) := by decide) (hf : ∀ x, foldedSetIterable iter X.env x = pure x := by intro _; rfl) :
    ST X W (.Assign [.Name y py] (.ListComp elt [⟨tg, iter, ifs, 0⟩] scope pos) spos) (asgS i (lcF SF t.F T E vs)) := by
  subst hv
  intro H0 G0 pa
  refine PS.weak (ps_setLc (wi := tI X.K X.mg W SF) (g := t.g X.K) (tt := tT X.K X.mg W0 T) (te := tD X.K X.mg W0 E) hc hN hy hyl hsw hs ok hg ht he hf) fun D σ H ⟨G, env, r, h⟩ => ?_
  refine lc_read (W := W) hi (SR.bind r h fun vl env1 v H1 G1 _ s v1 r1 p => ?_)
  cases e1 : setE i vl env1 with
  | none => simp only [e1] at p; exact p.elim
  | some e' =>
    simp only [e1] at p
    exact p _ _ _ (r1.setE v1 (fun p hp m => (MuIs.new r.er hp) (m.of s.kin)) (fun p hp => r.free0 hp) e1)
end
end HF

set_option Elab.async false
set_option linter.all false
set_option maxRecDepth 100000
set_option maxHeartbeats 4000000
set_option autoImplicit false
namespace HF
open PySem PySem.Spec PyProof.Rows L2
end HF
namespace PySem
open PySem
theorem list_extend_tupG (l : Addr) (items : Array Value) (n : Nat) (b : Addr) (items2 : Array Value) (n2 : Nat) (dd : Option Addr) (sl : Array (Option Value)) (hs0 : ¬(!items.isEmpty && Builtin.List.listTooLong (items.size + items2.size)) = true) (hs1 : items.size ≤ sizeLine) (hs2 : items.size + items2.size ≤ sizeLine + 1) :
    Meets (Builtin.«list.extend» ⟨[.ref l, .ref b], []⟩) (fun _ R s => s.heap.get? l = some { cls := .type "list", dict := none, data := .seq items n, slots := #[] } ∧ s.heap.get? b = some { cls := .type "tuple", dict := dd, data := .seq items2 n2, slots := sl } ∧ R (.ok (.ret Value.none)) { s with heap := s.heap.update l (Obj.mapSeq fun x => x ++ items2), toks := s.toks }) :=
  .of_wp fun prog w A R s h => by
    obtain ⟨hp, g, d, tk, os⟩ := s; obtain ⟨hl, hb, h⟩ := h; have f1 := AutoSeq1.idx_int; have f2 := AutoSeq1.sub_tuple_tuple; have f3 := AutoSeq1.sub_list_list; have f4 := AutoSeq1.sub_tuple_list; have f5 := AutoSeq1.sub_list_tuple;
    have hz' : (items ++ items2).size ≤ sizeLine + 1 := by rw [Array.size_append]; exact hs2
    wp_walk using (wpAny_updateSeq hl rfl (hz := hs1) (_hz' := hz')), wpAny_loadPart' hl, wpAny_loadPart' hb; exact ⟨_, rfl, h⟩
end PySem
namespace HF
open PySem PySem.Spec PyProof.Rows L2
section
variable {X : Cx}
def rExtendT (K : PySem.W.Frag) : V → List V → Hp → VK → Prop := fun x vs H Q => ∃ l b xs zs, x = .ref l ∧ vs = [.ref b] ∧ H l = some (.lst xs) ∧ SqT K H b zs ∧ xs.length + zs.length ≤ sizeLine ∧ Q .non (upd H l (.lst (xs ++ zs)))
theorem mt_extendT : MtM X "list.extend" (rExtendT X.K) := by
  intro pins s σ H x vs v us Q I rx rv h
  obtain ⟨l, b, xs, zs, rfl, rfl, hH, hB, hz, q⟩ := h
  cases rx
  obtain ⟨u, rfl, ru⟩ := L2.Vals.one rv
  cases ru
  obtain ⟨z, its, n, r, hl, e⟩ := I.lstM hH
  obtain ⟨its2, r2, ⟨⟨cls, dd, dt, sl⟩, e2, c2, n2, d2⟩, hz2⟩ := I.tuple hB
  simp only at c2 d2
  subst c2 d2
  have hl2 := r2.length
  have hsz : its.toArray.size + its2.toArray.size ≤ sizeLine := by rw [List.size_toArray, List.size_toArray]; omega
  have hlong : ¬ (!its.toArray.isEmpty && Builtin.List.listTooLong (its.toArray.size + its2.toArray.size)) = true := by
    rw [notLongL hsz, Bool.and_false]
    exact Bool.false_ne_true
  refine call_meets F.slot_list_extend ⟨_, e, rfl⟩ F.entry_list_extend (F.args_list_extend_2 _ _)
    (PySem.list_extend_tupG l its.toArray n b its2.toArray n2 dd sl hlong (by rw [List.size_toArray]; omega) (by omega)) ⟨e, e2, ?_⟩
  refine ⟨.non, _, I.lset (its' := its ++ its2) hH e (by simp) (r.append r2) ?_, rfl, q⟩
  rw [List.length_append]
  omega
end
/-! ### methods that write -/
@[simp] def isLstE (e : List Sl) (i : Nat) : Bool := match (e[i]?).bind Sl.mu with
  | some (.lst _) => true
  | _ => false
@[simp] def mtR (g : D → List D → Option (D × D)) (i : Nat) (vls : List Vl) (e : List Sl) : Rs := match Vls.toIm vls, (e[i]?).bind Sl.mu with
  | some ds, some d => (match g d ds with
    | some (d', r) => .ok (.im r) (putE i d' e)
    | none => .stk)
  | _, _ => .stk
/-- xs.m(..), xs in slot i, a list -/
@[simp] def mtF (g : D → List D → Option (D × D)) (i : Nat) (Fs : FxL)  (env : List Sl) : Rs := if isLstE env i then bindL (Fs env) fun vls e => mtR g i vls e else .stk
def MtS (K : PySem.W.Frag) (g : D → List D → Option (D × D)) (r : V → List V → Hp → VK → Prop) : Prop := ∀ (H G : Hp) (p : Addr) (d : D) (ds : List D) (xs : List V) (d' r' : D) (Q : VK), Same G H → G p = none → MuAt K H G d p → RpL K G ds xs → g d ds = some (d', r') →
  (∀ v H', (∀ b, b ≠ p → H' b = H b) → MuAt K H' G d' p → Rp K G r' v → Q v H') → r (.ref p) xs H Q
theorem ER.put {K : PySem.W.Frag} {H G H' : Hp} {σ : L2.St} {env : List Sl} {i : Nat} {s : Sl} {d d' : D} {p : Addr} (r : ER K H G σ env) (h1 : env[i]? = some s) (h2 : s.mu = some d) (h3 : σ[i]? = some (some (.ref p))) (hk : ∀ b, b ≠ p → H' b = H b) (hm : MuAt K H' G d' p) : Stp K σ H G env H' G (putE i d' env) := by
  obtain ⟨hl, _⟩ := List.getElem?_eq_some_iff.mp h1
  have kin : ∀ k : Nat, Kin (env[k]?) ((putE i d' env)[k]?) := fun k => by
    rw [putE_get]
    by_cases z : i = k
    · subst z
      rw [if_pos rfl, h1]
      exact put_kin
    · rw [if_neg z]
      exact Kin.refl _
  have gp : G p = none := by
    obtain ⟨p', w1, w2, _⟩ := r.mu i s d h1 h2
    rw [h3] at w1
    cases w1
    exact w2
  refine ⟨⟨?_, fun b o q => ?_, fun j e h => ?_, fun j t e q1 q2 => ?_, fun j k t u e f q x1 x2 x3 x4 x5 x6 => ?_⟩, Same.refl _, fun _ _ h => h, fun b o q n => ?_, kin⟩
  · rw [r.len]
    unfold putE
    rw [h1]
    simp
  · rw [hk b (fun z => by rw [z, gp] at q; cases q)]
    exact r.sub b o q
  · rw [putE_get] at h
    split at h
    · rename_i z
      subst z
      rw [h1] at h
      have h : some (s.put d') = some (Sl.val e) := h
      cases s <;> first | (cases h; done) | cases h2
    · exact r.val j e h
  · rw [putE_get] at q1
    split at q1
    · rename_i z
      subst z
      rw [h1] at q1
      have q1 : some (s.put d') = some t := q1
      cases q1
      rw [put_mu h2] at q2
      cases q2
      exact ⟨p, h3, gp, hm⟩
    · rename_i z
      obtain ⟨p', w1, w2, w3⟩ := r.mu j t e q1 q2
      refine ⟨p', w1, w2, w3.mono (hk p' fun y => ?_) (Same.refl _)⟩
      subst y
      exact z (r.sep i j s t d e p' h1 h2 q1 q2 h3 w1)
  · have back : ∀ {i' : Nat} {t : Sl} {d : D}, (putE i d' env)[i']? = some t → t.mu = some d → ∃ t' d', env[i']? = some t' ∧ t'.mu = some d' := fun {i' t d} q1 q2 => by
      have k := kin i'
      rw [q1] at k
      exact k.back q2
    obtain ⟨t', d1, y1, y2⟩ := back x1 x2
    obtain ⟨u', d2, y3, y4⟩ := back x3 x4
    exact r.sep j k t' u' d1 d2 q y1 y2 y3 y4 x5 x6
  · exact (hk b fun z => n ⟨i, s, d, h1, h2, z ▸ h3⟩).trans q
section
variable {K : PySem.W.Frag} {mg : Str → Option Value} {W : WX}
theorem mt_read {g : D → List D → Option (D × D)} {r : V → List V → Hp → VK → Prop} (hs : MtS K g r) {σ : L2.St} {H G H1 G1 : Hp} {env env1 : List Sl} {i : Nat} {vls : List Vl} {vs : List V} {p : Addr} {Q : VK} (re : ER K H G σ env) (s1 : Stp K σ H G env H1 G1 env1) (v1 : VlsAt K H H1 G1 σ env1 vls vs)
    (hp : σ[i]? = some (some (.ref p))) (h : PostR K mg W σ H G env Q (mtR g i vls env1)) : r (.ref p) vs H1 Q := by
  unfold mtR at h
  cases e1 : Vls.toIm vls with
  | none => rw [e1] at h; exact h.elim
  | some ds =>
    cases e2 : (env1[i]?).bind Sl.mu with
    | none => rw [e1, e2] at h; exact h.elim
    | some d =>
      rw [e1, e2] at h
      simp only at h
      cases e3 : g d ds with
      | none => rw [e3] at h; exact h.elim
      | some dr =>
        obtain ⟨d', r'⟩ := dr
        rw [e3] at h
        simp only at h
        obtain ⟨G2, s2, g2, k2, hr⟩ := VlsW.imm re v1.w s1 e1
        cases e4 : env1[i]? with
        | none => rw [e4] at e2; cases e2
        | some s =>
          rw [e4] at e2
          have e2 : s.mu = some d := e2
          obtain ⟨p', w1, w2, w3⟩ := s2.er.mu i s d e4 e2
          rw [hp] at w1
          cases w1
          refine hs H1 G2 p d ds vs d' r' Q s2.er.sub w2 w3 hr e3 fun v H' hk hm hv => ?_
          exact h v H' G2 (s2.trans (s2.er.put e4 e2 hp hk hm) re) hv
theorem lst_ty {σ : L2.St} {H G : Hp} {env : List Sl} {i : Nat} {d : D} (re : ER K H G σ env) (h : isLstE env i = true) : ∃ p, σ[i]? = some (some (.ref p)) ∧ tyV K "list" (.ref p) H := by
  unfold isLstE at h
  cases e : env[i]? with
  | none => rw [e] at h; cases h
  | some s =>
    rw [e] at h
    cases e2 : s.mu with
    | none => have h : (match s.mu with | some (.lst _) => true | _ => false) = true := h; rw [e2] at h; cases h
    | some d =>
      have h : (match s.mu with | some (.lst _) => true | _ => false) = true := h
      rw [e2] at h
      obtain ⟨p, w1, w2, w3⟩ := re.mu i s d e e2
      cases d with
      | lst ds =>
        obtain ⟨xs, q1, _⟩ := w3
        exact ⟨p, w1, .inl ⟨rfl, xs, SqL.of q1⟩⟩
      | _ => cases h
end
section
variable {X : Cx} {W : WX} {i : Nat} {x name : Str} {p apos cpos : Pos} {e : Expr} {es : List Expr} {Fs : FxL} {id : String} {g : D → List D → Option (D × D)} {r : V → List V → Hp → VK → Prop}
theorem ex_mt (hm : MtR X id r) (hs : MtS X.K g r) (slot : Slot "list" name id) (hty : typeOf (.builtin id) = pure (.type "method_descriptor")) (ho : PE X (.Name x p) (tVar i)) (ha : AX X W (e :: es) Fs)
    (hx : ∀ (he : PE X (.Name x p) (tVar i)) (ha : PA X (e :: es) (tDA X.K X.mg W Fs)), PE X (.Call (.Attribute (.Name x p) name apos) (e :: es) [] cpos) (tBM X.K "list" r (tVar i) (tDA X.K X.mg W Fs))) :
    EX X W (.Call (.Attribute (.Name x p) name apos) (e :: es) [] cpos) (mtF g i Fs) := by
  refine PE.weak (hx ho ha) fun σ H Q ⟨G, env, re, h⟩ => ?_
  unfold mtF at h
  split at h
  · rename_i c
    obtain ⟨p, w1, w2⟩ := lst_ty (d := .non) re c
    exact ⟨_, w1, w2, tDA_bind re h fun vls e1 vs H1 G1 s1 v1 p1 => mt_read hs re s1 v1 w1 p1⟩
  · exact h.elim
theorem ex_mt0 (hm : MtR X id r) (hs : MtS X.K g r) (ho : PE X (.Name x p) (tVar i))
    (hx : ∀ (he : PE X (.Name x p) (tVar i)), PE X (.Call (.Attribute (.Name x p) name apos) [] [] cpos) (tBM0 X.K "list" r (tVar i))) :
    EX X W (.Call (.Attribute (.Name x p) name apos) [] [] cpos) (mtF g i nilF) := by
  refine PE.weak (hx ho) fun σ H Q ⟨G, env, re, h⟩ => ?_
  unfold mtF at h
  split at h
  · rename_i c
    obtain ⟨p, w1, w2⟩ := lst_ty (d := .non) re c
    exact ⟨_, w1, w2, mt_read hs re (Stp.refl re) (vls := []) rfl w1 h⟩
  · exact h.elim
end
@[simp] def appM : D → List D → Option (D × D)
  | .lst ds, [x] => if decide (ds.length < 16777216) then some (.lst (ds ++ [x]), .non) else none
  | _, _ => none
@[simp] def popM : D → List D → Option (D × D)
  | .lst ds, [] => match ds.getLast? with
    | some d => some (.lst ds.dropLast, d)
    | none => none
  | _, _ => none
@[simp] def extM : D → List D → Option (D × D)
  | .lst ds, [.lst es] => if szB (ds.length + es.length) then some (.lst (ds ++ es), .non) else none
  | .lst ds, [.tup es] => if szB (ds.length + es.length) then some (.lst (ds ++ es), .non) else none
  | _, _ => none
@[simp] def clrM : D → List D → Option (D × D)
  | .lst _, [] => some (.lst [], .non)
  | _, _ => none
section
variable {X : Cx} {K : PySem.W.Frag}
theorem mts_app : MtS K appM rAppend := by
  intro H G p d ds xs d' r' Q s gp hm hr e k
  unfold appM at e
  split at e
  · rename_i as x
    split at e
    · rename_i c
      cases e
      obtain ⟨ys, h1, h2⟩ := hm
      obtain ⟨y, t, rfl, h3, h4⟩ := hr
      rw [show t = [] from h4]
      refine ⟨p, ys, y, rfl, rfl, h1, ?_, k _ _ (fun b hb => upd_ne hb) ⟨_, upd_same, h2.append (RpL.one h3)⟩ rfl⟩
      rw [h2.length, sizeLine_eq]
      exact of_decide_eq_true c
    · cases e
  · cases e
theorem RpL.dropLast {G : Hp} {ds : List D} {xs : List V} (h : RpL K G ds xs) : RpL K G ds.dropLast xs.dropLast := by
  rw [List.dropLast_eq_take, List.dropLast_eq_take, h.length]
  exact h.take _
theorem mts_pop : MtS K popM rPop := by
  intro H G p d ds xs d' r' Q s gp hm hr e k
  unfold popM at e
  split at e
  · rename_i as
    split at e
    · rename_i x q
      cases e
      obtain ⟨ys, h1, h2⟩ := hm
      rw [List.getLast?_eq_getElem?] at q
      obtain ⟨y, h3, h4⟩ := h2.get q
      rw [show xs = [] from hr]
      exact ⟨p, ys, y, rfl, rfl, h1, by rw [h2.length]; exact h3, k _ _ (fun b hb => upd_ne hb) ⟨_, upd_same, RpL.dropLast h2⟩ h4⟩
    · cases e
  · cases e
theorem mts_ext : MtS K extM (fun x vs H Q => rExtend x vs H Q ∨ rExtendT K x vs H Q) := by
  intro H G p d ds xs d' r' Q s gp hm hr e k
  unfold extM at e
  split at e
  · rename_i as bs
    split at e
    · rename_i c
      cases e
      obtain ⟨ys, h1, h2⟩ := hm
      obtain ⟨y, t, rfl, ⟨b, zs, rfl, h3, h5⟩, h4⟩ := hr
      rw [show t = [] from h4]
      exact .inl ⟨p, b, ys, zs, rfl, rfl, h1, s _ _ h3, by rw [h2.length, h5.length]; exact szB_le c, k _ _ (fun b hb => upd_ne hb) ⟨_, upd_same, h2.append h5⟩ rfl⟩
    · cases e
  · rename_i as bs
    split at e
    · rename_i c
      cases e
      obtain ⟨ys, h1, h2⟩ := hm
      obtain ⟨y, t, rfl, ⟨b, zs, rfl, h3, h5⟩, h4⟩ := hr
      rw [show t = [] from h4]
      exact .inr ⟨p, b, ys, zs, rfl, rfl, h1, Same.sqT s h3, by rw [h2.length, h5.length]; exact szB_le c, k _ _ (fun b hb => upd_ne hb) ⟨_, upd_same, h2.append h5⟩ rfl⟩
    · cases e
  · cases e
theorem mts_clr : MtS K clrM rClear := by
  intro H G p d ds xs d' r' Q s gp hm hr e k
  unfold clrM at e
  split at e
  · cases e
    obtain ⟨ys, h1, h2⟩ := hm
    rw [show xs = [] from hr]
    exact ⟨p, ys, rfl, rfl, h1, k _ _ (fun b hb => upd_ne hb) ⟨_, upd_same, rfl⟩ rfl⟩
  · cases e
variable {W : WX} {x : Str} {p apos cpos : Pos} {e : Expr} {es : List Expr} {Fs : FxL}
theorem ex_append {i : Nat} (ho : PE X (.Name x p) (tVar i)) (ha : AX X W (e :: es) Fs) (hbase : attributeBase (.Name x p) "append" X.env (eval (.Name x p) X.env) = eval (.Name x p) X.env := by rfl)
    (hfew : ((backTo cpos (starEach (e :: es) X.env)).all (fun x => !x.1) && (backToKw cpos (keywordEach [] X.env)).all (fun x => x.1.isSome)
      && decide ((e :: es).length + ([] : List Keyword).length + (if ([] : List Keyword).isEmpty then 0 else 1) < 30)) = true := by rfl)
    (hline : (apos.endLine == cpos.line) = true := by rfl) (hs : starEach (e :: es) X.env = (false, eval e X.env) :: starEach es X.env := by rfl) (hplain : (backTo cpos (starEach es X.env)).any (·.1) = false := by rfl) : EX X W (.Call (.Attribute (.Name x p) "append" apos) (e :: es) [] cpos) (mtF appM i Fs) :=
  ex_mt mt_append mts_app PySem.F.slot_list_append PySem.F.type_list_append ho ha fun ho ha => pe_bm PySem.F.plainAttrs_list PySem.F.slot_list_append PySem.F.type_list_append mt_append ho ha hbase hfew hline hs hplain
theorem ex_extend {i : Nat} (ho : PE X (.Name x p) (tVar i)) (ha : AX X W (e :: es) Fs) (hbase : attributeBase (.Name x p) "extend" X.env (eval (.Name x p) X.env) = eval (.Name x p) X.env := by rfl)
    (hfew : ((backTo cpos (starEach (e :: es) X.env)).all (fun x => !x.1) && (backToKw cpos (keywordEach [] X.env)).all (fun x => x.1.isSome)
      && decide ((e :: es).length + ([] : List Keyword).length + (if ([] : List Keyword).isEmpty then 0 else 1) < 30)) = true := by rfl)
    (hline : (apos.endLine == cpos.line) = true := by rfl) (hs : starEach (e :: es) X.env = (false, eval e X.env) :: starEach es X.env := by rfl) (hplain : (backTo cpos (starEach es X.env)).any (·.1) = false := by rfl) : EX X W (.Call (.Attribute (.Name x p) "extend" apos) (e :: es) [] cpos) (mtF extM i Fs) :=
  ex_mt (L2.MtR.or mt_extend mt_extendT) mts_ext PySem.F.slot_list_extend PySem.F.type_list_extend ho ha fun ho ha => pe_bm PySem.F.plainAttrs_list PySem.F.slot_list_extend PySem.F.type_list_extend (L2.MtR.or mt_extend mt_extendT) ho ha hbase hfew hline hs hplain
theorem ex_pop {i : Nat} (ho : PE X (.Name x p) (tVar i)) (hbase : attributeBase (.Name x p) "pop" X.env (eval (.Name x p) X.env) = eval (.Name x p) X.env := by rfl) (hline : (apos.endLine == cpos.line) = true := by rfl) : EX X W (.Call (.Attribute (.Name x p) "pop" apos) [] [] cpos) (mtF popM i nilF) :=
  ex_mt0 mt_pop mts_pop ho fun ho => pe_bm0 PySem.F.plainAttrs_list PySem.F.slot_list_pop PySem.F.type_list_pop mt_pop ho hbase hline
theorem ex_clear {i : Nat} (ho : PE X (.Name x p) (tVar i)) (hbase : attributeBase (.Name x p) "clear" X.env (eval (.Name x p) X.env) = eval (.Name x p) X.env := by rfl) (hline : (apos.endLine == cpos.line) = true := by rfl) : EX X W (.Call (.Attribute (.Name x p) "clear" apos) [] [] cpos) (mtF clrM i nilF) :=
  ex_mt0 mt_clear mts_clr ho fun ho => pe_bm0 PySem.F.plainAttrs_list PySem.F.slot_list_clear PySem.F.type_list_clear mt_clear ho hbase hline
/-! ### xs[i] = e -/
@[simp] def stoR (k : Nat) (v vi : Vl) (e2 : List Sl) : Out := match v.toIm, vi.rd e2, (e2[k]?).bind Sl.mu with
  | some d, some (.int i), some (.lst ds) => (match ixN ds.length i with
    | some j => .nx (putE k (.lst (ds.set j d)) e2)
    | none => .stk)
  | _, _, _ => .stk
/-- xs in slot k, a list -/
@[simp] def stoS (k : Nat) (Fi F : Fx)  (env : List Sl) : Out := match F env with
  | .ok v e1 => if isLstE e1 k then (match Fi e1 with
    | .ok vi e2 => stoR k v vi e2
    | .err c e => .err c e
    | .stk => .stk) else .stk
  | .err c e => .err c e
  | .stk => .stk
theorem st_sto {k : Nat} {i e' : Expr} {Fi F : Fx} {pos pos2 : Pos} (ho : PE X (.Name x p) (tVar k)) (he : EX X W e' F) (hi : EX X W i Fi)
    (ha : ∀ v, assign (.Subscript (.Name x p) i pos2) X.env v = (do
      let ov ← holding [v] (eval (.Name x p) X.env)
      let iv ← holding [v, ov] (eval i X.env)
      standAt pos2
      holding [v, ov, iv] (setItem ov iv v)
      release [v, ov, iv] []) := by intro _; rfl)
    (hs : swapsWithSole [.Subscript (.Name x p) i pos2] e' pos.line X.env = pure false := by rfl) (hw : swappedStores [.Subscript (.Name x p) i pos2] e' X.env = pure none := by rfl)
    (h1 : (assignEach [.Subscript (.Name x p) i pos2] X.env).map (·.2) = [assign (.Subscript (.Name x p) i pos2) X.env] := by rfl) : ST X W (.Assign [.Subscript (.Name x p) i pos2] e' pos) (stoS k Fi F) := by
  intro H0 G0 pa
  refine PS.weak (ps_asg he (pg_sub ho hi set_list ha) hs hw h1) fun D σ H ⟨G, env, r, h⟩ => ?_
  have h' : PostS X.K X.mg W H0 G0 pa D (match F env with
      | .ok v e => (fun v e1 => if isLstE e1 k then (match Fi e1 with
    | .ok vi e2 => stoR k v vi e2
    | .err c e => .err c e
    | .stk => .stk) else .stk) v e
      | .err c e => .err c e
      | .stk => .stk) := h
  refine SR.bind r h' fun vl env1 v H1 G1 _ s v1 r1 p => ?_
  split at p
  · rename_i c
    obtain ⟨q, w1, w2⟩ := lst_ty (K := X.K) (d := .non) r1.er c
    refine ⟨_, w1, SR.bind (f := fun vi e2 => stoR k vl vi e2) r1 p fun vi env2 u H2 G2 _ s2 v2 r2 p2 => ?_⟩
    unfold stoR at p2
    cases e1 : vl.toIm with
    | none => simp only [e1] at p2; exact p2.elim
    | some d =>
      cases e2 : vi.rd env2 with
      | none => simp only [e1, e2] at p2; exact p2.elim
      | some di =>
        cases di with
        | int ii =>
          cases e3 : (env2[k]?).bind Sl.mu with
          | none => simp only [e1, e2, e3] at p2; exact p2.elim
          | some dk =>
            cases dk with
            | lst ds =>
              simp only [e1, e2, e3] at p2
              cases e4 : ixN ds.length ii with
              | none => simp only [e4] at p2; exact p2.elim
              | some j =>
                simp only [e4] at p2
                have v1' : VlAt X.K H H2 G2 σ env2 vl v := v1.step s2 fun p hp m => (MuIs.new r.er hp) (m.of s.kin)
                have s12 := s.trans s2 r.er
                obtain ⟨G3, s3, g3, k3, hr⟩ := v1'.w.imm s12 r.er e1
                cases e5 : env2[k]? with
                | none => rw [e5] at e3; cases e3
                | some t =>
                  rw [e5] at e3
                  have e3 : t.mu = some (.lst ds) := e3
                  obtain ⟨q', y1, y2, xs, y3, y4⟩ := s3.er.mu k t _ e5 e3
                  rw [w1] at y1
                  cases y1
                  refine ⟨q, xs, ii, j, rfl, (v2.read r2.er e2).int, y3, by rw [y4.length]; exact e4, ?_⟩
                  have st := s3.er.put (H' := upd H2 q (.lst (xs.set j v))) e5 e3 w1 (fun b hb => upd_ne hb) (d' := .lst (ds.set j d)) ⟨_, upd_same, y4.set j hr⟩
                  exact p2 σ _ G3 ((r.step s3).step st)
            | _ => simp only [e1, e2, e3] at p2; exact p2.elim
        | _ => simp only [e1, e2] at p2; exact p2.elim
  · exact p.elim
end
end HF

set_option Elab.async false
set_option linter.all false
set_option maxRecDepth 100000
set_option maxHeartbeats 4000000
set_option autoImplicit false
namespace HF
open PySem PySem.Spec PyProof.Rows L2
/-! ### what a law's text brings -/
def bltL : List Str := ["len", "isinstance", "abs", "int", "str", "tuple", "list", "all", "any", "sum", "range", "zip", "reversed", "bool", "set", "dict"]
def Blt (mg : Str → Option Value) : Prop := ∀ x, x ∈ bltL → mg x = none
theorem hu65 {k : Nat} {A : Around} (hr : Room k A) : A.units + 65 < cLine := by have := hr.un; omega
/-- a constant of the module -/
def GConst (K : PySem.W.Frag) (mg : Str → Option Value) (x : Str) (d : D) : Prop := ∃ v u, mg x = some u ∧ RelV v u ∧ ∀ G, Rp K G d v
theorem ex_gc {X : Cx} {W : WX} {x : Str} {d : D} {pos : Pos} (g : GConst X.K X.mg x d) (hg : Gl X x := by rfl) (hd : (x == ("__debug__" : Str)) = false := by decide) : EX X W (.Name x pos) (cF d) := by
  obtain ⟨v, u, h1, h2, h3⟩ := g
  exact ex_glob h1 h2 h3 hg hd
/-- an error class of the module -/
def GExc (K : PySem.W.Frag) (mg : Str → Option Value) (x : Str) : Prop := ∃ (C : Addr) (bmB : List Value) (B newId initId : String), ∃ (F : ExcBaseFacts B newId initId bmB), PySem.W.excIn K C bmB newId = true ∧ mg x = some (.ref C) ∧ PySem.W.keepIn K (.ref C) = true ∧
  PySem.W.subIn K (.ref C) (.type "BaseException") = some true ∧ PySem.W.typeIn K (.ref C) = some (.type "type")
@[simp] def negG : D → Gr
  | .int i => .im (.int (-i))
  | _ => .stk
@[simp] def negF (Fa : Fx)  (env : List Sl) : Rs := bindR (Fa env) fun va e => match va.rd e with
  | some d => (negG d).rs e
  | none => .stk
section
variable {X : Cx} {W : WX} {a b c : Expr} {Fa Fb Fc : Fx} {pos : Pos}
theorem ex_neg (ha : EX X W a Fa) : EX X W (.UnaryOp .USub a pos) (negF Fa) := by
  refine PE.weak (pe_un un_neg ha) fun σ H Q ⟨G, env, r, h⟩ => ?_
  refine tD_bind r h fun va e1 x H1 G1 s1 v1 p1 => ?_
  have p1 := PostR.shift s1 r p1
  cases ea : va.rd e1 with
  | none => simp only [ea] at p1; exact p1.elim
  | some d =>
    simp only [ea] at p1
    have rd := v1.read s1.er ea
    cases d with
    | int i => exact ⟨i, rd.int, (GrPost.of s1.er p1).same s1.er.sub rfl⟩
    | _ => exact p1.elim
@[simp] def chainR (g g' : D → D → Gr) (Fc : Fx) (va vb : Vl) (e2 : List Sl) : Rs := match va.rd e2, vb.rd e2 with
  | some a, some b => (match g a b with
    | .im (.bl true) => bindR (Fc e2) fun vc e3 => opR g' vb vc e3
    | .im (.bl false) => .ok (.im (.bl false)) e2
    | _ => .stk)
  | _, _ => .stk
@[simp] def chainF (g g' : D → D → Gr) (Fa Fb Fc : Fx)  (env : List Sl) : Rs := bindR (Fa env) fun va e1 => bindR (Fb e1) fun vb e2 => chainR g g' Fc va vb e2
theorem chain_of {K : PySem.W.Frag} {mg : Str → Option Value} {g g' : D → D → Gr} {r r' : R2} (hs : OpSound K g r) (hs' : OpSound K g' r') : ∀ σ H Q, tD K mg W (chainF g g' Fa Fb Fc) σ H Q → tChain r r' (tD K mg W Fa) (tD K mg W Fb) (tD K mg W Fc) σ H Q := by
  intro σ H Q ⟨G, env, re, h⟩
  refine tD_bind re h fun va e1 x H1 G1 s1 v1 p1 => ?_
  refine tD_bind s1.er (PostR.shift s1 re p1) fun vb e2 y H2 G2 s2 v2 p2 => ?_
  have p3 := PostR.shift s2 s1.er p2
  have v1' := v1.step s2 fun p hp m => (MuIs.new re hp) (m.of s1.kin)
  have p3 : PostR K mg W σ H2 G2 e2 Q (chainR g g' Fc va vb e2) := p3
  unfold chainR at p3
  cases ea : va.rd e2 with
  | none => rw [ea] at p3; exact p3.elim
  | some da =>
    cases eb : vb.rd e2 with
    | none => rw [ea, eb] at p3; exact p3.elim
    | some db =>
      rw [ea, eb] at p3
      simp only at p3
      refine hs H2 G2 x y da db _ s2.er.sub (v1'.read s2.er ea) (v2.read s2.er eb) ?_
      cases eg : g da db with
      | stk => rw [eg] at p3; exact p3.elim
      | fr d => rw [eg] at p3; exact p3.elim
      | im d =>
        rw [eg] at p3
        cases d with
        | bl k =>
          intro v H3 G3 gs hv
          have s3 : Stp K σ H2 G2 e2 H3 G3 e2 := Stp.gs s2.er gs
          refine ⟨k, hv, ?_⟩
          cases k with
          | false => exact L2.iteF (p3 _ H3 G3 s3 rfl)
          | true =>
            refine L2.iteT ?_
            refine tD_bind s3.er (PostR.shift s3 s2.er p3) fun vc e4 z H4 G4 s4 v4 p4 => ?_
            have p5 := PostR.shift s4 s3.er p4
            have v2' : VlAt K H1 H4 G4 σ e4 vb y := (v2.step s3 fun p hp m => (MuIs.new s1.er hp) (m.of s2.kin)).step s4 fun p hp m => (MuIs.new s1.er hp) (m.of s2.kin)
            have p5 : PostR K mg W σ H4 G4 e4 Q (opR g' vb vc e4) := p5
            unfold opR at p5
            cases ec : vb.rd e4 with
            | none => rw [ec] at p5; exact p5.elim
            | some dc =>
              cases ed : vc.rd e4 with
              | none => rw [ec, ed] at p5; exact p5.elim
              | some dd =>
                rw [ec, ed] at p5
                exact hs' H4 G4 y z dc dd Q s4.er.sub (v2'.read s4.er ec) (v4.read s4.er ed) (GrPost.of s4.er p5)
        | _ => exact p3.elim
theorem ex_chain {op op' : CmpOp} {g g' : D → D → Gr} {r r' : R2} (ho : OpR X (compareOp op) r) (hs : OpSound X.K g r) (ho' : OpR X (compareOp op') r') (hs' : OpSound X.K g' r') (ha : EX X W a Fa) (hb : EX X W b Fb) (hc : EX X W c Fc)
    (hm : lastMarks [op, op'] [b, c] = false := by with_unfolding_all rfl) : EX X W (.Compare a [op, op'] [b, c] pos) (chainF g g' Fa Fb Fc) :=
  PE.weak (pe_chain ho ho' ha hb hc hm) (chain_of hs hs')
theorem tx_chain {op op' : CmpOp} {g g' : D → D → Gr} {r r' : R2} (ho : OpR X (compareOp op) r) (hs : OpSound X.K g r) (ho' : OpR X (compareOp op') r') (hs' : OpSound X.K g' r') (ha : EX X W a Fa) (hb : EX X W b Fb) (hc : EX X W c Fc)
    (hm : lastMarks [op, op'] [b, c] = false := by with_unfolding_all rfl) : TX X W (.Compare a [op, op'] [b, c] pos) (chainF g g' Fa Fb Fc) :=
  PT.weak (pt_chain ho ho' ha hb hc hm) fun σ H Q h => chain_of hs hs' σ H _ (tT_tD h)
end
/-! ### calls without arguments -/
@[simp] def callF0 (Φ : List Ar → FR)  (env : List Sl) : Rs := callR [] Φ [] env
section
variable {X : Cx} {W : WX} {x : Str} {k k' : Nat} {Φ : List Ar → FR} {p pos : Pos}
theorem ex_call0 (c : Cal X.prog X.w X.K X.mg X.base k x 0 Φ) (hr : Room k' X.A) (hk : k ≤ k') (tk : L2N.Takes X W) (hg : Gl X x := by rfl) (hdb : (x == ("__debug__" : Str)) = false := by decide) :
    EX X W (.Call (.Name x p) [] [] pos) (callF0 Φ) := by
  obtain ⟨f, fd, ps, F, gm, gk, gb⟩ := c
  have pe : PE X (.Call (.Name x p) [] [] pos) (fun σ H Q => spD X.K X.mg 0 Φ [] H Q (WE W σ)) := by
    refine ⟨fun pins s σ H Q I h => ?_⟩
    refine wpAny_Call_Name_kw (ld_glob I hg gm ?_ hdb)
    exact PySem.W.callWith_K0 I.kIn gk (run_fnS (us := []) (E := fun σ => WE W σ) F (hr.mono hk) gb (L2N.passAt tk σ) I .nil h)
  refine PE.weak pe fun σ H Q ⟨G, env, r, h⟩ => ?_
  exact call_of (vls := []) (sg := []) r (Stp.refl r) rfl h rfl
end
/-! ### the law itself -/
def spLaw (K : PySem.W.Frag) : Sp := fun vs H Q _ => ∃ (a : Addr) (ns : List Int), vs = [.ref a] ∧ SqL K H a (ns.map V.int) ∧ ns.length ≤ 63 ∧ ∀ H', Q (.bl true) H'
theorem law_fn {P : Program} {w : World} {K : PySem.W.Frag} {mg : Str → Option Value} {base : Heap} {k : Nat} {Φ : List Ar → FR} {f : Addr} {fd : FuncData} {ps : List Str} (F : FnOk P w K mg base (L2N.CX P w) k f fd ps (spD K mg 1 Φ)) (hl : ∀ ns : List Int, ns.length ≤ 63 → Φ [.val (.scr ns)] = .im (.bl true) [.val (.scr ns)]) :
    FnOk P w K mg base (L2N.CX P w) k f fd ps (spLaw K) := by
  refine F.imp fun vs H Q E ⟨a, ns, e, hS, h63, q⟩ => ?_
  subst e
  refine ⟨H, [.val (.scr ns)], rfl, ⟨Same.refl _, ⟨.ref a, [], rfl, ⟨a, rfl, hS⟩, rfl⟩, fun i j d e p h1 => ?_⟩, ?_⟩
  · cases i with
    | zero => cases h1
    | succ i => simp at h1
  · rw [hl ns h63]
    intro v H' G' c hv
    rw [show v = .bl true from hv]
    exact q H'
theorem Cal.law {P : Program} {w : World} {K : PySem.W.Frag} {mg : Str → Option Value} {base : Heap} {k : Nat} {Φ : List Ar → FR} {f : Addr} {x : Str} (c : Cal P w K mg base k x 1 Φ) (hm : mg x = some (.ref f)) (hl : ∀ ns : List Int, ns.length ≤ 63 → Φ [.val (.scr ns)] = .im (.bl true) [.val (.scr ns)]) :
    ∃ fd ps, FnOk P w K mg base (L2N.CX P w) k f fd ps (spLaw K) := by
  obtain ⟨f', fd, ps, F, h1, _⟩ := c
  rw [hm] at h1
  cases h1
  exact ⟨fd, ps, law_fn F hl⟩
/-- a def's facts -/
theorem cal_of {P : Program} {w : World} {K : PySem.W.Frag} {mg : Str → Option Value} {base : Heap} {k : Nat} {f : Addr} {fd : FuncData} {ps : List Str} {n : Nat} {Φ : List Ar → FR} {x : Str} (F : FnOk P w K mg base (L2N.CX P w) k f fd ps (spD K mg n Φ)) (hm : mg x = some (.ref f)) (hk : PySem.W.keepIn K (.ref f) = true) (hb : Binds K fd ps []) : Cal P w K mg base k x n Φ := ⟨f, fd, ps, F, hm, hk, hb⟩
end HF

set_option Elab.async false
set_option linter.all false
set_option maxRecDepth 100000
set_option maxHeartbeats 4000000
set_option autoImplicit false
namespace HF
open PySem PySem.Spec PyProof.Rows L2
/-! ### plain facts -/
theorem Cal.never {P : Program} {w : World} {K : PySem.W.Frag} {mg : Str → Option Value} {base : Heap} {k n : Nat} {x : Str} {f : Addr} {fd : FuncData} {ps : List Str} (hm : mg x = some (.ref f)) (hk : PySem.W.keepIn K (.ref f) = true) (hb : Binds K fd ps []) : Cal P w K mg base k x n (fun _ => .stk) :=
  ⟨f, fd, ps, ⟨fun vs H Q E ⟨_, _, _, _, h⟩ => h.elim, fun A outer s H args us vs Q E hr he hbt hv ⟨_, _, _, _, h⟩ => h.elim⟩, hm, hk, hb⟩
def iterF (F : (List Ar → FR) → List Ar → FR) : Nat → List Ar → FR
  | 0 => fun _ => .stk
  | n + 1 => F (iterF F n)
theorem Cal.iter {P : Program} {w : World} {K : PySem.W.Frag} {mg : Str → Option Value} {base : Heap} {k0 n : Nat} {x : Str} {F : (List Ar → FR) → List Ar → FR} (h0 : Cal P w K mg base k0 x n (fun _ => .stk)) (st : ∀ k Φ, k0 ≤ k → Cal P w K mg base k x n Φ → Cal P w K mg base (k + 1) x n (F Φ)) : ∀ N, Cal P w K mg base (k0 + N) x n (iterF F N)
  | 0 => h0
  | N + 1 => st _ _ (Nat.le_add_right _ _) (Cal.iter h0 st N)
mutual
def D.wt : D → Nat
  | .tup xs => 1 + D.wtL xs
  | _ => 1
def D.wtL : List D → Nat
  | [] => 0
  | d :: ds => D.wt d + D.wtL ds
end
@[simp] theorem D.wtL_nil : D.wtL [] = 0 := by rw [D.wtL]
@[simp] theorem D.wtL_cons (d : D) (ds : List D) : D.wtL (d :: ds) = d.wt + D.wtL ds := by rw [D.wtL]
@[simp] theorem D.wt_tup (xs : List D) : (D.tup xs).wt = 1 + D.wtL xs := by rw [D.wt]
@[simp] theorem D.wtL_append (a b : List D) : D.wtL (a ++ b) = D.wtL a + D.wtL b := by
  induction a with
  | nil => simp
  | cons x a ih => simp [ih]; omega
theorem D.wt_pos (d : D) : 1 ≤ d.wt := by
  cases d <;> simp [D.wt]
theorem D.length_le_wtL (ds : List D) : ds.length ≤ D.wtL ds := by
  induction ds with
  | nil => simp
  | cons d ds ih => have := d.wt_pos; simp; omega
/-- data that == can look at -/
abbrev D.pl (d : D) : Prop := d.py.canLay0 = true
abbrev D.plL (ds : List D) : Prop := PyData.canLayAll0 (D.pyL ds) = true
abbrev D.dp (d : D) : Nat := d.py.depth
abbrev D.dpL (ds : List D) : Nat := PyData.depthAll (D.pyL ds)
@[simp] theorem D.py_non : D.py .non = .none := by rw [D.py]
@[simp] theorem D.py_bl (b : Bool) : D.py (.bl b) = .bool b := by rw [D.py]
@[simp] theorem D.py_int (i : Int) : D.py (.int i) = .int i := by rw [D.py]
@[simp] theorem D.py_str (s : Str) : D.py (.str s) = .str s := by rw [D.py]
@[simp] theorem D.py_tup (xs : List D) : D.py (.tup xs) = .tuple (D.pyL xs) := by rw [D.py]
@[simp] theorem D.py_lst (xs : List D) : D.py (.lst xs) = .list (D.pyL xs) := by rw [D.py]
@[simp] theorem D.pyL_nil : D.pyL [] = [] := by rw [D.pyL]
@[simp] theorem D.pyL_cons (d : D) (ds : List D) : D.pyL (d :: ds) = d.py :: D.pyL ds := by rw [D.pyL]
@[simp] theorem D.pyL_append (a b : List D) : D.pyL (a ++ b) = D.pyL a ++ D.pyL b := by simp [D.pyL_map]
@[simp] theorem canLay0_tup (xs : List PyData) : (PyData.tuple xs).canLay0 = PyData.canLayAll0 xs := by rw [PyData.canLay0]
@[simp] theorem canLay0_lst (xs : List PyData) : (PyData.list xs).canLay0 = PyData.canLayAll0 xs := by rw [PyData.canLay0]
@[simp] theorem canLay0_int (i : Int) : (PyData.int i).canLay0 = true := by rw [PyData.canLay0]
@[simp] theorem canLay0_bool (i : Bool) : (PyData.bool i).canLay0 = true := by rw [PyData.canLay0]
@[simp] theorem canLay0_none : (PyData.none).canLay0 = true := by rw [PyData.canLay0]
@[simp] theorem canLay0_str (x : Str) : (PyData.str x).canLay0 = PyData.strOk x := by rw [PyData.canLay0]
@[simp] theorem canLayAll0_nil : PyData.canLayAll0 [] = true := by rw [PyData.canLayAll0]
@[simp] theorem canLayAll0_cons (d : PyData) (ds : List PyData) : PyData.canLayAll0 (d :: ds) = (d.canLay0 && PyData.canLayAll0 ds) := by rw [PyData.canLayAll0]
@[simp] theorem canLayAll0_append (a b : List PyData) : PyData.canLayAll0 (a ++ b) = (PyData.canLayAll0 a && PyData.canLayAll0 b) := by
  induction a with
  | nil => simp
  | cons x a ih => simp [ih, Bool.and_assoc]
@[simp] theorem depth_tup (xs : List PyData) : (PyData.tuple xs).depth = PyData.depthAll xs + 1 := by rw [PyData.depth]
@[simp] theorem depth_lst (xs : List PyData) : (PyData.list xs).depth = PyData.depthAll xs + 1 := by rw [PyData.depth]
@[simp] theorem depthAll_nil : PyData.depthAll [] = 0 := by rw [PyData.depthAll]
@[simp] theorem depthAll_cons (d : PyData) (ds : List PyData) : PyData.depthAll (d :: ds) = max d.depth (PyData.depthAll ds) := by rw [PyData.depthAll]
@[simp] theorem depthAll_append (a b : List PyData) : PyData.depthAll (a ++ b) = max (PyData.depthAll a) (PyData.depthAll b) := by
  induction a with
  | nil => simp
  | cons x a ih => simp [ih, Nat.max_assoc]
theorem D.plL_mem {ds : List D} {d : D} (h : D.plL ds) (m : d ∈ ds) : d.pl := by
  induction ds with
  | nil => cases m
  | cons x ds ih =>
    simp only [D.plL, D.pyL_cons, canLayAll0_cons, Bool.and_eq_true] at h
    cases m with
    | head => exact h.1
    | tail _ m => exact ih h.2 m
theorem D.plL_of {ds : List D} (h : ∀ d ∈ ds, d.pl) : D.plL ds := by
  induction ds with
  | nil => simp [D.plL]
  | cons x ds ih => simp [D.plL]; exact ⟨h x (by simp), ih fun d m => h d (by simp [m])⟩
theorem D.dpL_le {ds : List D} {n : Nat} : D.dpL ds ≤ n ↔ ∀ d ∈ ds, d.dp ≤ n := by
  induction ds with
  | nil => simp [D.dpL]
  | cons x ds ih => simp only [D.dpL, D.pyL_cons, depthAll_cons, Nat.max_le, List.mem_cons, forall_eq_or_imp] at ih ⊢; rw [ih]
@[simp] theorem eqv_lst (a b : List PyData) : PyData.eqv (.list a) (.list b) = PyData.eqvAll a b := by rw [PyData.eqv]
@[simp] theorem eqv_tup (a b : List PyData) : PyData.eqv (.tuple a) (.tuple b) = PyData.eqvAll a b := by rw [PyData.eqv]
/-- == with the empty list -/
theorem D.eqB_nil {xs : List D} (h : D.plL xs) : D.eqB (.lst xs) (.lst []) = some (decide (xs = [])) := by
  have h' : PyData.canLayAll0 (D.pyL xs) = true := h
  simp [D.eqB, h']
  cases xs with
  | nil => simp [PyData.eqvAll]
  | cons x xs => simp [PyData.eqvAll]
/-! ### loops -/
theorem forL_nx {TF : TFx} {S : Sx} (I : List D → List Sl → Prop) (all : List D) (h : ∀ dn d rest e, all = dn ++ d :: rest → I dn e → ∃ e1 e2, TF d e = some e1 ∧ S e1 = .nx e2 ∧ I (dn ++ [d]) e2) : ∀ e, I [] e → ∃ e', forL TF S all e = .nx e' ∧ I all e' := by
  have go : ∀ (rest dn : List D) (e : List Sl), all = dn ++ rest → I dn e → ∃ e', forL TF S rest e = .nx e' ∧ I all e' := by
    intro rest
    induction rest with
    | nil => intro dn e ha hi; exact ⟨e, by simp, by rw [ha, List.append_nil]; exact hi⟩
    | cons d rest ih =>
      intro dn e ha hi
      obtain ⟨e1, e2, h1, h2, h3⟩ := h dn d rest e ha hi
      obtain ⟨e', h4, h5⟩ := ih (dn ++ [d]) e2 (by simp [ha]) h3
      exact ⟨e', by simp [h1, h2, h4], h5⟩
  exact fun e hi => go all [] e rfl hi
/-- a comprehension over one name -/
theorem lcL_filter {i : Nat} {T E : Fx} (p : D → Bool) (g : D → D) {e : List Sl} (hi : e[i]? = some .non) : ∀ (ds acc : List D), acc.length + ds.length ≤ 16777216 → (∀ d ∈ ds, T (e.set i (.val d)) = .ok (.im (.bl (p d))) (e.set i (.val d))) → (∀ d ∈ ds, p d = true → E (e.set i (.val d)) = .ok (.im (g d)) (e.set i (.val d))) →
    lcL (Tg.F (.nm i)) T E [i] ds e acc = .ok (.fr (.lst (acc ++ (ds.filter p).map g))) e := by
  have hlt : i < e.length := (List.getElem?_eq_some_iff.mp hi).1
  have hs : e.set i .non = e := by
    apply List.ext_getElem? fun n => ?_
    by_cases z : i = n
    · subst z; rw [List.getElem?_set_self hlt, hi]
    · rw [List.getElem?_set_ne z]
  have hg : e[i] = Sl.non := (List.getElem?_eq_some_iff.mp hi).2
  intro ds
  induction ds with
  | nil => intro acc _ _ _; simp
  | cons d ds ih =>
    intro acc hl ht he
    simp only [List.length_cons] at hl
    have h1 := ht d (by simp)
    have r1 := ih acc (by omega) (fun d m => ht d (by simp [m])) (fun d m => he d (by simp [m]))
    cases hp : p d with
    | true =>
      have h2 := he d (by simp) hp
      have r2 := ih (acc ++ [g d]) (by simp; omega) (fun d m => ht d (by simp [m])) (fun d m => he d (by simp [m]))
      have hd : acc.length < 16777216 := by omega
      simp [setE, hi, h1, h2, hp, hs, hlt, hg, List.filter_cons, hd]
      simpa using r2
    | false =>
      simp [setE, hi, h1, hp, hs, hlt, hg, List.filter_cons]
      simpa using r1
theorem lcL_map {i : Nat} {E : Fx} (g : D → D) {e : List Sl} (hi : e[i]? = some .non) (ds acc : List D) (hl : acc.length + ds.length ≤ 16777216) (he : ∀ d ∈ ds, E (e.set i (.val d)) = .ok (.im (g d)) (e.set i (.val d))) :
    lcL (Tg.F (.nm i)) yesF E [i] ds e acc = .ok (.fr (.lst (acc ++ ds.map g))) e := by
  have := lcL_filter (T := yesF) (fun _ => true) g hi ds acc hl (fun d _ => by simp) (fun d m _ => he d m)
  rwa [List.filter_eq_self.mpr (fun _ _ => rfl)] at this
theorem intsD_map (g : D → Int) (ds : List D) : intsD (ds.map fun d => D.int (g d)) = some (ds.map g) := by
  induction ds with
  | nil => simp
  | cons d ds ih => simp [ih]
end HF

set_option Elab.async false
set_option linter.all false
set_option maxRecDepth 100000
set_option maxHeartbeats 4000000
set_option autoImplicit false
namespace HF
open PySem PySem.Spec PyProof.Rows L2
/-! ### the program's top -/
def Has (K : PySem.W.Frag) (mg : Str → Option Value) (x : Str) (st : Stmt) (ps : List Str) : Prop := ∃ f fd, Fun K x x st f fd ∧ mg x = some (.ref f) ∧ Binds K fd ps []
section
variable {K : PySem.W.Frag} {mg : Str → Option Value} {h : Heap}
theorem Has.mk {x : Str} {st : Stmt} {ps : List Str} {f : Addr} {fd : FuncData} (X : K.In h) (G : h.Ns mainGlobals mg) (a : PySem.W.nsIn K mainGlobals x = some (some (.ref f))) (F : Fun K x x st f fd) (b : Binds K fd ps []) : Has K mg x st ps := ⟨f, fd, F, PySem.W.mg_of X G a, b⟩
theorem GConst.int {x : Str} {i : Int} {t : Tok} (X : K.In h) (G : h.Ns mainGlobals mg) (a : PySem.W.nsIn K mainGlobals x = some (some (.int i t))) : GConst K mg x (.int i) :=
  ⟨.int i, .int i t, PySem.W.mg_of X G a, ⟨t, rfl⟩, fun _ => rfl⟩
theorem Blt.mk (h1 : mg "len" = none) (h2 : mg "isinstance" = none) (h3 : mg "abs" = none) (h4 : mg "int" = none) (h5 : mg "str" = none) (h6 : mg "tuple" = none) (h7 : mg "list" = none) (h8 : mg "all" = none) (h9 : mg "any" = none) (h10 : mg "sum" = none) (h11 : mg "range" = none) (h12 : mg "zip" = none) (h13 : mg "reversed" = none) (h14 : mg "bool" = none) (h15 : mg "set" = none) (h16 : mg "dict" = none) : Blt mg := by
  intro x hx
  simp only [bltL, List.mem_cons, List.not_mem_nil, or_false] at hx
  rcases hx with rfl | rfl | rfl | rfl | rfl | rfl | rfl | rfl | rfl | rfl | rfl | rfl | rfl | rfl | rfl | rfl <;> assumption
theorem Has.never {P : Program} {w : World} {base : Heap} {k n : Nat} {x : Str} {st : Stmt} {ps : List Str} (H : Has K mg x st ps) : Cal P w K mg base k x n (fun _ => .stk) := by
  obtain ⟨f, fd, F, hm, hb⟩ := H
  exact Cal.never hm F.kp hb
end
theorem no_exc {P : Program} {w : World} {H : Hp} {s : Shared} {e : Value} {s' : Shared} (h : L2N.CX P w [] H s (fun _ _ _ => False) e s') : False := by
  obtain ⟨_, _, _, _, _, _, _, _, _, _, _, _, z⟩ := h
  exact z
theorem spLaw_go {K : PySem.W.Frag} {H : Hp} {a : Addr} {ns : List Int} (hl : ns.length ≤ 63) (hS : SqL K H a (ns.map V.int)) : spLaw K [.ref a] H (fun v _ => v = .bl true) fun _ _ _ => False := ⟨a, ns, rfl, hS, hl, fun _ => rfl⟩
end HF

set_option Elab.async false
set_option linter.all false
set_option maxRecDepth 100000
set_option maxHeartbeats 4000000
set_option autoImplicit false
namespace HF
open PySem PySem.Spec PyProof.Rows L2
/-! ### errors: caught, asked for their class -/
theorem takes0N {X : Cx} : L2N.Takes X (fun _ _ _ _ => False) := fun u s' h => by
  obtain ⟨_, _, _, _, _, _, _, _, _, _, _, _, _, _, _, _, no⟩ := h
  cases no
/-- the object p is an error of the class C, which the module names c -/
structure ExcAt (K : PySem.W.Frag) (mg : Str → Option Value) (p : Addr × Obj) (c : Str) (C : Addr) : Prop where
  nm : mg c = some (.ref C)
  cl : p.2.cls = .ref C
  di : p.2.dict = none
  fl : ∃ vs : Array Value, p.2.data = .fields vs ∧ vs[2]? = some .none
/-- what isinstance finds of errors of the classes L, asked for x -/
structure GAsk (K : PySem.W.Frag) (mg : Str → Option Value) (L : List Str) (x : Str) (f : Str → Bool) : Prop where
  at_ : ∃ (v : V) (u : Value), ((mg x = some u) ∨ (mg x = none ∧ bootBuiltins x = some u ∧ x ≠ "__name__")) ∧ RelV v u ∧ (∀ u', RelV v u' → u' = u) ∧ ∀ c, c ∈ L → ∀ C, mg c = some (.ref C) → PySem.W.kitOne K (.ref C) u = some (f c)
/-- the classes L can be asked -/
def GCls (K : PySem.W.Frag) (mg : Str → Option Value) (L : List Str) : Prop := ∀ c, c ∈ L → ∀ C, mg c = some (.ref C) → ExcC K C
@[simp] def isEF (i : Nat) (a : Addr) (b : Bool) (env : List Sl) : Rs := match env[i]? with
  | some (.val (.ob a')) => if decide (a' = a) then .ok (.im (.bl b)) env else .stk
  | _ => .stk
section
variable {X : Cx} {W : WX}
theorem call_isX {p : Addr × Obj} {D : Addr} (hp : p ∈ X.pn) (C : ExcC X.K D) (h1 : p.2.cls = .ref D) (h2 : p.2.dict = none) (h3 : ∃ vs, p.2.data = .fields vs) : CallR X (.builtin "isinstance") (rIsE X.K D p.1) := by
  rintro pins s σ H xs us Q I r ⟨c, cv, b, rfl, hcv, e, q⟩
  obtain ⟨u1, u2, rfl, e1, e2⟩ : ∃ u1 u2, us = [u1, u2] ∧ RelV (.ref p.1) u1 ∧ RelV c u2 := by
    match us, r with
    | [u1, u2], .cons a (.cons b .nil) => exact ⟨u1, u2, rfl, a, b⟩
  have e1 : u1 = .ref p.1 := e1
  subst e1
  rw [hcv _ e2]
  have at_ := (I.pin p (List.mem_append.mpr (.inl hp))).1
  obtain ⟨vs, hv⟩ := h3
  have J : PySem.W.InstAt s.heap p.1 p.2 D none := by
    obtain ⟨pa, ⟨oc, oda, od, osl⟩⟩ := p
    dsimp only at h1 h2 hv
    subst h1 h2 hv
    exact ⟨at_, rfl, rfl, trivial⟩
  have Z := PySem.W.handS_kitx_exc (x := p.1) (ox := p.2) (D := D) C.hg C.hk C.hs C.hd C.ha C.hn C.ht C.hm
  exact PySem.W.kia_one Z I.kIn J e (by intro z; cases z) fun tk => ⟨.bl b, H, I.kept (t' := tk) (fun _ _ z => z), rfl, q⟩
/-- isinstance(e, x), e an error that is pinned here -/
theorem ex_isE {i : Nat} {n x : Str} {q1 q2 q3 pos : Pos} {L : List Str} {f : Str → Bool} {p : Addr × Obj} {c : Str} {D : Addr} (hm : X.mg "isinstance" = none) (hp : p ∈ X.pn) (E : ExcAt X.K X.mg p c D) (hc : c ∈ L) (C : GCls X.K X.mg L) (A : GAsk X.K X.mg L x f)
    (hN : X.N[i]? = some n := by rfl) (hv : Vis X.env.scope n := by first | exact Or.inl rfl | exact Or.inr (Or.inl rfl)) (hd : (n == ("__debug__" : Str)) = false := by decide) (hcd : (n == ("__classdict__" : Str)) = false := by decide) (hg : Gl X "isinstance" := by rfl) (hgx : Gl X x := by rfl) (hdx : (x == ("__debug__" : Str)) = false := by decide)
    (he : starEach [.Name n q1, .Name x q2] X.env = (false, eval (.Name n q1) X.env) :: starEach [.Name x q2] X.env := by rfl) (hpl : (backTo pos (starEach [.Name x q2] X.env)).any (·.1) = false := by rfl) :
    EX X W (.Call (.Name "isinstance" q3) [.Name n q1, .Name x q2] [] pos) (isEF i p.1 (f c)) := by
  obtain ⟨v, u, hu, r1, r2, r3⟩ := A.at_
  have pe2 : PE X (.Name x q2) (tC v) := by
    rcases hu with h | ⟨h1, h2, h3⟩
    · exact pe_glob hgx h r1 hdx
    · exact pe_bltn hgx h1 h2 r1 h3 hdx
  obtain ⟨vs, hvs, _⟩ := E.fl
  refine PE.weak (pe_callB (call_isX hp (C c hc D E.nm) E.cl E.di ⟨vs, hvs⟩) hg hm (by decide +kernel) (pa_cons (pe_var hN hv hd hcd) (pa_cons pe2 pa_nil)) (he := he) (hpl := hpl)) fun σ H Q ⟨G, env, r, h⟩ => ?_
  unfold isEF at h
  split at h
  · rename_i a' e
    split at h
    · rename_i ea
      have ea := of_decide_eq_true ea
      obtain ⟨w, w1, w2⟩ := r.val i _ e
      have w2 : w = .ref a' := w2
      subst w2 ea
      exact ⟨_, w1, v, u, f c, rfl, r2, r3 c hc D E.nm, h _ H G (Stp.refl r) rfl⟩
    · exact h.elim
  · exact h.elim
end
/-! ### a def that is called with a caught error -/
structure FnE (P : Program) (w : World) (K : PySem.W.Frag) (mg : Str → Option Value) (base : Heap) (CX : CXT) (k : Nat) (f : Addr) (fd : FuncData) (ps : List Str) (sp : Addr × Obj → Sp) : Prop where
  len : ∀ p vs H Q E, sp p vs H Q E → vs.length = ps.length
  run : ∀ (p : Addr × Obj) (A : Around) (outer : List Env) (s : Shared) (H : Hp) (args : Args) (us : List Value) (vs : List V) (Q : VK) (E : XK), L2H.RoomH k A → L2H.Hot1 A p → L2H.PinOk outer H s p → Env0 P w K mg base A outer s H →
    BindsTo s fd args (ps.zip us) → Vals vs us → sp p vs H Q E → codeAny (model P w) A (.call (.ref f) args) (CR CX outer P w H s Q E) s
/-- by FnH, object by object -/
theorem FnE.of {P : Program} {w : World} {K : PySem.W.Frag} {mg : Str → Option Value} {base : Heap} {CX : CXT} {k : Nat} {f : Addr} {fd : FuncData} {ps : List Str} {sp : Addr × Obj → Sp} (len : ∀ p vs H Q E, sp p vs H Q E → vs.length = ps.length)
    (h : ∀ (p : Addr × Obj) (A : Around) (outer : List Env) (s : Shared) (H : Hp) (args : Args) (us : List Value) (vs : List V) (Q : VK) (E : XK), L2H.RoomH k A → L2H.Hot1 A p → L2H.PinOk outer H s p → Env0 P w K mg base A outer s H →
    BindsTo s fd args (ps.zip us) → Vals vs us → sp p vs H Q E → codeAny (model P w) A (.call (.ref f) args) (CR CX outer P w H s Q E) s) : FnE P w K mg base CX k f fd ps sp :=
  ⟨len, h⟩
theorem fnE_of {P : Program} {w : World} {K : PySem.W.Frag} {mg : Str → Option Value} {base : Heap} {CX : CXT} {k : Nat} {x qual : Str} {st : Stmt} {f : Addr} {fd : FuncData} {N ps : List Str} {sp : Addr × Obj → Sp} (F : Fun K x qual st f fd) (S : FnScope N ps (defScope st)) (len : ∀ p vs H Q E, sp p vs H Q E → vs.length = ps.length)
    (hbody : ∀ (cdv : Value) (p : Addr × Obj) (A : Around) (outer : List Env) (s : Shared) (H : Hp) (vs : List V) (Q : VK) (E : XK), L2H.Hot1 A p → L2H.RoomH k (A.deeper (envOfC qual (defScope st) s.heap.objs.size f cdv)) → sp p vs H Q E →
      ∃ t, PSs (L2H.cxH CX P w K mg base N qual (defScope st) f cdv A outer s H E p) (defBody st) t ∧ t { nx := fun _ H' => Q .non H', rt := Q } (L2.start N vs) H) : FnE P w K mg base CX (k + 1) f fd ps sp := by
  obtain ⟨oc, od, kV, doc, pm, an, cdv, ct, osl, rfl, lk, hcd⟩ := F.ex
  refine .of len fun p A outer s H args us vs Q E room hot pin env0 bind vals want => ?_
  -- the frame
  have size := len _ _ _ _ _ want
  have stands := env0.mod.kin.keeps fun b o e => (env0.bs b o e).1
  have bare := env0.mod.nolimit.keeps fun b o e => (env0.bs b o e).1
  refine codeAny_call_function room.depth (stands _ _ lk) rfl S.co S.gen rfl (PySem.W.codeRec_of stands hcd) (bind _ _ _ _ ?_)
  refine wpAny_newFunctionEnv_cells S.kind (fun ⟨y, z⟩ m => ?_) fun env isEnv s1 inside => ?_
  · cases S.par y (List.of_mem_zip m).1 with
    | inl loc => exact .inl loc
    | inr own => exact .inr ⟨own, PySem.W.cellsFrom_some _ _ _ (.inl own)⟩
  · subst isEnv
    refine ⟨bare.keeps inside.toInCall.keep, codeAny_func ?_⟩
    obtain ⟨t, walked, got⟩ := hbody cdv p A outer s H vs Q E hot (room.deeper _) want
    have start := L2H.inv_startH (CX := CX) (E := E) S pin env0 size vals inside
    refine wpAny_mono (walked.run [] s1 (L2.start N vs) H _ start got) (fun fl s' done => ?_) fun e s' z => z
    match fl, done with
    | .next, ⟨_, H2, I2, q2⟩ => exact ⟨.non, H2, I2.os, I2.bare, I2.base, I2.hok, rfl, q2⟩
    | .ret _, ⟨v2, _, H2, I2, r2, q2⟩ => exact ⟨v2, H2, I2.os, I2.bare, I2.base, I2.hok, r2, q2⟩
    | .brk, ⟨_, _, _, q2⟩ => exact q2.elim
    | .cont, ⟨_, _, _, q2⟩ => exact q2.elim
def spE (K : PySem.W.Frag) (mg : Str → Option Value) (L : List Str) (Φ : Addr → Str → List Ar → FR) : Addr × Obj → Sp := fun p vs H Q E => ∃ c C, c ∈ L ∧ ExcAt K mg p c C ∧ spD K mg 1 (Φ p.1 c) vs H Q E
def CalE (P : Program) (w : World) (K : PySem.W.Frag) (mg : Str → Option Value) (base : Heap) (k : Nat) (x : Str) (L : List Str) (Φ : Addr → Str → List Ar → FR) : Prop :=
  ∃ f fd ps, FnE P w K mg base (L2N.CX P w) k f fd ps (spE K mg L Φ) ∧ mg x = some (.ref f) ∧ PySem.W.keepIn K (.ref f) = true ∧ Binds K fd ps []
theorem CalE.imp {P : Program} {w : World} {K : PySem.W.Frag} {mg : Str → Option Value} {base : Heap} {k : Nat} {x : Str} {L : List Str} {Φ Ψ : Addr → Str → List Ar → FR} (h : CalE P w K mg base k x L Φ) (e : ∀ a c as, c ∈ L → as.length = 1 → Ψ a c as = .stk ∨ Ψ a c as = Φ a c as) : CalE P w K mg base k x L Ψ := by
  obtain ⟨f, fd, ps, F, r⟩ := h
  have go : ∀ p vs H Q E, spE K mg L Ψ p vs H Q E → spE K mg L Φ p vs H Q E := fun p vs H Q E ⟨c, C, hc, hx, G, as, hl, o, q⟩ => by
    refine ⟨c, C, hc, hx, G, as, hl, o, ?_⟩
    rcases e p.1 c as hc hl with z | z
    · rw [z] at q; exact q.elim
    · rw [← z]; exact q
  exact ⟨f, fd, ps, ⟨fun p vs H Q E q => F.len p vs H Q E (go _ _ _ _ _ q), fun p A outer s H args us vs Q E hr h1 h2 h3 h4 h5 q => F.run p A outer s H args us vs Q E hr h1 h2 h3 h4 h5 (go _ _ _ _ _ q)⟩, r⟩
theorem fnE_cal {P : Program} {w : World} {K : PySem.W.Frag} {mg : Str → Option Value} {base : Heap} {x qual : Str} {st : Stmt} {f : Addr} {fd : FuncData} {N ps : List Str} {k : Nat} {L : List Str} {S : Addr → Str → Sx} (F : Fun K x qual st f fd) (sc : FnScope N ps (defScope st)) (hm : mg x = some (.ref f)) (hb : Binds K fd ps []) (hn : ps.length = 1) (hN : 1 ≤ N.length)
    (hbody : ∀ (cdv : Value) (p : Addr × Obj) (c : Str) (C : Addr) (A : Around) (outer : List Env) (s : Shared) (H : Hp) (E : XK), c ∈ L → ExcAt K mg p c C → L2H.RoomH k (A.deeper (envOfC qual (defScope st) s.heap.objs.size f cdv)) →
      STs (L2H.cxH (L2N.CX P w) P w K mg base N qual (defScope st) f cdv A outer s H E p) (fun cls d _ H => E cls d H) (defBody st) (S p.1 c)) : CalE P w K mg base (k + 1) x L (fun a c => runF N.length (S a c)) := by
  refine ⟨f, fd, ps, fnE_of F sc (fun p vs H Q E ⟨_, _, _, _, G, as, hl, o, _⟩ => by rw [o.ars.length, hl, hn]) (fun cdv p A outer s H vs Q E hot hr ⟨c, C, hc, hx, G, as, hl, o, q⟩ => ?_), hm, F.kp, hb⟩
  exact ⟨_, hbody cdv p c C A outer s H E hc hx hr H G (paOf as vs), run_start hl hN o q⟩
section
variable {X : Cx} {W : WX} {x : Str} {k k' : Nat} {L : List Str} {Φ : Addr → Str → List Ar → FR} {q pos : Pos} {e : Expr} {es : List Expr} {Fs : FxL}
theorem ex_callE {p : Addr × Obj} {n : Str} {C : Addr} (c : CalE X.prog X.w X.K X.mg X.base k x L Φ) (hr : L2H.RoomH k' X.A) (hk : k ≤ k') (hot : L2H.Hot1 X.A p) (hp : p ∈ X.pn) (hx : ExcAt X.K X.mg p n C) (hn : n ∈ L) (tk : L2N.Takes X W) (ha : AX X W (e :: es) Fs) (hg : Gl X x := by rfl) (hdb : (x == ("__debug__" : Str)) = false := by decide) (he : starEach (e :: es) X.env = (false, eval e X.env) :: starEach es X.env := by rfl) (hpl : (backTo pos (starEach es X.env)).any (·.1) = false := by rfl) :
    EX X W (.Call (.Name x q) (e :: es) [] pos) (callF [false] (Φ p.1 n) Fs) := by
  obtain ⟨f, fd, ps, F, gm, gk, gb⟩ := c
  have pe : PE X (.Call (.Name x q) (e :: es) [] pos) (fun σ H Q => tDA X.K X.mg W Fs σ H fun vs H1 => spE X.K X.mg L Φ p vs H1 Q (WE W σ)) := by
    refine ⟨fun pins s σ H Q I h => wpAny_Call_Name_kw (ld_glob I hg gm ?_ hdb)⟩
    refine PySem.W.callWith_K (h₀ := X.base) I.ok.mod.kin gk (thn (ha.run pos pins s σ H _ I h) fun us s1 ⟨vs, H1, I1, r1, want⟩ => ⟨I1.kIn, ?_⟩) he hpl
    have size := F.len _ _ _ _ _ want
    have there := I1.pin p (List.mem_append_left _ hp)
    have pin : L2H.PinOk X.stack H1 s1 p := ⟨there.1, there.2.1, fun z => (List.mem_cons.mp (I1.stkSub p.1 z)).elim there.2.2.1 there.2.2.2.1, there.2.2.2.2⟩
    have bind := gb s1 us I1.kIn (by rw [List.append_nil, ← r1.length]; exact size)
    rw [List.append_nil] at bind
    refine wpAny_call (codeAny_mono (F.run p X.A X.stack s1 H1 ⟨us, []⟩ us vs Q _ (hr.mono hk) hot pin I1.env0 bind r1 want) fun out s' done => ?_)
    match out, done with
    | .error z, d => exact L2N.passAt tk σ pins H1 s1 z s' I1 d
    | .ok (.ret z), d => exact I1.after d
    | .ok .next, d => exact d.elim
    | .ok .brk, d => exact d.elim
    | .ok .cont, d => exact d.elim
  refine PE.weak pe fun σ H Q ⟨G, env, r, h⟩ => ?_
  exact tDA_bind r h fun vls e1 vs H1 G1 s1 v1 p1 => ⟨n, C, hn, hx, callX_of r s1 v1 p1 rfl⟩
end
/-! ### try, except x as n: a suite that tells an answer -/
@[simp] def finR (i : Nat) : Out → Out
  | .rt vl e => if isIo e[i]? then .stk else .rt vl (e.set i .non)
  | _ => .stk
@[simp] def suiteR (i : Nat) (T : Addr → Str → Sx) (c : Str) (e : List Sl) : Out := if isIo e[i]? then .stk else finR i (T 0 c (e.set i (.val (.ob 0))))
@[simp] def tryF (L : List Str) (i : Nat) (S : Sx) (T : Addr → Str → Sx) (env : List Sl) : Out := match S env with
  | .err c (some e) => if decide (c ∈ L) then suiteR i T c e else .stk
  | .err _ none => .stk
  | o => o
theorem SR.drop {K : PySem.W.Frag} {H0 G0 H G : Hp} {pa : Nat → Option Addr} {σ : L2.St} {env : List Sl} (r : SR K H0 G0 pa H G σ env) {i : Nat} (hi : isIo env[i]? = false) : SR K H0 G0 pa H G σ (env.set i .non) := by
  obtain ⟨s0, hs0⟩ : ∃ s0, env[i]? = some s0 := by
    cases e : env[i]? with
    | none => rw [e] at hi; cases hi
    | some s => exact ⟨s, rfl⟩
  have len := (List.getElem?_eq_some_iff.mp hs0).1
  have other : ∀ (j : Nat) (s : Sl), (env.set i .non)[j]? = some s → s ≠ .non → env[j]? = some s := fun j s h n => by
    by_cases z : i = j
    · subst z; rw [List.getElem?_set_self len] at h; cases h; exact (n rfl).elim
    · rwa [List.getElem?_set_ne z] at h
  have nm : ∀ {s : Sl} {d : D}, s.mu = some d → s ≠ .non := fun h z => by rw [z] at h; cases h
  exact {
    er := ⟨by rw [List.length_set]; exact r.er.len, r.er.sub, fun j d h => r.er.val j d (other j _ h (fun z => nomatch z)), fun j s d h m => r.er.mu j s d (other j s h (nm m)) m,
      fun j k s t d e p h1 m1 h2 m2 => r.er.sep j k s t d e p (other j s h1 (nm m1)) m1 (other k t h2 (nm m2)) m2⟩
    gr := r.gr
    old := r.old
    keep := r.keep
    own := fun j d p h => r.own j d p (other j _ h (fun z => nomatch z))
    io := fun j p h => by
      obtain ⟨a, d', b⟩ := r.io j p h
      have z : i ≠ j := fun z => by subst z; rw [b] at hi; cases hi
      exact ⟨a, d', by rw [List.getElem?_set_ne z]; exact b⟩
    iof := fun j d h => r.iof j d (other j _ h (fun z => nomatch z)) }
/-- the module's class x catches the errors L -/
def GTry (K : PySem.W.Frag) (mg : Str → Option Value) (L : List Str) (x : Str) : Prop := ∃ B, mg x = some (.ref B) ∧ ∀ c, c ∈ L → ∀ C, mg c = some (.ref C) → PySem.W.exmOne K (.ref C) (.ref B) = some true
section
variable {X : Cx} {W : WX}
theorem st_tryAs {x n : Str} {i : Nat} {body suite : List Stmt} {b0 : Stmt} {S : Sx} {T : Addr → Str → Sx} {L : List Str} {np pos pos' : Pos} (g : GTry X.K X.mg L x) (tk : L2N.Takes X W)
    (hb : ∀ (W' : WX) (pn : List (Addr × Obj)) (xe : Value → Shared → Prop), L2N.Takes (X.tr pn xe) W' → PassesOwn (model X.prog X.w) X.A X.env xe → STs (X.tr pn xe) W' body S)
    (hsu : ∀ (p : Addr × Obj) (c : Str) (C : Addr) (pn : List (Addr × Obj)), c ∈ L → ExcAt X.K X.mg p c C → STs (X.suite p.1 (p :: pn)) (fun _ _ _ _ => False) (b0 :: suite) (T p.1 c))
    (hT : ∀ (a : Addr) (c : Str) (e : List Sl), finR i (T a c (e.set i (.val (.ob a)))) = finR i (T 0 c (e.set i (.val (.ob 0)))))
    (hN : X.N.Nodup) (hi : X.N[i]? = some n := by rfl) (hln : X.env.kindOf n = some .local := by rfl) (hgx : Gl X x := by rfl) (hdx : (x == ("__debug__" : Str)) = false := by decide) (hs : X.stack = X.env :: X.outer := by rfl) (hf : X.env.frame = some X.env.locals := by rfl) :
    ST X W (.Try body [.ExceptHandler (some (.Name x np)) (some n) (b0 :: suite) pos'] [] [] pos) (tryF L i S T) := by
  intro H0 G0 pa
  obtain ⟨B, gm, hex⟩ := g
  refine PS.weak (L2N.ps_try_as (tb := fun W' => tS X.K X.mg W' H0 G0 pa S) (ts := fun a cls d D σ H => ∃ c C, c ∈ L ∧ cls = .ref C ∧ d = none ∧ X.mg c = some (.ref C) ∧ tS X.K X.mg (fun _ _ _ _ => False) H0 G0 pa (T a c) D σ H) hs hf hN hi hln ⟨hgx, hdx, .inl gm⟩ tk
    (fun W' pn xe t1 p1 => hb W' pn xe t1 p1 H0 G0 pa) (fun a oe cls d pn hz ⟨vs, hd⟩ => ⟨fun pins s σ H D I ⟨c, C, hc, e1, e2, hm, h⟩ => ?_⟩)) fun D σ H ⟨G, env, r, h⟩ => ?_
  · exact (hsu (a, oe) c C pn hc ⟨hm, hz.1.trans e1, hz.2.1.trans e2, vs, hd, hz.2.2 vs hd⟩ H0 G0 pa).run pins s σ H D I h
  · refine ⟨G, env, r, ?_⟩
    unfold tryF at h
    cases e : S env with
    | err c oe =>
      rw [e] at h
      cases oe with
      | none => exact h.elim
      | some e1 =>
        simp only at h
        split at h
        · rename_i hc
          have hc := of_decide_eq_true hc
          intro C σ1 H1 hm ⟨G1, r1⟩
          refine ⟨true, hex c hc C hm, fun _ a ha => ?_, fun z => nomatch z⟩
          unfold suiteR at h
          split at h
          · exact h.elim
          · rename_i io
            rw [← hT a] at h
            obtain ⟨s0, hs0⟩ : ∃ s0, e1[i]? = some s0 := by
              cases e : e1[i]? with
              | none => rw [e] at io; exact (io rfl).elim
              | some s => exact ⟨s, rfl⟩
            refine ⟨c, C, hc, rfl, rfl, hm, G1, e1.set i (.val (.ob a)), r1.set hs0 (fun d z => by subst z; rw [hs0] at io; exact io rfl) rfl, ?_⟩
            cases et : T a c (e1.set i (.val (.ob a))) with
            | rt vl e2 =>
              rw [et] at h
              unfold finR at h
              simp only at h
              split at h
              · exact h.elim
              · rename_i io2
                exact fun v σ2 H2 G2 r2 rv => h v σ2 H2 G2 (r2.drop (Bool.eq_false_iff.mpr io2)) rv
            | _ => rw [et] at h; exact h.elim
        · exact h.elim
    | nx _ => rw [e] at h; exact h
    | rt _ _ => rw [e] at h; exact h
    | bk _ => rw [e] at h; exact h
    | ct _ => rw [e] at h; exact h
    | stk => rw [e] at h; exact h.elim
/-- the suite's context bears its error -/
theorem hot_suite {p : Addr × Obj} {c : Str} {C : Addr} {pn : List (Addr × Obj)} (h : ExcAt X.K X.mg p c C) : L2H.Hot1 (X.suite p.1 (p :: pn)).A p := by
  obtain ⟨vs, h1, h2⟩ := h.fl
  exact ⟨rfl, vs, h1, h2⟩
end
end HF

set_option Elab.async false
set_option linter.all false
set_option maxRecDepth 100000
set_option maxHeartbeats 4000000
set_option autoImplicit false
namespace HF
open PySem PySem.Spec PyProof.Rows L2
/-! ### dicts -/
def D.key : D → Option Key
  | .int i => some (.inl i)
  | .str x => some (.inr x)
  | _ => none
@[simp] theorem D.key_int (i : Int) : (D.int i).key = some (.inl i) := rfl
@[simp] theorem D.key_str (i : Str) : (D.str i).key = some (.inr i) := rfl
theorem D.key_kV {K : PySem.W.Frag} {G : Hp} {d : D} {k : Key} {v : V} (h : d.key = some k) (r : Rp K G d v) : v = kV k := by
  cases d <;> first | (cases h; done) | (cases h; exact r)
def dlook (k : Key) : List Key → List D → Option D
  | k' :: ks, d :: ds => if k' = k then some d else dlook k ks ds
  | _, _ => none
theorem dlook_ok {K : PySem.W.Frag} {G : Hp} {k : Key} : ∀ {ks : List Key} {ds : List D} {kvs : List (Key × V)} {d : D}, kvs.map (·.1) = ks → RpL K G ds (kvs.map (·.2)) → dlook k ks ds = some d → ∃ v, valV kvs k = some v ∧ Rp K G d v
  | [], ds, kvs, d, h1, h2, e => by unfold dlook at e; cases e
  | k' :: ks, [], kvs, d, h1, h2, e => by unfold dlook at e; cases e
  | k' :: ks, d' :: ds, [], d, h1, h2, e => by cases h1
  | k' :: ks, d' :: ds, (a, v) :: kvs, d, h1, h2, e => by
    obtain ⟨x, r, e1, h3, h4⟩ := h2
    obtain ⟨rfl, rfl⟩ : x = v ∧ r = kvs.map (·.2) := by cases e1; exact ⟨rfl, rfl⟩
    have ha : a = k' ∧ kvs.map (·.1) = ks := by simpa using h1
    unfold dlook at e
    by_cases z : k' = k
    · rw [if_pos z] at e
      cases e
      exact ⟨x, valV_pos (show (a, x).1 = k from ha.1.trans z), h3⟩
    · rw [if_neg z] at e
      obtain ⟨w, w1, w2⟩ := dlook_ok ha.2 h4 e
      refine ⟨w, ?_, w2⟩
      rw [← w1]
      have : a ≠ k := fun q => z (ha.1.symm.trans q)
      simp [valV, List.find?_cons, this]
@[simp] def dgetD : D → D → Gr
  | .dct ks ds, x => match x.key with
    | some k => imO (dlook k ks ds)
    | none => .stk
  | _, _ => .stk
def rDget : R2 := fun x y H Q => ∃ a v, x = .ref a ∧ DGet H a y (some v) ∧ Q v H
theorem snd_dget {K : PySem.W.Frag} : OpSound K dgetD rDget := by
  intro H G x y a b Q s ha hb hq
  cases a with
  | dct ks ds =>
    unfold dgetD at hq
    cases e : b.key with
    | none => simp only [e] at hq; exact hq.elim
    | some k =>
      simp only [e] at hq
      obtain ⟨d, e2, q⟩ := hq.imO
      obtain ⟨p, kvs, rfl, h1, h2, h3⟩ := ha.dct s
      obtain ⟨v, w1, w2⟩ := dlook_ok h2 h3 e2
      have hy : y = kV k := by
        cases b with
        | int i => cases e; exact hb.int
        | str i => cases e; exact hb.str
        | _ => cases e
      refine ⟨p, v, rfl, ?_, q.same s w2⟩
      rw [hy, ← w1]
      exact DGet.k h1
  | _ => exact hq.elim
section
variable {X : Cx} {W : WX} {a b : Expr} {Fa Fb : Fx} {pos : Pos}
theorem ex_dget (hu : X.A.units + 65 < cLine) (ha : EX X W a Fa) (hb : EX X W b Fb) (hs : NoSl b := by intro _ _; rfl) : EX X W (.Subscript a b pos) (op2F dgetD Fa Fb) := by
  refine PE.weak (pe_dget (by omega) ha hb hs) fun σ H Q ⟨G, env, r, h⟩ => ?_
  refine tD_bind r h fun va e1 x H1 G1 s1 v1 p1 => ?_
  refine tD_bind s1.er (PostR.shift s1 r p1) fun vb e2 y H2 G2 s2 v2 p2 => ?_
  have p3 := PostR.shift s2 s1.er p2
  have v1' := v1.step s2 fun p hp m => (MuIs.new r hp) (m.of s1.kin)
  have p3 : PostR X.K X.mg W σ H2 G2 e2 Q (opR dgetD va vb e2) := p3
  unfold opR at p3
  cases ea : va.rd e2 with
  | none => rw [ea] at p3; exact p3.elim
  | some da =>
    cases eb : vb.rd e2 with
    | none => rw [ea, eb] at p3; exact p3.elim
    | some db =>
      rw [ea, eb] at p3
      exact snd_dget H2 G2 x y da db Q s2.er.sub (v1'.read s2.er ea) (v2.read s2.er eb) (GrPost.of s2.er p3)
end
/-! a written dict -/
def pairV : List V → List (V × V)
  | x :: y :: r => (x, y) :: pairV r
  | _ => []
@[simp] def pairD : List D → Option (List Key × List D)
  | [] => some ([], [])
  | k :: v :: r => match k.key, pairD r with
    | some k, some (ks, vs) => some (k :: ks, v :: vs)
    | _, _ => none
  | _ => none
theorem pair_ok {K : PySem.W.Frag} {G : Hp} : ∀ {ds : List D} {vs : List V} {ks : List Key} {es : List D}, RpL K G ds vs → pairD ds = some (ks, es) → ∃ kvs : List (Key × V), pairV vs = kvs.map (fun kv => (kV kv.1, kv.2)) ∧ kvs.map (·.1) = ks ∧ RpL K G es (kvs.map (·.2))
  | [], vs, ks, es, h, e => by
    cases e
    rw [show vs = [] from h]
    exact ⟨[], rfl, rfl, rfl⟩
  | [d], vs, ks, es, h, e => by cases e
  | k :: v :: r, vs, ks, es, h, e => by
    obtain ⟨x, r1, rfl, h1, y, r2, rfl, h2, h3⟩ := h
    unfold pairD at e
    cases e1 : k.key with
    | none => rw [e1] at e; cases e
    | some k' =>
      cases e2 : pairD r with
      | none => rw [e1, e2] at e; cases e
      | some q =>
        obtain ⟨ks', es'⟩ := q
        rw [e1, e2] at e
        cases e
        obtain ⟨kvs, q1, q2, q3⟩ := pair_ok h3 e2
        refine ⟨(k', y) :: kvs, ?_, by rw [List.map_cons, q2], y, _, rfl, h2, q3⟩
        rw [pairV, q1, D.key_kV e1 h1]
        rfl
theorem mergeK_nd : ∀ (more acc : List (Key × V)), ((acc ++ more).map (·.1)).Nodup → mergeK acc more = acc ++ more
  | [], acc, _ => by simp [mergeK]
  | p :: more, acc, h => by
    have h' : (((acc ++ [p]) ++ more).map (·.1)).Nodup := by simpa using h
    have : putK acc p.1 p.2 = acc ++ [p] := by
      unfold putK
      rw [if_neg]
      intro z
      obtain ⟨q, q1, q2⟩ := List.any_eq_true.mp z
      have q2 := of_decide_eq_true q2
      rw [List.map_append, List.nodup_append] at h
      exact h.2.2 q.1 (List.mem_map_of_mem q1) p.1 (by simp) q2
    have ih := mergeK_nd more (acc ++ [p]) h'
    unfold mergeK at ih ⊢
    rw [List.foldl_cons, this, ih]
    simp
@[simp] def dctF (Fs : FxL) (env : List Sl) : Rs := bindL (Fs env) fun vls e => match Vls.toIm vls with
  | some ds => (match pairD ds with
    | some (ks, es) => if decide (ks.Nodup ∧ ks.length ≤ 15) then .ok (.fr (.dct ks es)) e else .stk
    | none => .stk)
  | none => .stk
def DX (X : Cx) (W : WX) (pos : Pos) (keys : List (Option Expr)) (values : List Expr) (Fs : FxL) : Prop := ∃ trs, PPs X pos keys values trs ∧ ∀ (σ : L2.St) (H : Hp) (Q : List (V × V) → Hp → Prop), tDA X.K X.mg W Fs σ H (fun xs H' => Q (pairV xs) H') → tPairs trs σ H Q
theorem PostR.mono {K : PySem.W.Frag} {mg : Str → Option Value} {W : WX} {σ : L2.St} {H G : Hp} {env : List Sl} {Q Q' : VK} (q : ∀ v H, Q v H → Q' v H) : ∀ {R : Rs}, PostR K mg W σ H G env Q R → PostR K mg W σ H G env Q' R
  | .ok _ _, h => fun v H' G' s w => q _ _ (h v H' G' s w)
  | .err _ _, h => h
  | .stk, h => h
section
variable {X : Cx} {W : WX} {pos : Pos}
theorem dx_nil : DX X W pos [] [] nilF := ⟨[], pps_nil, fun σ H Q ⟨G, env, r, h⟩ => h [] H G (Stp.refl r) rfl⟩
theorem dx_cons {k v : Expr} {ks : List (Option Expr)} {vs : List Expr} {Fk Fv : Fx} {Fs : FxL} (hk : EX X W k Fk) (hv : EX X W v Fv) (hr : DX X W pos ks vs Fs) : DX X W pos (some k :: ks) (v :: vs) (consF Fk (consF Fv Fs)) := by
  obtain ⟨trs, p, h⟩ := hr
  refine ⟨_, pps_cons hk hv p, fun σ H Q q => ?_⟩
  obtain ⟨G, env, r, q1⟩ := tDA_cons q
  refine ⟨G, env, r, q1.mono fun x H1 q2 => ?_⟩
  obtain ⟨G, env, r, q3⟩ := tDA_cons q2
  exact ⟨G, env, r, q3.mono fun y H2 q4 => h σ H2 _ q4⟩
theorem ER.other {K : PySem.W.Frag} {H G : Hp} {σ : L2.St} {env : List Sl} {p : Addr} {o : HO} (r : ER K H G σ env) (hg : G p = none) (hm : ¬ MuIs σ env p) : ER K (upd H p o) G σ env where
  len := r.len
  sub := fun b u q => by rw [upd_ne (ne_of_none q hg)]; exact r.sub b u q
  val := r.val
  mu := fun i s d e1 e2 => by
    obtain ⟨q, w1, w2, w3⟩ := r.mu i s d e1 e2
    have : q ≠ p := fun z => hm ⟨i, s, d, e1, e2, by rw [← z]; exact w1⟩
    exact ⟨q, w1, w2, w3.mono (upd_ne this) (Same.refl _)⟩
  sep := r.sep
theorem ex_dct {keys : List (Option Expr)} {values : List Expr} {Fs : FxL} (h : DX X W pos keys values Fs) (hall : keys.all (·.isSome) = true := by rfl) (hl : keys.length = values.length := by rfl) (h0 : keys ≠ [] := by intro z; cases z) (h15 : keys.length ≤ 15 := by decide) : EX X W (.Dict keys values pos) (dctF Fs) := by
  obtain ⟨trs, p, hw⟩ := h
  refine PE.weak (pe_disp p hall hl h0 h15) fun σ H Q ⟨G, env, r, h⟩ => fun a ha => hw σ _ _ ?_
  have s0 : Stp X.K σ H G env (upd H a (.dK [])) G env := Stp.gs r (GS.newH r.sub ha)
  have nm : ¬ MuIs σ env a := MuIs.new r ha
  have Ga : G a = none := r.sub.free ha
  refine ⟨G, env, s0.er, ?_⟩
  unfold dctF at h
  cases ef : Fs env with
  | stk => rw [ef] at h; exact h.elim
  | err c eo =>
    rw [ef] at h
    cases eo with
    | some e => exact fun C H' m ⟨G', s'⟩ => h C H' m ⟨G', s0.trans s' r⟩
    | none => exact fun C H' m k => h C H' m fun b o e nb => k b o (s0.keep b o e nb) nb
  | ok vls e1 =>
    rw [ef] at h
    intro vs H1 G1 s1 v1
    have p1 : PostR X.K X.mg W σ H G env Q (match Vls.toIm vls with
      | some ds => (match pairD ds with
        | some (ks, es) => if decide (ks.Nodup ∧ ks.length ≤ 15) then .ok (.fr (.dct ks es)) e1 else .stk
        | none => .stk)
      | none => .stk) := h
    have e0 : H1 a = some (.dK []) := s1.keep a _ upd_same nm
    refine ⟨e0, ?_⟩
    cases e : Vls.toIm vls with
    | none => simp only [e] at p1; exact p1.elim
    | some ds =>
      simp only [e] at p1
      cases ep : pairD ds with
      | none => simp only [ep] at p1; exact p1.elim
      | some q =>
        obtain ⟨ks, es⟩ := q
        simp only [ep] at p1
        split at p1
        · rename_i c
          have c := of_decide_eq_true c
          obtain ⟨G2, s2, g2, k2, q2⟩ := VlsW.imm s0.er v1.w s1 e
          obtain ⟨kvs, w1, w2, w3⟩ := pair_ok q2 ep
          have lk : kvs.length ≤ 15 := by rw [← List.length_map (f := (·.1)), w2]; exact c.2
          refine ⟨kvs, w1, lk, ?_⟩
          rw [mergeK_nd kvs [] (by simpa [w2] using c.1), List.nil_append]
          have G2a : G2 a = none := s2.old a (by rw [upd_same]; exact fun z => nomatch z) Ga
          have nm2 : ¬ MuIs σ e1 a := fun z => nm (z.of s2.kin)
          have er := s2.er.other (o := .dK kvs) G2a nm2
          refine p1 _ _ G2 ⟨er, s2.gr, fun b hb hg => s2.old b (fun z => ?_) hg, fun b o q n => ?_, s2.kin⟩ ⟨a, rfl, ha, G2a, kvs, upd_same, w2, w3⟩
          · by_cases ba : b = a
            · rw [ba, upd_same] at z; cases z
            · rw [upd_ne ba] at z; exact hb z
          · have : b ≠ a := fun z => by rw [z, ha] at q; cases q
            rw [upd_ne this]
            exact s2.keep b o (by rw [upd_ne this]; exact q) n
        · exact p1.elim
end
end HF

set_option Elab.async false
set_option linter.all false
set_option maxRecDepth 100000
set_option maxHeartbeats 4000000
set_option autoImplicit false
namespace HF
open PySem PySem.Spec PyProof.Rows L2
/-! ### isinstance(e, (C, ..)) of a caught error -/
theorem GAsk.val {K : PySem.W.Frag} {mg : Str → Option Value} {L : List Str} {x : Str} {f : Str → Bool} (A : GAsk K mg L x f) : ∃ (v : V) (u : Value), ((mg x = some u) ∨ (mg x = none ∧ bootBuiltins x = some u ∧ x ≠ "__name__")) ∧ RelV v u ∧ (∀ u', RelV v u' → u' = u) ∧ ∀ c, c ∈ L → ∀ C, mg c = some (.ref C) → PySem.W.kitOne K (.ref C) u = some (f c) := A.at_
/-- the classes that are written: their values -/
def KX (X : Cx) (L : List Str) (es : List Expr) (f : Str → Bool) : Prop := ∃ (vs : List V) (cs : List Value), PA X es (fun _ H Q => Q vs H) ∧ vs.length = es.length ∧ (∀ us, Vals vs us → us = cs) ∧ ∀ c, c ∈ L → ∀ C, X.mg c = some (.ref C) → PySem.W.kitAny X.K (.ref C) cs = some (f c)
theorem kx_nil {X : Cx} {L : List Str} : KX X L [] (fun _ => false) :=
  ⟨[], [], PA.weak pa_nil (fun _ _ _ h => h), rfl, fun us r => by cases r; rfl, fun c hc C hm => by unfold PySem.W.kitAny; rfl⟩
theorem kx_cons {X : Cx} {L : List Str} {x : Str} {pos : Pos} {es : List Expr} {f g : Str → Bool} (A : GAsk X.K X.mg L x f) (r : KX X L es g) (hgx : Gl X x := by rfl) (hdx : (x == ("__debug__" : Str)) = false := by decide)
    (hs : starEach (.Name x pos :: es) X.env = (false, eval (.Name x pos) X.env) :: starEach es X.env := by rfl) : KX X L (.Name x pos :: es) (fun c => f c || g c) := by
  obtain ⟨v, u, hu, r1, r2, r3⟩ := A.val
  obtain ⟨vs, cs, p, hl, hv, hk⟩ := r
  have pe2 : PE X (.Name x pos) (tC v) := by
    rcases hu with h | ⟨h1, h2, h3⟩
    · exact pe_glob hgx h r1 hdx
    · exact pe_bltn hgx h1 h2 r1 h3 hdx
  refine ⟨v :: vs, u :: cs, PA.weak (pa_cons pe2 p hs) (fun _ _ _ h => h), by rw [List.length_cons, List.length_cons, hl], fun us rr => ?_, fun c hc C hm => ?_⟩
  · match us, rr with
    | u' :: us', .cons a b => rw [r2 u' a, hv us' b]
  · unfold PySem.W.kitAny
    rw [r3 c hc C hm]
    have e : (fun c => f c || g c) c = (f c || g c) := rfl
    rw [e]
    cases f c with
    | true => rfl
    | false => simpa using hk c hc C hm
theorem call_isXT {X : Cx} {p : Addr × Obj} {D : Addr} {vs : List V} {cs : List Value} {b : Bool} (hp : p ∈ X.pn) (C : ExcC X.K D) (h1 : p.2.cls = .ref D) (h2 : p.2.dict = none) (h3 : ∃ vs, p.2.data = .fields vs) (hv : ∀ us, Vals vs us → us = cs) (hk : PySem.W.kitAny X.K (.ref D) cs = some b) :
    CallR X (.builtin "isinstance") (fun xs H Q => ∃ q, xs = [.ref p.1, .ref q] ∧ H q = some (.tup vs) ∧ Q (.bl b) H) := by
  rintro pins s σ H xs us Q I r ⟨q, rfl, hq, want⟩
  obtain ⟨u1, u2, rfl, e1, e2⟩ : ∃ u1 u2, us = [u1, u2] ∧ RelV (.ref p.1) u1 ∧ RelV (.ref q) u2 := by
    match us, r with
    | [u1, u2], .cons a (.cons b .nil) => exact ⟨u1, u2, rfl, a, b⟩
  have e1 : u1 = .ref p.1 := e1
  have e2 : u2 = .ref q := e2
  subst e1 e2
  have at_ := (I.pin p (List.mem_append.mpr (.inl hp))).1
  obtain ⟨ws, hw⟩ := h3
  have J : PySem.W.InstAt s.heap p.1 p.2 D none := by
    obtain ⟨pa, ⟨oc, oda, od, osl⟩⟩ := p
    dsimp only at h1 h2 hw
    subst h1 h2 hw
    exact ⟨at_, rfl, rfl, trivial⟩
  have Z := PySem.W.handS_kitx_exc (x := p.1) (ox := p.2) (D := D) C.hg C.hk C.hs C.hd C.ha C.hn C.ht C.hm
  obtain ⟨_, its, rv, o, t1, t2, n, t3⟩ := (show ObjOk X.prog X.w H s.heap q (.tup vs) from I.hok q _ hq)
  rw [hv its rv] at t3
  obtain ⟨oc, od, dt, sl⟩ := o
  dsimp only at t2 t3
  subst t2 t3
  exact PySem.W.kia_tup Z I.kIn J t1 hk (by intro z; cases z) fun tk => ⟨.bl b, H, I.kept (t' := tk) (fun _ _ z => z), rfl, want⟩
theorem ex_isET {X : Cx} {W : WX} {i : Nat} {n : Str} {x1} {es : List Expr} {q1 q2 q3 pos : Pos} {L : List Str} {f : Str → Bool} {p : Addr × Obj} {c : Str} {D : Addr} (hm : X.mg "isinstance" = none) (hp : p ∈ X.pn) (E : ExcAt X.K X.mg p c D) (hc : c ∈ L) (C : GCls X.K X.mg L) (A : KX X L es f)
    (hN : X.N[i]? = some n := by rfl) (hl : es.length ≤ 1000 := by decide) (hv : Vis X.env.scope n := by first | exact Or.inl rfl | exact Or.inr (Or.inl rfl)) (hd : (n == ("__debug__" : Str)) = false := by decide) (hcd : (n == ("__classdict__" : Str)) = false := by decide) (hg : Gl X "isinstance" := by rfl)
    (he : starEach [.Name n q1, .Tuple es x1 q2] X.env = (false, eval (.Name n q1) X.env) :: starEach [.Tuple es x1 q2] X.env := by rfl) (he2 : starEach [.Tuple es x1 q2] X.env = (false, eval (.Tuple es x1 q2) X.env) :: starEach [] X.env := by rfl) (hpl : (backTo pos (starEach [.Tuple es x1 q2] X.env)).any (·.1) = false := by rfl) :
    EX X W (.Call (.Name "isinstance" q3) [.Name n q1, .Tuple es x1 q2] [] pos) (isEF i p.1 (f c)) := by
  obtain ⟨vs, cs, pa, hlen, hval, hk⟩ := A
  obtain ⟨ws, hws, _⟩ := E.fl
  refine PE.weak (pe_callB (call_isXT hp (C c hc D E.nm) E.cl E.di ⟨ws, hws⟩ hval (hk c hc D E.nm)) hg hm (by decide +kernel) (pa_cons (pe_var hN hv hd hcd) (pa_cons (pe_tup pa) pa_nil he2) he) (he := he) (hpl := hpl)) fun σ H Q ⟨G, env, r, h⟩ => ?_
  unfold isEF at h
  split at h
  · rename_i a' e
    split at h
    · rename_i ea
      have ea := of_decide_eq_true ea
      obtain ⟨w, w1, w2⟩ := r.val i _ e
      have w2 : w = .ref a' := w2
      subst w2 ea
      refine ⟨_, w1, ?_⟩
      refine ⟨by rw [hlen, sizeLine_eq]; omega, fun q hq => ⟨q, rfl, upd_same, ?_⟩⟩
      exact h _ _ _ (Stp.gs r (GS.new r.sub hq)) rfl
    · exact h.elim
  · exact h.elim
/-! ### a def that words a caught error -/
@[simp] def wordR (wd : Str → Option D) (a : Addr) (c : Str) (as : List Ar) : FR := match as with
  | [.val (.ob a')] => if decide (a' = a) then (match wd c with
    | some d => .im d [.val (.ob a')]
    | none => .stk) else .stk
  | _ => .stk
theorem hT_word {i : Nat} {d0 : D} {wd : Str → Option D} : ∀ (a : Addr) (c : Str) (e : List Sl), finR i (retS (tupF (consF (cF d0) (consF (callF [false] (wordR wd a c) (consF (vF i) nilF)) nilF))) (e.set i (.val (.ob a)))) = finR i (retS (tupF (consF (cF d0) (consF (callF [false] (wordR wd 0 c) (consF (vF i) nilF)) nilF))) (e.set i (.val (.ob 0)))) := by
  intro a c e
  by_cases hi : i < e.length
  · cases hw : wd c with
    | none => simp [hi, hw]
    | some d => simp [hi, hw]
  · simp [hi]
theorem room_mark {k : Nat} {A : Around} (r : Room k A) (h : Option Value) : L2H.RoomH k (A.mark h) := ⟨r.dp, r.un⟩
theorem hu65H {k : Nat} {A : Around} (hr : L2H.RoomH k A) : A.units + 65 < cLine := by have := hr.un; omega
end HF

set_option Elab.async false
set_option linter.all false
set_option maxRecDepth 100000
set_option maxHeartbeats 4000000
set_option autoImplicit false
namespace HF
open PySem PySem.Spec PyProof.Rows L2
/-! ### the program's top: error classes, constant tuples -/
section
variable {K : PySem.W.Frag} {mg : Str → Option Value} {h : Heap}
theorem GExc.mk {x : Str} {C : Addr} (X : K.In h) (G : h.Ns mainGlobals mg) (e : PySem.W.nsIn K mainGlobals x = some (some (.ref C))) (q : PySem.W.excIn K C [.type "ValueError", .type "Exception", .type "BaseException", .type "object"] "ValueError.__new__" = true) (kp : PySem.W.keepIn K (.ref C) = true) (sb : PySem.W.subIn K (.ref C) (.type "BaseException") = some true) (ty : PySem.W.typeIn K (.ref C) = some (.type "type")) : GExc K mg x :=
  ⟨C, _, _, _, _, PySem.F.excBase_ValueError, q, PySem.W.mg_of X G e, kp, sb, ty⟩
theorem kit_own {C D : Addr} {b : Bool} (hd : PySem.W.hasDictIn K D = true) (ty : PySem.W.typeIn K (.ref D) = some (.type "type")) (s : PySem.W.subIn K (.ref C) (.ref D) = some b) (ne : C = D → b = true) : PySem.W.kitOne K (.ref C) (.ref D) = some b := by
  obtain ⟨cd, hc, _⟩ := PySem.W.any_some hd
  unfold PySem.W.kitOne
  by_cases e : C = D
  · rw [ne e, e]; simp
  · have e' : (Value.ref C == Value.ref D) = false := by simp [e]
    have t : ((PySem.W.clsIn K D).isSome && PySem.W.typeIn K (.ref D) == some (.type "type")) = true := by rw [hc, ty]; rfl
    rw [e', if_neg Bool.false_ne_true]
    show (if ((PySem.W.clsIn K D).isSome && PySem.W.typeIn K (.ref D) == some (.type "type")) = true then PySem.W.subIn K (.ref C) (.ref D) else none) = some b
    rw [if_pos t]; exact s
theorem GAsk.own {L : List Str} {x : Str} {f : Str → Bool} {D : Addr} (X : K.In h) (G : h.Ns mainGlobals mg) (e : PySem.W.nsIn K mainGlobals x = some (some (.ref D))) (hd : PySem.W.hasDictIn K D = true) (ty : PySem.W.typeIn K (.ref D) = some (.type "type"))
    (a : ∀ c, c ∈ L → ∃ C, mg c = some (.ref C) ∧ PySem.W.subIn K (.ref C) (.ref D) = some (f c) ∧ (C = D → f c = true)) : GAsk K mg L x f :=
  ⟨.ref D, .ref D, .inl (PySem.W.mg_of X G e), rfl, fun u r => r, fun c hc C hm => by
    obtain ⟨C', h1, h2, h3⟩ := a c hc
    rw [h1] at hm
    cases hm
    exact kit_own hd ty h2 h3⟩
theorem GTry.mk {L : List Str} {x : Str} {D : Addr} (X : K.In h) (G : h.Ns mainGlobals mg) (e : PySem.W.nsIn K mainGlobals x = some (some (.ref D))) (hd : PySem.W.hasDictIn K D = true) (ty : PySem.W.typeIn K (.ref D) = some (.type "type")) (sb : PySem.W.subIn K (.ref D) (.type "BaseException") = some true)
    (a : ∀ c, c ∈ L → ∃ C, mg c = some (.ref C) ∧ PySem.W.subIn K (.ref C) (.ref D) = some true) : GTry K mg L x :=
  ⟨D, PySem.W.mg_of X G e, fun c hc C hm => by
    obtain ⟨C', h1, h2⟩ := a c hc
    rw [h1] at hm
    cases hm
    exact PySem.W.exm_ref sb hd ty h2⟩
theorem GAsk.ve {L : List Str} (hm : mg "ValueError" = none) (a : ∀ c, c ∈ L → ∃ C, mg c = some (.ref C) ∧ PySem.W.subIn K (.ref C) (.type "ValueError") = some true) : GAsk K mg L "ValueError" (fun _ => true) :=
  ⟨.ty "ValueError", .type "ValueError", .inr ⟨hm, by decide +kernel, by decide⟩, rfl, fun u r => r, fun c hc C h => by
    obtain ⟨C', h1, h2⟩ := a c hc
    rw [h1] at h
    cases h
    have e' : (Value.ref C == Value.type "ValueError") = false := by simp
    unfold PySem.W.kitOne
    rw [e', if_neg Bool.false_ne_true]
    show (if PySem.W.kitMeta "ValueError" = true then PySem.W.subIn K (.ref C) (.type "ValueError") else none) = some true
    rw [if_pos (by decide +kernel)]; exact h2⟩
theorem GCls.mk {L : List Str} (a : ∀ c, c ∈ L → ∃ C, mg c = some (.ref C) ∧ ExcC K C) : GCls K mg L := fun c hc C h => by
  obtain ⟨C', h1, h2⟩ := a c hc
  rw [h1] at h
  cases h
  exact h2
theorem strs_rp {G : Hp} : ∀ (ss : List Str), RpL K G (ss.map D.str) (ss.map V.str)
  | [] => rfl
  | s :: r => ⟨_, _, rfl, rfl, strs_rp r⟩
theorem GConst.strs {x : Str} {a : Addr} {od : Option Addr} {its : Array Value} {n : Nat} {sl : Array (Option Value)} (ss : List Str) (X : K.In h) (G : h.Ns mainGlobals mg) (e : PySem.W.nsIn K mainGlobals x = some (some (.ref a))) (l : K.lookup a = some ⟨.type "tuple", od, .seq its n, sl⟩) (hs : its.size ≤ 1000) (hv : Vals (ss.map V.str) its.toList) : GConst K mg x (.tup (ss.map D.str)) :=
  ⟨.ref a, .ref a, PySem.W.mg_of X G e, rfl, fun G => ⟨a, ss.map V.str, rfl, .inr ⟨_, its, n, l, rfl, rfl, by rw [sizeLine_eq]; omega, hv⟩, strs_rp ss⟩⟩
end
end HF

set_option Elab.async false
set_option linter.all false
set_option maxRecDepth 100000
set_option maxHeartbeats 4000000
set_option autoImplicit false
namespace HF
open PySem PySem.Spec PyProof.Rows L2
/-! the number of texts in a list, each counted once: len(set(xs)) -/
def onesOf (acc : List Str) (xs : List Str) : List Str := xs.foldl (fun acc x => if x ∈ acc then acc else acc ++ [x]) acc
theorem onesOf_snoc (acc xs : List Str) (x : Str) : onesOf acc (xs ++ [x]) = if x ∈ onesOf acc xs then onesOf acc xs else onesOf acc xs ++ [x] := by
  unfold onesOf
  rw [List.foldl_append]
  rfl
theorem onesOf_le : ∀ (xs acc : List Str), (onesOf acc xs).length ≤ acc.length + xs.length
  | [], acc => by simp [onesOf]
  | x :: xs, acc => by
    have h := onesOf_le xs (if x ∈ acc then acc else acc ++ [x])
    have e : onesOf acc (x :: xs) = onesOf (if x ∈ acc then acc else acc ++ [x]) xs := rfl
    rw [e]
    split at h <;> simp only [List.length_append, List.length_cons, List.length_nil] at h ⊢ <;> (rename_i c; simp only [c, if_true, if_false]; omega)
theorem onesOf_nodup : ∀ (xs acc : List Str), (acc ++ xs).Nodup → onesOf acc xs = acc ++ xs
  | [], acc, _ => by simp [onesOf]
  | x :: xs, acc, h => by
    have hx : x ∉ acc := fun m => (List.nodup_append.mp h).2.2 x m x (List.mem_cons_self) rfl
    have e : onesOf acc (x :: xs) = onesOf (if x ∈ acc then acc else acc ++ [x]) xs := rfl
    rw [e, if_neg hx, onesOf_nodup xs (acc ++ [x]) (by rw [List.append_assoc]; exact h), List.append_assoc]
    rfl
theorem onesOf_mem : ∀ (xs acc : List Str) (y : Str), y ∈ onesOf acc xs ↔ y ∈ acc ∨ y ∈ xs
  | [], acc, y => by simp [onesOf]
  | x :: xs, acc, y => by
    have e : onesOf acc (x :: xs) = onesOf (if x ∈ acc then acc else acc ++ [x]) xs := rfl
    rw [e, onesOf_mem xs]
    by_cases c : x ∈ acc
    · rw [if_pos c]
      constructor
      · rintro (h | h)
        · exact .inl h
        · exact .inr (List.mem_cons_of_mem _ h)
      · rintro (h | h)
        · exact .inl h
        · rcases List.mem_cons.mp h with rfl | h
          · exact .inl c
          · exact .inr h
    · rw [if_neg c, List.mem_append, List.mem_singleton, List.mem_cons, or_assoc]
theorem onesOf_sub : ∀ (xs acc : List Str), (onesOf acc xs).length = acc.length + xs.length → ∀ x ∈ xs, x ∉ acc
  | x :: xs, acc, h, y, hy => by
    have e : onesOf acc (x :: xs) = onesOf (if x ∈ acc then acc else acc ++ [x]) xs := rfl
    rw [e] at h
    have hx : x ∉ acc := fun c => by
      rw [if_pos c] at h
      have := onesOf_le xs acc
      simp only [List.length_cons] at h
      omega
    rw [if_neg hx] at h
    rcases List.mem_cons.mp hy with rfl | hy
    · exact hx
    · have q := onesOf_sub xs (acc ++ [x]) (by rw [h]; simp only [List.length_append, List.length_cons, List.length_nil]; omega) y hy
      exact fun m => q (List.mem_append_left _ m)
theorem onesOf_full : ∀ (xs acc : List Str), acc.Nodup → (onesOf acc xs).length = acc.length + xs.length → (acc ++ xs).Nodup
  | [], acc, h, _ => by rwa [List.append_nil]
  | x :: xs, acc, h, q => by
    have hx := onesOf_sub (x :: xs) acc q x List.mem_cons_self
    have e : onesOf acc (x :: xs) = onesOf (if x ∈ acc then acc else acc ++ [x]) xs := rfl
    rw [e, if_neg hx] at q
    have nd : (acc ++ [x]).Nodup := List.nodup_append.mpr ⟨h, by simp, fun a ha b hb => by rw [List.mem_singleton.mp hb]; rintro rfl; exact hx ha⟩
    have r := onesOf_full xs (acc ++ [x]) nd (by rw [q]; simp only [List.length_append, List.length_cons, List.length_nil]; omega)
    rw [List.append_assoc] at r
    exact r
theorem onesOf_lt {xs : List Str} (h : ¬ xs.Nodup) : (onesOf [] xs).length < xs.length := by
  have a := onesOf_le xs []
  simp only [List.length_nil, Nat.zero_add] at a
  rcases Nat.lt_or_eq_of_le a with b | b
  · exact b
  · exact absurd (onesOf_full xs [] List.nodup_nil (by simpa using b)) h
/-! the walk of set(..) over a list or tuple of texts -/
section
variable {P : Program} {w : World} {A : Around} {R : Result → Shared → Prop} {I S : Addr} {fp wr : List Addr} {G : Array GenState → Array GenState → Prop} {Pv : Nat → Value → Prop} {St : Nat → Shared → Prop} {all : List Str}
abbrev HasS (P : Program) (w : World) (h : Heap) (S : Addr) (xs : List Str) : Prop := h.SetOf (PySem.strKind P w) S (fun k => decide (k ∈ onesOf [] xs)) (onesOf [] xs).length
theorem HasS.to {h h' : Heap} {xs : List Str} (q : HasS P w h S xs) (k : ∀ o, h.get? S = some o → h'.get? S = some o) : HasS P w h' S xs := by
  obtain ⟨o, es, ep, t, e, r⟩ := q
  exact ⟨o, es, ep, t, k o e, r⟩
theorem HasS.more {h : Heap} {xs : List Str} {x : Str} (q : h.SetOf (PySem.strKind P w) S (fun j => decide (j ∈ onesOf [] xs) || decide (j = x)) (if decide (x ∈ onesOf [] xs) = true then (onesOf [] xs).length else (onesOf [] xs).length + 1)) : HasS P w h S (xs ++ [x]) := by
  refine SetOf_congr q (fun k => ?_) ?_
  · by_cases c : x ∈ onesOf [] xs
    · rw [onesOf_snoc, if_pos c]
      by_cases e : k = x
      · rw [e]; simp [c]
      · simp [e]
    · rw [onesOf_snoc, if_neg c]
      by_cases e : k = x <;> simp [e]
  · rw [onesOf_snoc]
    by_cases c : x ∈ onesOf [] xs <;> simp [c]
theorem set_loop (W : WalksS P w A.in1 I fp wr G all.length Pv St) (off : S ∉ fp) (hb : all.length + 1 < scanBound) (hv : ∀ i v, Pv i v → ∀ x, all[i]? = some x → ∃ t, v = .str x t) :
    ∀ (rest pre : List Str) (s : Shared), all = pre ++ rest → St pre.length s → HasS P w s.heap S pre → (∀ s', Moved (S :: wr) G s s' → HasS P w s'.heap S all → R (.ok (.ret .none)) s') →
      codeAny (model P w) A (.builtin "set.update.loop" ⟨[.ref S, .ref I], []⟩) R s := by
  have out : S ∉ wr := fun m => off (W.sub S m)
  intro rest
  induction rest with
  | nil =>
    intro pre s ea hst hS hR
    have ep : pre = all := by rw [ea, List.append_nil]
    refine codeAny_builtin PyProof.Rows.F.entry_set_update_loop ?_
    rw [Around.under_plainId PyProof.Rows.F.plain_set_update_loop (_ : Args)]
    show wpAny (model P w) A.in1 (pyNext (Value.ref I) >>= _) _ _ s
    refine wpAny_bind (W.done s _ _ (ep ▸ hst) fun s1 mv => ?_)
    refine wpAny_pure (hR s1 (mv.mono fun b m => List.mem_cons_of_mem S m) ?_)
    exact ep ▸ hS.to fun o q => mv.heap S o out q
  | cons x rest ih =>
    intro pre s ea hst hS hR
    have hlt : pre.length < all.length := by rw [ea, List.length_append, List.length_cons]; omega
    have hx : all[pre.length]? = some x := by rw [ea, List.getElem?_append_right (Nat.le_refl _), Nat.sub_self]; rfl
    refine codeAny_builtin PyProof.Rows.F.entry_set_update_loop ?_
    rw [Around.under_plainId PyProof.Rows.F.plain_set_update_loop (_ : Args)]
    show wpAny (model P w) A.in1 (pyNext (Value.ref I) >>= _) _ _ s
    refine wpAny_bind (W.item pre.length s _ _ hlt hst fun v s1 pv st1 mv => ?_)
    obtain ⟨t, rfl⟩ := hv pre.length v pv x hx
    have hS1 : HasS P w s1.heap S pre := hS.to fun o q => mv.heap S o out q
    show wpAny (model P w) A.in1 (holding [Value.str x t] (setAdd S (Value.str x t)) >>= _) _ _ s1
    refine wpAny_bind (wpAny_holding ?_)
    unfold setAdd
    refine wpAny_holding (wpAny_bind ((PySem.strKind P w).pyHash (k := x) (strKind_is P w x t) ?_))
    have room : (onesOf [] pre).length + 1 < scanBound := by
      have := onesOf_le pre []
      simp only [List.length_nil, Nat.zero_add] at this
      omega
    refine wpAny_setAddHashed_of (knd := PySem.strKind P w) (s := { s1 with toks := s1.toks + 1 }) (strKind_is P w x t) rfl hS1 room fun h2 keep hS2 => ?_
    refine wpAny_pure ⟨plainId_quiet PyProof.Rows.F.plain_set_update_loop (_ : Args), ih (pre ++ [x]) _ (by rw [ea, List.append_assoc]; rfl) ?_ (HasS.more hS2) fun s3 mv3 hS3 => ?_⟩
    · rw [List.length_append]
      refine W.frame (pre.length + 1) s1 _ _ st1 (Nat.le_succ _) fun b hb o q => ?_
      rw [keep.2 b fun z => off (z ▸ hb)]
      exact q
    · refine hR s3 (Moved.trans W.gtrans ((mv.mono fun b m => List.mem_cons_of_mem S m).then_heap (Nat.le_succ _) fun b o hb q => ?_) mv3) hS3
      rw [keep.2 b fun z => hb (z ▸ List.mem_cons_self)]
      exact q
end
theorem strs_ix : ∀ {us : List Value} {xs : List Str}, Vals (xs.map V.str) us → ∀ (i : Nat) (v : Value) (x : Str), us[i]? = some v → xs[i]? = some x → ∃ t, v = .str x t := by
  intro us xs h i v x hv hx
  obtain ⟨u, hu, ⟨t, rfl⟩⟩ := h.get (show (xs.map V.str)[i]? = some (.str x) by rw [List.getElem?_map, hx]; rfl)
  rw [hv] at hu
  cases hu
  exact ⟨t, rfl⟩
section
variable {P : Program} {w : World} {A : Around} {E : Value → Shared → Prop} {s : Shared}
abbrev freshSet (led : Bool) : Obj := { cls := .type "set", dict := none, data := .set #[] 0 (.fresh 0 0 led) }
theorem sub_seq_set {T : String} (h : T = "list" ∨ T = "tuple") : isSubtype (.type T) (.type "set") = pure false ∧ isSubtype (.type T) (.type "frozenset") = pure false ∧ (Value.type T == Value.type "dict") = false := by
  rcases h with rfl | rfl
  · exact ⟨PySem.F.sub_list_set, PySem.F.sub_list_frozenset, by decide⟩
  · exact ⟨PySem.F.sub_tuple_set, PySem.F.sub_tuple_frozenset, by decide⟩
set_option maxHeartbeats 8000000 in
/-- set(xs) of a list or tuple of texts -/
theorem set_texts {T : String} {l : Addr} {items : Array Value} {xs : List Str} {Q : Value → Shared → Prop} (hT : T = "list" ∨ T = "tuple") (hh : A.handled = none)
    (hl : ∃ o, s.heap.get? l = some o ∧ o.cls = .type T ∧ ∃ n, o.data = .seq items n) (hi : Vals (xs.map V.str) items.toList) (hb : xs.length + 1 < scanBound)
    (h : ∀ (h' : Heap) (tk : Nat), HasS P w h' s.heap.objs.size xs → (∀ b o, s.heap.get? b = some o → h'.get? b = some o) → Q (.ref s.heap.objs.size) { s with heap := h', toks := tk }) :
    wpAny (model P w) A (call (.type "set") [.ref l]) Q E s := by
  obtain ⟨cc, ctl, ms⟩ := PySem.F.called_set.mro
  have ks := PySem.F.called_set.made
  have us := PySem.F.called_set.sub
  refine wpAny_call (codeAny_of_tree ?_)
  refine wpAny_pure ⟨Code.quiet_builtin _ (by decide +kernel), codeAny_builtin PySem.F.entry_type_call ?_⟩
  rw [Around.under_plain (weight_type_call_type "set" [Value.ref l] []) rfl]
  have n1 := PySem.F.called_set.notType
  have n2 := PySem.F.called_set.canCreate
  have n3 := PySem.F.typeCall_set_1 (Value.ref l)
  repeat (any_goals (first | assumption | wp_step))
  refine codeAny_mono (code_set_new_1 (Value.ref l) (E := E) (Q₁ := fun v s1 => ∃ led : Bool, v = .ref s.heap.objs.size ∧ s1 = { s with heap := s.heap.push (freshSet led) }) fun led => ⟨led, rfl, rfl⟩) fun res s1 got => ?_
  match res, got with
  | .error _, got => exact got
  | .ok (.ret v), got =>
    obtain ⟨led, rfl, rfl⟩ := got
    have at0 : (s.heap.push (freshSet led)).get? s.heap.objs.size = some (freshSet led) := Heap.get?_push_size _ rfl
    have ty0 : Shared.TypeIs { s with heap := s.heap.push (freshSet led) } (Value.ref s.heap.objs.size) "set" := ⟨_, at0, rfl⟩
    have q1 := PySem.F.called_set.init.lookup
    have q2 := PySem.F.called_set.init.bind (Value.ref s.heap.objs.size)
    repeat (any_goals (first | assumption | wp_step))
    refine codeAny_mono (codeAny_call_builtin (R := wants (fun v s2 => v = .none ∧ ∃ h' tk, s2 = { s with heap := h', toks := tk } ∧ HasS P w h' s.heap.objs.size xs ∧ (∀ b o, s.heap.get? b = some o → h'.get? b = some o)) E)
      PySem.F.called_set.init.plain PySem.F.entry_set_init (check_set_init_1 ty0 ?_)) fun res2 s2 got2 => ?_
    · obtain ⟨⟨lc, ld, lda, lsl⟩, al, rfl, ln, rfl⟩ := hl
      have al1 : (s.heap.push (freshSet led)).get? l = some ⟨.type T, ld, .seq items ln, lsl⟩ := Heap.get?_push_of_some _ al
      obtain ⟨ns1, ns2, ns3⟩ := sub_seq_set hT
      have lt0 : l < s.heap.objs.size := Heap.lt_size al
      have hz : (s.heap.push (freshSet led)).objs.size = s.heap.objs.size + 1 := Heap.size_push ..
      have lenE : items.size = xs.length := by
        have q := hi.length
        rw [List.length_map] at q
        rw [q]
        exact Array.length_toList.symm
      have vals : ∀ (i : Nat) (v : Value), items[i]? = some v → ∀ x, xs[i]? = some x → ∃ t, v = .str x t := fun i v hv x hx => strs_ix hi i v x (by rw [Array.getElem?_toList]; exact hv) hx
      have hh3 : A.in1.in1.in1.handled = none := by simp [hh]
      have off : s.heap.objs.size ∉ [(s.heap.push (freshSet led)).objs.size, l] := by
        rw [hz]
        simp only [List.mem_cons, List.not_mem_nil, or_false, not_or]
        exact ⟨Nat.ne_of_lt (Nat.lt_succ_self _), Nat.ne_of_gt lt0⟩
      have ap : l ≠ (s.heap.push (freshSet led)).objs.size := by rw [hz]; exact Nat.ne_of_lt (Nat.lt_succ_of_lt lt0)
      have fin : ∀ (it : Obj) (s' : Shared), Moved (s.heap.objs.size :: [(s.heap.push (freshSet led)).objs.size]) (fun a b => b = a) { s with heap := (s.heap.push (freshSet led)).push it } s' → HasS P w s'.heap s.heap.objs.size xs →
          ∃ h' tk, s' = { s with heap := h', toks := tk } ∧ HasS P w h' s.heap.objs.size xs ∧ (∀ b o, s.heap.get? b = some o → h'.get? b = some o) := fun it s' mv got => by
        obtain ⟨h', g', d', tk', os'⟩ := s'
        have e1 : g' = s.gens := mv.gens
        have e2 : d' = s.drawn := mv.drawn
        have e3 : os' = s.os := mv.os
        subst e1 e2 e3
        refine ⟨h', tk', rfl, got, fun b o q => ?_⟩
        have bl : b < s.heap.objs.size := Heap.lt_size q
        refine mv.heap b o ?_ (Heap.get?_push_of_some _ (Heap.get?_push_of_some _ q))
        rw [hz]
        simp only [List.mem_cons, List.not_mem_nil, or_false, not_or]
        exact ⟨Nat.ne_of_lt bl, Nat.ne_of_lt (Nat.lt_succ_of_lt bl)⟩
      have first0 : ∀ it : Obj, HasS P w ((s.heap.push (freshSet led)).push it) s.heap.objs.size [] := fun it =>
        PyProof.Rows.SetOf_congr ((PyProof.Rows.setObjOf_fresh (knd := PySem.strKind P w) led).setOf (Heap.get?_push_of_some _ at0) (by unfold scanBound; omega)) (fun _ => rfl) rfl
      unfold Builtin.«set.__init__» noKeywords Builtin.Frozenset.updateFrom
      generalize hPI : pyIter = PI
      rcases hT with rfl | rfl
      · have il : (s.heap.push (freshSet led)).IsList l items := ⟨_, al1, rfl, ln, rfl⟩
        wp_walk
        subst hPI
        refine wpAny_pyIter_list il (wpAny_bind (wpAny_runValue ?_))
        refine set_loop (all := xs) (lenE ▸ (Walks.list hh3 (s.heap.push (freshSet led)).objs.size l ap items).toS) off hb vals xs [] _ rfl ⟨⟨_, Heap.get?_push_size _ rfl, rfl, rfl⟩, il.push _⟩ (first0 _) fun s' mv got => ?_
        obtain ⟨h', tk', rfl, a1, a2⟩ := fin _ s' mv got
        exact wpAny_pure (wpAny_pure ⟨rfl, h', tk', rfl, a1, a2⟩)
      · have il : (s.heap.push (freshSet led)).IsTuple l items := ⟨_, al1, rfl, ln, rfl⟩
        wp_walk
        subst hPI
        refine wpAny_pyIter_tuple il (wpAny_bind (wpAny_runValue ?_))
        refine set_loop (all := xs) (lenE ▸ (Walks.tuple hh3 (s.heap.push (freshSet led)).objs.size l ap items).toS) off hb vals xs [] _ rfl ⟨⟨_, Heap.get?_push_size _ rfl, rfl, rfl⟩, il.push _⟩ (first0 _) fun s' mv got => ?_
        obtain ⟨h', tk', rfl, a1, a2⟩ := fin _ s' mv got
        exact wpAny_pure (wpAny_pure ⟨rfl, h', tk', rfl, a1, a2⟩)
    · match res2, got2 with
      | .error _, got2 => exact got2
      | .ok (.ret _), got2 =>
        obtain ⟨rfl, h', tk, rfl, a1, a2⟩ := got2
        repeat (any_goals (first | assumption | wp_step))
        exact h _ _ a1 a2
end
end HF

set_option Elab.async false
set_option linter.all false
set_option maxRecDepth 100000
set_option maxHeartbeats 4000000
set_option autoImplicit false
namespace HF
open PySem PySem.Spec PyProof.Rows L2
/-! len(set(xs)) over the data -/
@[simp] def textsD : List D → Option (List Str)
  | [] => some []
  | .str x :: r => (match textsD r with
    | some xs => some (x :: xs)
    | none => none)
  | _ :: _ => none
@[simp] def lsD : D → Gr
  | .lst ds => (match textsD ds with
    | some xs => if xs.length < 1000 then .im (.int (onesOf [] xs).length) else .stk
    | none => .stk)
  | .tup ds => (match textsD ds with
    | some xs => if xs.length < 1000 then .im (.int (onesOf [] xs).length) else .stk
    | none => .stk)
  | _ => .stk
@[simp] def lsG : List D → Gr
  | [d] => lsD d
  | _ => .stk
theorem textsD_eq : ∀ {ds : List D} {xs : List Str}, textsD ds = some xs → ds = xs.map D.str
  | [], xs, h => by cases h; rfl
  | d :: ds, xs, h => by
    cases d with
    | str x =>
      unfold textsD at h
      cases e : textsD ds with
      | none => rw [e] at h; cases h
      | some ys =>
        rw [e] at h
        cases h
        rw [textsD_eq e]
        rfl
    | _ => cases h
theorem textsD_map : ∀ (xs : List Str), textsD (xs.map D.str) = some xs
  | [] => rfl
  | x :: xs => by rw [List.map_cons, textsD, textsD_map xs]
theorem RpL.strs {K : PySem.W.Frag} {G : Hp} : ∀ {xs : List Str} {vs : List V}, RpL K G (xs.map D.str) vs → vs = xs.map V.str
  | [], vs, h => h
  | x :: xs, vs, h => by
    obtain ⟨v, r, rfl, h1, h2⟩ := h
    rw [h2.strs]
    cases h1
    rfl
section
variable {X : Cx} {W : WX}
def rLenSet (K : PySem.W.Frag) (vs : List V) (H : Hp) (Q : VK) : Prop := ∃ (l : Addr) (xs : List Str), vs = [.ref l] ∧ (SqL K H l (xs.map V.str) ∨ SqT K H l (xs.map V.str)) ∧ xs.length < 1000 ∧ Q (.int (onesOf [] xs).length) H
theorem snd_lenSet : ClSound X.K lsG (rLenSet X.K) := by
  intro H G xs ds Q s r h
  match ds, r, h with
  | [d], r, h =>
    obtain ⟨x, y, rfl, rx, rfl⟩ := r
    have st : ∀ es : List D, GrPost X.K H G Q (match textsD es with | some xs => if xs.length < 1000 then .im (.int (onesOf [] xs).length) else .stk | none => .stk) → ∃ xs : List Str, es = xs.map D.str ∧ xs.length < 1000 ∧ Q (.int (onesOf [] xs).length) H := fun es h => by
      cases e : textsD es with
      | none => rw [e] at h; exact h.elim
      | some xs =>
        rw [e] at h
        by_cases c : xs.length < 1000
        · simp only [c, if_true] at h
          exact ⟨xs, textsD_eq e, c, h.same s rfl⟩
        · simp only [c, if_false] at h
          exact h.elim
    cases d with
    | lst es =>
      obtain ⟨xs, rfl, c, q⟩ := st es h
      obtain ⟨p, vs, rfl, hp, rl⟩ := rx.lst s
      rw [rl.strs] at hp
      exact ⟨p, xs, rfl, .inl (SqL.of hp), c, q⟩
    | tup es =>
      obtain ⟨xs, rfl, c, q⟩ := st es h
      obtain ⟨p, vs, rfl, hp, rl⟩ := rx.tup s
      rw [rl.strs] at hp
      exact ⟨p, xs, rfl, .inr hp, c, q⟩
    | _ => exact h.elim
  | [], _, h => exact h.elim
  | _ :: _ :: _, _, h => exact h.elim
theorem pe_lenSetX {a : Expr} {ta : TA} {p p2 q pos : Pos} (hg : Gl X "len") (hm : X.mg "len" = none) (hg2 : Gl X "set") (hm2 : X.mg "set" = none) (ha : PA X [a] ta) (hc : X.calm = true)
    (na : starEach [a] X.env = (false, eval a X.env) :: starEach [] X.env) : PE X (.Call (.Name "len" p) [.Call (.Name "set" p2) [a] [] q] [] pos) (tCB (rLenSet X.K) ta) := by
  refine ⟨fun pins s σ H Q I h => ?_⟩
  refine Call_ (ld_blt I hg hm boot_len (PyProof.Rows.callWith_builtin1 (PyProof.Rows.args_cons ?_ rfl) rfl rfl))
  refine Call_ (ld_blt I hg2 hm2 boot_set (PyProof.Rows.callWith_type1 (thn (ha.run q pins s σ H _ I h) fun us s1 ⟨vs, H1, I1, r1, q1⟩ => ?_) na rfl))
  obtain ⟨l, xs, rfl, hs, hl, q1⟩ := q1
  cases r1 with
  | cons r1 rt =>
    cases rt
    cases r1
    have room : xs.length + 1 < scanBound := by unfold scanBound; omega
    have done : ∀ (h' : Heap) (tk : Nat), HasS X.prog X.w h' s1.heap.objs.size xs → (∀ b o, s1.heap.get? b = some o → h'.get? b = some o) → wpAny (model X.prog X.w) X.A (spliced (backTo pos (starEach [] X.env))) (fun vs s₂ => wpAny (model X.prog X.w) X.A (call (Value.builtin "len") (Value.ref s1.heap.objs.size :: vs)) (EP X pins σ Q) X.xe s₂) X.xe { s1 with heap := h', toks := tk } := fun h' tk a1 a2 => by
      obtain ⟨o, es, ep, t, ho, hex, hd, _, _, _, hf, hn⟩ := a1
      have I2 : Inv X pins σ H1 { s1 with heap := h', toks := tk } := I1.kept a2
      have le := onesOf_le xs []
      simp only [List.length_nil, Nat.zero_add] at le
      exact PyProof.Rows.args_nil (call_len_set ho hex hd hf (by rw [hn]; omega) ⟨.int (onesOf [] xs).length, H1, I2.tok _, ⟨_, by rw [hn]⟩, q1⟩)
    rcases hs with hs | hs
    · obtain ⟨its, rv, ⟨o, n, ho, hc0, hdn, hd⟩, hlen⟩ := I1.list hs
      exact set_texts (.inl rfl) (I1.ok.hd hc) ⟨o, ho, hc0, n, hd⟩ (by simpa using rv) room done
    · obtain ⟨its, rv, ⟨o, e2, c2, n2, d2⟩, hlen⟩ := I1.tuple hs
      exact set_texts (.inr rfl) (I1.ok.hd hc) ⟨o, e2, c2, n2, d2⟩ (by simpa using rv) room done
theorem ex_lenSet {a : Expr} {F : FxL} {p p2 q pos : Pos} (hc : X.calm = true) (hm : X.mg "len" = none) (hm2 : X.mg "set" = none) (ha : AX X W [a] F) (hg : Gl X "len" := by rfl) (hg2 : Gl X "set" := by rfl)
    (na : starEach [a] X.env = (false, eval a X.env) :: starEach [] X.env := by rfl) : EX X W (.Call (.Name "len" p) [.Call (.Name "set" p2) [a] [] q] [] pos) (blF lsG F) :=
  PE.weak (pe_lenSetX hg hm hg2 hm2 ha hc na) (tCB_of snd_lenSet)
end
/-! xs.count(y) -/
section
variable {X : Cx}
def rCount (K : PySem.W.Frag) : V → List V → Hp → VK → Prop := fun x vs H Q => ∃ (l : Addr) (ys : List V) (y : V), x = .ref l ∧ vs = [y] ∧ SqL K H l ys ∧ flatV y = true ∧ ys.all flatV = true ∧ Q (.int (ys.countP fun z => eqV z y : Nat)) H
theorem count_eqU {y : V} : ∀ {ys : List V} {us : List Value}, Vals ys us → ys.all flatV = true → us.countP (eqU y) = ys.countP fun z => eqV z y
  | _, _, .nil, _ => rfl
  | z :: ys, u :: us, .cons r t, f => by
    rw [List.all_cons, Bool.and_eq_true] at f
    rw [List.countP_cons, List.countP_cons, count_eqU t f.2, eqU_of r f.1]
theorem mt_count : MtR X "list.count" (rCount X.K) := by
  intro pins s σ H x vs v us Q I rx rv h
  obtain ⟨l, ys, y, rfl, rfl, hs, fy, fys, q⟩ := h
  cases rx
  obtain ⟨u, rfl, ru⟩ := L2.Vals.one rv
  obtain ⟨its, rl, ⟨⟨cls, dd, data, sl⟩, n, ho, hc, hdn, hd⟩, hlen⟩ := I.list hs
  simp only at hc hd
  subst hc hd
  refine call_meets PySem.F.slot_list_count ⟨_, ho, rfl⟩ PySem.F.entry_list_count (PySem.F.args_list_count_2 _ _) (SeqAt.list_countAt l its.toArray n dd sl u (eqU y)) ⟨ho, fun u' hu' => mem_eqAt ru fy rl fys u' (by simpa using hu'), ?_⟩
  refine ⟨.int (ys.countP fun z => eqV z y : Nat), H, I.tok _, ⟨s.toks, ?_⟩, q⟩
  show Value.int ((its.toArray.toList.countP (eqU y) : Nat) : Int) s.toks = _
  rw [← count_eqU rl fys]
end
@[simp] def cntM : D → List D → Option (D × D)
  | .lst ds, [y] => if y.flat && ds.all D.flat then some (.lst ds, .int (ds.countP fun z => PyData.eqv z.py y.py : Nat)) else none
  | _, _ => none
theorem flat_cnt {K : PySem.W.Frag} {G : Hp} {e : D} {u : V} (f' : e.flat = true) (h' : Rp K G e u) : ∀ {ds : List D} {vs : List V}, ds.all D.flat = true → RpL K G ds vs → (vs.countP fun z => eqV z u) = ds.countP fun y => PyData.eqv y.py e.py
  | [], vs, _, h => by cases h; rfl
  | d :: ds, vs, f, h => by
    obtain ⟨v, r, rfl, h1, h2⟩ := h
    rw [List.all_cons, Bool.and_eq_true] at f
    rw [List.countP_cons, List.countP_cons, flat_cnt f' h' f.2 h2, flat_eqV f.1 f' h1 h']
section
variable {X : Cx} {W : WX} {x : Str} {p apos cpos : Pos} {e : Expr} {es : List Expr} {Fs : FxL}
theorem mts_cnt {K : PySem.W.Frag} : MtS K cntM (rCount K) := by
  intro H G p d ds xs d' r' Q s gp hm hr e k
  match d, ds, hr, e with
  | .lst es, [y], hr, e =>
    simp only [cntM] at e
    split at e
    · rename_i c
      rw [Bool.and_eq_true] at c
      cases e
      obtain ⟨v, r, rfl, hv, rfl⟩ := hr
      obtain ⟨vs, hp, rl⟩ := hm
      refine ⟨p, vs, v, rfl, rfl, SqL.of hp, flat_V c.1 hv, flat_all c.2 rl, ?_⟩
      rw [flat_cnt c.1 hv c.2 rl]
      exact k _ H (fun _ _ => rfl) ⟨vs, hp, rl⟩ rfl
    · cases e
theorem ex_count {i : Nat} (ho : PE X (.Name x p) (tVar i)) (ha : AX X W (e :: es) Fs) (hbase : attributeBase (.Name x p) "count" X.env (eval (.Name x p) X.env) = eval (.Name x p) X.env := by rfl)
    (hfew : ((backTo cpos (starEach (e :: es) X.env)).all (fun x => !x.1) && (backToKw cpos (keywordEach [] X.env)).all (fun x => x.1.isSome)
      && decide ((e :: es).length + ([] : List Keyword).length + (if ([] : List Keyword).isEmpty then 0 else 1) < 30)) = true := by rfl)
    (hline : (apos.endLine == cpos.line) = true := by rfl) (hs : starEach (e :: es) X.env = (false, eval e X.env) :: starEach es X.env := by rfl) (hplain : (backTo cpos (starEach es X.env)).any (·.1) = false := by rfl) : EX X W (.Call (.Attribute (.Name x p) "count" apos) (e :: es) [] cpos) (mtF cntM i Fs) :=
  ex_mt mt_count mts_cnt PySem.F.slot_list_count PySem.F.type_list_count ho ha fun ho ha => pe_bm PySem.F.plainAttrs_list PySem.F.slot_list_count PySem.F.type_list_count mt_count ho ha hbase hfew hline hs hplain
end
end HF

set_option Elab.async false
set_option linter.all false
set_option maxRecDepth 100000
set_option maxHeartbeats 4000000
set_option autoImplicit false
namespace HF
open PySem PySem.Spec PyProof.Rows L2
end HF
namespace PySem
open PySem
theorem tuple_mul_same (l : Addr) (items : Array Value) (n : Nat) (dd : Option Addr) (sl : Array (Option Value)) (x : Int) (u : Tok) (e0 : (decide (x < -(2 ^ 63)) || decide (x ≥ 2 ^ 63)) = false) (e1 : (items.isEmpty || x == 1) = true) :
    Meets (Builtin.«tuple.__mul__» ⟨[.ref l, .int x u], []⟩) (fun _ R s => s.heap.get? l = some { cls := .type "tuple", dict := dd, data := .seq items n, slots := sl } ∧ R (.ok (.ret (Value.ref l))) s) :=
  .of_wp fun prog w A R s h => by
    obtain ⟨hp, g, d, tk, os⟩ := s
    obtain ⟨at0, hq⟩ := h
    have f1 := AutoSeq1.idx_int
    wp_walk using wpAny_loadPart' at0
    repeat (first
      | (refine wpAny_ite_false (decide_eq_false (by rw [e0]; exact Bool.false_ne_true)) ?_; wp_walk using wpAny_loadPart' at0)
      | (refine wpAny_ite_true (decide_eq_true e1) ?_; wp_walk using wpAny_loadPart' at0))
    exact ⟨_, rfl, hq⟩
end PySem
namespace HF
open PySem PySem.Spec PyProof.Rows L2
/-! a tuple times 1, an empty tuple times a number -/
def rRepT1 (K : PySem.W.Frag) : R2 := fun x y H Q => ∃ l k xs, x = .ref l ∧ y = .int k ∧ SqT K H l xs ∧ (xs = [] ∨ k = 1) ∧ -1000 ≤ k ∧ k ≤ 1000 ∧ Q (.ref l) H
theorem op_repT1 {X : Cx} : OpR X (binaryOp .Mult) (rRepT1 X.K) := by
  intro pins s σ H x y v u Q I rx ry h
  obtain ⟨l, k, xs, rfl, rfl, hT, hc1, k0, k1, q⟩ := h
  cases rx
  obtain ⟨t, rfl⟩ := ry
  obtain ⟨its, r, ⟨⟨cls, dd, data, sl⟩, ho, hc, n, hd⟩, hs⟩ := I.tuple hT
  simp only at hc hd
  subst hc hd
  have ln := r.length
  have e0 : (decide (k < -(2 ^ 63)) || decide (k ≥ 2 ^ 63)) = false := by
    rw [decide_eq_false (by omega), decide_eq_false (by omega)]; rfl
  have e1 : (its.toArray.isEmpty || k == 1) = true := by
    rcases hc1 with rfl | rfl
    · cases its with
      | nil => rfl
      | cons a b => simp at ln
    · simp
  exact wpAny_binaryOp_repeat_ref (T := "tuple") (U := "int") (by decide) ⟨_, ho, rfl⟩ (fun s' => typeIs_int s' k t) noFill_tuple_mul F.fills_int_mul F.slot_int_rmul repeat_tuple F.slot_int_index.lookup
    (call_meets F.slot_int_rmul (typeIs_int s k t) F.entry_int_rmul (F.args_int_rmul_2 _ _) (int_rmul_tuple k t l its.toArray n dd sl)
      ⟨ho, rfl, ⟨_, ho, rfl⟩, call_meets F.slot_tuple_mul ⟨_, ho, rfl⟩ F.entry_tuple_mul (F.args_tuple_mul_2 _ _) (tuple_mul_same l its.toArray n dd sl k t e0 e1) ⟨ho, .ref l, H, I, rfl, q⟩⟩)
@[simp] def mulTD : D → D → Gr
  | .tup xs, .int k => if decide ((xs = [] ∨ k = 1) ∧ -1000 ≤ k ∧ k ≤ 1000) then .im (.tup xs) else if decide (xs ≠ [] ∧ 2 ≤ k ∧ k ≤ 1000 ∧ xs.length ≤ 1000) then .im (.tup (List.replicate k.toNat xs).flatten) else .stk
  | _, _ => .stk
theorem snd_mulT {X : Cx} : OpSound X.K mulTD (fun x y H Q => rRepT1 X.K x y H Q ∨ rRepT X.K x y H Q) := by
  intro H G x y a b Q s ha hb hq
  cases a with
  | tup as =>
    cases b with
    | int k =>
      obtain ⟨p, xs, rfl, h1, h2⟩ := ha.tup s
      have ln := h2.length
      by_cases c : (as = [] ∨ k = 1) ∧ -1000 ≤ k ∧ k ≤ 1000
      · simp only [mulTD, decide_eq_true c, if_true] at hq
        refine .inl ⟨p, k, xs, rfl, hb.int, h1, ?_, c.2.1, c.2.2, hq.same s ha.tup0⟩
        rcases c.1 with z | z
        · left; subst z; exact List.eq_nil_of_length_eq_zero ln
        · exact .inr z
      · simp only [mulTD, decide_eq_false c, Bool.false_eq_true, if_false] at hq
        obtain ⟨c, hq⟩ := GrPost.cond hq
        have c := of_decide_eq_true c
        refine .inr ⟨p, k, xs, rfl, hb.int, h1, fun e => ?_, c.2.1, c.2.2.1, by rw [ln]; exact c.2.2.2, fun q hq' => hq.newT s (h2.rep _) hq'⟩
        subst e
        exact c.1 (List.eq_nil_of_length_eq_zero ln.symm)
    | _ => exact hq.elim
  | _ => cases b <;> exact hq.elim
theorem ex_mulT {X : Cx} {W : WX} {a b : Expr} {Fa Fb : Fx} {pos : Pos} (ha : EX X W a Fa) (hb : EX X W b Fb) : EX X W (.BinOp a .Mult b pos) (op2F mulTD Fa Fb) := ex_op (op_repT1.or op_repT) snd_mulT ha hb
end HF

set_option Elab.async false
set_option linter.all false
set_option maxRecDepth 100000
set_option maxHeartbeats 4000000
set_option autoImplicit false
namespace HFL
open PySem PySem.Spec PyProof.Rows L2 HF
def topS (i : Nat) : Stmt := PySem.Challenge.pw_halfrun_k03_good_programs.main.body.getD i (.Pass ⟨0, 0, 0, 0⟩)
abbrev s_is_whole : Stmt := topS 3
abbrev N_is_whole : List Str := ["thing"]
theorem sc_is_whole : FnScope N_is_whole ["thing"] (defScope s_is_whole) := ⟨rfl, rfl, rfl, by decide +kernel, rfl, by decide +kernel, by decide +kernel⟩
def b_is_whole (c_MOST_NUMBER : D) : Sx := (retS (andF (blF isiG (consF (vF 0) (consF (cF (.ty .int)) nilF))) (andF (notF (blF isiG (consF (vF 0) (consF (cF (.ty .bool)) nilF)))) (op2F ltD (blF absG (consF (vF 0) nilF)) (cF c_MOST_NUMBER)))))
theorem ok_is_whole {P : Program} {w : World} {K : PySem.W.Frag} {mg : Str → Option Value} {base : Heap} {f : Addr} {fd : FuncData} {k : Nat} (B : Blt mg) (F : Fun K "is_whole" "is_whole" s_is_whole f fd) (hm : mg "is_whole" = some (.ref f)) (hb : Binds K fd ["thing"] []) {c_MOST_NUMBER : D} (g_MOST_NUMBER : GConst K mg "MOST_NUMBER" c_MOST_NUMBER) : Cal P w K mg base (k + 1) "is_whole" 1 (runF 1 (b_is_whole c_MOST_NUMBER)) := by
  refine fn_cal F sc_is_whole hm hb rfl (by decide) fun cdv A outer s H E hr => ?_
  have hu := hu65 hr
  have nd := sc_is_whole.nd
  have tk := L2N.takes_of (X := cxOf (L2N.CX P w) P w K mg base N_is_whole "is_whole" (defScope s_is_whole) f cdv A outer s H E) (E := E) rfl rfl rfl rfl
  exact (sts_one (st_ret (ex_and (ex_isi (B _ (by decide)) (ax_cons (ex_var 0) (ax_cons (ex_ty (t := .int) (B _ (by decide))) ax_nil))) (ex_and (ex_not (ex_isi (B _ (by decide)) (ax_cons (ex_var 0) (ax_cons (ex_ty (t := .bool) (B _ (by decide))) ax_nil)))) (ex_one (ex_lt (ex_abs (B _ (by decide)) (ax_cons (ex_var 0) ax_nil)) (ex_gc g_MOST_NUMBER)))))))
abbrev s_is_value : Stmt := topS 4
abbrev N_is_value : List Str := ["thing", "count", "left", "one"]
theorem sc_is_value : FnScope N_is_value ["thing"] (defScope s_is_value) := ⟨rfl, rfl, rfl, by decide +kernel, rfl, by decide +kernel, by decide +kernel⟩
def C0_is_value (f_is_whole : List Ar → FR) (w_0 : List Sl → Nat) (c_MOST_WEIGHT : D) : Fx := (op2F neD (vF 2) (lstF nilF))
def L0_is_value (f_is_whole : List Ar → FR) (w_0 : List Sl → Nat) (c_MOST_WEIGHT : D) : Sx := (seqS (asgS 3 (mtF popM 2 nilF))
    (seqS (asgS 1 (op2F addD (vF 1) (cF (.int 1))))
    (seqS (ifS (orF (op2F gtD (vF 1) (cF c_MOST_WEIGHT)) (andF (notF (blF isiG (consF (vF 3) (consF (cF (.ty .tuple)) nilF)))) (notF (callF [false] f_is_whole (consF (vF 3) nilF))))) (retS (cF (.bl false))) passS)
    (ifS (blF isiG (consF (vF 3) (consF (cF (.ty .tuple)) nilF))) (exprS (mtF extM 2 (consF (vF 3) nilF))) passS))))
def b_is_value (f_is_whole : List Ar → FR) (w_0 : List Sl → Nat) (c_MOST_WEIGHT : D) : Sx := (seqS (asgS 1 (cF (.int 0)))
    (seqS (asgS 2 (lstF (consF (vF 0) nilF)))
    (seqS (whileS w_0 (C0_is_value f_is_whole w_0 c_MOST_WEIGHT) (L0_is_value f_is_whole w_0 c_MOST_WEIGHT))
    (retS (cF (.bl true))))))
theorem ok_is_value {P : Program} {w : World} {K : PySem.W.Frag} {mg : Str → Option Value} {base : Heap} {f : Addr} {fd : FuncData} {k : Nat} (B : Blt mg) (F : Fun K "is_value" "is_value" s_is_value f fd) (hm : mg "is_value" = some (.ref f)) (hb : Binds K fd ["thing"] []) {f_is_whole : List Ar → FR} {k_is_whole : Nat} (h_is_whole : Cal P w K mg base k_is_whole "is_whole" 1 f_is_whole) (l_is_whole : k_is_whole ≤ k) (w_0 : List Sl → Nat) {c_MOST_WEIGHT : D} (g_MOST_WEIGHT : GConst K mg "MOST_WEIGHT" c_MOST_WEIGHT) : Cal P w K mg base (k + 1) "is_value" 1 (runF 4 (b_is_value f_is_whole w_0 c_MOST_WEIGHT)) := by
  refine fn_cal F sc_is_value hm hb rfl (by decide) fun cdv A outer s H E hr => ?_
  have hu := hu65 hr
  have nd := sc_is_value.nd
  have tk := L2N.takes_of (X := cxOf (L2N.CX P w) P w K mg base N_is_value "is_value" (defScope s_is_value) f cdv A outer s H E) (E := E) rfl rfl rfl rfl
  exact (sts_cons (st_set (i := 1) nd ex_int)
    (sts_cons (st_set (i := 2) nd (ex_lst (ax_cons (ex_var 0) ax_nil)))
    (sts_cons (st_while w_0 (passes_of rfl) (tx_cmp (op_neA hu) snd_ne (ex_var 2) (ex_lst ax_nil) (nomark _)) (sts_cons (st_set (i := 3) nd (ex_pop (pv 2)))
    (sts_cons (st_set (i := 1) nd (ex_add (ex_var 1) ex_int))
    (sts_cons (st_if (tx_w (tw_or (tx_cmp (op_gt) snd_gt (ex_var 1) (ex_gc g_MOST_WEIGHT) (nomark _)) (tw_or1 (tx_w (tw_and (tx_not (tx_val (ex_isi (B _ (by decide)) (ax_cons (ex_var 3) (ax_cons (ex_ty (t := .tuple) (B _ (by decide))) ax_nil))))) (tw_and1 (tx_not (tx_val (ex_call (sg := [false]) h_is_whole hr l_is_whole tk rfl (ax_cons (ex_var 3) ax_nil)))))))))) (sts_one (st_ret ex_bl)) sts_nil)
    (sts_one (st_if (tx_val (ex_isi (B _ (by decide)) (ax_cons (ex_var 3) (ax_cons (ex_ty (t := .tuple) (B _ (by decide))) ax_nil)))) (sts_one (st_expr (ex_extend (pv 2) (ax_cons (ex_var 3) ax_nil)))) sts_nil))))))
    (sts_one (st_ret ex_bl)))))
abbrev s_takes : Stmt := topS 10
abbrev N_takes : List Str := ["operation", "many"]
theorem sc_takes : FnScope N_takes ["operation", "many"] (defScope s_takes) := ⟨rfl, rfl, rfl, by decide +kernel, rfl, by decide +kernel, by decide +kernel⟩
def b_takes (c_MOST_PARTS : D) (c_ALONE : D) : Sx := (seqS (ifS (op2F eqD (vF 0) (cF (.str "list"))) (retS (op2F leD (vF 1) (cF c_MOST_PARTS))) passS)
    (seqS (ifS (op2F inD (vF 0) (cF c_ALONE)) (retS (op2F eqD (vF 1) (cF (.int 1)))) passS)
    (retS (op2F eqD (vF 1) (cF (.int 2))))))
theorem ok_takes {P : Program} {w : World} {K : PySem.W.Frag} {mg : Str → Option Value} {base : Heap} {f : Addr} {fd : FuncData} {k : Nat} (B : Blt mg) (F : Fun K "takes" "takes" s_takes f fd) (hm : mg "takes" = some (.ref f)) (hb : Binds K fd ["operation", "many"] []) {c_MOST_PARTS : D} (g_MOST_PARTS : GConst K mg "MOST_PARTS" c_MOST_PARTS) {c_ALONE : D} (g_ALONE : GConst K mg "ALONE" c_ALONE) : Cal P w K mg base (k + 1) "takes" 2 (runF 2 (b_takes c_MOST_PARTS c_ALONE)) := by
  refine fn_cal F sc_takes hm hb rfl (by decide) fun cdv A outer s H E hr => ?_
  have hu := hu65 hr
  have nd := sc_takes.nd
  have tk := L2N.takes_of (X := cxOf (L2N.CX P w) P w K mg base N_takes "takes" (defScope s_takes) f cdv A outer s H E) (E := E) rfl rfl rfl rfl
  exact (sts_cons (st_if (tx_cmp (op_eqA hu) snd_eq (ex_var 0) ex_str (nomark _)) (sts_one (st_ret (ex_le (ex_var 1) (ex_gc g_MOST_PARTS)))) sts_nil)
    (sts_cons (st_if (tx_cmp (op_inA hu) snd_in (ex_var 0) (ex_gc g_ALONE) rfl) (sts_one (st_ret (ex_eq hu (ex_var 1) ex_int))) sts_nil)
    (sts_one (st_ret (ex_eq hu (ex_var 1) ex_int)))))
abbrev s_is_name : Stmt := topS 18
abbrev N_is_name : List Str := ["thing", "sign"]
theorem sc_is_name : FnScope N_is_name ["thing"] (defScope s_is_name) := ⟨rfl, rfl, rfl, by decide +kernel, rfl, by decide +kernel, by decide +kernel⟩
def E0_is_name (c_MOST_SIGNS : D) (c_LETTERS : D) (c_OPERATIONS : D) (c_FIGURES : D) : Fx := (orF (op2F inD (vF 1) (cF c_LETTERS)) (op2F inD (vF 1) (cF c_FIGURES)))
def b_is_name (c_MOST_SIGNS : D) (c_LETTERS : D) (c_OPERATIONS : D) (c_FIGURES : D) : Sx := (seqS (ifS (orF (notF (blF isiG (consF (vF 0) (consF (cF (.ty .str)) nilF)))) (orF (notF (chainF leD leD (cF (.int 1)) (blF lenG (consF (vF 0) nilF)) (cF c_MOST_SIGNS))) (op2F notInD (op2F ixD (vF 0) (cF (.int 0))) (cF c_LETTERS)))) (retS (cF (.bl false))) passS)
    (seqS (ifS (orF (op2F inD (vF 0) (cF c_OPERATIONS)) (orF (op2F eqD (vF 0) (cF (.str "if"))) (op2F eqD (vF 0) (cF (.str "refuse"))))) (retS (cF (.bl false))) passS)
    (retS (blF allG (consF (lcF (strS' (vF 0)) (Tg.F (.nm 1)) yesF (E0_is_name c_MOST_SIGNS c_LETTERS c_OPERATIONS c_FIGURES) [1]) nilF)))))
theorem ok_is_name {P : Program} {w : World} {K : PySem.W.Frag} {mg : Str → Option Value} {base : Heap} {f : Addr} {fd : FuncData} {k : Nat} (B : Blt mg) (F : Fun K "is_name" "is_name" s_is_name f fd) (hm : mg "is_name" = some (.ref f)) (hb : Binds K fd ["thing"] []) {c_MOST_SIGNS : D} (g_MOST_SIGNS : GConst K mg "MOST_SIGNS" c_MOST_SIGNS) {c_LETTERS : D} (g_LETTERS : GConst K mg "LETTERS" c_LETTERS) {c_OPERATIONS : D} (g_OPERATIONS : GConst K mg "OPERATIONS" c_OPERATIONS) {c_FIGURES : D} (g_FIGURES : GConst K mg "FIGURES" c_FIGURES) : Cal P w K mg base (k + 1) "is_name" 1 (runF 2 (b_is_name c_MOST_SIGNS c_LETTERS c_OPERATIONS c_FIGURES)) := by
  refine fn_cal F sc_is_name hm hb rfl (by decide) fun cdv A outer s H E hr => ?_
  have hu := hu65 hr
  have nd := sc_is_name.nd
  have tk := L2N.takes_of (X := cxOf (L2N.CX P w) P w K mg base N_is_name "is_name" (defScope s_is_name) f cdv A outer s H E) (E := E) rfl rfl rfl rfl
  exact (sts_cons (st_if (tx_w (tw_or (tx_not (tx_val (ex_isi (B _ (by decide)) (ax_cons (ex_var 0) (ax_cons (ex_ty (t := .str) (B _ (by decide))) ax_nil))))) (tw_or (tx_not (tx_chain (op_le) snd_le (op_le) snd_le ex_int (ex_len (B _ (by decide)) (ax_cons (ex_var 0) ax_nil)) (ex_gc g_MOST_SIGNS))) (tw_or1 (tx_cmp (op_notinA hu) snd_notin (ex_item (ex_var 0) ex_int) (ex_gc g_LETTERS) rfl))))) (sts_one (st_ret ex_bl)) sts_nil)
    (sts_cons (st_if (tx_w (tw_or (tx_cmp (op_inA hu) snd_in (ex_var 0) (ex_gc g_OPERATIONS) rfl) (tw_or (tx_cmp (op_eqA hu) snd_eq (ex_var 0) ex_str (nomark _)) (tw_or1 (tx_cmp (op_eqA hu) snd_eq (ex_var 0) ex_str (nomark _)))))) (sts_one (st_ret ex_bl)) sts_nil)
    (sts_one (st_ret (ex_all rfl (B _ (by decide)) (ax_cons (ex_lc rfl nd (sx_str (ex_var 0)) (blkOk_by (own := [("sign", 1)]) (N := N_is_name) (sc := defScope s_is_name) (by decide +kernel)) (fun _ _ _ _ _ => (pgt_name (i := 1) nd)) (fun _ _ _ _ _ => ltx_nil) (fun _ _ _ _ _ => (ex_or (ex_in hu (ex_var 1) (ex_gc g_LETTERS)) (ex_one (ex_in hu (ex_var 1) (ex_gc g_FIGURES)))))) ax_nil))))))
abbrev s_function_of : Stmt := topS 19
abbrev N_function_of : List Str := ["program", "name", "function"]
theorem sc_function_of : FnScope N_function_of ["program", "name"] (defScope s_function_of) := ⟨rfl, rfl, rfl, by decide +kernel, rfl, by decide +kernel, by decide +kernel⟩
def L0_function_of : Sx := (ifS (op2F eqD (op2F ixD (vF 2) (cF (.int 0))) (vF 1)) (retS (vF 2)) passS)
def b_function_of : Sx := (seqS (forS (seqS' (vF 0)) (Tg.F (.nm 2)) (L0_function_of))
    (retS (cF .non)))
theorem ok_function_of {P : Program} {w : World} {K : PySem.W.Frag} {mg : Str → Option Value} {base : Heap} {f : Addr} {fd : FuncData} {k : Nat} (B : Blt mg) (F : Fun K "function_of" "function_of" s_function_of f fd) (hm : mg "function_of" = some (.ref f)) (hb : Binds K fd ["program", "name"] []) : Cal P w K mg base (k + 1) "function_of" 2 (runF 3 (b_function_of)) := by
  refine fn_cal F sc_function_of hm hb rfl (by decide) fun cdv A outer s H E hr => ?_
  have hu := hu65 hr
  have nd := sc_function_of.nd
  have tk := L2N.takes_of (X := cxOf (L2N.CX P w) P w K mg base N_function_of "function_of" (defScope s_function_of) f cdv A outer s H E) (E := E) rfl rfl rfl rfl
  exact (sts_cons (st_for (passes_of rfl) rfl (sx_seq (ex_var 0)) (Tg.gx (t := (.nm 2)) (pgt_name (i := 2) nd)) (sts_one (st_if (tx_cmp (op_eqA hu) snd_eq (ex_item (ex_var 2) ex_int) (ex_var 1) (nomark _)) (sts_one (st_ret (ex_var 2))) sts_nil)))
    (sts_one (st_ret ex_non)))
abbrev s_parts_of : Stmt := topS 20
abbrev N_parts_of : List Str := ["form"]
theorem sc_parts_of : FnScope N_parts_of ["form"] (defScope s_parts_of) := ⟨rfl, rfl, rfl, by decide +kernel, rfl, by decide +kernel, by decide +kernel⟩
def b_parts_of : Sx := (seqS (ifS (op2F eqD (op2F ixD (vF 0) (cF (.int 0))) (cF (.str "if"))) (retS (blF lstG (consF (slF (vF 0) (someO (cF (.int 1))) noneO) nilF))) passS)
    (seqS (ifS (orF (op2F eqD (op2F ixD (vF 0) (cF (.int 0))) (cF (.str "call"))) (op2F eqD (op2F ixD (vF 0) (cF (.int 0))) (cF (.str "do")))) (retS (blF lstG (consF (op2F ixD (vF 0) (cF (.int 2))) nilF))) passS)
    (retS (lstF nilF))))
theorem ok_parts_of {P : Program} {w : World} {K : PySem.W.Frag} {mg : Str → Option Value} {base : Heap} {f : Addr} {fd : FuncData} {k : Nat} (B : Blt mg) (F : Fun K "parts_of" "parts_of" s_parts_of f fd) (hm : mg "parts_of" = some (.ref f)) (hb : Binds K fd ["form"] []) : Cal P w K mg base (k + 1) "parts_of" 1 (runF 1 (b_parts_of)) := by
  refine fn_cal F sc_parts_of hm hb rfl (by decide) fun cdv A outer s H E hr => ?_
  have hu := hu65 hr
  have nd := sc_parts_of.nd
  have tk := L2N.takes_of (X := cxOf (L2N.CX P w) P w K mg base N_parts_of "parts_of" (defScope s_parts_of) f cdv A outer s H E) (E := E) rfl rfl rfl rfl
  exact (sts_cons (st_if (tx_cmp (op_eqA hu) snd_eq (ex_item (ex_var 0) ex_int) ex_str (nomark _)) (sts_one (st_ret (ex_lstC (B _ (by decide)) (ax_cons (ex_slice (ex_var 0) (ox_some ex_int) ox_none) ax_nil)))) sts_nil)
    (sts_cons (st_if (tx_w (tw_or (tx_cmp (op_eqA hu) snd_eq (ex_item (ex_var 0) ex_int) ex_str (nomark _)) (tw_or1 (tx_cmp (op_eqA hu) snd_eq (ex_item (ex_var 0) ex_int) ex_str (nomark _))))) (sts_one (st_ret (ex_lstC (B _ (by decide)) (ax_cons (ex_item (ex_var 0) ex_int) ax_nil)))) sts_nil)
    (sts_one (st_ret (ex_lst ax_nil)))))
abbrev s_is_leaf : Stmt := topS 21
abbrev N_is_leaf : List Str := ["form", "names"]
theorem sc_is_leaf : FnScope N_is_leaf ["form", "names"] (defScope s_is_leaf) := ⟨rfl, rfl, rfl, by decide +kernel, rfl, by decide +kernel, by decide +kernel⟩
def b_is_leaf (f_is_value : List Ar → FR) (c_WORDS : D) : Sx := (seqS (ifS (op2F neD (blF lenG (consF (vF 0) nilF)) (cF (.int 2))) (retS (cF (.bl false))) passS)
    (seqS (ifS (op2F eqD (op2F ixD (vF 0) (cF (.int 0))) (cF (.str "value"))) (retS (callF [false] f_is_value (consF (op2F ixD (vF 0) (cF (.int 1))) nilF))) passS)
    (seqS (ifS (op2F eqD (op2F ixD (vF 0) (cF (.int 0))) (cF (.str "name"))) (retS (op2F inD (op2F ixD (vF 0) (cF (.int 1))) (vF 1))) passS)
    (retS (andF (op2F eqD (op2F ixD (vF 0) (cF (.int 0))) (cF (.str "refuse"))) (op2F inD (op2F ixD (vF 0) (cF (.int 1))) (cF c_WORDS)))))))
theorem ok_is_leaf {P : Program} {w : World} {K : PySem.W.Frag} {mg : Str → Option Value} {base : Heap} {f : Addr} {fd : FuncData} {k : Nat} (B : Blt mg) (F : Fun K "is_leaf" "is_leaf" s_is_leaf f fd) (hm : mg "is_leaf" = some (.ref f)) (hb : Binds K fd ["form", "names"] []) {f_is_value : List Ar → FR} {k_is_value : Nat} (h_is_value : Cal P w K mg base k_is_value "is_value" 1 f_is_value) (l_is_value : k_is_value ≤ k) {c_WORDS : D} (g_WORDS : GConst K mg "WORDS" c_WORDS) : Cal P w K mg base (k + 1) "is_leaf" 2 (runF 2 (b_is_leaf f_is_value c_WORDS)) := by
  refine fn_cal F sc_is_leaf hm hb rfl (by decide) fun cdv A outer s H E hr => ?_
  have hu := hu65 hr
  have nd := sc_is_leaf.nd
  have tk := L2N.takes_of (X := cxOf (L2N.CX P w) P w K mg base N_is_leaf "is_leaf" (defScope s_is_leaf) f cdv A outer s H E) (E := E) rfl rfl rfl rfl
  exact (sts_cons (st_if (tx_cmp (op_neA hu) snd_ne (ex_len (B _ (by decide)) (ax_cons (ex_var 0) ax_nil)) ex_int (nomark _)) (sts_one (st_ret ex_bl)) sts_nil)
    (sts_cons (st_if (tx_cmp (op_eqA hu) snd_eq (ex_item (ex_var 0) ex_int) ex_str (nomark _)) (sts_one (st_ret (ex_call (sg := [false]) h_is_value hr l_is_value tk rfl (ax_cons (ex_item (ex_var 0) ex_int) ax_nil)))) sts_nil)
    (sts_cons (st_if (tx_cmp (op_eqA hu) snd_eq (ex_item (ex_var 0) ex_int) ex_str (nomark _)) (sts_one (st_ret (ex_in hu (ex_item (ex_var 0) ex_int) (ex_var 1)))) sts_nil)
    (sts_one (st_ret (ex_and (ex_eq hu (ex_item (ex_var 0) ex_int) ex_str) (ex_one (ex_in hu (ex_item (ex_var 0) ex_int) (ex_gc g_WORDS)))))))))
abbrev s_is_good_head : Stmt := topS 22
abbrev N_is_good_head : List Str := ["program", "form", "names"]
theorem sc_is_good_head : FnScope N_is_good_head ["program", "form", "names"] (defScope s_is_good_head) := ⟨rfl, rfl, rfl, by decide +kernel, rfl, by decide +kernel, by decide +kernel⟩
def b_is_good_head (f_takes : List Ar → FR) (f_function_of : List Ar → FR) (f_is_leaf : List Ar → FR) (c_OPERATIONS : D) : Sx := (seqS (ifS (op2F eqD (op2F ixD (vF 1) (cF (.int 0))) (cF (.str "if"))) (retS (op2F eqD (blF lenG (consF (vF 1) nilF)) (cF (.int 4)))) passS)
    (seqS (ifS (op2F eqD (op2F ixD (vF 1) (cF (.int 0))) (cF (.str "do"))) (retS (andF (op2F eqD (blF lenG (consF (vF 1) nilF)) (cF (.int 3))) (andF (op2F inD (op2F ixD (vF 1) (cF (.int 1))) (cF c_OPERATIONS)) (callF [false, false] f_takes (consF (op2F ixD (vF 1) (cF (.int 1))) (consF (blF lenG (consF (op2F ixD (vF 1) (cF (.int 2))) nilF)) nilF)))))) passS)
    (seqS (ifS (op2F eqD (op2F ixD (vF 1) (cF (.int 0))) (cF (.str "call"))) (seqS (ifS (orF (op2F neD (blF lenG (consF (vF 1) nilF)) (cF (.int 3))) (op2F isD (callF [false, false] f_function_of (consF (vF 0) (consF (op2F ixD (vF 1) (cF (.int 1))) nilF))) (cF .non))) (retS (cF (.bl false))) passS)
    (retS (op2F eqD (blF lenG (consF (op2F ixD (callF [false, false] f_function_of (consF (vF 0) (consF (op2F ixD (vF 1) (cF (.int 1))) nilF))) (cF (.int 1))) nilF)) (blF lenG (consF (op2F ixD (vF 1) (cF (.int 2))) nilF))))) passS)
    (retS (callF [false, false] f_is_leaf (consF (vF 1) (consF (vF 2) nilF)))))))
theorem ok_is_good_head {P : Program} {w : World} {K : PySem.W.Frag} {mg : Str → Option Value} {base : Heap} {f : Addr} {fd : FuncData} {k : Nat} (B : Blt mg) (F : Fun K "is_good_head" "is_good_head" s_is_good_head f fd) (hm : mg "is_good_head" = some (.ref f)) (hb : Binds K fd ["program", "form", "names"] []) {f_takes : List Ar → FR} {k_takes : Nat} (h_takes : Cal P w K mg base k_takes "takes" 2 f_takes) (l_takes : k_takes ≤ k) {f_function_of : List Ar → FR} {k_function_of : Nat} (h_function_of : Cal P w K mg base k_function_of "function_of" 2 f_function_of) (l_function_of : k_function_of ≤ k) {f_is_leaf : List Ar → FR} {k_is_leaf : Nat} (h_is_leaf : Cal P w K mg base k_is_leaf "is_leaf" 2 f_is_leaf) (l_is_leaf : k_is_leaf ≤ k) {c_OPERATIONS : D} (g_OPERATIONS : GConst K mg "OPERATIONS" c_OPERATIONS) : Cal P w K mg base (k + 1) "is_good_head" 3 (runF 3 (b_is_good_head f_takes f_function_of f_is_leaf c_OPERATIONS)) := by
  refine fn_cal F sc_is_good_head hm hb rfl (by decide) fun cdv A outer s H E hr => ?_
  have hu := hu65 hr
  have nd := sc_is_good_head.nd
  have tk := L2N.takes_of (X := cxOf (L2N.CX P w) P w K mg base N_is_good_head "is_good_head" (defScope s_is_good_head) f cdv A outer s H E) (E := E) rfl rfl rfl rfl
  exact (sts_cons (st_if (tx_cmp (op_eqA hu) snd_eq (ex_item (ex_var 1) ex_int) ex_str (nomark _)) (sts_one (st_ret (ex_eq hu (ex_len (B _ (by decide)) (ax_cons (ex_var 1) ax_nil)) ex_int))) sts_nil)
    (sts_cons (st_if (tx_cmp (op_eqA hu) snd_eq (ex_item (ex_var 1) ex_int) ex_str (nomark _)) (sts_one (st_ret (ex_and (ex_eq hu (ex_len (B _ (by decide)) (ax_cons (ex_var 1) ax_nil)) ex_int) (ex_and (ex_in hu (ex_item (ex_var 1) ex_int) (ex_gc g_OPERATIONS)) (ex_one (ex_call (sg := [false, false]) h_takes hr l_takes tk rfl (ax_cons (ex_item (ex_var 1) ex_int) (ax_cons (ex_len (B _ (by decide)) (ax_cons (ex_item (ex_var 1) ex_int) ax_nil)) ax_nil)))))))) sts_nil)
    (sts_cons (st_if (tx_cmp (op_eqA hu) snd_eq (ex_item (ex_var 1) ex_int) ex_str (nomark _)) (sts_cons (st_if (tx_w (tw_or (tx_cmp (op_neA hu) snd_ne (ex_len (B _ (by decide)) (ax_cons (ex_var 1) ax_nil)) ex_int (nomark _)) (tw_or1 (tx_cmp (op_isA) snd_is (ex_call (sg := [false, false]) h_function_of hr l_function_of tk rfl (ax_cons (ex_var 0) (ax_cons (ex_item (ex_var 1) ex_int) ax_nil))) ex_non (nomark _))))) (sts_one (st_ret ex_bl)) sts_nil)
    (sts_one (st_ret (ex_eq hu (ex_len (B _ (by decide)) (ax_cons (ex_item (ex_call (sg := [false, false]) h_function_of hr l_function_of tk rfl (ax_cons (ex_var 0) (ax_cons (ex_item (ex_var 1) ex_int) ax_nil))) ex_int) ax_nil)) (ex_len (B _ (by decide)) (ax_cons (ex_item (ex_var 1) ex_int) ax_nil)))))) sts_nil)
    (sts_one (st_ret (ex_call (sg := [false, false]) h_is_leaf hr l_is_leaf tk rfl (ax_cons (ex_var 1) (ax_cons (ex_var 2) ax_nil))))))))
abbrev s_is_good_form : Stmt := topS 23
abbrev N_is_good_form : List Str := ["program", "form", "names", "depth", "part"]
theorem sc_is_good_form : FnScope N_is_good_form ["program", "form", "names", "depth"] (defScope s_is_good_form) := ⟨rfl, rfl, rfl, by decide +kernel, rfl, by decide +kernel, by decide +kernel⟩
def E0_is_good_form (f_is_good_head : List Ar → FR) (f_parts_of : List Ar → FR) (f_is_good_form : List Ar → FR) : Fx := (callF [false, false, false, false] f_is_good_form (consF (vF 0) (consF (vF 4) (consF (vF 2) (consF (op2F subD (vF 3) (cF (.int 1))) nilF)))))
def b_is_good_form (f_is_good_head : List Ar → FR) (f_parts_of : List Ar → FR) (f_is_good_form : List Ar → FR) : Sx := (seqS (ifS (orF (op2F eqD (vF 3) (cF (.int 0))) (notF (callF [false, false, false] f_is_good_head (consF (vF 0) (consF (vF 1) (consF (vF 2) nilF)))))) (retS (cF (.bl false))) passS)
    (retS (blF allG (consF (lcF (seqS' (callF [false] f_parts_of (consF (vF 1) nilF))) (Tg.F (.nm 4)) yesF (E0_is_good_form f_is_good_head f_parts_of f_is_good_form) [4]) nilF))))
theorem ok_is_good_form {P : Program} {w : World} {K : PySem.W.Frag} {mg : Str → Option Value} {base : Heap} {f : Addr} {fd : FuncData} {k : Nat} (B : Blt mg) (F : Fun K "is_good_form" "is_good_form" s_is_good_form f fd) (hm : mg "is_good_form" = some (.ref f)) (hb : Binds K fd ["program", "form", "names", "depth"] []) {f_is_good_head : List Ar → FR} {k_is_good_head : Nat} (h_is_good_head : Cal P w K mg base k_is_good_head "is_good_head" 3 f_is_good_head) (l_is_good_head : k_is_good_head ≤ k) {f_parts_of : List Ar → FR} {k_parts_of : Nat} (h_parts_of : Cal P w K mg base k_parts_of "parts_of" 1 f_parts_of) (l_parts_of : k_parts_of ≤ k) {f_is_good_form : List Ar → FR} {k_is_good_form : Nat} (h_is_good_form : Cal P w K mg base k_is_good_form "is_good_form" 4 f_is_good_form) (l_is_good_form : k_is_good_form ≤ k) : Cal P w K mg base (k + 1) "is_good_form" 4 (runF 5 (b_is_good_form f_is_good_head f_parts_of f_is_good_form)) := by
  refine fn_cal F sc_is_good_form hm hb rfl (by decide) fun cdv A outer s H E hr => ?_
  have hu := hu65 hr
  have nd := sc_is_good_form.nd
  have tk := L2N.takes_of (X := cxOf (L2N.CX P w) P w K mg base N_is_good_form "is_good_form" (defScope s_is_good_form) f cdv A outer s H E) (E := E) rfl rfl rfl rfl
  exact (sts_cons (st_if (tx_w (tw_or (tx_cmp (op_eqA hu) snd_eq (ex_var 3) ex_int (nomark _)) (tw_or1 (tx_not (tx_val (ex_call (sg := [false, false, false]) h_is_good_head hr l_is_good_head tk rfl (ax_cons (ex_var 0) (ax_cons (ex_var 1) (ax_cons (ex_var 2) ax_nil))))))))) (sts_one (st_ret ex_bl)) sts_nil)
    (sts_one (st_ret (ex_all rfl (B _ (by decide)) (ax_cons (ex_lc rfl nd (sx_seq (ex_call (sg := [false]) h_parts_of hr l_parts_of tk rfl (ax_cons (ex_var 1) ax_nil))) (blkOk_by (own := [("part", 4)]) (N := N_is_good_form) (sc := defScope s_is_good_form) (by decide +kernel)) (fun _ _ _ _ _ => (pgt_name (i := 4) nd)) (fun _ _ _ _ _ => ltx_nil) (fun _ _ _ _ _ => (ex_call (sg := [false, false, false, false]) h_is_good_form hr l_is_good_form takes0N rfl (ax_cons (ex_var 0) (ax_cons (ex_var 4) (ax_cons (ex_var 2) (ax_cons (ex_sub (ex_var 3) ex_int) ax_nil))))))) ax_nil)))))
abbrev s_is_good : Stmt := topS 24
abbrev N_is_good : List Str := ["program", "names", "name", "params", "body", "function", "one"]
theorem sc_is_good : FnScope N_is_good ["program"] (defScope s_is_good) := ⟨rfl, rfl, rfl, by decide +kernel, rfl, by decide +kernel, by decide +kernel⟩
def E0_is_good (f_is_name : List Ar → FR) (f_is_good_form : List Ar → FR) (c_MOST_NAMES : D) (c_MOST_DEPTH : D) : Fx := (op2F ixD (vF 5) (cF (.int 0)))
def E1_is_good (f_is_name : List Ar → FR) (f_is_good_form : List Ar → FR) (c_MOST_NAMES : D) (c_MOST_DEPTH : D) : Fx := (callF [false] f_is_name (consF (vF 6) nilF))
def L0_is_good (f_is_name : List Ar → FR) (f_is_good_form : List Ar → FR) (c_MOST_NAMES : D) (c_MOST_DEPTH : D) : Sx := (seqS (ifS (orF (notF (callF [false] f_is_name (consF (vF 2) nilF))) (orF (op2F gtD (blF lenG (consF (vF 3) nilF)) (cF c_MOST_NAMES)) (op2F ltD (blF lsG (consF (vF 3) nilF)) (blF lenG (consF (vF 3) nilF))))) (retS (cF (.bl false))) passS)
    (ifS (orF (notF (blF allG (consF (lcF (seqS' (vF 3)) (Tg.F (.nm 6)) yesF (E1_is_good f_is_name f_is_good_form c_MOST_NAMES c_MOST_DEPTH) [6]) nilF))) (notF (callF [false, false, false, false] f_is_good_form (consF (vF 0) (consF (vF 4) (consF (vF 3) (consF (cF c_MOST_DEPTH) nilF))))))) (retS (cF (.bl false))) passS))
def b_is_good (f_is_name : List Ar → FR) (f_is_good_form : List Ar → FR) (c_MOST_NAMES : D) (c_MOST_DEPTH : D) : Sx := (seqS (asgS 1 (lcF (seqS' (vF 0)) (Tg.F (.nm 5)) yesF (E0_is_good f_is_name f_is_good_form c_MOST_NAMES c_MOST_DEPTH) [5]))
    (seqS (ifS (orF (op2F eqD (vF 1) (lstF nilF)) (op2F ltD (blF lsG (consF (vF 1) nilF)) (blF lenG (consF (vF 1) nilF)))) (retS (cF (.bl false))) passS)
    (seqS (forS (seqS' (vF 0)) (Tg.F (.tp [2, 3, 4])) (L0_is_good f_is_name f_is_good_form c_MOST_NAMES c_MOST_DEPTH))
    (retS (cF (.bl true))))))
theorem ok_is_good {P : Program} {w : World} {K : PySem.W.Frag} {mg : Str → Option Value} {base : Heap} {f : Addr} {fd : FuncData} {k : Nat} (B : Blt mg) (F : Fun K "is_good" "is_good" s_is_good f fd) (hm : mg "is_good" = some (.ref f)) (hb : Binds K fd ["program"] []) {f_is_name : List Ar → FR} {k_is_name : Nat} (h_is_name : Cal P w K mg base k_is_name "is_name" 1 f_is_name) (l_is_name : k_is_name ≤ k) {f_is_good_form : List Ar → FR} {k_is_good_form : Nat} (h_is_good_form : Cal P w K mg base k_is_good_form "is_good_form" 4 f_is_good_form) (l_is_good_form : k_is_good_form ≤ k) {c_MOST_NAMES : D} (g_MOST_NAMES : GConst K mg "MOST_NAMES" c_MOST_NAMES) {c_MOST_DEPTH : D} (g_MOST_DEPTH : GConst K mg "MOST_DEPTH" c_MOST_DEPTH) : Cal P w K mg base (k + 1) "is_good" 1 (runF 7 (b_is_good f_is_name f_is_good_form c_MOST_NAMES c_MOST_DEPTH)) := by
  refine fn_cal F sc_is_good hm hb rfl (by decide) fun cdv A outer s H E hr => ?_
  have hu := hu65 hr
  have nd := sc_is_good.nd
  have tk := L2N.takes_of (X := cxOf (L2N.CX P w) P w K mg base N_is_good "is_good" (defScope s_is_good) f cdv A outer s H E) (E := E) rfl rfl rfl rfl
  exact (sts_cons (st_setLc (i := 1) rfl nd (sw_true rfl rfl rfl (by decide +kernel)) (sx_seq (ex_var 0)) (blkOk_by (own := [("function", 5)]) (N := N_is_good) (sc := defScope s_is_good) (by decide +kernel)) (fun _ _ _ _ _ => (pgt_name (i := 5) nd)) (fun _ _ _ _ _ => ltx_nil) (fun _ _ _ _ _ => (ex_item (ex_var 5) ex_int)))
    (sts_cons (st_if (tx_w (tw_or (tx_cmp (op_eqA hu) snd_eq (ex_var 1) (ex_lst ax_nil) (nomark _)) (tw_or1 (tx_cmp (op_lt) snd_lt (ex_lenSet rfl (B _ (by decide)) (B _ (by decide)) (ax_cons (ex_var 1) ax_nil)) (ex_len (B _ (by decide)) (ax_cons (ex_var 1) ax_nil)) (nomark _))))) (sts_one (st_ret ex_bl)) sts_nil)
    (sts_cons (st_for (passes_of rfl) rfl (sx_seq (ex_var 0)) (Tg.gx (t := (.tp [2, 3, 4])) (pgt_tup rfl (pgts_cons (i := 2) nd (pgts_cons (i := 3) nd (pgts_cons (i := 4) nd pgts_nil))))) (sts_cons (st_if (tx_w (tw_or (tx_not (tx_val (ex_call (sg := [false]) h_is_name hr l_is_name tk rfl (ax_cons (ex_var 2) ax_nil)))) (tw_or (tx_cmp (op_gt) snd_gt (ex_len (B _ (by decide)) (ax_cons (ex_var 3) ax_nil)) (ex_gc g_MOST_NAMES) (nomark _)) (tw_or1 (tx_cmp (op_lt) snd_lt (ex_lenSet rfl (B _ (by decide)) (B _ (by decide)) (ax_cons (ex_var 3) ax_nil)) (ex_len (B _ (by decide)) (ax_cons (ex_var 3) ax_nil)) (nomark _)))))) (sts_one (st_ret ex_bl)) sts_nil)
    (sts_one (st_if (tx_w (tw_or (tx_not (tx_val (ex_all rfl (B _ (by decide)) (ax_cons (ex_lc rfl nd (sx_seq (ex_var 3)) (blkOk_by (own := [("one", 6)]) (N := N_is_good) (sc := defScope s_is_good) (by decide +kernel)) (fun _ _ _ _ _ => (pgt_name (i := 6) nd)) (fun _ _ _ _ _ => ltx_nil) (fun _ _ _ _ _ => (ex_call (sg := [false]) h_is_name hr l_is_name takes0N rfl (ax_cons (ex_var 6) ax_nil)))) ax_nil)))) (tw_or1 (tx_not (tx_val (ex_call (sg := [false, false, false, false]) h_is_good_form hr l_is_good_form tk rfl (ax_cons (ex_var 0) (ax_cons (ex_var 4) (ax_cons (ex_var 3) (ax_cons (ex_gc g_MOST_DEPTH) ax_nil)))))))))) (sts_one (st_ret ex_bl)) sts_nil))))
    (sts_one (st_ret ex_bl)))))
abbrev s_law_cell_at : Stmt := topS 26
abbrev N_law_cell_at : List Str := ["_law_script", "_law_k"]
theorem sc_law_cell_at : FnScope N_law_cell_at ["_law_script", "_law_k"] (defScope s_law_cell_at) := ⟨rfl, rfl, rfl, by decide +kernel, rfl, by decide +kernel, by decide +kernel⟩
def b_law_cell_at : Sx := (seqS (ifS (op2F ltD (vF 1) (blF lenG (consF (vF 0) nilF))) (retS (op2F ixD (vF 0) (vF 1))) passS)
    (retS (cF (.int 0))))
theorem ok_law_cell_at {P : Program} {w : World} {K : PySem.W.Frag} {mg : Str → Option Value} {base : Heap} {f : Addr} {fd : FuncData} {k : Nat} (B : Blt mg) (F : Fun K "_law_cell_at" "_law_cell_at" s_law_cell_at f fd) (hm : mg "_law_cell_at" = some (.ref f)) (hb : Binds K fd ["_law_script", "_law_k"] []) : Cal P w K mg base (k + 1) "_law_cell_at" 2 (runF 2 (b_law_cell_at)) := by
  refine fn_cal F sc_law_cell_at hm hb rfl (by decide) fun cdv A outer s H E hr => ?_
  have hu := hu65 hr
  have nd := sc_law_cell_at.nd
  have tk := L2N.takes_of (X := cxOf (L2N.CX P w) P w K mg base N_law_cell_at "_law_cell_at" (defScope s_law_cell_at) f cdv A outer s H E) (E := E) rfl rfl rfl rfl
  exact (sts_cons (st_if (tx_cmp (op_lt) snd_lt (ex_var 1) (ex_len (B _ (by decide)) (ax_cons (ex_var 0) ax_nil)) (nomark _)) (sts_one (st_ret (ex_item (ex_var 0) (ex_var 1)))) sts_nil)
    (sts_one (st_ret ex_int)))
abbrev s_law_next : Stmt := topS 27
abbrev N_law_next : List Str := ["_law_pick", "_law_more"]
theorem sc_law_next : FnScope N_law_next ["_law_pick"] (defScope s_law_next) := ⟨rfl, rfl, rfl, by decide +kernel, rfl, by decide +kernel, by decide +kernel⟩
def b_law_next : Sx := (seqS (asgS 1 (op2F modD (op2F addD (op2F mulD (vF 0) (cF (.int 48271))) (cF (.int 11))) (cF (.int 2147483647))))
    (retS (op2F modD (op2F mulD (vF 1) (vF 1)) (cF (.int 2147483629)))))
theorem ok_law_next {P : Program} {w : World} {K : PySem.W.Frag} {mg : Str → Option Value} {base : Heap} {f : Addr} {fd : FuncData} {k : Nat} (B : Blt mg) (F : Fun K "_law_next" "_law_next" s_law_next f fd) (hm : mg "_law_next" = some (.ref f)) (hb : Binds K fd ["_law_pick"] []) : Cal P w K mg base (k + 1) "_law_next" 1 (runF 2 (b_law_next)) := by
  refine fn_cal F sc_law_next hm hb rfl (by decide) fun cdv A outer s H E hr => ?_
  have hu := hu65 hr
  have nd := sc_law_next.nd
  have tk := L2N.takes_of (X := cxOf (L2N.CX P w) P w K mg base N_law_next "_law_next" (defScope s_law_next) f cdv A outer s H E) (E := E) rfl rfl rfl rfl
  exact (sts_cons (st_set (i := 1) nd (ex_mod (ex_add (ex_mul (ex_var 0) ex_int) ex_int) ex_int))
    (sts_one (st_ret (ex_mod (ex_mul (ex_var 1) (ex_var 1)) ex_int))))
abbrev s_law_value : Stmt := topS 28
abbrev N_law_value : List Str := ["_law_pick", "_law_some", "_law_k"]
theorem sc_law_value : FnScope N_law_value ["_law_pick"] (defScope s_law_value) := ⟨rfl, rfl, rfl, by decide +kernel, rfl, by decide +kernel, by decide +kernel⟩
def E0_law_value : Fx := (op2F modD (op2F divD (vF 0) (cF (.int 16))) (op2F addD (vF 2) (cF (.int 2))))
def b_law_value : Sx := (seqS (asgS 1 (lstF (consF (cF (.int 0)) (consF (cF (.int 1)) (consF (cF (.int 2)) (consF (cF (.int 3)) (consF (cF (.int 5)) (consF (negF (cF (.int 1))) (consF (negF (cF (.int 4))) (consF (tupF nilF) (consF (tupF (consF (cF (.int 1)) nilF)) (consF (tupF (consF (cF (.int 2)) (consF (cF (.int 0)) nilF))) (consF (tupF (consF (cF (.int 1)) (consF (cF (.int 2)) (consF (cF (.int 3)) nilF)))) (consF (tupF (consF (tupF nilF) (consF (cF (.int 1)) nilF))) (consF (tupF (consF (tupF (consF (cF (.int 1)) (consF (cF (.int 2)) nilF))) (consF (tupF (consF (cF (.int 3)) nilF)) nilF))) (consF (tupF (consF (cF (.int 4)) (consF (tupF (consF (cF (.int 5)) (consF (tupF (consF (cF (.int 6)) nilF)) nilF))) nilF))) nilF))))))))))))))))
    (seqS (ifS (op2F eqD (op2F modD (vF 0) (cF (.int 16))) (cF (.int 14))) (retS (op2F addD (op2F subD (op2F modD (op2F divD (vF 0) (cF (.int 16))) (op2F subD (op2F mulD (cF (.int 2)) (op2F powD (cF (.int 10)) (cF (.int 18)))) (cF (.int 1)))) (op2F powD (cF (.int 10)) (cF (.int 18)))) (cF (.int 1)))) passS)
    (seqS (ifS (op2F eqD (op2F modD (vF 0) (cF (.int 16))) (cF (.int 15))) (retS (blF tupG (consF (lcF (rngS' rng1 (consF (op2F modD (op2F divD (vF 0) (cF (.int 16))) (cF (.int 9))) nilF)) (Tg.F (.nm 2)) yesF (E0_law_value) [2]) nilF))) passS)
    (retS (op2F ixD (vF 1) (op2F modD (vF 0) (cF (.int 16))))))))
theorem ok_law_value {P : Program} {w : World} {K : PySem.W.Frag} {mg : Str → Option Value} {base : Heap} {f : Addr} {fd : FuncData} {k : Nat} (B : Blt mg) (F : Fun K "_law_value" "_law_value" s_law_value f fd) (hm : mg "_law_value" = some (.ref f)) (hb : Binds K fd ["_law_pick"] []) : Cal P w K mg base (k + 1) "_law_value" 1 (runF 3 (b_law_value)) := by
  refine fn_cal F sc_law_value hm hb rfl (by decide) fun cdv A outer s H E hr => ?_
  have hu := hu65 hr
  have nd := sc_law_value.nd
  have tk := L2N.takes_of (X := cxOf (L2N.CX P w) P w K mg base N_law_value "_law_value" (defScope s_law_value) f cdv A outer s H E) (E := E) rfl rfl rfl rfl
  exact (sts_cons (st_set (i := 1) nd (ex_lst (ax_cons ex_int (ax_cons ex_int (ax_cons ex_int (ax_cons ex_int (ax_cons ex_int (ax_cons (ex_neg ex_int) (ax_cons (ex_neg ex_int) (ax_cons (ex_tup ax_nil) (ax_cons (ex_tup (ax_cons ex_int ax_nil)) (ax_cons (ex_tup (ax_cons ex_int (ax_cons ex_int ax_nil))) (ax_cons (ex_tup (ax_cons ex_int (ax_cons ex_int (ax_cons ex_int ax_nil)))) (ax_cons (ex_tup (ax_cons (ex_tup ax_nil) (ax_cons ex_int ax_nil))) (ax_cons (ex_tup (ax_cons (ex_tup (ax_cons ex_int (ax_cons ex_int ax_nil))) (ax_cons (ex_tup (ax_cons ex_int ax_nil)) ax_nil))) (ax_cons (ex_tup (ax_cons ex_int (ax_cons (ex_tup (ax_cons ex_int (ax_cons (ex_tup (ax_cons ex_int ax_nil)) ax_nil))) ax_nil))) ax_nil))))))))))))))))
    (sts_cons (st_if (tx_cmp (op_eqA hu) snd_eq (ex_mod (ex_var 0) ex_int) ex_int (nomark _)) (sts_one (st_ret (ex_add (ex_sub (ex_mod (ex_div (ex_var 0) ex_int) (ex_sub (ex_mul ex_int (ex_pow ex_int ex_int)) ex_int)) (ex_pow ex_int ex_int)) ex_int))) sts_nil)
    (sts_cons (st_if (tx_cmp (op_eqA hu) snd_eq (ex_mod (ex_var 0) ex_int) ex_int (nomark _)) (sts_one (st_ret (ex_tupC (B _ (by decide)) (ax_cons (ex_lc rfl nd (sx_range1 (B _ (by decide)) (ax_cons (ex_mod (ex_div (ex_var 0) ex_int) ex_int) ax_nil)) (blkOk_by (own := [("_law_k", 2)]) (N := N_law_value) (sc := defScope s_law_value) (by decide +kernel)) (fun _ _ _ _ _ => (pgt_name (i := 2) nd)) (fun _ _ _ _ _ => ltx_nil) (fun _ _ _ _ _ => (ex_mod (ex_div (ex_var 0) ex_int) (ex_add (ex_var 2) ex_int)))) ax_nil)))) sts_nil)
    (sts_one (st_ret (ex_item (ex_var 1) (ex_mod (ex_var 0) ex_int)))))))
abbrev s_law_names : Stmt := topS 29
abbrev N_law_names : List Str := ["_law_cell", "_law_size", "_law_place", "_law_some", "_law_found", "_law_k", "_law_sign"]
theorem sc_law_names : FnScope N_law_names ["_law_cell"] (defScope s_law_names) := ⟨rfl, rfl, rfl, by decide +kernel, rfl, by decide +kernel, by decide +kernel⟩
def E0_law_names : Fx := (op2F ixD (vF 3) (op2F modD (op2F addD (op2F divD (vF 0) (cF (.int 9))) (vF 5)) (cF (.int 12))))
def L0_law_names : Sx := (seqS (asgS 6 (op2F ixD (vF 3) (op2F modD (op2F addD (op2F divD (vF 0) (cF (.int 64))) (vF 5)) (op2F ixD (lstF (consF (cF (.int 26)) (consF (cF (.int 36)) nilF))) (blF intG (consF (op2F gtD (vF 2) (cF (.int 0))) nilF))))))
    (exprS (mtF appM 4 (consF (op2F addD (op2F addD (op2F mulD (cF (.str "m")) (vF 2)) (vF 6)) (op2F mulD (cF (.str "m")) (op2F subD (op2F subD (vF 1) (cF (.int 1))) (vF 2)))) nilF))))
def b_law_names : Sx := (seqS (ifS (op2F eqD (op2F modD (vF 0) (cF (.int 9))) (cF (.int 8))) (seqS (asgS 3 (lstF (consF (cF (.str "ifs")) (consF (cF (.str "listx")) (consF (cF (.str "plus2")) (consF (cF (.str "refuses")) (consF (cF (.str "rested")) (consF (cF (.str "downs")) (consF (cF (.str "same1")) (consF (cF (.str "joins")) (consF (cF (.str "overs")) (consF (cF (.str "firsts")) nilF))))))))))))
    (seqS (asgS 3 (op2F addD (vF 3) (lstF (consF (cF (.str "emptyx")) (consF (cF (.str "a9")) nilF)))))
    (retS (lcF (rngS' rng1 (consF (cF (.int 12)) nilF)) (Tg.F (.nm 5)) yesF (E0_law_names) [5])))) passS)
    (seqS (asgS 1 (op2F addD (cF (.int 1)) (op2F modD (vF 0) (cF (.int 8)))))
    (seqS (asgS 2 (op2F modD (op2F divD (vF 0) (cF (.int 8))) (vF 1)))
    (seqS (asgS 3 (cF (.str "abcdefghijklmnopqrstuvwxyz0123456789")))
    (seqS (asgS 4 (lstF nilF))
    (seqS (forS (rngS' rng1 (consF (cF (.int 12)) nilF)) (Tg.F (.nm 5)) (L0_law_names))
    (retS (vF 4))))))))
theorem ok_law_names {P : Program} {w : World} {K : PySem.W.Frag} {mg : Str → Option Value} {base : Heap} {f : Addr} {fd : FuncData} {k : Nat} (B : Blt mg) (F : Fun K "_law_names" "_law_names" s_law_names f fd) (hm : mg "_law_names" = some (.ref f)) (hb : Binds K fd ["_law_cell"] []) : Cal P w K mg base (k + 1) "_law_names" 1 (runF 7 (b_law_names)) := by
  refine fn_cal F sc_law_names hm hb rfl (by decide) fun cdv A outer s H E hr => ?_
  have hu := hu65 hr
  have nd := sc_law_names.nd
  have tk := L2N.takes_of (X := cxOf (L2N.CX P w) P w K mg base N_law_names "_law_names" (defScope s_law_names) f cdv A outer s H E) (E := E) rfl rfl rfl rfl
  exact (sts_cons (st_if (tx_cmp (op_eqA hu) snd_eq (ex_mod (ex_var 0) ex_int) ex_int (nomark _)) (sts_cons (st_set (i := 3) nd (ex_lst (ax_cons ex_str (ax_cons ex_str (ax_cons ex_str (ax_cons ex_str (ax_cons ex_str (ax_cons ex_str (ax_cons ex_str (ax_cons ex_str (ax_cons ex_str (ax_cons ex_str ax_nil))))))))))))
    (sts_cons (st_set (i := 3) nd (ex_add (ex_var 3) (ex_lst (ax_cons ex_str (ax_cons ex_str ax_nil)))))
    (sts_one (st_ret (ex_lc rfl nd (sx_range1 (B _ (by decide)) (ax_cons ex_int ax_nil)) (blkOk_by (own := [("_law_k", 5)]) (N := N_law_names) (sc := defScope s_law_names) (by decide +kernel)) (fun _ _ _ _ _ => (pgt_name (i := 5) nd)) (fun _ _ _ _ _ => ltx_nil) (fun _ _ _ _ _ => (ex_item (ex_var 3) (ex_mod (ex_add (ex_div (ex_var 0) ex_int) (ex_var 5)) ex_int)))))))) sts_nil)
    (sts_cons (st_set (i := 1) nd (ex_add ex_int (ex_mod (ex_var 0) ex_int)))
    (sts_cons (st_set (i := 2) nd (ex_mod (ex_div (ex_var 0) ex_int) (ex_var 1)))
    (sts_cons (st_set (i := 3) nd ex_str)
    (sts_cons (st_set (i := 4) nd (ex_lst ax_nil))
    (sts_cons (st_for (passes_of rfl) rfl (sx_range1 (B _ (by decide)) (ax_cons ex_int ax_nil)) (Tg.gx (t := (.nm 5)) (pgt_name (i := 5) nd)) (sts_cons (st_set (i := 6) nd (ex_item (ex_var 3) (ex_mod (ex_add (ex_div (ex_var 0) ex_int) (ex_var 5)) (ex_item (ex_lst (ax_cons ex_int (ax_cons ex_int ax_nil))) (ex_intC (B _ (by decide)) (ax_cons (ex_gt (ex_var 2) ex_int) ax_nil))))))
    (sts_one (st_expr (ex_append (pv 4) (ax_cons (ex_add (ex_add (ex_mul ex_str (ex_var 2)) (ex_var 6)) (ex_mul ex_str (ex_sub (ex_sub (ex_var 1) ex_int) (ex_var 2)))) ax_nil))))))
    (sts_one (st_ret (ex_var 4)))))))))
abbrev s_law_few : Stmt := topS 30
abbrev N_law_few : List Str := ["_law_pick", "_law_way", "_law_some"]
theorem sc_law_few : FnScope N_law_few ["_law_pick", "_law_way"] (defScope s_law_few) := ⟨rfl, rfl, rfl, by decide +kernel, rfl, by decide +kernel, by decide +kernel⟩
def b_law_few : Sx := (seqS (asgS 2 (lstF (consF (cF (.int 0)) (consF (cF (.int 1)) (consF (cF (.int 2)) (consF (tupF nilF) (consF (tupF (consF (cF (.int 1)) nilF)) (consF (tupF (consF (cF (.int 2)) (consF (cF (.int 0)) nilF))) (consF (tupF (consF (tupF nilF) (consF (cF (.int 1)) nilF))) (consF (cF (.int 3)) nilF))))))))))
    (seqS (ifS (op2F eqD (vF 1) (cF (.int 1))) (asgS 2 (lstF (consF (cF (.int 3)) (consF (negF (cF (.int 1))) (consF (tupF (consF (cF (.int 1)) (consF (cF (.int 2)) nilF))) (consF (cF (.int 0)) nilF)))))) passS)
    (seqS (ifS (op2F eqD (vF 1) (cF (.int 2))) (asgS 2 (lstF (consF (tupF (consF (cF (.int 0)) (consF (tupF (consF (cF (.int 1)) (consF (tupF (consF (cF (.int 2)) nilF)) nilF))) nilF))) (consF (negF (cF (.int 4))) (consF (cF (.int 2)) (consF (tupF nilF) nilF)))))) passS)
    (retS (op2F ixD (vF 2) (op2F modD (vF 0) (blF lenG (consF (vF 2) nilF))))))))
theorem ok_law_few {P : Program} {w : World} {K : PySem.W.Frag} {mg : Str → Option Value} {base : Heap} {f : Addr} {fd : FuncData} {k : Nat} (B : Blt mg) (F : Fun K "_law_few" "_law_few" s_law_few f fd) (hm : mg "_law_few" = some (.ref f)) (hb : Binds K fd ["_law_pick", "_law_way"] []) : Cal P w K mg base (k + 1) "_law_few" 2 (runF 3 (b_law_few)) := by
  refine fn_cal F sc_law_few hm hb rfl (by decide) fun cdv A outer s H E hr => ?_
  have hu := hu65 hr
  have nd := sc_law_few.nd
  have tk := L2N.takes_of (X := cxOf (L2N.CX P w) P w K mg base N_law_few "_law_few" (defScope s_law_few) f cdv A outer s H E) (E := E) rfl rfl rfl rfl
  exact (sts_cons (st_set (i := 2) nd (ex_lst (ax_cons ex_int (ax_cons ex_int (ax_cons ex_int (ax_cons (ex_tup ax_nil) (ax_cons (ex_tup (ax_cons ex_int ax_nil)) (ax_cons (ex_tup (ax_cons ex_int (ax_cons ex_int ax_nil))) (ax_cons (ex_tup (ax_cons (ex_tup ax_nil) (ax_cons ex_int ax_nil))) (ax_cons ex_int ax_nil))))))))))
    (sts_cons (st_if (tx_cmp (op_eqA hu) snd_eq (ex_var 1) ex_int (nomark _)) (sts_one (st_set (i := 2) nd (ex_lst (ax_cons ex_int (ax_cons (ex_neg ex_int) (ax_cons (ex_tup (ax_cons ex_int (ax_cons ex_int ax_nil))) (ax_cons ex_int ax_nil))))))) sts_nil)
    (sts_cons (st_if (tx_cmp (op_eqA hu) snd_eq (ex_var 1) ex_int (nomark _)) (sts_one (st_set (i := 2) nd (ex_lst (ax_cons (ex_tup (ax_cons ex_int (ax_cons (ex_tup (ax_cons ex_int (ax_cons (ex_tup (ax_cons ex_int ax_nil)) ax_nil))) ax_nil))) (ax_cons (ex_neg ex_int) (ax_cons ex_int (ax_cons (ex_tup ax_nil) ax_nil))))))) sts_nil)
    (sts_one (st_ret (ex_item (ex_var 2) (ex_mod (ex_var 0) (ex_len (B _ (by decide)) (ax_cons (ex_var 2) ax_nil)))))))))
abbrev s_law_tame : Stmt := topS 31
abbrev N_law_tame : List Str := ["_law_pick", "_law_known", "_law_heads_here", "_law_way", "_law_more", "_law_name", "_law_word"]
theorem sc_law_tame : FnScope N_law_tame ["_law_pick", "_law_known", "_law_heads_here"] (defScope s_law_tame) := ⟨rfl, rfl, rfl, by decide +kernel, rfl, by decide +kernel, by decide +kernel⟩
def b_law_tame (f_law_next : List Ar → FR) (f_law_few : List Ar → FR) : Sx := (seqS (asgS 3 (op2F modD (op2F divD (vF 0) (cF (.int 5))) (cF (.int 8))))
    (seqS (asgS 4 (callF [false] f_law_next (consF (vF 0) nilF)))
    (seqS (ifS (orF (op2F eqD (vF 1) (lstF nilF)) (op2F eqD (vF 3) (cF (.int 0)))) (retS (tupF (consF (cF (.str "value")) (consF (callF [false, false] f_law_few (consF (vF 4) (consF (op2F modD (blF lenG (consF (vF 2) nilF)) (cF (.int 3))) nilF))) nilF)))) passS)
    (seqS (asgS 5 (tupF (consF (cF (.str "name")) (consF (op2F ixD (vF 1) (op2F modD (vF 4) (blF lenG (consF (vF 1) nilF)))) nilF))))
    (seqS (ifS (op2F ltD (vF 3) (cF (.int 3))) (retS (vF 5)) passS)
    (seqS (asgS 6 (op2F ixD (lstF (consF (cF (.str "down")) (consF (cF (.str "first")) (consF (cF (.str "rest")) (consF (cF (.str "rest")) (consF (cF (.str "down")) nilF)))))) (op2F subD (vF 3) (cF (.int 3)))))
    (seqS (ifS (andF (op2F eqD (vF 3) (cF (.int 7))) (op2F eqD (op2F modD (op2F divD (vF 4) (cF (.int 7))) (cF (.int 3))) (cF (.int 0)))) (retS (tupF (consF (cF (.str "do")) (consF (cF (.str "rest")) (consF (tupF (consF (tupF (consF (cF (.str "do")) (consF (cF (.str "rest")) (consF (tupF (consF (vF 5) nilF)) nilF)))) nilF)) nilF))))) passS)
    (retS (tupF (consF (cF (.str "do")) (consF (vF 6) (consF (tupF (consF (vF 5) nilF)) nilF))))))))))))
theorem ok_law_tame {P : Program} {w : World} {K : PySem.W.Frag} {mg : Str → Option Value} {base : Heap} {f : Addr} {fd : FuncData} {k : Nat} (B : Blt mg) (F : Fun K "_law_tame" "_law_tame" s_law_tame f fd) (hm : mg "_law_tame" = some (.ref f)) (hb : Binds K fd ["_law_pick", "_law_known", "_law_heads_here"] []) {f_law_next : List Ar → FR} {k_law_next : Nat} (h_law_next : Cal P w K mg base k_law_next "_law_next" 1 f_law_next) (l_law_next : k_law_next ≤ k) {f_law_few : List Ar → FR} {k_law_few : Nat} (h_law_few : Cal P w K mg base k_law_few "_law_few" 2 f_law_few) (l_law_few : k_law_few ≤ k) : Cal P w K mg base (k + 1) "_law_tame" 3 (runF 7 (b_law_tame f_law_next f_law_few)) := by
  refine fn_cal F sc_law_tame hm hb rfl (by decide) fun cdv A outer s H E hr => ?_
  have hu := hu65 hr
  have nd := sc_law_tame.nd
  have tk := L2N.takes_of (X := cxOf (L2N.CX P w) P w K mg base N_law_tame "_law_tame" (defScope s_law_tame) f cdv A outer s H E) (E := E) rfl rfl rfl rfl
  exact (sts_cons (st_set (i := 3) nd (ex_mod (ex_div (ex_var 0) ex_int) ex_int))
    (sts_cons (st_set (i := 4) nd (ex_call (sg := [false]) h_law_next hr l_law_next tk rfl (ax_cons (ex_var 0) ax_nil)))
    (sts_cons (st_if (tx_w (tw_or (tx_cmp (op_eqA hu) snd_eq (ex_var 1) (ex_lst ax_nil) (nomark _)) (tw_or1 (tx_cmp (op_eqA hu) snd_eq (ex_var 3) ex_int (nomark _))))) (sts_one (st_ret (ex_tup (ax_cons ex_str (ax_cons (ex_call (sg := [false, false]) h_law_few hr l_law_few tk rfl (ax_cons (ex_var 4) (ax_cons (ex_mod (ex_len (B _ (by decide)) (ax_cons (ex_var 2) ax_nil)) ex_int) ax_nil))) ax_nil))))) sts_nil)
    (sts_cons (st_set (i := 5) nd (ex_tup (ax_cons ex_str (ax_cons (ex_item (ex_var 1) (ex_mod (ex_var 4) (ex_len (B _ (by decide)) (ax_cons (ex_var 1) ax_nil)))) ax_nil))))
    (sts_cons (st_if (tx_cmp (op_lt) snd_lt (ex_var 3) ex_int (nomark _)) (sts_one (st_ret (ex_var 5))) sts_nil)
    (sts_cons (st_set (i := 6) nd (ex_item (ex_lst (ax_cons ex_str (ax_cons ex_str (ax_cons ex_str (ax_cons ex_str (ax_cons ex_str ax_nil)))))) (ex_sub (ex_var 3) ex_int)))
    (sts_cons (st_if (tx_w (tw_and (tx_cmp (op_eqA hu) snd_eq (ex_var 3) ex_int (nomark _)) (tw_and1 (tx_cmp (op_eqA hu) snd_eq (ex_mod (ex_div (ex_var 4) ex_int) ex_int) ex_int (nomark _))))) (sts_one (st_ret (ex_tup (ax_cons ex_str (ax_cons ex_str (ax_cons (ex_tup (ax_cons (ex_tup (ax_cons ex_str (ax_cons ex_str (ax_cons (ex_tup (ax_cons (ex_var 5) ax_nil)) ax_nil)))) ax_nil)) ax_nil)))))) sts_nil)
    (sts_one (st_ret (ex_tup (ax_cons ex_str (ax_cons (ex_var 6) (ax_cons (ex_tup (ax_cons (ex_var 5) ax_nil)) ax_nil)))))))))))))
abbrev s_law_parts : Stmt := topS 32
abbrev N_law_parts : List Str := ["_law_pick", "_law_many", "_law_deep_here", "_law_names_here", "_law_known", "_law_heads_here", "_law_found", "_law_k"]
theorem sc_law_parts : FnScope N_law_parts ["_law_pick", "_law_many", "_law_deep_here", "_law_names_here", "_law_known", "_law_heads_here"] (defScope s_law_parts) := ⟨rfl, rfl, rfl, by decide +kernel, rfl, by decide +kernel, by decide +kernel⟩
def L0_law_parts (f_law_form : List Ar → FR) (f_law_next : List Ar → FR) : Sx := (exprS (mtF appM 6 (consF (callF [false, false, false, false, false] f_law_form (consF (callF [false] f_law_next (consF (op2F addD (vF 0) (op2F mulD (cF (.int 7919)) (vF 7))) nilF)) (consF (vF 2) (consF (vF 3) (consF (vF 4) (consF (vF 5) nilF)))))) nilF)))
def b_law_parts (f_law_form : List Ar → FR) (f_law_next : List Ar → FR) : Sx := (seqS (asgS 6 (lstF nilF))
    (seqS (forS (rngS' rng1 (consF (vF 1) nilF)) (Tg.F (.nm 7)) (L0_law_parts f_law_form f_law_next))
    (retS (blF tupG (consF (vF 6) nilF)))))
theorem ok_law_parts {P : Program} {w : World} {K : PySem.W.Frag} {mg : Str → Option Value} {base : Heap} {f : Addr} {fd : FuncData} {k : Nat} (B : Blt mg) (F : Fun K "_law_parts" "_law_parts" s_law_parts f fd) (hm : mg "_law_parts" = some (.ref f)) (hb : Binds K fd ["_law_pick", "_law_many", "_law_deep_here", "_law_names_here", "_law_known", "_law_heads_here"] []) {f_law_form : List Ar → FR} {k_law_form : Nat} (h_law_form : Cal P w K mg base k_law_form "_law_form" 5 f_law_form) (l_law_form : k_law_form ≤ k) {f_law_next : List Ar → FR} {k_law_next : Nat} (h_law_next : Cal P w K mg base k_law_next "_law_next" 1 f_law_next) (l_law_next : k_law_next ≤ k) : Cal P w K mg base (k + 1) "_law_parts" 6 (runF 8 (b_law_parts f_law_form f_law_next)) := by
  refine fn_cal F sc_law_parts hm hb rfl (by decide) fun cdv A outer s H E hr => ?_
  have hu := hu65 hr
  have nd := sc_law_parts.nd
  have tk := L2N.takes_of (X := cxOf (L2N.CX P w) P w K mg base N_law_parts "_law_parts" (defScope s_law_parts) f cdv A outer s H E) (E := E) rfl rfl rfl rfl
  exact (sts_cons (st_set (i := 6) nd (ex_lst ax_nil))
    (sts_cons (st_for (passes_of rfl) rfl (sx_range1 (B _ (by decide)) (ax_cons (ex_var 1) ax_nil)) (Tg.gx (t := (.nm 7)) (pgt_name (i := 7) nd)) (sts_one (st_expr (ex_append (pv 6) (ax_cons (ex_call (sg := [false, false, false, false, false]) h_law_form hr l_law_form tk rfl (ax_cons (ex_call (sg := [false]) h_law_next hr l_law_next tk rfl (ax_cons (ex_add (ex_var 0) (ex_mul ex_int (ex_var 7))) ax_nil)) (ax_cons (ex_var 2) (ax_cons (ex_var 3) (ax_cons (ex_var 4) (ax_cons (ex_var 5) ax_nil)))))) ax_nil)))))
    (sts_one (st_ret (ex_tupC (B _ (by decide)) (ax_cons (ex_var 6) ax_nil))))))
abbrev s_law_call : Stmt := topS 33
abbrev N_law_call : List Str := ["_law_pick", "_law_deep_here", "_law_names_here", "_law_known", "_law_heads_here", "_law_head", "_law_parts_here", "_law_k", "_law_more"]
theorem sc_law_call : FnScope N_law_call ["_law_pick", "_law_deep_here", "_law_names_here", "_law_known", "_law_heads_here"] (defScope s_law_call) := ⟨rfl, rfl, rfl, by decide +kernel, rfl, by decide +kernel, by decide +kernel⟩
def L0_law_call (f_law_next : List Ar → FR) (f_law_tame : List Ar → FR) (f_law_form : List Ar → FR) : Sx := (seqS (asgS 8 (callF [false] f_law_next (consF (op2F addD (vF 0) (op2F mulD (cF (.int 7919)) (vF 7))) nilF)))
    (ifS (op2F ixD (op2F ixD (vF 5) (cF (.int 2))) (vF 7)) (exprS (mtF appM 6 (consF (callF [false, false, false] f_law_tame (consF (vF 8) (consF (vF 3) (consF (vF 4) nilF)))) nilF))) (exprS (mtF appM 6 (consF (callF [false, false, false, false, false] f_law_form (consF (vF 8) (consF (vF 1) (consF (vF 2) (consF (vF 3) (consF (vF 4) nilF)))))) nilF)))))
def b_law_call (f_law_next : List Ar → FR) (f_law_tame : List Ar → FR) (f_law_form : List Ar → FR) : Sx := (seqS (asgS 5 (op2F ixD (vF 4) (op2F modD (vF 0) (blF lenG (consF (vF 4) nilF)))))
    (seqS (asgS 6 (lstF nilF))
    (seqS (forS (rngS' rng1 (consF (blF lenG (consF (op2F ixD (vF 5) (cF (.int 1))) nilF)) nilF)) (Tg.F (.nm 7)) (L0_law_call f_law_next f_law_tame f_law_form))
    (retS (tupF (consF (cF (.str "call")) (consF (op2F ixD (vF 5) (cF (.int 0))) (consF (blF tupG (consF (vF 6) nilF)) nilF))))))))
theorem ok_law_call {P : Program} {w : World} {K : PySem.W.Frag} {mg : Str → Option Value} {base : Heap} {f : Addr} {fd : FuncData} {k : Nat} (B : Blt mg) (F : Fun K "_law_call" "_law_call" s_law_call f fd) (hm : mg "_law_call" = some (.ref f)) (hb : Binds K fd ["_law_pick", "_law_deep_here", "_law_names_here", "_law_known", "_law_heads_here"] []) {f_law_next : List Ar → FR} {k_law_next : Nat} (h_law_next : Cal P w K mg base k_law_next "_law_next" 1 f_law_next) (l_law_next : k_law_next ≤ k) {f_law_tame : List Ar → FR} {k_law_tame : Nat} (h_law_tame : Cal P w K mg base k_law_tame "_law_tame" 3 f_law_tame) (l_law_tame : k_law_tame ≤ k) {f_law_form : List Ar → FR} {k_law_form : Nat} (h_law_form : Cal P w K mg base k_law_form "_law_form" 5 f_law_form) (l_law_form : k_law_form ≤ k) : Cal P w K mg base (k + 1) "_law_call" 5 (runF 9 (b_law_call f_law_next f_law_tame f_law_form)) := by
  refine fn_cal F sc_law_call hm hb rfl (by decide) fun cdv A outer s H E hr => ?_
  have hu := hu65 hr
  have nd := sc_law_call.nd
  have tk := L2N.takes_of (X := cxOf (L2N.CX P w) P w K mg base N_law_call "_law_call" (defScope s_law_call) f cdv A outer s H E) (E := E) rfl rfl rfl rfl
  exact (sts_cons (st_set (i := 5) nd (ex_item (ex_var 4) (ex_mod (ex_var 0) (ex_len (B _ (by decide)) (ax_cons (ex_var 4) ax_nil)))))
    (sts_cons (st_set (i := 6) nd (ex_lst ax_nil))
    (sts_cons (st_for (passes_of rfl) rfl (sx_range1 (B _ (by decide)) (ax_cons (ex_len (B _ (by decide)) (ax_cons (ex_item (ex_var 5) ex_int) ax_nil)) ax_nil)) (Tg.gx (t := (.nm 7)) (pgt_name (i := 7) nd)) (sts_cons (st_set (i := 8) nd (ex_call (sg := [false]) h_law_next hr l_law_next tk rfl (ax_cons (ex_add (ex_var 0) (ex_mul ex_int (ex_var 7))) ax_nil)))
    (sts_one (st_if (tx_val (ex_item (ex_item (ex_var 5) ex_int) (ex_var 7))) (sts_one (st_expr (ex_append (pv 6) (ax_cons (ex_call (sg := [false, false, false]) h_law_tame hr l_law_tame tk rfl (ax_cons (ex_var 8) (ax_cons (ex_var 3) (ax_cons (ex_var 4) ax_nil)))) ax_nil)))) (sts_one (st_expr (ex_append (pv 6) (ax_cons (ex_call (sg := [false, false, false, false, false]) h_law_form hr l_law_form tk rfl (ax_cons (ex_var 8) (ax_cons (ex_var 1) (ax_cons (ex_var 2) (ax_cons (ex_var 3) (ax_cons (ex_var 4) ax_nil)))))) ax_nil))))))))
    (sts_one (st_ret (ex_tup (ax_cons ex_str (ax_cons (ex_item (ex_var 5) ex_int) (ax_cons (ex_tupC (B _ (by decide)) (ax_cons (ex_var 6) ax_nil)) ax_nil)))))))))
abbrev s_law_do : Stmt := topS 34
abbrev N_law_do : List Str := ["_law_pick", "_law_deep_here", "_law_names_here", "_law_known", "_law_heads_here", "_law_word", "_law_many"]
theorem sc_law_do : FnScope N_law_do ["_law_pick", "_law_deep_here", "_law_names_here", "_law_known", "_law_heads_here"] (defScope s_law_do) := ⟨rfl, rfl, rfl, by decide +kernel, rfl, by decide +kernel, by decide +kernel⟩
def b_law_do (f_law_parts : List Ar → FR) (f_law_next : List Ar → FR) : Sx := (seqS (asgS 5 (lstF (consF (cF (.str "plus")) (consF (cF (.str "minus")) (consF (cF (.str "times")) (consF (cF (.str "over")) (consF (cF (.str "less")) (consF (cF (.str "same")) (consF (cF (.str "join")) (consF (cF (.str "first")) (consF (cF (.str "rest")) (consF (cF (.str "empty")) (consF (cF (.str "down")) (consF (cF (.str "list")) nilF))))))))))))))
    (seqS (asgS 5 (op2F ixD (vF 5) (op2F modD (vF 0) (cF (.int 12)))))
    (seqS (asgS 6 (cF (.int 2)))
    (seqS (ifS (op2F inD (vF 5) (tupF (consF (cF (.str "first")) (consF (cF (.str "rest")) (consF (cF (.str "empty")) (consF (cF (.str "down")) nilF)))))) (asgS 6 (cF (.int 1))) passS)
    (seqS (ifS (op2F eqD (vF 5) (cF (.str "list"))) (asgS 6 (op2F ixD (lstF (consF (cF (.int 0)) (consF (cF (.int 1)) (consF (cF (.int 2)) (consF (cF (.int 3)) (consF (cF (.int 8)) (consF (cF (.int 5)) (consF (cF (.int 1)) (consF (cF (.int 2)) nilF))))))))) (op2F modD (op2F divD (vF 0) (cF (.int 12))) (cF (.int 8))))) passS)
    (seqS (ifS (op2F gtD (vF 6) (cF (.int 3))) (asgS 1 (cF (.int 0))) passS)
    (retS (tupF (consF (cF (.str "do")) (consF (vF 5) (consF (callF [false, false, false, false, false, false] f_law_parts (consF (callF [false] f_law_next (consF (vF 0) nilF)) (consF (vF 6) (consF (vF 1) (consF (vF 2) (consF (vF 3) (consF (vF 4) nilF))))))) nilF)))))))))))
theorem ok_law_do {P : Program} {w : World} {K : PySem.W.Frag} {mg : Str → Option Value} {base : Heap} {f : Addr} {fd : FuncData} {k : Nat} (B : Blt mg) (F : Fun K "_law_do" "_law_do" s_law_do f fd) (hm : mg "_law_do" = some (.ref f)) (hb : Binds K fd ["_law_pick", "_law_deep_here", "_law_names_here", "_law_known", "_law_heads_here"] []) {f_law_parts : List Ar → FR} {k_law_parts : Nat} (h_law_parts : Cal P w K mg base k_law_parts "_law_parts" 6 f_law_parts) (l_law_parts : k_law_parts ≤ k) {f_law_next : List Ar → FR} {k_law_next : Nat} (h_law_next : Cal P w K mg base k_law_next "_law_next" 1 f_law_next) (l_law_next : k_law_next ≤ k) : Cal P w K mg base (k + 1) "_law_do" 5 (runF 7 (b_law_do f_law_parts f_law_next)) := by
  refine fn_cal F sc_law_do hm hb rfl (by decide) fun cdv A outer s H E hr => ?_
  have hu := hu65 hr
  have nd := sc_law_do.nd
  have tk := L2N.takes_of (X := cxOf (L2N.CX P w) P w K mg base N_law_do "_law_do" (defScope s_law_do) f cdv A outer s H E) (E := E) rfl rfl rfl rfl
  exact (sts_cons (st_set (i := 5) nd (ex_lst (ax_cons ex_str (ax_cons ex_str (ax_cons ex_str (ax_cons ex_str (ax_cons ex_str (ax_cons ex_str (ax_cons ex_str (ax_cons ex_str (ax_cons ex_str (ax_cons ex_str (ax_cons ex_str (ax_cons ex_str ax_nil))))))))))))))
    (sts_cons (st_set (i := 5) nd (ex_item (ex_var 5) (ex_mod (ex_var 0) ex_int)))
    (sts_cons (st_set (i := 6) nd ex_int)
    (sts_cons (st_if (tx_cmp (op_inA hu) snd_in (ex_var 5) (ex_tup (ax_cons ex_str (ax_cons ex_str (ax_cons ex_str (ax_cons ex_str ax_nil))))) rfl) (sts_one (st_set (i := 6) nd ex_int)) sts_nil)
    (sts_cons (st_if (tx_cmp (op_eqA hu) snd_eq (ex_var 5) ex_str (nomark _)) (sts_one (st_set (i := 6) nd (ex_item (ex_lst (ax_cons ex_int (ax_cons ex_int (ax_cons ex_int (ax_cons ex_int (ax_cons ex_int (ax_cons ex_int (ax_cons ex_int (ax_cons ex_int ax_nil))))))))) (ex_mod (ex_div (ex_var 0) ex_int) ex_int)))) sts_nil)
    (sts_cons (st_if (tx_cmp (op_gt) snd_gt (ex_var 6) ex_int (nomark _)) (sts_one (st_set (i := 1) nd ex_int)) sts_nil)
    (sts_one (st_ret (ex_tup (ax_cons ex_str (ax_cons (ex_var 5) (ax_cons (ex_call (sg := [false, false, false, false, false, false]) h_law_parts hr l_law_parts tk rfl (ax_cons (ex_call (sg := [false]) h_law_next hr l_law_next tk rfl (ax_cons (ex_var 0) ax_nil)) (ax_cons (ex_var 6) (ax_cons (ex_var 1) (ax_cons (ex_var 2) (ax_cons (ex_var 3) (ax_cons (ex_var 4) ax_nil))))))) ax_nil))))))))))))
abbrev s_law_form : Stmt := topS 35
abbrev N_law_form : List Str := ["_law_pick", "_law_deep_here", "_law_names_here", "_law_known", "_law_heads_here", "_law_way", "_law_more"]
theorem sc_law_form : FnScope N_law_form ["_law_pick", "_law_deep_here", "_law_names_here", "_law_known", "_law_heads_here"] (defScope s_law_form) := ⟨rfl, rfl, rfl, by decide +kernel, rfl, by decide +kernel, by decide +kernel⟩
def b_law_form (f_law_next : List Ar → FR) (f_law_value : List Ar → FR) (f_law_parts : List Ar → FR) (f_law_do : List Ar → FR) (f_law_call : List Ar → FR) : Sx := (seqS (asgS 5 (op2F modD (op2F divD (vF 0) (cF (.int 3))) (cF (.int 13))))
    (seqS (asgS 6 (callF [false] f_law_next (consF (vF 0) nilF)))
    (seqS (ifS (orF (op2F eqD (vF 1) (cF (.int 0))) (op2F ltD (vF 5) (cF (.int 3)))) (seqS (ifS (andF (op2F neD (vF 2) (lstF nilF)) (op2F gtD (op2F modD (vF 6) (cF (.int 4))) (cF (.int 0)))) (retS (tupF (consF (cF (.str "name")) (consF (op2F ixD (vF 2) (op2F modD (op2F divD (vF 6) (cF (.int 4))) (blF lenG (consF (vF 2) nilF)))) nilF)))) passS)
    (retS (tupF (consF (cF (.str "value")) (consF (callF [false] f_law_value (consF (op2F divD (vF 6) (cF (.int 4))) nilF)) nilF))))) passS)
    (seqS (ifS (op2F ltD (vF 5) (cF (.int 6))) (retS (op2F addD (tupF (consF (cF (.str "if")) nilF)) (callF [false, false, false, false, false, false] f_law_parts (consF (vF 6) (consF (cF (.int 3)) (consF (op2F subD (vF 1) (cF (.int 1))) (consF (vF 2) (consF (vF 3) (consF (vF 4) nilF))))))))) passS)
    (seqS (ifS (op2F ltD (vF 5) (cF (.int 9))) (retS (callF [false, false, false, false, false] f_law_do (consF (vF 6) (consF (op2F subD (vF 1) (cF (.int 1))) (consF (vF 2) (consF (vF 3) (consF (vF 4) nilF))))))) passS)
    (seqS (ifS (op2F ltD (vF 5) (cF (.int 12))) (retS (callF [false, false, false, false, false] f_law_call (consF (vF 6) (consF (op2F subD (vF 1) (cF (.int 1))) (consF (vF 2) (consF (vF 3) (consF (vF 4) nilF))))))) passS)
    (retS (tupF (consF (cF (.str "refuse")) (consF (op2F ixD (lstF (consF (cF (.str "NoNumber")) (consF (cF (.str "NoList")) (consF (cF (.str "NoFirst")) (consF (cF (.str "NoDown")) (consF (cF (.str "ByNought")) (consF (cF (.str "TooGreat")) nilF))))))) (op2F modD (vF 6) (cF (.int 6)))) nilF))))))))))
theorem ok_law_form {P : Program} {w : World} {K : PySem.W.Frag} {mg : Str → Option Value} {base : Heap} {f : Addr} {fd : FuncData} {k : Nat} (B : Blt mg) (F : Fun K "_law_form" "_law_form" s_law_form f fd) (hm : mg "_law_form" = some (.ref f)) (hb : Binds K fd ["_law_pick", "_law_deep_here", "_law_names_here", "_law_known", "_law_heads_here"] []) {f_law_next : List Ar → FR} {k_law_next : Nat} (h_law_next : Cal P w K mg base k_law_next "_law_next" 1 f_law_next) (l_law_next : k_law_next ≤ k) {f_law_value : List Ar → FR} {k_law_value : Nat} (h_law_value : Cal P w K mg base k_law_value "_law_value" 1 f_law_value) (l_law_value : k_law_value ≤ k) {f_law_parts : List Ar → FR} {k_law_parts : Nat} (h_law_parts : Cal P w K mg base k_law_parts "_law_parts" 6 f_law_parts) (l_law_parts : k_law_parts ≤ k) {f_law_do : List Ar → FR} {k_law_do : Nat} (h_law_do : Cal P w K mg base k_law_do "_law_do" 5 f_law_do) (l_law_do : k_law_do ≤ k) {f_law_call : List Ar → FR} {k_law_call : Nat} (h_law_call : Cal P w K mg base k_law_call "_law_call" 5 f_law_call) (l_law_call : k_law_call ≤ k) : Cal P w K mg base (k + 1) "_law_form" 5 (runF 7 (b_law_form f_law_next f_law_value f_law_parts f_law_do f_law_call)) := by
  refine fn_cal F sc_law_form hm hb rfl (by decide) fun cdv A outer s H E hr => ?_
  have hu := hu65 hr
  have nd := sc_law_form.nd
  have tk := L2N.takes_of (X := cxOf (L2N.CX P w) P w K mg base N_law_form "_law_form" (defScope s_law_form) f cdv A outer s H E) (E := E) rfl rfl rfl rfl
  exact (sts_cons (st_set (i := 5) nd (ex_mod (ex_div (ex_var 0) ex_int) ex_int))
    (sts_cons (st_set (i := 6) nd (ex_call (sg := [false]) h_law_next hr l_law_next tk rfl (ax_cons (ex_var 0) ax_nil)))
    (sts_cons (st_if (tx_w (tw_or (tx_cmp (op_eqA hu) snd_eq (ex_var 1) ex_int (nomark _)) (tw_or1 (tx_cmp (op_lt) snd_lt (ex_var 5) ex_int (nomark _))))) (sts_cons (st_if (tx_w (tw_and (tx_cmp (op_neA hu) snd_ne (ex_var 2) (ex_lst ax_nil) (nomark _)) (tw_and1 (tx_cmp (op_gt) snd_gt (ex_mod (ex_var 6) ex_int) ex_int (nomark _))))) (sts_one (st_ret (ex_tup (ax_cons ex_str (ax_cons (ex_item (ex_var 2) (ex_mod (ex_div (ex_var 6) ex_int) (ex_len (B _ (by decide)) (ax_cons (ex_var 2) ax_nil)))) ax_nil))))) sts_nil)
    (sts_one (st_ret (ex_tup (ax_cons ex_str (ax_cons (ex_call (sg := [false]) h_law_value hr l_law_value tk rfl (ax_cons (ex_div (ex_var 6) ex_int) ax_nil)) ax_nil)))))) sts_nil)
    (sts_cons (st_if (tx_cmp (op_lt) snd_lt (ex_var 5) ex_int (nomark _)) (sts_one (st_ret (ex_add (ex_tup (ax_cons ex_str ax_nil)) (ex_call (sg := [false, false, false, false, false, false]) h_law_parts hr l_law_parts tk rfl (ax_cons (ex_var 6) (ax_cons ex_int (ax_cons (ex_sub (ex_var 1) ex_int) (ax_cons (ex_var 2) (ax_cons (ex_var 3) (ax_cons (ex_var 4) ax_nil)))))))))) sts_nil)
    (sts_cons (st_if (tx_cmp (op_lt) snd_lt (ex_var 5) ex_int (nomark _)) (sts_one (st_ret (ex_call (sg := [false, false, false, false, false]) h_law_do hr l_law_do tk rfl (ax_cons (ex_var 6) (ax_cons (ex_sub (ex_var 1) ex_int) (ax_cons (ex_var 2) (ax_cons (ex_var 3) (ax_cons (ex_var 4) ax_nil)))))))) sts_nil)
    (sts_cons (st_if (tx_cmp (op_lt) snd_lt (ex_var 5) ex_int (nomark _)) (sts_one (st_ret (ex_call (sg := [false, false, false, false, false]) h_law_call hr l_law_call tk rfl (ax_cons (ex_var 6) (ax_cons (ex_sub (ex_var 1) ex_int) (ax_cons (ex_var 2) (ax_cons (ex_var 3) (ax_cons (ex_var 4) ax_nil)))))))) sts_nil)
    (sts_one (st_ret (ex_tup (ax_cons ex_str (ax_cons (ex_item (ex_lst (ax_cons ex_str (ax_cons ex_str (ax_cons ex_str (ax_cons ex_str (ax_cons ex_str (ax_cons ex_str ax_nil))))))) (ex_mod (ex_var 6) ex_int)) ax_nil)))))))))))
abbrev s_law_heads : Stmt := topS 36
abbrev N_law_heads : List Str := ["_law_script", "_law_names_here", "_law_found", "_law_k", "_law_cell", "_law_many", "_law_wanted", "_law_j", "_law_known"]
theorem sc_law_heads : FnScope N_law_heads ["_law_script"] (defScope s_law_heads) := ⟨rfl, rfl, rfl, by decide +kernel, rfl, by decide +kernel, by decide +kernel⟩
def L0_law_heads (f_law_names : List Ar → FR) (f_law_cell_at : List Ar → FR) : Sx := (seqS (asgS 8 (op2F eqD (op2F modD (op2F divD (vF 4) (op2F ixD (lstF (consF (cF (.int 7)) (consF (cF (.int 14)) (consF (cF (.int 28)) (consF (cF (.int 56)) (consF (cF (.int 112)) (consF (cF (.int 224)) nilF))))))) (vF 7))) (cF (.int 2))) (cF (.int 1))))
    (exprS (mtF appM 6 (consF (andF (vF 8) (op2F ltD (mtF cntM 6 (consF (cF (.bl true)) nilF)) (cF (.int 2)))) nilF))))
def E0_law_heads (f_law_names : List Ar → FR) (f_law_cell_at : List Ar → FR) : Fx := (op2F ixD (vF 1) (op2F modD (op2F addD (op2F addD (cF (.int 2)) (vF 3)) (vF 7)) (cF (.int 12))))
def L1_law_heads (f_law_names : List Ar → FR) (f_law_cell_at : List Ar → FR) : Sx := (seqS (asgS 4 (callF [false, false] f_law_cell_at (consF (vF 0) (consF (op2F addD (cF (.int 2)) (vF 3)) nilF))))
    (seqS (asgS 5 (op2F ixD (lstF (consF (cF (.int 1)) (consF (cF (.int 2)) (consF (cF (.int 3)) (consF (cF (.int 2)) (consF (cF (.int 0)) (consF (cF (.int 6)) (consF (cF (.int 3)) nilF)))))))) (op2F modD (vF 4) (cF (.int 7)))))
    (seqS (asgS 6 (lstF nilF))
    (seqS (forS (rngS' rng1 (consF (vF 5) nilF)) (Tg.F (.nm 7)) (L0_law_heads f_law_names f_law_cell_at))
    (exprS (mtF appM 2 (consF (tupF (consF (op2F ixD (vF 1) (vF 3)) (consF (blF tupG (consF (lcF (rngS' rng1 (consF (vF 5) nilF)) (Tg.F (.nm 7)) yesF (E0_law_heads f_law_names f_law_cell_at) [7]) nilF)) (consF (blF tupG (consF (vF 6) nilF)) nilF)))) nilF)))))))
def b_law_heads (f_law_names : List Ar → FR) (f_law_cell_at : List Ar → FR) : Sx := (seqS (asgS 1 (callF [false] f_law_names (consF (callF [false, false] f_law_cell_at (consF (vF 0) (consF (cF (.int 0)) nilF))) nilF)))
    (seqS (asgS 2 (lstF nilF))
    (seqS (forS (rngS' rng1 (consF (op2F addD (cF (.int 1)) (op2F modD (callF [false, false] f_law_cell_at (consF (vF 0) (consF (cF (.int 1)) nilF))) (cF (.int 4)))) nilF)) (Tg.F (.nm 3)) (L1_law_heads f_law_names f_law_cell_at))
    (retS (vF 2)))))
theorem ok_law_heads {P : Program} {w : World} {K : PySem.W.Frag} {mg : Str → Option Value} {base : Heap} {f : Addr} {fd : FuncData} {k : Nat} (B : Blt mg) (F : Fun K "_law_heads" "_law_heads" s_law_heads f fd) (hm : mg "_law_heads" = some (.ref f)) (hb : Binds K fd ["_law_script"] []) {f_law_names : List Ar → FR} {k_law_names : Nat} (h_law_names : Cal P w K mg base k_law_names "_law_names" 1 f_law_names) (l_law_names : k_law_names ≤ k) {f_law_cell_at : List Ar → FR} {k_law_cell_at : Nat} (h_law_cell_at : Cal P w K mg base k_law_cell_at "_law_cell_at" 2 f_law_cell_at) (l_law_cell_at : k_law_cell_at ≤ k) : Cal P w K mg base (k + 1) "_law_heads" 1 (runF 9 (b_law_heads f_law_names f_law_cell_at)) := by
  refine fn_cal F sc_law_heads hm hb rfl (by decide) fun cdv A outer s H E hr => ?_
  have hu := hu65 hr
  have nd := sc_law_heads.nd
  have tk := L2N.takes_of (X := cxOf (L2N.CX P w) P w K mg base N_law_heads "_law_heads" (defScope s_law_heads) f cdv A outer s H E) (E := E) rfl rfl rfl rfl
  exact (sts_cons (st_set (i := 1) nd (ex_call (sg := [false]) h_law_names hr l_law_names tk rfl (ax_cons (ex_call (sg := [false, false]) h_law_cell_at hr l_law_cell_at tk rfl (ax_cons (ex_var 0) (ax_cons ex_int ax_nil))) ax_nil)))
    (sts_cons (st_set (i := 2) nd (ex_lst ax_nil))
    (sts_cons (st_for (passes_of rfl) rfl (sx_range1 (B _ (by decide)) (ax_cons (ex_add ex_int (ex_mod (ex_call (sg := [false, false]) h_law_cell_at hr l_law_cell_at tk rfl (ax_cons (ex_var 0) (ax_cons ex_int ax_nil))) ex_int)) ax_nil)) (Tg.gx (t := (.nm 3)) (pgt_name (i := 3) nd)) (sts_cons (st_set (i := 4) nd (ex_call (sg := [false, false]) h_law_cell_at hr l_law_cell_at tk rfl (ax_cons (ex_var 0) (ax_cons (ex_add ex_int (ex_var 3)) ax_nil))))
    (sts_cons (st_set (i := 5) nd (ex_item (ex_lst (ax_cons ex_int (ax_cons ex_int (ax_cons ex_int (ax_cons ex_int (ax_cons ex_int (ax_cons ex_int (ax_cons ex_int ax_nil)))))))) (ex_mod (ex_var 4) ex_int)))
    (sts_cons (st_set (i := 6) nd (ex_lst ax_nil))
    (sts_cons (st_for (passes_of rfl) rfl (sx_range1 (B _ (by decide)) (ax_cons (ex_var 5) ax_nil)) (Tg.gx (t := (.nm 7)) (pgt_name (i := 7) nd)) (sts_cons (st_set (i := 8) nd (ex_eq hu (ex_mod (ex_div (ex_var 4) (ex_item (ex_lst (ax_cons ex_int (ax_cons ex_int (ax_cons ex_int (ax_cons ex_int (ax_cons ex_int (ax_cons ex_int ax_nil))))))) (ex_var 7))) ex_int) ex_int))
    (sts_one (st_expr (ex_append (pv 6) (ax_cons (ex_and (ex_var 8) (ex_one (ex_lt (ex_count (pv 6) (ax_cons ex_bl ax_nil)) ex_int))) ax_nil))))))
    (sts_one (st_expr (ex_append (pv 2) (ax_cons (ex_tup (ax_cons (ex_item (ex_var 1) (ex_var 3)) (ax_cons (ex_tupC (B _ (by decide)) (ax_cons (ex_lc rfl nd (sx_range1 (B _ (by decide)) (ax_cons (ex_var 5) ax_nil)) (blkOk_by (own := [("_law_j", 7)]) (N := N_law_heads) (sc := defScope s_law_heads) (by decide +kernel)) (fun _ _ _ _ _ => (pgt_name (i := 7) nd)) (fun _ _ _ _ _ => ltx_nil) (fun _ _ _ _ _ => (ex_item (ex_var 1) (ex_mod (ex_add (ex_add ex_int (ex_var 3)) (ex_var 7)) ex_int)))) ax_nil)) (ax_cons (ex_tupC (B _ (by decide)) (ax_cons (ex_var 6) ax_nil)) ax_nil)))) ax_nil)))))))))
    (sts_one (st_ret (ex_var 2))))))
abbrev s_law_program : Stmt := topS 37
abbrev N_law_program : List Str := ["_law_script", "_law_heads_here", "_law_program_here", "_law_k", "_law_known", "_law_pick", "_law_body", "_law_name", "_law_params", "_law_wanted", "_law_more", "_law_test", "_law_j"]
theorem sc_law_program : FnScope N_law_program ["_law_script", "_law_heads_here"] (defScope s_law_program) := ⟨rfl, rfl, rfl, by decide +kernel, rfl, by decide +kernel, by decide +kernel⟩
def T0_law_program (f_law_next : List Ar → FR) (f_law_cell_at : List Ar → FR) (f_law_form : List Ar → FR) : Fx := (op2F ixD (vF 9) (vF 12))
def E0_law_program (f_law_next : List Ar → FR) (f_law_cell_at : List Ar → FR) (f_law_form : List Ar → FR) : Fx := (op2F ixD (vF 8) (vF 12))
def L0_law_program (f_law_next : List Ar → FR) (f_law_cell_at : List Ar → FR) (f_law_form : List Ar → FR) : Sx := (seqS (unpS (Tg.F (.tp [7, 8, 9])) (op2F ixD (vF 1) (vF 3)))
    (seqS (asgS 4 (lcF (rngS' rng1 (consF (blF lenG (consF (vF 8) nilF)) nilF)) (Tg.F (.nm 12)) (T0_law_program f_law_next f_law_cell_at f_law_form) (E0_law_program f_law_next f_law_cell_at f_law_form) [12]))
    (seqS (asgS 5 (callF [false] f_law_next (consF (op2F addD (op2F mulD (callF [false, false] f_law_cell_at (consF (vF 0) (consF (op2F addD (cF (.int 6)) (vF 3)) nilF))) (cF (.int 977))) (vF 3)) nilF)))
    (seqS (asgS 6 (callF [false, false, false, false, false] f_law_form (consF (vF 5) (consF (op2F addD (cF (.int 1)) (op2F modD (op2F divD (callF [false, false] f_law_cell_at (consF (vF 0) (consF (cF (.int 10)) nilF))) (op2F addD (vF 3) (cF (.int 1)))) (cF (.int 3)))) (consF (blF lstG (consF (vF 8) nilF)) (consF (vF 4) (consF (vF 1) nilF)))))))
    (seqS (ifS (andF (op2F gtD (op2F modD (op2F divD (callF [false, false] f_law_cell_at (consF (vF 0) (consF (cF (.int 11)) nilF))) (op2F addD (vF 3) (cF (.int 1)))) (cF (.int 3))) (cF (.int 0))) (op2F gtD (blF lenG (consF (vF 8) nilF)) (cF (.int 0)))) (seqS (asgS 10 (callF [false] f_law_next (consF (op2F addD (vF 5) (cF (.int 31))) nilF)))
    (seqS (asgS 11 (tupF (consF (cF (.str "name")) (consF (op2F ixD (vF 8) (op2F modD (vF 10) (blF lenG (consF (vF 8) nilF)))) nilF))))
    (seqS (ifS (op2F eqD (op2F modD (op2F divD (vF 10) (cF (.int 8))) (cF (.int 2))) (cF (.int 1))) (asgS 11 (tupF (consF (cF (.str "do")) (consF (cF (.str "empty")) (consF (tupF (consF (vF 11) nilF)) nilF))))) passS)
    (asgS 6 (tupF (consF (cF (.str "if")) (consF (vF 11) (consF (vF 6) (consF (callF [false, false, false, false, false] f_law_form (consF (vF 10) (consF (cF (.int 2)) (consF (blF lstG (consF (vF 8) nilF)) (consF (vF 4) (consF (vF 1) nilF)))))) nilF))))))))) passS)
    (exprS (mtF appM 2 (consF (tupF (consF (vF 7) (consF (vF 8) (consF (vF 6) nilF)))) nilF))))))))
def b_law_program (f_law_next : List Ar → FR) (f_law_cell_at : List Ar → FR) (f_law_form : List Ar → FR) : Sx := (seqS (asgS 2 (lstF nilF))
    (seqS (forS (rngS' rng1 (consF (blF lenG (consF (vF 1) nilF)) nilF)) (Tg.F (.nm 3)) (L0_law_program f_law_next f_law_cell_at f_law_form))
    (retS (blF tupG (consF (vF 2) nilF)))))
theorem ok_law_program {P : Program} {w : World} {K : PySem.W.Frag} {mg : Str → Option Value} {base : Heap} {f : Addr} {fd : FuncData} {k : Nat} (B : Blt mg) (F : Fun K "_law_program" "_law_program" s_law_program f fd) (hm : mg "_law_program" = some (.ref f)) (hb : Binds K fd ["_law_script", "_law_heads_here"] []) {f_law_next : List Ar → FR} {k_law_next : Nat} (h_law_next : Cal P w K mg base k_law_next "_law_next" 1 f_law_next) (l_law_next : k_law_next ≤ k) {f_law_cell_at : List Ar → FR} {k_law_cell_at : Nat} (h_law_cell_at : Cal P w K mg base k_law_cell_at "_law_cell_at" 2 f_law_cell_at) (l_law_cell_at : k_law_cell_at ≤ k) {f_law_form : List Ar → FR} {k_law_form : Nat} (h_law_form : Cal P w K mg base k_law_form "_law_form" 5 f_law_form) (l_law_form : k_law_form ≤ k) : Cal P w K mg base (k + 1) "_law_program" 2 (runF 13 (b_law_program f_law_next f_law_cell_at f_law_form)) := by
  refine fn_cal F sc_law_program hm hb rfl (by decide) fun cdv A outer s H E hr => ?_
  have hu := hu65 hr
  have nd := sc_law_program.nd
  have tk := L2N.takes_of (X := cxOf (L2N.CX P w) P w K mg base N_law_program "_law_program" (defScope s_law_program) f cdv A outer s H E) (E := E) rfl rfl rfl rfl
  exact (sts_cons (st_set (i := 2) nd (ex_lst ax_nil))
    (sts_cons (st_for (passes_of rfl) rfl (sx_range1 (B _ (by decide)) (ax_cons (ex_len (B _ (by decide)) (ax_cons (ex_var 1) ax_nil)) ax_nil)) (Tg.gx (t := (.nm 3)) (pgt_name (i := 3) nd)) (sts_cons (st_unp (ex_item (ex_var 1) (ex_var 3)) (Tg.gx (t := (.tp [7, 8, 9])) (pgt_tup rfl (pgts_cons (i := 7) nd (pgts_cons (i := 8) nd (pgts_cons (i := 9) nd pgts_nil))))))
    (sts_cons (st_setLc (i := 4) rfl nd (sw_true rfl rfl rfl (by decide +kernel)) (sx_range1 (B _ (by decide)) (ax_cons (ex_len (B _ (by decide)) (ax_cons (ex_var 8) ax_nil)) ax_nil)) (blkOk_by (own := [("_law_j", 12)]) (N := N_law_program) (sc := defScope s_law_program) (by decide +kernel)) (fun _ _ _ _ _ => (pgt_name (i := 12) nd)) (fun _ _ _ _ _ => (ltx_one (tx_val (ex_item (ex_var 9) (ex_var 12))))) (fun _ _ _ _ _ => (ex_item (ex_var 8) (ex_var 12))))
    (sts_cons (st_set (i := 5) nd (ex_call (sg := [false]) h_law_next hr l_law_next tk rfl (ax_cons (ex_add (ex_mul (ex_call (sg := [false, false]) h_law_cell_at hr l_law_cell_at tk rfl (ax_cons (ex_var 0) (ax_cons (ex_add ex_int (ex_var 3)) ax_nil))) ex_int) (ex_var 3)) ax_nil)))
    (sts_cons (st_set (i := 6) nd (ex_call (sg := [false, false, false, false, false]) h_law_form hr l_law_form tk rfl (ax_cons (ex_var 5) (ax_cons (ex_add ex_int (ex_mod (ex_div (ex_call (sg := [false, false]) h_law_cell_at hr l_law_cell_at tk rfl (ax_cons (ex_var 0) (ax_cons ex_int ax_nil))) (ex_add (ex_var 3) ex_int)) ex_int)) (ax_cons (ex_lstC (B _ (by decide)) (ax_cons (ex_var 8) ax_nil)) (ax_cons (ex_var 4) (ax_cons (ex_var 1) ax_nil)))))))
    (sts_cons (st_if (tx_w (tw_and (tx_cmp (op_gt) snd_gt (ex_mod (ex_div (ex_call (sg := [false, false]) h_law_cell_at hr l_law_cell_at tk rfl (ax_cons (ex_var 0) (ax_cons ex_int ax_nil))) (ex_add (ex_var 3) ex_int)) ex_int) ex_int (nomark _)) (tw_and1 (tx_cmp (op_gt) snd_gt (ex_len (B _ (by decide)) (ax_cons (ex_var 8) ax_nil)) ex_int (nomark _))))) (sts_cons (st_set (i := 10) nd (ex_call (sg := [false]) h_law_next hr l_law_next tk rfl (ax_cons (ex_add (ex_var 5) ex_int) ax_nil)))
    (sts_cons (st_set (i := 11) nd (ex_tup (ax_cons ex_str (ax_cons (ex_item (ex_var 8) (ex_mod (ex_var 10) (ex_len (B _ (by decide)) (ax_cons (ex_var 8) ax_nil)))) ax_nil))))
    (sts_cons (st_if (tx_cmp (op_eqA hu) snd_eq (ex_mod (ex_div (ex_var 10) ex_int) ex_int) ex_int (nomark _)) (sts_one (st_set (i := 11) nd (ex_tup (ax_cons ex_str (ax_cons ex_str (ax_cons (ex_tup (ax_cons (ex_var 11) ax_nil)) ax_nil)))))) sts_nil)
    (sts_one (st_set (i := 6) nd (ex_tup (ax_cons ex_str (ax_cons (ex_var 11) (ax_cons (ex_var 6) (ax_cons (ex_call (sg := [false, false, false, false, false]) h_law_form hr l_law_form tk rfl (ax_cons (ex_var 10) (ax_cons ex_int (ax_cons (ex_lstC (B _ (by decide)) (ax_cons (ex_var 8) ax_nil)) (ax_cons (ex_var 4) (ax_cons (ex_var 1) ax_nil)))))) ax_nil)))))))))) sts_nil)
    (sts_one (st_expr (ex_append (pv 2) (ax_cons (ex_tup (ax_cons (ex_var 7) (ax_cons (ex_var 8) (ax_cons (ex_var 6) ax_nil)))) ax_nil))))))))))
    (sts_one (st_ret (ex_tupC (B _ (by decide)) (ax_cons (ex_var 2) ax_nil))))))
abbrev s_law_heads_of : Stmt := topS 40
abbrev N_law_heads_of : List Str := ["_law_form_here", "_law_found", "_law_parts_here", "_law_part"]
theorem sc_law_heads_of : FnScope N_law_heads_of ["_law_form_here"] (defScope s_law_heads_of) := ⟨rfl, rfl, rfl, by decide +kernel, rfl, by decide +kernel, by decide +kernel⟩
def L0_law_heads_of (f_law_heads_of : List Ar → FR) : Sx := (asgS 1 (op2F addD (vF 1) (callF [false] f_law_heads_of (consF (vF 3) nilF))))
def b_law_heads_of (f_law_heads_of : List Ar → FR) : Sx := (seqS (asgS 1 (lstF (consF (vF 0) nilF)))
    (seqS (asgS 2 (lstF nilF))
    (seqS (ifS (op2F eqD (op2F ixD (vF 0) (cF (.int 0))) (cF (.str "if"))) (asgS 2 (slF (vF 0) (someO (cF (.int 1))) noneO)) passS)
    (seqS (ifS (op2F inD (op2F ixD (vF 0) (cF (.int 0))) (tupF (consF (cF (.str "do")) (consF (cF (.str "call")) nilF)))) (asgS 2 (op2F ixD (vF 0) (cF (.int 2)))) passS)
    (seqS (frzS 2 (forS (seqS' (vF 2)) (Tg.F (.nm 3)) (L0_law_heads_of f_law_heads_of)))
    (retS (vF 1)))))))
theorem ok_law_heads_of {P : Program} {w : World} {K : PySem.W.Frag} {mg : Str → Option Value} {base : Heap} {f : Addr} {fd : FuncData} {k : Nat} (B : Blt mg) (F : Fun K "_law_heads_of" "_law_heads_of" s_law_heads_of f fd) (hm : mg "_law_heads_of" = some (.ref f)) (hb : Binds K fd ["_law_form_here"] []) {f_law_heads_of : List Ar → FR} {k_law_heads_of : Nat} (h_law_heads_of : Cal P w K mg base k_law_heads_of "_law_heads_of" 1 f_law_heads_of) (l_law_heads_of : k_law_heads_of ≤ k) : Cal P w K mg base (k + 1) "_law_heads_of" 1 (runF 4 (b_law_heads_of f_law_heads_of)) := by
  refine fn_cal F sc_law_heads_of hm hb rfl (by decide) fun cdv A outer s H E hr => ?_
  have hu := hu65 hr
  have nd := sc_law_heads_of.nd
  have tk := L2N.takes_of (X := cxOf (L2N.CX P w) P w K mg base N_law_heads_of "_law_heads_of" (defScope s_law_heads_of) f cdv A outer s H E) (E := E) rfl rfl rfl rfl
  exact (sts_cons (st_set (i := 1) nd (ex_lst (ax_cons (ex_var 0) ax_nil)))
    (sts_cons (st_set (i := 2) nd (ex_lst ax_nil))
    (sts_cons (st_if (tx_cmp (op_eqA hu) snd_eq (ex_item (ex_var 0) ex_int) ex_str (nomark _)) (sts_one (st_set (i := 2) nd (ex_slice (ex_var 0) (ox_some ex_int) ox_none))) sts_nil)
    (sts_cons (st_if (tx_cmp (op_inA hu) snd_in (ex_item (ex_var 0) ex_int) (ex_tup (ax_cons ex_str (ax_cons ex_str ax_nil))) rfl) (sts_one (st_set (i := 2) nd (ex_item (ex_var 0) ex_int))) sts_nil)
    (sts_cons (st_frz 2 (st_for (passes_of rfl) rfl (sx_seq (ex_var 2)) (Tg.gx (t := (.nm 3)) (pgt_name (i := 3) nd)) (sts_one (st_set (i := 1) nd (ex_add (ex_var 1) (ex_call (sg := [false]) h_law_heads_of hr l_law_heads_of tk rfl (ax_cons (ex_var 3) ax_nil)))))))
    (sts_one (st_ret (ex_var 1))))))))
abbrev s_law_put : Stmt := topS 41
abbrev N_law_put : List Str := ["_law_form_here", "_law_at", "_law_other", "_law_parts_here", "_law_k", "_law_many"]
theorem sc_law_put : FnScope N_law_put ["_law_form_here", "_law_at", "_law_other"] (defScope s_law_put) := ⟨rfl, rfl, rfl, by decide +kernel, rfl, by decide +kernel, by decide +kernel⟩
def L0_law_put (f_law_heads_of : List Ar → FR) (f_law_put : List Ar → FR) : Sx := (seqS (asgS 5 (blF lenG (consF (callF [false] f_law_heads_of (consF (op2F ixD (vF 3) (vF 4)) nilF)) nilF)))
    (seqS (ifS (andF (op2F leD (cF (.int 0)) (vF 1)) (op2F ltD (vF 1) (vF 5))) (stoS 3 (vF 4) (callF [false, false, false] f_law_put (consF (op2F ixD (vF 3) (vF 4)) (consF (vF 1) (consF (vF 2) nilF))))) passS)
    (asgS 1 (op2F subD (vF 1) (vF 5)))))
def b_law_put (f_law_heads_of : List Ar → FR) (f_law_put : List Ar → FR) : Sx := (seqS (ifS (op2F eqD (vF 1) (cF (.int 0))) (retS (vF 2)) passS)
    (seqS (asgS 1 (op2F subD (vF 1) (cF (.int 1))))
    (seqS (asgS 3 (blF lstG (consF (slF (vF 0) (someO (cF (.int 1))) noneO) nilF)))
    (seqS (ifS (op2F neD (op2F ixD (vF 0) (cF (.int 0))) (cF (.str "if"))) (asgS 3 (blF lstG (consF (op2F ixD (vF 0) (cF (.int 2))) nilF))) passS)
    (seqS (forS (rngS' rng1 (consF (blF lenG (consF (vF 3) nilF)) nilF)) (Tg.F (.nm 4)) (L0_law_put f_law_heads_of f_law_put))
    (seqS (ifS (op2F eqD (op2F ixD (vF 0) (cF (.int 0))) (cF (.str "if"))) (retS (op2F addD (tupF (consF (cF (.str "if")) nilF)) (blF tupG (consF (vF 3) nilF)))) passS)
    (retS (tupF (consF (op2F ixD (vF 0) (cF (.int 0))) (consF (op2F ixD (vF 0) (cF (.int 1))) (consF (blF tupG (consF (vF 3) nilF)) nilF)))))))))))
theorem ok_law_put {P : Program} {w : World} {K : PySem.W.Frag} {mg : Str → Option Value} {base : Heap} {f : Addr} {fd : FuncData} {k : Nat} (B : Blt mg) (F : Fun K "_law_put" "_law_put" s_law_put f fd) (hm : mg "_law_put" = some (.ref f)) (hb : Binds K fd ["_law_form_here", "_law_at", "_law_other"] []) {f_law_heads_of : List Ar → FR} {k_law_heads_of : Nat} (h_law_heads_of : Cal P w K mg base k_law_heads_of "_law_heads_of" 1 f_law_heads_of) (l_law_heads_of : k_law_heads_of ≤ k) {f_law_put : List Ar → FR} {k_law_put : Nat} (h_law_put : Cal P w K mg base k_law_put "_law_put" 3 f_law_put) (l_law_put : k_law_put ≤ k) : Cal P w K mg base (k + 1) "_law_put" 3 (runF 6 (b_law_put f_law_heads_of f_law_put)) := by
  refine fn_cal F sc_law_put hm hb rfl (by decide) fun cdv A outer s H E hr => ?_
  have hu := hu65 hr
  have nd := sc_law_put.nd
  have tk := L2N.takes_of (X := cxOf (L2N.CX P w) P w K mg base N_law_put "_law_put" (defScope s_law_put) f cdv A outer s H E) (E := E) rfl rfl rfl rfl
  exact (sts_cons (st_if (tx_cmp (op_eqA hu) snd_eq (ex_var 1) ex_int (nomark _)) (sts_one (st_ret (ex_var 2))) sts_nil)
    (sts_cons (st_set (i := 1) nd (ex_sub (ex_var 1) ex_int))
    (sts_cons (st_set (i := 3) nd (ex_lstC (B _ (by decide)) (ax_cons (ex_slice (ex_var 0) (ox_some ex_int) ox_none) ax_nil)))
    (sts_cons (st_if (tx_cmp (op_neA hu) snd_ne (ex_item (ex_var 0) ex_int) ex_str (nomark _)) (sts_one (st_set (i := 3) nd (ex_lstC (B _ (by decide)) (ax_cons (ex_item (ex_var 0) ex_int) ax_nil)))) sts_nil)
    (sts_cons (st_for (passes_of rfl) rfl (sx_range1 (B _ (by decide)) (ax_cons (ex_len (B _ (by decide)) (ax_cons (ex_var 3) ax_nil)) ax_nil)) (Tg.gx (t := (.nm 4)) (pgt_name (i := 4) nd)) (sts_cons (st_set (i := 5) nd (ex_len (B _ (by decide)) (ax_cons (ex_call (sg := [false]) h_law_heads_of hr l_law_heads_of tk rfl (ax_cons (ex_item (ex_var 3) (ex_var 4)) ax_nil)) ax_nil)))
    (sts_cons (st_if (tx_w (tw_and (tx_cmp (op_le) snd_le ex_int (ex_var 1) (nomark _)) (tw_and1 (tx_cmp (op_lt) snd_lt (ex_var 1) (ex_var 5) (nomark _))))) (sts_one (st_sto (pv 3) (ex_call (sg := [false, false, false]) h_law_put hr l_law_put tk rfl (ax_cons (ex_item (ex_var 3) (ex_var 4)) (ax_cons (ex_var 1) (ax_cons (ex_var 2) ax_nil)))) (ex_var 4))) sts_nil)
    (sts_one (st_set (i := 1) nd (ex_sub (ex_var 1) (ex_var 5)))))))
    (sts_cons (st_if (tx_cmp (op_eqA hu) snd_eq (ex_item (ex_var 0) ex_int) ex_str (nomark _)) (sts_one (st_ret (ex_add (ex_tup (ax_cons ex_str ax_nil)) (ex_tupC (B _ (by decide)) (ax_cons (ex_var 3) ax_nil))))) sts_nil)
    (sts_one (st_ret (ex_tup (ax_cons (ex_item (ex_var 0) ex_int) (ax_cons (ex_item (ex_var 0) ex_int) (ax_cons (ex_tupC (B _ (by decide)) (ax_cons (ex_var 3) ax_nil)) ax_nil))))))))))))
abbrev s_law_odd : Stmt := topS 42
abbrev N_law_odd : List Str := ["_law_heads_here", "_law_way", "_law_one", "_law_odd_here"]
theorem sc_law_odd : FnScope N_law_odd ["_law_heads_here", "_law_way"] (defScope s_law_odd) := ⟨rfl, rfl, rfl, by decide +kernel, rfl, by decide +kernel, by decide +kernel⟩
def b_law_odd : Sx := (seqS (asgS 2 (tupF (consF (cF (.str "value")) (consF (cF (.int 1)) nilF))))
    (seqS (asgS 3 (lstF (consF (tupF (consF (cF (.str "value")) (consF (cF (.bl true)) nilF))) (consF (tupF (consF (cF (.str "value")) (consF (op2F powD (cF (.int 10)) (cF (.int 18))) nilF))) (consF (tupF (consF (cF (.str "value")) (consF (op2F mulTD (tupF (consF (cF (.int 0)) nilF)) (cF (.int 50))) nilF))) (consF (tupF (consF (cF (.str "value")) (consF (tupF (consF (cF (.str "a")) nilF)) nilF))) (consF (tupF (consF (cF (.str "value")) (consF (cF (.int 1)) (consF (cF (.int 1)) nilF)))) nilF)))))))
    (seqS (asgS 3 (op2F addD (vF 3) (lstF (consF (tupF (consF (cF (.str "value")) (consF (cF .non) nilF))) (consF (tupF (consF (cF (.str "name")) (consF (cF (.str "zz9")) nilF))) (consF (tupF (consF (cF (.str "name")) (consF (op2F addD (op2F ixD (op2F ixD (vF 0) (cF (.int 0))) (cF (.int 0))) (cF (.str "z"))) nilF))) (consF (tupF (consF (cF (.str "refuse")) (consF (cF (.str "TooLong")) nilF))) nilF)))))))
    (seqS (asgS 3 (op2F addD (vF 3) (lstF (consF (tupF (consF (cF (.str "refuse")) (consF (cF (.str "refused")) nilF))) (consF (tupF (consF (cF (.str "if")) (consF (vF 2) (consF (vF 2) nilF)))) (consF (tupF (consF (cF (.str "if")) (consF (vF 2) (consF (vF 2) (consF (vF 2) (consF (vF 2) nilF)))))) (consF (tupF (consF (cF (.str "do")) (consF (cF (.str "plus")) (consF (tupF (consF (vF 2) nilF)) nilF)))) nilF)))))))
    (seqS (asgS 3 (op2F addD (vF 3) (lstF (consF (tupF (consF (cF (.str "do")) (consF (cF (.str "plus")) (consF (tupF (consF (vF 2) (consF (vF 2) (consF (vF 2) nilF)))) nilF)))) (consF (tupF (consF (cF (.str "do")) (consF (cF (.str "mod")) (consF (tupF (consF (vF 2) (consF (vF 2) nilF))) nilF)))) (consF (tupF (consF (cF (.str "do")) (consF (cF (.str "list")) (consF (op2F mulTD (tupF (consF (vF 2) nilF)) (cF (.int 9))) nilF)))) nilF))))))
    (seqS (asgS 3 (op2F addD (vF 3) (lstF (consF (tupF (consF (cF (.str "do")) (consF (cF (.str "first")) (consF (tupF nilF) nilF)))) (consF (tupF (consF (cF (.str "do")) (consF (cF (.str "if")) (consF (tupF (consF (vF 2) (consF (vF 2) (consF (vF 2) nilF)))) nilF)))) (consF (tupF (consF (cF (.str "call")) (consF (cF (.str "zz9")) (consF (tupF nilF) nilF)))) (consF (tupF (consF (cF (.str "stop")) (consF (cF (.int 1)) nilF))) nilF)))))))
    (seqS (asgS 3 (op2F addD (vF 3) (lstF (consF (tupF (consF (cF (.str "call")) (consF (op2F ixD (op2F ixD (vF 0) (cF (.int 0))) (cF (.int 0))) (consF (op2F mulTD (tupF (consF (vF 2) nilF)) (op2F addD (blF lenG (consF (op2F ixD (op2F ixD (vF 0) (cF (.int 0))) (cF (.int 1))) nilF)) (cF (.int 1)))) nilF)))) (consF (tupF (consF (cF (.str "call")) (consF (cF (.str "plus")) (consF (tupF (consF (vF 2) (consF (vF 2) nilF))) nilF)))) nilF)))))
    (retS (op2F ixD (vF 3) (vF 1))))))))))
theorem ok_law_odd {P : Program} {w : World} {K : PySem.W.Frag} {mg : Str → Option Value} {base : Heap} {f : Addr} {fd : FuncData} {k : Nat} (B : Blt mg) (F : Fun K "_law_odd" "_law_odd" s_law_odd f fd) (hm : mg "_law_odd" = some (.ref f)) (hb : Binds K fd ["_law_heads_here", "_law_way"] []) : Cal P w K mg base (k + 1) "_law_odd" 2 (runF 4 (b_law_odd)) := by
  refine fn_cal F sc_law_odd hm hb rfl (by decide) fun cdv A outer s H E hr => ?_
  have hu := hu65 hr
  have nd := sc_law_odd.nd
  have tk := L2N.takes_of (X := cxOf (L2N.CX P w) P w K mg base N_law_odd "_law_odd" (defScope s_law_odd) f cdv A outer s H E) (E := E) rfl rfl rfl rfl
  exact (sts_cons (st_set (i := 2) nd (ex_tup (ax_cons ex_str (ax_cons ex_int ax_nil))))
    (sts_cons (st_set (i := 3) nd (ex_lst (ax_cons (ex_tup (ax_cons ex_str (ax_cons ex_bl ax_nil))) (ax_cons (ex_tup (ax_cons ex_str (ax_cons (ex_pow ex_int ex_int) ax_nil))) (ax_cons (ex_tup (ax_cons ex_str (ax_cons (ex_mulT (ex_tup (ax_cons ex_int ax_nil)) ex_int) ax_nil))) (ax_cons (ex_tup (ax_cons ex_str (ax_cons (ex_tup (ax_cons ex_str ax_nil)) ax_nil))) (ax_cons (ex_tup (ax_cons ex_str (ax_cons ex_int (ax_cons ex_int ax_nil)))) ax_nil)))))))
    (sts_cons (st_set (i := 3) nd (ex_add (ex_var 3) (ex_lst (ax_cons (ex_tup (ax_cons ex_str (ax_cons ex_non ax_nil))) (ax_cons (ex_tup (ax_cons ex_str (ax_cons ex_str ax_nil))) (ax_cons (ex_tup (ax_cons ex_str (ax_cons (ex_add (ex_item (ex_item (ex_var 0) ex_int) ex_int) ex_str) ax_nil))) (ax_cons (ex_tup (ax_cons ex_str (ax_cons ex_str ax_nil))) ax_nil)))))))
    (sts_cons (st_set (i := 3) nd (ex_add (ex_var 3) (ex_lst (ax_cons (ex_tup (ax_cons ex_str (ax_cons ex_str ax_nil))) (ax_cons (ex_tup (ax_cons ex_str (ax_cons (ex_var 2) (ax_cons (ex_var 2) ax_nil)))) (ax_cons (ex_tup (ax_cons ex_str (ax_cons (ex_var 2) (ax_cons (ex_var 2) (ax_cons (ex_var 2) (ax_cons (ex_var 2) ax_nil)))))) (ax_cons (ex_tup (ax_cons ex_str (ax_cons ex_str (ax_cons (ex_tup (ax_cons (ex_var 2) ax_nil)) ax_nil)))) ax_nil)))))))
    (sts_cons (st_set (i := 3) nd (ex_add (ex_var 3) (ex_lst (ax_cons (ex_tup (ax_cons ex_str (ax_cons ex_str (ax_cons (ex_tup (ax_cons (ex_var 2) (ax_cons (ex_var 2) (ax_cons (ex_var 2) ax_nil)))) ax_nil)))) (ax_cons (ex_tup (ax_cons ex_str (ax_cons ex_str (ax_cons (ex_tup (ax_cons (ex_var 2) (ax_cons (ex_var 2) ax_nil))) ax_nil)))) (ax_cons (ex_tup (ax_cons ex_str (ax_cons ex_str (ax_cons (ex_mulT (ex_tup (ax_cons (ex_var 2) ax_nil)) ex_int) ax_nil)))) ax_nil))))))
    (sts_cons (st_set (i := 3) nd (ex_add (ex_var 3) (ex_lst (ax_cons (ex_tup (ax_cons ex_str (ax_cons ex_str (ax_cons (ex_tup ax_nil) ax_nil)))) (ax_cons (ex_tup (ax_cons ex_str (ax_cons ex_str (ax_cons (ex_tup (ax_cons (ex_var 2) (ax_cons (ex_var 2) (ax_cons (ex_var 2) ax_nil)))) ax_nil)))) (ax_cons (ex_tup (ax_cons ex_str (ax_cons ex_str (ax_cons (ex_tup ax_nil) ax_nil)))) (ax_cons (ex_tup (ax_cons ex_str (ax_cons ex_int ax_nil))) ax_nil)))))))
    (sts_cons (st_set (i := 3) nd (ex_add (ex_var 3) (ex_lst (ax_cons (ex_tup (ax_cons ex_str (ax_cons (ex_item (ex_item (ex_var 0) ex_int) ex_int) (ax_cons (ex_mulT (ex_tup (ax_cons (ex_var 2) ax_nil)) (ex_add (ex_len (B _ (by decide)) (ax_cons (ex_item (ex_item (ex_var 0) ex_int) ex_int) ax_nil)) ex_int)) ax_nil)))) (ax_cons (ex_tup (ax_cons ex_str (ax_cons ex_str (ax_cons (ex_tup (ax_cons (ex_var 2) (ax_cons (ex_var 2) ax_nil))) ax_nil)))) ax_nil)))))
    (sts_one (st_ret (ex_item (ex_var 3) (ex_var 1)))))))))))
abbrev s_law_deep : Stmt := topS 43
abbrev N_law_deep : List Str := ["_law_many", "_law_form_here", "_law_k", "_law_some"]
theorem sc_law_deep : FnScope N_law_deep ["_law_many"] (defScope s_law_deep) := ⟨rfl, rfl, rfl, by decide +kernel, rfl, by decide +kernel, by decide +kernel⟩
def L0_law_deep : Sx := (seqS (asgS 3 (lstF (consF (tupF (consF (cF (.str "do")) (consF (cF (.str "list")) (consF (tupF (consF (vF 1) nilF)) nilF)))) (consF (tupF (consF (cF (.str "if")) (consF (vF 1) (consF (tupF (consF (cF (.str "value")) (consF (cF (.int 0)) nilF))) (consF (tupF (consF (cF (.str "value")) (consF (cF (.int 2)) nilF))) nilF))))) nilF))))
    (seqS (exprS (mtF appM 3 (consF (tupF (consF (cF (.str "do")) (consF (cF (.str "plus")) (consF (tupF (consF (tupF (consF (cF (.str "value")) (consF (cF (.int 3)) nilF))) (consF (vF 1) nilF))) nilF)))) nilF)))
    (asgS 1 (op2F ixD (vF 3) (op2F modD (op2F addD (vF 2) (vF 0)) (cF (.int 3)))))))
def b_law_deep : Sx := (seqS (asgS 1 (tupF (consF (cF (.str "value")) (consF (cF (.int 1)) nilF))))
    (seqS (forS (rngS' rng1 (consF (op2F subD (vF 0) (cF (.int 1))) nilF)) (Tg.F (.nm 2)) (L0_law_deep))
    (retS (vF 1))))
theorem ok_law_deep {P : Program} {w : World} {K : PySem.W.Frag} {mg : Str → Option Value} {base : Heap} {f : Addr} {fd : FuncData} {k : Nat} (B : Blt mg) (F : Fun K "_law_deep" "_law_deep" s_law_deep f fd) (hm : mg "_law_deep" = some (.ref f)) (hb : Binds K fd ["_law_many"] []) : Cal P w K mg base (k + 1) "_law_deep" 1 (runF 4 (b_law_deep)) := by
  refine fn_cal F sc_law_deep hm hb rfl (by decide) fun cdv A outer s H E hr => ?_
  have hu := hu65 hr
  have nd := sc_law_deep.nd
  have tk := L2N.takes_of (X := cxOf (L2N.CX P w) P w K mg base N_law_deep "_law_deep" (defScope s_law_deep) f cdv A outer s H E) (E := E) rfl rfl rfl rfl
  exact (sts_cons (st_set (i := 1) nd (ex_tup (ax_cons ex_str (ax_cons ex_int ax_nil))))
    (sts_cons (st_for (passes_of rfl) rfl (sx_range1 (B _ (by decide)) (ax_cons (ex_sub (ex_var 0) ex_int) ax_nil)) (Tg.gx (t := (.nm 2)) (pgt_name (i := 2) nd)) (sts_cons (st_set (i := 3) nd (ex_lst (ax_cons (ex_tup (ax_cons ex_str (ax_cons ex_str (ax_cons (ex_tup (ax_cons (ex_var 1) ax_nil)) ax_nil)))) (ax_cons (ex_tup (ax_cons ex_str (ax_cons (ex_var 1) (ax_cons (ex_tup (ax_cons ex_str (ax_cons ex_int ax_nil))) (ax_cons (ex_tup (ax_cons ex_str (ax_cons ex_int ax_nil))) ax_nil))))) ax_nil))))
    (sts_cons (st_expr (ex_append (pv 3) (ax_cons (ex_tup (ax_cons ex_str (ax_cons ex_str (ax_cons (ex_tup (ax_cons (ex_tup (ax_cons ex_str (ax_cons ex_int ax_nil))) (ax_cons (ex_var 1) ax_nil))) ax_nil)))) ax_nil)))
    (sts_one (st_set (i := 1) nd (ex_item (ex_var 3) (ex_mod (ex_add (ex_var 2) (ex_var 0)) ex_int)))))))
    (sts_one (st_ret (ex_var 1)))))
abbrev s_law_with : Stmt := topS 44
abbrev N_law_with : List Str := ["_law_program_here", "_law_k", "_law_function"]
theorem sc_law_with : FnScope N_law_with ["_law_program_here", "_law_k", "_law_function"] (defScope s_law_with) := ⟨rfl, rfl, rfl, by decide +kernel, rfl, by decide +kernel, by decide +kernel⟩
def b_law_with : Sx := (retS (op2F addD (op2F addD (slF (vF 0) noneO (someO (vF 1))) (tupF (consF (vF 2) nilF))) (slF (vF 0) (someO (op2F addD (vF 1) (cF (.int 1)))) noneO)))
theorem ok_law_with {P : Program} {w : World} {K : PySem.W.Frag} {mg : Str → Option Value} {base : Heap} {f : Addr} {fd : FuncData} {k : Nat} (B : Blt mg) (F : Fun K "_law_with" "_law_with" s_law_with f fd) (hm : mg "_law_with" = some (.ref f)) (hb : Binds K fd ["_law_program_here", "_law_k", "_law_function"] []) : Cal P w K mg base (k + 1) "_law_with" 3 (runF 3 (b_law_with)) := by
  refine fn_cal F sc_law_with hm hb rfl (by decide) fun cdv A outer s H E hr => ?_
  have hu := hu65 hr
  have nd := sc_law_with.nd
  have tk := L2N.takes_of (X := cxOf (L2N.CX P w) P w K mg base N_law_with "_law_with" (defScope s_law_with) f cdv A outer s H E) (E := E) rfl rfl rfl rfl
  exact (sts_one (st_ret (ex_add (ex_add (ex_slice (ex_var 0) ox_none (ox_some (ex_var 1))) (ex_tup (ax_cons (ex_var 2) ax_nil))) (ex_slice (ex_var 0) (ox_some (ex_add (ex_var 1) ex_int)) ox_none))))
abbrev s_law_spoilt : Stmt := topS 45
abbrev N_law_spoilt : List Str := ["_law_program_here", "_law_heads_here", "_law_way", "_law_cell", "_law_k", "_law_more", "_law_name", "_law_params", "_law_body", "_law_at", "_law_some"]
theorem sc_law_spoilt : FnScope N_law_spoilt ["_law_program_here", "_law_heads_here", "_law_way", "_law_cell"] (defScope s_law_spoilt) := ⟨rfl, rfl, rfl, by decide +kernel, rfl, by decide +kernel, by decide +kernel⟩
def b_law_spoilt (f_law_heads_of : List Ar → FR) (f_law_with : List Ar → FR) (f_law_put : List Ar → FR) (f_law_odd : List Ar → FR) (f_law_deep : List Ar → FR) : Sx := (seqS (asgS 4 (op2F modD (vF 3) (blF lenG (consF (vF 0) nilF))))
    (seqS (asgS 5 (op2F divD (vF 3) (cF (.int 7))))
    (seqS (unpS (Tg.F (.tp [6, 7, 8])) (op2F ixD (vF 0) (vF 4)))
    (seqS (ifS (op2F ltD (vF 2) (cF (.int 22))) (seqS (asgS 9 (op2F modD (vF 5) (blF lenG (consF (callF [false] f_law_heads_of (consF (vF 8) nilF)) nilF))))
    (retS (callF [false, false, false] f_law_with (consF (vF 0) (consF (vF 4) (consF (tupF (consF (vF 6) (consF (vF 7) (consF (callF [false, false, false] f_law_put (consF (vF 8) (consF (vF 9) (consF (callF [false, false] f_law_odd (consF (vF 1) (consF (vF 2) nilF))) nilF)))) nilF)))) nilF)))))) passS)
    (seqS (ifS (op2F eqD (vF 2) (cF (.int 22))) (retS (op2F addD (vF 0) (tupF (consF (tupF (consF (vF 6) (consF (tupF nilF) (consF (tupF (consF (cF (.str "value")) (consF (cF (.int 0)) nilF))) nilF)))) nilF)))) passS)
    (seqS (ifS (op2F eqD (vF 2) (cF (.int 23))) (retS (tupF nilF)) passS)
    (seqS (ifS (op2F eqD (vF 2) (cF (.int 24))) (seqS (asgS 10 (lstF (consF (cF (.str "if")) (consF (cF (.str "list")) (consF (cF (.str "A")) (consF (cF (.str "")) (consF (cF (.str "ninesigns")) (consF (cF (.str "1a")) (consF (cF (.str "refuse")) (consF (cF (.str "a-b")) nilF))))))))))
    (retS (callF [false, false, false] f_law_with (consF (vF 0) (consF (vF 4) (consF (tupF (consF (op2F ixD (vF 10) (op2F modD (vF 5) (cF (.int 8)))) (consF (vF 7) (consF (vF 8) nilF)))) nilF)))))) passS)
    (seqS (ifS (op2F eqD (vF 2) (cF (.int 25))) (retS (callF [false, false, false] f_law_with (consF (vF 0) (consF (vF 4) (consF (tupF (consF (vF 6) (consF (op2F addD (vF 7) (tupF (consF (cF (.str "ya")) (consF (cF (.str "yb")) (consF (cF (.str "yc")) (consF (cF (.str "yd")) (consF (cF (.str "ye")) (consF (cF (.str "yf")) (consF (cF (.str "yg")) nilF))))))))) (consF (vF 8) nilF)))) nilF))))) passS)
    (seqS (ifS (op2F eqD (vF 2) (cF (.int 26))) (retS (callF [false, false, false] f_law_with (consF (vF 0) (consF (vF 4) (consF (tupF (consF (vF 6) (consF (op2F addD (vF 7) (tupF (consF (cF (.str "ya")) (consF (cF (.str "ya")) nilF)))) (consF (vF 8) nilF)))) nilF))))) passS)
    (seqS (ifS (op2F eqD (vF 2) (cF (.int 27))) (retS (callF [false, false, false] f_law_with (consF (vF 0) (consF (vF 4) (consF (tupF (consF (vF 6) (consF (op2F addD (vF 7) (tupF (consF (op2F ixD (lstF (consF (cF (.str "same")) (consF (cF (.str "Ab")) (consF (cF (.str "")) (consF (cF (.str "if")) nilF))))) (op2F modD (vF 5) (cF (.int 4)))) nilF))) (consF (vF 8) nilF)))) nilF))))) passS)
    (retS (callF [false, false, false] f_law_with (consF (vF 0) (consF (vF 4) (consF (tupF (consF (vF 6) (consF (vF 7) (consF (callF [false] f_law_deep (consF (cF (.int 21)) nilF)) nilF)))) nilF)))))))))))))))
theorem ok_law_spoilt {P : Program} {w : World} {K : PySem.W.Frag} {mg : Str → Option Value} {base : Heap} {f : Addr} {fd : FuncData} {k : Nat} (B : Blt mg) (F : Fun K "_law_spoilt" "_law_spoilt" s_law_spoilt f fd) (hm : mg "_law_spoilt" = some (.ref f)) (hb : Binds K fd ["_law_program_here", "_law_heads_here", "_law_way", "_law_cell"] []) {f_law_heads_of : List Ar → FR} {k_law_heads_of : Nat} (h_law_heads_of : Cal P w K mg base k_law_heads_of "_law_heads_of" 1 f_law_heads_of) (l_law_heads_of : k_law_heads_of ≤ k) {f_law_with : List Ar → FR} {k_law_with : Nat} (h_law_with : Cal P w K mg base k_law_with "_law_with" 3 f_law_with) (l_law_with : k_law_with ≤ k) {f_law_put : List Ar → FR} {k_law_put : Nat} (h_law_put : Cal P w K mg base k_law_put "_law_put" 3 f_law_put) (l_law_put : k_law_put ≤ k) {f_law_odd : List Ar → FR} {k_law_odd : Nat} (h_law_odd : Cal P w K mg base k_law_odd "_law_odd" 2 f_law_odd) (l_law_odd : k_law_odd ≤ k) {f_law_deep : List Ar → FR} {k_law_deep : Nat} (h_law_deep : Cal P w K mg base k_law_deep "_law_deep" 1 f_law_deep) (l_law_deep : k_law_deep ≤ k) : Cal P w K mg base (k + 1) "_law_spoilt" 4 (runF 11 (b_law_spoilt f_law_heads_of f_law_with f_law_put f_law_odd f_law_deep)) := by
  refine fn_cal F sc_law_spoilt hm hb rfl (by decide) fun cdv A outer s H E hr => ?_
  have hu := hu65 hr
  have nd := sc_law_spoilt.nd
  have tk := L2N.takes_of (X := cxOf (L2N.CX P w) P w K mg base N_law_spoilt "_law_spoilt" (defScope s_law_spoilt) f cdv A outer s H E) (E := E) rfl rfl rfl rfl
  exact (sts_cons (st_set (i := 4) nd (ex_mod (ex_var 3) (ex_len (B _ (by decide)) (ax_cons (ex_var 0) ax_nil))))
    (sts_cons (st_set (i := 5) nd (ex_div (ex_var 3) ex_int))
    (sts_cons (st_unp (ex_item (ex_var 0) (ex_var 4)) (Tg.gx (t := (.tp [6, 7, 8])) (pgt_tup rfl (pgts_cons (i := 6) nd (pgts_cons (i := 7) nd (pgts_cons (i := 8) nd pgts_nil))))))
    (sts_cons (st_if (tx_cmp (op_lt) snd_lt (ex_var 2) ex_int (nomark _)) (sts_cons (st_set (i := 9) nd (ex_mod (ex_var 5) (ex_len (B _ (by decide)) (ax_cons (ex_call (sg := [false]) h_law_heads_of hr l_law_heads_of tk rfl (ax_cons (ex_var 8) ax_nil)) ax_nil))))
    (sts_one (st_ret (ex_call (sg := [false, false, false]) h_law_with hr l_law_with tk rfl (ax_cons (ex_var 0) (ax_cons (ex_var 4) (ax_cons (ex_tup (ax_cons (ex_var 6) (ax_cons (ex_var 7) (ax_cons (ex_call (sg := [false, false, false]) h_law_put hr l_law_put tk rfl (ax_cons (ex_var 8) (ax_cons (ex_var 9) (ax_cons (ex_call (sg := [false, false]) h_law_odd hr l_law_odd tk rfl (ax_cons (ex_var 1) (ax_cons (ex_var 2) ax_nil))) ax_nil)))) ax_nil)))) ax_nil))))))) sts_nil)
    (sts_cons (st_if (tx_cmp (op_eqA hu) snd_eq (ex_var 2) ex_int (nomark _)) (sts_one (st_ret (ex_add (ex_var 0) (ex_tup (ax_cons (ex_tup (ax_cons (ex_var 6) (ax_cons (ex_tup ax_nil) (ax_cons (ex_tup (ax_cons ex_str (ax_cons ex_int ax_nil))) ax_nil)))) ax_nil))))) sts_nil)
    (sts_cons (st_if (tx_cmp (op_eqA hu) snd_eq (ex_var 2) ex_int (nomark _)) (sts_one (st_ret (ex_tup ax_nil))) sts_nil)
    (sts_cons (st_if (tx_cmp (op_eqA hu) snd_eq (ex_var 2) ex_int (nomark _)) (sts_cons (st_set (i := 10) nd (ex_lst (ax_cons ex_str (ax_cons ex_str (ax_cons ex_str (ax_cons ex_str (ax_cons ex_str (ax_cons ex_str (ax_cons ex_str (ax_cons ex_str ax_nil))))))))))
    (sts_one (st_ret (ex_call (sg := [false, false, false]) h_law_with hr l_law_with tk rfl (ax_cons (ex_var 0) (ax_cons (ex_var 4) (ax_cons (ex_tup (ax_cons (ex_item (ex_var 10) (ex_mod (ex_var 5) ex_int)) (ax_cons (ex_var 7) (ax_cons (ex_var 8) ax_nil)))) ax_nil))))))) sts_nil)
    (sts_cons (st_if (tx_cmp (op_eqA hu) snd_eq (ex_var 2) ex_int (nomark _)) (sts_one (st_ret (ex_call (sg := [false, false, false]) h_law_with hr l_law_with tk rfl (ax_cons (ex_var 0) (ax_cons (ex_var 4) (ax_cons (ex_tup (ax_cons (ex_var 6) (ax_cons (ex_add (ex_var 7) (ex_tup (ax_cons ex_str (ax_cons ex_str (ax_cons ex_str (ax_cons ex_str (ax_cons ex_str (ax_cons ex_str (ax_cons ex_str ax_nil))))))))) (ax_cons (ex_var 8) ax_nil)))) ax_nil)))))) sts_nil)
    (sts_cons (st_if (tx_cmp (op_eqA hu) snd_eq (ex_var 2) ex_int (nomark _)) (sts_one (st_ret (ex_call (sg := [false, false, false]) h_law_with hr l_law_with tk rfl (ax_cons (ex_var 0) (ax_cons (ex_var 4) (ax_cons (ex_tup (ax_cons (ex_var 6) (ax_cons (ex_add (ex_var 7) (ex_tup (ax_cons ex_str (ax_cons ex_str ax_nil)))) (ax_cons (ex_var 8) ax_nil)))) ax_nil)))))) sts_nil)
    (sts_cons (st_if (tx_cmp (op_eqA hu) snd_eq (ex_var 2) ex_int (nomark _)) (sts_one (st_ret (ex_call (sg := [false, false, false]) h_law_with hr l_law_with tk rfl (ax_cons (ex_var 0) (ax_cons (ex_var 4) (ax_cons (ex_tup (ax_cons (ex_var 6) (ax_cons (ex_add (ex_var 7) (ex_tup (ax_cons (ex_item (ex_lst (ax_cons ex_str (ax_cons ex_str (ax_cons ex_str (ax_cons ex_str ax_nil))))) (ex_mod (ex_var 5) ex_int)) ax_nil))) (ax_cons (ex_var 8) ax_nil)))) ax_nil)))))) sts_nil)
    (sts_one (st_ret (ex_call (sg := [false, false, false]) h_law_with hr l_law_with tk rfl (ax_cons (ex_var 0) (ax_cons (ex_var 4) (ax_cons (ex_tup (ax_cons (ex_var 6) (ax_cons (ex_var 7) (ax_cons (ex_call (sg := [false]) h_law_deep hr l_law_deep tk rfl (ax_cons ex_int ax_nil)) ax_nil)))) ax_nil))))))))))))))))
abbrev s_law_truth : Stmt := topS 46
abbrev N_law_truth : List Str := ["_law_found", "_law_due"]
theorem sc_law_truth : FnScope N_law_truth ["_law_found", "_law_due"] (defScope s_law_truth) := ⟨rfl, rfl, rfl, by decide +kernel, rfl, by decide +kernel, by decide +kernel⟩
def b_law_truth : Sx := (retS (andF (blF isiG (consF (vF 0) (consF (cF (.ty .bool)) nilF))) (op2F eqD (vF 0) (vF 1))))
theorem ok_law_truth {P : Program} {w : World} {K : PySem.W.Frag} {mg : Str → Option Value} {base : Heap} {f : Addr} {fd : FuncData} {k : Nat} (B : Blt mg) (F : Fun K "_law_truth" "_law_truth" s_law_truth f fd) (hm : mg "_law_truth" = some (.ref f)) (hb : Binds K fd ["_law_found", "_law_due"] []) : Cal P w K mg base (k + 1) "_law_truth" 2 (runF 2 (b_law_truth)) := by
  refine fn_cal F sc_law_truth hm hb rfl (by decide) fun cdv A outer s H E hr => ?_
  have hu := hu65 hr
  have nd := sc_law_truth.nd
  have tk := L2N.takes_of (X := cxOf (L2N.CX P w) P w K mg base N_law_truth "_law_truth" (defScope s_law_truth) f cdv A outer s H E) (E := E) rfl rfl rfl rfl
  exact (sts_one (st_ret (ex_and (ex_isi (B _ (by decide)) (ax_cons (ex_var 0) (ax_cons (ex_ty (t := .bool) (B _ (by decide))) ax_nil))) (ex_one (ex_eq hu (ex_var 0) (ex_var 1))))))
abbrev s_law_is_name : Stmt := topS 47
abbrev N_law_is_name : List Str := ["_law_text_here", "_law_words", "_law_sign"]
theorem sc_law_is_name : FnScope N_law_is_name ["_law_text_here"] (defScope s_law_is_name) := ⟨rfl, rfl, rfl, by decide +kernel, rfl, by decide +kernel, by decide +kernel⟩
def T0_law_is_name : Fx := (op2F notInD (vF 2) (cF (.str "abcdefghijklmnopqrstuvwxyz0123456789")))
def E0_law_is_name : Fx := (vF 2)
def b_law_is_name : Sx := (seqS (asgS 1 (lstF (consF (cF (.str "plus")) (consF (cF (.str "minus")) (consF (cF (.str "times")) (consF (cF (.str "over")) (consF (cF (.str "less")) (consF (cF (.str "same")) (consF (cF (.str "join")) (consF (cF (.str "first")) (consF (cF (.str "rest")) (consF (cF (.str "empty")) (consF (cF (.str "down")) (consF (cF (.str "list")) nilF))))))))))))))
    (seqS (ifS (orF (op2F inD (vF 0) (vF 1)) (orF (op2F inD (vF 0) (tupF (consF (cF (.str "if")) (consF (cF (.str "refuse")) (consF (cF (.str "")) nilF))))) (orF (op2F gtD (blF lenG (consF (vF 0) nilF)) (cF (.int 8))) (op2F inD (op2F ixD (vF 0) (cF (.int 0))) (cF (.str "0123456789")))))) (retS (cF (.bl false))) passS)
    (retS (op2F eqD (blF lenG (consF (lcF (strS' (vF 0)) (Tg.F (.nm 2)) (T0_law_is_name) (E0_law_is_name) [2]) nilF)) (cF (.int 0))))))
theorem ok_law_is_name {P : Program} {w : World} {K : PySem.W.Frag} {mg : Str → Option Value} {base : Heap} {f : Addr} {fd : FuncData} {k : Nat} (B : Blt mg) (F : Fun K "_law_is_name" "_law_is_name" s_law_is_name f fd) (hm : mg "_law_is_name" = some (.ref f)) (hb : Binds K fd ["_law_text_here"] []) : Cal P w K mg base (k + 1) "_law_is_name" 1 (runF 3 (b_law_is_name)) := by
  refine fn_cal F sc_law_is_name hm hb rfl (by decide) fun cdv A outer s H E hr => ?_
  have hu := hu65 hr
  have nd := sc_law_is_name.nd
  have tk := L2N.takes_of (X := cxOf (L2N.CX P w) P w K mg base N_law_is_name "_law_is_name" (defScope s_law_is_name) f cdv A outer s H E) (E := E) rfl rfl rfl rfl
  exact (sts_cons (st_set (i := 1) nd (ex_lst (ax_cons ex_str (ax_cons ex_str (ax_cons ex_str (ax_cons ex_str (ax_cons ex_str (ax_cons ex_str (ax_cons ex_str (ax_cons ex_str (ax_cons ex_str (ax_cons ex_str (ax_cons ex_str (ax_cons ex_str ax_nil))))))))))))))
    (sts_cons (st_if (tx_w (tw_or (tx_cmp (op_inA hu) snd_in (ex_var 0) (ex_var 1) rfl) (tw_or (tx_cmp (op_inA hu) snd_in (ex_var 0) (ex_tup (ax_cons ex_str (ax_cons ex_str (ax_cons ex_str ax_nil)))) rfl) (tw_or (tx_cmp (op_gt) snd_gt (ex_len (B _ (by decide)) (ax_cons (ex_var 0) ax_nil)) ex_int (nomark _)) (tw_or1 (tx_cmp (op_inA hu) snd_in (ex_item (ex_var 0) ex_int) ex_str rfl)))))) (sts_one (st_ret ex_bl)) sts_nil)
    (sts_one (st_ret (ex_eq hu (ex_len (B _ (by decide)) (ax_cons (ex_lc rfl nd (sx_str (ex_var 0)) (blkOk_by (own := [("_law_sign", 2)]) (N := N_law_is_name) (sc := defScope s_law_is_name) (by decide +kernel)) (fun _ _ _ _ _ => (pgt_name (i := 2) nd)) (fun _ _ _ _ _ => (ltx_one (tx_cmp (op_notinA hu) snd_notin (ex_var 2) ex_str rfl))) (fun _ _ _ _ _ => (ex_var 2))) ax_nil)) ex_int)))))
abbrev s_law_text : Stmt := topS 48
abbrev N_law_text : List Str := ["_law_cell", "_law_some", "_law_size", "_law_sign", "_law_place"]
theorem sc_law_text : FnScope N_law_text ["_law_cell"] (defScope s_law_text) := ⟨rfl, rfl, rfl, by decide +kernel, rfl, by decide +kernel, by decide +kernel⟩
def b_law_text : Sx := (seqS (asgS 1 (lstF (consF (cF (.str "plus")) (consF (cF (.str "rest")) (consF (cF (.str "if")) (consF (cF (.str "refuse")) (consF (cF (.str "")) (consF (cF (.str "ab9")) (consF (cF (.str "abcdefgh")) (consF (cF (.str "abcdefghi")) nilF))))))))))
    (seqS (asgS 1 (op2F addD (vF 1) (lstF (consF (cF (.str "9a")) (consF (cF (.str "a_b")) (consF (cF (.str "listx")) (consF (cF (.str "ifs")) (consF (cF (.str "a")) (consF (cF (.str "refuses")) nilF)))))))))
    (seqS (ifS (op2F eqD (op2F modD (vF 0) (cF (.int 2))) (cF (.int 0))) (retS (op2F ixD (vF 1) (op2F modD (op2F divD (vF 0) (cF (.int 2))) (cF (.int 14))))) passS)
    (seqS (asgS 2 (op2F addD (cF (.int 1)) (op2F modD (op2F divD (vF 0) (cF (.int 2))) (cF (.int 9)))))
    (seqS (asgS 3 (op2F ixD (cF (.str "abz059{`@/: AZ-_.")) (op2F modD (op2F divD (vF 0) (cF (.int 18))) (cF (.int 17)))))
    (seqS (asgS 4 (op2F modD (op2F divD (vF 0) (cF (.int 306))) (vF 2)))
    (retS (op2F addD (op2F addD (op2F mulD (cF (.str "a")) (vF 4)) (vF 3)) (op2F mulD (cF (.str "a")) (op2F subD (op2F subD (vF 2) (cF (.int 1))) (vF 4)))))))))))
theorem ok_law_text {P : Program} {w : World} {K : PySem.W.Frag} {mg : Str → Option Value} {base : Heap} {f : Addr} {fd : FuncData} {k : Nat} (B : Blt mg) (F : Fun K "_law_text" "_law_text" s_law_text f fd) (hm : mg "_law_text" = some (.ref f)) (hb : Binds K fd ["_law_cell"] []) : Cal P w K mg base (k + 1) "_law_text" 1 (runF 5 (b_law_text)) := by
  refine fn_cal F sc_law_text hm hb rfl (by decide) fun cdv A outer s H E hr => ?_
  have hu := hu65 hr
  have nd := sc_law_text.nd
  have tk := L2N.takes_of (X := cxOf (L2N.CX P w) P w K mg base N_law_text "_law_text" (defScope s_law_text) f cdv A outer s H E) (E := E) rfl rfl rfl rfl
  exact (sts_cons (st_set (i := 1) nd (ex_lst (ax_cons ex_str (ax_cons ex_str (ax_cons ex_str (ax_cons ex_str (ax_cons ex_str (ax_cons ex_str (ax_cons ex_str (ax_cons ex_str ax_nil))))))))))
    (sts_cons (st_set (i := 1) nd (ex_add (ex_var 1) (ex_lst (ax_cons ex_str (ax_cons ex_str (ax_cons ex_str (ax_cons ex_str (ax_cons ex_str (ax_cons ex_str ax_nil)))))))))
    (sts_cons (st_if (tx_cmp (op_eqA hu) snd_eq (ex_mod (ex_var 0) ex_int) ex_int (nomark _)) (sts_one (st_ret (ex_item (ex_var 1) (ex_mod (ex_div (ex_var 0) ex_int) ex_int)))) sts_nil)
    (sts_cons (st_set (i := 2) nd (ex_add ex_int (ex_mod (ex_div (ex_var 0) ex_int) ex_int)))
    (sts_cons (st_set (i := 3) nd (ex_item ex_str (ex_mod (ex_div (ex_var 0) ex_int) ex_int)))
    (sts_cons (st_set (i := 4) nd (ex_mod (ex_div (ex_var 0) ex_int) (ex_var 2)))
    (sts_one (st_ret (ex_add (ex_add (ex_mul ex_str (ex_var 4)) (ex_var 3)) (ex_mul ex_str (ex_sub (ex_sub (ex_var 2) ex_int) (ex_var 4))))))))))))
abbrev s_law_sure : Stmt := topS 49
abbrev N_law_sure : List Str := ["_law_x", "_law_no", "_law_good", "_law_bad", "_law_body", "_law_six"]
theorem sc_law_sure : FnScope N_law_sure [] (defScope s_law_sure) := ⟨rfl, rfl, rfl, by decide +kernel, rfl, by decide +kernel, by decide +kernel⟩
def L0_law_sure (f_law_deep : List Ar → FR) (f_is_good : List Ar → FR) : Sx := (ifS (op2F neD (callF [false] f_is_good (consF (tupF (consF (tupF (consF (cF (.str "a")) (consF (tupF (consF (cF (.str "x")) nilF)) (consF (vF 4) nilF)))) nilF)) nilF)) (op2F inD (vF 4) (vF 2))) (retS (cF (.bl false))) passS)
def b_law_sure (f_law_deep : List Ar → FR) (f_is_good : List Ar → FR) : Sx := (seqS (asgS 0 (tupF (consF (cF (.str "name")) (consF (cF (.str "x")) nilF))))
    (seqS (asgS 1 (tupF (consF (cF (.str "refuse")) (consF (cF (.str "NoList")) nilF))))
    (seqS (asgS 2 (lstF (consF (vF 0) (consF (vF 1) (consF (callF [false] f_law_deep (consF (cF (.int 20)) nilF)) (consF (tupF (consF (cF (.str "call")) (consF (cF (.str "a")) (consF (tupF (consF (vF 0) nilF)) nilF)))) (consF (tupF (consF (cF (.str "do")) (consF (cF (.str "list")) (consF (op2F mulTD (tupF (consF (vF 0) nilF)) (cF (.int 8))) nilF)))) (consF (tupF (consF (cF (.str "value")) (consF (op2F mulTD (tupF (consF (cF (.int 0)) nilF)) (cF (.int 49))) nilF))) nilF))))))))
    (seqS (asgS 3 (lstF (consF (callF [false] f_law_deep (consF (cF (.int 21)) nilF)) (consF (tupF (consF (cF (.str "call")) (consF (cF (.str "a")) (consF (tupF nilF) nilF)))) (consF (tupF (consF (cF (.str "call")) (consF (cF (.str "a")) (consF (tupF (consF (vF 0) (consF (vF 0) nilF))) nilF)))) (consF (tupF (consF (cF (.str "do")) (consF (cF (.str "list")) (consF (op2F mulTD (tupF (consF (vF 0) nilF)) (cF (.int 9))) nilF)))) (consF (tupF (consF (cF (.str "name")) (consF (cF (.str "y")) nilF))) nilF)))))))
    (seqS (asgS 3 (op2F addD (vF 3) (lstF (consF (tupF (consF (cF (.str "value")) (consF (op2F mulTD (tupF (consF (cF (.int 0)) nilF)) (cF (.int 50))) nilF))) (consF (tupF (consF (cF (.str "refuse")) (consF (cF (.str "TooLong")) nilF))) (consF (tupF (consF (cF (.str "call")) (consF (cF (.str "b")) (consF (tupF (consF (vF 0) nilF)) nilF)))) (consF (tupF (consF (cF (.str "do")) (consF (cF (.str "plus")) (consF (tupF (consF (vF 0) nilF)) nilF)))) (consF (tupF (consF (cF (.str "if")) (consF (vF 0) (consF (vF 0) nilF)))) nilF))))))))
    (seqS (forS (seqS' (op2F addD (vF 2) (vF 3))) (Tg.F (.nm 4)) (L0_law_sure f_law_deep f_is_good))
    (seqS (asgS 5 (tupF (consF (cF (.str "x")) (consF (cF (.str "b")) (consF (cF (.str "c")) (consF (cF (.str "d")) (consF (cF (.str "e")) (consF (cF (.str "f")) nilF))))))))
    (seqS (ifS (orF (notF (callF [false] f_is_good (consF (tupF (consF (tupF (consF (cF (.str "a")) (consF (vF 5) (consF (vF 0) nilF)))) nilF)) nilF))) (orF (callF [false] f_is_good (consF (tupF (consF (tupF (consF (cF (.str "a")) (consF (op2F addD (vF 5) (tupF (consF (cF (.str "g")) nilF))) (consF (vF 0) nilF)))) nilF)) nilF)) (callF [false] f_is_good (consF (tupF (consF (tupF (consF (cF (.str "a")) (consF (tupF (consF (cF (.str "x")) (consF (cF (.str "x")) nilF))) (consF (vF 0) nilF)))) nilF)) nilF)))) (retS (cF (.bl false))) passS)
    (retS (notF (callF [false] f_is_good (consF (tupF (consF (tupF (consF (cF (.str "a")) (consF (tupF (consF (cF (.str "x")) nilF)) (consF (vF 0) nilF)))) (consF (tupF (consF (cF (.str "a")) (consF (tupF nilF) (consF (tupF (consF (cF (.str "value")) (consF (cF (.int 1)) nilF))) nilF)))) nilF))) nilF))))))))))))
theorem ok_law_sure {P : Program} {w : World} {K : PySem.W.Frag} {mg : Str → Option Value} {base : Heap} {f : Addr} {fd : FuncData} {k : Nat} (B : Blt mg) (F : Fun K "_law_sure" "_law_sure" s_law_sure f fd) (hm : mg "_law_sure" = some (.ref f)) (hb : Binds K fd [] []) {f_law_deep : List Ar → FR} {k_law_deep : Nat} (h_law_deep : Cal P w K mg base k_law_deep "_law_deep" 1 f_law_deep) (l_law_deep : k_law_deep ≤ k) {f_is_good : List Ar → FR} {k_is_good : Nat} (h_is_good : Cal P w K mg base k_is_good "is_good" 1 f_is_good) (l_is_good : k_is_good ≤ k) : Cal P w K mg base (k + 1) "_law_sure" 0 (runF 6 (b_law_sure f_law_deep f_is_good)) := by
  refine fn_cal F sc_law_sure hm hb rfl (by decide) fun cdv A outer s H E hr => ?_
  have hu := hu65 hr
  have nd := sc_law_sure.nd
  have tk := L2N.takes_of (X := cxOf (L2N.CX P w) P w K mg base N_law_sure "_law_sure" (defScope s_law_sure) f cdv A outer s H E) (E := E) rfl rfl rfl rfl
  exact (sts_cons (st_set (i := 0) nd (ex_tup (ax_cons ex_str (ax_cons ex_str ax_nil))))
    (sts_cons (st_set (i := 1) nd (ex_tup (ax_cons ex_str (ax_cons ex_str ax_nil))))
    (sts_cons (st_set (i := 2) nd (ex_lst (ax_cons (ex_var 0) (ax_cons (ex_var 1) (ax_cons (ex_call (sg := [false]) h_law_deep hr l_law_deep tk rfl (ax_cons ex_int ax_nil)) (ax_cons (ex_tup (ax_cons ex_str (ax_cons ex_str (ax_cons (ex_tup (ax_cons (ex_var 0) ax_nil)) ax_nil)))) (ax_cons (ex_tup (ax_cons ex_str (ax_cons ex_str (ax_cons (ex_mulT (ex_tup (ax_cons (ex_var 0) ax_nil)) ex_int) ax_nil)))) (ax_cons (ex_tup (ax_cons ex_str (ax_cons (ex_mulT (ex_tup (ax_cons ex_int ax_nil)) ex_int) ax_nil))) ax_nil))))))))
    (sts_cons (st_set (i := 3) nd (ex_lst (ax_cons (ex_call (sg := [false]) h_law_deep hr l_law_deep tk rfl (ax_cons ex_int ax_nil)) (ax_cons (ex_tup (ax_cons ex_str (ax_cons ex_str (ax_cons (ex_tup ax_nil) ax_nil)))) (ax_cons (ex_tup (ax_cons ex_str (ax_cons ex_str (ax_cons (ex_tup (ax_cons (ex_var 0) (ax_cons (ex_var 0) ax_nil))) ax_nil)))) (ax_cons (ex_tup (ax_cons ex_str (ax_cons ex_str (ax_cons (ex_mulT (ex_tup (ax_cons (ex_var 0) ax_nil)) ex_int) ax_nil)))) (ax_cons (ex_tup (ax_cons ex_str (ax_cons ex_str ax_nil))) ax_nil)))))))
    (sts_cons (st_set (i := 3) nd (ex_add (ex_var 3) (ex_lst (ax_cons (ex_tup (ax_cons ex_str (ax_cons (ex_mulT (ex_tup (ax_cons ex_int ax_nil)) ex_int) ax_nil))) (ax_cons (ex_tup (ax_cons ex_str (ax_cons ex_str ax_nil))) (ax_cons (ex_tup (ax_cons ex_str (ax_cons ex_str (ax_cons (ex_tup (ax_cons (ex_var 0) ax_nil)) ax_nil)))) (ax_cons (ex_tup (ax_cons ex_str (ax_cons ex_str (ax_cons (ex_tup (ax_cons (ex_var 0) ax_nil)) ax_nil)))) (ax_cons (ex_tup (ax_cons ex_str (ax_cons (ex_var 0) (ax_cons (ex_var 0) ax_nil)))) ax_nil))))))))
    (sts_cons (st_for (passes_of rfl) rfl (sx_seq (ex_add (ex_var 2) (ex_var 3))) (Tg.gx (t := (.nm 4)) (pgt_name (i := 4) nd)) (sts_one (st_if (tx_cmp (op_neA hu) snd_ne (ex_call (sg := [false]) h_is_good hr l_is_good tk rfl (ax_cons (ex_tup (ax_cons (ex_tup (ax_cons ex_str (ax_cons (ex_tup (ax_cons ex_str ax_nil)) (ax_cons (ex_var 4) ax_nil)))) ax_nil)) ax_nil)) (ex_in hu (ex_var 4) (ex_var 2)) (nomark _)) (sts_one (st_ret ex_bl)) sts_nil)))
    (sts_cons (st_set (i := 5) nd (ex_tup (ax_cons ex_str (ax_cons ex_str (ax_cons ex_str (ax_cons ex_str (ax_cons ex_str (ax_cons ex_str ax_nil))))))))
    (sts_cons (st_if (tx_w (tw_or (tx_not (tx_val (ex_call (sg := [false]) h_is_good hr l_is_good tk rfl (ax_cons (ex_tup (ax_cons (ex_tup (ax_cons ex_str (ax_cons (ex_var 5) (ax_cons (ex_var 0) ax_nil)))) ax_nil)) ax_nil)))) (tw_or (tx_val (ex_call (sg := [false]) h_is_good hr l_is_good tk rfl (ax_cons (ex_tup (ax_cons (ex_tup (ax_cons ex_str (ax_cons (ex_add (ex_var 5) (ex_tup (ax_cons ex_str ax_nil))) (ax_cons (ex_var 0) ax_nil)))) ax_nil)) ax_nil))) (tw_or1 (tx_val (ex_call (sg := [false]) h_is_good hr l_is_good tk rfl (ax_cons (ex_tup (ax_cons (ex_tup (ax_cons ex_str (ax_cons (ex_tup (ax_cons ex_str (ax_cons ex_str ax_nil))) (ax_cons (ex_var 0) ax_nil)))) ax_nil)) ax_nil))))))) (sts_one (st_ret ex_bl)) sts_nil)
    (sts_one (st_ret (ex_not (ex_call (sg := [false]) h_is_good hr l_is_good tk rfl (ax_cons (ex_tup (ax_cons (ex_tup (ax_cons ex_str (ax_cons (ex_tup (ax_cons ex_str ax_nil)) (ax_cons (ex_var 0) ax_nil)))) (ax_cons (ex_tup (ax_cons ex_str (ax_cons (ex_tup ax_nil) (ax_cons (ex_tup (ax_cons ex_str (ax_cons ex_int ax_nil))) ax_nil)))) ax_nil))) ax_nil)))))))))))))
abbrev s_law : Stmt := topS 50
abbrev N_law : List Str := ["_law_script", "_law_heads_here", "_law_program_here", "_law_way", "_law_due", "_law_text_here", "_law_turn"]
theorem sc_law : FnScope N_law ["_law_script"] (defScope s_law) := ⟨rfl, rfl, rfl, by decide +kernel, rfl, by decide +kernel, by decide +kernel⟩
def L0_law (f_law_heads : List Ar → FR) (f_law_program : List Ar → FR) (f_law_cell_at : List Ar → FR) (f_law_deep : List Ar → FR) (f_law_spoilt : List Ar → FR) (f_law_text : List Ar → FR) (f_law_truth : List Ar → FR) (f_is_good : List Ar → FR) (f_is_name : List Ar → FR) (f_law_is_name : List Ar → FR) (f_law_sure : List Ar → FR) : Sx := (seqS (ifS (orF (notF (callF [false, false] f_law_truth (consF (callF [false] f_is_good (consF (vF 2) nilF)) (consF (vF 4) nilF)))) (notF (callF [false, false] f_law_truth (consF (callF [false] f_is_name (consF (vF 5) nilF)) (consF (callF [false] f_law_is_name (consF (vF 5) nilF)) nilF))))) (retS (cF (.bl false))) passS)
    (ifS (orF (op2F isNotD (callF [false] f_is_good (consF (tupF (consF (tupF (consF (cF (.str "a")) (consF (tupF nilF) (consF (tupF (consF (cF (.str "name")) (consF (cF (.str "b")) nilF))) nilF)))) nilF)) nilF)) (cF (.bl false))) (op2F isNotD (callF [false] f_is_good (consF (tupF (consF (tupF (consF (cF (.str "a")) (consF (tupF (consF (cF (.str "b")) nilF)) (consF (tupF (consF (cF (.str "name")) (consF (cF (.str "b")) nilF))) nilF)))) nilF)) nilF)) (cF (.bl true)))) (retS (cF (.bl false))) passS))
def b_law (f_law_heads : List Ar → FR) (f_law_program : List Ar → FR) (f_law_cell_at : List Ar → FR) (f_law_deep : List Ar → FR) (f_law_spoilt : List Ar → FR) (f_law_text : List Ar → FR) (f_law_truth : List Ar → FR) (f_is_good : List Ar → FR) (f_is_name : List Ar → FR) (f_law_is_name : List Ar → FR) (f_law_sure : List Ar → FR) : Sx := (seqS (asgS 1 (callF [false] f_law_heads (consF (vF 0) nilF)))
    (seqS (asgS 2 (callF [false, false] f_law_program (consF (vF 0) (consF (vF 1) nilF))))
    (seqS (asgS 3 (op2F modD (callF [false, false] f_law_cell_at (consF (vF 0) (consF (cF (.int 15)) nilF))) (cF (.int 44))))
    (seqS (asgS 4 (op2F gtD (vF 3) (cF (.int 28))))
    (seqS (ifS (op2F eqD (vF 3) (cF (.int 29))) (asgS 2 (op2F addD (slF (vF 2) noneO (someO (negF (cF (.int 1))))) (tupF (consF (tupF (consF (op2F ixD (op2F ixD (vF 2) (negF (cF (.int 1)))) (cF (.int 0))) (consF (op2F ixD (op2F ixD (vF 2) (negF (cF (.int 1)))) (cF (.int 1))) (consF (callF [false] f_law_deep (consF (cF (.int 20)) nilF)) nilF)))) nilF)))) passS)
    (seqS (ifS (notF (vF 4)) (asgS 2 (callF [false, false, false, false] f_law_spoilt (consF (vF 2) (consF (vF 1) (consF (vF 3) (consF (callF [false, false] f_law_cell_at (consF (vF 0) (consF (cF (.int 16)) nilF))) nilF)))))) passS)
    (seqS (asgS 5 (callF [false] f_law_text (consF (callF [false, false] f_law_cell_at (consF (vF 0) (consF (cF (.int 17)) nilF))) nilF)))
    (seqS (forS (rngS' rng1 (consF (cF (.int 2)) nilF)) (Tg.F (.nm 6)) (L0_law f_law_heads f_law_program f_law_cell_at f_law_deep f_law_spoilt f_law_text f_law_truth f_is_good f_is_name f_law_is_name f_law_sure))
    (retS (callF0 f_law_sure))))))))))
theorem ok_law {P : Program} {w : World} {K : PySem.W.Frag} {mg : Str → Option Value} {base : Heap} {f : Addr} {fd : FuncData} {k : Nat} (B : Blt mg) (F : Fun K "law" "law" s_law f fd) (hm : mg "law" = some (.ref f)) (hb : Binds K fd ["_law_script"] []) {f_law_heads : List Ar → FR} {k_law_heads : Nat} (h_law_heads : Cal P w K mg base k_law_heads "_law_heads" 1 f_law_heads) (l_law_heads : k_law_heads ≤ k) {f_law_program : List Ar → FR} {k_law_program : Nat} (h_law_program : Cal P w K mg base k_law_program "_law_program" 2 f_law_program) (l_law_program : k_law_program ≤ k) {f_law_cell_at : List Ar → FR} {k_law_cell_at : Nat} (h_law_cell_at : Cal P w K mg base k_law_cell_at "_law_cell_at" 2 f_law_cell_at) (l_law_cell_at : k_law_cell_at ≤ k) {f_law_deep : List Ar → FR} {k_law_deep : Nat} (h_law_deep : Cal P w K mg base k_law_deep "_law_deep" 1 f_law_deep) (l_law_deep : k_law_deep ≤ k) {f_law_spoilt : List Ar → FR} {k_law_spoilt : Nat} (h_law_spoilt : Cal P w K mg base k_law_spoilt "_law_spoilt" 4 f_law_spoilt) (l_law_spoilt : k_law_spoilt ≤ k) {f_law_text : List Ar → FR} {k_law_text : Nat} (h_law_text : Cal P w K mg base k_law_text "_law_text" 1 f_law_text) (l_law_text : k_law_text ≤ k) {f_law_truth : List Ar → FR} {k_law_truth : Nat} (h_law_truth : Cal P w K mg base k_law_truth "_law_truth" 2 f_law_truth) (l_law_truth : k_law_truth ≤ k) {f_is_good : List Ar → FR} {k_is_good : Nat} (h_is_good : Cal P w K mg base k_is_good "is_good" 1 f_is_good) (l_is_good : k_is_good ≤ k) {f_is_name : List Ar → FR} {k_is_name : Nat} (h_is_name : Cal P w K mg base k_is_name "is_name" 1 f_is_name) (l_is_name : k_is_name ≤ k) {f_law_is_name : List Ar → FR} {k_law_is_name : Nat} (h_law_is_name : Cal P w K mg base k_law_is_name "_law_is_name" 1 f_law_is_name) (l_law_is_name : k_law_is_name ≤ k) {f_law_sure : List Ar → FR} {k_law_sure : Nat} (h_law_sure : Cal P w K mg base k_law_sure "_law_sure" 0 f_law_sure) (l_law_sure : k_law_sure ≤ k) : FnOk P w K mg base (L2N.CX P w) (k + 1) f fd ["_law_script"] (spD K mg 1 (runF 7 (b_law f_law_heads f_law_program f_law_cell_at f_law_deep f_law_spoilt f_law_text f_law_truth f_is_good f_is_name f_law_is_name f_law_sure))) := by
  refine fn_ok F sc_law hm hb rfl (by decide) fun cdv A outer s H E hr => ?_
  have hu := hu65 hr
  have nd := sc_law.nd
  have tk := L2N.takes_of (X := cxOf (L2N.CX P w) P w K mg base N_law "law" (defScope s_law) f cdv A outer s H E) (E := E) rfl rfl rfl rfl
  exact (sts_cons (st_set (i := 1) nd (ex_call (sg := [false]) h_law_heads hr l_law_heads tk rfl (ax_cons (ex_var 0) ax_nil)))
    (sts_cons (st_set (i := 2) nd (ex_call (sg := [false, false]) h_law_program hr l_law_program tk rfl (ax_cons (ex_var 0) (ax_cons (ex_var 1) ax_nil))))
    (sts_cons (st_set (i := 3) nd (ex_mod (ex_call (sg := [false, false]) h_law_cell_at hr l_law_cell_at tk rfl (ax_cons (ex_var 0) (ax_cons ex_int ax_nil))) ex_int))
    (sts_cons (st_set (i := 4) nd (ex_gt (ex_var 3) ex_int))
    (sts_cons (st_if (tx_cmp (op_eqA hu) snd_eq (ex_var 3) ex_int (nomark _)) (sts_one (st_set (i := 2) nd (ex_add (ex_slice (ex_var 2) ox_none (ox_some (ex_neg ex_int))) (ex_tup (ax_cons (ex_tup (ax_cons (ex_item (ex_item (ex_var 2) (ex_neg ex_int)) ex_int) (ax_cons (ex_item (ex_item (ex_var 2) (ex_neg ex_int)) ex_int) (ax_cons (ex_call (sg := [false]) h_law_deep hr l_law_deep tk rfl (ax_cons ex_int ax_nil)) ax_nil)))) ax_nil))))) sts_nil)
    (sts_cons (st_if (tx_not (tx_val (ex_var 4))) (sts_one (st_set (i := 2) nd (ex_call (sg := [false, false, false, false]) h_law_spoilt hr l_law_spoilt tk rfl (ax_cons (ex_var 2) (ax_cons (ex_var 1) (ax_cons (ex_var 3) (ax_cons (ex_call (sg := [false, false]) h_law_cell_at hr l_law_cell_at tk rfl (ax_cons (ex_var 0) (ax_cons ex_int ax_nil))) ax_nil))))))) sts_nil)
    (sts_cons (st_set (i := 5) nd (ex_call (sg := [false]) h_law_text hr l_law_text tk rfl (ax_cons (ex_call (sg := [false, false]) h_law_cell_at hr l_law_cell_at tk rfl (ax_cons (ex_var 0) (ax_cons ex_int ax_nil))) ax_nil)))
    (sts_cons (st_for (passes_of rfl) rfl (sx_range1 (B _ (by decide)) (ax_cons ex_int ax_nil)) (Tg.gx (t := (.nm 6)) (pgt_name (i := 6) nd)) (sts_cons (st_if (tx_w (tw_or (tx_not (tx_val (ex_call (sg := [false, false]) h_law_truth hr l_law_truth tk rfl (ax_cons (ex_call (sg := [false]) h_is_good hr l_is_good tk rfl (ax_cons (ex_var 2) ax_nil)) (ax_cons (ex_var 4) ax_nil))))) (tw_or1 (tx_not (tx_val (ex_call (sg := [false, false]) h_law_truth hr l_law_truth tk rfl (ax_cons (ex_call (sg := [false]) h_is_name hr l_is_name tk rfl (ax_cons (ex_var 5) ax_nil)) (ax_cons (ex_call (sg := [false]) h_law_is_name hr l_law_is_name tk rfl (ax_cons (ex_var 5) ax_nil)) ax_nil)))))))) (sts_one (st_ret ex_bl)) sts_nil)
    (sts_one (st_if (tx_w (tw_or (tx_cmp (op_isnotA) snd_isnot (ex_call (sg := [false]) h_is_good hr l_is_good tk rfl (ax_cons (ex_tup (ax_cons (ex_tup (ax_cons ex_str (ax_cons (ex_tup ax_nil) (ax_cons (ex_tup (ax_cons ex_str (ax_cons ex_str ax_nil))) ax_nil)))) ax_nil)) ax_nil)) ex_bl (nomark _)) (tw_or1 (tx_cmp (op_isnotA) snd_isnot (ex_call (sg := [false]) h_is_good hr l_is_good tk rfl (ax_cons (ex_tup (ax_cons (ex_tup (ax_cons ex_str (ax_cons (ex_tup (ax_cons ex_str ax_nil)) (ax_cons (ex_tup (ax_cons ex_str (ax_cons ex_str ax_nil))) ax_nil)))) ax_nil)) ax_nil)) ex_bl (nomark _))))) (sts_one (st_ret ex_bl)) sts_nil))))
    (sts_one (st_ret (ex_call0 h_law_sure hr l_law_sure tk)))))))))))

end HFL
set_option Elab.async false
set_option linter.all false
set_option maxRecDepth 100000
set_option maxHeartbeats 4000000
set_option autoImplicit false
namespace HFL
open PySem PySem.Spec PyProof.Rows L2 HF
/-! ### equality of data -/
@[simp] theorem eqv_str (x y : Str) : PyData.eqv (.str x) (.str y) = decide (x = y) := by rw [PyData.eqv]; rfl
@[simp] theorem eqv_int (x y : Int) : PyData.eqv (.int x) (.int y) = decide (x = y) := by rw [PyData.eqv]; rfl
@[simp] theorem eqv_bl (x y : Bool) : PyData.eqv (.bool x) (.bool y) = decide (x = y) := by rw [PyData.eqv]; cases x <;> cases y <;> rfl
@[simp] theorem eqvAll_nn : PyData.eqvAll [] [] = true := by rw [PyData.eqvAll]
@[simp] theorem eqvAll_cc (x y : PyData) (xs ys : List PyData) : PyData.eqvAll (x :: xs) (y :: ys) = (PyData.eqv x y && PyData.eqvAll xs ys) := by rw [PyData.eqvAll]
@[simp] theorem eqvAll_cn (x : PyData) (xs : List PyData) : PyData.eqvAll (x :: xs) [] = false := by rw [PyData.eqvAll]
@[simp] theorem eqvAll_nc (x : PyData) (xs : List PyData) : PyData.eqvAll [] (x :: xs) = false := by rw [PyData.eqvAll]
theorem eqB_self {d : D} (h : d.pl) (hd : d.dp ≤ 64) : D.eqB d d = some true := by
  have e := PySem.SeqAt.eqv_refl d.py h
  have h' : d.py.canLay0 = true := h
  cases d <;> simp_all [D.eqB, D.dp]
/-! ### is_whole, weight, is_value -/
def big : Int := 1000000000000000000
def whole : D → Bool
  | .int i => decide ((if i < 0 then -i else i) < big)
  | _ => false
mutual
def good : D → Bool
  | .tup xs => goodL xs
  | d => whole d
def goodL : List D → Bool
  | [] => true
  | d :: ds => good d && goodL ds
end
@[simp] theorem goodL_nil : goodL [] = true := by rw [goodL]
@[simp] theorem goodL_cons (d : D) (ds : List D) : goodL (d :: ds) = (good d && goodL ds) := by rw [goodL]
@[simp] theorem good_tup (xs : List D) : good (.tup xs) = goodL xs := by rw [good]
@[simp] theorem goodL_append (a b : List D) : goodL (a ++ b) = (goodL a && goodL b) := by
  induction a with
  | nil => simp
  | cons x a ih => simp [ih, Bool.and_assoc]
theorem goodL_all (ds : List D) : goodL ds = ds.all good := by
  induction ds with
  | nil => simp
  | cons x a ih => simp [ih]
/-- tuples, numbers, truths, None, texts -/
def leafy : D → Bool
  | .non => true
  | .bl _ => true
  | .int _ => true
  | .str s => PyData.strOk s
  | _ => false
mutual
def thg : D → Bool
  | .tup xs => thgL xs
  | d => leafy d
def thgL : List D → Bool
  | [] => true
  | d :: ds => thg d && thgL ds
end
@[simp] theorem thgL_nil : thgL [] = true := by rw [thgL]
@[simp] theorem thgL_cons (d : D) (ds : List D) : thgL (d :: ds) = (thg d && thgL ds) := by rw [thgL]
@[simp] theorem thg_tup (xs : List D) : thg (.tup xs) = thgL xs := by rw [thg]
@[simp] theorem thgL_append (a b : List D) : thgL (a ++ b) = (thgL a && thgL b) := by
  induction a with
  | nil => simp
  | cons x a ih => simp [ih, Bool.and_assoc]
theorem thgL_mem {ds : List D} {d : D} (h : thgL ds = true) (m : d ∈ ds) : thg d = true := by
  induction ds with
  | nil => cases m
  | cons x ds ih =>
    simp only [thgL_cons, Bool.and_eq_true] at h
    cases m with
    | head => exact h.1
    | tail _ m => exact ih h.2 m
theorem thgL_of {ds : List D} (h : ∀ d ∈ ds, thg d = true) : thgL ds = true := by
  induction ds with
  | nil => simp
  | cons x ds ih => simp; exact ⟨h x (by simp), ih fun d m => h d (by simp [m])⟩
mutual
theorem thg_pl : ∀ d : D, thg d = true → d.pl
  | .tup xs, h => by simp at h; simpa [D.pl] using thgL_pl xs h
  | .non, h => by simp [D.pl]
  | .bl _, h => by simp [D.pl]
  | .int _, h => by simp [D.pl]
  | .str s, h => by simpa [D.pl, thg, leafy] using h
  | .lst _, h => by simp [thg, leafy] at h
  | .dct _ _, h => by simp [thg, leafy] at h
  | .scr _, h => by simp [thg, leafy] at h
  | .ty _, h => by simp [thg, leafy] at h
theorem thgL_pl : ∀ ds : List D, thgL ds = true → D.plL ds
  | [], _ => by simp [D.plL]
  | d :: ds, h => by simp at h; simpa [D.plL] using ⟨thg_pl d h.1, thgL_pl ds h.2⟩
end
end HFL

set_option Elab.async false
set_option linter.all false
set_option maxRecDepth 100000
set_option maxHeartbeats 4000000
set_option autoImplicit false
namespace HFL
open PySem PySem.Spec PyProof.Rows L2 HF
theorem run_is_whole (d : D) (h : thg d = true) : runF 1 (b_is_whole (.int big)) [.val d] = .im (.bl (whole d)) [.val d] := by
  cases d <;> simp [thg, leafy] at h <;> simp [b_is_whole, whole]
/-- is it a tuple -/
def isT : D → Bool
  | .tup _ => true
  | _ => false
theorem isi_tup {d : D} (h : thg d = true) : d.isi .tuple = some (isT d) := by
  cases d <;> simp [thg, leafy] at h <;> rfl
def isI : D → Bool
  | .int _ => true
  | .bl _ => true
  | _ => false
def isB' : D → Bool
  | .bl _ => true
  | _ => false
theorem isi_int {d : D} (h : thg d = true) : d.isi .int = some (isI d) := by
  cases d <;> simp [thg, leafy] at h <;> rfl
theorem isi_bool {d : D} (h : thg d = true) : d.isi .bool = some (isB' d) := by
  cases d <;> simp [thg, leafy] at h <;> rfl
/-- the stack behind a thing -/
def kids : D → List D
  | .tup xs => xs
  | _ => []
theorem kids_thg {d : D} (h : thg d = true) : thgL (kids d) = true := by
  cases d <;> simp [kids] <;> simpa using h
theorem kids_wt (d : D) : d.wt = 1 + D.wtL (kids d) := by
  cases d <;> simp [kids, D.wt]
theorem snoc_cases {α : Type} (xs : List α) : xs = [] ∨ ∃ ys y, xs = ys ++ [y] := by
  cases h : xs.reverse with
  | nil => left; simpa using h
  | cons y ys => right; exact ⟨ys.reverse, y, by have := congrArg List.reverse h; simpa using this⟩
theorem eqB_nn : D.eqB (.lst []) (.lst []) = some true := D.eqB_nil (xs := []) (by simp [D.plL])
def frees (x : Sl) : Prop := x = .non ∨ ∃ z, x = .val z
end HFL

set_option Elab.async false
set_option linter.all false
set_option maxRecDepth 100000
set_option maxHeartbeats 4000000
set_option autoImplicit false
namespace HFL
open PySem PySem.Spec PyProof.Rows L2 HF
theorem good_kids {d : D} (h : thg d = true) : good d = (if isT d then goodL (kids d) else whole d) := by
  cases d <;> simp [isT, kids, good]
theorem value_loop (fw : List Ar → FR) (hfw : ∀ d, thg d = true → fw [.val d] = .im (.bl (whole d)) [.val d]) (w : List Sl → Nat) (t : D) : ∀ (n : Nat) (left : List D) (c : Nat) (x : Sl), frees x → D.wtL left ≤ n → n ≤ 16777216 → thgL left = true → c ≤ 50 →
    ∃ e' : List Sl, whileL (C0_is_value fw w (.int 50)) (L0_is_value fw w (.int 50)) (n + 1) [.val t, .val (.int c), .own (.lst left), x] = if goodL left = true ∧ c + D.wtL left ≤ 50 then .nx e' else .rt (.im (.bl false)) e' := by
  intro n
  induction n with
  | zero =>
    intro left c x hx hw _ hp hc
    have : left = [] := by
      have := D.length_le_wtL left
      exact List.eq_nil_of_length_eq_zero (by omega)
    subst this
    exact ⟨_, by simp [whileL, C0_is_value, -D.eqB, eqB_nn, hc]; rfl⟩
  | succ n ih =>
    intro left c x hx hw hn hp hc
    rcases snoc_cases left with rfl | ⟨ys, y, rfl⟩
    · exact ⟨_, by simp [whileL, C0_is_value, -D.eqB, eqB_nn, hc]; rfl⟩
    · have hpl := thgL_pl _ hp
      simp only [thgL_append, Bool.and_eq_true, thgL_cons, thgL_nil, and_true] at hp
      simp only [D.wtL_append, D.wtL_cons, D.wtL_nil] at hw
      have hk := kids_wt y
      have h1 := D.length_le_wtL ys
      have h2 := D.length_le_wtL (kids y)
      have hg := good_kids hp.2
      have hlen : ys.length + (kids y).length ≤ 16777216 := by omega
      have hi := isi_tup hp.2
      by_cases hc50 : c = 50
      · subst hc50
        have hno : ¬ (goodL (ys ++ [y]) = true ∧ 50 + D.wtL (ys ++ [y]) ≤ 50) := by simp; intro _ _; omega
        simp only [if_neg hno]
        unfold whileL
        rcases hx with rfl | ⟨x, rfl⟩ <;> simp [C0_is_value, L0_is_value, -D.eqB, D.eqB_nil hpl]
      · have hcc : ¬ (50 : Int) < (c : Int) + 1 := by omega
        obtain ⟨z, hz⟩ := ih (ys ++ kids y) (c + 1) (.val y) (.inr ⟨y, rfl⟩) (by simp; omega) (by omega) (by simp [hp, kids_thg]) (by omega)
        simp only [Int.natCast_add, Int.cast_ofNat_Int] at hz
        cases hT : isT y
        case false =>
          have hky : kids y = [] := by cases y <;> simp [kids, isT] at hT ⊢
          cases hW : whole y
          case false =>
            have hno : ¬ (goodL (ys ++ [y]) = true ∧ c + D.wtL (ys ++ [y]) ≤ 50) := by simp [hg, hT, hW]
            simp only [if_neg hno]
            unfold whileL
            rcases hx with rfl | ⟨x, rfl⟩ <;> simp [C0_is_value, L0_is_value, -D.eqB, D.eqB_nil hpl, hcc, hfw y hp.2, hi, hT, hW, -D.isi]
          case true =>
            refine ⟨z, ?_⟩
            have e : (goodL (ys ++ kids y) = true ∧ c + 1 + D.wtL (ys ++ kids y) ≤ 50) ↔ (goodL (ys ++ [y]) = true ∧ c + D.wtL (ys ++ [y]) ≤ 50) := by
              rw [hky] at hk; simp [hky, hg, hT, hW] at hk ⊢; omega
            simp only [e] at hz
            rw [← hz]
            conv => lhs; unfold whileL
            rcases hx with rfl | ⟨x, rfl⟩ <;> simp [C0_is_value, L0_is_value, -D.eqB, D.eqB_nil hpl, hcc, hfw y hp.2, hi, hT, hW, -D.isi, hky]
        case true =>
          refine ⟨z, ?_⟩
          have e : (goodL (ys ++ kids y) = true ∧ c + 1 + D.wtL (ys ++ kids y) ≤ 50) ↔ (goodL (ys ++ [y]) = true ∧ c + D.wtL (ys ++ [y]) ≤ 50) := by
            simp [hg, hT]; omega
          simp only [e] at hz
          rw [← hz]
          conv => lhs; unfold whileL
          cases y <;> simp [isT] at hT
          simp [kids] at hlen
          rcases hx with rfl | ⟨x, rfl⟩ <;> simp [C0_is_value, L0_is_value, -D.eqB, D.eqB_nil hpl, hcc, kids, hlen]
theorem run_is_value (fw : List Ar → FR) (hfw : ∀ d, thg d = true → fw [.val d] = .im (.bl (whole d)) [.val d]) (d : D) (w : List Sl → Nat) (h : thg d = true) (hw : ∀ e, w e = 1001) (hb : d.wt ≤ 1000) : runF 4 (b_is_value fw w (.int 50)) [.val d] = .im (.bl (good d && decide (d.wt ≤ 50))) [.val d] := by
  obtain ⟨y, hy⟩ := value_loop fw hfw w d 1000 [d] 0 .non (.inl rfl) (by simpa using hb) (by omega) (by simp [h]) (by omega)
  simp at hy
  simp [b_is_value, hw, hy]
  by_cases hh : good d = true ∧ d.wt ≤ 50
  · simp [hh]
  · rw [if_neg hh]; simp; intro a; exact Nat.lt_of_not_le fun b => hh ⟨a, b⟩
end HFL

set_option Elab.async false
set_option linter.all false
set_option maxRecDepth 100000
set_option maxHeartbeats 4000000
set_option autoImplicit false
namespace HFL
open PySem PySem.Spec PyProof.Rows L2 HF
/-! ### the law's cells -/
def cell (ns : List Int) (k : Int) : Int := if k < ns.length then (L2.atI ns k).getD 0 else 0
theorem atI_lt {α : Type} {xs : List α} {k : Int} (h0 : 0 ≤ k) (h : k < xs.length) : ∃ x, L2.atI xs k = some x ∧ x ∈ xs := by
  have : k.toNat < xs.length := by omega
  refine ⟨xs[k.toNat], ?_, by simp⟩
  unfold L2.atI L2.ixN
  rw [if_pos h0, if_pos h]
  simp [List.getElem?_eq_getElem this]
theorem run_cell_at (ns : List Int) (k : Int) (h0 : 0 ≤ k) : runF 2 b_law_cell_at [.val (.scr ns), .val (.int k)] = .im (.int (cell ns k)) [.val (.scr ns), .val (.int k)] := by
  by_cases h : k < ns.length
  · obtain ⟨x, hx, _⟩ := atI_lt h0 h
    simp [b_law_cell_at, hx, cell, h]
  · simp [b_law_cell_at, cell, h]
end HFL

set_option Elab.async false
set_option linter.all false
set_option maxRecDepth 100000
set_option maxHeartbeats 4000000
set_option autoImplicit false
namespace HFL
open PySem PySem.Spec PyProof.Rows L2 HF
theorem cutL_hi {α : Type} (xs : List α) {k : Int} (h0 : 0 ≤ k) (h1 : k ≤ xs.length) : cutL xs none (some k) = xs.take k.toNat := by
  unfold cutL
  have : HT.sIx xs.length xs.length (some k) = k.toNat := by unfold HT.sIx; simp only; rw [if_neg (by omega)]; omega
  rw [this]; simp [HT.sIx]
theorem cutL_lo {α : Type} (xs : List α) {k : Int} (h0 : 0 ≤ k) (h1 : k ≤ xs.length) : cutL xs (some k) none = xs.drop k.toNat := by
  unfold cutL
  have : HT.sIx xs.length 0 (some k) = k.toNat := by unfold HT.sIx; simp only; rw [if_neg (by omega)]; omega
  rw [this]; simp [HT.sIx, List.take_of_length_le]
theorem cutL_sub {α : Type} (xs : List α) (a b : Option Int) : ∀ x ∈ cutL xs a b, x ∈ xs := fun x m => List.mem_of_mem_drop (List.mem_of_mem_take m)
theorem cutL_len {α : Type} (xs : List α) (k m : Int) (h : 0 ≤ k) (hm : 0 ≤ m) : (cutL xs (some k) (some (k + m))).length ≤ m.toNat := by
  unfold cutL HT.sIx
  simp only
  rw [if_neg (by omega), if_neg (by omega)]
  simp
  omega
theorem wtL_take (ds : List D) (n : Nat) : D.wtL (ds.take n) + D.wtL (ds.drop n) = D.wtL ds := by
  rw [← D.wtL_append, List.take_append_drop]
theorem dpL_mem {ds : List D} {n : Nat} : D.dpL ds ≤ n ↔ ∀ d ∈ ds, d.dp ≤ n := D.dpL_le
theorem thgL_iff {ds : List D} : thgL ds = true ↔ ∀ d ∈ ds, thg d = true := ⟨fun h _ m => thgL_mem h m, thgL_of⟩
theorem wtL_ints (n : Nat) (i : Int) : D.wtL (List.replicate n [D.int i]).flatten = n := by
  induction n with
  | zero => simp
  | succ n ih => rw [List.replicate_succ, List.flatten_cons, D.wtL_append, ih]; simp [D.wt]; omega
theorem mem_ints {n : Nat} {i : Int} {d : D} (m : d ∈ (List.replicate n [D.int i]).flatten) : d = .int i := by
  simp at m; exact m.2
end HFL

set_option Elab.async false
set_option linter.all false
set_option maxRecDepth 100000
set_option maxHeartbeats 4000000
set_option autoImplicit false
namespace HFL
open PySem PySem.Spec PyProof.Rows L2 HF
/-! ### the mixing -/
def nxt (p : Int) : Int := ((((p * 48271 + 11).fmod 2147483647)) * ((p * 48271 + 11).fmod 2147483647)).fmod 2147483629
theorem nxt_nn (p : Int) : 0 ≤ nxt p := Int.fmod_nonneg_of_pos _ (by omega)
theorem nxt_lt (p : Int) : nxt p < 2147483629 := Int.fmod_lt_of_pos _ (by omega)
theorem run_next (p : Int) : runF 2 b_law_next [.val (.int p)] = .im (.int (nxt p)) [.val (.int p)] := by
  have h0 : 0 ≤ (p * 48271 + 11).fmod 2147483647 := Int.fmod_nonneg_of_pos _ (by omega)
  have h1 : (p * 48271 + 11).fmod 2147483647 < 2147483647 := Int.fmod_lt_of_pos _ (by omega)
  have h2 : ((p * 48271 + 11).fmod 2147483647).natAbs < 18446744073709551616 := by omega
  simp [b_law_next, h2, nxt]
/-! ### values that are handed in or stand in bodies -/
/-- a value: whole numbers and lists, not too great, not too deep -/
structure Vl (d : D) : Prop where
  gd : good d = true
  wt : d.wt ≤ 50
  dp : d.dp ≤ 10
  th : thg d = true
@[simp] theorem depth_int (i : Int) : (PyData.int i).depth = 0 := by rw [PyData.depth] <;> simp
@[simp] theorem depth_str (i : Str) : (PyData.str i).depth = 0 := by rw [PyData.depth] <;> simp
@[simp] theorem depth_bool (i : Bool) : (PyData.bool i).depth = 0 := by rw [PyData.depth] <;> simp
@[simp] theorem depth_none : (PyData.none).depth = 0 := by rw [PyData.depth] <;> simp
theorem wt_mem {ds : List D} {d : D} (m : d ∈ ds) : d.wt ≤ D.wtL ds := by
  induction ds with
  | nil => cases m
  | cons x ds ih =>
    simp only [D.wtL_cons]
    cases m with
    | head => omega
    | tail _ m => have := ih m; omega
theorem good_thg : ∀ (n : Nat) (d : D), d.wt ≤ n → good d = true → thg d = true := by
  intro n
  induction n with
  | zero => intro d h; have := D.wt_pos d; omega
  | succ n ih =>
    intro d h g
    cases d with
    | tup xs =>
      simp only [thg_tup, good_tup, goodL_all, List.all_eq_true] at g ⊢
      refine thgL_of fun x m => ih x ?_ (g x m)
      have := wt_mem m
      simp at h
      omega
    | _ => simp [good, whole, thg, leafy] at g ⊢
theorem Vl.mk' {d : D} (gd : good d = true) (wt : d.wt ≤ 50) (dp : d.dp ≤ 10) : Vl d := ⟨gd, wt, dp, good_thg _ d (Nat.le_refl _) gd⟩
theorem Vl.int {i : Int} (h : -1000000000000000000 < i) (h' : i < 1000000000000000000) : Vl (.int i) := by
  refine .mk' ?_ (by simp [D.wt]) (by simp [D.dp])
  have e : good (.int i) = decide ((if i < 0 then -i else i) < big) := by simp [good, whole]
  rw [e, decide_eq_true_eq]
  unfold big
  split <;> omega
theorem Vl.tup {ds : List D} (hl : ds.length ≤ 10) (h : ∀ d ∈ ds, ∃ i, d = .int i ∧ -1000000000000000000 < i ∧ i < 1000000000000000000) : Vl (.tup ds) := by
  have e : ∀ ds : List D, (∀ d ∈ ds, ∃ i, d = .int i ∧ -1000000000000000000 < i ∧ i < 1000000000000000000) → D.wtL ds = ds.length := by
    intro ds
    induction ds with
    | nil => intro _; simp
    | cons d ds ih =>
      intro h
      obtain ⟨i, rfl, _⟩ := h d (by simp)
      simp [D.wt, ih fun x m => h x (by simp [m])]
      omega
  refine .mk' ?_ ?_ ?_
  · rw [good_tup, goodL_all, List.all_eq_true]
    intro x m
    obtain ⟨i, rfl, a, b⟩ := h x m
    exact (Vl.int a b).gd
  · have := e ds h
    simp [D.wt]; omega
  · simp [D.dp]
    refine D.dpL_le.mpr fun x m => ?_
    obtain ⟨i, rfl, a, b⟩ := h x m
    simp [D.dp]
def VAL : List D := [.int 0, .int 1, .int 2, .int 3, .int 5, .int (-1), .int (-4), .tup [], .tup [.int 1], .tup [.int 2, .int 0], .tup [.int 1, .int 2, .int 3], .tup [.tup [], .int 1], .tup [.tup [.int 1, .int 2], .tup [.int 3]], .tup [.int 4, .tup [.int 5, .tup [.int 6]]]]
def okv (d : D) : Bool := good d && decide (d.wt ≤ 50) && decide (d.dp ≤ 10)
theorem okv_Vl {d : D} (h : okv d = true) : Vl d := by
  simp only [okv, Bool.and_eq_true, decide_eq_true_eq] at h
  exact .mk' h.1.1 h.1.2 h.2
theorem VAL_ok : ∀ d ∈ VAL, Vl d := by
  intro d m
  simp only [VAL, List.mem_cons, List.not_mem_nil, or_false] at m
  rcases m with rfl | rfl | rfl | rfl | rfl | rfl | rfl | rfl | rfl | rfl | rfl | rfl | rfl | rfl <;> exact okv_Vl (by simp [okv, whole, big, good, D.wt, D.dp])
theorem at_list {α : Type} (xs : List α) (p n : Int) (hn : 0 < n) (hx : n ≤ xs.length) : ∃ x, L2.atI xs (p.fmod n) = some x ∧ x ∈ xs :=
  atI_lt (Int.fmod_nonneg_of_pos _ hn) (by have := Int.fmod_lt_of_pos p hn; omega)
theorem run_value (p : Int) : ∃ v, runF 3 b_law_value [.val (.int p)] = .im v [.val (.int p)] ∧ Vl v := by
  have q0 : 0 ≤ p.fmod 16 := Int.fmod_nonneg_of_pos _ (by omega)
  have q1 : p.fmod 16 < 16 := Int.fmod_lt_of_pos _ (by omega)
  by_cases h14 : p.fmod 16 = 14
  · have r0 : 0 ≤ (p.fdiv 16).fmod 1999999999999999999 := Int.fmod_nonneg_of_pos _ (by omega)
    have r1 : (p.fdiv 16).fmod 1999999999999999999 < 1999999999999999999 := Int.fmod_lt_of_pos _ (by omega)
    refine ⟨.int ((p.fdiv 16).fmod 1999999999999999999 - 1000000000000000000 + 1), ?_, Vl.int (by omega) (by omega)⟩
    simp [b_law_value, h14]
  by_cases h15 : p.fmod 16 = 15
  · have r0 : 0 ≤ (p.fdiv 16).fmod 9 := Int.fmod_nonneg_of_pos _ (by omega)
    have r1 : (p.fdiv 16).fmod 9 < 9 := Int.fmod_lt_of_pos _ (by omega)
    have lc := lcL_map (i := 2) (E := E0_law_value) (fun d => match d with | .int k => .int ((p.fdiv 16).fmod (k + 2)) | _ => .non) (e := [.val (.int p), .own (.lst VAL), .non]) rfl (rgD 0 ((p.fdiv 16).fmod 9).toNat) [] (by simp [rgD]; omega) (fun d m => by
      simp [rgD] at m
      obtain ⟨k, hk, rfl⟩ := m
      have : (k : Int) + 2 ≠ 0 := by omega
      simp [E0_law_value, this])
    refine ⟨.tup ((rgD 0 ((p.fdiv 16).fmod 9).toNat).map fun d => match d with | .int k => .int ((p.fdiv 16).fmod (k + 2)) | _ => .non), ?_, Vl.tup (by simp [rgD]; omega) ?_⟩
    · have e9 : ((p.fdiv 16).fmod 9).natAbs < 4611686018427387904 := by omega
      simp [VAL] at lc
      simp [b_law_value, h15, e9, -lcL, lc]
    · intro d m
      simp [rgD] at m
      obtain ⟨k, hk, rfl⟩ := m
      refine ⟨_, rfl, ?_, ?_⟩
      · have := Int.fmod_nonneg_of_pos (p.fdiv 16) (b := (k : Int) + 2) (by omega); omega
      · have := Int.fmod_lt_of_pos (p.fdiv 16) (b := (k : Int) + 2) (by omega); omega
  · obtain ⟨x, hx, mx⟩ := atI_lt (xs := VAL) q0 (by simp [VAL]; omega)
    refine ⟨x, ?_, VAL_ok x mx⟩
    simp [VAL] at hx
    simp [b_law_value, h14, h15, hx]
def FEW : Int → List D := fun w => if w = 2 then [.tup [.int 0, .tup [.int 1, .tup [.int 2]]], .int (-4), .int 2, .tup []] else if w = 1 then [.int 3, .int (-1), .tup [.int 1, .int 2], .int 0] else [.int 0, .int 1, .int 2, .tup [], .tup [.int 1], .tup [.int 2, .int 0], .tup [.tup [], .int 1], .int 3]
theorem FEW_ok (w : Int) : ∀ d ∈ FEW w, Vl d := by
  intro d m
  unfold FEW at m
  by_cases h2 : w = 2
  · simp only [h2, if_true, List.mem_cons, List.not_mem_nil, or_false] at m
    rcases m with rfl | rfl | rfl | rfl <;> exact okv_Vl (by simp [okv, whole, big, good, D.wt, D.dp])
  by_cases h1 : w = 1
  · subst h1
    rw [if_neg h2, if_pos rfl] at m
    simp only [List.mem_cons, List.not_mem_nil, or_false] at m
    rcases m with rfl | rfl | rfl | rfl <;> exact okv_Vl (by simp [okv, whole, big, good, D.wt, D.dp])
  · simp only [h2, h1, if_true, if_false, List.mem_cons, List.not_mem_nil, or_false] at m
    rcases m with rfl | rfl | rfl | rfl | rfl | rfl | rfl | rfl <;> exact okv_Vl (by simp [okv, whole, big, good, D.wt, D.dp])
theorem run_few (p w : Int) : ∃ v, runF 3 b_law_few [.val (.int p), .val (.int w)] = .im v [.val (.int p), .val (.int w)] ∧ Vl v := by
  by_cases h2 : w = 2
  · obtain ⟨x, hx, mx⟩ := at_list (FEW w) p 4 (by omega) (by simp [FEW, h2])
    refine ⟨x, ?_, FEW_ok w x mx⟩
    subst h2
    simp [FEW] at hx
    simp [b_law_few, hx]
  by_cases h1 : w = 1
  · obtain ⟨x, hx, mx⟩ := at_list (FEW w) p 4 (by omega) (by simp [FEW, h1])
    refine ⟨x, ?_, FEW_ok w x mx⟩
    subst h1
    simp [FEW] at hx
    simp [b_law_few, hx]
  · obtain ⟨x, hx, mx⟩ := at_list (FEW w) p 8 (by omega) (by simp [FEW, h1, h2])
    refine ⟨x, ?_, FEW_ok w x mx⟩
    simp [FEW, h1, h2] at hx
    simp [b_law_few, h1, h2, hx]
end HFL

set_option Elab.async false
set_option linter.all false
set_option maxRecDepth 100000
set_option maxHeartbeats 4000000
set_option autoImplicit false
namespace HFL
open PySem PySem.Spec PyProof.Rows L2 HF
/-! ### names -/
theorem str_ext {s t : Str} (h : s.cps.toList = t.cps.toList) : s = t := by
  cases s; cases t; simp at h; simp [h]
theorem str_iff {s t : Str} : s = t ↔ s.cps.toList = t.cps.toList := ⟨fun h => by rw [h], str_ext⟩
def letC (c : Nat) : Bool := decide (97 ≤ c) && decide (c ≤ 122)
def figC (c : Nat) : Bool := decide (48 ≤ c) && decide (c ≤ 57)
theorem let_mem (c : Nat) : decide (c ∈ (Str.ofString "abcdefghijklmnopqrstuvwxyz").cps.toList) = letC c := by
  have e : (Str.ofString "abcdefghijklmnopqrstuvwxyz").cps.toList = [97, 98, 99, 100, 101, 102, 103, 104, 105, 106, 107, 108, 109, 110, 111, 112, 113, 114, 115, 116, 117, 118, 119, 120, 121, 122] := by decide +kernel
  rw [e, letC, ← Bool.decide_and]
  simp only [List.mem_cons, List.not_mem_nil, or_false, decide_eq_decide]
  omega
theorem fig_mem (c : Nat) : decide (c ∈ (Str.ofString "0123456789").cps.toList) = figC c := by
  have e : (Str.ofString "0123456789").cps.toList = [48, 49, 50, 51, 52, 53, 54, 55, 56, 57] := by decide +kernel
  rw [e, figC, ← Bool.decide_and]
  simp only [List.mem_cons, List.not_mem_nil, or_false, decide_eq_decide]
  omega
theorem sign_mem (c : Nat) : decide (c ∈ (Str.ofString "abcdefghijklmnopqrstuvwxyz0123456789").cps.toList) = (letC c || figC c) := by
  have e : (Str.ofString "abcdefghijklmnopqrstuvwxyz0123456789").cps.toList = (Str.ofString "abcdefghijklmnopqrstuvwxyz").cps.toList ++ (Str.ofString "0123456789").cps.toList := by decide +kernel
  rw [e, ← let_mem, ← fig_mem, ← Bool.decide_or]
  simp only [List.mem_append]
def opsN : List (List Nat) := [[112, 108, 117, 115], [109, 105, 110, 117, 115], [116, 105, 109, 101, 115], [111, 118, 101, 114], [108, 101, 115, 115], [102, 105, 114, 115, 116], [114, 101, 115, 116], [101, 109, 112, 116, 121], [100, 111, 119, 110], [115, 97, 109, 101], [106, 111, 105, 110], [108, 105, 115, 116]]
def resN : List (List Nat) := opsN ++ [[105, 102], [114, 101, 102, 117, 115, 101]]
def OPSL : List Str := ["plus", "minus", "times", "over", "less", "first", "rest", "empty", "down", "same", "join", "list"]
theorem ops_cps : OPSL.map (fun s => s.cps.toList) = opsN := by decide +kernel
theorem if_cps : (Str.ofString "if").cps.toList = [105, 102] := by decide +kernel
theorem refuse_cps : (Str.ofString "refuse").cps.toList = [114, 101, 102, 117, 115, 101] := by decide +kernel
def isNmL (l : List Nat) : Bool := decide (1 ≤ l.length) && decide (l.length ≤ 8) && (match l with | c :: _ => letC c | [] => false) && l.all (fun c => letC c || figC c) && !decide (l ∈ resN)
def isNm (s : Str) : Bool := isNmL s.cps.toList
theorem ops_mem (s : Str) : s ∈ OPSL ↔ s.cps.toList ∈ opsN := by
  rw [← ops_cps, List.mem_map]
  exact ⟨fun h => ⟨s, h, rfl⟩, fun ⟨t, h, e⟩ => by rw [← str_ext e]; exact h⟩
theorem isNm_res {s : Str} (h : isNm s = true) : s ∉ OPSL ∧ s ≠ "if" ∧ s ≠ "refuse" := by
  simp only [isNm, isNmL, Bool.and_eq_true, Bool.not_eq_true', decide_eq_false_iff_not, resN, List.mem_append, not_or] at h
  refine ⟨fun m => h.2.1 ((ops_mem s).mp m), fun e => ?_, fun e => ?_⟩
  · rw [e, if_cps] at h; exact h.2.2 (by simp)
  · rw [e, refuse_cps] at h; exact h.2.2 (by simp)
theorem isNm_ok {s : Str} (h : isNm s = true) : PyData.strOk s = true := by
  simp only [isNm, isNmL, Bool.and_eq_true, List.all_eq_true, letC, figC, Bool.or_eq_true, decide_eq_true_eq] at h
  simp only [PyData.strOk]
  rw [← Array.all_toList, List.all_eq_true]
  intro c m
  have := h.1.2 c m
  simp
  omega
structure Nms (ns : List Str) : Prop where
  len : ns.length = 12
  nd : ns.Nodup
  nm : ∀ s ∈ ns, isNm s = true
  zz : ∀ s ∈ ns, s ≠ "zz9"
  z : ∀ s ∈ ns, ∀ t ∈ ns, s ≠ t ++ "z"
/-- the names alike but for one sign -/
def nmL (b c a : Nat) : List Nat := List.replicate b 109 ++ [c] ++ List.replicate a 109
def nmS (b c a : Nat) : Str := ⟨(nmL b c a).toArray⟩
def abcN : List Nat := [97, 98, 99, 100, 101, 102, 103, 104, 105, 106, 107, 108, 109, 110, 111, 112, 113, 114, 115, 116, 117, 118, 119, 120, 121, 122, 48, 49, 50, 51, 52, 53, 54, 55, 56, 57]
theorem abc_cps : (Str.ofString "abcdefghijklmnopqrstuvwxyz0123456789").cps.toList = abcN := by decide +kernel
theorem nm_all : ∀ (b : Fin 8) (a : Fin 8) (c : Fin 36), b.val + a.val < 8 → (b.val = 0 → c.val < 26) → isNmL (nmL b.val (abcN.getD c.val 0) a.val) = true ∧ nmL b.val (abcN.getD c.val 0) a.val ≠ [122, 122, 57] := by decide +kernel
theorem nmL_len (b c a : Nat) : (nmL b c a).length = b + 1 + a := by simp [nmL]; omega
theorem nmL_inj {b c c' a : Nat} (h : nmL b c a = nmL b c' a) : c = c' := by
  simpa [nmL] using h
def SPEC : List Str := ["ifs", "listx", "plus2", "refuses", "rested", "downs", "same1", "joins", "overs", "firsts", "emptyx", "a9"]
theorem spec_nd : SPEC.Nodup := by decide +kernel
theorem spec_nm : ∀ s ∈ SPEC, isNm s = true ∧ s ≠ "zz9" := by decide +kernel
theorem spec_z : ∀ s ∈ SPEC, ∀ t ∈ SPEC, s ≠ t ++ "z" := by decide +kernel
theorem getD_at {α : Type} {xs : List α} {i : Nat} (d : α) (h : i < xs.length) : xs.getD i d = xs[i] := by simp [List.getD, List.getElem?_eq_getElem h]
theorem nd_inj {α : Type} {xs : List α} (h : xs.Nodup) {i j : Nat} (hi : i < xs.length) (hj : j < xs.length) (e : xs[i] = xs[j]) : i = j := by
  rcases Nat.lt_trichotomy i j with q | q | q
  · exact absurd e (List.pairwise_iff_getElem.mp h i j hi hj q)
  · exact q
  · exact absurd e.symm (List.pairwise_iff_getElem.mp h j i hj hi q)
theorem rot_nd {α β : Type} {xs : List α} (h : xs.Nodup) {n : Nat} (hn : n ≤ xs.length) (c m : Nat) (hm : m ≤ n) (d : α) (g : α → β) (hg : ∀ x ∈ xs, ∀ y ∈ xs, g x = g y → x = y) : ((List.range m).map fun k => g (xs.getD ((c + k) % n) d)).Nodup := by
  refine List.pairwise_map.mpr (List.Pairwise.imp_of_mem ?_ List.nodup_range)
  intro a b ha hb ne e
  rw [List.mem_range] at ha hb
  have n0 : 0 < n := by omega
  have la := Nat.mod_lt (c + a) n0
  have lb := Nat.mod_lt (c + b) n0
  have ia : (c + a) % n < xs.length := by omega
  have ib : (c + b) % n < xs.length := by omega
  rw [getD_at _ ia, getD_at _ ib] at e
  have q := nd_inj h ia ib (hg _ (List.getElem_mem ia) _ (List.getElem_mem ib) e)
  have da := Nat.div_add_mod (c + a) n
  have db := Nat.div_add_mod (c + b) n
  rw [q] at da
  have : (c + a) / n = (c + b) / n ∨ (c + a) / n < (c + b) / n ∨ (c + b) / n < (c + a) / n := by omega
  rcases this with t | t | t
  · rw [t] at da; omega
  · have := Nat.mul_le_mul_left n t
    rw [Nat.mul_succ] at this
    omega
  · have := Nat.mul_le_mul_left n t
    rw [Nat.mul_succ] at this
    omega
def specNs (c : Nat) : List Str := (List.range 12).map fun k => SPEC.getD ((c + k) % 12) ""
theorem specNs_sub {c : Nat} {s : Str} (h : s ∈ specNs c) : s ∈ SPEC := by
  simp only [specNs, List.mem_map, List.mem_range] at h
  obtain ⟨k, hk, rfl⟩ := h
  have : (c + k) % 12 < SPEC.length := Nat.mod_lt _ (by decide)
  rw [getD_at _ this]
  exact List.getElem_mem this
theorem specNs_ok (c : Nat) : Nms (specNs c) where
  len := by simp [specNs]
  nd := rot_nd spec_nd (n := 12) (by decide) c 12 (by omega) "" id fun _ _ _ _ h => h
  nm := fun s h => (spec_nm s (specNs_sub h)).1
  zz := fun s h => (spec_nm s (specNs_sub h)).2
  z := fun s h t h' => spec_z s (specNs_sub h) t (specNs_sub h')
def lim (b : Nat) : Nat := if 0 < b then 36 else 26
def plainNs (b a c : Nat) : List Str := (List.range 12).map fun k => nmS b (abcN.getD ((c + k) % lim b) 0) a
theorem plainNs_mem {b a c : Nat} {s : Str} (h : s ∈ plainNs b a c) : ∃ i, i < lim b ∧ s = nmS b (abcN.getD i 0) a := by
  simp only [plainNs, List.mem_map, List.mem_range] at h
  obtain ⟨k, hk, rfl⟩ := h
  exact ⟨_, Nat.mod_lt _ (by unfold lim; split <;> omega), rfl⟩
theorem plainNs_ok {b a : Nat} (hab : b + a < 8) (c : Nat) : Nms (plainNs b a c) where
  len := by simp [plainNs]
  nd := rot_nd (xs := abcN) (by decide +kernel) (n := lim b) (by unfold lim; split <;> decide) c 12 (by unfold lim; split <;> omega) 0 (fun x => nmS b x a) fun x _ y _ h => by
    refine nmL_inj (b := b) (a := a) ?_
    have := congrArg (fun s : Str => s.cps.toList) h
    simpa [nmS] using this
  nm := fun s h => by
    obtain ⟨i, hi, rfl⟩ := plainNs_mem h
    have h36 : i < 36 := by unfold lim at hi; split at hi <;> omega
    have := (nm_all ⟨b, by omega⟩ ⟨a, by omega⟩ ⟨i, h36⟩ hab (fun z => by simp only at z; subst z; simpa [lim] using hi)).1
    simpa [isNm, nmS] using this
  zz := fun s h e => by
    obtain ⟨i, hi, rfl⟩ := plainNs_mem h
    have h36 : i < 36 := by unfold lim at hi; split at hi <;> omega
    refine (nm_all ⟨b, by omega⟩ ⟨a, by omega⟩ ⟨i, h36⟩ hab (fun z => by simp only at z; subst z; simpa [lim] using hi)).2 ?_
    have q := congrArg (fun s : Str => s.cps.toList) e
    have z9 : (Str.ofString "zz9").cps.toList = [122, 122, 57] := by decide +kernel
    simp only [z9] at q
    simpa [nmS] using q
  z := fun s h t h' e => by
    obtain ⟨i, hi, rfl⟩ := plainNs_mem h
    obtain ⟨j, hj, rfl⟩ := plainNs_mem h'
    have q := congrArg (fun s : Str => s.cps.toList.length) e
    have z1 : (Str.ofString "z").cps.toList = [122] := by decide +kernel
    have ap : ∀ x y : Str, (x ++ y).cps.toList = x.cps.toList ++ y.cps.toList := fun x y => by show (x.cps ++ y.cps).toList = _; simp
    simp only [ap, z1, nmS, List.length_append, nmL_len, List.length_cons, List.length_nil] at q
    omega
theorem str_app (x y : Str) : (x ++ y).cps.toList = x.cps.toList ++ y.cps.toList := by show (x.cps ++ y.cps).toList = _; simp
theorem str_len (x : Str) : x.length = x.cps.toList.length := by simp [Str.length]
theorem m_cps : (Str.ofString "m").cps.toList = [109] := by decide +kernel
theorem nm_made (b c a : Nat) : (repS (Str.ofString "m") b ++ ⟨#[c]⟩) ++ repS (Str.ofString "m") a = nmS b c a := by
  refine str_ext ?_
  simp [str_app, repS, nmS, nmL, m_cps]
theorem atI_nat {α : Type} {xs : List α} {i : Int} (h0 : 0 ≤ i) (h : i < xs.length) (d : α) : L2.atI xs i = some (xs.getD i.toNat d) := by
  have : i.toNat < xs.length := by omega
  rw [getD_at _ this]
  unfold L2.atI L2.ixN
  rw [if_pos h0, if_pos h]
  simp [List.getElem?_eq_getElem this]
/-! the list of names -/
theorem rgD_mem {lo : Int} {n : Nat} {d : D} (h : d ∈ rgD lo n) : ∃ k : Nat, k < n ∧ d = .int (lo + k) := by
  simp [rgD] at h
  obtain ⟨k, hk, rfl⟩ := h
  exact ⟨k, hk, rfl⟩
theorem rgD_at {lo : Int} {n : Nat} {dn rest : List D} {d : D} (h : rgD lo n = dn ++ d :: rest) : d = .int (lo + dn.length) ∧ dn.length < n := by
  have hl := congrArg List.length h
  simp [rgD] at hl
  have : dn.length < n := by omega
  have e := congrArg (fun l => l[dn.length]?) h
  simp [rgD, this] at e
  exact ⟨e.symm, this⟩
theorem fmod_nat (c : Nat) (n : Nat) : ((c : Int).fmod (n : Int)) = ((c % n : Nat) : Int) := by
  rw [Int.fmod_eq_emod_of_nonneg _ (by omega)]; simp
theorem add_fmod_nat (x : Int) (k n : Nat) (hn : 0 < n) : (x + k).fmod n = (((x.fmod n).toNat + k) % n : Nat) := by
  have h0 : 0 ≤ x.fmod n := Int.fmod_nonneg_of_pos _ (by omega)
  have e1 : x.fmod n = x.emod n := Int.fmod_eq_emod_of_nonneg _ (by omega)
  rw [Int.fmod_eq_emod_of_nonneg _ (by omega : (0 : Int) ≤ n)]
  have e2 : ((x.fmod n).toNat : Int) = x % n := by rw [Int.toNat_of_nonneg h0, e1]; rfl
  rw [Int.natCast_emod, Int.natCast_add, e2]
  simp
theorem names_body {c z : Int} {bn an s : Nat} {k j : Int} {L : List D} {x y : Sl} (fx : frees x) (fy : frees y) (e : (c.fdiv 64 + k).fmod (lim bn) = j) (at' : L2.atI (Str.ofString "abcdefghijklmnopqrstuvwxyz0123456789").cps.toList j = some s)
    (mb : (0 : Int) ≤ bn ∧ (bn : Int) ≤ 100000 ∧ (Str.ofString "m").length ≤ 100) (ma : (0 : Int) ≤ an ∧ (an : Int) ≤ 100000 ∧ (Str.ofString "m").length ≤ 100) (l1 : (repS (Str.ofString "m") bn).length + (⟨#[s]⟩ : Str).length ≤ 16777216)
    (l2 : (repS (Str.ofString "m") bn ++ (⟨#[s]⟩ : Str)).length + (repS (Str.ofString "m") an).length ≤ 16777216) (ha : z - 1 - bn = an) (hlen : L.length < 16777216) :
    L0_law_names [.val (.int c), .val (.int z), .val (.int bn), .val (.str "abcdefghijklmnopqrstuvwxyz0123456789"), .own (.lst L), .val (.int k), y] = .nx [.val (.int c), .val (.int z), .val (.int bn), .val (.str "abcdefghijklmnopqrstuvwxyz0123456789"), .own (.lst (L ++ [.str (nmS bn s an)])), .val (.int k), .val (.str ⟨#[s]⟩)] := by
  have hlim : L2.atI [D.int 26, D.int 36] (if 0 < bn then 1 else 0) = some (.int (lim bn)) := by
    unfold lim
    by_cases q : 0 < bn
    · rw [if_pos q, if_pos q]; rfl
    · rw [if_neg q, if_neg q]; rfl
  have lim0 : lim bn ≠ 0 := by unfold lim; split <;> omega
  obtain ⟨_, mb1, mb2⟩ := mb
  obtain ⟨_, ma1, ma2⟩ := ma
  have mb3 : bn ≤ 100000 := by omega
  have ma3 : an ≤ 100000 := by omega
  have sl : (Str.ofString "abcdefghijklmnopqrstuvwxyz0123456789").length ≤ 16777216 := by decide +kernel
  have mk := nm_made bn s an
  rw [← mk]
  rcases fy with rfl | ⟨y, rfl⟩ <;> simp [L0_law_names, hlim, lim0, e, at', mb1, mb2, mb3, ma1, ma2, ma3, sl, l1, l2, ha, hlen]
theorem run_names (c : Int) : ∃ ns : List Str, runF 7 b_law_names [.val (.int c)] = .fr (.lst (ns.map D.str)) [.val (.int c)] ∧ Nms ns := by
  by_cases h9 : c.fmod 9 = 8
  · refine ⟨specNs ((c.fdiv 9).fmod 12).toNat, ?_, specNs_ok _⟩
    have lc := lcL_map (i := 5) (E := E0_law_names) (fun d => match d with | .int k => .str (SPEC.getD ((((c.fdiv 9).fmod 12).toNat + k.toNat) % 12) "") | _ => .non) (e := [.val (.int c), .non, .non, .own (.lst (SPEC.map D.str)), .non, .non, .non]) rfl (rgD 0 12) [] (by simp [rgD]) (fun d m => by
      obtain ⟨k, hk, rfl⟩ := rgD_mem m
      have e := add_fmod_nat (c.fdiv 9) k 12 (by omega)
      have l12 : (((c.fdiv 9).fmod 12).toNat + k) % 12 < 12 := Nat.mod_lt _ (by omega)
      have tk : ((0 : Int) + (k : Int)).toNat = k := by omega
      have at' := atI_nat (xs := SPEC.map D.str) (i := ((((c.fdiv 9).fmod 12).toNat + k) % 12 : Nat)) (by omega) (by simp [SPEC]; omega) (.str "")
      have gd : (SPEC.map D.str).getD ((((c.fdiv 9).fmod 12).toNat + k) % 12) (.str "") = .str (SPEC.getD ((((c.fdiv 9).fmod 12).toNat + k) % 12) "") := by
        rw [getD_at _ (by simp [SPEC]; omega), getD_at _ (by simp [SPEC]; omega)]; simp
      rw [Int.toNat_natCast, gd] at at'
      simp only [Int.cast_ofNat_Int] at e
      simp only [tk]
      generalize SPEC.getD ((((c.fdiv 9).fmod 12).toNat + k) % 12) "" = s at at' ⊢
      generalize (((((c.fdiv 9).fmod 12).toNat + k) % 12 : Nat) : Int) = j at e at'
      generalize SPEC.map D.str = L at at' ⊢
      simp [E0_law_names, e, at'])
    have e12 : specNs ((c.fdiv 9).fmod 12).toNat = (List.range 12).map fun k => SPEC.getD ((((c.fdiv 9).fmod 12).toNat + k) % 12) "" := rfl
    have em : ((rgD 0 12).map fun d => match d with | .int k => .str (SPEC.getD ((((c.fdiv 9).fmod 12).toNat + k.toNat) % 12) "") | _ => D.non) = (specNs ((c.fdiv 9).fmod 12).toNat).map D.str := by
      rw [e12]; simp [rgD]
    rw [em] at lc
    simp [SPEC] at lc
    simp [b_law_names, h9, -lcL, lc]
  · have s0 : 0 ≤ c.fmod 8 := Int.fmod_nonneg_of_pos _ (by omega)
    have s1 : c.fmod 8 < 8 := Int.fmod_lt_of_pos _ (by omega)
    have p0 : 0 ≤ (c.fdiv 8).fmod (1 + c.fmod 8) := Int.fmod_nonneg_of_pos _ (by omega)
    have p1 : (c.fdiv 8).fmod (1 + c.fmod 8) < 1 + c.fmod 8 := Int.fmod_lt_of_pos _ (by omega)
    have pz : 1 + c.fmod 8 ≠ 0 := by omega
    generalize hz : 1 + c.fmod 8 = z at p0 p1 pz
    generalize hb : (c.fdiv 8).fmod z = b at p0 p1
    obtain ⟨bn, rfl⟩ : ∃ bn : Nat, b = bn := ⟨b.toNat, by omega⟩
    have za : (z - 1 - bn).toNat + bn < 8 := by omega
    obtain ⟨an, ha⟩ : ∃ an : Nat, z - 1 - bn = an := ⟨(z - 1 - bn).toNat, by omega⟩
    rw [ha] at za
    simp only [Int.toNat_natCast] at za
    refine ⟨plainNs bn an ((c.fdiv 64).fmod (lim bn)).toNat, ?_, plainNs_ok (by omega) _⟩
    have hlim : L2.atI [D.int 26, D.int 36] (if (0 : Int) < bn then 1 else 0) = some (.int (lim bn)) := by
      unfold lim
      by_cases q : 0 < bn
      · rw [if_pos (by omega), if_pos q]; rfl
      · rw [if_neg (by omega), if_neg q]; rfl
    have lim0 : 0 < lim bn := by unfold lim; split <;> omega
    have lim36 : lim bn ≤ 36 := by unfold lim; split <;> omega
    have limz : (lim bn : Int) ≠ 0 := by omega
    let g : D → D := fun d => match d with | .int k => .str (nmS bn (abcN.getD ((((c.fdiv 64).fmod (lim bn)).toNat + k.toNat) % lim bn) 0) an) | _ => .non
    obtain ⟨e', h1, x, y, fx, fy, rfl⟩ := forL_nx (TF := Tg.F (.nm 5)) (S := L0_law_names) (fun dn e => ∃ x y, frees x ∧ frees y ∧ e = [.val (.int c), .val (.int z), .val (.int bn), .val (.str "abcdefghijklmnopqrstuvwxyz0123456789"), .own (.lst (dn.map g)), x, y]) (rgD 0 12) (fun dn d rest e hall ⟨x, y, fx, fy, he⟩ => by
      subst he
      obtain ⟨rfl, hl⟩ := rgD_at hall
      have e := add_fmod_nat (c.fdiv 64) dn.length (lim bn) lim0
      have l36 : (((c.fdiv 64).fmod (lim bn)).toNat + dn.length) % lim bn < 36 := Nat.lt_of_lt_of_le (Nat.mod_lt _ lim0) lim36
      have at' := atI_nat (xs := abcN) (i := ((((c.fdiv 64).fmod (lim bn)).toNat + dn.length) % lim bn : Nat)) (by omega) (by rw [show abcN.length = 36 from rfl]; exact Int.ofNat_lt.mpr l36) 0
      rw [Int.toNat_natCast] at at'
      have ge : g (.int (0 + dn.length)) = .str (nmS bn (abcN.getD ((((c.fdiv 64).fmod (lim bn)).toNat + dn.length) % lim bn) 0) an) := by
        simp only [g]
        have tk : ((0 : Int) + (dn.length : Int)).toNat = dn.length := by omega
        rw [tk]
      simp only [List.map_append, List.map_cons, List.map_nil]
      have l1 : ∀ w, (repS (Str.ofString "m") bn).length + (⟨#[w]⟩ : Str).length ≤ 16777216 := fun w => by simp [str_len, repS, m_cps]; omega
      have l2 : ∀ w, (repS (Str.ofString "m") bn ++ (⟨#[w]⟩ : Str)).length + (repS (Str.ofString "m") an).length ≤ 16777216 := fun w => by simp [str_len, str_app, repS, m_cps]; omega
      rw [← abc_cps] at at'
      rw [ge]
      refine ⟨_, _, by rcases fx with rfl | ⟨x, rfl⟩ <;> rfl, names_body (k := 0 + dn.length) (L := dn.map g) fx fy (by rw [Int.zero_add]; exact e) at' ⟨by omega, by omega, by decide⟩ ⟨by omega, by omega, by decide⟩ (l1 _) (l2 _) ha (by rw [List.length_map]; omega), _, _, .inr ⟨_, rfl⟩, .inr ⟨_, rfl⟩, by rw [abc_cps]⟩) [.val (.int c), .val (.int z), .val (.int bn), .val (.str "abcdefghijklmnopqrstuvwxyz0123456789"), .own (.lst []), .non, .non] ⟨.non, .non, .inl rfl, .inl rfl, rfl⟩
    have em : (rgD 0 12).map g = (plainNs bn an ((c.fdiv 64).fmod (lim bn)).toNat).map D.str := by
      simp [rgD, plainNs, g]
    rw [em] at h1
    simp only [Tg.F] at h1
    simp [b_law_names, h9, hz, pz, hb, -forL, h1]
end HFL

set_option Elab.async false
set_option linter.all false
set_option maxRecDepth 100000
set_option maxHeartbeats 4000000
set_option autoImplicit false
namespace HFL
open PySem PySem.Spec PyProof.Rows L2 HF
/-! ### heads and forms -/
structure Hd where
  nm : Str
  ps : List Str
  wn : List Bool
def Hd.d (h : Hd) : D := .tup [.str h.nm, .tup (h.ps.map D.str), .tup (h.wn.map D.bl)]
abbrev strsD (ss : List Str) : List D := ss.map D.str
def valF (v : D) : D := .tup [.str "value", v]
def nmF (s : Str) : D := .tup [.str "name", .str s]
def rfF (w : Str) : D := .tup [.str "refuse", .str w]
def ifF (a b c : D) : D := .tup [.str "if", a, b, c]
def doF (o : Str) (l : List D) : D := .tup [.str "do", .str o, .tup l]
def clF (f : Str) (l : List D) : D := .tup [.str "call", .str f, .tup l]
def WRDS : List Str := ["NoNumber", "NoList", "NoFirst", "NoDown", "ByNought", "TooGreat"]
def ALOS : List Str := ["first", "rest", "empty", "down"]
def takesB (o : Str) (n : Nat) : Bool := if o = "list" then decide (n ≤ 8) else if o ∈ ALOS then decide (n = 1) else decide (n = 2)
def tameF (known : List Str) (d : D) : Prop := (∃ v, Vl v ∧ d = valF v) ∨ (∃ s, s ∈ known ∧ d = nmF s) ∨ (∃ o s, (o = ("down" : Str) ∨ o = ("first" : Str) ∨ o = ("rest" : Str)) ∧ s ∈ known ∧ d = doF o [nmF s]) ∨ (∃ s, s ∈ known ∧ d = doF "rest" [doF "rest" [nmF s]])
def GF (hs : List Hd) (names known : List Str) : Nat → D → Prop
  | 0, _ => False
  | n + 1, d => (∃ v, Vl v ∧ d = valF v) ∨ (∃ s, s ∈ names ∧ d = nmF s) ∨ (∃ w, w ∈ WRDS ∧ d = rfF w) ∨ (∃ a b c, d = ifF a b c ∧ GF hs names known n a ∧ GF hs names known n b ∧ GF hs names known n c)
    ∨ (∃ o l, o ∈ OPSL ∧ takesB o l.length = true ∧ d = doF o l ∧ ∀ x ∈ l, GF hs names known n x)
    ∨ (∃ h, h ∈ hs ∧ ∃ l, d = clF h.nm l ∧ l.length = h.ps.length ∧ (∀ x ∈ l, GF hs names known n x) ∧ ∀ (i : Nat) (x : D), l[i]? = some x → h.wn[i]? = some true → tameF known x)
theorem GF.mono {hs : List Hd} {names known : List Str} : ∀ {n m : Nat} {d : D}, GF hs names known n d → n ≤ m → GF hs names known m d
  | n + 1, m + 1, d, h, hm => by
    have e : n ≤ m := by omega
    rcases h with h | h | h | ⟨a, b, c, rfl, ha, hb, hc⟩ | ⟨o, l, ho, ht, rfl, hl⟩ | ⟨hd, hh, l, rfl, hn, hl, htm⟩
    · exact .inl h
    · exact .inr (.inl h)
    · exact .inr (.inr (.inl h))
    · exact .inr (.inr (.inr (.inl ⟨a, b, c, rfl, ha.mono e, hb.mono e, hc.mono e⟩)))
    · exact .inr (.inr (.inr (.inr (.inl ⟨o, l, ho, ht, rfl, fun x m => (hl x m).mono e⟩))))
    · exact .inr (.inr (.inr (.inr (.inr ⟨hd, hh, l, rfl, hn, fun x m => (hl x m).mono e, htm⟩))))
theorem GF.val {hs : List Hd} {names known : List Str} {n : Nat} {v : D} (h : Vl v) : GF hs names known (n + 1) (valF v) := .inl ⟨v, h, rfl⟩
theorem GF.nm {hs : List Hd} {names known : List Str} {n : Nat} {s : Str} (h : s ∈ names) : GF hs names known (n + 1) (nmF s) := .inr (.inl ⟨s, h, rfl⟩)
theorem GF.rf {hs : List Hd} {names known : List Str} {n : Nat} {s : Str} (h : s ∈ WRDS) : GF hs names known (n + 1) (rfF s) := .inr (.inr (.inl ⟨s, h, rfl⟩))
theorem GF.iff' {hs : List Hd} {names known : List Str} {n : Nat} {a b c : D} (ha : GF hs names known n a) (hb : GF hs names known n b) (hc : GF hs names known n c) : GF hs names known (n + 1) (ifF a b c) := .inr (.inr (.inr (.inl ⟨a, b, c, rfl, ha, hb, hc⟩)))
theorem GF.dop {hs : List Hd} {names known : List Str} {n : Nat} {o : Str} {l : List D} (ho : o ∈ OPSL) (ht : takesB o l.length = true) (hl : ∀ x ∈ l, GF hs names known n x) : GF hs names known (n + 1) (doF o l) := .inr (.inr (.inr (.inr (.inl ⟨o, l, ho, ht, rfl, hl⟩))))
theorem tame_GF {hs : List Hd} {names known : List Str} (hk : ∀ s ∈ known, s ∈ names) {d : D} (h : tameF known d) : GF hs names known 3 d := by
  rcases h with ⟨v, hv, rfl⟩ | ⟨s, hs, rfl⟩ | ⟨o, s, ho, hs, rfl⟩ | ⟨s, hs, rfl⟩
  · exact .val hv
  · exact .nm (hk s hs)
  · refine .dop ?_ ?_ fun x m => ?_
    · rcases ho with rfl | rfl | rfl <;> decide +kernel
    · show takesB o 1 = true
      rcases ho with rfl | rfl | rfl <;> decide +kernel
    · rw [List.mem_singleton.mp m]; exact .nm (hk s hs)
  · refine .dop (by decide +kernel) (by show takesB _ 1 = true; decide +kernel) fun x m => ?_
    rw [List.mem_singleton.mp m]
    refine .dop (by decide +kernel) (by show takesB _ 1 = true; decide +kernel) fun x m => ?_
    rw [List.mem_singleton.mp m]; exact .nm (hk s hs)
theorem strs_pl {ss : List Str} (h : ∀ s ∈ ss, isNm s = true) : D.plL (strsD ss) := D.plL_of fun d m => by
  obtain ⟨s, hs, rfl⟩ := List.mem_map.mp m
  have := isNm_ok (h s hs)
  simpa [D.pl] using this
theorem strs_at' (ss : List Str) (i : Int) (h0 : 0 ≤ i) (h : i < ss.length) : ∃ s, s ∈ ss ∧ L2.atI (strsD ss) i = some (.str s) := by
  obtain ⟨d, hd, m⟩ := atI_lt (xs := strsD ss) h0 (by simpa using h)
  obtain ⟨s, hs, rfl⟩ := List.mem_map.mp m
  exact ⟨s, hs, hd⟩
section
variable {fn ff : List Ar → FR} (hn : ∀ p, fn [.val (.int p)] = .im (.int (nxt p)) [.val (.int p)]) (hf : ∀ p w, ∃ v, ff [.val (.int p), .val (.int w)] = .im v [.val (.int p), .val (.int w)] ∧ Vl v)
include hn hf
theorem run_tame (p : Int) (known : List Str) (hk : ∀ s ∈ known, isNm s = true) (hs : List D) :
    ∃ d, runF 7 (b_law_tame fn ff) [.val (.int p), .val (.lst (strsD known)), .val (.lst hs)] = .im d [.val (.int p), .val (.lst (strsD known)), .val (.lst hs)] ∧ tameF known d := by
  have w0 : 0 ≤ (p.fdiv 5).fmod 8 := Int.fmod_nonneg_of_pos _ (by omega)
  have w1 : (p.fdiv 5).fmod 8 < 8 := Int.fmod_lt_of_pos _ (by omega)
  have m0 := nxt_nn p
  have hpl := strs_pl hk
  have hh := hn p
  generalize nxt p = m at hh m0
  generalize hw : (p.fdiv 5).fmod 8 = w at w0 w1
  obtain ⟨v, hv, V⟩ := hf m ((hs.length : Int).fmod 3)
  by_cases hkn : known = []
  · subst hkn
    refine ⟨valF v, ?_, .inl ⟨v, V, rfl⟩⟩
    simp [b_law_tame, hw, hh, -D.eqB, eqB_nn, hv, valF]
  by_cases h0 : w = 0
  · refine ⟨valF v, ?_, .inl ⟨v, V, rfl⟩⟩
    simp [b_law_tame, hw, hh, -D.eqB, D.eqB_nil hpl, hkn, h0, hv, valF]
    simp [D.eqB, hv]
  · have kl : 0 < known.length := by cases known <;> simp_all
    have r0 : 0 ≤ m.fmod known.length := Int.fmod_nonneg_of_pos _ (by omega)
    have r1 : m.fmod known.length < known.length := Int.fmod_lt_of_pos _ (by omega)
    obtain ⟨s, ms, hat⟩ := strs_at' known (m.fmod known.length) r0 r1
    have kl0 : known ≠ [] := hkn
    have kl1 : known.length ≠ 0 := by omega
    have e0 : D.eqB (.int w) (.int 0) = some false := by simp [D.eqB, h0]
    have e7 : ∀ b, D.eqB (.int w) (.int 7) = some b ↔ b = decide (w = 7) := by intro b; simp [D.eqB]; exact eq_comm
    have q0 : D.eqB (.int ((m.fdiv 7).fmod 3)) (.int 0) = some (decide ((m.fdiv 7).fmod 3 = 0)) := by simp [D.eqB]
    by_cases h3 : w < 3
    · refine ⟨nmF s, ?_, .inr (.inl ⟨s, ms, rfl⟩)⟩
      simp [b_law_tame, hw, hh, -D.eqB, D.eqB_nil hpl, hkn, e0, hat, h3, nmF]
    · by_cases w7 : w = 7
      · subst w7
        have e0 : D.eqB (.int 7) (.int 0) = some false := by simp [D.eqB]
        have h7 : D.eqB (.int 7) (.int 7) = some true := by simp [D.eqB]
        have ao : L2.atI [D.str "down", D.str "first", D.str "rest", D.str "rest", D.str "down"] 4 = some (.str "down") := rfl
        by_cases hr : (m.fdiv 7).fmod 3 = 0
        · refine ⟨doF "rest" [doF "rest" [nmF s]], ?_, .inr (.inr (.inr ⟨s, ms, rfl⟩))⟩
          simp [b_law_tame, hw, hh, -D.eqB, D.eqB_nil hpl, hkn, e0, hat, nmF, doF, h7, q0, hr, ao, kl1, (show D.eqB (.int 0) (.int 0) = some true by simp [D.eqB])]
        · refine ⟨doF "down" [nmF s], ?_, .inr (.inr (.inl ⟨"down", s, .inl rfl, ms, rfl⟩))⟩
          simp [b_law_tame, hw, hh, -D.eqB, D.eqB_nil hpl, hkn, e0, hat, nmF, doF, h7, q0, hr, ao, kl1, (show D.eqB (.int 0) (.int 0) = some true by simp [D.eqB])]
      · have h7 : D.eqB (.int w) (.int 7) = some (decide (w = 7)) := (e7 _).mpr rfl
        obtain ⟨o, ho, hato⟩ : ∃ o : Str, (o = ("down" : Str) ∨ o = ("first" : Str) ∨ o = ("rest" : Str)) ∧ L2.atI [D.str "down", D.str "first", D.str "rest", D.str "rest", D.str "down"] (w - 3) = some (.str o) := by
          have : w = 3 ∨ w = 4 ∨ w = 5 ∨ w = 6 := by omega
          rcases this with rfl | rfl | rfl | rfl
          · exact ⟨_, .inl rfl, rfl⟩
          · exact ⟨_, .inr (.inl rfl), rfl⟩
          · exact ⟨_, .inr (.inr rfl), rfl⟩
          · exact ⟨_, .inr (.inr rfl), rfl⟩
        refine ⟨doF o [nmF s], ?_, .inr (.inr (.inl ⟨o, s, ho, ms, rfl⟩))⟩
        simp [b_law_tame, hw, hh, -D.eqB, D.eqB_nil hpl, hkn, e0, hat, h3, nmF, doF, h7, w7, hato, kl1]
end
/-! the parts, a call, a do, a form: over any lists N, K of names and H of heads -/
section
variable {f fn : List Ar → FR} {N K H : D} (hn : ∀ p, fn [.val (.int p)] = .im (.int (nxt p)) [.val (.int p)])
include hn
theorem run_parts {R : D → Prop} (deep : Int) (hf : ∀ p, ∃ d, f [.val (.int p), .val (.int deep), .val N, .val K, .val H] = .im d [.val (.int p), .val (.int deep), .val N, .val K, .val H] ∧ R d) (p : Int) (many : Nat) (hm : many ≤ 1000) :
    ∃ l, runF 8 (b_law_parts f fn) [.val (.int p), .val (.int many), .val (.int deep), .val N, .val K, .val H] = .im (.tup l) [.val (.int p), .val (.int many), .val (.int deep), .val N, .val K, .val H] ∧ l.length = many ∧ ∀ x ∈ l, R x := by
  obtain ⟨e', h1, l, y, fy, hl, hR, rfl⟩ := forL_nx (TF := Tg.F (.nm 7)) (S := L0_law_parts f fn) (fun dn e => ∃ (l : List D) (y : Sl), frees y ∧ l.length = dn.length ∧ (∀ x ∈ l, R x) ∧ e = [.val (.int p), .val (.int many), .val (.int deep), .val N, .val K, .val H, .own (.lst l), y]) (rgD 0 many) (fun dn d rest e hall ⟨l, y, fy, hl, hR, he⟩ => by
    subst he
    obtain ⟨rfl, hlt⟩ := rgD_at hall
    obtain ⟨x, hx, Rx⟩ := hf (nxt (p + 7919 * (0 + dn.length)))
    have hn' := hn (p + 7919 * (0 + dn.length))
    have ll : l.length < 16777216 := by omega
    refine ⟨_, _, by rcases fy with rfl | ⟨y, rfl⟩ <;> rfl, ?_, l ++ [x], .val (.int (0 + dn.length)), .inr ⟨_, rfl⟩, by simp [hl], fun z mz => ?_, rfl⟩
    · generalize (0 : Int) + dn.length = k at hx hn'
      simp [L0_law_parts, hn', hx, ll]
    · rcases List.mem_append.mp mz with q | q
      · exact hR z q
      · rw [List.mem_singleton.mp q]; exact Rx) [.val (.int p), .val (.int many), .val (.int deep), .val N, .val K, .val H, .own (.lst []), .non] ⟨[], .non, .inl rfl, rfl, by simp, rfl⟩
  simp only [rgD, List.length_map, List.length_range] at hl
  refine ⟨l, ?_, hl, hR⟩
  have ma : many < 4611686018427387904 := by omega
  have ll : l.length ≤ 16777216 := by omega
  simp only [Tg.F] at h1
  simp [b_law_parts, ma, -forL, h1, ll]
theorem run_call {R T : D → Prop} {ft : List Ar → FR} {hs : List Hd} (hH : H = .lst (hs.map Hd.d)) (h0 : hs ≠ []) (hw : ∀ h ∈ hs, h.wn.length = h.ps.length ∧ h.ps.length ≤ 1000) (deep : Int) (hf : ∀ p, ∃ d, f [.val (.int p), .val (.int deep), .val N, .val K, .val H] = .im d [.val (.int p), .val (.int deep), .val N, .val K, .val H] ∧ R d)
    (ht : ∀ p, ∃ d, ft [.val (.int p), .val K, .val H] = .im d [.val (.int p), .val K, .val H] ∧ T d) (p : Int) :
    ∃ h, h ∈ hs ∧ ∃ l, runF 9 (b_law_call fn ft f) [.val (.int p), .val (.int deep), .val N, .val K, .val H] = .im (clF h.nm l) [.val (.int p), .val (.int deep), .val N, .val K, .val H] ∧ l.length = h.ps.length ∧ ∀ (i : Nat) (x : D), l[i]? = some x → (h.wn[i]? = some true ∧ T x) ∨ (h.wn[i]? = some false ∧ R x) := by
  subst hH
  have hl0 : 0 < hs.length := by cases hs <;> simp_all
  obtain ⟨hd, hat, hm⟩ := at_list (hs.map Hd.d) p hs.length (by omega) (by simp)
  obtain ⟨h, mh, rfl⟩ := List.mem_map.mp hm
  obtain ⟨hwl, hps⟩ := hw h mh
  obtain ⟨e', h1, l, y, z, fy, fz, hl, hR, rfl⟩ := forL_nx (TF := Tg.F (.nm 7)) (S := L0_law_call fn ft f) (fun dn e => ∃ (l : List D) (y z : Sl), frees y ∧ frees z ∧ l.length = dn.length ∧ (∀ (i : Nat) (x : D), l[i]? = some x → (h.wn[i]? = some true ∧ T x) ∨ (h.wn[i]? = some false ∧ R x)) ∧ e = [.val (.int p), .val (.int deep), .val N, .val K, .val (.lst (hs.map Hd.d)), .val h.d, .own (.lst l), y, z]) (rgD 0 h.ps.length) (fun dn d rest e hall ⟨l, y, z, fy, fz, hl, hR, he⟩ => by
    subst he
    obtain ⟨rfl, hlt⟩ := rgD_at hall
    have hn' := hn (p + 7919 * (0 + dn.length))
    have ll : l.length < 16777216 := by omega
    have wl : dn.length < h.wn.length := by omega
    have wat : L2.atI (h.wn.map D.bl) (0 + dn.length) = some (.bl h.wn[dn.length]) := by
      rw [atI_nat (by omega) (by simp; omega) (.bl true)]
      have : ((0 : Int) + dn.length).toNat = dn.length := by omega
      rw [this, getD_at _ (by simpa using wl)]
      simp
    have wg : h.wn[dn.length]? = some h.wn[dn.length] := List.getElem?_eq_getElem wl
    have fin : ∀ (x : D), ((h.wn[dn.length]? = some true ∧ T x) ∨ (h.wn[dn.length]? = some false ∧ R x)) → ∀ (i : Nat) (w : D), (l ++ [x])[i]? = some w → (h.wn[i]? = some true ∧ T w) ∨ (h.wn[i]? = some false ∧ R w) := fun x hx i w hi => by
      by_cases q : i < l.length
      · rw [List.getElem?_append_left q] at hi
        exact hR i w hi
      · rw [List.getElem?_append_right (by omega)] at hi
        have : i - l.length = 0 := by
          rcases Nat.eq_zero_or_pos (i - l.length) with z | z
          · exact z
          · rw [List.getElem?_eq_none (by simp; omega)] at hi; cases hi
        have ei : i = dn.length := by omega
        rw [this] at hi
        cases hi
        rw [ei]
        exact hx
    generalize hb : h.wn[dn.length] = b at wat wg
    have sd : ∀ (A B C : D), L2.atI [A, B, C] 1 = some B ∧ L2.atI [A, B, C] 2 = some C := fun A B C => ⟨rfl, rfl⟩
    cases b with
    | true =>
      obtain ⟨x, hx, Tx⟩ := ht (nxt (p + 7919 * (0 + dn.length)))
      refine ⟨_, _, by rcases fy with rfl | ⟨y, rfl⟩ <;> rfl, ?_, l ++ [x], .val (.int (0 + dn.length)), .val (.int (nxt (p + 7919 * (0 + dn.length)))), .inr ⟨_, rfl⟩, .inr ⟨_, rfl⟩, by simp [hl], fin x (.inl ⟨wg, Tx⟩), rfl⟩
      generalize (0 : Int) + dn.length = k at hx hn' wat
      rcases fz with rfl | ⟨z, rfl⟩ <;> simp [L0_law_call, hn', hx, ll, Hd.d, wat, sd]
    | false =>
      obtain ⟨x, hx, Rx⟩ := hf (nxt (p + 7919 * (0 + dn.length)))
      refine ⟨_, _, by rcases fy with rfl | ⟨y, rfl⟩ <;> rfl, ?_, l ++ [x], .val (.int (0 + dn.length)), .val (.int (nxt (p + 7919 * (0 + dn.length)))), .inr ⟨_, rfl⟩, .inr ⟨_, rfl⟩, by simp [hl], fin x (.inr ⟨wg, Rx⟩), rfl⟩
      generalize (0 : Int) + dn.length = k at hx hn' wat
      rcases fz with rfl | ⟨z, rfl⟩ <;> simp [L0_law_call, hn', hx, ll, Hd.d, wat, sd]) [.val (.int p), .val (.int deep), .val N, .val K, .val (.lst (hs.map Hd.d)), .val h.d, .own (.lst []), .non, .non] ⟨[], .non, .non, .inl rfl, .inl rfl, rfl, by simp, rfl⟩
  simp only [rgD, List.length_map, List.length_range] at hl
  refine ⟨h, mh, l, ?_, hl, hR⟩
  have ma : h.ps.length < 4611686018427387904 := by omega
  have ll : l.length ≤ 16777216 := by omega
  have hln : hs.length ≠ 0 := by omega
  simp only [Tg.F, Hd.d] at h1 hat
  have sd : ∀ (A B C : D), L2.atI [A, B, C] 1 = some B ∧ L2.atI [A, B, C] 0 = some A := fun A B C => ⟨rfl, rfl⟩
  simp [b_law_call, hln, hat, ma, sd, -forL, h1, ll, clF]
end
end HFL

set_option Elab.async false
set_option linter.all false
set_option maxRecDepth 100000
set_option maxHeartbeats 4000000
set_option autoImplicit false
namespace HFL
open PySem PySem.Spec PyProof.Rows L2 HF
theorem Cal.iterS {P : Program} {w : World} {K : PySem.W.Frag} {mg : Str → Option Value} {base : Heap} {k0 n : Nat} {x : Str} {F : (List Ar → FR) → List Ar → FR} (c : Nat) (h0 : Cal P w K mg base k0 x n (fun _ => .stk)) (st : ∀ k Φ, k0 ≤ k → Cal P w K mg base k x n Φ → Cal P w K mg base (k + c) x n (F Φ)) : ∀ N, Cal P w K mg base (k0 + c * N) x n (iterF F N)
  | 0 => h0
  | N + 1 => (st _ _ (Nat.le_add_right _ _) (Cal.iterS c h0 st N)).mono (by rw [Nat.mul_succ]; omega)
section
variable {fp fn : List Ar → FR} {N K H : D} (hn : ∀ p, fn [.val (.int p)] = .im (.int (nxt p)) [.val (.int p)])
include hn
theorem run_do {R : D → Prop} (deep : Int) (hp : ∀ (q p : Int) (many : Nat), q = deep ∨ q = 0 → many ≤ 1000 → ∃ l, fp [.val (.int p), .val (.int many), .val (.int q), .val N, .val K, .val H] = .im (.tup l) [.val (.int p), .val (.int many), .val (.int q), .val N, .val K, .val H] ∧ l.length = many ∧ ∀ x ∈ l, R x) (p : Int) :
    ∃ o l, o ∈ OPSL ∧ takesB o l.length = true ∧ runF 7 (b_law_do fp fn) [.val (.int p), .val (.int deep), .val N, .val K, .val H] = .im (doF o l) [.val (.int p), .val (.int deep), .val N, .val K, .val H] ∧ ∀ x ∈ l, R x := by
  have w0 : 0 ≤ p.fmod 12 := Int.fmod_nonneg_of_pos _ (by omega)
  have w1 : p.fmod 12 < 12 := Int.fmod_lt_of_pos _ (by omega)
  have hn' := hn p
  generalize nxt p = m at hn'
  generalize hw : p.fmod 12 = w at w0 w1
  obtain ⟨l1, e1, n1, r1⟩ := hp deep m 1 (.inl rfl) (by omega)
  obtain ⟨l2, e2, n2, r2⟩ := hp deep m 2 (.inl rfl) (by omega)
  simp only [Int.cast_ofNat_Int] at e1 e2
  have c : w = 0 ∨ w = 1 ∨ w = 2 ∨ w = 3 ∨ w = 4 ∨ w = 5 ∨ w = 6 ∨ w = 7 ∨ w = 8 ∨ w = 9 ∨ w = 10 ∨ w = 11 := by omega
  have ar2 : ∀ o : Str, o ∈ OPSL → o ≠ "list" → o ∉ ALOS → takesB o l2.length = true := fun o _ h h' => by rw [n2]; simp [takesB, h, h']
  have ar1 : ∀ o : Str, o ∈ OPSL → o ≠ "list" → o ∈ ALOS → takesB o l1.length = true := fun o _ h h' => by rw [n1]; simp [takesB, h, h']
  rcases c with rfl | rfl | rfl | rfl | rfl | rfl | rfl | rfl | rfl | rfl | rfl | rfl
  · exact ⟨"plus", l2, by decide +kernel, ar2 _ (by decide +kernel) (by decide +kernel) (by decide +kernel), by simp +decide [b_law_do, hw, hn', e2, doF, atI, ixN], r2⟩
  · exact ⟨"minus", l2, by decide +kernel, ar2 _ (by decide +kernel) (by decide +kernel) (by decide +kernel), by simp +decide [b_law_do, hw, hn', e2, doF, atI, ixN], r2⟩
  · exact ⟨"times", l2, by decide +kernel, ar2 _ (by decide +kernel) (by decide +kernel) (by decide +kernel), by simp +decide [b_law_do, hw, hn', e2, doF, atI, ixN], r2⟩
  · exact ⟨"over", l2, by decide +kernel, ar2 _ (by decide +kernel) (by decide +kernel) (by decide +kernel), by simp +decide [b_law_do, hw, hn', e2, doF, atI, ixN], r2⟩
  · exact ⟨"less", l2, by decide +kernel, ar2 _ (by decide +kernel) (by decide +kernel) (by decide +kernel), by simp +decide [b_law_do, hw, hn', e2, doF, atI, ixN], r2⟩
  · exact ⟨"same", l2, by decide +kernel, ar2 _ (by decide +kernel) (by decide +kernel) (by decide +kernel), by simp +decide [b_law_do, hw, hn', e2, doF, atI, ixN], r2⟩
  · exact ⟨"join", l2, by decide +kernel, ar2 _ (by decide +kernel) (by decide +kernel) (by decide +kernel), by simp +decide [b_law_do, hw, hn', e2, doF, atI, ixN], r2⟩
  · exact ⟨"first", l1, by decide +kernel, ar1 _ (by decide +kernel) (by decide +kernel) (by decide +kernel), by simp +decide [b_law_do, hw, hn', e1, doF, atI, ixN], r1⟩
  · exact ⟨"rest", l1, by decide +kernel, ar1 _ (by decide +kernel) (by decide +kernel) (by decide +kernel), by simp +decide [b_law_do, hw, hn', e1, doF, atI, ixN], r1⟩
  · exact ⟨"empty", l1, by decide +kernel, ar1 _ (by decide +kernel) (by decide +kernel) (by decide +kernel), by simp +decide [b_law_do, hw, hn', e1, doF, atI, ixN], r1⟩
  · exact ⟨"down", l1, by decide +kernel, ar1 _ (by decide +kernel) (by decide +kernel) (by decide +kernel), by simp +decide [b_law_do, hw, hn', e1, doF, atI, ixN], r1⟩
  · obtain ⟨k, hk, hat⟩ : ∃ k : Nat, k ≤ 8 ∧ L2.atI [D.int 0, D.int 1, D.int 2, D.int 3, D.int 8, D.int 5, D.int 1, D.int 2] ((p.fdiv 12).fmod 8) = some (.int k) := by
      have u0 : 0 ≤ (p.fdiv 12).fmod 8 := Int.fmod_nonneg_of_pos _ (by omega)
      have u1 : (p.fdiv 12).fmod 8 < 8 := Int.fmod_lt_of_pos _ (by omega)
      generalize (p.fdiv 12).fmod 8 = u at u0 u1
      have c : u = 0 ∨ u = 1 ∨ u = 2 ∨ u = 3 ∨ u = 4 ∨ u = 5 ∨ u = 6 ∨ u = 7 := by omega
      rcases c with rfl | rfl | rfl | rfl | rfl | rfl | rfl | rfl
      · exact ⟨0, by omega, rfl⟩
      · exact ⟨1, by omega, rfl⟩
      · exact ⟨2, by omega, rfl⟩
      · exact ⟨3, by omega, rfl⟩
      · exact ⟨8, by omega, rfl⟩
      · exact ⟨5, by omega, rfl⟩
      · exact ⟨1, by omega, rfl⟩
      · exact ⟨2, by omega, rfl⟩
    have at11 : L2.atI [D.str "plus", D.str "minus", D.str "times", D.str "over", D.str "less", D.str "same", D.str "join", D.str "first", D.str "rest", D.str "empty", D.str "down", D.str "list"] 11 = some (D.str "list") := rfl
    by_cases k3 : 3 < k
    · obtain ⟨l, e, nl, r⟩ := hp 0 m k (.inr rfl) (by omega)
      have k3' : (3 : Int) < k := by omega
      refine ⟨"list", l, by decide +kernel, by rw [nl]; simp [takesB, hk], ?_, r⟩
      simp +decide [b_law_do, hw, hn', at11, hat, k3', e, doF]
    · obtain ⟨l, e, nl, r⟩ := hp deep m k (.inl rfl) (by omega)
      have k3' : ¬ (3 : Int) < k := by omega
      refine ⟨"list", l, by decide +kernel, by rw [nl]; simp [takesB, hk], ?_, r⟩
      simp +decide [b_law_do, hw, hn', at11, hat, k3', e, doF]
end
/-- a form, one turn of the recursion -/
def formF (fn fv ft : List Ar → FR) (F : List Ar → FR) : List Ar → FR := runF 7 (b_law_form fn fv (runF 8 (b_law_parts F fn)) (runF 7 (b_law_do (runF 8 (b_law_parts F fn)) fn)) (runF 9 (b_law_call fn ft F)))
structure HdOk (h : Hd) : Prop where
  wl : h.wn.length = h.ps.length
  pl : h.ps.length ≤ 6
theorem run_form {fn fv ft : List Ar → FR} (hn : ∀ p, fn [.val (.int p)] = .im (.int (nxt p)) [.val (.int p)]) (hv : ∀ p, ∃ v, fv [.val (.int p)] = .im v [.val (.int p)] ∧ Vl v) {hs : List Hd} (h0 : hs ≠ []) (hw : ∀ h ∈ hs, HdOk h) {names known : List Str} (hnm : ∀ s ∈ names, isNm s = true) (hkn : ∀ s ∈ known, s ∈ names)
    (ht : ∀ p, ∃ d, ft [.val (.int p), .val (.lst (strsD known)), .val (.lst (hs.map Hd.d))] = .im d [.val (.int p), .val (.lst (strsD known)), .val (.lst (hs.map Hd.d))] ∧ tameF known d) :
    ∀ (n : Nat) (deep : Nat), deep ≤ n → ∀ p, ∃ d, iterF (formF fn fv ft) (n + 1) [.val (.int p), .val (.int deep), .val (.lst (strsD names)), .val (.lst (strsD known)), .val (.lst (hs.map Hd.d))] = .im d [.val (.int p), .val (.int deep), .val (.lst (strsD names)), .val (.lst (strsD known)), .val (.lst (hs.map Hd.d))] ∧ GF hs names known (deep + 3) d := by
  have leafs : ∀ (fp fd fc : List Ar → FR) (deep : Nat) (p : Int), deep = 0 ∨ (p.fdiv 3).fmod 13 < 3 → ∃ d, runF 7 (b_law_form fn fv fp fd fc) [.val (.int p), .val (.int deep), .val (.lst (strsD names)), .val (.lst (strsD known)), .val (.lst (hs.map Hd.d))] = .im d [.val (.int p), .val (.int deep), .val (.lst (strsD names)), .val (.lst (strsD known)), .val (.lst (hs.map Hd.d))] ∧ GF hs names known (deep + 3) d := by
    intro fp fd fc deep p hc
    have hpl := strs_pl hnm
    have hn' := hn p
    have m0 := nxt_nn p
    generalize nxt p = m at hn' m0
    obtain ⟨v, hv', V⟩ := hv (m.fdiv 4)
    by_cases hz : names = []
    · refine ⟨valF v, ?_, .val V⟩
      subst hz
      rcases hc with rfl | hc
      · simp [b_law_form, hn', hv', valF, D.eqB]
      · by_cases d0 : deep = 0
        · simp [b_law_form, hn', hv', valF, D.eqB, d0]
        · simp [b_law_form, hn', hv', valF, D.eqB, hc, d0]
    by_cases h4 : 0 < m.fmod 4
    · have nl : 0 < names.length := by cases names <;> simp_all
      obtain ⟨s, ms, hat⟩ := strs_at' names ((m.fdiv 4).fmod names.length) (Int.fmod_nonneg_of_pos _ (by omega)) (Int.fmod_lt_of_pos _ (by omega))
      refine ⟨nmF s, ?_, .nm ms⟩
      have nl0 : names.length ≠ 0 := by omega
      have e0 : D.eqB (.int deep) (.int 0) = some (decide (deep = 0)) := by simp [D.eqB]
      rcases hc with rfl | hc
      · have e0 : D.eqB (.int 0) (.int 0) = some true := by simp [D.eqB]
        simp [b_law_form, hn', -D.eqB, D.eqB_nil hpl, hz, h4, hat, nmF, nl0, e0]
      · by_cases d0 : deep = 0
        · subst d0
          have e0 : D.eqB (.int 0) (.int 0) = some true := by simp [D.eqB]
          simp [b_law_form, hn', -D.eqB, D.eqB_nil hpl, hz, h4, hat, nmF, nl0, e0]
        · simp [b_law_form, hn', -D.eqB, D.eqB_nil hpl, hz, h4, hat, nmF, nl0, e0, d0, hc]
    · refine ⟨valF v, ?_, .val V⟩
      have e0 : D.eqB (.int deep) (.int 0) = some (decide (deep = 0)) := by simp [D.eqB]
      by_cases d0 : deep = 0
      · subst d0
        have e0 : D.eqB (.int 0) (.int 0) = some true := by simp [D.eqB]
        simp [b_law_form, hn', -D.eqB, D.eqB_nil hpl, hz, h4, hv', valF, e0]
      · have hc' := hc.resolve_left d0
        simp [b_law_form, hn', -D.eqB, D.eqB_nil hpl, hz, h4, hv', valF, e0, d0, hc']
  intro n
  induction n with
  | zero =>
    intro deep hd p
    have : deep = 0 := by omega
    exact leafs _ _ _ deep p (.inl this)
  | succ n ih =>
    intro deep hd p
    by_cases hc : deep = 0 ∨ (p.fdiv 3).fmod 13 < 3
    · exact leafs _ _ _ deep p hc
    · obtain ⟨d0, w3⟩ := not_or.mp hc
      obtain ⟨dp, rfl⟩ : ∃ dp, deep = dp + 1 := ⟨deep - 1, by omega⟩
      have F1 := ih dp (by omega)
      have F0 := ih 0 (by omega)
      unfold iterF
      generalize iterF (formF fn fv ft) (n + 1) = F at F1 F0
      have parts := run_parts hn (R := GF hs names known (dp + 3)) dp F1
      have parts0 := run_parts hn (R := GF hs names known (dp + 3)) 0 (fun p => by
        obtain ⟨d, e, g⟩ := F0 p
        exact ⟨d, e, g.mono (by omega)⟩)
      have hdo := run_do hn (R := GF hs names known (dp + 3)) dp (fun q p many hq hm => by
        rcases hq with rfl | rfl
        · exact parts p many hm
        · exact parts0 p many hm)
      have hcall := run_call hn (T := tameF known) rfl h0 (fun h m => ⟨(hw h m).wl, by have := (hw h m).pl; omega⟩) dp F1 ht
      unfold formF
      generalize runF 8 (b_law_parts F fn) = fp at parts hdo
      generalize runF 7 (b_law_do fp fn) = fd at hdo
      generalize runF 9 (b_law_call fn ft F) = fc at hcall
      have hn' := hn p
      have m0 := nxt_nn p
      generalize nxt p = m at hn' m0
      have e0 : ¬ ((dp : Int) + 1 = 0) := by omega
      generalize hw' : (p.fdiv 3).fmod 13 = w at w3
      by_cases w6 : w < 6
      · obtain ⟨l, e, nl, r⟩ := parts m 3 (by omega)
        match l, nl with
        | [a, b, c], _ =>
          refine ⟨ifF a b c, ?_, .iff' (r a (by simp)) (r b (by simp)) (r c (by simp))⟩
          simp only [Int.cast_ofNat_Int] at e
          simp [b_law_form, hn', hw', w3, e0, w6, e, ifF]
      by_cases w9 : w < 9
      · obtain ⟨o, l, ho, ht', e, r⟩ := hdo m
        refine ⟨doF o l, ?_, .dop ho ht' r⟩
        simp [b_law_form, hn', hw', w3, e0, w6, w9, e]
      by_cases w12 : w < 12
      · obtain ⟨h, mh, l, e, nl, r⟩ := hcall m
        refine ⟨clF h.nm l, ?_, .inr (.inr (.inr (.inr (.inr ⟨h, mh, l, rfl, nl, fun x mx => ?_, fun i x hi hw => ?_⟩))))⟩
        · simp [b_law_form, hn', hw', w3, e0, w6, w9, w12, e]
        · obtain ⟨i, hi⟩ := List.mem_iff_getElem?.mp mx
          rcases r i x hi with ⟨_, t⟩ | ⟨_, t⟩
          · exact (tame_GF hkn t).mono (by omega)
          · exact t
        · rcases r i x hi with ⟨_, t⟩ | ⟨e, _⟩
          · exact t
          · rw [hw] at e; cases e
      · obtain ⟨d, hat, md⟩ := at_list (WRDS.map D.str) m 6 (by omega) (by simp [WRDS])
        obtain ⟨s, ms, rfl⟩ := List.mem_map.mp md
        refine ⟨rfF s, ?_, .rf ms⟩
        simp only [WRDS, List.map_cons, List.map_nil] at hat
        simp [b_law_form, hn', hw', w3, e0, w6, w9, w12, hat, rfF]
end HFL

set_option Elab.async false
set_option linter.all false
set_option maxRecDepth 100000
set_option maxHeartbeats 4000000
set_option autoImplicit false
namespace HFL
open PySem PySem.Spec PyProof.Rows L2 HF
/-! ### the heads -/
structure Hds (hs : List Hd) (ns : List Str) : Prop where
  nms : Nms ns
  len0 : 1 ≤ hs.length
  len4 : hs.length ≤ 4
  each : ∀ (i : Nat) (h : Hd), hs[i]? = some h → h.nm = ns.getD i "" ∧ ∃ m, m ≤ 6 ∧ h.ps = (List.range m).map (fun j => ns.getD ((2 + i + j) % 12) "") ∧ h.wn.length = m ∧ h.wn.count true ≤ 2
theorem cnt_bl (wn : List Bool) : ((wn.map D.bl).countP fun z => PyData.eqv z.py (D.bl true).py) = wn.count true := by
  induction wn with
  | nil => rfl
  | cons b wn ih =>
    rw [List.map_cons, List.countP_cons, ih, List.count_cons]
    cases b <;> simp
theorem flat_bl (wn : List Bool) : (wn.map D.bl).all D.flat = true := by simp
theorem heads_inner (f1 f2 : List Ar → FR) (A B C : Sl) (c : Int) (E : Sl) (m : Nat) (hm : m ≤ 6) (S : Sl) (x y : Sl) (fx : frees x) (fy : frees y) : ∃ (wn : List Bool) (x' y' : Sl), frees x' ∧ frees y' ∧ wn.length = m ∧ wn.count true ≤ 2 ∧
    forL (Tg.F (.nm 7)) (L0_law_heads f1 f2) (rgD 0 m) [A, B, C, S, .val (.int c), E, .own (.lst []), x, y] = .nx [A, B, C, S, .val (.int c), E, .own (.lst (wn.map D.bl)), x', y'] := by
  obtain ⟨e', h1, wn, x', y', fx', fy', hl, hc, rfl⟩ := forL_nx (TF := Tg.F (.nm 7)) (S := L0_law_heads f1 f2) (fun dn e => ∃ (wn : List Bool) (x y : Sl), frees x ∧ frees y ∧ wn.length = dn.length ∧ wn.count true ≤ 2 ∧ e = [A, B, C, S, .val (.int c), E, .own (.lst (wn.map D.bl)), x, y]) (rgD 0 m) (fun dn d rest e hall ⟨wn, x, y, fx, fy, hl, hc, he⟩ => by
    subst he
    obtain ⟨rfl, hlt⟩ := rgD_at hall
    obtain ⟨q, hq, hq0⟩ : ∃ q : Int, L2.atI [D.int 7, D.int 14, D.int 28, D.int 56, D.int 112, D.int 224] (0 + dn.length) = some (.int q) ∧ 0 < q ∧ q < 1000 := by
      have : dn.length = 0 ∨ dn.length = 1 ∨ dn.length = 2 ∨ dn.length = 3 ∨ dn.length = 4 ∨ dn.length = 5 := by omega
      rcases this with z | z | z | z | z | z <;> rw [z]
      · exact ⟨7, rfl, by omega, by omega⟩
      · exact ⟨14, rfl, by omega, by omega⟩
      · exact ⟨28, rfl, by omega, by omega⟩
      · exact ⟨56, rfl, by omega, by omega⟩
      · exact ⟨112, rfl, by omega, by omega⟩
      · exact ⟨224, rfl, by omega, by omega⟩
    have q0 : q ≠ 0 := by omega
    have q1 : q.natAbs < 18446744073709551616 := by omega
    have ll : wn.length < 16777216 := by omega
    by_cases k1 : (c.fdiv q).fmod 2 = 1
    · refine ⟨_, _, by rcases fx with rfl | ⟨x, rfl⟩ <;> rfl, ?_, wn ++ [decide (wn.count true < 2)], .val (.int (0 + dn.length)), .val (.bl true), .inr ⟨_, rfl⟩, .inr ⟨_, rfl⟩, by simp [hl], ?_, rfl⟩
      · generalize (0 : Int) + dn.length = k at hq
        have cb := cnt_bl wn
        have fb := flat_bl wn
        rcases fy with rfl | ⟨y, rfl⟩ <;> simp [L0_law_heads, hq, q0, q1, k1, ll, -List.countP_map] <;> simp at cb <;> simp [cb] <;> omega
      · rw [List.count_append]
        by_cases c2 : wn.count true < 2
        · simp [c2]; omega
        · simp [c2]; omega
    · refine ⟨_, _, by rcases fx with rfl | ⟨x, rfl⟩ <;> rfl, ?_, wn ++ [false], .val (.int (0 + dn.length)), .val (.bl false), .inr ⟨_, rfl⟩, .inr ⟨_, rfl⟩, by simp [hl], ?_, rfl⟩
      · generalize (0 : Int) + dn.length = k at hq
        rcases fy with rfl | ⟨y, rfl⟩ <;> simp [L0_law_heads, hq, q0, q1, k1, ll]
      · rw [List.count_append]; simp; omega) [A, B, C, S, .val (.int c), E, .own (.lst []), x, y] ⟨[], x, y, fx, fy, rfl, by simp, rfl⟩
  simp only [rgD, List.length_map, List.length_range] at hl
  exact ⟨wn, x', y', fx', fy', hl, hc, h1⟩
theorem psOf (ns : List Str) (hn : ns.length = 12) (f1 f2 : List Ar → FR) (A C E F Y : Sl) (c : D) (k m : Nat) (hm : m ≤ 6) :
    lcL (Tg.F (.nm 7)) yesF (E0_law_heads f1 f2) [7] (rgD 0 m) [A, .own (.lst (strsD ns)), C, .val (.int k), .val c, E, F, .non, Y] [] = .ok (.fr (.lst (strsD ((List.range m).map fun j => ns.getD ((2 + k + j) % 12) "")))) [A, .own (.lst (strsD ns)), C, .val (.int k), .val c, E, F, .non, Y] := by
  have lc := lcL_map (i := 7) (E := E0_law_heads f1 f2) (fun d => match d with | .int j => .str (ns.getD ((2 + k + j.toNat) % 12) "") | _ => .non) (e := [A, .own (.lst (strsD ns)), C, .val (.int k), .val c, E, F, .non, Y]) rfl (rgD 0 m) [] (by simp [rgD]; omega) (fun d md => by
    obtain ⟨j, hj, rfl⟩ := rgD_mem md
    have tk : ((0 : Int) + (j : Int)).toNat = j := by omega
    have lt : (2 + k + j) % 12 < 12 := Nat.mod_lt _ (by omega)
    have e : (2 + (k : Int) + (0 + j)).fmod 12 = ((2 + k + j) % 12 : Nat) := by
      have := fmod_nat (2 + k + j) 12
      rw [← this]; simp
    have at' := atI_nat (xs := strsD ns) (i := ((2 + k + j) % 12 : Nat)) (by omega) (by rw [List.length_map, hn]; exact Int.ofNat_lt.mpr lt) (.str "")
    have gd : (strsD ns).getD ((2 + k + j) % 12) (.str "") = .str (ns.getD ((2 + k + j) % 12) "") := by
      rw [getD_at _ (by simp [hn]; omega), getD_at _ (by rw [hn]; exact lt)]; simp
    rw [Int.toNat_natCast, gd] at at'
    simp only [tk]
    generalize ns.getD ((2 + k + j) % 12) "" = s at at' ⊢
    generalize (((2 + k + j) % 12 : Nat) : Int) = q at e at'
    generalize strsD ns = L at at' ⊢
    generalize (0 : Int) + j = jj at e ⊢
    simp [E0_law_heads, e, at'])
  rw [lc]
  simp [rgD]
theorem run_heads {f1 f2 : List Ar → FR} (ns0 : List Int) (hc : ∀ k, 0 ≤ k → f2 [.val (.scr ns0), .val (.int k)] = .im (.int (cell ns0 k)) [.val (.scr ns0), .val (.int k)]) (hnm : ∀ c, ∃ ns : List Str, f1 [.val (.int c)] = .fr (.lst (strsD ns)) [.val (.int c)] ∧ Nms ns) :
    ∃ hs ns, runF 9 (b_law_heads f1 f2) [.val (.scr ns0)] = .fr (.lst (hs.map Hd.d)) [.val (.scr ns0)] ∧ Hds hs ns := by
  obtain ⟨ns, hns, N⟩ := hnm (cell ns0 0)
  have c0 := hc 0 (by omega)
  have c1 := hc 1 (by omega)
  have m0 : 0 ≤ (cell ns0 1).fmod 4 := Int.fmod_nonneg_of_pos _ (by omega)
  have m1 : (cell ns0 1).fmod 4 < 4 := Int.fmod_lt_of_pos _ (by omega)
  generalize cell ns0 0 = q0 at hns c0
  generalize cell ns0 1 = q1 at c1 m0 m1
  have nl := N.len
  obtain ⟨e', h1, hs, u, v, w, x, y, fu, fv, fw, fx, fy, hl, hE, s3, f3, rfl⟩ := forL_nx (TF := Tg.F (.nm 3)) (S := L1_law_heads f1 f2) (fun dn e => ∃ (hs : List Hd) (u v w x y : Sl), frees u ∧ frees v ∧ (frees w ∨ ∃ l, w = .own (.lst l)) ∧ frees x ∧ frees y ∧ hs.length = dn.length ∧
      (∀ (i : Nat) (h : Hd), hs[i]? = some h → h.nm = ns.getD i "" ∧ ∃ m, m ≤ 6 ∧ h.ps = (List.range m).map (fun j => ns.getD ((2 + i + j) % 12) "") ∧ h.wn.length = m ∧ h.wn.count true ≤ 2) ∧
      ∃ s3, frees s3 ∧ e = [.val (.scr ns0), .own (.lst (strsD ns)), .own (.lst (hs.map Hd.d)), s3, u, v, w, x, y]) (rgD 0 (1 + q1.fmod 4).toNat) (fun dn d rest e hall ⟨hs, u, v, w, x, y, fu, fv, fw, fx, fy, hl, hE, s3, f3, he⟩ => by
    subst he
    obtain ⟨rfl, hlt⟩ := rgD_at hall
    have d4 : dn.length < 4 := by omega
    have cc := hc (2 + (0 + dn.length)) (by omega)
    generalize cell ns0 (2 + (0 + dn.length)) = c at cc
    obtain ⟨m, hm6, hat⟩ : ∃ m : Nat, m ≤ 6 ∧ L2.atI [D.int 1, D.int 2, D.int 3, D.int 2, D.int 0, D.int 6, D.int 3] (c.fmod 7) = some (.int m) := by
      have u0 : 0 ≤ c.fmod 7 := Int.fmod_nonneg_of_pos _ (by omega)
      have u1 : c.fmod 7 < 7 := Int.fmod_lt_of_pos _ (by omega)
      generalize c.fmod 7 = u at u0 u1
      have c : u = 0 ∨ u = 1 ∨ u = 2 ∨ u = 3 ∨ u = 4 ∨ u = 5 ∨ u = 6 := by omega
      rcases c with rfl | rfl | rfl | rfl | rfl | rfl | rfl
      · exact ⟨1, by omega, rfl⟩
      · exact ⟨2, by omega, rfl⟩
      · exact ⟨3, by omega, rfl⟩
      · exact ⟨2, by omega, rfl⟩
      · exact ⟨0, by omega, rfl⟩
      · exact ⟨6, by omega, rfl⟩
      · exact ⟨3, by omega, rfl⟩
    obtain ⟨wn, x', y', fx', fy', hwl, hwc, hin⟩ := heads_inner f1 f2 (.val (.scr ns0)) (.own (.lst (strsD ns))) (.own (.lst (hs.map Hd.d))) c (.val (.int m)) m hm6 (.val (.int (0 + dn.length))) x y fx fy
    have lc := psOf ns nl f1 f2 (.val (.scr ns0)) (.own (.lst (hs.map Hd.d))) (.val (.int m)) (.own (.lst (wn.map D.bl))) y' (.int c) dn.length m hm6
    have nat' : L2.atI (strsD ns) (0 + dn.length) = some (.str (ns.getD dn.length "")) := by
      rw [atI_nat (by omega) (by simp [nl]; omega) (.str "")]
      have : ((0 : Int) + dn.length).toNat = dn.length := by omega
      rw [this, getD_at _ (by simp [nl]; omega), getD_at _ (by omega)]; simp
    have hll : hs.length < 16777216 := by omega
    have mm : m < 4611686018427387904 := by omega
    have wl2 : wn.length ≤ 16777216 := by omega
    have m2 : m ≤ 16777216 := by omega
    let hnew : Hd := ⟨ns.getD dn.length "", (List.range m).map (fun j => ns.getD ((2 + dn.length + j) % 12) ""), wn⟩
    have hD : hnew.d = .tup [.str (ns.getD dn.length ""), .tup (strsD ((List.range m).map (fun j => ns.getD ((2 + dn.length + j) % 12) ""))), .tup (wn.map D.bl)] := rfl
    refine ⟨_, _, by rcases f3 with rfl | ⟨z, rfl⟩ <;> rfl, ?_, hs ++ [hnew], .val (.int c), .val (.int m), .own (.lst (wn.map D.bl)), x', y', .inr ⟨_, rfl⟩, .inr ⟨_, rfl⟩, .inr ⟨_, rfl⟩, fx', fy', by simp [hl], ?_, .val (.int (0 + dn.length)), .inr ⟨_, rfl⟩, rfl⟩
    · rw [List.map_append, List.map_cons, List.map_nil, hD]
      have plen : (strsD ((List.range m).map (fun j => ns.getD ((2 + dn.length + j) % 12) ""))).length = m := by simp
      generalize strsD ((List.range m).map (fun j => ns.getD ((2 + dn.length + j) % 12) "")) = PL at lc plen
      generalize ns.getD dn.length "" = nm at nat'
      rw [Int.zero_add] at cc nat' hin ⊢
      simp only [Tg.F] at hin lc
      have pl2 : PL.length ≤ 16777216 := by omega
      rcases fu with rfl | ⟨u, rfl⟩ <;> rcases fv with rfl | ⟨v, rfl⟩ <;> rcases fw with (rfl | ⟨w, rfl⟩) | ⟨w, rfl⟩ <;> rcases fx' with rfl | ⟨x', rfl⟩ <;> simp [L1_law_heads, cc, hat, mm, -forL, -lcL, hin, nat', lc, hll, pl2, wl2]
    · intro i h hi
      by_cases q : i < hs.length
      · rw [List.getElem?_append_left q] at hi
        exact hE i h hi
      · rw [List.getElem?_append_right (by omega)] at hi
        have : i - hs.length = 0 := by
          rcases Nat.eq_zero_or_pos (i - hs.length) with z | z
          · exact z
          · rw [List.getElem?_eq_none (by simp; omega)] at hi; cases hi
        have ei : i = dn.length := by omega
        rw [this] at hi
        cases hi
        subst ei
        exact ⟨rfl, m, hm6, rfl, hwl, hwc⟩) [.val (.scr ns0), .own (.lst (strsD ns)), .own (.lst []), .non, .non, .non, .non, .non, .non] ⟨[], .non, .non, .non, .non, .non, .inl rfl, .inl rfl, .inl (.inl rfl), .inl rfl, .inl rfl, rfl, by simp, .non, .inl rfl, rfl⟩
  simp only [rgD, List.length_map, List.length_range] at hl
  refine ⟨hs, ns, ?_, ⟨N, by omega, by omega, hE⟩⟩
  have ma : (1 + q1.fmod 4).natAbs < 4611686018427387904 := by omega
  simp only [Tg.F] at h1
  simp [b_law_heads, c0, c1, hns, ma, -forL, h1]
end HFL

set_option Elab.async false
set_option linter.all false
set_option maxRecDepth 100000
set_option maxHeartbeats 4000000
set_option autoImplicit false
namespace HFL
open PySem PySem.Spec PyProof.Rows L2 HF
/-! ### the program -/
structure Fn where
  nm : Str
  ps : List Str
  bd : D
def Fn.d (f : Fn) : D := .tup [.str f.nm, .tup (strsD f.ps), f.bd]
def knownOf (h : Hd) : List Str := ((List.range h.ps.length).filter fun j => h.wn.getD j false).map fun j => h.ps.getD j ""
theorem knownOf_sub (h : Hd) : ∀ s ∈ knownOf h, s ∈ h.ps := by
  intro s m
  simp only [knownOf, List.mem_map, List.mem_filter, List.mem_range] at m
  obtain ⟨j, ⟨hj, _⟩, rfl⟩ := m
  rw [getD_at _ hj]
  exact List.getElem_mem hj
structure Pr (hs : List Hd) (pr : List Fn) : Prop where
  len : pr.length = hs.length
  each : ∀ (i : Nat) (f : Fn) (h : Hd), pr[i]? = some f → hs[i]? = some h → f.nm = h.nm ∧ f.ps = h.ps ∧ GF hs h.ps (knownOf h) 7 f.bd
mutual
theorem thg_pure : ∀ d : D, thg d = true → d.pure = true
  | .tup xs, h => by simp at h; simpa using thgL_pure xs h
  | .non, h => by simp
  | .bl _, h => by simp
  | .int _, h => by simp
  | .str s, h => by simp
  | .lst _, h => by simp [thg, leafy] at h
  | .dct _ _, h => by simp [thg, leafy] at h
  | .scr _, h => by simp [thg, leafy] at h
  | .ty _, h => by simp [thg, leafy] at h
  | .ob _, h => by simp [thg, leafy] at h
theorem thgL_pure : ∀ ds : List D, thgL ds = true → D.pureL ds = true
  | [], _ => by simp
  | d :: ds, h => by simp at h; simpa using ⟨thg_pure d h.1, thgL_pure ds h.2⟩
end
theorem pureL_of {ds : List D} (h : ∀ d ∈ ds, d.pure = true) : D.pureL ds = true := by
  induction ds with
  | nil => simp
  | cons x ds ih => simp; exact ⟨h x (by simp), ih fun d m => h d (by simp [m])⟩
theorem pureL_mem {ds : List D} (h : D.pureL ds = true) {d : D} (m : d ∈ ds) : d.pure = true := by
  induction ds with
  | nil => cases m
  | cons x ds ih =>
    simp only [D.pureL_cons, Bool.and_eq_true] at h
    cases m with
    | head => exact h.1
    | tail _ m => exact ih h.2 m
theorem GF.pure {hs : List Hd} {names known : List Str} : ∀ {n : Nat} {d : D}, GF hs names known n d → d.pure = true
  | n + 1, d, h => by
    rcases h with ⟨v, V, rfl⟩ | ⟨s, _, rfl⟩ | ⟨s, _, rfl⟩ | ⟨a, b, c, rfl, ha, hb, hc⟩ | ⟨o, l, ho, ht, rfl, hl⟩ | ⟨hd, hh, l, rfl, hn, hl, htm⟩
    · simp [valF, thg_pure _ V.th]
    · simp [nmF]
    · simp [rfF]
    · simp [ifF, ha.pure, hb.pure, hc.pure]
    · simp [doF, pureL_of fun x m => (hl x m).pure]
    · simp [clF, pureL_of fun x m => (hl x m).pure]
theorem strs_at_nat (ss : List Str) (i : Nat) (h : i < ss.length) : L2.atI (strsD ss) (i : Int) = some (.str (ss.getD i "")) := by
  rw [atI_nat (by omega) (by simpa using h) (.str ""), Int.toNat_natCast, getD_at _ (by simpa using h), getD_at _ h]
  simp
theorem known_lc (h : Hd) (hw : h.wn.length = h.ps.length) (hp : h.ps.length ≤ 1000) (fn fc ff : List Ar → FR) (A B C E F G H I J K : Sl) :
    lcL (Tg.F (.nm 12)) (T0_law_program fn fc ff) (E0_law_program fn fc ff) [12] (rgD 0 h.ps.length) [A, B, C, E, F, G, H, I, .val (.tup (strsD h.ps)), .val (.tup (h.wn.map D.bl)), J, K, .non] [] = .ok (.fr (.lst (strsD (knownOf h)))) [A, B, C, E, F, G, H, I, .val (.tup (strsD h.ps)), .val (.tup (h.wn.map D.bl)), J, K, .non] := by
  have lc := lcL_filter (i := 12) (T := T0_law_program fn fc ff) (E := E0_law_program fn fc ff) (fun d => match d with | .int j => h.wn.getD j.toNat false | _ => false) (fun d => match d with | .int j => .str (h.ps.getD j.toNat "") | _ => .non) (e := [A, B, C, E, F, G, H, I, .val (.tup (strsD h.ps)), .val (.tup (h.wn.map D.bl)), J, K, .non]) rfl (rgD 0 h.ps.length) [] (by simp [rgD]; omega) (fun d md => by
    obtain ⟨j, hj, rfl⟩ := rgD_mem md
    have tk : ((0 : Int) + (j : Int)).toNat = j := by omega
    have at' : L2.atI (h.wn.map D.bl) (j : Int) = some (.bl (h.wn.getD j false)) := by
      rw [atI_nat (by omega) (by simp; omega) (.bl false), Int.toNat_natCast, getD_at _ (by simp; omega), getD_at _ (by omega)]
      simp
    simp only [tk]
    generalize h.wn.getD j false = s at at' ⊢
    rw [Int.zero_add]
    generalize h.wn.map D.bl = L at at' ⊢
    generalize strsD h.ps = M
    simp [T0_law_program, at']) (fun d md hd => by
    obtain ⟨j, hj, rfl⟩ := rgD_mem md
    have tk : ((0 : Int) + (j : Int)).toNat = j := by omega
    have at' := strs_at_nat h.ps j hj
    simp only [tk]
    generalize h.ps.getD j "" = s at at' ⊢
    rw [Int.zero_add]
    generalize strsD h.ps = M at at' ⊢
    generalize h.wn.map D.bl = L
    simp [E0_law_program, at'])
  rw [lc]
  have e : ∀ n : Nat, ((List.range n).map (fun (i : Nat) => D.int (0 + (i : Int)))).filter (fun d => match d with | .int j => h.wn.getD j.toNat false | _ => false) = ((List.range n).filter fun j => h.wn.getD j false).map (fun (i : Nat) => D.int (0 + (i : Int))) := fun n => by
    rw [List.filter_map]
    congr 1
    apply List.filter_congr
    intro x _
    simp
  rw [List.nil_append, rgD, e, List.map_map]
  have e2 : (((List.range h.ps.length).filter fun j => h.wn.getD j false).map ((fun d => match d with | .int j => .str (h.ps.getD j.toNat "") | _ => D.non) ∘ fun (i : Nat) => D.int (0 + (i : Int)))) = strsD (knownOf h) := by
    simp only [knownOf, strsD, List.map_map]
    apply List.map_congr_left
    intro x _
    simp
  rw [e2]
/-- a slot that may be written -/
abbrev nio (x : Sl) : Prop := isIo (some x) = false
theorem io_val (d : D) : isIo (some (.val d)) = false := rfl
theorem io_own (d : D) : isIo (some (.own d)) = false := rfl
theorem io_non : isIo (some .non) = false := rfl
section
variable {fn fc ff : List Ar → FR} {hs : List Hd} {ns0 : List Int}
theorem run_program (hn : ∀ p, fn [.val (.int p)] = .im (.int (nxt p)) [.val (.int p)]) (hc : ∀ k, 0 ≤ k → fc [.val (.scr ns0), .val (.int k)] = .im (.int (cell ns0 k)) [.val (.scr ns0), .val (.int k)]) (hw : ∀ h ∈ hs, HdOk h) (hl4 : hs.length ≤ 4)
    (hf : ∀ h ∈ hs, ∀ (p : Int) (deep : Nat), deep ≤ 3 → ∃ d, ff [.val (.int p), .val (.int deep), .val (.lst (strsD h.ps)), .val (.lst (strsD (knownOf h))), .val (.lst (hs.map Hd.d))] = .im d [.val (.int p), .val (.int deep), .val (.lst (strsD h.ps)), .val (.lst (strsD (knownOf h))), .val (.lst (hs.map Hd.d))] ∧ GF hs h.ps (knownOf h) (deep + 3) d) :
    ∃ pr, runF 13 (b_law_program fn fc ff) [.val (.scr ns0), .val (.lst (hs.map Hd.d))] = .im (.tup (pr.map Fn.d)) [.val (.scr ns0), .val (.lst (hs.map Hd.d))] ∧ Pr hs pr := by
  have step : ∀ (h : Hd) (i : Nat), hs[i]? = some h → ∀ (L : List D), L.length < 1000 → ∀ (x4 x5 x6 x7 x8 x9 x10 x11 : Sl), nio x4 → nio x5 → nio x6 → nio x7 → nio x8 → nio x9 → nio x10 → nio x11 →
      ∃ (bd : D) (y4 y5 y6 y7 y8 y9 y10 y11 : Sl), GF hs h.ps (knownOf h) 7 bd ∧ nio y4 ∧ nio y5 ∧ nio y6 ∧ nio y7 ∧ nio y8 ∧ nio y9 ∧ nio y10 ∧ nio y11 ∧
        L0_law_program fn fc ff [.val (.scr ns0), .val (.lst (hs.map Hd.d)), .own (.lst L), .val (.int i), x4, x5, x6, x7, x8, x9, x10, x11, .non] = .nx [.val (.scr ns0), .val (.lst (hs.map Hd.d)), .own (.lst (L ++ [Fn.d ⟨h.nm, h.ps, bd⟩])), .val (.int i), y4, y5, y6, y7, y8, y9, y10, y11, .non] := by
    intro h i hi L hL x4 x5 x6 x7 x8 x9 x10 x11 f4 f5 f6 f7 f8 f9 f10 f11
    have mh := List.mem_of_getElem? hi
    obtain ⟨hil, _⟩ := List.getElem?_eq_some_iff.mp hi
    have hat : L2.atI (hs.map Hd.d) (i : Int) = some h.d := by
      rw [atI_nat (by omega) (by simpa using hil) (.non), Int.toNat_natCast, getD_at _ (by simpa using hil)]
      simp [(List.getElem?_eq_some_iff.mp hi).2]
    obtain ⟨wl, pl6⟩ := hw h mh
    have p6 := hc (6 + i) (by omega)
    have p10 := hc 10 (by omega)
    have p11 := hc 11 (by omega)
    generalize cell ns0 (6 + i) = c6 at p6
    generalize cell ns0 10 = c10 at p10
    generalize cell ns0 11 = c11 at p11
    have hn1 := hn (c6 * 977 + i)
    generalize nxt (c6 * 977 + i) = pk at hn1
    have hn2 := hn (pk + 31)
    generalize nxt (pk + 31) = mo at hn2
    have q0 : 0 ≤ (c10.fdiv (i + 1)).fmod 3 := Int.fmod_nonneg_of_pos _ (by omega)
    have q1 : (c10.fdiv (i + 1)).fmod 3 < 3 := Int.fmod_lt_of_pos _ (by omega)
    obtain ⟨dp, hdp⟩ : ∃ dp : Nat, 1 + (c10.fdiv (i + 1)).fmod 3 = dp := ⟨(1 + (c10.fdiv (i + 1)).fmod 3).toNat, by omega⟩
    obtain ⟨b1, e1, g1⟩ := hf h mh pk dp (by omega)
    obtain ⟨b2, e2, g2⟩ := hf h mh mo 2 (by omega)
    have pu1 := g1.pure
    have pu2 := g2.pure
    simp only [Int.cast_ofNat_Int] at e2
    have i1 : ((i : Int) + 1).natAbs < 18446744073709551616 := by omega
    have i2 : (i : Int) + 1 ≠ 0 := by omega
    have lk := known_lc h wl (by omega) fn fc ff (.val (.scr ns0)) (.val (.lst (hs.map Hd.d))) (.own (.lst L)) (.val (.int i)) x4 x5 x6 (.val (.str h.nm)) x10 x11
    have pmm : h.ps.length < 4611686018427387904 := by omega
    have pm2 : h.ps.length ≤ 16777216 := by omega
    have Ll : L.length < 16777216 := by omega
    have sl : (strsD h.ps).length = h.ps.length := by simp
    have hd : h.d = .tup [.str h.nm, .tup (strsD h.ps), .tup (h.wn.map D.bl)] := rfl
    rw [hd] at hat
    generalize hT : strsD h.ps = PS at lk e1 e2 sl hat
    generalize strsD (knownOf h) = KN at lk e1 e2
    generalize h.wn.map D.bl = WN at lk hat
    generalize hs.map Hd.d = HS at lk e1 e2 hat
    simp only [Tg.F] at lk
    by_cases c : 0 < (c11.fdiv (i + 1)).fmod 3 ∧ 0 < h.ps.length
    · obtain ⟨ca, cb⟩ := c
      obtain ⟨s, ms, hs'⟩ := strs_at' h.ps (mo.fmod h.ps.length) (Int.fmod_nonneg_of_pos _ (by omega)) (Int.fmod_lt_of_pos _ (by omega))
      rw [hT] at hs'
      have cb0 : h.ps.length ≠ 0 := by omega
      have pe : h.ps ≠ [] := by intro z; rw [z] at cb; simp at cb
      by_cases t : (mo.fdiv 8).fmod 2 = 1
      · refine ⟨ifF (doF "empty" [nmF s]) b1 b2, .own (.lst KN), .val (.int pk), .val (ifF (doF "empty" [nmF s]) b1 b2), .val (.str h.nm), .val (.tup PS), .val (.tup WN), .val (.int mo), .val (doF "empty" [nmF s]), ?_, rfl, rfl, rfl, rfl, rfl, rfl, rfl, rfl, ?_⟩
        · refine .iff' (.dop (by decide +kernel) (by show takesB _ 1 = true; decide +kernel) fun x m => ?_) (g1.mono (by omega)) (g2.mono (by omega))
          rw [List.mem_singleton.mp m]; exact .nm ms
        · simp only [Fn.d, hT]
          simp [L0_law_program, -isIo, io_val, io_own, io_non, f4, f5, f6, f7, f8, f9, f10, f11, hat, sl, pmm, -lcL, lk, p6, p10, p11, hn1, hn2, i1, i2, hdp, pm2, e1, e2, pu1, pu2, ca, cb, t, hs', cb0, Ll, ifF, doF, nmF, pe]
      · refine ⟨ifF (nmF s) b1 b2, .own (.lst KN), .val (.int pk), .val (ifF (nmF s) b1 b2), .val (.str h.nm), .val (.tup PS), .val (.tup WN), .val (.int mo), .val (nmF s), ?_, rfl, rfl, rfl, rfl, rfl, rfl, rfl, rfl, ?_⟩
        · exact .iff' (.nm ms) (g1.mono (by omega)) (g2.mono (by omega))
        · simp only [Fn.d, hT]
          simp [L0_law_program, -isIo, io_val, io_own, io_non, f4, f5, f6, f7, f8, f9, f10, f11, hat, sl, pmm, -lcL, lk, p6, p10, p11, hn1, hn2, i1, i2, hdp, pm2, e1, e2, pu1, pu2, ca, cb, t, hs', cb0, Ll, ifF, doF, nmF, pe]
    · refine ⟨b1, .own (.lst KN), .val (.int pk), .val b1, .val (.str h.nm), .val (.tup PS), .val (.tup WN), x10, x11, g1.mono (by omega), rfl, rfl, rfl, rfl, rfl, rfl, f10, f11, ?_⟩
      simp only [Fn.d, hT]
      by_cases ca : 0 < (c11.fdiv (i + 1)).fmod 3
      · have cb : ¬ 0 < h.ps.length := fun z => c ⟨ca, z⟩
        have pe : h.ps = [] := by simpa using cb
        have pl0 : h.ps.length = 0 := by simp [pe]
        simp [L0_law_program, -isIo, io_val, io_own, io_non, f4, f5, f6, f7, f8, f9, f10, f11, hat, sl, pmm, -lcL, lk, p6, p10, p11, hn1, hn2, i1, i2, hdp, pm2, e1, e2, pu1, pu2, ca, cb, Ll, ifF, doF, nmF]
      · simp [L0_law_program, -isIo, io_val, io_own, io_non, f4, f5, f6, f7, f8, f9, f10, f11, hat, sl, pmm, -lcL, lk, p6, p10, p11, hn1, hn2, i1, i2, hdp, pm2, e1, e2, pu1, pu2, ca, Ll, ifF, doF, nmF]
  obtain ⟨e', h1, pr, x4, x5, x6, x7, x8, x9, x10, x11, f4, f5, f6, f7, f8, f9, f10, f11, hl, hE, s3, f3, rfl⟩ := forL_nx (TF := Tg.F (.nm 3)) (S := L0_law_program fn fc ff) (fun dn e => ∃ (pr : List Fn) (x4 x5 x6 x7 x8 x9 x10 x11 : Sl), nio x4 ∧ nio x5 ∧ nio x6 ∧ nio x7 ∧ nio x8 ∧ nio x9 ∧ nio x10 ∧ nio x11 ∧ pr.length = dn.length ∧
      (∀ (i : Nat) (f : Fn) (h : Hd), pr[i]? = some f → hs[i]? = some h → f.nm = h.nm ∧ f.ps = h.ps ∧ GF hs h.ps (knownOf h) 7 f.bd) ∧ ∃ s3, nio s3 ∧ e = [.val (.scr ns0), .val (.lst (hs.map Hd.d)), .own (.lst (pr.map Fn.d)), s3, x4, x5, x6, x7, x8, x9, x10, x11, .non]) (rgD 0 hs.length) (fun dn d rest e hall ⟨pr, x4, x5, x6, x7, x8, x9, x10, x11, f4, f5, f6, f7, f8, f9, f10, f11, hl, hE, s3, f3, he⟩ => by
    subst he
    obtain ⟨rfl, hlt⟩ := rgD_at hall
    have hi : hs[dn.length]? = some hs[dn.length] := List.getElem?_eq_getElem hlt
    obtain ⟨bd, y4, y5, y6, y7, y8, y9, y10, y11, G, g4, g5, g6, g7, g8, g9, g10, g11, run⟩ := step _ dn.length hi (pr.map Fn.d) (by simp; omega) x4 x5 x6 x7 x8 x9 x10 x11 f4 f5 f6 f7 f8 f9 f10 f11
    refine ⟨[.val (.scr ns0), .val (.lst (hs.map Hd.d)), .own (.lst (pr.map Fn.d)), .val (.int dn.length), x4, x5, x6, x7, x8, x9, x10, x11, .non], _, ?_, run, pr ++ [⟨hs[dn.length].nm, hs[dn.length].ps, bd⟩], y4, y5, y6, y7, y8, y9, y10, y11, g4, g5, g6, g7, g8, g9, g10, g11, by simp [hl], ?_, .val (.int dn.length), rfl, by simp⟩
    · simp [-isIo, f3]
    · intro i f h hf' hh
      by_cases q : i < pr.length
      · rw [List.getElem?_append_left q] at hf'
        exact hE i f h hf' hh
      · rw [List.getElem?_append_right (by omega)] at hf'
        have : i - pr.length = 0 := by
          rcases Nat.eq_zero_or_pos (i - pr.length) with z | z
          · exact z
          · rw [List.getElem?_eq_none (by simp; omega)] at hf'; cases hf'
        have ei : i = dn.length := by omega
        rw [this] at hf'
        cases hf'
        subst ei
        rw [hi] at hh
        cases hh
        exact ⟨rfl, rfl, G⟩) [.val (.scr ns0), .val (.lst (hs.map Hd.d)), .own (.lst []), .non, .non, .non, .non, .non, .non, .non, .non, .non, .non] ⟨[], .non, .non, .non, .non, .non, .non, .non, .non, rfl, rfl, rfl, rfl, rfl, rfl, rfl, rfl, rfl, by simp, .non, rfl, rfl⟩
  simp only [rgD, List.length_map, List.length_range] at hl
  refine ⟨pr, ?_, hl, hE⟩
  have ma : hs.length < 4611686018427387904 := by omega
  have mb : pr.length ≤ 16777216 := by omega
  simp only [Tg.F] at h1
  simp [b_law_program, ma, -forL, h1, mb]
end
end HFL

set_option Elab.async false
set_option linter.all false
set_option maxRecDepth 100000
set_option maxHeartbeats 4000000
set_option autoImplicit false
namespace HFL
open PySem PySem.Spec PyProof.Rows L2 HF
/-! ### the program's side: names, functions -/
theorem inB_strs (s : Str) (ss : List Str) : D.inB (.str s) (.tup (strsD ss)) = some (decide (s ∈ ss)) := by
  have f : (strsD ss).all D.flat = true := by simp
  have e : (strsD ss).any (fun y => PyData.eqv y.py (.str s)) = decide (s ∈ ss) := by
    induction ss with
    | nil => simp
    | cons t ss ih =>
      have ih := ih (by simp)
      simp only [strsD, List.map_cons, List.any_cons, D.py_str, eqv_str]
      rw [ih]
      by_cases z : t = s
      · subst z; simp
      · have : s ≠ t := fun q => z q.symm
        simp [z, this]
  simp [D.inB, f]
  simpa using e
theorem blsD_map {α : Type} (g : α → Bool) (l : List α) : blsD (l.map fun x => D.bl (g x)) = some (l.map g) := by
  induction l with
  | nil => simp
  | cons x l ih => simp [ih]
theorem inL (c : Nat) : D.inB (.str ⟨#[c]⟩) (.str (Str.ofString "abcdefghijklmnopqrstuvwxyz")) = some (letC c) := by rw [← let_mem]; rfl
theorem inF (c : Nat) : D.inB (.str ⟨#[c]⟩) (.str (Str.ofString "0123456789")) = some (figC c) := by rw [← fig_mem]; rfl
theorem res_iff (s : Str) : (s.cps.toList ∈ resN) ↔ s ∈ OPSL ∨ s = "if" ∨ s = "refuse" := by
  rw [resN, List.mem_append, ← ops_mem]
  have i1 := @str_iff s "if"
  have i2 := @str_iff s "refuse"
  rw [if_cps] at i1
  rw [refuse_cps] at i2
  rw [i1, i2]
  simp
theorem run_is_name (s : Str) (hl : s.length ≤ 16777216) : runF 2 (b_is_name (.int 8) (.str "abcdefghijklmnopqrstuvwxyz") (.tup (strsD OPSL)) (.str "0123456789")) [.val (.str s)] = .im (.bl (isNm s)) [.val (.str s)] := by
  have sl := str_len s
  have sz : s.cps.toList.length = s.cps.size := Array.length_toList
  have io := inB_strs s OPSL
  have om := res_iff s
  have lc := lcL_map (i := 1) (E := E0_is_name (.int 8) (.str "abcdefghijklmnopqrstuvwxyz") (.tup (strsD OPSL)) (.str "0123456789")) (fun d => match d with | .str t => .bl (match t.cps.toList with | [c] => letC c || figC c | _ => false) | _ => .non) (e := [.val (.str s), .non]) rfl (s.cps.toList.map fun c => D.str ⟨#[c]⟩) [] (by simp; rw [← Array.length_toList, ← sl]; exact hl) (fun d m => by
    obtain ⟨c, mc, rfl⟩ := List.mem_map.mp m
    cases h : letC c <;> simp [E0_is_name, -D.inB, inL, inF, h])
  have em : ((s.cps.toList.map fun c => D.str ⟨#[c]⟩).map fun d => match d with | .str t => .bl (match t.cps.toList with | [c] => letC c || figC c | _ => false) | _ => D.non) = s.cps.toList.map fun c => D.bl (letC c || figC c) := by
    rw [List.map_map]
    apply List.map_congr_left
    intro c _
    simp
  rw [em, List.nil_append] at lc
  have bm := blsD_map (fun c => letC c || figC c) s.cps.toList
  have ea : (s.cps.toList.map fun c => letC c || figC c).all id = s.cps.toList.all fun c => letC c || figC c := by simp [List.all_map, Function.comp_def]
  have i1 : (1 : Int) ≤ s.length ↔ 1 ≤ s.length := by omega
  have i8 : (s.length : Int) ≤ 8 ↔ s.length ≤ 8 := by omega
  simp only [Tg.F] at lc
  by_cases h1 : 1 ≤ s.length
  · have h1' : (1 : Int) ≤ s.length := by omega
    by_cases h8 : s.length ≤ 8
    · have h8' : (s.length : Int) ≤ 8 := by omega
      cases hcp : s.cps.toList with
      | nil => rw [hcp] at sl; simp at sl; omega
      | cons c cs =>
        have at0 : L2.atI s.cps.toList 0 = some c := by rw [hcp, atI_nat (by omega) (by simp) 0]; rfl
        cases hc : letC c with
        | false =>
          have : isNm s = false := by simp [isNm, isNmL, hcp, hc]
          rw [this]
          simp [b_is_name, hl, h1', h8', at0, -D.inB, inL, hc]
        | true =>
          by_cases ho : s ∈ OPSL
          · have : isNm s = false := by
              simp only [isNm, isNmL]
              rw [decide_eq_true (om.mpr (.inl ho))]
              simp
            rw [this]
            simp [b_is_name, hl, h1', h8', at0, -D.inB, inL, hc, io, ho]
          by_cases hi : s = "if"
          · have : isNm s = false := by
              simp only [isNm, isNmL]
              rw [decide_eq_true (om.mpr (.inr (.inl hi)))]
              simp
            rw [this]
            have e1 : D.eqB (.str s) (.str "if") = some true := by rw [hi]; simp [D.eqB]
            simp [b_is_name, hl, h1', h8', at0, -D.inB, inL, hc, io, ho, -D.eqB, e1]
          by_cases hr : s = "refuse"
          · have : isNm s = false := by
              simp only [isNm, isNmL]
              rw [decide_eq_true (om.mpr (.inr (.inr hr)))]
              simp
            rw [this]
            have e1 : D.eqB (.str s) (.str "if") = some false := by simp [D.eqB, hi]
            have e2 : D.eqB (.str s) (.str "refuse") = some true := by rw [hr]; simp [D.eqB]
            simp [b_is_name, hl, h1', h8', at0, -D.inB, inL, hc, io, ho, -D.eqB, e1, e2]
          · have : isNm s = s.cps.toList.all fun c => letC c || figC c := by
              have nr : s.cps.toList ∉ resN := fun m => (om.mp m).elim ho fun q => q.elim hi hr
              have l1 : 1 ≤ s.cps.toList.length := by omega
              have l8 : s.cps.toList.length ≤ 8 := by omega
              simp only [isNm, isNmL, decide_eq_true l1, decide_eq_true l8, decide_eq_false nr]
              rw [hcp]
              simp [hc]
            rw [this]
            simp [b_is_name, hl, h1', h8', at0, -D.inB, inL, hc, io, ho, hi, hr, -lcL, lc, bm, ea]
    · have h8' : ¬ (s.length : Int) ≤ 8 := by omega
      have : isNm s = false := by simp [isNm, isNmL]; intro a b; omega
      rw [this]
      simp [b_is_name, hl, h1', h8']
  · have h1' : ¬ (1 : Int) ≤ s.length := by omega
    have : isNm s = false := by simp [isNm, isNmL]; intro a; omega
    rw [this]
    simp [b_is_name, hl, h1']
end HFL

set_option Elab.async false
set_option linter.all false
set_option maxRecDepth 100000
set_option maxHeartbeats 4000000
set_option autoImplicit false
namespace HFL
open PySem PySem.Spec PyProof.Rows L2 HF
/-! ### good forms -/
def gTakes : List Ar → FR := runF 2 (b_takes (.int 8) (.tup (strsD ALOS)))
def gFun : List Ar → FR := runF 3 b_function_of
def gIsV : List Ar → FR := runF 4 (b_is_value (runF 1 (b_is_whole (.int big))) (fun _ => 1001) (.int 50))
def gLeaf : List Ar → FR := runF 2 (b_is_leaf gIsV (.tup (strsD WRDS)))
def gHead : List Ar → FR := runF 3 (b_is_good_head gTakes gFun gLeaf (.tup (strsD OPSL)))
def gParts : List Ar → FR := runF 1 b_parts_of
def gForm : Nat → List Ar → FR := iterF (fun F => runF 5 (b_is_good_form gHead gParts F))
def gName : List Ar → FR := runF 2 (b_is_name (.int 8) (.str "abcdefghijklmnopqrstuvwxyz") (.tup (strsD OPSL)) (.str "0123456789"))
theorem takes_run (o : Str) (n : Nat) : gTakes [.val (.str o), .val (.int n)] = .im (.bl (takesB o n)) [.val (.str o), .val (.int n)] := by
  have io := inB_strs o ALOS
  unfold gTakes
  generalize strsD ALOS = A at io
  have e1 : ((n : Int) = 1) ↔ n = 1 := by omega
  have e2 : ((n : Int) = 2) ↔ n = 2 := by omega
  have e8 : ((n : Int) ≤ 8) ↔ n ≤ 8 := by omega
  by_cases hl : o = "list"
  · subst hl
    have q : D.eqB (.str "list") (.str "list") = some true := by simp [D.eqB]
    simp [b_takes, -D.eqB, q, takesB, e8]
  · have q : D.eqB (.str o) (.str "list") = some false := by simp [D.eqB, hl]
    have q1 : D.eqB (.int n) (.int 1) = some (decide (n = 1)) := by simp [D.eqB, e1]
    have q2 : D.eqB (.int n) (.int 2) = some (decide (n = 2)) := by simp [D.eqB, e2]
    by_cases ha : o ∈ ALOS
    · simp [b_takes, -D.eqB, q, takesB, hl, -D.inB, io, ha, q1]
    · simp [b_takes, -D.eqB, q, takesB, hl, -D.inB, io, ha, q2]
/-- what function_of tells -/
def fnd (pr : List Fn) (s : Str) : Option Fn := pr.find? fun f => decide (f.nm = s)
theorem fun_run (pr : List Fn) (s : Str) : gFun [.val (.tup (pr.map Fn.d)), .val (.str s)] = .im (match fnd pr s with | some f => f.d | none => .non) [.val (.tup (pr.map Fn.d)), .val (.str s)] := by
  have go : ∀ (l : List Fn) (P : Sl) (x : Sl), nio x → ∃ y, forL (tgN 2) L0_function_of (l.map Fn.d) [P, .val (.str s), x] = match fnd l s with
      | some f => .rt (.im f.d) [P, .val (.str s), .val f.d]
      | none => .nx [P, .val (.str s), y] := by
    intro l
    induction l with
    | nil => intro P x _; exact ⟨x, by simp [fnd]⟩
    | cons f l ih =>
      intro P x hx
      obtain ⟨y, hy⟩ := ih P (.val f.d) rfl
      refine ⟨y, ?_⟩
      have a0 : L2.atI [D.str f.nm, D.tup (strsD f.ps), f.bd] 0 = some (.str f.nm) := rfl
      by_cases c : f.nm = s
      · have : fnd (f :: l) s = some f := by simp [fnd, c]
        rw [this]
        have q : D.eqB (.str f.nm) (.str s) = some true := by rw [c]; simp [D.eqB]
        simp [-isIo, hx, L0_function_of, Fn.d, a0, -D.eqB, q]
      · have : fnd (f :: l) s = fnd l s := by simp [fnd, c]
        rw [this, ← hy]
        have q : D.eqB (.str f.nm) (.str s) = some false := by simp [D.eqB, c]
        simp [-isIo, hx, L0_function_of, Fn.d, a0, -D.eqB, q]
  obtain ⟨y, hy⟩ := go pr (.val (.tup (pr.map Fn.d))) .non rfl
  unfold gFun
  cases h : fnd pr s with
  | none => rw [h] at hy; simp [b_function_of, -forL, hy]
  | some f => rw [h] at hy; simp [b_function_of, -forL, hy]
def okV (v : D) : Bool := good v && decide (v.wt ≤ 50)
theorem isv_run (v : D) (h : thg v = true) (hw : v.wt ≤ 1000) : gIsV [.val v] = .im (.bl (okV v)) [.val v] := run_is_value _ run_is_whole v _ h (fun _ => rfl) hw
/-- is_good_head -/
def HB (pr : List Fn) (ns : List Str) (d : D) (b : Bool) : Prop := gHead [.val (.tup (pr.map Fn.d)), .val d, .val (.tup (strsD ns))] = .im (.bl b) [.val (.tup (pr.map Fn.d)), .val d, .val (.tup (strsD ns))]
section
variable (pr : List Fn) (ns : List Str)
theorem hb_val {v : D} (h : thg v = true) (hw : v.wt ≤ 1000) : HB pr ns (valF v) (okV v) := by
  have q := isv_run v h hw
  simp only [HB, gHead, gLeaf, valF]
  generalize gIsV = g at q
  simp +decide [b_is_good_head, b_is_leaf, L2.atI, L2.ixN, q]
theorem hb_nm (s : Str) : HB pr ns (nmF s) (decide (s ∈ ns)) := by
  have q := inB_strs s ns
  simp only [HB, gHead, gLeaf, nmF]
  generalize strsD ns = S at q
  simp +decide [b_is_good_head, b_is_leaf, L2.atI, L2.ixN, -D.inB, q]
theorem hb_rf (s : Str) : HB pr ns (rfF s) (decide (s ∈ WRDS)) := by
  have q := inB_strs s WRDS
  simp only [HB, gHead, gLeaf, rfF]
  generalize strsD WRDS = S at q
  simp +decide [b_is_good_head, b_is_leaf, L2.atI, L2.ixN, -D.inB, q]
theorem hb_if (l : List D) : HB pr ns (.tup (.str "if" :: l)) (decide (l.length = 3)) := by
  simp only [HB, gHead]
  have a0 : L2.atI (D.str "if" :: l) 0 = some (.str "if") := by rw [atI_nat (by omega) (by simp) .non]; rfl
  have e : ((l.length : Int) + 1 = 4) ↔ l.length = 3 := by omega
  simp [b_is_good_head, a0, e]
theorem hb_do (o : Str) (l : List D) : HB pr ns (doF o l) (decide (o ∈ OPSL) && takesB o l.length) := by
  have q := inB_strs o OPSL
  have t := takes_run o l.length
  simp only [HB, gHead, doF]
  generalize strsD OPSL = S at q
  generalize gTakes = g at t
  by_cases c : o ∈ OPSL <;> simp +decide [b_is_good_head, L2.atI, L2.ixN, -D.inB, q, t, c]
theorem hb_cl (f : Str) (l : List D) : HB pr ns (clF f l) (match fnd pr f with | some g => decide (g.ps.length = l.length) | none => false) := by
  have t := fun_run pr f
  simp only [HB, gHead, clF]
  generalize gFun = g at t
  cases h : fnd pr f with
  | none =>
    rw [h] at t
    simp +decide [b_is_good_head, L2.atI, L2.ixN, t]
  | some u =>
    rw [h] at t
    simp only at t
    have e : ((u.ps.length : Int) = l.length) ↔ u.ps.length = l.length := by omega
    simp +decide [b_is_good_head, L2.atI, L2.ixN, t, Fn.d, e]
theorem hb_stop : HB pr ns (.tup [.str "stop", .int 1]) false := by
  simp only [HB, gHead, gLeaf]
  simp +decide [b_is_good_head, b_is_leaf, L2.atI, L2.ixN]
theorem hb_v11 : HB pr ns (.tup [.str "value", .int 1, .int 1]) false := by
  simp only [HB, gHead, gLeaf]
  simp +decide [b_is_good_head, b_is_leaf, L2.atI, L2.ixN]
end
/-! is_good_form -/
def EvF (pr : List Fn) (ns : List Str) (m : Nat) (d : D) (b : Bool) : Prop := ∀ j, m < j → gForm j [.val (.tup (pr.map Fn.d)), .val d, .val (.tup (strsD ns)), .val (.int m)] = .im (.bl b) [.val (.tup (pr.map Fn.d)), .val d, .val (.tup (strsD ns)), .val (.int m)]
def PO (d : D) (l : List D) : Prop := gParts [.val d] = .fr (.lst l) [.val d]
theorem po_leaf {d : D} (h : (∃ v, d = valF v) ∨ (∃ s, d = nmF s) ∨ (∃ s, d = rfF s)) : PO d [] := by
  rcases h with ⟨v, rfl⟩ | ⟨s, rfl⟩ | ⟨s, rfl⟩ <;> simp +decide [PO, gParts, b_parts_of, valF, nmF, rfF, L2.atI, L2.ixN]
theorem po_if (a b c : D) : PO (ifF a b c) [a, b, c] := by
  have q : cutL [D.str "if", a, b, c] (some 1) none = [a, b, c] := by rw [cutL_lo _ (by omega) (by simp)]; rfl
  simp [PO, gParts, b_parts_of, ifF, L2.atI, L2.ixN, q]
theorem po_do (o : Str) (l : List D) (hl : l.length ≤ 16777216) : PO (doF o l) l := by
  simp +decide [PO, gParts, b_parts_of, doF, L2.atI, L2.ixN, hl]
theorem po_cl (o : Str) (l : List D) (hl : l.length ≤ 16777216) : PO (clF o l) l := by
  simp +decide [PO, gParts, b_parts_of, clF, L2.atI, L2.ixN, hl]
section
variable {pr : List Fn} {ns : List Str}
theorem ev_zero (d : D) : EvF pr ns 0 d false := by
  intro j hj
  obtain ⟨k, rfl⟩ : ∃ k, j = k + 1 := ⟨j - 1, by omega⟩
  simp only [gForm, iterF]
  generalize iterF (fun F => runF 5 (b_is_good_form gHead gParts F)) k = F
  simp [b_is_good_form]
theorem ev_bad {d : D} (h : HB pr ns d false) (m : Nat) : EvF pr ns m d false := by
  intro j hj
  obtain ⟨k, rfl⟩ : ∃ k, j = k + 1 := ⟨j - 1, by omega⟩
  simp only [gForm, iterF]
  generalize iterF (fun F => runF 5 (b_is_good_form gHead gParts F)) k = F
  simp only [HB] at h
  generalize D.tup (List.map Fn.d pr) = P at h
  generalize D.tup (strsD ns) = S at h
  generalize gHead = g at h
  by_cases c : m = 0
  · simp [b_is_good_form, c]
  · have c' : (m : Int) ≠ 0 := by omega
    simp [b_is_good_form, c, h]
theorem ev_step {d : D} {l : List D} (h : HB pr ns d true) (hp : PO d l) (hl : l.length ≤ 1000) (m : Nat) (g : D → Bool) (he : ∀ x ∈ l, EvF pr ns m x (g x)) : EvF pr ns (m + 1) d (l.all g) := by
  intro j hj
  obtain ⟨k, rfl⟩ : ∃ k, j = k + 1 := ⟨j - 1, by omega⟩
  have he' := fun x mx => he x mx k (by omega)
  simp only [gForm, iterF] at he' ⊢
  generalize iterF (fun F => runF 5 (b_is_good_form gHead gParts F)) k = F at he'
  simp only [HB, PO] at h hp
  generalize D.tup (List.map Fn.d pr) = P at h he'
  generalize D.tup (strsD ns) = S at h he'
  generalize gHead = gh at h
  generalize gParts = gp at hp
  have lc := lcL_map (i := 4) (E := E0_is_good_form gh gp F) (fun x => .bl (g x)) (e := [.val P, .val d, .val S, .val (.int (m + 1 : Nat)), .non]) rfl l [] (by simp; omega) (fun x mx => by
    have q := he' x mx
    have e : ((m + 1 : Nat) : Int) - 1 = m := by omega
    generalize ((m + 1 : Nat) : Int) = m1 at e ⊢
    simp [E0_is_good_form, e, q])
  have bm := blsD_map g l
  have c : ¬ (((m + 1 : Nat) : Int) = 0) := by omega
  generalize ((m + 1 : Nat) : Int) = m1 at c lc ⊢
  simp only [Tg.F, List.nil_append] at lc
  have ea : (List.map g l).all id = l.all g := by simp [List.all_map, Function.comp_def]
  simp [b_is_good_form, c, h, hp, -lcL, lc, bm]
end
end HFL

set_option Elab.async false
set_option linter.all false
set_option maxRecDepth 100000
set_option maxHeartbeats 4000000
set_option autoImplicit false
namespace HFL
open PySem PySem.Spec PyProof.Rows L2 HF
theorem takes_le {o : Str} {n : Nat} (h : takesB o n = true) : n ≤ 8 := by
  unfold takesB at h
  split at h
  · simpa using h
  · split at h <;> (simp at h; omega)
/-- the head of a form that the law made, and its parts -/
theorem gf_head {hs : List Hd} {names known : List Str} {n : Nat} {d : D} (G : GF hs names known (n + 1) d) (hw : ∀ h ∈ hs, HdOk h) (pr : List Fn) (ns : List Str) : ∃ b l, HB pr ns d b ∧ PO d l ∧ l.length ≤ 8 ∧ (∀ x ∈ l, GF hs names known n x) ∧
    ((∀ h ∈ hs, ∃ f, fnd pr h.nm = some f ∧ f.ps.length = h.ps.length) → ns = names → b = true) := by
  rcases G with ⟨v, V, rfl⟩ | ⟨s, ms, rfl⟩ | ⟨s, ms, rfl⟩ | ⟨a, b, c, rfl, ha, hb, hc⟩ | ⟨o, l, ho, ht, rfl, hl⟩ | ⟨h, mh, l, rfl, hn, hl, htm⟩
  · exact ⟨_, [], hb_val pr ns V.th (by have := V.wt; omega), po_leaf (.inl ⟨v, rfl⟩), by simp, by simp, fun _ _ => by simp [okV, V.gd, V.wt]⟩
  · exact ⟨_, [], hb_nm pr ns s, po_leaf (.inr (.inl ⟨s, rfl⟩)), by simp, by simp, fun _ e => by rw [e]; simpa using ms⟩
  · exact ⟨_, [], hb_rf pr ns s, po_leaf (.inr (.inr ⟨s, rfl⟩)), by simp, by simp, fun _ _ => by simpa using ms⟩
  · refine ⟨_, [a, b, c], hb_if pr ns [a, b, c], po_if a b c, by simp, fun x m => ?_, fun _ _ => by simp⟩
    simp only [List.mem_cons, List.not_mem_nil, or_false] at m
    rcases m with rfl | rfl | rfl <;> assumption
  · have := takes_le ht
    exact ⟨_, l, hb_do pr ns o l, po_do o l (by omega), this, hl, fun _ _ => by simp [ho, ht]⟩
  · have := (hw h mh).pl
    refine ⟨_, l, hb_cl pr ns h.nm l, po_cl h.nm l (by omega), by omega, hl, fun q _ => ?_⟩
    obtain ⟨f, e, k⟩ := q h mh
    rw [e]
    simp [k, hn]
theorem ev_any {hs : List Hd} {names known : List Str} (hw : ∀ h ∈ hs, HdOk h) (pr : List Fn) (ns : List Str) : ∀ (n : Nat) (d : D), GF hs names known n d → ∀ m, ∃ b, EvF pr ns m d b
  | n + 1, d, G, 0 => ⟨false, ev_zero d⟩
  | n + 1, d, G, m + 1 => by
    obtain ⟨b, l, h1, h2, h3, h4, _⟩ := gf_head G hw pr ns
    cases b with
    | false => exact ⟨false, ev_bad h1 _⟩
    | true =>
      classical
      refine ⟨_, ev_step h1 h2 (by omega) m (fun x => decide (EvF pr ns m x true)) fun x mx => ?_⟩
      obtain ⟨b, hb⟩ := ev_any hw pr ns n x (h4 x mx) m
      by_cases c : EvF pr ns m x true
      · simpa [c] using c
      · cases b with
        | true => exact absurd hb c
        | false => simpa [c] using hb
theorem ev_true {hs : List Hd} {names known : List Str} (hw : ∀ h ∈ hs, HdOk h) (pr : List Fn) (hp : ∀ h ∈ hs, ∃ f, fnd pr h.nm = some f ∧ f.ps.length = h.ps.length) : ∀ (n : Nat) (d : D), GF hs names known n d → ∀ m, n ≤ m → EvF pr names m d true
  | n + 1, d, G, m + 1, hm => by
    obtain ⟨b, l, h1, h2, h3, h4, h5⟩ := gf_head G hw pr names
    rw [h5 hp rfl] at h1
    have := ev_step h1 h2 (by omega) m (fun _ => true) fun x mx => ev_true hw pr hp n x (h4 x mx) m (by omega)
    rwa [List.all_eq_true.mpr (fun _ _ => rfl)] at this
/-! ### is_good -/
def gGood (j : Nat) : List Ar → FR := runF 7 (b_is_good gName (gForm j) (.int 6) (.int 20))
def fnB (g : Fn → Bool) (f : Fn) : Bool := isNm f.nm && decide (f.ps.length ≤ 6) && decide f.ps.Nodup && f.ps.all isNm && g f
def goodP (g : Fn → Bool) (pr : List Fn) : Bool := decide (pr ≠ []) && decide (pr.map Fn.nm).Nodup && pr.all (fnB g)
theorem ones_lt (xs : List Str) : decide ((onesOf [] xs).length < xs.length) = !decide xs.Nodup := by
  by_cases h : xs.Nodup
  · have : onesOf [] xs = xs := by have := onesOf_nodup xs [] (by simpa using h); simpa using this
    simp [h, this]
  · simp [h, onesOf_lt h]
structure Txt (s : Str) : Prop where
  ok : PyData.strOk s = true
  len : s.length ≤ 16777216
theorem isNm_txt {s : Str} (h : isNm s = true) : Txt s where
  ok := isNm_ok h
  len := by
    simp only [isNm, isNmL, Bool.and_eq_true, decide_eq_true_eq] at h
    have := str_len s
    omega
structure FnOk' (f : Fn) : Prop where
  nm : Txt f.nm
  ps : ∀ s ∈ f.ps, Txt s
  len : f.ps.length < 1000
section
variable {pr : List Fn} {j : Nat}
theorem name_run (s : Str) (h : Txt s) : gName [.val (.str s)] = .im (.bl (isNm s)) [.val (.str s)] := run_is_name s h.len
theorem good_loop (hj : 20 < j) (g : Fn → Bool) (A : Sl) (B : Sl) : ∀ (l : List Fn), (∀ f ∈ l, FnOk' f ∧ EvF pr f.ps 20 f.bd (g f)) → ∀ (x y z u v : Sl), nio x → nio y → nio z → A = .val (.tup (pr.map Fn.d)) →
    ∃ e', forL (tgT [2, 3, 4]) (L0_is_good gName (gForm j) (.int 6) (.int 20)) (l.map Fn.d) [A, B, x, y, z, u, .non] = if l.all (fnB g) = true then .nx e' else .rt (.im (.bl false)) e' := by
  intro l
  induction l with
  | nil => intro _ x y z u v _ _ _ _; exact ⟨_, by simp; rfl⟩
  | cons f l ih =>
    intro hl x y z u v hx hy hz hA
    obtain ⟨F, E⟩ := hl f (by simp)
    obtain ⟨e', he⟩ := ih (fun f m => hl f (by simp [m])) (.val (.str f.nm)) (.val (.tup (strsD f.ps))) (.val f.bd) u v rfl rfl rfl hA
    have hn := name_run f.nm F.nm
    have hf := E j hj
    simp only [Int.cast_ofNat_Int] at hf
    subst hA
    have lc := lcL_map (i := 6) (E := E1_is_good gName (gForm j) (.int 6) (.int 20)) (fun d => match d with | .str s => .bl (isNm s) | _ => .non) (e := [.val (.tup (pr.map Fn.d)), B, .val (.str f.nm), .val (.tup (strsD f.ps)), .val f.bd, u, .non]) rfl (strsD f.ps) [] (by simp; have := F.len; omega) (fun d m => by
      obtain ⟨s, ms, rfl⟩ := List.mem_map.mp m
      have q := name_run s (F.ps s ms)
      generalize gName = gn at q
      simp [E1_is_good, q])
    have em : ((strsD f.ps).map fun d => match d with | .str s => .bl (isNm s) | _ => D.non) = f.ps.map fun s => D.bl (isNm s) := by
      rw [List.map_map]; rfl
    rw [em, List.nil_append] at lc
    have bm := blsD_map isNm f.ps
    have tx : textsD (strsD f.ps) = some f.ps := textsD_map f.ps
    have ol := ones_lt f.ps
    have pl := F.len
    have sl : (strsD f.ps).length = f.ps.length := by simp
    generalize hS : strsD f.ps = S at lc tx hf he sl
    generalize gName = gn at lc hn he
    generalize gForm j = gf at lc hf he
    generalize D.tup (pr.map Fn.d) = P at lc hf he
    simp only [Tg.F] at lc
    have ea : (List.map isNm f.ps).all id = f.ps.all isNm := by simp [List.all_map, Function.comp_def]
    have fb : fnB g f = (isNm f.nm && decide (f.ps.length ≤ 6) && decide f.ps.Nodup && f.ps.all isNm && g f) := rfl
    have al : (f :: l).all (fnB g) = (fnB g f && l.all (fnB g)) := rfl
    rw [al, fb]
    rw [List.map_cons, Fn.d]
    rw [hS]
    generalize isNm f.nm = b1 at hn
    generalize f.ps.all isNm = b4 at ea
    generalize g f = b5 at hf
    have l6 : ((6 : Int) < f.ps.length) ↔ ¬ f.ps.length ≤ 6 := by omega
    cases b1 with
    | false => exact ⟨_, by simp [-isIo, hx, hy, hz, L0_is_good, hn]; rfl⟩
    | true =>
      by_cases q6 : f.ps.length ≤ 6
      · have q6' : ¬ (6 : Int) < f.ps.length := by omega
        by_cases nd : f.ps.Nodup
        · have ol' : ¬ (onesOf [] f.ps).length < f.ps.length := by simpa [nd] using ol
          cases b4 with
          | false => exact ⟨_, by simp [-isIo, hx, hy, hz, L0_is_good, hn, sl, q6', tx, pl, ol', -lcL, lc, bm, -List.all_map, ea]; rfl⟩
          | true =>
            cases b5 with
            | false => exact ⟨_, by simp [-isIo, hx, hy, hz, L0_is_good, hn, sl, q6', tx, pl, ol', -lcL, lc, bm, -List.all_map, ea, hf]; rfl⟩
            | true =>
              refine ⟨e', ?_⟩
              simp only [q6, nd, decide_true, Bool.and_true, Bool.true_and]
              rw [← he]
              have hs : L0_is_good gn gf (.int 6) (.int 20) [.val P, B, .val (.str f.nm), .val (.tup S), .val f.bd, u, .non] = .nx [.val P, B, .val (.str f.nm), .val (.tup S), .val f.bd, u, .non] := by
                simp [-isIo, L0_is_good, hn, sl, q6', tx, pl, ol', -lcL, lc, bm, -List.all_map, ea, hf]
              generalize L0_is_good gn gf (.int 6) (.int 20) = LL at hs
              simp [-isIo, hx, hy, hz, hs]
        · have ol' : (onesOf [] f.ps).length < f.ps.length := by simpa [nd] using ol
          exact ⟨_, by simp [-isIo, hx, hy, hz, L0_is_good, hn, sl, q6', tx, pl, ol', nd]; rfl⟩
      · have q6' : (6 : Int) < f.ps.length := by omega
        exact ⟨_, by simp [-isIo, hx, hy, hz, L0_is_good, hn, sl, q6', q6]; rfl⟩
theorem good_run (hj : 20 < j) (g : Fn → Bool) (hl : pr.length < 1000) (h : ∀ f ∈ pr, FnOk' f ∧ EvF pr f.ps 20 f.bd (g f)) : gGood j [.val (.tup (pr.map Fn.d))] = .im (.bl (goodP g pr)) [.val (.tup (pr.map Fn.d))] := by
  obtain ⟨e', he⟩ := good_loop (pr := pr) hj g (.val (.tup (pr.map Fn.d))) (.own (.lst (strsD (pr.map Fn.nm)))) pr h .non .non .non .non .non rfl rfl rfl rfl
  have lc := lcL_map (i := 5) (E := E0_is_good gName (gForm j) (.int 6) (.int 20)) (fun d => match d with | .tup (a :: _) => a | _ => .non) (e := [.val (.tup (pr.map Fn.d)), .non, .non, .non, .non, .non, .non]) rfl (pr.map Fn.d) [] (by simp; omega) (fun d m => by
    obtain ⟨f, mf, rfl⟩ := List.mem_map.mp m
    have a0 : L2.atI [D.str f.nm, D.tup (strsD f.ps), f.bd] 0 = some (.str f.nm) := rfl
    simp [E0_is_good, Fn.d, a0])
  have em : ((pr.map Fn.d).map fun d => match d with | .tup (a :: _) => a | _ => D.non) = strsD (pr.map Fn.nm) := by
    simp only [strsD, List.map_map]; rfl
  rw [em, List.nil_append] at lc
  have hpl : D.plL (strsD (pr.map Fn.nm)) := D.plL_of fun d m => by
    simp only [strsD, List.mem_map] at m
    obtain ⟨s, ⟨f, mf, rfl⟩, rfl⟩ := m
    have := (h f mf).1.nm.ok
    simpa [D.pl] using this
  have tx : textsD (strsD (pr.map Fn.nm)) = some (pr.map Fn.nm) := textsD_map (pr.map Fn.nm)
  have ol := ones_lt (pr.map Fn.nm)
  have ll : (pr.map Fn.nm).length = pr.length := by simp
  have sl : (strsD (pr.map Fn.nm)).length = pr.length := by simp
  have nl : strsD (pr.map Fn.nm) = [] ↔ pr = [] := by simp
  unfold gGood
  generalize gName = gn at lc he
  generalize gForm j = gf at lc he
  unfold goodP
  simp only [Tg.F] at lc he
  generalize pr.map Fn.nm = N at lc he hpl tx ol ll sl nl
  generalize pr.map Fn.d = PD at lc he
  by_cases p0 : pr = []
  · have : strsD N = [] := nl.mpr p0
    simp only [this] at lc he hpl tx
    simp [b_is_good, -lcL, lc, -D.eqB, eqB_nn, p0]
  · have n0 : strsD N ≠ [] := fun z => p0 (nl.mp z)
    have lt : (onesOf [] N).length < N.length ↔ ¬ N.Nodup := by
      by_cases c : N.Nodup <;> simpa [c] using ol
    have eb := D.eqB_nil hpl
    simp only [n0, decide_false] at eb
    generalize strsD N = SN at lc he eb tx sl
    by_cases nd : N.Nodup
    · have lt' : ¬ (onesOf [] N).length < pr.length := by rw [← ll]; rw [lt]; simp [nd]
      have l1 : N.length < 1000 := by omega
      by_cases c : pr.all (fnB g) = true
      · rw [if_pos c] at he
        simp [b_is_good, -lcL, lc, -D.eqB, eb, tx, ll, hl, sl, lt', -forL, he, p0, nd, c]
      · rw [if_neg c] at he
        have c' : pr.all (fnB g) = false := by simpa using c
        simp [b_is_good, -lcL, lc, -D.eqB, eb, tx, ll, hl, sl, lt', -forL, he, p0, nd, c', -List.all_eq_false]
    · have lt' : (onesOf [] N).length < pr.length := by rw [← ll]; rw [lt]; exact nd
      simp [b_is_good, -lcL, lc, -D.eqB, eb, tx, ll, hl, sl, lt', nd]
end
end HFL

set_option Elab.async false
set_option linter.all false
set_option maxRecDepth 100000
set_option maxHeartbeats 4000000
set_option autoImplicit false
namespace HFL
open PySem PySem.Spec PyProof.Rows L2 HF
/-! ### the number of forms in a form, and another one put at a place -/
def hOf : Nat → List Ar → FR := iterF (fun F => runF 4 (b_law_heads_of F))
/-- so many forms are in d -/
def HO (n : Nat) (d : D) (s : Nat) : Prop := ∀ j, n ≤ j → ∃ L, hOf j [.val d] = .fr (.lst L) [.val d] ∧ L.length = s ∧ D.pureL L = true
theorem HO.same {n n' s s' : Nat} {d : D} (h : HO n d s) (h' : HO n' d s') : s = s' := by
  obtain ⟨L, e, l, _⟩ := h (max n n') (by omega)
  obtain ⟨L', e', l', _⟩ := h' (max n n') (by omega)
  rw [e] at e'
  cases e'
  omega
theorem HO.up {n m s : Nat} {d : D} (h : HO n d s) (hm : n ≤ m) : HO m d s := fun j hj => h j (by omega)
/-- what _law_heads_of goes through -/
inductive Shp : D → List D → Prop
  | leaf (h : Str) (v : D) : h ≠ "if" → h ≠ "do" → h ≠ "call" → Shp (.tup [.str h, v]) []
  | iff (a b c : D) : Shp (ifF a b c) [a, b, c]
  | dop (o : Str) (l : List D) : Shp (doF o l) l
  | cl (o : Str) (l : List D) : Shp (clF o l) l
theorem gf_shp {hs : List Hd} {names known : List Str} {n : Nat} {d : D} (G : GF hs names known (n + 1) d) (hw : ∀ h ∈ hs, HdOk h) : ∃ l, Shp d l ∧ l.length ≤ 8 ∧ ∀ x ∈ l, GF hs names known n x := by
  rcases G with ⟨v, V, rfl⟩ | ⟨s, ms, rfl⟩ | ⟨s, ms, rfl⟩ | ⟨a, b, c, rfl, ha, hb, hc⟩ | ⟨o, l, ho, ht, rfl, hl⟩ | ⟨h, mh, l, rfl, hn, hl, htm⟩
  · exact ⟨[], .leaf _ _ (by decide +kernel) (by decide +kernel) (by decide +kernel), by simp, by simp⟩
  · exact ⟨[], .leaf _ _ (by decide +kernel) (by decide +kernel) (by decide +kernel), by simp, by simp⟩
  · exact ⟨[], .leaf _ _ (by decide +kernel) (by decide +kernel) (by decide +kernel), by simp, by simp⟩
  · refine ⟨[a, b, c], .iff a b c, by simp, fun x m => ?_⟩
    simp only [List.mem_cons, List.not_mem_nil, or_false] at m
    rcases m with rfl | rfl | rfl <;> assumption
  · exact ⟨l, .dop o l, takes_le ht, hl⟩
  · exact ⟨l, .cl _ l, by have := (hw h mh).pl; omega, hl⟩
def sumN : List Nat → Nat
  | [] => 0
  | a :: l => a + sumN l
theorem ho_step {n : Nat} {d : D} {l : List D} (S : Shp d l) (hd : d.pure = true) (g : D → Nat) (h : ∀ x ∈ l, HO n x (g x)) (hs : 1 + sumN (l.map g) ≤ 16777216) : HO (n + 1) d (1 + sumN (l.map g)) := by
  intro j hj
  obtain ⟨k, rfl⟩ : ∃ k, j = k + 1 := ⟨j - 1, by omega⟩
  have h' := fun x mx => h x mx k (by omega)
  simp only [hOf, iterF] at h' ⊢
  generalize iterF (fun F => runF 4 (b_law_heads_of F)) k = F at h'
  have loop : ∀ (l : List D) (acc : List D) (A B x : Sl), nio x → D.pureL acc = true → acc.length + sumN (l.map g) ≤ 16777216 → (∀ x ∈ l, ∃ L, F [.val x] = .fr (.lst L) [.val x] ∧ L.length = g x ∧ D.pureL L = true) →
      ∃ L y, forL (tgN 3) (L0_law_heads_of F) l [A, .own (.lst acc), B, x] = .nx [A, .own (.lst L), B, y] ∧ L.length = acc.length + sumN (l.map g) ∧ D.pureL L = true := by
    intro l
    induction l with
    | nil => intro acc A B x hx hp _ _; exact ⟨acc, x, by simp, by simp [sumN], hp⟩
    | cons z l ih =>
      intro acc A B x hx hp hle hl
      obtain ⟨Lz, ez, lz, pz⟩ := hl z (by simp)
      simp only [List.map_cons, sumN] at hle ⊢
      have pa : D.pureL (acc ++ Lz) = true := pureL_of fun d m => by
        rcases List.mem_append.mp m with q | q
        · exact pureL_mem hp q
        · exact pureL_mem pz q
      obtain ⟨L, y, eL, lL, pL⟩ := ih (acc ++ Lz) A B (.val z) rfl pa (by simp; omega) (fun x m => hl x (by simp [m]))
      refine ⟨L, y, ?_, by rw [lL]; simp; omega, pL⟩
      rw [← eL]
      have al : acc.length + Lz.length ≤ 16777216 := by omega
      have hstep : L0_law_heads_of F [A, .own (.lst acc), B, .val z] = .nx [A, .own (.lst (acc ++ Lz)), B, .val z] := by
        simp [L0_law_heads_of, ez, al]
      generalize L0_law_heads_of F = LL at hstep
      simp [-isIo, hx, hstep]
  have lp := loop l [d] (.val d)
  cases S with
  | leaf hh v h1 h2 h3 =>
    refine ⟨[.tup [.str hh, v]], ?_, by simp [sumN], by simpa using hd⟩
    have e1 : D.eqB (.str hh) (.str "if") = some false := by simp [D.eqB, h1]
    have e2 : D.inB (.str hh) (.tup [.str "do", .str "call"]) = some false := by
      have := inB_strs hh ["do", "call"]
      simpa [h2, h3] using this
    simp [b_law_heads_of, L2.atI, L2.ixN, -D.eqB, e1, -D.inB, e2]
  | iff a b c =>
    obtain ⟨L, y, eL, lL, pL⟩ := lp (.val (.tup [a, b, c])) .non rfl (by simpa using hd) (by simpa using hs) h'
    refine ⟨L, ?_, by rw [lL]; simp, pL⟩
    have q : cutL [D.str "if", a, b, c] (some 1) none = [a, b, c] := by rw [cutL_lo _ (by omega) (by simp)]; rfl
    have e2 : D.inB (.str "if") (.tup [.str "do", .str "call"]) = some false := by
      have := inB_strs "if" ["do", "call"]
      exact this.trans (by simp +decide)
    simp only [ifF] at eL ⊢
    simp [b_law_heads_of, L2.atI, L2.ixN, q, -D.inB, e2, -forL, eL]
  | dop o l =>
    obtain ⟨L, y, eL, lL, pL⟩ := lp (.val (.tup l)) .non rfl (by simpa using hd) (by simpa using hs) h'
    refine ⟨L, ?_, by rw [lL]; simp, pL⟩
    have e1 : D.eqB (.str "do") (.str "if") = some false := by simp +decide [D.eqB]
    have e2 : D.inB (.str "do") (.tup [.str "do", .str "call"]) = some true := by
      have := inB_strs "do" ["do", "call"]
      exact this.trans (by simp)
    simp only [doF] at eL ⊢
    simp [b_law_heads_of, L2.atI, L2.ixN, -D.eqB, e1, -D.inB, e2, -forL, eL]
  | cl o l =>
    obtain ⟨L, y, eL, lL, pL⟩ := lp (.val (.tup l)) .non rfl (by simpa using hd) (by simpa using hs) h'
    refine ⟨L, ?_, by rw [lL]; simp, pL⟩
    have e1 : D.eqB (.str "call") (.str "if") = some false := by simp +decide [D.eqB]
    have e2 : D.inB (.str "call") (.tup [.str "do", .str "call"]) = some true := by
      have := inB_strs "call" ["do", "call"]
      exact this.trans (by simp)
    simp only [clF] at eL ⊢
    simp [b_law_heads_of, L2.atI, L2.ixN, -D.eqB, e1, -D.inB, e2, -forL, eL]
theorem sumN_le {l : List D} {g : D → Nat} {b : Nat} (h : ∀ x ∈ l, g x ≤ b) : sumN (l.map g) ≤ l.length * b := by
  induction l with
  | nil => simp [sumN]
  | cons x l ih =>
    have := h x (by simp)
    have := ih fun y m => h y (by simp [m])
    simp only [List.map_cons, sumN, List.length_cons, Nat.succ_mul]
    omega
theorem ho_gf {hs : List Hd} {names known : List Str} (hw : ∀ h ∈ hs, HdOk h) : ∀ (n : Nat) (d : D), n ≤ 7 → GF hs names known n d → ∃ s, HO n d s ∧ 1 ≤ s ∧ s ≤ 9 ^ n
  | n + 1, d, hn, G => by
    obtain ⟨l, S, l8, hl⟩ := gf_shp G hw
    classical
    have ih := fun x mx => ho_gf hw n x (by omega) (hl x mx)
    let g : D → Nat := fun x => if h : ∃ s, HO n x s ∧ 1 ≤ s ∧ s ≤ 9 ^ n then h.choose else 0
    have hg : ∀ x ∈ l, HO n x (g x) ∧ g x ≤ 9 ^ n := fun x mx => by
      simp only [g, dif_pos (ih x mx)]
      exact ⟨(ih x mx).choose_spec.1, (ih x mx).choose_spec.2.2⟩
    have b1 := sumN_le (l := l) (g := g) fun x mx => (hg x mx).2
    have b2 : l.length * 9 ^ n ≤ 8 * 9 ^ n := Nat.mul_le_mul_right _ l8
    have b3 : 1 ≤ 9 ^ n := Nat.pow_pos (by omega)
    have b4 : 9 ^ n ≤ 9 ^ 6 := Nat.pow_le_pow_right (by omega) (by omega)
    have b5 : (9 : Nat) ^ 6 = 531441 := by decide
    have b6 : 9 ^ (n + 1) = 9 * 9 ^ n := by rw [Nat.pow_succ]; omega
    exact ⟨_, ho_step S G.pure g (fun x mx => (hg x mx).1) (by omega), by omega, by omega⟩
end HFL

set_option Elab.async false
set_option linter.all false
set_option maxRecDepth 100000
set_option maxHeartbeats 4000000
set_option autoImplicit false
namespace HFL
open PySem PySem.Spec PyProof.Rows L2 HF
theorem rgD_cons (lo : Int) (n : Nat) : rgD lo (n + 1) = .int lo :: rgD (lo + 1) n := by
  simp only [rgD, List.range_succ_eq_map, List.map_cons, List.map_map]
  refine List.cons_eq_cons.mpr ⟨by simp, List.map_congr_left fun i _ => ?_⟩
  simp only [Function.comp]
  congr 1
  push_cast
  omega
def pOf (hf : List Ar → FR) : Nat → List Ar → FR := iterF (fun F => runF 6 (b_law_put hf F))
section
variable {hf F : List Ar → FR} {g : D → Nat}
theorem scan_neg (O : D) (A : Sl) : ∀ (rest pre : List D) (t : Int) (x y : Sl), t < 0 → nio x → nio y → (pre ++ rest).length ≤ 1000 → (∀ z ∈ rest, ∃ L, hf [.val z] = .fr (.lst L) [.val z] ∧ L.length = g z ∧ D.pureL L = true) →
    ∃ t' x' y', forL (tgN 4) (L0_law_put hf F) (rgD pre.length rest.length) [A, .val (.int t), .val O, .own (.lst (pre ++ rest)), x, y] = .nx [A, .val (.int t'), .val O, .own (.lst (pre ++ rest)), x', y'] := by
  intro rest
  induction rest with
  | nil => intro pre t x y _ _ _ _ _; exact ⟨t, x, y, by simp [rgD]⟩
  | cons z rest ih =>
    intro pre t x y ht hx hy hl hh
    obtain ⟨L, eL, lL, pL⟩ := hh z (by simp)
    obtain ⟨t', x', y', e⟩ := ih (pre ++ [z]) (t - g z) (.val (.int pre.length)) (.val (.int (g z))) (by omega) rfl rfl (by simpa using hl) (fun w m => hh w (by simp [m]))
    refine ⟨t', x', y', ?_⟩
    have ea : pre ++ [z] ++ rest = pre ++ z :: rest := by simp
    rw [ea] at e
    rw [← e, List.length_cons, rgD_cons]
    have at' : L2.atI (pre ++ z :: rest) (pre.length : Int) = some z := by
      rw [atI_nat (by omega) (by simp; omega) z, Int.toNat_natCast, getD_at _ (by simp)]
      simp
    have hstep : L0_law_put hf F [A, .val (.int t), .val O, .own (.lst (pre ++ z :: rest)), .val (.int pre.length), y] = .nx [A, .val (.int (t - g z)), .val O, .own (.lst (pre ++ z :: rest)), .val (.int pre.length), .val (.int (g z))] := by
      have n0 : ¬ (0 : Int) ≤ t := by omega
      have at2 := at'
      generalize pre ++ z :: rest = M at at' 
      simp [L0_law_put, -isIo, hy, io_val, io_own, io_non, at', eL, lL, n0]
    have e2 : ((pre ++ [z]).length : Int) = pre.length + 1 := by simp
    rw [e2]
    generalize L0_law_put hf F = LL at hstep
    generalize pre ++ z :: rest = M at hstep
    simp [-isIo, hx, hstep]
theorem scan_pos (O : D) (A : Sl) (Q : D → D → Prop) : ∀ (rest pre : List D) (t : Nat) (x y : Sl), t < sumN (rest.map g) → nio x → nio y → (pre ++ rest).length ≤ 1000 → (∀ z ∈ rest, ∃ L, hf [.val z] = .fr (.lst L) [.val z] ∧ L.length = g z ∧ D.pureL L = true) →
    (∀ z ∈ rest, ∀ a : Nat, a < g z → ∃ z', F [.val z, .val (.int a), .val O] = .im z' [.val z, .val (.int a), .val O] ∧ Q z z') →
    ∃ (k : Nat) (z z' : D), rest[k]? = some z ∧ Q z z' ∧ ∃ t' x' y', forL (tgN 4) (L0_law_put hf F) (rgD pre.length rest.length) [A, .val (.int t), .val O, .own (.lst (pre ++ rest)), x, y] = .nx [A, .val (.int t'), .val O, .own (.lst (pre ++ rest.set k z')), x', y'] := by
  intro rest
  induction rest with
  | nil => intro pre t x y ht; simp [sumN] at ht
  | cons z rest ih =>
    intro pre t x y ht hx hy hl hh hP
    obtain ⟨L, eL, lL, pL⟩ := hh z (by simp)
    have at' : L2.atI (pre ++ z :: rest) (pre.length : Int) = some z := by
      rw [atI_nat (by omega) (by simp; omega) z, Int.toNat_natCast, getD_at _ (by simp)]
      simp
    have e2 : ∀ w : D, ((pre ++ [w]).length : Int) = pre.length + 1 := fun w => by simp
    by_cases c : t < g z
    · obtain ⟨z', ez, qz⟩ := hP z (by simp) t c
      obtain ⟨t', x', y', e⟩ := scan_neg (hf := hf) (F := F) (g := g) O A rest (pre ++ [z']) ((t : Int) - g z) (.val (.int pre.length)) (.val (.int (g z))) (by omega) rfl rfl (by simpa using hl) (fun w m => hh w (by simp [m]))
      refine ⟨0, z, z', rfl, qz, t', x', y', ?_⟩
      have ea : pre ++ [z'] ++ rest = pre ++ z' :: rest := by simp
      rw [ea] at e
      rw [List.set_cons_zero, ← e, List.length_cons, rgD_cons, e2]
      have n0 : (0 : Int) ≤ t := by omega
      have n1 : (t : Int) < g z := by omega
      have ix : L2.ixN (pre ++ z :: rest).length (pre.length : Int) = some pre.length := by
        unfold L2.ixN
        rw [if_pos (by omega), if_pos (by simp; omega)]
        simp
      have st : (pre ++ z :: rest).set pre.length z' = pre ++ z' :: rest := by simp [List.set_append]
      have hstep : L0_law_put hf F [A, .val (.int t), .val O, .own (.lst (pre ++ z :: rest)), .val (.int pre.length), y] = .nx [A, .val (.int (t - g z)), .val O, .own (.lst (pre ++ z' :: rest)), .val (.int pre.length), .val (.int (g z))] := by
        rw [← st]
        generalize pre ++ z :: rest = M at at' ix ⊢
        simp [L0_law_put, -isIo, hy, io_val, io_own, io_non, at', eL, lL, c, ez, -L2.ixN, ix]
      generalize L0_law_put hf F = LL at hstep
      generalize pre ++ z :: rest = M at hstep
      simp [-isIo, hx, hstep]
    · simp only [List.map_cons, sumN] at ht
      have qt : (t : Int) - g z = (t - g z : Nat) := by omega
      obtain ⟨k, w, w', hk, qw, t', x', y', e⟩ := ih (pre ++ [z]) (t - g z) (.val (.int pre.length)) (.val (.int (g z))) (by omega) rfl rfl (by simpa using hl) (fun w m => hh w (by simp [m])) (fun w m => hP w (by simp [m]))
      refine ⟨k + 1, w, w', hk, qw, t', x', y', ?_⟩
      have ea : ∀ R : List D, pre ++ [z] ++ R = pre ++ z :: R := fun R => by simp
      rw [ea, ea] at e
      rw [List.set_cons_succ, ← e, List.length_cons, rgD_cons, e2, ← qt]
      have n1 : ¬ (t : Int) < g z := by omega
      have hstep : L0_law_put hf F [A, .val (.int t), .val O, .own (.lst (pre ++ z :: rest)), .val (.int pre.length), y] = .nx [A, .val (.int (t - g z)), .val O, .own (.lst (pre ++ z :: rest)), .val (.int pre.length), .val (.int (g z))] := by
        generalize pre ++ z :: rest = M at at' ⊢
        simp [L0_law_put, -isIo, hy, io_val, io_own, io_non, at', eL, lL, c]
      generalize L0_law_put hf F = LL at hstep
      generalize pre ++ z :: rest = M at hstep
      simp [-isIo, hx, hstep]
end
end HFL

set_option Elab.async false
set_option linter.all false
set_option maxRecDepth 100000
set_option maxHeartbeats 4000000
set_option autoImplicit false
namespace HFL
open PySem PySem.Spec PyProof.Rows L2 HF
/-- a form with other parts -/
inductive Reb : D → List D → D → Prop
  | iff (a b c a' b' c' : D) : Reb (ifF a b c) [a', b', c'] (ifF a' b' c')
  | dop (o : Str) (l l' : List D) : Reb (doF o l) l' (doF o l')
  | cl (o : Str) (l l' : List D) : Reb (clF o l) l' (clF o l')
theorem reb_hb {d d' : D} {l' : List D} (R : Reb d l' d') (h : l'.length ≤ 1000) (pr : List Fn) (ns : List Str) : (∃ b, HB pr ns d' b) ∧ PO d' l' := by
  cases R with
  | iff a b c a' b' c' => exact ⟨⟨_, hb_if pr ns _⟩, po_if a' b' c'⟩
  | dop o l l' => exact ⟨⟨_, hb_do pr ns o l'⟩, po_do o l' (by omega)⟩
  | cl o l l' => exact ⟨⟨_, hb_cl pr ns o l'⟩, po_cl o l' (by omega)⟩
theorem reb_pure {d d' : D} {l' : List D} (R : Reb d l' d') (h : D.pureL l' = true) : d'.pure = true := by
  cases R with
  | iff a b c a' b' c' => simpa [ifF] using h
  | dop o l l' => simpa [doF] using h
  | cl o l l' => simpa [clF] using h
def gotBad (C : List Fn → List Str → Prop) (d' : D) : Prop := d'.pure = true ∧ ∀ pr ns, C pr ns → ∀ m, EvF pr ns m d' false
theorem put_step {hf F : List Ar → FR} {g : D → Nat} {O d : D} {l : List D} (S : Shp d l) (h8 : l.length ≤ 8) (hh : ∀ z ∈ l, ∃ L, hf [.val z] = .fr (.lst L) [.val z] ∧ L.length = g z ∧ D.pureL L = true) (Q : D → D → Prop)
    (hP : ∀ z ∈ l, ∀ a : Nat, a < g z → ∃ z', F [.val z, .val (.int a), .val O] = .im z' [.val z, .val (.int a), .val O] ∧ Q z z') (t : Nat) (ht : t < sumN (l.map g)) :
    ∃ (k : Nat) (z z' : D), l[k]? = some z ∧ Q z z' ∧ ∃ d', Reb d (l.set k z') d' ∧ runF 6 (b_law_put hf F) [.val d, .val (.int (t + 1)), .val O] = .im d' [.val d, .val (.int (t + 1)), .val O] := by
  have sc := fun A => scan_pos (hf := hf) (F := F) (g := g) O A Q l [] t .non .non ht rfl rfl (by simp; omega) hh hP
  simp only [List.nil_append, List.length_nil, Int.natCast_zero] at sc
  have t1 : (t : Int) + 1 - 1 = t := by omega
  have t2 : ¬ (t : Int) + 1 = 0 := by omega
  cases S with
  | leaf hh v h1 h2 h3 => simp [sumN] at ht
  | iff a b c =>
    obtain ⟨k, z, z', hk, qz, t', x', y', e⟩ := sc (.val (ifF a b c))
    have hk3 : k < 3 := by
      have := (List.getElem?_eq_some_iff.mp hk).1
      simpa using this
    have len3 : ([a, b, c].set k z').length = 3 := by simp
    match hL : [a, b, c].set k z', len3 with
    | [a', b', c'], _ =>
      refine ⟨k, z, z', hk, qz, ifF a' b' c', hL ▸ .iff a b c a' b' c', ?_⟩
      rw [hL] at e
      have q : cutL [D.str "if", a, b, c] (some 1) none = [a, b, c] := by rw [cutL_lo _ (by omega) (by simp)]; rfl
      have e1 : D.eqB (.str "if") (.str "if") = some true := by simp [D.eqB]
      have e0 : D.eqB (.int (t + 1)) (.int 0) = some false := by simp [D.eqB, t2]
      simp only [ifF, List.length_cons, List.length_nil] at e ⊢
      simp [b_law_put, -D.eqB, e0, e1, t1, L2.atI, L2.ixN, q, -forL, e]
  | dop o l =>
    obtain ⟨k, z, z', hk, qz, t', x', y', e⟩ := sc (.val (doF o l))
    refine ⟨k, z, z', hk, qz, doF o (l.set k z'), .dop o l _, ?_⟩
    have q : cutL [D.str "do", .str o, .tup l] (some 1) none = [.str o, .tup l] := by rw [cutL_lo _ (by omega) (by simp)]; rfl
    have e1 : D.eqB (.str "do") (.str "if") = some false := by simp +decide [D.eqB]
    have e0 : D.eqB (.int (t + 1)) (.int 0) = some false := by simp [D.eqB, t2]
    have l1 : l.length < 4611686018427387904 := by omega
    have l2 : l.length ≤ 16777216 := by omega
    simp only [doF] at e ⊢
    simp [b_law_put, -D.eqB, e0, e1, t1, L2.atI, L2.ixN, q, l1, l2, -forL, e]
  | cl o l =>
    obtain ⟨k, z, z', hk, qz, t', x', y', e⟩ := sc (.val (clF o l))
    refine ⟨k, z, z', hk, qz, clF o (l.set k z'), .cl o l _, ?_⟩
    have q : cutL [D.str "call", .str o, .tup l] (some 1) none = [.str o, .tup l] := by rw [cutL_lo _ (by omega) (by simp)]; rfl
    have e1 : D.eqB (.str "call") (.str "if") = some false := by simp +decide [D.eqB]
    have e0 : D.eqB (.int (t + 1)) (.int 0) = some false := by simp [D.eqB, t2]
    have l1 : l.length < 4611686018427387904 := by omega
    have l2 : l.length ≤ 16777216 := by omega
    simp only [clF] at e ⊢
    simp [b_law_put, -D.eqB, e0, e1, t1, L2.atI, L2.ixN, q, l1, l2, -forL, e]
theorem put_gf {hs : List Hd} {names known : List Str} (hw : ∀ h ∈ hs, HdOk h) {O : D} (hO : O.pure = true) {C : List Fn → List Str → Prop} (hb : ∀ pr ns, C pr ns → HB pr ns O false) {J : Nat} (hJ : 7 ≤ J) : ∀ (n : Nat) (d : D), n ≤ 7 → GF hs names known n d → ∀ s, HO n d s → ∀ a : Nat, a < s → ∀ j, n ≤ j →
    ∃ d', pOf (hOf J) j [.val d, .val (.int a), .val O] = .im d' [.val d, .val (.int a), .val O] ∧ gotBad C d'
  | n + 1, d, hn, G, s, HS, 0, hs0, j, hj => by
    obtain ⟨k, rfl⟩ : ∃ k, j = k + 1 := ⟨j - 1, by omega⟩
    refine ⟨O, ?_, hO, fun pr ns c m => ev_bad (hb pr ns c) m⟩
    simp only [pOf, iterF]
    generalize iterF (fun F => runF 6 (b_law_put (hOf J) F)) k = F
    generalize hOf J = hf
    have e0 : D.eqB (.int 0) (.int 0) = some true := by simp [D.eqB]
    simp [b_law_put, -D.eqB, e0]
  | n + 1, d, hn, G, s, HS, a + 1, hsa, j, hj => by
    obtain ⟨k, rfl⟩ : ∃ k, j = k + 1 := ⟨j - 1, by omega⟩
    obtain ⟨l, S, l8, hl⟩ := gf_shp G hw
    classical
    have ho := fun x mx => ho_gf hw n x (by omega) (hl x mx)
    let g : D → Nat := fun x => if h : ∃ s, HO n x s ∧ 1 ≤ s ∧ s ≤ 9 ^ n then h.choose else 0
    have hg : ∀ x ∈ l, HO n x (g x) ∧ g x ≤ 9 ^ n := fun x mx => by
      simp only [g, dif_pos (ho x mx)]
      exact ⟨(ho x mx).choose_spec.1, (ho x mx).choose_spec.2.2⟩
    have b1 := sumN_le (l := l) (g := g) fun x mx => (hg x mx).2
    have b2 : l.length * 9 ^ n ≤ 8 * 9 ^ n := Nat.mul_le_mul_right _ l8
    have b4 : 9 ^ n ≤ 9 ^ 6 := Nat.pow_le_pow_right (by omega) (by omega)
    have b5 : (9 : Nat) ^ 6 = 531441 := by decide
    have es := HS.same (ho_step S G.pure g (fun x mx => (hg x mx).1) (by omega))
    have st := put_step (hf := hOf J) (F := pOf (hOf J) k) (g := g) (O := O) S l8 (fun z mz => (hg z mz).1 J (by omega)) (fun _ d' => gotBad C d') (fun z mz a' ha' => put_gf hw hO hb hJ n z (by omega) (hl z mz) (g z) (hg z mz).1 a' ha' k (by omega)) a (by omega)
    obtain ⟨i, z, z', hi, qz, d', R, e⟩ := st
    refine ⟨d', e, ?_, fun pr ns c m => ?_⟩
    · refine reb_pure R (pureL_of fun x mx => ?_)
      rcases List.mem_or_eq_of_mem_set mx with q | q
      · exact (hl x q).pure
      · rw [q]; exact qz.1
    · obtain ⟨⟨b, hB⟩, hP⟩ := reb_hb R (by simp; omega) pr ns
      cases b with
      | false => exact ev_bad hB m
      | true =>
        cases m with
        | zero => exact ev_zero d'
        | succ m =>
          have il := (List.getElem?_eq_some_iff.mp hi).1
          have ev : ∀ x ∈ l.set i z', ∃ b, EvF pr ns m x b := fun x mx => by
            rcases List.mem_or_eq_of_mem_set mx with q | q
            · exact ev_any hw pr ns n x (hl x q) m
            · rw [q]; exact ⟨false, qz.2 pr ns c m⟩
          have one : ∀ {x : D} {b b' : Bool}, EvF pr ns m x b → EvF pr ns m x b' → b = b' := fun h h' => by
            have q1 := h (m + 1) (by omega)
            have q2 := h' (m + 1) (by omega)
            rw [q1] at q2
            cases q2
            rfl
          have r := ev_step hB hP (by simp; omega) m (fun x => decide (EvF pr ns m x true)) fun x mx => by
            obtain ⟨b, hb⟩ := ev x mx
            by_cases c : EvF pr ns m x true
            · simpa [c] using c
            · cases b with
              | true => exact absurd hb c
              | false => simpa [c] using hb
          have no : ¬ EvF pr ns m z' true := fun h => by cases one h (qz.2 pr ns c m)
          have mz : z' ∈ l.set i z' := List.mem_of_getElem? (i := i) (by rw [List.getElem?_set_self il])
          have fl : ((l.set i z').all fun x => decide (EvF pr ns m x true)) = false := by
            rw [List.all_eq_false]
            exact ⟨z', mz, by simpa using no⟩
          rw [fl] at r
          exact r
end HFL

set_option Elab.async false
set_option linter.all false
set_option maxRecDepth 100000
set_option maxHeartbeats 4000000
set_option autoImplicit false
namespace HFL
open PySem PySem.Spec PyProof.Rows L2 HF
theorem flat_rep (n : Nat) (x : D) : (List.replicate n [x]).flatten = List.replicate n x := by
  induction n with
  | zero => simp
  | succ n ih => rw [List.replicate_succ, List.flatten_cons, ih, List.replicate_succ]; rfl
/-! ### the odd forms -/
def ONE : D := valF (.int 1)
def ODD (h : Hd) : List D := [valF (.bl true), valF (.int 1000000000000000000), valF (.tup (List.replicate 50 (.int 0))), valF (.tup [.str "a"]), .tup [.str "value", .int 1, .int 1], valF .non, nmF "zz9", nmF (h.nm ++ "z"), rfF "TooLong", rfF "refused", .tup [.str "if", ONE, ONE], .tup [.str "if", ONE, ONE, ONE, ONE], doF "plus" [ONE],
  doF "plus" [ONE, ONE, ONE], doF "mod" [ONE, ONE], doF "list" (List.replicate 9 ONE), doF "first" [], doF "if" [ONE, ONE, ONE], clF "zz9" [], .tup [.str "stop", .int 1], clF h.nm (List.replicate (h.ps.length + 1) ONE), clF "plus" [ONE, ONE]]
theorem run_odd (h : Hd) (rest : List D) (hn : isNm h.nm = true) (hp : h.ps.length ≤ 6) (w : Int) (O : D) (hO : L2.atI (ODD h) w = some O) : runF 4 b_law_odd [.val (.lst (h.d :: rest)), .val (.int w)] = .im O [.val (.lst (h.d :: rest)), .val (.int w)] := by
  have a0 : L2.atI (h.d :: rest) 0 = some h.d := by rw [atI_nat (by omega) (by simp) .non]; rfl
  have b0 : L2.atI [D.str h.nm, .tup (strsD h.ps), .tup (h.wn.map D.bl)] 0 = some (.str h.nm) := rfl
  have b1 : L2.atI [D.str h.nm, .tup (strsD h.ps), .tup (h.wn.map D.bl)] 1 = some (.tup (strsD h.ps)) := rfl
  have nl : h.nm.length + (Str.ofString "z").length ≤ 16777216 := by
    have := (isNm_txt hn).len
    simp only [isNm, isNmL, Bool.and_eq_true, decide_eq_true_eq] at hn
    have l := str_len h.nm
    have : (Str.ofString "z").length = 1 := by decide +kernel
    omega
  have hd : h.d = .tup [.str h.nm, .tup (strsD h.ps), .tup (h.wn.map D.bl)] := rfl
  rw [hd] at a0 ⊢
  have pl : (strsD h.ps).length = h.ps.length := by simp
  simp only [ODD, valF, nmF, rfF, doF, clF, ONE] at hO
  generalize strsD h.ps = PS at a0 b0 b1 pl ⊢
  generalize h.wn.map D.bl = WN at a0 b0 b1 ⊢
  have r9 : (List.replicate 9 [D.tup [.str "value", .int 1]]).flatten = List.replicate 9 (.tup [.str "value", .int 1]) := flat_rep _ _
  have r50 : (List.replicate 50 [D.int 0]).flatten = List.replicate 50 (.int 0) := flat_rep _ _
  generalize List.replicate 9 (D.tup [.str "value", .int 1]) = R9 at hO r9
  generalize List.replicate 50 (D.int 0) = R50 at hO r50
  by_cases p0 : h.ps.length = 0
  · simp only [p0, Nat.zero_add, List.replicate_one] at hO
    simp [b_law_odd, a0, b0, b1, nl, pl, p0, -List.reduceReplicate, r9, r50, hO]
  · have rn := flat_rep (h.ps.length + 1) (D.tup [.str "value", .int 1])
    generalize List.replicate (h.ps.length + 1) (D.tup [.str "value", .int 1]) = RN at hO rn
    have c1 : ¬ ((h.ps.length : Int) + 1 = 1) := by omega
    have c2 : (2 : Int) ≤ (h.ps.length : Int) + 1 := by omega
    have c3 : (h.ps.length : Int) + 1 ≤ 1000 := by omega
    have c4 : ((h.ps.length : Int) + 1).toNat = h.ps.length + 1 := by omega
    simp [b_law_odd, a0, b0, b1, nl, pl, p0, -List.reduceReplicate, r9, r50, c1, c2, c3, c4, rn, hO]
structure Cnd (h : Hd) (pr : List Fn) (ns : List Str) : Prop where
  zz : (Str.ofString "zz9") ∉ ns
  z : h.nm ++ "z" ∉ ns
  fz : fnd pr "zz9" = none
  fp : fnd pr "plus" = none
  fh : ∃ f, fnd pr h.nm = some f ∧ f.ps.length = h.ps.length
theorem pureL_rep (n : Nat) {x : D} (h : x.pure = true) : D.pureL (List.replicate n x) = true := pureL_of fun d m => by rw [List.eq_of_mem_replicate m]; exact h
theorem odd_bad (h : Hd) : ∀ O ∈ ODD h, O.pure = true ∧ ∀ pr ns, Cnd h pr ns → HB pr ns O false := by
  have one : ONE.pure = true := by simp [ONE, valF]
  have cast : ∀ {pr : List Fn} {ns : List Str} {d : D} {b : Bool}, HB pr ns d b → b = false → HB pr ns d false := fun h e => e ▸ h
  intro O m
  simp only [ODD, List.mem_cons, List.not_mem_nil, or_false] at m
  rcases m with rfl | rfl | rfl | rfl | rfl | rfl | rfl | rfl | rfl | rfl | rfl | rfl | rfl | rfl | rfl | rfl | rfl | rfl | rfl | rfl | rfl | rfl
  · exact ⟨by simp [valF], fun pr ns C => cast (hb_val pr ns (by simp [thg, leafy]) (by simp [D.wt])) (by simp [okV, good, whole])⟩
  · exact ⟨by simp [valF], fun pr ns C => cast (hb_val pr ns (by simp [thg, leafy]) (by simp [D.wt])) (by simp [okV, good, whole, big])⟩
  · have w := wtL_ints 50 0
    rw [flat_rep] at w
    refine ⟨by simp [valF, -List.reduceReplicate, pureL_rep], fun pr ns C => cast (hb_val pr ns ?_ ?_) ?_⟩
    · rw [thg_tup]
      exact thgL_of fun d m => by rw [List.eq_of_mem_replicate m]; simp [thg, leafy]
    · rw [D.wt_tup, w]; omega
    · simp only [okV, D.wt_tup, w]; simp
  · exact ⟨by simp [valF], fun pr ns C => cast (hb_val pr ns (by simp [thg, leafy]; decide +kernel) (by simp [D.wt])) (by simp [okV, good, whole])⟩
  · exact ⟨by simp, fun pr ns C => hb_v11 pr ns⟩
  · exact ⟨by simp [valF], fun pr ns C => cast (hb_val pr ns (by simp [thg, leafy]) (by simp [D.wt])) (by simp [okV, good, whole])⟩
  · exact ⟨by simp [nmF], fun pr ns C => cast (hb_nm pr ns _) (by simpa using C.zz)⟩
  · exact ⟨by simp [nmF], fun pr ns C => cast (hb_nm pr ns _) (by simpa using C.z)⟩
  · exact ⟨by simp [rfF], fun pr ns C => cast (hb_rf pr ns _) (by decide +kernel)⟩
  · exact ⟨by simp [rfF], fun pr ns C => cast (hb_rf pr ns _) (by decide +kernel)⟩
  · exact ⟨by simp [one], fun pr ns C => cast (hb_if pr ns [ONE, ONE]) (by simp)⟩
  · exact ⟨by simp [one], fun pr ns C => cast (hb_if pr ns [ONE, ONE, ONE, ONE]) (by simp)⟩
  · exact ⟨by simp [doF, one], fun pr ns C => cast (hb_do pr ns _ _) (by show (_ && takesB _ 1) = false; decide +kernel)⟩
  · exact ⟨by simp [doF, one], fun pr ns C => cast (hb_do pr ns _ _) (by show (_ && takesB _ 3) = false; decide +kernel)⟩
  · exact ⟨by simp [doF, one], fun pr ns C => cast (hb_do pr ns _ _) (by show (_ && takesB _ 2) = false; decide +kernel)⟩
  · exact ⟨by simp [doF, -List.reduceReplicate, pureL_rep _ one], fun pr ns C => cast (hb_do pr ns "list" (List.replicate 9 ONE)) (by show (_ && takesB _ (List.replicate 9 ONE).length) = false; rw [List.length_replicate]; decide +kernel)⟩
  · exact ⟨by simp [doF], fun pr ns C => cast (hb_do pr ns _ _) (by show (_ && takesB _ 0) = false; decide +kernel)⟩
  · exact ⟨by simp [doF, one], fun pr ns C => cast (hb_do pr ns _ _) (by show (_ && takesB _ 3) = false; decide +kernel)⟩
  · exact ⟨by simp [clF], fun pr ns C => cast (hb_cl pr ns _ _) (by rw [C.fz])⟩
  · exact ⟨by simp, fun pr ns C => hb_stop pr ns⟩
  · refine ⟨by simp [clF, -List.reduceReplicate, pureL_rep _ one], fun pr ns C => cast (hb_cl pr ns _ _) ?_⟩
    obtain ⟨f, e, l⟩ := C.fh
    rw [e]
    simp [l]
  · exact ⟨by simp [clF, one], fun pr ns C => cast (hb_cl pr ns _ _) (by rw [C.fp])⟩
end HFL

set_option Elab.async false
set_option linter.all false
set_option maxRecDepth 100000
set_option maxHeartbeats 4000000
set_option autoImplicit false
namespace HFL
open PySem PySem.Spec PyProof.Rows L2 HF
/-! ### deep bodies -/
def deepS (r : Nat) (x : D) : D := if r = 0 then doF "list" [x] else if r = 1 then ifF x (valF (.int 0)) (valF (.int 2)) else doF "plus" [valF (.int 3), x]
def deepN (many : Nat) : Nat → D
  | 0 => valF (.int 1)
  | i + 1 => deepS ((i + many) % 3) (deepN many i)
theorem run_deep (k : Nat) (h1 : 1 ≤ k) (hk : k ≤ 100) : runF 4 b_law_deep [.val (.int k)] = .im (deepN k (k - 1)) [.val (.int k)] := by
  obtain ⟨e', e1, x, y, hx, hy, rfl⟩ := forL_nx (TF := Tg.F (.nm 2)) (S := L0_law_deep) (fun dn e => ∃ x y, nio x ∧ nio y ∧ e = [.val (.int k), .val (deepN k dn.length), x, y]) (rgD 0 (k - 1)) (fun dn d rest e hall ⟨x, y, hx, hy, he⟩ => by
    subst he
    obtain ⟨rfl, hlt⟩ := rgD_at hall
    have e3 : (((0 : Int) + dn.length) + k).fmod 3 = ((dn.length + k) % 3 : Nat) := by
      have := fmod_nat (dn.length + k) 3
      rw [← this]; simp
    have lt3 : (dn.length + k) % 3 < 3 := Nat.mod_lt _ (by omega)
    have at3 : ∀ x : D, L2.atI [doF "list" [x], ifF x (valF (.int 0)) (valF (.int 2)), doF "plus" [valF (.int 3), x]] (((dn.length + k) % 3 : Nat) : Int) = some (deepS ((dn.length + k) % 3) x) := fun x => by
      generalize (dn.length + k) % 3 = r at lt3
      have : r = 0 ∨ r = 1 ∨ r = 2 := by omega
      rcases this with rfl | rfl | rfl <;> rfl
    have at3 := at3 (deepN k dn.length)
    have e4 : deepN k (dn ++ [D.int (0 + dn.length)]).length = deepS ((dn.length + k) % 3) (deepN k dn.length) := by simp [deepN]
    rw [e4]
    generalize deepS ((dn.length + k) % 3) (deepN k dn.length) = R at at3
    generalize deepN k dn.length = F at at3 ⊢
    generalize (((dn.length + k) % 3 : Nat) : Int) = q at e3 at3
    refine ⟨[.val (.int k), .val F, .val (.int (0 + dn.length)), y], [.val (.int k), .val R, .val (.int (0 + dn.length)), .own (.lst [doF "list" [F], ifF F (valF (.int 0)) (valF (.int 2)), doF "plus" [valF (.int 3), F]])], by simp [-isIo, hx], ?_, _, _, rfl, rfl, rfl⟩
    generalize (0 : Int) + dn.length = kk at e3 ⊢
    simp only [doF, ifF, valF] at at3 ⊢
    simp [L0_law_deep, -isIo, io_val, io_own, io_non, hy, e3, at3]) [.val (.int k), .val (valF (.int 1)), .non, .non] ⟨.non, .non, rfl, rfl, rfl⟩
  have hl : (rgD 0 (k - 1)).length = k - 1 := by simp [rgD]
  rw [hl] at e1
  have ek : ((k : Int) - 1).toNat = k - 1 := by omega
  have ma : ((k : Int) - 1).natAbs < 4611686018427387904 := by omega
  simp only [Tg.F, valF] at e1
  generalize deepN k (k - 1) = R at e1
  simp [b_law_deep, ma, -forL, ek, e1]
theorem deep_ev (many : Nat) : ∀ (i : Nat), (deepN many i).pure = true ∧ ∀ pr ns m, EvF pr ns m (deepN many i) (decide (i + 1 ≤ m)) := by
  have vl : ∀ (pr : List Fn) (ns : List Str) (k : Int) (h : Vl (.int k)) (m : Nat), EvF pr ns m (valF (.int k)) (decide (1 ≤ m)) := fun pr ns k V m => by
    cases m with
    | zero => exact ev_zero _
    | succ m =>
      have hb := hb_val pr ns V.th (by have := V.wt; omega)
      have ok : okV (.int k) = true := by simp [okV, V.gd, V.wt]
      rw [ok] at hb
      have r := ev_step hb (po_leaf (.inl ⟨_, rfl⟩)) (by simp) m (fun _ => true) (by simp)
      simpa using r
  have v0 : Vl (.int 0) := Vl.int (by omega) (by omega)
  have v1 : Vl (.int 1) := Vl.int (by omega) (by omega)
  have v2 : Vl (.int 2) := Vl.int (by omega) (by omega)
  have v3 : Vl (.int 3) := Vl.int (by omega) (by omega)
  intro i
  induction i with
  | zero => exact ⟨by simp [deepN, valF], fun pr ns m => by simpa [deepN] using vl pr ns 1 v1 m⟩
  | succ i ih =>
    obtain ⟨p, E⟩ := ih
    simp only [deepN]
    generalize deepN many i = x at p E
    classical
    have cls : ∀ (pr : List Fn) (ns : List Str) (m : Nat) (l : List D) (d : D), HB pr ns d true → PO d l → l.length ≤ 1000 → x ∈ l → (∀ y ∈ l, y = x ∨ ∃ k, y = valF (.int k) ∧ Vl (.int k)) → EvF pr ns m d (decide (i + 1 + 1 ≤ m)) := fun pr ns m l d hb hp hl mx hy => by
      cases m with
      | zero => exact ev_zero d
      | succ m =>
        have r := ev_step hb hp hl m (fun y => if y = x then decide (i + 1 ≤ m) else decide (1 ≤ m)) fun y my => by
          by_cases c : y = x
          · rw [if_pos c, c]; exact E pr ns m
          · rw [if_neg c]
            rcases hy y my with z | ⟨k, rfl, V⟩
            · exact absurd z c
            · exact vl pr ns k V m
        have e : (l.all fun y => if y = x then decide (i + 1 ≤ m) else decide (1 ≤ m)) = decide (i + 1 + 1 ≤ m + 1) := by
          by_cases c : i + 1 ≤ m
          · rw [decide_eq_true (by omega : i + 1 + 1 ≤ m + 1), List.all_eq_true]
            intro y _
            split <;> simp <;> omega
          · rw [decide_eq_false (by omega : ¬ i + 1 + 1 ≤ m + 1), List.all_eq_false]
            exact ⟨x, mx, by simp; omega⟩
        rw [e] at r
        exact r
    have lt3 : (i + many) % 3 < 3 := Nat.mod_lt _ (by omega)
    generalize (i + many) % 3 = r at lt3
    have : r = 0 ∨ r = 1 ∨ r = 2 := by omega
    rcases this with rfl | rfl | rfl
    · refine ⟨by simp [deepS, doF, p], fun pr ns m => ?_⟩
      have hb := hb_do pr ns "list" [x]
      rw [show (decide ((Str.ofString "list") ∈ OPSL) && takesB "list" [x].length) = true from by show (_ && takesB _ 1) = true; decide +kernel] at hb
      exact cls pr ns m [x] _ hb (po_do _ _ (by simp)) (by simp) (by simp) (by simp)
    · refine ⟨by simp [deepS, ifF, valF, p], fun pr ns m => ?_⟩
      have hb := hb_if pr ns [x, valF (.int 0), valF (.int 2)]
      exact cls pr ns m [x, valF (.int 0), valF (.int 2)] _ hb (po_if _ _ _) (by simp) (by simp) fun y my => by
        simp only [List.mem_cons, List.not_mem_nil, or_false] at my
        rcases my with rfl | rfl | rfl
        · exact .inl rfl
        · exact .inr ⟨_, rfl, v0⟩
        · exact .inr ⟨_, rfl, v2⟩
    · refine ⟨by simp [deepS, doF, valF, p], fun pr ns m => ?_⟩
      have hb := hb_do pr ns "plus" [valF (.int 3), x]
      rw [show (decide ((Str.ofString "plus") ∈ OPSL) && takesB "plus" [valF (.int 3), x].length) = true from by show (_ && takesB _ 2) = true; decide +kernel] at hb
      exact cls pr ns m [valF (.int 3), x] _ hb (po_do _ _ (by simp)) (by simp) (by simp) fun y my => by
        simp only [List.mem_cons, List.not_mem_nil, or_false] at my
        rcases my with rfl | rfl
        · exact .inr ⟨_, rfl, v3⟩
        · exact .inl rfl
/-! ### another function in a place -/
theorem run_with (l : List D) (k : Nat) (hk : k < l.length) (hl : l.length ≤ 1000) (f : D) : runF 3 b_law_with [.val (.tup l), .val (.int k), .val f] = .im (.tup (l.set k f)) [.val (.tup l), .val (.int k), .val f] := by
  have c1 : cutL l none (some (k : Int)) = l.take k := by rw [cutL_hi _ (by omega) (by omega)]; simp
  have c2 : cutL l (some ((k : Int) + 1)) none = l.drop (k + 1) := by
    rw [cutL_lo _ (by omega) (by omega)]
    congr 1
  have e : l.set k f = l.take k ++ (f :: l.drop (k + 1)) := by rw [List.set_eq_take_append_cons_drop, if_pos hk]
  rw [e]
  have l1 : (l.take k).length ≤ 1000 := by simp; omega
  have l2 : (l.drop (k + 1)).length ≤ 1000 := by simp; omega
  generalize l.take k = A at c1 l1 ⊢
  generalize l.drop (k + 1) = B at c2 l2 ⊢
  have s1 : A.length + 1 ≤ 16777216 := by omega
  have s2 : A.length + 1 + B.length ≤ 16777216 := by omega
  simp [b_law_with, c1, c2, s1, s2]
end HFL

set_option Elab.async false
set_option linter.all false
set_option maxRecDepth 100000
set_option maxHeartbeats 4000000
set_option autoImplicit false
namespace HFL
open PySem PySem.Spec PyProof.Rows L2 HF
/-! ### good and spoilt programs -/
theorem fnd_nd : ∀ {pr : List Fn} {f : Fn}, (pr.map Fn.nm).Nodup → f ∈ pr → fnd pr f.nm = some f
  | g :: pr, f, nd, m => by
    rw [List.map_cons, List.nodup_cons] at nd
    rcases List.mem_cons.mp m with rfl | m
    · simp [fnd]
    · have : g.nm ≠ f.nm := fun e => nd.1 (e ▸ List.mem_map.mpr ⟨f, m, rfl⟩)
      have q := fnd_nd nd.2 m
      simp only [fnd, List.find?_cons, decide_eq_false this] at q ⊢
      exact q
theorem fnd_none {pr : List Fn} {s : Str} (h : ∀ f ∈ pr, f.nm ≠ s) : fnd pr s = none := by
  rw [fnd, List.find?_eq_none]
  intro f m
  simpa using h f m
theorem bad_of {pr : List Fn} (hl : pr.length < 1000) (h : ∀ f ∈ pr, FnOk' f ∧ ∃ b, EvF pr f.ps 20 f.bd b) (hb : pr = [] ∨ ¬ (pr.map Fn.nm).Nodup ∨ ∃ f, f ∈ pr ∧ (isNm f.nm = false ∨ 6 < f.ps.length ∨ ¬ f.ps.Nodup ∨ (∃ s, s ∈ f.ps ∧ isNm s = false) ∨ EvF pr f.ps 20 f.bd false)) (j : Nat) (hj : 20 < j) :
    gGood j [.val (.tup (pr.map Fn.d))] = .im (.bl false) [.val (.tup (pr.map Fn.d))] := by
  classical
  have one : ∀ {f : Fn} {b b' : Bool}, EvF pr f.ps 20 f.bd b → EvF pr f.ps 20 f.bd b' → b = b' := fun h h' => by
    have q1 := h 21 (by omega)
    have q2 := h' 21 (by omega)
    rw [q1] at q2
    cases q2
    rfl
  have r := good_run hj (fun f => decide (EvF pr f.ps 20 f.bd true)) hl fun f m => ⟨(h f m).1, by
    obtain ⟨b, hb⟩ := (h f m).2
    by_cases c : EvF pr f.ps 20 f.bd true
    · simpa [c] using c
    · cases b with
      | true => exact absurd hb c
      | false => simpa [c] using hb⟩
  have e : goodP (fun f => decide (EvF pr f.ps 20 f.bd true)) pr = false := by
    rcases hb with hb | hb | ⟨f, m, hb⟩
    · simp [goodP, hb]
    · simp [goodP, hb]
    · have : fnB (fun f => decide (EvF pr f.ps 20 f.bd true)) f = false := by
        rcases hb with q | q | q | ⟨s, ms, q⟩ | q
        · simp [fnB, q]
        · simp only [fnB, decide_eq_false (by omega : ¬ f.ps.length ≤ 6)]; simp
        · simp [fnB, q]
        · have : f.ps.all isNm = false := List.all_eq_false.mpr ⟨s, ms, by simp [q]⟩
          simp [fnB, this]
        · have : ¬ EvF pr f.ps 20 f.bd true := fun z => by cases one z q
          simp [fnB, this]
      have : pr.all (fnB fun f => decide (EvF pr f.ps 20 f.bd true)) = false := List.all_eq_false.mpr ⟨f, m, by simp [this]⟩
      simp [goodP, this]
  rw [e] at r
  exact r
structure FnG (hs : List Hd) (ns : List Str) (f : Fn) : Prop where
  nm : f.nm ∈ ns
  ps : ∀ s ∈ f.ps, s ∈ ns
  pl : f.ps.length ≤ 6
  nd : f.ps.Nodup
  hd : ∃ h, h ∈ hs ∧ f.nm = h.nm ∧ f.ps = h.ps ∧ GF hs h.ps (knownOf h) 7 f.bd
theorem hds_ok {hs : List Hd} {ns : List Str} (H : Hds hs ns) : ∀ h ∈ hs, HdOk h := fun h m => by
  obtain ⟨i, hi⟩ := List.mem_iff_getElem?.mp m
  obtain ⟨_, k, hk, e, w, _⟩ := H.each i h hi
  exact ⟨by rw [w, e]; simp, by rw [e]; simpa using hk⟩
theorem hds_each {hs : List Hd} {ns : List Str} (H : Hds hs ns) : ∀ h ∈ hs, h.nm ∈ ns ∧ (∀ s ∈ h.ps, s ∈ ns) ∧ h.ps.length ≤ 6 ∧ h.ps.Nodup := fun h m => by
  obtain ⟨i, hi⟩ := List.mem_iff_getElem?.mp m
  obtain ⟨hil, _⟩ := List.getElem?_eq_some_iff.mp hi
  obtain ⟨e1, k, hk, e, w, _⟩ := H.each i h hi
  have nl := H.nms.len
  have := H.len4
  refine ⟨?_, fun s ms => ?_, by rw [e]; simpa using hk, ?_⟩
  · rw [e1, getD_at _ (by omega)]; exact List.getElem_mem _
  · rw [e] at ms
    simp only [List.mem_map, List.mem_range] at ms
    obtain ⟨j, hj, rfl⟩ := ms
    have : (2 + i + j) % 12 < ns.length := by rw [nl]; exact Nat.mod_lt _ (by omega)
    rw [getD_at _ this]
    exact List.getElem_mem _
  · rw [e]
    exact rot_nd H.nms.nd (n := 12) (by omega) (2 + i) k (by omega) "" id fun _ _ _ _ h => h
theorem pr_each {hs : List Hd} {ns : List Str} {pr : List Fn} (H : Hds hs ns) (P : Pr hs pr) : ∀ f ∈ pr, FnG hs ns f := fun f m => by
  obtain ⟨i, hi⟩ := List.mem_iff_getElem?.mp m
  obtain ⟨hil, _⟩ := List.getElem?_eq_some_iff.mp hi
  have hil2 : i < hs.length := by have := P.len; omega
  have hh : hs[i]? = some hs[i] := List.getElem?_eq_getElem hil2
  obtain ⟨e1, e2, G⟩ := P.each i f _ hi hh
  have mh := List.mem_of_getElem? hh
  obtain ⟨a1, a2, a3, a4⟩ := hds_each H _ mh
  exact ⟨e1 ▸ a1, e2 ▸ a2, e2 ▸ a3, e2 ▸ a4, _, mh, e1, e2, G⟩
theorem pr_names {hs : List Hd} {ns : List Str} {pr : List Fn} (H : Hds hs ns) (P : Pr hs pr) : (pr.map Fn.nm).Nodup := by
  refine List.pairwise_map.mpr (List.pairwise_iff_getElem.mpr fun i j hi hj hij e => ?_)
  have nl := H.nms.len
  have l4 := H.len4
  have pl := P.len
  have gi : hs[i]? = some hs[i] := List.getElem?_eq_getElem (by omega)
  have gj : hs[j]? = some hs[j] := List.getElem?_eq_getElem (by omega)
  have ai := (P.each i _ _ (List.getElem?_eq_getElem hi) gi).1
  have aj := (P.each j _ _ (List.getElem?_eq_getElem hj) gj).1
  have bi := (H.each i _ gi).1
  have bj := (H.each j _ gj).1
  rw [ai, aj, bi, bj, getD_at _ (by omega), getD_at _ (by omega)] at e
  exact absurd (nd_inj H.nms.nd (by omega) (by omega) e) (by omega)
theorem pr_fnd {hs : List Hd} {ns : List Str} {pr : List Fn} (H : Hds hs ns) (P : Pr hs pr) : ∀ h ∈ hs, ∃ f, f ∈ pr ∧ f.nm = h.nm ∧ f.ps = h.ps := fun h m => by
  obtain ⟨i, hi⟩ := List.mem_iff_getElem?.mp m
  obtain ⟨hil, _⟩ := List.getElem?_eq_some_iff.mp hi
  have hil2 : i < pr.length := by have := P.len; omega
  have gi : pr[i]? = some pr[i] := List.getElem?_eq_getElem hil2
  obtain ⟨a, b, _⟩ := P.each i _ h gi hi
  exact ⟨pr[i], List.mem_of_getElem? gi, a, b⟩
theorem fng_ok {hs : List Hd} {ns : List Str} (N : Nms ns) {f : Fn} (G : FnG hs ns f) : FnOk' f := ⟨isNm_txt (N.nm _ G.nm), fun s m => isNm_txt (N.nm _ (G.ps s m)), by have := G.pl; omega⟩
theorem fng_ev {hs : List Hd} {ns : List Str} (H : Hds hs ns) {f : Fn} (G : FnG hs ns f) (pr : List Fn) (ps : List Str) : ∃ b, EvF pr ps 20 f.bd b := by
  obtain ⟨h, mh, _, _, g⟩ := G.hd
  exact ev_any (hds_ok H) pr ps 7 f.bd g 20
/-- the program is good -/
theorem base_good {hs : List Hd} {ns : List Str} {pr : List Fn} (H : Hds hs ns) (P : Pr hs pr) (j : Nat) (hj : 20 < j) : gGood j [.val (.tup (pr.map Fn.d))] = .im (.bl true) [.val (.tup (pr.map Fn.d))] := by
  have nd := pr_names H P
  have lk : ∀ h ∈ hs, ∃ f, fnd pr h.nm = some f ∧ f.ps.length = h.ps.length := fun h m => by
    obtain ⟨f, mf, e1, e2⟩ := pr_fnd H P h m
    exact ⟨f, e1 ▸ fnd_nd nd mf, by rw [e2]⟩
  have ne : pr ≠ [] := fun z => by have := H.len0; have := P.len; rw [z] at this; simp at this; omega
  have r := good_run (pr := pr) hj (fun _ => true) (by have := P.len; have := H.len4; omega) fun f m => by
    have G := pr_each H P f m
    obtain ⟨h, mh, e1, e2, g⟩ := G.hd
    exact ⟨fng_ok H.nms G, e2 ▸ ev_true (hds_ok H) pr lk 7 f.bd g 20 (by omega)⟩
  have e : goodP (fun _ => true) pr = true := by
    simp only [goodP, Bool.and_eq_true, decide_eq_true_eq, List.all_eq_true]
    refine ⟨⟨ne, nd⟩, fun f m => ?_⟩
    have G := pr_each H P f m
    have a : f.ps.all isNm = true := List.all_eq_true.mpr fun s ms => H.nms.nm s (G.ps s ms)
    simp [fnB, H.nms.nm _ G.nm, G.pl, G.nd, a]
  rw [e] at r
  exact r
end HFL

set_option Elab.async false
set_option linter.all false
set_option maxRecDepth 100000
set_option maxHeartbeats 4000000
set_option autoImplicit false
namespace HFL
open PySem PySem.Spec PyProof.Rows L2 HF
abbrev Y7 : List Str := ["ya", "yb", "yc", "yd", "ye", "yf", "yg"]
abbrev Y2 : List Str := ["ya", "ya"]
def Spoilt (pr : List Fn) : Prop := D.pureL (pr.map Fn.d) = true ∧ ∀ j, 20 < j → gGood j [.val (.tup (pr.map Fn.d))] = .im (.bl false) [.val (.tup (pr.map Fn.d))]
theorem fn_pure {f : Fn} (h : f.bd.pure = true) : f.d.pure = true := by
  have : D.pureL (strsD f.ps) = true := pureL_of fun d m => by
    obtain ⟨s, _, rfl⟩ := List.mem_map.mp m
    simp
  simp [Fn.d, h]
  exact this
section
variable {hs : List Hd} {ns : List Str} {pr : List Fn} (H : Hds hs ns) (P : Pr hs pr)
include H P
theorem pr_pure : ∀ f ∈ pr, f.bd.pure = true := fun f m => by
  obtain ⟨h, _, _, _, g⟩ := (pr_each H P f m).hd
  exact g.pure
/-- one function another one -/
theorem set_spoilt {k : Nat} (hk : k < pr.length) (f' : Fn) (hp : f'.bd.pure = true) (hf : FnOk' f') (he : ∃ b, EvF (pr.set k f') f'.ps 20 f'.bd b)
    (hb : isNm f'.nm = false ∨ 6 < f'.ps.length ∨ ¬ f'.ps.Nodup ∨ (∃ s, s ∈ f'.ps ∧ isNm s = false) ∨ EvF (pr.set k f') f'.ps 20 f'.bd false) : Spoilt (pr.set k f') := by
  have mem : ∀ f ∈ pr.set k f', f ∈ pr ∨ f = f' := fun f m => List.mem_or_eq_of_mem_set m
  refine ⟨pureL_of fun d m => ?_, fun j hj => bad_of (by simp; have := P.len; have := H.len4; omega) (fun f m => ?_) (.inr (.inr ⟨f', List.mem_of_getElem? (i := k) (by rw [List.getElem?_set_self hk]), hb⟩)) j hj⟩
  · obtain ⟨f, mf, rfl⟩ := List.mem_map.mp m
    rcases mem f mf with q | rfl
    · exact fn_pure (pr_pure H P f q)
    · exact fn_pure hp
  · rcases mem f m with q | rfl
    · exact ⟨fng_ok H.nms (pr_each H P f q), fng_ev H (pr_each H P f q) _ _⟩
    · exact ⟨hf, he⟩
theorem run_spoilt {J : Nat} (hJ : 7 ≤ J) (w c : Int) (w0 : 0 ≤ w) (w28 : w ≤ 28) : ∃ pr', runF 11 (b_law_spoilt (hOf J) (runF 3 b_law_with) (pOf (hOf J) J) (runF 4 b_law_odd) (runF 4 b_law_deep)) [.val (.tup (pr.map Fn.d)), .val (.lst (hs.map Hd.d)), .val (.int w), .val (.int c)] = .im (.tup (pr'.map Fn.d)) [.val (.tup (pr.map Fn.d)), .val (.lst (hs.map Hd.d)), .val (.int w), .val (.int c)] ∧ Spoilt pr' := by
  have pl := P.len
  have l0 := H.len0
  have l4 := H.len4
  have pl0 : (pr.length : Int) ≠ 0 := by omega
  have k0 : 0 ≤ c.fmod pr.length := Int.fmod_nonneg_of_pos _ (by omega)
  have k1 : c.fmod pr.length < pr.length := Int.fmod_lt_of_pos _ (by omega)
  obtain ⟨k, hk⟩ : ∃ k : Nat, c.fmod pr.length = k := ⟨(c.fmod pr.length).toNat, by omega⟩
  have kl : k < pr.length := by omega
  have gk : pr[k]? = some pr[k] := List.getElem?_eq_getElem kl
  have mk := List.mem_of_getElem? gk
  generalize hf : pr[k] = f at gk mk
  have G := pr_each H P f mk
  have F := fng_ok H.nms G
  obtain ⟨h, mh, hn, hps, gf⟩ := G.hd
  have fat : L2.atI (pr.map Fn.d) (k : Int) = some f.d := by
    rw [atI_nat (by omega) (by simp; omega) .non, Int.toNat_natCast, getD_at _ (by simpa using kl)]
    simp [hf]
  have hw := run_with (pr.map Fn.d) k (by simpa using kl) (by simp; omega)
  have mset : ∀ g : Fn, (pr.map Fn.d).set k g.d = (pr.set k g).map Fn.d := fun g => by rw [List.map_set]
  have evs := fun pr' ps' => fng_ev H G pr' ps'
  have Hok := hds_ok H
  obtain ⟨s, HS, s1, s9⟩ := ho_gf Hok 7 f.bd (by omega) gf
  obtain ⟨L, eL, lL, pL⟩ := HS J hJ
  have lm : (pr.map Fn.d).length = pr.length := by simp
  have pne : pr ≠ [] := by intro z; rw [z] at kl; simp at kl
  have lne : pr.map Fn.d ≠ [] := by intro z; have := congrArg List.length z; simp at this; rw [this] at kl; simp at kl
  have sl : (strsD f.ps).length = f.ps.length := by simp
  have pl6 := G.pl
  have fd : ∀ g : Fn, g.d = .tup [.str g.nm, .tup (strsD g.ps), g.bd] := fun g => rfl
  rw [fd] at fat
  by_cases q22 : w < 22
  · match hs, l0, H, P with
    | h0 :: rest, _, H, P =>
    obtain ⟨n0, _, p0, _⟩ := hds_each H h0 (by simp)
    obtain ⟨O, hO, mO⟩ := atI_lt (xs := ODD h0) w0 (by simp [ODD]; omega)
    obtain ⟨Op, Ob⟩ := odd_bad h0 O mO
    have ro := run_odd h0 (rest.map Hd.d) (H.nms.nm _ n0) p0 w O hO
    have s0 : (s : Int) ≠ 0 := by omega
    have sn : s ≠ 0 := by omega
    have a0 : 0 ≤ (c.fdiv 7).fmod s := Int.fmod_nonneg_of_pos _ (by omega)
    have a1 : (c.fdiv 7).fmod s < s := Int.fmod_lt_of_pos _ (by omega)
    obtain ⟨a, ha⟩ : ∃ a : Nat, (c.fdiv 7).fmod s = a := ⟨((c.fdiv 7).fmod s).toNat, by omega⟩
    obtain ⟨d', e', gb⟩ := put_gf (hds_ok H) Op (C := Cnd h0) Ob hJ 7 f.bd (by omega) gf s HS a (by omega) J hJ
    have W := hw (Fn.d ⟨f.nm, f.ps, d'⟩)
    rw [mset] at W
    refine ⟨pr.set k ⟨f.nm, f.ps, d'⟩, ?_, ?_⟩
    · simp only [fd] at W
      generalize (pr.set k ⟨f.nm, f.ps, d'⟩).map Fn.d = PD' at W
      rw [List.map_cons]
      generalize h0.d :: rest.map Hd.d = HD at ro ⊢
      generalize runF 3 b_law_with = fw at W
      generalize pOf (hOf J) J = fp at e'
      generalize hOf J = fh at eL
      generalize runF 4 b_law_odd = fo at ro
      generalize pr.map Fn.d = PD at W fat lm lne
      simp [b_law_spoilt, lm, lne, pne, pl0, hk, fat, q22, eL, lL, sn, ha, ro, e', W]
    · have mem : ∀ g ∈ pr.set k ⟨f.nm, f.ps, d'⟩, g.nm ∈ ns := fun g m => by
        rcases List.mem_or_eq_of_mem_set m with q | rfl
        · exact (pr_each H P g q).nm
        · exact G.nm
      have C : Cnd h0 (pr.set k ⟨f.nm, f.ps, d'⟩) f.ps := by
        refine ⟨fun m => H.nms.zz _ (G.ps _ m) rfl, fun m => H.nms.z _ (G.ps _ m) _ n0 rfl, fnd_none fun g m => H.nms.zz _ (mem g m), fnd_none fun g m e => ?_, ?_⟩
        · have := (isNm_res (H.nms.nm _ (mem g m))).1
          exact this (e ▸ by decide +kernel)
        · have nd : ((pr.set k ⟨f.nm, f.ps, d'⟩).map Fn.nm).Nodup := by
            have : (pr.set k ⟨f.nm, f.ps, d'⟩).map Fn.nm = pr.map Fn.nm := by
              rw [List.map_set]
              refine List.ext_getElem (by simp) fun i h1 h2 => ?_
              rw [List.getElem_set]
              split
              · rename_i z; subst z; simp [hf]
              · rfl
            rw [this]; exact pr_names H P
          obtain ⟨g, mg, e1, e2⟩ := pr_fnd H P h0 (by simp)
          obtain ⟨i, hi⟩ := List.mem_iff_getElem?.mp mg
          by_cases z : i = k
          · subst z
            rw [gk] at hi
            cases hi
            have mm : (⟨f.nm, f.ps, d'⟩ : Fn) ∈ pr.set i ⟨f.nm, f.ps, d'⟩ := List.mem_of_getElem? (i := i) (by rw [List.getElem?_set_self kl])
            have q := fnd_nd nd mm
            rw [← e1]
            exact ⟨_, q, by show f.ps.length = _; rw [e2]⟩
          · have mm : g ∈ pr.set k ⟨f.nm, f.ps, d'⟩ := List.mem_of_getElem? (i := i) (by rw [List.getElem?_set_ne (fun z' => z z'.symm)]; exact hi)
            have q := fnd_nd nd mm
            rw [← e1]
            exact ⟨_, q, by rw [e2]⟩
      have ev := gb.2 _ _ C 20
      exact set_spoilt H P kl ⟨f.nm, f.ps, d'⟩ gb.1 ⟨F.nm, F.ps, F.len⟩ ⟨_, ev⟩ (.inr (.inr (.inr (.inr ev))))
  have W := fun g => (hw (Fn.d g)).trans (by rw [mset])
  simp only [fd] at W
  have V0 : Vl (.int 0) := Vl.int (by omega) (by omega)
  have D21 := run_deep 21 (by omega) (by omega)
  simp only [Int.cast_ofNat_Int] at D21
  obtain ⟨dp, de⟩ := deep_ev 21 (21 - 1)
  generalize deepN 21 (21 - 1) = dd at D21 dp de
  have d7 : pr.length + 1 ≤ 16777216 := by omega
  have p7 : f.ps.length + 7 ≤ 16777216 := by omega
  have p2 : f.ps.length + 2 ≤ 16777216 := by omega
  have p1 : f.ps.length + 1 ≤ 16777216 := by omega
  have txt : ∀ s : Str, s ∈ (["ya", "yb", "yc", "yd", "ye", "yf", "yg", "same", "Ab", "", "if", "list", "A", "ninesigns", "1a", "refuse", "a-b"] : List Str) → PyData.strOk s = true ∧ s.length ≤ 16777216 := by decide +kernel
  have bad8 : ∀ s : Str, s ∈ (["same", "Ab", "", "if", "list", "A", "ninesigns", "1a", "refuse", "a-b"] : List Str) → isNm s = false := by decide +kernel
  by_cases q : w = 22
  · subst q
    have e22 : (pr ++ [⟨f.nm, [], valF (.int 0)⟩] : List Fn).map Fn.d = pr.map Fn.d ++ [.tup [.str f.nm, .tup [], .tup [.str "value", .int 0]]] := by simp [Fn.d, valF]
    refine ⟨pr ++ [⟨f.nm, [], valF (.int 0)⟩], ?_, ?_, fun j hj => bad_of (by simp; omega) (fun g m => ?_) (.inr (.inl fun nd => ?_)) j hj⟩
    · rw [e22]
      generalize pr.map Fn.d = PD at fat lm lne
      simp [b_law_spoilt, lm, lne, pne, pl0, hk, fat, d7]
    · refine pureL_of fun d m => ?_
      obtain ⟨g, mg, rfl⟩ := List.mem_map.mp m
      rcases List.mem_append.mp mg with z | z
      · exact fn_pure (pr_pure H P g z)
      · rw [List.mem_singleton.mp z]; exact fn_pure (by simp [valF])
    · rcases List.mem_append.mp m with z | z
      · exact ⟨fng_ok H.nms (pr_each H P g z), fng_ev H (pr_each H P g z) _ _⟩
      · rw [List.mem_singleton.mp z]
        exact ⟨⟨F.nm, by simp, by simp⟩, ev_any Hok _ _ 1 _ (GF.val (hs := hs) (names := []) (known := []) V0) 20⟩
    · rw [List.map_append, List.nodup_append] at nd
      exact nd.2.2 f.nm (List.mem_map.mpr ⟨f, mk, rfl⟩) f.nm (by simp) rfl
  by_cases q3 : w = 23
  · subst q3
    refine ⟨[], ?_, by simp, fun j hj => bad_of (by simp) (by simp) (.inl rfl) j hj⟩
    generalize pr.map Fn.d = PD at fat lm lne
    simp [b_law_spoilt, lm, lne, pne, pl0, hk, fat]
  by_cases q4 : w = 24
  · subst q4
    obtain ⟨d, hat, md⟩ := at_list (strsD ["if", "list", "A", "", "ninesigns", "1a", "refuse", "a-b"]) (c.fdiv 7) 8 (by omega) (by simp)
    obtain ⟨s, ms, rfl⟩ := List.mem_map.mp md
    have ms2 : s ∈ (["same", "Ab", "", "if", "list", "A", "ninesigns", "1a", "refuse", "a-b"] : List Str) := by
      simp only [List.mem_cons, List.not_mem_nil, or_false] at ms ⊢
      rcases ms with z | z | z | z | z | z | z | z <;> simp [z]
    have ms3 := txt s (by
      simp only [List.mem_cons, List.not_mem_nil, or_false] at ms ⊢
      rcases ms with z | z | z | z | z | z | z | z <;> simp [z])
    have W' := W ⟨s, f.ps, f.bd⟩
    refine ⟨pr.set k ⟨s, f.ps, f.bd⟩, ?_, set_spoilt H P kl _ (pr_pure H P f mk) ⟨⟨ms3.1, ms3.2⟩, F.ps, F.len⟩ (evs _ _) (.inl (bad8 s ms2))⟩
    generalize (pr.set k ⟨s, f.ps, f.bd⟩).map _ = PD' at W' ⊢
    generalize pr.map Fn.d = PD at W' fat lm lne
    generalize runF 3 b_law_with = fw at W'
    simp only [strsD, List.map_cons, List.map_nil] at hat
    simp only [strsD] at W' fat
    simp [b_law_spoilt, lm, lne, pne, pl0, hk, fat, hat, W']
  have step : ∀ (qs : List Str), (∀ s ∈ qs, Txt s) → qs.length ≤ 7 → 6 < (f.ps ++ qs).length ∨ ¬ (f.ps ++ qs).Nodup ∨ (∃ s, s ∈ f.ps ++ qs ∧ isNm s = false) → Spoilt (pr.set k ⟨f.nm, f.ps ++ qs, f.bd⟩) := fun qs hq hl hb => by
    refine set_spoilt H P kl ⟨f.nm, f.ps ++ qs, f.bd⟩ (pr_pure H P f mk) ⟨F.nm, fun s m => ?_, by simp; omega⟩ (evs _ _) ?_
    · rcases List.mem_append.mp m with z | z
      · exact F.ps s z
      · exact hq s z
    · rcases hb with z | z | z
      · exact .inr (.inl z)
      · exact .inr (.inr (.inl z))
      · exact .inr (.inr (.inr (.inl z)))
  have ap : ∀ qs : List Str, strsD (f.ps ++ qs) = strsD f.ps ++ strsD qs := fun qs => by simp [strsD]
  by_cases q5 : w = 25
  · subst q5
    have W' := W ⟨f.nm, f.ps ++ Y7, f.bd⟩
    refine ⟨_, ?_, step Y7 (fun s m => ?_) (by simp) (.inl (by simp))⟩
    · simp only [ap] at W'
      generalize (pr.set k ⟨f.nm, f.ps ++ Y7, f.bd⟩).map _ = PD' at W' ⊢
      generalize pr.map Fn.d = PD at W' fat lm lne
      generalize runF 3 b_law_with = fw at W'
      generalize strsD f.ps = PS at W' fat sl
      simp only [strsD, List.map_cons, List.map_nil] at W'
      simp [b_law_spoilt, lm, lne, pne, pl0, hk, fat, sl, p7, W']
    · have := txt s (by simp only [List.mem_cons, List.not_mem_nil, or_false] at m ⊢; rcases m with z | z | z | z | z | z | z <;> simp [z])
      exact ⟨this.1, this.2⟩
  by_cases q6 : w = 26
  · subst q6
    have W' := W ⟨f.nm, f.ps ++ Y2, f.bd⟩
    refine ⟨_, ?_, step Y2 (fun s m => ?_) (by simp) (.inr (.inl (by rw [List.nodup_append]; simp)))⟩
    · simp only [ap] at W'
      generalize (pr.set k ⟨f.nm, f.ps ++ Y2, f.bd⟩).map _ = PD' at W' ⊢
      generalize pr.map Fn.d = PD at W' fat lm lne
      generalize runF 3 b_law_with = fw at W'
      generalize strsD f.ps = PS at W' fat sl
      simp only [strsD, List.map_cons, List.map_nil] at W'
      simp [b_law_spoilt, lm, lne, pne, pl0, hk, fat, sl, p2, W']
    · have := txt s (by simp only [List.mem_cons, List.not_mem_nil, or_false] at m ⊢; rcases m with z | z <;> simp [z])
      exact ⟨this.1, this.2⟩
  by_cases q7 : w = 27
  · subst q7
    obtain ⟨d, hat, md⟩ := at_list (strsD ["same", "Ab", "", "if"]) (c.fdiv 7) 4 (by omega) (by simp)
    obtain ⟨s, ms, rfl⟩ := List.mem_map.mp md
    have ms2 : s ∈ (["same", "Ab", "", "if", "list", "A", "ninesigns", "1a", "refuse", "a-b"] : List Str) := by
      simp only [List.mem_cons, List.not_mem_nil, or_false] at ms ⊢
      rcases ms with z | z | z | z <;> simp [z]
    have ms3 := txt s (by
      simp only [List.mem_cons, List.not_mem_nil, or_false] at ms ⊢
      rcases ms with z | z | z | z <;> simp [z])
    have W' := W ⟨f.nm, f.ps ++ [s], f.bd⟩
    refine ⟨_, ?_, step [s] (fun s' m => ?_) (by simp) (.inr (.inr ⟨s, by simp, bad8 s ms2⟩))⟩
    · simp only [ap] at W'
      generalize (pr.set k ⟨f.nm, f.ps ++ [s], f.bd⟩).map _ = PD' at W' ⊢
      generalize pr.map Fn.d = PD at W' fat lm lne
      generalize runF 3 b_law_with = fw at W'
      generalize strsD f.ps = PS at W' fat sl
      simp only [strsD, List.map_cons, List.map_nil] at W' hat
      simp [b_law_spoilt, lm, lne, pne, pl0, hk, fat, sl, p1, hat, W']
    · rw [List.mem_singleton.mp m]; exact ⟨ms3.1, ms3.2⟩
  · have W' := W ⟨f.nm, f.ps, dd⟩
    refine ⟨pr.set k ⟨f.nm, f.ps, dd⟩, ?_, set_spoilt H P kl ⟨f.nm, f.ps, dd⟩ dp ⟨F.nm, F.ps, F.len⟩ ⟨_, de _ _ 20⟩ (.inr (.inr (.inr (.inr (de _ _ 20)))))⟩
    generalize (pr.set k ⟨f.nm, f.ps, dd⟩).map _ = PD' at W' ⊢
    generalize pr.map Fn.d = PD at W' fat lm lne
    generalize runF 3 b_law_with = fw at W'
    generalize runF 4 b_law_deep = fdp at D21
    simp [b_law_spoilt, lm, lne, pne, pl0, hk, fat, q22, q, q3, q4, q5, q6, q7, D21, W']
end
end HFL

set_option Elab.async false
set_option linter.all false
set_option maxRecDepth 100000
set_option maxHeartbeats 4000000
set_option autoImplicit false
namespace HFL
open PySem PySem.Spec PyProof.Rows L2 HF
theorem truth_run (a b : Bool) : runF 2 b_law_truth [.val (.bl a), .val (.bl b)] = .im (.bl (decide (a = b))) [.val (.bl a), .val (.bl b)] := by
  cases a <;> cases b <;> simp [b_law_truth]
theorem inB_lst (s : Str) (ss : List Str) : D.inB (.str s) (.lst (strsD ss)) = some (decide (s ∈ ss)) := by
  have h := inB_strs s ss
  have f : (strsD ss).all D.flat = true := by simp
  simp only [D.inB, f, Bool.and_true] at h ⊢
  simpa using h
def WDS : List Str := ["plus", "minus", "times", "over", "less", "same", "join", "first", "rest", "empty", "down", "list"]
theorem wds_mem (s : Str) : s ∈ WDS ↔ s ∈ OPSL := by
  simp only [WDS, OPSL, List.mem_cons, List.not_mem_nil, or_false]
  constructor <;> (rintro (h | h | h | h | h | h | h | h | h | h | h | h) <;> simp [h])
theorem inS (c : Nat) : D.inB (.str ⟨#[c]⟩) (.str (Str.ofString "abcdefghijklmnopqrstuvwxyz0123456789")) = some (letC c || figC c) := by rw [← sign_mem]; rfl
theorem run_law_is_name (s : Str) (h : Txt s) : runF 3 b_law_is_name [.val (.str s)] = .im (.bl (isNm s)) [.val (.str s)] := by
  have sl := str_len s
  have sz : s.cps.toList.length = s.cps.size := Array.length_toList
  have hl := h.len
  have om := res_iff s
  have io := inB_lst s WDS
  have i3 := inB_strs s ["if", "refuse", ""]
  have lc := lcL_filter (i := 2) (T := T0_law_is_name) (E := E0_law_is_name) (fun d => match d with | .str t => (match t.cps.toList with | [c] => !(letC c || figC c) | _ => false) | _ => false) id (e := [.val (.str s), .own (.lst (strsD WDS)), .non]) rfl (s.cps.toList.map fun c => D.str ⟨#[c]⟩) [] (by simp; rw [← Array.length_toList, ← sl]; exact hl) (fun d m => by
    obtain ⟨c, mc, rfl⟩ := List.mem_map.mp m
    generalize strsD WDS = L
    cases h : letC c <;> cases h2 : figC c <;> simp [T0_law_is_name, -D.inB, inS, h, h2]) (fun d m hd => by
    generalize strsD WDS = L
    simp [E0_law_is_name])
  have em : ((((s.cps.toList.map fun c => D.str ⟨#[c]⟩).filter fun d => match d with | .str t => (match t.cps.toList with | [c] => !(letC c || figC c) | _ => false) | _ => false).map id).length = 0) ↔ (s.cps.toList.all fun c => letC c || figC c) = true := by
    rw [List.length_map, List.length_eq_zero_iff, List.filter_eq_nil_iff, List.all_eq_true]
    constructor
    · intro q c mc
      have := q (.str ⟨#[c]⟩) (List.mem_map.mpr ⟨c, mc, rfl⟩)
      cases h1 : letC c <;> cases h2 : figC c <;> simp [h1, h2] at this ⊢
    · intro q d m
      obtain ⟨c, mc, rfl⟩ := List.mem_map.mp m
      have := q c mc
      cases h1 : letC c <;> cases h2 : figC c <;> simp [h1, h2] at this ⊢
  generalize (((s.cps.toList.map fun c => D.str ⟨#[c]⟩).filter fun d => match d with | .str t => (match t.cps.toList with | [c] => !(letC c || figC c) | _ => false) | _ => false).map id) = R at lc em
  simp only [Tg.F, List.nil_append] at lc
  have wm := wds_mem s
  have nf : isNm s = (decide (1 ≤ s.length) && decide (s.length ≤ 8) && (match s.cps.toList with | c :: _ => letC c | [] => false) && (s.cps.toList.all fun c => letC c || figC c) && !decide (s ∈ OPSL ∨ s = "if" ∨ s = "refuse")) := by
    simp only [isNm, isNmL, ← sl]
    rw [show decide (s.cps.toList ∈ resN) = decide (s ∈ OPSL ∨ s = "if" ∨ s = "refuse") from decide_eq_decide.mpr om]
    all_goals (cases s.cps.toList <;> rfl)
  have L : strsD WDS = [.str "plus", .str "minus", .str "times", .str "over", .str "less", .str "same", .str "join", .str "first", .str "rest", .str "empty", .str "down", .str "list"] := rfl
  simp only [L] at lc io
  by_cases h1 : s ∈ WDS
  · have : isNm s = false := by rw [nf]; simp [wm.mp h1]
    rw [this]
    simp [b_law_is_name, -D.inB, io, h1]
  by_cases h2 : s ∈ (["if", "refuse", ""] : List Str)
  · have : isNm s = false := by
      rw [nf]
      simp only [List.mem_cons, List.not_mem_nil, or_false] at h2
      rcases h2 with rfl | rfl | rfl
      · simp
      · simp
      · have : (Str.ofString "").length = 0 := by decide +kernel
        rw [this]; simp
    rw [this]
    rw [decide_eq_true h2] at i3
    simp only [strsD, List.map_cons, List.map_nil] at i3
    simp [b_law_is_name, -D.inB, io, h1, i3]
  by_cases h8 : s.length ≤ 8
  · have h8' : ¬ (8 : Int) < s.length := by omega
    have ne : s ≠ "" := by simp at h2; exact h2.2.2
    have ni : s ≠ "if" := by simp at h2; exact h2.1
    have nr : s ≠ "refuse" := by simp at h2; exact h2.2.1
    cases hcp : s.cps.toList with
    | nil => exact absurd (str_ext (s := s) (t := "") (by rw [hcp]; decide +kernel)) ne
    | cons c cs =>
      have at0 : L2.atI s.cps.toList 0 = some c := by rw [hcp, atI_nat (by omega) (by simp) 0]; rfl
      have l1 : 1 ≤ s.length := by rw [sl, hcp]; simp
      rw [decide_eq_false h2] at i3
      simp only [strsD, List.map_cons, List.map_nil] at i3
      have nO : ¬ (s ∈ OPSL ∨ s = "if" ∨ s = "refuse") := fun z => z.elim (fun q => h1 (wm.mpr q)) fun z => z.elim ni nr
      cases hf : figC c with
      | true =>
        have lc0 : letC c = false := by
          simp only [figC, letC, Bool.and_eq_true, decide_eq_true_eq] at hf ⊢
          simp; omega
        have : isNm s = false := by rw [nf, hcp]; simp [lc0]
        rw [this]
        simp [b_law_is_name, -D.inB, io, h1, i3, h8', hl, at0, inF, hf]
      | false =>
        have : isNm s = (s.cps.toList.all fun c => letC c || figC c) := by
          rw [nf, decide_eq_true l1, decide_eq_true h8, decide_eq_false nO, hcp]
          simp [hf]
        rw [this]
        have e0 : D.eqB (.int R.length) (.int 0) = some (s.cps.toList.all fun c => letC c || figC c) := by
          simp only [D.eqB]
          congr 1
          rw [Bool.eq_iff_iff, decide_eq_true_eq, ← em]
          omega
        simp [b_law_is_name, -D.inB, io, h1, i3, h8', hl, at0, inF, hf, -lcL, lc, -D.eqB, e0]
  · have : isNm s = false := by rw [nf]; simp [h8]
    have h8' : (8 : Int) < s.length := by omega
    rw [this]
    rw [decide_eq_false h2] at i3
    simp only [strsD, List.map_cons, List.map_nil] at i3
    simp [b_law_is_name, -D.inB, io, h1, i3, h8', hl]
def TXS : List Str := ["plus", "rest", "if", "refuse", "", "ab9", "abcdefgh", "abcdefghi", "9a", "a_b", "listx", "ifs", "a", "refuses"]
theorem txs_ok : ∀ s ∈ TXS, PyData.strOk s = true ∧ s.length ≤ 16777216 := by decide +kernel
theorem a_cps : (Str.ofString "a").cps.toList = [97] := by decide +kernel
theorem run_text (c : Int) : ∃ s, runF 5 b_law_text [.val (.int c)] = .im (.str s) [.val (.int c)] ∧ Txt s := by
  by_cases h : c.fmod 2 = 0
  · obtain ⟨d, hat, md⟩ := at_list (strsD TXS) (c.fdiv 2) 14 (by omega) (by simp [TXS])
    obtain ⟨s, ms, rfl⟩ := List.mem_map.mp md
    refine ⟨s, ?_, (txs_ok s ms).1, (txs_ok s ms).2⟩
    simp only [strsD, TXS, List.map_cons, List.map_nil] at hat
    simp [b_law_text, h, hat]
  · have s0 : 0 ≤ (c.fdiv 2).fmod 9 := Int.fmod_nonneg_of_pos _ (by omega)
    have s1 : (c.fdiv 2).fmod 9 < 9 := Int.fmod_lt_of_pos _ (by omega)
    obtain ⟨z, hz, z1, z9⟩ : ∃ z : Int, 1 + (c.fdiv 2).fmod 9 = z ∧ 1 ≤ z ∧ z ≤ 9 := ⟨_, rfl, by omega, by omega⟩
    have p0 : 0 ≤ (c.fdiv 306).fmod z := Int.fmod_nonneg_of_pos _ (by omega)
    have p1 : (c.fdiv 306).fmod z < z := Int.fmod_lt_of_pos _ (by omega)
    obtain ⟨b, hb⟩ : ∃ b : Nat, (c.fdiv 306).fmod z = b := ⟨((c.fdiv 306).fmod z).toNat, by omega⟩
    obtain ⟨a, ha⟩ : ∃ a : Nat, z - 1 - b = a := ⟨(z - 1 - b).toNat, by omega⟩
    have zn : z ≠ 0 := by omega
    have sl17 : (Str.ofString "abz059{`@/: AZ-_.").cps.toList.length = 17 := by decide +kernel
    have sok : ∀ x ∈ (Str.ofString "abz059{`@/: AZ-_.").cps.toList, x < 0x110000 := by decide +kernel
    have sl2 : (Str.ofString "abz059{`@/: AZ-_.").length ≤ 16777216 := by decide +kernel
    obtain ⟨x, hx, mx⟩ := at_list (Str.ofString "abz059{`@/: AZ-_.").cps.toList (c.fdiv 18) 17 (by omega) (by omega)
    have xok := sok x mx
    have al : (Str.ofString "a").length ≤ 100 := by decide +kernel
    have l1 : (repS (Str.ofString "a") b).length + (⟨#[x]⟩ : Str).length ≤ 16777216 := by simp [str_len, repS, a_cps]; omega
    have l2 : (repS (Str.ofString "a") b ++ (⟨#[x]⟩ : Str)).length + (repS (Str.ofString "a") a).length ≤ 16777216 := by simp [str_len, str_app, repS, a_cps]; omega
    have b1 : (b : Int) ≤ 100000 := by omega
    have b2 : b ≤ 100000 := by omega
    have a1 : (a : Int) ≤ 100000 := by omega
    have a2 : a ≤ 100000 := by omega
    refine ⟨repS (Str.ofString "a") b ++ ⟨#[x]⟩ ++ repS (Str.ofString "a") a, ?_, ?_, ?_⟩
    · simp [b_law_text, h, hz, zn, hb, ha, hx, sl2, al, l1, l2, b1, b2, a1, a2]
    · simp only [PyData.strOk]
      rw [← Array.all_toList, List.all_eq_true]
      simp only [str_app, repS, a_cps]
      intro y my
      simp at my
      simp
      rcases my with q | q | q <;> omega
    · simp only [str_len, str_app, repS, a_cps]
      simp
      omega
end HFL

set_option Elab.async false
set_option linter.all false
set_option maxRecDepth 100000
set_option maxHeartbeats 4000000
set_option autoImplicit false
namespace HFL
open PySem PySem.Spec PyProof.Rows L2 HF
/-! ### the sure programs -/
def XF : D := nmF "x"
def GOODS : List D := [XF, rfF "NoList", deepN 20 19, clF "a" [XF], doF "list" (List.replicate 8 XF), valF (.tup (List.replicate 49 (.int 0)))]
def BADS : List D := [deepN 21 20, clF "a" [], clF "a" [XF, XF], doF "list" (List.replicate 9 XF), nmF "y", valF (.tup (List.replicate 50 (.int 0))), rfF "TooLong", clF "b" [XF], doF "plus" [XF], .tup [.str "if", XF, XF]]
theorem goods_in : ∀ d ∈ GOODS, D.inB d (.lst GOODS) = some true := by decide +kernel
theorem bads_in : ∀ d ∈ BADS, D.inB d (.lst GOODS) = some false := by decide +kernel
abbrev pr1 (ps : List Str) (d : D) : List Fn := [⟨"a", ps, d⟩]
theorem letters_ok : ∀ s ∈ (["a", "x", "b", "c", "d", "e", "f", "g"] : List Str), isNm s = true := by decide +kernel
theorem ev_leaf {pr : List Fn} {ns : List Str} {d : D} {b : Bool} (h : HB pr ns d b) (hp : PO d []) (m : Nat) : EvF pr ns (m + 1) d b := by
  cases b with
  | false => exact ev_bad h _
  | true => simpa using ev_step h hp (by simp) m (fun _ => true) (by simp)
theorem one_good {j : Nat} (hj : 20 < j) {ps : List Str} (hp : ∀ s ∈ ps, isNm s = true) (hl : ps.length < 1000) {d : D} {b : Bool} (h : EvF (pr1 ps d) ps 20 d b) :
    gGood j [.val (.tup [.tup [.str "a", .tup (strsD ps), d]])] = .im (.bl (decide (ps.length ≤ 6) && decide ps.Nodup && b)) [.val (.tup [.tup [.str "a", .tup (strsD ps), d]])] := by
  have na := letters_ok "a" (by simp)
  have r := good_run (pr := pr1 ps d) hj (fun _ => b) (by simp) fun f m => by
    rw [List.mem_singleton.mp m]
    exact ⟨⟨isNm_txt na, fun s ms => isNm_txt (hp s ms), hl⟩, h⟩
  have e : goodP (fun _ => b) (pr1 ps d) = (decide (ps.length ≤ 6) && decide ps.Nodup && b) := by
    have a : ps.all isNm = true := List.all_eq_true.mpr hp
    simp [goodP, fnB, na, a]
  rw [e] at r
  exact r
theorem x_ev (d : D) (m : Nat) : EvF (pr1 ["x"] d) ["x"] (m + 1) XF true := by
  have h := hb_nm (pr1 ["x"] d) ["x"] "x"
  rw [show decide ((Str.ofString "x") ∈ (["x"] : List Str)) = true by simp] at h
  exact ev_leaf h (po_leaf (.inr (.inl ⟨_, rfl⟩))) m
theorem rep_vl (n : Nat) : okV (.tup (List.replicate n (.int 0))) = decide (n ≤ 49) ∧ thg (.tup (List.replicate n (.int 0))) = true ∧ (D.tup (List.replicate n (.int 0))).wt = n + 1 := by
  have w := wtL_ints n 0
  rw [flat_rep] at w
  have g : goodL (List.replicate n (.int 0)) = true := by
    rw [goodL_all, List.all_eq_true]
    intro d m
    rw [List.eq_of_mem_replicate m]
    simp [good, whole, big]
  refine ⟨?_, ?_, by rw [D.wt_tup, w]; omega⟩
  · simp only [okV, good_tup, g, D.wt_tup, w, Bool.true_and]
    rw [decide_eq_decide]; omega
  · rw [thg_tup]
    exact thgL_of fun d m => by rw [List.eq_of_mem_replicate m]; simp [thg, leafy]
theorem goods_ev : ∀ d ∈ GOODS, EvF (pr1 ["x"] d) ["x"] 20 d true := by
  have cast : ∀ {pr : List Fn} {ns : List Str} {d : D} {b : Bool}, HB pr ns d b → b = true → HB pr ns d true := fun h e => e ▸ h
  have all1 : ∀ (pr : List Fn) (ns : List Str) (d : D) (l : List D), HB pr ns d true → PO d l → l.length ≤ 1000 → (∀ x ∈ l, EvF pr ns 19 x true) → EvF pr ns 20 d true := fun pr ns d l h hp hl hx => by
    have r := ev_step h hp hl 19 (fun _ => true) hx
    rwa [List.all_eq_true.mpr (fun _ _ => rfl)] at r
  intro d m
  simp only [GOODS, List.mem_cons, List.not_mem_nil, or_false] at m
  rcases m with rfl | rfl | rfl | rfl | rfl | rfl
  · exact x_ev _ 19
  · exact ev_leaf (cast (hb_rf _ _ _) (by decide +kernel)) (po_leaf (.inr (.inr ⟨_, rfl⟩))) 19
  · have := (deep_ev 20 19).2 (pr1 ["x"] (deepN 20 19)) ["x"] 20
    simpa using this
  · exact all1 _ _ _ [XF] (cast (hb_cl _ _ _ _) (by simp [fnd])) (po_cl _ _ (by simp)) (by simp) fun x m => by rw [List.mem_singleton.mp m]; exact x_ev _ 18
  · exact all1 _ _ _ (List.replicate 8 XF) (cast (hb_do _ _ "list" (List.replicate 8 XF)) (by rw [List.length_replicate]; decide +kernel)) (po_do _ _ (by simp)) (by simp) fun x m => by rw [List.eq_of_mem_replicate m]; exact x_ev _ 18
  · obtain ⟨a, b, c⟩ := rep_vl 49
    exact ev_leaf (cast (hb_val _ _ b (by omega)) (by rw [a]; simp)) (po_leaf (.inl ⟨_, rfl⟩)) 19
theorem bads_ev : ∀ d ∈ BADS, EvF (pr1 ["x"] d) ["x"] 20 d false := by
  have cast : ∀ {pr : List Fn} {ns : List Str} {d : D} {b : Bool}, HB pr ns d b → b = false → EvF pr ns 20 d false := fun h e => ev_bad (e ▸ h) 20
  intro d m
  simp only [BADS, List.mem_cons, List.not_mem_nil, or_false] at m
  rcases m with rfl | rfl | rfl | rfl | rfl | rfl | rfl | rfl | rfl | rfl
  · have := (deep_ev 21 20).2 (pr1 ["x"] (deepN 21 20)) ["x"] 20
    simpa using this
  · exact cast (hb_cl _ _ _ _) (by simp [fnd])
  · exact cast (hb_cl _ _ _ _) (by simp [fnd])
  · exact cast (hb_do _ _ "list" (List.replicate 9 XF)) (by rw [List.length_replicate]; decide +kernel)
  · exact cast (hb_nm _ _ _) (by decide +kernel)
  · obtain ⟨a, b, c⟩ := rep_vl 50
    exact cast (hb_val _ _ b (by omega)) (by rw [a]; simp)
  · exact cast (hb_rf _ _ _) (by decide +kernel)
  · exact cast (hb_cl _ _ "b" _) (by simp +decide [fnd])
  · exact cast (hb_do _ _ "plus" [XF]) (by show (_ && takesB _ 1) = false; decide +kernel)
  · exact cast (hb_if _ _ [XF, XF]) (by simp)
theorem sure_each {j : Nat} (hj : 20 < j) : ∀ d ∈ GOODS ++ BADS, ∃ b, gGood j [.val (.tup [.tup [.str "a", .tup [.str "x"], d]])] = .im (.bl b) [.val (.tup [.tup [.str "a", .tup [.str "x"], d]])] ∧ D.inB d (.lst GOODS) = some b := by
  intro d m
  have lx : ∀ s ∈ (["x"] : List Str), isNm s = true := fun s ms => letters_ok s (by simp only [List.mem_cons, List.not_mem_nil, or_false] at ms ⊢; simp [ms])
  rcases List.mem_append.mp m with m | m
  · have r := one_good hj lx (by simp) (goods_ev d m)
    exact ⟨true, by simpa using r, goods_in d m⟩
  · have r := one_good hj lx (by simp) (bads_ev d m)
    exact ⟨false, by simpa using r, bads_in d m⟩
def SIX : List Str := ["x", "b", "c", "d", "e", "f"]
def SIX7 : List Str := ["x", "b", "c", "d", "e", "f", "g"]
theorem run_sure {j : Nat} (hj : 20 < j) : runF 6 (b_law_sure (runF 4 b_law_deep) (gGood j)) [] = .im (.bl true) [] := by
  have se := sure_each hj
  have d20 := run_deep 20 (by omega) (by omega)
  have d21 := run_deep 21 (by omega) (by omega)
  simp only [Int.cast_ofNat_Int] at d20 d21
  have e20 : (20 - 1 : Nat) = 19 := rfl
  have e21 : (21 - 1 : Nat) = 20 := rfl
  rw [e20] at d20
  rw [e21] at d21
  have six : ∀ s ∈ SIX, isNm s = true := fun s ms => letters_ok s (by simp only [SIX, List.mem_cons, List.not_mem_nil, or_false] at ms ⊢; rcases ms with z | z | z | z | z | z <;> simp [z])
  have six7 : ∀ s ∈ SIX7, isNm s = true := fun s ms => letters_ok s (by simp only [SIX7, List.mem_cons, List.not_mem_nil, or_false] at ms ⊢; rcases ms with z | z | z | z | z | z | z <;> simp [z])
  have xx : ∀ s ∈ (["x", "x"] : List Str), isNm s = true := fun s ms => letters_ok s (by simp only [List.mem_cons, List.not_mem_nil, or_false] at ms ⊢; rcases ms with z | z <;> simp [z])
  have xin : ∀ (ps : List Str) (pr : List Fn), (Str.ofString "x") ∈ ps → EvF pr ps 20 XF true := fun ps pr hx => by
    have h := hb_nm pr ps "x"
    rw [decide_eq_true hx] at h
    exact ev_leaf h (po_leaf (.inr (.inl ⟨_, rfl⟩))) 19
  have g1 := one_good hj six (by simp [SIX]) (xin SIX _ (by simp [SIX]))
  have g2 := one_good hj six7 (by simp [SIX7]) (xin SIX7 _ (by simp [SIX7]))
  have g3 := one_good hj xx (by simp) (xin ["x", "x"] _ (by simp))
  have sixnd : SIX.Nodup := by decide +kernel
  have g4 := bad_of (pr := [⟨"a", ["x"], XF⟩, ⟨"a", [], valF (.int 1)⟩]) (by simp) (fun f m => by
    have ta := isNm_txt (letters_ok "a" (by simp))
    have tx := isNm_txt (letters_ok "x" (by simp))
    simp only [List.mem_cons, List.not_mem_nil, or_false] at m
    rcases m with rfl | rfl
    · exact ⟨⟨ta, by simpa using tx, by simp⟩, true, xin ["x"] _ (by simp)⟩
    · have V := Vl.int (i := 1) (by omega) (by omega)
      exact ⟨⟨ta, by simp, by simp⟩, _, ev_leaf (hb_val _ _ V.th (by have := V.wt; omega)) (po_leaf (.inl ⟨_, rfl⟩)) 19⟩) (.inr (.inl (by simp))) j hj
  rw [show decide (SIX.length ≤ 6) = true from rfl, decide_eq_true sixnd] at g1
  rw [show decide (SIX7.length ≤ 6) = false from rfl] at g2
  rw [show decide ((["x", "x"] : List Str).Nodup) = false by simp] at g3
  simp only [strsD, SIX, SIX7, List.map_cons, List.map_nil, List.cons_append, List.nil_append, Fn.d, Bool.and_true, Bool.false_and, Bool.and_false] at g1 g2 g3 g4
  generalize gGood j = gg at se g1 g2 g3 g4
  obtain ⟨e', h1, y, hy, rfl⟩ := forL_nx (TF := Tg.F (.nm 4)) (S := L0_law_sure (runF 4 b_law_deep) gg) (fun dn e => ∃ y, nio y ∧ e = [.val XF, .val (rfF "NoList"), .own (.lst GOODS), .own (.lst BADS), y, .non]) (GOODS ++ BADS) (fun dn d rest e hall ⟨y, hy, he⟩ => by
    subst he
    obtain ⟨b, hb, hi⟩ := se d (by rw [hall]; simp)
    refine ⟨[.val XF, .val (rfF "NoList"), .own (.lst GOODS), .own (.lst BADS), .val d, .non], _, by simp [-isIo, hy], ?_, .val d, rfl, rfl⟩
    generalize GOODS = GG at hi
    cases b <;> simp [L0_law_sure, hb, -D.inB, hi]) [.val XF, .val (rfF "NoList"), .own (.lst GOODS), .own (.lst BADS), .non, .non] ⟨.non, rfl, rfl⟩
  have r8 : (List.replicate 8 [XF]).flatten = List.replicate 8 XF := flat_rep _ _
  have r9 : (List.replicate 9 [XF]).flatten = List.replicate 9 XF := flat_rep _ _
  have r49 : (List.replicate 49 [D.int 0]).flatten = List.replicate 49 (.int 0) := flat_rep _ _
  have r50 : (List.replicate 50 [D.int 0]).flatten = List.replicate 50 (.int 0) := flat_rep _ _
  simp only [Tg.F, GOODS, BADS] at h1
  generalize deepN 20 19 = D20 at h1 d20
  generalize deepN 21 20 = D21 at h1 d21
  generalize List.replicate 8 XF = R8 at h1 r8
  generalize List.replicate 9 XF = R9 at h1 r9
  generalize List.replicate 49 (D.int 0) = R49 at h1 r49
  generalize List.replicate 50 (D.int 0) = R50 at h1 r50
  have ex : XF = .tup [.str "name", .str "x"] := rfl
  simp only [rfF, clF, doF, valF, nmF, ex, List.cons_append, List.nil_append] at h1 r8 r9 g1 g2 g3 g4
  generalize runF 4 b_law_deep = dp at h1 d20 d21
  have rn : List.replicate 6 Sl.non = [.non, .non, .non, .non, .non, .non] := rfl
  simp [b_law_sure, d20, d21, -List.reduceReplicate, rn, r8, r9, r49, r50, -forL, h1, g1, g2, g3, g4]
end HFL

set_option Elab.async false
set_option linter.all false
set_option maxRecDepth 100000
set_option maxHeartbeats 4000000
set_option autoImplicit false
namespace HFL
open PySem PySem.Spec PyProof.Rows L2 HF
/-! ### the law -/
theorem cutL_m1 {α : Type} (xs : List α) (h : 1 ≤ xs.length) : cutL xs none (some (-1)) = xs.take (xs.length - 1) := by
  unfold cutL
  have : HT.sIx xs.length xs.length (some (-1)) = xs.length - 1 := by unfold HT.sIx; simp only; rw [if_pos (by omega)]; omega
  rw [this]; simp [HT.sIx]
theorem atI_m1 {α : Type} (xs : List α) (h : 1 ≤ xs.length) : L2.atI xs (-1) = some (xs[xs.length - 1]'(by omega)) := by
  unfold L2.atI L2.ixN
  rw [if_neg (by omega), if_pos (by omega)]
  have : ((-1 : Int) + xs.length).toNat = xs.length - 1 := by omega
  simp [this, List.getElem?_eq_getElem (by omega : xs.length - 1 < xs.length)]
/-- another good body -/
theorem deep_good {hs : List Hd} {ns : List Str} {pr : List Fn} (H : Hds hs ns) (P : Pr hs pr) {k : Nat} (hk : k < pr.length) {d : D} (hd : ∀ pr' ns', EvF pr' ns' 20 d true) (j : Nat) (hj : 20 < j) : gGood j [.val (.tup ((pr.set k ⟨pr[k].nm, pr[k].ps, d⟩).map Fn.d))] = .im (.bl true) [.val (.tup ((pr.set k ⟨pr[k].nm, pr[k].ps, d⟩).map Fn.d))] := by
  have mk : pr[k] ∈ pr := List.getElem_mem hk
  have G := pr_each H P _ mk
  have e1 : (pr.set k ⟨pr[k].nm, pr[k].ps, d⟩).map Fn.nm = pr.map Fn.nm := by
    rw [List.map_set]
    refine List.ext_getElem (by simp) fun i h1 h2 => ?_
    rw [List.getElem_set]
    split
    · rename_i z; subst z; simp
    · rfl
  have nd : ((pr.set k ⟨pr[k].nm, pr[k].ps, d⟩).map Fn.nm).Nodup := e1 ▸ pr_names H P
  have ml := P.len
  have l4 := H.len4
  generalize hf : (⟨pr[k].nm, pr[k].ps, d⟩ : Fn) = f' at nd e1
  have mem : ∀ f ∈ pr.set k f', f ∈ pr ∨ f = f' := fun f m => List.mem_or_eq_of_mem_set m
  have mf' : f' ∈ pr.set k f' := List.mem_of_getElem? (i := k) (by rw [List.getElem?_set_self hk])
  have lk : ∀ h ∈ hs, ∃ f, fnd (pr.set k f') h.nm = some f ∧ f.ps.length = h.ps.length := fun h m => by
    obtain ⟨g, mg, a1, a2⟩ := pr_fnd H P h m
    obtain ⟨i, hi⟩ := List.mem_iff_getElem?.mp mg
    by_cases z : i = k
    · subst z
      rw [List.getElem?_eq_getElem hk] at hi
      cases hi
      have q := fnd_nd nd mf'
      rw [← a1]
      refine ⟨f', ?_, ?_⟩
      · rw [← hf] at q ⊢; exact q
      · rw [← hf, ← a2]
    · have mm : g ∈ pr.set k f' := List.mem_of_getElem? (i := i) (by rw [List.getElem?_set_ne (fun z' => z z'.symm)]; exact hi)
      rw [← a1]
      exact ⟨g, fnd_nd nd mm, by rw [a2]⟩
  have r := good_run (pr := pr.set k f') hj (fun _ => true) (by simp; omega) fun f m => by
    rcases mem f m with q | rfl
    · have Gf := pr_each H P f q
      obtain ⟨h, mh, a1, a2, g⟩ := Gf.hd
      exact ⟨fng_ok H.nms Gf, a2 ▸ ev_true (hds_ok H) _ lk 7 f.bd g 20 (by omega)⟩
    · have F := fng_ok H.nms G
      rw [← hf]
      exact ⟨⟨F.nm, F.ps, F.len⟩, hd _ _⟩
  have e : goodP (fun _ => true) (pr.set k f') = true := by
    simp only [goodP, Bool.and_eq_true, decide_eq_true_eq, List.all_eq_true]
    refine ⟨⟨fun z => (by rw [z] at mf'; cases mf'), nd⟩, fun f m => ?_⟩
    rcases mem f m with q | rfl
    · have Gf := pr_each H P f q
      have a : f.ps.all isNm = true := List.all_eq_true.mpr fun s ms => H.nms.nm s (Gf.ps s ms)
      simp [fnB, H.nms.nm _ Gf.nm, Gf.pl, Gf.nd, a]
    · have a : pr[k].ps.all isNm = true := List.all_eq_true.mpr fun s ms => H.nms.nm s (G.ps s ms)
      rw [← hf]
      simp [fnB, H.nms.nm _ G.nm, G.pl, G.nd, a]
  rw [e] at r
  exact r
theorem nob {j : Nat} (hj : 20 < j) : gGood j [.val (.tup [.tup [.str "a", .tup [], .tup [.str "name", .str "b"]]])] = .im (.bl false) [.val (.tup [.tup [.str "a", .tup [], .tup [.str "name", .str "b"]]])] := by
  have h := hb_nm (pr1 [] (nmF "b")) [] "b"
  rw [show decide ((Str.ofString "b") ∈ ([] : List Str)) = false by simp] at h
  have r := one_good hj (ps := []) (by simp) (by simp) (ev_bad h 20)
  simpa [nmF] using r
theorem yesb {j : Nat} (hj : 20 < j) : gGood j [.val (.tup [.tup [.str "a", .tup [.str "b"], .tup [.str "name", .str "b"]]])] = .im (.bl true) [.val (.tup [.tup [.str "a", .tup [.str "b"], .tup [.str "name", .str "b"]]])] := by
  have h := hb_nm (pr1 ["b"] (nmF "b")) ["b"] "b"
  rw [show decide ((Str.ofString "b") ∈ (["b"] : List Str)) = true by simp] at h
  have r := one_good hj (ps := ["b"]) (fun s ms => by rw [List.mem_singleton.mp ms]; exact letters_ok _ (by simp)) (by simp) (ev_leaf h (po_leaf (.inr (.inl ⟨_, rfl⟩))) 19)
  simpa [nmF] using r
section
variable {fh fp fc fs ft ftr fin fsu : List Ar → FR} {j : Nat}
theorem run_law (hj : 20 < j) (ns : List Int) (hc : ∀ k, 0 ≤ k → fc [.val (.scr ns), .val (.int k)] = .im (.int (cell ns k)) [.val (.scr ns), .val (.int k)])
    (hh : ∃ hs nm, fh [.val (.scr ns)] = .fr (.lst (hs.map Hd.d)) [.val (.scr ns)] ∧ Hds hs nm) (hp : ∀ hs nm, Hds hs nm → ∃ pr, fp [.val (.scr ns), .val (.lst (hs.map Hd.d))] = .im (.tup (pr.map Fn.d)) [.val (.scr ns), .val (.lst (hs.map Hd.d))] ∧ Pr hs pr)
    (hsp : ∀ (hs : List Hd) (nm : List Str) (pr : List Fn), Hds hs nm → Pr hs pr → ∀ w c : Int, 0 ≤ w → w ≤ 28 → ∃ pr', fs [.val (.tup (pr.map Fn.d)), .val (.lst (hs.map Hd.d)), .val (.int w), .val (.int c)] = .im (.tup (pr'.map Fn.d)) [.val (.tup (pr.map Fn.d)), .val (.lst (hs.map Hd.d)), .val (.int w), .val (.int c)] ∧ Spoilt pr')
    (ht : ∀ c, ∃ s, ft [.val (.int c)] = .im (.str s) [.val (.int c)] ∧ Txt s) (htr : ∀ a b, ftr [.val (.bl a), .val (.bl b)] = .im (.bl (decide (a = b))) [.val (.bl a), .val (.bl b)]) (hin : ∀ s, Txt s → fin [.val (.str s)] = .im (.bl (isNm s)) [.val (.str s)])
    (hsu : fsu [] = .im (.bl true) []) : runF 7 (b_law fh fp fc (runF 4 b_law_deep) fs ft ftr (gGood j) gName fin fsu) [.val (.scr ns)] = .im (.bl true) [.val (.scr ns)] := by
  obtain ⟨hs, nm, eh, H⟩ := hh
  obtain ⟨pr, ep, P⟩ := hp hs nm H
  have c15 := hc 15 (by omega)
  have c16 := hc 16 (by omega)
  have c17 := hc 17 (by omega)
  have w0 : 0 ≤ (cell ns 15).fmod 44 := Int.fmod_nonneg_of_pos _ (by omega)
  have w1 : (cell ns 15).fmod 44 < 44 := Int.fmod_lt_of_pos _ (by omega)
  generalize cell ns 15 = q15 at c15 w0 w1
  generalize hw : q15.fmod 44 = w at w0 w1
  generalize cell ns 16 = q16 at c16
  obtain ⟨s, es, T⟩ := ht (cell ns 17)
  generalize cell ns 17 = q17 at c17 es
  have gn := name_run s T
  have gi := hin s T
  have pp : D.pureL (pr.map Fn.d) = true := pureL_of fun d m => by
    obtain ⟨f, mf, rfl⟩ := List.mem_map.mp m
    exact fn_pure (pr_pure H P f mf)
  have n1 := nob hj
  have n2 := yesb hj
  have loop : ∀ (PD : D) (A B C : Sl) (due : Bool), gGood j [.val PD] = .im (.bl due) [.val PD] → ∃ x, forL (tgN 6) (L0_law fh fp fc (runF 4 b_law_deep) fs ft ftr (gGood j) gName fin fsu) (rgD 0 2) [A, B, .val PD, C, .val (.bl due), .val (.str s), .non] = .nx [A, B, .val PD, C, .val (.bl due), .val (.str s), x] := fun PD A B C due hg => by
    have t1 := htr due due
    have t2 := htr (isNm s) (isNm s)
    rw [decide_eq_true rfl] at t1 t2
    generalize isNm s = bs at gn gi t2
    generalize gGood j = gg at hg n1 n2
    generalize gName = gna at gn
    obtain ⟨e', h1, x, hx, rfl⟩ := forL_nx (TF := Tg.F (.nm 6)) (S := L0_law fh fp fc (runF 4 b_law_deep) fs ft ftr gg gna fin fsu) (fun dn e => ∃ x, nio x ∧ e = [A, B, .val PD, C, .val (.bl due), .val (.str s), x]) (rgD 0 2) (fun dn d rest e hall ⟨x, hx, he⟩ => by
      subst he
      refine ⟨[A, B, .val PD, C, .val (.bl due), .val (.str s), .val d], _, by simp [-isIo, hx], ?_, .val d, rfl, rfl⟩
      simp [L0_law, hg, t1, gn, gi, t2, n1, n2]) [A, B, .val PD, C, .val (.bl due), .val (.str s), .non] ⟨.non, rfl, rfl⟩
    simp only [Tg.F] at h1
    exact ⟨x, h1⟩
  have pl := P.len
  have l0 := H.len0
  have l4 := H.len4
  have e2 : (2 : Int).natAbs < 4611686018427387904 := by decide
  by_cases q28 : w ≤ 28
  · obtain ⟨pr', ep', Sp, Sb⟩ := hsp hs nm pr H P w q16 w0 q28
    obtain ⟨x, hx⟩ := loop (.tup (pr'.map Fn.d)) (.val (.scr ns)) (.own (.lst (hs.map Hd.d))) (.val (.int w)) false (Sb j hj)
    have a1 : ¬ w = 29 := by omega
    have a2 : ¬ 28 < w := by omega
    generalize gGood j = gg at hx
    generalize gName = gna at hx
    generalize runF 4 b_law_deep = fd at hx
    have e0 : D.eqB (.int w) (.int 29) = some false := by simp [D.eqB, a1]
    generalize pr.map Fn.d = PD at ep ep' pp
    generalize pr'.map Fn.d = PD' at ep' hx Sp
    generalize hs.map Hd.d = HD at eh ep ep' hx
    simp [b_law, eh, ep, pp, c15, hw, a2, -D.eqB, e0, c16, ep', Sp, c17, es, -forL, hx, hsu]
  · have a2 : 28 < w := by omega
    by_cases q29 : w = 29
    · have kl : pr.length - 1 < pr.length := by omega
      have d20 := run_deep 20 (by omega) (by omega)
      simp only [Int.cast_ofNat_Int] at d20
      obtain ⟨dp, de⟩ := deep_ev 20 (20 - 1)
      generalize deepN 20 (20 - 1) = dd at d20 dp de
      have dg := deep_good H P kl (d := dd) (fun pr' ns' => by simpa using de pr' ns' 20) j hj
      obtain ⟨x, hx⟩ := loop _ (.val (.scr ns)) (.own (.lst (hs.map Hd.d))) (.val (.int w)) true dg
      have ct : cutL (pr.map Fn.d) none (some (-1)) = (pr.map Fn.d).take (pr.length - 1) := by rw [cutL_m1 _ (by simp; omega)]; simp
      have am : L2.atI (pr.map Fn.d) (-1) = some (pr[pr.length - 1]).d := by rw [atI_m1 _ (by simp; omega)]; simp
      have es' : (pr.set (pr.length - 1) ⟨pr[pr.length - 1].nm, pr[pr.length - 1].ps, dd⟩).map Fn.d = (pr.map Fn.d).take (pr.length - 1) ++ [.tup [.str pr[pr.length - 1].nm, .tup (strsD pr[pr.length - 1].ps), dd]] := by
        rw [List.map_set, List.set_eq_take_append_cons_drop, if_pos (by simpa using kl)]
        congr 1
        rw [List.drop_eq_nil_of_le (by simp; omega)]
        rfl
      rw [es'] at hx
      have fdd : (pr[pr.length - 1]).d = .tup [.str pr[pr.length - 1].nm, .tup (strsD pr[pr.length - 1].ps), pr[pr.length - 1].bd] := rfl
      rw [fdd] at am
      have tl : ((pr.map Fn.d).take (pr.length - 1)).length + 1 ≤ 16777216 := by simp; omega
      generalize (pr.map Fn.d).take (pr.length - 1) = TK at hx ct tl
      generalize pr[pr.length - 1].nm = nn at hx am
      generalize strsD pr[pr.length - 1].ps = PS at hx am
      generalize pr[pr.length - 1].bd = bb at am
      generalize gGood j = gg at hx
      generalize gName = gna at hx
      generalize runF 4 b_law_deep = fd at hx d20
      have e0 : D.eqB (.int w) (.int 29) = some true := by simp [D.eqB, q29]
      have ix : ∀ a b c : D, L2.atI [a, b, c] 0 = some a ∧ L2.atI [a, b, c] 1 = some b := fun a b c => ⟨rfl, rfl⟩
      generalize pr.map Fn.d = PD at ep pp ct am
      generalize hs.map Hd.d = HD at eh ep hx
      simp [b_law, eh, ep, pp, c15, hw, a2, -D.eqB, e0, ct, am, ix, d20, tl, c17, es, -forL, hx, hsu]
    · obtain ⟨x, hx⟩ := loop (.tup (pr.map Fn.d)) (.val (.scr ns)) (.own (.lst (hs.map Hd.d))) (.val (.int w)) true (base_good H P j hj)
      generalize gGood j = gg at hx
      generalize gName = gna at hx
      generalize runF 4 b_law_deep = fd at hx
      have e0 : D.eqB (.int w) (.int 29) = some false := by simp [D.eqB, q29]
      generalize pr.map Fn.d = PD at ep hx pp
      generalize hs.map Hd.d = HD at eh ep hx
      simp [b_law, eh, ep, pp, c15, hw, a2, -D.eqB, e0, c17, es, -forL, hx, hsu]
end
end HFL

set_option Elab.async false
set_option linter.all false
set_option maxRecDepth 100000
set_option maxHeartbeats 4000000
set_option autoImplicit false
namespace HFL
open PySem PySem.Spec PyProof.Rows L2 HF
theorem main {P : Program} {w : World} {K : PySem.W.Frag} {mg : Str → Option Value} {base : Heap} {f : Addr} {fd : FuncData} (B : Blt mg)
    (H0 : Has K mg "is_whole" s_is_whole ["thing"])
    (H1 : Has K mg "is_value" s_is_value ["thing"])
    (H2 : Has K mg "takes" s_takes ["operation", "many"])
    (H3 : Has K mg "is_name" s_is_name ["thing"])
    (H4 : Has K mg "function_of" s_function_of ["program", "name"])
    (H5 : Has K mg "parts_of" s_parts_of ["form"])
    (H6 : Has K mg "is_leaf" s_is_leaf ["form", "names"])
    (H7 : Has K mg "is_good_head" s_is_good_head ["program", "form", "names"])
    (H8 : Has K mg "is_good_form" s_is_good_form ["program", "form", "names", "depth"])
    (H9 : Has K mg "is_good" s_is_good ["program"])
    (H10 : Has K mg "_law_cell_at" s_law_cell_at ["_law_script", "_law_k"])
    (H11 : Has K mg "_law_next" s_law_next ["_law_pick"])
    (H12 : Has K mg "_law_value" s_law_value ["_law_pick"])
    (H13 : Has K mg "_law_names" s_law_names ["_law_cell"])
    (H14 : Has K mg "_law_few" s_law_few ["_law_pick", "_law_way"])
    (H15 : Has K mg "_law_tame" s_law_tame ["_law_pick", "_law_known", "_law_heads_here"])
    (H16 : Has K mg "_law_parts" s_law_parts ["_law_pick", "_law_many", "_law_deep_here", "_law_names_here", "_law_known", "_law_heads_here"])
    (H17 : Has K mg "_law_call" s_law_call ["_law_pick", "_law_deep_here", "_law_names_here", "_law_known", "_law_heads_here"])
    (H18 : Has K mg "_law_do" s_law_do ["_law_pick", "_law_deep_here", "_law_names_here", "_law_known", "_law_heads_here"])
    (H19 : Has K mg "_law_form" s_law_form ["_law_pick", "_law_deep_here", "_law_names_here", "_law_known", "_law_heads_here"])
    (H20 : Has K mg "_law_heads" s_law_heads ["_law_script"])
    (H21 : Has K mg "_law_program" s_law_program ["_law_script", "_law_heads_here"])
    (H22 : Has K mg "_law_heads_of" s_law_heads_of ["_law_form_here"])
    (H23 : Has K mg "_law_put" s_law_put ["_law_form_here", "_law_at", "_law_other"])
    (H24 : Has K mg "_law_odd" s_law_odd ["_law_heads_here", "_law_way"])
    (H25 : Has K mg "_law_deep" s_law_deep ["_law_many"])
    (H26 : Has K mg "_law_with" s_law_with ["_law_program_here", "_law_k", "_law_function"])
    (H27 : Has K mg "_law_spoilt" s_law_spoilt ["_law_program_here", "_law_heads_here", "_law_way", "_law_cell"])
    (H28 : Has K mg "_law_truth" s_law_truth ["_law_found", "_law_due"])
    (H29 : Has K mg "_law_is_name" s_law_is_name ["_law_text_here"])
    (H30 : Has K mg "_law_text" s_law_text ["_law_cell"])
    (H31 : Has K mg "_law_sure" s_law_sure [])
    (g_MOST_NUMBER : GConst K mg "MOST_NUMBER" (.int 1000000000000000000))
    (g_MOST_WEIGHT : GConst K mg "MOST_WEIGHT" (.int 50))
    (g_MOST_PARTS : GConst K mg "MOST_PARTS" (.int 8))
    (g_MOST_SIGNS : GConst K mg "MOST_SIGNS" (.int 8))
    (g_MOST_NAMES : GConst K mg "MOST_NAMES" (.int 6))
    (g_MOST_DEPTH : GConst K mg "MOST_DEPTH" (.int 20))
    (g_ALONE : GConst K mg "ALONE" (.tup (strsD ["first", "rest", "empty", "down"])))
    (g_OPERATIONS : GConst K mg "OPERATIONS" (.tup (strsD ["plus", "minus", "times", "over", "less", "first", "rest", "empty", "down", "same", "join", "list"])))
    (g_WORDS : GConst K mg "WORDS" (.tup (strsD ["NoNumber", "NoList", "NoFirst", "NoDown", "ByNought", "TooGreat"])))
    (g_LETTERS : GConst K mg "LETTERS" (.str "abcdefghijklmnopqrstuvwxyz"))
    (g_FIGURES : GConst K mg "FIGURES" (.str "0123456789"))
    (F : Fun K "law" "law" s_law f fd) (hm : mg "law" = some (.ref f)) (hb : Binds K fd ["_law_script"] []) :
    FnOk P w K mg base (L2N.CX P w) 90 f fd ["_law_script"] (HF.spLaw K) := by
  have n8 := H8.never (P := P) (w := w) (base := base) (k := 4) (n := 4)
  have n19 := H19.never (P := P) (w := w) (base := base) (k := 2) (n := 5)
  have n22 := H22.never (P := P) (w := w) (base := base) (k := 0) (n := 1)
  have n23 := H23.never (P := P) (w := w) (base := base) (k := 8) (n := 3)
  obtain ⟨_, _, F0, m0, b0⟩ := H0
  obtain ⟨_, _, F1, m1, b1⟩ := H1
  obtain ⟨_, _, F2, m2, b2⟩ := H2
  obtain ⟨_, _, F3, m3, b3⟩ := H3
  obtain ⟨_, _, F4, m4, b4⟩ := H4
  obtain ⟨_, _, F5, m5, b5⟩ := H5
  obtain ⟨_, _, F6, m6, b6⟩ := H6
  obtain ⟨_, _, F7, m7, b7⟩ := H7
  obtain ⟨_, _, F8, m8, b8⟩ := H8
  obtain ⟨_, _, F9, m9, b9⟩ := H9
  obtain ⟨_, _, F10, m10, b10⟩ := H10
  obtain ⟨_, _, F11, m11, b11⟩ := H11
  obtain ⟨_, _, F12, m12, b12⟩ := H12
  obtain ⟨_, _, F13, m13, b13⟩ := H13
  obtain ⟨_, _, F14, m14, b14⟩ := H14
  obtain ⟨_, _, F15, m15, b15⟩ := H15
  obtain ⟨_, _, F16, m16, b16⟩ := H16
  obtain ⟨_, _, F17, m17, b17⟩ := H17
  obtain ⟨_, _, F18, m18, b18⟩ := H18
  obtain ⟨_, _, F19, m19, b19⟩ := H19
  obtain ⟨_, _, F20, m20, b20⟩ := H20
  obtain ⟨_, _, F21, m21, b21⟩ := H21
  obtain ⟨_, _, F22, m22, b22⟩ := H22
  obtain ⟨_, _, F23, m23, b23⟩ := H23
  obtain ⟨_, _, F24, m24, b24⟩ := H24
  obtain ⟨_, _, F25, m25, b25⟩ := H25
  obtain ⟨_, _, F26, m26, b26⟩ := H26
  obtain ⟨_, _, F27, m27, b27⟩ := H27
  obtain ⟨_, _, F28, m28, b28⟩ := H28
  obtain ⟨_, _, F29, m29, b29⟩ := H29
  obtain ⟨_, _, F30, m30, b30⟩ := H30
  obtain ⟨_, _, F31, m31, b31⟩ := H31
  have k0 := ok_is_whole (P := P) (w := w) (base := base) (k := 0) B F0 m0 b0 g_MOST_NUMBER
  have k1 := ok_is_value (P := P) (w := w) (base := base) (k := 1) B F1 m1 b1 k0 (by decide) (fun _ => 1001) g_MOST_WEIGHT
  have k2 := ok_takes (P := P) (w := w) (base := base) (k := 0) B F2 m2 b2 g_MOST_PARTS g_ALONE
  have k3 := ok_is_name (P := P) (w := w) (base := base) (k := 0) B F3 m3 b3 g_MOST_SIGNS g_LETTERS g_OPERATIONS g_FIGURES
  have k4 := ok_function_of (P := P) (w := w) (base := base) (k := 0) B F4 m4 b4
  have k5 := ok_parts_of (P := P) (w := w) (base := base) (k := 0) B F5 m5 b5
  have k6 := ok_is_leaf (P := P) (w := w) (base := base) (k := 2) B F6 m6 b6 k1 (by decide) g_WORDS
  have k7 := ok_is_good_head (P := P) (w := w) (base := base) (k := 3) B F7 m7 b7 k2 (by decide) k4 (by decide) k6 (by decide) g_OPERATIONS
  have k8 := Cal.iter n8 (fun k Φ hk h => ok_is_good_form (P := P) (w := w) (base := base) (k := k) B F8 m8 b8 k7 (Nat.le_trans (by decide) hk) k5 (Nat.le_trans (by decide) hk) h (Nat.le_refl _)) 25
  have k9 := ok_is_good (P := P) (w := w) (base := base) (k := 29) B F9 m9 b9 k3 (by decide) k8 (by decide) g_MOST_NAMES g_MOST_DEPTH
  have k10 := ok_law_cell_at (P := P) (w := w) (base := base) (k := 0) B F10 m10 b10
  have k11 := ok_law_next (P := P) (w := w) (base := base) (k := 0) B F11 m11 b11
  have k12 := ok_law_value (P := P) (w := w) (base := base) (k := 0) B F12 m12 b12
  have k13 := ok_law_names (P := P) (w := w) (base := base) (k := 0) B F13 m13 b13
  have k14 := ok_law_few (P := P) (w := w) (base := base) (k := 0) B F14 m14 b14
  have k15 := ok_law_tame (P := P) (w := w) (base := base) (k := 1) B F15 m15 b15 k11 (by decide) k14 (by decide)
  have kF : ∀ N, Cal P w K mg base (2 + 3 * N) "_law_form" 5 (iterF (formF (runF 2 b_law_next) (runF 3 b_law_value) (runF 7 (b_law_tame (runF 2 b_law_next) (runF 3 b_law_few)))) N) := Cal.iterS 3 n19 (k0 := 2) fun k Φ hk h => by
    have hp := ok_law_parts (P := P) (w := w) (base := base) (k := k) B F16 m16 b16 h (Nat.le_refl _) k11 (by omega)
    have hd := ok_law_do (P := P) (w := w) (base := base) (k := (k + 1)) B F18 m18 b18 hp (by omega) k11 (by omega)
    have hc := ok_law_call (P := P) (w := w) (base := base) (k := k) B F17 m17 b17 k11 (by omega) k15 (by omega) h (Nat.le_refl _)
    exact ok_law_form (P := P) (w := w) (base := base) (k := (k + 2)) B F19 m19 b19 k11 (by omega) k12 (by omega) hp (by omega) hd (by omega) hc (by omega)
  have k19 := kF 4
  have k20 := ok_law_heads (P := P) (w := w) (base := base) (k := 1) B F20 m20 b20 k13 (by decide) k10 (by decide)
  have k21 := ok_law_program (P := P) (w := w) (base := base) (k := 14) B F21 m21 b21 k11 (by decide) k10 (by decide) k19 (by decide)
  have k22 := Cal.iter n22 (fun k Φ hk h => ok_law_heads_of (P := P) (w := w) (base := base) (k := k) B F22 m22 b22 h (Nat.le_refl _)) 8
  have k23 := Cal.iter n23 (fun k Φ hk h => ok_law_put (P := P) (w := w) (base := base) (k := k) B F23 m23 b23 k22 (Nat.le_trans (by decide) hk) h (Nat.le_refl _)) 8
  have k24 := ok_law_odd (P := P) (w := w) (base := base) (k := 0) B F24 m24 b24
  have k25 := ok_law_deep (P := P) (w := w) (base := base) (k := 0) B F25 m25 b25
  have k26 := ok_law_with (P := P) (w := w) (base := base) (k := 0) B F26 m26 b26
  have k27 := ok_law_spoilt (P := P) (w := w) (base := base) (k := 16) B F27 m27 b27 k22 (by decide) k26 (by decide) k23 (by decide) k24 (by decide) k25 (by decide)
  have k28 := ok_law_truth (P := P) (w := w) (base := base) (k := 0) B F28 m28 b28
  have k29 := ok_law_is_name (P := P) (w := w) (base := base) (k := 0) B F29 m29 b29
  have k30 := ok_law_text (P := P) (w := w) (base := base) (k := 0) B F30 m30 b30
  have k31 := ok_law_sure (P := P) (w := w) (base := base) (k := 30) B F31 m31 b31 k25 (by decide) k9 (by decide)
  refine law_fn (ok_law (P := P) (w := w) (base := base) (k := 89) B F hm hb k20 (by decide) k21 (by decide) k10 (by decide) k25 (by decide) k27 (by decide) k30 (by decide) k28 (by decide) k9 (by decide) k3 (by decide) k29 (by decide) k31 (by decide)) fun ns h63 => ?_
  have hn := run_next
  have hc := fun k h => run_cell_at ns k h
  refine run_law (by decide) ns hc (run_heads ns hc run_names) (fun hs nm H => ?_) (fun hs nm pr H P w c h0 h1 => run_spoilt H P (by decide) w c h0 h1) run_text truth_run run_law_is_name (run_sure (by decide))
  refine run_program hn hc (hds_ok H) H.len4 fun h mh p deep hd => ?_
  have hne : hs ≠ [] := fun z => by have := H.len0; rw [z] at this; simp at this
  have E := hds_each H h mh
  have hps : ∀ s ∈ h.ps, isNm s = true := fun s m => H.nms.nm s (E.2.1 s m)
  exact run_form hn run_value hne (hds_ok H) hps (knownOf_sub h) (fun p => run_tame hn run_few p (knownOf h) (fun s m => hps s (knownOf_sub h s m)) (hs.map Hd.d)) 3 deep hd p
end HFL

set_option Elab.async false
set_option linter.all false
set_option maxRecDepth 100000
set_option maxHeartbeats 4000000
set_option autoImplicit false
namespace HFL
open PySem PySem.Spec PyProof.Rows L2 HF
theorem all_mk {P : Program} {w : World} {K : PySem.W.Frag} {h : Heap} {mg : Str → Option Value} {fa f0 f1 f2 f3 f4 f5 f6 f7 f8 f9 f10 f11 f12 f13 f14 f15 f16 f17 f18 f19 f20 f21 f22 f23 f24 f25 f26 f27 f28 f29 f30 f31 f32 : Addr} (X : K.In h) (G : h.Ns mainGlobals mg) (hfa : mg "law" = some (.ref fa))
    {od0 an0 od1 an1 od2 an2 od3 an3 od4 an4 od5 an5 od6 an6 od7 an7 od8 an8 od9 an9 od10 an10 od11 an11 od12 an12 od13 an13 od14 an14 od15 an15 od16 an16 od17 an17 od18 an18 od19 an19 od20 an20 od21 an21 od22 an22 od23 an23 od24 an24 od25 an25 od26 an26 od27 an27 od28 an28 od29 an29 od30 an30 od31 an31 od32 an32 : Option Addr} {sl0 sl1 sl2 sl3 sl4 sl5 sl6 sl7 sl8 sl9 sl10 sl11 sl12 sl13 sl14 sl15 sl16 sl17 sl18 sl19 sl20 sl21 sl22 sl23 sl24 sl25 sl26 sl27 sl28 sl29 sl30 sl31 sl32 : Array (Option Value)} {oc0 kV0 dc0 pm0 cd0 ct0 oc1 kV1 dc1 pm1 cd1 ct1 oc2 kV2 dc2 pm2 cd2 ct2 oc3 kV3 dc3 pm3 cd3 ct3 oc4 kV4 dc4 pm4 cd4 ct4 oc5 kV5 dc5 pm5 cd5 ct5 oc6 kV6 dc6 pm6 cd6 ct6 oc7 kV7 dc7 pm7 cd7 ct7 oc8 kV8 dc8 pm8 cd8 ct8 oc9 kV9 dc9 pm9 cd9 ct9 oc10 kV10 dc10 pm10 cd10 ct10 oc11 kV11 dc11 pm11 cd11 ct11 oc12 kV12 dc12 pm12 cd12 ct12 oc13 kV13 dc13 pm13 cd13 ct13 oc14 kV14 dc14 pm14 cd14 ct14 oc15 kV15 dc15 pm15 cd15 ct15 oc16 kV16 dc16 pm16 cd16 ct16 oc17 kV17 dc17 pm17 cd17 ct17 oc18 kV18 dc18 pm18 cd18 ct18 oc19 kV19 dc19 pm19 cd19 ct19 oc20 kV20 dc20 pm20 cd20 ct20 oc21 kV21 dc21 pm21 cd21 ct21 oc22 kV22 dc22 pm22 cd22 ct22 oc23 kV23 dc23 pm23 cd23 ct23 oc24 kV24 dc24 pm24 cd24 ct24 oc25 kV25 dc25 pm25 cd25 ct25 oc26 kV26 dc26 pm26 cd26 ct26 oc27 kV27 dc27 pm27 cd27 ct27 oc28 kV28 dc28 pm28 cd28 ct28 oc29 kV29 dc29 pm29 cd29 ct29 oc30 kV30 dc30 pm30 cd30 ct30 oc31 kV31 dc31 pm31 cd31 ct31 oc32 kV32 dc32 pm32 cd32 ct32 : Value} {t_MOST_NUMBER t_MOST_WEIGHT t_MOST_PARTS t_MOST_SIGNS t_MOST_NAMES t_MOST_DEPTH : Tok} {A_ALONE : Addr} {o_ALONE : Option Addr} {n_ALONE : Nat} {r_ALONE : Array (Option Value)} {u0_ALONE u1_ALONE u2_ALONE u3_ALONE : Tok} {A_OPERATIONS : Addr} {o_OPERATIONS : Option Addr} {n_OPERATIONS : Nat} {r_OPERATIONS : Array (Option Value)} {u0_OPERATIONS u1_OPERATIONS u2_OPERATIONS u3_OPERATIONS u4_OPERATIONS u5_OPERATIONS u6_OPERATIONS u7_OPERATIONS u8_OPERATIONS u9_OPERATIONS u10_OPERATIONS u11_OPERATIONS : Tok} {A_WORDS : Addr} {o_WORDS : Option Addr} {n_WORDS : Nat} {r_WORDS : Array (Option Value)} {u0_WORDS u1_WORDS u2_WORDS u3_WORDS u4_WORDS u5_WORDS : Tok} {y_LETTERS : Tok} {y_FIGURES : Tok}
    (a0 : PySem.W.nsIn K mainGlobals "is_whole" = some (some (.ref f0))) (l0 : K.lookup f0 = some ⟨oc0, od0, .func (PySem.W.fnOf "is_whole" "is_whole" (defArgs s_is_whole) (defBody s_is_whole) (defScope s_is_whole) .none kV0 dc0 pm0 an0 cd0 ct0), sl0⟩) (c0 : PySem.W.codeIn K cd0 "is_whole" = true) (k0 : PySem.W.keepIn K (.ref f0) = true)
    (a1 : PySem.W.nsIn K mainGlobals "is_value" = some (some (.ref f1))) (l1 : K.lookup f1 = some ⟨oc1, od1, .func (PySem.W.fnOf "is_value" "is_value" (defArgs s_is_value) (defBody s_is_value) (defScope s_is_value) .none kV1 dc1 pm1 an1 cd1 ct1), sl1⟩) (c1 : PySem.W.codeIn K cd1 "is_value" = true) (k1 : PySem.W.keepIn K (.ref f1) = true)
    (a2 : PySem.W.nsIn K mainGlobals "takes" = some (some (.ref f2))) (l2 : K.lookup f2 = some ⟨oc2, od2, .func (PySem.W.fnOf "takes" "takes" (defArgs s_takes) (defBody s_takes) (defScope s_takes) .none kV2 dc2 pm2 an2 cd2 ct2), sl2⟩) (c2 : PySem.W.codeIn K cd2 "takes" = true) (k2 : PySem.W.keepIn K (.ref f2) = true)
    (a3 : PySem.W.nsIn K mainGlobals "is_name" = some (some (.ref f3))) (l3 : K.lookup f3 = some ⟨oc3, od3, .func (PySem.W.fnOf "is_name" "is_name" (defArgs s_is_name) (defBody s_is_name) (defScope s_is_name) .none kV3 dc3 pm3 an3 cd3 ct3), sl3⟩) (c3 : PySem.W.codeIn K cd3 "is_name" = true) (k3 : PySem.W.keepIn K (.ref f3) = true)
    (a4 : PySem.W.nsIn K mainGlobals "function_of" = some (some (.ref f4))) (l4 : K.lookup f4 = some ⟨oc4, od4, .func (PySem.W.fnOf "function_of" "function_of" (defArgs s_function_of) (defBody s_function_of) (defScope s_function_of) .none kV4 dc4 pm4 an4 cd4 ct4), sl4⟩) (c4 : PySem.W.codeIn K cd4 "function_of" = true) (k4 : PySem.W.keepIn K (.ref f4) = true)
    (a5 : PySem.W.nsIn K mainGlobals "parts_of" = some (some (.ref f5))) (l5 : K.lookup f5 = some ⟨oc5, od5, .func (PySem.W.fnOf "parts_of" "parts_of" (defArgs s_parts_of) (defBody s_parts_of) (defScope s_parts_of) .none kV5 dc5 pm5 an5 cd5 ct5), sl5⟩) (c5 : PySem.W.codeIn K cd5 "parts_of" = true) (k5 : PySem.W.keepIn K (.ref f5) = true)
    (a6 : PySem.W.nsIn K mainGlobals "is_leaf" = some (some (.ref f6))) (l6 : K.lookup f6 = some ⟨oc6, od6, .func (PySem.W.fnOf "is_leaf" "is_leaf" (defArgs s_is_leaf) (defBody s_is_leaf) (defScope s_is_leaf) .none kV6 dc6 pm6 an6 cd6 ct6), sl6⟩) (c6 : PySem.W.codeIn K cd6 "is_leaf" = true) (k6 : PySem.W.keepIn K (.ref f6) = true)
    (a7 : PySem.W.nsIn K mainGlobals "is_good_head" = some (some (.ref f7))) (l7 : K.lookup f7 = some ⟨oc7, od7, .func (PySem.W.fnOf "is_good_head" "is_good_head" (defArgs s_is_good_head) (defBody s_is_good_head) (defScope s_is_good_head) .none kV7 dc7 pm7 an7 cd7 ct7), sl7⟩) (c7 : PySem.W.codeIn K cd7 "is_good_head" = true) (k7 : PySem.W.keepIn K (.ref f7) = true)
    (a8 : PySem.W.nsIn K mainGlobals "is_good_form" = some (some (.ref f8))) (l8 : K.lookup f8 = some ⟨oc8, od8, .func (PySem.W.fnOf "is_good_form" "is_good_form" (defArgs s_is_good_form) (defBody s_is_good_form) (defScope s_is_good_form) .none kV8 dc8 pm8 an8 cd8 ct8), sl8⟩) (c8 : PySem.W.codeIn K cd8 "is_good_form" = true) (k8 : PySem.W.keepIn K (.ref f8) = true)
    (a9 : PySem.W.nsIn K mainGlobals "is_good" = some (some (.ref f9))) (l9 : K.lookup f9 = some ⟨oc9, od9, .func (PySem.W.fnOf "is_good" "is_good" (defArgs s_is_good) (defBody s_is_good) (defScope s_is_good) .none kV9 dc9 pm9 an9 cd9 ct9), sl9⟩) (c9 : PySem.W.codeIn K cd9 "is_good" = true) (k9 : PySem.W.keepIn K (.ref f9) = true)
    (a10 : PySem.W.nsIn K mainGlobals "_law_cell_at" = some (some (.ref f10))) (l10 : K.lookup f10 = some ⟨oc10, od10, .func (PySem.W.fnOf "_law_cell_at" "_law_cell_at" (defArgs s_law_cell_at) (defBody s_law_cell_at) (defScope s_law_cell_at) .none kV10 dc10 pm10 an10 cd10 ct10), sl10⟩) (c10 : PySem.W.codeIn K cd10 "_law_cell_at" = true) (k10 : PySem.W.keepIn K (.ref f10) = true)
    (a11 : PySem.W.nsIn K mainGlobals "_law_next" = some (some (.ref f11))) (l11 : K.lookup f11 = some ⟨oc11, od11, .func (PySem.W.fnOf "_law_next" "_law_next" (defArgs s_law_next) (defBody s_law_next) (defScope s_law_next) .none kV11 dc11 pm11 an11 cd11 ct11), sl11⟩) (c11 : PySem.W.codeIn K cd11 "_law_next" = true) (k11 : PySem.W.keepIn K (.ref f11) = true)
    (a12 : PySem.W.nsIn K mainGlobals "_law_value" = some (some (.ref f12))) (l12 : K.lookup f12 = some ⟨oc12, od12, .func (PySem.W.fnOf "_law_value" "_law_value" (defArgs s_law_value) (defBody s_law_value) (defScope s_law_value) .none kV12 dc12 pm12 an12 cd12 ct12), sl12⟩) (c12 : PySem.W.codeIn K cd12 "_law_value" = true) (k12 : PySem.W.keepIn K (.ref f12) = true)
    (a13 : PySem.W.nsIn K mainGlobals "_law_names" = some (some (.ref f13))) (l13 : K.lookup f13 = some ⟨oc13, od13, .func (PySem.W.fnOf "_law_names" "_law_names" (defArgs s_law_names) (defBody s_law_names) (defScope s_law_names) .none kV13 dc13 pm13 an13 cd13 ct13), sl13⟩) (c13 : PySem.W.codeIn K cd13 "_law_names" = true) (k13 : PySem.W.keepIn K (.ref f13) = true)
    (a14 : PySem.W.nsIn K mainGlobals "_law_few" = some (some (.ref f14))) (l14 : K.lookup f14 = some ⟨oc14, od14, .func (PySem.W.fnOf "_law_few" "_law_few" (defArgs s_law_few) (defBody s_law_few) (defScope s_law_few) .none kV14 dc14 pm14 an14 cd14 ct14), sl14⟩) (c14 : PySem.W.codeIn K cd14 "_law_few" = true) (k14 : PySem.W.keepIn K (.ref f14) = true)
    (a15 : PySem.W.nsIn K mainGlobals "_law_tame" = some (some (.ref f15))) (l15 : K.lookup f15 = some ⟨oc15, od15, .func (PySem.W.fnOf "_law_tame" "_law_tame" (defArgs s_law_tame) (defBody s_law_tame) (defScope s_law_tame) .none kV15 dc15 pm15 an15 cd15 ct15), sl15⟩) (c15 : PySem.W.codeIn K cd15 "_law_tame" = true) (k15 : PySem.W.keepIn K (.ref f15) = true)
    (a16 : PySem.W.nsIn K mainGlobals "_law_parts" = some (some (.ref f16))) (l16 : K.lookup f16 = some ⟨oc16, od16, .func (PySem.W.fnOf "_law_parts" "_law_parts" (defArgs s_law_parts) (defBody s_law_parts) (defScope s_law_parts) .none kV16 dc16 pm16 an16 cd16 ct16), sl16⟩) (c16 : PySem.W.codeIn K cd16 "_law_parts" = true) (k16 : PySem.W.keepIn K (.ref f16) = true)
    (a17 : PySem.W.nsIn K mainGlobals "_law_call" = some (some (.ref f17))) (l17 : K.lookup f17 = some ⟨oc17, od17, .func (PySem.W.fnOf "_law_call" "_law_call" (defArgs s_law_call) (defBody s_law_call) (defScope s_law_call) .none kV17 dc17 pm17 an17 cd17 ct17), sl17⟩) (c17 : PySem.W.codeIn K cd17 "_law_call" = true) (k17 : PySem.W.keepIn K (.ref f17) = true)
    (a18 : PySem.W.nsIn K mainGlobals "_law_do" = some (some (.ref f18))) (l18 : K.lookup f18 = some ⟨oc18, od18, .func (PySem.W.fnOf "_law_do" "_law_do" (defArgs s_law_do) (defBody s_law_do) (defScope s_law_do) .none kV18 dc18 pm18 an18 cd18 ct18), sl18⟩) (c18 : PySem.W.codeIn K cd18 "_law_do" = true) (k18 : PySem.W.keepIn K (.ref f18) = true)
    (a19 : PySem.W.nsIn K mainGlobals "_law_form" = some (some (.ref f19))) (l19 : K.lookup f19 = some ⟨oc19, od19, .func (PySem.W.fnOf "_law_form" "_law_form" (defArgs s_law_form) (defBody s_law_form) (defScope s_law_form) .none kV19 dc19 pm19 an19 cd19 ct19), sl19⟩) (c19 : PySem.W.codeIn K cd19 "_law_form" = true) (k19 : PySem.W.keepIn K (.ref f19) = true)
    (a20 : PySem.W.nsIn K mainGlobals "_law_heads" = some (some (.ref f20))) (l20 : K.lookup f20 = some ⟨oc20, od20, .func (PySem.W.fnOf "_law_heads" "_law_heads" (defArgs s_law_heads) (defBody s_law_heads) (defScope s_law_heads) .none kV20 dc20 pm20 an20 cd20 ct20), sl20⟩) (c20 : PySem.W.codeIn K cd20 "_law_heads" = true) (k20 : PySem.W.keepIn K (.ref f20) = true)
    (a21 : PySem.W.nsIn K mainGlobals "_law_program" = some (some (.ref f21))) (l21 : K.lookup f21 = some ⟨oc21, od21, .func (PySem.W.fnOf "_law_program" "_law_program" (defArgs s_law_program) (defBody s_law_program) (defScope s_law_program) .none kV21 dc21 pm21 an21 cd21 ct21), sl21⟩) (c21 : PySem.W.codeIn K cd21 "_law_program" = true) (k21 : PySem.W.keepIn K (.ref f21) = true)
    (a22 : PySem.W.nsIn K mainGlobals "_law_heads_of" = some (some (.ref f22))) (l22 : K.lookup f22 = some ⟨oc22, od22, .func (PySem.W.fnOf "_law_heads_of" "_law_heads_of" (defArgs s_law_heads_of) (defBody s_law_heads_of) (defScope s_law_heads_of) .none kV22 dc22 pm22 an22 cd22 ct22), sl22⟩) (c22 : PySem.W.codeIn K cd22 "_law_heads_of" = true) (k22 : PySem.W.keepIn K (.ref f22) = true)
    (a23 : PySem.W.nsIn K mainGlobals "_law_put" = some (some (.ref f23))) (l23 : K.lookup f23 = some ⟨oc23, od23, .func (PySem.W.fnOf "_law_put" "_law_put" (defArgs s_law_put) (defBody s_law_put) (defScope s_law_put) .none kV23 dc23 pm23 an23 cd23 ct23), sl23⟩) (c23 : PySem.W.codeIn K cd23 "_law_put" = true) (k23 : PySem.W.keepIn K (.ref f23) = true)
    (a24 : PySem.W.nsIn K mainGlobals "_law_odd" = some (some (.ref f24))) (l24 : K.lookup f24 = some ⟨oc24, od24, .func (PySem.W.fnOf "_law_odd" "_law_odd" (defArgs s_law_odd) (defBody s_law_odd) (defScope s_law_odd) .none kV24 dc24 pm24 an24 cd24 ct24), sl24⟩) (c24 : PySem.W.codeIn K cd24 "_law_odd" = true) (k24 : PySem.W.keepIn K (.ref f24) = true)
    (a25 : PySem.W.nsIn K mainGlobals "_law_deep" = some (some (.ref f25))) (l25 : K.lookup f25 = some ⟨oc25, od25, .func (PySem.W.fnOf "_law_deep" "_law_deep" (defArgs s_law_deep) (defBody s_law_deep) (defScope s_law_deep) .none kV25 dc25 pm25 an25 cd25 ct25), sl25⟩) (c25 : PySem.W.codeIn K cd25 "_law_deep" = true) (k25 : PySem.W.keepIn K (.ref f25) = true)
    (a26 : PySem.W.nsIn K mainGlobals "_law_with" = some (some (.ref f26))) (l26 : K.lookup f26 = some ⟨oc26, od26, .func (PySem.W.fnOf "_law_with" "_law_with" (defArgs s_law_with) (defBody s_law_with) (defScope s_law_with) .none kV26 dc26 pm26 an26 cd26 ct26), sl26⟩) (c26 : PySem.W.codeIn K cd26 "_law_with" = true) (k26 : PySem.W.keepIn K (.ref f26) = true)
    (a27 : PySem.W.nsIn K mainGlobals "_law_spoilt" = some (some (.ref f27))) (l27 : K.lookup f27 = some ⟨oc27, od27, .func (PySem.W.fnOf "_law_spoilt" "_law_spoilt" (defArgs s_law_spoilt) (defBody s_law_spoilt) (defScope s_law_spoilt) .none kV27 dc27 pm27 an27 cd27 ct27), sl27⟩) (c27 : PySem.W.codeIn K cd27 "_law_spoilt" = true) (k27 : PySem.W.keepIn K (.ref f27) = true)
    (a28 : PySem.W.nsIn K mainGlobals "_law_truth" = some (some (.ref f28))) (l28 : K.lookup f28 = some ⟨oc28, od28, .func (PySem.W.fnOf "_law_truth" "_law_truth" (defArgs s_law_truth) (defBody s_law_truth) (defScope s_law_truth) .none kV28 dc28 pm28 an28 cd28 ct28), sl28⟩) (c28 : PySem.W.codeIn K cd28 "_law_truth" = true) (k28 : PySem.W.keepIn K (.ref f28) = true)
    (a29 : PySem.W.nsIn K mainGlobals "_law_is_name" = some (some (.ref f29))) (l29 : K.lookup f29 = some ⟨oc29, od29, .func (PySem.W.fnOf "_law_is_name" "_law_is_name" (defArgs s_law_is_name) (defBody s_law_is_name) (defScope s_law_is_name) .none kV29 dc29 pm29 an29 cd29 ct29), sl29⟩) (c29 : PySem.W.codeIn K cd29 "_law_is_name" = true) (k29 : PySem.W.keepIn K (.ref f29) = true)
    (a30 : PySem.W.nsIn K mainGlobals "_law_text" = some (some (.ref f30))) (l30 : K.lookup f30 = some ⟨oc30, od30, .func (PySem.W.fnOf "_law_text" "_law_text" (defArgs s_law_text) (defBody s_law_text) (defScope s_law_text) .none kV30 dc30 pm30 an30 cd30 ct30), sl30⟩) (c30 : PySem.W.codeIn K cd30 "_law_text" = true) (k30 : PySem.W.keepIn K (.ref f30) = true)
    (a31 : PySem.W.nsIn K mainGlobals "_law_sure" = some (some (.ref f31))) (l31 : K.lookup f31 = some ⟨oc31, od31, .func (PySem.W.fnOf "_law_sure" "_law_sure" (defArgs s_law_sure) (defBody s_law_sure) (defScope s_law_sure) .none kV31 dc31 pm31 an31 cd31 ct31), sl31⟩) (c31 : PySem.W.codeIn K cd31 "_law_sure" = true) (k31 : PySem.W.keepIn K (.ref f31) = true)
    (a32 : PySem.W.nsIn K mainGlobals "law" = some (some (.ref f32))) (l32 : K.lookup f32 = some ⟨oc32, od32, .func (PySem.W.fnOf "law" "law" (defArgs s_law) (defBody s_law) (defScope s_law) .none kV32 dc32 pm32 an32 cd32 ct32), sl32⟩) (c32 : PySem.W.codeIn K cd32 "law" = true) (k32 : PySem.W.keepIn K (.ref f32) = true)
    (z_len : PySem.W.nsIn K mainGlobals "len" = some none)
    (z_isinstance : PySem.W.nsIn K mainGlobals "isinstance" = some none)
    (z_abs : PySem.W.nsIn K mainGlobals "abs" = some none)
    (z_int : PySem.W.nsIn K mainGlobals "int" = some none)
    (z_str : PySem.W.nsIn K mainGlobals "str" = some none)
    (z_tuple : PySem.W.nsIn K mainGlobals "tuple" = some none)
    (z_list : PySem.W.nsIn K mainGlobals "list" = some none)
    (z_all : PySem.W.nsIn K mainGlobals "all" = some none)
    (z_any : PySem.W.nsIn K mainGlobals "any" = some none)
    (z_sum : PySem.W.nsIn K mainGlobals "sum" = some none)
    (z_range : PySem.W.nsIn K mainGlobals "range" = some none)
    (z_zip : PySem.W.nsIn K mainGlobals "zip" = some none)
    (z_reversed : PySem.W.nsIn K mainGlobals "reversed" = some none)
    (z_bool : PySem.W.nsIn K mainGlobals "bool" = some none)
    (z_set : PySem.W.nsIn K mainGlobals "set" = some none)
    (z_dict : PySem.W.nsIn K mainGlobals "dict" = some none)
    (g_MOST_NUMBER : PySem.W.nsIn K mainGlobals "MOST_NUMBER" = some (some (.int (1000000000000000000) t_MOST_NUMBER)))
    (g_MOST_WEIGHT : PySem.W.nsIn K mainGlobals "MOST_WEIGHT" = some (some (.int (50) t_MOST_WEIGHT)))
    (g_MOST_PARTS : PySem.W.nsIn K mainGlobals "MOST_PARTS" = some (some (.int (8) t_MOST_PARTS)))
    (g_MOST_SIGNS : PySem.W.nsIn K mainGlobals "MOST_SIGNS" = some (some (.int (8) t_MOST_SIGNS)))
    (g_MOST_NAMES : PySem.W.nsIn K mainGlobals "MOST_NAMES" = some (some (.int (6) t_MOST_NAMES)))
    (g_MOST_DEPTH : PySem.W.nsIn K mainGlobals "MOST_DEPTH" = some (some (.int (20) t_MOST_DEPTH)))
    (ta_ALONE : PySem.W.nsIn K mainGlobals "ALONE" = some (some (.ref A_ALONE)))
    (tl_ALONE : K.lookup A_ALONE = some ⟨.type "tuple", o_ALONE, .seq #[.str "first" u0_ALONE, .str "rest" u1_ALONE, .str "empty" u2_ALONE, .str "down" u3_ALONE] n_ALONE, r_ALONE⟩)
    (ta_OPERATIONS : PySem.W.nsIn K mainGlobals "OPERATIONS" = some (some (.ref A_OPERATIONS)))
    (tl_OPERATIONS : K.lookup A_OPERATIONS = some ⟨.type "tuple", o_OPERATIONS, .seq #[.str "plus" u0_OPERATIONS, .str "minus" u1_OPERATIONS, .str "times" u2_OPERATIONS, .str "over" u3_OPERATIONS, .str "less" u4_OPERATIONS, .str "first" u5_OPERATIONS, .str "rest" u6_OPERATIONS, .str "empty" u7_OPERATIONS, .str "down" u8_OPERATIONS, .str "same" u9_OPERATIONS, .str "join" u10_OPERATIONS, .str "list" u11_OPERATIONS] n_OPERATIONS, r_OPERATIONS⟩)
    (ta_WORDS : PySem.W.nsIn K mainGlobals "WORDS" = some (some (.ref A_WORDS)))
    (tl_WORDS : K.lookup A_WORDS = some ⟨.type "tuple", o_WORDS, .seq #[.str "NoNumber" u0_WORDS, .str "NoList" u1_WORDS, .str "NoFirst" u2_WORDS, .str "NoDown" u3_WORDS, .str "ByNought" u4_WORDS, .str "TooGreat" u5_WORDS] n_WORDS, r_WORDS⟩)
    (tx_LETTERS : PySem.W.nsIn K mainGlobals "LETTERS" = some (some (.str "abcdefghijklmnopqrstuvwxyz" y_LETTERS)))
    (tx_FIGURES : PySem.W.nsIn K mainGlobals "FIGURES" = some (some (.str "0123456789" y_FIGURES))) :
    ∃ fd : FuncData, (∀ (s : Shared) (v : Value), BindsTo s fd ⟨[v], []⟩ [("_law_script", v)]) ∧ ∀ base : Heap, K.In base → base.Ns mainGlobals mg → FnOk P w K mg base (L2N.CX P w) 90 fa fd ["_law_script"] (HF.spLaw K) := by
  have e := hfa.symm.trans (PySem.W.mg_of X G a32)
  cases e
  have F0 := fun_mk (st := s_is_whole) l0 c0 k0
  have b0 := F0.binds (ps := ["thing"]) fun _ _ _ _ _ _ us hl => match us, hl with | [_], _ => rfl
  have F1 := fun_mk (st := s_is_value) l1 c1 k1
  have b1 := F1.binds (ps := ["thing"]) fun _ _ _ _ _ _ us hl => match us, hl with | [_], _ => rfl
  have F2 := fun_mk (st := s_takes) l2 c2 k2
  have b2 := F2.binds (ps := ["operation", "many"]) fun _ _ _ _ _ _ us hl => match us, hl with | [_, _], _ => rfl
  have F3 := fun_mk (st := s_is_name) l3 c3 k3
  have b3 := F3.binds (ps := ["thing"]) fun _ _ _ _ _ _ us hl => match us, hl with | [_], _ => rfl
  have F4 := fun_mk (st := s_function_of) l4 c4 k4
  have b4 := F4.binds (ps := ["program", "name"]) fun _ _ _ _ _ _ us hl => match us, hl with | [_, _], _ => rfl
  have F5 := fun_mk (st := s_parts_of) l5 c5 k5
  have b5 := F5.binds (ps := ["form"]) fun _ _ _ _ _ _ us hl => match us, hl with | [_], _ => rfl
  have F6 := fun_mk (st := s_is_leaf) l6 c6 k6
  have b6 := F6.binds (ps := ["form", "names"]) fun _ _ _ _ _ _ us hl => match us, hl with | [_, _], _ => rfl
  have F7 := fun_mk (st := s_is_good_head) l7 c7 k7
  have b7 := F7.binds (ps := ["program", "form", "names"]) fun _ _ _ _ _ _ us hl => match us, hl with | [_, _, _], _ => rfl
  have F8 := fun_mk (st := s_is_good_form) l8 c8 k8
  have b8 := F8.binds (ps := ["program", "form", "names", "depth"]) fun _ _ _ _ _ _ us hl => match us, hl with | [_, _, _, _], _ => rfl
  have F9 := fun_mk (st := s_is_good) l9 c9 k9
  have b9 := F9.binds (ps := ["program"]) fun _ _ _ _ _ _ us hl => match us, hl with | [_], _ => rfl
  have F10 := fun_mk (st := s_law_cell_at) l10 c10 k10
  have b10 := F10.binds (ps := ["_law_script", "_law_k"]) fun _ _ _ _ _ _ us hl => match us, hl with | [_, _], _ => rfl
  have F11 := fun_mk (st := s_law_next) l11 c11 k11
  have b11 := F11.binds (ps := ["_law_pick"]) fun _ _ _ _ _ _ us hl => match us, hl with | [_], _ => rfl
  have F12 := fun_mk (st := s_law_value) l12 c12 k12
  have b12 := F12.binds (ps := ["_law_pick"]) fun _ _ _ _ _ _ us hl => match us, hl with | [_], _ => rfl
  have F13 := fun_mk (st := s_law_names) l13 c13 k13
  have b13 := F13.binds (ps := ["_law_cell"]) fun _ _ _ _ _ _ us hl => match us, hl with | [_], _ => rfl
  have F14 := fun_mk (st := s_law_few) l14 c14 k14
  have b14 := F14.binds (ps := ["_law_pick", "_law_way"]) fun _ _ _ _ _ _ us hl => match us, hl with | [_, _], _ => rfl
  have F15 := fun_mk (st := s_law_tame) l15 c15 k15
  have b15 := F15.binds (ps := ["_law_pick", "_law_known", "_law_heads_here"]) fun _ _ _ _ _ _ us hl => match us, hl with | [_, _, _], _ => rfl
  have F16 := fun_mk (st := s_law_parts) l16 c16 k16
  have b16 := F16.binds (ps := ["_law_pick", "_law_many", "_law_deep_here", "_law_names_here", "_law_known", "_law_heads_here"]) fun _ _ _ _ _ _ us hl => match us, hl with | [_, _, _, _, _, _], _ => rfl
  have F17 := fun_mk (st := s_law_call) l17 c17 k17
  have b17 := F17.binds (ps := ["_law_pick", "_law_deep_here", "_law_names_here", "_law_known", "_law_heads_here"]) fun _ _ _ _ _ _ us hl => match us, hl with | [_, _, _, _, _], _ => rfl
  have F18 := fun_mk (st := s_law_do) l18 c18 k18
  have b18 := F18.binds (ps := ["_law_pick", "_law_deep_here", "_law_names_here", "_law_known", "_law_heads_here"]) fun _ _ _ _ _ _ us hl => match us, hl with | [_, _, _, _, _], _ => rfl
  have F19 := fun_mk (st := s_law_form) l19 c19 k19
  have b19 := F19.binds (ps := ["_law_pick", "_law_deep_here", "_law_names_here", "_law_known", "_law_heads_here"]) fun _ _ _ _ _ _ us hl => match us, hl with | [_, _, _, _, _], _ => rfl
  have F20 := fun_mk (st := s_law_heads) l20 c20 k20
  have b20 := F20.binds (ps := ["_law_script"]) fun _ _ _ _ _ _ us hl => match us, hl with | [_], _ => rfl
  have F21 := fun_mk (st := s_law_program) l21 c21 k21
  have b21 := F21.binds (ps := ["_law_script", "_law_heads_here"]) fun _ _ _ _ _ _ us hl => match us, hl with | [_, _], _ => rfl
  have F22 := fun_mk (st := s_law_heads_of) l22 c22 k22
  have b22 := F22.binds (ps := ["_law_form_here"]) fun _ _ _ _ _ _ us hl => match us, hl with | [_], _ => rfl
  have F23 := fun_mk (st := s_law_put) l23 c23 k23
  have b23 := F23.binds (ps := ["_law_form_here", "_law_at", "_law_other"]) fun _ _ _ _ _ _ us hl => match us, hl with | [_, _, _], _ => rfl
  have F24 := fun_mk (st := s_law_odd) l24 c24 k24
  have b24 := F24.binds (ps := ["_law_heads_here", "_law_way"]) fun _ _ _ _ _ _ us hl => match us, hl with | [_, _], _ => rfl
  have F25 := fun_mk (st := s_law_deep) l25 c25 k25
  have b25 := F25.binds (ps := ["_law_many"]) fun _ _ _ _ _ _ us hl => match us, hl with | [_], _ => rfl
  have F26 := fun_mk (st := s_law_with) l26 c26 k26
  have b26 := F26.binds (ps := ["_law_program_here", "_law_k", "_law_function"]) fun _ _ _ _ _ _ us hl => match us, hl with | [_, _, _], _ => rfl
  have F27 := fun_mk (st := s_law_spoilt) l27 c27 k27
  have b27 := F27.binds (ps := ["_law_program_here", "_law_heads_here", "_law_way", "_law_cell"]) fun _ _ _ _ _ _ us hl => match us, hl with | [_, _, _, _], _ => rfl
  have F28 := fun_mk (st := s_law_truth) l28 c28 k28
  have b28 := F28.binds (ps := ["_law_found", "_law_due"]) fun _ _ _ _ _ _ us hl => match us, hl with | [_, _], _ => rfl
  have F29 := fun_mk (st := s_law_is_name) l29 c29 k29
  have b29 := F29.binds (ps := ["_law_text_here"]) fun _ _ _ _ _ _ us hl => match us, hl with | [_], _ => rfl
  have F30 := fun_mk (st := s_law_text) l30 c30 k30
  have b30 := F30.binds (ps := ["_law_cell"]) fun _ _ _ _ _ _ us hl => match us, hl with | [_], _ => rfl
  have F31 := fun_mk (st := s_law_sure) l31 c31 k31
  have b31 := F31.binds (ps := []) fun _ _ _ _ _ _ us hl => match us, hl with | [], _ => rfl
  have F32 := fun_mk (st := s_law) l32 c32 k32
  have b32 := F32.binds (ps := ["_law_script"]) fun _ _ _ _ _ _ us hl => match us, hl with | [_], _ => rfl
  have B : Blt mg := Blt.mk (PySem.W.mg_none_of X G z_len) (PySem.W.mg_none_of X G z_isinstance) (PySem.W.mg_none_of X G z_abs) (PySem.W.mg_none_of X G z_int) (PySem.W.mg_none_of X G z_str) (PySem.W.mg_none_of X G z_tuple) (PySem.W.mg_none_of X G z_list) (PySem.W.mg_none_of X G z_all) (PySem.W.mg_none_of X G z_any) (PySem.W.mg_none_of X G z_sum) (PySem.W.mg_none_of X G z_range) (PySem.W.mg_none_of X G z_zip) (PySem.W.mg_none_of X G z_reversed) (PySem.W.mg_none_of X G z_bool) (PySem.W.mg_none_of X G z_set) (PySem.W.mg_none_of X G z_dict)
  refine ⟨PySem.W.fnOf "law" "law" (defArgs s_law) (defBody s_law) (defScope s_law) .none kV32 dc32 pm32 an32 cd32 ct32, fun s v => .of_eq rfl, fun base _ _ => ?_⟩
  exact main B (Has.mk X G a0 F0 b0) (Has.mk X G a1 F1 b1) (Has.mk X G a2 F2 b2) (Has.mk X G a3 F3 b3) (Has.mk X G a4 F4 b4) (Has.mk X G a5 F5 b5) (Has.mk X G a6 F6 b6) (Has.mk X G a7 F7 b7) (Has.mk X G a8 F8 b8) (Has.mk X G a9 F9 b9) (Has.mk X G a10 F10 b10) (Has.mk X G a11 F11 b11) (Has.mk X G a12 F12 b12) (Has.mk X G a13 F13 b13) (Has.mk X G a14 F14 b14) (Has.mk X G a15 F15 b15) (Has.mk X G a16 F16 b16) (Has.mk X G a17 F17 b17) (Has.mk X G a18 F18 b18) (Has.mk X G a19 F19 b19) (Has.mk X G a20 F20 b20) (Has.mk X G a21 F21 b21) (Has.mk X G a22 F22 b22) (Has.mk X G a23 F23 b23) (Has.mk X G a24 F24 b24) (Has.mk X G a25 F25 b25) (Has.mk X G a26 F26 b26) (Has.mk X G a27 F27 b27) (Has.mk X G a28 F28 b28) (Has.mk X G a29 F29 b29) (Has.mk X G a30 F30 b30) (Has.mk X G a31 F31 b31) (GConst.int X G g_MOST_NUMBER) (GConst.int X G g_MOST_WEIGHT) (GConst.int X G g_MOST_PARTS) (GConst.int X G g_MOST_SIGNS) (GConst.int X G g_MOST_NAMES) (GConst.int X G g_MOST_DEPTH) (GConst.strs ["first", "rest", "empty", "down"] X G ta_ALONE tl_ALONE (by simp) (.cons ⟨_, rfl⟩ (.cons ⟨_, rfl⟩ (.cons ⟨_, rfl⟩ (.cons ⟨_, rfl⟩ (.nil)))))) (GConst.strs ["plus", "minus", "times", "over", "less", "first", "rest", "empty", "down", "same", "join", "list"] X G ta_OPERATIONS tl_OPERATIONS (by simp) (.cons ⟨_, rfl⟩ (.cons ⟨_, rfl⟩ (.cons ⟨_, rfl⟩ (.cons ⟨_, rfl⟩ (.cons ⟨_, rfl⟩ (.cons ⟨_, rfl⟩ (.cons ⟨_, rfl⟩ (.cons ⟨_, rfl⟩ (.cons ⟨_, rfl⟩ (.cons ⟨_, rfl⟩ (.cons ⟨_, rfl⟩ (.cons ⟨_, rfl⟩ (.nil)))))))))))))) (GConst.strs ["NoNumber", "NoList", "NoFirst", "NoDown", "ByNought", "TooGreat"] X G ta_WORDS tl_WORDS (by simp) (.cons ⟨_, rfl⟩ (.cons ⟨_, rfl⟩ (.cons ⟨_, rfl⟩ (.cons ⟨_, rfl⟩ (.cons ⟨_, rfl⟩ (.cons ⟨_, rfl⟩ (.nil)))))))) ⟨.str "abcdefghijklmnopqrstuvwxyz", _, PySem.W.mg_of X G tx_LETTERS, ⟨_, rfl⟩, fun _ => rfl⟩ ⟨.str "0123456789", _, PySem.W.mg_of X G tx_FIGURES, ⟨_, rfl⟩, fun _ => rfl⟩ F32 hfa b32
theorem walk {l : PySem.W.OpenLaw} {q : Program} {loose : List Str} {XP : (Str → Option Value) → Heap → Prop} {YP : World → Heap → Prop} {d : DefRec} {K : Params → PySem.W.Frag} (hn : l.most = some 63) (hdf : d.params.defaults = [])
    (hY : ∀ (w : World) (h : Heap), YP w h → (K w.params).In h)
    (F : ∀ (w : World) (mg : Str → Option Value) (fa : Addr) (h : Heap), (K w.params).In h → h.Ns mainGlobals mg → mg d.name = some (.ref fa) →
      ∃ fd : FuncData, (∀ (s : Shared) (u : Value), BindsTo s fd ⟨[u], []⟩ [("_law_script", u)]) ∧ ∀ base : Heap, (K w.params).In base → base.Ns mainGlobals mg → FnOk l.prog w (K w.params) mg base (L2N.CX l.prog w) 90 fa fd ["_law_script"] (HF.spLaw (K w.params))) :
    PySem.W.WalkO q loose XP YP l.row.toRowW d [] (fun f vs => PySem.call f vs) :=
  L2.walk_of (n := 63) (k := 90) (x := "_law_script") (CX := fun w => L2N.CX l.prog w) (sp := fun w => HF.spLaw (K w.params)) hn (by decide) hdf ⟨rfl, by decide, by decide⟩ hY F (fun _ _ a ns hl _ hS => spLaw_go hl hS) fun _ _ _ _ _ z => no_exc z
end HFL
open PySem PySem.W PyProof.Rows
set_option maxRecDepth 100000 in
set_option maxHeartbeats 0 in
theorem PySem.Challenge.cw_halfrun_k03_good_programs_holds : PySem.Challenge.rw_halfrun_k03_good_programs.Holds := by
  w_on; o_law; k_head; (case hw => w_witness2)
  k_fill
  refine HFL.walk (l := PySem.Challenge.rw_halfrun_k03_good_programs) rfl rfl (fun w h Y => PySem.W.kIn_of Y) ?F
  case F =>
    intro w mg fa h KX G hmg
    refine' HFL.all_mk KX G hmg ?a0 ?l0 ?c0 ?k0 ?a1 ?l1 ?c1 ?k1 ?a2 ?l2 ?c2 ?k2 ?a3 ?l3 ?c3 ?k3 ?a4 ?l4 ?c4 ?k4 ?a5 ?l5 ?c5 ?k5 ?a6 ?l6 ?c6 ?k6 ?a7 ?l7 ?c7 ?k7 ?a8 ?l8 ?c8 ?k8 ?a9 ?l9 ?c9 ?k9 ?a10 ?l10 ?c10 ?k10 ?a11 ?l11 ?c11 ?k11 ?a12 ?l12 ?c12 ?k12 ?a13 ?l13 ?c13 ?k13 ?a14 ?l14 ?c14 ?k14 ?a15 ?l15 ?c15 ?k15 ?a16 ?l16 ?c16 ?k16 ?a17 ?l17 ?c17 ?k17 ?a18 ?l18 ?c18 ?k18 ?a19 ?l19 ?c19 ?k19 ?a20 ?l20 ?c20 ?k20 ?a21 ?l21 ?c21 ?k21 ?a22 ?l22 ?c22 ?k22 ?a23 ?l23 ?c23 ?k23 ?a24 ?l24 ?c24 ?k24 ?a25 ?l25 ?c25 ?k25 ?a26 ?l26 ?c26 ?k26 ?a27 ?l27 ?c27 ?k27 ?a28 ?l28 ?c28 ?k28 ?a29 ?l29 ?c29 ?k29 ?a30 ?l30 ?c30 ?k30 ?a31 ?l31 ?c31 ?k31 ?a32 ?l32 ?c32 ?k32 ?z_len ?z_isinstance ?z_abs ?z_int ?z_str ?z_tuple ?z_list ?z_all ?z_any ?z_sum ?z_range ?z_zip ?z_reversed ?z_bool ?z_set ?z_dict ?g_MOST_NUMBER ?g_MOST_WEIGHT ?g_MOST_PARTS ?g_MOST_SIGNS ?g_MOST_NAMES ?g_MOST_DEPTH ?ta_ALONE ?tl_ALONE ?ta_OPERATIONS ?tl_OPERATIONS ?ta_WORDS ?tl_WORDS ?tx_LETTERS ?tx_FIGURES
    (case a0 => k_is)
    (case l0 => k_is)
    (case c0 => k_is)
    (case k0 => k_is)
    (case a1 => k_is)
    (case l1 => k_is)
    (case c1 => k_is)
    (case k1 => k_is)
    (case a2 => k_is)
    (case l2 => k_is)
    (case c2 => k_is)
    (case k2 => k_is)
    (case a3 => k_is)
    (case l3 => k_is)
    (case c3 => k_is)
    (case k3 => k_is)
    (case a4 => k_is)
    (case l4 => k_is)
    (case c4 => k_is)
    (case k4 => k_is)
    (case a5 => k_is)
    (case l5 => k_is)
    (case c5 => k_is)
    (case k5 => k_is)
    (case a6 => k_is)
    (case l6 => k_is)
    (case c6 => k_is)
    (case k6 => k_is)
    (case a7 => k_is)
    (case l7 => k_is)
    (case c7 => k_is)
    (case k7 => k_is)
    (case a8 => k_is)
    (case l8 => k_is)
    (case c8 => k_is)
    (case k8 => k_is)
    (case a9 => k_is)
    (case l9 => k_is)
    (case c9 => k_is)
    (case k9 => k_is)
    (case a10 => k_is)
    (case l10 => k_is)
    (case c10 => k_is)
    (case k10 => k_is)
    (case a11 => k_is)
    (case l11 => k_is)
    (case c11 => k_is)
    (case k11 => k_is)
    (case a12 => k_is)
    (case l12 => k_is)
    (case c12 => k_is)
    (case k12 => k_is)
    (case a13 => k_is)
    (case l13 => k_is)
    (case c13 => k_is)
    (case k13 => k_is)
    (case a14 => k_is)
    (case l14 => k_is)
    (case c14 => k_is)
    (case k14 => k_is)
    (case a15 => k_is)
    (case l15 => k_is)
    (case c15 => k_is)
    (case k15 => k_is)
    (case a16 => k_is)
    (case l16 => k_is)
    (case c16 => k_is)
    (case k16 => k_is)
    (case a17 => k_is)
    (case l17 => k_is)
    (case c17 => k_is)
    (case k17 => k_is)
    (case a18 => k_is)
    (case l18 => k_is)
    (case c18 => k_is)
    (case k18 => k_is)
    (case a19 => k_is)
    (case l19 => k_is)
    (case c19 => k_is)
    (case k19 => k_is)
    (case a20 => k_is)
    (case l20 => k_is)
    (case c20 => k_is)
    (case k20 => k_is)
    (case a21 => k_is)
    (case l21 => k_is)
    (case c21 => k_is)
    (case k21 => k_is)
    (case a22 => k_is)
    (case l22 => k_is)
    (case c22 => k_is)
    (case k22 => k_is)
    (case a23 => k_is)
    (case l23 => k_is)
    (case c23 => k_is)
    (case k23 => k_is)
    (case a24 => k_is)
    (case l24 => k_is)
    (case c24 => k_is)
    (case k24 => k_is)
    (case a25 => k_is)
    (case l25 => k_is)
    (case c25 => k_is)
    (case k25 => k_is)
    (case a26 => k_is)
    (case l26 => k_is)
    (case c26 => k_is)
    (case k26 => k_is)
    (case a27 => k_is)
    (case l27 => k_is)
    (case c27 => k_is)
    (case k27 => k_is)
    (case a28 => k_is)
    (case l28 => k_is)
    (case c28 => k_is)
    (case k28 => k_is)
    (case a29 => k_is)
    (case l29 => k_is)
    (case c29 => k_is)
    (case k29 => k_is)
    (case a30 => k_is)
    (case l30 => k_is)
    (case c30 => k_is)
    (case k30 => k_is)
    (case a31 => k_is)
    (case l31 => k_is)
    (case c31 => k_is)
    (case k31 => k_is)
    (case a32 => k_is)
    (case l32 => k_is)
    (case c32 => k_is)
    (case k32 => k_is)
    (case z_len => k_is)
    (case z_isinstance => k_is)
    (case z_abs => k_is)
    (case z_int => k_is)
    (case z_str => k_is)
    (case z_tuple => k_is)
    (case z_list => k_is)
    (case z_all => k_is)
    (case z_any => k_is)
    (case z_sum => k_is)
    (case z_range => k_is)
    (case z_zip => k_is)
    (case z_reversed => k_is)
    (case z_bool => k_is)
    (case z_set => k_is)
    (case z_dict => k_is)
    (case g_MOST_NUMBER => k_is)
    (case g_MOST_WEIGHT => k_is)
    (case g_MOST_PARTS => k_is)
    (case g_MOST_SIGNS => k_is)
    (case g_MOST_NAMES => k_is)
    (case g_MOST_DEPTH => k_is)
    (case ta_ALONE => k_is)
    (case tl_ALONE => k_is)
    (case ta_OPERATIONS => k_is)
    (case tl_OPERATIONS => k_is)
    (case ta_WORDS => k_is)
    (case tl_WORDS => k_is)
    (case tx_LETTERS => k_is)
    (case tx_FIGURES => k_is)
