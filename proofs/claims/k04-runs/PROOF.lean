import PyProof.Rows.All
import Wide.All
import OpenK.AllK
import Wide.FinOn
import HandS.ForExc
import HandS.ForMost
import HandS.TupAny
import HandS.TupLe
import HandS.TupMul
import HandS.IsInst
import HandS.Wide
import HandS.Deep
import HandS.Codes
import HandS.Rev
import HandS.Zip
import HandS.ExcCtx
import HandS.HotCalls
import HandS.ExcIs
import HandS.More
import KE.KDictZip
import KE.GoesMore
import KE.GoesEnum
import PySem.Challenge.RW_halfrun_k04_runs
set_option Elab.async false
set_option linter.all false
set_option maxRecDepth 100000
set_option maxHeartbeats 4000000
set_option autoImplicit false
namespace HF
open PySem PySem.Spec PyProof.Rows L2
/-! ### data -/
inductive Ty where
  | int | bool | str | tuple | list
  deriving DecidableEq
def Ty.name : Ty → String
  | .int => "int"
  | .bool => "bool"
  | .str => "str"
  | .tuple => "tuple"
  | .list => "list"
inductive D where
  | non
  | bl (b : Bool)
  | int (i : Int)
  | str (s : Str)
  | tup (xs : List D)
  | lst (xs : List D)
  | dct (ks : List Key) (xs : List D)
  | scr (ns : List Int)
  | ty (n : Ty)
  | ob (a : Addr)
instance : Inhabited D := ⟨.non⟩
mutual
def Rp (K : PySem.W.Frag) (G : Hp) : D → V → Prop
  | .non, v => v = .non
  | .bl b, v => v = .bl b
  | .int i, v => v = .int i
  | .str s, v => v = .str s
  | .tup ds, v => ∃ a xs, v = .ref a ∧ SqT K G a xs ∧ RpL K G ds xs
  | .lst ds, v => ∃ a xs, v = .ref a ∧ G a = some (.lst xs) ∧ RpL K G ds xs
  | .dct ks ds, v => ∃ a kvs, v = .ref a ∧ G a = some (.dK kvs) ∧ kvs.map (·.1) = ks ∧ RpL K G ds (kvs.map (·.2))
  | .scr ns, v => ∃ a, v = .ref a ∧ SqL K G a (ns.map V.int)
  | .ty n, v => v = .ty n.name
  | .ob a, v => v = .ref a
def RpL (K : PySem.W.Frag) (G : Hp) : List D → List V → Prop
  | [], xs => xs = []
  | d :: ds, xs => ∃ x r, xs = x :: r ∧ Rp K G d x ∧ RpL K G ds r
end
theorem Same.sqT {K : PySem.W.Frag} {H H' : Hp} {a : Addr} {xs : List V} (e : Same H H') (h : SqT K H a xs) : SqT K H' a xs := by
  rcases h with (h | ⟨o, h⟩) | h
  · exact .inl (.inl (e _ _ h))
  · exact .inl (.inr ⟨o, e _ _ h⟩)
  · exact .inr h
mutual
theorem Rp.mono {K : PySem.W.Frag} {G G' : Hp} (e : Same G G') : ∀ (d : D) (v : V), Rp K G d v → Rp K G' d v
  | .non, v, h => h
  | .bl b, v, h => h
  | .int i, v, h => h
  | .str s, v, h => h
  | .tup ds, v, h => by
    obtain ⟨a, xs, e1, h1, h2⟩ := h
    exact ⟨a, xs, e1, Same.sqT e h1, RpL.mono e ds xs h2⟩
  | .lst ds, v, h => by
    obtain ⟨a, xs, e1, h1, h2⟩ := h
    exact ⟨a, xs, e1, e _ _ h1, RpL.mono e ds xs h2⟩
  | .dct ks ds, v, h => by
    obtain ⟨a, kvs, e1, h1, h3, h2⟩ := h
    exact ⟨a, kvs, e1, e _ _ h1, h3, RpL.mono e ds _ h2⟩
  | .scr ns, v, h => by
    obtain ⟨a, e1, h1⟩ := h
    exact ⟨a, e1, e.seq h1⟩
  | .ty n, v, h => h
  | .ob a, v, h => h
theorem RpL.mono {K : PySem.W.Frag} {G G' : Hp} (e : Same G G') : ∀ (ds : List D) (xs : List V), RpL K G ds xs → RpL K G' ds xs
  | [], xs, h => h
  | d :: ds, xs, h => by
    obtain ⟨x, r, e1, h1, h2⟩ := h
    exact ⟨x, r, e1, Rp.mono e d x h1, RpL.mono e ds r h2⟩
end
section
variable {K : PySem.W.Frag} {G : Hp}
theorem RpL.length : ∀ {ds : List D} {xs : List V}, RpL K G ds xs → xs.length = ds.length
  | [], xs, h => by rw [show xs = [] from h]; rfl
  | d :: ds, xs, h => by
    obtain ⟨x, r, rfl, _, h2⟩ := h
    rw [List.length_cons, List.length_cons, RpL.length h2]
theorem RpL.get : ∀ {ds : List D} {xs : List V} {i : Nat} {d : D}, RpL K G ds xs → ds[i]? = some d → ∃ x, xs[i]? = some x ∧ Rp K G d x
  | [], xs, i, d, h, e => by simp at e
  | d :: ds, xs, 0, d', h, e => by
    obtain ⟨x, r, rfl, h1, _⟩ := h
    have : d = d' := by simpa using e
    subst this
    exact ⟨x, rfl, h1⟩
  | d :: ds, xs, i + 1, d', h, e => by
    obtain ⟨x, r, rfl, _, h2⟩ := h
    obtain ⟨y, e1, h3⟩ := RpL.get (i := i) (d := d') h2 (by simpa using e)
    exact ⟨y, by simpa using e1, h3⟩
theorem RpL.append : ∀ {ds es : List D} {xs ys : List V}, RpL K G ds xs → RpL K G es ys → RpL K G (ds ++ es) (xs ++ ys)
  | [], es, xs, ys, h, k => by rw [show xs = [] from h]; exact k
  | d :: ds, es, xs, ys, h, k => by
    obtain ⟨x, r, rfl, h1, h2⟩ := h
    exact ⟨x, r ++ ys, rfl, h1, RpL.append h2 k⟩
theorem RpL.one {d : D} {x : V} (h : Rp K G d x) : RpL K G [d] [x] := ⟨x, [], rfl, h, rfl⟩
theorem RpL.take : ∀ {ds : List D} {xs : List V} (n : Nat), RpL K G ds xs → RpL K G (ds.take n) (xs.take n)
  | _, _, 0, _ => rfl
  | [], xs, n + 1, h => by rw [show xs = [] from h]; rfl
  | d :: ds, xs, n + 1, h => by
    obtain ⟨x, r, rfl, h1, h2⟩ := h
    exact ⟨x, r.take n, rfl, h1, RpL.take n h2⟩
theorem RpL.drop : ∀ {ds : List D} {xs : List V} (n : Nat), RpL K G ds xs → RpL K G (ds.drop n) (xs.drop n)
  | _, _, 0, h => h
  | [], xs, n + 1, h => by rw [show xs = [] from h]; rfl
  | d :: ds, xs, n + 1, h => by
    obtain ⟨x, r, rfl, h1, h2⟩ := h
    exact RpL.drop n h2
theorem RpL.set : ∀ {ds : List D} {xs : List V} (i : Nat) {d : D} {x : V}, RpL K G ds xs → Rp K G d x → RpL K G (ds.set i d) (xs.set i x)
  | [], xs, i, d, x, h, k => by rw [show xs = [] from h]; exact rfl
  | d :: ds, xs, 0, d', x', h, k => by
    obtain ⟨x, r, rfl, h1, h2⟩ := h
    exact ⟨x', r, rfl, k, h2⟩
  | d :: ds, xs, i + 1, d', x', h, k => by
    obtain ⟨x, r, rfl, h1, h2⟩ := h
    exact ⟨x, r.set i x', rfl, h1, RpL.set i h2 k⟩
theorem RpL.rep (k : Nat) {ds : List D} {xs : List V} (h : RpL K G ds xs) : RpL K G (List.replicate k ds).flatten (List.replicate k xs).flatten := by
  induction k with
  | zero => exact rfl
  | succ k ih =>
    rw [List.replicate_succ, List.replicate_succ, List.flatten_cons, List.flatten_cons]
    exact h.append ih
theorem RpL.reverse : ∀ {ds : List D} {xs : List V}, RpL K G ds xs → RpL K G ds.reverse xs.reverse
  | [], xs, h => by rw [show xs = [] from h]; exact rfl
  | d :: ds, xs, h => by
    obtain ⟨x, r, rfl, h1, h2⟩ := h
    rw [List.reverse_cons, List.reverse_cons]
    exact (RpL.reverse h2).append (RpL.one h1)
theorem RpL.ints : ∀ (ns : List Int), RpL K G (ns.map D.int) (ns.map V.int)
  | [] => rfl
  | n :: r => ⟨_, _, rfl, rfl, RpL.ints r⟩
end
/-! ### slots -/
inductive Sl where
  | non
  | val (d : D)
  | own (d : D)
  | io (d : D)
@[simp] def Sl.mu : Sl → Option D
  | .own d => some d
  | .io d => some d
  | _ => none
/-- with other contents -/
@[simp] def Sl.put (s : Sl) (d : D) : Sl := match s with
  | .own _ => .own d
  | .io _ => .io d
  | s => s
/-- what stands at p may be written: d -/
def MuAt (K : PySem.W.Frag) (H G : Hp) : D → Addr → Prop
  | .lst ds, p => ∃ xs, H p = some (.lst xs) ∧ RpL K G ds xs
  | .dct ks ds, p => ∃ kvs, H p = some (.dK kvs) ∧ kvs.map (·.1) = ks ∧ RpL K G ds (kvs.map (·.2))
  | _, _ => False
theorem MuAt.there {K : PySem.W.Frag} {H G : Hp} {d : D} {p : Addr} (h : MuAt K H G d p) : H p ≠ none := by
  cases d <;> first | exact h.elim | (obtain ⟨_, e, _⟩ := h; rw [e]; exact fun z => by cases z)
theorem MuAt.mono {K : PySem.W.Frag} {H G H' G' : Hp} {d : D} {p : Addr} (h : MuAt K H G d p) (e : H' p = H p) (g : Same G G') : MuAt K H' G' d p := by
  cases d with
  | lst ds =>
    obtain ⟨xs, e1, h1⟩ := h
    exact ⟨xs, by rw [e]; exact e1, RpL.mono g ds xs h1⟩
  | dct ks ds =>
    obtain ⟨xs, e1, h3, h1⟩ := h
    exact ⟨xs, by rw [e]; exact e1, h3, RpL.mono g ds _ h1⟩
  | _ => exact h.elim
/-- what is written is frozen -/
theorem MuAt.frz {K : PySem.W.Frag} {H G : Hp} {d : D} {p : Addr} (h : MuAt K H G d p) (hp : G p = none) (s : Same G H) : ∃ G', Same G G' ∧ Same G' H ∧ (∀ b, b ≠ p → G' b = G b) ∧ Rp K G' d (.ref p) := by
  cases d with
  | lst ds =>
    obtain ⟨xs, e1, h1⟩ := h
    refine ⟨upd G p (.lst xs), fun b o q => by rw [upd_ne (ne_of_none q hp)]; exact q, fun b o q => ?_, fun b hb => upd_ne hb, p, xs, rfl, upd_same, RpL.mono (fun b o q => by rw [upd_ne (ne_of_none q hp)]; exact q) ds xs h1⟩
    by_cases hb : b = p
    · subst hb; rw [upd_same] at q; cases q; exact e1
    · rw [upd_ne hb] at q; exact s _ _ q
  | dct ks ds =>
    obtain ⟨xs, e1, h3, h1⟩ := h
    refine ⟨upd G p (.dK xs), fun b o q => by rw [upd_ne (ne_of_none q hp)]; exact q, fun b o q => ?_, fun b hb => upd_ne hb, p, xs, rfl, upd_same, h3, RpL.mono (fun b o q => by rw [upd_ne (ne_of_none q hp)]; exact q) ds _ h1⟩
    by_cases hb : b = p
    · subst hb; rw [upd_same] at q; cases q; exact e1
    · rw [upd_ne hb] at q; exact s _ _ q
  | _ => exact h.elim
/-- the slot i can be written and stands at p -/
def MuIs (σ : L2.St) (env : List Sl) (p : Addr) : Prop := ∃ (i : Nat) (s : Sl) (d : D), env[i]? = some s ∧ s.mu = some d ∧ σ[i]? = some (some (.ref p))
/-- the environment env is what the slots σ hold in the heap H; G: what never changes -/
structure ER (K : PySem.W.Frag) (H G : Hp) (σ : L2.St) (env : List Sl) : Prop where
  len : σ.length = env.length
  sub : Same G H
  val : ∀ (i : Nat) (d : D), env[i]? = some (.val d) → ∃ v, σ[i]? = some (some v) ∧ Rp K G d v
  mu : ∀ (i : Nat) (s : Sl) (d : D), env[i]? = some s → s.mu = some d → ∃ p, σ[i]? = some (some (.ref p)) ∧ G p = none ∧ MuAt K H G d p
  sep : ∀ (i j : Nat) (s t : Sl) (d e : D) (p : Addr), env[i]? = some s → s.mu = some d → env[j]? = some t → t.mu = some e → σ[i]? = some (some (.ref p)) → σ[j]? = some (some (.ref p)) → i = j
/-- of one kind -/
def Kin : Option Sl → Option Sl → Prop
  | some (.own _), t => ∃ e, t = some (.own e)
  | some (.io _), t => ∃ e, t = some (.io e)
  | s, t => t = s
theorem Kin.refl (s : Option Sl) : Kin s s := by
  cases s with
  | none => rfl
  | some s => cases s <;> first | rfl | exact ⟨_, rfl⟩
theorem Kin.trans {a b c : Option Sl} (h : Kin a b) (k : Kin b c) : Kin a c := by
  cases a with
  | none => cases (show b = none from h); exact k
  | some s =>
    cases s with
    | non => cases (show b = some .non from h); exact k
    | val d => cases (show b = some (.val d) from h); exact k
    | own d => obtain ⟨e, rfl⟩ := (show ∃ e, b = some (.own e) from h); exact k
    | io d => obtain ⟨e, rfl⟩ := (show ∃ e, b = some (.io e) from h); exact k
theorem Kin.mu {s : Sl} {o : Option Sl} (h : Kin (some s) o) {d : D} (hd : s.mu = some d) : ∃ t e, o = some t ∧ t.mu = some e := by
  cases s with
  | non => cases hd
  | val d => cases hd
  | own d => obtain ⟨e, rfl⟩ := (show ∃ e, o = some (.own e) from h); exact ⟨_, _, rfl, rfl⟩
  | io d => obtain ⟨e, rfl⟩ := (show ∃ e, o = some (.io e) from h); exact ⟨_, _, rfl, rfl⟩
theorem Kin.back {s : Option Sl} {t : Sl} (h : Kin s (some t)) {d : D} (hd : t.mu = some d) : ∃ u e, s = some u ∧ u.mu = some e := by
  cases s with
  | none => cases (show some t = none from h)
  | some s =>
    cases s with
    | non => cases (show some t = some .non from h); cases hd
    | val d => cases (show some t = some (.val d) from h); cases hd
    | own d => exact ⟨_, _, rfl, rfl⟩
    | io d => exact ⟨_, _, rfl, rfl⟩
/-- a step of the heap: what may be written alone is changed -/
structure Stp (K : PySem.W.Frag) (σ : L2.St) (H G : Hp) (env : List Sl) (H' G' : Hp) (env' : List Sl) : Prop where
  er : ER K H' G' σ env'
  gr : Same G G'
  old : ∀ b, H b ≠ none → G b = none → G' b = none
  keep : ∀ b o, H b = some o → ¬ MuIs σ env b → H' b = some o
  kin : ∀ i : Nat, Kin (env[i]?) (env'[i]?)
theorem MuIs.to {σ : L2.St} {env env' : List Sl} {p : Addr} (kin : ∀ i : Nat, Kin (env[i]?) (env'[i]?)) (h : MuIs σ env p) : MuIs σ env' p := by
  obtain ⟨i, s, d, e1, e2, e3⟩ := h
  have k := kin i
  rw [e1] at k
  obtain ⟨t, e, q1, q2⟩ := k.mu e2
  exact ⟨i, t, e, q1, q2, e3⟩
theorem MuIs.of {σ : L2.St} {env env' : List Sl} {p : Addr} (kin : ∀ i : Nat, Kin (env[i]?) (env'[i]?)) (h : MuIs σ env' p) : MuIs σ env p := by
  obtain ⟨i, s, d, e1, e2, e3⟩ := h
  have k := kin i
  rw [e1] at k
  obtain ⟨t, e, q1, q2⟩ := k.back e2
  exact ⟨i, t, e, q1, q2, e3⟩
theorem Stp.refl {K : PySem.W.Frag} {σ : L2.St} {H G : Hp} {env : List Sl} (r : ER K H G σ env) : Stp K σ H G env H G env :=
  ⟨r, Same.refl _, fun _ _ h => h, fun _ _ h _ => h, fun _ => Kin.refl _⟩
theorem Stp.trans {K : PySem.W.Frag} {σ : L2.St} {H G H1 G1 H2 G2 : Hp} {env env1 env2 : List Sl} (a : Stp K σ H G env H1 G1 env1) (b : Stp K σ H1 G1 env1 H2 G2 env2) (r : ER K H G σ env) : Stp K σ H G env H2 G2 env2 where
  er := b.er
  gr := a.gr.trans b.gr
  old := fun c hc hg => by
    refine b.old c ?_ (a.old c hc hg)
    by_cases m : MuIs σ env c
    · obtain ⟨i, s, d, e1, e2, e3⟩ := m.to a.kin
      obtain ⟨p, q1, _, q3⟩ := a.er.mu i s d e1 e2
      rw [e3] at q1
      cases q1
      exact q3.there
    · cases e : H c with
      | none => exact absurd e hc
      | some o =>
        rw [a.keep c o e m]
        exact fun z => by cases z
  keep := fun c o e m => b.keep c o (a.keep c o e m) fun z => m (z.of a.kin)
  kin := fun i => (a.kin i).trans (b.kin i)
/-- new things alone -/
structure GS (H G H' G' : Hp) : Prop where
  hh : Same H H'
  gg : Same G G'
  gh : Same G' H'
  old : ∀ b, H b ≠ none → G b = none → G' b = none
theorem GS.refl {H G : Hp} (s : Same G H) : GS H G H G := ⟨Same.refl _, Same.refl _, s, fun _ _ h => h⟩
theorem GS.trans {H G H1 G1 H2 G2 : Hp} (a : GS H G H1 G1) (b : GS H1 G1 H2 G2) : GS H G H2 G2 :=
  ⟨a.hh.trans b.hh, a.gg.trans b.gg, b.gh, fun c hc hg => b.old c (fun z => hc (by
    cases e : H c with
    | none => rfl
    | some o => rw [a.hh c o e] at z; cases z)) (a.old c hc hg)⟩
theorem GS.new {H G : Hp} {p : Addr} {o : HO} (s : Same G H) (hp : H p = none) : GS H G (upd H p o) (upd G p o) := by
  have gp : G p = none := s.free hp
  refine ⟨fun b u q => by rw [upd_ne (ne_of_none q hp)]; exact q, fun b u q => by rw [upd_ne (ne_of_none q gp)]; exact q, fun b u q => ?_, fun b hb hg => ?_⟩
  · by_cases e : b = p
    · subst e; rw [upd_same] at q ⊢; exact q
    · rw [upd_ne e] at q ⊢; exact s _ _ q
  · have e : b ≠ p := fun e => hb (by rw [e]; exact hp)
    rw [upd_ne e]; exact hg
theorem GS.newH {H G : Hp} {p : Addr} {o : HO} (s : Same G H) (hp : H p = none) : GS H G (upd H p o) G :=
  ⟨fun b u q => by rw [upd_ne (ne_of_none q hp)]; exact q, Same.refl _, fun b u q => by rw [upd_ne (ne_of_none (s _ _ q) hp)]; exact s _ _ q, fun _ _ h => h⟩
theorem ER.gs {K : PySem.W.Frag} {σ : L2.St} {H G H' G' : Hp} {env : List Sl} (r : ER K H G σ env) (g : GS H G H' G') : ER K H' G' σ env where
  len := r.len
  sub := g.gh
  val := fun i d e => let ⟨v, q, h⟩ := r.val i d e; ⟨v, q, Rp.mono g.gg d v h⟩
  mu := fun i s d e1 e2 => by
    obtain ⟨p, q1, q2, q3⟩ := r.mu i s d e1 e2
    refine ⟨p, q1, g.old p q3.there q2, q3.mono ?_ g.gg⟩
    cases e : H p with
    | none => exact absurd e q3.there
    | some o => exact g.hh p o e
  sep := r.sep
theorem Stp.gs {K : PySem.W.Frag} {σ : L2.St} {H G H' G' : Hp} {env : List Sl} (r : ER K H G σ env) (g : GS H G H' G') : Stp K σ H G env H' G' env :=
  ⟨r.gs g, g.gg, g.old, fun b o e _ => g.hh b o e, fun _ => Kin.refl _⟩
/-! ### values -/
inductive Vl where
  | im (d : D)
  | fr (d : D)
  | bo (i : Nat)
def VlAt (K : PySem.W.Frag) (H0 H G : Hp) (σ : L2.St) (env : List Sl) : Vl → V → Prop
  | .im d, v => Rp K G d v
  | .fr d, v => ∃ p, v = .ref p ∧ H0 p = none ∧ G p = none ∧ MuAt K H G d p
  | .bo i, v => ∃ (s : Sl) (d : D) (p : Addr), env[i]? = some s ∧ s.mu = some d ∧ σ[i]? = some (some (.ref p)) ∧ v = .ref p
theorem MuIs.old {K : PySem.W.Frag} {σ : L2.St} {H G : Hp} {env : List Sl} (r : ER K H G σ env) {p : Addr} (h : MuIs σ env p) : H p ≠ none := by
  obtain ⟨i, s, d, e1, e2, e3⟩ := h
  obtain ⟨q, q1, _, q3⟩ := r.mu i s d e1 e2
  rw [e3] at q1
  cases q1
  exact q3.there
theorem VlAt.step {K : PySem.W.Frag} {σ : L2.St} {H0 H1 G1 H2 G2 : Hp} {env1 env2 : List Sl} {vl : Vl} {v : V} (h : VlAt K H0 H1 G1 σ env1 vl v) (s : Stp K σ H1 G1 env1 H2 G2 env2) (nm : ∀ p, H0 p = none → ¬ MuIs σ env1 p) : VlAt K H0 H2 G2 σ env2 vl v := by
  cases vl with
  | im d => exact Rp.mono s.gr d v h
  | fr d =>
    obtain ⟨p, e1, e2, e3, e4⟩ := h
    refine ⟨p, e1, e2, s.old p e4.there e3, e4.mono ?_ s.gr⟩
    cases e : H1 p with
    | none => exact absurd e e4.there
    | some o => exact s.keep p o e (nm p e2)
  | bo i =>
    obtain ⟨t, d, p, e1, e2, e3, e4⟩ := h
    have k := s.kin i
    rw [e1] at k
    obtain ⟨u, e, q1, q2⟩ := k.mu e2
    exact ⟨u, e, p, q1, q2, e3, e4⟩
/-- earlier start -/
theorem VlAt.from {K : PySem.W.Frag} {σ : L2.St} {H0 H1 H G : Hp} {env : List Sl} {vl : Vl} {v : V} (h : VlAt K H1 H G σ env vl v) (f : ∀ p, H1 p = none → H0 p = none) : VlAt K H0 H G σ env vl v := by
  cases vl with
  | im d => exact h
  | fr d =>
    obtain ⟨p, e1, e2, e3⟩ := h
    exact ⟨p, e1, f p e2, e3⟩
  | bo i => exact h
@[simp] def Vl.rd (env : List Sl) : Vl → Option D
  | .im d => some d
  | .fr d => some d
  | .bo i => (env[i]?).bind Sl.mu
/-- as it is to be read -/
def RdAt (K : PySem.W.Frag) (H G : Hp) (d : D) (v : V) : Prop := Rp K G d v ∨ ∃ p, v = .ref p ∧ MuAt K H G d p
theorem VlAt.read {K : PySem.W.Frag} {σ : L2.St} {H0 H G : Hp} {env : List Sl} {vl : Vl} {v : V} {d : D} (h : VlAt K H0 H G σ env vl v) (r : ER K H G σ env) (e : vl.rd env = some d) : RdAt K H G d v := by
  cases vl with
  | im d' => cases e; exact .inl h
  | fr d' => cases e; obtain ⟨p, e1, _, _, e4⟩ := h; exact .inr ⟨p, e1, e4⟩
  | bo i =>
    obtain ⟨s, d', p, e1, e2, e3, e4⟩ := h
    have q : (env[i]?).bind Sl.mu = some d := e
    rw [e1] at q
    have q' : s.mu = some d := q
    rw [e2] at q'
    cases q'
    obtain ⟨p', q1, _, q3⟩ := r.mu i s d e1 e2
    rw [e3] at q1
    cases q1
    exact .inr ⟨p, e4, q3⟩
@[simp] def Vl.toIm : Vl → Option D
  | .im d => some d
  | .fr d => some d
  | .bo _ => none
/-- frozen -/
theorem VlAt.imm {K : PySem.W.Frag} {σ : L2.St} {H0 G0 H G : Hp} {env0 env : List Sl} {vl : Vl} {v : V} {d : D} (h : VlAt K H0 H G σ env vl v) (s : Stp K σ H0 G0 env0 H G env) (r0 : ER K H0 G0 σ env0) (e : vl.toIm = some d) :
    ∃ G', Stp K σ H0 G0 env0 H G' env ∧ Same G G' ∧ (∀ b, H0 b ≠ none → G' b = G b) ∧ Rp K G' d v := by
  cases vl with
  | im d' => cases e; exact ⟨G, s, Same.refl _, fun _ _ => rfl, h⟩
  | bo i => cases e
  | fr d' =>
    cases e
    obtain ⟨p, e1, e2, e3, e4⟩ := h
    obtain ⟨G', g1, g2, g3, g4⟩ := e4.frz e3 s.er.sub
    have np : ∀ b, H0 b ≠ none → b ≠ p := fun b hb z => hb (by rw [z]; exact e2)
    refine ⟨G', ⟨⟨s.er.len, g2, fun i d q => ?_, fun i t d q1 q2 => ?_, s.er.sep⟩, s.gr.trans g1, fun b hb hg => ?_, s.keep, s.kin⟩, g1, fun b hb => g3 b (np b hb), by rw [e1]; exact g4⟩
    · obtain ⟨v, w1, w2⟩ := s.er.val i d q
      exact ⟨v, w1, Rp.mono g1 d v w2⟩
    · obtain ⟨p', w1, w2, w3⟩ := s.er.mu i t d q1 q2
      have m : MuIs σ env0 p' := MuIs.of s.kin ⟨i, t, d, q1, q2, w1⟩
      exact ⟨p', w1, by rw [g3 p' (np p' (m.old r0))]; exact w2, w3.mono rfl g1⟩
    · rw [g3 b (np b hb)]
      exact s.old b hb hg
end HF

set_option Elab.async false
set_option linter.all false
set_option maxRecDepth 100000
set_option maxHeartbeats 4000000
set_option autoImplicit false
namespace HF
open PySem PySem.Spec PyProof.Rows L2
/-! ### results -/
inductive Rs where
  | ok (v : Vl) (env : List Sl)
  | err (c : Str) (env : Option (List Sl))
  | stk
abbrev Fx := List Sl → Rs
@[simp] def bindR (r : Rs) (f : Vl → List Sl → Rs) : Rs := match r with
  | .ok v e => f v e
  | .err c e => .err c e
  | .stk => .stk
theorem bindR_ok (v : Vl) (e : List Sl) (f : Vl → List Sl → Rs) : bindR (.ok v e) f = f v e := rfl
def ErrAt (K : PySem.W.Frag) (σ : L2.St) (H G : Hp) (env : List Sl) (H' : Hp) : Option (List Sl) → Prop
  | some env' => ∃ G', Stp K σ H G env H' G' env'
  | none => ∀ b o, H b = some o → ¬ MuIs σ env b → H' b = some o
def PostR (K : PySem.W.Frag) (mg : Str → Option Value) (W : WX) (σ : L2.St) (H G : Hp) (env : List Sl) (Q : VK) : Rs → Prop
  | .ok vl env' => ∀ v H' G', Stp K σ H G env H' G' env' → VlAt K H H' G' σ env' vl v → Q v H'
  | .err c e => ∀ C H', mg c = some (.ref C) → ErrAt K σ H G env H' e → W (.ref C) none σ H'
  | .stk => False
def tD (K : PySem.W.Frag) (mg : Str → Option Value) (W : WX) (F : Fx) : TE := fun σ H Q => ∃ G env, ER K H G σ env ∧ PostR K mg W σ H G env Q (F env)
def EX (X : Cx) (W : WX) (e : Expr) (F : Fx) : Prop := PE X e (tD X.K X.mg W F)
theorem PE.weak {X : Cx} {e : Expr} {t t' : TE} (h : PE X e t) (w : ∀ σ H Q, t' σ H Q → t σ H Q) : PE X e t' := ⟨fun pins s σ H Q I q => h.run pins s σ H Q I (w σ H Q q)⟩
theorem PT.weak {X : Cx} {e : Expr} {t t' : TT} (h : PT X e t) (w : ∀ σ H Q, t' σ H Q → t σ H Q) : PT X e t' := ⟨fun pins s σ H Q I q => h.run pins s σ H Q I (w σ H Q q)⟩
theorem PW.weak {X : Cx} {e : Expr} {t t' : TT} (h : PW X e t) (w : ∀ σ H Q, t' σ H Q → t σ H Q) : PW X e t' := ⟨fun u pins s σ H Q I q => h.run u pins s σ H Q I (w σ H Q q)⟩
theorem PA.weak {X : Cx} {es : List Expr} {t t' : TA} (h : PA X es t) (w : ∀ σ H Q, t' σ H Q → t σ H Q) : PA X es t' := ⟨fun pos pins s σ H Q I q => h.run pos pins s σ H Q I (w σ H Q q)⟩
theorem PS.weak {X : Cx} {st : Stmt} {t t' : TS} (h : PS X st t) (w : ∀ D σ H, t' D σ H → t D σ H) : PS X st t' := ⟨fun pins s σ H D I q => h.run pins s σ H D I (w D σ H q)⟩
theorem PSs.weak {X : Cx} {st : List Stmt} {t t' : TS} (h : PSs X st t) (w : ∀ D σ H, t' D σ H → t D σ H) : PSs X st t' := ⟨fun pins s σ H D I q => h.run pins s σ H D I (w D σ H q)⟩
section
variable {K : PySem.W.Frag} {mg : Str → Option Value} {W : WX} {σ : L2.St} {H G H1 G1 H2 G2 : Hp} {env env1 env2 : List Sl} {Q : VK}
theorem Stp.free (s : Stp K σ H G env H1 G1 env1) (r : ER K H G σ env) {p : Addr} (h : H1 p = none) : H p = none := by
  by_cases m : MuIs σ env p
  · exact absurd h (MuIs.old s.er (m.to s.kin))
  · cases e : H p with
    | none => rfl
    | some o => rw [s.keep p o e m] at h; cases h
theorem PostR.shift (s : Stp K σ H G env H1 G1 env1) (r : ER K H G σ env) : ∀ {R : Rs}, PostR K mg W σ H G env Q R → PostR K mg W σ H1 G1 env1 Q R
  | .ok vl env', h => fun v H' G' s' v' => h v H' G' (s.trans s' r) (v'.from fun p e => s.free r e)
  | .err c (some e), h => fun C H' m ⟨G', s'⟩ => h C H' m ⟨G', s.trans s' r⟩
  | .err c none, h => fun C H' m k => h C H' m fun b o e nm => k b o (s.keep b o e nm) fun z => nm (z.of s.kin)
  | .stk, h => h
theorem tD_bind {F : Fx} {k : VK} {f : Vl → List Sl → Rs} (r : ER K H G σ env) (h : PostR K mg W σ H G env Q (bindR (F env) f))
    (st : ∀ vl env1 v H1 G1, Stp K σ H G env H1 G1 env1 → VlAt K H H1 G1 σ env1 vl v → PostR K mg W σ H G env Q (f vl env1) → k v H1) : tD K mg W F σ H k := by
  refine ⟨G, env, r, ?_⟩
  cases e : F env with
  | ok vl env1 =>
    rw [e] at h
    exact fun v H1 G1 s v1 => st vl env1 v H1 G1 s v1 h
  | err c e' =>
    rw [e] at h
    exact h
  | stk =>
    rw [e] at h
    exact h
theorem MuIs.new (r : ER K H G σ env) {p : Addr} (h : H p = none) : ¬ MuIs σ env p := fun m => m.old r h
end
/-! ### results of the operations that raise nothing -/
inductive Gr where
  | im (d : D)
  | fr (d : D)
  | stk
@[simp] def Gr.rs (env : List Sl) : Gr → Rs
  | .im d => .ok (.im d) env
  | .fr d => .ok (.fr d) env
  | .stk => .stk
def GrPost (K : PySem.W.Frag) (H G : Hp) (Q : VK) : Gr → Prop
  | .im d => ∀ v H' G', GS H G H' G' → Rp K G' d v → Q v H'
  | .fr d => ∀ p H' G', GS H G H' G' → H p = none → G' p = none → MuAt K H' G' d p → Q (.ref p) H'
  | .stk => False
section
variable {K : PySem.W.Frag} {mg : Str → Option Value} {W : WX} {σ : L2.St} {H G : Hp} {env : List Sl} {Q : VK}
theorem GrPost.of (r : ER K H G σ env) : ∀ {g : Gr}, PostR K mg W σ H G env Q (g.rs env) → GrPost K H G Q g
  | .im d, h => fun v H' G' g hv => h v H' G' (Stp.gs r g) hv
  | .fr d, h => fun p H' G' g h1 h2 h3 => h (.ref p) H' G' (Stp.gs r g) ⟨p, rfl, h1, h2, h3⟩
  | .stk, h => h
/-- the same heap -/
theorem GrPost.same {d : D} {v : V} (s : Same G H) (h : GrPost K H G Q (.im d)) (hv : Rp K G d v) : Q v H := h v H G (GS.refl s) hv
end
/-! ### two places -/
def OpSound (K : PySem.W.Frag) (g : D → D → Gr) (r : R2) : Prop := ∀ (H G : Hp) (x y : V) (a b : D) (Q : VK), Same G H → RdAt K H G a x → RdAt K H G b y → GrPost K H G Q (g a b) → r x y H Q
@[simp] def opR (g : D → D → Gr) (va vb : Vl) (env : List Sl) : Rs := match va.rd env, vb.rd env with
  | some a, some b => (g a b).rs env
  | _, _ => .stk
@[simp] def op2F (g : D → D → Gr) (Fa Fb : Fx)  (env : List Sl) : Rs := bindR (Fa env) fun va e1 => bindR (Fb e1) fun vb e2 => opR g va vb e2
section
variable {K : PySem.W.Frag} {mg : Str → Option Value} {W : WX}
theorem tOp_of {g : D → D → Gr} {r : R2} {Fa Fb : Fx} (hs : OpSound K g r) : ∀ σ H Q, tD K mg W (op2F g Fa Fb) σ H Q → tOp r (tD K mg W Fa) (tD K mg W Fb) σ H Q := by
  intro σ H Q ⟨G, env, re, h⟩
  refine tD_bind re h fun va e1 x H1 G1 s1 v1 p1 => ?_
  refine tD_bind s1.er (PostR.shift s1 re p1) fun vb e2 y H2 G2 s2 v2 p2 => ?_
  have p3 := PostR.shift s2 s1.er p2
  have v1' := v1.step s2 fun p hp m => (MuIs.new re hp) (m.of s1.kin)
  have p3 : PostR K mg W σ H2 G2 e2 Q (opR g va vb e2) := p3
  unfold opR at p3
  cases ea : va.rd e2 with
  | none => rw [ea] at p3; exact p3.elim
  | some a =>
    cases eb : vb.rd e2 with
    | none => rw [ea, eb] at p3; exact p3.elim
    | some b =>
      rw [ea, eb] at p3
      exact hs H2 G2 x y a b Q s2.er.sub (v1'.read s2.er ea) (v2.read s2.er eb) (GrPost.of s2.er p3)
end
section
variable {X : Cx} {W : WX} {a b : Expr} {Fa Fb : Fx} {pos : Pos}
theorem ex_op {op : Operator} {g : D → D → Gr} {r : R2} (ho : OpR X (binaryOp op) r) (hs : OpSound X.K g r) (ha : EX X W a Fa) (hb : EX X W b Fb) : EX X W (.BinOp a op b pos) (op2F g Fa Fb) :=
  PE.weak (pe_op ho ha hb) (tOp_of hs)
theorem ex_cmp {op : CmpOp} {g : D → D → Gr} {r : R2} (ho : OpR X (compareOp op) r) (hs : OpSound X.K g r) (ha : EX X W a Fa) (hb : EX X W b Fb) (hm : behindInMarks op b = false) : EX X W (.Compare a [op] [b] pos) (op2F g Fa Fb) :=
  PE.weak (pe_cmpR ho ha hb hm) (tOp_of hs)
theorem ex_ix {g : D → D → Gr} {r : R2} (ho : IxR X r) (hs : OpSound X.K g r) (ha : EX X W a Fa) (hb : EX X W b Fb) (hp : PlainIx b) : EX X W (.Subscript a b pos) (op2F g Fa Fb) :=
  PE.weak (pe_ix ho ha hb hp) (tOp_of hs)
end
/-! ### constants, names -/
@[simp] def cF (d : D)  (env : List Sl) : Rs := .ok (.im d) env
@[simp] def vF (i : Nat)  (env : List Sl) : Rs := match env[i]? with
  | some (.val d) => .ok (.im d) env
  | some (.own _) => .ok (.bo i) env
  | some (.io _) => .ok (.bo i) env
  | _ => .stk
section
variable {X : Cx} {W : WX}
theorem ex_c {e : Expr} {v : V} {d : D} (h : PE X e (tC v)) (hv : ∀ G, Rp X.K G d v) : EX X W e (cF d) :=
  PE.weak h fun σ H Q ⟨G, env, r, h⟩ => h v H G (Stp.refl r) (hv G)
theorem ex_int {i j pos} : EX X W (.Constant (.int i) j pos) (cF (.int i)) := ex_c pe_int fun _ => rfl
theorem ex_bl {b j pos} : EX X W (.Constant (.bool b) j pos) (cF (.bl b)) := ex_c pe_bl fun _ => rfl
theorem ex_non {j pos} : EX X W (.Constant .none j pos) (cF .non) := ex_c pe_non fun _ => rfl
theorem ex_str {x j pos} : EX X W (.Constant (.str x) j pos) (cF (.str x)) := ex_c pe_str fun _ => rfl
theorem ex_var (i : Nat) {x : Str} {pos : Pos} (hN : X.N[i]? = some x := by rfl) (hv : Vis X.env.scope x := by first | exact Or.inl rfl | exact Or.inr (Or.inl rfl) | exact Or.inr (Or.inr rfl)) (hd : (x == ("__debug__" : Str)) = false := by decide)
    (hcd : (x == ("__classdict__" : Str)) = false := by decide) : EX X W (.Name x pos) (vF i) := by
  refine PE.weak (pe_var hN hv hd hcd) fun σ H Q ⟨G, env, r, h⟩ => ?_
  unfold vF at h
  cases e : env[i]? with
  | none => rw [e] at h; exact h.elim
  | some s =>
    rw [e] at h
    cases s with
    | non => exact h.elim
    | val d =>
      obtain ⟨v, q1, q2⟩ := r.val i d e
      exact ⟨v, q1, h v H G (Stp.refl r) q2⟩
    | own d =>
      obtain ⟨p, q1, q2, q3⟩ := r.mu i _ d e rfl
      exact ⟨.ref p, q1, h _ H G (Stp.refl r) ⟨_, d, p, e, rfl, q1, rfl⟩⟩
    | io d =>
      obtain ⟨p, q1, q2, q3⟩ := r.mu i _ d e rfl
      exact ⟨.ref p, q1, h _ H G (Stp.refl r) ⟨_, d, p, e, rfl, q1, rfl⟩⟩
/-- a name of the module -/
theorem ex_glob {x : Str} {v : V} {u : Value} {d : D} {pos : Pos} (hm : X.mg x = some u) (r : RelV v u) (hv : ∀ G, Rp X.K G d v) (hg : Gl X x := by rfl) (hd : (x == ("__debug__" : Str)) = false := by decide) : EX X W (.Name x pos) (cF d) := ex_c (pe_glob hg hm r hd) hv
end
/-! ### arguments -/
inductive RsL where
  | ok (vs : List Vl) (env : List Sl)
  | err (c : Str) (env : Option (List Sl))
  | stk
abbrev FxL := List Sl → RsL
@[simp] def bindL (r : RsL) (f : List Vl → List Sl → Rs) : Rs := match r with
  | .ok v e => f v e
  | .err c e => .err c e
  | .stk => .stk
def VlsAt (K : PySem.W.Frag) (H0 H G : Hp) (σ : L2.St) (env : List Sl) : List Vl → List V → Prop
  | [], xs => xs = []
  | l :: ls, xs => ∃ x r, xs = x :: r ∧ VlAt K H0 H G σ env l x ∧ VlsAt K H0 H G σ env ls r
def PostA (K : PySem.W.Frag) (mg : Str → Option Value) (W : WX) (σ : L2.St) (H G : Hp) (env : List Sl) (Q : List V → Hp → Prop) : RsL → Prop
  | .ok vls env' => ∀ vs H' G', Stp K σ H G env H' G' env' → VlsAt K H H' G' σ env' vls vs → Q vs H'
  | .err c e => ∀ C H', mg c = some (.ref C) → ErrAt K σ H G env H' e → W (.ref C) none σ H'
  | .stk => False
def tDA (K : PySem.W.Frag) (mg : Str → Option Value) (W : WX) (F : FxL) : TA := fun σ H Q => ∃ G env, ER K H G σ env ∧ PostA K mg W σ H G env Q (F env)
def AX (X : Cx) (W : WX) (es : List Expr) (F : FxL) : Prop := PA X es (tDA X.K X.mg W F)
@[simp] def nilF  (env : List Sl) : RsL := .ok [] env
@[simp] def consF (F : Fx) (Fs : FxL)  (env : List Sl) : RsL := match F env with
  | .ok v e1 => (match Fs e1 with
    | .ok vs e2 => .ok (v :: vs) e2
    | .err c e => .err c e
    | .stk => .stk)
  | .err c e => .err c e
  | .stk => .stk
section
variable {K : PySem.W.Frag} {mg : Str → Option Value} {W : WX} {σ : L2.St} {H G H1 G1 H2 G2 : Hp} {env env1 env2 : List Sl} {Q : VK}
theorem tDA_bind {F : FxL} {k : List V → Hp → Prop} {f : List Vl → List Sl → Rs} (r : ER K H G σ env) (h : PostR K mg W σ H G env Q (bindL (F env) f))
    (st : ∀ vls env1 vs H1 G1, Stp K σ H G env H1 G1 env1 → VlsAt K H H1 G1 σ env1 vls vs → PostR K mg W σ H G env Q (f vls env1) → k vs H1) : tDA K mg W F σ H k := by
  refine ⟨G, env, r, ?_⟩
  cases e : F env with
  | ok vl env1 =>
    rw [e] at h
    exact fun v H1 G1 s v1 => st vl env1 v H1 G1 s v1 h
  | err c e' =>
    rw [e] at h
    exact h
  | stk =>
    rw [e] at h
    exact h
theorem PostA.shift {Q : List V → Hp → Prop} (s : Stp K σ H G env H1 G1 env1) (r : ER K H G σ env) : ∀ {R : RsL}, (∀ (ls : List Vl) (vs : List V) (H' G' : Hp) (e : List Sl), VlsAt K H1 H' G' σ e ls vs → VlsAt K H H' G' σ e ls vs) → PostA K mg W σ H G env Q R → PostA K mg W σ H1 G1 env1 Q R
  | .ok vl env', z, h => fun v H' G' s' v' => h v H' G' (s.trans s' r) (z _ _ _ _ _ v')
  | .err c (some e), z, h => fun C H' m ⟨G', s'⟩ => h C H' m ⟨G', s.trans s' r⟩
  | .err c none, z, h => fun C H' m k => h C H' m fun b o e nm => k b o (s.keep b o e nm) fun z => nm (z.of s.kin)
  | .stk, z, h => h
theorem VlsAt.from {H0 : Hp} (f : ∀ p, H1 p = none → H0 p = none) : ∀ {ls : List Vl} {vs : List V}, VlsAt K H1 H G σ env ls vs → VlsAt K H0 H G σ env ls vs
  | [], vs, h => h
  | l :: ls, vs, h => by
    obtain ⟨x, r, e, h1, h2⟩ := h
    exact ⟨x, r, e, h1.from f, VlsAt.from f h2⟩
theorem VlsAt.step {H0 : Hp} (s : Stp K σ H1 G1 env1 H2 G2 env2) (nm : ∀ p, H0 p = none → ¬ MuIs σ env1 p) : ∀ {ls : List Vl} {vs : List V}, VlsAt K H0 H1 G1 σ env1 ls vs → VlsAt K H0 H2 G2 σ env2 ls vs
  | [], vs, h => h
  | l :: ls, vs, h => by
    obtain ⟨x, r, e, h1, h2⟩ := h
    exact ⟨x, r, e, h1.step s nm, VlsAt.step s nm h2⟩
theorem VlsAt.length {H0 : Hp} : ∀ {ls : List Vl} {vs : List V}, VlsAt K H0 H G σ env ls vs → vs.length = ls.length
  | [], vs, h => by rw [show vs = [] from h]; rfl
  | l :: ls, vs, h => by
    obtain ⟨x, r, rfl, h1, h2⟩ := h
    rw [List.length_cons, List.length_cons, VlsAt.length h2]
end
section
variable {X : Cx} {W : WX}
theorem ax_nil : AX X W [] nilF := PA.weak pa_nil fun σ H Q ⟨G, env, r, h⟩ => h [] H G (Stp.refl r) rfl
theorem tDA_cons {K : PySem.W.Frag} {mg : Str → Option Value} {F : Fx} {Fs : FxL} {σ : L2.St} {H : Hp} {Q : List V → Hp → Prop} (h : tDA K mg W (consF F Fs) σ H Q) : tD K mg W F σ H fun x H1 => tDA K mg W Fs σ H1 fun xs H2 => Q (x :: xs) H2 := by
  obtain ⟨G, env, r, h⟩ := h
  refine ⟨G, env, r, ?_⟩
  unfold consF at h
  cases e1 : F env with
  | stk => rw [e1] at h; exact h
  | err c e => rw [e1] at h; exact h
  | ok vl env1 =>
    rw [e1] at h
    intro v H1 G1 s1 v1
    refine ⟨G1, env1, s1.er, ?_⟩
    cases e2 : Fs env1 with
    | stk => simp only [e2] at h; exact h
    | err c e =>
      simp only [e2] at h
      cases e with
      | some e => exact fun C H' m ⟨G', s'⟩ => h C H' m ⟨G', s1.trans s' r⟩
      | none => exact fun C H' m k => h C H' m fun b o e nm => k b o (s1.keep b o e nm) fun z => nm (z.of s1.kin)
    | ok vls env2 =>
      simp only [e2] at h
      intro vs H2 G2 s2 v2
      exact h (v :: vs) H2 G2 (s1.trans s2 r) ⟨v, vs, rfl, v1.step s2 fun p hp m => (MuIs.new r hp) (m.of s1.kin), v2.from fun p hp => s1.free r hp⟩
theorem ax_cons {e : Expr} {es : List Expr} {F : Fx} {Fs : FxL} (h1 : EX X W e F) (h2 : AX X W es Fs) (hs : starEach (e :: es) X.env = (false, eval e X.env) :: starEach es X.env := by rfl) : AX X W (e :: es) (consF F Fs) :=
  PA.weak (pa_cons h1 h2 hs) fun σ H Q h => tDA_cons h
end
/-! ### built-in functions by values -/
@[simp] def Vls.rd (env : List Sl) : List Vl → Option (List D)
  | [] => some []
  | l :: ls => match l.rd env, Vls.rd env ls with
    | some d, some ds => some (d :: ds)
    | _, _ => none
def RdsAt (K : PySem.W.Frag) (H G : Hp) : List D → List V → Prop
  | [], xs => xs = []
  | d :: ds, xs => ∃ x r, xs = x :: r ∧ RdAt K H G d x ∧ RdsAt K H G ds r
theorem VlsAt.read {K : PySem.W.Frag} {σ : L2.St} {H0 H G : Hp} {env : List Sl} (r : ER K H G σ env) : ∀ {ls : List Vl} {vs : List V} {ds : List D}, VlsAt K H0 H G σ env ls vs → Vls.rd env ls = some ds → RdsAt K H G ds vs
  | [], vs, ds, h, e => by cases e; exact h
  | l :: ls, vs, ds, h, e => by
    obtain ⟨x, xs, rfl, h1, h2⟩ := h
    unfold Vls.rd at e
    cases e1 : l.rd env with
    | none => rw [e1] at e; cases e
    | some d =>
      cases e2 : Vls.rd env ls with
      | none => rw [e1, e2] at e; cases e
      | some ds' =>
        rw [e1, e2] at e
        cases e
        exact ⟨x, xs, rfl, h1.read r e1, VlsAt.read r h2 e2⟩
@[simp] def blF (g : List D → Gr) (Fs : FxL)  (env : List Sl) : Rs := bindL (Fs env) fun vls e => match Vls.rd e vls with
  | some ds => (g ds).rs e
  | none => .stk
def ClSound (K : PySem.W.Frag) (g : List D → Gr) (r : List V → Hp → VK → Prop) : Prop := ∀ (H G : Hp) (xs : List V) (ds : List D) (Q : VK), Same G H → RdsAt K H G ds xs → GrPost K H G Q (g ds) → r xs H Q
section
variable {X : Cx} {W : WX} {x : Str} {p pos : Pos} {e : Expr} {es : List Expr} {Fs : FxL} {id T : String} {r : List V → Hp → VK → Prop} {g : List D → Gr}
theorem tCB_of {K : PySem.W.Frag} {mg : Str → Option Value} (hs : ClSound K g r) : ∀ σ H Q, tD K mg W (blF g Fs) σ H Q → tCB r (tDA K mg W Fs) σ H Q := by
  intro σ H Q ⟨G, env, re, h⟩
  refine tDA_bind re h fun vls e1 xs H1 G1 s1 v1 p1 => ?_
  have p2 := PostR.shift s1 re p1
  cases e2 : Vls.rd e1 vls with
  | none => simp only [e2] at p2; exact p2.elim
  | some ds =>
    simp only [e2] at p2
    exact hs H1 G1 xs ds Q s1.er.sub (VlsAt.read s1.er v1 e2) (GrPost.of s1.er p2)
theorem ex_callB (hc : CallR X (.builtin id) r) (hs : ClSound X.K g r) (hm : X.mg x = none) (hv : bootBuiltins x = some (.builtin id)) (ha : AX X W (e :: es) Fs) (hg : Gl X x := by rfl) (hn : x ≠ "__name__" := by decide) (hdb : (x == ("__debug__" : Str)) = false := by decide)
    (he : starEach (e :: es) X.env = (false, eval e X.env) :: starEach es X.env := by rfl) (hpl : (backTo pos (starEach es X.env)).any (·.1) = false := by rfl) : EX X W (.Call (.Name x p) (e :: es) [] pos) (blF g Fs) :=
  PE.weak (pe_callB hc hg hm hv ha hn hdb he hpl) (tCB_of hs)
theorem ex_callTy (hc : CallR X (.type T) r) (hs : ClSound X.K g r) (hm : X.mg x = none) (hv : bootBuiltins x = some (.type T)) (ha : AX X W (e :: es) Fs) (hg : Gl X x := by rfl) (hn : x ≠ "__name__" := by decide) (hdb : (x == ("__debug__" : Str)) = false := by decide)
    (he : starEach (e :: es) X.env = (false, eval e X.env) :: starEach es X.env := by rfl) (hpl : (backTo pos (starEach es X.env)).any (·.1) = false := by rfl) : EX X W (.Call (.Name x p) (e :: es) [] pos) (blF g Fs) :=
  PE.weak (pe_callTy hc hg hm hv ha hn hdb he hpl) (tCB_of hs)
end
end HF

set_option Elab.async false
set_option linter.all false
set_option maxRecDepth 100000
set_option maxHeartbeats 4000000
set_option autoImplicit false
namespace HF
open PySem PySem.Spec PyProof.Rows L2
/-! ### data for == -/
mutual
def D.py : D → PyData
  | .non => .none
  | .bl b => .bool b
  | .int i => .int i
  | .str s => .str s
  | .tup xs => .tuple (D.pyL xs)
  | .lst xs => .list (D.pyL xs)
  | .dct _ _ => .dict []
  | .scr _ => .dict []
  | .ty _ => .dict []
  | .ob _ => .dict []
def D.pyL : List D → List PyData
  | [] => []
  | d :: ds => D.py d :: D.pyL ds
end
theorem D.pyL_map : ∀ ds : List D, D.pyL ds = ds.map D.py
  | [] => rfl
  | d :: ds => by rw [D.pyL, List.map_cons, D.pyL_map ds]
section
variable {K : PySem.W.Frag} {H G : Hp}
mutual
theorem Rp.dp : ∀ (d : D) (v : V), d.py.canLay0 = true → Rp K H d v → Dp K H v d.py
  | .non, v, _, h => by rw [show v = .non from h]; exact .non
  | .bl b, v, _, h => by rw [show v = .bl b from h]; exact .bl b
  | .int i, v, _, h => by rw [show v = .int i from h]; exact .int i
  | .str s, v, _, h => by rw [show v = .str s from h]; exact .str s
  | .tup ds, v, c, h => by
    obtain ⟨a, xs, rfl, h1, h2⟩ := h
    exact .tup h1 (RpL.dp ds xs (by simpa only [D.py, PyData.canLay0] using c) h2)
  | .lst ds, v, c, h => by
    obtain ⟨a, xs, rfl, h1, h2⟩ := h
    exact .lst (SqL.of h1) (RpL.dp ds xs (by simpa only [D.py, PyData.canLay0] using c) h2)
  | .dct ks ds, v, c, h => by simp [D.py, PyData.canLay0] at c
  | .scr ns, v, c, h => by simp [D.py, PyData.canLay0] at c
  | .ty n, v, c, h => by simp [D.py, PyData.canLay0] at c
  | .ob n, v, c, h => by simp [D.py, PyData.canLay0] at c
theorem RpL.dp : ∀ (ds : List D) (vs : List V), PyData.canLayAll0 (D.pyL ds) = true → RpL K H ds vs → DpAll K H vs (D.pyL ds)
  | [], vs, _, h => by rw [show vs = [] from h]; exact .nil
  | d :: ds, vs, c, h => by
    obtain ⟨x, r, rfl, h1, h2⟩ := h
    simp only [D.pyL, PyData.canLayAll0, Bool.and_eq_true] at c
    exact .cons (Rp.dp d x c.1 h1) (RpL.dp ds r c.2 h2)
end
theorem RdAt.dp {d : D} {v : V} (s : Same G H) (c : d.py.canLay0 = true) (h : RdAt K H G d v) : Dp K H v d.py := by
  rcases h with h | ⟨p, rfl, h⟩
  · exact Rp.dp d v c (Rp.mono s d v h)
  · cases d with
    | lst ds =>
      obtain ⟨xs, h1, h2⟩ := h
      exact .lst (SqL.of h1) (RpL.dp ds xs (by simpa only [D.py, PyData.canLay0] using c) (RpL.mono s ds xs h2))
    | dct ks ds => simp [D.py, PyData.canLay0] at c
    | _ => exact h.elim
/-- a list that is read -/
theorem RdAt.lst {ds : List D} {v : V} (s : Same G H) (h : RdAt K H G (.lst ds) v) : ∃ p xs, v = .ref p ∧ H p = some (.lst xs) ∧ RpL K G ds xs := by
  rcases h with ⟨a, xs, e, h1, h2⟩ | ⟨p, e, xs, h1, h2⟩
  · exact ⟨a, xs, e, s _ _ h1, h2⟩
  · exact ⟨p, xs, e, h1, h2⟩
theorem RdAt.dct {ks : List Key} {ds : List D} {v : V} (s : Same G H) (h : RdAt K H G (.dct ks ds) v) : ∃ p kvs, v = .ref p ∧ H p = some (.dK kvs) ∧ kvs.map (·.1) = ks ∧ RpL K G ds (kvs.map (·.2)) := by
  rcases h with ⟨a, xs, e, h1, h2⟩ | ⟨p, e, xs, h1, h2⟩
  · exact ⟨a, xs, e, s _ _ h1, h2⟩
  · exact ⟨p, xs, e, h1, h2⟩
theorem RdAt.tup {ds : List D} {v : V} (s : Same G H) (h : RdAt K H G (.tup ds) v) : ∃ p xs, v = .ref p ∧ SqT K H p xs ∧ RpL K G ds xs := by
  rcases h with ⟨a, xs, e, h1, h2⟩ | ⟨p, e, h1⟩
  · exact ⟨a, xs, e, Same.sqT s h1, h2⟩
  · exact h1.elim
theorem RdAt.tup0 {ds : List D} {v : V} (h : RdAt K H G (.tup ds) v) : Rp K G (.tup ds) v := by
  rcases h with h | ⟨p, e, h1⟩
  · exact h
  · exact h1.elim
theorem RdAt.scr {ns : List Int} {v : V} (s : Same G H) (h : RdAt K H G (.scr ns) v) : ∃ p, v = .ref p ∧ SqL K H p (ns.map V.int) := by
  rcases h with ⟨a, e, h1⟩ | ⟨p, e, h1⟩
  · exact ⟨a, e, s.seq h1⟩
  · exact h1.elim
theorem RdAt.non {v : V} (h : RdAt K H G .non v) : v = .non := by
  rcases h with h | ⟨p, e, h1⟩
  · exact h
  · exact h1.elim
theorem RdAt.bl {b : Bool} {v : V} (h : RdAt K H G (.bl b) v) : v = .bl b := by
  rcases h with h | ⟨p, e, h1⟩
  · exact h
  · exact h1.elim
theorem RdAt.int {i : Int} {v : V} (h : RdAt K H G (.int i) v) : v = .int i := by
  rcases h with h | ⟨p, e, h1⟩
  · exact h
  · exact h1.elim
theorem RdAt.str {x : Str} {v : V} (h : RdAt K H G (.str x) v) : v = .str x := by
  rcases h with h | ⟨p, e, h1⟩
  · exact h
  · exact h1.elim
theorem RdAt.ty {n : Ty} {v : V} (h : RdAt K H G (.ty n) v) : v = .ty n.name := by
  rcases h with h | ⟨p, e, h1⟩
  · exact h
  · exact h1.elim
/-- a new tuple -/
theorem GrPost.newT {ds : List D} {xs : List V} {Q : VK} {p : Addr} (s : Same G H) (h : GrPost K H G Q (.im (.tup ds))) (r : RpL K G ds xs) (hp : H p = none) : Q (.ref p) (upd H p (.tup xs)) := by
  have g := GS.new (o := .tup xs) s hp
  exact h _ _ _ g ⟨p, xs, rfl, SqT.of upd_same, RpL.mono g.gg ds xs r⟩
/-- a new list -/
theorem GrPost.newL {ds : List D} {xs : List V} {Q : VK} {p : Addr} (s : Same G H) (h : GrPost K H G Q (.fr (.lst ds))) (r : RpL K G ds xs) (hp : H p = none) : Q (.ref p) (upd H p (.lst xs)) :=
  h _ _ _ (GS.newH s hp) hp (s.free hp) ⟨xs, upd_same, r⟩
end
/-! ### arithmetic -/
@[simp] def szB (n : Nat) : Bool := decide (n ≤ 16777216)
theorem szB_le {n : Nat} (h : szB n = true) : n ≤ sizeLine := by rw [sizeLine_eq]; exact of_decide_eq_true h
@[simp] def addD : D → D → Gr
  | .int i, .int j => .im (.int (i + j))
  | .str x, .str y => if szB (x.length + y.length) then .im (.str (x ++ y)) else .stk
  | .lst xs, .lst ys => if szB (xs.length + ys.length) then .fr (.lst (xs ++ ys)) else .stk
  | .tup xs, .tup ys => if szB (xs.length + ys.length) then .im (.tup (xs ++ ys)) else .stk
  | _, _ => .stk
@[simp] def subD : D → D → Gr
  | .int i, .int j => .im (.int (i - j))
  | _, _ => .stk
/-- the size of a product: one factor below 2 ^ 64, or together a million bits -/
@[simp] def mulB (i j : Int) : Bool := decide (i.natAbs < 18446744073709551616) || decide (j.natAbs < 18446744073709551616) || decide (i.natAbs.log2 + j.natAbs.log2 < 1000000)
def repS (x : Str) (n : Nat) : Str := ⟨(List.replicate n x.cps.toList).flatten.toArray⟩
@[simp] def mulD : D → D → Gr
  | .int i, .int j => if mulB i j then .im (.int (i * j)) else .stk
  | .str x, .int k => if decide (0 ≤ k ∧ k ≤ 100000 ∧ x.length ≤ 100) then .im (.str (repS x k.toNat)) else .stk
  | .tup xs, .int k => if decide (xs ≠ [] ∧ 2 ≤ k ∧ k ≤ 1000 ∧ xs.length ≤ 1000) then .im (.tup (List.replicate k.toNat xs).flatten) else .stk
  | .lst xs, .int k => if decide (0 ≤ k ∧ k ≤ 1000 ∧ xs.length ≤ 1000) then .fr (.lst (List.replicate k.toNat xs).flatten) else .stk
  | _, _ => .stk
@[simp] def divB (j : Int) : Bool := decide (j ≠ 0 ∧ (j.natAbs < 18446744073709551616 ∨ j.natAbs.log2 < 9000))
@[simp] def divD : D → D → Gr
  | .int i, .int j => if divB j then .im (.int (i.fdiv j)) else .stk
  | _, _ => .stk
@[simp] def modD : D → D → Gr
  | .int i, .int j => if decide (j ≠ 0) then .im (.int (i.fmod j)) else .stk
  | _, _ => .stk
@[simp] def powD : D → D → Gr
  | .int i, .int j => if decide (0 ≤ j ∧ j ≤ 1000000 ∧ i.natAbs < 2 ^ 64) then .im (.int (i ^ j.toNat)) else .stk
  | _, _ => .stk
end HF

set_option Elab.async false
set_option linter.all false
set_option maxRecDepth 100000
set_option maxHeartbeats 4000000
set_option autoImplicit false
namespace HF
open PySem PySem.Spec PyProof.Rows L2
/-! ### rules for the operators -/
theorem GrPost.cond {K : PySem.W.Frag} {H G : Hp} {Q : VK} {c : Bool} {g : Gr} (h : GrPost K H G Q (if c = true then g else .stk)) : c = true ∧ GrPost K H G Q g := by
  cases c with
  | true => exact ⟨rfl, h⟩
  | false => exact h.elim
theorem GrPost.condD {K : PySem.W.Frag} {H G : Hp} {Q : VK} {c : Prop} [Decidable c] {g : Gr} (h : GrPost K H G Q (if decide c = true then g else .stk)) : c ∧ GrPost K H G Q g :=
  let ⟨a, b⟩ := GrPost.cond h
  ⟨of_decide_eq_true a, b⟩
section
variable {X : Cx}
def rRepS : R2 := fun x y H Q => ∃ z k, x = .str z ∧ y = .int k ∧ 0 ≤ k ∧ k ≤ 100000 ∧ z.length ≤ 100 ∧ Q (.str (repS z k.toNat)) H
theorem foldl_arr : ∀ (k : Nat) (c acc : Array Nat), (List.replicate k c).foldl (· ++ ·) acc = acc ++ (List.replicate k c.toList).flatten.toArray := by
  intro k
  induction k with
  | zero => intro c acc; simp
  | succ k ih =>
    intro c acc
    rw [List.replicate_succ, List.foldl_cons, ih, List.replicate_succ, List.flatten_cons, Array.append_assoc]
    congr 1
    apply Array.toList_inj.mp
    simp
theorem op_repS : OpR X (binaryOp .Mult) rRepS := by
  intro pins s σ H x y v u Q I rx ry h
  obtain ⟨z, k, rfl, rfl, h0, h1, h2, q⟩ := h
  obtain ⟨t, rfl⟩ := rx
  obtain ⟨t', rfl⟩ := ry
  have hs : sizeLine = 16777216 := sizeLine_eq
  have hk : k.toNat ≤ 100000 := by omega
  have hm : z.length * k.toNat ≤ 10000000 := Nat.le_trans (Nat.mul_le_mul h2 hk) (by decide)
  refine PySem.P.mul_str ?_ (fun _ _ => ?_) (fun _ _ => ?_) ?_
  · rw [decide_eq_false (by omega), decide_eq_false (by omega)]; rfl
  · have h3 : (100 : Int) ≤ (2 ^ 63 - 1) / k := by
      rw [Int.le_ediv_iff_mul_le (by omega)]
      omega
    omega
  · unfold Builtin.Str.tooLong
    rw [hs]
    exact decide_eq_false (by omega)
  · by_cases c1 : k < 1
    · rw [if_pos c1]
      refine ⟨by decide, ?_⟩
      have e : k = 0 := by omega
      subst e
      exact ⟨.str (repS z (0 : Int).toNat), H, I.tok _, ⟨_, rfl⟩, q⟩
    · rw [if_neg c1]
      by_cases c2 : (k == 1 || z.length == 0) = true
      · rw [if_pos c2]
        have e : repS z k.toNat = z := by
          simp only [Bool.or_eq_true, beq_iff_eq] at c2
          rcases c2 with c2 | c2
          · subst c2
            unfold repS
            simp
          · unfold repS
            have z0 : z.cps = #[] := Array.eq_empty_of_size_eq_zero c2
            obtain ⟨cps⟩ := z
            simp only at z0
            subst z0
            simp
        exact ⟨.str z, H, I, ⟨_, rfl⟩, by rw [e] at q; exact q⟩
      · rw [if_neg c2]
        have e : (⟨(List.replicate k.toNat z.cps).foldl (· ++ ·) #[]⟩ : Str) = repS z k.toNat := by
          unfold repS
          rw [foldl_arr]
          simp
        rw [e]
        refine ⟨?_, .str (repS z k.toNat), H, I.tok _, ⟨_, rfl⟩, q⟩
        unfold repS
        show (List.flatten _).toArray.size ≤ _
        have e2 : z.cps.size * k.toNat ≤ 10000000 := hm
        rw [List.size_toArray, List.length_flatten, List.map_replicate, List.sum_replicate_nat, hs]
        rw [Nat.mul_comm] at e2
        simp only [Array.length_toList]
        omega
theorem op_addA : OpR X (binaryOp .Add) (fun x y H Q => rI0 (fun i j => .int (i + j)) x y H Q ∨ (∃ i j, x = .str i ∧ y = .str j ∧ i.length + j.length ≤ sizeLine ∧ Q (.str (i ++ j)) H) ∨ rCat x y H Q ∨ rCatA X.K x y H Q) := op_add.or (op_add_str.or (op_cat.or op_catA))
theorem op_mulG : OpR X (binaryOp .Mult) (rI (fun i j => mulB i j = true) fun i j => .int (i * j)) := opI fun i j _ _ _ _ _ hc q => by
  unfold mulB at hc
  simp only [Bool.or_eq_true, decide_eq_true_eq] at hc
  refine mul_int q ?_
  rcases hc with hc | hc
  · refine CMul.ok ?_
    rcases hc with hc | hc
    · exact .inl ⟨by omega, by omega⟩
    · exact .inr ⟨by omega, by omega⟩
  · exact CMulW.ok hc
theorem op_mulA : OpR X (binaryOp .Mult) (fun x y H Q => rI (fun i j => mulB i j = true) (fun i j => .int (i * j)) x y H Q ∨ rRepS x y H Q ∨ rRep x y H Q ∨ rRepT X.K x y H Q) := op_mulG.or (op_repS.or (op_rep.or op_repT))
theorem op_divG : OpR X (binaryOp .FloorDiv) (rI (fun _ j => divB j = true) fun i j => .int (i.fdiv j)) := opI fun i j _ _ _ _ _ hc q => by
  have h := of_decide_eq_true hc
  have h2 : j.natAbs.log2 < 9000 := h.2.elim (fun a => Nat.lt_of_lt_of_le ((Nat.log2_lt (by omega)).mpr (Nat.lt_of_lt_of_le a (by decide) : j.natAbs < 2 ^ 64)) (by decide)) id
  exact floordiv_int h.1 q (.inl (PyProof.noPylong_of_log2 h2))
variable {K : PySem.W.Frag}
theorem snd_add : OpSound X.K addD (fun x y H Q => rI0 (fun i j => .int (i + j)) x y H Q ∨ (∃ i j, x = .str i ∧ y = .str j ∧ i.length + j.length ≤ sizeLine ∧ Q (.str (i ++ j)) H) ∨ rCat x y H Q ∨ rCatA X.K x y H Q) := by
  intro H G x y a b Q s ha hb hq
  cases a with
  | int i =>
    cases b with
    | int j => exact .inl ⟨i, j, ha.int, hb.int, hq.same s rfl⟩
    | _ => exact hq.elim
  | str i =>
    cases b with
    | str j =>
      obtain ⟨c, hq⟩ := GrPost.cond hq
      exact .inr (.inl ⟨i, j, ha.str, hb.str, szB_le c, hq.same s rfl⟩)
    | _ => exact hq.elim
  | lst as =>
    cases b with
    | lst bs =>
      obtain ⟨c, hq⟩ := GrPost.cond hq
      obtain ⟨p, xs, rfl, h1, h2⟩ := ha.lst s
      obtain ⟨p', ys, rfl, h3, h4⟩ := hb.lst s
      exact .inr (.inr (.inl ⟨p, p', xs, ys, rfl, rfl, h1, h3, by rw [h2.length, h4.length]; exact szB_le c, fun q hq' => hq.newL s (h2.append h4) hq'⟩))
    | _ => exact hq.elim
  | tup as =>
    cases b with
    | tup bs =>
      obtain ⟨c, hq⟩ := GrPost.cond hq
      obtain ⟨p, xs, rfl, h1, h2⟩ := ha.tup s
      obtain ⟨p', ys, rfl, h3, h4⟩ := hb.tup s
      refine .inr (.inr (.inr ⟨p, p', xs, ys, rfl, rfl, h1, h3, by rw [h2.length, h4.length]; exact szB_le c, fun e => ?_, fun e1 e2 => ?_, fun _ _ q hq' => hq.newT s (h2.append h4) hq'⟩))
      · subst e
        have e3 : as = [] := by
          have := h2.length
          exact List.eq_nil_of_length_eq_zero this.symm
        subst e3
        exact hq.same s hb.tup0
      · subst e2
        have e3 : bs = [] := by
          have := h4.length
          exact List.eq_nil_of_length_eq_zero this.symm
        subst e3
        rw [List.append_nil] at hq
        exact hq.same s ha.tup0
    | _ => exact hq.elim
  | _ => cases b <;> exact hq.elim
theorem snd_sub : OpSound K subD (rI0 fun i j => .int (i - j)) := by
  intro H G x y a b Q s ha hb hq
  cases a with
  | int i =>
    cases b with
    | int j => exact ⟨i, j, ha.int, hb.int, hq.same s rfl⟩
    | _ => exact hq.elim
  | _ => cases b <;> exact hq.elim
theorem snd_mul : OpSound X.K mulD (fun x y H Q => rI (fun i j => mulB i j = true) (fun i j => .int (i * j)) x y H Q ∨ rRepS x y H Q ∨ rRep x y H Q ∨ rRepT X.K x y H Q) := by
  intro H G x y a b Q s ha hb hq
  cases a with
  | int i =>
    cases b with
    | int j =>
      obtain ⟨c, hq⟩ := GrPost.cond hq
      exact .inl ⟨i, j, ha.int, hb.int, c, hq.same s rfl⟩
    | _ => exact hq.elim
  | str i =>
    cases b with
    | int k =>
      obtain ⟨c, hq⟩ := GrPost.cond hq
      have c := of_decide_eq_true c
      exact .inr (.inl ⟨i, k, ha.str, hb.int, c.1, c.2.1, c.2.2, hq.same s rfl⟩)
    | _ => exact hq.elim
  | lst as =>
    cases b with
    | int k =>
      obtain ⟨c, hq⟩ := GrPost.cond hq
      have c := of_decide_eq_true c
      obtain ⟨p, xs, rfl, h1, h2⟩ := ha.lst s
      refine .inr (.inr (.inl ⟨p, k, xs, rfl, hb.int, h1, by omega, by omega, ?_, fun q hq' => hq.newL s (h2.rep _) hq'⟩))
      rw [h2.length, sizeLine_eq]
      exact Nat.le_trans (Nat.mul_le_mul c.2.2 (show k.toNat ≤ 1000 by omega)) (by decide)
    | _ => exact hq.elim
  | tup as =>
    cases b with
    | int k =>
      obtain ⟨c, hq⟩ := GrPost.cond hq
      have c := of_decide_eq_true c
      obtain ⟨p, xs, rfl, h1, h2⟩ := ha.tup s
      refine .inr (.inr (.inr ⟨p, k, xs, rfl, hb.int, h1, fun e => ?_, c.2.1, c.2.2.1, by rw [h2.length]; exact c.2.2.2, fun q hq' => hq.newT s (h2.rep _) hq'⟩))
      subst e
      exact c.1 (List.eq_nil_of_length_eq_zero h2.length.symm)
    | _ => exact hq.elim
  | _ => cases b <;> exact hq.elim
theorem snd_div : OpSound K divD (rI (fun _ j => divB j = true) fun i j => .int (i.fdiv j)) := by
  intro H G x y a b Q s ha hb hq
  cases a with
  | int i =>
    cases b with
    | int j =>
      obtain ⟨c, hq⟩ := GrPost.cond hq
      exact ⟨i, j, ha.int, hb.int, c, hq.same s rfl⟩
    | _ => exact hq.elim
  | _ => cases b <;> exact hq.elim
theorem snd_mod : OpSound K modD (rI (fun _ j => j ≠ 0) fun i j => .int (i.fmod j)) := by
  intro H G x y a b Q s ha hb hq
  cases a with
  | int i =>
    cases b with
    | int j =>
      obtain ⟨c, hq⟩ := GrPost.cond hq
      exact ⟨i, j, ha.int, hb.int, of_decide_eq_true c, hq.same s rfl⟩
    | _ => exact hq.elim
  | _ => cases b <;> exact hq.elim
theorem snd_pow : OpSound K powD (rI CPow fun i j => .int (i ^ j.toNat)) := by
  intro H G x y a b Q s ha hb hq
  cases a with
  | int i =>
    cases b with
    | int j =>
      obtain ⟨c, hq⟩ := GrPost.cond hq
      have c : (0 ≤ j ∧ j ≤ 1000000 ∧ i.natAbs < 2 ^ 64) := of_decide_eq_true c
      exact ⟨i, j, ha.int, hb.int, c, hq.same s rfl⟩
    | _ => exact hq.elim
  | _ => cases b <;> exact hq.elim
end
section
variable {X : Cx} {W : WX} {a b : Expr} {Fa Fb : Fx} {pos : Pos}
theorem ex_add (ha : EX X W a Fa) (hb : EX X W b Fb) : EX X W (.BinOp a .Add b pos) (op2F addD Fa Fb) := ex_op op_addA snd_add ha hb
theorem ex_sub (ha : EX X W a Fa) (hb : EX X W b Fb) : EX X W (.BinOp a .Sub b pos) (op2F subD Fa Fb) := ex_op op_sub snd_sub ha hb
theorem ex_mul (ha : EX X W a Fa) (hb : EX X W b Fb) : EX X W (.BinOp a .Mult b pos) (op2F mulD Fa Fb) := ex_op op_mulA snd_mul ha hb
theorem ex_div (ha : EX X W a Fa) (hb : EX X W b Fb) : EX X W (.BinOp a .FloorDiv b pos) (op2F divD Fa Fb) := ex_op op_divG snd_div ha hb
theorem ex_mod (ha : EX X W a Fa) (hb : EX X W b Fb) : EX X W (.BinOp a .Mod b pos) (op2F modD Fa Fb) := ex_op op_modN snd_mod ha hb
theorem ex_pow (ha : EX X W a Fa) (hb : EX X W b Fb) : EX X W (.BinOp a .Pow b pos) (op2F powD Fa Fb) := ex_op op_pow snd_pow ha hb
end
end HF

set_option Elab.async false
set_option linter.all false
set_option maxRecDepth 100000
set_option maxHeartbeats 4000000
set_option autoImplicit false
namespace HF
open PySem PySem.Spec PyProof.Rows L2
/-! ### comparisons -/
section
variable {X : Cx}
def rEqM (K : PySem.W.Frag) : R2 := fun x y H Q => ∃ d e, Dp K H x d ∧ Dp K H y e ∧ d.canLay0 = true ∧ e.canLay0 = true ∧ min d.depth e.depth ≤ 64 ∧ Q (.bl (PyData.eqv d e)) H
def rNeM (K : PySem.W.Frag) : R2 := fun x y H Q => ∃ d e, Dp K H x d ∧ Dp K H y e ∧ d.canLay0 = true ∧ e.canLay0 = true ∧ min d.depth e.depth ≤ 64 ∧ Q (.bl (!PyData.eqv d e)) H
theorem op_eqM (hu : X.A.units + 64 < cLine) : OpR X (compareOp .Eq) (rEqM X.K) := by
  intro pins s σ H x y v u Q I rx ry h
  obtain ⟨d, e, hd, he, sd, se, hm, q⟩ := h
  obtain ⟨as, r1⟩ := Dp.reads I d x v hd rx
  obtain ⟨bs, r2⟩ := Dp.reads I e y u he ry
  exact SeqAt.compareEq_reads r1 r2 sd se (by omega) ⟨.bl _, H, I, rfl, q⟩
theorem op_neM (hu : X.A.units + 64 < cLine) : OpR X (compareOp .NotEq) (rNeM X.K) := by
  intro pins s σ H x y v u Q I rx ry h
  obtain ⟨d, e, hd, he, sd, se, hm, q⟩ := h
  obtain ⟨as, r1⟩ := Dp.reads I d x v hd rx
  obtain ⟨bs, r2⟩ := Dp.reads I e y u he ry
  exact SeqAt.compareNe_reads r1 r2 sd se (by omega) ⟨.bl _, H, I, rfl, q⟩
end
/-- == of two data -/
@[simp] def D.eqB (a b : D) : Option Bool := match a, b with
  | .int i, .int j => some (decide (i = j))
  | .str x, .str y => some (decide (x = y))
  | .bl x, .bl y => some (decide (x = y))
  | a, b => if a.py.canLay0 && b.py.canLay0 && decide (min a.py.depth b.py.depth ≤ 64) then some (PyData.eqv a.py b.py) else none
@[simp] def blO (f : Bool → Bool) : Option Bool → Gr
  | some b => .im (.bl (f b))
  | none => .stk
@[simp] def eqD (a b : D) : Gr := blO id (a.eqB b)
@[simp] def neD (a b : D) : Gr := blO not (a.eqB b)
@[simp] def ltD : D → D → Gr
  | .int i, .int j => .im (.bl (decide (i < j)))
  | _, _ => .stk
@[simp] def leD : D → D → Gr
  | .int i, .int j => .im (.bl (decide (i ≤ j)))
  | _, _ => .stk
@[simp] def gtD : D → D → Gr
  | .int i, .int j => .im (.bl (decide (j < i)))
  | _, _ => .stk
@[simp] def geD : D → D → Gr
  | .int i, .int j => .im (.bl (decide (j ≤ i)))
  | _, _ => .stk
@[simp] def D.isB : D → D → Option Bool
  | .bl a, .bl b => some (decide (a = b))
  | .non, .non => some true
  | .bl _, .non => some false
  | .int _, .non => some false
  | .str _, .non => some false
  | .tup _, .non => some false
  | .lst _, .non => some false
  | .dct _ _, .non => some false
  | _, _ => none
@[simp] def isD (a b : D) : Gr := blO id (a.isB b)
@[simp] def isNotD (a b : D) : Gr := blO not (a.isB b)
@[simp] def D.flat : D → Bool
  | .non => true
  | .bl _ => true
  | .int _ => true
  | .str _ => true
  | _ => false
/-- x in xs -/
@[simp] def D.inB (x : D) : D → Option Bool
  | .str z => match x with
    | .str ⟨⟨[c]⟩⟩ => some (decide (c ∈ z.cps.toList))
    | _ => none
  | .tup ds => if x.flat && ds.all D.flat then some (ds.any fun y => PyData.eqv y.py x.py) else none
  | .lst ds => if x.flat && ds.all D.flat then some (ds.any fun y => PyData.eqv y.py x.py) else
      if SeqAt.shaped x.py && SeqAt.shaped (D.lst ds).py then some (ds.any fun y => PyData.eqv y.py x.py) else none
  | _ => none
@[simp] def inD (a b : D) : Gr := blO id (a.inB b)
@[simp] def notInD (a b : D) : Gr := blO not (a.inB b)
theorem flat_V {K : PySem.W.Frag} {G : Hp} {d : D} {v : V} (f : d.flat = true) (h : Rp K G d v) : flatV v = true := by
  cases d with
  | non => rw [show v = .non from h]; rfl
  | bl b => rw [show v = .bl b from h]; rfl
  | int b => rw [show v = .int b from h]; rfl
  | str b => rw [show v = .str b from h]; rfl
  | _ => cases f
theorem flat_eqV {K : PySem.W.Frag} {G : Hp} {d e : D} {v u : V} (f : d.flat = true) (f' : e.flat = true) (h : Rp K G d v) (h' : Rp K G e u) : eqV v u = PyData.eqv d.py e.py := by
  cases d with
  | non => rw [show v = .non from h]; cases e <;> first | (simp [D.flat] at f'; done) | (rw [show u = _ from h']; simp [eqV, D.py, PyData.eqv])
  | bl b => rw [show v = .bl b from h]; cases e <;> first | (simp [D.flat] at f'; done) | (rw [show u = _ from h']; simp [eqV, D.py, PyData.eqv])
  | int b => rw [show v = .int b from h]; cases e <;> first | (simp [D.flat] at f'; done) | (rw [show u = _ from h']; simp [eqV, D.py, PyData.eqv])
  | str b => rw [show v = .str b from h]; cases e <;> first | (simp [D.flat] at f'; done) | (rw [show u = _ from h']; simp [eqV, D.py, PyData.eqv])
  | _ => cases f
theorem flat_all {K : PySem.W.Frag} {G : Hp} : ∀ {ds : List D} {vs : List V}, ds.all D.flat = true → RpL K G ds vs → vs.all flatV = true
  | [], vs, _, h => by rw [show vs = [] from h]; rfl
  | d :: ds, vs, f, h => by
    obtain ⟨x, r, rfl, h1, h2⟩ := h
    simp only [List.all_cons, Bool.and_eq_true] at f ⊢
    exact ⟨flat_V f.1 h1, flat_all f.2 h2⟩
theorem flat_in {K : PySem.W.Frag} {G : Hp} {e : D} {u : V} (f' : e.flat = true) (h' : Rp K G e u) : ∀ {ds : List D} {vs : List V}, ds.all D.flat = true → RpL K G ds vs → inV u vs = ds.any fun y => PyData.eqv y.py e.py
  | [], vs, _, h => by rw [show vs = [] from h]; rfl
  | d :: ds, vs, f, h => by
    obtain ⟨x, r, rfl, h1, h2⟩ := h
    simp only [List.all_cons, Bool.and_eq_true] at f
    have ih := flat_in f' h' f.2 h2
    unfold inV at ih ⊢
    rw [List.any_cons, List.any_cons, ih, flat_eqV f.1 f' h1 h']
theorem RdAt.flat {K : PySem.W.Frag} {H G : Hp} {d : D} {v : V} (f : d.flat = true) (h : RdAt K H G d v) : Rp K G d v := by
  rcases h with h | ⟨p, e, h⟩
  · exact h
  · cases d <;> first | (simp [D.flat] at f; done) | exact h.elim
theorem GrPost.blO {K : PySem.W.Frag} {H G : Hp} {Q : VK} {f : Bool → Bool} {o : Option Bool} (s : Same G H) (h : GrPost K H G Q (blO f o)) : ∃ b, o = some b ∧ Q (.bl (f b)) H := by
  cases o with
  | none => exact h.elim
  | some b => exact ⟨b, rfl, h.same s rfl⟩
section
variable {K : PySem.W.Frag} {X : Cx}
theorem eqB_deep {a b : D} {r : Bool} {H G : Hp} {x y : V} (s : Same G H) (ha : RdAt K H G a x) (hb : RdAt K H G b y) (e : a.eqB b = some r) :
    (scal x y = true ∧ decide (x = y) = r) ∨ (a.py.canLay0 = true ∧ b.py.canLay0 = true ∧ min a.py.depth b.py.depth ≤ 64 ∧ PyData.eqv a.py b.py = r) := by
  have deep : ∀ {a b : D}, (if (a.py.canLay0 && b.py.canLay0 && decide (min a.py.depth b.py.depth ≤ 64)) = true then some (PyData.eqv a.py b.py) else none) = some r → (a.py.canLay0 = true ∧ b.py.canLay0 = true ∧ min a.py.depth b.py.depth ≤ 64 ∧ PyData.eqv a.py b.py = r) := by
    intro a b h
    split at h
    · rename_i c
      simp only [Bool.and_eq_true, decide_eq_true_eq] at c
      exact ⟨c.1.1, c.1.2, c.2, Option.some.inj h⟩
    · cases h
  unfold D.eqB at e
  split at e
  · left
    rw [ha.int, hb.int]
    refine ⟨rfl, ?_⟩
    rw [← Option.some.inj e]
    simp
  · left
    rw [ha.str, hb.str]
    refine ⟨rfl, ?_⟩
    rw [← Option.some.inj e]
    simp
  · left
    rw [ha.bl, hb.bl]
    refine ⟨rfl, ?_⟩
    rw [← Option.some.inj e]
    simp
  · exact .inr (deep e)
theorem snd_eq : OpSound K eqD (fun x y H Q => rEq x y H Q ∨ rEqM K x y H Q) := by
  intro H G x y a b Q s ha hb hq
  obtain ⟨r, e, q⟩ := GrPost.blO s hq
  rcases eqB_deep s ha hb e with ⟨h1, h2⟩ | ⟨h1, h2, h3, h4⟩
  · exact .inl ⟨h1, by rw [h2]; exact q⟩
  · exact .inr ⟨_, _, ha.dp s h1, hb.dp s h2, h1, h2, h3, by rw [h4]; exact q⟩
theorem snd_ne : OpSound K neD (fun x y H Q => rNe x y H Q ∨ rNeM K x y H Q) := by
  intro H G x y a b Q s ha hb hq
  obtain ⟨r, e, q⟩ := GrPost.blO s hq
  rcases eqB_deep s ha hb e with ⟨h1, h2⟩ | ⟨h1, h2, h3, h4⟩
  · exact .inl ⟨h1, by rw [h2]; exact q⟩
  · exact .inr ⟨_, _, ha.dp s h1, hb.dp s h2, h1, h2, h3, by rw [h4]; exact q⟩
theorem snd_lt : OpSound K ltD (rI0 fun i j => .bl (decide (i < j))) := by
  intro H G x y a b Q s ha hb hq
  cases a <;> cases b <;> first | exact hq.elim | exact ⟨_, _, ha.int, hb.int, hq.same s rfl⟩
theorem snd_le : OpSound K leD (rI0 fun i j => .bl (decide (i ≤ j))) := by
  intro H G x y a b Q s ha hb hq
  cases a <;> cases b <;> first | exact hq.elim | exact ⟨_, _, ha.int, hb.int, hq.same s rfl⟩
theorem snd_gt : OpSound K gtD (rI0 fun i j => .bl (decide (j < i))) := by
  intro H G x y a b Q s ha hb hq
  cases a <;> cases b <;> first | exact hq.elim | exact ⟨_, _, ha.int, hb.int, hq.same s rfl⟩
theorem snd_ge : OpSound K geD (rI0 fun i j => .bl (decide (j ≤ i))) := by
  intro H G x y a b Q s ha hb hq
  cases a <;> cases b <;> first | exact hq.elim | exact ⟨_, _, ha.int, hb.int, hq.same s rfl⟩
def rIsB : R2 := fun x y H Q => ∃ a b, x = .bl a ∧ y = .bl b ∧ Q (.bl (decide (a = b))) H
def rNotB : R2 := fun x y H Q => ∃ a b, x = .bl a ∧ y = .bl b ∧ Q (.bl (!decide (a = b))) H
theorem isB_of {a b : D} {r : Bool} {H G : Hp} {x y : V} (s : Same G H) (ha : RdAt K H G a x) (hb : RdAt K H G b y) (e : a.isB b = some r) :
    (∃ c d, x = .bl c ∧ y = .bl d ∧ decide (c = d) = r) ∨ (y = .non ∧ decide (x = .non) = r) := by
  have no : ∀ {p : Addr}, decide (V.ref p = V.non) = false := fun {p} => decide_eq_false (fun z => nomatch z)
  cases a with
  | bl c =>
    cases b with
    | bl d => exact .inl ⟨c, d, ha.bl, hb.bl, Option.some.inj e⟩
    | non => rw [ha.bl]; exact .inr ⟨hb.non, by rw [← Option.some.inj e]; rfl⟩
    | _ => cases e
  | non =>
    cases b with
    | non => rw [ha.non]; exact .inr ⟨hb.non, by rw [← Option.some.inj e]; rfl⟩
    | _ => cases e
  | int c =>
    cases b with
    | non => rw [ha.int]; exact .inr ⟨hb.non, by rw [← Option.some.inj e]; rfl⟩
    | _ => cases e
  | str c =>
    cases b with
    | non => rw [ha.str]; exact .inr ⟨hb.non, by rw [← Option.some.inj e]; rfl⟩
    | _ => cases e
  | tup c =>
    cases b with
    | non => obtain ⟨p, xs, rfl, _⟩ := ha.tup s; exact .inr ⟨hb.non, by rw [← Option.some.inj e]; exact no⟩
    | _ => cases e
  | lst c =>
    cases b with
    | non => obtain ⟨p, xs, rfl, _⟩ := ha.lst s; exact .inr ⟨hb.non, by rw [← Option.some.inj e]; exact no⟩
    | _ => cases e
  | dct c ds =>
    cases b with
    | non => obtain ⟨p, xs, rfl, _⟩ := ha.dct s; exact .inr ⟨hb.non, by rw [← Option.some.inj e]; exact no⟩
    | _ => cases e
  | _ => cases b <;> cases e
theorem snd_is : OpSound K isD (fun x y H Q => rIsB x y H Q ∨ (y = .non ∧ Q (.bl (decide (x = .non))) H)) := by
  intro H G x y a b Q s ha hb hq
  obtain ⟨r, e, q⟩ := GrPost.blO s hq
  rcases isB_of s ha hb e with ⟨c, d, h1, h2, h3⟩ | ⟨h1, h2⟩
  · exact .inl ⟨c, d, h1, h2, by rw [h3]; exact q⟩
  · exact .inr ⟨h1, by rw [h2]; exact q⟩
theorem snd_isnot : OpSound K isNotD (fun x y H Q => rNotB x y H Q ∨ (y = .non ∧ Q (.bl (!decide (x = .non))) H)) := by
  intro H G x y a b Q s ha hb hq
  obtain ⟨r, e, q⟩ := GrPost.blO s hq
  rcases isB_of s ha hb e with ⟨c, d, h1, h2, h3⟩ | ⟨h1, h2⟩
  · exact .inl ⟨c, d, h1, h2, by rw [h3]; exact q⟩
  · exact .inr ⟨h1, by rw [h2]; exact q⟩
/-- what in asks of the values -/
theorem inB_of {a b : D} {r : Bool} {H G : Hp} {x y : V} (s : Same G H) (ha : RdAt K H G a x) (hb : RdAt K H G b y) (e : a.inB b = some r) :
    (∃ (c : Nat) (z : Str), x = .str ⟨#[c]⟩ ∧ y = .str z ∧ decide (c ∈ z.cps.toList) = r) ∨ (∃ p xs, y = .ref p ∧ (SqL K H p xs ∨ SqT K H p xs) ∧ flatV x = true ∧ xs.all flatV = true ∧ inV x xs = r) ∨
      (∃ d ds, Dp K H x d ∧ Dp K H y (.list ds) ∧ SeqAt.shaped d = true ∧ SeqAt.shaped (.list ds) = true ∧ (ds.any fun z => PyData.eqv z d) = r) := by
  have fl : ∀ {ds : List D} {xs : List V}, (a.flat && ds.all D.flat) = true → RpL K G ds xs → flatV x = true ∧ xs.all flatV = true ∧ inV x xs = ds.any fun y => PyData.eqv y.py a.py := by
    intro ds xs c h2
    simp only [Bool.and_eq_true] at c
    have h := ha.flat c.1
    exact ⟨flat_V c.1 h, flat_all c.2 h2, flat_in c.1 h c.2 h2⟩
  cases b with
  | str z =>
    unfold D.inB at e
    simp only at e
    split at e
    · rename_i c
      exact .inl ⟨c, z, ha.str, hb.str, Option.some.inj e⟩
    · cases e
  | tup ds =>
    obtain ⟨p, xs, rfl, h1, h2⟩ := hb.tup s
    unfold D.inB at e
    simp only at e
    split at e
    · rename_i c
      obtain ⟨f1, f2, f3⟩ := fl c h2
      exact .inr (.inl ⟨p, xs, rfl, .inr h1, f1, f2, f3.trans (Option.some.inj e)⟩)
    · cases e
  | lst ds =>
    unfold D.inB at e
    simp only at e
    split at e
    · rename_i c
      obtain ⟨p, xs, rfl, h1, h2⟩ := hb.lst s
      obtain ⟨f1, f2, f3⟩ := fl c h2
      exact .inr (.inl ⟨p, xs, rfl, .inl (SqL.of h1), f1, f2, f3.trans (Option.some.inj e)⟩)
    · split at e
      · rename_i c
        simp only [Bool.and_eq_true] at c
        refine .inr (.inr ⟨a.py, D.pyL ds, ha.dp s (SeqAt.canLay_of_shaped c.1), hb.dp s (SeqAt.canLay_of_shaped c.2), c.1, c.2, ?_⟩)
        rw [← Option.some.inj e, D.pyL_map, List.any_map]
        rfl
      · cases e
  | _ => cases e
def rInS1 : R2 := fun x y H Q => ∃ (c : Nat) (z : Str), x = .str ⟨#[c]⟩ ∧ y = .str z ∧ Q (.bl (decide (c ∈ z.cps.toList))) H
def rNotInS1 : R2 := fun x y H Q => ∃ (c : Nat) (z : Str), x = .str ⟨#[c]⟩ ∧ y = .str z ∧ Q (.bl (!decide (c ∈ z.cps.toList))) H
theorem snd_in : OpSound K inD (fun x y H Q => rInS1 x y H Q ∨ rIn K false x y H Q ∨ rInD K x y H Q) := by
  intro H G x y a b Q s ha hb hq
  obtain ⟨r, e, q⟩ := GrPost.blO s hq
  rcases inB_of s ha hb e with ⟨c, z, h1, h2, h3⟩ | ⟨p, xs, h1, h2, h3, h4, h5⟩ | ⟨d, ds, h1, h2, h3, h4, h5⟩
  · exact .inl ⟨c, z, h1, h2, by rw [h3]; exact q⟩
  · refine .inr (.inl ⟨p, xs, h1, h2, h3, h4, ?_⟩)
    show Q (.bl (inV x xs)) H
    rw [h5]; exact q
  · exact .inr (.inr ⟨d, ds, h1, h2, h3, h4, by rw [h5]; exact q⟩)
theorem snd_notin : OpSound K notInD (fun x y H Q => rNotInS1 x y H Q ∨ rIn K true x y H Q ∨ rNotInD K x y H Q) := by
  intro H G x y a b Q s ha hb hq
  obtain ⟨r, e, q⟩ := GrPost.blO s hq
  rcases inB_of s ha hb e with ⟨c, z, h1, h2, h3⟩ | ⟨p, xs, h1, h2, h3, h4, h5⟩ | ⟨d, ds, h1, h2, h3, h4, h5⟩
  · exact .inl ⟨c, z, h1, h2, by rw [h3]; exact q⟩
  · refine .inr (.inl ⟨p, xs, h1, h2, h3, h4, ?_⟩)
    show Q (.bl (!inV x xs)) H
    rw [h5]; exact q
  · exact .inr (.inr ⟨d, ds, h1, h2, h3, h4, by rw [h5]; exact q⟩)
theorem op_eqA (hu : X.A.units + 65 < cLine) : OpR X (compareOp .Eq) (fun x y H Q => rEq x y H Q ∨ rEqM X.K x y H Q) := op_eq.or (op_eqM (by omega))
theorem op_neA (hu : X.A.units + 65 < cLine) : OpR X (compareOp .NotEq) (fun x y H Q => rNe x y H Q ∨ rNeM X.K x y H Q) := op_ne.or (op_neM (by omega))
theorem op_isA : OpR X (compareOp .Is) (fun x y H Q => rIsB x y H Q ∨ (y = .non ∧ Q (.bl (decide (x = .non))) H)) := op_is_bl.or op_isN
theorem op_isnotA : OpR X (compareOp .IsNot) (fun x y H Q => rNotB x y H Q ∨ (y = .non ∧ Q (.bl (!decide (x = .non))) H)) := op_isnot_bl.or op_notN
theorem op_inA (hu : X.A.units + 65 < cLine) : OpR X (compareOp .In) (fun x y H Q => rInS1 x y H Q ∨ rIn X.K false x y H Q ∨ rInD X.K x y H Q) := op_in_sign.or (op_in_seq.or (op_inD hu))
theorem op_notinA (hu : X.A.units + 65 < cLine) : OpR X (compareOp .NotIn) (fun x y H Q => rNotInS1 x y H Q ∨ rIn X.K true x y H Q ∨ rNotInD X.K x y H Q) := op_notIn_sign.or (op_notIn_seq.or (op_notInD hu))
end
section
variable {X : Cx} {W : WX} {a b : Expr} {Fa Fb : Fx} {pos : Pos}
theorem ex_eq (hu : X.A.units + 65 < cLine) (ha : EX X W a Fa) (hb : EX X W b Fb) : EX X W (.Compare a [.Eq] [b] pos) (op2F eqD Fa Fb) := ex_cmp (op_eqA hu) snd_eq ha hb (nomark _)
theorem ex_ne (hu : X.A.units + 65 < cLine) (ha : EX X W a Fa) (hb : EX X W b Fb) : EX X W (.Compare a [.NotEq] [b] pos) (op2F neD Fa Fb) := ex_cmp (op_neA hu) snd_ne ha hb (nomark _)
theorem ex_lt (ha : EX X W a Fa) (hb : EX X W b Fb) : EX X W (.Compare a [.Lt] [b] pos) (op2F ltD Fa Fb) := ex_cmp op_lt snd_lt ha hb (nomark _)
theorem ex_le (ha : EX X W a Fa) (hb : EX X W b Fb) : EX X W (.Compare a [.LtE] [b] pos) (op2F leD Fa Fb) := ex_cmp op_le snd_le ha hb (nomark _)
theorem ex_gt (ha : EX X W a Fa) (hb : EX X W b Fb) : EX X W (.Compare a [.Gt] [b] pos) (op2F gtD Fa Fb) := ex_cmp op_gt snd_gt ha hb (nomark _)
theorem ex_ge (ha : EX X W a Fa) (hb : EX X W b Fb) : EX X W (.Compare a [.GtE] [b] pos) (op2F geD Fa Fb) := ex_cmp op_ge snd_ge ha hb (nomark _)
theorem ex_is (ha : EX X W a Fa) (hb : EX X W b Fb) : EX X W (.Compare a [.Is] [b] pos) (op2F isD Fa Fb) := ex_cmp op_isA snd_is ha hb (nomark _)
theorem ex_isnot (ha : EX X W a Fa) (hb : EX X W b Fb) : EX X W (.Compare a [.IsNot] [b] pos) (op2F isNotD Fa Fb) := ex_cmp op_isnotA snd_isnot ha hb (nomark _)
theorem ex_in (hu : X.A.units + 65 < cLine) (ha : EX X W a Fa) (hb : EX X W b Fb) (hm : behindInMarks .In b = false := by rfl) : EX X W (.Compare a [.In] [b] pos) (op2F inD Fa Fb) := ex_cmp (op_inA hu) snd_in ha hb hm
theorem ex_notin (hu : X.A.units + 65 < cLine) (ha : EX X W a Fa) (hb : EX X W b Fb) (hm : behindInMarks .NotIn b = false := by rfl) : EX X W (.Compare a [.NotIn] [b] pos) (op2F notInD Fa Fb) := ex_cmp (op_notinA hu) snd_notin ha hb hm
end
end HF

set_option Elab.async false
set_option linter.all false
set_option maxRecDepth 100000
set_option maxHeartbeats 4000000
set_option autoImplicit false
namespace HF
open PySem PySem.Spec PyProof.Rows L2
/-! ### items -/
theorem RpL.atI {K : PySem.W.Frag} {G : Hp} {ds : List D} {xs : List V} {i : Int} {d : D} (h : RpL K G ds xs) (e : L2.atI ds i = some d) : ∃ x, L2.atI xs i = some x ∧ Rp K G d x := by
  unfold L2.atI at e ⊢
  rw [h.length]
  cases q : ixN ds.length i with
  | none => rw [q] at e; cases e
  | some j =>
    rw [q] at e
    exact h.get e
theorem atI_map {α β : Type} (f : α → β) (xs : List α) (i : Int) : L2.atI (xs.map f) i = (L2.atI xs i).map f := by
  unfold L2.atI
  rw [List.length_map]
  cases ixN xs.length i with
  | none => rfl
  | some j => exact List.getElem?_map
@[simp] def imO : Option D → Gr
  | some d => .im d
  | none => .stk
@[simp] def ixD : D → D → Gr
  | .tup ds, .int i => imO (L2.atI ds i)
  | .lst ds, .int i => imO (L2.atI ds i)
  | .str z, .int i => if szB z.length then imO ((L2.atI z.cps.toList i).map fun c => .str ⟨#[c]⟩) else .stk
  | .scr ns, .int i => imO ((L2.atI ns i).map D.int)
  | _, _ => .stk
theorem GrPost.imO {K : PySem.W.Frag} {H G : Hp} {Q : VK} {o : Option D} (h : GrPost K H G Q (imO o)) : ∃ d, o = some d ∧ GrPost K H G Q (.im d) := by
  cases o with
  | none => exact h.elim
  | some d => exact ⟨d, rfl, h⟩
theorem snd_ix {K : PySem.W.Frag} : OpSound K ixD (rIx K) := by
  intro H G x y a b Q s ha hb hq
  cases a with
  | tup ds =>
    cases b with
    | int i =>
      obtain ⟨d, e, q⟩ := hq.imO
      obtain ⟨p, xs, rfl, h1, h2⟩ := ha.tup s
      obtain ⟨v, e2, hv⟩ := h2.atI e
      exact .inr (.inl ⟨p, xs, i, v, rfl, hb.int, h1, e2, q.same s hv⟩)
    | _ => exact hq.elim
  | lst ds =>
    cases b with
    | int i =>
      obtain ⟨d, e, q⟩ := hq.imO
      obtain ⟨p, xs, rfl, h1, h2⟩ := ha.lst s
      obtain ⟨v, e2, hv⟩ := h2.atI e
      exact .inl ⟨p, xs, i, v, rfl, hb.int, SqL.of h1, e2, q.same s hv⟩
    | _ => exact hq.elim
  | str z =>
    cases b with
    | int i =>
      obtain ⟨c, hq⟩ := GrPost.cond hq
      obtain ⟨d, e, q⟩ := hq.imO
      cases e2 : L2.atI z.cps.toList i with
      | none => rw [e2] at e; cases e
      | some k =>
        rw [e2] at e
        cases e
        exact .inr (.inr ⟨z, i, k, ha.str, hb.int, szB_le c, e2, q.same s rfl⟩)
    | _ => exact hq.elim
  | scr ns =>
    cases b with
    | int i =>
      obtain ⟨d, e, q⟩ := hq.imO
      obtain ⟨p, rfl, h1⟩ := ha.scr s
      cases e2 : L2.atI ns i with
      | none => rw [e2] at e; cases e
      | some k =>
        rw [e2] at e
        cases e
        exact .inl ⟨p, _, i, .int k, rfl, hb.int, h1, by rw [atI_map, e2]; rfl, q.same s rfl⟩
    | _ => exact hq.elim
  | _ => cases b <;> exact hq.elim
theorem ex_item {X : Cx} {W : WX} {a b : Expr} {Fa Fb : Fx} {pos : Pos} (ha : EX X W a Fa) (hb : EX X W b Fb) (hp : PlainIx b := by exact fun _ _ => rfl) : EX X W (.Subscript a b pos) (op2F ixD Fa Fb) := ex_ix ix_seq snd_ix ha hb hp
/-! ### slices -/
inductive RsO where
  | ok (o : Option Int) (env : List Sl)
  | err (c : Str) (env : Option (List Sl))
  | stk
abbrev FxO := List Sl → RsO
def PostO (K : PySem.W.Frag) (mg : Str → Option Value) (W : WX) (σ : L2.St) (H G : Hp) (env : List Sl) (Q : Option Int → Hp → Prop) : RsO → Prop
  | .ok o env' => ∀ H' G', Stp K σ H G env H' G' env' → Q o H'
  | .err c e => ∀ C H', mg c = some (.ref C) → ErrAt K σ H G env H' e → W (.ref C) none σ H'
  | .stk => False
def tDO (K : PySem.W.Frag) (mg : Str → Option Value) (W : WX) (F : FxO) : TO := fun σ H Q => ∃ G env, ER K H G σ env ∧ PostO K mg W σ H G env Q (F env)
def OX (X : Cx) (W : WX) (e : Option Expr) (F : FxO) : Prop := PO X e (tDO X.K X.mg W F)
@[simp] def noneO  (env : List Sl) : RsO := .ok none env
@[simp] def someO (F : Fx)  (env : List Sl) : RsO := match F env with
  | .ok v e => (match v.rd e with
    | some (.int i) => .ok (some i) e
    | _ => .stk)
  | .err c e => .err c e
  | .stk => .stk
theorem PO.weak {X : Cx} {e : Option Expr} {t t' : TO} (h : PO X e t) (w : ∀ σ H Q, t' σ H Q → t σ H Q) : PO X e t' := ⟨fun pins s σ H Q I q => h.run pins s σ H Q I (w σ H Q q)⟩
section
variable {X : Cx} {W : WX}
theorem ox_none : OX X W none noneO := PO.weak po_none fun σ H Q ⟨G, env, r, h⟩ => h H G (Stp.refl r)
theorem ox_some {e : Expr} {F : Fx} (h : EX X W e F) : OX X W (some e) (someO F) := by
  refine PO.weak (po_some h) fun σ H Q ⟨G, env, r, h⟩ => ?_
  refine ⟨G, env, r, ?_⟩
  unfold someO at h
  cases e1 : F env with
  | stk => rw [e1] at h; exact h
  | err c e => rw [e1] at h; exact h
  | ok vl env1 =>
    rw [e1] at h
    simp only at h
    cases e2 : vl.rd env1 with
    | none => rw [e2] at h; exact h.elim
    | some d =>
      rw [e2] at h
      cases d with
      | int i => exact fun v H' G' s hv => ⟨i, (hv.read s.er e2).int, h H' G' s⟩
      | _ => exact h.elim
end
def cutL {α : Type} (xs : List α) (lo hi : Option Int) : List α := (xs.drop (HT.sIx xs.length 0 lo)).take (HT.sIx xs.length xs.length hi - HT.sIx xs.length 0 lo)
theorem RpL.cut {K : PySem.W.Frag} {G : Hp} {ds : List D} {xs : List V} (h : RpL K G ds xs) (lo hi : Option Int) : RpL K G (cutL ds lo hi) (cutV xs lo hi) := by
  unfold cutL cutV
  rw [h.length]
  exact (h.drop _).take _
@[simp] def slD (d : D) (lo hi : Option Int) : Gr := match d with
  | .lst ds => .fr (.lst (cutL ds lo hi))
  | .scr ns => .fr (.lst (cutL (ns.map D.int) lo hi))
  | .tup ds => .im (.tup (cutL ds lo hi))
  | .str z => if szB z.length then .im (.str (cutS z lo hi)) else .stk
  | _ => .stk
@[simp] def slF (Fa : Fx) (Fl Fh : FxO)  (env : List Sl) : Rs := bindR (Fa env) fun va e1 => match Fl e1 with
  | .ok lo e2 => (match Fh e2 with
    | .ok hi e3 => (match va.rd e3 with
      | some d => (slD d lo hi).rs e3
      | none => .stk)
    | .err c e => .err c e
    | .stk => .stk)
  | .err c e => .err c e
  | .stk => .stk
theorem PostO.shift {K : PySem.W.Frag} {mg : Str → Option Value} {W : WX} {σ : L2.St} {H G H1 G1 : Hp} {env env1 : List Sl} {Q : Option Int → Hp → Prop} (s : Stp K σ H G env H1 G1 env1) (r : ER K H G σ env) : ∀ {R : RsO}, PostO K mg W σ H G env Q R → PostO K mg W σ H1 G1 env1 Q R
  | .ok vl env', h => fun H' G' s' => h H' G' (s.trans s' r)
  | .err c (some e), h => fun C H' m ⟨G', s'⟩ => h C H' m ⟨G', s.trans s' r⟩
  | .err c none, h => fun C H' m k => h C H' m fun b o e nm => k b o (s.keep b o e nm) fun z => nm (z.of s.kin)
  | .stk, h => h
section
variable {X : Cx} {W : WX}
theorem sl_all {K : PySem.W.Frag} {H G : Hp} {x : V} {d : D} {lo hi : Option Int} {Q : VK} (s : Same G H) (h : RdAt K H G d x) (hq : GrPost K H G Q (slD d lo hi)) : rSlL K x lo hi H Q ∨ rSlA K x lo hi H Q ∨ rSlS x lo hi H Q := by
  cases d with
  | lst ds =>
    obtain ⟨p, xs, rfl, h1, h2⟩ := h.lst s
    exact .inl ⟨p, xs, rfl, SqL.of h1, fun q hp => hq.newL s (h2.cut lo hi) hp⟩
  | scr ns =>
    obtain ⟨p, rfl, h1⟩ := h.scr s
    exact .inl ⟨p, _, rfl, h1, fun q hp => hq.newL s ((RpL.ints ns).cut lo hi) hp⟩
  | tup ds =>
    obtain ⟨p, xs, rfl, h1, h2⟩ := h.tup s
    refine .inr (.inl ⟨p, xs, rfl, h1, fun w => ?_, fun w q hp => hq.newT s (h2.cut lo hi) hp⟩)
    have e : cutL ds lo hi = ds := by
      unfold cutL
      rw [h2.length] at w
      rw [w.1, w.2, List.drop_zero, Nat.sub_zero, List.take_length]
    rw [show slD (.tup ds) lo hi = .im (.tup (cutL ds lo hi)) from rfl, e] at hq
    exact hq.same s h.tup0
  | str z =>
    obtain ⟨c, hq⟩ := GrPost.cond hq
    exact .inr (.inr ⟨z, h.str, szB_le c, hq.same s rfl⟩)
  | _ => exact hq.elim
theorem ex_slice {e : Expr} {lo hi : Option Expr} {Fa : Fx} {Fl Fh : FxO} {p2 pos : Pos} (he : EX X W e Fa) (hl : OX X W lo Fl) (hh : OX X W hi Fh) : EX X W (.Subscript e (.Slice lo hi none p2) pos) (slF Fa Fl Fh) := by
  refine PE.weak (pe_slice (sl_list.or (sl_tupA.or sl_str)) he hl hh) fun σ H Q ⟨G, env, r, h⟩ => ?_
  refine tD_bind r h fun va e1 x H1 G1 s1 v1 p1 => ?_
  refine ⟨G1, e1, s1.er, ?_⟩
  have p1 := PostR.shift s1 r p1
  cases c1 : Fl e1 with
  | stk => simp only [c1] at p1; exact p1
  | err c e => simp only [c1] at p1; cases e <;> exact p1
  | ok lo e2 =>
    simp only [c1] at p1
    intro H2 G2 s2
    refine ⟨G2, e2, s2.er, ?_⟩
    have p2 := PostR.shift s2 s1.er p1
    cases c2 : Fh e2 with
    | stk => simp only [c2] at p2; exact p2
    | err c e => simp only [c2] at p2; cases e <;> exact p2
    | ok hi e3 =>
      simp only [c2] at p2
      intro H3 G3 s3
      have p3 := PostR.shift s3 s2.er p2
      cases c3 : va.rd e3 with
      | none => simp only [c3] at p3; exact p3.elim
      | some d =>
        simp only [c3] at p3
        have nm1 : ∀ p, H p = none → ¬ MuIs σ e1 p := fun p hp m => (MuIs.new r hp) (m.of s1.kin)
        have nm2 : ∀ p, H p = none → ¬ MuIs σ e2 p := fun p hp m => nm1 p hp (m.of s2.kin)
        have v3 := (v1.step s2 nm1).step s3 nm2
        exact sl_all s3.er.sub (v3.read s3.er c3) (GrPost.of s3.er p3)
end
/-! ### displays -/
@[simp] def Vls.toIm : List Vl → Option (List D)
  | [] => some []
  | l :: ls => match l.toIm, Vls.toIm ls with
    | some d, some ds => some (d :: ds)
    | _, _ => none
/-- as VlAt, perhaps frozen -/
def VlW (K : PySem.W.Frag) (H0 H G : Hp) (σ : L2.St) (env : List Sl) : Vl → V → Prop
  | .im d, v => Rp K G d v
  | .fr d, v => ∃ p, v = .ref p ∧ H0 p = none ∧ (G p = none ∨ G p = H p) ∧ MuAt K H G d p
  | .bo i, v => ∃ (s : Sl) (d : D) (p : Addr), env[i]? = some s ∧ s.mu = some d ∧ σ[i]? = some (some (.ref p)) ∧ v = .ref p
def VlsW (K : PySem.W.Frag) (H0 H G : Hp) (σ : L2.St) (env : List Sl) : List Vl → List V → Prop
  | [], xs => xs = []
  | l :: ls, xs => ∃ x r, xs = x :: r ∧ VlW K H0 H G σ env l x ∧ VlsW K H0 H G σ env ls r
theorem VlAt.w {K : PySem.W.Frag} {H0 H G : Hp} {σ : L2.St} {env : List Sl} {l : Vl} {v : V} (h : VlAt K H0 H G σ env l v) : VlW K H0 H G σ env l v := by
  cases l with
  | im d => exact h
  | fr d => obtain ⟨p, e1, e2, e3, e4⟩ := h; exact ⟨p, e1, e2, .inl e3, e4⟩
  | bo i => exact h
theorem VlsAt.w {K : PySem.W.Frag} {H0 H G : Hp} {σ : L2.St} {env : List Sl} : ∀ {ls : List Vl} {vs : List V}, VlsAt K H0 H G σ env ls vs → VlsW K H0 H G σ env ls vs
  | [], vs, h => h
  | l :: ls, vs, h => by
    obtain ⟨x, r, e, h1, h2⟩ := h
    exact ⟨x, r, e, h1.w, VlsAt.w h2⟩
theorem VlW.up {K : PySem.W.Frag} {H0 H G G' : Hp} {σ : L2.St} {env : List Sl} {l : Vl} {v : V} (h : VlW K H0 H G σ env l v) (g : Same G G') (k : ∀ b, G' b = G b ∨ G' b = H b) : VlW K H0 H G' σ env l v := by
  cases l with
  | im d => exact Rp.mono g d v h
  | bo i => exact h
  | fr d =>
    obtain ⟨p, e1, e2, e3, e4⟩ := h
    refine ⟨p, e1, e2, ?_, e4.mono rfl g⟩
    rcases k p with z | z
    · rw [z]; exact e3
    · exact .inr z
theorem VlsW.up {K : PySem.W.Frag} {H0 H G G' : Hp} {σ : L2.St} {env : List Sl} (g : Same G G') (k : ∀ b, G' b = G b ∨ G' b = H b) : ∀ {ls : List Vl} {vs : List V}, VlsW K H0 H G σ env ls vs → VlsW K H0 H G' σ env ls vs
  | [], vs, h => h
  | l :: ls, vs, h => by
    obtain ⟨x, r, e, h1, h2⟩ := h
    exact ⟨x, r, e, h1.up g k, VlsW.up g k h2⟩
theorem VlW.imm {K : PySem.W.Frag} {σ : L2.St} {H0 G0 H G : Hp} {env0 env : List Sl} {vl : Vl} {v : V} {d : D} (h : VlW K H0 H G σ env vl v) (s : Stp K σ H0 G0 env0 H G env) (r0 : ER K H0 G0 σ env0) (e : vl.toIm = some d) :
    ∃ G', Stp K σ H0 G0 env0 H G' env ∧ Same G G' ∧ (∀ b, G' b = G b ∨ G' b = H b) ∧ Rp K G' d v := by
  cases vl with
  | im d' => cases e; exact ⟨G, s, Same.refl _, fun _ => .inl rfl, h⟩
  | bo i => cases e
  | fr d' =>
    cases e
    obtain ⟨p, e1, e2, e3, e4⟩ := h
    by_cases gp : G p = none
    · have h' : VlAt K H0 H G σ env (.fr d) v := ⟨p, e1, e2, gp, e4⟩
      obtain ⟨G', g1, g2, g3, g4⟩ := e4.frz gp s.er.sub
      obtain ⟨G'', w1, w2, w3, w4⟩ := h'.imm s r0 rfl
      have np : ∀ b, H0 b ≠ none → b ≠ p := fun b hb z => hb (by rw [z]; exact e2)
      refine ⟨G', ⟨⟨s.er.len, g2, fun i d q => ?_, fun i t d q1 q2 => ?_, s.er.sep⟩, s.gr.trans g1, fun b hb hg => ?_, s.keep, s.kin⟩, g1, fun b => ?_, by rw [e1]; exact g4⟩
      · obtain ⟨v, w1, w2⟩ := s.er.val i d q
        exact ⟨v, w1, Rp.mono g1 d v w2⟩
      · obtain ⟨p', w1, w2, w3⟩ := s.er.mu i t d q1 q2
        have m : MuIs σ env0 p' := MuIs.of s.kin ⟨i, t, d, q1, q2, w1⟩
        exact ⟨p', w1, by rw [g3 p' (np p' (m.old r0))]; exact w2, w3.mono rfl g1⟩
      · rw [g3 b (np b hb)]
        exact s.old b hb hg
      · by_cases hb : b = p
        · right
          cases q : G' b with
          | none =>
            exfalso
            subst hb
            cases d with
            | lst ds => obtain ⟨a, xs, ea, eb, _⟩ := g4; cases ea; rw [q] at eb; cases eb
            | dct ks ds => obtain ⟨a, xs, ea, eb, _⟩ := g4; cases ea; rw [q] at eb; cases eb
            | _ => exact e4.elim
          | some o => exact (g2 b o q).symm
        · exact .inl (g3 b hb)
    · have e5 : G p = H p := by
        rcases e3 with z | z
        · exact absurd z gp
        · exact z
      refine ⟨G, s, Same.refl _, fun _ => .inl rfl, ?_⟩
      rw [e1]
      cases d with
      | lst ds => obtain ⟨xs, q1, q2⟩ := e4; exact ⟨p, xs, rfl, by rw [e5]; exact q1, q2⟩
      | dct ks ds => obtain ⟨xs, q1, q2, q3⟩ := e4; exact ⟨p, xs, rfl, by rw [e5]; exact q1, q2, q3⟩
      | _ => exact e4.elim
theorem VlsW.imm {K : PySem.W.Frag} {σ : L2.St} {H0 G0 H : Hp} {env0 env : List Sl} (r0 : ER K H0 G0 σ env0) : ∀ {vls : List Vl} {vs : List V} {ds : List D} {G : Hp}, VlsW K H0 H G σ env vls vs → Stp K σ H0 G0 env0 H G env → Vls.toIm vls = some ds →
    ∃ G', Stp K σ H0 G0 env0 H G' env ∧ Same G G' ∧ (∀ b, G' b = G b ∨ G' b = H b) ∧ RpL K G' ds vs
  | [], vs, ds, G, h, s, e => by cases e; exact ⟨G, s, Same.refl _, fun _ => .inl rfl, h⟩
  | l :: ls, vs, ds, G, h, s, e => by
    obtain ⟨x, r, rfl, h1, h2⟩ := h
    unfold Vls.toIm at e
    cases e1 : l.toIm with
    | none => rw [e1] at e; cases e
    | some d =>
      cases e2 : Vls.toIm ls with
      | none => rw [e1, e2] at e; cases e
      | some ds' =>
        rw [e1, e2] at e
        cases e
        obtain ⟨G1, s1, g1, k1, q1⟩ := h1.imm s r0 e1
        obtain ⟨G2, s2, g2, k2, q2⟩ := VlsW.imm r0 (VlsW.up g1 k1 h2) s1 e2
        refine ⟨G2, s2, g1.trans g2, fun b => ?_, x, r, rfl, Rp.mono g2 d x q1, q2⟩
        rcases k2 b with z | z
        · rw [z]; exact k1 b
        · exact .inr z
@[simp] def tupF (Fs : FxL)  (env : List Sl) : Rs := bindL (Fs env) fun vls e => match Vls.toIm vls with
  | some ds => if szB ds.length then .ok (.im (.tup ds)) e else .stk
  | none => .stk
@[simp] def lstF (Fs : FxL)  (env : List Sl) : Rs := bindL (Fs env) fun vls e => match Vls.toIm vls with
  | some ds => if szB ds.length then .ok (.fr (.lst ds)) e else .stk
  | none => .stk
theorem imL_length : ∀ {vls : List Vl} {ds : List D}, Vls.toIm vls = some ds → ds.length = vls.length
  | [], ds, e => by cases e; rfl
  | l :: ls, ds, e => by
    unfold Vls.toIm at e
    cases e1 : l.toIm with
    | none => rw [e1] at e; cases e
    | some d =>
      cases e2 : Vls.toIm ls with
      | none => rw [e1, e2] at e; cases e
      | some ds' =>
        rw [e1, e2] at e
        cases e
        rw [List.length_cons, List.length_cons, imL_length e2]
section
variable {X : Cx} {W : WX} {es : List Expr} {Fs : FxL} {pos : Pos}
theorem ex_tup {x1} (h : AX X W es Fs) : EX X W (.Tuple es x1 pos) (tupF Fs) := by
  refine PE.weak (pe_tup h) fun σ H Q ⟨G, env, r, h⟩ => ?_
  refine tDA_bind r h fun vls e1 vs H1 G1 s1 v1 p1 => ?_
  cases e : Vls.toIm vls with
  | none => simp only [e] at p1; exact p1.elim
  | some ds =>
    simp only [e] at p1
    split at p1
    · rename_i c
      obtain ⟨G2, s2, g2, k2, q2⟩ := VlsW.imm r v1.w s1 e
      refine ⟨by rw [q2.length]; exact szB_le c, fun p hp => ?_⟩
      have g := GS.new (o := .tup vs) s2.er.sub hp
      exact p1 _ _ _ (s2.trans (Stp.gs s2.er g) r) ⟨p, vs, rfl, SqT.of upd_same, RpL.mono g.gg _ _ q2⟩
    · exact p1.elim
theorem ex_lst (h : AX X W es Fs) : EX X W (.List es pos) (lstF Fs) := by
  refine PE.weak (pe_lst h) fun σ H Q ⟨G, env, r, h⟩ => ?_
  refine tDA_bind r h fun vls e1 vs H1 G1 s1 v1 p1 => ?_
  cases e : Vls.toIm vls with
  | none => simp only [e] at p1; exact p1.elim
  | some ds =>
    simp only [e] at p1
    split at p1
    · rename_i c
      obtain ⟨G2, s2, g2, k2, q2⟩ := VlsW.imm r v1.w s1 e
      refine ⟨by rw [q2.length]; exact szB_le c, fun p hp => ?_⟩
      have g := GS.newH (o := .lst vs) s2.er.sub hp
      exact p1 _ _ _ (s2.trans (Stp.gs s2.er g) r) ⟨p, rfl, s2.free r hp, s2.er.sub.free hp, vs, upd_same, q2⟩
    · exact p1.elim
end
end HF

set_option Elab.async false
set_option linter.all false
set_option maxRecDepth 100000
set_option maxHeartbeats 4000000
set_option autoImplicit false
namespace HF
open PySem PySem.Spec PyProof.Rows L2
/-! ### built-in functions -/
def D.cn : D → Option String
  | .non => some "NoneType"
  | .bl _ => some "bool"
  | .int _ => some "int"
  | .str _ => some "str"
  | .tup _ => some "tuple"
  | .lst _ => some "list"
  | .dct _ _ => some "dict"
  | _ => none
@[simp] def D.isi : D → Ty → Option Bool
  | .non, _ => some false
  | .bl _, .bool => some true
  | .bl _, .int => some true
  | .bl _, _ => some false
  | .int _, .int => some true
  | .int _, _ => some false
  | .str _, .str => some true
  | .str _, _ => some false
  | .tup _, .tuple => some true
  | .tup _, _ => some false
  | .lst _, .list => some true
  | .lst _, _ => some false
  | .dct _ _, _ => some false
  | _, _ => none
@[simp] def isiG : List D → Gr
  | [x, .ty t] => blO id (x.isi t)
  | _ => .stk
theorem isi_kit : ∀ {x : D} {t : Ty} {b : Bool}, x.isi t = some b → ∃ c, x.cn = some c ∧ kitB c t.name = some b := by
  intro x t b h
  cases x <;> cases t <;> first | (cases h; exact ⟨_, rfl, by decide +kernel⟩) | cases h
theorem RdAt.tyX {K : PySem.W.Frag} {H G : Hp} {x : D} {v : V} {c : String} (s : Same G H) (h : RdAt K H G x v) (e : x.cn = some c) : TyX K H v (.type c) := by
  cases x with
  | non => cases e; rw [h.non]; exact .base .non
  | bl b => cases e; rw [h.bl]; exact .base (.bl _)
  | int b => cases e; rw [h.int]; exact .base (.int _)
  | str b => cases e; rw [h.str]; exact .base (.str _)
  | tup ds =>
    cases e
    obtain ⟨p, xs, rfl, h1, h2⟩ := h.tup s
    rcases h1 with (h1 | ⟨o, h1⟩) | ⟨o, its, n, h1, h2, _⟩
    · exact .base (.tup h1)
    · exact .fTuple h1
    · exact .kTuple h1 h2
  | lst ds =>
    cases e
    obtain ⟨p, xs, rfl, h1, h2⟩ := h.lst s
    exact .base (.lst h1)
  | dct ks ds =>
    cases e
    obtain ⟨p, xs, rfl, h1, h2⟩ := h.dct s
    exact .base (.dK h1)
  | _ => cases e
theorem RdsAt.two {K : PySem.W.Frag} {H G : Hp} {a b : D} {xs : List V} (h : RdsAt K H G [a, b] xs) : ∃ x y, xs = [x, y] ∧ RdAt K H G a x ∧ RdAt K H G b y := by
  obtain ⟨x, r, rfl, h1, y, r', rfl, h2, h3⟩ := h
  rw [show r' = [] from h3]
  exact ⟨x, y, rfl, h1, h2⟩
theorem RdsAt.one {K : PySem.W.Frag} {H G : Hp} {a : D} {xs : List V} (h : RdsAt K H G [a] xs) : ∃ x, xs = [x] ∧ RdAt K H G a x := by
  obtain ⟨x, r, rfl, h1, h3⟩ := h
  rw [show r = [] from h3]
  exact ⟨x, rfl, h1⟩
theorem snd_isi {K : PySem.W.Frag} : ClSound K isiG (rIsi K) := by
  intro H G xs ds Q s h hq
  unfold isiG at hq
  split at hq
  · rename_i x t
    obtain ⟨b, e, q⟩ := GrPost.blO s hq
    obtain ⟨v, u, rfl, h1, h2⟩ := h.two
    obtain ⟨c, e1, e2⟩ := isi_kit e
    exact ⟨v, u, .type c, .type t.name, b, rfl, by rw [h2.ty]; exact .ty _, h1.tyX s e1, kit_ty e2, q⟩
  · exact hq.elim
@[simp] def lenG : List D → Gr
  | [.str z] => if szB z.length then .im (.int z.length) else .stk
  | [.tup ds] => .im (.int ds.length)
  | [.lst ds] => .im (.int ds.length)
  | [.scr ns] => .im (.int ns.length)
  | _ => .stk
theorem snd_len {K : PySem.W.Frag} : ClSound K lenG (fun xs H Q => ∃ x n, xs = [x] ∧ LenV K x H n ∧ Q (.int n) H) := by
  intro H G xs ds Q s h hq
  unfold lenG at hq
  split at hq
  · rename_i z
    obtain ⟨c, hq⟩ := GrPost.cond hq
    obtain ⟨v, rfl, h1⟩ := h.one
    exact ⟨v, z.length, rfl, by rw [h1.str]; exact ⟨szB_le c, rfl⟩, hq.same s rfl⟩
  · rename_i ds
    obtain ⟨v, rfl, h1⟩ := h.one
    obtain ⟨p, xs, rfl, h1, h2⟩ := h1.tup s
    exact ⟨_, ds.length, rfl, .inr ⟨xs, h1, h2.length.symm⟩, hq.same s rfl⟩
  · rename_i ds
    obtain ⟨v, rfl, h1⟩ := h.one
    obtain ⟨p, xs, rfl, h1, h2⟩ := h1.lst s
    exact ⟨_, ds.length, rfl, .inl ⟨xs, SqL.of h1, h2.length.symm⟩, hq.same s rfl⟩
  · rename_i ns
    obtain ⟨v, rfl, h0⟩ := h.one
    obtain ⟨p, rfl, h1⟩ := RdAt.scr s h0
    exact ⟨_, ns.length, rfl, .inl ⟨_, h1, (List.length_map _).symm⟩, hq.same s rfl⟩
  · exact hq.elim
@[simp] def absG : List D → Gr
  | [.int i] => .im (.int (if i < 0 then -i else i))
  | _ => .stk
theorem snd_abs {K : PySem.W.Frag} : ClSound K absG (fun xs H Q => ∃ i, xs = [.int i] ∧ Q (.int (if i < 0 then -i else i)) H) := by
  intro H G xs ds Q s h hq
  unfold absG at hq
  split at hq
  · rename_i i
    obtain ⟨v, rfl, h1⟩ := h.one
    exact ⟨i, by rw [h1.int], hq.same s rfl⟩
  · exact hq.elim
@[simp] def intG : List D → Gr
  | [.int i] => .im (.int i)
  | [.bl b] => .im (.int (if b then 1 else 0))
  | [.str a] => if decide (a.length ≤ 640) then imO ((PySem.intText? a).map D.int) else .stk
  | _ => .stk
theorem snd_int {K : PySem.W.Frag} : ClSound K intG (fun xs H Q => ((∃ i, xs = [.int i] ∧ Q (.int i) H) ∨ ∃ k, xs = [.bl k] ∧ Q (.int (if k then 1 else 0)) H) ∨ ∃ a n, xs = [.str a] ∧ PySem.intText? a = some n ∧ a.length ≤ 640 ∧ Q (.int n) H) := by
  intro H G xs ds Q s h hq
  unfold intG at hq
  split at hq
  · rename_i i
    obtain ⟨v, rfl, h1⟩ := h.one
    exact .inl (.inl ⟨i, by rw [h1.int], hq.same s rfl⟩)
  · rename_i i
    obtain ⟨v, rfl, h1⟩ := h.one
    exact .inl (.inr ⟨i, by rw [h1.bl], hq.same s rfl⟩)
  · rename_i a
    obtain ⟨c, hq⟩ := GrPost.cond hq
    obtain ⟨v, rfl, h1⟩ := h.one
    obtain ⟨d, e, q⟩ := hq.imO
    cases e2 : PySem.intText? a with
    | none => rw [e2] at e; cases e
    | some n =>
      rw [e2] at e
      cases e
      exact .inr ⟨a, n, by rw [h1.str], e2, of_decide_eq_true c, q.same s rfl⟩
  · exact hq.elim
@[simp] def strG : List D → Gr
  | [.int i] => if decide (i.natAbs.log2 < 1920) then .im (.str (toString i : String)) else .stk
  | _ => .stk
theorem snd_str {K : PySem.W.Frag} : ClSound K strG (fun xs H Q => ∃ i, xs = [.int i] ∧ i.natAbs.log2 < 1920 ∧ Q (.str (toString i)) H) := by
  intro H G xs ds Q s h hq
  unfold strG at hq
  split at hq
  · rename_i i
    obtain ⟨c, hq⟩ := GrPost.condD hq
    obtain ⟨v, rfl, h1⟩ := h.one
    exact ⟨i, by rw [h1.int], c, hq.same s rfl⟩
  · exact hq.elim
@[simp] def tupG : List D → Gr
  | [.lst ds] => .im (.tup ds)
  | [.tup ds] => .im (.tup ds)
  | _ => .stk
theorem snd_tupOf {K : PySem.W.Frag} : ClSound K tupG (fun xs H Q => ∃ p ys, xs = [.ref p] ∧ ((SqL K H p ys ∧ ∀ l, H l = none → Q (.ref l) (upd H l (.tup ys))) ∨ (SqT K H p ys ∧ Q (.ref p) H))) := by
  intro H G xs ds Q s h hq
  unfold tupG at hq
  split at hq
  · rename_i ds
    obtain ⟨v, rfl, h1⟩ := h.one
    obtain ⟨p, xs, rfl, h1, h2⟩ := h1.lst s
    exact ⟨p, xs, rfl, .inl ⟨SqL.of h1, fun l hl => hq.newT s h2 hl⟩⟩
  · rename_i ds
    obtain ⟨v, rfl, h1⟩ := h.one
    have h0 := h1.tup0
    obtain ⟨p, xs, rfl, h1, h2⟩ := h1.tup s
    exact ⟨p, xs, rfl, .inr ⟨h1, hq.same s h0⟩⟩
  · exact hq.elim
@[simp] def lstG : List D → Gr
  | [.lst ds] => .fr (.lst ds)
  | [.tup ds] => .fr (.lst ds)
  | [.scr ns] => .fr (.lst (ns.map D.int))
  | _ => .stk
theorem snd_lstOf {K : PySem.W.Frag} : ClSound K lstG (fun xs H Q => ∃ p ys, xs = [.ref p] ∧ (SqL K H p ys ∨ SqT K H p ys) ∧ ∀ l, H l = none → Q (.ref l) (upd H l (.lst ys))) := by
  intro H G xs ds Q s h hq
  unfold lstG at hq
  split at hq
  · rename_i ds
    obtain ⟨v, rfl, h1⟩ := h.one
    obtain ⟨p, xs, rfl, h1, h2⟩ := h1.lst s
    exact ⟨p, xs, rfl, .inl (SqL.of h1), fun l hl => hq.newL s h2 hl⟩
  · rename_i ds
    obtain ⟨v, rfl, h1⟩ := h.one
    obtain ⟨p, xs, rfl, h1, h2⟩ := h1.tup s
    exact ⟨p, xs, rfl, .inr h1, fun l hl => hq.newL s h2 hl⟩
  · rename_i ns
    obtain ⟨v, rfl, h0⟩ := h.one
    obtain ⟨p, rfl, h1⟩ := RdAt.scr s h0
    exact ⟨p, _, rfl, .inl h1, fun l hl => hq.newL s (RpL.ints ns) hl⟩
  · exact hq.elim
@[simp] def blsD : List D → Option (List Bool)
  | [] => some []
  | .bl b :: r => (blsD r).map (b :: ·)
  | _ => none
@[simp] def intsD : List D → Option (List Int)
  | [] => some []
  | .int b :: r => (intsD r).map (b :: ·)
  | _ => none
theorem blsD_of {K : PySem.W.Frag} {G : Hp} : ∀ {ds : List D} {xs : List V} {bs : List Bool}, RpL K G ds xs → blsD ds = some bs → xs = bs.map V.bl
  | [], xs, bs, h, e => by cases e; exact h
  | .bl b :: r, xs, bs, h, e => by
    obtain ⟨x, r', rfl, h1, h2⟩ := h
    unfold blsD at e
    cases e2 : blsD r with
    | none => rw [e2] at e; cases e
    | some bs' =>
      rw [e2] at e
      cases e
      rw [blsD_of h2 e2, show x = .bl b from h1]
      rfl
  | .non :: r, xs, bs, h, e => by cases e
  | .int _ :: r, xs, bs, h, e => by cases e
  | .str _ :: r, xs, bs, h, e => by cases e
  | .tup _ :: r, xs, bs, h, e => by cases e
  | .lst _ :: r, xs, bs, h, e => by cases e
  | .dct _ _ :: r, xs, bs, h, e => by cases e
  | .scr _ :: r, xs, bs, h, e => by cases e
  | .ty _ :: r, xs, bs, h, e => by cases e
  | .ob _ :: r, xs, bs, h, e => by cases e
theorem intsD_of {K : PySem.W.Frag} {G : Hp} : ∀ {ds : List D} {xs : List V} {bs : List Int}, RpL K G ds xs → intsD ds = some bs → xs = bs.map V.int
  | [], xs, bs, h, e => by cases e; exact h
  | .int b :: r, xs, bs, h, e => by
    obtain ⟨x, r', rfl, h1, h2⟩ := h
    unfold intsD at e
    cases e2 : intsD r with
    | none => rw [e2] at e; cases e
    | some bs' =>
      rw [e2] at e
      cases e
      rw [intsD_of h2 e2, show x = .int b from h1]
      rfl
  | .non :: r, xs, bs, h, e => by cases e
  | .bl _ :: r, xs, bs, h, e => by cases e
  | .str _ :: r, xs, bs, h, e => by cases e
  | .tup _ :: r, xs, bs, h, e => by cases e
  | .lst _ :: r, xs, bs, h, e => by cases e
  | .dct _ _ :: r, xs, bs, h, e => by cases e
  | .scr _ :: r, xs, bs, h, e => by cases e
  | .ty _ :: r, xs, bs, h, e => by cases e
  | .ob _ :: r, xs, bs, h, e => by cases e
@[simp] def allG : List D → Gr
  | [.lst ds] => imO ((blsD ds).map fun bs => .bl (bs.all id))
  | _ => .stk
@[simp] def anyG : List D → Gr
  | [.lst ds] => imO ((blsD ds).map fun bs => .bl (bs.any id))
  | _ => .stk
@[simp] def sumG : List D → Gr
  | [.lst ds] => imO ((intsD ds).map fun bs => .int bs.sum)
  | _ => .stk
theorem snd_all {K : PySem.W.Frag} : ClSound K allG (rAll K) := by
  intro H G xs ds Q s h hq
  unfold allG at hq
  split at hq
  · rename_i ds
    obtain ⟨v, rfl, h1⟩ := h.one
    obtain ⟨p, xs, rfl, h1, h2⟩ := h1.lst s
    obtain ⟨d, e, q⟩ := hq.imO
    cases e2 : blsD ds with
    | none => rw [e2] at e; cases e
    | some bs =>
      rw [e2] at e
      cases e
      exact ⟨p, bs, rfl, by rw [← blsD_of h2 e2]; exact SqL.of h1, q.same s rfl⟩
  · exact hq.elim
theorem snd_any {K : PySem.W.Frag} : ClSound K anyG (rAny K) := by
  intro H G xs ds Q s h hq
  unfold anyG at hq
  split at hq
  · rename_i ds
    obtain ⟨v, rfl, h1⟩ := h.one
    obtain ⟨p, xs, rfl, h1, h2⟩ := h1.lst s
    obtain ⟨d, e, q⟩ := hq.imO
    cases e2 : blsD ds with
    | none => rw [e2] at e; cases e
    | some bs =>
      rw [e2] at e
      cases e
      exact ⟨p, bs, rfl, by rw [← blsD_of h2 e2]; exact SqL.of h1, q.same s rfl⟩
  · exact hq.elim
theorem snd_sum {K : PySem.W.Frag} : ClSound K sumG (rSum K) := by
  intro H G xs ds Q s h hq
  unfold sumG at hq
  split at hq
  · rename_i ds
    obtain ⟨v, rfl, h1⟩ := h.one
    obtain ⟨p, xs, rfl, h1, h2⟩ := h1.lst s
    obtain ⟨d, e, q⟩ := hq.imO
    cases e2 : intsD ds with
    | none => rw [e2] at e; cases e
    | some bs =>
      rw [e2] at e
      cases e
      exact ⟨p, bs, rfl, by rw [← intsD_of h2 e2]; exact SqL.of h1, q.same s rfl⟩
  · exact hq.elim
section
variable {X : Cx} {W : WX} {p pos : Pos} {e : Expr} {es : List Expr} {Fs : FxL}
theorem ex_ty {x : Str} {t : Ty} {pos : Pos} (hm : X.mg x = none) (hv : bootBuiltins x = some (.type t.name) := by decide +kernel) (hg : Gl X x := by rfl) (hn : x ≠ "__name__" := by decide) (hd : (x == ("__debug__" : Str)) = false := by decide) : EX X W (.Name x pos) (cF (.ty t)) :=
  ex_c (pe_bltn (v := .ty t.name) hg hm hv rfl hn hd) fun _ => rfl
theorem ex_isi (hm : X.mg "isinstance" = none) (ha : AX X W (e :: es) Fs) (hg : Gl X "isinstance" := by rfl) (he : starEach (e :: es) X.env = (false, eval e X.env) :: starEach es X.env := by rfl) (hpl : (backTo pos (starEach es X.env)).any (·.1) = false := by rfl) : EX X W (.Call (.Name "isinstance" p) (e :: es) [] pos) (blF isiG Fs) :=
  ex_callB (id := "isinstance") call_isi snd_isi hm (by decide +kernel) ha hg (by decide) (by decide) he hpl
theorem ex_len (hm : X.mg "len" = none) (ha : AX X W (e :: es) Fs) (hg : Gl X "len" := by rfl) (he : starEach (e :: es) X.env = (false, eval e X.env) :: starEach es X.env := by rfl) (hpl : (backTo pos (starEach es X.env)).any (·.1) = false := by rfl) : EX X W (.Call (.Name "len" p) (e :: es) [] pos) (blF lenG Fs) :=
  ex_callB (id := "len") call_len snd_len hm (by decide +kernel) ha hg (by decide) (by decide) he hpl
theorem ex_abs (hm : X.mg "abs" = none) (ha : AX X W (e :: es) Fs) (hg : Gl X "abs" := by rfl) (he : starEach (e :: es) X.env = (false, eval e X.env) :: starEach es X.env := by rfl) (hpl : (backTo pos (starEach es X.env)).any (·.1) = false := by rfl) : EX X W (.Call (.Name "abs" p) (e :: es) [] pos) (blF absG Fs) :=
  ex_callB (id := "abs") call_abs snd_abs hm (by decide +kernel) ha hg (by decide) (by decide) he hpl
theorem ex_intC (hm : X.mg "int" = none) (ha : AX X W (e :: es) Fs) (hg : Gl X "int" := by rfl) (he : starEach (e :: es) X.env = (false, eval e X.env) :: starEach es X.env := by rfl) (hpl : (backTo pos (starEach es X.env)).any (·.1) = false := by rfl) : EX X W (.Call (.Name "int" p) (e :: es) [] pos) (blF intG Fs) :=
  ex_callTy (T := "int") (call_int1.or call_int_str) snd_int hm (by decide +kernel) ha hg (by decide) (by decide) he hpl
theorem ex_strC (hm : X.mg "str" = none) (ha : AX X W (e :: es) Fs) (hg : Gl X "str" := by rfl) (he : starEach (e :: es) X.env = (false, eval e X.env) :: starEach es X.env := by rfl) (hpl : (backTo pos (starEach es X.env)).any (·.1) = false := by rfl) : EX X W (.Call (.Name "str" p) (e :: es) [] pos) (blF strG Fs) :=
  ex_callTy (T := "str") call_str_int snd_str hm (by decide +kernel) ha hg (by decide) (by decide) he hpl
theorem ex_tupC (hm : X.mg "tuple" = none) (ha : AX X W (e :: es) Fs) (hg : Gl X "tuple" := by rfl) (he : starEach (e :: es) X.env = (false, eval e X.env) :: starEach es X.env := by rfl) (hpl : (backTo pos (starEach es X.env)).any (·.1) = false := by rfl) : EX X W (.Call (.Name "tuple" p) (e :: es) [] pos) (blF tupG Fs) :=
  ex_callTy (T := "tuple") call_tuple_of snd_tupOf hm (by decide +kernel) ha hg (by decide) (by decide) he hpl
theorem ex_lstC (hm : X.mg "list" = none) (ha : AX X W (e :: es) Fs) (hg : Gl X "list" := by rfl) (he : starEach (e :: es) X.env = (false, eval e X.env) :: starEach es X.env := by rfl) (hpl : (backTo pos (starEach es X.env)).any (·.1) = false := by rfl) : EX X W (.Call (.Name "list" p) (e :: es) [] pos) (blF lstG Fs) :=
  ex_callTy (T := "list") call_list_of snd_lstOf hm (by decide +kernel) ha hg (by decide) (by decide) he hpl
theorem ex_all (hc : X.calm = true) (hm : X.mg "all" = none) (ha : AX X W (e :: es) Fs) (hg : Gl X "all" := by rfl) (he : starEach (e :: es) X.env = (false, eval e X.env) :: starEach es X.env := by rfl) (hpl : (backTo pos (starEach es X.env)).any (·.1) = false := by rfl) : EX X W (.Call (.Name "all" p) (e :: es) [] pos) (blF allG Fs) :=
  ex_callB (id := "all") (cr_all hc) snd_all hm (by decide +kernel) ha hg (by decide) (by decide) he hpl
theorem ex_any (hc : X.calm = true) (hm : X.mg "any" = none) (ha : AX X W (e :: es) Fs) (hg : Gl X "any" := by rfl) (he : starEach (e :: es) X.env = (false, eval e X.env) :: starEach es X.env := by rfl) (hpl : (backTo pos (starEach es X.env)).any (·.1) = false := by rfl) : EX X W (.Call (.Name "any" p) (e :: es) [] pos) (blF anyG Fs) :=
  ex_callB (id := "any") (cr_any hc) snd_any hm (by decide +kernel) ha hg (by decide) (by decide) he hpl
theorem ex_sum (hc : X.calm = true) (hm : X.mg "sum" = none) (ha : AX X W (e :: es) Fs) (hg : Gl X "sum" := by rfl) (he : starEach (e :: es) X.env = (false, eval e X.env) :: starEach es X.env := by rfl) (hpl : (backTo pos (starEach es X.env)).any (·.1) = false := by rfl) : EX X W (.Call (.Name "sum" p) (e :: es) [] pos) (blF sumG Fs) :=
  ex_callB (id := "sum") (cr_sum hc) snd_sum hm (by decide +kernel) ha hg (by decide) (by decide) he hpl
end
/-! ### tests -/
def PostT (K : PySem.W.Frag) (mg : Str → Option Value) (W : WX) (σ : L2.St) (H G : Hp) (env : List Sl) (Q : Bool → Hp → Prop) : Rs → Prop
  | .ok (.im (.bl b)) env' => ∀ H' G', Stp K σ H G env H' G' env' → Q b H'
  | .err c e => ∀ C H', mg c = some (.ref C) → ErrAt K σ H G env H' e → W (.ref C) none σ H'
  | _ => False
def tT (K : PySem.W.Frag) (mg : Str → Option Value) (W : WX) (F : Fx) : TT := fun σ H Q => ∃ G env, ER K H G σ env ∧ PostT K mg W σ H G env Q (F env)
def TX (X : Cx) (W : WX) (e : Expr) (F : Fx) : Prop := PT X e (tT X.K X.mg W F)
theorem tT_tD {K : PySem.W.Frag} {mg : Str → Option Value} {W : WX} {F : Fx} {σ : L2.St} {H : Hp} {Q : Bool → Hp → Prop} (h : tT K mg W F σ H Q) : tD K mg W F σ H (fun x H' => ∃ k, x = .bl k ∧ Q k H') := by
  obtain ⟨G, env, r, h⟩ := h
  refine ⟨G, env, r, ?_⟩
  cases e : F env with
  | stk => rw [e] at h; exact h
  | err c e' => rw [e] at h; exact h
  | ok vl env' =>
    rw [e] at h
    cases vl with
    | im d =>
      cases d with
      | bl b => exact fun v H' G' s hv => ⟨b, hv, h H' G' s⟩
      | _ => exact h.elim
    | _ => exact h.elim
@[simp] def andF (Fa Fb : Fx)  (env : List Sl) : Rs := bindR (Fa env) fun v e => match v with
  | .im (.bl true) => Fb e
  | .im (.bl false) => .ok (.im (.bl false)) e
  | _ => .stk
@[simp] def orF (Fa Fb : Fx)  (env : List Sl) : Rs := bindR (Fa env) fun v e => match v with
  | .im (.bl false) => Fb e
  | .im (.bl true) => .ok (.im (.bl true)) e
  | _ => .stk
@[simp] def notF (Fa : Fx)  (env : List Sl) : Rs := bindR (Fa env) fun v e => match v with
  | .im (.bl b) => .ok (.im (.bl (!b))) e
  | _ => .stk
@[simp] def iteF (Fc Fa Fb : Fx)  (env : List Sl) : Rs := bindR (Fc env) fun v e => match v with
  | .im (.bl true) => Fa e
  | .im (.bl false) => Fb e
  | _ => .stk
section
variable {K : PySem.W.Frag} {mg : Str → Option Value} {W : WX} {σ : L2.St} {H G H1 G1 : Hp} {env env1 : List Sl}
theorem PostT.shift {Q : Bool → Hp → Prop} (s : Stp K σ H G env H1 G1 env1) (r : ER K H G σ env) : ∀ {R : Rs}, PostT K mg W σ H G env Q R → PostT K mg W σ H1 G1 env1 Q R
  | .ok (.im (.bl b)) env', h => fun H' G' s' => h H' G' (s.trans s' r)
  | .ok (.im .non) env', h => h
  | .ok (.im (.int _)) env', h => h
  | .ok (.im (.str _)) env', h => h
  | .ok (.im (.tup _)) env', h => h
  | .ok (.im (.lst _)) env', h => h
  | .ok (.im (.dct _ _)) env', h => h
  | .ok (.im (.scr _)) env', h => h
  | .ok (.im (.ty _)) env', h => h
  | .ok (.fr _) env', h => h
  | .ok (.bo _) env', h => h
  | .err c (some e), h => fun C H' m ⟨G', s'⟩ => h C H' m ⟨G', s.trans s' r⟩
  | .err c none, h => fun C H' m k => h C H' m fun b o e nm => k b o (s.keep b o e nm) fun z => nm (z.of s.kin)
  | .stk, h => h
/-- a test first -/
theorem tT_bind {F : Fx} {k : Bool → Hp → Prop} {P : Rs → Prop} {f : Bool → List Sl → Rs} (r : ER K H G σ env)
    (hb : ∀ b e, F env = .ok (.im (.bl b)) e → P (f b e)) (he : ∀ c e, F env = .err c e → PostT K mg W σ H G env k (.err c e)) (hs : ∀ vl e, F env = .ok vl e → (∀ b, vl ≠ .im (.bl b)) → False) (h0 : F env ≠ .stk)
    (st : ∀ b env1 H1 G1, Stp K σ H G env H1 G1 env1 → P (f b env1) → k b H1) : tT K mg W F σ H k := by
  refine ⟨G, env, r, ?_⟩
  cases e : F env with
  | stk => exact absurd e h0
  | err c e' => exact he c e' e
  | ok vl env' =>
    cases vl with
    | im d =>
      cases d with
      | bl b => exact fun H1 G1 s => st b env' H1 G1 s (hb b env' e)
      | _ => exact (hs _ _ e (fun b z => nomatch z)).elim
    | _ => exact (hs _ _ e (fun b z => nomatch z)).elim
/-- the same, of a result that is to be reached by the test's branches -/
theorem tT_then {F : Fx} {k : Bool → Hp → Prop} {Q : VK} {A B : List Sl → Rs} (r : ER K H G σ env)
    (h : PostR K mg W σ H G env Q (bindR (F env) fun v e => match v with
      | .im (.bl true) => A e
      | .im (.bl false) => B e
      | _ => .stk))
    (st : ∀ b env1 H1 G1, Stp K σ H G env H1 G1 env1 → PostR K mg W σ H1 G1 env1 Q (if b then A env1 else B env1) → k b H1) : tT K mg W F σ H k := by
  refine ⟨G, env, r, ?_⟩
  cases e : F env with
  | stk => rw [e] at h; exact h
  | err c e' => rw [e] at h; exact h
  | ok vl env' =>
    rw [e] at h
    cases vl with
    | im d =>
      cases d with
      | bl b =>
        intro H1 G1 s
        refine st b env' H1 G1 s ?_
        cases b <;> exact PostR.shift s r h
      | _ => exact h.elim
    | _ => exact h.elim
theorem tT_thenT {F : Fx} {k : Bool → Hp → Prop} {Q : Bool → Hp → Prop} {A B : List Sl → Rs} (r : ER K H G σ env)
    (h : PostT K mg W σ H G env Q (bindR (F env) fun v e => match v with
      | .im (.bl true) => A e
      | .im (.bl false) => B e
      | _ => .stk))
    (st : ∀ b env1 H1 G1, Stp K σ H G env H1 G1 env1 → PostT K mg W σ H1 G1 env1 Q (if b then A env1 else B env1) → k b H1) : tT K mg W F σ H k := by
  refine ⟨G, env, r, ?_⟩
  cases e : F env with
  | stk => rw [e] at h; exact h
  | err c e' => rw [e] at h; exact h
  | ok vl env' =>
    rw [e] at h
    cases vl with
    | im d =>
      cases d with
      | bl b =>
        intro H1 G1 s
        refine st b env' H1 G1 s ?_
        cases b <;> exact PostT.shift s r h
      | _ => exact h.elim
    | _ => exact h.elim
end
def TWX (X : Cx) (W : WX) (e : Expr) (F : Fx) : Prop := PW X e (tT X.K X.mg W F)
section
variable {X : Cx} {W : WX} {a b : Expr} {rest : List Expr} {Fa Fb Fc : Fx} {pos : Pos}
theorem orF_swap : ∀ env, orF Fa Fb env = bindR (Fa env) fun v e => match v with
      | .im (.bl true) => .ok (.im (.bl true)) e
      | .im (.bl false) => Fb e
      | _ => .stk := by
  intro env
  unfold orF
  congr 1
  funext v e
  cases v with
  | im d =>
    cases d with
    | bl b => cases b <;> rfl
    | _ => rfl
  | _ => rfl
/-- a comparison, as a test -/
theorem tx_cmp {op : CmpOp} {g : D → D → Gr} {r : R2} (ho : OpR X (compareOp op) r) (hs : OpSound X.K g r) (ha : EX X W a Fa) (hb : EX X W b Fb) (hm : behindInMarks op b = false) : TX X W (.Compare a [op] [b] pos) (op2F g Fa Fb) :=
  PT.weak (pt_cmpR ho ha hb hm) fun σ H Q h => tOp_of hs σ H _ (tT_tD h)
/-- any expression that is True or False -/
theorem tx_val (h : EX X W a Fa) (he : ∀ whole, isTrue a X.env whole = (do let v ← whole; standAt a.pos; holding [v] (truthy v)) := by intro _; rfl) : TX X W a Fa :=
  PT.weak (pt_val h he) fun σ H Q h => tT_tD h
theorem tx_not (h : TX X W a Fa) : TX X W (.UnaryOp .Not a pos) (notF Fa) := by
  refine PT.weak (pt_not h) fun σ H Q ⟨G, env, r, h⟩ => ?_
  refine ⟨G, env, r, ?_⟩
  unfold notF at h
  cases e : Fa env with
  | stk => rw [e] at h; exact h
  | err c e' => rw [e] at h; exact h
  | ok vl env' =>
    rw [e] at h
    cases vl with
    | im d =>
      cases d with
      | bl b => exact h
      | _ => exact h.elim
    | _ => exact h.elim
theorem tw_and1 {a : Expr} (h : TX X W a Fa) : TWX X W (.BoolOp .And [a] pos) Fa := pw_and1 h
theorem tw_or1 {a : Expr} (h : TX X W a Fa) : TWX X W (.BoolOp .Or [a] pos) Fa := pw_or1 h
theorem tw_and (ha : TX X W a Fa) (hb : TWX X W (.BoolOp .And (b :: rest) pos) Fb) : TWX X W (.BoolOp .And (a :: b :: rest) pos) (andF Fa Fb) := by
  refine PW.weak (pw_and ha hb) fun σ H Q ⟨G, env, r, h⟩ => ?_
  refine tT_thenT r h fun b env1 H1 G1 s p => ?_
  cases b with
  | true => exact L2.iteT ⟨G1, env1, s.er, p⟩
  | false => exact L2.iteF (p H1 G1 (Stp.refl s.er))
theorem tw_or (ha : TX X W a Fa) (hb : TWX X W (.BoolOp .Or (b :: rest) pos) Fb) : TWX X W (.BoolOp .Or (a :: b :: rest) pos) (orF Fa Fb) := by
  refine PW.weak (pw_or ha hb) fun σ H Q ⟨G, env, r, h⟩ => ?_
  rw [orF_swap] at h
  refine tT_thenT r h fun b env1 H1 G1 s p => ?_
  cases b with
  | true => exact L2.iteT (p H1 G1 (Stp.refl s.er))
  | false => exact L2.iteF ⟨G1, env1, s.er, p⟩
theorem tx_w (h : TWX X W a Fa) : TX X W a Fa := h.pt
/-! values -/
theorem ex_one {op : BoolOp} (h : EX X W a Fa) : EX X W (.BoolOp op [a] pos) Fa := pe_one h
theorem ex_and (ha : EX X W a Fa) (hb : EX X W (.BoolOp .And (b :: rest) pos) Fb) : EX X W (.BoolOp .And (a :: b :: rest) pos) (andF Fa Fb) := by
  refine PE.weak (pe_and ha hb) fun σ H Q ⟨G, env, r, h⟩ => ?_
  refine tT_tD (tT_then (k := fun c H1 => if c = true then tD X.K X.mg W Fb σ H1 Q else Q (.bl false) H1) r h fun b env1 H1 G1 s p => ?_)
  cases b with
  | true => exact L2.iteT ⟨G1, env1, s.er, p⟩
  | false => exact L2.iteF (p _ H1 G1 (Stp.refl s.er) rfl)
theorem ex_or (ha : EX X W a Fa) (hb : EX X W (.BoolOp .Or (b :: rest) pos) Fb) : EX X W (.BoolOp .Or (a :: b :: rest) pos) (orF Fa Fb) := by
  refine PE.weak (pe_or ha hb) fun σ H Q ⟨G, env, r, h⟩ => ?_
  rw [orF_swap] at h
  refine tT_tD (tT_then (k := fun c H1 => if c = true then Q (.bl true) H1 else tD X.K X.mg W Fb σ H1 Q) r h fun b env1 H1 G1 s p => ?_)
  cases b with
  | true => exact L2.iteT (p _ H1 G1 (Stp.refl s.er) rfl)
  | false => exact L2.iteF ⟨G1, env1, s.er, p⟩
theorem ex_not (h : EX X W a Fa) : EX X W (.UnaryOp .Not a pos) (notF Fa) := by
  refine PE.weak (pe_not h) fun σ H Q ⟨G, env, r, h⟩ => ?_
  refine ⟨G, env, r, ?_⟩
  unfold notF at h
  cases e : Fa env with
  | stk => rw [e] at h; exact h
  | err c e' => rw [e] at h; exact h
  | ok vl env' =>
    rw [e] at h
    cases vl with
    | im d =>
      cases d with
      | bl b => exact fun v H' G' s hv => ⟨b, hv, h _ H' G' s rfl⟩
      | _ => exact h.elim
    | _ => exact h.elim
theorem ex_ifx {c : Expr} (hc : TX X W c Fc) (ha : EX X W a Fa) (hb : EX X W b Fb) : EX X W (.IfExp c a b pos) (iteF Fc Fa Fb) := by
  refine PE.weak (pe_ifExp hc ha hb) fun σ H Q ⟨G, env, r, h⟩ => ?_
  refine tT_then r h fun b env1 H1 G1 s p => ?_
  cases b with
  | true => exact L2.iteT ⟨G1, env1, s.er, p⟩
  | false => exact L2.iteF ⟨G1, env1, s.er, p⟩
end
end HF

set_option Elab.async false
set_option linter.all false
set_option maxRecDepth 100000
set_option maxHeartbeats 4000000
set_option autoImplicit false
namespace HF
open PySem PySem.Spec PyProof.Rows L2
/-! ### statements -/
inductive Out where
  | nx (env : List Sl)
  | rt (v : Vl) (env : List Sl)
  | bk (env : List Sl)
  | ct (env : List Sl)
  | err (c : Str) (env : Option (List Sl))
  | stk
abbrev Sx := List Sl → Out
structure SR (K : PySem.W.Frag) (H0 G0 : Hp) (pa : Nat → Option Addr) (H G : Hp) (σ : L2.St) (env : List Sl) : Prop where
  er : ER K H G σ env
  gr : Same G0 G
  old : ∀ b, H0 b ≠ none → G0 b = none → G b = none
  keep : ∀ b o, H0 b = some o → (∀ j, pa j ≠ some b) → H b = some o
  own : ∀ (i : Nat) (d : D) (p : Addr), env[i]? = some (.own d) → σ[i]? = some (some (.ref p)) → H0 p = none
  io : ∀ j p, pa j = some p → σ[j]? = some (some (.ref p)) ∧ ∃ d, env[j]? = some (.io d)
  iof : ∀ (j : Nat) (d : D), env[j]? = some (.io d) → ∃ p, pa j = some p
section
variable {K : PySem.W.Frag} {mg : Str → Option Value} {W : WX} {H0 G0 H G H1 G1 : Hp} {pa : Nat → Option Addr} {σ : L2.St} {env env1 : List Sl}
theorem SR.notMu (r : SR K H0 G0 pa H G σ env) {b : Addr} {o : HO} (h : H0 b = some o) (n : ∀ j, pa j ≠ some b) : ¬ MuIs σ env b := fun ⟨i, s, d, e1, e2, e3⟩ => by
  cases s with
  | own d' => have := r.own i d' b e1 e3; rw [h] at this; cases this
  | io d' =>
    obtain ⟨p, hp⟩ := r.iof i d' e1
    have := (r.io i p hp).1
    rw [e3] at this
    cases this
    exact n i hp
  | _ => cases e2
theorem SR.step (r : SR K H0 G0 pa H G σ env) (s : Stp K σ H G env H1 G1 env1) : SR K H0 G0 pa H1 G1 σ env1 where
  er := s.er
  gr := r.gr.trans s.gr
  old := fun b hb hg => by
    cases e : H b with
    | some o => exact s.old b (by rw [e]; exact fun z => nomatch z) (r.old b hb hg)
    | none =>
      -- it stood at H0, so it stands
      cases e0 : H0 b with
      | none => exact absurd e0 hb
      | some o =>
        by_cases n : ∀ j, pa j ≠ some b
        · rw [r.keep b o e0 n] at e; cases e
        · have : ∃ j, pa j = some b := by
            apply Classical.byContradiction
            intro z
            exact n fun j hj => z ⟨j, hj⟩
          obtain ⟨j, hj⟩ := this
          obtain ⟨q1, d, q2⟩ := r.io j b hj
          obtain ⟨p, w1, _, w3⟩ := r.er.mu j _ d q2 rfl
          rw [q1] at w1
          cases w1
          exact absurd e w3.there
  keep := fun b o e n => s.keep b o (r.keep b o e n) (r.notMu e n)
  own := fun i d p e1 e2 => by
    have k := s.kin i
    rw [e1] at k
    cases e : env[i]? with
    | none => rw [e] at k; cases (show some (Sl.own d) = none from k)
    | some t =>
      rw [e] at k
      cases t with
      | own d' => exact r.own i d' p e e2
      | io d' => obtain ⟨_, z⟩ := (show ∃ x, some (Sl.own d) = some (.io x) from k); cases z
      | non => cases (show some (Sl.own d) = some .non from k)
      | val d' => cases (show some (Sl.own d) = some (.val d') from k)
  io := fun j p hj => by
    obtain ⟨q1, d, q2⟩ := r.io j p hj
    have k := s.kin j
    rw [q2] at k
    exact ⟨q1, k⟩
  iof := fun j d e => by
    have k := s.kin j
    rw [e] at k
    cases e' : env[j]? with
    | none => rw [e'] at k; cases (show some (Sl.io d) = none from k)
    | some t =>
      rw [e'] at k
      cases t with
      | io d' => exact r.iof j d' e'
      | own d' => obtain ⟨_, z⟩ := (show ∃ x, some (Sl.io d) = some (.own x) from k); cases z
      | non => cases (show some (Sl.io d) = some .non from k)
      | val d' => cases (show some (Sl.io d) = some (.val d') from k)
theorem SR.free0 (r : SR K H0 G0 pa H G σ env) {p : Addr} (h : H p = none) : H0 p = none := by
  cases e0 : H0 p with
  | none => rfl
  | some o =>
    by_cases n : ∀ j, pa j ≠ some p
    · rw [r.keep p o e0 n] at h; cases h
    · have : ∃ j, pa j = some p := by
        apply Classical.byContradiction
        intro z
        exact n fun j hj => z ⟨j, hj⟩
      obtain ⟨j, hj⟩ := this
      obtain ⟨q1, d, q2⟩ := r.io j p hj
      obtain ⟨p', w1, _, w3⟩ := r.er.mu j _ d q2 rfl
      rw [q1] at w1
      cases w1
      exact absurd h w3.there
def SErr (K : PySem.W.Frag) (H0 G0 : Hp) (pa : Nat → Option Addr) (σ' : L2.St) (H' : Hp) : Option (List Sl) → Prop
  | some env' => ∃ G', SR K H0 G0 pa H' G' σ' env'
  | none => ∀ b o, H0 b = some o → (∀ j, pa j ≠ some b) → H' b = some o
def RvAt (K : PySem.W.Frag) (H0 H G : Hp) : Vl → V → Prop
  | .im d, v => Rp K G d v
  | .fr d, v => ∃ p, v = .ref p ∧ H0 p = none ∧ G p = none ∧ MuAt K H G d p
  | .bo _, _ => False
def PostS (K : PySem.W.Frag) (mg : Str → Option Value) (W : WX) (H0 G0 : Hp) (pa : Nat → Option Addr) (D : Ends) : Out → Prop
  | .nx env' => ∀ σ' H' G', SR K H0 G0 pa H' G' σ' env' → D.nx σ' H'
  | .rt vl env' => ∀ v σ' H' G', SR K H0 G0 pa H' G' σ' env' → RvAt K H0 H' G' vl v → D.rt v H'
  | .bk env' => ∀ σ' H' G', SR K H0 G0 pa H' G' σ' env' → D.bk σ' H'
  | .ct env' => ∀ σ' H' G', SR K H0 G0 pa H' G' σ' env' → D.ct σ' H'
  | .err c e => ∀ C σ' H', mg c = some (.ref C) → SErr K H0 G0 pa σ' H' e → W (.ref C) none σ' H'
  | .stk => False
def tS (K : PySem.W.Frag) (mg : Str → Option Value) (W : WX) (H0 G0 : Hp) (pa : Nat → Option Addr) (S : Sx) : TS := fun D σ H => ∃ G env, SR K H0 G0 pa H G σ env ∧ PostS K mg W H0 G0 pa D (S env)
/-- an expression within a statement -/
theorem SR.bind {F : Fx} {D : Ends} {k : VK} {f : Vl → List Sl → Out} (r : SR K H0 G0 pa H G σ env)
    (h : PostS K mg W H0 G0 pa D (match F env with
      | .ok v e => f v e
      | .err c e => .err c e
      | .stk => .stk))
    (st : ∀ vl env1 v H1 G1, F env = .ok vl env1 → Stp K σ H G env H1 G1 env1 → VlAt K H H1 G1 σ env1 vl v → SR K H0 G0 pa H1 G1 σ env1 → PostS K mg W H0 G0 pa D (f vl env1) → k v H1) : tD K mg W F σ H k := by
  refine ⟨G, env, r.er, ?_⟩
  cases e : F env with
  | stk => rw [e] at h; exact h
  | ok vl env1 =>
    rw [e] at h
    exact fun v H1 G1 s v1 => st vl env1 v H1 G1 e s v1 (r.step s) h
  | err c e' =>
    rw [e] at h
    intro C H' m ea
    refine h C σ H' m ?_
    cases e' with
    | some e' => obtain ⟨G', s⟩ := ea; exact ⟨G', r.step s⟩
    | none => exact fun b o q n => ea b o (r.keep b o q n) (r.notMu q n)
/-- a slot is given a new value -/
theorem SR.set {i : Nat} {s : Sl} {d : D} {v : V} (r : SR K H0 G0 pa H G σ env) (hi : env[i]? = some s) (hn : ∀ d, s ≠ .io d) (hv : Rp K G d v) : SR K H0 G0 pa H G (σ.set i (some v)) (env.set i (.val d)) := by
  obtain ⟨hl, _⟩ := List.getElem?_eq_some_iff.mp hi
  have hl' : i < σ.length := by rw [r.er.len]; exact hl
  have ne : ∀ j, i ≠ j → (σ.set i (some v))[j]? = σ[j]? ∧ (env.set i (.val d))[j]? = env[j]? := fun j h => ⟨List.getElem?_set_ne h, List.getElem?_set_ne h⟩
  have eqi : (env.set i (.val d))[i]? = some (.val d) := List.getElem?_set_self hl
  have eqs : (σ.set i (some v))[i]? = some (some v) := List.getElem?_set_self hl'
  refine ⟨⟨by rw [List.length_set, List.length_set]; exact r.er.len, r.er.sub, fun j e hj => ?_, fun j t e h1 h2 => ?_, fun j k t u e f p h1 h2 h3 h4 h5 h6 => ?_⟩, r.gr, r.old, r.keep, fun j e p h1 h2 => ?_, fun j p hj => ?_, fun j e h1 => ?_⟩
  · by_cases z : i = j
    · subst z
      rw [eqi] at hj
      cases hj
      exact ⟨v, eqs, hv⟩
    · rw [(ne j z).2] at hj
      rw [(ne j z).1]
      exact r.er.val j e hj
  · by_cases z : i = j
    · subst z
      rw [eqi] at h1
      cases h1
      cases h2
    · rw [(ne j z).2] at h1
      rw [(ne j z).1]
      exact r.er.mu j t e h1 h2
  · have z1 : i ≠ j := fun z => by subst z; rw [eqi] at h1; cases h1; cases h2
    have z2 : i ≠ k := fun z => by subst z; rw [eqi] at h3; cases h3; cases h4
    rw [(ne j z1).2] at h1
    rw [(ne j z1).1] at h5
    rw [(ne k z2).2] at h3
    rw [(ne k z2).1] at h6
    exact r.er.sep j k t u e f p h1 h2 h3 h4 h5 h6
  · have z1 : i ≠ j := fun z => by subst z; rw [eqi] at h1; cases h1
    rw [(ne j z1).2] at h1
    rw [(ne j z1).1] at h2
    exact r.own j e p h1 h2
  · obtain ⟨q1, e, q2⟩ := r.io j p hj
    have z1 : i ≠ j := fun z => by subst z; rw [hi] at q2; cases q2; exact hn e rfl
    rw [(ne j z1).2, (ne j z1).1]
    exact ⟨q1, e, q2⟩
  · have z1 : i ≠ j := fun z => by subst z; rw [eqi] at h1; cases h1
    rw [(ne j z1).2] at h1
    exact r.iof j e h1
theorem SR.setOwn {i : Nat} {s : Sl} {d : D} {p : Addr} (r : SR K H0 G0 pa H G σ env) (hi : env[i]? = some s) (hn : ∀ d, s ≠ .io d) (hp0 : H0 p = none) (hpm : ¬ MuIs σ env p) (hg : G p = none) (hm : MuAt K H G d p) : SR K H0 G0 pa H G (σ.set i (some (.ref p))) (env.set i (.own d)) := by
  obtain ⟨hl, _⟩ := List.getElem?_eq_some_iff.mp hi
  have hl' : i < σ.length := by rw [r.er.len]; exact hl
  have ne : ∀ j, i ≠ j → (σ.set i (some (.ref p)))[j]? = σ[j]? ∧ (env.set i (.own d))[j]? = env[j]? := fun j h => ⟨List.getElem?_set_ne h, List.getElem?_set_ne h⟩
  have eqi : (env.set i (.own d))[i]? = some (.own d) := List.getElem?_set_self hl
  have eqs : (σ.set i (some (.ref p)))[i]? = some (some (.ref p)) := List.getElem?_set_self hl'
  refine ⟨⟨by rw [List.length_set, List.length_set]; exact r.er.len, r.er.sub, fun j e hj => ?_, fun j t e h1 h2 => ?_, fun j k t u e f q h1 h2 h3 h4 h5 h6 => ?_⟩, r.gr, r.old, r.keep, fun j e q h1 h2 => ?_, fun j q hj => ?_, fun j e h1 => ?_⟩
  · have z1 : i ≠ j := fun z => by subst z; rw [eqi] at hj; cases hj
    rw [(ne j z1).2] at hj
    rw [(ne j z1).1]
    exact r.er.val j e hj
  · by_cases z : i = j
    · subst z
      rw [eqi] at h1
      cases h1
      cases h2
      exact ⟨p, eqs, hg, hm⟩
    · rw [(ne j z).2] at h1
      rw [(ne j z).1]
      exact r.er.mu j t e h1 h2
  · by_cases z1 : i = j
    · by_cases z2 : i = k
      · rw [← z1, ← z2]
      · subst z1
        rw [eqs] at h5
        cases h5
        rw [(ne k z2).2] at h3
        rw [(ne k z2).1] at h6
        exact (hpm ⟨k, u, f, h3, h4, h6⟩).elim
    · by_cases z2 : i = k
      · subst z2
        rw [eqs] at h6
        cases h6
        rw [(ne j z1).2] at h1
        rw [(ne j z1).1] at h5
        exact (hpm ⟨j, t, e, h1, h2, h5⟩).elim
      · rw [(ne j z1).2] at h1
        rw [(ne j z1).1] at h5
        rw [(ne k z2).2] at h3
        rw [(ne k z2).1] at h6
        exact r.er.sep j k t u e f q h1 h2 h3 h4 h5 h6
  · by_cases z : i = j
    · subst z
      rw [eqs] at h2
      cases h2
      exact hp0
    · rw [(ne j z).2] at h1
      rw [(ne j z).1] at h2
      exact r.own j e q h1 h2
  · obtain ⟨q1, e, q2⟩ := r.io j q hj
    have z1 : i ≠ j := fun z => by subst z; rw [hi] at q2; cases q2; exact hn e rfl
    rw [(ne j z1).2, (ne j z1).1]
    exact ⟨q1, e, q2⟩
  · have z1 : i ≠ j := fun z => by subst z; rw [eqi] at h1; cases h1
    rw [(ne j z1).2] at h1
    exact r.iof j e h1
end
/-- what a name may hold from now on -/
@[simp] def Vl.st : Vl → Option Sl
  | .im d => some (.val d)
  | .fr d => some (.own d)
  | .bo _ => none
@[simp] def isIo : Option Sl → Bool
  | some (.io _) => true
  | none => true
  | _ => false
@[simp] def setE (i : Nat) (vl : Vl) (e : List Sl) : Option (List Sl) := match vl.st with
  | some s => if isIo e[i]? then none else some (e.set i s)
  | none => none
@[simp] def asgS (i : Nat) (F : Fx)  (env : List Sl) : Out := match F env with
  | .ok v e => (match setE i v e with
    | some e' => .nx e'
    | none => .stk)
  | .err c e => .err c e
  | .stk => .stk
@[simp] def exprS (F : Fx)  (env : List Sl) : Out := match F env with
  | .ok _ e => .nx e
  | .err c e => .err c e
  | .stk => .stk
@[simp] def retS (F : Fx)  (env : List Sl) : Out := match F env with
  | .ok (.bo i) e => (match e[i]? with
    | some (.own d) => .rt (.fr d) e
    | _ => .stk)
  | .ok v e => .rt v e
  | .err c e => .err c e
  | .stk => .stk
@[simp] def ifS (C : Fx) (S T : Sx)  (env : List Sl) : Out := match C env with
  | .ok (.im (.bl true)) e => S e
  | .ok (.im (.bl false)) e => T e
  | .err c e => .err c e
  | _ => .stk
@[simp] def seqS (S T : Sx)  (env : List Sl) : Out := match S env with
  | .nx e => T e
  | o => o
@[simp] def passS  (env : List Sl) : Out := .nx env
@[simp] def raiseS (c : Str)  (env : List Sl) : Out := .err c (some env)
theorem SR.setE {K : PySem.W.Frag} {H0 G0 H H1 G1 : Hp} {pa : Nat → Option Addr} {σ : L2.St} {env1 e' : List Sl} {i : Nat} {vl : Vl} {v : V} (r : SR K H0 G0 pa H1 G1 σ env1) (h : VlAt K H H1 G1 σ env1 vl v) (nm : ∀ p, H p = none → ¬ MuIs σ env1 p) (f0 : ∀ p, H p = none → H0 p = none) (e : setE i vl env1 = some e') : SR K H0 G0 pa H1 G1 (σ.set i (some v)) e' := by
  unfold HF.setE at e
  cases e1 : vl.st with
  | none => rw [e1] at e; cases e
  | some s =>
    rw [e1] at e
    simp only at e
    split at e
    · cases e
    · rename_i c
      cases e
      cases q : env1[i]? with
      | none => rw [q] at c; exact absurd rfl c
      | some t =>
        rw [q] at c
        have hn : ∀ d, t ≠ .io d := fun d z => by rw [z] at c; exact c rfl
        cases vl with
        | im d => cases e1; exact r.set q hn h
        | fr d =>
          cases e1
          obtain ⟨p, rfl, h1, h2, h3⟩ := h
          exact r.setOwn q hn (f0 p h1) (nm p h1) h2 h3
        | bo j => cases e1
section
variable {X : Cx} {W : WX} {H0 G0 : Hp} {pa : Nat → Option Addr}
abbrev ST (X : Cx) (W : WX) (st : Stmt) (S : Sx) : Prop := ∀ (H0 G0 : Hp) (pa : Nat → Option Addr), PS X st (tS X.K X.mg W H0 G0 pa S)
abbrev STs (X : Cx) (W : WX) (st : List Stmt) (S : Sx) : Prop := ∀ (H0 G0 : Hp) (pa : Nat → Option Addr), PSs X st (tS X.K X.mg W H0 G0 pa S)
theorem sts_nil : STs X W [] passS := fun H0 G0 pa => PSs.weak pss_nil fun D σ H ⟨G, env, r, h⟩ => h σ H G r
theorem tS_seq {K : PySem.W.Frag} {mg : Str → Option Value} {S T : Sx} {D : Ends} {σ : L2.St} {H : Hp} (h : tS K mg W H0 G0 pa (seqS S T) D σ H) : tSeq (tS K mg W H0 G0 pa S) (tS K mg W H0 G0 pa T) D σ H := by
  obtain ⟨G, env, r, h⟩ := h
  refine ⟨G, env, r, ?_⟩
  unfold seqS at h
  cases e : S env with
  | nx e1 => rw [e] at h; exact fun σ' H' G' r' => ⟨G', e1, r', h⟩
  | rt v e1 => rw [e] at h; exact h
  | bk e1 => rw [e] at h; exact h
  | ct e1 => rw [e] at h; exact h
  | err c e1 => rw [e] at h; exact h
  | stk => rw [e] at h; exact h
theorem sts_cons {st : Stmt} {rest : List Stmt} {S T : Sx} (h1 : ST X W st S) (h2 : STs X W rest T) : STs X W (st :: rest) (seqS S T) := fun H0 G0 pa => PSs.weak (pss_cons (h1 H0 G0 pa) (h2 H0 G0 pa)) fun D σ H h => tS_seq h
theorem sts_one {st : Stmt} {S : Sx} (h1 : ST X W st S) : STs X W [st] S := fun H0 G0 pa => pss_one (h1 H0 G0 pa)
theorem st_set {i : Nat} {x : Str} {e : Expr} {F : Fx} {pos pos' : Pos} (hN : X.N.Nodup) (he : EX X W e F) (hi : X.N[i]? = some x := by rfl) (hx : Loc X.env.scope x := by first | exact .inl rfl | exact .inr rfl) (hs : swapsWith e (some (.Name x pos')) pos.line X.env = pure false := by rfl) (hf : X.fn x = true ∨ X.env.scope.names.lookup x = some .local := by first | exact .inl rfl | exact .inr rfl) :
    ST X W (.Assign [.Name x pos'] e pos) (asgS i F) := by
  intro H0 G0 pa
  refine PS.weak (ps_set hN hi hx he hs hf) fun D σ H ⟨G, env, r, h⟩ => ?_
  refine SR.bind r h fun vl env1 v H1 G1 _ s v1 r1 p => ?_
  cases e1 : setE i vl env1 with
  | none => simp only [e1] at p; exact p.elim
  | some e' =>
    simp only [e1] at p
    exact p _ _ _ (r1.setE v1 (fun p hp m => (MuIs.new r.er hp) (m.of s.kin)) (fun p hp => r.free0 hp) e1)
theorem st_expr {e : Expr} {F : Fx} {pos : Pos} (he : EX X W e F) (hs : swapsWith e none pos.line X.env = pure false := by rfl) : ST X W (.Expr e pos) (exprS F) :=
  fun H0 G0 pa => PS.weak (ps_expr he hs) fun D σ H ⟨G, env, r, h⟩ => SR.bind r h fun vl env1 v H1 G1 _ s v1 r1 p => p _ _ _ r1
theorem st_doc {x j pos pos'} : ST X W (.Expr (.Constant (.str x) j pos) pos') passS := fun H0 G0 pa => PS.weak ps_doc fun D σ H ⟨G, env, r, h⟩ => h σ H G r
theorem st_pass {pos} : ST X W (.Pass pos) passS := fun H0 G0 pa => PS.weak ps_pass fun D σ H ⟨G, env, r, h⟩ => h σ H G r
theorem st_ret {e : Expr} {F : Fx} {pos : Pos} (he : EX X W e F) : ST X W (.Return (some e) pos) (retS F) := by
  intro H0 G0 pa
  refine PS.weak (ps_ret he) fun D σ H ⟨G, env, r, h⟩ => ?_
  have h' : PostS X.K X.mg W H0 G0 pa D (match F env with
      | .ok v e => (match v with
        | .bo i => (match e[i]? with
          | some (.own d) => Out.rt (.fr d) e
          | _ => .stk)
        | v => .rt v e)
      | .err c e => .err c e
      | .stk => .stk) := by
    unfold retS at h
    cases e1 : F env with
    | ok v e => rw [e1] at h; cases v <;> exact h
    | err c e => rw [e1] at h; exact h
    | stk => rw [e1] at h; exact h
  refine SR.bind r h' fun vl env1 v H1 G1 _ s v1 r1 p => ?_
  cases vl with
  | im d => exact p v σ H1 G1 r1 v1
  | fr d =>
    obtain ⟨q, rfl, h1, h2, h3⟩ := v1
    exact p _ σ H1 G1 r1 ⟨q, rfl, r.free0 h1, h2, h3⟩
  | bo i =>
    obtain ⟨t, d, q, q1, q2, q3, rfl⟩ := v1
    simp only [q1] at p
    cases t with
    | own d' =>
      obtain ⟨q', w1, w2, w3⟩ := r1.er.mu i _ d' q1 rfl
      rw [q3] at w1
      cases w1
      exact p _ σ H1 G1 r1 ⟨q, rfl, r1.own i d' q q1 q3, w2, w3⟩
    | _ => exact p.elim
@[simp] def retNS  (env : List Sl) : Out := .rt (.im .non) env
theorem st_retN {pos : Pos} : ST X W (.Return none pos) retNS := fun H0 G0 pa => PS.weak ps_retN fun D σ H ⟨G, env, r, h⟩ => h .non σ H G r rfl
@[simp] def brkS  (env : List Sl) : Out := .bk env
@[simp] def cntS  (env : List Sl) : Out := .ct env
theorem st_brk {pos : Pos} : ST X W (.Break pos) brkS := fun H0 G0 pa => PS.weak ps_break fun D σ H ⟨G, env, r, h⟩ => h σ H G r
theorem st_cnt {pos : Pos} : ST X W (.Continue pos) cntS := fun H0 G0 pa => PS.weak ps_continue fun D σ H ⟨G, env, r, h⟩ => h σ H G r
theorem SR.test {K : PySem.W.Frag} {mg : Str → Option Value} {H G : Hp} {σ : L2.St} {env : List Sl} {F : Fx} {D : Ends} {k : Bool → Hp → Prop} {A B : Sx} (r : SR K H0 G0 pa H G σ env) (h : PostS K mg W H0 G0 pa D (ifS F A B env))
    (st : ∀ b env1 H1 G1, SR K H0 G0 pa H1 G1 σ env1 → PostS K mg W H0 G0 pa D (if b then A env1 else B env1) → k b H1) : tT K mg W F σ H k := by
  refine ⟨G, env, r.er, ?_⟩
  unfold ifS at h
  cases e : F env with
  | stk => rw [e] at h; exact h
  | ok vl env1 =>
    rw [e] at h
    cases vl with
    | im d =>
      cases d with
      | bl b =>
        intro H1 G1 s
        refine st b env1 H1 G1 (r.step s) ?_
        cases b <;> exact h
      | _ => exact h.elim
    | _ => exact h.elim
  | err c e' =>
    rw [e] at h
    intro C H' m ea
    refine h C σ H' m ?_
    cases e' with
    | some e' => obtain ⟨G', s⟩ := ea; exact ⟨G', r.step s⟩
    | none => exact fun b o q n => ea b o (r.keep b o q n) (r.notMu q n)
theorem st_if {c : Expr} {a b : List Stmt} {C : Fx} {S T : Sx} {pos : Pos} (hc : TX X W c C) (ha : STs X W a S) (hb : STs X W b T) : ST X W (.If c a b pos) (ifS C S T) := by
  intro H0 G0 pa
  refine PS.weak (ps_if hc (ha H0 G0 pa) (hb H0 G0 pa)) fun D σ H ⟨G, env, r, h⟩ => ?_
  refine SR.test r h fun b env1 H1 G1 r1 p => ?_
  cases b with
  | true => exact L2.iteT ⟨G1, env1, r1, p⟩
  | false => exact L2.iteF ⟨G1, env1, r1, p⟩
/-- raise C('..') -/
theorem st_raise {x m : Str} {j : Nat} {p p2 pos pos2 : Pos} {C : Addr} {bmB : List Value} {B newId initId : String} (hc : X.calm = true) (tk : L2N.Takes X W) (F : ExcBaseFacts B newId initId bmB) (q : PySem.W.excIn X.K C bmB newId = true) (gC : X.mg x = some (.ref C)) (kC : PySem.W.keepIn X.K (.ref C) = true) (rs : Raises X (.ref C)) (hg : Gl X x := by rfl) (hdb : (x == ("__debug__" : Str)) = false := by decide) :
    ST X W (.Raise (some (.Call (.Name x p) [.Constant (.str m) j p2] [] pos)) none pos2) (raiseS x) :=
  fun H0 G0 pa => PS.weak (L2N.ps_raise hc tk (L2N.pmk_own F q gC kC rs hg hdb)) fun D σ H ⟨G, env, r, h⟩ => h C σ H gC ⟨G, r⟩
end
end HF

set_option Elab.async false
set_option linter.all false
set_option maxRecDepth 100000
set_option maxHeartbeats 4000000
set_option autoImplicit false
namespace HF
open PySem PySem.Spec PyProof.Rows L2
/-! ### functions -/
inductive Ar where
  | val (d : D)
  | io (d : D)
@[simp] def Ar.sl : Ar → Sl
  | .val d => .val d
  | .io d => .io d
def ArAt (K : PySem.W.Frag) (H G : Hp) : Ar → V → Prop
  | .val d, v => Rp K G d v
  | .io d, v => ∃ p, v = .ref p ∧ G p = none ∧ MuAt K H G d p
def ArsAt (K : PySem.W.Frag) (H G : Hp) : List Ar → List V → Prop
  | [], xs => xs = []
  | a :: as, xs => ∃ x r, xs = x :: r ∧ ArAt K H G a x ∧ ArsAt K H G as r
theorem ArsAt.length {K : PySem.W.Frag} {H G : Hp} : ∀ {as : List Ar} {vs : List V}, ArsAt K H G as vs → vs.length = as.length
  | [], vs, h => by rw [show vs = [] from h]; rfl
  | a :: as, vs, h => by
    obtain ⟨x, r, rfl, _, h2⟩ := h
    rw [List.length_cons, List.length_cons, ArsAt.length h2]
theorem ArsAt.get {K : PySem.W.Frag} {H G : Hp} : ∀ {as : List Ar} {vs : List V} {i : Nat} {a : Ar}, ArsAt K H G as vs → as[i]? = some a → ∃ v, vs[i]? = some v ∧ ArAt K H G a v
  | [], vs, i, a, h, e => by simp at e
  | b :: as, vs, 0, a, h, e => by
    obtain ⟨x, r, rfl, h1, _⟩ := h
    have : b = a := by simpa using e
    subst this
    exact ⟨x, rfl, h1⟩
  | b :: as, vs, i + 1, a, h, e => by
    obtain ⟨x, r, rfl, _, h2⟩ := h
    obtain ⟨y, e1, h3⟩ := ArsAt.get (i := i) (a := a) h2 (by simpa using e)
    exact ⟨y, by simpa using e1, h3⟩
theorem ArsAt.mk {K : PySem.W.Frag} {H G : Hp} : ∀ {as : List Ar} {vs : List V}, vs.length = as.length → (∀ (i : Nat) (a : Ar) (v : V), as[i]? = some a → vs[i]? = some v → ArAt K H G a v) → ArsAt K H G as vs
  | [], vs, l, h => List.eq_nil_of_length_eq_zero l
  | a :: as, [], l, h => by simp at l
  | a :: as, v :: vs, l, h => ⟨v, vs, rfl, h 0 a v rfl rfl, ArsAt.mk (by simpa using l) fun i b u e1 e2 => h (i + 1) b u (by simpa using e1) (by simpa using e2)⟩
def IoP (as : List Ar) (vs : List V) (p : Addr) : Prop := ∃ (j : Nat) (d : D), as[j]? = some (.io d) ∧ vs[j]? = some (.ref p)
inductive FR where
  | im (d : D) (as : List Ar)
  | fr (d : D) (as : List Ar)
  | err (c : Str)
  | stk
structure CStp (K : PySem.W.Frag) (as : List Ar) (vs : List V) (H G H' G' : Hp) (as' : List Ar) : Prop where
  gr : Same G G'
  gh : Same G' H'
  old : ∀ b, H b ≠ none → G b = none → G' b = none
  keep : ∀ b o, H b = some o → ¬ IoP as vs b → H' b = some o
  ars : ArsAt K H' G' as' vs
  kin : ∀ (j : Nat) (d : D), as[j]? = some (.io d) → ∃ d', as'[j]? = some (.io d')
def PostF (K : PySem.W.Frag) (mg : Str → Option Value) (as : List Ar) (vs : List V) (H G : Hp) (Q : VK) (E : XK) : FR → Prop
  | .im d as' => ∀ v H' G', CStp K as vs H G H' G' as' → Rp K G' d v → Q v H'
  | .fr d as' => ∀ p H' G', CStp K as vs H G H' G' as' → H p = none → G' p = none → MuAt K H' G' d p → Q (.ref p) H'
  | .err c => ∀ C H', mg c = some (.ref C) → (∀ b o, H b = some o → ¬ IoP as vs b → H' b = some o) → E (.ref C) none H'
  | .stk => False
structure ArsOk (K : PySem.W.Frag) (H G : Hp) (as : List Ar) (vs : List V) : Prop where
  sub : Same G H
  ars : ArsAt K H G as vs
  sep : ∀ (i j : Nat) (d e : D) (p : Addr), as[i]? = some (.io d) → as[j]? = some (.io e) → vs[i]? = some (.ref p) → vs[j]? = some (.ref p) → i = j
/-- the promise of a function on data -/
def spD (K : PySem.W.Frag) (mg : Str → Option Value) (n : Nat) (Φ : List Ar → FR) : Sp := fun vs H Q E => ∃ G as, as.length = n ∧ ArsOk K H G as vs ∧ PostF K mg as vs H G Q E (Φ as)
@[simp] def backA : List Ar → List Sl → List Ar
  | [], _ => []
  | .val d :: r, e => .val d :: backA r e.tail
  | .io d :: r, e => (match e.head? with
    | some (.io d') => .io d'
    | _ => .io d) :: backA r e.tail
@[simp] def startE (n : Nat) (as : List Ar) : List Sl := as.map Ar.sl ++ List.replicate (n - as.length) .non
@[simp] def outF (as : List Ar) : Out → FR
  | .nx e => .im .non (backA as e)
  | .rt (.im d) e => .im d (backA as e)
  | .rt (.fr d) e => .fr d (backA as e)
  | .err c _ => .err c
  | _ => .stk
/-- what the function with the body S tells: n names in all -/
@[simp] def runF (n : Nat) (S : Sx) (as : List Ar) : FR := outF as (S (startE n as))
def paOf (as : List Ar) (vs : List V) (j : Nat) : Option Addr := match as[j]?, vs[j]? with
  | some (.io _), some (.ref p) => some p
  | _, _ => none
theorem paOf_io {as : List Ar} {vs : List V} {j : Nat} {p : Addr} : paOf as vs j = some p ↔ ∃ d, as[j]? = some (.io d) ∧ vs[j]? = some (.ref p) := by
  unfold paOf
  constructor
  · intro h
    split at h
    · rename_i d p' e1 e2
      cases h
      exact ⟨d, e1, e2⟩
    · cases h
  · rintro ⟨d, e1, e2⟩
    rw [e1, e2]
theorem getElem_start {n : Nat} {as : List Ar} {i : Nat} {s : Sl} (h : (startE n as)[i]? = some s) (hs : ∀ (z : s = .non), False) : ∃ a, as[i]? = some a ∧ s = a.sl := by
  unfold startE at h
  by_cases hi : i < as.length
  · rw [List.getElem?_append_left (by simpa using hi), List.getElem?_map] at h
    cases e : as[i]? with
    | none => rw [e] at h; cases h
    | some a => rw [e] at h; exact ⟨a, rfl, (Option.some.inj h).symm⟩
  · rw [List.getElem?_append_right (by simpa using hi)] at h
    have := List.mem_of_getElem? h
    exact (hs (List.eq_of_mem_replicate this)).elim
theorem getElem_startV {N : List Str} {vs : List V} {i : Nat} {v : V} (h : vs[i]? = some v) : (L2.start N vs)[i]? = some (some v) := by
  unfold L2.start
  obtain ⟨hi, _⟩ := List.getElem?_eq_some_iff.mp h
  rw [List.getElem?_append_left (by simpa using hi), List.getElem?_map, h]
  rfl
section
variable {K : PySem.W.Frag} {mg : Str → Option Value}
theorem SR.begin {H G : Hp} {as : List Ar} {vs : List V} {N : List Str} (o : ArsOk K H G as vs) (hn : as.length ≤ N.length) : SR K H G (paOf as vs) H G (L2.start N vs) (startE N.length as) := by
  have hl := o.ars.length
  have sv : ∀ (i : Nat) (a : Ar), as[i]? = some a → ∃ v, (L2.start N vs)[i]? = some (some v) ∧ vs[i]? = some v ∧ ArAt K H G a v := fun i a e => by
    obtain ⟨v, e1, e2⟩ := o.ars.get e
    exact ⟨v, getElem_startV e1, e1, e2⟩
  have at_ : ∀ (i : Nat) (a : Ar), as[i]? = some a → (startE N.length as)[i]? = some a.sl := fun i a e => by
    unfold startE
    obtain ⟨hi, _⟩ := List.getElem?_eq_some_iff.mp e
    rw [List.getElem?_append_left (by simpa using hi), List.getElem?_map, e]
    rfl
  have muA : ∀ {i : Nat} {s : Sl} {d : D}, (startE N.length as)[i]? = some s → s.mu = some d → as[i]? = some (.io d) := fun {i s d} e1 e2 => by
    obtain ⟨a, q1, q2⟩ := getElem_start e1 (fun z => by rw [z] at e2; cases e2)
    cases a with
    | val d' => rw [q2] at e2; cases e2
    | io d' => rw [q2] at e2; cases e2; exact q1
  refine ⟨⟨by unfold L2.start startE; simp only [List.length_append, List.length_map, List.length_replicate]; omega, o.sub, fun i d e => ?_, fun i s d e1 e2 => ?_, fun i j s t d e p h1 h2 h3 h4 h5 h6 => ?_⟩, Same.refl _, fun _ _ h => h, fun _ _ h _ => h, fun i d p e1 e2 => ?_, fun j p hj => ?_, fun j d e => ?_⟩
  · obtain ⟨a, q1, q2⟩ := getElem_start e (fun z => nomatch z)
    cases a with
    | val d' =>
      cases q2
      obtain ⟨v, w1, w2, w3⟩ := sv i _ q1
      exact ⟨v, w1, w3⟩
    | io d' => cases q2
  · obtain ⟨v, w1, w2, p, rfl, w3, w4⟩ := sv i _ (muA e1 e2)
    exact ⟨p, w1, w3, w4⟩
  · obtain ⟨v, w1, w2, _⟩ := sv i _ (muA h1 h2)
    obtain ⟨u, z1, z2, _⟩ := sv j _ (muA h3 h4)
    rw [w1] at h5
    rw [z1] at h6
    cases h5
    cases h6
    exact o.sep i j d e p (muA h1 h2) (muA h3 h4) w2 z2
  · obtain ⟨a, q1, q2⟩ := getElem_start e1 (fun z => nomatch z)
    cases a <;> cases q2
  · obtain ⟨d, e1, e2⟩ := paOf_io.mp hj
    exact ⟨getElem_startV e2, d, at_ j _ e1⟩
  · obtain ⟨v, w1, w2, p, rfl, w3, w4⟩ := sv j _ (muA e rfl)
    exact ⟨p, paOf_io.mpr ⟨d, muA e rfl, w2⟩⟩
theorem backA_get : ∀ {as : List Ar} {e : List Sl} {i : Nat} {a : Ar}, (backA as e)[i]? = some a → ∃ b, as[i]? = some b ∧ match b with
    | .val d => a = .val d
    | .io d => (∃ d', e[i]? = some (.io d') ∧ a = .io d') ∨ ((∀ d', e[i]? ≠ some (.io d')) ∧ a = .io d)
  | [], e, i, a, h => by simp [backA] at h
  | .val d :: r, e, 0, a, h => by
    have : Ar.val d = a := by simpa [backA] using h
    exact ⟨.val d, rfl, this.symm⟩
  | .io d :: r, e, 0, a, h => by
    refine ⟨.io d, rfl, ?_⟩
    cases e with
    | nil =>
      right
      have : Ar.io d = a := by simpa [backA] using h
      exact ⟨fun d' => by simp, this.symm⟩
    | cons s t =>
      cases s with
      | io d' =>
        left
        have : Ar.io d' = a := by simpa [backA] using h
        exact ⟨d', rfl, this.symm⟩
      | _ =>
        right
        have : Ar.io d = a := by simpa [backA] using h
        exact ⟨fun d' => by simp, this.symm⟩
  | .val d :: r, e, i + 1, a, h => by
    have h' : (backA r e.tail)[i]? = some a := by simpa [backA] using h
    obtain ⟨b, q1, q2⟩ := backA_get h'
    refine ⟨b, by simpa using q1, ?_⟩
    have ee : e.tail[i]? = e[i + 1]? := by cases e <;> simp
    rw [ee] at q2
    exact q2
  | .io d :: r, e, i + 1, a, h => by
    have h' : (backA r e.tail)[i]? = some a := by simpa [backA] using h
    obtain ⟨b, q1, q2⟩ := backA_get h'
    refine ⟨b, by simpa using q1, ?_⟩
    have ee : e.tail[i]? = e[i + 1]? := by cases e <;> simp
    rw [ee] at q2
    exact q2
theorem backA_length : ∀ (as : List Ar) (e : List Sl), (backA as e).length = as.length
  | [], e => rfl
  | .val d :: r, e => by simp [backA, backA_length r]
  | .io d :: r, e => by simp [backA, backA_length r]
theorem SR.cstp {H G H' G' : Hp} {as : List Ar} {vs : List V} {N : List Str} {σ' : L2.St} {env' : List Sl} (o : ArsOk K H G as vs) (r : SR K H G (paOf as vs) H' G' σ' env') : CStp K as vs H G H' G' (backA as env') := by
  have nio : ∀ b, ¬ IoP as vs b → ∀ j, paOf as vs j ≠ some b := fun b n j hj => n (by
    obtain ⟨d, e1, e2⟩ := paOf_io.mp hj
    exact ⟨j, d, e1, e2⟩)
  have cio : ∀ (j : Nat) (d : D), as[j]? = some (.io d) → ∃ (p : Addr) (d' : D), vs[j]? = some (.ref p) ∧ env'[j]? = some (.io d') ∧ G' p = none ∧ MuAt K H' G' d' p := fun j d e => by
    obtain ⟨v, e1, p, rfl, e2, e3⟩ := o.ars.get e
    obtain ⟨q1, d', q2⟩ := r.io j p (paOf_io.mpr ⟨d, e, e1⟩)
    obtain ⟨p', w1, w2, w3⟩ := r.er.mu j _ d' q2 rfl
    rw [q1] at w1
    cases w1
    exact ⟨p, d', e1, q2, w2, w3⟩
  refine ⟨r.gr, r.er.sub, r.old, fun b ob e n => r.keep b ob e (nio b n), ArsAt.mk (by rw [backA_length, o.ars.length]) fun i a v e1 e2 => ?_, fun j d e => ?_⟩
  · obtain ⟨b, q1, q2⟩ := backA_get e1
    cases b with
    | val d =>
      rw [show a = .val d from q2]
      obtain ⟨u, w1, w2⟩ := o.ars.get q1
      rw [e2] at w1
      cases w1
      exact Rp.mono r.gr d v w2
    | io d =>
      obtain ⟨p, d', w1, w2, w3, w4⟩ := cio i d q1
      rw [e2] at w1
      cases w1
      rcases q2 with ⟨d'', z1, rfl⟩ | ⟨z1, _⟩
      · rw [w2] at z1
        cases z1
        exact ⟨p, rfl, w3, w4⟩
      · exact absurd w2 (z1 d')
  · obtain ⟨p, d', w1, w2, w3, w4⟩ := cio j d e
    have hl : j < (backA as env').length := by
      rw [backA_length]
      exact (List.getElem?_eq_some_iff.mp e).1
    obtain ⟨b, q1, q2⟩ := backA_get (List.getElem?_eq_getElem hl)
    rw [e] at q1
    cases q1
    rcases q2 with ⟨d'', z1, z2⟩ | ⟨z1, _⟩
    · exact ⟨d'', by rw [List.getElem?_eq_getElem hl, z2]⟩
    · exact absurd w2 (z1 d')
end
/-- a def that keeps its promise on data, by its name -/
def Cal (P : Program) (w : World) (K : PySem.W.Frag) (mg : Str → Option Value) (base : Heap) (k : Nat) (x : Str) (n : Nat) (Φ : List Ar → FR) : Prop :=
  ∃ f fd ps, FnOk P w K mg base (L2N.CX P w) k f fd ps (spD K mg n Φ) ∧ mg x = some (.ref f) ∧ PySem.W.keepIn K (.ref f) = true ∧ Binds K fd ps []
theorem Cal.mono {P : Program} {w : World} {K : PySem.W.Frag} {mg : Str → Option Value} {base : Heap} {j k n : Nat} {x : Str} {Φ : List Ar → FR} (h : Cal P w K mg base j x n Φ) (hk : j ≤ k) : Cal P w K mg base k x n Φ :=
  let ⟨f, fd, ps, F, r⟩ := h
  ⟨f, fd, ps, F.mono hk, r⟩
/-- another function, where it tells anything -/
theorem Cal.imp {P : Program} {w : World} {K : PySem.W.Frag} {mg : Str → Option Value} {base : Heap} {k n : Nat} {x : Str} {Φ Ψ : List Ar → FR} (h : Cal P w K mg base k x n Φ) (e : ∀ as, as.length = n → Ψ as = .stk ∨ Ψ as = Φ as) : Cal P w K mg base k x n Ψ := by
  obtain ⟨f, fd, ps, F, r⟩ := h
  refine ⟨f, fd, ps, F.imp fun vs H Q E ⟨G, as, hl, o, p⟩ => ⟨G, as, hl, o, ?_⟩, r⟩
  rcases e as hl with z | z
  · rw [z] at p; exact p.elim
  · rw [← z]; exact p
section
variable {P : Program} {w : World} {K : PySem.W.Frag} {mg : Str → Option Value} {base : Heap}
/-- THE RULE for a def -/
theorem run_start {N : List Str} {n : Nat} {S : Sx} {as : List Ar} {vs : List V} {H G : Hp} {Q : VK} {E : XK} (hl : as.length = n) (hN : n ≤ N.length) (o : ArsOk K H G as vs) (p : PostF K mg as vs H G Q E (runF N.length S as)) :
    tS K mg (fun cls d _ H => E cls d H) H G (paOf as vs) S { nx := fun _ H' => Q .non H', rt := Q } (L2.start N vs) H := by
  refine ⟨G, startE N.length as, SR.begin o (by rw [hl]; exact hN), ?_⟩
  have nio : ∀ b, ¬ IoP as vs b → ∀ j, paOf as vs j ≠ some b := fun b n j hj => n (by
    obtain ⟨d, e1, e2⟩ := paOf_io.mp hj
    exact ⟨j, d, e1, e2⟩)
  unfold runF at p
  cases e : S (startE N.length as) with
  | nx e1 =>
    rw [e] at p
    exact fun σ' H' G' r => p .non H' G' (SR.cstp (N := N) o r) rfl
  | rt vl e1 =>
    rw [e] at p
    intro v σ' H' G' r rv
    cases vl with
    | im d => exact p v H' G' (SR.cstp (N := N) o r) rv
    | fr d =>
      obtain ⟨q, rfl, h1, h2, h3⟩ := rv
      exact p q H' G' (SR.cstp (N := N) o r) h1 h2 h3
    | bo i => exact p.elim
  | bk e1 => rw [e] at p; exact p.elim
  | ct e1 => rw [e] at p; exact p.elim
  | err c e1 =>
    rw [e] at p
    intro C σ' H' m se
    refine p C H' m fun b ob q n => ?_
    cases e1 with
    | some e1 => obtain ⟨G', r⟩ := se; exact r.keep b ob q (nio b n)
    | none => exact se b ob q (nio b n)
  | stk => rw [e] at p; exact p.elim
theorem fn_ok {x qual : Str} {st : Stmt} {f : Addr} {fd : FuncData} {N ps : List Str} {k n : Nat} {S : Sx} (F : Fun K x qual st f fd) (sc : FnScope N ps (defScope st)) (hm : mg x = some (.ref f)) (hb : Binds K fd ps []) (hn : ps.length = n) (hN : n ≤ N.length)
    (hbody : ∀ (cdv : Value) (A : Around) (outer : List Env) (s : Shared) (H : Hp) (E : XK), Room k (A.deeper (envOfC qual (defScope st) s.heap.objs.size f cdv)) →
      STs (cxOf (L2N.CX P w) P w K mg base N qual (defScope st) f cdv A outer s H E) (fun cls d _ H => E cls d H) (defBody st) S) : FnOk P w K mg base (L2N.CX P w) (k + 1) f fd ps (spD K mg n (runF N.length S)) := by
  obtain ⟨oc, od, kV, doc, pm, an, cdv, ct, osl, rfl, lk, hcd⟩ := F.ex
  refine fn_of lk hcd sc (fun vs H Q E h => ?_) (fun A outer s H vs Q E hr h => ?_)
  · obtain ⟨G, as, hl, o, _⟩ := h
    rw [o.ars.length, hl, hn]
  · obtain ⟨G, as, hl, o, p⟩ := h
    exact ⟨_, hbody cdv A outer s H E hr H G (paOf as vs), run_start hl hN o p⟩
theorem fn_cal {x qual : Str} {st : Stmt} {f : Addr} {fd : FuncData} {N ps : List Str} {k n : Nat} {S : Sx} (F : Fun K x qual st f fd) (sc : FnScope N ps (defScope st)) (hm : mg x = some (.ref f)) (hb : Binds K fd ps []) (hn : ps.length = n) (hN : n ≤ N.length)
    (hbody : ∀ (cdv : Value) (A : Around) (outer : List Env) (s : Shared) (H : Hp) (E : XK), Room k (A.deeper (envOfC qual (defScope st) s.heap.objs.size f cdv)) →
      STs (cxOf (L2N.CX P w) P w K mg base N qual (defScope st) f cdv A outer s H E) (fun cls d _ H => E cls d H) (defBody st) S) : Cal P w K mg base (k + 1) x n (runF N.length S) :=
  ⟨f, fd, ps, fn_ok F sc hm hb hn hN hbody, hm, F.kp, hb⟩
end
end HF

set_option Elab.async false
set_option linter.all false
set_option maxRecDepth 100000
set_option maxHeartbeats 4000000
set_option autoImplicit false
namespace HF
open PySem PySem.Spec PyProof.Rows L2
/-! ### calls of defs -/
@[simp] def conv1 (io : Bool) (e : List Sl) (l : Vl) : Option Ar := match io with
  | true => (match l with
    | .bo i => ((e[i]?).bind Sl.mu).map Ar.io
    | _ => none)
  | false => l.toIm.map Ar.val
@[simp] def conv : List Bool → List Sl → List Vl → Option (List Ar)
  | [], _, [] => some []
  | io :: sg, e, l :: ls => match conv1 io e l, conv sg e ls with
    | some a, some as => some (a :: as)
    | _, _ => none
  | _, _, _ => none
@[simp] def putE (i : Nat) (d : D) (e : List Sl) : List Sl := match e[i]? with
  | some s => e.set i (s.put d)
  | none => e
@[simp] def updL : List (Nat × D) → List Sl → List Sl
  | [], e => e
  | (i, d) :: r, e => updL r (putE i d e)
@[simp] def mkL : List Bool → List Vl → List Ar → List (Nat × D)
  | true :: sg, .bo i :: ls, .io d :: as => (i, d) :: mkL sg ls as
  | _ :: sg, _ :: ls, _ :: as => mkL sg ls as
  | _, _, _ => []
@[simp] def keysL : List Bool → List Vl → List Nat
  | true :: sg, .bo i :: ls => i :: keysL sg ls
  | _ :: sg, _ :: ls => keysL sg ls
  | _, _ => []
@[simp] def noIo (sg : List Bool) : Bool := sg.all fun b => !b
@[simp] def ndB (l : List Nat) : Bool := decide l.Nodup
@[simp] def callR (sg : List Bool) (Φ : List Ar → FR) (vls : List Vl) (e : List Sl) : Rs := match conv sg e vls with
  | some as => if ndB (keysL sg vls) then (match Φ as with
    | .im d as' => .ok (.im d) (updL (mkL sg vls as') e)
    | .fr d as' => .ok (.fr d) (updL (mkL sg vls as') e)
    | .err c => .err c (if noIo sg then some e else none)
    | .stk => .stk) else .stk
  | none => .stk
/-- own lists are lent: what is told bears none -/
@[simp] def Vl.isBo : Vl → Bool
  | .bo _ => true
  | _ => false
@[simp] def lend1 (e : List Sl) : Vl → Option D
  | .im d => some d
  | .fr d => some d
  | .bo i => (e[i]?).bind Sl.mu
@[simp] def lends (e : List Sl) : List Vl → Option (List D)
  | [] => some []
  | l :: ls => match lend1 e l, lends e ls with
    | some d, some ds => some (d :: ds)
    | _, _ => none
mutual
def D.pure : D → Bool
  | .tup xs => D.pureL xs
  | .lst _ => false
  | .dct _ _ => false
  | .scr _ => false
  | .non => true
  | .bl _ => true
  | .int _ => true
  | .str _ => true
  | .ty _ => true
  | .ob _ => true
def D.pureL : List D → Bool
  | [] => true
  | d :: ds => D.pure d && D.pureL ds
end
@[simp] theorem D.pure_tup (xs : List D) : (D.tup xs).pure = D.pureL xs := by rw [D.pure]
@[simp] theorem D.pure_int (i : Int) : (D.int i).pure = true := by rw [D.pure]
@[simp] theorem D.pure_bl (i : Bool) : (D.bl i).pure = true := by rw [D.pure]
@[simp] theorem D.pure_str (i : Str) : (D.str i).pure = true := by rw [D.pure]
@[simp] theorem D.pure_non : D.non.pure = true := by rw [D.pure]
@[simp] theorem D.pureL_nil : D.pureL [] = true := by rw [D.pureL]
@[simp] theorem D.pureL_cons (d : D) (ds : List D) : D.pureL (d :: ds) = (d.pure && D.pureL ds) := by rw [D.pureL]
@[simp] def D.pureF : D → Bool
  | .lst xs => D.pureL xs
  | .dct _ xs => D.pureL xs
  | _ => false
@[simp] def lendR (Φ : List Ar → FR) (vls : List Vl) (e : List Sl) : Rs := match lends e vls with
  | some ds => (match Φ (ds.map Ar.val) with
    | .im d _ => if d.pure then .ok (.im d) e else .stk
    | .fr d _ => if d.pureF then .ok (.fr d) e else .stk
    | .err c => .err c (some e)
    | .stk => .stk)
  | none => .stk
@[simp] def callX (sg : List Bool) (Φ : List Ar → FR) (vls : List Vl) (e : List Sl) : Rs := if noIo sg && (vls.any Vl.isBo && decide (vls.length = sg.length)) then lendR Φ vls e else callR sg Φ vls e
@[simp] def callF (sg : List Bool) (Φ : List Ar → FR) (Fs : FxL)  (env : List Sl) : Rs := bindL (Fs env) fun vls e => callX sg Φ vls e
theorem putE_get (i : Nat) (d : D) (e : List Sl) (k : Nat) : (putE i d e)[k]? = if i = k then (e[k]?).map (·.put d) else e[k]? := by
  unfold putE
  cases h : e[i]? with
  | none =>
    by_cases z : i = k
    · subst z
      rw [if_pos rfl, h]
      rfl
    · rw [if_neg z]
  | some s =>
    obtain ⟨hl, _⟩ := List.getElem?_eq_some_iff.mp h
    by_cases z : i = k
    · subst z
      rw [if_pos rfl]
      show (e.set i (s.put d))[i]? = _
      rw [List.getElem?_set_self hl, h]
      rfl
    · rw [if_neg z]
      show (e.set i (s.put d))[k]? = _
      rw [List.getElem?_set_ne z]
theorem lookup_notin {i : Nat} : ∀ {L : List (Nat × D)}, i ∉ L.map (·.1) → L.lookup i = none
  | [], _ => rfl
  | (j, d) :: r, h => by
    simp only [List.map_cons, List.mem_cons, not_or] at h
    rw [List.lookup_cons, beq_eq_false_iff_ne.mpr h.1]
    exact lookup_notin h.2
theorem updL_get : ∀ (L : List (Nat × D)) (e : List Sl) (k : Nat), (L.map (·.1)).Nodup → (updL L e)[k]? = match L.lookup k with
    | some d => (e[k]?).map (·.put d)
    | none => e[k]?
  | [], e, k, _ => rfl
  | (i, d) :: r, e, k, h => by
    simp only [List.map_cons, List.nodup_cons] at h
    unfold updL
    rw [updL_get r _ k h.2, putE_get, List.lookup_cons]
    by_cases z : i = k
    · subst z
      rw [lookup_notin h.1, if_pos rfl, beq_self_eq_true]
    · rw [if_neg z, beq_eq_false_iff_ne.mpr (fun q => z q.symm)]
theorem mkL_keys : ∀ (sg : List Bool) (vls : List Vl) (as : List Ar), (∀ (j : Nat) (i : Nat), sg[j]? = some true → vls[j]? = some (.bo i) → ∃ d, as[j]? = some (.io d)) → sg.length = as.length → vls.length = as.length → (mkL sg vls as).map (·.1) = keysL sg vls
  | [], vls, [], h, h1, h2 => by
    have : vls = [] := List.eq_nil_of_length_eq_zero h2
    subst this
    rfl
  | [], vls, a :: as, h, h1, h2 => by simp at h1
  | b :: sg, [], [], h, h1, h2 => by simp at h1
  | b :: sg, [], a :: as, h, h1, h2 => by simp at h2
  | b :: sg, l :: ls, [], h, h1, h2 => by simp at h1
  | b :: sg, l :: ls, a :: as, h, h1, h2 => by
    have ih := mkL_keys sg ls as (fun j i e1 e2 => by simpa using h (j + 1) i (by simpa using e1) (by simpa using e2)) (by simpa using h1) (by simpa using h2)
    cases b with
    | false => cases l <;> cases a <;> exact ih
    | true =>
      cases l with
      | bo i =>
        obtain ⟨d, e⟩ := h 0 i rfl rfl
        have : a = .io d := by simpa using e
        subst this
        show i :: (mkL sg ls as).map (·.1) = i :: keysL sg ls
        rw [ih]
      | im d => cases a <;> exact ih
      | fr d => cases a <;> exact ih
theorem mkL_mem : ∀ {sg : List Bool} {vls : List Vl} {as : List Ar} {i : Nat} {d : D}, (i, d) ∈ mkL sg vls as → ∃ j : Nat, sg[j]? = some true ∧ vls[j]? = some (.bo i) ∧ as[j]? = some (.io d)
  | [], vls, as, i, d, h => by cases vls <;> cases as <;> cases h
  | b :: sg, [], as, i, d, h => by cases b <;> cases as <;> cases h
  | b :: sg, l :: ls, [], i, d, h => by cases b <;> cases l <;> cases h
  | b :: sg, l :: ls, a :: as, i, d, h => by
    have rec_ : (i, d) ∈ mkL sg ls as → ∃ j : Nat, (b :: sg)[j]? = some true ∧ (l :: ls)[j]? = some (.bo i) ∧ (a :: as)[j]? = some (.io d) := fun h => by
      obtain ⟨j, e1, e2, e3⟩ := mkL_mem h
      exact ⟨j + 1, by simpa using e1, by simpa using e2, by simpa using e3⟩
    cases b with
    | false => cases l <;> cases a <;> exact rec_ h
    | true =>
      cases l with
      | im _ => cases a <;> exact rec_ h
      | fr _ => cases a <;> exact rec_ h
      | bo i' =>
        cases a with
        | val _ => exact rec_ h
        | io d' =>
          rcases List.mem_cons.mp h with z | z
          · cases z
            exact ⟨0, rfl, rfl, rfl⟩
          · exact rec_ z
theorem keysL_mem : ∀ {sg : List Bool} {vls : List Vl} {j i : Nat}, sg[j]? = some true → vls[j]? = some (.bo i) → i ∈ keysL sg vls
  | [], vls, j, i, h, e => by simp at h
  | b :: sg, [], j, i, h, e => by simp at e
  | b :: sg, l :: ls, 0, i, h, e => by
    have hb : b = true := by simpa using h
    have hl : l = .bo i := by simpa using e
    subst hb hl
    exact List.mem_cons_self
  | b :: sg, l :: ls, j + 1, i, h, e => by
    have ih := keysL_mem (sg := sg) (vls := ls) (j := j) (i := i) (by simpa using h) (by simpa using e)
    cases b with
    | false => cases l <;> exact ih
    | true => cases l <;> first | exact ih | exact List.mem_cons_of_mem _ ih
theorem lookup_mem {i : Nat} {d : D} : ∀ {L : List (Nat × D)}, L.lookup i = some d → (i, d) ∈ L
  | [], h => by cases h
  | (j, e) :: r, h => by
    rw [List.lookup_cons] at h
    by_cases z : i = j
    · subst z
      rw [beq_self_eq_true] at h
      cases h
      exact List.mem_cons_self
    · rw [beq_eq_false_iff_ne.mpr z] at h
      exact List.mem_cons_of_mem _ (lookup_mem h)
theorem conv_get : ∀ {sg : List Bool} {e : List Sl} {vls : List Vl} {as : List Ar}, conv sg e vls = some as → sg.length = as.length ∧ vls.length = as.length ∧ ∀ (j : Nat) (a : Ar), as[j]? = some a → ∃ io l, sg[j]? = some io ∧ vls[j]? = some l ∧ conv1 io e l = some a
  | [], e, [], as, h => by cases h; exact ⟨rfl, rfl, fun j a q => by simp at q⟩
  | [], e, l :: ls, as, h => by cases h
  | b :: sg, e, [], as, h => by cases h
  | b :: sg, e, l :: ls, as, h => by
    unfold conv at h
    cases e1 : conv1 b e l with
    | none => rw [e1] at h; cases h
    | some a =>
      cases e2 : conv sg e ls with
      | none => rw [e1, e2] at h; cases h
      | some as' =>
        rw [e1, e2] at h
        cases h
        obtain ⟨h1, h2, h3⟩ := conv_get e2
        refine ⟨by simp [h1], by simp [h2], fun j c q => ?_⟩
        cases j with
        | zero =>
          have : a = c := by simpa using q
          subst this
          exact ⟨b, l, rfl, rfl, e1⟩
        | succ j =>
          obtain ⟨io, l', q1, q2, q3⟩ := h3 j c (by simpa using q)
          exact ⟨io, l', by simpa using q1, by simpa using q2, q3⟩
/-- the values to be handed on: frozen, or lent -/
def ArV (K : PySem.W.Frag) (G : Hp) (σ : L2.St) (env : List Sl) : Ar → V → Prop
  | .val d, v => Rp K G d v
  | .io d, v => ∃ (i : Nat) (s : Sl) (p : Addr), env[i]? = some s ∧ s.mu = some d ∧ σ[i]? = some (some (.ref p)) ∧ v = .ref p
def ArsV (K : PySem.W.Frag) (G : Hp) (σ : L2.St) (env : List Sl) : List Ar → List V → Prop
  | [], xs => xs = []
  | a :: as, xs => ∃ x r, xs = x :: r ∧ ArV K G σ env a x ∧ ArsV K G σ env as r
section
variable {K : PySem.W.Frag} {σ : L2.St} {H0 G0 H : Hp} {env0 env : List Sl}
theorem conv_ok (r0 : ER K H0 G0 σ env0) : ∀ {sg : List Bool} {vls : List Vl} {vs : List V} {as : List Ar} {G : Hp}, VlsW K H0 H G σ env vls vs → Stp K σ H0 G0 env0 H G env → conv sg env vls = some as →
    ∃ G', Stp K σ H0 G0 env0 H G' env ∧ Same G G' ∧ (∀ b, G' b = G b ∨ G' b = H b) ∧ ArsV K G' σ env as vs
  | [], [], vs, as, G, h, s, e => by cases e; exact ⟨G, s, Same.refl _, fun _ => .inl rfl, h⟩
  | [], l :: ls, vs, as, G, h, s, e => by cases e
  | b :: sg, [], vs, as, G, h, s, e => by cases e
  | b :: sg, l :: ls, vs, as, G, h, s, e => by
    obtain ⟨x, r, rfl, h1, h2⟩ := h
    unfold conv at e
    cases e1 : conv1 b env l with
    | none => rw [e1] at e; cases e
    | some a =>
      cases e2 : conv sg env ls with
      | none => rw [e1, e2] at e; cases e
      | some as' =>
        rw [e1, e2] at e
        cases e
        cases b with
        | true =>
          cases l with
          | im _ => cases e1
          | fr _ => cases e1
          | bo i =>
            obtain ⟨t, d, p, q1, q2, q3, q4⟩ := h1
            have ea : ((env[i]?).bind Sl.mu).map Ar.io = some a := e1
            rw [q1] at ea
            have ea : (t.mu).map Ar.io = some a := ea
            rw [q2] at ea
            cases ea
            obtain ⟨G2, s2, g2, k2, w2⟩ := conv_ok r0 h2 s e2
            exact ⟨G2, s2, g2, k2, x, r, rfl, ⟨i, t, p, q1, q2, q3, q4⟩, w2⟩
        | false =>
          have ea : l.toIm.map Ar.val = some a := e1
          cases e3 : l.toIm with
          | none => rw [e3] at ea; cases ea
          | some d =>
            rw [e3] at ea
            cases ea
            obtain ⟨G1, s1, g1, k1, q1⟩ := h1.imm s r0 e3
            obtain ⟨G2, s2, g2, k2, w2⟩ := conv_ok r0 (VlsW.up g1 k1 h2) s1 e2
            refine ⟨G2, s2, g1.trans g2, fun b => ?_, x, r, rfl, Rp.mono g2 d x q1, w2⟩
            rcases k2 b with z | z
            · rw [z]; exact k1 b
            · exact .inr z
theorem ArsV.ars {G : Hp} (r : ER K H G σ env) : ∀ {as : List Ar} {vs : List V}, ArsV K G σ env as vs → ArsAt K H G as vs
  | [], vs, h => h
  | .val d :: as, vs, h => by
    obtain ⟨x, t, rfl, h1, h2⟩ := h
    exact ⟨x, t, rfl, h1, ArsV.ars r h2⟩
  | .io d :: as, vs, h => by
    obtain ⟨x, t, rfl, ⟨i, s, p, q1, q2, q3, q4⟩, h2⟩ := h
    obtain ⟨p', w1, w2, w3⟩ := r.mu i s d q1 q2
    rw [q3] at w1
    cases w1
    exact ⟨x, t, rfl, ⟨p, q4, w2, w3⟩, ArsV.ars r h2⟩
theorem VlsW.get {G : Hp} : ∀ {ls : List Vl} {vs : List V} {j : Nat} {l : Vl}, VlsW K H0 H G σ env ls vs → ls[j]? = some l → ∃ v, vs[j]? = some v ∧ VlW K H0 H G σ env l v
  | [], vs, j, l, h, e => by simp at e
  | l' :: ls, vs, 0, l, h, e => by
    obtain ⟨x, r, rfl, h1, _⟩ := h
    have : l' = l := by simpa using e
    subst this
    exact ⟨x, rfl, h1⟩
  | l' :: ls, vs, j + 1, l, h, e => by
    obtain ⟨x, r, rfl, _, h2⟩ := h
    obtain ⟨v, e1, h3⟩ := VlsW.get (j := j) (l := l) h2 (by simpa using e)
    exact ⟨v, by simpa using e1, h3⟩
theorem put_mu {s : Sl} {d e : D} (h : s.mu = some e) : (s.put d).mu = some d := by
  cases s <;> first | rfl | cases h
theorem put_kin {s : Sl} {d : D} : Kin (some s) (some (s.put d)) := by
  cases s <;> first | rfl | exact ⟨_, rfl⟩
/-- behind a call -/
theorem call_step {G H' G' : Hp} {sg : List Bool} {vls : List Vl} {vs : List V} {as as' : List Ar} (r : ER K H G σ env) (hw : VlsW K H0 H G σ env vls vs) (hc : conv sg env vls = some as) (nd : ndB (keysL sg vls) = true) (c : CStp K as vs H G H' G' as') :
    Stp K σ H G env H' G' (updL (mkL sg vls as') env) := by
  obtain ⟨l1, l2, cg⟩ := conv_get hc
  have nd : (keysL sg vls).Nodup := of_decide_eq_true nd
  have hl : vs.length = as'.length := c.ars.length
  have io_at : ∀ (j i : Nat), sg[j]? = some true → vls[j]? = some (.bo i) → ∃ s d p, env[i]? = some s ∧ s.mu = some d ∧ σ[i]? = some (some (.ref p)) ∧ vs[j]? = some (.ref p) ∧ as[j]? = some (.io d) := fun j i e1 e2 => by
    obtain ⟨v, q1, s, d, p, w1, w2, w3, w4⟩ := hw.get e2
    have hj : j < as.length := by rw [← l2]; exact (List.getElem?_eq_some_iff.mp e2).1
    obtain ⟨io, l, z1, z2, z3⟩ := cg j as[j] (List.getElem?_eq_getElem hj)
    rw [e1] at z1
    rw [e2] at z2
    cases z1
    cases z2
    have z3 : ((env[i]?).bind Sl.mu).map Ar.io = some as[j] := z3
    rw [w1] at z3
    have z3 : (s.mu).map Ar.io = some as[j] := z3
    rw [w2] at z3
    refine ⟨s, d, p, w1, w2, w3, by rw [q1, w4], ?_⟩
    rw [List.getElem?_eq_getElem hj]
    exact congrArg some (Option.some.inj z3).symm
  have la : as'.length = as.length := by
    have q : ArsAt K H' G' as' vs := c.ars
    rw [← q.length]
    have z : ∀ {ls : List Vl} {us : List V}, VlsW K H0 H G σ env ls us → us.length = ls.length := by
      intro ls
      induction ls with
      | nil => intro us h; rw [show us = [] from h]; rfl
      | cons l ls ih =>
        intro us h
        obtain ⟨x, t, rfl, _, h2⟩ := h
        rw [List.length_cons, List.length_cons, ih h2]
    rw [z hw, l2]
  have keys : (mkL sg vls as').map (·.1) = keysL sg vls := mkL_keys sg vls as' (fun j i e1 e2 => by
    obtain ⟨s, d, p, _, _, _, _, q⟩ := io_at j i e1 e2
    exact c.kin j d q) (by rw [l1, la]) (by rw [l2, la])
  have ug : ∀ k : Nat, (updL (mkL sg vls as') env)[k]? = match (mkL sg vls as').lookup k with
    | some d => (env[k]?).map (·.put d)
    | none => env[k]? := fun k => updL_get _ _ k (by rw [keys]; exact nd)
  have kin : ∀ k : Nat, Kin (env[k]?) ((updL (mkL sg vls as') env)[k]?) := fun k => by
    rw [ug k]
    cases e : (mkL sg vls as').lookup k with
    | none => exact Kin.refl _
    | some d =>
      cases e2 : env[k]? with
      | none => exact rfl
      | some s => exact put_kin
  have iop : ∀ p, IoP as vs p → ∃ i, i ∈ keysL sg vls ∧ σ[i]? = some (some (.ref p)) ∧ MuIs σ env p := fun p ⟨j, d, e1, e2⟩ => by
    obtain ⟨io, l, z1, z2, z3⟩ := cg j _ e1
    cases io with
    | false =>
      have z3 : l.toIm.map Ar.val = some (.io d) := z3
      cases hq : l.toIm with
      | none => rw [hq] at z3; cases z3
      | some x => rw [hq] at z3; cases z3
    | true =>
      cases l with
      | im _ => cases z3
      | fr _ => cases z3
      | bo i =>
        obtain ⟨s, d', p', w1, w2, w3, w4, w5⟩ := io_at j i z1 z2
        rw [e2] at w4
        cases w4
        exact ⟨i, keysL_mem z1 z2, w3, i, s, d', w1, w2, w3⟩
  have keepM : ∀ b o, H b = some o → ¬ MuIs σ env b → H' b = some o := fun b o e n => c.keep b o e fun z => by
    obtain ⟨i, _, _, m⟩ := iop b z
    exact n m
  refine ⟨⟨?_, c.gh, fun i d e => ?_, fun i s d e1 e2 => ?_, fun i j s t d e p h1 h2 h3 h4 h5 h6 => ?_⟩, c.gr, c.old, keepM, kin⟩
  · rw [r.len]
    have : ∀ (L : List (Nat × D)) (e : List Sl), (updL L e).length = e.length := by
      intro L
      induction L with
      | nil => intro e; rfl
      | cons a L ih =>
        intro e
        obtain ⟨i, d⟩ := a
        unfold updL
        rw [ih]
        unfold putE
        split <;> simp
    rw [this]
  · rw [ug i] at e
    have e' : env[i]? = some (.val d) := by
      cases q : (mkL sg vls as').lookup i with
      | none => rw [q] at e; exact e
      | some x =>
        rw [q] at e
        cases q2 : env[i]? with
        | none => rw [q2] at e; cases e
        | some s =>
          rw [q2] at e
          have e : some (s.put x) = some (.val d) := e
          cases s <;> first | exact e | cases e
    obtain ⟨v, w1, w2⟩ := r.val i d e'
    exact ⟨v, w1, Rp.mono c.gr d v w2⟩
  · rw [ug i] at e1
    cases q : (mkL sg vls as').lookup i with
    | none =>
      rw [q] at e1
      obtain ⟨p, w1, w2, w3⟩ := r.mu i s d e1 e2
      refine ⟨p, w1, c.old p w3.there w2, w3.mono ?_ c.gr⟩
      cases z : H p with
      | none => exact absurd z w3.there
      | some o =>
        refine c.keep p o z fun hio => ?_
        obtain ⟨i', m1, m2, _⟩ := iop p hio
        -- the lent slot is this one
        obtain ⟨j, y1, y2⟩ : ∃ j : Nat, sg[j]? = some true ∧ vls[j]? = some (.bo i') := by
          rw [← keys] at m1
          obtain ⟨⟨a, b⟩, y1, y2⟩ := List.mem_map.mp m1
          obtain ⟨j, x1, x2, _⟩ := mkL_mem y1
          cases y2
          exact ⟨j, x1, x2⟩
        obtain ⟨s', d', p', v1, v2, v3, _, _⟩ := io_at j i' y1 y2
        rw [m2] at v3
        cases v3
        have ei : i = i' := r.sep i i' s s' d d' p e1 e2 v1 v2 w1 m2
        rw [← ei, ← keys] at m1
        have : (mkL sg vls as').lookup i ≠ none := by
          intro hn
          obtain ⟨⟨a, b⟩, y1, y2⟩ := List.mem_map.mp m1
          have ea : a = i := y2
          rw [ea] at y1
          have : ∀ {L : List (Nat × D)}, (i, b) ∈ L → L.lookup i ≠ none := by
            intro L
            induction L with
            | nil => intro h; cases h
            | cons x L ih =>
              intro h
              obtain ⟨x1, x2⟩ := x
              rw [List.lookup_cons]
              by_cases hx : i = x1
              · subst hx; rw [beq_self_eq_true]; exact fun z => nomatch z
              · rw [beq_eq_false_iff_ne.mpr hx]
                rcases List.mem_cons.mp h with h | h
                · cases h; exact absurd rfl hx
                · exact ih h
          exact this y1 hn
        exact absurd q this
    | some x =>
      rw [q] at e1
      cases q2 : env[i]? with
      | none => rw [q2] at e1; cases e1
      | some t =>
        rw [q2] at e1
        have e1 : some (t.put x) = some s := e1
        cases e1
        obtain ⟨j, y1, y2, y3⟩ := mkL_mem (lookup_mem q)
        obtain ⟨s', d', p, v1, v2, v3, v4, v5⟩ := io_at j i y1 y2
        rw [q2] at v1
        cases v1
        rw [put_mu v2] at e2
        cases e2
        obtain ⟨v, u1, p', u2, u3, u4⟩ := c.ars.get y3
        rw [v4] at u1
        cases u1
        cases u2
        exact ⟨p, v3, u3, u4⟩
  · have back : ∀ {i : Nat} {s : Sl} {d : D}, (updL (mkL sg vls as') env)[i]? = some s → s.mu = some d → ∃ t e, env[i]? = some t ∧ t.mu = some e := fun {i s d} e1 e2 => by
      have k := kin i
      rw [e1] at k
      obtain ⟨u, e, q1, q2⟩ := k.back e2
      exact ⟨u, e, q1, q2⟩
    obtain ⟨s', d', x1, x2⟩ := back h1 h2
    obtain ⟨t', e', y1, y2⟩ := back h3 h4
    exact r.sep i j s' t' d' e' p x1 x2 y1 y2 h5 h6
end
section
variable {X : Cx} {W : WX} {x : Str} {k k' n : Nat} {Φ : List Ar → FR} {p pos : Pos} {e : Expr} {es : List Expr} {Fs : FxL} {sg : List Bool}
theorem call_of {H G : Hp} {σ : L2.St} {env : List Sl} {vls : List Vl} {vs : List V} {H1 G1 : Hp} {env1 : List Sl} {Q : VK} (r : ER X.K H G σ env) (s1 : Stp X.K σ H G env H1 G1 env1) (v1 : VlsAt X.K H H1 G1 σ env1 vls vs)
    (h : PostR X.K X.mg W σ H G env Q (callR sg Φ vls env1)) (hn : sg.length = n) : spD X.K X.mg n Φ vs H1 Q (WE W σ) := by
  unfold callR at h
  cases ec : conv sg env1 vls with
  | none => rw [ec] at h; exact h.elim
  | some as =>
    rw [ec] at h
    simp only at h
    split at h
    · rename_i nd
      obtain ⟨G2, s2, g2, k2, av⟩ := conv_ok r v1.w s1 ec
      have hw : VlsW X.K H H1 G2 σ env1 vls vs := VlsW.up g2 k2 v1.w
      have ars := ArsV.ars s2.er av
      obtain ⟨l1, l2, cg⟩ := conv_get ec
      have iom : ∀ b, IoP as vs b → MuIs σ env1 b := fun b ⟨j, d, e1, e2⟩ => by
        obtain ⟨io, l, z1, z2, z3⟩ := cg j _ e1
        obtain ⟨v, y1, y2⟩ := hw.get z2
        rw [e2] at y1
        cases y1
        cases io with
        | false =>
          have z3 : l.toIm.map Ar.val = some (.io d) := z3
          cases hq : l.toIm with
          | none => rw [hq] at z3; cases z3
          | some x => rw [hq] at z3; cases z3
        | true =>
          cases l with
          | im _ => cases z3
          | fr _ => cases z3
          | bo i =>
            obtain ⟨s, d', p', w1, w2, w3, w4⟩ := y2
            cases w4
            exact ⟨i, s, d', w1, w2, w3⟩
      refine ⟨G2, as, by rw [← l1, hn], ⟨s2.er.sub, ars, fun i j d e p h1 h2 h3 h4 => ?_⟩, ?_⟩
      · -- the lent slots are apart
        obtain ⟨io, l, z1, z2, z3⟩ := cg i _ h1
        obtain ⟨io', l', z1', z2', z3'⟩ := cg j _ h2
        have bo_of : ∀ {io : Bool} {l : Vl} {d : D}, conv1 io env1 l = some (.io d) → io = true ∧ ∃ i, l = .bo i := by
          intro io l d z
          cases io with
          | false =>
            have z : l.toIm.map Ar.val = some (.io d) := z
            cases hq : l.toIm with
            | none => rw [hq] at z; cases z
            | some x => rw [hq] at z; cases z
          | true => cases l <;> first | exact ⟨rfl, _, rfl⟩ | cases z
        obtain ⟨rfl, a, rfl⟩ := bo_of z3
        obtain ⟨rfl, b, rfl⟩ := bo_of z3'
        obtain ⟨v, y1, s, d', p', w1, w2, w3, w4⟩ := hw.get z2
        obtain ⟨v', y1', s', d'', p'', w1', w2', w3', w4'⟩ := hw.get z2'
        rw [h3] at y1
        rw [h4] at y1'
        cases y1
        cases y1'
        cases w4
        cases w4'
        have eab : a = b := s2.er.sep a b s s' d' d'' p w1 w2 w1' w2' w3 w3'
        subst eab
        have nd' : (keysL sg vls).Nodup := of_decide_eq_true nd
        have : ∀ {sg : List Bool} {vls : List Vl} {i j a : Nat}, (keysL sg vls).Nodup → sg[i]? = some true → vls[i]? = some (.bo a) → sg[j]? = some true → vls[j]? = some (.bo a) → i = j := by
          intro sg
          induction sg with
          | nil => intro vls i j a _ h; simp at h
          | cons b sg ih =>
            intro vls i j a hnd h1 h2 h3 h4
            cases vls with
            | nil => simp at h2
            | cons l ls =>
              have hnd' : (keysL sg ls).Nodup := by
                cases b with
                | false => cases l <;> exact hnd
                | true => cases l <;> first | exact hnd | exact (List.nodup_cons.mp hnd).2
              cases i with
              | zero =>
                cases j with
                | zero => rfl
                | succ j =>
                  have hb : b = true := by simpa using h1
                  have hl : l = .bo a := by simpa using h2
                  subst hb hl
                  exact absurd (keysL_mem (by simpa using h3) (by simpa using h4)) (List.nodup_cons.mp hnd).1
              | succ i =>
                cases j with
                | zero =>
                  have hb : b = true := by simpa using h3
                  have hl : l = .bo a := by simpa using h4
                  subst hb hl
                  exact absurd (keysL_mem (by simpa using h1) (by simpa using h2)) (List.nodup_cons.mp hnd).1
                | succ j => exact congrArg (· + 1) (ih (vls := ls) (i := i) (j := j) (a := a) hnd' (by simpa using h1) (by simpa using h2) (by simpa using h3) (by simpa using h4))
        exact this nd' z1 z2 z1' z2'
      · cases ef : Φ as with
        | stk => rw [ef] at h; exact h.elim
        | im d as' =>
          rw [ef] at h
          intro v H' G' c hv
          exact h v H' G' (s2.trans (call_step s2.er hw ec nd c) r) hv
        | fr d as' =>
          rw [ef] at h
          intro q H' G' c h1 h2 h3
          exact h _ H' G' (s2.trans (call_step s2.er hw ec nd c) r) ⟨q, rfl, s2.free r h1, h2, h3⟩
        | err c =>
          rw [ef] at h
          intro C H' m ke
          refine h C H' m ?_
          split
          · rename_i no
            have nio : ∀ b, ¬ IoP as vs b := fun b ⟨j, d, e1, e2⟩ => by
              obtain ⟨io, l, z1, z2, z3⟩ := cg j _ e1
              cases io with
              | false =>
                have z : l.toIm.map Ar.val = some (.io d) := z3
                cases hq : l.toIm with
                | none => rw [hq] at z; cases z
                | some x => rw [hq] at z; cases z
              | true =>
                have := List.all_eq_true.mp no true (List.mem_of_getElem? z1)
                cases this
            have sm : Same H1 H' := fun b o e => ke b o e (nio b)
            exact ⟨G2, s2.trans (Stp.gs s2.er ⟨sm, Same.refl _, s2.er.sub.trans sm, fun _ _ h => h⟩) r⟩
          · intro b o e n
            exact ke b o (s1.keep b o e n) fun z => n ((iom b z).of s1.kin)
    · exact h.elim
/-- readable, perhaps frozen -/
def RpW (K : PySem.W.Frag) (H G : Hp) (d : D) (v : V) : Prop := Rp K G d v ∨ ∃ p, v = .ref p ∧ (G p = none ∨ G p = H p) ∧ MuAt K H G d p
def LstAt (H : Hp) (b : Addr) : Prop := (∃ xs, H b = some (.lst xs)) ∨ ∃ kvs, H b = some (.dK kvs)
theorem MuAt.lstAt {K : PySem.W.Frag} {H G : Hp} {d : D} {p : Addr} (h : MuAt K H G d p) : LstAt H p := by
  cases d with
  | lst ds => obtain ⟨xs, e, _⟩ := h; exact .inl ⟨xs, e⟩
  | dct ks ds => obtain ⟨xs, e, _⟩ := h; exact .inr ⟨xs, e⟩
  | _ => exact h.elim
theorem RpW.frz {K : PySem.W.Frag} {H G : Hp} {d : D} {v : V} (s : Same G H) (h : RpW K H G d v) : ∃ G', Same G G' ∧ Same G' H ∧ (∀ b, G' b = G b ∨ (G' b = H b ∧ LstAt H b)) ∧ Rp K G' d v := by
  rcases h with h | ⟨p, rfl, hp, m⟩
  · exact ⟨G, Same.refl _, s, fun _ => .inl rfl, h⟩
  · by_cases g : G p = none
    · obtain ⟨G', g1, g2, g3, g4⟩ := m.frz g s
      refine ⟨G', g1, g2, fun b => ?_, g4⟩
      by_cases hb : b = p
      · subst hb
        right
        refine ⟨?_, m.lstAt⟩
        cases q : G' b with
        | some o => exact (g2 b o q).symm
        | none =>
          exfalso
          cases d with
          | lst ds => obtain ⟨a, xs, ea, eb, _⟩ := g4; cases ea; rw [q] at eb; cases eb
          | dct ks ds => obtain ⟨a, xs, ea, eb, _⟩ := g4; cases ea; rw [q] at eb; cases eb
          | _ => exact m.elim
      · exact .inl (g3 b hb)
    · have e5 : G p = H p := hp.resolve_left g
      refine ⟨G, Same.refl _, s, fun _ => .inl rfl, ?_⟩
      cases d with
      | lst ds => obtain ⟨xs, q1, q2⟩ := m; exact ⟨p, xs, rfl, by rw [e5]; exact q1, q2⟩
      | dct ks ds => obtain ⟨xs, q1, q2, q3⟩ := m; exact ⟨p, xs, rfl, by rw [e5]; exact q1, q2, q3⟩
      | _ => exact m.elim
theorem RpW.up {K : PySem.W.Frag} {H G G' : Hp} {d : D} {v : V} (g : Same G G') (k : ∀ b, G' b = G b ∨ (G' b = H b ∧ LstAt H b)) (h : RpW K H G d v) : RpW K H G' d v := by
  rcases h with h | ⟨p, e, hp, m⟩
  · exact .inl (Rp.mono g d v h)
  · refine .inr ⟨p, e, ?_, m.mono rfl g⟩
    rcases k p with z | z
    · rw [z]; exact hp
    · exact .inr z.1
def RpWs (K : PySem.W.Frag) (H G : Hp) : List D → List V → Prop
  | [], xs => xs = []
  | d :: ds, xs => ∃ x r, xs = x :: r ∧ RpW K H G d x ∧ RpWs K H G ds r
theorem RpWs.up {K : PySem.W.Frag} {H G G' : Hp} (g : Same G G') (k : ∀ b, G' b = G b ∨ (G' b = H b ∧ LstAt H b)) : ∀ {ds : List D} {vs : List V}, RpWs K H G ds vs → RpWs K H G' ds vs
  | [], vs, h => h
  | d :: ds, vs, ⟨x, r, e, h1, h2⟩ => ⟨x, r, e, h1.up g k, RpWs.up g k h2⟩
theorem RpWs.frz {K : PySem.W.Frag} {H : Hp} : ∀ {ds : List D} {vs : List V} {G : Hp}, Same G H → RpWs K H G ds vs → ∃ G', Same G G' ∧ Same G' H ∧ (∀ b, G' b = G b ∨ (G' b = H b ∧ LstAt H b)) ∧ RpL K G' ds vs
  | [], vs, G, s, h => ⟨G, Same.refl _, s, fun _ => .inl rfl, h⟩
  | d :: ds, vs, G, s, ⟨x, r, e, h1, h2⟩ => by
    obtain ⟨G1, a1, a2, a3, a4⟩ := h1.frz s
    obtain ⟨G2, b1, b2, b3, b4⟩ := RpWs.frz a2 (RpWs.up a1 a3 h2)
    refine ⟨G2, a1.trans b1, b2, fun b => ?_, x, r, e, Rp.mono b1 d x a4, b4⟩
    rcases b3 b with z | z
    · rw [z]; exact a3 b
    · exact .inr z
theorem lends_ok {K : PySem.W.Frag} {H0 H G : Hp} {σ : L2.St} {env : List Sl} (r : ER K H G σ env) : ∀ {vls : List Vl} {vs : List V} {ds : List D}, VlsW K H0 H G σ env vls vs → lends env vls = some ds → RpWs K H G ds vs
  | [], vs, ds, h, e => by cases e; exact h
  | l :: ls, vs, ds, ⟨x, rr, e0, h1, h2⟩, e => by
    unfold lends at e
    cases e1 : lend1 env l with
    | none => rw [e1] at e; cases e
    | some d =>
      cases e2 : lends env ls with
      | none => rw [e1, e2] at e; cases e
      | some ds' =>
        rw [e1, e2] at e
        cases e
        refine ⟨x, rr, e0, ?_, lends_ok r h2 e2⟩
        cases l with
        | im d' => cases e1; exact .inl h1
        | fr d' =>
          cases e1
          obtain ⟨p, q1, q2, q3, q4⟩ := h1
          exact .inr ⟨p, q1, q3, q4⟩
        | bo i =>
          obtain ⟨s, d', p, q1, q2, q3, q4⟩ := h1
          have e1 : (env[i]?).bind Sl.mu = some d := e1
          rw [q1] at e1
          have e1 : s.mu = some d := e1
          obtain ⟨p', w1, w2, w3⟩ := r.mu i s d q1 e1
          rw [q3] at w1
          cases w1
          exact .inr ⟨p, q4, .inl w2, w3⟩
theorem RpL.vals {K : PySem.W.Frag} {H G : Hp} : ∀ {ds : List D} {vs : List V}, RpL K G ds vs → ArsAt K H G (ds.map Ar.val) vs
  | [], vs, h => h
  | d :: ds, vs, ⟨x, r, e, h1, h2⟩ => ⟨x, r, e, h1, RpL.vals h2⟩
mutual
/-- what bears no list does not need the lists -/
theorem Rp.less {K : PySem.W.Frag} {G G' : Hp} (e : ∀ a, (∃ xs, G a = some (.tup xs)) ∨ (∃ o xs, G a = some (.frz o (.tup xs))) → G' a = G a) : ∀ (d : D) (v : V), d.pure = true → Rp K G d v → Rp K G' d v
  | .non, v, _, h => h
  | .bl _, v, _, h => h
  | .int _, v, _, h => h
  | .str _, v, _, h => h
  | .tup ds, v, hp, h => by
    obtain ⟨a, xs, e1, h1, h2⟩ := h
    refine ⟨a, xs, e1, ?_, RpL.less e ds xs (by simpa using hp) h2⟩
    rcases h1 with (h1 | ⟨o, h1⟩) | h1
    · exact .inl (.inl (by rw [e a (.inl ⟨xs, h1⟩)]; exact h1))
    · exact .inl (.inr ⟨o, by rw [e a (.inr ⟨o, xs, h1⟩)]; exact h1⟩)
    · exact .inr h1
  | .lst _, v, hp, h => by rw [D.pure] at hp; cases hp
  | .dct _ _, v, hp, h => by rw [D.pure] at hp; cases hp
  | .scr _, v, hp, h => by rw [D.pure] at hp; cases hp
  | .ty _, v, _, h => h
  | .ob _, v, _, h => h
theorem RpL.less {K : PySem.W.Frag} {G G' : Hp} (e : ∀ a, (∃ xs, G a = some (.tup xs)) ∨ (∃ o xs, G a = some (.frz o (.tup xs))) → G' a = G a) : ∀ (ds : List D) (vs : List V), D.pureL ds = true → RpL K G ds vs → RpL K G' ds vs
  | [], vs, _, h => h
  | d :: ds, vs, hp, h => by
    obtain ⟨x, r, e1, h1, h2⟩ := h
    simp only [D.pureL_cons, Bool.and_eq_true] at hp
    exact ⟨x, r, e1, Rp.less e d x hp.1 h1, RpL.less e ds r hp.2 h2⟩
end
theorem lend_of {H G : Hp} {σ : L2.St} {env : List Sl} {vls : List Vl} {vs : List V} {H1 G1 : Hp} {env1 : List Sl} {Q : VK} (r : ER X.K H G σ env) (s1 : Stp X.K σ H G env H1 G1 env1) (v1 : VlsAt X.K H H1 G1 σ env1 vls vs)
    (h : PostR X.K X.mg W σ H G env Q (lendR Φ vls env1)) (hn : vls.length = n) : spD X.K X.mg n Φ vs H1 Q (WE W σ) := by
  unfold lendR at h
  cases el : lends env1 vls with
  | none => rw [el] at h; exact h.elim
  | some ds =>
    rw [el] at h
    simp only at h
    obtain ⟨G2, g1, g2, g3, g4⟩ := RpWs.frz s1.er.sub (lends_ok s1.er v1.w el)
    have noio : ∀ b, ¬ IoP (ds.map Ar.val) vs b := fun b ⟨j, d, e1, _⟩ => by
      rw [List.getElem?_map] at e1
      cases q : ds[j]? with
      | none => rw [q] at e1; cases e1
      | some x => rw [q] at e1; cases e1
    have ln : (ds.map Ar.val).length = n := by
      rw [List.length_map, ← hn]
      have : ∀ {ls : List Vl} {ds : List D}, lends env1 ls = some ds → ds.length = ls.length := by
        intro ls
        induction ls with
        | nil => intro ds e; cases e; rfl
        | cons l ls ih =>
          intro ds e
          unfold lends at e
          cases e1 : lend1 env1 l with
          | none => rw [e1] at e; cases e
          | some d =>
            cases e2 : lends env1 ls with
            | none => rw [e1, e2] at e; cases e
            | some ds' => rw [e1, e2] at e; cases e; rw [List.length_cons, List.length_cons, ih e2]
      exact this el
    refine ⟨G2, ds.map Ar.val, ln, ⟨g2, g4.vals, fun i j d e p h1 _ h3 _ => (noio p ⟨i, d, h1, h3⟩).elim⟩, ?_⟩
    -- behind the call the lent are own again
    have back : ∀ {H' G' : Hp} {as' : List Ar}, CStp X.K (ds.map Ar.val) vs H1 G2 H' G' as' → ∃ G3, Stp X.K σ H1 G1 env1 H' G3 env1 ∧ (∀ a, (∃ xs, G' a = some (.tup xs)) ∨ (∃ o xs, G' a = some (.frz o (.tup xs))) → G3 a = G' a) ∧ (∀ b, G' b = none → G3 b = none) := by
      intro H' G' as' c
      classical
      refine ⟨fun b => if H1 b ≠ none ∧ G1 b = none then none else G' b, ?_, fun a ha => ?_, fun b hb => ?_⟩
      · have up : Same G1 (fun b => if H1 b ≠ none ∧ G1 b = none then none else G' b) := fun b o q => by
          have : ¬ (H1 b ≠ none ∧ G1 b = none) := fun z => by rw [z.2] at q; cases q
          show (if H1 b ≠ none ∧ G1 b = none then none else G' b) = some o
          rw [if_neg this]
          exact c.gr b o (g1 b o q)
        refine ⟨⟨s1.er.len, fun b o q => ?_, fun i d q => ?_, fun i s d q1 q2 => ?_, s1.er.sep⟩, up, fun b hb hg => if_pos ⟨hb, hg⟩, fun b o q _ => c.keep b o q (noio b), fun _ => Kin.refl _⟩
        · have q : (if H1 b ≠ none ∧ G1 b = none then none else G' b) = some o := q
          split at q
          · cases q
          · exact c.gh b o q
        · obtain ⟨v, w1, w2⟩ := s1.er.val i d q
          exact ⟨v, w1, Rp.mono up d v w2⟩
        · obtain ⟨p, w1, w2, w3⟩ := s1.er.mu i s d q1 q2
          refine ⟨p, w1, if_pos ⟨w3.there, w2⟩, w3.mono ?_ up⟩
          cases z : H1 p with
          | none => exact absurd z w3.there
          | some o => exact c.keep p o z (noio p)
      · show (if H1 a ≠ none ∧ G1 a = none then none else G' a) = G' a
        refine if_neg fun ⟨z1, z2⟩ => ?_
        have notT : ∀ {o : HO}, G2 a = some o → LstAt H1 a → H1 a = some o → False := fun {o} e1 e2 e3 => by
          have e4 := c.gr a o e1
          rcases ha with ⟨xs, ha⟩ | ⟨o', xs, ha⟩ <;> (rw [e4] at ha; cases ha; rcases e2 with ⟨ys, e2⟩ | ⟨ys, e2⟩ <;> (rw [e3] at e2; cases e2))
        cases e2 : G2 a with
        | none =>
          have := c.old a z1 e2
          rcases ha with ⟨xs, ha⟩ | ⟨o', xs, ha⟩ <;> (rw [this] at ha; cases ha)
        | some o =>
          rcases g3 a with z | ⟨z, l⟩
          · rw [z, z2] at e2; cases e2
          · exact notT e2 l (by rw [← z]; exact e2)
      · show (if H1 b ≠ none ∧ G1 b = none then none else G' b) = none
        split
        · rfl
        · exact hb
    cases ef : Φ (ds.map Ar.val) with
    | stk => rw [ef] at h; exact h.elim
    | im d as' =>
      rw [ef] at h
      simp only at h
      split at h
      · rename_i hp
        intro v H' G' c hv
        obtain ⟨G3, st, less, _⟩ := back c
        exact h v H' G3 (s1.trans st r) (Rp.less less d v hp hv)
      · exact h.elim
    | fr d as' =>
      rw [ef] at h
      simp only at h
      split at h
      · rename_i hp
        intro q H' G' c h1 h2 h3
        obtain ⟨G3, st, less, keepN⟩ := back c
        refine h _ H' G3 (s1.trans st r) ⟨q, rfl, s1.free r h1, keepN q h2, ?_⟩
        cases d with
        | lst xs =>
          obtain ⟨ys, e1, e2⟩ := h3
          exact ⟨ys, e1, RpL.less less xs ys hp e2⟩
        | dct ks xs =>
          obtain ⟨kvs, e1, e3, e2⟩ := h3
          exact ⟨kvs, e1, e3, RpL.less less xs _ hp e2⟩
        | _ => cases hp
      · exact h.elim
    | err c =>
      rw [ef] at h
      intro C H' m ke
      refine h C H' m ?_
      have sm : Same H1 H' := fun b o e => ke b o e (noio b)
      exact ⟨G1, s1.trans (Stp.gs s1.er ⟨sm, Same.refl _, s1.er.sub.trans sm, fun _ _ h => h⟩) r⟩
theorem callX_of {H G : Hp} {σ : L2.St} {env : List Sl} {vls : List Vl} {vs : List V} {H1 G1 : Hp} {env1 : List Sl} {Q : VK} (r : ER X.K H G σ env) (s1 : Stp X.K σ H G env H1 G1 env1) (v1 : VlsAt X.K H H1 G1 σ env1 vls vs)
    (h : PostR X.K X.mg W σ H G env Q (callX sg Φ vls env1)) (hn : sg.length = n) : spD X.K X.mg n Φ vs H1 Q (WE W σ) := by
  unfold callX at h
  split at h
  · rename_i c
    simp only [Bool.and_eq_true, decide_eq_true_eq] at c
    exact lend_of r s1 v1 h (c.2.2.trans hn)
  · exact call_of r s1 v1 h hn
theorem ex_call (c : Cal X.prog X.w X.K X.mg X.base k x n Φ) (hr : Room k' X.A) (hk : k ≤ k') (tk : L2N.Takes X W) (hn : sg.length = n) (ha : AX X W (e :: es) Fs) (hg : Gl X x := by rfl) (hdb : (x == ("__debug__" : Str)) = false := by decide) (he : starEach (e :: es) X.env = (false, eval e X.env) :: starEach es X.env := by rfl) (hpl : (backTo pos (starEach es X.env)).any (·.1) = false := by rfl) :
    EX X W (.Call (.Name x p) (e :: es) [] pos) (callF sg Φ Fs) := by
  obtain ⟨f, fd, ps, F, gm, gk, gb⟩ := c
  refine PE.weak (pe_callS F (hr.mono hk) hg gm gk gb (fun σ => L2N.passAt tk σ) ha hdb he hpl) fun σ H Q ⟨G, env, r, h⟩ => ?_
  exact tDA_bind r h fun vls e1 vs H1 G1 s1 v1 p1 => callX_of r s1 v1 p1 hn
end
end HF

set_option Elab.async false
set_option linter.all false
set_option maxRecDepth 100000
set_option maxHeartbeats 4000000
set_option autoImplicit false
namespace HF
open PySem PySem.Spec PyProof.Rows L2
/-! ### what is walked -/
inductive RsS where
  | ok (ds : List D) (env : List Sl)
  | err (c : Str) (env : Option (List Sl))
  | stk
abbrev SFx := List Sl → RsS
/-- the walk J gives ds, while what is frozen in G1 stands -/
structure JOk (K : PySem.W.Frag) (J : It) (ds : List D) (G1 : Hp) : Prop where
  go : ∀ H G i, Same G1 G → Same G H → i < ds.length → J.go i H
  yld : ∀ H G i x H', Same G1 G → Same G H → i < ds.length → J.yld i H x H' → ∃ G' d, ds[i]? = some d ∧ GS H G H' G' ∧ Rp K G' d x
  stop : ∀ H G, Same G1 G → Same G H → J.stop ds.length H
def PostI (K : PySem.W.Frag) (mg : Str → Option Value) (W : WX) (σ : L2.St) (H G : Hp) (env : List Sl) (R : It → Hp → Prop) : RsS → Prop
  | .ok ds env' => ∀ J H' G', Stp K σ H G env H' G' env' → JOk K J ds G' → R J H'
  | .err c e => ∀ C H', mg c = some (.ref C) → ErrAt K σ H G env H' e → W (.ref C) none σ H'
  | .stk => False
def tI (K : PySem.W.Frag) (mg : Str → Option Value) (W : WX) (F : SFx) : TI := fun σ H R => ∃ G env, ER K H G σ env ∧ PostI K mg W σ H G env R (F env)
def SX (X : Cx) (W : WX) (tg iter : Expr) (F : SFx) : Prop := PI X tg iter (tI X.K X.mg W F)
theorem PI.weak {X : Cx} {tg iter : Expr} {t t' : TI} (h : PI X tg iter t) (w : ∀ σ H R, t' σ H R → t σ H R) : PI X tg iter t' := ⟨fun pins s σ H R I q => h.run pins s σ H R I (w σ H R q)⟩
theorem PI.or {X : Cx} {tg iter : Expr} {t t' : TI} (h : PI X tg iter t) (h' : PI X tg iter t') : PI X tg iter (fun σ H R => t σ H R ∨ t' σ H R) := ⟨fun pins s σ H R I q => q.elim (h.run pins s σ H R I) (h'.run pins s σ H R I)⟩
theorem tI_bind {K : PySem.W.Frag} {mg : Str → Option Value} {W : WX} {σ : L2.St} {H G : Hp} {env : List Sl} {F : Fx} {R : It → Hp → Prop} {k : VK} {f : Vl → List Sl → RsS} (r : ER K H G σ env)
    (h : PostI K mg W σ H G env R (match F env with
      | .ok v e => f v e
      | .err c e => .err c e
      | .stk => .stk))
    (st : ∀ vl env1 v H1 G1, F env = .ok vl env1 → Stp K σ H G env H1 G1 env1 → VlAt K H H1 G1 σ env1 vl v → PostI K mg W σ H G env R (f vl env1) → k v H1) : tD K mg W F σ H k := by
  refine ⟨G, env, r, ?_⟩
  cases e : F env with
  | ok vl env1 =>
    rw [e] at h
    exact fun v H1 G1 s v1 => st vl env1 v H1 G1 e s v1 h
  | err c e' =>
    rw [e] at h
    exact h
  | stk =>
    rw [e] at h
    exact h
theorem tI_bindA {K : PySem.W.Frag} {mg : Str → Option Value} {W : WX} {σ : L2.St} {H G : Hp} {env : List Sl} {F : FxL} {R : It → Hp → Prop} {k : List V → Hp → Prop} {f : List Vl → List Sl → RsS} (r : ER K H G σ env)
    (h : PostI K mg W σ H G env R (match F env with
      | .ok v e => f v e
      | .err c e => .err c e
      | .stk => .stk))
    (st : ∀ vls env1 vs H1 G1, Stp K σ H G env H1 G1 env1 → VlsAt K H H1 G1 σ env1 vls vs → PostI K mg W σ H G env R (f vls env1) → k vs H1) : tDA K mg W F σ H k := by
  refine ⟨G, env, r, ?_⟩
  cases e : F env with
  | ok vl env1 =>
    rw [e] at h
    exact fun v H1 G1 s v1 => st vl env1 v H1 G1 s v1 h
  | err c e' =>
    rw [e] at h
    exact h
  | stk =>
    rw [e] at h
    exact h
/-- a list or a tuple, as it stands -/
@[simp] def seqD : D → Option (List D)
  | .lst ds => some ds
  | .tup ds => some ds
  | .scr ns => some (ns.map D.int)
  | _ => none
@[simp] def seqS' (F : Fx)  (env : List Sl) : RsS := match F env with
  | .ok v e => (match v.toIm.bind seqD with
    | some ds => .ok ds e
    | none => .stk)
  | .err c e => .err c e
  | .stk => .stk
section
variable {K : PySem.W.Frag} {G1 : Hp} {a : Addr} {xs : List V} {ds : List D}
theorem jok_list (h : ∀ H G, Same G1 G → Same G H → SqL K H a xs) (r : RpL K G1 ds xs) : JOk K (Itl K a) ds G1 where
  go := fun H G i g s hi => by
    obtain ⟨x, e, _⟩ := r.get (List.getElem?_eq_getElem hi)
    exact ⟨xs, x, h H G g s, e⟩
  yld := fun H G i x H' g s hi y => by
    obtain ⟨rfl, y⟩ := y
    obtain ⟨x', e, hr⟩ := r.get (List.getElem?_eq_getElem hi)
    have := y xs (h _ G g s)
    rw [e] at this
    cases this
    exact ⟨G, ds[i], List.getElem?_eq_getElem hi, GS.refl s, Rp.mono g _ _ hr⟩
  stop := fun H G g s => ⟨xs, h H G g s, by rw [r.length]; exact Nat.le_refl _⟩
theorem jok_tup (h : ∀ H G, Same G1 G → Same G H → SqT K H a xs) (r : RpL K G1 ds xs) : JOk K (Itt K a) ds G1 where
  go := fun H G i g s hi => by
    obtain ⟨x, e, _⟩ := r.get (List.getElem?_eq_getElem hi)
    exact ⟨xs, x, h H G g s, e⟩
  yld := fun H G i x H' g s hi y => by
    obtain ⟨rfl, y⟩ := y
    obtain ⟨x', e, hr⟩ := r.get (List.getElem?_eq_getElem hi)
    have := y xs (h _ G g s)
    rw [e] at this
    cases this
    exact ⟨G, ds[i], List.getElem?_eq_getElem hi, GS.refl s, Rp.mono g _ _ hr⟩
  stop := fun H G g s => ⟨xs, h H G g s, by rw [r.length]; exact Nat.le_refl _⟩
/-- the same from behind -/
theorem jok_rlist (h : ∀ H G, Same G1 G → Same G H → SqL K H a xs) (r : RpL K G1 ds xs) : JOk K (Itv K a xs.length) ds.reverse G1 where
  go := fun H G i g s hi => by
    rw [List.length_reverse] at hi
    have hl := r.length
    obtain ⟨x, e, _⟩ := r.get (List.getElem?_eq_getElem (show xs.length - 1 - i < ds.length by omega))
    exact ⟨by omega, xs, x, h H G g s, e⟩
  yld := fun H G i x H' g s hi y => by
    obtain ⟨rfl, y⟩ := y
    rw [List.length_reverse] at hi
    have hl := r.length
    have hi' : xs.length - 1 - i < ds.length := by omega
    obtain ⟨x', e, hr⟩ := r.get (List.getElem?_eq_getElem hi')
    have := y xs (h _ G g s)
    rw [e] at this
    cases this
    refine ⟨G, ds[xs.length - 1 - i], ?_, GS.refl s, Rp.mono g _ _ hr⟩
    rw [List.getElem?_reverse hi, ← hl, List.getElem?_eq_getElem hi']
  stop := fun H G g s => by rw [List.length_reverse, ← r.length]; exact Nat.le_refl _
theorem jok_rtup (h : ∀ H G, Same G1 G → Same G H → SqT K H a xs) (r : RpL K G1 ds xs) : JOk K (RT.ItvT K a xs.length) ds.reverse G1 where
  go := fun H G i g s hi => by
    rw [List.length_reverse] at hi
    have hl := r.length
    obtain ⟨x, e, _⟩ := r.get (List.getElem?_eq_getElem (show xs.length - 1 - i < ds.length by omega))
    exact ⟨by omega, xs, x, h H G g s, e⟩
  yld := fun H G i x H' g s hi y => by
    obtain ⟨rfl, y⟩ := y
    rw [List.length_reverse] at hi
    have hl := r.length
    have hi' : xs.length - 1 - i < ds.length := by omega
    obtain ⟨x', e, hr⟩ := r.get (List.getElem?_eq_getElem hi')
    have := y xs (h _ G g s)
    rw [e] at this
    cases this
    refine ⟨G, ds[xs.length - 1 - i], ?_, GS.refl s, Rp.mono g _ _ hr⟩
    rw [List.getElem?_reverse hi, ← hl, List.getElem?_eq_getElem hi']
  stop := fun H G g s => by rw [List.length_reverse, ← r.length]; exact Nat.le_refl _
theorem jok_range (lo : Int) (n : Nat) : JOk K (Itr lo n) ((List.range n).map fun (i : Nat) => D.int (lo + i)) G1 where
  go := fun H G i g s hi => by
    have hi' : i < n := by simpa using hi
    exact hi'
  yld := fun H G i x H' g s hi y => by
    obtain ⟨rfl, rfl⟩ := y
    refine ⟨G, .int (lo + i), ?_, GS.refl s, rfl⟩
    have hi' : i < n := by simpa using hi
    rw [List.getElem?_map, List.getElem?_range hi']
    rfl
  stop := fun H G g s => by show n ≤ _; simp
theorem jok_rangeC (lo c : Int) (n : Nat) : JOk K (Itc lo c n) ((List.range n).map fun (i : Nat) => D.int (lo + i * c)) G1 where
  go := fun H G i g s hi => by
    have hi' : i < n := by simpa using hi
    exact hi'
  yld := fun H G i x H' g s hi y => by
    obtain ⟨rfl, rfl⟩ := y
    refine ⟨G, .int (lo + i * c), ?_, GS.refl s, rfl⟩
    have hi' : i < n := by simpa using hi
    rw [List.getElem?_map, List.getElem?_range hi']
    rfl
  stop := fun H G g s => by show n ≤ _; simp
theorem jok_str (z : Str) : JOk K (Its z) (z.cps.toList.map fun c => D.str ⟨#[c]⟩) G1 where
  go := fun H G i g s hi => by
    have hi' : i < z.cps.size := by simpa using hi
    exact hi'
  yld := fun H G i x H' g s hi y => by
    obtain ⟨rfl, c, e, rfl⟩ := y
    refine ⟨G, .str ⟨#[c]⟩, ?_, GS.refl s, rfl⟩
    rw [List.getElem?_map, Array.getElem?_toList, e]
    rfl
  stop := fun H G g s => by show z.cps.size ≤ _; simp
end
/-- pairs of two lists -/
def zipD (as bs : List D) : List D := (as.zip bs).map fun p => .tup [p.1, p.2]
theorem jok_zip {K : PySem.W.Frag} {G1 : Hp} {a b : Addr} {xs ys : List V} {ds es : List D} {P : Hp → Addr → List V → Prop} {J : It} (r : RpL K G1 ds xs) (q : RpL K G1 es ys) (h : ∀ H G, Same G1 G → Same G H → P H a xs ∧ P H b ys)
    (jg : J.go = fun i H => ∃ (xs ys : List V) (x y : V), P H a xs ∧ P H b ys ∧ xs[i]? = some x ∧ ys[i]? = some y)
    (jy : J.yld = fun i H v H' => ∃ T x y, v = .ref T ∧ H T = none ∧ H' = upd H T (.tup [x, y]) ∧ (∀ xs, P H a xs → xs[i]? = some x) ∧ ∀ ys, P H b ys → ys[i]? = some y)
    (js : J.stop = fun i H => ∃ xs ys : List V, P H a xs ∧ P H b ys ∧ (xs.length ≤ i ∨ ys.length ≤ i)) : JOk K J (zipD ds es) G1 where
  go := fun H G i g s hi => by
    rw [jg]
    have hi : i < ds.length ∧ i < es.length := by
      unfold zipD at hi
      rw [List.length_map, List.length_zip] at hi
      omega
    obtain ⟨x, e1, _⟩ := r.get (List.getElem?_eq_getElem hi.1)
    obtain ⟨y, e2, _⟩ := q.get (List.getElem?_eq_getElem hi.2)
    exact ⟨xs, ys, x, y, (h H G g s).1, (h H G g s).2, e1, e2⟩
  yld := fun H G i v H' g s hi y => by
    rw [jy] at y
    obtain ⟨T, x, y, rfl, hT, rfl, h1, h2⟩ := y
    have hi : i < ds.length ∧ i < es.length := by
      unfold zipD at hi
      rw [List.length_map, List.length_zip] at hi
      omega
    obtain ⟨x', e1, q1⟩ := r.get (List.getElem?_eq_getElem hi.1)
    obtain ⟨y', e2, q2⟩ := q.get (List.getElem?_eq_getElem hi.2)
    have z1 := h1 xs (h H G g s).1
    have z2 := h2 ys (h H G g s).2
    rw [e1] at z1
    rw [e2] at z2
    cases z1
    cases z2
    have gs := GS.new (o := .tup [x, y]) s hT
    refine ⟨_, .tup [ds[i]'hi.1, es[i]'hi.2], ?_, gs, T, [x, y], rfl, SqT.of upd_same, ?_⟩
    · unfold zipD
      have hz : (ds.zip es)[i]? = some (ds[i]'hi.1, es[i]'hi.2) := List.getElem?_zip_eq_some.mpr ⟨List.getElem?_eq_getElem hi.1, List.getElem?_eq_getElem hi.2⟩
      rw [List.getElem?_map, hz]
      rfl
    · exact ⟨x, [y], rfl, Rp.mono (g.trans gs.gg) _ _ q1, y, [], rfl, Rp.mono (g.trans gs.gg) _ _ q2, rfl⟩
  stop := fun H G g s => by
    rw [js]
    refine ⟨xs, ys, (h H G g s).1, (h H G g s).2, ?_⟩
    unfold zipD
    rw [List.length_map, List.length_zip, r.length, q.length]
    omega
/-- a frozen list or tuple -/
theorem Rp.seq {K : PySem.W.Frag} {G : Hp} {d : D} {v : V} {ds : List D} (h : Rp K G d v) (e : seqD d = some ds) : ∃ a xs, v = .ref a ∧ RpL K G ds xs ∧ ((∀ H G', Same G G' → Same G' H → SqL K H a xs) ∨ ((∃ es, d = .tup es) ∧ ∀ H G', Same G G' → Same G' H → SqT K H a xs)) := by
  cases d with
  | lst es =>
    cases e
    obtain ⟨a, xs, rfl, h1, h2⟩ := h
    exact ⟨a, xs, rfl, h2, .inl fun H G' g s => SqL.of (s _ _ (g _ _ h1))⟩
  | tup es =>
    cases e
    obtain ⟨a, xs, rfl, h1, h2⟩ := h
    exact ⟨a, xs, rfl, h2, .inr ⟨⟨_, rfl⟩, fun H G' g s => Same.sqT s (Same.sqT g h1)⟩⟩
  | scr ns =>
    cases e
    obtain ⟨a, rfl, h1⟩ := h
    exact ⟨a, _, rfl, RpL.ints ns, .inl fun H G' g s => s.seq (g.seq h1)⟩
  | _ => cases e
section
variable {X : Cx} {W : WX} {tg e : Expr} {F : Fx} {p pos : Pos}
theorem sx_seq (he : EX X W e F) : SX X W tg e (seqS' F) := by
  refine PI.weak (PI.or (pi_list he) (pi_tup he)) fun σ H R ⟨G, env, r, h⟩ => ?_
  have key : ∀ {k1 k2 : VK}, (∀ vl env1 v H1 G1, F env = .ok vl env1 → Stp X.K σ H G env H1 G1 env1 → VlAt X.K H H1 G1 σ env1 vl v → PostI X.K X.mg W σ H G env R (match vl.toIm.bind seqD with
    | some ds => .ok ds env1
    | none => .stk) → k1 v H1) → tD X.K X.mg W F σ H k1 := fun {k1 k2} st => tI_bind r h st
  cases e1 : F env with
  | stk => simp only [seqS', e1] at h; exact h.elim
  | err c e' => simp only [seqS', e1] at h; exact .inl ⟨G, env, r, by rw [e1]; exact h⟩
  | ok vl env1 =>
    cases e2 : vl.toIm with
    | none => simp only [seqS', e1, e2] at h; exact h.elim
    | some d =>
      cases e3 : seqD d with
      | none => simp only [seqS', e1, e2, Option.bind_some, e3] at h; exact h.elim
      | some ds =>
        simp only [seqS', e1, e2, Option.bind_some, e3] at h
        by_cases ht : ∃ es, d = .tup es
        · refine .inr ⟨G, env, r, ?_⟩
          rw [e1]
          intro v H1 G1 s v1
          obtain ⟨G2, s2, g2, k2, hr⟩ := v1.w.imm s r e2
          obtain ⟨a, xs, rfl, hx, hs⟩ := hr.seq e3
          rcases hs with hs | ⟨_, hs⟩
          · obtain ⟨es, rfl⟩ := ht
            obtain ⟨a', xs', ea, q1, q2⟩ := hr
            cases ea
            cases e3
            exact ⟨a, rfl, ⟨xs', Same.sqT s2.er.sub q1⟩, h _ H1 G2 s2 (jok_tup (fun H' G' g s => Same.sqT s (Same.sqT g q1)) q2)⟩
          · exact ⟨a, rfl, ⟨xs, hs H1 G2 (Same.refl _) s2.er.sub⟩, h _ H1 G2 s2 (jok_tup hs hx)⟩
        · refine .inl ⟨G, env, r, ?_⟩
          rw [e1]
          intro v H1 G1 s v1
          obtain ⟨G2, s2, g2, k2, hr⟩ := v1.w.imm s r e2
          obtain ⟨a, xs, rfl, hx, hs⟩ := hr.seq e3
          rcases hs with hs | ⟨ht', hs⟩
          · exact ⟨a, rfl, ⟨xs, hs H1 G2 (Same.refl _) s2.er.sub⟩, h _ H1 G2 s2 (jok_list hs hx)⟩
          · exact absurd ht' ht
@[simp] def strS' (F : Fx)  (env : List Sl) : RsS := match F env with
  | .ok v e => (match v with
    | .im (.str z) => .ok (z.cps.toList.map fun c => D.str ⟨#[c]⟩) e
    | _ => .stk)
  | .err c e => .err c e
  | .stk => .stk
theorem sx_str (he : EX X W e F) : SX X W tg e (strS' F) := by
  refine PI.weak (pi_str he) fun σ H R ⟨G, env, r, h⟩ => ?_
  refine tI_bind r h fun vl env1 v H1 G1 _ s v1 p => ?_
  cases vl with
  | im d =>
    cases d with
    | str z => exact ⟨z, v1, p _ H1 G1 s (jok_str z)⟩
    | _ => exact p.elim
  | _ => exact p.elim
@[simp] def revS' (F : Fx)  (env : List Sl) : RsS := match F env with
  | .ok v e => (match v.toIm.bind seqD with
    | some ds => .ok ds.reverse e
    | none => .stk)
  | .err c e => .err c e
  | .stk => .stk
theorem sx_rev (hm : X.mg "reversed" = none) (he : EX X W e F) (hg : Gl X "reversed" := by rfl) (hs : starEach [e] X.env = (false, eval e X.env) :: starEach [] X.env := by rfl) : SX X W tg (.Call (.Name "reversed" p) [e] [] pos) (revS' F) := by
  refine PI.weak (RT.pi_revA hg hm he hs) fun σ H R ⟨G, env, r, h⟩ => ?_
  refine tI_bind r h fun vl env1 v H1 G1 _ s v1 p => ?_
  cases e2 : vl.toIm with
  | none => rw [e2] at p; exact p.elim
  | some d =>
    cases e3 : seqD d with
    | none => simp only [e2, Option.bind_some, e3] at p; exact p.elim
    | some ds =>
      simp only [e2, Option.bind_some, e3] at p
      obtain ⟨G2, s2, g2, k2, hr⟩ := v1.w.imm s r e2
      obtain ⟨a, xs, rfl, hx, hs⟩ := hr.seq e3
      rcases hs with hs | ⟨_, hs⟩
      · exact ⟨a, xs, rfl, .inl ⟨hs H1 G2 (Same.refl _) s2.er.sub, p _ H1 G2 s2 (jok_rlist hs hx)⟩⟩
      · exact ⟨a, xs, rfl, .inr ⟨hs H1 G2 (Same.refl _) s2.er.sub, p _ H1 G2 s2 (jok_rtup hs hx)⟩⟩
end
/-! range -/
@[simp] def rngB (i : Int) : Bool := decide (i.natAbs < 4611686018427387904)
theorem rngB_at {i : Int} (h : rngB i = true) : -(2 ^ 62) ≤ i ∧ i < 2 ^ 62 := by
  have h := of_decide_eq_true h
  omega
def rgD (lo : Int) (n : Nat) : List D := (List.range n).map fun (i : Nat) => D.int (lo + i)
@[simp] def rng1 : List D → Option (List D)
  | [.int j] => if rngB j then some (rgD 0 j.toNat) else none
  | _ => none
@[simp] def rng2 : List D → Option (List D)
  | [.int i, .int j] => if rngB i && rngB j then some (rgD i (j - i).toNat) else none
  | _ => none
/-- downward -/
@[simp] def rng3 : List D → Option (List D)
  | [.int i, .int j, .int c] => if rngB i && rngB j && decide (c = -1) then some ((List.range (i - j).toNat).map fun (k : Nat) => D.int (i + k * (-1))) else none
  | _ => none
@[simp] def rngS' (g : List D → Option (List D)) (Fs : FxL)  (env : List Sl) : RsS := match Fs env with
  | .ok vls e => (match (Vls.rd e vls).bind g with
    | some ds => .ok ds e
    | none => .stk)
  | .err c e => .err c e
  | .stk => .stk
theorem rng_step {K : PySem.W.Frag} {mg : Str → Option Value} {W : WX} {σ : L2.St} {H G H1 G1 : Hp} {env env1 : List Sl} {R : It → Hp → Prop} {vls : List Vl} {vs : List V} {g : List D → Option (List D)} (s : Stp K σ H G env H1 G1 env1) (v1 : VlsAt K H H1 G1 σ env1 vls vs)
    (p : PostI K mg W σ H G env R (match (Vls.rd env1 vls).bind g with
    | some ds => .ok ds env1
    | none => .stk)) : ∃ ds es, RdsAt K H1 G1 ds vs ∧ g ds = some es ∧ ∀ J, JOk K J es G1 → R J H1 := by
  cases e2 : Vls.rd env1 vls with
  | none => rw [e2] at p; exact p.elim
  | some ds =>
    cases e3 : g ds with
    | none => simp only [e2, Option.bind_some, e3] at p; exact p.elim
    | some es =>
      simp only [e2, Option.bind_some, e3] at p
      exact ⟨ds, es, VlsAt.read s.er v1 e2, e3, fun J j => p J H1 G1 s j⟩
theorem rng1_of {ds es : List D} (h : rng1 ds = some es) : ∃ j, ds = [.int j] ∧ -(2 ^ 62) ≤ j ∧ j < 2 ^ 62 ∧ es = rgD 0 j.toNat := by
  unfold rng1 at h
  split at h
  · rename_i j
    split at h
    · rename_i c
      have c := rngB_at c
      exact ⟨j, rfl, c.1, c.2, (Option.some.inj h).symm⟩
    · cases h
  · cases h
theorem rng2_of {ds es : List D} (h : rng2 ds = some es) : ∃ i j, ds = [.int i, .int j] ∧ (-(2 ^ 62) ≤ i ∧ i < 2 ^ 62 ∧ -(2 ^ 62) ≤ j ∧ j < 2 ^ 62) ∧ es = rgD i (j - i).toNat := by
  unfold rng2 at h
  split at h
  · rename_i i j
    split at h
    · rename_i c
      simp only [Bool.and_eq_true] at c
      have c1 := rngB_at c.1
      have c2 := rngB_at c.2
      exact ⟨i, j, rfl, ⟨c1.1, c1.2, c2.1, c2.2⟩, (Option.some.inj h).symm⟩
    · cases h
  · cases h
theorem rng3_of {ds es : List D} (h : rng3 ds = some es) : ∃ i j, ds = [.int i, .int j, .int (-1)] ∧ (-(2 ^ 62) ≤ i ∧ i < 2 ^ 62 ∧ -(2 ^ 62) ≤ j ∧ j < 2 ^ 62) ∧ es = (List.range (i - j).toNat).map fun (k : Nat) => D.int (i + k * (-1)) := by
  unfold rng3 at h
  split at h
  · rename_i i j k
    split at h
    · rename_i c
      simp only [Bool.and_eq_true] at c
      have c1 := rngB_at c.1.1
      have c2 := rngB_at c.1.2
      have c3 := of_decide_eq_true c.2
      subst c3
      exact ⟨i, j, rfl, ⟨c1.1, c1.2, c2.1, c2.2⟩, (Option.some.inj h).symm⟩
    · cases h
  · cases h
section
variable {X : Cx} {W : WX} {tg a b c : Expr} {Fs : FxL} {p pos : Pos}
theorem sx_range1 (hm : X.mg "range" = none) (ha : AX X W [a] Fs) (hg : Gl X "range" := by rfl) (hs : starEach [a] X.env = [(false, eval a X.env)] := by rfl) : SX X W tg (.Call (.Name "range" p) [a] [] pos) (rngS' rng1 Fs) := by
  refine PI.weak (pi_range1 hg hm ha hs) fun σ H R ⟨G, env, r, h⟩ => ?_
  refine tI_bindA r h fun vls env1 vs H1 G1 s v1 p => ?_
  obtain ⟨ds, es, rd, e, k⟩ := rng_step s v1 p
  obtain ⟨j, rfl, h1, h2, rfl⟩ := rng1_of e
  obtain ⟨x, rfl, hx⟩ := rd.one
  exact ⟨j, by rw [hx.int], h1, h2, k _ (jok_range 0 j.toNat)⟩
theorem sx_range2 (hm : X.mg "range" = none) (ha : AX X W [a, b] Fs) (hg : Gl X "range" := by rfl) (hs : starEach [a, b] X.env = [(false, eval a X.env), (false, eval b X.env)] := by rfl) (hs2 : starEach [b] X.env = [(false, eval b X.env)] := by rfl) : SX X W tg (.Call (.Name "range" p) [a, b] [] pos) (rngS' rng2 Fs) := by
  refine PI.weak (pi_range2 hg hm ha hs hs2) fun σ H R ⟨G, env, r, h⟩ => ?_
  refine tI_bindA r h fun vls env1 vs H1 G1 s v1 p => ?_
  obtain ⟨ds, es, rd, e, k⟩ := rng_step s v1 p
  obtain ⟨i, j, rfl, h1, rfl⟩ := rng2_of e
  obtain ⟨x, y, rfl, hx, hy⟩ := rd.two
  exact ⟨i, j, by rw [hx.int, hy.int], h1, k _ (jok_range i (j - i).toNat)⟩
theorem sx_range3 (hm : X.mg "range" = none) (ha : AX X W [a, b, c] Fs) (hg : Gl X "range" := by rfl) (hs : starEach [a, b, c] X.env = (false, eval a X.env) :: starEach [b, c] X.env := by rfl) (hpl : (backTo pos (starEach [b, c] X.env)).any (·.1) = false := by rfl) : SX X W tg (.Call (.Name "range" p) [a, b, c] [] pos) (rngS' rng3 Fs) := by
  refine PI.weak (pi_range3 hg hm ha hs hpl) fun σ H R ⟨G, env, r, h⟩ => ?_
  refine tI_bindA r h fun vls env1 vs H1 G1 s v1 p => ?_
  obtain ⟨ds, es, rd, e, k⟩ := rng_step s v1 p
  obtain ⟨i, j, rfl, h1, rfl⟩ := rng3_of e
  obtain ⟨x, t, rfl, hx, y, t', rfl, hy, z, t'', rfl, hz, ht⟩ := rd
  rw [show t'' = [] from ht]
  exact ⟨i, j, -1, (i - j).toNat, by rw [hx.int, hy.int, hz.int], RgC.neg h1.1 h1.2.1 h1.2.2.1 h1.2.2.2, k _ (jok_rangeC i (-1) _)⟩
end
/-! zip -/
@[simp] def zipS' (Fs : FxL)  (env : List Sl) : RsS := match Fs env with
  | .ok vls e => (match Vls.toIm vls with
    | some [.tup ds, .tup es] => .ok (zipD ds es) e
    | some [.lst ds, .lst es] => .ok (zipD ds es) e
    | _ => .stk)
  | .err c e => .err c e
  | .stk => .stk
section
variable {X : Cx} {W : WX} {e e2 : Expr} {Fs : FxL} {p pos tpos : Pos} {elts : List Expr} {kk : Nat}
theorem sx_zip (hm : X.mg "zip" = none) (ha : AX X W [e, e2] Fs) (hg : Gl X "zip" := by rfl) (hs : starEach [e, e2] X.env = (false, eval e X.env) :: starEach [e2] X.env := by rfl) (hpl : (backTo pos (starEach [e2] X.env)).any (·.1) = false := by rfl) :
    SX X W (.Tuple elts kk tpos) (.Call (.Name "zip" p) [e, e2] [] pos) (zipS' Fs) := by
  refine PI.weak (RZ.pi_zipA hg hm ha hs hpl) fun σ H R ⟨G, env, r, h⟩ => ?_
  refine tI_bindA r h fun vls env1 vs H1 G1 s v1 p => ?_
  cases e2 : Vls.toIm vls with
  | none => rw [e2] at p; exact p.elim
  | some ds =>
    simp only [e2] at p
    obtain ⟨G2, s2, g2, k2, hr⟩ := VlsW.imm r v1.w s e2
    split at p
    · rename_i ds es q
      cases q
      obtain ⟨x, t, rfl, ⟨a, xs, rfl, a1, a2⟩, y, t', rfl, ⟨b, ys, rfl, b1, b2⟩, ht⟩ := hr
      rw [show t' = [] from ht]
      refine ⟨a, b, xs, ys, rfl, .inr ⟨Same.sqT s2.er.sub a1, Same.sqT s2.er.sub b1, p _ H1 G2 s2 ?_⟩⟩
      exact jok_zip (P := fun H a xs => SqT X.K H a xs) a2 b2 (fun H G g s => ⟨Same.sqT s (Same.sqT g a1), Same.sqT s (Same.sqT g b1)⟩) rfl rfl rfl
    · rename_i ds es q
      cases q
      obtain ⟨x, t, rfl, ⟨a, xs, rfl, a1, a2⟩, y, t', rfl, ⟨b, ys, rfl, b1, b2⟩, ht⟩ := hr
      rw [show t' = [] from ht]
      refine ⟨a, b, xs, ys, rfl, .inl ⟨SqL.of (s2.er.sub _ _ a1), SqL.of (s2.er.sub _ _ b1), p _ H1 G2 s2 ?_⟩⟩
      exact jok_zip (P := fun H a xs => SqL X.K H a xs) a2 b2 (fun H G g s => ⟨SqL.of (s _ _ (g _ _ a1)), SqL.of (s _ _ (g _ _ b1))⟩) rfl rfl rfl
    · exact p.elim
end
end HF

set_option Elab.async false
set_option linter.all false
set_option maxRecDepth 100000
set_option maxHeartbeats 4000000
set_option autoImplicit false
namespace HF
open PySem PySem.Spec PyProof.Rows L2
/-! ### targets -/
abbrev TFx := D → List Sl → Option (List Sl)
@[simp] def tgN (i : Nat)  (d : D) (e : List Sl) : Option (List Sl) := setE i (.im d) e
@[simp] def setsE : List Nat → List D → List Sl → Option (List Sl)
  | [], [], e => some e
  | i :: is, d :: ds, e => (setE i (.im d) e).bind (setsE is ds)
  | _, _, _ => none
@[simp] def tgT (is : List Nat)  (d : D) (e : List Sl) : Option (List Sl) := match d with
  | .tup ds => setsE is ds e
  | _ => none
/-- a target -/
def GX (X : Cx) (tg : Expr) (TF : TFx) : Prop := ∃ g : TG, PG X tg g ∧ ∀ (H0 G0 : Hp) (pa : Nat → Option Addr) (H G : Hp) (σ : L2.St) (env e' : List Sl) (d : D) (v : V) (Q : L2.St → Hp → Prop),
  SR X.K H0 G0 pa H G σ env → Rp X.K G d v → TF d env = some e' → (∀ σ', SR X.K H0 G0 pa H G σ' e' → Q σ' H) → g v σ H Q
theorem SR.setIm {K : PySem.W.Frag} {H0 G0 H G : Hp} {pa : Nat → Option Addr} {σ : L2.St} {env e' : List Sl} {i : Nat} {d : D} {v : V} (r : SR K H0 G0 pa H G σ env) (h : Rp K G d v) (e : HF.setE i (.im d) env = some e') : SR K H0 G0 pa H G (σ.set i (some v)) e' := by
  unfold HF.setE at e
  simp only [Vl.st] at e
  split at e
  · cases e
  · rename_i c
    cases e
    cases q : env[i]? with
    | none => rw [q] at c; exact absurd rfl c
    | some t =>
      rw [q] at c
      exact r.set q (fun d z => by rw [z] at c; exact c rfl) h
section
variable {X : Cx}
theorem gx_name {i : Nat} {x : Str} {pos : Pos} (hN : X.N.Nodup) (hi : X.N[i]? = some x := by rfl) (hx : Loc X.env.scope x := by first | exact .inl rfl | exact .inr rfl) (hf : X.fn x = true ∨ X.env.scope.names.lookup x = some .local := by first | exact .inl rfl | exact .inr rfl) : GX X (.Name x pos) (tgN i) :=
  ⟨gName i, pg_name hN hi hx hf, fun H0 G0 pa H G σ env e' d v Q r hv e k => k _ (r.setIm hv e)⟩
/-- names of a written tuple -/
def GXs (X : Cx) (tgs : List Expr) (is : List Nat) : Prop := ∃ g : TGs, PGs X tgs g ∧ ∀ (H0 G0 : Hp) (pa : Nat → Option Addr) (H G : Hp) (σ : L2.St) (env e' : List Sl) (ds : List D) (vs : List V) (Q : L2.St → Hp → Prop),
  SR X.K H0 G0 pa H G σ env → RpL X.K G ds vs → setsE is ds env = some e' → (∀ σ', SR X.K H0 G0 pa H G σ' e' → Q σ' H) → g vs σ H Q
theorem gxs_nil : GXs X [] [] := ⟨gNil, pgs_nil, fun H0 G0 pa H G σ env e' ds vs Q r hv e k => by
  cases ds with
  | nil => cases e; exact ⟨hv, k σ r⟩
  | cons d ds => cases e⟩
theorem gxs_cons {i : Nat} {is : List Nat} {x : Str} {pos : Pos} {tgs : List Expr} (hN : X.N.Nodup) (h : GXs X tgs is) (hi : X.N[i]? = some x := by rfl) (hx : Loc X.env.scope x := by first | exact .inl rfl | exact .inr rfl) (hf : X.fn x = true ∨ X.env.scope.names.lookup x = some .local := by first | exact .inl rfl | exact .inr rfl) (hs : (assignEach (.Name x pos :: tgs) X.env).map (·.2) = assign (.Name x pos) X.env :: (assignEach tgs X.env).map (·.2) := by rfl) :
    GXs X (.Name x pos :: tgs) (i :: is) := by
  obtain ⟨g, hg, hk⟩ := h
  refine ⟨gCons (gName i) g, pgs_cons (pg_name hN hi hx hf) hg hs, fun H0 G0 pa H G σ env e' ds vs Q r hv e k => ?_⟩
  cases ds with
  | nil => cases e
  | cons d ds =>
    obtain ⟨v, rest, rfl, h1, h2⟩ := hv
    have e : (HF.setE i (.im d) env).bind (setsE is ds) = some e' := e
    cases e1 : HF.setE i (.im d) env with
    | none => rw [e1] at e; cases e
    | some env1 =>
      rw [e1] at e
      exact ⟨v, rest, rfl, hk H0 G0 pa H G _ env1 e' ds rest Q (r.setIm h1 e1) h2 e k⟩
theorem setsE_len : ∀ {is : List Nat} {ds : List D} {e e' : List Sl}, setsE is ds e = some e' → ds.length = is.length
  | [], [], _, _, _ => rfl
  | [], d :: ds, _, _, h => by cases h
  | i :: is, [], _, _, h => by cases h
  | i :: is, d :: ds, e, e', h => by
    have h : (setE i (.im d) e).bind (setsE is ds) = some e' := h
    cases e1 : setE i (.im d) e with
    | none => rw [e1] at h; cases h
    | some e2 =>
      rw [e1] at h
      rw [List.length_cons, List.length_cons, setsE_len h]
theorem gx_tup {is : List Nat} {es : List Expr} {k : Nat} {pos : Pos} (hc : X.calm = true) (h : GXs X es is) (hn : (assignEach es X.env).length = is.length := by rfl) (hst : (assignEach es X.env).findIdx? (·.1) = none := by rfl) : GX X (.Tuple es k pos) (tgT is) := by
  obtain ⟨g, hg, hk⟩ := h
  refine ⟨_, pg_tup hc hg hn hst, fun H0 G0 pa H G σ env e' d v Q r hv e k => ?_⟩
  cases d with
  | tup ds =>
    obtain ⟨a, xs, rfl, h1, h2⟩ := hv
    have e : setsE is ds env = some e' := e
    exact ⟨a, xs, rfl, Same.sqT r.er.sub h1, by rw [h2.length, setsE_len e], hk H0 G0 pa H G σ env e' ds xs Q r h2 e k⟩
  | _ => cases e
end
/-! ### a, b = e -/
@[simp] def unpS (TF : TFx) (F : Fx)  (env : List Sl) : Out := match F env with
  | .ok v e => (match v.toIm.bind fun d => TF d e with
    | some e' => .nx e'
    | none => .stk)
  | .err c e => .err c e
  | .stk => .stk
theorem SR.frz {K : PySem.W.Frag} {H0 G0 H0' G0' H G G' : Hp} {pa : Nat → Option Addr} {σ : L2.St} {env : List Sl} (r : SR K H0 G0 pa H G σ env) (er : ER K H G' σ env) (g : Same G G') (o : ∀ b, H0 b ≠ none → G' b = G b) : SR K H0 G0 pa H G' σ env :=
  ⟨er, r.gr.trans g, fun b hb hg => by rw [o b hb]; exact r.old b hb hg, r.keep, r.own, r.io, r.iof⟩
section
variable {X : Cx} {W : WX}
theorem st_unp {tg e : Expr} {F : Fx} {TF : TFx} {pos : Pos} (he : EX X W e F) (hg : GX X tg TF) (hs : swapsWithSole [tg] e pos.line X.env = pure false := by rfl) (hw : swappedStores [tg] e X.env = pure none := by rfl)
    (h1 : (assignEach [tg] X.env).map (·.2) = [assign tg X.env] := by rfl) : ST X W (.Assign [tg] e pos) (unpS TF F) := by
  obtain ⟨g, hg, hk⟩ := hg
  intro H0 G0 pa
  refine PS.weak (ps_asg he hg hs hw h1) fun D σ H ⟨G, env, r, h⟩ => ?_
  refine SR.bind r h fun vl env1 v H1 G1 _ s v1 r1 p => ?_
  cases e1 : vl.toIm with
  | none => simp only [e1] at p; exact p.elim
  | some d =>
    cases e2 : TF d env1 with
    | none => simp only [e1, Option.bind_some, e2] at p; exact p.elim
    | some e' =>
      simp only [e1, Option.bind_some, e2] at p
      obtain ⟨G2, s2, g2, k2, hr⟩ := v1.w.imm s r.er e1
      exact hk H0 G0 pa H1 G2 σ env1 e' d v _ (r.step s2) hr e2 fun σ' r' => p σ' H1 G2 r'
end
/-! ### for -/
@[simp] def forL (TF : TFx) (S : Sx) : List D → List Sl → Out
  | [], e => .nx e
  | d :: r, e => match TF d e with
    | none => .stk
    | some e1 => (match S e1 with
      | .nx e2 => forL TF S r e2
      | .ct e2 => forL TF S r e2
      | .bk e2 => .nx e2
      | .rt v e2 => .rt v e2
      | .err c e2 => .err c e2
      | .stk => .stk)
@[simp] def forS (SF : SFx) (TF : TFx) (S : Sx)  (env : List Sl) : Out := match SF env with
  | .ok ds e => forL TF S ds e
  | .err c e => .err c e
  | .stk => .stk
section
variable {X : Cx} {W : WX}
/-- more is frozen at the start -/
theorem SR.base {K : PySem.W.Frag} {H0 G0 H G H1 G1 : Hp} {pa : Nat → Option Addr} {σ σ1 : L2.St} {env env1 : List Sl} (r0 : SR K H0 G0 pa H1 G1 σ1 env1) : (SR K H0 G1 pa H G σ env → SR K H0 G0 pa H G σ env) ∧ (SR K H0 G0 pa H G σ env → Same G1 G → SR K H0 G1 pa H G σ env) :=
  ⟨fun r => ⟨r.er, r0.gr.trans r.gr, fun b hb hg => r.old b hb (r0.old b hb hg), r.keep, r.own, r.io, r.iof⟩,
    fun r g => ⟨r.er, g, fun b hb hg => r.old b hb (r0.gr.free hg), r.keep, r.own, r.io, r.iof⟩⟩
theorem st_for {tg iter : Expr} {body : List Stmt} {SF : SFx} {TF : TFx} {S : Sx} {pos : Pos} (hp : PassesOwn (model X.prog X.w) X.A X.env X.xe) (hc : X.calm = true) (hi : SX X W tg iter SF) (hg : GX X tg TF) (hb : STs X W body S)
    (hs : ∀ x, foldedSetIterable iter X.env x = pure x := by intro _; rfl) : ST X W (.For tg iter body [] pos) (forS SF TF S) := by
  obtain ⟨g, hg, hk⟩ := hg
  intro H0 G0 pa
  -- the body is run with all that is frozen at the loop's start as its base
  have hb' : PSs X body (fun D σ H => ∃ G1 : Hp, tS X.K X.mg W H0 G1 pa S D σ H) := ⟨fun pins s σ H D I ⟨G1, q⟩ => (hb H0 G1 pa).run pins s σ H D I q⟩
  refine PS.weak (ps_for hp hc hi hg hb' hs) fun D σ H ⟨G, env, r, h⟩ => ?_
  refine ⟨G, env, r.er, ?_⟩
  cases e1 : SF env with
  | stk => simp only [forS, e1] at h; exact h.elim
  | err c e' =>
    simp only [forS, e1] at h
    intro C H' m ea
    refine h C σ H' m ?_
    cases e' with
    | some e' => obtain ⟨G', s⟩ := ea; exact ⟨G', r.step s⟩
    | none => exact fun b o q n => ea b o (r.keep b o q n) (r.notMu q n)
  | ok ds env1 =>
    simp only [forS, e1] at h
    intro J H1 G1 s jok
    have r1 := r.step s
    have base : ∀ {H' G' : Hp} {σ' : L2.St} {e' : List Sl}, (SR X.K H0 G1 pa H' G' σ' e' → SR X.K H0 G0 pa H' G' σ' e') ∧ (SR X.K H0 G0 pa H' G' σ' e' → Same G1 G' → SR X.K H0 G1 pa H' G' σ' e') := fun {H' G' σ' e'} => SR.base r1
    refine ⟨fun i m σ H => m = ds.length - i ∧ i ≤ ds.length ∧ ∃ G e, SR X.K H0 G1 pa H G σ e ∧ PostS X.K X.mg W H0 G0 pa D (forL TF S (ds.drop i) e), ⟨ds.length, rfl, Nat.zero_le _, G1, env1, base.2 r1 (Same.refl _), h⟩, ?_⟩
    rintro i m σ2 H2 ⟨rfl, hi', G2, e2, r2, p2⟩
    by_cases hlt : i < ds.length
    · refine .inr ⟨jok.go H2 G2 i r2.gr r2.er.sub hlt, fun σ' H' => i + 1 ≤ ds.length ∧ ∃ G e, SR X.K H0 G1 pa H' G σ' e ∧ PostS X.K X.mg W H0 G0 pa D (forL TF S (ds.drop (i + 1)) e), fun σ' H' ⟨a, b⟩ => ⟨ds.length - (i + 1), by omega, rfl, a, b⟩, fun x H3 y => ?_⟩
      obtain ⟨G3, d, ed, gs, hx⟩ := jok.yld H2 G2 i x H3 r2.gr r2.er.sub hlt y
      have r3 : SR X.K H0 G1 pa H3 G3 σ2 e2 := r2.step (Stp.gs r2.er gs)
      have edrop : ds.drop i = d :: ds.drop (i + 1) := by
        rw [List.drop_eq_getElem_cons hlt]
        rw [List.getElem?_eq_getElem hlt] at ed
        rw [Option.some.inj ed]
      rw [edrop] at p2
      unfold forL at p2
      cases et : TF d e2 with
      | none => rw [et] at p2; exact p2.elim
      | some e3 =>
        rw [et] at p2
        simp only at p2
        refine hk H0 G1 pa H3 G3 σ2 e2 e3 d x _ r3 hx et fun σ4 r4 => ⟨G1, G3, e3, r4, ?_⟩
        cases es : S e3 with
        | nx e5 => simp only [es] at p2; exact fun σ' H' G' r5 => ⟨hlt, G', e5, r5, p2⟩
        | ct e5 => simp only [es] at p2; exact fun σ' H' G' r5 => ⟨hlt, G', e5, r5, p2⟩
        | bk e5 => simp only [es] at p2; exact fun σ' H' G' r5 => p2 σ' H' G' (base.1 r5)
        | rt v e5 => simp only [es] at p2; exact fun u σ' H' G' r5 rv => p2 u σ' H' G' (base.1 r5) rv
        | err c e5 =>
          simp only [es] at p2
          intro C σ' H' m se
          refine p2 C σ' H' m ?_
          cases e5 with
          | some e5 => obtain ⟨G', r5⟩ := se; exact ⟨G', base.1 r5⟩
          | none => exact se
        | stk => simp only [es] at p2; exact p2.elim
    · have e : i = ds.length := by omega
      subst e
      rw [List.drop_length] at p2
      exact .inl ⟨jok.stop H2 G2 r2.gr r2.er.sub, p2 σ2 H2 G2 (base.1 r2)⟩
/-! ### for over an own list: it is written no more -/
theorem SR.ownVal {K : PySem.W.Frag} {H0 G0 H G : Hp} {pa : Nat → Option Addr} {σ : L2.St} {env : List Sl} (r : SR K H0 G0 pa H G σ env) {i : Nat} {d : D} (hi : env[i]? = some (.own d)) : ∃ G', SR K H0 G0 pa H G' σ (env.set i (.val d)) := by
  have len := (List.getElem?_eq_some_iff.mp hi).1
  obtain ⟨p, w1, w2, w3⟩ := r.er.mu i _ d hi rfl
  obtain ⟨G', g1, g2, g3, g4⟩ := w3.frz w2 r.er.sub
  have hp0 := r.own i d p hi w1
  have eqs : (env.set i (.val d))[i]? = some (.val d) := List.getElem?_set_self len
  have ne : ∀ (j : Nat), i ≠ j → (env.set i (.val d))[j]? = env[j]? := fun j z => List.getElem?_set_ne z
  have mu : ∀ {j : Nat} {s : Sl} {e : D}, (env.set i (.val d))[j]? = some s → s.mu = some e → i ≠ j ∧ env[j]? = some s := fun {j s e} h m => by
    by_cases z : i = j
    · subst z; rw [eqs] at h; cases h; cases m
    · exact ⟨z, by rw [← ne j z]; exact h⟩
  refine ⟨G', ⟨⟨by rw [List.length_set]; exact r.er.len, g2, fun j e h => ?_, fun j s e h m => ?_, fun j k s t a b q h1 m1 h2 m2 => r.er.sep j k s t a b q (mu h1 m1).2 m1 (mu h2 m2).2 m2⟩, r.gr.trans g1, fun b hb hg => ?_, r.keep, fun j e q h1 h2 => ?_, fun j q h => ?_, fun j e h => ?_⟩⟩
  · by_cases z : i = j
    · subst z; rw [eqs] at h; cases h; exact ⟨_, w1, g4⟩
    · rw [ne j z] at h
      obtain ⟨v, a, b⟩ := r.er.val j e h
      exact ⟨v, a, Rp.mono g1 e v b⟩
  · obtain ⟨z, h'⟩ := mu h m
    obtain ⟨q, a, b, c⟩ := r.er.mu j s e h' m
    have : q ≠ p := fun zz => z (r.er.sep i j _ s d e p hi rfl h' m w1 (by rw [← zz]; exact a))
    exact ⟨q, a, by rw [g3 q this]; exact b, c.mono rfl g1⟩
  · have : b ≠ p := fun z => hb (by rw [z]; exact hp0)
    rw [g3 b this]
    exact r.old b hb hg
  · exact r.own j e q (mu h1 rfl).2 h2
  · obtain ⟨a, e, b⟩ := r.io j q h
    have z : i ≠ j := fun z => by subst z; rw [hi] at b; cases b
    exact ⟨a, e, by rw [ne j z]; exact b⟩
  · have z : i ≠ j := fun z => by subst z; rw [eqs] at h; cases h
    exact r.iof j e (by rw [← ne j z]; exact h)
@[simp] def frzE (i : Nat) (env : List Sl) : List Sl := match env[i]? with
  | some (.own d) => env.set i (.val d)
  | _ => env
@[simp] def frzS (i : Nat) (S : Sx) (env : List Sl) : Out := S (frzE i env)
theorem st_frz {X : Cx} {W : WX} {st : Stmt} {S : Sx} (i : Nat) (h : ST X W st S) : ST X W st (frzS i S) := by
  intro H0 G0 pa
  refine PS.weak (h H0 G0 pa) fun D σ H ⟨G, env, r, q⟩ => ?_
  unfold frzS frzE at q
  split at q
  · rename_i d e
    obtain ⟨G', r'⟩ := r.ownVal e
    exact ⟨G', _, r', q⟩
  · exact ⟨G, env, r, q⟩
/-! ### while: so many turns at most -/
def whileL (C : Fx) (S : Sx) : Nat → List Sl → Out
  | 0, _ => .stk
  | n + 1, e => match C e with
    | .ok (.im (.bl true)) e1 => (match S e1 with
      | .nx e2 => whileL C S n e2
      | .ct e2 => whileL C S n e2
      | .bk e2 => .nx e2
      | .rt v e2 => .rt v e2
      | .err c e2 => .err c e2
      | .stk => .stk)
    | .ok (.im (.bl false)) e1 => .nx e1
    | .err c e1 => .err c e1
    | _ => .stk
@[simp] def whileS (n : List Sl → Nat) (C : Fx) (S : Sx)  (env : List Sl) : Out := whileL C S (n env) env
theorem st_while {c : Expr} {body : List Stmt} {C : Fx} {S : Sx} {pos : Pos} (n : List Sl → Nat) (hp : PassesOwn (model X.prog X.w) X.A X.env X.xe) (hc : TX X W c C) (hb : STs X W body S) : ST X W (.While c body [] pos) (whileS n C S) := by
  intro H0 G0 pa
  refine PS.weak (ps_while hp hc (hb H0 G0 pa)) fun D σ H ⟨G, env, r, h⟩ => ?_
  refine ⟨fun m σ H => ∃ G e, SR X.K H0 G0 pa H G σ e ∧ PostS X.K X.mg W H0 G0 pa D (whileL C S m e), ⟨n env, G, env, r, h⟩, ?_⟩
  rintro m σ2 H2 ⟨G2, e2, r2, p2⟩
  cases m with
  | zero => exact p2.elim
  | succ m =>
    refine ⟨G2, e2, r2.er, ?_⟩
    unfold whileL at p2
    cases e : C e2 with
    | stk => rw [e] at p2; exact p2
    | err c e' =>
      rw [e] at p2
      intro C' H' mm ea
      refine p2 C' σ2 H' mm ?_
      cases e' with
      | some e' => obtain ⟨G', s⟩ := ea; exact ⟨G', r2.step s⟩
      | none => exact fun b o q n => ea b o (r2.keep b o q n) (r2.notMu q n)
    | ok vl e3 =>
      rw [e] at p2
      cases vl with
      | im d =>
        cases d with
        | bl b =>
          intro H3 G3 s
          have r3 := r2.step s
          cases b with
          | false => exact L2.iteF (p2 σ2 H3 G3 r3)
          | true =>
            refine L2.iteT ⟨fun σ' H' => ∃ G e, SR X.K H0 G0 pa H' G σ' e ∧ PostS X.K X.mg W H0 G0 pa D (whileL C S m e), fun σ' H' q => ⟨m, Nat.lt_succ_self _, q⟩, G3, e3, r3, ?_⟩
            simp only at p2
            cases es : S e3 with
            | nx e5 => simp only [es] at p2; exact fun σ' H' G' r5 => ⟨G', e5, r5, p2⟩
            | ct e5 => simp only [es] at p2; exact fun σ' H' G' r5 => ⟨G', e5, r5, p2⟩
            | bk e5 => simp only [es] at p2; exact fun σ' H' G' r5 => p2 σ' H' G' r5
            | rt v e5 => simp only [es] at p2; exact p2
            | err c e5 => simp only [es] at p2; exact p2
            | stk => simp only [es] at p2; exact p2.elim
        | _ => exact p2.elim
      | _ => exact p2.elim
end
/-! ### comprehensions -/
@[simp] def wipeE (e : List Sl) : List Nat → List Sl
  | [] => e
  | v :: vs => (wipeE e vs).set v .non
/-- the block's own names as they were -/
@[simp] def backE (e0 e : List Sl) : List Nat → List Sl
  | [] => e
  | v :: vs => match e0[v]? with
    | some s => (backE e0 e vs).set v s
    | none => backE e0 e vs
/-- the turns; acc: the list so far -/
@[simp] def lcL (TF : TFx) (T E : Fx) (vs : List Nat) : List D → List Sl → List D → Rs
  | [], e, acc => .ok (.fr (.lst acc)) e
  | d :: r, e, acc => match TF d e with
    | none => .stk
    | some e1 => (match T e1 with
      | .ok (.im (.bl true)) e2 => (match E e2 with
        | .ok v e3 => (match v.toIm with
          | some x => if decide (acc.length < 16777216) then lcL TF T E vs r (wipeE e3 vs) (acc ++ [x]) else .stk
          | none => .stk)
        | _ => .stk)
      | .ok (.im (.bl false)) e2 => lcL TF T E vs r (wipeE e2 vs) acc
      | _ => .stk)
@[simp] def lcF (SF : SFx) (TF : TFx) (T E : Fx) (vs : List Nat)  (env : List Sl) : Rs := match SF env with
  | .ok ds e => (match lcL TF T E vs ds (wipeE e vs) [] with
    | .ok v e2 => .ok v (backE e e2 vs)
    | _ => .stk)
  | .err c e => .err c e
  | .stk => .stk
@[simp] def yesF  (env : List Sl) : Rs := .ok (.im (.bl true)) env
/-! the names of a target, told apart -/
inductive Tg where
  | nm (i : Nat)
  | tp (is : List Nat)
@[simp] def Tg.F : Tg → TFx
  | .nm i => tgN i
  | .tp is => tgT is
def Tg.ix : Tg → List Nat
  | .nm i => [i]
  | .tp is => is
def gsOf : List Nat → TGs
  | [] => gNil
  | i :: is => gCons (gName i) (gsOf is)
def Tg.g (K : PySem.W.Frag) : Tg → TG
  | .nm i => gName i
  | .tp is => gTup K is.length (gsOf is)
def PGT (X : Cx) (tg : Expr) (t : Tg) : Prop := PG X tg (t.g X.K)
theorem pgt_name {X : Cx} {i : Nat} {x : Str} {pos : Pos} (hN : X.N.Nodup) (hi : X.N[i]? = some x := by rfl) (hx : Loc X.env.scope x := by first | exact .inl rfl | exact .inr rfl) (hf : X.fn x = true ∨ X.env.scope.names.lookup x = some .local := by first | exact .inl rfl | exact .inr rfl) : PGT X (.Name x pos) (.nm i) := pg_name hN hi hx hf
def PGTs (X : Cx) (tgs : List Expr) (is : List Nat) : Prop := PGs X tgs (gsOf is)
theorem pgts_nil {X : Cx} : PGTs X [] [] := pgs_nil
theorem pgts_cons {X : Cx} {i : Nat} {is : List Nat} {x : Str} {pos : Pos} {tgs : List Expr} (hN : X.N.Nodup) (h : PGTs X tgs is) (hi : X.N[i]? = some x := by rfl) (hx : Loc X.env.scope x := by first | exact .inl rfl | exact .inr rfl) (hf : X.fn x = true ∨ X.env.scope.names.lookup x = some .local := by first | exact .inl rfl | exact .inr rfl) (hs : (assignEach (.Name x pos :: tgs) X.env).map (·.2) = assign (.Name x pos) X.env :: (assignEach tgs X.env).map (·.2) := by rfl) : PGTs X (.Name x pos :: tgs) (i :: is) := pgs_cons (pg_name hN hi hx hf) h hs
theorem pgt_tup {X : Cx} {is : List Nat} {es : List Expr} {k : Nat} {pos : Pos} (hc : X.calm = true) (h : PGTs X es is) (hn : (assignEach es X.env).length = is.length := by rfl) (hst : (assignEach es X.env).findIdx? (·.1) = none := by rfl) : PGT X (.Tuple es k pos) (.tp is) := pg_tup hc h hn hst
theorem wipe_get (σ : L2.St) : ∀ (vs : List Nat) (k : Nat), (wipe σ vs)[k]? = if k ∈ vs then (σ[k]?).map (fun _ => Option.none) else σ[k]?
  | [], k => by rw [if_neg (by simp)]; rfl
  | v :: vs, k => by
    unfold wipe
    by_cases h : v = k
    · subst h
      rw [if_pos List.mem_cons_self]
      rw [List.getElem?_set]
      simp only [if_true]
      rw [wipe_length]
      by_cases hl : v < σ.length
      · rw [if_pos hl, List.getElem?_eq_getElem hl]; rfl
      · rw [if_neg hl, List.getElem?_eq_none (by omega)]; rfl
    · rw [List.getElem?_set_ne h, wipe_get σ vs k]
      by_cases h2 : k ∈ vs
      · rw [if_pos h2, if_pos (List.mem_cons_of_mem _ h2)]
      · rw [if_neg h2, if_neg (by simp only [List.mem_cons, not_or]; exact ⟨fun z => h z.symm, h2⟩)]
theorem wipeE_length (e : List Sl) : ∀ vs : List Nat, (wipeE e vs).length = e.length
  | [] => rfl
  | v :: vs => by unfold wipeE; rw [List.length_set, wipeE_length e vs]
theorem wipeE_get (e : List Sl) : ∀ (vs : List Nat) (k : Nat), (wipeE e vs)[k]? = if k ∈ vs then (e[k]?).map (fun _ => Sl.non) else e[k]?
  | [], k => by rw [if_neg (by simp)]; rfl
  | v :: vs, k => by
    unfold wipeE
    by_cases h : v = k
    · subst h
      rw [if_pos List.mem_cons_self]
      rw [List.getElem?_set]
      simp only [if_true]
      rw [wipeE_length]
      by_cases hl : v < e.length
      · rw [if_pos hl, List.getElem?_eq_getElem hl]; rfl
      · rw [if_neg hl, List.getElem?_eq_none (by omega)]; rfl
    · rw [List.getElem?_set_ne h, wipeE_get e vs k]
      by_cases h2 : k ∈ vs
      · rw [if_pos h2, if_pos (List.mem_cons_of_mem _ h2)]
      · rw [if_neg h2, if_neg (by simp only [List.mem_cons, not_or]; exact ⟨fun z => h z.symm, h2⟩)]
theorem backE_length (e0 e : List Sl) : ∀ vs : List Nat, (backE e0 e vs).length = e.length
  | [] => rfl
  | v :: vs => by
    unfold backE
    split
    · rw [List.length_set, backE_length e0 e vs]
    · exact backE_length e0 e vs
theorem backE_get {e0 e : List Sl} (hl : e.length = e0.length) : ∀ (vs : List Nat) (k : Nat), (backE e0 e vs)[k]? = if k ∈ vs then e0[k]? else e[k]?
  | [], k => by rw [if_neg (by simp)]; rfl
  | v :: vs, k => by
    unfold backE
    by_cases h : v = k
    · subst h
      rw [if_pos List.mem_cons_self]
      cases q : e0[v]? with
      | none =>
        simp only
        rw [backE_get hl vs v]
        split
        · exact q
        · rw [List.getElem?_eq_none_iff] at q ⊢; omega
      | some s =>
        simp only
        obtain ⟨h1, _⟩ := List.getElem?_eq_some_iff.mp q
        rw [List.getElem?_set_self (by rw [backE_length]; omega)]
    · have e1 : ∀ s, ((backE e0 e vs).set v s)[k]? = (backE e0 e vs)[k]? := fun s => List.getElem?_set_ne h
      have e2 : (if k ∈ v :: vs then e0[k]? else e[k]?) = if k ∈ vs then e0[k]? else e[k]? := by
        by_cases h2 : k ∈ vs
        · rw [if_pos h2, if_pos (List.mem_cons_of_mem _ h2)]
        · rw [if_neg h2, if_neg (by simp only [List.mem_cons, not_or]; exact ⟨fun z => h z.symm, h2⟩)]
      rw [e2, ← backE_get hl vs k]
      split
      · exact e1 _
      · rfl
theorem ER.wiped {K : PySem.W.Frag} {H G : Hp} {σ : L2.St} {env : List Sl} (r : ER K H G σ env) (vs : List Nat) : ER K H G (wipe σ vs) (wipeE env vs) := by
  have out : ∀ {k : Nat} {s : Sl}, (wipeE env vs)[k]? = some s → s ≠ .non → k ∉ vs ∧ env[k]? = some s := fun {k s} h hs => by
    rw [wipeE_get] at h
    split at h
    · cases q : env[k]? with
      | none => rw [q] at h; cases h
      | some t => rw [q] at h; exact absurd (Option.some.inj h).symm hs
    · rename_i hk
      exact ⟨hk, h⟩
  have sg : ∀ {k : Nat}, k ∉ vs → (wipe σ vs)[k]? = σ[k]? := fun {k} hk => by rw [wipe_get, if_neg hk]
  refine ⟨by rw [wipe_length, wipeE_length]; exact r.len, r.sub, fun i d h => ?_, fun i s d h1 h2 => ?_, fun i j s t d e p h1 h2 h3 h4 h5 h6 => ?_⟩
  · obtain ⟨hk, h⟩ := out h (fun z => nomatch z)
    rw [sg hk]
    exact r.val i d h
  · obtain ⟨hk, h⟩ := out h1 (fun z => by rw [z] at h2; cases h2)
    rw [sg hk]
    exact r.mu i s d h h2
  · obtain ⟨hk, h⟩ := out h1 (fun z => by rw [z] at h2; cases h2)
    obtain ⟨hk', h'⟩ := out h3 (fun z => by rw [z] at h4; cases h4)
    rw [sg hk] at h5
    rw [sg hk'] at h6
    exact r.sep i j s t d e p h h2 h' h4 h5 h6
/-- a slot that is not written is set -/
theorem ER.setVal {K : PySem.W.Frag} {H G : Hp} {σ : L2.St} {env : List Sl} {i : Nat} {d : D} {v : V} (r : ER K H G σ env) (hl : i < env.length) (hv : Rp K G d v) : ER K H G (σ.set i (some v)) (env.set i (.val d)) := by
  have hl' : i < σ.length := by rw [r.len]; exact hl
  have ne : ∀ j, i ≠ j → (σ.set i (some v))[j]? = σ[j]? ∧ (env.set i (.val d))[j]? = env[j]? := fun j h => ⟨List.getElem?_set_ne h, List.getElem?_set_ne h⟩
  have eqi : (env.set i (.val d))[i]? = some (.val d) := List.getElem?_set_self hl
  have eqs : (σ.set i (some v))[i]? = some (some v) := List.getElem?_set_self hl'
  refine ⟨by rw [List.length_set, List.length_set]; exact r.len, r.sub, fun j e hj => ?_, fun j t e h1 h2 => ?_, fun j k t u e f p h1 h2 h3 h4 h5 h6 => ?_⟩
  · by_cases z : i = j
    · subst z
      rw [eqi] at hj
      cases hj
      exact ⟨v, eqs, hv⟩
    · rw [(ne j z).2] at hj
      rw [(ne j z).1]
      exact r.val j e hj
  · have z1 : i ≠ j := fun z => by subst z; rw [eqi] at h1; cases h1; cases h2
    rw [(ne j z1).2] at h1
    rw [(ne j z1).1]
    exact r.mu j t e h1 h2
  · have z1 : i ≠ j := fun z => by subst z; rw [eqi] at h1; cases h1; cases h2
    have z2 : i ≠ k := fun z => by subst z; rw [eqi] at h3; cases h3; cases h4
    rw [(ne j z1).2] at h1
    rw [(ne j z1).1] at h5
    rw [(ne k z2).2] at h3
    rw [(ne k z2).1] at h6
    exact r.sep j k t u e f p h1 h2 h3 h4 h5 h6
theorem setE_im {i : Nat} {d : D} {e e' : List Sl} (h : setE i (.im d) e = some e') : i < e.length ∧ e' = e.set i (.val d) := by
  unfold setE at h
  simp only [Vl.st] at h
  split at h
  · cases h
  · rename_i c
    cases h
    cases q : e[i]? with
    | none => rw [q] at c; exact absurd rfl c
    | some t => exact ⟨(List.getElem?_eq_some_iff.mp q).1, rfl⟩
/-- within vs alone -/
structure InVs (vs : List Nat) (σ : L2.St) (e : List Sl) (σ' : L2.St) (e' : List Sl) : Prop where
  so : ∀ k : Nat, k ∉ vs → σ'[k]? = σ[k]?
  eo : ∀ k : Nat, k ∉ vs → e'[k]? = e[k]?
  nm : ∀ (k : Nat) (s : Sl), k ∈ vs → e'[k]? = some s → s.mu = none
  ln : σ'.length = σ.length
theorem InVs.set {vs : List Nat} {σ0 σ : L2.St} {e0 e : List Sl} {i : Nat} {d : D} {v : V} (h : InVs vs σ0 e0 σ e) (hi : i ∈ vs) : InVs vs σ0 e0 (σ.set i (some v)) (e.set i (.val d)) where
  so := fun k hk => by rw [List.getElem?_set_ne (fun z => hk (by rw [← z]; exact hi))]; exact h.so k hk
  eo := fun k hk => by rw [List.getElem?_set_ne (fun z => hk (by rw [← z]; exact hi))]; exact h.eo k hk
  nm := fun k s hk q => by
    by_cases z : i = k
    · subst z
      rw [List.getElem?_set] at q
      simp only [if_true] at q
      split at q
      · cases q; rfl
      · cases q
    · rw [List.getElem?_set_ne z] at q
      exact h.nm k s hk q
  ln := by rw [List.length_set]; exact h.ln
theorem InVs.wipe {vs : List Nat} {σ0 σ : L2.St} {e0 e : List Sl} (h : InVs vs σ0 e0 σ e) : wipe σ vs = wipe σ0 vs := by
  apply List.ext_getElem?
  intro k
  rw [wipe_get, wipe_get]
  by_cases hk : k ∈ vs
  · rw [if_pos hk, if_pos hk]
    by_cases hl : k < σ0.length
    · rw [List.getElem?_eq_getElem hl, List.getElem?_eq_getElem (by rw [h.ln]; exact hl)]; rfl
    · have hl' : σ0.length ≤ k := by omega
      have hl2 : σ.length ≤ k := by rw [h.ln]; exact hl'
      rw [List.getElem?_eq_none hl', List.getElem?_eq_none hl2]
  · rw [if_neg hk, if_neg hk, h.so k hk]
theorem gs_er {K : PySem.W.Frag} {H G : Hp} {vs : List Nat} {σ0 : L2.St} {e0 : List Sl} : ∀ {is : List Nat} {ds : List D} {xs : List V} {σ : L2.St} {e e' : List Sl} {Q : L2.St → Hp → Prop}, (∀ i ∈ is, i ∈ vs) → ER K H G σ e → InVs vs σ0 e0 σ e → RpL K G ds xs → setsE is ds e = some e' →
    (∀ σ', ER K H G σ' e' → InVs vs σ0 e0 σ' e' → Q σ' H) → gsOf is xs σ H Q
  | [], [], xs, σ, e, e', Q, hi, r, iv, hx, h, k => by cases h; exact ⟨hx, k σ r iv⟩
  | [], d :: ds, xs, σ, e, e', Q, hi, r, iv, hx, h, k => by cases h
  | i :: is, [], xs, σ, e, e', Q, hi, r, iv, hx, h, k => by cases h
  | i :: is, d :: ds, xs, σ, e, e', Q, hi, r, iv, hx, h, k => by
    obtain ⟨x, t, rfl, h1, h2⟩ := hx
    have h : (setE i (.im d) e).bind (setsE is ds) = some e' := h
    cases e1 : setE i (.im d) e with
    | none => rw [e1] at h; cases h
    | some e2 =>
      rw [e1] at h
      obtain ⟨hl, rfl⟩ := setE_im e1
      exact ⟨x, t, rfl, gs_er (fun j hj => hi j (List.mem_cons_of_mem _ hj)) (r.setVal hl h1) (iv.set (hi i List.mem_cons_self)) h2 h k⟩
theorem Tg.er {K : PySem.W.Frag} {H G : Hp} {vs : List Nat} {t : Tg} {d : D} {v : V} {σ : L2.St} {e e' : List Sl} {Q : L2.St → Hp → Prop} (hi : ∀ i ∈ t.ix, i ∈ vs) (r : ER K H G σ e) (iv : InVs vs σ e σ e) (hv : Rp K G d v) (h : t.F d e = some e')
    (k : ∀ σ', ER K H G σ' e' → InVs vs σ e σ' e' → Q σ' H) : t.g K v σ H Q := by
  cases t with
  | nm i =>
    obtain ⟨hl, rfl⟩ := setE_im (show setE i (.im d) e = some e' from h)
    exact k _ (r.setVal hl hv) (iv.set (hi i List.mem_cons_self))
  | tp is =>
    cases d with
    | tup ds =>
      obtain ⟨a, xs, rfl, h1, h2⟩ := hv
      have h : setsE is ds e = some e' := h
      exact ⟨a, xs, rfl, Same.sqT r.sub h1, by rw [h2.length, setsE_len h], gs_er hi r iv h2 h k⟩
    | _ => cases h
theorem Tg.gx {X : Cx} {tg : Expr} {t : Tg} (h : PGT X tg t) : GX X tg t.F := by
  refine ⟨t.g X.K, h, fun H0 G0 pa H G σ env e' d v Q r hv e k => ?_⟩
  cases t with
  | nm i => exact k _ (r.setIm hv e)
  | tp is =>
    cases d with
    | tup ds =>
      obtain ⟨a, xs, rfl, h1, h2⟩ := hv
      have e : setsE is ds env = some e' := e
      refine ⟨a, xs, rfl, Same.sqT r.er.sub h1, by rw [h2.length, setsE_len e], ?_⟩
      have go : ∀ {is : List Nat} {ds : List D} {xs : List V} {σ : L2.St} {env : List Sl}, SR X.K H0 G0 pa H G σ env → RpL X.K G ds xs → setsE is ds env = some e' → gsOf is xs σ H Q := by
        intro is
        induction is with
        | nil =>
          intro ds xs σ env r hx e
          cases ds with
          | nil => cases e; exact ⟨hx, k σ r⟩
          | cons d ds => cases e
        | cons i is ih =>
          intro ds xs σ env r hx e
          cases ds with
          | nil => cases e
          | cons d ds =>
            obtain ⟨x, t, rfl, h1, h2⟩ := hx
            have e : (HF.setE i (.im d) env).bind (setsE is ds) = some e' := e
            cases e1 : HF.setE i (.im d) env with
            | none => rw [e1] at e; cases e
            | some e2 => rw [e1] at e; exact ⟨x, t, rfl, ih (r.setIm h1 e1) h2 e⟩
      exact go r h2 e
    | _ => cases e
end HF

set_option Elab.async false
set_option linter.all false
set_option maxRecDepth 100000
set_option maxHeartbeats 4000000
set_option autoImplicit false
namespace HF
open PySem PySem.Spec PyProof.Rows L2
/-! ### the rule for a comprehension -/
abbrev W0 : WX := fun _ _ _ _ => False
theorem PTs.weak {X : Cx} {ifs : List Expr} {t t' : TT} (h : PTs X ifs t) (w : ∀ σ H Q, t' σ H Q → t σ H Q) : PTs X ifs t' := ⟨fun pins s σ H Q I q => h.run pins s σ H Q I (w σ H Q q)⟩
def LTX (X : Cx) (ifs : List Expr) (T : Fx) : Prop := PTs X ifs (tT X.K X.mg W0 T)
theorem ltx_nil {X : Cx} : LTX X [] yesF := PTs.weak pts_nil fun σ H Q ⟨G, env, r, h⟩ => h H G (Stp.refl r)
theorem ltx_one {X : Cx} {c : Expr} {T : Fx} (h : TX X W0 c T) : LTX X [c] T := pts_one h
section
variable {K : PySem.W.Frag} {mg : Str → Option Value}
/-- the block's turn as a step of the wiped frame -/
theorem turn_step {H G H5 G5 : Hp} {vs : List Nat} {σw σ2 : L2.St} {e e2 e5 : List Sl} (rw0 : ER K H G σw e) (hw : wipeE e vs = e) (hs : wipe σw vs = σw) (iv : InVs vs σw e σ2 e2) (s : Stp K σ2 H G e2 H5 G5 e5) : Stp K σw H G e H5 G5 (wipeE e5 vs) := by
  have ew : ∀ (k : Nat) (t : Sl), k ∈ vs → e[k]? = some t → t = .non := fun k t hk q => by
    rw [← hw, wipeE_get, if_pos hk] at q
    cases z : e[k]? with
    | none => rw [z] at q; cases q
    | some u => rw [z] at q; exact (Option.some.inj q).symm
  have er : ER K H5 G5 σw (wipeE e5 vs) := by
    have := s.er.wiped vs
    rw [iv.wipe, hs] at this
    exact this
  have notm : ∀ b, ¬ MuIs σw e b → ¬ MuIs σ2 e2 b := fun b n ⟨k, t, d, q1, q2, q3⟩ => by
    by_cases hk : k ∈ vs
    · have := iv.nm k t hk q1
      rw [this] at q2
      cases q2
    · rw [iv.eo k hk] at q1
      rw [iv.so k hk] at q3
      exact n ⟨k, t, d, q1, q2, q3⟩
  refine ⟨er, s.gr, s.old, fun b o q n => s.keep b o q (notm b n), fun k => ?_⟩
  rw [wipeE_get]
  by_cases hk : k ∈ vs
  · rw [if_pos hk]
    have l1 : e5.length = e.length := by
      have a1 := s.er.len
      have a2 := iv.ln
      have a3 := rw0.len
      omega
    by_cases hl : k < e.length
    · rw [List.getElem?_eq_getElem (show k < e5.length by omega)]
      cases q : e[k]? with
      | none => rw [List.getElem?_eq_none_iff] at q; omega
      | some t => rw [ew k t hk q]; exact rfl
    · rw [List.getElem?_eq_none (show e5.length ≤ k by omega), List.getElem?_eq_none (show e.length ≤ k by omega)]
      exact rfl
  · rw [if_neg hk, ← iv.eo k hk]
    exact s.kin k
/-- out of the block -/
theorem back_step {H G H5 G5 : Hp} {vs : List Nat} {σ : L2.St} {e e5 : List Sl} (r : ER K H G σ e) (s : Stp K (wipe σ vs) H G (wipeE e vs) H5 G5 e5) : Stp K σ H G e H5 G5 (backE e e5 vs) := by
  have hl : e5.length = e.length := by
    have a1 := s.er.len
    rw [wipe_length] at a1
    have := r.len
    omega
  have bg := backE_get hl vs
  have sg : ∀ {k : Nat}, k ∉ vs → (wipe σ vs)[k]? = σ[k]? := fun {k} hk => by rw [wipe_get, if_neg hk]
  have wg : ∀ {k : Nat}, k ∉ vs → (wipeE e vs)[k]? = e[k]? := fun {k} hk => by rw [wipeE_get, if_neg hk]
  have mw : ∀ b, MuIs (wipe σ vs) (wipeE e vs) b → ∃ k : Nat, k ∉ vs ∧ ∃ t d, e[k]? = some t ∧ t.mu = some d ∧ σ[k]? = some (some (.ref b)) := fun b ⟨k, t, d, q1, q2, q3⟩ => by
    by_cases hk : k ∈ vs
    · rw [wipeE_get, if_pos hk] at q1
      cases z : e[k]? with
      | none => rw [z] at q1; cases q1
      | some u => rw [z] at q1; cases q1; cases q2
    · rw [wg hk] at q1
      rw [sg hk] at q3
      exact ⟨k, hk, t, d, q1, q2, q3⟩
  refine ⟨⟨by rw [backE_length, hl]; exact r.len, s.er.sub, fun i d h => ?_, fun i t d h1 h2 => ?_, fun i j t u d f p h1 h2 h3 h4 h5 h6 => ?_⟩, s.gr, s.old, fun b o q n => s.keep b o q fun m => n ?_, fun k => ?_⟩
  · rw [bg] at h
    by_cases hk : i ∈ vs
    · rw [if_pos hk] at h
      obtain ⟨v, w1, w2⟩ := r.val i d h
      exact ⟨v, w1, Rp.mono s.gr d v w2⟩
    · rw [if_neg hk] at h
      obtain ⟨v, w1, w2⟩ := s.er.val i d h
      rw [sg hk] at w1
      exact ⟨v, w1, w2⟩
  · rw [bg] at h1
    by_cases hk : i ∈ vs
    · rw [if_pos hk] at h1
      obtain ⟨p, w1, w2, w3⟩ := r.mu i t d h1 h2
      refine ⟨p, w1, s.old p w3.there w2, w3.mono ?_ s.gr⟩
      cases z : H p with
      | none => exact absurd z w3.there
      | some o =>
        refine s.keep p o z fun m => ?_
        obtain ⟨k, hk', t', d', q1, q2, q3⟩ := mw p m
        have := r.sep i k t t' d d' p h1 h2 q1 q2 w1 q3
        exact hk' (this ▸ hk)
    · rw [if_neg hk] at h1
      obtain ⟨p, w1, w2⟩ := s.er.mu i t d h1 h2
      rw [sg hk] at w1
      exact ⟨p, w1, w2⟩
  · have back : ∀ {i : Nat} {t : Sl} {d : D}, (backE e e5 vs)[i]? = some t → t.mu = some d → ∃ t' d', e[i]? = some t' ∧ t'.mu = some d' := fun {i t d} h1 h2 => by
      rw [bg] at h1
      by_cases hk : i ∈ vs
      · rw [if_pos hk] at h1; exact ⟨t, d, h1, h2⟩
      · rw [if_neg hk] at h1
        have k := s.kin i
        rw [h1, wg hk] at k
        exact k.back h2
    obtain ⟨t', d', x1, x2⟩ := back h1 h2
    obtain ⟨u', f', y1, y2⟩ := back h3 h4
    exact r.sep i j t' u' d' f' p x1 x2 y1 y2 h5 h6
  · obtain ⟨k, _, t, d, q1, q2, q3⟩ := mw b m
    exact ⟨k, t, d, q1, q2, q3⟩
  · rw [bg]
    by_cases hk : k ∈ vs
    · rw [if_pos hk]; exact Kin.refl _
    · rw [if_neg hk, ← wg hk]; exact s.kin k
theorem wipe_idem (σ : L2.St) (vs : List Nat) : wipe (wipe σ vs) vs = wipe σ vs := by
  apply List.ext_getElem?
  intro k
  rw [wipe_get, wipe_get]
  by_cases hk : k ∈ vs
  · rw [if_pos hk, if_pos hk]
    cases σ[k]? <;> rfl
  · rw [if_neg hk, if_neg hk]
theorem wipeE_idem (e : List Sl) (vs : List Nat) : wipeE (wipeE e vs) vs = wipeE e vs := by
  apply List.ext_getElem?
  intro k
  rw [wipeE_get, wipeE_get]
  by_cases hk : k ∈ vs
  · rw [if_pos hk, if_pos hk]
    cases e[k]? <;> rfl
  · rw [if_neg hk, if_neg hk]
/-- the list that is made, at D: accs so far -/
structure LcSt (K : PySem.W.Frag) (σw : L2.St) (H1 G1 : Hp) (ew : List Sl) (vs : List Nat) (Da : Addr) (H G : Hp) (e : List Sl) (acc : List D) : Prop where
  stp : Stp K σw H1 G1 ew H G e
  wp : wipeE e vs = e
  at_ : ∃ xs, H Da = some (.lst xs) ∧ RpL K G acc xs
  gn : G Da = none
theorem lc_go {wi : SFx} {t : Tg} {T E : Fx} {vs : List Nat} {J : It} {ds : List D} {H1 G1 : Hp} {σ : L2.St} {e1 : List Sl} {Q : VK} {Da : Addr} (hi : ∀ i ∈ t.ix, i ∈ vs) (r1 : ER K H1 G1 σ e1) (jok : JOk K J ds G1) (hD : H1 Da = none) (R : Vl → List Sl → Prop)
    (hR : ∃ acc e', lcL t.F T E vs ds (wipeE e1 vs) [] = .ok (.fr (.lst acc)) e')
    (done : ∀ acc e' H' G', lcL t.F T E vs ds (wipeE e1 vs) [] = .ok (.fr (.lst acc)) e' → LcSt K (wipe σ vs) H1 G1 (wipeE e1 vs) vs Da H' G' e' acc → Q (.ref Da) H') :
    ∃ W : Nat → Nat → Hp → Prop, (∃ m, W 0 m (upd H1 Da (.lst []))) ∧ ∀ i m H, W i m H →
      (J.stop i H ∧ Q (.ref Da) H) ∨ (J.go i H ∧ ∃ Nx : Hp → Prop, (∀ H', Nx H' → ∃ m', m' < m ∧ W (i + 1) m' H') ∧ ∀ x H', J.yld i H x H' → t.g K x (wipe σ vs) H' fun σ2 H2 => wipe σ2 vs = wipe σ vs ∧ tT K mg W0 T σ2 H2 fun b H3 =>
        if b = true then tD K mg W0 E σ2 H3 fun y H4 => ∃ acc, H4 Da = some (.lst acc) ∧ acc.length < sizeLine ∧ Nx (upd H4 Da (.lst (acc ++ [y]))) else Nx H3) := by
  have rw1 : ER K H1 G1 (wipe σ vs) (wipeE e1 vs) := r1.wiped vs
  have notD : ∀ {H G : Hp} {e : List Sl}, Stp K (wipe σ vs) H1 G1 (wipeE e1 vs) H G e → ¬ MuIs (wipe σ vs) e Da := fun {H G e} s m => MuIs.new rw1 hD (m.of s.kin)
  -- the rest of the turns gives what all of them give
  refine ⟨fun i m H => m = ds.length - i ∧ i ≤ ds.length ∧ ∃ G e acc, LcSt K (wipe σ vs) H1 G1 (wipeE e1 vs) vs Da H G e acc ∧ lcL t.F T E vs (ds.drop i) e acc = lcL t.F T E vs ds (wipeE e1 vs) [],
    ⟨ds.length, rfl, Nat.zero_le _, G1, wipeE e1 vs, [], ⟨Stp.gs rw1 (GS.newH r1.sub hD), wipeE_idem _ _, ⟨[], upd_same, rfl⟩, r1.sub.free hD⟩, rfl⟩, ?_⟩
  rintro i m H ⟨rfl, hle, G, e, acc, st, eq⟩
  have er := st.stp.er
  by_cases hlt : i < ds.length
  · refine .inr ⟨jok.go H G i st.stp.gr er.sub hlt, fun H' => i + 1 ≤ ds.length ∧ ∃ G e acc, LcSt K (wipe σ vs) H1 G1 (wipeE e1 vs) vs Da H' G e acc ∧ lcL t.F T E vs (ds.drop (i + 1)) e acc = lcL t.F T E vs ds (wipeE e1 vs) [], fun H' ⟨a, b⟩ => ⟨ds.length - (i + 1), by omega, rfl, a, b⟩, fun x H3 y => ?_⟩
    obtain ⟨G3, d, ed, gs, hx⟩ := jok.yld H G i x H3 st.stp.gr er.sub hlt y
    have er3 := er.gs gs
    have edrop : ds.drop i = d :: ds.drop (i + 1) := by
      rw [List.drop_eq_getElem_cons hlt]
      rw [List.getElem?_eq_getElem hlt] at ed
      rw [Option.some.inj ed]
    obtain ⟨acc0, e0, h0⟩ := hR
    rw [edrop, h0] at eq
    unfold lcL at eq
    have ne : ∀ {r : Rs}, r = Rs.ok (.fr (.lst acc0)) e0 → r ≠ .stk := fun {r} q z => by rw [q] at z; cases z
    cases et : t.F d e with
    | none => rw [et] at eq; exact absurd rfl (ne eq)
    | some e2 =>
      rw [et] at eq
      simp only at eq
      have ivv : InVs vs (wipe σ vs) e (wipe σ vs) e := ⟨fun _ _ => rfl, fun _ _ => rfl, fun k s hk q => by
        rw [← st.wp, wipeE_get, if_pos hk] at q
        cases z : e[k]? with
        | none => rw [z] at q; cases q
        | some u => rw [z] at q; rw [← Option.some.inj q]; rfl, rfl⟩
      refine Tg.er hi er3 ivv hx et fun σ2 r2 iv => ⟨iv.wipe.trans (wipe_idem σ vs), G3, e2, r2, ?_⟩
      -- Da at H3
      obtain ⟨xs, hDa, hacc⟩ := st.at_
      have gn3 : G3 Da = none := gs.old Da (by rw [hDa]; exact fun z => nomatch z) st.gn
      have hDa3 : H3 Da = some (.lst xs) := gs.hh _ _ hDa
      have notD2 : ∀ {σ2 : L2.St} {e2 : List Sl}, InVs vs (wipe σ vs) e σ2 e2 → ¬ MuIs σ2 e2 Da := fun {σ2 e2} iv ⟨k, t, d, q1, q2, q3⟩ => by
        by_cases hk : k ∈ vs
        · rw [iv.nm k t hk q1] at q2; cases q2
        · rw [iv.eo k hk] at q1
          rw [iv.so k hk] at q3
          exact notD st.stp ⟨k, t, d, q1, q2, q3⟩
      cases eT : T e2 with
      | stk => rw [eT] at eq; exact absurd rfl (ne eq)
      | err c e' => rw [eT] at eq; exact absurd rfl (ne eq)
      | ok vl e4 =>
        rw [eT] at eq
        cases vl with
        | fr _ => exact absurd rfl (ne eq)
        | bo _ => exact absurd rfl (ne eq)
        | im dd =>
          cases dd with
          | bl b =>
            intro H4 G4 s4
            have D4 : H4 Da = some (.lst xs) := s4.keep Da _ hDa3 (notD2 iv)
            have g4 : G4 Da = none := s4.old Da (by rw [hDa3]; exact fun z => nomatch z) gn3
            cases b with
            | false =>
              simp only at eq
              refine L2.iteF ⟨hlt, G4, wipeE e4 vs, acc, ⟨?_, wipeE_idem _ _, ⟨xs, D4, RpL.mono (gs.gg.trans s4.gr) _ _ hacc⟩, g4⟩, eq.trans h0.symm⟩
              exact (st.stp.trans (Stp.gs er gs) rw1).trans (turn_step er3 st.wp (wipe_idem σ vs) iv s4) rw1
            | true =>
              simp only at eq
              refine L2.iteT ⟨G4, e4, s4.er, ?_⟩
              cases eE : E e4 with
              | stk => rw [eE] at eq; exact absurd rfl (ne eq)
              | err c e' => rw [eE] at eq; exact absurd rfl (ne eq)
              | ok v5 e5 =>
                rw [eE] at eq
                simp only at eq
                cases ex : v5.toIm with
                | none => rw [ex] at eq; exact absurd rfl (ne eq)
                | some x5 =>
                  rw [ex] at eq
                  simp only at eq
                  split at eq
                  · rename_i csz
                    intro y H5 G5 s5 v5'
                    obtain ⟨G6, s6, g6, k6, q6⟩ := v5'.w.imm s5 s4.er ex
                    have iv4 : ¬ MuIs σ2 e4 Da := fun m => notD2 iv (m.of s4.kin)
                    have D5 : H5 Da = some (.lst xs) := s5.keep Da _ D4 iv4
                    have s36 : Stp K σ2 H3 G3 e2 H5 G6 e5 := s4.trans s6 r2
                    have g6n : G6 Da = none := s36.old Da (by rw [hDa3]; exact fun z => nomatch z) gn3
                    have accn : RpL K G6 acc xs := RpL.mono (gs.gg.trans s36.gr) _ _ hacc
                    refine ⟨xs, D5, ?_, hlt, G6, wipeE e5 vs, acc ++ [x5], ⟨?_, wipeE_idem _ _, ⟨xs ++ [y], upd_same, accn.append (RpL.one q6)⟩, g6n⟩, eq.trans h0.symm⟩
                    · rw [accn.length, sizeLine_eq]
                      exact of_decide_eq_true csz
                    · have sa : Stp K (wipe σ vs) H1 G1 (wipeE e1 vs) H5 G6 (wipeE e5 vs) := (st.stp.trans (Stp.gs er gs) rw1).trans (turn_step er3 st.wp (wipe_idem σ vs) iv s36) rw1
                      -- the new list alone is written
                      have ne1 : ∀ b o, H1 b = some o → b ≠ Da := fun b o q z => by rw [z, hD] at q; cases q
                      refine ⟨⟨sa.er.len, fun b o q => ?_, sa.er.val, fun i t d q1 q2 => ?_, sa.er.sep⟩, sa.gr, sa.old, fun b o q n => ?_, sa.kin⟩
                      · rw [upd_ne (fun z => by rw [z, g6n] at q; cases q)]
                        exact sa.er.sub b o q
                      · obtain ⟨p, w1, w2, w3⟩ := sa.er.mu i t d q1 q2
                        refine ⟨p, w1, w2, w3.mono (upd_ne fun z => ?_) (Same.refl _)⟩
                        exact notD sa ⟨i, t, d, q1, q2, by rw [← z]; exact w1⟩
                      · rw [upd_ne (ne1 b o q)]
                        exact sa.keep b o q n
                  · exact absurd rfl (ne eq)
          | _ => exact absurd rfl (ne eq)
  · have e : i = ds.length := by omega
    subst e
    rw [List.drop_length] at eq
    exact .inl ⟨jok.stop H G st.stp.gr er.sub, done _ _ H G eq.symm st⟩
end
section
variable {X : Cx} {W : WX} {elt tg iter : Expr} {ifs : List Expr} {scope : Scope} {own : List (Str × Nat)} {pos : Pos} {SF : SFx} {t : Tg} {T E : Fx}
theorem lc_read (hi : ∀ i ∈ t.ix, i ∈ own.map (·.2)) {σ : L2.St} {H : Hp} {Q : VK} (h : tD X.K X.mg W (lcF SF t.F T E (own.map (·.2))) σ H Q) :
    tLc (tI X.K X.mg W SF) (t.g X.K) (tT X.K X.mg W0 T) (tD X.K X.mg W0 E) (own.map (·.2)) σ H Q := by
  obtain ⟨G, env, r, h⟩ := h
  refine ⟨G, env, r, ?_⟩
  cases e1 : SF env with
  | stk => simp only [lcF, e1] at h; exact h.elim
  | err c e' => simp only [lcF, e1] at h; exact h
  | ok ds env1 =>
    simp only [lcF, e1] at h
    intro J H1 G1 s jok Da hD
    cases e2 : lcL t.F T E (own.map (·.2)) ds (wipeE env1 (own.map (·.2))) [] with
    | stk => rw [e2] at h; exact h.elim
    | err c e' => rw [e2] at h; exact h.elim
    | ok vl e3 =>
      rw [e2] at h
      have lst : ∀ (ds : List D) (e : List Sl) (acc : List D) {vl : Vl} {e' : List Sl}, lcL t.F T E (own.map (·.2)) ds e acc = .ok vl e' → ∃ acc', vl = .fr (.lst acc') := by
        intro ds
        induction ds with
        | nil => intro e acc vl e' q; cases q; exact ⟨acc, rfl⟩
        | cons d ds ih =>
          intro e acc vl e' q
          unfold lcL at q
          split at q
          · cases q
          · split at q
            · split at q
              · split at q
                · split at q
                  · exact ih _ _ q
                  · cases q
                · cases q
              · cases q
            · exact ih _ _ q
            · cases q
      obtain ⟨acc, rfl⟩ := lst _ _ _ e2
      refine lc_go (wi := SF) hi s.er jok hD (fun _ _ => True) ⟨acc, e3, e2⟩ fun acc' e' H' G' q st => ?_
      rw [e2] at q
      cases q
      obtain ⟨xs, hx, hr⟩ := st.at_
      exact h _ H' G' (s.trans (back_step s.er st.stp) r) ⟨Da, rfl, s.free r hD, st.gn, xs, hx, hr⟩
theorem ex_lc (hc : X.calm = true) (hN : X.N.Nodup) (hs : SX X W tg iter SF) (ok : BlkOk X.N X.env.scope scope own)
    (hg : ∀ (s : Shared) (H : Hp) (C : Addr) (cl : List (Str × Addr)) (fp : List Addr), PGT (X.blk s H scope (compEnvC scope cl C X.env) fp) tg t) (ht : ∀ (s : Shared) (H : Hp) (C : Addr) (cl : List (Str × Addr)) (fp : List Addr), LTX (X.blk s H scope (compEnvC scope cl C X.env) fp) ifs T)
    (he : ∀ (s : Shared) (H : Hp) (C : Addr) (cl : List (Str × Addr)) (fp : List Addr), EX (X.blk s H scope (compEnvC scope cl C X.env) fp) W0 elt E) {vs : List Nat} (hv : own.map (·.2) = vs := by rfl) (hi : ∀ i ∈ t.ix, i ∈ own.map (·.2) := by decide) (hf : ∀ x, foldedSetIterable iter X.env x = pure x := by intro _; rfl) :
    EX X W (.ListComp elt [⟨tg, iter, ifs, 0⟩] scope pos) (lcF SF t.F T E vs) := by
  subst hv
  exact PE.weak (pe_lc (wi := tI X.K X.mg W SF) (g := t.g X.K) (tt := tT X.K X.mg W0 T) (te := tD X.K X.mg W0 E) hc hN hs ok hg ht he hf) fun σ H Q h => lc_read hi h
/-- y = [..] -/
theorem st_setLc {i : Nat} {y : Str} {py spos : Pos} (hc : X.calm = true) (hN : X.N.Nodup) (hsw : swapsWith (.ListComp elt [⟨tg, iter, ifs, 0⟩] scope pos) (some (.Name y py)) spos.line X.env = pure true) (hs : SX X W tg iter SF) (ok : BlkOk X.N X.env.scope scope own)
    (hg : ∀ (s : Shared) (H : Hp) (C : Addr) (cl : List (Str × Addr)) (fp : List Addr), PGT (X.blk s H scope (compEnvC scope cl C X.env) fp) tg t) (ht : ∀ (s : Shared) (H : Hp) (C : Addr) (cl : List (Str × Addr)) (fp : List Addr), LTX (X.blk s H scope (compEnvC scope cl C X.env) fp) ifs T)
    (he : ∀ (s : Shared) (H : Hp) (C : Addr) (cl : List (Str × Addr)) (fp : List Addr), EX (X.blk s H scope (compEnvC scope cl C X.env) fp) W0 elt E) (hy : X.N[i]? = some y := by rfl) (hyl : X.env.scope.names.lookup y = some .local := by rfl) {vs : List Nat} (hv : own.map (·.2) = vs := by rfl) (hi : ∀ i ∈ t.ix, i ∈ own.map (·.2) := by decide) (hf : ∀ x, foldedSetIterable iter X.env x = pure x := by intro _; rfl) :
    ST X W (.Assign [.Name y py] (.ListComp elt [⟨tg, iter, ifs, 0⟩] scope pos) spos) (asgS i (lcF SF t.F T E vs)) := by
  subst hv
  intro H0 G0 pa
  refine PS.weak (ps_setLc (wi := tI X.K X.mg W SF) (g := t.g X.K) (tt := tT X.K X.mg W0 T) (te := tD X.K X.mg W0 E) hc hN hy hyl hsw hs ok hg ht he hf) fun D σ H ⟨G, env, r, h⟩ => ?_
  refine lc_read (W := W) hi (SR.bind r h fun vl env1 v H1 G1 _ s v1 r1 p => ?_)
  cases e1 : setE i vl env1 with
  | none => simp only [e1] at p; exact p.elim
  | some e' =>
    simp only [e1] at p
    exact p _ _ _ (r1.setE v1 (fun p hp m => (MuIs.new r.er hp) (m.of s.kin)) (fun p hp => r.free0 hp) e1)
end
end HF

set_option Elab.async false
set_option linter.all false
set_option maxRecDepth 100000
set_option maxHeartbeats 4000000
set_option autoImplicit false
namespace HF
open PySem PySem.Spec PyProof.Rows L2
end HF
namespace PySem
open PySem
theorem list_extend_tupG (l : Addr) (items : Array Value) (n : Nat) (b : Addr) (items2 : Array Value) (n2 : Nat) (dd : Option Addr) (sl : Array (Option Value)) (hs0 : ¬(!items.isEmpty && Builtin.List.listTooLong (items.size + items2.size)) = true) (hs1 : items.size ≤ sizeLine) (hs2 : items.size + items2.size ≤ sizeLine + 1) :
    Meets (Builtin.«list.extend» ⟨[.ref l, .ref b], []⟩) (fun _ R s => s.heap.get? l = some { cls := .type "list", dict := none, data := .seq items n, slots := #[] } ∧ s.heap.get? b = some { cls := .type "tuple", dict := dd, data := .seq items2 n2, slots := sl } ∧ R (.ok (.ret Value.none)) { s with heap := s.heap.update l (Obj.mapSeq fun x => x ++ items2), toks := s.toks }) :=
  .of_wp fun prog w A R s h => by
    obtain ⟨hp, g, d, tk, os⟩ := s; obtain ⟨hl, hb, h⟩ := h; have f1 := AutoSeq1.idx_int; have f2 := AutoSeq1.sub_tuple_tuple; have f3 := AutoSeq1.sub_list_list; have f4 := AutoSeq1.sub_tuple_list; have f5 := AutoSeq1.sub_list_tuple;
    have hz' : (items ++ items2).size ≤ sizeLine + 1 := by rw [Array.size_append]; exact hs2
    wp_walk using (wpAny_updateSeq hl rfl (hz := hs1) (_hz' := hz')), wpAny_loadPart' hl, wpAny_loadPart' hb; exact ⟨_, rfl, h⟩
end PySem
namespace HF
open PySem PySem.Spec PyProof.Rows L2
section
variable {X : Cx}
def rExtendT (K : PySem.W.Frag) : V → List V → Hp → VK → Prop := fun x vs H Q => ∃ l b xs zs, x = .ref l ∧ vs = [.ref b] ∧ H l = some (.lst xs) ∧ SqT K H b zs ∧ xs.length + zs.length ≤ sizeLine ∧ Q .non (upd H l (.lst (xs ++ zs)))
theorem mt_extendT : MtM X "list.extend" (rExtendT X.K) := by
  intro pins s σ H x vs v us Q I rx rv h
  obtain ⟨l, b, xs, zs, rfl, rfl, hH, hB, hz, q⟩ := h
  cases rx
  obtain ⟨u, rfl, ru⟩ := L2.Vals.one rv
  cases ru
  obtain ⟨z, its, n, r, hl, e⟩ := I.lstM hH
  obtain ⟨its2, r2, ⟨⟨cls, dd, dt, sl⟩, e2, c2, n2, d2⟩, hz2⟩ := I.tuple hB
  simp only at c2 d2
  subst c2 d2
  have hl2 := r2.length
  have hsz : its.toArray.size + its2.toArray.size ≤ sizeLine := by rw [List.size_toArray, List.size_toArray]; omega
  have hlong : ¬ (!its.toArray.isEmpty && Builtin.List.listTooLong (its.toArray.size + its2.toArray.size)) = true := by
    rw [notLongL hsz, Bool.and_false]
    exact Bool.false_ne_true
  refine call_meets F.slot_list_extend ⟨_, e, rfl⟩ F.entry_list_extend (F.args_list_extend_2 _ _)
    (PySem.list_extend_tupG l its.toArray n b its2.toArray n2 dd sl hlong (by rw [List.size_toArray]; omega) (by omega)) ⟨e, e2, ?_⟩
  refine ⟨.non, _, I.lset (its' := its ++ its2) hH e (by simp) (r.append r2) ?_, rfl, q⟩
  rw [List.length_append]
  omega
end
/-! ### methods that write -/
@[simp] def isLstE (e : List Sl) (i : Nat) : Bool := match (e[i]?).bind Sl.mu with
  | some (.lst _) => true
  | _ => false
@[simp] def mtR (g : D → List D → Option (D × D)) (i : Nat) (vls : List Vl) (e : List Sl) : Rs := match Vls.toIm vls, (e[i]?).bind Sl.mu with
  | some ds, some d => (match g d ds with
    | some (d', r) => .ok (.im r) (putE i d' e)
    | none => .stk)
  | _, _ => .stk
/-- xs.m(..), xs in slot i, a list -/
@[simp] def mtF (g : D → List D → Option (D × D)) (i : Nat) (Fs : FxL)  (env : List Sl) : Rs := if isLstE env i then bindL (Fs env) fun vls e => mtR g i vls e else .stk
def MtS (K : PySem.W.Frag) (g : D → List D → Option (D × D)) (r : V → List V → Hp → VK → Prop) : Prop := ∀ (H G : Hp) (p : Addr) (d : D) (ds : List D) (xs : List V) (d' r' : D) (Q : VK), Same G H → G p = none → MuAt K H G d p → RpL K G ds xs → g d ds = some (d', r') →
  (∀ v H', (∀ b, b ≠ p → H' b = H b) → MuAt K H' G d' p → Rp K G r' v → Q v H') → r (.ref p) xs H Q
theorem ER.put {K : PySem.W.Frag} {H G H' : Hp} {σ : L2.St} {env : List Sl} {i : Nat} {s : Sl} {d d' : D} {p : Addr} (r : ER K H G σ env) (h1 : env[i]? = some s) (h2 : s.mu = some d) (h3 : σ[i]? = some (some (.ref p))) (hk : ∀ b, b ≠ p → H' b = H b) (hm : MuAt K H' G d' p) : Stp K σ H G env H' G (putE i d' env) := by
  obtain ⟨hl, _⟩ := List.getElem?_eq_some_iff.mp h1
  have kin : ∀ k : Nat, Kin (env[k]?) ((putE i d' env)[k]?) := fun k => by
    rw [putE_get]
    by_cases z : i = k
    · subst z
      rw [if_pos rfl, h1]
      exact put_kin
    · rw [if_neg z]
      exact Kin.refl _
  have gp : G p = none := by
    obtain ⟨p', w1, w2, _⟩ := r.mu i s d h1 h2
    rw [h3] at w1
    cases w1
    exact w2
  refine ⟨⟨?_, fun b o q => ?_, fun j e h => ?_, fun j t e q1 q2 => ?_, fun j k t u e f q x1 x2 x3 x4 x5 x6 => ?_⟩, Same.refl _, fun _ _ h => h, fun b o q n => ?_, kin⟩
  · rw [r.len]
    unfold putE
    rw [h1]
    simp
  · rw [hk b (fun z => by rw [z, gp] at q; cases q)]
    exact r.sub b o q
  · rw [putE_get] at h
    split at h
    · rename_i z
      subst z
      rw [h1] at h
      have h : some (s.put d') = some (Sl.val e) := h
      cases s <;> first | (cases h; done) | cases h2
    · exact r.val j e h
  · rw [putE_get] at q1
    split at q1
    · rename_i z
      subst z
      rw [h1] at q1
      have q1 : some (s.put d') = some t := q1
      cases q1
      rw [put_mu h2] at q2
      cases q2
      exact ⟨p, h3, gp, hm⟩
    · rename_i z
      obtain ⟨p', w1, w2, w3⟩ := r.mu j t e q1 q2
      refine ⟨p', w1, w2, w3.mono (hk p' fun y => ?_) (Same.refl _)⟩
      subst y
      exact z (r.sep i j s t d e p' h1 h2 q1 q2 h3 w1)
  · have back : ∀ {i' : Nat} {t : Sl} {d : D}, (putE i d' env)[i']? = some t → t.mu = some d → ∃ t' d', env[i']? = some t' ∧ t'.mu = some d' := fun {i' t d} q1 q2 => by
      have k := kin i'
      rw [q1] at k
      exact k.back q2
    obtain ⟨t', d1, y1, y2⟩ := back x1 x2
    obtain ⟨u', d2, y3, y4⟩ := back x3 x4
    exact r.sep j k t' u' d1 d2 q y1 y2 y3 y4 x5 x6
  · exact (hk b fun z => n ⟨i, s, d, h1, h2, z ▸ h3⟩).trans q
section
variable {K : PySem.W.Frag} {mg : Str → Option Value} {W : WX}
theorem mt_read {g : D → List D → Option (D × D)} {r : V → List V → Hp → VK → Prop} (hs : MtS K g r) {σ : L2.St} {H G H1 G1 : Hp} {env env1 : List Sl} {i : Nat} {vls : List Vl} {vs : List V} {p : Addr} {Q : VK} (re : ER K H G σ env) (s1 : Stp K σ H G env H1 G1 env1) (v1 : VlsAt K H H1 G1 σ env1 vls vs)
    (hp : σ[i]? = some (some (.ref p))) (h : PostR K mg W σ H G env Q (mtR g i vls env1)) : r (.ref p) vs H1 Q := by
  unfold mtR at h
  cases e1 : Vls.toIm vls with
  | none => rw [e1] at h; exact h.elim
  | some ds =>
    cases e2 : (env1[i]?).bind Sl.mu with
    | none => rw [e1, e2] at h; exact h.elim
    | some d =>
      rw [e1, e2] at h
      simp only at h
      cases e3 : g d ds with
      | none => rw [e3] at h; exact h.elim
      | some dr =>
        obtain ⟨d', r'⟩ := dr
        rw [e3] at h
        simp only at h
        obtain ⟨G2, s2, g2, k2, hr⟩ := VlsW.imm re v1.w s1 e1
        cases e4 : env1[i]? with
        | none => rw [e4] at e2; cases e2
        | some s =>
          rw [e4] at e2
          have e2 : s.mu = some d := e2
          obtain ⟨p', w1, w2, w3⟩ := s2.er.mu i s d e4 e2
          rw [hp] at w1
          cases w1
          refine hs H1 G2 p d ds vs d' r' Q s2.er.sub w2 w3 hr e3 fun v H' hk hm hv => ?_
          exact h v H' G2 (s2.trans (s2.er.put e4 e2 hp hk hm) re) hv
theorem lst_ty {σ : L2.St} {H G : Hp} {env : List Sl} {i : Nat} {d : D} (re : ER K H G σ env) (h : isLstE env i = true) : ∃ p, σ[i]? = some (some (.ref p)) ∧ tyV K "list" (.ref p) H := by
  unfold isLstE at h
  cases e : env[i]? with
  | none => rw [e] at h; cases h
  | some s =>
    rw [e] at h
    cases e2 : s.mu with
    | none => have h : (match s.mu with | some (.lst _) => true | _ => false) = true := h; rw [e2] at h; cases h
    | some d =>
      have h : (match s.mu with | some (.lst _) => true | _ => false) = true := h
      rw [e2] at h
      obtain ⟨p, w1, w2, w3⟩ := re.mu i s d e e2
      cases d with
      | lst ds =>
        obtain ⟨xs, q1, _⟩ := w3
        exact ⟨p, w1, .inl ⟨rfl, xs, SqL.of q1⟩⟩
      | _ => cases h
end
section
variable {X : Cx} {W : WX} {i : Nat} {x name : Str} {p apos cpos : Pos} {e : Expr} {es : List Expr} {Fs : FxL} {id : String} {g : D → List D → Option (D × D)} {r : V → List V → Hp → VK → Prop}
theorem ex_mt (hm : MtR X id r) (hs : MtS X.K g r) (slot : Slot "list" name id) (hty : typeOf (.builtin id) = pure (.type "method_descriptor")) (ho : PE X (.Name x p) (tVar i)) (ha : AX X W (e :: es) Fs)
    (hx : ∀ (he : PE X (.Name x p) (tVar i)) (ha : PA X (e :: es) (tDA X.K X.mg W Fs)), PE X (.Call (.Attribute (.Name x p) name apos) (e :: es) [] cpos) (tBM X.K "list" r (tVar i) (tDA X.K X.mg W Fs))) :
    EX X W (.Call (.Attribute (.Name x p) name apos) (e :: es) [] cpos) (mtF g i Fs) := by
  refine PE.weak (hx ho ha) fun σ H Q ⟨G, env, re, h⟩ => ?_
  unfold mtF at h
  split at h
  · rename_i c
    obtain ⟨p, w1, w2⟩ := lst_ty (d := .non) re c
    exact ⟨_, w1, w2, tDA_bind re h fun vls e1 vs H1 G1 s1 v1 p1 => mt_read hs re s1 v1 w1 p1⟩
  · exact h.elim
theorem ex_mt0 (hm : MtR X id r) (hs : MtS X.K g r) (ho : PE X (.Name x p) (tVar i))
    (hx : ∀ (he : PE X (.Name x p) (tVar i)), PE X (.Call (.Attribute (.Name x p) name apos) [] [] cpos) (tBM0 X.K "list" r (tVar i))) :
    EX X W (.Call (.Attribute (.Name x p) name apos) [] [] cpos) (mtF g i nilF) := by
  refine PE.weak (hx ho) fun σ H Q ⟨G, env, re, h⟩ => ?_
  unfold mtF at h
  split at h
  · rename_i c
    obtain ⟨p, w1, w2⟩ := lst_ty (d := .non) re c
    exact ⟨_, w1, w2, mt_read hs re (Stp.refl re) (vls := []) rfl w1 h⟩
  · exact h.elim
end
@[simp] def appM : D → List D → Option (D × D)
  | .lst ds, [x] => if decide (ds.length < 16777216) then some (.lst (ds ++ [x]), .non) else none
  | _, _ => none
@[simp] def popM : D → List D → Option (D × D)
  | .lst ds, [] => match ds.getLast? with
    | some d => some (.lst ds.dropLast, d)
    | none => none
  | _, _ => none
@[simp] def extM : D → List D → Option (D × D)
  | .lst ds, [.lst es] => if szB (ds.length + es.length) then some (.lst (ds ++ es), .non) else none
  | .lst ds, [.tup es] => if szB (ds.length + es.length) then some (.lst (ds ++ es), .non) else none
  | _, _ => none
@[simp] def clrM : D → List D → Option (D × D)
  | .lst _, [] => some (.lst [], .non)
  | _, _ => none
section
variable {X : Cx} {K : PySem.W.Frag}
theorem mts_app : MtS K appM rAppend := by
  intro H G p d ds xs d' r' Q s gp hm hr e k
  unfold appM at e
  split at e
  · rename_i as x
    split at e
    · rename_i c
      cases e
      obtain ⟨ys, h1, h2⟩ := hm
      obtain ⟨y, t, rfl, h3, h4⟩ := hr
      rw [show t = [] from h4]
      refine ⟨p, ys, y, rfl, rfl, h1, ?_, k _ _ (fun b hb => upd_ne hb) ⟨_, upd_same, h2.append (RpL.one h3)⟩ rfl⟩
      rw [h2.length, sizeLine_eq]
      exact of_decide_eq_true c
    · cases e
  · cases e
theorem RpL.dropLast {G : Hp} {ds : List D} {xs : List V} (h : RpL K G ds xs) : RpL K G ds.dropLast xs.dropLast := by
  rw [List.dropLast_eq_take, List.dropLast_eq_take, h.length]
  exact h.take _
theorem mts_pop : MtS K popM rPop := by
  intro H G p d ds xs d' r' Q s gp hm hr e k
  unfold popM at e
  split at e
  · rename_i as
    split at e
    · rename_i x q
      cases e
      obtain ⟨ys, h1, h2⟩ := hm
      rw [List.getLast?_eq_getElem?] at q
      obtain ⟨y, h3, h4⟩ := h2.get q
      rw [show xs = [] from hr]
      exact ⟨p, ys, y, rfl, rfl, h1, by rw [h2.length]; exact h3, k _ _ (fun b hb => upd_ne hb) ⟨_, upd_same, RpL.dropLast h2⟩ h4⟩
    · cases e
  · cases e
theorem mts_ext : MtS K extM (fun x vs H Q => rExtend x vs H Q ∨ rExtendT K x vs H Q) := by
  intro H G p d ds xs d' r' Q s gp hm hr e k
  unfold extM at e
  split at e
  · rename_i as bs
    split at e
    · rename_i c
      cases e
      obtain ⟨ys, h1, h2⟩ := hm
      obtain ⟨y, t, rfl, ⟨b, zs, rfl, h3, h5⟩, h4⟩ := hr
      rw [show t = [] from h4]
      exact .inl ⟨p, b, ys, zs, rfl, rfl, h1, s _ _ h3, by rw [h2.length, h5.length]; exact szB_le c, k _ _ (fun b hb => upd_ne hb) ⟨_, upd_same, h2.append h5⟩ rfl⟩
    · cases e
  · rename_i as bs
    split at e
    · rename_i c
      cases e
      obtain ⟨ys, h1, h2⟩ := hm
      obtain ⟨y, t, rfl, ⟨b, zs, rfl, h3, h5⟩, h4⟩ := hr
      rw [show t = [] from h4]
      exact .inr ⟨p, b, ys, zs, rfl, rfl, h1, Same.sqT s h3, by rw [h2.length, h5.length]; exact szB_le c, k _ _ (fun b hb => upd_ne hb) ⟨_, upd_same, h2.append h5⟩ rfl⟩
    · cases e
  · cases e
theorem mts_clr : MtS K clrM rClear := by
  intro H G p d ds xs d' r' Q s gp hm hr e k
  unfold clrM at e
  split at e
  · cases e
    obtain ⟨ys, h1, h2⟩ := hm
    rw [show xs = [] from hr]
    exact ⟨p, ys, rfl, rfl, h1, k _ _ (fun b hb => upd_ne hb) ⟨_, upd_same, rfl⟩ rfl⟩
  · cases e
variable {W : WX} {x : Str} {p apos cpos : Pos} {e : Expr} {es : List Expr} {Fs : FxL}
theorem ex_append {i : Nat} (ho : PE X (.Name x p) (tVar i)) (ha : AX X W (e :: es) Fs) (hbase : attributeBase (.Name x p) "append" X.env (eval (.Name x p) X.env) = eval (.Name x p) X.env := by rfl)
    (hfew : ((backTo cpos (starEach (e :: es) X.env)).all (fun x => !x.1) && (backToKw cpos (keywordEach [] X.env)).all (fun x => x.1.isSome)
      && decide ((e :: es).length + ([] : List Keyword).length + (if ([] : List Keyword).isEmpty then 0 else 1) < 30)) = true := by rfl)
    (hline : (apos.endLine == cpos.line) = true := by rfl) (hs : starEach (e :: es) X.env = (false, eval e X.env) :: starEach es X.env := by rfl) (hplain : (backTo cpos (starEach es X.env)).any (·.1) = false := by rfl) : EX X W (.Call (.Attribute (.Name x p) "append" apos) (e :: es) [] cpos) (mtF appM i Fs) :=
  ex_mt mt_append mts_app PySem.F.slot_list_append PySem.F.type_list_append ho ha fun ho ha => pe_bm PySem.F.plainAttrs_list PySem.F.slot_list_append PySem.F.type_list_append mt_append ho ha hbase hfew hline hs hplain
theorem ex_extend {i : Nat} (ho : PE X (.Name x p) (tVar i)) (ha : AX X W (e :: es) Fs) (hbase : attributeBase (.Name x p) "extend" X.env (eval (.Name x p) X.env) = eval (.Name x p) X.env := by rfl)
    (hfew : ((backTo cpos (starEach (e :: es) X.env)).all (fun x => !x.1) && (backToKw cpos (keywordEach [] X.env)).all (fun x => x.1.isSome)
      && decide ((e :: es).length + ([] : List Keyword).length + (if ([] : List Keyword).isEmpty then 0 else 1) < 30)) = true := by rfl)
    (hline : (apos.endLine == cpos.line) = true := by rfl) (hs : starEach (e :: es) X.env = (false, eval e X.env) :: starEach es X.env := by rfl) (hplain : (backTo cpos (starEach es X.env)).any (·.1) = false := by rfl) : EX X W (.Call (.Attribute (.Name x p) "extend" apos) (e :: es) [] cpos) (mtF extM i Fs) :=
  ex_mt (L2.MtR.or mt_extend mt_extendT) mts_ext PySem.F.slot_list_extend PySem.F.type_list_extend ho ha fun ho ha => pe_bm PySem.F.plainAttrs_list PySem.F.slot_list_extend PySem.F.type_list_extend (L2.MtR.or mt_extend mt_extendT) ho ha hbase hfew hline hs hplain
theorem ex_pop {i : Nat} (ho : PE X (.Name x p) (tVar i)) (hbase : attributeBase (.Name x p) "pop" X.env (eval (.Name x p) X.env) = eval (.Name x p) X.env := by rfl) (hline : (apos.endLine == cpos.line) = true := by rfl) : EX X W (.Call (.Attribute (.Name x p) "pop" apos) [] [] cpos) (mtF popM i nilF) :=
  ex_mt0 mt_pop mts_pop ho fun ho => pe_bm0 PySem.F.plainAttrs_list PySem.F.slot_list_pop PySem.F.type_list_pop mt_pop ho hbase hline
theorem ex_clear {i : Nat} (ho : PE X (.Name x p) (tVar i)) (hbase : attributeBase (.Name x p) "clear" X.env (eval (.Name x p) X.env) = eval (.Name x p) X.env := by rfl) (hline : (apos.endLine == cpos.line) = true := by rfl) : EX X W (.Call (.Attribute (.Name x p) "clear" apos) [] [] cpos) (mtF clrM i nilF) :=
  ex_mt0 mt_clear mts_clr ho fun ho => pe_bm0 PySem.F.plainAttrs_list PySem.F.slot_list_clear PySem.F.type_list_clear mt_clear ho hbase hline
/-! ### xs[i] = e -/
@[simp] def stoR (k : Nat) (v vi : Vl) (e2 : List Sl) : Out := match v.toIm, vi.rd e2, (e2[k]?).bind Sl.mu with
  | some d, some (.int i), some (.lst ds) => (match ixN ds.length i with
    | some j => .nx (putE k (.lst (ds.set j d)) e2)
    | none => .stk)
  | _, _, _ => .stk
/-- xs in slot k, a list -/
@[simp] def stoS (k : Nat) (Fi F : Fx)  (env : List Sl) : Out := match F env with
  | .ok v e1 => if isLstE e1 k then (match Fi e1 with
    | .ok vi e2 => stoR k v vi e2
    | .err c e => .err c e
    | .stk => .stk) else .stk
  | .err c e => .err c e
  | .stk => .stk
theorem st_sto {k : Nat} {i e' : Expr} {Fi F : Fx} {pos pos2 : Pos} (ho : PE X (.Name x p) (tVar k)) (he : EX X W e' F) (hi : EX X W i Fi)
    (ha : ∀ v, assign (.Subscript (.Name x p) i pos2) X.env v = (do
      let ov ← holding [v] (eval (.Name x p) X.env)
      let iv ← holding [v, ov] (eval i X.env)
      standAt pos2
      holding [v, ov, iv] (setItem ov iv v)
      release [v, ov, iv] []) := by intro _; rfl)
    (hs : swapsWithSole [.Subscript (.Name x p) i pos2] e' pos.line X.env = pure false := by rfl) (hw : swappedStores [.Subscript (.Name x p) i pos2] e' X.env = pure none := by rfl)
    (h1 : (assignEach [.Subscript (.Name x p) i pos2] X.env).map (·.2) = [assign (.Subscript (.Name x p) i pos2) X.env] := by rfl) : ST X W (.Assign [.Subscript (.Name x p) i pos2] e' pos) (stoS k Fi F) := by
  intro H0 G0 pa
  refine PS.weak (ps_asg he (pg_sub ho hi set_list ha) hs hw h1) fun D σ H ⟨G, env, r, h⟩ => ?_
  have h' : PostS X.K X.mg W H0 G0 pa D (match F env with
      | .ok v e => (fun v e1 => if isLstE e1 k then (match Fi e1 with
    | .ok vi e2 => stoR k v vi e2
    | .err c e => .err c e
    | .stk => .stk) else .stk) v e
      | .err c e => .err c e
      | .stk => .stk) := h
  refine SR.bind r h' fun vl env1 v H1 G1 _ s v1 r1 p => ?_
  split at p
  · rename_i c
    obtain ⟨q, w1, w2⟩ := lst_ty (K := X.K) (d := .non) r1.er c
    refine ⟨_, w1, SR.bind (f := fun vi e2 => stoR k vl vi e2) r1 p fun vi env2 u H2 G2 _ s2 v2 r2 p2 => ?_⟩
    unfold stoR at p2
    cases e1 : vl.toIm with
    | none => simp only [e1] at p2; exact p2.elim
    | some d =>
      cases e2 : vi.rd env2 with
      | none => simp only [e1, e2] at p2; exact p2.elim
      | some di =>
        cases di with
        | int ii =>
          cases e3 : (env2[k]?).bind Sl.mu with
          | none => simp only [e1, e2, e3] at p2; exact p2.elim
          | some dk =>
            cases dk with
            | lst ds =>
              simp only [e1, e2, e3] at p2
              cases e4 : ixN ds.length ii with
              | none => simp only [e4] at p2; exact p2.elim
              | some j =>
                simp only [e4] at p2
                have v1' : VlAt X.K H H2 G2 σ env2 vl v := v1.step s2 fun p hp m => (MuIs.new r.er hp) (m.of s.kin)
                have s12 := s.trans s2 r.er
                obtain ⟨G3, s3, g3, k3, hr⟩ := v1'.w.imm s12 r.er e1
                cases e5 : env2[k]? with
                | none => rw [e5] at e3; cases e3
                | some t =>
                  rw [e5] at e3
                  have e3 : t.mu = some (.lst ds) := e3
                  obtain ⟨q', y1, y2, xs, y3, y4⟩ := s3.er.mu k t _ e5 e3
                  rw [w1] at y1
                  cases y1
                  refine ⟨q, xs, ii, j, rfl, (v2.read r2.er e2).int, y3, by rw [y4.length]; exact e4, ?_⟩
                  have st := s3.er.put (H' := upd H2 q (.lst (xs.set j v))) e5 e3 w1 (fun b hb => upd_ne hb) (d' := .lst (ds.set j d)) ⟨_, upd_same, y4.set j hr⟩
                  exact p2 σ _ G3 ((r.step s3).step st)
            | _ => simp only [e1, e2, e3] at p2; exact p2.elim
        | _ => simp only [e1, e2] at p2; exact p2.elim
  · exact p.elim
end
end HF

set_option Elab.async false
set_option linter.all false
set_option maxRecDepth 100000
set_option maxHeartbeats 4000000
set_option autoImplicit false
namespace HF
open PySem PySem.Spec PyProof.Rows L2
/-! ### what a law's text brings -/
def bltL : List Str := ["len", "isinstance", "abs", "int", "str", "tuple", "list", "all", "any", "sum", "range", "zip", "reversed", "bool", "set", "dict"]
def Blt (mg : Str → Option Value) : Prop := ∀ x, x ∈ bltL → mg x = none
theorem hu65 {k : Nat} {A : Around} (hr : Room k A) : A.units + 65 < cLine := by have := hr.un; omega
/-- a constant of the module -/
def GConst (K : PySem.W.Frag) (mg : Str → Option Value) (x : Str) (d : D) : Prop := ∃ v u, mg x = some u ∧ RelV v u ∧ ∀ G, Rp K G d v
theorem ex_gc {X : Cx} {W : WX} {x : Str} {d : D} {pos : Pos} (g : GConst X.K X.mg x d) (hg : Gl X x := by rfl) (hd : (x == ("__debug__" : Str)) = false := by decide) : EX X W (.Name x pos) (cF d) := by
  obtain ⟨v, u, h1, h2, h3⟩ := g
  exact ex_glob h1 h2 h3 hg hd
/-- an error class of the module -/
def GExc (K : PySem.W.Frag) (mg : Str → Option Value) (x : Str) : Prop := ∃ (C : Addr) (bmB : List Value) (B newId initId : String), ∃ (F : ExcBaseFacts B newId initId bmB), PySem.W.excIn K C bmB newId = true ∧ mg x = some (.ref C) ∧ PySem.W.keepIn K (.ref C) = true ∧
  PySem.W.subIn K (.ref C) (.type "BaseException") = some true ∧ PySem.W.typeIn K (.ref C) = some (.type "type")
@[simp] def negG : D → Gr
  | .int i => .im (.int (-i))
  | _ => .stk
@[simp] def negF (Fa : Fx)  (env : List Sl) : Rs := bindR (Fa env) fun va e => match va.rd e with
  | some d => (negG d).rs e
  | none => .stk
section
variable {X : Cx} {W : WX} {a b c : Expr} {Fa Fb Fc : Fx} {pos : Pos}
theorem ex_neg (ha : EX X W a Fa) : EX X W (.UnaryOp .USub a pos) (negF Fa) := by
  refine PE.weak (pe_un un_neg ha) fun σ H Q ⟨G, env, r, h⟩ => ?_
  refine tD_bind r h fun va e1 x H1 G1 s1 v1 p1 => ?_
  have p1 := PostR.shift s1 r p1
  cases ea : va.rd e1 with
  | none => simp only [ea] at p1; exact p1.elim
  | some d =>
    simp only [ea] at p1
    have rd := v1.read s1.er ea
    cases d with
    | int i => exact ⟨i, rd.int, (GrPost.of s1.er p1).same s1.er.sub rfl⟩
    | _ => exact p1.elim
@[simp] def chainR (g g' : D → D → Gr) (Fc : Fx) (va vb : Vl) (e2 : List Sl) : Rs := match va.rd e2, vb.rd e2 with
  | some a, some b => (match g a b with
    | .im (.bl true) => bindR (Fc e2) fun vc e3 => opR g' vb vc e3
    | .im (.bl false) => .ok (.im (.bl false)) e2
    | _ => .stk)
  | _, _ => .stk
@[simp] def chainF (g g' : D → D → Gr) (Fa Fb Fc : Fx)  (env : List Sl) : Rs := bindR (Fa env) fun va e1 => bindR (Fb e1) fun vb e2 => chainR g g' Fc va vb e2
theorem chain_of {K : PySem.W.Frag} {mg : Str → Option Value} {g g' : D → D → Gr} {r r' : R2} (hs : OpSound K g r) (hs' : OpSound K g' r') : ∀ σ H Q, tD K mg W (chainF g g' Fa Fb Fc) σ H Q → tChain r r' (tD K mg W Fa) (tD K mg W Fb) (tD K mg W Fc) σ H Q := by
  intro σ H Q ⟨G, env, re, h⟩
  refine tD_bind re h fun va e1 x H1 G1 s1 v1 p1 => ?_
  refine tD_bind s1.er (PostR.shift s1 re p1) fun vb e2 y H2 G2 s2 v2 p2 => ?_
  have p3 := PostR.shift s2 s1.er p2
  have v1' := v1.step s2 fun p hp m => (MuIs.new re hp) (m.of s1.kin)
  have p3 : PostR K mg W σ H2 G2 e2 Q (chainR g g' Fc va vb e2) := p3
  unfold chainR at p3
  cases ea : va.rd e2 with
  | none => rw [ea] at p3; exact p3.elim
  | some da =>
    cases eb : vb.rd e2 with
    | none => rw [ea, eb] at p3; exact p3.elim
    | some db =>
      rw [ea, eb] at p3
      simp only at p3
      refine hs H2 G2 x y da db _ s2.er.sub (v1'.read s2.er ea) (v2.read s2.er eb) ?_
      cases eg : g da db with
      | stk => rw [eg] at p3; exact p3.elim
      | fr d => rw [eg] at p3; exact p3.elim
      | im d =>
        rw [eg] at p3
        cases d with
        | bl k =>
          intro v H3 G3 gs hv
          have s3 : Stp K σ H2 G2 e2 H3 G3 e2 := Stp.gs s2.er gs
          refine ⟨k, hv, ?_⟩
          cases k with
          | false => exact L2.iteF (p3 _ H3 G3 s3 rfl)
          | true =>
            refine L2.iteT ?_
            refine tD_bind s3.er (PostR.shift s3 s2.er p3) fun vc e4 z H4 G4 s4 v4 p4 => ?_
            have p5 := PostR.shift s4 s3.er p4
            have v2' : VlAt K H1 H4 G4 σ e4 vb y := (v2.step s3 fun p hp m => (MuIs.new s1.er hp) (m.of s2.kin)).step s4 fun p hp m => (MuIs.new s1.er hp) (m.of s2.kin)
            have p5 : PostR K mg W σ H4 G4 e4 Q (opR g' vb vc e4) := p5
            unfold opR at p5
            cases ec : vb.rd e4 with
            | none => rw [ec] at p5; exact p5.elim
            | some dc =>
              cases ed : vc.rd e4 with
              | none => rw [ec, ed] at p5; exact p5.elim
              | some dd =>
                rw [ec, ed] at p5
                exact hs' H4 G4 y z dc dd Q s4.er.sub (v2'.read s4.er ec) (v4.read s4.er ed) (GrPost.of s4.er p5)
        | _ => exact p3.elim
theorem ex_chain {op op' : CmpOp} {g g' : D → D → Gr} {r r' : R2} (ho : OpR X (compareOp op) r) (hs : OpSound X.K g r) (ho' : OpR X (compareOp op') r') (hs' : OpSound X.K g' r') (ha : EX X W a Fa) (hb : EX X W b Fb) (hc : EX X W c Fc)
    (hm : lastMarks [op, op'] [b, c] = false := by with_unfolding_all rfl) : EX X W (.Compare a [op, op'] [b, c] pos) (chainF g g' Fa Fb Fc) :=
  PE.weak (pe_chain ho ho' ha hb hc hm) (chain_of hs hs')
theorem tx_chain {op op' : CmpOp} {g g' : D → D → Gr} {r r' : R2} (ho : OpR X (compareOp op) r) (hs : OpSound X.K g r) (ho' : OpR X (compareOp op') r') (hs' : OpSound X.K g' r') (ha : EX X W a Fa) (hb : EX X W b Fb) (hc : EX X W c Fc)
    (hm : lastMarks [op, op'] [b, c] = false := by with_unfolding_all rfl) : TX X W (.Compare a [op, op'] [b, c] pos) (chainF g g' Fa Fb Fc) :=
  PT.weak (pt_chain ho ho' ha hb hc hm) fun σ H Q h => chain_of hs hs' σ H _ (tT_tD h)
end
/-! ### calls without arguments -/
@[simp] def callF0 (Φ : List Ar → FR)  (env : List Sl) : Rs := callR [] Φ [] env
section
variable {X : Cx} {W : WX} {x : Str} {k k' : Nat} {Φ : List Ar → FR} {p pos : Pos}
theorem ex_call0 (c : Cal X.prog X.w X.K X.mg X.base k x 0 Φ) (hr : Room k' X.A) (hk : k ≤ k') (tk : L2N.Takes X W) (hg : Gl X x := by rfl) (hdb : (x == ("__debug__" : Str)) = false := by decide) :
    EX X W (.Call (.Name x p) [] [] pos) (callF0 Φ) := by
  obtain ⟨f, fd, ps, F, gm, gk, gb⟩ := c
  have pe : PE X (.Call (.Name x p) [] [] pos) (fun σ H Q => spD X.K X.mg 0 Φ [] H Q (WE W σ)) := by
    refine ⟨fun pins s σ H Q I h => ?_⟩
    refine wpAny_Call_Name_kw (ld_glob I hg gm ?_ hdb)
    exact PySem.W.callWith_K0 I.kIn gk (run_fnS (us := []) (E := fun σ => WE W σ) F (hr.mono hk) gb (L2N.passAt tk σ) I .nil h)
  refine PE.weak pe fun σ H Q ⟨G, env, r, h⟩ => ?_
  exact call_of (vls := []) (sg := []) r (Stp.refl r) rfl h rfl
end
/-! ### the law itself -/
def spLaw (K : PySem.W.Frag) : Sp := fun vs H Q _ => ∃ (a : Addr) (ns : List Int), vs = [.ref a] ∧ SqL K H a (ns.map V.int) ∧ ns.length ≤ 63 ∧ ∀ H', Q (.bl true) H'
theorem law_fn {P : Program} {w : World} {K : PySem.W.Frag} {mg : Str → Option Value} {base : Heap} {k : Nat} {Φ : List Ar → FR} {f : Addr} {fd : FuncData} {ps : List Str} (F : FnOk P w K mg base (L2N.CX P w) k f fd ps (spD K mg 1 Φ)) (hl : ∀ ns : List Int, ns.length ≤ 63 → Φ [.val (.scr ns)] = .im (.bl true) [.val (.scr ns)]) :
    FnOk P w K mg base (L2N.CX P w) k f fd ps (spLaw K) := by
  refine F.imp fun vs H Q E ⟨a, ns, e, hS, h63, q⟩ => ?_
  subst e
  refine ⟨H, [.val (.scr ns)], rfl, ⟨Same.refl _, ⟨.ref a, [], rfl, ⟨a, rfl, hS⟩, rfl⟩, fun i j d e p h1 => ?_⟩, ?_⟩
  · cases i with
    | zero => cases h1
    | succ i => simp at h1
  · rw [hl ns h63]
    intro v H' G' c hv
    rw [show v = .bl true from hv]
    exact q H'
theorem Cal.law {P : Program} {w : World} {K : PySem.W.Frag} {mg : Str → Option Value} {base : Heap} {k : Nat} {Φ : List Ar → FR} {f : Addr} {x : Str} (c : Cal P w K mg base k x 1 Φ) (hm : mg x = some (.ref f)) (hl : ∀ ns : List Int, ns.length ≤ 63 → Φ [.val (.scr ns)] = .im (.bl true) [.val (.scr ns)]) :
    ∃ fd ps, FnOk P w K mg base (L2N.CX P w) k f fd ps (spLaw K) := by
  obtain ⟨f', fd, ps, F, h1, _⟩ := c
  rw [hm] at h1
  cases h1
  exact ⟨fd, ps, law_fn F hl⟩
/-- a def's facts -/
theorem cal_of {P : Program} {w : World} {K : PySem.W.Frag} {mg : Str → Option Value} {base : Heap} {k : Nat} {f : Addr} {fd : FuncData} {ps : List Str} {n : Nat} {Φ : List Ar → FR} {x : Str} (F : FnOk P w K mg base (L2N.CX P w) k f fd ps (spD K mg n Φ)) (hm : mg x = some (.ref f)) (hk : PySem.W.keepIn K (.ref f) = true) (hb : Binds K fd ps []) : Cal P w K mg base k x n Φ := ⟨f, fd, ps, F, hm, hk, hb⟩
end HF

set_option Elab.async false
set_option linter.all false
set_option maxRecDepth 100000
set_option maxHeartbeats 4000000
set_option autoImplicit false
namespace HF
open PySem PySem.Spec PyProof.Rows L2
/-! ### plain facts -/
theorem Cal.never {P : Program} {w : World} {K : PySem.W.Frag} {mg : Str → Option Value} {base : Heap} {k n : Nat} {x : Str} {f : Addr} {fd : FuncData} {ps : List Str} (hm : mg x = some (.ref f)) (hk : PySem.W.keepIn K (.ref f) = true) (hb : Binds K fd ps []) : Cal P w K mg base k x n (fun _ => .stk) :=
  ⟨f, fd, ps, ⟨fun vs H Q E ⟨_, _, _, _, h⟩ => h.elim, fun A outer s H args us vs Q E hr he hbt hv ⟨_, _, _, _, h⟩ => h.elim⟩, hm, hk, hb⟩
def iterF (F : (List Ar → FR) → List Ar → FR) : Nat → List Ar → FR
  | 0 => fun _ => .stk
  | n + 1 => F (iterF F n)
theorem Cal.iter {P : Program} {w : World} {K : PySem.W.Frag} {mg : Str → Option Value} {base : Heap} {k0 n : Nat} {x : Str} {F : (List Ar → FR) → List Ar → FR} (h0 : Cal P w K mg base k0 x n (fun _ => .stk)) (st : ∀ k Φ, k0 ≤ k → Cal P w K mg base k x n Φ → Cal P w K mg base (k + 1) x n (F Φ)) : ∀ N, Cal P w K mg base (k0 + N) x n (iterF F N)
  | 0 => h0
  | N + 1 => st _ _ (Nat.le_add_right _ _) (Cal.iter h0 st N)
mutual
def D.wt : D → Nat
  | .tup xs => 1 + D.wtL xs
  | _ => 1
def D.wtL : List D → Nat
  | [] => 0
  | d :: ds => D.wt d + D.wtL ds
end
@[simp] theorem D.wtL_nil : D.wtL [] = 0 := by rw [D.wtL]
@[simp] theorem D.wtL_cons (d : D) (ds : List D) : D.wtL (d :: ds) = d.wt + D.wtL ds := by rw [D.wtL]
@[simp] theorem D.wt_tup (xs : List D) : (D.tup xs).wt = 1 + D.wtL xs := by rw [D.wt]
@[simp] theorem D.wtL_append (a b : List D) : D.wtL (a ++ b) = D.wtL a + D.wtL b := by
  induction a with
  | nil => simp
  | cons x a ih => simp [ih]; omega
theorem D.wt_pos (d : D) : 1 ≤ d.wt := by
  cases d <;> simp [D.wt]
theorem D.length_le_wtL (ds : List D) : ds.length ≤ D.wtL ds := by
  induction ds with
  | nil => simp
  | cons d ds ih => have := d.wt_pos; simp; omega
/-- data that == can look at -/
abbrev D.pl (d : D) : Prop := d.py.canLay0 = true
abbrev D.plL (ds : List D) : Prop := PyData.canLayAll0 (D.pyL ds) = true
abbrev D.dp (d : D) : Nat := d.py.depth
abbrev D.dpL (ds : List D) : Nat := PyData.depthAll (D.pyL ds)
@[simp] theorem D.py_non : D.py .non = .none := by rw [D.py]
@[simp] theorem D.py_bl (b : Bool) : D.py (.bl b) = .bool b := by rw [D.py]
@[simp] theorem D.py_int (i : Int) : D.py (.int i) = .int i := by rw [D.py]
@[simp] theorem D.py_str (s : Str) : D.py (.str s) = .str s := by rw [D.py]
@[simp] theorem D.py_tup (xs : List D) : D.py (.tup xs) = .tuple (D.pyL xs) := by rw [D.py]
@[simp] theorem D.py_lst (xs : List D) : D.py (.lst xs) = .list (D.pyL xs) := by rw [D.py]
@[simp] theorem D.pyL_nil : D.pyL [] = [] := by rw [D.pyL]
@[simp] theorem D.pyL_cons (d : D) (ds : List D) : D.pyL (d :: ds) = d.py :: D.pyL ds := by rw [D.pyL]
@[simp] theorem D.pyL_append (a b : List D) : D.pyL (a ++ b) = D.pyL a ++ D.pyL b := by simp [D.pyL_map]
@[simp] theorem canLay0_tup (xs : List PyData) : (PyData.tuple xs).canLay0 = PyData.canLayAll0 xs := by rw [PyData.canLay0]
@[simp] theorem canLay0_lst (xs : List PyData) : (PyData.list xs).canLay0 = PyData.canLayAll0 xs := by rw [PyData.canLay0]
@[simp] theorem canLay0_int (i : Int) : (PyData.int i).canLay0 = true := by rw [PyData.canLay0]
@[simp] theorem canLay0_bool (i : Bool) : (PyData.bool i).canLay0 = true := by rw [PyData.canLay0]
@[simp] theorem canLay0_none : (PyData.none).canLay0 = true := by rw [PyData.canLay0]
@[simp] theorem canLay0_str (x : Str) : (PyData.str x).canLay0 = PyData.strOk x := by rw [PyData.canLay0]
@[simp] theorem canLayAll0_nil : PyData.canLayAll0 [] = true := by rw [PyData.canLayAll0]
@[simp] theorem canLayAll0_cons (d : PyData) (ds : List PyData) : PyData.canLayAll0 (d :: ds) = (d.canLay0 && PyData.canLayAll0 ds) := by rw [PyData.canLayAll0]
@[simp] theorem canLayAll0_append (a b : List PyData) : PyData.canLayAll0 (a ++ b) = (PyData.canLayAll0 a && PyData.canLayAll0 b) := by
  induction a with
  | nil => simp
  | cons x a ih => simp [ih, Bool.and_assoc]
@[simp] theorem depth_tup (xs : List PyData) : (PyData.tuple xs).depth = PyData.depthAll xs + 1 := by rw [PyData.depth]
@[simp] theorem depth_lst (xs : List PyData) : (PyData.list xs).depth = PyData.depthAll xs + 1 := by rw [PyData.depth]
@[simp] theorem depthAll_nil : PyData.depthAll [] = 0 := by rw [PyData.depthAll]
@[simp] theorem depthAll_cons (d : PyData) (ds : List PyData) : PyData.depthAll (d :: ds) = max d.depth (PyData.depthAll ds) := by rw [PyData.depthAll]
@[simp] theorem depthAll_append (a b : List PyData) : PyData.depthAll (a ++ b) = max (PyData.depthAll a) (PyData.depthAll b) := by
  induction a with
  | nil => simp
  | cons x a ih => simp [ih, Nat.max_assoc]
theorem D.plL_mem {ds : List D} {d : D} (h : D.plL ds) (m : d ∈ ds) : d.pl := by
  induction ds with
  | nil => cases m
  | cons x ds ih =>
    simp only [D.plL, D.pyL_cons, canLayAll0_cons, Bool.and_eq_true] at h
    cases m with
    | head => exact h.1
    | tail _ m => exact ih h.2 m
theorem D.plL_of {ds : List D} (h : ∀ d ∈ ds, d.pl) : D.plL ds := by
  induction ds with
  | nil => simp [D.plL]
  | cons x ds ih => simp [D.plL]; exact ⟨h x (by simp), ih fun d m => h d (by simp [m])⟩
theorem D.dpL_le {ds : List D} {n : Nat} : D.dpL ds ≤ n ↔ ∀ d ∈ ds, d.dp ≤ n := by
  induction ds with
  | nil => simp [D.dpL]
  | cons x ds ih => simp only [D.dpL, D.pyL_cons, depthAll_cons, Nat.max_le, List.mem_cons, forall_eq_or_imp] at ih ⊢; rw [ih]
@[simp] theorem eqv_lst (a b : List PyData) : PyData.eqv (.list a) (.list b) = PyData.eqvAll a b := by rw [PyData.eqv]
@[simp] theorem eqv_tup (a b : List PyData) : PyData.eqv (.tuple a) (.tuple b) = PyData.eqvAll a b := by rw [PyData.eqv]
/-- == with the empty list -/
theorem D.eqB_nil {xs : List D} (h : D.plL xs) : D.eqB (.lst xs) (.lst []) = some (decide (xs = [])) := by
  have h' : PyData.canLayAll0 (D.pyL xs) = true := h
  simp [D.eqB, h']
  cases xs with
  | nil => simp [PyData.eqvAll]
  | cons x xs => simp [PyData.eqvAll]
/-! ### loops -/
theorem forL_nx {TF : TFx} {S : Sx} (I : List D → List Sl → Prop) (all : List D) (h : ∀ dn d rest e, all = dn ++ d :: rest → I dn e → ∃ e1 e2, TF d e = some e1 ∧ S e1 = .nx e2 ∧ I (dn ++ [d]) e2) : ∀ e, I [] e → ∃ e', forL TF S all e = .nx e' ∧ I all e' := by
  have go : ∀ (rest dn : List D) (e : List Sl), all = dn ++ rest → I dn e → ∃ e', forL TF S rest e = .nx e' ∧ I all e' := by
    intro rest
    induction rest with
    | nil => intro dn e ha hi; exact ⟨e, by simp, by rw [ha, List.append_nil]; exact hi⟩
    | cons d rest ih =>
      intro dn e ha hi
      obtain ⟨e1, e2, h1, h2, h3⟩ := h dn d rest e ha hi
      obtain ⟨e', h4, h5⟩ := ih (dn ++ [d]) e2 (by simp [ha]) h3
      exact ⟨e', by simp [h1, h2, h4], h5⟩
  exact fun e hi => go all [] e rfl hi
/-- a comprehension over one name -/
theorem lcL_filter {i : Nat} {T E : Fx} (p : D → Bool) (g : D → D) {e : List Sl} (hi : e[i]? = some .non) : ∀ (ds acc : List D), acc.length + ds.length ≤ 16777216 → (∀ d ∈ ds, T (e.set i (.val d)) = .ok (.im (.bl (p d))) (e.set i (.val d))) → (∀ d ∈ ds, p d = true → E (e.set i (.val d)) = .ok (.im (g d)) (e.set i (.val d))) →
    lcL (Tg.F (.nm i)) T E [i] ds e acc = .ok (.fr (.lst (acc ++ (ds.filter p).map g))) e := by
  have hlt : i < e.length := (List.getElem?_eq_some_iff.mp hi).1
  have hs : e.set i .non = e := by
    apply List.ext_getElem? fun n => ?_
    by_cases z : i = n
    · subst z; rw [List.getElem?_set_self hlt, hi]
    · rw [List.getElem?_set_ne z]
  have hg : e[i] = Sl.non := (List.getElem?_eq_some_iff.mp hi).2
  intro ds
  induction ds with
  | nil => intro acc _ _ _; simp
  | cons d ds ih =>
    intro acc hl ht he
    simp only [List.length_cons] at hl
    have h1 := ht d (by simp)
    have r1 := ih acc (by omega) (fun d m => ht d (by simp [m])) (fun d m => he d (by simp [m]))
    cases hp : p d with
    | true =>
      have h2 := he d (by simp) hp
      have r2 := ih (acc ++ [g d]) (by simp; omega) (fun d m => ht d (by simp [m])) (fun d m => he d (by simp [m]))
      have hd : acc.length < 16777216 := by omega
      simp [setE, hi, h1, h2, hp, hs, hlt, hg, List.filter_cons, hd]
      simpa using r2
    | false =>
      simp [setE, hi, h1, hp, hs, hlt, hg, List.filter_cons]
      simpa using r1
theorem lcL_map {i : Nat} {E : Fx} (g : D → D) {e : List Sl} (hi : e[i]? = some .non) (ds acc : List D) (hl : acc.length + ds.length ≤ 16777216) (he : ∀ d ∈ ds, E (e.set i (.val d)) = .ok (.im (g d)) (e.set i (.val d))) :
    lcL (Tg.F (.nm i)) yesF E [i] ds e acc = .ok (.fr (.lst (acc ++ ds.map g))) e := by
  have := lcL_filter (T := yesF) (fun _ => true) g hi ds acc hl (fun d _ => by simp) (fun d m _ => he d m)
  rwa [List.filter_eq_self.mpr (fun _ _ => rfl)] at this
theorem intsD_map (g : D → Int) (ds : List D) : intsD (ds.map fun d => D.int (g d)) = some (ds.map g) := by
  induction ds with
  | nil => simp
  | cons d ds ih => simp [ih]
end HF

set_option Elab.async false
set_option linter.all false
set_option maxRecDepth 100000
set_option maxHeartbeats 4000000
set_option autoImplicit false
namespace HF
open PySem PySem.Spec PyProof.Rows L2
/-! ### the program's top -/
def Has (K : PySem.W.Frag) (mg : Str → Option Value) (x : Str) (st : Stmt) (ps : List Str) : Prop := ∃ f fd, Fun K x x st f fd ∧ mg x = some (.ref f) ∧ Binds K fd ps []
section
variable {K : PySem.W.Frag} {mg : Str → Option Value} {h : Heap}
theorem Has.mk {x : Str} {st : Stmt} {ps : List Str} {f : Addr} {fd : FuncData} (X : K.In h) (G : h.Ns mainGlobals mg) (a : PySem.W.nsIn K mainGlobals x = some (some (.ref f))) (F : Fun K x x st f fd) (b : Binds K fd ps []) : Has K mg x st ps := ⟨f, fd, F, PySem.W.mg_of X G a, b⟩
theorem GConst.int {x : Str} {i : Int} {t : Tok} (X : K.In h) (G : h.Ns mainGlobals mg) (a : PySem.W.nsIn K mainGlobals x = some (some (.int i t))) : GConst K mg x (.int i) :=
  ⟨.int i, .int i t, PySem.W.mg_of X G a, ⟨t, rfl⟩, fun _ => rfl⟩
theorem Blt.mk (h1 : mg "len" = none) (h2 : mg "isinstance" = none) (h3 : mg "abs" = none) (h4 : mg "int" = none) (h5 : mg "str" = none) (h6 : mg "tuple" = none) (h7 : mg "list" = none) (h8 : mg "all" = none) (h9 : mg "any" = none) (h10 : mg "sum" = none) (h11 : mg "range" = none) (h12 : mg "zip" = none) (h13 : mg "reversed" = none) (h14 : mg "bool" = none) (h15 : mg "set" = none) (h16 : mg "dict" = none) : Blt mg := by
  intro x hx
  simp only [bltL, List.mem_cons, List.not_mem_nil, or_false] at hx
  rcases hx with rfl | rfl | rfl | rfl | rfl | rfl | rfl | rfl | rfl | rfl | rfl | rfl | rfl | rfl | rfl | rfl <;> assumption
theorem Has.never {P : Program} {w : World} {base : Heap} {k n : Nat} {x : Str} {st : Stmt} {ps : List Str} (H : Has K mg x st ps) : Cal P w K mg base k x n (fun _ => .stk) := by
  obtain ⟨f, fd, F, hm, hb⟩ := H
  exact Cal.never hm F.kp hb
end
theorem no_exc {P : Program} {w : World} {H : Hp} {s : Shared} {e : Value} {s' : Shared} (h : L2N.CX P w [] H s (fun _ _ _ => False) e s') : False := by
  obtain ⟨_, _, _, _, _, _, _, _, _, _, _, _, z⟩ := h
  exact z
theorem spLaw_go {K : PySem.W.Frag} {H : Hp} {a : Addr} {ns : List Int} (hl : ns.length ≤ 63) (hS : SqL K H a (ns.map V.int)) : spLaw K [.ref a] H (fun v _ => v = .bl true) fun _ _ _ => False := ⟨a, ns, rfl, hS, hl, fun _ => rfl⟩
end HF

set_option Elab.async false
set_option linter.all false
set_option maxRecDepth 100000
set_option maxHeartbeats 4000000
set_option autoImplicit false
namespace HF
open PySem PySem.Spec PyProof.Rows L2
/-! ### errors: caught, asked for their class -/
theorem takes0N {X : Cx} : L2N.Takes X (fun _ _ _ _ => False) := fun u s' h => by
  obtain ⟨_, _, _, _, _, _, _, _, _, _, _, _, _, _, _, _, no⟩ := h
  cases no
/-- the object p is an error of the class C, which the module names c -/
structure ExcAt (K : PySem.W.Frag) (mg : Str → Option Value) (p : Addr × Obj) (c : Str) (C : Addr) : Prop where
  nm : mg c = some (.ref C)
  cl : p.2.cls = .ref C
  di : p.2.dict = none
  fl : ∃ vs : Array Value, p.2.data = .fields vs ∧ vs[2]? = some .none
/-- what isinstance finds of errors of the classes L, asked for x -/
structure GAsk (K : PySem.W.Frag) (mg : Str → Option Value) (L : List Str) (x : Str) (f : Str → Bool) : Prop where
  at_ : ∃ (v : V) (u : Value), ((mg x = some u) ∨ (mg x = none ∧ bootBuiltins x = some u ∧ x ≠ "__name__")) ∧ RelV v u ∧ (∀ u', RelV v u' → u' = u) ∧ ∀ c, c ∈ L → ∀ C, mg c = some (.ref C) → PySem.W.kitOne K (.ref C) u = some (f c)
/-- the classes L can be asked -/
def GCls (K : PySem.W.Frag) (mg : Str → Option Value) (L : List Str) : Prop := ∀ c, c ∈ L → ∀ C, mg c = some (.ref C) → ExcC K C
@[simp] def isEF (i : Nat) (a : Addr) (b : Bool) (env : List Sl) : Rs := match env[i]? with
  | some (.val (.ob a')) => if decide (a' = a) then .ok (.im (.bl b)) env else .stk
  | _ => .stk
section
variable {X : Cx} {W : WX}
theorem call_isX {p : Addr × Obj} {D : Addr} (hp : p ∈ X.pn) (C : ExcC X.K D) (h1 : p.2.cls = .ref D) (h2 : p.2.dict = none) (h3 : ∃ vs, p.2.data = .fields vs) : CallR X (.builtin "isinstance") (rIsE X.K D p.1) := by
  rintro pins s σ H xs us Q I r ⟨c, cv, b, rfl, hcv, e, q⟩
  obtain ⟨u1, u2, rfl, e1, e2⟩ : ∃ u1 u2, us = [u1, u2] ∧ RelV (.ref p.1) u1 ∧ RelV c u2 := by
    match us, r with
    | [u1, u2], .cons a (.cons b .nil) => exact ⟨u1, u2, rfl, a, b⟩
  have e1 : u1 = .ref p.1 := e1
  subst e1
  rw [hcv _ e2]
  have at_ := (I.pin p (List.mem_append.mpr (.inl hp))).1
  obtain ⟨vs, hv⟩ := h3
  have J : PySem.W.InstAt s.heap p.1 p.2 D none := by
    obtain ⟨pa, ⟨oc, oda, od, osl⟩⟩ := p
    dsimp only at h1 h2 hv
    subst h1 h2 hv
    exact ⟨at_, rfl, rfl, trivial⟩
  have Z := PySem.W.handS_kitx_exc (x := p.1) (ox := p.2) (D := D) C.hg C.hk C.hs C.hd C.ha C.hn C.ht C.hm
  exact PySem.W.kia_one Z I.kIn J e (by intro z; cases z) fun tk => ⟨.bl b, H, I.kept (t' := tk) (fun _ _ z => z), rfl, q⟩
/-- isinstance(e, x), e an error that is pinned here -/
theorem ex_isE {i : Nat} {n x : Str} {q1 q2 q3 pos : Pos} {L : List Str} {f : Str → Bool} {p : Addr × Obj} {c : Str} {D : Addr} (hm : X.mg "isinstance" = none) (hp : p ∈ X.pn) (E : ExcAt X.K X.mg p c D) (hc : c ∈ L) (C : GCls X.K X.mg L) (A : GAsk X.K X.mg L x f)
    (hN : X.N[i]? = some n := by rfl) (hv : Vis X.env.scope n := by first | exact Or.inl rfl | exact Or.inr (Or.inl rfl)) (hd : (n == ("__debug__" : Str)) = false := by decide) (hcd : (n == ("__classdict__" : Str)) = false := by decide) (hg : Gl X "isinstance" := by rfl) (hgx : Gl X x := by rfl) (hdx : (x == ("__debug__" : Str)) = false := by decide)
    (he : starEach [.Name n q1, .Name x q2] X.env = (false, eval (.Name n q1) X.env) :: starEach [.Name x q2] X.env := by rfl) (hpl : (backTo pos (starEach [.Name x q2] X.env)).any (·.1) = false := by rfl) :
    EX X W (.Call (.Name "isinstance" q3) [.Name n q1, .Name x q2] [] pos) (isEF i p.1 (f c)) := by
  obtain ⟨v, u, hu, r1, r2, r3⟩ := A.at_
  have pe2 : PE X (.Name x q2) (tC v) := by
    rcases hu with h | ⟨h1, h2, h3⟩
    · exact pe_glob hgx h r1 hdx
    · exact pe_bltn hgx h1 h2 r1 h3 hdx
  obtain ⟨vs, hvs, _⟩ := E.fl
  refine PE.weak (pe_callB (call_isX hp (C c hc D E.nm) E.cl E.di ⟨vs, hvs⟩) hg hm (by decide +kernel) (pa_cons (pe_var hN hv hd hcd) (pa_cons pe2 pa_nil)) (he := he) (hpl := hpl)) fun σ H Q ⟨G, env, r, h⟩ => ?_
  unfold isEF at h
  split at h
  · rename_i a' e
    split at h
    · rename_i ea
      have ea := of_decide_eq_true ea
      obtain ⟨w, w1, w2⟩ := r.val i _ e
      have w2 : w = .ref a' := w2
      subst w2 ea
      exact ⟨_, w1, v, u, f c, rfl, r2, r3 c hc D E.nm, h _ H G (Stp.refl r) rfl⟩
    · exact h.elim
  · exact h.elim
end
/-! ### a def that is called with a caught error -/
structure FnE (P : Program) (w : World) (K : PySem.W.Frag) (mg : Str → Option Value) (base : Heap) (CX : CXT) (k : Nat) (f : Addr) (fd : FuncData) (ps : List Str) (sp : Addr × Obj → Sp) : Prop where
  len : ∀ p vs H Q E, sp p vs H Q E → vs.length = ps.length
  run : ∀ (p : Addr × Obj) (A : Around) (outer : List Env) (s : Shared) (H : Hp) (args : Args) (us : List Value) (vs : List V) (Q : VK) (E : XK), L2H.RoomH k A → L2H.Hot1 A p → L2H.PinOk outer H s p → Env0 P w K mg base A outer s H →
    BindsTo s fd args (ps.zip us) → Vals vs us → sp p vs H Q E → codeAny (model P w) A (.call (.ref f) args) (CR CX outer P w H s Q E) s
/-- by FnH, object by object -/
theorem FnE.of {P : Program} {w : World} {K : PySem.W.Frag} {mg : Str → Option Value} {base : Heap} {CX : CXT} {k : Nat} {f : Addr} {fd : FuncData} {ps : List Str} {sp : Addr × Obj → Sp} (len : ∀ p vs H Q E, sp p vs H Q E → vs.length = ps.length)
    (h : ∀ (p : Addr × Obj) (A : Around) (outer : List Env) (s : Shared) (H : Hp) (args : Args) (us : List Value) (vs : List V) (Q : VK) (E : XK), L2H.RoomH k A → L2H.Hot1 A p → L2H.PinOk outer H s p → Env0 P w K mg base A outer s H →
    BindsTo s fd args (ps.zip us) → Vals vs us → sp p vs H Q E → codeAny (model P w) A (.call (.ref f) args) (CR CX outer P w H s Q E) s) : FnE P w K mg base CX k f fd ps sp :=
  ⟨len, h⟩
theorem fnE_of {P : Program} {w : World} {K : PySem.W.Frag} {mg : Str → Option Value} {base : Heap} {CX : CXT} {k : Nat} {x qual : Str} {st : Stmt} {f : Addr} {fd : FuncData} {N ps : List Str} {sp : Addr × Obj → Sp} (F : Fun K x qual st f fd) (S : FnScope N ps (defScope st)) (len : ∀ p vs H Q E, sp p vs H Q E → vs.length = ps.length)
    (hbody : ∀ (cdv : Value) (p : Addr × Obj) (A : Around) (outer : List Env) (s : Shared) (H : Hp) (vs : List V) (Q : VK) (E : XK), L2H.Hot1 A p → L2H.RoomH k (A.deeper (envOfC qual (defScope st) s.heap.objs.size f cdv)) → sp p vs H Q E →
      ∃ t, PSs (L2H.cxH CX P w K mg base N qual (defScope st) f cdv A outer s H E p) (defBody st) t ∧ t { nx := fun _ H' => Q .non H', rt := Q } (L2.start N vs) H) : FnE P w K mg base CX (k + 1) f fd ps sp := by
  obtain ⟨oc, od, kV, doc, pm, an, cdv, ct, osl, rfl, lk, hcd⟩ := F.ex
  refine .of len fun p A outer s H args us vs Q E room hot pin env0 bind vals want => ?_
  -- the frame
  have size := len _ _ _ _ _ want
  have stands := env0.mod.kin.keeps fun b o e => (env0.bs b o e).1
  have bare := env0.mod.nolimit.keeps fun b o e => (env0.bs b o e).1
  refine codeAny_call_function room.depth (stands _ _ lk) rfl S.co S.gen rfl (PySem.W.codeRec_of stands hcd) (bind _ _ _ _ ?_)
  refine wpAny_newFunctionEnv_cells S.kind (fun ⟨y, z⟩ m => ?_) fun env isEnv s1 inside => ?_
  · cases S.par y (List.of_mem_zip m).1 with
    | inl loc => exact .inl loc
    | inr own => exact .inr ⟨own, PySem.W.cellsFrom_some _ _ _ (.inl own)⟩
  · subst isEnv
    refine ⟨bare.keeps inside.toInCall.keep, codeAny_func ?_⟩
    obtain ⟨t, walked, got⟩ := hbody cdv p A outer s H vs Q E hot (room.deeper _) want
    have start := L2H.inv_startH (CX := CX) (E := E) S pin env0 size vals inside
    refine wpAny_mono (walked.run [] s1 (L2.start N vs) H _ start got) (fun fl s' done => ?_) fun e s' z => z
    match fl, done with
    | .next, ⟨_, H2, I2, q2⟩ => exact ⟨.non, H2, I2.os, I2.bare, I2.base, I2.hok, rfl, q2⟩
    | .ret _, ⟨v2, _, H2, I2, r2, q2⟩ => exact ⟨v2, H2, I2.os, I2.bare, I2.base, I2.hok, r2, q2⟩
    | .brk, ⟨_, _, _, q2⟩ => exact q2.elim
    | .cont, ⟨_, _, _, q2⟩ => exact q2.elim
def spE (K : PySem.W.Frag) (mg : Str → Option Value) (L : List Str) (Φ : Addr → Str → List Ar → FR) : Addr × Obj → Sp := fun p vs H Q E => ∃ c C, c ∈ L ∧ ExcAt K mg p c C ∧ spD K mg 1 (Φ p.1 c) vs H Q E
def CalE (P : Program) (w : World) (K : PySem.W.Frag) (mg : Str → Option Value) (base : Heap) (k : Nat) (x : Str) (L : List Str) (Φ : Addr → Str → List Ar → FR) : Prop :=
  ∃ f fd ps, FnE P w K mg base (L2N.CX P w) k f fd ps (spE K mg L Φ) ∧ mg x = some (.ref f) ∧ PySem.W.keepIn K (.ref f) = true ∧ Binds K fd ps []
theorem CalE.imp {P : Program} {w : World} {K : PySem.W.Frag} {mg : Str → Option Value} {base : Heap} {k : Nat} {x : Str} {L : List Str} {Φ Ψ : Addr → Str → List Ar → FR} (h : CalE P w K mg base k x L Φ) (e : ∀ a c as, c ∈ L → as.length = 1 → Ψ a c as = .stk ∨ Ψ a c as = Φ a c as) : CalE P w K mg base k x L Ψ := by
  obtain ⟨f, fd, ps, F, r⟩ := h
  have go : ∀ p vs H Q E, spE K mg L Ψ p vs H Q E → spE K mg L Φ p vs H Q E := fun p vs H Q E ⟨c, C, hc, hx, G, as, hl, o, q⟩ => by
    refine ⟨c, C, hc, hx, G, as, hl, o, ?_⟩
    rcases e p.1 c as hc hl with z | z
    · rw [z] at q; exact q.elim
    · rw [← z]; exact q
  exact ⟨f, fd, ps, ⟨fun p vs H Q E q => F.len p vs H Q E (go _ _ _ _ _ q), fun p A outer s H args us vs Q E hr h1 h2 h3 h4 h5 q => F.run p A outer s H args us vs Q E hr h1 h2 h3 h4 h5 (go _ _ _ _ _ q)⟩, r⟩
theorem fnE_cal {P : Program} {w : World} {K : PySem.W.Frag} {mg : Str → Option Value} {base : Heap} {x qual : Str} {st : Stmt} {f : Addr} {fd : FuncData} {N ps : List Str} {k : Nat} {L : List Str} {S : Addr → Str → Sx} (F : Fun K x qual st f fd) (sc : FnScope N ps (defScope st)) (hm : mg x = some (.ref f)) (hb : Binds K fd ps []) (hn : ps.length = 1) (hN : 1 ≤ N.length)
    (hbody : ∀ (cdv : Value) (p : Addr × Obj) (c : Str) (C : Addr) (A : Around) (outer : List Env) (s : Shared) (H : Hp) (E : XK), c ∈ L → ExcAt K mg p c C → L2H.RoomH k (A.deeper (envOfC qual (defScope st) s.heap.objs.size f cdv)) →
      STs (L2H.cxH (L2N.CX P w) P w K mg base N qual (defScope st) f cdv A outer s H E p) (fun cls d _ H => E cls d H) (defBody st) (S p.1 c)) : CalE P w K mg base (k + 1) x L (fun a c => runF N.length (S a c)) := by
  refine ⟨f, fd, ps, fnE_of F sc (fun p vs H Q E ⟨_, _, _, _, G, as, hl, o, _⟩ => by rw [o.ars.length, hl, hn]) (fun cdv p A outer s H vs Q E hot hr ⟨c, C, hc, hx, G, as, hl, o, q⟩ => ?_), hm, F.kp, hb⟩
  exact ⟨_, hbody cdv p c C A outer s H E hc hx hr H G (paOf as vs), run_start hl hN o q⟩
section
variable {X : Cx} {W : WX} {x : Str} {k k' : Nat} {L : List Str} {Φ : Addr → Str → List Ar → FR} {q pos : Pos} {e : Expr} {es : List Expr} {Fs : FxL}
theorem ex_callE {p : Addr × Obj} {n : Str} {C : Addr} (c : CalE X.prog X.w X.K X.mg X.base k x L Φ) (hr : L2H.RoomH k' X.A) (hk : k ≤ k') (hot : L2H.Hot1 X.A p) (hp : p ∈ X.pn) (hx : ExcAt X.K X.mg p n C) (hn : n ∈ L) (tk : L2N.Takes X W) (ha : AX X W (e :: es) Fs) (hg : Gl X x := by rfl) (hdb : (x == ("__debug__" : Str)) = false := by decide) (he : starEach (e :: es) X.env = (false, eval e X.env) :: starEach es X.env := by rfl) (hpl : (backTo pos (starEach es X.env)).any (·.1) = false := by rfl) :
    EX X W (.Call (.Name x q) (e :: es) [] pos) (callF [false] (Φ p.1 n) Fs) := by
  obtain ⟨f, fd, ps, F, gm, gk, gb⟩ := c
  have pe : PE X (.Call (.Name x q) (e :: es) [] pos) (fun σ H Q => tDA X.K X.mg W Fs σ H fun vs H1 => spE X.K X.mg L Φ p vs H1 Q (WE W σ)) := by
    refine ⟨fun pins s σ H Q I h => wpAny_Call_Name_kw (ld_glob I hg gm ?_ hdb)⟩
    refine PySem.W.callWith_K (h₀ := X.base) I.ok.mod.kin gk (thn (ha.run pos pins s σ H _ I h) fun us s1 ⟨vs, H1, I1, r1, want⟩ => ⟨I1.kIn, ?_⟩) he hpl
    have size := F.len _ _ _ _ _ want
    have there := I1.pin p (List.mem_append_left _ hp)
    have pin : L2H.PinOk X.stack H1 s1 p := ⟨there.1, there.2.1, fun z => (List.mem_cons.mp (I1.stkSub p.1 z)).elim there.2.2.1 there.2.2.2.1, there.2.2.2.2⟩
    have bind := gb s1 us I1.kIn (by rw [List.append_nil, ← r1.length]; exact size)
    rw [List.append_nil] at bind
    refine wpAny_call (codeAny_mono (F.run p X.A X.stack s1 H1 ⟨us, []⟩ us vs Q _ (hr.mono hk) hot pin I1.env0 bind r1 want) fun out s' done => ?_)
    match out, done with
    | .error z, d => exact L2N.passAt tk σ pins H1 s1 z s' I1 d
    | .ok (.ret z), d => exact I1.after d
    | .ok .next, d => exact d.elim
    | .ok .brk, d => exact d.elim
    | .ok .cont, d => exact d.elim
  refine PE.weak pe fun σ H Q ⟨G, env, r, h⟩ => ?_
  exact tDA_bind r h fun vls e1 vs H1 G1 s1 v1 p1 => ⟨n, C, hn, hx, callX_of r s1 v1 p1 rfl⟩
end
/-! ### try, except x as n: a suite that tells an answer -/
@[simp] def finR (i : Nat) : Out → Out
  | .rt vl e => if isIo e[i]? then .stk else .rt vl (e.set i .non)
  | _ => .stk
@[simp] def suiteR (i : Nat) (T : Addr → Str → Sx) (c : Str) (e : List Sl) : Out := if isIo e[i]? then .stk else finR i (T 0 c (e.set i (.val (.ob 0))))
@[simp] def tryF (L : List Str) (i : Nat) (S : Sx) (T : Addr → Str → Sx) (env : List Sl) : Out := match S env with
  | .err c (some e) => if decide (c ∈ L) then suiteR i T c e else .stk
  | .err _ none => .stk
  | o => o
theorem SR.drop {K : PySem.W.Frag} {H0 G0 H G : Hp} {pa : Nat → Option Addr} {σ : L2.St} {env : List Sl} (r : SR K H0 G0 pa H G σ env) {i : Nat} (hi : isIo env[i]? = false) : SR K H0 G0 pa H G σ (env.set i .non) := by
  obtain ⟨s0, hs0⟩ : ∃ s0, env[i]? = some s0 := by
    cases e : env[i]? with
    | none => rw [e] at hi; cases hi
    | some s => exact ⟨s, rfl⟩
  have len := (List.getElem?_eq_some_iff.mp hs0).1
  have other : ∀ (j : Nat) (s : Sl), (env.set i .non)[j]? = some s → s ≠ .non → env[j]? = some s := fun j s h n => by
    by_cases z : i = j
    · subst z; rw [List.getElem?_set_self len] at h; cases h; exact (n rfl).elim
    · rwa [List.getElem?_set_ne z] at h
  have nm : ∀ {s : Sl} {d : D}, s.mu = some d → s ≠ .non := fun h z => by rw [z] at h; cases h
  exact {
    er := ⟨by rw [List.length_set]; exact r.er.len, r.er.sub, fun j d h => r.er.val j d (other j _ h (fun z => nomatch z)), fun j s d h m => r.er.mu j s d (other j s h (nm m)) m,
      fun j k s t d e p h1 m1 h2 m2 => r.er.sep j k s t d e p (other j s h1 (nm m1)) m1 (other k t h2 (nm m2)) m2⟩
    gr := r.gr
    old := r.old
    keep := r.keep
    own := fun j d p h => r.own j d p (other j _ h (fun z => nomatch z))
    io := fun j p h => by
      obtain ⟨a, d', b⟩ := r.io j p h
      have z : i ≠ j := fun z => by subst z; rw [b] at hi; cases hi
      exact ⟨a, d', by rw [List.getElem?_set_ne z]; exact b⟩
    iof := fun j d h => r.iof j d (other j _ h (fun z => nomatch z)) }
/-- the module's class x catches the errors L -/
def GTry (K : PySem.W.Frag) (mg : Str → Option Value) (L : List Str) (x : Str) : Prop := ∃ B, mg x = some (.ref B) ∧ ∀ c, c ∈ L → ∀ C, mg c = some (.ref C) → PySem.W.exmOne K (.ref C) (.ref B) = some true
section
variable {X : Cx} {W : WX}
theorem st_tryAs {x n : Str} {i : Nat} {body suite : List Stmt} {b0 : Stmt} {S : Sx} {T : Addr → Str → Sx} {L : List Str} {np pos pos' : Pos} (g : GTry X.K X.mg L x) (tk : L2N.Takes X W)
    (hb : ∀ (W' : WX) (pn : List (Addr × Obj)) (xe : Value → Shared → Prop), L2N.Takes (X.tr pn xe) W' → PassesOwn (model X.prog X.w) X.A X.env xe → STs (X.tr pn xe) W' body S)
    (hsu : ∀ (p : Addr × Obj) (c : Str) (C : Addr) (pn : List (Addr × Obj)), c ∈ L → ExcAt X.K X.mg p c C → STs (X.suite p.1 (p :: pn)) (fun _ _ _ _ => False) (b0 :: suite) (T p.1 c))
    (hT : ∀ (a : Addr) (c : Str) (e : List Sl), finR i (T a c (e.set i (.val (.ob a)))) = finR i (T 0 c (e.set i (.val (.ob 0)))))
    (hN : X.N.Nodup) (hi : X.N[i]? = some n := by rfl) (hln : X.env.kindOf n = some .local := by rfl) (hgx : Gl X x := by rfl) (hdx : (x == ("__debug__" : Str)) = false := by decide) (hs : X.stack = X.env :: X.outer := by rfl) (hf : X.env.frame = some X.env.locals := by rfl) :
    ST X W (.Try body [.ExceptHandler (some (.Name x np)) (some n) (b0 :: suite) pos'] [] [] pos) (tryF L i S T) := by
  intro H0 G0 pa
  obtain ⟨B, gm, hex⟩ := g
  refine PS.weak (L2N.ps_try_as (tb := fun W' => tS X.K X.mg W' H0 G0 pa S) (ts := fun a cls d D σ H => ∃ c C, c ∈ L ∧ cls = .ref C ∧ d = none ∧ X.mg c = some (.ref C) ∧ tS X.K X.mg (fun _ _ _ _ => False) H0 G0 pa (T a c) D σ H) hs hf hN hi hln ⟨hgx, hdx, .inl gm⟩ tk
    (fun W' pn xe t1 p1 => hb W' pn xe t1 p1 H0 G0 pa) (fun a oe cls d pn hz ⟨vs, hd⟩ => ⟨fun pins s σ H D I ⟨c, C, hc, e1, e2, hm, h⟩ => ?_⟩)) fun D σ H ⟨G, env, r, h⟩ => ?_
  · exact (hsu (a, oe) c C pn hc ⟨hm, hz.1.trans e1, hz.2.1.trans e2, vs, hd, hz.2.2 vs hd⟩ H0 G0 pa).run pins s σ H D I h
  · refine ⟨G, env, r, ?_⟩
    unfold tryF at h
    cases e : S env with
    | err c oe =>
      rw [e] at h
      cases oe with
      | none => exact h.elim
      | some e1 =>
        simp only at h
        split at h
        · rename_i hc
          have hc := of_decide_eq_true hc
          intro C σ1 H1 hm ⟨G1, r1⟩
          refine ⟨true, hex c hc C hm, fun _ a ha => ?_, fun z => nomatch z⟩
          unfold suiteR at h
          split at h
          · exact h.elim
          · rename_i io
            rw [← hT a] at h
            obtain ⟨s0, hs0⟩ : ∃ s0, e1[i]? = some s0 := by
              cases e : e1[i]? with
              | none => rw [e] at io; exact (io rfl).elim
              | some s => exact ⟨s, rfl⟩
            refine ⟨c, C, hc, rfl, rfl, hm, G1, e1.set i (.val (.ob a)), r1.set hs0 (fun d z => by subst z; rw [hs0] at io; exact io rfl) rfl, ?_⟩
            cases et : T a c (e1.set i (.val (.ob a))) with
            | rt vl e2 =>
              rw [et] at h
              unfold finR at h
              simp only at h
              split at h
              · exact h.elim
              · rename_i io2
                exact fun v σ2 H2 G2 r2 rv => h v σ2 H2 G2 (r2.drop (Bool.eq_false_iff.mpr io2)) rv
            | _ => rw [et] at h; exact h.elim
        · exact h.elim
    | nx _ => rw [e] at h; exact h
    | rt _ _ => rw [e] at h; exact h
    | bk _ => rw [e] at h; exact h
    | ct _ => rw [e] at h; exact h
    | stk => rw [e] at h; exact h.elim
/-- the suite's context bears its error -/
theorem hot_suite {p : Addr × Obj} {c : Str} {C : Addr} {pn : List (Addr × Obj)} (h : ExcAt X.K X.mg p c C) : L2H.Hot1 (X.suite p.1 (p :: pn)).A p := by
  obtain ⟨vs, h1, h2⟩ := h.fl
  exact ⟨rfl, vs, h1, h2⟩
end
end HF

set_option Elab.async false
set_option linter.all false
set_option maxRecDepth 100000
set_option maxHeartbeats 4000000
set_option autoImplicit false
namespace HF
open PySem PySem.Spec PyProof.Rows L2
/-! ### dicts -/
def D.key : D → Option Key
  | .int i => some (.inl i)
  | .str x => some (.inr x)
  | _ => none
@[simp] theorem D.key_int (i : Int) : (D.int i).key = some (.inl i) := rfl
@[simp] theorem D.key_str (i : Str) : (D.str i).key = some (.inr i) := rfl
theorem D.key_kV {K : PySem.W.Frag} {G : Hp} {d : D} {k : Key} {v : V} (h : d.key = some k) (r : Rp K G d v) : v = kV k := by
  cases d <;> first | (cases h; done) | (cases h; exact r)
def dlook (k : Key) : List Key → List D → Option D
  | k' :: ks, d :: ds => if k' = k then some d else dlook k ks ds
  | _, _ => none
theorem dlook_ok {K : PySem.W.Frag} {G : Hp} {k : Key} : ∀ {ks : List Key} {ds : List D} {kvs : List (Key × V)} {d : D}, kvs.map (·.1) = ks → RpL K G ds (kvs.map (·.2)) → dlook k ks ds = some d → ∃ v, valV kvs k = some v ∧ Rp K G d v
  | [], ds, kvs, d, h1, h2, e => by unfold dlook at e; cases e
  | k' :: ks, [], kvs, d, h1, h2, e => by unfold dlook at e; cases e
  | k' :: ks, d' :: ds, [], d, h1, h2, e => by cases h1
  | k' :: ks, d' :: ds, (a, v) :: kvs, d, h1, h2, e => by
    obtain ⟨x, r, e1, h3, h4⟩ := h2
    obtain ⟨rfl, rfl⟩ : x = v ∧ r = kvs.map (·.2) := by cases e1; exact ⟨rfl, rfl⟩
    have ha : a = k' ∧ kvs.map (·.1) = ks := by simpa using h1
    unfold dlook at e
    by_cases z : k' = k
    · rw [if_pos z] at e
      cases e
      exact ⟨x, valV_pos (show (a, x).1 = k from ha.1.trans z), h3⟩
    · rw [if_neg z] at e
      obtain ⟨w, w1, w2⟩ := dlook_ok ha.2 h4 e
      refine ⟨w, ?_, w2⟩
      rw [← w1]
      have : a ≠ k := fun q => z (ha.1.symm.trans q)
      simp [valV, List.find?_cons, this]
@[simp] def dgetD : D → D → Gr
  | .dct ks ds, x => match x.key with
    | some k => imO (dlook k ks ds)
    | none => .stk
  | _, _ => .stk
def rDget : R2 := fun x y H Q => ∃ a v, x = .ref a ∧ DGet H a y (some v) ∧ Q v H
theorem snd_dget {K : PySem.W.Frag} : OpSound K dgetD rDget := by
  intro H G x y a b Q s ha hb hq
  cases a with
  | dct ks ds =>
    unfold dgetD at hq
    cases e : b.key with
    | none => simp only [e] at hq; exact hq.elim
    | some k =>
      simp only [e] at hq
      obtain ⟨d, e2, q⟩ := hq.imO
      obtain ⟨p, kvs, rfl, h1, h2, h3⟩ := ha.dct s
      obtain ⟨v, w1, w2⟩ := dlook_ok h2 h3 e2
      have hy : y = kV k := by
        cases b with
        | int i => cases e; exact hb.int
        | str i => cases e; exact hb.str
        | _ => cases e
      refine ⟨p, v, rfl, ?_, q.same s w2⟩
      rw [hy, ← w1]
      exact DGet.k h1
  | _ => exact hq.elim
section
variable {X : Cx} {W : WX} {a b : Expr} {Fa Fb : Fx} {pos : Pos}
theorem ex_dget (hu : X.A.units + 65 < cLine) (ha : EX X W a Fa) (hb : EX X W b Fb) (hs : NoSl b := by intro _ _; rfl) : EX X W (.Subscript a b pos) (op2F dgetD Fa Fb) := by
  refine PE.weak (pe_dget (by omega) ha hb hs) fun σ H Q ⟨G, env, r, h⟩ => ?_
  refine tD_bind r h fun va e1 x H1 G1 s1 v1 p1 => ?_
  refine tD_bind s1.er (PostR.shift s1 r p1) fun vb e2 y H2 G2 s2 v2 p2 => ?_
  have p3 := PostR.shift s2 s1.er p2
  have v1' := v1.step s2 fun p hp m => (MuIs.new r hp) (m.of s1.kin)
  have p3 : PostR X.K X.mg W σ H2 G2 e2 Q (opR dgetD va vb e2) := p3
  unfold opR at p3
  cases ea : va.rd e2 with
  | none => rw [ea] at p3; exact p3.elim
  | some da =>
    cases eb : vb.rd e2 with
    | none => rw [ea, eb] at p3; exact p3.elim
    | some db =>
      rw [ea, eb] at p3
      exact snd_dget H2 G2 x y da db Q s2.er.sub (v1'.read s2.er ea) (v2.read s2.er eb) (GrPost.of s2.er p3)
end
/-! a written dict -/
def pairV : List V → List (V × V)
  | x :: y :: r => (x, y) :: pairV r
  | _ => []
@[simp] def pairD : List D → Option (List Key × List D)
  | [] => some ([], [])
  | k :: v :: r => match k.key, pairD r with
    | some k, some (ks, vs) => some (k :: ks, v :: vs)
    | _, _ => none
  | _ => none
theorem pair_ok {K : PySem.W.Frag} {G : Hp} : ∀ {ds : List D} {vs : List V} {ks : List Key} {es : List D}, RpL K G ds vs → pairD ds = some (ks, es) → ∃ kvs : List (Key × V), pairV vs = kvs.map (fun kv => (kV kv.1, kv.2)) ∧ kvs.map (·.1) = ks ∧ RpL K G es (kvs.map (·.2))
  | [], vs, ks, es, h, e => by
    cases e
    rw [show vs = [] from h]
    exact ⟨[], rfl, rfl, rfl⟩
  | [d], vs, ks, es, h, e => by cases e
  | k :: v :: r, vs, ks, es, h, e => by
    obtain ⟨x, r1, rfl, h1, y, r2, rfl, h2, h3⟩ := h
    unfold pairD at e
    cases e1 : k.key with
    | none => rw [e1] at e; cases e
    | some k' =>
      cases e2 : pairD r with
      | none => rw [e1, e2] at e; cases e
      | some q =>
        obtain ⟨ks', es'⟩ := q
        rw [e1, e2] at e
        cases e
        obtain ⟨kvs, q1, q2, q3⟩ := pair_ok h3 e2
        refine ⟨(k', y) :: kvs, ?_, by rw [List.map_cons, q2], y, _, rfl, h2, q3⟩
        rw [pairV, q1, D.key_kV e1 h1]
        rfl
theorem mergeK_nd : ∀ (more acc : List (Key × V)), ((acc ++ more).map (·.1)).Nodup → mergeK acc more = acc ++ more
  | [], acc, _ => by simp [mergeK]
  | p :: more, acc, h => by
    have h' : (((acc ++ [p]) ++ more).map (·.1)).Nodup := by simpa using h
    have : putK acc p.1 p.2 = acc ++ [p] := by
      unfold putK
      rw [if_neg]
      intro z
      obtain ⟨q, q1, q2⟩ := List.any_eq_true.mp z
      have q2 := of_decide_eq_true q2
      rw [List.map_append, List.nodup_append] at h
      exact h.2.2 q.1 (List.mem_map_of_mem q1) p.1 (by simp) q2
    have ih := mergeK_nd more (acc ++ [p]) h'
    unfold mergeK at ih ⊢
    rw [List.foldl_cons, this, ih]
    simp
@[simp] def dctF (Fs : FxL) (env : List Sl) : Rs := bindL (Fs env) fun vls e => match Vls.toIm vls with
  | some ds => (match pairD ds with
    | some (ks, es) => if decide (ks.Nodup ∧ ks.length ≤ 15) then .ok (.fr (.dct ks es)) e else .stk
    | none => .stk)
  | none => .stk
def DX (X : Cx) (W : WX) (pos : Pos) (keys : List (Option Expr)) (values : List Expr) (Fs : FxL) : Prop := ∃ trs, PPs X pos keys values trs ∧ ∀ (σ : L2.St) (H : Hp) (Q : List (V × V) → Hp → Prop), tDA X.K X.mg W Fs σ H (fun xs H' => Q (pairV xs) H') → tPairs trs σ H Q
theorem PostR.mono {K : PySem.W.Frag} {mg : Str → Option Value} {W : WX} {σ : L2.St} {H G : Hp} {env : List Sl} {Q Q' : VK} (q : ∀ v H, Q v H → Q' v H) : ∀ {R : Rs}, PostR K mg W σ H G env Q R → PostR K mg W σ H G env Q' R
  | .ok _ _, h => fun v H' G' s w => q _ _ (h v H' G' s w)
  | .err _ _, h => h
  | .stk, h => h
section
variable {X : Cx} {W : WX} {pos : Pos}
theorem dx_nil : DX X W pos [] [] nilF := ⟨[], pps_nil, fun σ H Q ⟨G, env, r, h⟩ => h [] H G (Stp.refl r) rfl⟩
theorem dx_cons {k v : Expr} {ks : List (Option Expr)} {vs : List Expr} {Fk Fv : Fx} {Fs : FxL} (hk : EX X W k Fk) (hv : EX X W v Fv) (hr : DX X W pos ks vs Fs) : DX X W pos (some k :: ks) (v :: vs) (consF Fk (consF Fv Fs)) := by
  obtain ⟨trs, p, h⟩ := hr
  refine ⟨_, pps_cons hk hv p, fun σ H Q q => ?_⟩
  obtain ⟨G, env, r, q1⟩ := tDA_cons q
  refine ⟨G, env, r, q1.mono fun x H1 q2 => ?_⟩
  obtain ⟨G, env, r, q3⟩ := tDA_cons q2
  exact ⟨G, env, r, q3.mono fun y H2 q4 => h σ H2 _ q4⟩
theorem ER.other {K : PySem.W.Frag} {H G : Hp} {σ : L2.St} {env : List Sl} {p : Addr} {o : HO} (r : ER K H G σ env) (hg : G p = none) (hm : ¬ MuIs σ env p) : ER K (upd H p o) G σ env where
  len := r.len
  sub := fun b u q => by rw [upd_ne (ne_of_none q hg)]; exact r.sub b u q
  val := r.val
  mu := fun i s d e1 e2 => by
    obtain ⟨q, w1, w2, w3⟩ := r.mu i s d e1 e2
    have : q ≠ p := fun z => hm ⟨i, s, d, e1, e2, by rw [← z]; exact w1⟩
    exact ⟨q, w1, w2, w3.mono (upd_ne this) (Same.refl _)⟩
  sep := r.sep
theorem ex_dct {keys : List (Option Expr)} {values : List Expr} {Fs : FxL} (h : DX X W pos keys values Fs) (hall : keys.all (·.isSome) = true := by rfl) (hl : keys.length = values.length := by rfl) (h0 : keys ≠ [] := by intro z; cases z) (h15 : keys.length ≤ 15 := by decide) : EX X W (.Dict keys values pos) (dctF Fs) := by
  obtain ⟨trs, p, hw⟩ := h
  refine PE.weak (pe_disp p hall hl h0 h15) fun σ H Q ⟨G, env, r, h⟩ => fun a ha => hw σ _ _ ?_
  have s0 : Stp X.K σ H G env (upd H a (.dK [])) G env := Stp.gs r (GS.newH r.sub ha)
  have nm : ¬ MuIs σ env a := MuIs.new r ha
  have Ga : G a = none := r.sub.free ha
  refine ⟨G, env, s0.er, ?_⟩
  unfold dctF at h
  cases ef : Fs env with
  | stk => rw [ef] at h; exact h.elim
  | err c eo =>
    rw [ef] at h
    cases eo with
    | some e => exact fun C H' m ⟨G', s'⟩ => h C H' m ⟨G', s0.trans s' r⟩
    | none => exact fun C H' m k => h C H' m fun b o e nb => k b o (s0.keep b o e nb) nb
  | ok vls e1 =>
    rw [ef] at h
    intro vs H1 G1 s1 v1
    have p1 : PostR X.K X.mg W σ H G env Q (match Vls.toIm vls with
      | some ds => (match pairD ds with
        | some (ks, es) => if decide (ks.Nodup ∧ ks.length ≤ 15) then .ok (.fr (.dct ks es)) e1 else .stk
        | none => .stk)
      | none => .stk) := h
    have e0 : H1 a = some (.dK []) := s1.keep a _ upd_same nm
    refine ⟨e0, ?_⟩
    cases e : Vls.toIm vls with
    | none => simp only [e] at p1; exact p1.elim
    | some ds =>
      simp only [e] at p1
      cases ep : pairD ds with
      | none => simp only [ep] at p1; exact p1.elim
      | some q =>
        obtain ⟨ks, es⟩ := q
        simp only [ep] at p1
        split at p1
        · rename_i c
          have c := of_decide_eq_true c
          obtain ⟨G2, s2, g2, k2, q2⟩ := VlsW.imm s0.er v1.w s1 e
          obtain ⟨kvs, w1, w2, w3⟩ := pair_ok q2 ep
          have lk : kvs.length ≤ 15 := by rw [← List.length_map (f := (·.1)), w2]; exact c.2
          refine ⟨kvs, w1, lk, ?_⟩
          rw [mergeK_nd kvs [] (by simpa [w2] using c.1), List.nil_append]
          have G2a : G2 a = none := s2.old a (by rw [upd_same]; exact fun z => nomatch z) Ga
          have nm2 : ¬ MuIs σ e1 a := fun z => nm (z.of s2.kin)
          have er := s2.er.other (o := .dK kvs) G2a nm2
          refine p1 _ _ G2 ⟨er, s2.gr, fun b hb hg => s2.old b (fun z => ?_) hg, fun b o q n => ?_, s2.kin⟩ ⟨a, rfl, ha, G2a, kvs, upd_same, w2, w3⟩
          · by_cases ba : b = a
            · rw [ba, upd_same] at z; cases z
            · rw [upd_ne ba] at z; exact hb z
          · have : b ≠ a := fun z => by rw [z, ha] at q; cases q
            rw [upd_ne this]
            exact s2.keep b o (by rw [upd_ne this]; exact q) n
        · exact p1.elim
end
end HF

set_option Elab.async false
set_option linter.all false
set_option maxRecDepth 100000
set_option maxHeartbeats 4000000
set_option autoImplicit false
namespace HF
open PySem PySem.Spec PyProof.Rows L2
/-! ### isinstance(e, (C, ..)) of a caught error -/
theorem GAsk.val {K : PySem.W.Frag} {mg : Str → Option Value} {L : List Str} {x : Str} {f : Str → Bool} (A : GAsk K mg L x f) : ∃ (v : V) (u : Value), ((mg x = some u) ∨ (mg x = none ∧ bootBuiltins x = some u ∧ x ≠ "__name__")) ∧ RelV v u ∧ (∀ u', RelV v u' → u' = u) ∧ ∀ c, c ∈ L → ∀ C, mg c = some (.ref C) → PySem.W.kitOne K (.ref C) u = some (f c) := A.at_
/-- the classes that are written: their values -/
def KX (X : Cx) (L : List Str) (es : List Expr) (f : Str → Bool) : Prop := ∃ (vs : List V) (cs : List Value), PA X es (fun _ H Q => Q vs H) ∧ vs.length = es.length ∧ (∀ us, Vals vs us → us = cs) ∧ ∀ c, c ∈ L → ∀ C, X.mg c = some (.ref C) → PySem.W.kitAny X.K (.ref C) cs = some (f c)
theorem kx_nil {X : Cx} {L : List Str} : KX X L [] (fun _ => false) :=
  ⟨[], [], PA.weak pa_nil (fun _ _ _ h => h), rfl, fun us r => by cases r; rfl, fun c hc C hm => by unfold PySem.W.kitAny; rfl⟩
theorem kx_cons {X : Cx} {L : List Str} {x : Str} {pos : Pos} {es : List Expr} {f g : Str → Bool} (A : GAsk X.K X.mg L x f) (r : KX X L es g) (hgx : Gl X x := by rfl) (hdx : (x == ("__debug__" : Str)) = false := by decide)
    (hs : starEach (.Name x pos :: es) X.env = (false, eval (.Name x pos) X.env) :: starEach es X.env := by rfl) : KX X L (.Name x pos :: es) (fun c => f c || g c) := by
  obtain ⟨v, u, hu, r1, r2, r3⟩ := A.val
  obtain ⟨vs, cs, p, hl, hv, hk⟩ := r
  have pe2 : PE X (.Name x pos) (tC v) := by
    rcases hu with h | ⟨h1, h2, h3⟩
    · exact pe_glob hgx h r1 hdx
    · exact pe_bltn hgx h1 h2 r1 h3 hdx
  refine ⟨v :: vs, u :: cs, PA.weak (pa_cons pe2 p hs) (fun _ _ _ h => h), by rw [List.length_cons, List.length_cons, hl], fun us rr => ?_, fun c hc C hm => ?_⟩
  · match us, rr with
    | u' :: us', .cons a b => rw [r2 u' a, hv us' b]
  · unfold PySem.W.kitAny
    rw [r3 c hc C hm]
    have e : (fun c => f c || g c) c = (f c || g c) := rfl
    rw [e]
    cases f c with
    | true => rfl
    | false => simpa using hk c hc C hm
theorem call_isXT {X : Cx} {p : Addr × Obj} {D : Addr} {vs : List V} {cs : List Value} {b : Bool} (hp : p ∈ X.pn) (C : ExcC X.K D) (h1 : p.2.cls = .ref D) (h2 : p.2.dict = none) (h3 : ∃ vs, p.2.data = .fields vs) (hv : ∀ us, Vals vs us → us = cs) (hk : PySem.W.kitAny X.K (.ref D) cs = some b) :
    CallR X (.builtin "isinstance") (fun xs H Q => ∃ q, xs = [.ref p.1, .ref q] ∧ H q = some (.tup vs) ∧ Q (.bl b) H) := by
  rintro pins s σ H xs us Q I r ⟨q, rfl, hq, want⟩
  obtain ⟨u1, u2, rfl, e1, e2⟩ : ∃ u1 u2, us = [u1, u2] ∧ RelV (.ref p.1) u1 ∧ RelV (.ref q) u2 := by
    match us, r with
    | [u1, u2], .cons a (.cons b .nil) => exact ⟨u1, u2, rfl, a, b⟩
  have e1 : u1 = .ref p.1 := e1
  have e2 : u2 = .ref q := e2
  subst e1 e2
  have at_ := (I.pin p (List.mem_append.mpr (.inl hp))).1
  obtain ⟨ws, hw⟩ := h3
  have J : PySem.W.InstAt s.heap p.1 p.2 D none := by
    obtain ⟨pa, ⟨oc, oda, od, osl⟩⟩ := p
    dsimp only at h1 h2 hw
    subst h1 h2 hw
    exact ⟨at_, rfl, rfl, trivial⟩
  have Z := PySem.W.handS_kitx_exc (x := p.1) (ox := p.2) (D := D) C.hg C.hk C.hs C.hd C.ha C.hn C.ht C.hm
  obtain ⟨_, its, rv, o, t1, t2, n, t3⟩ := (show ObjOk X.prog X.w H s.heap q (.tup vs) from I.hok q _ hq)
  rw [hv its rv] at t3
  obtain ⟨oc, od, dt, sl⟩ := o
  dsimp only at t2 t3
  subst t2 t3
  exact PySem.W.kia_tup Z I.kIn J t1 hk (by intro z; cases z) fun tk => ⟨.bl b, H, I.kept (t' := tk) (fun _ _ z => z), rfl, want⟩
theorem ex_isET {X : Cx} {W : WX} {i : Nat} {n : Str} {x1} {es : List Expr} {q1 q2 q3 pos : Pos} {L : List Str} {f : Str → Bool} {p : Addr × Obj} {c : Str} {D : Addr} (hm : X.mg "isinstance" = none) (hp : p ∈ X.pn) (E : ExcAt X.K X.mg p c D) (hc : c ∈ L) (C : GCls X.K X.mg L) (A : KX X L es f)
    (hN : X.N[i]? = some n := by rfl) (hl : es.length ≤ 1000 := by decide) (hv : Vis X.env.scope n := by first | exact Or.inl rfl | exact Or.inr (Or.inl rfl)) (hd : (n == ("__debug__" : Str)) = false := by decide) (hcd : (n == ("__classdict__" : Str)) = false := by decide) (hg : Gl X "isinstance" := by rfl)
    (he : starEach [.Name n q1, .Tuple es x1 q2] X.env = (false, eval (.Name n q1) X.env) :: starEach [.Tuple es x1 q2] X.env := by rfl) (he2 : starEach [.Tuple es x1 q2] X.env = (false, eval (.Tuple es x1 q2) X.env) :: starEach [] X.env := by rfl) (hpl : (backTo pos (starEach [.Tuple es x1 q2] X.env)).any (·.1) = false := by rfl) :
    EX X W (.Call (.Name "isinstance" q3) [.Name n q1, .Tuple es x1 q2] [] pos) (isEF i p.1 (f c)) := by
  obtain ⟨vs, cs, pa, hlen, hval, hk⟩ := A
  obtain ⟨ws, hws, _⟩ := E.fl
  refine PE.weak (pe_callB (call_isXT hp (C c hc D E.nm) E.cl E.di ⟨ws, hws⟩ hval (hk c hc D E.nm)) hg hm (by decide +kernel) (pa_cons (pe_var hN hv hd hcd) (pa_cons (pe_tup pa) pa_nil he2) he) (he := he) (hpl := hpl)) fun σ H Q ⟨G, env, r, h⟩ => ?_
  unfold isEF at h
  split at h
  · rename_i a' e
    split at h
    · rename_i ea
      have ea := of_decide_eq_true ea
      obtain ⟨w, w1, w2⟩ := r.val i _ e
      have w2 : w = .ref a' := w2
      subst w2 ea
      refine ⟨_, w1, ?_⟩
      refine ⟨by rw [hlen, sizeLine_eq]; omega, fun q hq => ⟨q, rfl, upd_same, ?_⟩⟩
      exact h _ _ _ (Stp.gs r (GS.new r.sub hq)) rfl
    · exact h.elim
  · exact h.elim
/-! ### a def that words a caught error -/
@[simp] def wordR (wd : Str → Option D) (a : Addr) (c : Str) (as : List Ar) : FR := match as with
  | [.val (.ob a')] => if decide (a' = a) then (match wd c with
    | some d => .im d [.val (.ob a')]
    | none => .stk) else .stk
  | _ => .stk
theorem hT_word {i : Nat} {d0 : D} {wd : Str → Option D} : ∀ (a : Addr) (c : Str) (e : List Sl), finR i (retS (tupF (consF (cF d0) (consF (callF [false] (wordR wd a c) (consF (vF i) nilF)) nilF))) (e.set i (.val (.ob a)))) = finR i (retS (tupF (consF (cF d0) (consF (callF [false] (wordR wd 0 c) (consF (vF i) nilF)) nilF))) (e.set i (.val (.ob 0)))) := by
  intro a c e
  by_cases hi : i < e.length
  · cases hw : wd c with
    | none => simp [hi, hw]
    | some d => simp [hi, hw]
  · simp [hi]
theorem room_mark {k : Nat} {A : Around} (r : Room k A) (h : Option Value) : L2H.RoomH k (A.mark h) := ⟨r.dp, r.un⟩
theorem hu65H {k : Nat} {A : Around} (hr : L2H.RoomH k A) : A.units + 65 < cLine := by have := hr.un; omega
end HF

set_option Elab.async false
set_option linter.all false
set_option maxRecDepth 100000
set_option maxHeartbeats 4000000
set_option autoImplicit false
namespace HF
open PySem PySem.Spec PyProof.Rows L2
/-! ### the program's top: error classes, constant tuples -/
section
variable {K : PySem.W.Frag} {mg : Str → Option Value} {h : Heap}
theorem GExc.mk {x : Str} {C : Addr} (X : K.In h) (G : h.Ns mainGlobals mg) (e : PySem.W.nsIn K mainGlobals x = some (some (.ref C))) (q : PySem.W.excIn K C [.type "ValueError", .type "Exception", .type "BaseException", .type "object"] "ValueError.__new__" = true) (kp : PySem.W.keepIn K (.ref C) = true) (sb : PySem.W.subIn K (.ref C) (.type "BaseException") = some true) (ty : PySem.W.typeIn K (.ref C) = some (.type "type")) : GExc K mg x :=
  ⟨C, _, _, _, _, PySem.F.excBase_ValueError, q, PySem.W.mg_of X G e, kp, sb, ty⟩
theorem kit_own {C D : Addr} {b : Bool} (hd : PySem.W.hasDictIn K D = true) (ty : PySem.W.typeIn K (.ref D) = some (.type "type")) (s : PySem.W.subIn K (.ref C) (.ref D) = some b) (ne : C = D → b = true) : PySem.W.kitOne K (.ref C) (.ref D) = some b := by
  obtain ⟨cd, hc, _⟩ := PySem.W.any_some hd
  unfold PySem.W.kitOne
  by_cases e : C = D
  · rw [ne e, e]; simp
  · have e' : (Value.ref C == Value.ref D) = false := by simp [e]
    have t : ((PySem.W.clsIn K D).isSome && PySem.W.typeIn K (.ref D) == some (.type "type")) = true := by rw [hc, ty]; rfl
    rw [e', if_neg Bool.false_ne_true]
    show (if ((PySem.W.clsIn K D).isSome && PySem.W.typeIn K (.ref D) == some (.type "type")) = true then PySem.W.subIn K (.ref C) (.ref D) else none) = some b
    rw [if_pos t]; exact s
theorem GAsk.own {L : List Str} {x : Str} {f : Str → Bool} {D : Addr} (X : K.In h) (G : h.Ns mainGlobals mg) (e : PySem.W.nsIn K mainGlobals x = some (some (.ref D))) (hd : PySem.W.hasDictIn K D = true) (ty : PySem.W.typeIn K (.ref D) = some (.type "type"))
    (a : ∀ c, c ∈ L → ∃ C, mg c = some (.ref C) ∧ PySem.W.subIn K (.ref C) (.ref D) = some (f c) ∧ (C = D → f c = true)) : GAsk K mg L x f :=
  ⟨.ref D, .ref D, .inl (PySem.W.mg_of X G e), rfl, fun u r => r, fun c hc C hm => by
    obtain ⟨C', h1, h2, h3⟩ := a c hc
    rw [h1] at hm
    cases hm
    exact kit_own hd ty h2 h3⟩
theorem GTry.mk {L : List Str} {x : Str} {D : Addr} (X : K.In h) (G : h.Ns mainGlobals mg) (e : PySem.W.nsIn K mainGlobals x = some (some (.ref D))) (hd : PySem.W.hasDictIn K D = true) (ty : PySem.W.typeIn K (.ref D) = some (.type "type")) (sb : PySem.W.subIn K (.ref D) (.type "BaseException") = some true)
    (a : ∀ c, c ∈ L → ∃ C, mg c = some (.ref C) ∧ PySem.W.subIn K (.ref C) (.ref D) = some true) : GTry K mg L x :=
  ⟨D, PySem.W.mg_of X G e, fun c hc C hm => by
    obtain ⟨C', h1, h2⟩ := a c hc
    rw [h1] at hm
    cases hm
    exact PySem.W.exm_ref sb hd ty h2⟩
theorem GAsk.ve {L : List Str} (hm : mg "ValueError" = none) (a : ∀ c, c ∈ L → ∃ C, mg c = some (.ref C) ∧ PySem.W.subIn K (.ref C) (.type "ValueError") = some true) : GAsk K mg L "ValueError" (fun _ => true) :=
  ⟨.ty "ValueError", .type "ValueError", .inr ⟨hm, by decide +kernel, by decide⟩, rfl, fun u r => r, fun c hc C h => by
    obtain ⟨C', h1, h2⟩ := a c hc
    rw [h1] at h
    cases h
    have e' : (Value.ref C == Value.type "ValueError") = false := by simp
    unfold PySem.W.kitOne
    rw [e', if_neg Bool.false_ne_true]
    show (if PySem.W.kitMeta "ValueError" = true then PySem.W.subIn K (.ref C) (.type "ValueError") else none) = some true
    rw [if_pos (by decide +kernel)]; exact h2⟩
theorem GCls.mk {L : List Str} (a : ∀ c, c ∈ L → ∃ C, mg c = some (.ref C) ∧ ExcC K C) : GCls K mg L := fun c hc C h => by
  obtain ⟨C', h1, h2⟩ := a c hc
  rw [h1] at h
  cases h
  exact h2
theorem strs_rp {G : Hp} : ∀ (ss : List Str), RpL K G (ss.map D.str) (ss.map V.str)
  | [] => rfl
  | s :: r => ⟨_, _, rfl, rfl, strs_rp r⟩
theorem GConst.strs {x : Str} {a : Addr} {od : Option Addr} {its : Array Value} {n : Nat} {sl : Array (Option Value)} (ss : List Str) (X : K.In h) (G : h.Ns mainGlobals mg) (e : PySem.W.nsIn K mainGlobals x = some (some (.ref a))) (l : K.lookup a = some ⟨.type "tuple", od, .seq its n, sl⟩) (hs : its.size ≤ 1000) (hv : Vals (ss.map V.str) its.toList) : GConst K mg x (.tup (ss.map D.str)) :=
  ⟨.ref a, .ref a, PySem.W.mg_of X G e, rfl, fun G => ⟨a, ss.map V.str, rfl, .inr ⟨_, its, n, l, rfl, rfl, by rw [sizeLine_eq]; omega, hv⟩, strs_rp ss⟩⟩
end
end HF

set_option Elab.async false
set_option linter.all false
set_option maxRecDepth 100000
set_option maxHeartbeats 4000000
set_option autoImplicit false
namespace HF
open PySem PySem.Spec PyProof.Rows L2
end HF
namespace PySem
open PySem
theorem tuple_mul_same (l : Addr) (items : Array Value) (n : Nat) (dd : Option Addr) (sl : Array (Option Value)) (x : Int) (u : Tok) (e0 : (decide (x < -(2 ^ 63)) || decide (x ≥ 2 ^ 63)) = false) (e1 : (items.isEmpty || x == 1) = true) :
    Meets (Builtin.«tuple.__mul__» ⟨[.ref l, .int x u], []⟩) (fun _ R s => s.heap.get? l = some { cls := .type "tuple", dict := dd, data := .seq items n, slots := sl } ∧ R (.ok (.ret (Value.ref l))) s) :=
  .of_wp fun prog w A R s h => by
    obtain ⟨hp, g, d, tk, os⟩ := s
    obtain ⟨at0, hq⟩ := h
    have f1 := AutoSeq1.idx_int
    wp_walk using wpAny_loadPart' at0
    repeat (first
      | (refine wpAny_ite_false (decide_eq_false (by rw [e0]; exact Bool.false_ne_true)) ?_; wp_walk using wpAny_loadPart' at0)
      | (refine wpAny_ite_true (decide_eq_true e1) ?_; wp_walk using wpAny_loadPart' at0))
    exact ⟨_, rfl, hq⟩
end PySem
namespace HF
open PySem PySem.Spec PyProof.Rows L2
/-! a tuple times 1, an empty tuple times a number -/
def rRepT1 (K : PySem.W.Frag) : R2 := fun x y H Q => ∃ l k xs, x = .ref l ∧ y = .int k ∧ SqT K H l xs ∧ (xs = [] ∨ k = 1) ∧ -1000 ≤ k ∧ k ≤ 1000 ∧ Q (.ref l) H
theorem op_repT1 {X : Cx} : OpR X (binaryOp .Mult) (rRepT1 X.K) := by
  intro pins s σ H x y v u Q I rx ry h
  obtain ⟨l, k, xs, rfl, rfl, hT, hc1, k0, k1, q⟩ := h
  cases rx
  obtain ⟨t, rfl⟩ := ry
  obtain ⟨its, r, ⟨⟨cls, dd, data, sl⟩, ho, hc, n, hd⟩, hs⟩ := I.tuple hT
  simp only at hc hd
  subst hc hd
  have ln := r.length
  have e0 : (decide (k < -(2 ^ 63)) || decide (k ≥ 2 ^ 63)) = false := by
    rw [decide_eq_false (by omega), decide_eq_false (by omega)]; rfl
  have e1 : (its.toArray.isEmpty || k == 1) = true := by
    rcases hc1 with rfl | rfl
    · cases its with
      | nil => rfl
      | cons a b => simp at ln
    · simp
  exact wpAny_binaryOp_repeat_ref (T := "tuple") (U := "int") (by decide) ⟨_, ho, rfl⟩ (fun s' => typeIs_int s' k t) noFill_tuple_mul F.fills_int_mul F.slot_int_rmul repeat_tuple F.slot_int_index.lookup
    (call_meets F.slot_int_rmul (typeIs_int s k t) F.entry_int_rmul (F.args_int_rmul_2 _ _) (int_rmul_tuple k t l its.toArray n dd sl)
      ⟨ho, rfl, ⟨_, ho, rfl⟩, call_meets F.slot_tuple_mul ⟨_, ho, rfl⟩ F.entry_tuple_mul (F.args_tuple_mul_2 _ _) (tuple_mul_same l its.toArray n dd sl k t e0 e1) ⟨ho, .ref l, H, I, rfl, q⟩⟩)
@[simp] def mulTD : D → D → Gr
  | .tup xs, .int k => if decide ((xs = [] ∨ k = 1) ∧ -1000 ≤ k ∧ k ≤ 1000) then .im (.tup xs) else if decide (xs ≠ [] ∧ 2 ≤ k ∧ k ≤ 1000 ∧ xs.length ≤ 1000) then .im (.tup (List.replicate k.toNat xs).flatten) else .stk
  | _, _ => .stk
theorem snd_mulT {X : Cx} : OpSound X.K mulTD (fun x y H Q => rRepT1 X.K x y H Q ∨ rRepT X.K x y H Q) := by
  intro H G x y a b Q s ha hb hq
  cases a with
  | tup as =>
    cases b with
    | int k =>
      obtain ⟨p, xs, rfl, h1, h2⟩ := ha.tup s
      have ln := h2.length
      by_cases c : (as = [] ∨ k = 1) ∧ -1000 ≤ k ∧ k ≤ 1000
      · simp only [mulTD, decide_eq_true c, if_true] at hq
        refine .inl ⟨p, k, xs, rfl, hb.int, h1, ?_, c.2.1, c.2.2, hq.same s ha.tup0⟩
        rcases c.1 with z | z
        · left; subst z; exact List.eq_nil_of_length_eq_zero ln
        · exact .inr z
      · simp only [mulTD, decide_eq_false c, Bool.false_eq_true, if_false] at hq
        obtain ⟨c, hq⟩ := GrPost.cond hq
        have c := of_decide_eq_true c
        refine .inr ⟨p, k, xs, rfl, hb.int, h1, fun e => ?_, c.2.1, c.2.2.1, by rw [ln]; exact c.2.2.2, fun q hq' => hq.newT s (h2.rep _) hq'⟩
        subst e
        exact c.1 (List.eq_nil_of_length_eq_zero ln.symm)
    | _ => exact hq.elim
  | _ => cases b <;> exact hq.elim
theorem ex_mulT {X : Cx} {W : WX} {a b : Expr} {Fa Fb : Fx} {pos : Pos} (ha : EX X W a Fa) (hb : EX X W b Fb) : EX X W (.BinOp a .Mult b pos) (op2F mulTD Fa Fb) := ex_op (op_repT1.or op_repT) snd_mulT ha hb
end HF

set_option Elab.async false
set_option linter.all false
set_option maxRecDepth 100000
set_option maxHeartbeats 4000000
set_option autoImplicit false
namespace HF
open PySem PySem.Spec PyProof.Rows L2
/-! ### dict(..), d[k] = v, d != d -/
theorem GrPost.newK {K : PySem.W.Frag} {H G : Hp} {Q : VK} {ks : List Key} {ds : List D} {kvs : List (Key × V)} {p : Addr} (s : Same G H) (h : GrPost K H G Q (.fr (.dct ks ds))) (hk : kvs.map (·.1) = ks) (r : RpL K G ds (kvs.map (·.2))) (hp : H p = none) : Q (.ref p) (upd H p (.dK kvs)) :=
  h _ _ _ (GS.newH s hp) hp (s.free hp) ⟨kvs, upd_same, hk, r⟩
@[simp] def pairsD : List D → Option (List Key × List D)
  | [] => some ([], [])
  | .tup [k, d] :: r => (match k.key, pairsD r with
    | some k', some (ks, ds) => some (k' :: ks, d :: ds)
    | _, _ => none)
  | _ :: _ => none
@[simp] def dctG : List D → Gr
  | [.dct ks ds] => .fr (.dct ks ds)
  | [.lst ps] => (match pairsD ps with
    | some (ks, ds) => if decide ks.Nodup then .fr (.dct ks ds) else .stk
    | none => .stk)
  | _ => .stk
theorem pairs_ok {K : PySem.W.Frag} {H G : Hp} (s : Same G H) : ∀ {ps : List D} {xs : List V} {ks : List Key} {ds : List D}, RpL K G ps xs → pairsD ps = some (ks, ds) →
    ∃ (as : List Addr) (kvs : List (Key × V)), xs = as.map V.ref ∧ Paired (fun p kv => SqT K H p [kV kv.1, kv.2]) as kvs ∧ kvs.map (·.1) = ks ∧ RpL K G ds (kvs.map (·.2))
  | [], xs, ks, ds, h, e => by
    cases h
    cases e
    exact ⟨[], [], rfl, .nil, rfl, rfl⟩
  | q :: ps, xs, ks, ds, h, e => by
    obtain ⟨x, r, rfl, h1, h2⟩ := h
    cases q with
    | tup es =>
      match es, e, h1 with
      | [k, d], e, h1 =>
        simp only [pairsD] at e
        cases ek : k.key with
        | none => rw [ek] at e; cases e
        | some k' =>
          cases er : pairsD ps with
          | none => rw [ek, er] at e; cases e
          | some w =>
            obtain ⟨ks', ds'⟩ := w
            rw [ek, er] at e
            cases e
            obtain ⟨as, kvs, rfl, hp, hk, hr⟩ := pairs_ok s h2 er
            obtain ⟨a, vs, rfl, hq, v1, r1, rfl, hv, v2, r2, rfl, hv2, rfl⟩ := (show RdAt K H G (.tup [k, d]) x from .inl h1).tup s
            refine ⟨a :: as, (k', v2) :: kvs, rfl, .cons ?_ hp, by rw [List.map_cons, hk], v2, _, rfl, hv2, hr⟩
            rw [D.key_kV ek hv] at hq
            exact hq
      | [], e, _ => cases e
      | [_], e, _ => cases e
      | _ :: _ :: _ :: _, e, _ => cases e
    | _ => cases e
def rDctC (K : PySem.W.Frag) : List V → Hp → VK → Prop := fun xs H Q => (∃ (a : Addr) (kvs : List (Key × V)), xs = [.ref a] ∧ Rd H a (.dK kvs) ∧ ∀ p, H p = none → Q (.ref p) (upd H p (.dK kvs))) ∨
  ∃ (a : Addr) (ps : List Addr) (kvs : List (Key × V)), xs = [.ref a] ∧ SqL K H a (ps.map V.ref) ∧ Paired (fun p kv => SqT K H p [kV kv.1, kv.2]) ps kvs ∧ ∀ p, H p = none → Q (.ref p) (upd H p (.dK (mergeK [] kvs)))
theorem snd_dctC {K : PySem.W.Frag} : ClSound K dctG (rDctC K) := by
  intro H G xs ds Q s r h
  match ds, r, h with
  | [d], r, h =>
    obtain ⟨x, y, rfl, rx, rfl⟩ := r
    cases d with
    | dct ks es =>
      obtain ⟨p, kvs, rfl, h1, h2, h3⟩ := rx.dct s
      exact .inl ⟨p, kvs, rfl, .inl h1, fun q hq => h.newK s h2 h3 hq⟩
    | lst ps =>
      simp only [dctG] at h
      cases e : pairsD ps with
      | none => rw [e] at h; exact h.elim
      | some w =>
        obtain ⟨ks, es⟩ := w
        rw [e] at h
        obtain ⟨c, h⟩ := GrPost.condD h
        obtain ⟨p, vs, rfl, hp, rl⟩ := rx.lst s
        obtain ⟨as, kvs, rfl, hpr, hk, hr⟩ := pairs_ok s rl e
        refine .inr ⟨p, as, kvs, rfl, SqL.of hp, hpr, fun q hq => ?_⟩
        rw [mergeK_nd kvs [] (by simpa [hk] using c), List.nil_append]
        exact h.newK s hk hr hq
    | _ => exact h.elim
  | [], _, h => exact h.elim
  | d :: _ :: _, _, h => cases d <;> exact h.elim
section
variable {X : Cx} {W : WX}
theorem ex_dctC {e : Expr} {es : List Expr} {Fs : FxL} {p pos : Pos} (hc : X.calm = true) (hm : X.mg "dict" = none) (ha : AX X W (e :: es) Fs) (hg : Gl X "dict" := by rfl) (he : starEach (e :: es) X.env = (false, eval e X.env) :: starEach es X.env := by rfl) (hpl : (backTo pos (starEach es X.env)).any (·.1) = false := by rfl) : EX X W (.Call (.Name "dict" p) (e :: es) [] pos) (blF dctG Fs) :=
  ex_callTy (T := "dict") (call_dictD.or (call_dictP hc)) snd_dctC hm (by decide +kernel) ha hg (by decide) (by decide) he hpl
end
/-! two dicts with the same keys in the same order -/
def rNeK (K : PySem.W.Frag) : R2 := fun x y H Q => ∃ (a b : Addr) (ks ls : List (Key × V)) (ds es : List PyData), x = .ref a ∧ y = .ref b ∧ H a = some (.dK ks) ∧ H b = some (.dK ls) ∧ ks.map (·.1) = ls.map (·.1) ∧ (ks.map (·.1)).Nodup ∧ DpAll K H (ks.map (·.2)) ds ∧ DpAll K H (ls.map (·.2)) es ∧
  PyData.canLayAll0 ds = true ∧ PyData.canLayAll0 es = true ∧ PyData.depthAll ds ≤ 60 ∧ Q (.bl (!(PyData.eqvAll ds es))) H
theorem nodup_val {kvs : List (Key × V)} (nd : (kvs.map (·.1)).Nodup) {p : Key × V} (m : p ∈ kvs) : valV kvs p.1 = some p.2 := by
  induction kvs with
  | nil => cases m
  | cons q kvs ih =>
    rw [List.map_cons, List.nodup_cons] at nd
    rcases List.mem_cons.mp m with rfl | m
    · exact valV_pos rfl
    · have ne : q.1 ≠ p.1 := fun e => nd.1 (e ▸ List.mem_map.mpr ⟨p, m, rfl⟩)
      have q2 := ih nd.2 m
      simp only [valV, List.find?_cons, decide_eq_false ne] at q2 ⊢
      exact q2
theorem hits_deep {X : Cx} {pins : List (Addr × Obj)} {σ : L2.St} {H : Hp} {s : Shared} {A : Around} (I : L2.Inv X pins σ H s) {ls : List (Key × V)} {vb : List (Key × Value)} (rb : KV ls vb) (nd : (ls.map (·.1)).Nodup) (hu : A.units + 60 < cLine) :
    ∀ {ks : List (Key × V)} {va : List (Key × Value)} {rest : List (Key × V)} {ds es : List PyData}, KV ks va → (∀ p ∈ rest, p ∈ ls) → ks.map (·.1) = rest.map (·.1) → DpAll X.K H (ks.map (·.2)) ds → DpAll X.K H (rest.map (·.2)) es → PyData.canLayAll0 ds = true → PyData.canLayAll0 es = true → PyData.depthAll ds ≤ 60 →
      PySem.W.KeqHits A s vb va (PyData.eqvAll ds es) := by
  intro ks
  induction ks with
  | nil =>
    intro va rest ds es ra hm hk h1 h2 c1 c2 hd
    have hr : rest = [] := by
      cases rest with
      | nil => rfl
      | cons p r => simp at hk
    subst hr
    cases h1
    cases h2
    have : va = [] := by
      unfold KV at ra
      cases ra
      rfl
    subst this
    rw [PyData.eqvAll]
    exact .nil
  | cons p ks ih =>
    intro va rest ds es ra hm hk h1 h2 c1 c2 hd
    match rest, hk with
    | q :: rest, hk =>
      rw [List.map_cons, List.map_cons] at hk
      injection hk with hk1 hk2
      cases h1 with
      | @cons _ _ d ds' hd1 hds =>
        cases h2 with
        | @cons _ _ e es' he1 hes =>
          rw [PyData.canLayAll0, Bool.and_eq_true] at c1 c2
          rw [PyData.depthAll] at hd
          unfold KV at ra
          cases ra with
          | @cons _ w _ va' hpw ht =>
            obtain ⟨key, v⟩ := w
            obtain ⟨hp1, hp2⟩ := hpw
            have hp1 : p.1 = key := hp1
            have mq : q ∈ ls := hm q List.mem_cons_self
            have e1 := nodup_val nd mq
            have rr : RelO (some q.2) (valueAt vb q.1) := by rw [← e1]; exact rb.val q.1
            obtain ⟨y, hy, ry⟩ := rr.some_of
            obtain ⟨as, r1⟩ := Dp.reads I d p.2 v hd1 hp2
            obtain ⟨bs, r2⟩ := Dp.reads I e q.2 y he1 ry
            rw [PyData.eqvAll]
            refine .hit (y := y) (by rw [← hp1, hk1]; exact hy) (SeqAt.eqAt_reads d e A s v y as bs r1 r2 c1.1 c2.1 (by omega)) (ih ht (fun p' m => hm p' (List.mem_cons_of_mem _ m)) hk2 hds hes c1.2 c2.2 (by omega))
theorem op_neK {X : Cx} (hu : X.A.units + 65 < cLine) : OpR X (compareOp .NotEq) (rNeK X.K) := by
  intro pins s σ H x y v u Q I rx ry h
  obtain ⟨a, b, ks, ls, ds, es, rfl, rfl, ea, eb, hk, nd, h1, h2, c1, c2, hd, q⟩ := h
  obtain rfl : v = Value.ref a := rx
  obtain rfl : u = Value.ref b := ry
  obtain ⟨_, ya, va, ra, da⟩ := (show ObjOk X.prog X.w H s.heap a (.dK ks) from I.hok a _ ea)
  obtain ⟨_, yb, vb, rb, db⟩ := (show ObjOk X.prog X.w H s.heap b (.dK ls) from I.hok b _ eb)
  have hl : va.length = vb.length := by
    rw [← ra.length, ← rb.length]
    have := congrArg List.length hk
    simpa using this
  refine PySem.W.keq_ne (knd := mixKind X.prog X.w) (r := PyData.eqvAll ds es) ya yb da db (by omega) (fun _ => hits_deep I rb (hk ▸ nd) (by show X.A.units + 1 + 60 < cLine; omega) ra (fun p m => m) hk h1 h2 c1 c2 hd) ⟨.bl (!(PyData.eqvAll ds es)), H, I, ?_, q⟩
  rw [show (va.length == vb.length) = true by rw [hl]; simp, Bool.true_and]
  rfl
@[simp] def neKD (a b : D) : Gr := match a, b with
  | .dct ks ds, .dct ls es => if decide (ks = ls ∧ ks.Nodup ∧ PyData.canLayAll0 (D.pyL ds) = true ∧ PyData.canLayAll0 (D.pyL es) = true ∧ PyData.depthAll (D.pyL ds) ≤ 60) then .im (.bl (!(PyData.eqvAll (D.pyL ds) (D.pyL es)))) else .stk
  | _, _ => .stk
theorem snd_neK {K : PySem.W.Frag} : OpSound K neKD (rNeK K) := by
  intro H G x y a b Q s ha hb hq
  cases a with
  | dct ks ds =>
    cases b with
    | dct ls es =>
      obtain ⟨c, hq⟩ := GrPost.condD hq
      obtain ⟨p, kvs, rfl, h1, h2, h3⟩ := ha.dct s
      obtain ⟨q, lvs, rfl, g1, g2, g3⟩ := hb.dct s
      exact ⟨p, q, kvs, lvs, D.pyL ds, D.pyL es, rfl, rfl, h1, g1, by rw [h2, g2]; exact c.1, by rw [h2]; exact c.2.1, RpL.dp ds _ c.2.2.1 (RpL.mono s ds _ h3), RpL.dp es _ c.2.2.2.1 (RpL.mono s es _ g3), c.2.2.1, c.2.2.2.1, c.2.2.2.2, hq.same s rfl⟩
    | _ => exact hq.elim
  | _ => cases b <;> exact hq.elim
theorem ex_neK {X : Cx} {W : WX} {a b : Expr} {Fa Fb : Fx} {pos : Pos} (hu : X.A.units + 65 < cLine) (ha : EX X W a Fa) (hb : EX X W b Fb) : EX X W (.Compare a [.NotEq] [b] pos) (op2F neKD Fa Fb) := ex_cmp (op_neK hu) snd_neK ha hb (nomark _)
/-! d[k] = v -/
def dsetL (key : Key) (d : D) : List Key → List D → List D
  | k :: ks, x :: ds => (if k = key then d else x) :: dsetL key d ks ds
  | _, _ => []
def dputL (key : Key) (d : D) (ks : List Key) (ds : List D) : List Key × List D := if (ks.any fun k' => decide (k' = key)) = true then (ks, dsetL key d ks ds) else (ks ++ [key], ds ++ [d])
theorem dset_ok {K : PySem.W.Frag} {G : Hp} {key : Key} {d : D} {v : V} (hv : Rp K G d v) : ∀ {kvs : List (Key × V)} {ds : List D}, RpL K G ds (kvs.map (·.2)) → RpL K G (dsetL key d (kvs.map (·.1)) ds) ((kvs.map fun kv => if kv.1 = key then (kv.1, v) else kv).map (·.2))
  | [], ds, h => by
    have : ds = [] := by
      cases ds with
      | nil => rfl
      | cons x r => obtain ⟨_, _, z, _⟩ := h; cases z
    subst this
    rfl
  | kv :: kvs, [], h => by cases h
  | kv :: kvs, x :: ds, h => by
    obtain ⟨w, r, e, h1, h2⟩ := h
    obtain ⟨rfl, rfl⟩ : w = kv.2 ∧ r = kvs.map (·.2) := by cases e; exact ⟨rfl, rfl⟩
    have ih := dset_ok (key := key) hv h2
    simp only [List.map_cons, dsetL]
    by_cases c : kv.1 = key
    · rw [if_pos c, if_pos c]; exact ⟨v, _, rfl, hv, ih⟩
    · rw [if_neg c, if_neg c]; exact ⟨kv.2, _, rfl, h1, ih⟩
theorem dput_ok {K : PySem.W.Frag} {G : Hp} {key : Key} {d : D} {v : V} (hv : Rp K G d v) {kvs : List (Key × V)} {ds : List D} (h : RpL K G ds (kvs.map (·.2))) :
    (putK kvs key v).map (·.1) = (dputL key d (kvs.map (·.1)) ds).1 ∧ RpL K G (dputL key d (kvs.map (·.1)) ds).2 ((putK kvs key v).map (·.2)) := by
  have an : ((kvs.map (·.1)).any fun k' => decide (k' = key)) = (kvs.any fun kv => decide (kv.1 = key)) := by rw [List.any_map]; rfl
  unfold putK dputL
  rw [an]
  by_cases c : (kvs.any fun kv => decide (kv.1 = key)) = true
  · rw [if_pos c, if_pos c]
    refine ⟨?_, dset_ok hv h⟩
    rw [List.map_map]
    apply List.map_congr_left
    intro kv _
    simp only [Function.comp]
    split <;> rfl
  · rw [if_neg c, if_neg c]
    refine ⟨by simp, ?_⟩
    rw [List.map_append]
    exact RpL.append h (RpL.one hv)
@[simp] def isDctE (e : List Sl) (i : Nat) : Bool := match (e[i]?).bind Sl.mu with
  | some (.dct _ _) => true
  | _ => false
theorem dct_at {K : PySem.W.Frag} {σ : L2.St} {H G : Hp} {env : List Sl} {i : Nat} (re : ER K H G σ env) (h : isDctE env i = true) : ∃ p, σ[i]? = some (some (.ref p)) := by
  unfold isDctE at h
  cases e : env[i]? with
  | none => rw [e] at h; cases h
  | some s =>
    rw [e] at h
    cases e2 : s.mu with
    | none => have h : (match s.mu with | some (.dct _ _) => true | _ => false) = true := h; rw [e2] at h; cases h
    | some d =>
      obtain ⟨p, w1, w2, w3⟩ := re.mu i s d e e2
      exact ⟨p, w1⟩
@[simp] def dputR (k : Nat) (v vi : Vl) (e2 : List Sl) : Out := match v.toIm, vi.rd e2, (e2[k]?).bind Sl.mu with
  | some d, some di, some (.dct ks ds) => (match di.key with
    | some key => if decide (ks.length < 1000) then .nx (putE k (.dct (dputL key d ks ds).1 (dputL key d ks ds).2) e2) else .stk
    | none => .stk)
  | _, _, _ => .stk
/-- d[e] = v, d in slot k -/
@[simp] def dputS (k : Nat) (Fi F : Fx) (env : List Sl) : Out := match F env with
  | .ok v e1 => if isDctE e1 k then (match Fi e1 with
    | .ok vi e2 => dputR k v vi e2
    | .err c e => .err c e
    | .stk => .stk) else .stk
  | .err c e => .err c e
  | .stk => .stk
theorem st_dput {X : Cx} {W : WX} {x : Str} {p : Pos} {k : Nat} {i e' : Expr} {Fi F : Fx} {pos pos2 : Pos} (ho : PE X (.Name x p) (tVar k)) (hu : X.A.units + 65 < cLine) (he : EX X W e' F) (hi : EX X W i Fi)
    (hs : swapsWith e' (some (.Subscript (.Name x p) i pos2)) pos.line X.env = pure false := by rfl) : ST X W (.Assign [.Subscript (.Name x p) i pos2] e' pos) (dputS k Fi F) := by
  intro H0 G0 pa
  refine PS.weak (ps_dput (by omega) ho hi he hs) fun D σ H ⟨G, env, r, h⟩ => ?_
  have h' : PostS X.K X.mg W H0 G0 pa D (match F env with
      | .ok v e => (fun v e1 => if isDctE e1 k then (match Fi e1 with
    | .ok vi e2 => dputR k v vi e2
    | .err c e => .err c e
    | .stk => .stk) else .stk) v e
      | .err c e => .err c e
      | .stk => .stk) := h
  refine SR.bind r h' fun vl env1 v H1 G1 _ s v1 r1 p => ?_
  split at p
  · rename_i c
    obtain ⟨q, w1⟩ := dct_at r1.er c
    refine ⟨_, w1, SR.bind (f := fun vi e2 => dputR k vl vi e2) r1 p fun vi env2 u H2 G2 _ s2 v2 r2 p2 => ?_⟩
    unfold dputR at p2
    cases e1 : vl.toIm with
    | none => simp only [e1] at p2; exact p2.elim
    | some d =>
      cases e2 : vi.rd env2 with
      | none => simp only [e1, e2] at p2; exact p2.elim
      | some di =>
        cases e3 : (env2[k]?).bind Sl.mu with
        | none => simp only [e1, e2, e3] at p2; exact p2.elim
        | some dk =>
          cases dk with
          | dct ks ds =>
            simp only [e1, e2, e3] at p2
            cases e4 : di.key with
            | none => simp only [e4] at p2; exact p2.elim
            | some key =>
              simp only [e4] at p2
              split at p2
              · rename_i c2
                have c2 := of_decide_eq_true c2
                have v1' : VlAt X.K H H2 G2 σ env2 vl v := v1.step s2 fun p hp m => (MuIs.new r.er hp) (m.of s.kin)
                have s12 := s.trans s2 r.er
                have hku : u = kV key := by
                  have rd := v2.read r2.er e2
                  cases di with
                  | int i => cases e4; exact rd.int
                  | str i => cases e4; exact rd.str
                  | _ => cases e4
                obtain ⟨G3, s3, g3, k3, hr⟩ := v1'.w.imm s12 r.er e1
                cases e5 : env2[k]? with
                | none => rw [e5] at e3; cases e3
                | some t =>
                  rw [e5] at e3
                  have e3 : t.mu = some (.dct ks ds) := e3
                  obtain ⟨q', y1, y2, kvs, y3, y4, y5⟩ := s3.er.mu k t _ e5 e3
                  rw [w1] at y1
                  cases y1
                  have lk : kvs.length < sizeLine := by
                    have : kvs.length = ks.length := by rw [← y4]; simp
                    rw [sizeLine_eq]; omega
                  obtain ⟨z1, z2⟩ := dput_ok (key := key) hr y5
                  rw [y4] at z1 z2
                  refine ⟨q, _, rfl, hku ▸ DPut.k y3 lk, ?_⟩
                  have st := s3.er.put (H' := upd H2 q (.dK (putK kvs key v))) e5 e3 w1 (fun b hb => upd_ne hb) (d' := .dct (dputL key d ks ds).1 (dputL key d ks ds).2) ⟨_, upd_same, z1, z2⟩
                  exact p2 σ _ G3 ((r.step s3).step st)
              · exact p2.elim
          | _ => simp only [e1, e2, e3] at p2; exact p2.elim
  · exact p.elim
/-! what is never come to -/
theorem sts_never {X : Cx} {W : WX} {ss : List Stmt} : STs X W ss (fun _ => .stk) := fun H0 G0 pa => ⟨fun pins s σ H D I h => by
  obtain ⟨_, _, _, q⟩ := h
  exact q.elim⟩
/-! the suite that asks the error itself -/
theorem hT_ref {i j : Nat} (hij : i ≠ j) {q1 q2 q3 : Str → Bool} : ∀ (a : Addr) (c : Str) (e : List Sl), finR i ((seqS (asgS j (isEF i a (q1 c))) (retS (andF (isEF i a (q2 c)) (andF (isEF i a (q3 c)) (notF (vF j)))))) (e.set i (.val (.ob a)))) = finR i ((seqS (asgS j (isEF i 0 (q1 c))) (retS (andF (isEF i 0 (q2 c)) (andF (isEF i 0 (q3 c)) (notF (vF j)))))) (e.set i (.val (.ob 0)))) := by
  intro a c e
  by_cases hi : i < e.length
  · have a1 : ∀ X : Sl, (e.set i X)[i]? = some X := fun X => List.getElem?_set_self hi
    have a2 : ∀ X : Sl, (e.set i X)[j]? = e[j]? := fun X => List.getElem?_set_ne hij
    by_cases hj : j < e.length
    · have a3 : ∀ X Y : Sl, ((e.set i X).set j Y)[i]? = some X := fun X Y => by rw [List.getElem?_set_ne (fun z => hij z.symm)]; exact a1 X
      have a4 : ∀ X Y : Sl, ((e.set i X).set j Y)[j]? = some Y := fun X Y => List.getElem?_set_self (by simpa using hj)
      have a5 : ∀ X Y Z : Sl, ((e.set i X).set j Y).set i Z = (e.set j Y).set i Z := fun X Y Z => by rw [List.set_comm _ _ hij, List.set_set]
      have hs : e[j]? = some e[j] := List.getElem?_eq_getElem hj
      generalize e[j] = sj at hs
      cases sj <;> cases q2 c <;> cases q3 c <;> cases q1 c <;> simp [a1, a2, hs, a3, a4, a5]
    · have hs : e[j]? = none := List.getElem?_eq_none (by omega)
      simp [a1, a2, hs]
  · have : e.length ≤ i := by omega
    simp [List.getElem?_eq_none (l := e.set i _) (i := i) (by simpa using this)]
end HF

set_option Elab.async false
set_option linter.all false
set_option maxRecDepth 100000
set_option maxHeartbeats 4000000
set_option autoImplicit false
namespace HF
open PySem PySem.Spec PyProof.Rows L2
/-! xs.count(y) -/
section
variable {X : Cx}
def rCount (K : PySem.W.Frag) : V → List V → Hp → VK → Prop := fun x vs H Q => ∃ (l : Addr) (ys : List V) (y : V), x = .ref l ∧ vs = [y] ∧ SqL K H l ys ∧ flatV y = true ∧ ys.all flatV = true ∧ Q (.int (ys.countP fun z => eqV z y : Nat)) H
theorem count_eqU {y : V} : ∀ {ys : List V} {us : List Value}, Vals ys us → ys.all flatV = true → us.countP (eqU y) = ys.countP fun z => eqV z y
  | _, _, .nil, _ => rfl
  | z :: ys, u :: us, .cons r t, f => by
    rw [List.all_cons, Bool.and_eq_true] at f
    rw [List.countP_cons, List.countP_cons, count_eqU t f.2, eqU_of r f.1]
theorem mt_count : MtR X "list.count" (rCount X.K) := by
  intro pins s σ H x vs v us Q I rx rv h
  obtain ⟨l, ys, y, rfl, rfl, hs, fy, fys, q⟩ := h
  cases rx
  obtain ⟨u, rfl, ru⟩ := L2.Vals.one rv
  obtain ⟨its, rl, ⟨⟨cls, dd, data, sl⟩, n, ho, hc, hdn, hd⟩, hlen⟩ := I.list hs
  simp only at hc hd
  subst hc hd
  refine call_meets PySem.F.slot_list_count ⟨_, ho, rfl⟩ PySem.F.entry_list_count (PySem.F.args_list_count_2 _ _) (SeqAt.list_countAt l its.toArray n dd sl u (eqU y)) ⟨ho, fun u' hu' => mem_eqAt ru fy rl fys u' (by simpa using hu'), ?_⟩
  refine ⟨.int (ys.countP fun z => eqV z y : Nat), H, I.tok _, ⟨s.toks, ?_⟩, q⟩
  show Value.int ((its.toArray.toList.countP (eqU y) : Nat) : Int) s.toks = _
  rw [← count_eqU rl fys]
end
@[simp] def cntM : D → List D → Option (D × D)
  | .lst ds, [y] => if y.flat && ds.all D.flat then some (.lst ds, .int (ds.countP fun z => PyData.eqv z.py y.py : Nat)) else none
  | _, _ => none
theorem flat_cnt {K : PySem.W.Frag} {G : Hp} {e : D} {u : V} (f' : e.flat = true) (h' : Rp K G e u) : ∀ {ds : List D} {vs : List V}, ds.all D.flat = true → RpL K G ds vs → (vs.countP fun z => eqV z u) = ds.countP fun y => PyData.eqv y.py e.py
  | [], vs, _, h => by cases h; rfl
  | d :: ds, vs, f, h => by
    obtain ⟨v, r, rfl, h1, h2⟩ := h
    rw [List.all_cons, Bool.and_eq_true] at f
    rw [List.countP_cons, List.countP_cons, flat_cnt f' h' f.2 h2, flat_eqV f.1 f' h1 h']
section
variable {X : Cx} {W : WX} {x : Str} {p apos cpos : Pos} {e : Expr} {es : List Expr} {Fs : FxL}
theorem mts_cnt {K : PySem.W.Frag} : MtS K cntM (rCount K) := by
  intro H G p d ds xs d' r' Q s gp hm hr e k
  match d, ds, hr, e with
  | .lst es, [y], hr, e =>
    simp only [cntM] at e
    split at e
    · rename_i c
      rw [Bool.and_eq_true] at c
      cases e
      obtain ⟨v, r, rfl, hv, rfl⟩ := hr
      obtain ⟨vs, hp, rl⟩ := hm
      refine ⟨p, vs, v, rfl, rfl, SqL.of hp, flat_V c.1 hv, flat_all c.2 rl, ?_⟩
      rw [flat_cnt c.1 hv c.2 rl]
      exact k _ H (fun _ _ => rfl) ⟨vs, hp, rl⟩ rfl
    · cases e
theorem ex_count {i : Nat} (ho : PE X (.Name x p) (tVar i)) (ha : AX X W (e :: es) Fs) (hbase : attributeBase (.Name x p) "count" X.env (eval (.Name x p) X.env) = eval (.Name x p) X.env := by rfl)
    (hfew : ((backTo cpos (starEach (e :: es) X.env)).all (fun x => !x.1) && (backToKw cpos (keywordEach [] X.env)).all (fun x => x.1.isSome)
      && decide ((e :: es).length + ([] : List Keyword).length + (if ([] : List Keyword).isEmpty then 0 else 1) < 30)) = true := by rfl)
    (hline : (apos.endLine == cpos.line) = true := by rfl) (hs : starEach (e :: es) X.env = (false, eval e X.env) :: starEach es X.env := by rfl) (hplain : (backTo cpos (starEach es X.env)).any (·.1) = false := by rfl) : EX X W (.Call (.Attribute (.Name x p) "count" apos) (e :: es) [] cpos) (mtF cntM i Fs) :=
  ex_mt mt_count mts_cnt PySem.F.slot_list_count PySem.F.type_list_count ho ha fun ho ha => pe_bm PySem.F.plainAttrs_list PySem.F.slot_list_count PySem.F.type_list_count mt_count ho ha hbase hfew hline hs hplain
end
end HF

set_option Elab.async false
set_option linter.all false
set_option maxRecDepth 100000
set_option maxHeartbeats 4000000
set_option autoImplicit false
namespace HF
open PySem PySem.Spec PyProof.Rows L2
/-! ### dict(zip(x, y)), list(reversed(x)) -/
section
open PySem
variable {prog : Program} {w : World} {A : Around} {E : Value → Shared → Prop} {s : Shared} {z TI TO T i1 i2 : Addr} {fp1 fp2 : List Addr} {n1 n2 i : Nat} {P1 P2 : Nat → Value → Prop} {St1 St2 : Nat → Heap → Prop} {f : Bool} {oT : Obj}
/-- the next pair of a zip whose last tuple is still there -/
theorem zipH_item {Q : Value → Shared → Prop} (S : ZipSep2 z TI TO i1 i2 fp1 fp2) (D1 : Draws prog w A i1 fp1 n1 P1 St1) (D2 : Draws prog w A i2 fp2 n2 P2 St2)
    (hz : IsZipHeld s.heap z TI TO T f) (hT : s.heap.get? T = some oT) (hTI : IsTupOf2 s.heap TI (.ref i1) (.ref i2)) (st1 : St1 i s.heap) (st2 : St2 i s.heap) (hlt1 : i < n1) (hlt2 : i < n2)
    (hQ : ∀ x1 x2 h' tk, P1 i x1 → P2 i x2 → IsZipHeld h' z TI TO T true → St1 (i + 1) h' → St2 (i + 1) h' → IsTupOf2 h' s.heap.objs.size x1 x2 → h'.objs.size = s.heap.objs.size + 1 →
      (∀ c o, c ≠ z → c ≠ i1 → c ≠ i2 → s.heap.get? c = some o → h'.get? c = some o) → Q (.ref s.heap.objs.size) { s with heap := h', toks := tk }) :
    wpAny (model prog w) A (Builtin.«zip.__next__» ⟨[.ref z], []⟩) (fun fin s' => ∃ v, fin = .done (.ret v) ∧ Q v s') E s := by
  obtain ⟨hp, g, d, tk0, os⟩ := s
  show wpAny _ _ (field (.ref z) 2 >>= _) _ _ _
  refine wpAny_bind (wpAny_field hz rfl (x := .bool false) rfl ?_)
  show wpAny _ _ (field (.ref z) 3 >>= _) _ _ _
  refine wpAny_bind (wpAny_field hz rfl (x := .ref TI) rfl ?_)
  refine wpAny_bind (wpAny_seqItems hTI rfl ?_)
  show wpAny _ _ (Builtin.SmallTypes.ownedTupleIsFree (.ref z) >>= _) _ _ _
  refine wpAny_bind (wpAny_tupleHeld_zip hz hT fun g0 hz0 hs0 => ?_)
  replace hs0 : Heap.SameBut z hp g0 := hs0
  simp only [Bool.false_eq_true, if_false]
  refine wpAny_bind ?_
  rw [← Array.forIn_toList]
  simp only [List.forIn_cons, List.forIn_nil]
  refine wpAny_bind (wpAny_bind (wpAny_holding ?_))
  show wpAny _ _ (Builtin.SmallTypes.nextOf (.ref i1) >>= _) _ _ ⟨g0, g, d, tk0, os⟩
  refine wpAny_bind (D1.item i _ _ _ hlt1 (D1.over st1 hs0 S.zf1) fun x1 p1 tk1 hx1 sn1 hp1 => wpAny_pure ?_)
  replace hp1 : Heap.SameBut i1 g0 p1 := hp1
  refine wpAny_pure ?_
  refine wpAny_bind (wpAny_bind (wpAny_holding ?_))
  show wpAny _ _ (Builtin.SmallTypes.nextOf (.ref i2) >>= _) _ _ ⟨p1, g, d, tk1, os⟩
  refine wpAny_bind (D2.item i _ _ _ hlt2 (D2.over (D2.over st2 hs0 S.zf2) hp1 S.sep1_2) fun x2 p2 tk2 hx2 sn2 hp2 => wpAny_pure ?_)
  replace hp2 : Heap.SameBut i2 p1 p2 := hp2
  refine wpAny_pure (wpAny_pure ?_)
  show wpAny _ _ (newTuple [x1, x2] >>= _) _ _ ⟨p2, g, d, tk2, os⟩
  refine wpAny_bind (wpAny_newTuple ?_)
  have hsz : p2.objs.size = hp.objs.size := by rw [hp2.1, hp1.1, hs0.1]
  have hz3 : IsZipHeld p2 z TI TO T true := hp2.extBut _ _ S.zi2 (hp1.extBut _ _ S.zi1 hz0)
  have hk : ∀ c o, c ≠ z → c ≠ i1 → c ≠ i2 → hp.get? c = some o → p2.get? c = some o := fun c o c1 c2 c3 e => hp2.extBut _ _ c3 (hp1.extBut _ _ c2 (hs0.extBut _ _ c1 e))
  have hj1 : St1 (i + 1) p2 := D1.over sn1 hp2 S.sep2_1
  refine wpAny_pure ⟨_, rfl, ?_⟩
  show Q (.ref p2.objs.size) _
  have hp' : IsTupOf2 (p2.push { cls := .type "tuple", data := .seq #[x1, x2] }) p2.objs.size x1 x2 := Heap.get?_push_size _ rfl
  have hz4 : (p2.push { cls := .type "tuple", data := .seq #[x1, x2] }).objs.size = p2.objs.size + 1 := Heap.size_push ..
  rw [hsz] at hp' hz4 ⊢
  have up : ∀ c o, p2.get? c = some o → (p2.push { cls := .type "tuple", data := .seq #[x1, x2] }).get? c = some o := fun c o e => Heap.get?_push_of_some _ e
  exact hQ x1 x2 _ tk2 hx1 hx2 (up _ _ hz3) (D1.frame _ _ _ hj1 fun b _ o e => up b o e) (D2.frame _ _ _ sn2 fun b _ o e => up b o e) hp' hz4 fun c o c1 c2 c3 e => up c o (hk c o c1 c2 c3 e)
theorem zipH_end {Q : Fin → Shared → Prop} (S : ZipSep2 z TI TO i1 i2 fp1 fp2) (D1 : Draws prog w A i1 fp1 n1 P1 St1) (D2 : Draws prog w A i2 fp2 n2 P2 St2)
    (hz : IsZipHeld s.heap z TI TO T f) (hT : s.heap.get? T = some oT) (hTI : IsTupOf2 s.heap TI (.ref i1) (.ref i2)) (st1 : St1 i s.heap) (st2 : St2 i s.heap) (hle1 : i ≤ n1) (hle2 : i ≤ n2) (hend : i = n1 ∨ i = n2)
    (hE : ∀ h' tk e, (∀ c o, c ≠ z → c ≠ i1 → c ≠ i2 → s.heap.get? c = some o → h'.get? c = some o) → (∃ o, h'.get? e = some o ∧ o.cls = .type "StopIteration") → E (.ref e) { s with heap := h', toks := tk }) :
    wpAny (model prog w) A (Builtin.«zip.__next__» ⟨[.ref z], []⟩) Q E s := by
  obtain ⟨hp, g, d, tk0, os⟩ := s
  show wpAny _ _ (field (.ref z) 2 >>= _) _ _ _
  refine wpAny_bind (wpAny_field hz rfl (x := .bool false) rfl ?_)
  show wpAny _ _ (field (.ref z) 3 >>= _) _ _ _
  refine wpAny_bind (wpAny_field hz rfl (x := .ref TI) rfl ?_)
  refine wpAny_bind (wpAny_seqItems hTI rfl ?_)
  show wpAny _ _ (Builtin.SmallTypes.ownedTupleIsFree (.ref z) >>= _) _ _ _
  refine wpAny_bind (wpAny_tupleHeld_zip hz hT fun g0 hz0 hs0 => ?_)
  replace hs0 : Heap.SameBut z hp g0 := hs0
  simp only [Bool.false_eq_true, if_false]
  refine wpAny_bind ?_
  rw [← Array.forIn_toList]
  simp only [List.forIn_cons, List.forIn_nil]
  refine wpAny_bind (wpAny_bind (wpAny_holding ?_))
  show wpAny _ _ (Builtin.SmallTypes.nextOf (.ref i1) >>= _) _ _ ⟨g0, g, d, tk0, os⟩
  by_cases hlt1 : i < n1
  · refine wpAny_bind (D1.item i _ _ _ hlt1 (D1.over st1 hs0 S.zf1) fun x1 p1 tk1 hx1 sn1 hp1 => wpAny_pure ?_)
    replace hp1 : Heap.SameBut i1 g0 p1 := hp1
    have hi2 : i = n2 := by omega
    refine wpAny_pure ?_
    refine wpAny_bind (wpAny_bind (wpAny_holding ?_))
    show wpAny _ _ (Builtin.SmallTypes.nextOf (.ref i2) >>= _) _ _ ⟨p1, g, d, tk1, os⟩
    refine wpAny_bind (D2.done ⟨p1, g, d, tk1, os⟩ _ _ (by rw [← hi2]; exact D2.over (D2.over st2 hs0 S.zf2) hp1 S.sep1_2) fun q e hq he => ?_)
    replace hq : Heap.ExtBut i2 p1 q := hq
    exact hE q tk1 e (fun c o cz c1 c2 x => hq _ _ c2 (hp1.extBut _ _ c1 (hs0.extBut _ _ cz x))) he
  · have hi1 : i = n1 := by omega
    refine wpAny_bind (D1.done ⟨g0, g, d, tk0, os⟩ _ _ (by rw [← hi1]; exact D1.over st1 hs0 S.zf1) fun q e hq he => ?_)
    replace hq : Heap.ExtBut i1 g0 q := hq
    exact hE q tk0 e (fun c o cz c1 c2 x => hq _ _ c1 (hs0.extBut _ _ cz x)) he
theorem nextH_item {Q : Option Value → Shared → Prop} (S : ZipSep2 z TI TO i1 i2 fp1 fp2) (D1 : Draws prog w A.in1 i1 fp1 n1 P1 St1) (D2 : Draws prog w A.in1 i2 fp2 n2 P2 St2)
    (hz : IsZipHeld s.heap z TI TO T f) (hT : s.heap.get? T = some oT) (hTI : IsTupOf2 s.heap TI (.ref i1) (.ref i2)) (st1 : St1 i s.heap) (st2 : St2 i s.heap) (hlt1 : i < n1) (hlt2 : i < n2)
    (hQ : ∀ x1 x2 h' tk, P1 i x1 → P2 i x2 → IsZipHeld h' z TI TO T true → St1 (i + 1) h' → St2 (i + 1) h' → IsTupOf2 h' s.heap.objs.size x1 x2 → h'.objs.size = s.heap.objs.size + 1 →
      (∀ c o, c ≠ z → c ≠ i1 → c ≠ i2 → s.heap.get? c = some o → h'.get? c = some o) → Q (some (.ref s.heap.objs.size)) { s with heap := h', toks := tk }) :
    wpAny (model prog w) A (pyNext (.ref z)) Q E s := by
  have hTy : s.TypeIs (.ref z) "zip" := ⟨_, hz, rfl⟩
  unfold pyNext
  exact wpAny_bind (wpAny_attempt (wpAny_callSpecial?_slot (name := Str.ofString "__next__") hTy F.slot_zip_next
    (wpAny_call_entry F.slot_zip_next hTy F.entry_zip_next
      (zipH_item S D1 D2 hz hT hTI st1 st2 hlt1 hlt2 fun x1 x2 h' tk y1 y2 b1 b2 d1 d2 b5 b6 => wpAny_pure (hQ x1 x2 h' tk y1 y2 b1 b2 d1 d2 b5 b6)) (F.args_zip_next_1 _))))
theorem nextH_end {Q : Option Value → Shared → Prop} (S : ZipSep2 z TI TO i1 i2 fp1 fp2) (D1 : Draws prog w A.in1 i1 fp1 n1 P1 St1) (D2 : Draws prog w A.in1 i2 fp2 n2 P2 St2)
    (hz : IsZipHeld s.heap z TI TO T f) (hT : s.heap.get? T = some oT) (hTI : IsTupOf2 s.heap TI (.ref i1) (.ref i2)) (st1 : St1 i s.heap) (st2 : St2 i s.heap) (hle1 : i ≤ n1) (hle2 : i ≤ n2) (hend : i = n1 ∨ i = n2)
    (hQ : ∀ h' tk, (∀ c o, c ≠ z → c ≠ i1 → c ≠ i2 → s.heap.get? c = some o → h'.get? c = some o) → Q none { s with heap := h', toks := tk }) : wpAny (model prog w) A (pyNext (.ref z)) Q E s := by
  have hTy : s.TypeIs (.ref z) "zip" := ⟨_, hz, rfl⟩
  unfold pyNext
  refine wpAny_bind (wpAny_attempt (wpAny_callSpecial?_slot (name := Str.ofString "__next__") hTy F.slot_zip_next
    (wpAny_call_entry F.slot_zip_next hTy F.entry_zip_next (zipH_end S D1 D2 hz hT hTI st1 st2 hle1 hle2 hend fun h' tk e hk he => ?_) (F.args_zip_next_1 _))))
  obtain ⟨o, ho, hc⟩ := he
  refine wpAny_bind (wpAny_isInstance (T := "StopIteration") (b := true) ⟨o, ho, hc⟩ isSubtype_stop ?_)
  exact wpAny_pure (hQ _ _ hk)
end
end HF

set_option Elab.async false
set_option linter.all false
set_option maxRecDepth 100000
set_option maxHeartbeats 4000000
set_option autoImplicit false
namespace HF
open PySem PySem.Spec PyProof.Rows L2
section
open PySem
variable {prog : Program} {w : World} {z TI TO i1 i2 : Addr} {fp1 fp2 : List Addr} {n1 n2 : Nat} {P1 P2 : Nat → Value → Prop} {St1 St2 : Nat → Heap → Prop}
theorem pairZip (S : ZipSep2 z TI TO i1 i2 fp1 fp2) (D1 : ∀ A : Around, A.handled = none → Draws prog w A i1 fp1 n1 P1 St1) (D2 : ∀ A : Around, A.handled = none → Draws prog w A i2 fp2 n2 P2 St2)
    (th1 : ∀ h, St1 0 h → ∀ b ∈ fp1, ∃ o, h.get? b = some o) (th2 : ∀ h, St2 0 h → ∀ b ∈ fp2, ∃ o, h.get? b = some o) :
    PairArg prog w "zip" z (z :: TI :: TO :: (fp1 ++ fp2)) [z, TO, i1, i2] (min n1 n2) (fun i k v => P1 i k ∧ P2 i v)
      (fun h => IsZip h z TI TO .none ∧ IsTupOf2 h TI (.ref i1) (.ref i2) ∧ (∃ a b, IsTupOf2 h TO a b) ∧ St1 0 h ∧ St2 0 h) where
  type := fun s ok => ⟨_, ok.1, rfl⟩
  notDict := by decide
  keep := fun h h' ok hk => by
    obtain ⟨hz, hTI, ⟨a, b, hTO⟩, h1, h2⟩ := ok
    have d1 := D1 {} rfl
    have d2 := D2 {} rfl
    exact ⟨hk _ _ hz, hk _ _ hTI, ⟨a, b, hk _ _ hTO⟩, d1.frame _ _ _ h1 fun b _ o e => hk _ o e, d2.frame _ _ _ h2 fun b _ o e => hk _ o e⟩
  there := fun h ok b hb => by
    obtain ⟨hz, hTI, ⟨a, c, hTO⟩, h1, h2⟩ := ok
    rcases List.mem_cons.mp hb with rfl | hb
    · exact ⟨_, hz⟩
    rcases List.mem_cons.mp hb with rfl | hb
    · exact ⟨_, hTI⟩
    rcases List.mem_cons.mp hb with rfl | hb
    · exact ⟨_, hTO⟩
    rcases List.mem_append.mp hb with hb | hb
    · exact th1 h h1 b hb
    · exact th2 h h2 b hb
  sub := fun b hb => by
    have m1 := S.mem1
    have m2 := S.mem2
    simp only [List.mem_cons, List.not_mem_nil, or_false, List.mem_append] at hb ⊢
    rcases hb with rfl | rfl | rfl | rfl
    · exact .inl rfl
    · exact .inr (.inr (.inl rfl))
    · exact .inr (.inr (.inr (.inl m1)))
    · exact .inr (.inr (.inr (.inr m2)))
  noKeys := fun A s Q E hA ok h => getAttrOr_miss_zip ok.1 rfl rfl rfl zip_no_keys (by decide +kernel) hA h
  iter := fun A s d Q E hA ok hd hdf h => by
    obtain ⟨hz, hTI, ⟨a, b, hTO⟩, h1, h2⟩ := ok
    have d1 := D1 A.in1 hA
    have d2 := D2 A.in1 hA
    simp only [List.mem_cons, not_or, List.mem_append] at hdf
    obtain ⟨dz, dTI, dTO, df1, df2⟩ := hdf
    have di1 : d ≠ i1 := fun e => df1 (e ▸ S.mem1)
    have di2 : d ≠ i2 := fun e => df2 (e ▸ S.mem2)
    refine wpAny_pyIter_zip hz (h z [z, TO, i1, i2] (fun i h => IsTupOf2 h TI (.ref i1) (.ref i2) ∧ St1 i h ∧ St2 i h ∧
      ((IsZip h z TI TO .none ∧ ∃ a b, IsTupOf2 h TO a b) ∨ ∃ T f oT, IsZipHeld h z TI TO T f ∧ h.get? T = some oT ∧ T ≠ z ∧ T ≠ i1 ∧ T ≠ i2 ∧ T ≠ d)) s.heap s.toks ?_
      ⟨hTI, h1, h2, .inl ⟨hz, a, b, hTO⟩⟩ (fun _ _ e => e) fun b hb => .inl hb)
    exact {
      off := fun hm => by
        simp only [List.mem_cons, List.not_mem_nil, or_false] at hm
        rcases hm with e | e | e | e
        · exact dz e
        · exact dTO e
        · exact di1 e
        · exact di2 e
      frame := fun i h₁ h₂ st hk => by
        obtain ⟨hTI, h1, h2, hz⟩ := st
        refine ⟨hk _ _ (Ne.symm dTI) hTI, d1.frame _ _ _ h1 fun b hb o e => hk _ o (fun q => df1 (q ▸ hb)) e, d2.frame _ _ _ h2 fun b hb o e => hk _ o (fun q => df2 (q ▸ hb)) e, ?_⟩
        rcases hz with ⟨hz, a, b, hTO⟩ | ⟨T, f, oT, hz, hT, r1, r2, r3, r4⟩
        · exact .inl ⟨hk _ _ (Ne.symm dz) hz, a, b, hk _ _ (Ne.symm dTO) hTO⟩
        · exact .inr ⟨T, f, oT, hk _ _ (Ne.symm dz) hz, hk _ _ r4 hT, r1, r2, r3, r4⟩
      item := fun i s₁ Q₁ E₁ hi st hds hQ => by
        obtain ⟨hTI, h1, h2, hz⟩ := st
        have hix : i < n1 := Nat.lt_of_lt_of_le hi (Nat.min_le_left ..)
        have hiy : i < n2 := Nat.lt_of_lt_of_le hi (Nat.min_le_right ..)
        have lt : ∀ {c o}, s₁.heap.get? c = some o → s₁.heap.objs.size ≠ c := fun e => Nat.ne_of_gt (Heap.lt_size e)
        have n1 : s₁.heap.objs.size ≠ i1 := let ⟨_, e⟩ := d1.live _ _ h1; lt e
        have n2 : s₁.heap.objs.size ≠ i2 := let ⟨_, e⟩ := d2.live _ _ h2; lt e
        rcases hz with ⟨hz, a, b, hTO⟩ | ⟨T, f, oT, hz, hT, r1, r2, r3, r4⟩
        · refine wpAny_pyNext_zipD2_item S d1 d2 hz hTI hTO h1 h2 hix hiy fun x1 x2 h' tk y1 y2 b1 b2 e1 e2 b5 b6 hk => ?_
          exact hQ s₁.heap.objs.size _ _ h' tk ⟨y1, y2⟩ (.inl ⟨_, b5, rfl, _, rfl⟩)
            ⟨hk _ _ S.TIz S.TITO S.TIi1 S.TIi2 hTI, e1, e2, .inr ⟨s₁.heap.objs.size, false, _, b1, b5, lt hz, n1, n2, Nat.ne_of_gt hds⟩⟩
            fun c o hc e => hk c o (fun x => hc (by simp [x])) (fun x => hc (by simp [x])) (fun x => hc (by simp [x])) (fun x => hc (by simp [x])) e
        · refine nextH_item S d1 d2 hz hT hTI h1 h2 hix hiy fun x1 x2 h' tk y1 y2 b1 e1 e2 b5 b6 hk => ?_
          exact hQ s₁.heap.objs.size _ _ h' tk ⟨y1, y2⟩ (.inl ⟨_, b5, rfl, _, rfl⟩)
            ⟨hk _ _ S.TIz S.TIi1 S.TIi2 hTI, e1, e2, .inr ⟨T, true, oT, b1, hk _ _ r1 r2 r3 hT, r1, r2, r3, r4⟩⟩
            fun c o hc e => hk c o (fun x => hc (by simp [x])) (fun x => hc (by simp [x])) (fun x => hc (by simp [x])) e
      done := fun s₁ Q₁ E₁ st hQ => by
        obtain ⟨hTI, h1, h2, hz⟩ := st
        have hend : min n1 n2 = n1 ∨ min n1 n2 = n2 := by omega
        rcases hz with ⟨hz, a, b, hTO⟩ | ⟨T, f, oT, hz, hT, r1, r2, r3, r4⟩
        · exact wpAny_pyNext_zipD2_end S d1 d2 hz hTI hTO h1 h2 (Nat.min_le_left ..) (Nat.min_le_right ..) hend fun h' tk hk => hQ h' tk fun c o hc e => hk c o (fun x => hc (by simp [x])) (fun x => hc (by simp [x])) (fun x => hc (by simp [x])) (fun x => hc (by simp [x])) e
        · exact nextH_end S d1 d2 hz hT hTI h1 h2 (Nat.min_le_left ..) (Nat.min_le_right ..) hend fun h' tk hk => hQ h' tk fun c o hc e => hk c o (fun x => hc (by simp [x])) (fun x => hc (by simp [x])) (fun x => hc (by simp [x])) e }
end
end HF

set_option Elab.async false
set_option linter.all false
set_option maxRecDepth 100000
set_option maxHeartbeats 4000000
set_option autoImplicit false
namespace HF
open PySem PySem.Spec PyProof.Rows L2
section
open PySem
/-- a list or a tuple as zip goes over it -/
structure Drw (prog : Program) (w : World) (a : Addr) (items : Array Value) (o : Obj) (Hh : Heap → Prop) (St : Addr → Nat → Heap → Prop) : Prop where
  B : Begins (.ref a) o Hh
  D : ∀ it, a ≠ it → ∀ A : Around, A.handled = none → Draws prog w A it [it, a] items.size (fun i v => items[i]? = some v) (St it)
  st : ∀ it h, h.get? it = some o → Hh h → St it 0 h
  th : ∀ it h, St it 0 h → ∀ b ∈ [it, a], ∃ o, h.get? b = some o
  lt : ∀ h, Hh h → a < h.objs.size
theorem drw_list {prog : Program} {w : World} (l : Addr) (items : Array Value) : Drw prog w l items { cls := .type "list_iterator", data := .fields #[.ref l, .int 0 0] } (fun h => h.IsList l items) (fun it i h => h.IsListIter it l i ∧ h.IsList l items) where
  B := begins_list l items
  D := fun it hne A hA => Draws.list hA it l hne items
  st := fun it h e hl => ⟨⟨_, e, rfl, rfl⟩, hl⟩
  th := fun it h ⟨⟨o, ho, _⟩, ⟨o2, ho2, _⟩⟩ b hb => by
    rcases List.mem_cons.mp hb with rfl | hb
    · exact ⟨o, ho⟩
    · rw [List.mem_singleton.mp hb]; exact ⟨o2, ho2⟩
  lt := fun h ⟨o, ho, _⟩ => Heap.lt_size ho
theorem drw_tup {prog : Program} {w : World} (l : Addr) (items : Array Value) : Drw prog w l items { cls := .type "tuple_iterator", data := .fields #[.ref l, .int 0 0] } (fun h => h.IsTuple l items) (fun it i h => h.IsTupleIter it l i ∧ h.IsTuple l items) where
  B := begins_tuple l items
  D := fun it hne A hA => Draws.tuple hA it l hne items
  st := fun it h e hl => ⟨⟨_, e, rfl, rfl⟩, hl⟩
  th := fun it h ⟨⟨o, ho, _⟩, ⟨o2, ho2, _⟩⟩ b hb => by
    rcases List.mem_cons.mp hb with rfl | hb
    · exact ⟨o, ho⟩
    · rw [List.mem_singleton.mp hb]; exact ⟨o2, ho2⟩
  lt := fun h ⟨o, ho, _⟩ => Heap.lt_size ho
def SqA (K : PySem.W.Frag) (H : Hp) (a : Addr) (xs : List V) : Prop := SqL K H a xs ∨ SqT K H a xs
theorem drw_of {X : Cx} {pins : List (Addr × Obj)} {σ : L2.St} {H : Hp} {s : Shared} (I : L2.Inv X pins σ H s) {a : Addr} {xs : List V} (h : SqA X.K H a xs) : ∃ its o Hh St, Vals xs its ∧ Drw X.prog X.w a its.toArray o Hh St ∧ Hh s.heap ∧ xs.length ≤ sizeLine := by
  rcases h with h | h
  · obtain ⟨its, rv, p, hz⟩ := I.list h
    exact ⟨its, _, _, _, rv, drw_list a its.toArray, p.isList, hz⟩
  · obtain ⟨its, rv, p, hz⟩ := I.tuple h
    exact ⟨its, _, _, _, rv, drw_tup a its.toArray, p, hz⟩
def rDZip (K : PySem.W.Frag) : List V → Hp → VK → Prop := fun xs H Q => ∃ (a b : Addr) (ks : List Key) (ys : List V), xs = [.ref a, .ref b] ∧ SqA K H a (ks.map kV) ∧ SqA K H b ys ∧ ks.length = ys.length ∧ ks.Nodup ∧ ∀ p, H p = none → Q (.ref p) (upd H p (.dK (ks.zip ys)))
theorem kv_zip : ∀ {ks : List Key} {ys : List V} {us : List Value}, Vals ys us → KV (ks.zip ys) (ks.zip us)
  | [], _, _, _ => .nil
  | _ :: _, _, _, .nil => .nil
  | k :: ks, _, _, .cons h t => .cons ⟨rfl, h⟩ (kv_zip t)
theorem zip_keys : ∀ {ks : List Key} {ys : List V}, ks.length = ys.length → (ks.zip ys).map (·.1) = ks
  | [], [], _ => rfl
  | k :: ks, y :: ys, h => by rw [List.zip_cons_cons, List.map_cons, zip_keys (by simpa using h)]
theorem pe_dictZip {X : Cx} {e e2 : Expr} {ta : TA} {p p2 pos pos2 : Pos} (hc : X.calm = true) (hg : Gl X "dict") (hm : X.mg "dict" = none) (hg2 : Gl X "zip") (hm2 : X.mg "zip" = none) (ha : PA X [e, e2] ta)
    (hs : starEach [e, e2] X.env = (false, eval e X.env) :: starEach [e2] X.env := by rfl) (hpl : (backTo pos2 (starEach [e2] X.env)).any (·.1) = false := by rfl)
    (hs2 : starEach [.Call (.Name "zip" p2) [e, e2] [] pos2] X.env = (false, eval (.Call (.Name "zip" p2) [e, e2] [] pos2) X.env) :: starEach [] X.env := by rfl) :
    PE X (.Call (.Name "dict" p) [.Call (.Name "zip" p2) [e, e2] [] pos2] [] pos) (tCB (rDZip X.K) ta) := by
  refine ⟨fun pins s σ H Q I h => ?_⟩
  refine Call_ (ld_blt I hg hm PyProof.Rows.boot_dict (PyProof.Rows.callWith_type1 (args_cons (Call_ (ld_blt I hg2 hm2 PyProof.Rows.boot_zip (PyProof.Rows.callWith_type1 (thn (ha.run pos2 pins s σ H _ I h) fun us s1 ⟨vs, H1, I1, r1, q1⟩ => ?_) hs hpl))) hs2) hs2 rfl))
  obtain ⟨a, b, ks, ys, ex, hqx, hqy, hl, nd, q⟩ := q1
  subst ex
  cases r1 with
  | cons r rr =>
    cases rr with
    | cons r' rr =>
      cases rr
      cases r
      cases r'
      obtain ⟨its, o1, H1', St1, rv1, D1, g1, z1⟩ := drw_of I1 hqx
      obtain ⟨its2, o2, H2', St2, rv2, D2, g2, z2⟩ := drw_of I1 hqy
      refine zip_begins2 D1.B D2.B g1 g2 fun h' hz hTI hTO e1 e2 hsz hk => args_nil ?_
      have la := D1.lt _ g1
      have lb := D2.lt _ g2
      have na : a ≠ s1.heap.objs.size := Nat.ne_of_lt la
      have nb : b ≠ s1.heap.objs.size + 1 := Nat.ne_of_lt (Nat.lt_succ_of_lt lb)
      have sep := zip_sep2 (N := s1.heap.objs.size) (fp1 := [a]) (fp2 := [b]) (by simpa using la) (by simpa using lb)
      have P := pairZip (prog := X.prog) (w := X.w) sep (D1.D _ na) (D2.D _ nb) (D1.th _) (D2.th _)
      have hn1 : its.toArray.size = ks.length := by rw [List.size_toArray, ← rv1.length, List.length_map]
      have hn2 : its2.toArray.size = ks.length := by rw [List.size_toArray, ← rv2.length, hl]
      refine PySem.call_dict_pairs (s := { s1 with heap := h' }) (knd := mixKind X.prog X.w) (kvs := ks.zip its2) P (I1.ok.hd hc) ⟨hz, hTI, ⟨_, _, hTO⟩, D1.st _ _ e1 (D1.B.keeps _ _ g1 hk), D2.st _ _ e2 (D2.B.keeps _ _ g2 hk)⟩ ⟨?_, fun i key v hr => ?_⟩ ?_ fun h2 tk hd hk2 => ?_
      · rw [List.length_zip, hn1, hn2, ← rv2.length, hl]
      · obtain ⟨hr1, hr2⟩ := hr
        have hi : i < ks.length := by rw [← hn1]; exact (Array.getElem?_eq_some_iff.mp hr1).1
        have ek : (ks.map kV)[i]? = some (kV ks[i]) := by simp [hi]
        obtain ⟨u, eu, ru⟩ := Vals.get rv1 ek
        have : u = key := by
          rw [List.getElem?_toArray, eu] at hr1
          exact Option.some.inj hr1
        subst this
        rw [List.getElem?_toArray] at hr2
        exact ⟨ks[i], List.getElem?_zip_eq_some.mpr ⟨List.getElem?_eq_getElem hi, hr2⟩, kV_is (P := X.prog) (w := X.w) ru⟩
      · rw [hn1, hn2, Nat.min_self]
        simpa using z1
      · have hle : s1.heap.objs.size ≤ h'.objs.size := by rw [hsz]; exact Nat.le_add_right _ _
        have kept : ∀ c o, s1.heap.get? c = some o → h2.get? c = some o := fun c o ec => by
          have hc : c < s1.heap.objs.size := Heap.lt_size ec
          refine hk2 c o (fun m => ?_) (hk c o ec)
          have m' : c = s1.heap.objs.size + 4 ∨ c = s1.heap.objs.size + 3 ∨ c = s1.heap.objs.size ∨ c = s1.heap.objs.size + 1 := by simpa using m
          rcases m' with z | z | z | z
          · exact absurd hc (by rw [z]; exact Nat.not_lt.mpr (Nat.le_add_right _ _))
          · exact absurd hc (by rw [z]; exact Nat.not_lt.mpr (Nat.le_add_right _ _))
          · exact absurd hc (by rw [z]; exact Nat.lt_irrefl _)
          · exact absurd hc (by rw [z]; exact Nat.not_lt.mpr (Nat.le_add_right _ _))
        have hm : (h'.objs.size == sysModules) = false := beq_eq_false_iff_ne.mpr (Nat.ne_of_gt (Nat.lt_of_lt_of_le I1.big hle))
        have em : mergeK [] (ks.zip ys) = ks.zip ys := by
          rw [mergeK_nd _ [] (by rw [List.nil_append, zip_keys hl]; exact nd), List.nil_append]
        have kv := KV.merge (kv_zip (ks := ks) rv2) (.nil : KV ([] : List (Key × V)) [])
        rw [em] at kv
        have hlen : (ks.zip ys).length ≤ sizeLine := by rw [List.length_zip, hl, Nat.min_self]; exact z2
        exact ⟨.ref h'.objs.size, upd H1 h'.objs.size (.dK (ks.zip ys)), I1.laid (t' := tk) kept hle (show ObjOk X.prog X.w _ _ _ (.dK (ks.zip ys)) from ⟨hlen, hm, _, kv, hd⟩), rfl, q _ (I1.hok.fresh hle)⟩
end
end HF

set_option Elab.async false
set_option linter.all false
set_option maxRecDepth 100000
set_option maxHeartbeats 4000000
set_option autoImplicit false
namespace HF
open PySem PySem.Spec PyProof.Rows L2
@[simp] def seq2D : D → Option (List D)
  | .lst ds => some ds
  | .tup ds => some ds
  | _ => none
@[simp] def keysD : List D → Option (List Key)
  | [] => some []
  | d :: r => (match d.key, keysD r with
    | some k, some ks => some (k :: ks)
    | _, _ => none)
@[simp] def dzipG : List D → Gr
  | [x, y] => (match seq2D x, seq2D y with
    | some xs, some ys => (match keysD xs with
      | some ks => if decide (ks.length = ys.length) then (if decide ks.Nodup then .fr (.dct ks ys) else .stk) else .stk
      | none => .stk)
    | _, _ => .stk)
  | _ => .stk
theorem rd_seq2 {K : PySem.W.Frag} {H G : Hp} {d : D} {x : V} {ds : List D} (s : Same G H) (h : RdAt K H G d x) (e : seq2D d = some ds) : ∃ a xs, x = .ref a ∧ SqA K H a xs ∧ RpL K G ds xs := by
  cases d with
  | lst l =>
    cases e
    obtain ⟨p, xs, rfl, hp, r⟩ := h.lst s
    exact ⟨p, xs, rfl, .inl (SqL.of hp), r⟩
  | tup l =>
    cases e
    obtain ⟨p, xs, rfl, hp, r⟩ := h.tup s
    exact ⟨p, xs, rfl, .inr hp, r⟩
  | _ => cases e
theorem keys_kV {K : PySem.W.Frag} {G : Hp} : ∀ {ds : List D} {xs : List V} {ks : List Key}, keysD ds = some ks → RpL K G ds xs → xs = ks.map kV
  | [], xs, ks, e, r => by
    cases e
    exact r
  | d :: ds, xs, ks, e, r => by
    obtain ⟨x, t, rfl, rx, rt⟩ := r
    simp only [keysD] at e
    cases e1 : d.key with
    | none => rw [e1] at e; cases e
    | some k =>
      cases e2 : keysD ds with
      | none => rw [e1, e2] at e; cases e
      | some ks' =>
        rw [e1, e2] at e
        cases e
        rw [List.map_cons, D.key_kV e1 rx, keys_kV e2 rt]
theorem zip_vals : ∀ {ks : List Key} {ys : List V}, ks.length = ys.length → (ks.zip ys).map (·.2) = ys
  | [], [], _ => rfl
  | k :: ks, y :: ys, h => by rw [List.zip_cons_cons, List.map_cons, zip_vals (by simpa using h)]
theorem snd_dzip {K : PySem.W.Frag} : ClSound K dzipG (rDZip K) := by
  intro H G xs ds Q s r h
  match ds, r, h with
  | [d, e], r, h =>
    obtain ⟨x, t, rfl, rx, y, t', rfl, ry, rfl⟩ := r
    simp only [dzipG] at h
    cases e1 : seq2D d with
    | none => rw [e1] at h; exact h.elim
    | some us =>
      cases e2 : seq2D e with
      | none => rw [e1, e2] at h; exact h.elim
      | some ys =>
        rw [e1, e2] at h
        dsimp only at h
        cases e3 : keysD us with
        | none => rw [e3] at h; exact h.elim
        | some ks =>
          rw [e3] at h
          obtain ⟨c1, h⟩ := GrPost.condD h
          obtain ⟨c2, h⟩ := GrPost.condD h
          obtain ⟨a, vs, rfl, ha, ra⟩ := rd_seq2 s rx e1
          obtain ⟨b, ws, rfl, hb, rb⟩ := rd_seq2 s ry e2
          have ev := keys_kV e3 ra
          subst ev
          have hl : ks.length = ws.length := by rw [c1, rb.length]
          refine ⟨a, b, ks, ws, rfl, ha, hb, hl, c2, fun p hp => ?_⟩
          refine h.newK s (zip_keys hl) ?_ hp
          have := zip_vals hl
          rw [this]
          exact rb
  | [], _, h => exact h.elim
  | [_], _, h => exact h.elim
  | _ :: _ :: _ :: _, _, h => exact h.elim
section
variable {X : Cx} {W : WX}
theorem ex_dictZip {e e2 : Expr} {Fs : FxL} {p p2 pos pos2 : Pos} (hc : X.calm = true) (hm : X.mg "dict" = none) (hm2 : X.mg "zip" = none) (ha : AX X W [e, e2] Fs) (hg : Gl X "dict" := by rfl) (hg2 : Gl X "zip" := by rfl)
    (hs : starEach [e, e2] X.env = (false, eval e X.env) :: starEach [e2] X.env := by rfl) (hpl : (backTo pos2 (starEach [e2] X.env)).any (·.1) = false := by rfl)
    (hs2 : starEach [.Call (.Name "zip" p2) [e, e2] [] pos2] X.env = (false, eval (.Call (.Name "zip" p2) [e, e2] [] pos2) X.env) :: starEach [] X.env := by rfl) :
    EX X W (.Call (.Name "dict" p) [.Call (.Name "zip" p2) [e, e2] [] pos2] [] pos) (blF dzipG Fs) :=
  PE.weak (pe_dictZip hc hg hm hg2 hm2 ha hs hpl hs2) (tCB_of snd_dzip)
end
end HF

set_option Elab.async false
set_option linter.all false
set_option maxRecDepth 100000
set_option maxHeartbeats 4000000
set_option autoImplicit false
namespace HF
open PySem PySem.Spec PyProof.Rows L2
section
open PySem RT
variable {prog : Program} {w : World} {A : Around} {E : Value → Shared → Prop} {s : Shared}
/-- list(reversed(a list)) -/
theorem init_rev {R : Result → Shared → Prop} {S it l : Addr} {items : Array Value} (hh : A.in1.handled = none) (hit : s.heap.IsRevIter it l ((items.size : Int) - 1)) (hl : s.heap.IsList l items) (hne : l ≠ it) (hn : items.size ≤ sizeLine) (hSi : S ≠ it) (hSl : S ≠ l)
    (hS : s.heap.get? S = some { cls := .type "list", data := .seq #[] })
    (hR : ∀ (h' : Heap) (tk : Nat) (acc : Array Value) (c' : Nat), (∀ b o, b ≠ it → b ≠ S → s.heap.get? b = some o → h'.get? b = some o) → h'.get? S = some { cls := .type "list", dict := none, data := .seq acc c', slots := #[] } → ItemsOf (fun i v => items[items.size - 1 - i]? = some v) acc items.size → R (.ok (.ret .none)) { s with heap := h', toks := tk }) :
    wpAny (model prog w) A.in1 (Builtin.«list.__init__» ⟨[.ref S, .ref it], []⟩)
      (fun fin s' => match fin with | .done f => R (.ok f) s' | .again c' => c'.quiet = true ∧ codeAny (model prog w) A c' R s') (fun e s' => R (.error e) s') s := by
  have W := (Walks.listRev (prog := prog) (w := w) (A := A.in1) hh it l hne items).toS
  have hSf : S ∉ [it, l] := by simp only [List.mem_cons, List.not_mem_nil, or_false, not_or]; exact ⟨hSi, hSl⟩
  show wpAny _ A.in1 (do let old ← Builtin.List.listItems (.ref S); Builtin.List.listUpdate (.ref S) (fun _ => #[]); letGo old.toList.reverse; Builtin.List.listExtendWith (.ref S) (.ref it) .none) _ _ s
  refine wpAny_bind ?_
  unfold Builtin.List.listItems
  refine wpAny_bind (wpAny_seqItems hS rfl (wpAny_pure ?_))
  show wpAny _ A.in1 (updateSeq S (fun _ => #[]) >>= fun _ => letGo (#[] : Array Value).toList.reverse >>= fun _ => Builtin.List.listExtendWith (.ref S) (.ref it) .none) _ _ s
  refine wpAny_bind (wpAny_updateSeq hS rfl ?_)
  have hS₂ := Heap.get?_update_self (Obj.mapSeq (fun _ => (#[] : Array Value))) hS rfl
  have oth : ∀ b o, b ≠ S → s.heap.get? b = some o → (s.heap.update S (Obj.mapSeq (fun _ => (#[] : Array Value)))).get? b = some o :=
    fun b o hb e => (Heap.get?_update_other _ _ (Ne.symm hb)).trans e
  refine wpAny_bind (wpAny_letGo ?_)
  have hit1 : (s.heap.update S (Obj.mapSeq (fun _ => (#[] : Array Value)))).IsRevIter it l ((items.size : Int) - 1) := hit.at fun o e => oth _ o (Ne.symm hSi) e
  have hl1 : (s.heap.update S (Obj.mapSeq (fun _ => (#[] : Array Value)))).IsList l items := hl.at fun o e => oth _ o (Ne.symm hSl) e
  have hT : ({ s with heap := s.heap.update S (Obj.mapSeq (fun _ => (#[] : Array Value))) } : Shared).TypeIs (.ref it) "list_reverseiterator" := Heap.IsRevIter.typeIs (s := { s with heap := s.heap.update S (Obj.mapSeq (fun _ => (#[] : Array Value))) }) hit1
  have h1 : Builtin.List.listSameRef (.ref S) (.ref it) = false := by simp [Builtin.List.listSameRef, hSi]
  unfold Builtin.List.listExtendWith
  refine wpAny_bind (wpAny_typeOf hT ?_)
  rw [if_neg (by rw [h1]; decide)]
  refine wpAny_bind (wpAny_pyIter_revIter (s := { s with heap := s.heap.update S (Obj.mapSeq (fun _ => (#[] : Array Value))) }) hit1 ?_)
  refine wpAny_bind (wpAny_holding ?_)
  unfold Builtin.List.listLengthHint
  refine wpAny_bind (wpAny_specialOf hT nolen_lri ?_)
  show wpAny _ A.in1 (specialOf (Value.ref it) (Str.ofString "__length_hint__") >>= _) _ _ _
  refine wpAny_bind (wpAny_specialOf hT hint_lri ?_)
  generalize hid : ("list_reverseiterator.__length_hint__" : String) = id0
  wp_delta
  rw [show splitId id0 = some ("list_reverseiterator", "__length_hint__") from by subst hid; decide +kernel]
  subst hid
  refine wpAny_bind (wpAny_isInstance (b := true) hT (by rw [isSubtype_type]; kernel_rfl) ?_)
  refine wpAny_pure ?_
  rw [if_neg (by decide)]
  have e0 : ((items.size : Nat) : Int) - 1 - ((0 : Nat) : Int) = (items.size : Int) - 1 := by omega
  refine wpAny_pure ⟨plainId_quiet F.plain_extend_loop _, codeAny_extend_loopS W hn _ hSf _ items.size 0 _ _ _ rfl (Nat.zero_le _) ⟨Nat.zero_le _, by rw [e0]; exact hit1, hl1⟩ hS₂ (ItemsOf.nil _) fun s' acc' c' hm hS' hacc => ?_⟩
  rw [Moved.eq_with hm]
  refine hR s'.heap s'.toks acc' c' (fun b o hb hbS e => hm.heap b o (fun hmem => ?_) (oth b o hbS e)) hS' hacc
  rcases List.mem_cons.mp hmem with e' | hmem
  · exact hbS e'
  · exact hb (List.mem_singleton.mp hmem)
theorem call_listRev {it l : Addr} {items : Array Value} {Q : Value → Shared → Prop} (hh : A.handled = none) (hit : s.heap.IsRevIter it l ((items.size : Int) - 1)) (hl : s.heap.IsList l items) (hne : l ≠ it) (hn : items.size ≤ sizeLine)
    (hQ : ∀ (h' : Heap) (tk : Nat) (acc : Array Value) (c' : Nat), (∀ b o, b ≠ it → s.heap.get? b = some o → h'.get? b = some o) → h'.get? s.heap.objs.size = some { cls := .type "list", dict := none, data := .seq acc c', slots := #[] } → ItemsOf (fun i v => items[items.size - 1 - i]? = some v) acc items.size → Q (.ref s.heap.objs.size) { s with heap := h', toks := tk }) :
    wpAny (model prog w) A (call (.type "list") [.ref it]) Q E s := by
  obtain ⟨oi, hoi, _⟩ := id hit
  obtain ⟨ol, hol, _⟩ := id hl
  have hSi : s.heap.objs.size ≠ it := Nat.ne_of_gt (Heap.lt_size hoi)
  have hSl : s.heap.objs.size ≠ l := Nat.ne_of_gt (Heap.lt_size hol)
  refine callType_codes (Q₁ := fun obj s₁ => obj = .ref s.heap.objs.size ∧ s₁ = { s with heap := s.heap.push { cls := .type "list", data := .seq #[] } }) F.called_list (F.typeCall_list_1 _) F.entry_list_init
    (code_list_new _ ⟨rfl, rfl⟩) fun obj s₁ h₁ => ?_
  obtain ⟨rfl, rfl⟩ := h₁
  have hS : (s.heap.push { cls := .type "list", data := .seq #[] }).get? s.heap.objs.size = some { cls := .type "list", data := .seq #[] } := Heap.get?_push_size _ rfl
  have up : ∀ b o, s.heap.get? b = some o → (s.heap.push { cls := .type "list", data := .seq #[] }).get? b = some o := fun b o e => Heap.get?_push_of_some _ e
  refine ⟨⟨_, hS, rfl⟩, F.args_list_init_2 _ _, init_rev (A := A.in1) (s := { s with heap := s.heap.push { cls := .type "list", data := .seq #[] } }) hh (hit.at fun o e => up _ o e) (hl.push _) hne hn hSi hSl hS fun h' tk acc c' hk hS' hacc => ?_⟩
  exact ⟨rfl, hQ h' tk acc c' (fun b o hb e => hk b o hb (Nat.ne_of_lt (Heap.lt_size e)) (up _ o e)) hS' hacc⟩
end
/-- list(reversed(x)), x a list: a new list -/
def tLstRev (K : PySem.W.Frag) (te : TE) : TE := fun σ H Q => te σ H fun v H1 => ∃ (a : Addr) (xs : List V), v = .ref a ∧ SqL K H1 a xs ∧ ∀ q, H1 q = none → Q (.ref q) (upd H1 q (.lst xs.reverse))
section
open PySem RT
variable {X : Cx}
theorem pe_lstRev {e : Expr} {te : TE} {p p2 pos pos2 : Pos} (hc : X.calm = true) (hg : Gl X "list") (hm : X.mg "list" = none) (hg2 : Gl X "reversed") (hm2 : X.mg "reversed" = none) (he : PE X e te)
    (hs : starEach [e] X.env = (false, eval e X.env) :: starEach [] X.env := by rfl)
    (hs2 : starEach [.Call (.Name "reversed" p2) [e] [] pos2] X.env = (false, eval (.Call (.Name "reversed" p2) [e] [] pos2) X.env) :: starEach [] X.env := by rfl) :
    PE X (.Call (.Name "list" p) [.Call (.Name "reversed" p2) [e] [] pos2] [] pos) (tLstRev X.K te) := by
  refine ⟨fun pins s σ H Q I h => ?_⟩
  refine Call_ (ld_blt I hg hm PyProof.Rows.boot_list (PyProof.Rows.callWith_type1 (args_cons (Call_ (ld_blt I hg2 hm2 PyProof.Rows.boot_reversed (PyProof.Rows.callWith_type1 (args_cons (thn (he.run pins s σ H _ I h) fun u s1 ⟨v, H1, I1, r1, q1⟩ => args_nil ?_) hs) hs rfl))) hs2) hs2 rfl))
  obtain ⟨a, xs, ev, hq, q⟩ := q1
  subst ev
  obtain rfl : u = Value.ref a := r1
  obtain ⟨its, rv, p', hz⟩ := I1.list hq
  refine call_reversed_list p'.isList (args_nil ?_)
  have k0 : ∀ b o, s1.heap.get? b = some o → (s1.heap.push (revObj a ((its.toArray.size : Int) - 1))).get? b = some o := fun b o e => Heap.get?_push_of_some _ e
  have hl := p'.isList
  obtain ⟨ol, hol, _⟩ := id hl
  have hne : a ≠ s1.heap.objs.size := Nat.ne_of_lt (Heap.lt_size hol)
  have hn : its.toArray.size ≤ sizeLine := by rw [List.size_toArray, ← rv.length]; exact hz
  refine call_listRev (s := { s1 with heap := s1.heap.push (revObj a ((its.toArray.size : Int) - 1)) }) (I1.ok.hd hc) ⟨_, Heap.get?_push_size _ rfl, rfl, rfl⟩ (hl.push _) hne hn fun h' tk acc c' hk hS hi => ?_
  have hle : s1.heap.objs.size ≤ (s1.heap.push (revObj a ((its.toArray.size : Int) - 1))).objs.size := by rw [Heap.size_push]; exact Nat.le_add_right _ _
  have kept : ∀ c o, s1.heap.get? c = some o → h'.get? c = some o := fun c o ec => hk c o (Nat.ne_of_lt (Heap.lt_size ec)) (k0 _ _ ec)
  exact ⟨.ref (s1.heap.push (revObj a ((its.toArray.size : Int) - 1))).objs.size, upd H1 (s1.heap.push (revObj a ((its.toArray.size : Int) - 1))).objs.size (.lst xs.reverse), I1.laid (t' := tk) kept hle (show ObjOk X.prog X.w _ _ _ (.lst xs.reverse) from ⟨by rw [List.length_reverse]; exact hz, acc.toList, c', vals_rev rv hi, by rw [Array.toArray_toList]; exact hS⟩), rfl, q _ (I1.hok.fresh hle)⟩
end
/-- x reversed, new -/
@[simp] def lrevG : D → Gr
  | .lst ds => .fr (.lst ds.reverse)
  | _ => .stk
@[simp] def un1F (g : D → Gr) (F : Fx) (env : List Sl) : Rs := bindR (F env) fun v e => match v.rd e with
  | some d => (g d).rs e
  | none => .stk
theorem rpl_rev {K : PySem.W.Frag} {G : Hp} {ds : List D} {xs : List V} (h : RpL K G ds xs) : RpL K G ds.reverse xs.reverse := by
  induction ds generalizing xs with
  | nil => rw [show xs = [] from h]; rfl
  | cons d ds ih =>
    obtain ⟨x, r, rfl, hx, hr⟩ := h
    rw [List.reverse_cons, List.reverse_cons]
    exact RpL.append (ih hr) ⟨x, [], rfl, hx, rfl⟩
section
variable {X : Cx} {W : WX}
theorem ex_lstRev {e : Expr} {F : Fx} {p p2 pos pos2 : Pos} (hc : X.calm = true) (hm : X.mg "list" = none) (hm2 : X.mg "reversed" = none) (he : EX X W e F) (hg : Gl X "list" := by rfl) (hg2 : Gl X "reversed" := by rfl)
    (hs : starEach [e] X.env = (false, eval e X.env) :: starEach [] X.env := by rfl)
    (hs2 : starEach [.Call (.Name "reversed" p2) [e] [] pos2] X.env = (false, eval (.Call (.Name "reversed" p2) [e] [] pos2) X.env) :: starEach [] X.env := by rfl) :
    EX X W (.Call (.Name "list" p) [.Call (.Name "reversed" p2) [e] [] pos2] [] pos) (un1F lrevG F) := by
  refine PE.weak (pe_lstRev hc hg hm hg2 hm2 he hs hs2) fun σ H Q ⟨G, env, re, h⟩ => ?_
  refine tD_bind re h fun vl e1 v H1 G1 s1 v1 p1 => ?_
  have p2 := PostR.shift s1 re p1
  cases e2 : vl.rd e1 with
  | none => simp only [e2] at p2; exact p2.elim
  | some d =>
    simp only [e2] at p2
    have h2 := GrPost.of s1.er p2
    have hr := v1.read s1.er e2
    cases d with
    | lst ds =>
      obtain ⟨a, xs, rfl, hp, r⟩ := hr.lst s1.er.sub
      exact ⟨a, xs, rfl, SqL.of hp, fun q hq => GrPost.newL s1.er.sub h2 (rpl_rev r) hq⟩
    | _ => exact h2.elim
end
end HF

set_option Elab.async false
set_option linter.all false
set_option maxRecDepth 100000
set_option maxHeartbeats 4000000
set_option autoImplicit false
namespace HF
open PySem PySem.Spec PyProof.Rows L2
/-! ### what is told is frozen at once; a new list lent to be changed -/
@[simp] def imF (F : Fx) (env : List Sl) : Rs := bindR (F env) fun v e => match v.toIm with
  | some d => .ok (.im d) e
  | none => .stk
theorem ex_im {X : Cx} {W : WX} {e : Expr} {F : Fx} (he : EX X W e F) : EX X W e (imF F) := by
  refine PE.weak he fun σ H Q ⟨G, env, re, h⟩ => ?_
  refine tD_bind re h fun vl e1 v H1 G1 s1 v1 p1 => ?_
  cases e2 : vl.toIm with
  | none => simp only [e2] at p1; exact p1.elim
  | some d =>
    simp only [e2] at p1
    obtain ⟨G2, s2, _, _, q⟩ := v1.imm s1 re e2
    exact p1 v H1 G2 s2 q
@[simp] def convL : List Vl → Option (List Ar)
  | [] => none
  | .fr d :: [] => some [.io d]
  | .im d :: ls => (match convL ls with
    | some as => some (.val d :: as)
    | none => none)
  | _ => none
@[simp] def callW (Φ : List Ar → FR) (vls : List Vl) (e : List Sl) : Rs := match convL vls with
  | some as => (match Φ as with
    | .im d _ => .ok (.im d) e
    | .fr d _ => .ok (.fr d) e
    | .err c => .err c none
    | .stk => .stk)
  | none => .stk
@[simp] def callWF (n : Nat) (Φ : List Ar → FR) (Fs : FxL) (env : List Sl) : Rs := bindL (Fs env) fun vls e => if decide (vls.length = n) then callW Φ vls e else .stk
section
variable {K : PySem.W.Frag} {σ : L2.St} {H0 H G : Hp} {env : List Sl}
/-- the one lent: at the end, new -/
theorem convL_at : ∀ {vls : List Vl} {vs : List V} {as : List Ar}, VlsAt K H0 H G σ env vls vs → convL vls = some as →
    vs.length = as.length ∧ ArsAt K H G as vs ∧ ∃ p, H0 p = none ∧ G p = none ∧ (∀ b, IoP as vs b → b = p) ∧ (∀ (j : Nat) (d : D), as[j]? = some (.io d) → j + 1 = as.length)
  | [], vs, as, h, e => by cases e
  | .fr d :: [], vs, as, h, e => by
    cases e
    obtain ⟨x, r, rfl, ⟨p, rfl, h1, h2, h3⟩, h4⟩ := h
    rw [show r = [] from h4]
    refine ⟨rfl, ⟨_, [], rfl, ⟨p, rfl, h2, h3⟩, rfl⟩, p, h1, h2, fun b ⟨j, d', e1, e2⟩ => ?_, fun j d' e1 => ?_⟩
    · cases j with
      | zero =>
        have e2 : some (V.ref p) = some (.ref b) := e2
        cases e2
        rfl
      | succ j => simp at e1
    · cases j with
      | zero => rfl
      | succ j => simp at e1
  | .fr d :: _ :: _, vs, as, h, e => by cases e
  | .bo i :: _, vs, as, h, e => by cases e
  | .im d :: ls, vs, as, h, e => by
    simp only [convL] at e
    cases e1 : convL ls with
    | none => rw [e1] at e; cases e
    | some as' =>
      rw [e1] at e
      cases e
      obtain ⟨x, r, rfl, h1, h2⟩ := h
      obtain ⟨l, a, p, p1, p2, p3, p4⟩ := convL_at h2 e1
      refine ⟨by simp [l], ⟨x, r, rfl, h1, a⟩, p, p1, p2, fun b ⟨j, d', e1, e2⟩ => ?_, fun j d' e1 => ?_⟩
      · cases j with
        | zero => cases e1
        | succ j => exact p3 b ⟨j, d', by simpa using e1, by simpa using e2⟩
      · cases j with
        | zero => cases e1
        | succ j =>
          have := p4 j d' (by simpa using e1)
          simp; omega
end
section
variable {X : Cx} {W : WX} {x : Str} {k k' n : Nat} {Φ : List Ar → FR} {p pos : Pos} {e : Expr} {es : List Expr} {Fs : FxL}
theorem callW_of {H G : Hp} {σ : L2.St} {env : List Sl} {vls : List Vl} {vs : List V} {H1 G1 : Hp} {env1 : List Sl} {Q : VK} (r : ER X.K H G σ env) (s1 : Stp X.K σ H G env H1 G1 env1) (v1 : VlsAt X.K H H1 G1 σ env1 vls vs)
    (h : PostR X.K X.mg W σ H G env Q (callW Φ vls env1)) (hn : vls.length = n) : spD X.K X.mg n Φ vs H1 Q (WE W σ) := by
  unfold callW at h
  cases ec : convL vls with
  | none => rw [ec] at h; exact h.elim
  | some as =>
    rw [ec] at h
    simp only at h
    obtain ⟨l, a, p, p1, p2, p3, p4⟩ := convL_at v1 ec
    have lv : vs.length = vls.length := by
      have z : ∀ {ls : List Vl} {us : List V}, VlsAt X.K H H1 G1 σ env1 ls us → us.length = ls.length := by
        intro ls
        induction ls with
        | nil => intro us h; rw [show us = [] from h]; rfl
        | cons l ls ih =>
          intro us h
          obtain ⟨x, t, rfl, _, h2⟩ := h
          rw [List.length_cons, List.length_cons, ih h2]
      exact z v1
    have step : ∀ {H' G' : Hp} {as' : List Ar}, CStp X.K as vs H1 G1 H' G' as' → Stp X.K σ H G env H' G' env1 := fun {H' G' as'} c => by
      have mu_ne : ∀ b, MuIs σ env1 b → b ≠ p := fun b m e => by
        have := MuIs.old r (m.of s1.kin)
        rw [e] at this
        exact this p1
      refine ⟨⟨s1.er.len, c.gh, fun i d e => ?_, fun i s d e1 e2 => ?_, s1.er.sep⟩, s1.gr.trans c.gr, fun b h1 h2 => ?_, fun b o e m => ?_, s1.kin⟩
      · obtain ⟨v, w1, w2⟩ := s1.er.val i d e
        exact ⟨v, w1, Rp.mono c.gr d v w2⟩
      · obtain ⟨q, w1, w2, w3⟩ := s1.er.mu i s d e1 e2
        refine ⟨q, w1, c.old q w3.there w2, w3.mono ?_ c.gr⟩
        cases z : H1 q with
        | none => exact absurd z w3.there
        | some o => exact c.keep q o z fun hio => mu_ne q ⟨i, s, d, e1, e2, w1⟩ (p3 q hio)
      · have g1 := s1.old b h1 h2
        exact c.old b (fun z => h1 (s1.free r z)) g1
      · refine c.keep b o (s1.keep b o e m) fun hio => ?_
        rw [p3 b hio, p1] at e
        cases e
    refine ⟨G1, as, by rw [← l, lv, hn], ⟨s1.er.sub, a, fun i j d e q h1 h2 h3 h4 => ?_⟩, ?_⟩
    · have := p4 i d h1
      have := p4 j e h2
      omega
    · cases ef : Φ as with
      | stk => rw [ef] at h; exact h.elim
      | im d as' =>
        rw [ef] at h
        intro v H' G' c hv
        exact h v H' G' (step c) hv
      | fr d as' =>
        rw [ef] at h
        intro q H' G' c h1 h2 h3
        exact h _ H' G' (step c) ⟨q, rfl, s1.free r h1, h2, h3⟩
      | err c =>
        rw [ef] at h
        intro C H' m ke
        refine h C H' m ?_
        intro b o e n
        refine ke b o (s1.keep b o e n) fun z => ?_
        rw [p3 b z, p1] at e
        cases e
theorem ex_callW (c : Cal X.prog X.w X.K X.mg X.base k x n Φ) (hr : Room k' X.A) (hk : k ≤ k') (tk : L2N.Takes X W) (ha : AX X W (e :: es) Fs) (hg : Gl X x := by rfl) (hdb : (x == ("__debug__" : Str)) = false := by decide) (he : starEach (e :: es) X.env = (false, eval e X.env) :: starEach es X.env := by rfl) (hpl : (backTo pos (starEach es X.env)).any (·.1) = false := by rfl) :
    EX X W (.Call (.Name x p) (e :: es) [] pos) (callWF n Φ Fs) := by
  obtain ⟨f, fd, ps, F, gm, gk, gb⟩ := c
  refine PE.weak (pe_callS F (hr.mono hk) hg gm gk gb (fun σ => L2N.passAt tk σ) ha hdb he hpl) fun σ H Q ⟨G, env, r, h⟩ => ?_
  refine tDA_bind r h fun vls e1 vs H1 G1 s1 v1 p1 => ?_
  split at p1
  · rename_i hl
    exact callW_of r s1 v1 p1 (of_decide_eq_true hl)
  · exact p1.elim
end
end HF

set_option Elab.async false
set_option linter.all false
set_option maxRecDepth 100000
set_option maxHeartbeats 4000000
set_option autoImplicit false
namespace HF
open PySem PySem.Spec PyProof.Rows L2
/-! ### x != [], whatever x holds -/
@[simp] def neND : D → D → Gr
  | .lst xs, .lst [] => .im (.bl (!xs.isEmpty))
  | _, _ => .stk
def rNeN (K : PySem.W.Frag) : R2 := fun x y H Q => ∃ (a b : Addr) (xs : List V), x = .ref a ∧ y = .ref b ∧ SqL K H a xs ∧ SqL K H b [] ∧ Q (.bl (!xs.isEmpty)) H
theorem op_neN {X : Cx} (hu : X.A.units + 65 < cLine) : OpR X (compareOp .NotEq) (rNeN X.K) := by
  intro pins s σ H x y v u Q I rx ry h
  obtain ⟨a, b, xs, rfl, rfl, ha, hb, q⟩ := h
  obtain rfl : v = Value.ref a := rx
  obtain rfl : u = Value.ref b := ry
  obtain ⟨its, rv, pa, _⟩ := I.list ha
  obtain ⟨its2, rv2, pb, _⟩ := I.list hb
  cases rv2
  cases rv with
  | nil => exact PySem.SeqAt.RcNeAt.lists (e := fun _ => true) pa.isList pb.isList rfl (by omega) (fun j h1 _ => absurd h1 (by simp)) X.prog X.w _ _ ⟨.bl false, H, I, rfl, q⟩
  | cons h t => exact PySem.SeqAt.RcNeAt.lists_lengths pa.isList pb.isList (by simp [bne]) (by omega) X.prog X.w _ _ ⟨.bl true, H, I, rfl, q⟩
theorem snd_neN {K : PySem.W.Frag} : OpSound K neND (rNeN K) := by
  intro H G x y a b Q s ha hb hq
  match a, b, ha, hb, hq with
  | .lst xs, .lst [], ha, hb, hq =>
    obtain ⟨p, vs, rfl, hp, r⟩ := ha.lst s
    obtain ⟨q, ws, rfl, hq2, r2⟩ := hb.lst s
    rw [show ws = [] from r2] at hq2
    refine ⟨p, q, vs, rfl, rfl, SqL.of hp, SqL.of hq2, ?_⟩
    have e : vs.isEmpty = xs.isEmpty := by
      have := r.length
      cases vs <;> cases xs <;> simp at this ⊢
    rw [e]
    exact GrPost.same s hq rfl
  | .lst _, .lst (_ :: _), _, _, hq => exact hq.elim
  | .lst _, .tup _, _, _, hq => exact hq.elim
  | .lst _, .non, _, _, hq => exact hq.elim
  | .lst _, .bl _, _, _, hq => exact hq.elim
  | .lst _, .int _, _, _, hq => exact hq.elim
  | .lst _, .str _, _, _, hq => exact hq.elim
  | .lst _, .dct _ _, _, _, hq => exact hq.elim
  | .lst _, .scr _, _, _, hq => exact hq.elim
  | .lst _, .ty _, _, _, hq => exact hq.elim
  | .lst _, .ob _, _, _, hq => exact hq.elim
  | .tup _, _, _, _, hq => exact hq.elim
  | .non, _, _, _, hq => exact hq.elim
  | .bl _, _, _, _, hq => exact hq.elim
  | .int _, _, _, _, hq => exact hq.elim
  | .str _, _, _, _, hq => exact hq.elim
  | .dct _ _, _, _, _, hq => exact hq.elim
  | .scr _, _, _, _, hq => exact hq.elim
  | .ty _, _, _, _, hq => exact hq.elim
  | .ob _, _, _, _, hq => exact hq.elim
theorem ex_neN {X : Cx} {W : WX} {a b : Expr} {Fa Fb : Fx} {pos : Pos} (hu : X.A.units + 65 < cLine) (ha : EX X W a Fa) (hb : EX X W b Fb) : EX X W (.Compare a [.NotEq] [b] pos) (op2F neND Fa Fb) := ex_cmp (op_neN hu) snd_neN ha hb (nomark _)
end HF

set_option Elab.async false
set_option linter.all false
set_option maxRecDepth 100000
set_option maxHeartbeats 4000000
set_option autoImplicit false
namespace HFL
open PySem PySem.Spec PyProof.Rows L2 HF
def topS (i : Nat) : Stmt := PySem.Challenge.pw_halfrun_k04_runs.main.body.getD i (.Pass ⟨0, 0, 0, 0⟩)
abbrev s_is_whole : Stmt := topS 14
abbrev N_is_whole : List Str := ["thing"]
theorem sc_is_whole : FnScope N_is_whole ["thing"] (defScope s_is_whole) := ⟨rfl, rfl, rfl, by decide +kernel, rfl, by decide +kernel, by decide +kernel⟩
def b_is_whole (c_MOST_NUMBER : D) : Sx := (retS (andF (blF isiG (consF (vF 0) (consF (cF (.ty .int)) nilF))) (andF (notF (blF isiG (consF (vF 0) (consF (cF (.ty .bool)) nilF)))) (op2F ltD (blF absG (consF (vF 0) nilF)) (cF c_MOST_NUMBER)))))
theorem ok_is_whole {P : Program} {w : World} {K : PySem.W.Frag} {mg : Str → Option Value} {base : Heap} {f : Addr} {fd : FuncData} {k : Nat} (B : Blt mg) (F : Fun K "is_whole" "is_whole" s_is_whole f fd) (hm : mg "is_whole" = some (.ref f)) (hb : Binds K fd ["thing"] []) {c_MOST_NUMBER : D} (g_MOST_NUMBER : GConst K mg "MOST_NUMBER" c_MOST_NUMBER) : Cal P w K mg base (k + 1) "is_whole" 1 (runF 1 (b_is_whole c_MOST_NUMBER)) := by
  refine fn_cal F sc_is_whole hm hb rfl (by decide) fun cdv A outer s H E hr => ?_
  have hu := hu65 hr
  have nd := sc_is_whole.nd
  have tk := L2N.takes_of (X := cxOf (L2N.CX P w) P w K mg base N_is_whole "is_whole" (defScope s_is_whole) f cdv A outer s H E) (E := E) rfl rfl rfl rfl
  exact (sts_one (st_ret (ex_and (ex_isi (B _ (by decide)) (ax_cons (ex_var 0) (ax_cons (ex_ty (t := .int) (B _ (by decide))) ax_nil))) (ex_and (ex_not (ex_isi (B _ (by decide)) (ax_cons (ex_var 0) (ax_cons (ex_ty (t := .bool) (B _ (by decide))) ax_nil)))) (ex_one (ex_lt (ex_abs (B _ (by decide)) (ax_cons (ex_var 0) ax_nil)) (ex_gc g_MOST_NUMBER)))))))
abbrev s_weight : Stmt := topS 15
abbrev N_weight : List Str := ["value", "count", "left", "one"]
theorem sc_weight : FnScope N_weight ["value"] (defScope s_weight) := ⟨rfl, rfl, rfl, by decide +kernel, rfl, by decide +kernel, by decide +kernel⟩
def C0_weight (w_0 : List Sl → Nat) : Fx := (op2F neD (vF 2) (lstF nilF))
def L0_weight (w_0 : List Sl → Nat) : Sx := (seqS (asgS 3 (mtF popM 2 nilF))
    (seqS (asgS 1 (op2F addD (vF 1) (cF (.int 1))))
    (ifS (blF isiG (consF (vF 3) (consF (cF (.ty .tuple)) nilF))) (exprS (mtF extM 2 (consF (vF 3) nilF))) passS)))
def b_weight (w_0 : List Sl → Nat) : Sx := (seqS (asgS 1 (cF (.int 0)))
    (seqS (asgS 2 (lstF (consF (vF 0) nilF)))
    (seqS (whileS w_0 (C0_weight w_0) (L0_weight w_0))
    (retS (vF 1)))))
theorem ok_weight {P : Program} {w : World} {K : PySem.W.Frag} {mg : Str → Option Value} {base : Heap} {f : Addr} {fd : FuncData} {k : Nat} (B : Blt mg) (F : Fun K "weight" "weight" s_weight f fd) (hm : mg "weight" = some (.ref f)) (hb : Binds K fd ["value"] []) (w_0 : List Sl → Nat) : Cal P w K mg base (k + 1) "weight" 1 (runF 4 (b_weight w_0)) := by
  refine fn_cal F sc_weight hm hb rfl (by decide) fun cdv A outer s H E hr => ?_
  have hu := hu65 hr
  have nd := sc_weight.nd
  have tk := L2N.takes_of (X := cxOf (L2N.CX P w) P w K mg base N_weight "weight" (defScope s_weight) f cdv A outer s H E) (E := E) rfl rfl rfl rfl
  exact (sts_cons (st_set (i := 1) nd ex_int)
    (sts_cons (st_set (i := 2) nd (ex_lst (ax_cons (ex_var 0) ax_nil)))
    (sts_cons (st_while w_0 (passes_of rfl) (tx_cmp (op_neA hu) snd_ne (ex_var 2) (ex_lst ax_nil) (nomark _)) (sts_cons (st_set (i := 3) nd (ex_pop (pv 2)))
    (sts_cons (st_set (i := 1) nd (ex_add (ex_var 1) ex_int))
    (sts_one (st_if (tx_val (ex_isi (B _ (by decide)) (ax_cons (ex_var 3) (ax_cons (ex_ty (t := .tuple) (B _ (by decide))) ax_nil)))) (sts_one (st_expr (ex_extend (pv 2) (ax_cons (ex_var 3) ax_nil)))) sts_nil)))))
    (sts_one (st_ret (ex_var 1))))))
abbrev s_need_number : Stmt := topS 19
abbrev N_need_number : List Str := ["value"]
theorem sc_need_number : FnScope N_need_number ["value"] (defScope s_need_number) := ⟨rfl, rfl, rfl, by decide +kernel, rfl, by decide +kernel, by decide +kernel⟩
def b_need_number : Sx := (ifS (blF isiG (consF (vF 0) (consF (cF (.ty .tuple)) nilF))) (raiseS "NoNumber") passS)
theorem ok_need_number {P : Program} {w : World} {K : PySem.W.Frag} {mg : Str → Option Value} {base : Heap} {f : Addr} {fd : FuncData} {k : Nat} (B : Blt mg) (F : Fun K "need_number" "need_number" s_need_number f fd) (hm : mg "need_number" = some (.ref f)) (hb : Binds K fd ["value"] []) (x_NoNumber : GExc K mg "NoNumber") : Cal P w K mg base (k + 1) "need_number" 1 (runF 1 (b_need_number)) := by
  refine fn_cal F sc_need_number hm hb rfl (by decide) fun cdv A outer s H E hr => ?_
  have hu := hu65 hr
  have nd := sc_need_number.nd
  have tk := L2N.takes_of (X := cxOf (L2N.CX P w) P w K mg base N_need_number "need_number" (defScope s_need_number) f cdv A outer s H E) (E := E) rfl rfl rfl rfl
  obtain ⟨C_NoNumber, B_NoNumber, i_NoNumber, j_NoNumber, m_NoNumber, EF_NoNumber, q_NoNumber, gC_NoNumber, kC_NoNumber, b1_NoNumber, b2_NoNumber⟩ := x_NoNumber
  exact (sts_one (st_if (tx_val (ex_isi (B _ (by decide)) (ax_cons (ex_var 0) (ax_cons (ex_ty (t := .tuple) (B _ (by decide))) ax_nil)))) (sts_one (st_raise rfl tk EF_NoNumber q_NoNumber gC_NoNumber kC_NoNumber (raises_own b1_NoNumber b2_NoNumber))) sts_nil))
abbrev s_need_list : Stmt := topS 20
abbrev N_need_list : List Str := ["value"]
theorem sc_need_list : FnScope N_need_list ["value"] (defScope s_need_list) := ⟨rfl, rfl, rfl, by decide +kernel, rfl, by decide +kernel, by decide +kernel⟩
def b_need_list : Sx := (ifS (notF (blF isiG (consF (vF 0) (consF (cF (.ty .tuple)) nilF)))) (raiseS "NoList") passS)
theorem ok_need_list {P : Program} {w : World} {K : PySem.W.Frag} {mg : Str → Option Value} {base : Heap} {f : Addr} {fd : FuncData} {k : Nat} (B : Blt mg) (F : Fun K "need_list" "need_list" s_need_list f fd) (hm : mg "need_list" = some (.ref f)) (hb : Binds K fd ["value"] []) (x_NoList : GExc K mg "NoList") : Cal P w K mg base (k + 1) "need_list" 1 (runF 1 (b_need_list)) := by
  refine fn_cal F sc_need_list hm hb rfl (by decide) fun cdv A outer s H E hr => ?_
  have hu := hu65 hr
  have nd := sc_need_list.nd
  have tk := L2N.takes_of (X := cxOf (L2N.CX P w) P w K mg base N_need_list "need_list" (defScope s_need_list) f cdv A outer s H E) (E := E) rfl rfl rfl rfl
  obtain ⟨C_NoList, B_NoList, i_NoList, j_NoList, m_NoList, EF_NoList, q_NoList, gC_NoList, kC_NoList, b1_NoList, b2_NoList⟩ := x_NoList
  exact (sts_one (st_if (tx_not (tx_val (ex_isi (B _ (by decide)) (ax_cons (ex_var 0) (ax_cons (ex_ty (t := .tuple) (B _ (by decide))) ax_nil))))) (sts_one (st_raise rfl tk EF_NoList q_NoList gC_NoList kC_NoList (raises_own b1_NoList b2_NoList))) sts_nil))
abbrev s_bounded : Stmt := topS 21
abbrev N_bounded : List Str := ["value"]
theorem sc_bounded : FnScope N_bounded ["value"] (defScope s_bounded) := ⟨rfl, rfl, rfl, by decide +kernel, rfl, by decide +kernel, by decide +kernel⟩
def b_bounded (f_weight : List Ar → FR) (f_is_whole : List Ar → FR) (c_MOST_WEIGHT : D) : Sx := (seqS (ifS (blF isiG (consF (vF 0) (consF (cF (.ty .tuple)) nilF))) (ifS (op2F gtD (callF [false] f_weight (consF (vF 0) nilF)) (cF c_MOST_WEIGHT)) (raiseS "TooGreat") passS) (ifS (notF (callF [false] f_is_whole (consF (vF 0) nilF))) (raiseS "TooGreat") passS))
    (retS (vF 0)))
theorem ok_bounded {P : Program} {w : World} {K : PySem.W.Frag} {mg : Str → Option Value} {base : Heap} {f : Addr} {fd : FuncData} {k : Nat} (B : Blt mg) (F : Fun K "bounded" "bounded" s_bounded f fd) (hm : mg "bounded" = some (.ref f)) (hb : Binds K fd ["value"] []) {f_weight : List Ar → FR} {k_weight : Nat} (h_weight : Cal P w K mg base k_weight "weight" 1 f_weight) (l_weight : k_weight ≤ k) {f_is_whole : List Ar → FR} {k_is_whole : Nat} (h_is_whole : Cal P w K mg base k_is_whole "is_whole" 1 f_is_whole) (l_is_whole : k_is_whole ≤ k) {c_MOST_WEIGHT : D} (g_MOST_WEIGHT : GConst K mg "MOST_WEIGHT" c_MOST_WEIGHT) (x_TooGreat : GExc K mg "TooGreat") : Cal P w K mg base (k + 1) "bounded" 1 (runF 1 (b_bounded f_weight f_is_whole c_MOST_WEIGHT)) := by
  refine fn_cal F sc_bounded hm hb rfl (by decide) fun cdv A outer s H E hr => ?_
  have hu := hu65 hr
  have nd := sc_bounded.nd
  have tk := L2N.takes_of (X := cxOf (L2N.CX P w) P w K mg base N_bounded "bounded" (defScope s_bounded) f cdv A outer s H E) (E := E) rfl rfl rfl rfl
  obtain ⟨C_TooGreat, B_TooGreat, i_TooGreat, j_TooGreat, m_TooGreat, EF_TooGreat, q_TooGreat, gC_TooGreat, kC_TooGreat, b1_TooGreat, b2_TooGreat⟩ := x_TooGreat
  exact (sts_cons (st_if (tx_val (ex_isi (B _ (by decide)) (ax_cons (ex_var 0) (ax_cons (ex_ty (t := .tuple) (B _ (by decide))) ax_nil)))) (sts_one (st_if (tx_cmp (op_gt) snd_gt (ex_call (sg := [false]) h_weight hr l_weight tk rfl (ax_cons (ex_var 0) ax_nil)) (ex_gc g_MOST_WEIGHT) (nomark _)) (sts_one (st_raise rfl tk EF_TooGreat q_TooGreat gC_TooGreat kC_TooGreat (raises_own b1_TooGreat b2_TooGreat))) sts_nil)) (sts_one (st_if (tx_not (tx_val (ex_call (sg := [false]) h_is_whole hr l_is_whole tk rfl (ax_cons (ex_var 0) ax_nil)))) (sts_one (st_raise rfl tk EF_TooGreat q_TooGreat gC_TooGreat kC_TooGreat (raises_own b1_TooGreat b2_TooGreat))) sts_nil)))
    (sts_one (st_ret (ex_var 0))))
abbrev s_of_numbers : Stmt := topS 22
abbrev N_of_numbers : List Str := ["operation", "one", "other"]
theorem sc_of_numbers : FnScope N_of_numbers ["operation", "one", "other"] (defScope s_of_numbers) := ⟨rfl, rfl, rfl, by decide +kernel, rfl, by decide +kernel, by decide +kernel⟩
def b_of_numbers (f_need_number : List Ar → FR) (f_bounded : List Ar → FR) : Sx := (seqS (exprS (callF [false] f_need_number (consF (vF 1) nilF)))
    (seqS (exprS (callF [false] f_need_number (consF (vF 2) nilF)))
    (seqS (ifS (op2F eqD (vF 0) (cF (.str "plus"))) (retS (callF [false] f_bounded (consF (op2F addD (vF 1) (vF 2)) nilF))) passS)
    (seqS (ifS (op2F eqD (vF 0) (cF (.str "minus"))) (retS (callF [false] f_bounded (consF (op2F subD (vF 1) (vF 2)) nilF))) passS)
    (seqS (ifS (op2F eqD (vF 0) (cF (.str "times"))) (retS (callF [false] f_bounded (consF (op2F mulD (vF 1) (vF 2)) nilF))) passS)
    (seqS (ifS (op2F eqD (vF 0) (cF (.str "less"))) (retS (blF intG (consF (op2F ltD (vF 1) (vF 2)) nilF))) passS)
    (seqS (ifS (op2F eqD (vF 2) (cF (.int 0))) (raiseS "ByNought") passS)
    (retS (callF [false] f_bounded (consF (op2F divD (vF 1) (vF 2)) nilF))))))))))
theorem ok_of_numbers {P : Program} {w : World} {K : PySem.W.Frag} {mg : Str → Option Value} {base : Heap} {f : Addr} {fd : FuncData} {k : Nat} (B : Blt mg) (F : Fun K "of_numbers" "of_numbers" s_of_numbers f fd) (hm : mg "of_numbers" = some (.ref f)) (hb : Binds K fd ["operation", "one", "other"] []) {f_need_number : List Ar → FR} {k_need_number : Nat} (h_need_number : Cal P w K mg base k_need_number "need_number" 1 f_need_number) (l_need_number : k_need_number ≤ k) {f_bounded : List Ar → FR} {k_bounded : Nat} (h_bounded : Cal P w K mg base k_bounded "bounded" 1 f_bounded) (l_bounded : k_bounded ≤ k) (x_ByNought : GExc K mg "ByNought") : Cal P w K mg base (k + 1) "of_numbers" 3 (runF 3 (b_of_numbers f_need_number f_bounded)) := by
  refine fn_cal F sc_of_numbers hm hb rfl (by decide) fun cdv A outer s H E hr => ?_
  have hu := hu65 hr
  have nd := sc_of_numbers.nd
  have tk := L2N.takes_of (X := cxOf (L2N.CX P w) P w K mg base N_of_numbers "of_numbers" (defScope s_of_numbers) f cdv A outer s H E) (E := E) rfl rfl rfl rfl
  obtain ⟨C_ByNought, B_ByNought, i_ByNought, j_ByNought, m_ByNought, EF_ByNought, q_ByNought, gC_ByNought, kC_ByNought, b1_ByNought, b2_ByNought⟩ := x_ByNought
  exact (sts_cons (st_expr (ex_call (sg := [false]) h_need_number hr l_need_number tk rfl (ax_cons (ex_var 1) ax_nil)))
    (sts_cons (st_expr (ex_call (sg := [false]) h_need_number hr l_need_number tk rfl (ax_cons (ex_var 2) ax_nil)))
    (sts_cons (st_if (tx_cmp (op_eqA hu) snd_eq (ex_var 0) ex_str (nomark _)) (sts_one (st_ret (ex_call (sg := [false]) h_bounded hr l_bounded tk rfl (ax_cons (ex_add (ex_var 1) (ex_var 2)) ax_nil)))) sts_nil)
    (sts_cons (st_if (tx_cmp (op_eqA hu) snd_eq (ex_var 0) ex_str (nomark _)) (sts_one (st_ret (ex_call (sg := [false]) h_bounded hr l_bounded tk rfl (ax_cons (ex_sub (ex_var 1) (ex_var 2)) ax_nil)))) sts_nil)
    (sts_cons (st_if (tx_cmp (op_eqA hu) snd_eq (ex_var 0) ex_str (nomark _)) (sts_one (st_ret (ex_call (sg := [false]) h_bounded hr l_bounded tk rfl (ax_cons (ex_mul (ex_var 1) (ex_var 2)) ax_nil)))) sts_nil)
    (sts_cons (st_if (tx_cmp (op_eqA hu) snd_eq (ex_var 0) ex_str (nomark _)) (sts_one (st_ret (ex_intC (B _ (by decide)) (ax_cons (ex_lt (ex_var 1) (ex_var 2)) ax_nil)))) sts_nil)
    (sts_cons (st_if (tx_cmp (op_eqA hu) snd_eq (ex_var 2) ex_int (nomark _)) (sts_one (st_raise rfl tk EF_ByNought q_ByNought gC_ByNought kC_ByNought (raises_own b1_ByNought b2_ByNought))) sts_nil)
    (sts_one (st_ret (ex_call (sg := [false]) h_bounded hr l_bounded tk rfl (ax_cons (ex_div (ex_var 1) (ex_var 2)) ax_nil)))))))))))
abbrev s_of_one : Stmt := topS 23
abbrev N_of_one : List Str := ["operation", "value"]
theorem sc_of_one : FnScope N_of_one ["operation", "value"] (defScope s_of_one) := ⟨rfl, rfl, rfl, by decide +kernel, rfl, by decide +kernel, by decide +kernel⟩
def b_of_one (f_need_number : List Ar → FR) (f_need_list : List Ar → FR) : Sx := (seqS (ifS (op2F eqD (vF 0) (cF (.str "down"))) (seqS (exprS (callF [false] f_need_number (consF (vF 1) nilF)))
    (seqS (ifS (op2F leD (vF 1) (cF (.int 0))) (raiseS "NoDown") passS)
    (retS (op2F subD (vF 1) (cF (.int 1)))))) passS)
    (seqS (exprS (callF [false] f_need_list (consF (vF 1) nilF)))
    (seqS (ifS (op2F eqD (vF 0) (cF (.str "empty"))) (retS (blF intG (consF (op2F eqD (vF 1) (tupF nilF)) nilF))) passS)
    (seqS (ifS (op2F eqD (vF 1) (tupF nilF)) (raiseS "NoFirst") passS)
    (seqS (ifS (op2F eqD (vF 0) (cF (.str "first"))) (retS (op2F ixD (vF 1) (cF (.int 0)))) passS)
    (retS (slF (vF 1) (someO (cF (.int 1))) noneO)))))))
theorem ok_of_one {P : Program} {w : World} {K : PySem.W.Frag} {mg : Str → Option Value} {base : Heap} {f : Addr} {fd : FuncData} {k : Nat} (B : Blt mg) (F : Fun K "of_one" "of_one" s_of_one f fd) (hm : mg "of_one" = some (.ref f)) (hb : Binds K fd ["operation", "value"] []) {f_need_number : List Ar → FR} {k_need_number : Nat} (h_need_number : Cal P w K mg base k_need_number "need_number" 1 f_need_number) (l_need_number : k_need_number ≤ k) {f_need_list : List Ar → FR} {k_need_list : Nat} (h_need_list : Cal P w K mg base k_need_list "need_list" 1 f_need_list) (l_need_list : k_need_list ≤ k) (x_NoDown : GExc K mg "NoDown") (x_NoFirst : GExc K mg "NoFirst") : Cal P w K mg base (k + 1) "of_one" 2 (runF 2 (b_of_one f_need_number f_need_list)) := by
  refine fn_cal F sc_of_one hm hb rfl (by decide) fun cdv A outer s H E hr => ?_
  have hu := hu65 hr
  have nd := sc_of_one.nd
  have tk := L2N.takes_of (X := cxOf (L2N.CX P w) P w K mg base N_of_one "of_one" (defScope s_of_one) f cdv A outer s H E) (E := E) rfl rfl rfl rfl
  obtain ⟨C_NoDown, B_NoDown, i_NoDown, j_NoDown, m_NoDown, EF_NoDown, q_NoDown, gC_NoDown, kC_NoDown, b1_NoDown, b2_NoDown⟩ := x_NoDown
  obtain ⟨C_NoFirst, B_NoFirst, i_NoFirst, j_NoFirst, m_NoFirst, EF_NoFirst, q_NoFirst, gC_NoFirst, kC_NoFirst, b1_NoFirst, b2_NoFirst⟩ := x_NoFirst
  exact (sts_cons (st_if (tx_cmp (op_eqA hu) snd_eq (ex_var 0) ex_str (nomark _)) (sts_cons (st_expr (ex_call (sg := [false]) h_need_number hr l_need_number tk rfl (ax_cons (ex_var 1) ax_nil)))
    (sts_cons (st_if (tx_cmp (op_le) snd_le (ex_var 1) ex_int (nomark _)) (sts_one (st_raise rfl tk EF_NoDown q_NoDown gC_NoDown kC_NoDown (raises_own b1_NoDown b2_NoDown))) sts_nil)
    (sts_one (st_ret (ex_sub (ex_var 1) ex_int))))) sts_nil)
    (sts_cons (st_expr (ex_call (sg := [false]) h_need_list hr l_need_list tk rfl (ax_cons (ex_var 1) ax_nil)))
    (sts_cons (st_if (tx_cmp (op_eqA hu) snd_eq (ex_var 0) ex_str (nomark _)) (sts_one (st_ret (ex_intC (B _ (by decide)) (ax_cons (ex_eq hu (ex_var 1) (ex_tup ax_nil)) ax_nil)))) sts_nil)
    (sts_cons (st_if (tx_cmp (op_eqA hu) snd_eq (ex_var 1) (ex_tup ax_nil) (nomark _)) (sts_one (st_raise rfl tk EF_NoFirst q_NoFirst gC_NoFirst kC_NoFirst (raises_own b1_NoFirst b2_NoFirst))) sts_nil)
    (sts_cons (st_if (tx_cmp (op_eqA hu) snd_eq (ex_var 0) ex_str (nomark _)) (sts_one (st_ret (ex_item (ex_var 1) ex_int))) sts_nil)
    (sts_one (st_ret (ex_slice (ex_var 1) (ox_some ex_int) ox_none))))))))
abbrev s_done : Stmt := topS 24
abbrev N_done : List Str := ["operation", "values"]
theorem sc_done : FnScope N_done ["operation", "values"] (defScope s_done) := ⟨rfl, rfl, rfl, by decide +kernel, rfl, by decide +kernel, by decide +kernel⟩
def b_done (f_bounded : List Ar → FR) (f_of_numbers : List Ar → FR) (f_of_one : List Ar → FR) (f_need_list : List Ar → FR) (c_NUMBERS : D) (c_ALONE : D) : Sx := (seqS (ifS (op2F eqD (vF 0) (cF (.str "list"))) (retS (callF [false] f_bounded (consF (blF tupG (consF (vF 1) nilF)) nilF))) passS)
    (seqS (ifS (op2F inD (vF 0) (cF c_NUMBERS)) (retS (callF [false, false, false] f_of_numbers (consF (vF 0) (consF (op2F ixD (vF 1) (cF (.int 0))) (consF (op2F ixD (vF 1) (cF (.int 1))) nilF))))) passS)
    (seqS (ifS (op2F inD (vF 0) (cF c_ALONE)) (retS (callF [false, false] f_of_one (consF (vF 0) (consF (op2F ixD (vF 1) (cF (.int 0))) nilF)))) passS)
    (seqS (ifS (op2F eqD (vF 0) (cF (.str "same"))) (retS (blF intG (consF (op2F eqD (op2F ixD (vF 1) (cF (.int 0))) (op2F ixD (vF 1) (cF (.int 1)))) nilF))) passS)
    (seqS (exprS (callF [false] f_need_list (consF (op2F ixD (vF 1) (cF (.int 1))) nilF)))
    (retS (callF [false] f_bounded (consF (op2F addD (tupF (consF (op2F ixD (vF 1) (cF (.int 0))) nilF)) (op2F ixD (vF 1) (cF (.int 1)))) nilF))))))))
theorem ok_done {P : Program} {w : World} {K : PySem.W.Frag} {mg : Str → Option Value} {base : Heap} {f : Addr} {fd : FuncData} {k : Nat} (B : Blt mg) (F : Fun K "done" "done" s_done f fd) (hm : mg "done" = some (.ref f)) (hb : Binds K fd ["operation", "values"] []) {f_bounded : List Ar → FR} {k_bounded : Nat} (h_bounded : Cal P w K mg base k_bounded "bounded" 1 f_bounded) (l_bounded : k_bounded ≤ k) {f_of_numbers : List Ar → FR} {k_of_numbers : Nat} (h_of_numbers : Cal P w K mg base k_of_numbers "of_numbers" 3 f_of_numbers) (l_of_numbers : k_of_numbers ≤ k) {f_of_one : List Ar → FR} {k_of_one : Nat} (h_of_one : Cal P w K mg base k_of_one "of_one" 2 f_of_one) (l_of_one : k_of_one ≤ k) {f_need_list : List Ar → FR} {k_need_list : Nat} (h_need_list : Cal P w K mg base k_need_list "need_list" 1 f_need_list) (l_need_list : k_need_list ≤ k) {c_NUMBERS : D} (g_NUMBERS : GConst K mg "NUMBERS" c_NUMBERS) {c_ALONE : D} (g_ALONE : GConst K mg "ALONE" c_ALONE) : Cal P w K mg base (k + 1) "done" 2 (runF 2 (b_done f_bounded f_of_numbers f_of_one f_need_list c_NUMBERS c_ALONE)) := by
  refine fn_cal F sc_done hm hb rfl (by decide) fun cdv A outer s H E hr => ?_
  have hu := hu65 hr
  have nd := sc_done.nd
  have tk := L2N.takes_of (X := cxOf (L2N.CX P w) P w K mg base N_done "done" (defScope s_done) f cdv A outer s H E) (E := E) rfl rfl rfl rfl
  exact (sts_cons (st_if (tx_cmp (op_eqA hu) snd_eq (ex_var 0) ex_str (nomark _)) (sts_one (st_ret (ex_call (sg := [false]) h_bounded hr l_bounded tk rfl (ax_cons (ex_tupC (B _ (by decide)) (ax_cons (ex_var 1) ax_nil)) ax_nil)))) sts_nil)
    (sts_cons (st_if (tx_cmp (op_inA hu) snd_in (ex_var 0) (ex_gc g_NUMBERS) rfl) (sts_one (st_ret (ex_call (sg := [false, false, false]) h_of_numbers hr l_of_numbers tk rfl (ax_cons (ex_var 0) (ax_cons (ex_item (ex_var 1) ex_int) (ax_cons (ex_item (ex_var 1) ex_int) ax_nil)))))) sts_nil)
    (sts_cons (st_if (tx_cmp (op_inA hu) snd_in (ex_var 0) (ex_gc g_ALONE) rfl) (sts_one (st_ret (ex_call (sg := [false, false]) h_of_one hr l_of_one tk rfl (ax_cons (ex_var 0) (ax_cons (ex_item (ex_var 1) ex_int) ax_nil))))) sts_nil)
    (sts_cons (st_if (tx_cmp (op_eqA hu) snd_eq (ex_var 0) ex_str (nomark _)) (sts_one (st_ret (ex_intC (B _ (by decide)) (ax_cons (ex_eq hu (ex_item (ex_var 1) ex_int) (ex_item (ex_var 1) ex_int)) ax_nil)))) sts_nil)
    (sts_cons (st_expr (ex_call (sg := [false]) h_need_list hr l_need_list tk rfl (ax_cons (ex_item (ex_var 1) ex_int) ax_nil)))
    (sts_one (st_ret (ex_call (sg := [false]) h_bounded hr l_bounded tk rfl (ax_cons (ex_add (ex_tup (ax_cons (ex_item (ex_var 1) ex_int) ax_nil)) (ex_item (ex_var 1) ex_int)) ax_nil)))))))))
abbrev s_is_true : Stmt := topS 25
abbrev N_is_true : List Str := ["value"]
theorem sc_is_true : FnScope N_is_true ["value"] (defScope s_is_true) := ⟨rfl, rfl, rfl, by decide +kernel, rfl, by decide +kernel, by decide +kernel⟩
def b_is_true (f_need_number : List Ar → FR) : Sx := (seqS (exprS (callF [false] f_need_number (consF (vF 0) nilF)))
    (retS (op2F neD (vF 0) (cF (.int 0)))))
theorem ok_is_true {P : Program} {w : World} {K : PySem.W.Frag} {mg : Str → Option Value} {base : Heap} {f : Addr} {fd : FuncData} {k : Nat} (B : Blt mg) (F : Fun K "is_true" "is_true" s_is_true f fd) (hm : mg "is_true" = some (.ref f)) (hb : Binds K fd ["value"] []) {f_need_number : List Ar → FR} {k_need_number : Nat} (h_need_number : Cal P w K mg base k_need_number "need_number" 1 f_need_number) (l_need_number : k_need_number ≤ k) : Cal P w K mg base (k + 1) "is_true" 1 (runF 1 (b_is_true f_need_number)) := by
  refine fn_cal F sc_is_true hm hb rfl (by decide) fun cdv A outer s H E hr => ?_
  have hu := hu65 hr
  have nd := sc_is_true.nd
  have tk := L2N.takes_of (X := cxOf (L2N.CX P w) P w K mg base N_is_true "is_true" (defScope s_is_true) f cdv A outer s H E) (E := E) rfl rfl rfl rfl
  exact (sts_cons (st_expr (ex_call (sg := [false]) h_need_number hr l_need_number tk rfl (ax_cons (ex_var 0) ax_nil)))
    (sts_one (st_ret (ex_ne hu (ex_var 0) ex_int))))
abbrev s_refuse : Stmt := topS 27
abbrev N_refuse : List Str := ["word"]
theorem sc_refuse : FnScope N_refuse ["word"] (defScope s_refuse) := ⟨rfl, rfl, rfl, by decide +kernel, rfl, by decide +kernel, by decide +kernel⟩
def b_refuse : Sx := (seqS (ifS (op2F eqD (vF 0) (cF (.str "NoNumber"))) (raiseS "NoNumber") passS)
    (seqS (ifS (op2F eqD (vF 0) (cF (.str "NoList"))) (raiseS "NoList") passS)
    (seqS (ifS (op2F eqD (vF 0) (cF (.str "NoFirst"))) (raiseS "NoFirst") passS)
    (seqS (ifS (op2F eqD (vF 0) (cF (.str "NoDown"))) (raiseS "NoDown") passS)
    (seqS (ifS (op2F eqD (vF 0) (cF (.str "ByNought"))) (raiseS "ByNought") passS)
    (raiseS "TooGreat"))))))
theorem ok_refuse {P : Program} {w : World} {K : PySem.W.Frag} {mg : Str → Option Value} {base : Heap} {f : Addr} {fd : FuncData} {k : Nat} (B : Blt mg) (F : Fun K "refuse" "refuse" s_refuse f fd) (hm : mg "refuse" = some (.ref f)) (hb : Binds K fd ["word"] []) (x_NoNumber : GExc K mg "NoNumber") (x_NoList : GExc K mg "NoList") (x_NoFirst : GExc K mg "NoFirst") (x_NoDown : GExc K mg "NoDown") (x_ByNought : GExc K mg "ByNought") (x_TooGreat : GExc K mg "TooGreat") : Cal P w K mg base (k + 1) "refuse" 1 (runF 1 (b_refuse)) := by
  refine fn_cal F sc_refuse hm hb rfl (by decide) fun cdv A outer s H E hr => ?_
  have hu := hu65 hr
  have nd := sc_refuse.nd
  have tk := L2N.takes_of (X := cxOf (L2N.CX P w) P w K mg base N_refuse "refuse" (defScope s_refuse) f cdv A outer s H E) (E := E) rfl rfl rfl rfl
  obtain ⟨C_NoNumber, B_NoNumber, i_NoNumber, j_NoNumber, m_NoNumber, EF_NoNumber, q_NoNumber, gC_NoNumber, kC_NoNumber, b1_NoNumber, b2_NoNumber⟩ := x_NoNumber
  obtain ⟨C_NoList, B_NoList, i_NoList, j_NoList, m_NoList, EF_NoList, q_NoList, gC_NoList, kC_NoList, b1_NoList, b2_NoList⟩ := x_NoList
  obtain ⟨C_NoFirst, B_NoFirst, i_NoFirst, j_NoFirst, m_NoFirst, EF_NoFirst, q_NoFirst, gC_NoFirst, kC_NoFirst, b1_NoFirst, b2_NoFirst⟩ := x_NoFirst
  obtain ⟨C_NoDown, B_NoDown, i_NoDown, j_NoDown, m_NoDown, EF_NoDown, q_NoDown, gC_NoDown, kC_NoDown, b1_NoDown, b2_NoDown⟩ := x_NoDown
  obtain ⟨C_ByNought, B_ByNought, i_ByNought, j_ByNought, m_ByNought, EF_ByNought, q_ByNought, gC_ByNought, kC_ByNought, b1_ByNought, b2_ByNought⟩ := x_ByNought
  obtain ⟨C_TooGreat, B_TooGreat, i_TooGreat, j_TooGreat, m_TooGreat, EF_TooGreat, q_TooGreat, gC_TooGreat, kC_TooGreat, b1_TooGreat, b2_TooGreat⟩ := x_TooGreat
  exact (sts_cons (st_if (tx_cmp (op_eqA hu) snd_eq (ex_var 0) ex_str (nomark _)) (sts_one (st_raise rfl tk EF_NoNumber q_NoNumber gC_NoNumber kC_NoNumber (raises_own b1_NoNumber b2_NoNumber))) sts_nil)
    (sts_cons (st_if (tx_cmp (op_eqA hu) snd_eq (ex_var 0) ex_str (nomark _)) (sts_one (st_raise rfl tk EF_NoList q_NoList gC_NoList kC_NoList (raises_own b1_NoList b2_NoList))) sts_nil)
    (sts_cons (st_if (tx_cmp (op_eqA hu) snd_eq (ex_var 0) ex_str (nomark _)) (sts_one (st_raise rfl tk EF_NoFirst q_NoFirst gC_NoFirst kC_NoFirst (raises_own b1_NoFirst b2_NoFirst))) sts_nil)
    (sts_cons (st_if (tx_cmp (op_eqA hu) snd_eq (ex_var 0) ex_str (nomark _)) (sts_one (st_raise rfl tk EF_NoDown q_NoDown gC_NoDown kC_NoDown (raises_own b1_NoDown b2_NoDown))) sts_nil)
    (sts_cons (st_if (tx_cmp (op_eqA hu) snd_eq (ex_var 0) ex_str (nomark _)) (sts_one (st_raise rfl tk EF_ByNought q_ByNought gC_ByNought kC_ByNought (raises_own b1_ByNought b2_ByNought))) sts_nil)
    (sts_one (st_raise rfl tk EF_TooGreat q_TooGreat gC_TooGreat kC_TooGreat (raises_own b1_TooGreat b2_TooGreat))))))))
abbrev s_function_of : Stmt := topS 29
abbrev N_function_of : List Str := ["program", "name", "function"]
theorem sc_function_of : FnScope N_function_of ["program", "name"] (defScope s_function_of) := ⟨rfl, rfl, rfl, by decide +kernel, rfl, by decide +kernel, by decide +kernel⟩
def L0_function_of : Sx := (ifS (op2F eqD (op2F ixD (vF 2) (cF (.int 0))) (vF 1)) (retS (vF 2)) passS)
def b_function_of : Sx := (seqS (forS (seqS' (vF 0)) (Tg.F (.nm 2)) (L0_function_of))
    (retS (cF .non)))
theorem ok_function_of {P : Program} {w : World} {K : PySem.W.Frag} {mg : Str → Option Value} {base : Heap} {f : Addr} {fd : FuncData} {k : Nat} (B : Blt mg) (F : Fun K "function_of" "function_of" s_function_of f fd) (hm : mg "function_of" = some (.ref f)) (hb : Binds K fd ["program", "name"] []) : Cal P w K mg base (k + 1) "function_of" 2 (runF 3 (b_function_of)) := by
  refine fn_cal F sc_function_of hm hb rfl (by decide) fun cdv A outer s H E hr => ?_
  have hu := hu65 hr
  have nd := sc_function_of.nd
  have tk := L2N.takes_of (X := cxOf (L2N.CX P w) P w K mg base N_function_of "function_of" (defScope s_function_of) f cdv A outer s H E) (E := E) rfl rfl rfl rfl
  exact (sts_cons (st_for (passes_of rfl) rfl (sx_seq (ex_var 0)) (Tg.gx (t := (.nm 2)) (pgt_name (i := 2) nd)) (sts_one (st_if (tx_cmp (op_eqA hu) snd_eq (ex_item (ex_var 2) ex_int) (ex_var 1) (nomark _)) (sts_one (st_ret (ex_var 2))) sts_nil)))
    (sts_one (st_ret ex_non)))
abbrev s_taken_off : Stmt := topS 31
abbrev N_taken_off : List Str := ["values", "many", "found", "k"]
theorem sc_taken_off : FnScope N_taken_off ["values", "many"] (defScope s_taken_off) := ⟨rfl, rfl, rfl, by decide +kernel, rfl, by decide +kernel, by decide +kernel⟩
def E0_taken_off : Fx := (mtF popM 0 nilF)
def b_taken_off : Sx := (seqS (asgS 2 (lcF (rngS' rng1 (consF (vF 1) nilF)) (Tg.F (.nm 3)) yesF (E0_taken_off) [3]))
    (retS (un1F lrevG (vF 2))))
theorem ok_taken_off {P : Program} {w : World} {K : PySem.W.Frag} {mg : Str → Option Value} {base : Heap} {f : Addr} {fd : FuncData} {k : Nat} (B : Blt mg) (F : Fun K "taken_off" "taken_off" s_taken_off f fd) (hm : mg "taken_off" = some (.ref f)) (hb : Binds K fd ["values", "many"] []) : Cal P w K mg base (k + 1) "taken_off" 2 (runF 4 (b_taken_off)) := by
  refine fn_cal F sc_taken_off hm hb rfl (by decide) fun cdv A outer s H E hr => ?_
  have hu := hu65 hr
  have nd := sc_taken_off.nd
  have tk := L2N.takes_of (X := cxOf (L2N.CX P w) P w K mg base N_taken_off "taken_off" (defScope s_taken_off) f cdv A outer s H E) (E := E) rfl rfl rfl rfl
  exact (sts_cons (st_setLc (i := 2) rfl nd (sw_true rfl rfl rfl (by decide +kernel)) (sx_range1 (B _ (by decide)) (ax_cons (ex_var 1) ax_nil)) (blkOk_by (own := [("k", 3)]) (N := N_taken_off) (sc := defScope s_taken_off) (by decide +kernel)) (fun _ _ _ _ _ => (pgt_name (i := 3) nd)) (fun _ _ _ _ _ => ltx_nil) (fun _ _ _ _ _ => (ex_pop (pv 0))))
    (sts_one (st_ret (ex_lstRev rfl (B _ (by decide)) (B _ (by decide)) (ex_var 2)))))
abbrev s_opened : Stmt := topS 32
abbrev N_opened : List Str := ["work", "values", "form", "names", "part"]
theorem sc_opened : FnScope N_opened ["work", "values", "form", "names"] (defScope s_opened) := ⟨rfl, rfl, rfl, by decide +kernel, rfl, by decide +kernel, by decide +kernel⟩
def L0_opened (f_refuse : List Ar → FR) : Sx := (exprS (mtF appM 0 (consF (tupF (consF (cF (.str "open")) (consF (vF 4) (consF (vF 3) nilF)))) nilF)))
def b_opened (f_refuse : List Ar → FR) : Sx := (ifS (op2F eqD (op2F ixD (vF 2) (cF (.int 0))) (cF (.str "value"))) (exprS (mtF appM 1 (consF (op2F ixD (vF 2) (cF (.int 1))) nilF))) (ifS (op2F eqD (op2F ixD (vF 2) (cF (.int 0))) (cF (.str "name"))) (exprS (mtF appM 1 (consF (op2F dgetD (vF 3) (op2F ixD (vF 2) (cF (.int 1)))) nilF))) (ifS (op2F eqD (op2F ixD (vF 2) (cF (.int 0))) (cF (.str "refuse"))) (exprS (callF [false] f_refuse (consF (op2F ixD (vF 2) (cF (.int 1))) nilF))) (ifS (op2F eqD (op2F ixD (vF 2) (cF (.int 0))) (cF (.str "if"))) (seqS (exprS (mtF appM 0 (consF (tupF (consF (cF (.str "branch")) (consF (vF 2) (consF (vF 3) nilF)))) nilF)))
    (exprS (mtF appM 0 (consF (tupF (consF (cF (.str "open")) (consF (op2F ixD (vF 2) (cF (.int 1))) (consF (vF 3) nilF)))) nilF)))) (seqS (exprS (mtF appM 0 (consF (tupF (consF (op2F ixD (vF 2) (cF (.int 0))) (consF (vF 2) (consF (vF 3) nilF)))) nilF)))
    (forS (revS' (op2F ixD (vF 2) (cF (.int 2)))) (Tg.F (.nm 4)) (L0_opened f_refuse)))))))
theorem ok_opened {P : Program} {w : World} {K : PySem.W.Frag} {mg : Str → Option Value} {base : Heap} {f : Addr} {fd : FuncData} {k : Nat} (B : Blt mg) (F : Fun K "opened" "opened" s_opened f fd) (hm : mg "opened" = some (.ref f)) (hb : Binds K fd ["work", "values", "form", "names"] []) {f_refuse : List Ar → FR} {k_refuse : Nat} (h_refuse : Cal P w K mg base k_refuse "refuse" 1 f_refuse) (l_refuse : k_refuse ≤ k) : Cal P w K mg base (k + 1) "opened" 4 (runF 5 (b_opened f_refuse)) := by
  refine fn_cal F sc_opened hm hb rfl (by decide) fun cdv A outer s H E hr => ?_
  have hu := hu65 hr
  have nd := sc_opened.nd
  have tk := L2N.takes_of (X := cxOf (L2N.CX P w) P w K mg base N_opened "opened" (defScope s_opened) f cdv A outer s H E) (E := E) rfl rfl rfl rfl
  exact (sts_one (st_if (tx_cmp (op_eqA hu) snd_eq (ex_item (ex_var 2) ex_int) ex_str (nomark _)) (sts_one (st_expr (ex_append (pv 1) (ax_cons (ex_item (ex_var 2) ex_int) ax_nil)))) (sts_one (st_if (tx_cmp (op_eqA hu) snd_eq (ex_item (ex_var 2) ex_int) ex_str (nomark _)) (sts_one (st_expr (ex_append (pv 1) (ax_cons (ex_dget hu (ex_var 3) (ex_item (ex_var 2) ex_int)) ax_nil)))) (sts_one (st_if (tx_cmp (op_eqA hu) snd_eq (ex_item (ex_var 2) ex_int) ex_str (nomark _)) (sts_one (st_expr (ex_call (sg := [false]) h_refuse hr l_refuse tk rfl (ax_cons (ex_item (ex_var 2) ex_int) ax_nil)))) (sts_one (st_if (tx_cmp (op_eqA hu) snd_eq (ex_item (ex_var 2) ex_int) ex_str (nomark _)) (sts_cons (st_expr (ex_append (pv 0) (ax_cons (ex_tup (ax_cons ex_str (ax_cons (ex_var 2) (ax_cons (ex_var 3) ax_nil)))) ax_nil)))
    (sts_one (st_expr (ex_append (pv 0) (ax_cons (ex_tup (ax_cons ex_str (ax_cons (ex_item (ex_var 2) ex_int) (ax_cons (ex_var 3) ax_nil)))) ax_nil))))) (sts_cons (st_expr (ex_append (pv 0) (ax_cons (ex_tup (ax_cons (ex_item (ex_var 2) ex_int) (ax_cons (ex_var 2) (ax_cons (ex_var 3) ax_nil)))) ax_nil)))
    (sts_one (st_for (passes_of rfl) rfl (sx_rev (B _ (by decide)) (ex_item (ex_var 2) ex_int)) (Tg.gx (t := (.nm 4)) (pgt_name (i := 4) nd)) (sts_one (st_expr (ex_append (pv 0) (ax_cons (ex_tup (ax_cons ex_str (ax_cons (ex_var 4) (ax_cons (ex_var 3) ax_nil)))) ax_nil)))))))))))))))
abbrev s_run : Stmt := topS 33
abbrev N_run : List Str := ["program", "inputs", "most", "calls", "values", "work", "deed", "form", "names", "function"]
theorem sc_run : FnScope N_run ["program", "inputs", "most"] (defScope s_run) := ⟨rfl, rfl, rfl, by decide +kernel, rfl, by decide +kernel, by decide +kernel⟩
def C0_run (f_opened : List Ar → FR) (f_is_true : List Ar → FR) (f_done : List Ar → FR) (f_taken_off : List Ar → FR) (f_function_of : List Ar → FR) (w_0 : List Sl → Nat) : Fx := (op2F neND (vF 5) (lstF nilF))
def L0_run (f_opened : List Ar → FR) (f_is_true : List Ar → FR) (f_done : List Ar → FR) (f_taken_off : List Ar → FR) (f_function_of : List Ar → FR) (w_0 : List Sl → Nat) : Sx := (seqS (unpS (Tg.F (.tp [6, 7, 8])) (mtF popM 5 nilF))
    (ifS (op2F eqD (vF 6) (cF (.str "open"))) (exprS (callF [true, true, false, false] f_opened (consF (vF 5) (consF (vF 4) (consF (vF 7) (consF (vF 8) nilF)))))) (ifS (op2F eqD (vF 6) (cF (.str "branch"))) (exprS (mtF appM 5 (consF (tupF (consF (cF (.str "open")) (consF (HF.iteF (callF [false] f_is_true (consF (mtF popM 4 nilF) nilF)) (op2F ixD (vF 7) (cF (.int 2))) (op2F ixD (vF 7) (cF (.int 3)))) (consF (vF 8) nilF)))) nilF))) (ifS (op2F eqD (vF 6) (cF (.str "do"))) (exprS (mtF appM 4 (consF (callF [false, false] f_done (consF (op2F ixD (vF 7) (cF (.int 1))) (consF (callF [true, false] f_taken_off (consF (vF 4) (consF (blF lenG (consF (op2F ixD (vF 7) (cF (.int 2))) nilF)) nilF))) nilF))) nilF))) (seqS (asgS 3 (op2F addD (vF 3) (cF (.int 1))))
    (seqS (ifS (op2F gtD (vF 3) (vF 2)) (raiseS "TooLong") passS)
    (seqS (asgS 9 (callF [false, false] f_function_of (consF (vF 0) (consF (op2F ixD (vF 7) (cF (.int 1))) nilF))))
    (exprS (mtF appM 5 (consF (tupF (consF (cF (.str "open")) (consF (op2F ixD (vF 9) (cF (.int 2))) (consF (blF dzipG (consF (op2F ixD (vF 9) (cF (.int 1))) (consF (callF [true, false] f_taken_off (consF (vF 4) (consF (blF lenG (consF (op2F ixD (vF 7) (cF (.int 2))) nilF)) nilF))) nilF))) nilF)))) nilF))))))))))
def b_run (f_opened : List Ar → FR) (f_is_true : List Ar → FR) (f_done : List Ar → FR) (f_taken_off : List Ar → FR) (f_function_of : List Ar → FR) (w_0 : List Sl → Nat) : Sx := (seqS (asgS 3 (cF (.int 0)))
    (seqS (asgS 4 (lstF nilF))
    (seqS (asgS 5 (lstF (consF (tupF (consF (cF (.str "open")) (consF (op2F ixD (op2F ixD (vF 0) (cF (.int 0))) (cF (.int 2))) (consF (blF dzipG (consF (op2F ixD (op2F ixD (vF 0) (cF (.int 0))) (cF (.int 1))) (consF (vF 1) nilF))) nilF)))) nilF)))
    (seqS (whileS w_0 (C0_run f_opened f_is_true f_done f_taken_off f_function_of w_0) (L0_run f_opened f_is_true f_done f_taken_off f_function_of w_0))
    (retS (op2F ixD (vF 4) (cF (.int 0))))))))
theorem ok_run {P : Program} {w : World} {K : PySem.W.Frag} {mg : Str → Option Value} {base : Heap} {f : Addr} {fd : FuncData} {k : Nat} (B : Blt mg) (F : Fun K "run" "run" s_run f fd) (hm : mg "run" = some (.ref f)) (hb : Binds K fd ["program", "inputs", "most"] []) {f_opened : List Ar → FR} {k_opened : Nat} (h_opened : Cal P w K mg base k_opened "opened" 4 f_opened) (l_opened : k_opened ≤ k) {f_is_true : List Ar → FR} {k_is_true : Nat} (h_is_true : Cal P w K mg base k_is_true "is_true" 1 f_is_true) (l_is_true : k_is_true ≤ k) {f_done : List Ar → FR} {k_done : Nat} (h_done : Cal P w K mg base k_done "done" 2 f_done) (l_done : k_done ≤ k) {f_taken_off : List Ar → FR} {k_taken_off : Nat} (h_taken_off : Cal P w K mg base k_taken_off "taken_off" 2 f_taken_off) (l_taken_off : k_taken_off ≤ k) {f_function_of : List Ar → FR} {k_function_of : Nat} (h_function_of : Cal P w K mg base k_function_of "function_of" 2 f_function_of) (l_function_of : k_function_of ≤ k) (w_0 : List Sl → Nat) (x_TooLong : GExc K mg "TooLong") : Cal P w K mg base (k + 1) "run" 3 (runF 10 (b_run f_opened f_is_true f_done f_taken_off f_function_of w_0)) := by
  refine fn_cal F sc_run hm hb rfl (by decide) fun cdv A outer s H E hr => ?_
  have hu := hu65 hr
  have nd := sc_run.nd
  have tk := L2N.takes_of (X := cxOf (L2N.CX P w) P w K mg base N_run "run" (defScope s_run) f cdv A outer s H E) (E := E) rfl rfl rfl rfl
  obtain ⟨C_TooLong, B_TooLong, i_TooLong, j_TooLong, m_TooLong, EF_TooLong, q_TooLong, gC_TooLong, kC_TooLong, b1_TooLong, b2_TooLong⟩ := x_TooLong
  exact (sts_cons (st_set (i := 3) nd ex_int)
    (sts_cons (st_set (i := 4) nd (ex_lst ax_nil))
    (sts_cons (st_set (i := 5) nd (ex_lst (ax_cons (ex_tup (ax_cons ex_str (ax_cons (ex_item (ex_item (ex_var 0) ex_int) ex_int) (ax_cons (ex_dictZip rfl (B _ (by decide)) (B _ (by decide)) (ax_cons (ex_item (ex_item (ex_var 0) ex_int) ex_int) (ax_cons (ex_var 1) ax_nil))) ax_nil)))) ax_nil)))
    (sts_cons (st_while w_0 (passes_of rfl) (tx_cmp (op_neN hu) snd_neN (ex_var 5) (ex_lst ax_nil) (nomark _)) (sts_cons (st_unp (ex_pop (pv 5)) (Tg.gx (t := (.tp [6, 7, 8])) (pgt_tup rfl (pgts_cons (i := 6) nd (pgts_cons (i := 7) nd (pgts_cons (i := 8) nd pgts_nil))))))
    (sts_one (st_if (tx_cmp (op_eqA hu) snd_eq (ex_var 6) ex_str (nomark _)) (sts_one (st_expr (ex_call (sg := [true, true, false, false]) h_opened hr l_opened tk rfl (ax_cons (ex_var 5) (ax_cons (ex_var 4) (ax_cons (ex_var 7) (ax_cons (ex_var 8) ax_nil))))))) (sts_one (st_if (tx_cmp (op_eqA hu) snd_eq (ex_var 6) ex_str (nomark _)) (sts_one (st_expr (ex_append (pv 5) (ax_cons (ex_tup (ax_cons ex_str (ax_cons (ex_ifx (tx_val (ex_call (sg := [false]) h_is_true hr l_is_true tk rfl (ax_cons (ex_pop (pv 4)) ax_nil))) (ex_item (ex_var 7) ex_int) (ex_item (ex_var 7) ex_int)) (ax_cons (ex_var 8) ax_nil)))) ax_nil)))) (sts_one (st_if (tx_cmp (op_eqA hu) snd_eq (ex_var 6) ex_str (nomark _)) (sts_one (st_expr (ex_append (pv 4) (ax_cons (ex_call (sg := [false, false]) h_done hr l_done tk rfl (ax_cons (ex_item (ex_var 7) ex_int) (ax_cons (ex_call (sg := [true, false]) h_taken_off hr l_taken_off tk rfl (ax_cons (ex_var 4) (ax_cons (ex_len (B _ (by decide)) (ax_cons (ex_item (ex_var 7) ex_int) ax_nil)) ax_nil))) ax_nil))) ax_nil)))) (sts_cons (st_set (i := 3) nd (ex_add (ex_var 3) ex_int))
    (sts_cons (st_if (tx_cmp (op_gt) snd_gt (ex_var 3) (ex_var 2) (nomark _)) (sts_one (st_raise rfl tk EF_TooLong q_TooLong gC_TooLong kC_TooLong (raises_own b1_TooLong b2_TooLong))) sts_nil)
    (sts_cons (st_set (i := 9) nd (ex_call (sg := [false, false]) h_function_of hr l_function_of tk rfl (ax_cons (ex_var 0) (ax_cons (ex_item (ex_var 7) ex_int) ax_nil))))
    (sts_one (st_expr (ex_append (pv 5) (ax_cons (ex_tup (ax_cons ex_str (ax_cons (ex_item (ex_var 9) ex_int) (ax_cons (ex_dictZip rfl (B _ (by decide)) (B _ (by decide)) (ax_cons (ex_item (ex_var 9) ex_int) (ax_cons (ex_call (sg := [true, false]) h_taken_off hr l_taken_off tk rfl (ax_cons (ex_var 4) (ax_cons (ex_len (B _ (by decide)) (ax_cons (ex_item (ex_var 7) ex_int) ax_nil)) ax_nil))) ax_nil))) ax_nil)))) ax_nil)))))))))))))))
    (sts_one (st_ret (ex_item (ex_var 4) ex_int)))))))
abbrev s_law_cell_at : Stmt := topS 35
abbrev N_law_cell_at : List Str := ["_law_script", "_law_k"]
theorem sc_law_cell_at : FnScope N_law_cell_at ["_law_script", "_law_k"] (defScope s_law_cell_at) := ⟨rfl, rfl, rfl, by decide +kernel, rfl, by decide +kernel, by decide +kernel⟩
def b_law_cell_at : Sx := (seqS (ifS (op2F ltD (vF 1) (blF lenG (consF (vF 0) nilF))) (retS (op2F ixD (vF 0) (vF 1))) passS)
    (retS (cF (.int 0))))
theorem ok_law_cell_at {P : Program} {w : World} {K : PySem.W.Frag} {mg : Str → Option Value} {base : Heap} {f : Addr} {fd : FuncData} {k : Nat} (B : Blt mg) (F : Fun K "_law_cell_at" "_law_cell_at" s_law_cell_at f fd) (hm : mg "_law_cell_at" = some (.ref f)) (hb : Binds K fd ["_law_script", "_law_k"] []) : Cal P w K mg base (k + 1) "_law_cell_at" 2 (runF 2 (b_law_cell_at)) := by
  refine fn_cal F sc_law_cell_at hm hb rfl (by decide) fun cdv A outer s H E hr => ?_
  have hu := hu65 hr
  have nd := sc_law_cell_at.nd
  have tk := L2N.takes_of (X := cxOf (L2N.CX P w) P w K mg base N_law_cell_at "_law_cell_at" (defScope s_law_cell_at) f cdv A outer s H E) (E := E) rfl rfl rfl rfl
  exact (sts_cons (st_if (tx_cmp (op_lt) snd_lt (ex_var 1) (ex_len (B _ (by decide)) (ax_cons (ex_var 0) ax_nil)) (nomark _)) (sts_one (st_ret (ex_item (ex_var 0) (ex_var 1)))) sts_nil)
    (sts_one (st_ret ex_int)))
abbrev s_law_next : Stmt := topS 36
abbrev N_law_next : List Str := ["_law_pick", "_law_more"]
theorem sc_law_next : FnScope N_law_next ["_law_pick"] (defScope s_law_next) := ⟨rfl, rfl, rfl, by decide +kernel, rfl, by decide +kernel, by decide +kernel⟩
def b_law_next : Sx := (seqS (asgS 1 (op2F modD (op2F addD (op2F mulD (vF 0) (cF (.int 48271))) (cF (.int 11))) (cF (.int 2147483647))))
    (retS (op2F modD (op2F mulD (vF 1) (vF 1)) (cF (.int 2147483629)))))
theorem ok_law_next {P : Program} {w : World} {K : PySem.W.Frag} {mg : Str → Option Value} {base : Heap} {f : Addr} {fd : FuncData} {k : Nat} (B : Blt mg) (F : Fun K "_law_next" "_law_next" s_law_next f fd) (hm : mg "_law_next" = some (.ref f)) (hb : Binds K fd ["_law_pick"] []) : Cal P w K mg base (k + 1) "_law_next" 1 (runF 2 (b_law_next)) := by
  refine fn_cal F sc_law_next hm hb rfl (by decide) fun cdv A outer s H E hr => ?_
  have hu := hu65 hr
  have nd := sc_law_next.nd
  have tk := L2N.takes_of (X := cxOf (L2N.CX P w) P w K mg base N_law_next "_law_next" (defScope s_law_next) f cdv A outer s H E) (E := E) rfl rfl rfl rfl
  exact (sts_cons (st_set (i := 1) nd (ex_mod (ex_add (ex_mul (ex_var 0) ex_int) ex_int) ex_int))
    (sts_one (st_ret (ex_mod (ex_mul (ex_var 1) (ex_var 1)) ex_int))))
abbrev s_law_value : Stmt := topS 37
abbrev N_law_value : List Str := ["_law_pick", "_law_some", "_law_k"]
theorem sc_law_value : FnScope N_law_value ["_law_pick"] (defScope s_law_value) := ⟨rfl, rfl, rfl, by decide +kernel, rfl, by decide +kernel, by decide +kernel⟩
def E0_law_value : Fx := (op2F modD (op2F divD (vF 0) (cF (.int 16))) (op2F addD (vF 2) (cF (.int 2))))
def b_law_value : Sx := (seqS (asgS 1 (lstF (consF (cF (.int 0)) (consF (cF (.int 1)) (consF (cF (.int 2)) (consF (cF (.int 3)) (consF (cF (.int 5)) (consF (negF (cF (.int 1))) (consF (negF (cF (.int 4))) (consF (tupF nilF) (consF (tupF (consF (cF (.int 1)) nilF)) (consF (tupF (consF (cF (.int 2)) (consF (cF (.int 0)) nilF))) (consF (tupF (consF (cF (.int 1)) (consF (cF (.int 2)) (consF (cF (.int 3)) nilF)))) (consF (tupF (consF (tupF nilF) (consF (cF (.int 1)) nilF))) (consF (tupF (consF (tupF (consF (cF (.int 1)) (consF (cF (.int 2)) nilF))) (consF (tupF (consF (cF (.int 3)) nilF)) nilF))) (consF (tupF (consF (cF (.int 4)) (consF (tupF (consF (cF (.int 5)) (consF (tupF (consF (cF (.int 6)) nilF)) nilF))) nilF))) nilF))))))))))))))))
    (seqS (ifS (op2F eqD (op2F modD (vF 0) (cF (.int 16))) (cF (.int 14))) (retS (op2F addD (op2F subD (op2F modD (op2F divD (vF 0) (cF (.int 16))) (op2F subD (op2F mulD (cF (.int 2)) (op2F powD (cF (.int 10)) (cF (.int 18)))) (cF (.int 1)))) (op2F powD (cF (.int 10)) (cF (.int 18)))) (cF (.int 1)))) passS)
    (seqS (ifS (op2F eqD (op2F modD (vF 0) (cF (.int 16))) (cF (.int 15))) (retS (blF tupG (consF (lcF (rngS' rng1 (consF (op2F modD (op2F divD (vF 0) (cF (.int 16))) (cF (.int 9))) nilF)) (Tg.F (.nm 2)) yesF (E0_law_value) [2]) nilF))) passS)
    (retS (op2F ixD (vF 1) (op2F modD (vF 0) (cF (.int 16))))))))
theorem ok_law_value {P : Program} {w : World} {K : PySem.W.Frag} {mg : Str → Option Value} {base : Heap} {f : Addr} {fd : FuncData} {k : Nat} (B : Blt mg) (F : Fun K "_law_value" "_law_value" s_law_value f fd) (hm : mg "_law_value" = some (.ref f)) (hb : Binds K fd ["_law_pick"] []) : Cal P w K mg base (k + 1) "_law_value" 1 (runF 3 (b_law_value)) := by
  refine fn_cal F sc_law_value hm hb rfl (by decide) fun cdv A outer s H E hr => ?_
  have hu := hu65 hr
  have nd := sc_law_value.nd
  have tk := L2N.takes_of (X := cxOf (L2N.CX P w) P w K mg base N_law_value "_law_value" (defScope s_law_value) f cdv A outer s H E) (E := E) rfl rfl rfl rfl
  exact (sts_cons (st_set (i := 1) nd (ex_lst (ax_cons ex_int (ax_cons ex_int (ax_cons ex_int (ax_cons ex_int (ax_cons ex_int (ax_cons (ex_neg ex_int) (ax_cons (ex_neg ex_int) (ax_cons (ex_tup ax_nil) (ax_cons (ex_tup (ax_cons ex_int ax_nil)) (ax_cons (ex_tup (ax_cons ex_int (ax_cons ex_int ax_nil))) (ax_cons (ex_tup (ax_cons ex_int (ax_cons ex_int (ax_cons ex_int ax_nil)))) (ax_cons (ex_tup (ax_cons (ex_tup ax_nil) (ax_cons ex_int ax_nil))) (ax_cons (ex_tup (ax_cons (ex_tup (ax_cons ex_int (ax_cons ex_int ax_nil))) (ax_cons (ex_tup (ax_cons ex_int ax_nil)) ax_nil))) (ax_cons (ex_tup (ax_cons ex_int (ax_cons (ex_tup (ax_cons ex_int (ax_cons (ex_tup (ax_cons ex_int ax_nil)) ax_nil))) ax_nil))) ax_nil))))))))))))))))
    (sts_cons (st_if (tx_cmp (op_eqA hu) snd_eq (ex_mod (ex_var 0) ex_int) ex_int (nomark _)) (sts_one (st_ret (ex_add (ex_sub (ex_mod (ex_div (ex_var 0) ex_int) (ex_sub (ex_mul ex_int (ex_pow ex_int ex_int)) ex_int)) (ex_pow ex_int ex_int)) ex_int))) sts_nil)
    (sts_cons (st_if (tx_cmp (op_eqA hu) snd_eq (ex_mod (ex_var 0) ex_int) ex_int (nomark _)) (sts_one (st_ret (ex_tupC (B _ (by decide)) (ax_cons (ex_lc rfl nd (sx_range1 (B _ (by decide)) (ax_cons (ex_mod (ex_div (ex_var 0) ex_int) ex_int) ax_nil)) (blkOk_by (own := [("_law_k", 2)]) (N := N_law_value) (sc := defScope s_law_value) (by decide +kernel)) (fun _ _ _ _ _ => (pgt_name (i := 2) nd)) (fun _ _ _ _ _ => ltx_nil) (fun _ _ _ _ _ => (ex_mod (ex_div (ex_var 0) ex_int) (ex_add (ex_var 2) ex_int)))) ax_nil)))) sts_nil)
    (sts_one (st_ret (ex_item (ex_var 1) (ex_mod (ex_var 0) ex_int)))))))
abbrev s_law_same : Stmt := topS 38
abbrev N_law_same : List Str := ["_law_found", "_law_due", "_law_k"]
theorem sc_law_same : FnScope N_law_same ["_law_found", "_law_due"] (defScope s_law_same) := ⟨rfl, rfl, rfl, by decide +kernel, rfl, by decide +kernel, by decide +kernel⟩
def L0_law_same (f_law_same : List Ar → FR) : Sx := (ifS (notF (callF [false, false] f_law_same (consF (op2F ixD (vF 0) (vF 2)) (consF (op2F ixD (vF 1) (vF 2)) nilF)))) (retS (cF (.bl false))) passS)
def b_law_same (f_law_same : List Ar → FR) : Sx := (seqS (ifS (blF isiG (consF (vF 1) (consF (cF (.ty .tuple)) nilF))) (seqS (ifS (orF (notF (blF isiG (consF (vF 0) (consF (cF (.ty .tuple)) nilF)))) (op2F neD (blF lenG (consF (vF 0) nilF)) (blF lenG (consF (vF 1) nilF)))) (retS (cF (.bl false))) passS)
    (seqS (forS (rngS' rng1 (consF (blF lenG (consF (vF 1) nilF)) nilF)) (Tg.F (.nm 2)) (L0_law_same f_law_same))
    (retS (cF (.bl true))))) passS)
    (seqS (ifS (blF isiG (consF (vF 1) (consF (cF (.ty .str)) nilF))) (retS (andF (blF isiG (consF (vF 0) (consF (cF (.ty .str)) nilF))) (op2F eqD (vF 0) (vF 1)))) passS)
    (retS (andF (blF isiG (consF (vF 0) (consF (cF (.ty .int)) nilF))) (andF (notF (blF isiG (consF (vF 0) (consF (cF (.ty .bool)) nilF)))) (op2F eqD (vF 0) (vF 1)))))))
theorem ok_law_same {P : Program} {w : World} {K : PySem.W.Frag} {mg : Str → Option Value} {base : Heap} {f : Addr} {fd : FuncData} {k : Nat} (B : Blt mg) (F : Fun K "_law_same" "_law_same" s_law_same f fd) (hm : mg "_law_same" = some (.ref f)) (hb : Binds K fd ["_law_found", "_law_due"] []) {f_law_same : List Ar → FR} {k_law_same : Nat} (h_law_same : Cal P w K mg base k_law_same "_law_same" 2 f_law_same) (l_law_same : k_law_same ≤ k) : Cal P w K mg base (k + 1) "_law_same" 2 (runF 3 (b_law_same f_law_same)) := by
  refine fn_cal F sc_law_same hm hb rfl (by decide) fun cdv A outer s H E hr => ?_
  have hu := hu65 hr
  have nd := sc_law_same.nd
  have tk := L2N.takes_of (X := cxOf (L2N.CX P w) P w K mg base N_law_same "_law_same" (defScope s_law_same) f cdv A outer s H E) (E := E) rfl rfl rfl rfl
  exact (sts_cons (st_if (tx_val (ex_isi (B _ (by decide)) (ax_cons (ex_var 1) (ax_cons (ex_ty (t := .tuple) (B _ (by decide))) ax_nil)))) (sts_cons (st_if (tx_w (tw_or (tx_not (tx_val (ex_isi (B _ (by decide)) (ax_cons (ex_var 0) (ax_cons (ex_ty (t := .tuple) (B _ (by decide))) ax_nil))))) (tw_or1 (tx_cmp (op_neA hu) snd_ne (ex_len (B _ (by decide)) (ax_cons (ex_var 0) ax_nil)) (ex_len (B _ (by decide)) (ax_cons (ex_var 1) ax_nil)) (nomark _))))) (sts_one (st_ret ex_bl)) sts_nil)
    (sts_cons (st_for (passes_of rfl) rfl (sx_range1 (B _ (by decide)) (ax_cons (ex_len (B _ (by decide)) (ax_cons (ex_var 1) ax_nil)) ax_nil)) (Tg.gx (t := (.nm 2)) (pgt_name (i := 2) nd)) (sts_one (st_if (tx_not (tx_val (ex_call (sg := [false, false]) h_law_same hr l_law_same tk rfl (ax_cons (ex_item (ex_var 0) (ex_var 2)) (ax_cons (ex_item (ex_var 1) (ex_var 2)) ax_nil))))) (sts_one (st_ret ex_bl)) sts_nil)))
    (sts_one (st_ret ex_bl)))) sts_nil)
    (sts_cons (st_if (tx_val (ex_isi (B _ (by decide)) (ax_cons (ex_var 1) (ax_cons (ex_ty (t := .str) (B _ (by decide))) ax_nil)))) (sts_one (st_ret (ex_and (ex_isi (B _ (by decide)) (ax_cons (ex_var 0) (ax_cons (ex_ty (t := .str) (B _ (by decide))) ax_nil))) (ex_one (ex_eq hu (ex_var 0) (ex_var 1)))))) sts_nil)
    (sts_one (st_ret (ex_and (ex_isi (B _ (by decide)) (ax_cons (ex_var 0) (ax_cons (ex_ty (t := .int) (B _ (by decide))) ax_nil))) (ex_and (ex_not (ex_isi (B _ (by decide)) (ax_cons (ex_var 0) (ax_cons (ex_ty (t := .bool) (B _ (by decide))) ax_nil)))) (ex_one (ex_eq hu (ex_var 0) (ex_var 1)))))))))
abbrev s_law_weight : Stmt := topS 39
abbrev N_law_weight : List Str := ["_law_value_here", "_law_one"]
theorem sc_law_weight : FnScope N_law_weight ["_law_value_here"] (defScope s_law_weight) := ⟨rfl, rfl, rfl, by decide +kernel, rfl, by decide +kernel, by decide +kernel⟩
def E0_law_weight (f_law_weight : List Ar → FR) : Fx := (callF [false] f_law_weight (consF (vF 1) nilF))
def b_law_weight (f_law_weight : List Ar → FR) : Sx := (seqS (ifS (blF isiG (consF (vF 0) (consF (cF (.ty .tuple)) nilF))) (retS (op2F addD (cF (.int 1)) (blF sumG (consF (lcF (seqS' (vF 0)) (Tg.F (.nm 1)) yesF (E0_law_weight f_law_weight) [1]) nilF)))) passS)
    (retS (cF (.int 1))))
theorem ok_law_weight {P : Program} {w : World} {K : PySem.W.Frag} {mg : Str → Option Value} {base : Heap} {f : Addr} {fd : FuncData} {k : Nat} (B : Blt mg) (F : Fun K "_law_weight" "_law_weight" s_law_weight f fd) (hm : mg "_law_weight" = some (.ref f)) (hb : Binds K fd ["_law_value_here"] []) {f_law_weight : List Ar → FR} {k_law_weight : Nat} (h_law_weight : Cal P w K mg base k_law_weight "_law_weight" 1 f_law_weight) (l_law_weight : k_law_weight ≤ k) : Cal P w K mg base (k + 1) "_law_weight" 1 (runF 2 (b_law_weight f_law_weight)) := by
  refine fn_cal F sc_law_weight hm hb rfl (by decide) fun cdv A outer s H E hr => ?_
  have hu := hu65 hr
  have nd := sc_law_weight.nd
  have tk := L2N.takes_of (X := cxOf (L2N.CX P w) P w K mg base N_law_weight "_law_weight" (defScope s_law_weight) f cdv A outer s H E) (E := E) rfl rfl rfl rfl
  exact (sts_cons (st_if (tx_val (ex_isi (B _ (by decide)) (ax_cons (ex_var 0) (ax_cons (ex_ty (t := .tuple) (B _ (by decide))) ax_nil)))) (sts_one (st_ret (ex_add ex_int (ex_sum rfl (B _ (by decide)) (ax_cons (ex_lc rfl nd (sx_seq (ex_var 0)) (blkOk_by (own := [("_law_one", 1)]) (N := N_law_weight) (sc := defScope s_law_weight) (by decide +kernel)) (fun _ _ _ _ _ => (pgt_name (i := 1) nd)) (fun _ _ _ _ _ => ltx_nil) (fun _ _ _ _ _ => (ex_call (sg := [false]) h_law_weight hr l_law_weight takes0N rfl (ax_cons (ex_var 1) ax_nil)))) ax_nil))))) sts_nil)
    (sts_one (st_ret ex_int)))
abbrev s_law_fit : Stmt := topS 40
abbrev N_law_fit : List Str := ["_law_value_here"]
theorem sc_law_fit : FnScope N_law_fit ["_law_value_here"] (defScope s_law_fit) := ⟨rfl, rfl, rfl, by decide +kernel, rfl, by decide +kernel, by decide +kernel⟩
def b_law_fit (f_law_weight : List Ar → FR) : Sx := (seqS (ifS (blF isiG (consF (vF 0) (consF (cF (.ty .tuple)) nilF))) (retS (tupF (consF (op2F leD (callF [false] f_law_weight (consF (vF 0) nilF)) (cF (.int 50))) (consF (op2F ixD (lstF (consF (vF 0) (consF (cF (.str "TooGreat")) nilF))) (blF intG (consF (op2F gtD (callF [false] f_law_weight (consF (vF 0) nilF)) (cF (.int 50))) nilF))) nilF)))) passS)
    (retS (tupF (consF (op2F ltD (blF absG (consF (vF 0) nilF)) (op2F powD (cF (.int 10)) (cF (.int 18)))) (consF (op2F ixD (lstF (consF (vF 0) (consF (cF (.str "TooGreat")) nilF))) (blF intG (consF (op2F geD (blF absG (consF (vF 0) nilF)) (op2F powD (cF (.int 10)) (cF (.int 18)))) nilF))) nilF)))))
theorem ok_law_fit {P : Program} {w : World} {K : PySem.W.Frag} {mg : Str → Option Value} {base : Heap} {f : Addr} {fd : FuncData} {k : Nat} (B : Blt mg) (F : Fun K "_law_fit" "_law_fit" s_law_fit f fd) (hm : mg "_law_fit" = some (.ref f)) (hb : Binds K fd ["_law_value_here"] []) {f_law_weight : List Ar → FR} {k_law_weight : Nat} (h_law_weight : Cal P w K mg base k_law_weight "_law_weight" 1 f_law_weight) (l_law_weight : k_law_weight ≤ k) : Cal P w K mg base (k + 1) "_law_fit" 1 (runF 1 (b_law_fit f_law_weight)) := by
  refine fn_cal F sc_law_fit hm hb rfl (by decide) fun cdv A outer s H E hr => ?_
  have hu := hu65 hr
  have nd := sc_law_fit.nd
  have tk := L2N.takes_of (X := cxOf (L2N.CX P w) P w K mg base N_law_fit "_law_fit" (defScope s_law_fit) f cdv A outer s H E) (E := E) rfl rfl rfl rfl
  exact (sts_cons (st_if (tx_val (ex_isi (B _ (by decide)) (ax_cons (ex_var 0) (ax_cons (ex_ty (t := .tuple) (B _ (by decide))) ax_nil)))) (sts_one (st_ret (ex_tup (ax_cons (ex_le (ex_call (sg := [false]) h_law_weight hr l_law_weight tk rfl (ax_cons (ex_var 0) ax_nil)) ex_int) (ax_cons (ex_item (ex_lst (ax_cons (ex_var 0) (ax_cons ex_str ax_nil))) (ex_intC (B _ (by decide)) (ax_cons (ex_gt (ex_call (sg := [false]) h_law_weight hr l_law_weight tk rfl (ax_cons (ex_var 0) ax_nil)) ex_int) ax_nil))) ax_nil))))) sts_nil)
    (sts_one (st_ret (ex_tup (ax_cons (ex_lt (ex_abs (B _ (by decide)) (ax_cons (ex_var 0) ax_nil)) (ex_pow ex_int ex_int)) (ax_cons (ex_item (ex_lst (ax_cons (ex_var 0) (ax_cons ex_str ax_nil))) (ex_intC (B _ (by decide)) (ax_cons (ex_ge (ex_abs (B _ (by decide)) (ax_cons (ex_var 0) ax_nil)) (ex_pow ex_int ex_int)) ax_nil))) ax_nil))))))
abbrev s_law_counted : Stmt := topS 41
abbrev N_law_counted : List Str := ["_law_operation", "_law_one", "_law_other"]
theorem sc_law_counted : FnScope N_law_counted ["_law_operation", "_law_one", "_law_other"] (defScope s_law_counted) := ⟨rfl, rfl, rfl, by decide +kernel, rfl, by decide +kernel, by decide +kernel⟩
def b_law_counted (f_law_fit : List Ar → FR) : Sx := (seqS (ifS (orF (blF isiG (consF (vF 1) (consF (cF (.ty .tuple)) nilF))) (blF isiG (consF (vF 2) (consF (cF (.ty .tuple)) nilF)))) (retS (tupF (consF (cF (.bl false)) (consF (cF (.str "NoNumber")) nilF)))) passS)
    (seqS (ifS (op2F eqD (vF 0) (cF (.str "over"))) (seqS (ifS (op2F eqD (vF 2) (cF (.int 0))) (retS (tupF (consF (cF (.bl false)) (consF (cF (.str "ByNought")) nilF)))) passS)
    (retS (callF [false] f_law_fit (consF (op2F divD (vF 1) (vF 2)) nilF)))) passS)
    (seqS (ifS (op2F eqD (vF 0) (cF (.str "less"))) (retS (tupF (consF (cF (.bl true)) (consF (blF intG (consF (op2F ltD (vF 1) (vF 2)) nilF)) nilF)))) passS)
    (retS (callF [false] f_law_fit (consF (op2F dgetD (dctF (consF (cF (.str "plus")) (consF (op2F addD (vF 1) (vF 2)) (consF (cF (.str "minus")) (consF (op2F subD (vF 1) (vF 2)) (consF (cF (.str "times")) (consF (op2F mulD (vF 1) (vF 2)) nilF))))))) (vF 0)) nilF))))))
theorem ok_law_counted {P : Program} {w : World} {K : PySem.W.Frag} {mg : Str → Option Value} {base : Heap} {f : Addr} {fd : FuncData} {k : Nat} (B : Blt mg) (F : Fun K "_law_counted" "_law_counted" s_law_counted f fd) (hm : mg "_law_counted" = some (.ref f)) (hb : Binds K fd ["_law_operation", "_law_one", "_law_other"] []) {f_law_fit : List Ar → FR} {k_law_fit : Nat} (h_law_fit : Cal P w K mg base k_law_fit "_law_fit" 1 f_law_fit) (l_law_fit : k_law_fit ≤ k) : Cal P w K mg base (k + 1) "_law_counted" 3 (runF 3 (b_law_counted f_law_fit)) := by
  refine fn_cal F sc_law_counted hm hb rfl (by decide) fun cdv A outer s H E hr => ?_
  have hu := hu65 hr
  have nd := sc_law_counted.nd
  have tk := L2N.takes_of (X := cxOf (L2N.CX P w) P w K mg base N_law_counted "_law_counted" (defScope s_law_counted) f cdv A outer s H E) (E := E) rfl rfl rfl rfl
  exact (sts_cons (st_if (tx_w (tw_or (tx_val (ex_isi (B _ (by decide)) (ax_cons (ex_var 1) (ax_cons (ex_ty (t := .tuple) (B _ (by decide))) ax_nil)))) (tw_or1 (tx_val (ex_isi (B _ (by decide)) (ax_cons (ex_var 2) (ax_cons (ex_ty (t := .tuple) (B _ (by decide))) ax_nil))))))) (sts_one (st_ret (ex_tup (ax_cons ex_bl (ax_cons ex_str ax_nil))))) sts_nil)
    (sts_cons (st_if (tx_cmp (op_eqA hu) snd_eq (ex_var 0) ex_str (nomark _)) (sts_cons (st_if (tx_cmp (op_eqA hu) snd_eq (ex_var 2) ex_int (nomark _)) (sts_one (st_ret (ex_tup (ax_cons ex_bl (ax_cons ex_str ax_nil))))) sts_nil)
    (sts_one (st_ret (ex_call (sg := [false]) h_law_fit hr l_law_fit tk rfl (ax_cons (ex_div (ex_var 1) (ex_var 2)) ax_nil))))) sts_nil)
    (sts_cons (st_if (tx_cmp (op_eqA hu) snd_eq (ex_var 0) ex_str (nomark _)) (sts_one (st_ret (ex_tup (ax_cons ex_bl (ax_cons (ex_intC (B _ (by decide)) (ax_cons (ex_lt (ex_var 1) (ex_var 2)) ax_nil)) ax_nil))))) sts_nil)
    (sts_one (st_ret (ex_call (sg := [false]) h_law_fit hr l_law_fit tk rfl (ax_cons (ex_dget hu (ex_dct (dx_cons ex_str (ex_add (ex_var 1) (ex_var 2)) (dx_cons ex_str (ex_sub (ex_var 1) (ex_var 2)) (dx_cons ex_str (ex_mul (ex_var 1) (ex_var 2)) dx_nil)))) (ex_var 0)) ax_nil)))))))
abbrev s_law_taken : Stmt := topS 42
abbrev N_law_taken : List Str := ["_law_operation", "_law_value_here"]
theorem sc_law_taken : FnScope N_law_taken ["_law_operation", "_law_value_here"] (defScope s_law_taken) := ⟨rfl, rfl, rfl, by decide +kernel, rfl, by decide +kernel, by decide +kernel⟩
def b_law_taken : Sx := (seqS (ifS (op2F eqD (vF 0) (cF (.str "down"))) (seqS (ifS (blF isiG (consF (vF 1) (consF (cF (.ty .tuple)) nilF))) (retS (tupF (consF (cF (.bl false)) (consF (cF (.str "NoNumber")) nilF)))) passS)
    (retS (tupF (consF (op2F gtD (vF 1) (cF (.int 0))) (consF (op2F ixD (lstF (consF (op2F subD (vF 1) (cF (.int 1))) (consF (cF (.str "NoDown")) nilF))) (blF intG (consF (op2F leD (vF 1) (cF (.int 0))) nilF))) nilF))))) passS)
    (seqS (ifS (notF (blF isiG (consF (vF 1) (consF (cF (.ty .tuple)) nilF)))) (retS (tupF (consF (cF (.bl false)) (consF (cF (.str "NoList")) nilF)))) passS)
    (seqS (ifS (op2F eqD (vF 0) (cF (.str "empty"))) (retS (tupF (consF (cF (.bl true)) (consF (blF intG (consF (op2F eqD (blF lenG (consF (vF 1) nilF)) (cF (.int 0))) nilF)) nilF)))) passS)
    (seqS (ifS (op2F eqD (blF lenG (consF (vF 1) nilF)) (cF (.int 0))) (retS (tupF (consF (cF (.bl false)) (consF (cF (.str "NoFirst")) nilF)))) passS)
    (seqS (ifS (op2F eqD (vF 0) (cF (.str "first"))) (retS (tupF (consF (cF (.bl true)) (consF (op2F ixD (vF 1) (cF (.int 0))) nilF)))) passS)
    (retS (tupF (consF (cF (.bl true)) (consF (slF (vF 1) (someO (cF (.int 1))) noneO) nilF)))))))))
theorem ok_law_taken {P : Program} {w : World} {K : PySem.W.Frag} {mg : Str → Option Value} {base : Heap} {f : Addr} {fd : FuncData} {k : Nat} (B : Blt mg) (F : Fun K "_law_taken" "_law_taken" s_law_taken f fd) (hm : mg "_law_taken" = some (.ref f)) (hb : Binds K fd ["_law_operation", "_law_value_here"] []) : Cal P w K mg base (k + 1) "_law_taken" 2 (runF 2 (b_law_taken)) := by
  refine fn_cal F sc_law_taken hm hb rfl (by decide) fun cdv A outer s H E hr => ?_
  have hu := hu65 hr
  have nd := sc_law_taken.nd
  have tk := L2N.takes_of (X := cxOf (L2N.CX P w) P w K mg base N_law_taken "_law_taken" (defScope s_law_taken) f cdv A outer s H E) (E := E) rfl rfl rfl rfl
  exact (sts_cons (st_if (tx_cmp (op_eqA hu) snd_eq (ex_var 0) ex_str (nomark _)) (sts_cons (st_if (tx_val (ex_isi (B _ (by decide)) (ax_cons (ex_var 1) (ax_cons (ex_ty (t := .tuple) (B _ (by decide))) ax_nil)))) (sts_one (st_ret (ex_tup (ax_cons ex_bl (ax_cons ex_str ax_nil))))) sts_nil)
    (sts_one (st_ret (ex_tup (ax_cons (ex_gt (ex_var 1) ex_int) (ax_cons (ex_item (ex_lst (ax_cons (ex_sub (ex_var 1) ex_int) (ax_cons ex_str ax_nil))) (ex_intC (B _ (by decide)) (ax_cons (ex_le (ex_var 1) ex_int) ax_nil))) ax_nil)))))) sts_nil)
    (sts_cons (st_if (tx_not (tx_val (ex_isi (B _ (by decide)) (ax_cons (ex_var 1) (ax_cons (ex_ty (t := .tuple) (B _ (by decide))) ax_nil))))) (sts_one (st_ret (ex_tup (ax_cons ex_bl (ax_cons ex_str ax_nil))))) sts_nil)
    (sts_cons (st_if (tx_cmp (op_eqA hu) snd_eq (ex_var 0) ex_str (nomark _)) (sts_one (st_ret (ex_tup (ax_cons ex_bl (ax_cons (ex_intC (B _ (by decide)) (ax_cons (ex_eq hu (ex_len (B _ (by decide)) (ax_cons (ex_var 1) ax_nil)) ex_int) ax_nil)) ax_nil))))) sts_nil)
    (sts_cons (st_if (tx_cmp (op_eqA hu) snd_eq (ex_len (B _ (by decide)) (ax_cons (ex_var 1) ax_nil)) ex_int (nomark _)) (sts_one (st_ret (ex_tup (ax_cons ex_bl (ax_cons ex_str ax_nil))))) sts_nil)
    (sts_cons (st_if (tx_cmp (op_eqA hu) snd_eq (ex_var 0) ex_str (nomark _)) (sts_one (st_ret (ex_tup (ax_cons ex_bl (ax_cons (ex_item (ex_var 1) ex_int) ax_nil))))) sts_nil)
    (sts_one (st_ret (ex_tup (ax_cons ex_bl (ax_cons (ex_slice (ex_var 1) (ox_some ex_int) ox_none) ax_nil))))))))))
abbrev s_law_done : Stmt := topS 43
abbrev N_law_done : List Str := ["_law_operation", "_law_values"]
theorem sc_law_done : FnScope N_law_done ["_law_operation", "_law_values"] (defScope s_law_done) := ⟨rfl, rfl, rfl, by decide +kernel, rfl, by decide +kernel, by decide +kernel⟩
def b_law_done (f_law_fit : List Ar → FR) (f_law_taken : List Ar → FR) (f_law_counted : List Ar → FR) : Sx := (seqS (ifS (op2F eqD (vF 0) (cF (.str "list"))) (retS (callF [false] f_law_fit (consF (blF tupG (consF (vF 1) nilF)) nilF))) passS)
    (seqS (ifS (op2F eqD (vF 0) (cF (.str "same"))) (retS (tupF (consF (cF (.bl true)) (consF (blF intG (consF (op2F eqD (op2F ixD (vF 1) (cF (.int 0))) (op2F ixD (vF 1) (cF (.int 1)))) nilF)) nilF)))) passS)
    (seqS (ifS (op2F inD (vF 0) (tupF (consF (cF (.str "first")) (consF (cF (.str "rest")) (consF (cF (.str "empty")) (consF (cF (.str "down")) nilF)))))) (retS (callF [false, false] f_law_taken (consF (vF 0) (consF (op2F ixD (vF 1) (cF (.int 0))) nilF)))) passS)
    (seqS (ifS (op2F neD (vF 0) (cF (.str "join"))) (retS (callF [false, false, false] f_law_counted (consF (vF 0) (consF (op2F ixD (vF 1) (cF (.int 0))) (consF (op2F ixD (vF 1) (cF (.int 1))) nilF))))) passS)
    (seqS (ifS (notF (blF isiG (consF (op2F ixD (vF 1) (cF (.int 1))) (consF (cF (.ty .tuple)) nilF)))) (retS (tupF (consF (cF (.bl false)) (consF (cF (.str "NoList")) nilF)))) passS)
    (retS (callF [false] f_law_fit (consF (op2F addD (tupF (consF (op2F ixD (vF 1) (cF (.int 0))) nilF)) (op2F ixD (vF 1) (cF (.int 1)))) nilF))))))))
theorem ok_law_done {P : Program} {w : World} {K : PySem.W.Frag} {mg : Str → Option Value} {base : Heap} {f : Addr} {fd : FuncData} {k : Nat} (B : Blt mg) (F : Fun K "_law_done" "_law_done" s_law_done f fd) (hm : mg "_law_done" = some (.ref f)) (hb : Binds K fd ["_law_operation", "_law_values"] []) {f_law_fit : List Ar → FR} {k_law_fit : Nat} (h_law_fit : Cal P w K mg base k_law_fit "_law_fit" 1 f_law_fit) (l_law_fit : k_law_fit ≤ k) {f_law_taken : List Ar → FR} {k_law_taken : Nat} (h_law_taken : Cal P w K mg base k_law_taken "_law_taken" 2 f_law_taken) (l_law_taken : k_law_taken ≤ k) {f_law_counted : List Ar → FR} {k_law_counted : Nat} (h_law_counted : Cal P w K mg base k_law_counted "_law_counted" 3 f_law_counted) (l_law_counted : k_law_counted ≤ k) : Cal P w K mg base (k + 1) "_law_done" 2 (runF 2 (b_law_done f_law_fit f_law_taken f_law_counted)) := by
  refine fn_cal F sc_law_done hm hb rfl (by decide) fun cdv A outer s H E hr => ?_
  have hu := hu65 hr
  have nd := sc_law_done.nd
  have tk := L2N.takes_of (X := cxOf (L2N.CX P w) P w K mg base N_law_done "_law_done" (defScope s_law_done) f cdv A outer s H E) (E := E) rfl rfl rfl rfl
  exact (sts_cons (st_if (tx_cmp (op_eqA hu) snd_eq (ex_var 0) ex_str (nomark _)) (sts_one (st_ret (ex_call (sg := [false]) h_law_fit hr l_law_fit tk rfl (ax_cons (ex_tupC (B _ (by decide)) (ax_cons (ex_var 1) ax_nil)) ax_nil)))) sts_nil)
    (sts_cons (st_if (tx_cmp (op_eqA hu) snd_eq (ex_var 0) ex_str (nomark _)) (sts_one (st_ret (ex_tup (ax_cons ex_bl (ax_cons (ex_intC (B _ (by decide)) (ax_cons (ex_eq hu (ex_item (ex_var 1) ex_int) (ex_item (ex_var 1) ex_int)) ax_nil)) ax_nil))))) sts_nil)
    (sts_cons (st_if (tx_cmp (op_inA hu) snd_in (ex_var 0) (ex_tup (ax_cons ex_str (ax_cons ex_str (ax_cons ex_str (ax_cons ex_str ax_nil))))) rfl) (sts_one (st_ret (ex_call (sg := [false, false]) h_law_taken hr l_law_taken tk rfl (ax_cons (ex_var 0) (ax_cons (ex_item (ex_var 1) ex_int) ax_nil))))) sts_nil)
    (sts_cons (st_if (tx_cmp (op_neA hu) snd_ne (ex_var 0) ex_str (nomark _)) (sts_one (st_ret (ex_call (sg := [false, false, false]) h_law_counted hr l_law_counted tk rfl (ax_cons (ex_var 0) (ax_cons (ex_item (ex_var 1) ex_int) (ax_cons (ex_item (ex_var 1) ex_int) ax_nil)))))) sts_nil)
    (sts_cons (st_if (tx_not (tx_val (ex_isi (B _ (by decide)) (ax_cons (ex_item (ex_var 1) ex_int) (ax_cons (ex_ty (t := .tuple) (B _ (by decide))) ax_nil))))) (sts_one (st_ret (ex_tup (ax_cons ex_bl (ax_cons ex_str ax_nil))))) sts_nil)
    (sts_one (st_ret (ex_call (sg := [false]) h_law_fit hr l_law_fit tk rfl (ax_cons (ex_add (ex_tup (ax_cons (ex_item (ex_var 1) ex_int) ax_nil)) (ex_item (ex_var 1) ex_int)) ax_nil)))))))))
abbrev s_law_told : Stmt := topS 44
abbrev N_law_told : List Str := ["_law_program_here", "_law_form_here", "_law_names_here", "_law_count", "_law_values", "_law_part", "_law_function", "_law_test", "_law_one"]
theorem sc_law_told : FnScope N_law_told ["_law_program_here", "_law_form_here", "_law_names_here", "_law_count"] (defScope s_law_told) := ⟨rfl, rfl, rfl, by decide +kernel, rfl, by decide +kernel, by decide +kernel⟩
def L0_law_told (f_law_told : List Ar → FR) (f_law_done : List Ar → FR) : Sx := (seqS (asgS 8 (callF [false, false, false, true] f_law_told (consF (vF 0) (consF (vF 5) (consF (vF 2) (consF (vF 3) nilF))))))
    (seqS (ifS (notF (op2F ixD (vF 8) (cF (.int 0)))) (retS (vF 8)) passS)
    (exprS (mtF appM 4 (consF (op2F ixD (vF 8) (cF (.int 1))) nilF)))))
def T0_law_told (f_law_told : List Ar → FR) (f_law_done : List Ar → FR) : Fx := (op2F eqD (op2F ixD (vF 8) (cF (.int 0))) (op2F ixD (vF 1) (cF (.int 1))))
def E0_law_told (f_law_told : List Ar → FR) (f_law_done : List Ar → FR) : Fx := (vF 8)
def b_law_told (f_law_told : List Ar → FR) (f_law_done : List Ar → FR) : Sx := (seqS (ifS (op2F eqD (op2F ixD (vF 1) (cF (.int 0))) (cF (.str "value"))) (retS (tupF (consF (cF (.bl true)) (consF (op2F ixD (vF 1) (cF (.int 1))) nilF)))) passS)
    (seqS (ifS (op2F eqD (op2F ixD (vF 1) (cF (.int 0))) (cF (.str "name"))) (retS (tupF (consF (cF (.bl true)) (consF (op2F dgetD (vF 2) (op2F ixD (vF 1) (cF (.int 1)))) nilF)))) passS)
    (seqS (ifS (op2F eqD (op2F ixD (vF 1) (cF (.int 0))) (cF (.str "refuse"))) (retS (tupF (consF (cF (.bl false)) (consF (op2F ixD (vF 1) (cF (.int 1))) nilF)))) passS)
    (seqS (ifS (op2F eqD (op2F ixD (vF 1) (cF (.int 0))) (cF (.str "if"))) (seqS (asgS 7 (callF [false, false, false, true] f_law_told (consF (vF 0) (consF (op2F ixD (vF 1) (cF (.int 1))) (consF (vF 2) (consF (vF 3) nilF))))))
    (seqS (ifS (notF (op2F ixD (vF 7) (cF (.int 0)))) (retS (vF 7)) passS)
    (seqS (ifS (blF isiG (consF (op2F ixD (vF 7) (cF (.int 1))) (consF (cF (.ty .tuple)) nilF))) (retS (tupF (consF (cF (.bl false)) (consF (cF (.str "NoNumber")) nilF)))) passS)
    (retS (callF [false, false, false, true] f_law_told (consF (vF 0) (consF (op2F ixD (vF 1) (op2F addD (cF (.int 2)) (blF intG (consF (op2F eqD (op2F ixD (vF 7) (cF (.int 1))) (cF (.int 0))) nilF)))) (consF (vF 2) (consF (vF 3) nilF))))))))) passS)
    (seqS (asgS 4 (lstF nilF))
    (seqS (forS (seqS' (op2F ixD (vF 1) (cF (.int 2)))) (Tg.F (.nm 5)) (L0_law_told f_law_told f_law_done))
    (seqS (ifS (op2F eqD (op2F ixD (vF 1) (cF (.int 0))) (cF (.str "do"))) (retS (callF [false, false] f_law_done (consF (op2F ixD (vF 1) (cF (.int 1))) (consF (vF 4) nilF)))) passS)
    (seqS (stoS 3 (cF (.int 0)) (op2F addD (op2F ixD (vF 3) (cF (.int 0))) (cF (.int 1))))
    (seqS (ifS (op2F gtD (op2F ixD (vF 3) (cF (.int 0))) (op2F ixD (vF 3) (cF (.int 1)))) (retS (tupF (consF (cF (.bl false)) (consF (cF (.str "TooLong")) nilF)))) passS)
    (seqS (asgS 6 (op2F ixD (lcF (seqS' (vF 0)) (Tg.F (.nm 8)) (T0_law_told f_law_told f_law_done) (E0_law_told f_law_told f_law_done) [8]) (cF (.int 0))))
    (retS (callF [false, false, false, true] f_law_told (consF (vF 0) (consF (op2F ixD (vF 6) (cF (.int 2))) (consF (blF dzipG (consF (op2F ixD (vF 6) (cF (.int 1))) (consF (vF 4) nilF))) (consF (vF 3) nilF))))))))))))))))
theorem ok_law_told {P : Program} {w : World} {K : PySem.W.Frag} {mg : Str → Option Value} {base : Heap} {f : Addr} {fd : FuncData} {k : Nat} (B : Blt mg) (F : Fun K "_law_told" "_law_told" s_law_told f fd) (hm : mg "_law_told" = some (.ref f)) (hb : Binds K fd ["_law_program_here", "_law_form_here", "_law_names_here", "_law_count"] []) {f_law_told : List Ar → FR} {k_law_told : Nat} (h_law_told : Cal P w K mg base k_law_told "_law_told" 4 f_law_told) (l_law_told : k_law_told ≤ k) {f_law_done : List Ar → FR} {k_law_done : Nat} (h_law_done : Cal P w K mg base k_law_done "_law_done" 2 f_law_done) (l_law_done : k_law_done ≤ k) : Cal P w K mg base (k + 1) "_law_told" 4 (runF 9 (b_law_told f_law_told f_law_done)) := by
  refine fn_cal F sc_law_told hm hb rfl (by decide) fun cdv A outer s H E hr => ?_
  have hu := hu65 hr
  have nd := sc_law_told.nd
  have tk := L2N.takes_of (X := cxOf (L2N.CX P w) P w K mg base N_law_told "_law_told" (defScope s_law_told) f cdv A outer s H E) (E := E) rfl rfl rfl rfl
  exact (sts_cons (st_if (tx_cmp (op_eqA hu) snd_eq (ex_item (ex_var 1) ex_int) ex_str (nomark _)) (sts_one (st_ret (ex_tup (ax_cons ex_bl (ax_cons (ex_item (ex_var 1) ex_int) ax_nil))))) sts_nil)
    (sts_cons (st_if (tx_cmp (op_eqA hu) snd_eq (ex_item (ex_var 1) ex_int) ex_str (nomark _)) (sts_one (st_ret (ex_tup (ax_cons ex_bl (ax_cons (ex_dget hu (ex_var 2) (ex_item (ex_var 1) ex_int)) ax_nil))))) sts_nil)
    (sts_cons (st_if (tx_cmp (op_eqA hu) snd_eq (ex_item (ex_var 1) ex_int) ex_str (nomark _)) (sts_one (st_ret (ex_tup (ax_cons ex_bl (ax_cons (ex_item (ex_var 1) ex_int) ax_nil))))) sts_nil)
    (sts_cons (st_if (tx_cmp (op_eqA hu) snd_eq (ex_item (ex_var 1) ex_int) ex_str (nomark _)) (sts_cons (st_set (i := 7) nd (ex_call (sg := [false, false, false, true]) h_law_told hr l_law_told tk rfl (ax_cons (ex_var 0) (ax_cons (ex_item (ex_var 1) ex_int) (ax_cons (ex_var 2) (ax_cons (ex_var 3) ax_nil))))))
    (sts_cons (st_if (tx_not (tx_val (ex_item (ex_var 7) ex_int))) (sts_one (st_ret (ex_var 7))) sts_nil)
    (sts_cons (st_if (tx_val (ex_isi (B _ (by decide)) (ax_cons (ex_item (ex_var 7) ex_int) (ax_cons (ex_ty (t := .tuple) (B _ (by decide))) ax_nil)))) (sts_one (st_ret (ex_tup (ax_cons ex_bl (ax_cons ex_str ax_nil))))) sts_nil)
    (sts_one (st_ret (ex_call (sg := [false, false, false, true]) h_law_told hr l_law_told tk rfl (ax_cons (ex_var 0) (ax_cons (ex_item (ex_var 1) (ex_add ex_int (ex_intC (B _ (by decide)) (ax_cons (ex_eq hu (ex_item (ex_var 7) ex_int) ex_int) ax_nil)))) (ax_cons (ex_var 2) (ax_cons (ex_var 3) ax_nil)))))))))) sts_nil)
    (sts_cons (st_set (i := 4) nd (ex_lst ax_nil))
    (sts_cons (st_for (passes_of rfl) rfl (sx_seq (ex_item (ex_var 1) ex_int)) (Tg.gx (t := (.nm 5)) (pgt_name (i := 5) nd)) (sts_cons (st_set (i := 8) nd (ex_call (sg := [false, false, false, true]) h_law_told hr l_law_told tk rfl (ax_cons (ex_var 0) (ax_cons (ex_var 5) (ax_cons (ex_var 2) (ax_cons (ex_var 3) ax_nil))))))
    (sts_cons (st_if (tx_not (tx_val (ex_item (ex_var 8) ex_int))) (sts_one (st_ret (ex_var 8))) sts_nil)
    (sts_one (st_expr (ex_append (pv 4) (ax_cons (ex_item (ex_var 8) ex_int) ax_nil)))))))
    (sts_cons (st_if (tx_cmp (op_eqA hu) snd_eq (ex_item (ex_var 1) ex_int) ex_str (nomark _)) (sts_one (st_ret (ex_call (sg := [false, false]) h_law_done hr l_law_done tk rfl (ax_cons (ex_item (ex_var 1) ex_int) (ax_cons (ex_var 4) ax_nil))))) sts_nil)
    (sts_cons (st_sto (pv 3) (ex_add (ex_item (ex_var 3) ex_int) ex_int) ex_int)
    (sts_cons (st_if (tx_cmp (op_gt) snd_gt (ex_item (ex_var 3) ex_int) (ex_item (ex_var 3) ex_int) (nomark _)) (sts_one (st_ret (ex_tup (ax_cons ex_bl (ax_cons ex_str ax_nil))))) sts_nil)
    (sts_cons (st_set (i := 6) nd (ex_item (ex_lc rfl nd (sx_seq (ex_var 0)) (blkOk_by (own := [("_law_one", 8)]) (N := N_law_told) (sc := defScope s_law_told) (by decide +kernel)) (fun _ _ _ _ _ => (pgt_name (i := 8) nd)) (fun _ _ _ _ _ => (ltx_one (tx_cmp (op_eqA hu) snd_eq (ex_item (ex_var 8) ex_int) (ex_item (ex_var 1) ex_int) (nomark _)))) (fun _ _ _ _ _ => (ex_var 8))) ex_int))
    (sts_one (st_ret (ex_call (sg := [false, false, false, true]) h_law_told hr l_law_told tk rfl (ax_cons (ex_var 0) (ax_cons (ex_item (ex_var 6) ex_int) (ax_cons (ex_dictZip rfl (B _ (by decide)) (B _ (by decide)) (ax_cons (ex_item (ex_var 6) ex_int) (ax_cons (ex_var 4) ax_nil))) (ax_cons (ex_var 3) ax_nil)))))))))))))))))
abbrev s_law_run : Stmt := topS 45
abbrev N_law_run : List Str := ["_law_program_here", "_law_inputs_here", "_law_most"]
theorem sc_law_run : FnScope N_law_run ["_law_program_here", "_law_inputs_here", "_law_most"] (defScope s_law_run) := ⟨rfl, rfl, rfl, by decide +kernel, rfl, by decide +kernel, by decide +kernel⟩
def b_law_run (f_law_told : List Ar → FR) : Sx := (retS (callWF 4 f_law_told (consF (vF 0) (consF (op2F ixD (op2F ixD (vF 0) (cF (.int 0))) (cF (.int 2))) (consF (imF (blF dzipG (consF (op2F ixD (op2F ixD (vF 0) (cF (.int 0))) (cF (.int 1))) (consF (vF 1) nilF)))) (consF (lstF (consF (cF (.int 0)) (consF (vF 2) nilF))) nilF))))))
theorem ok_law_run {P : Program} {w : World} {K : PySem.W.Frag} {mg : Str → Option Value} {base : Heap} {f : Addr} {fd : FuncData} {k : Nat} (B : Blt mg) (F : Fun K "_law_run" "_law_run" s_law_run f fd) (hm : mg "_law_run" = some (.ref f)) (hb : Binds K fd ["_law_program_here", "_law_inputs_here", "_law_most"] []) {f_law_told : List Ar → FR} {k_law_told : Nat} (h_law_told : Cal P w K mg base k_law_told "_law_told" 4 f_law_told) (l_law_told : k_law_told ≤ k) : Cal P w K mg base (k + 1) "_law_run" 3 (runF 3 (b_law_run f_law_told)) := by
  refine fn_cal F sc_law_run hm hb rfl (by decide) fun cdv A outer s H E hr => ?_
  have hu := hu65 hr
  have nd := sc_law_run.nd
  have tk := L2N.takes_of (X := cxOf (L2N.CX P w) P w K mg base N_law_run "_law_run" (defScope s_law_run) f cdv A outer s H E) (E := E) rfl rfl rfl rfl
  exact (sts_one (st_ret (ex_callW h_law_told hr l_law_told tk (ax_cons (ex_var 0) (ax_cons (ex_item (ex_item (ex_var 0) ex_int) ex_int) (ax_cons (ex_im (ex_dictZip rfl (B _ (by decide)) (B _ (by decide)) (ax_cons (ex_item (ex_item (ex_var 0) ex_int) ex_int) (ax_cons (ex_var 1) ax_nil)))) (ax_cons (ex_lst (ax_cons ex_int (ax_cons (ex_var 2) ax_nil))) ax_nil)))))))
abbrev s_law_word : Stmt := topS 46
abbrev N_law_word : List Str := ["_law_e", "_law_words"]
theorem sc_law_word : FnScope N_law_word ["_law_e"] (defScope s_law_word) := ⟨rfl, rfl, rfl, by decide +kernel, rfl, by decide +kernel, by decide +kernel⟩
def b_law_word (q_NoNumber : Str → Bool) (q_NoList : Str → Bool) (q_NoFirst : Str → Bool) (q_NoDown : Str → Bool) (q_ByNought : Str → Bool) (q_TooGreat : Str → Bool) (q_TooLong : Str → Bool) (q_NoText : Str → Bool) (q_NotKept : Str → Bool) (q_ValueError : Str → Bool) (a : Addr) (c : Str) : Sx := (seqS (asgS 1 (op2F addD (op2F mulD (lstF (consF (cF (.str "NoNumber")) nilF)) (blF intG (consF (isEF 0 a (q_NoNumber c)) nilF))) (op2F mulD (lstF (consF (cF (.str "NoList")) nilF)) (blF intG (consF (isEF 0 a (q_NoList c)) nilF)))))
    (seqS (asgS 1 (op2F addD (op2F addD (vF 1) (op2F mulD (lstF (consF (cF (.str "NoFirst")) nilF)) (blF intG (consF (isEF 0 a (q_NoFirst c)) nilF)))) (op2F mulD (lstF (consF (cF (.str "NoDown")) nilF)) (blF intG (consF (isEF 0 a (q_NoDown c)) nilF)))))
    (seqS (asgS 1 (op2F addD (op2F addD (vF 1) (op2F mulD (lstF (consF (cF (.str "ByNought")) nilF)) (blF intG (consF (isEF 0 a (q_ByNought c)) nilF)))) (op2F mulD (lstF (consF (cF (.str "TooGreat")) nilF)) (blF intG (consF (isEF 0 a (q_TooGreat c)) nilF)))))
    (seqS (asgS 1 (op2F addD (op2F addD (vF 1) (op2F mulD (lstF (consF (cF (.str "TooLong")) nilF)) (blF intG (consF (isEF 0 a (q_TooLong c)) nilF)))) (op2F mulD (lstF (consF (cF (.str "other")) nilF)) (blF intG (consF (isEF 0 a ((q_NotKept c || (q_NoText c || false)))) nilF)))))
    (seqS (ifS (orF (op2F neD (blF lenG (consF (vF 1) nilF)) (cF (.int 1))) (notF (isEF 0 a (q_ValueError c)))) (retS (cF (.str "other"))) passS)
    (retS (op2F ixD (vF 1) (cF (.int 0)))))))))
theorem ok_law_word {P : Program} {w : World} {K : PySem.W.Frag} {mg : Str → Option Value} {base : Heap} {f : Addr} {fd : FuncData} {k : Nat} (B : Blt mg) (F : Fun K "_law_word" "_law_word" s_law_word f fd) (hm : mg "_law_word" = some (.ref f)) (hb : Binds K fd ["_law_e"] []) {L : List Str} (GC : GCls K mg L) {q_NoNumber : Str → Bool} (A_NoNumber : GAsk K mg L "NoNumber" q_NoNumber) {q_NoList : Str → Bool} (A_NoList : GAsk K mg L "NoList" q_NoList) {q_NoFirst : Str → Bool} (A_NoFirst : GAsk K mg L "NoFirst" q_NoFirst) {q_NoDown : Str → Bool} (A_NoDown : GAsk K mg L "NoDown" q_NoDown) {q_ByNought : Str → Bool} (A_ByNought : GAsk K mg L "ByNought" q_ByNought) {q_TooGreat : Str → Bool} (A_TooGreat : GAsk K mg L "TooGreat" q_TooGreat) {q_TooLong : Str → Bool} (A_TooLong : GAsk K mg L "TooLong" q_TooLong) {q_NoText : Str → Bool} (A_NoText : GAsk K mg L "NoText" q_NoText) {q_NotKept : Str → Bool} (A_NotKept : GAsk K mg L "NotKept" q_NotKept) {q_ValueError : Str → Bool} (A_ValueError : GAsk K mg L "ValueError" q_ValueError) : CalE P w K mg base (k + 1) "_law_word" L (fun a c => runF 2 (b_law_word q_NoNumber q_NoList q_NoFirst q_NoDown q_ByNought q_TooGreat q_TooLong q_NoText q_NotKept q_ValueError a c)) := by
  refine fnE_cal F sc_law_word hm hb rfl (by decide) fun cdv p c C A outer s H E hc hx hr => ?_
  have hu := hu65H hr
  have nd := sc_law_word.nd
  have hp : p ∈ [p] := List.mem_singleton.mpr rfl
  exact (sts_cons (st_set (i := 1) nd (ex_add (ex_mul (ex_lst (ax_cons ex_str ax_nil)) (ex_intC (B _ (by decide)) (ax_cons (ex_isE (i := 0) (B _ (by decide)) hp hx hc GC A_NoNumber) ax_nil))) (ex_mul (ex_lst (ax_cons ex_str ax_nil)) (ex_intC (B _ (by decide)) (ax_cons (ex_isE (i := 0) (B _ (by decide)) hp hx hc GC A_NoList) ax_nil)))))
    (sts_cons (st_set (i := 1) nd (ex_add (ex_add (ex_var 1) (ex_mul (ex_lst (ax_cons ex_str ax_nil)) (ex_intC (B _ (by decide)) (ax_cons (ex_isE (i := 0) (B _ (by decide)) hp hx hc GC A_NoFirst) ax_nil)))) (ex_mul (ex_lst (ax_cons ex_str ax_nil)) (ex_intC (B _ (by decide)) (ax_cons (ex_isE (i := 0) (B _ (by decide)) hp hx hc GC A_NoDown) ax_nil)))))
    (sts_cons (st_set (i := 1) nd (ex_add (ex_add (ex_var 1) (ex_mul (ex_lst (ax_cons ex_str ax_nil)) (ex_intC (B _ (by decide)) (ax_cons (ex_isE (i := 0) (B _ (by decide)) hp hx hc GC A_ByNought) ax_nil)))) (ex_mul (ex_lst (ax_cons ex_str ax_nil)) (ex_intC (B _ (by decide)) (ax_cons (ex_isE (i := 0) (B _ (by decide)) hp hx hc GC A_TooGreat) ax_nil)))))
    (sts_cons (st_set (i := 1) nd (ex_add (ex_add (ex_var 1) (ex_mul (ex_lst (ax_cons ex_str ax_nil)) (ex_intC (B _ (by decide)) (ax_cons (ex_isE (i := 0) (B _ (by decide)) hp hx hc GC A_TooLong) ax_nil)))) (ex_mul (ex_lst (ax_cons ex_str ax_nil)) (ex_intC (B _ (by decide)) (ax_cons (ex_isET (i := 0) (B _ (by decide)) hp hx hc GC (kx_cons A_NotKept (kx_cons A_NoText kx_nil))) ax_nil)))))
    (sts_cons (st_if (tx_w (tw_or (tx_cmp (op_neA hu) snd_ne (ex_len (B _ (by decide)) (ax_cons (ex_var 1) ax_nil)) ex_int (nomark _)) (tw_or1 (tx_not (tx_val (ex_isE (i := 0) (B _ (by decide)) hp hx hc GC A_ValueError)))))) (sts_one (st_ret ex_str)) sts_nil)
    (sts_one (st_ret (ex_item (ex_var 1) ex_int))))))))
abbrev s_law_ran : Stmt := topS 47
abbrev N_law_ran : List Str := ["_law_program_here", "_law_inputs_here", "_law_most", "_law_e"]
theorem sc_law_ran : FnScope N_law_ran ["_law_program_here", "_law_inputs_here", "_law_most"] (defScope s_law_ran) := ⟨rfl, rfl, rfl, by decide +kernel, rfl, by decide +kernel, by decide +kernel⟩
def b_law_ran (f_run : List Ar → FR) (d_law_word : Str → Option D) (L : List Str) : Sx := (tryF L 3 (retS (tupF (consF (cF (.bl true)) (consF (callF [false, false, false] f_run (consF (vF 0) (consF (vF 1) (consF (vF 2) nilF)))) nilF)))) (fun a c => (retS (tupF (consF (cF (.bl false)) (consF (callF [false] (wordR d_law_word a c) (consF (vF 3) nilF)) nilF))))))
theorem ok_law_ran {P : Program} {w : World} {K : PySem.W.Frag} {mg : Str → Option Value} {base : Heap} {f : Addr} {fd : FuncData} {k : Nat} (B : Blt mg) (F : Fun K "_law_ran" "_law_ran" s_law_ran f fd) (hm : mg "_law_ran" = some (.ref f)) (hb : Binds K fd ["_law_program_here", "_law_inputs_here", "_law_most"] []) {f_run : List Ar → FR} {k_run : Nat} (h_run : Cal P w K mg base k_run "run" 3 f_run) (l_run : k_run ≤ k) (L : List Str) (y_HalfError : GTry K mg L "HalfError") {d_law_word : Str → Option D} {k_law_word : Nat} (h_law_word : CalE P w K mg base k_law_word "_law_word" L (wordR d_law_word)) (l_law_word : k_law_word ≤ k) : Cal P w K mg base (k + 1) "_law_ran" 3 (runF 4 (b_law_ran f_run d_law_word L)) := by
  refine fn_cal F sc_law_ran hm hb rfl (by decide) fun cdv A outer s H E hr => ?_
  have hu := hu65 hr
  have nd := sc_law_ran.nd
  have tk := L2N.takes_of (X := cxOf (L2N.CX P w) P w K mg base N_law_ran "_law_ran" (defScope s_law_ran) f cdv A outer s H E) (E := E) rfl rfl rfl rfl
  exact (sts_one (st_tryAs (i := 3) y_HalfError tk (fun _ _ _ tk pas => (sts_one (st_ret (ex_tup (ax_cons ex_bl (ax_cons (ex_call (sg := [false, false, false]) h_run hr l_run tk rfl (ax_cons (ex_var 0) (ax_cons (ex_var 1) (ax_cons (ex_var 2) ax_nil)))) ax_nil)))))) (fun p c C pn hc hx => (sts_one (st_ret (ex_tup (ax_cons ex_bl (ax_cons (ex_callE h_law_word (room_mark hr _) l_law_word (hot_suite hx) List.mem_cons_self hx hc takes0N (ax_cons (ex_var 3) ax_nil)) ax_nil)))))) hT_word nd))
abbrev s_law_names : Stmt := topS 48
abbrev N_law_names : List Str := ["_law_cell", "_law_size", "_law_place", "_law_some", "_law_found", "_law_k", "_law_sign"]
theorem sc_law_names : FnScope N_law_names ["_law_cell"] (defScope s_law_names) := ⟨rfl, rfl, rfl, by decide +kernel, rfl, by decide +kernel, by decide +kernel⟩
def E0_law_names : Fx := (op2F ixD (vF 3) (op2F modD (op2F addD (op2F divD (vF 0) (cF (.int 9))) (vF 5)) (cF (.int 12))))
def L0_law_names : Sx := (seqS (asgS 6 (op2F ixD (vF 3) (op2F modD (op2F addD (op2F divD (vF 0) (cF (.int 64))) (vF 5)) (op2F ixD (lstF (consF (cF (.int 26)) (consF (cF (.int 36)) nilF))) (blF intG (consF (op2F gtD (vF 2) (cF (.int 0))) nilF))))))
    (exprS (mtF appM 4 (consF (op2F addD (op2F addD (op2F mulD (cF (.str "m")) (vF 2)) (vF 6)) (op2F mulD (cF (.str "m")) (op2F subD (op2F subD (vF 1) (cF (.int 1))) (vF 2)))) nilF))))
def b_law_names : Sx := (seqS (ifS (op2F eqD (op2F modD (vF 0) (cF (.int 9))) (cF (.int 8))) (seqS (asgS 3 (lstF (consF (cF (.str "ifs")) (consF (cF (.str "listx")) (consF (cF (.str "plus2")) (consF (cF (.str "refuses")) (consF (cF (.str "rested")) (consF (cF (.str "downs")) (consF (cF (.str "same1")) (consF (cF (.str "joins")) (consF (cF (.str "overs")) (consF (cF (.str "firsts")) nilF))))))))))))
    (seqS (asgS 3 (op2F addD (vF 3) (lstF (consF (cF (.str "emptyx")) (consF (cF (.str "a9")) nilF)))))
    (retS (lcF (rngS' rng1 (consF (cF (.int 12)) nilF)) (Tg.F (.nm 5)) yesF (E0_law_names) [5])))) passS)
    (seqS (asgS 1 (op2F addD (cF (.int 1)) (op2F modD (vF 0) (cF (.int 8)))))
    (seqS (asgS 2 (op2F modD (op2F divD (vF 0) (cF (.int 8))) (vF 1)))
    (seqS (asgS 3 (cF (.str "abcdefghijklmnopqrstuvwxyz0123456789")))
    (seqS (asgS 4 (lstF nilF))
    (seqS (forS (rngS' rng1 (consF (cF (.int 12)) nilF)) (Tg.F (.nm 5)) (L0_law_names))
    (retS (vF 4))))))))
theorem ok_law_names {P : Program} {w : World} {K : PySem.W.Frag} {mg : Str → Option Value} {base : Heap} {f : Addr} {fd : FuncData} {k : Nat} (B : Blt mg) (F : Fun K "_law_names" "_law_names" s_law_names f fd) (hm : mg "_law_names" = some (.ref f)) (hb : Binds K fd ["_law_cell"] []) : Cal P w K mg base (k + 1) "_law_names" 1 (runF 7 (b_law_names)) := by
  refine fn_cal F sc_law_names hm hb rfl (by decide) fun cdv A outer s H E hr => ?_
  have hu := hu65 hr
  have nd := sc_law_names.nd
  have tk := L2N.takes_of (X := cxOf (L2N.CX P w) P w K mg base N_law_names "_law_names" (defScope s_law_names) f cdv A outer s H E) (E := E) rfl rfl rfl rfl
  exact (sts_cons (st_if (tx_cmp (op_eqA hu) snd_eq (ex_mod (ex_var 0) ex_int) ex_int (nomark _)) (sts_cons (st_set (i := 3) nd (ex_lst (ax_cons ex_str (ax_cons ex_str (ax_cons ex_str (ax_cons ex_str (ax_cons ex_str (ax_cons ex_str (ax_cons ex_str (ax_cons ex_str (ax_cons ex_str (ax_cons ex_str ax_nil))))))))))))
    (sts_cons (st_set (i := 3) nd (ex_add (ex_var 3) (ex_lst (ax_cons ex_str (ax_cons ex_str ax_nil)))))
    (sts_one (st_ret (ex_lc rfl nd (sx_range1 (B _ (by decide)) (ax_cons ex_int ax_nil)) (blkOk_by (own := [("_law_k", 5)]) (N := N_law_names) (sc := defScope s_law_names) (by decide +kernel)) (fun _ _ _ _ _ => (pgt_name (i := 5) nd)) (fun _ _ _ _ _ => ltx_nil) (fun _ _ _ _ _ => (ex_item (ex_var 3) (ex_mod (ex_add (ex_div (ex_var 0) ex_int) (ex_var 5)) ex_int)))))))) sts_nil)
    (sts_cons (st_set (i := 1) nd (ex_add ex_int (ex_mod (ex_var 0) ex_int)))
    (sts_cons (st_set (i := 2) nd (ex_mod (ex_div (ex_var 0) ex_int) (ex_var 1)))
    (sts_cons (st_set (i := 3) nd ex_str)
    (sts_cons (st_set (i := 4) nd (ex_lst ax_nil))
    (sts_cons (st_for (passes_of rfl) rfl (sx_range1 (B _ (by decide)) (ax_cons ex_int ax_nil)) (Tg.gx (t := (.nm 5)) (pgt_name (i := 5) nd)) (sts_cons (st_set (i := 6) nd (ex_item (ex_var 3) (ex_mod (ex_add (ex_div (ex_var 0) ex_int) (ex_var 5)) (ex_item (ex_lst (ax_cons ex_int (ax_cons ex_int ax_nil))) (ex_intC (B _ (by decide)) (ax_cons (ex_gt (ex_var 2) ex_int) ax_nil))))))
    (sts_one (st_expr (ex_append (pv 4) (ax_cons (ex_add (ex_add (ex_mul ex_str (ex_var 2)) (ex_var 6)) (ex_mul ex_str (ex_sub (ex_sub (ex_var 1) ex_int) (ex_var 2)))) ax_nil))))))
    (sts_one (st_ret (ex_var 4)))))))))
abbrev s_law_few : Stmt := topS 49
abbrev N_law_few : List Str := ["_law_pick", "_law_way", "_law_some"]
theorem sc_law_few : FnScope N_law_few ["_law_pick", "_law_way"] (defScope s_law_few) := ⟨rfl, rfl, rfl, by decide +kernel, rfl, by decide +kernel, by decide +kernel⟩
def b_law_few : Sx := (seqS (asgS 2 (lstF (consF (cF (.int 0)) (consF (cF (.int 1)) (consF (cF (.int 2)) (consF (tupF nilF) (consF (tupF (consF (cF (.int 1)) nilF)) (consF (tupF (consF (cF (.int 2)) (consF (cF (.int 0)) nilF))) (consF (tupF (consF (tupF nilF) (consF (cF (.int 1)) nilF))) (consF (cF (.int 3)) nilF))))))))))
    (seqS (ifS (op2F eqD (vF 1) (cF (.int 1))) (asgS 2 (lstF (consF (cF (.int 3)) (consF (negF (cF (.int 1))) (consF (tupF (consF (cF (.int 1)) (consF (cF (.int 2)) nilF))) (consF (cF (.int 0)) nilF)))))) passS)
    (seqS (ifS (op2F eqD (vF 1) (cF (.int 2))) (asgS 2 (lstF (consF (tupF (consF (cF (.int 0)) (consF (tupF (consF (cF (.int 1)) (consF (tupF (consF (cF (.int 2)) nilF)) nilF))) nilF))) (consF (negF (cF (.int 4))) (consF (cF (.int 2)) (consF (tupF nilF) nilF)))))) passS)
    (retS (op2F ixD (vF 2) (op2F modD (vF 0) (blF lenG (consF (vF 2) nilF))))))))
theorem ok_law_few {P : Program} {w : World} {K : PySem.W.Frag} {mg : Str → Option Value} {base : Heap} {f : Addr} {fd : FuncData} {k : Nat} (B : Blt mg) (F : Fun K "_law_few" "_law_few" s_law_few f fd) (hm : mg "_law_few" = some (.ref f)) (hb : Binds K fd ["_law_pick", "_law_way"] []) : Cal P w K mg base (k + 1) "_law_few" 2 (runF 3 (b_law_few)) := by
  refine fn_cal F sc_law_few hm hb rfl (by decide) fun cdv A outer s H E hr => ?_
  have hu := hu65 hr
  have nd := sc_law_few.nd
  have tk := L2N.takes_of (X := cxOf (L2N.CX P w) P w K mg base N_law_few "_law_few" (defScope s_law_few) f cdv A outer s H E) (E := E) rfl rfl rfl rfl
  exact (sts_cons (st_set (i := 2) nd (ex_lst (ax_cons ex_int (ax_cons ex_int (ax_cons ex_int (ax_cons (ex_tup ax_nil) (ax_cons (ex_tup (ax_cons ex_int ax_nil)) (ax_cons (ex_tup (ax_cons ex_int (ax_cons ex_int ax_nil))) (ax_cons (ex_tup (ax_cons (ex_tup ax_nil) (ax_cons ex_int ax_nil))) (ax_cons ex_int ax_nil))))))))))
    (sts_cons (st_if (tx_cmp (op_eqA hu) snd_eq (ex_var 1) ex_int (nomark _)) (sts_one (st_set (i := 2) nd (ex_lst (ax_cons ex_int (ax_cons (ex_neg ex_int) (ax_cons (ex_tup (ax_cons ex_int (ax_cons ex_int ax_nil))) (ax_cons ex_int ax_nil))))))) sts_nil)
    (sts_cons (st_if (tx_cmp (op_eqA hu) snd_eq (ex_var 1) ex_int (nomark _)) (sts_one (st_set (i := 2) nd (ex_lst (ax_cons (ex_tup (ax_cons ex_int (ax_cons (ex_tup (ax_cons ex_int (ax_cons (ex_tup (ax_cons ex_int ax_nil)) ax_nil))) ax_nil))) (ax_cons (ex_neg ex_int) (ax_cons ex_int (ax_cons (ex_tup ax_nil) ax_nil))))))) sts_nil)
    (sts_one (st_ret (ex_item (ex_var 2) (ex_mod (ex_var 0) (ex_len (B _ (by decide)) (ax_cons (ex_var 2) ax_nil)))))))))
abbrev s_law_tame : Stmt := topS 50
abbrev N_law_tame : List Str := ["_law_pick", "_law_known", "_law_heads_here", "_law_way", "_law_more", "_law_name", "_law_word_here"]
theorem sc_law_tame : FnScope N_law_tame ["_law_pick", "_law_known", "_law_heads_here"] (defScope s_law_tame) := ⟨rfl, rfl, rfl, by decide +kernel, rfl, by decide +kernel, by decide +kernel⟩
def b_law_tame (f_law_next : List Ar → FR) (f_law_few : List Ar → FR) : Sx := (seqS (asgS 3 (op2F modD (op2F divD (vF 0) (cF (.int 5))) (cF (.int 8))))
    (seqS (asgS 4 (callF [false] f_law_next (consF (vF 0) nilF)))
    (seqS (ifS (orF (op2F eqD (vF 1) (lstF nilF)) (op2F eqD (vF 3) (cF (.int 0)))) (retS (tupF (consF (cF (.str "value")) (consF (callF [false, false] f_law_few (consF (vF 4) (consF (op2F modD (blF lenG (consF (vF 2) nilF)) (cF (.int 3))) nilF))) nilF)))) passS)
    (seqS (asgS 5 (tupF (consF (cF (.str "name")) (consF (op2F ixD (vF 1) (op2F modD (vF 4) (blF lenG (consF (vF 1) nilF)))) nilF))))
    (seqS (ifS (op2F ltD (vF 3) (cF (.int 3))) (retS (vF 5)) passS)
    (seqS (asgS 6 (op2F ixD (lstF (consF (cF (.str "down")) (consF (cF (.str "first")) (consF (cF (.str "rest")) (consF (cF (.str "rest")) (consF (cF (.str "down")) nilF)))))) (op2F subD (vF 3) (cF (.int 3)))))
    (seqS (ifS (andF (op2F eqD (vF 3) (cF (.int 7))) (op2F eqD (op2F modD (op2F divD (vF 4) (cF (.int 7))) (cF (.int 3))) (cF (.int 0)))) (retS (tupF (consF (cF (.str "do")) (consF (cF (.str "rest")) (consF (tupF (consF (tupF (consF (cF (.str "do")) (consF (cF (.str "rest")) (consF (tupF (consF (vF 5) nilF)) nilF)))) nilF)) nilF))))) passS)
    (retS (tupF (consF (cF (.str "do")) (consF (vF 6) (consF (tupF (consF (vF 5) nilF)) nilF))))))))))))
theorem ok_law_tame {P : Program} {w : World} {K : PySem.W.Frag} {mg : Str → Option Value} {base : Heap} {f : Addr} {fd : FuncData} {k : Nat} (B : Blt mg) (F : Fun K "_law_tame" "_law_tame" s_law_tame f fd) (hm : mg "_law_tame" = some (.ref f)) (hb : Binds K fd ["_law_pick", "_law_known", "_law_heads_here"] []) {f_law_next : List Ar → FR} {k_law_next : Nat} (h_law_next : Cal P w K mg base k_law_next "_law_next" 1 f_law_next) (l_law_next : k_law_next ≤ k) {f_law_few : List Ar → FR} {k_law_few : Nat} (h_law_few : Cal P w K mg base k_law_few "_law_few" 2 f_law_few) (l_law_few : k_law_few ≤ k) : Cal P w K mg base (k + 1) "_law_tame" 3 (runF 7 (b_law_tame f_law_next f_law_few)) := by
  refine fn_cal F sc_law_tame hm hb rfl (by decide) fun cdv A outer s H E hr => ?_
  have hu := hu65 hr
  have nd := sc_law_tame.nd
  have tk := L2N.takes_of (X := cxOf (L2N.CX P w) P w K mg base N_law_tame "_law_tame" (defScope s_law_tame) f cdv A outer s H E) (E := E) rfl rfl rfl rfl
  exact (sts_cons (st_set (i := 3) nd (ex_mod (ex_div (ex_var 0) ex_int) ex_int))
    (sts_cons (st_set (i := 4) nd (ex_call (sg := [false]) h_law_next hr l_law_next tk rfl (ax_cons (ex_var 0) ax_nil)))
    (sts_cons (st_if (tx_w (tw_or (tx_cmp (op_eqA hu) snd_eq (ex_var 1) (ex_lst ax_nil) (nomark _)) (tw_or1 (tx_cmp (op_eqA hu) snd_eq (ex_var 3) ex_int (nomark _))))) (sts_one (st_ret (ex_tup (ax_cons ex_str (ax_cons (ex_call (sg := [false, false]) h_law_few hr l_law_few tk rfl (ax_cons (ex_var 4) (ax_cons (ex_mod (ex_len (B _ (by decide)) (ax_cons (ex_var 2) ax_nil)) ex_int) ax_nil))) ax_nil))))) sts_nil)
    (sts_cons (st_set (i := 5) nd (ex_tup (ax_cons ex_str (ax_cons (ex_item (ex_var 1) (ex_mod (ex_var 4) (ex_len (B _ (by decide)) (ax_cons (ex_var 1) ax_nil)))) ax_nil))))
    (sts_cons (st_if (tx_cmp (op_lt) snd_lt (ex_var 3) ex_int (nomark _)) (sts_one (st_ret (ex_var 5))) sts_nil)
    (sts_cons (st_set (i := 6) nd (ex_item (ex_lst (ax_cons ex_str (ax_cons ex_str (ax_cons ex_str (ax_cons ex_str (ax_cons ex_str ax_nil)))))) (ex_sub (ex_var 3) ex_int)))
    (sts_cons (st_if (tx_w (tw_and (tx_cmp (op_eqA hu) snd_eq (ex_var 3) ex_int (nomark _)) (tw_and1 (tx_cmp (op_eqA hu) snd_eq (ex_mod (ex_div (ex_var 4) ex_int) ex_int) ex_int (nomark _))))) (sts_one (st_ret (ex_tup (ax_cons ex_str (ax_cons ex_str (ax_cons (ex_tup (ax_cons (ex_tup (ax_cons ex_str (ax_cons ex_str (ax_cons (ex_tup (ax_cons (ex_var 5) ax_nil)) ax_nil)))) ax_nil)) ax_nil)))))) sts_nil)
    (sts_one (st_ret (ex_tup (ax_cons ex_str (ax_cons (ex_var 6) (ax_cons (ex_tup (ax_cons (ex_var 5) ax_nil)) ax_nil)))))))))))))
abbrev s_law_parts : Stmt := topS 51
abbrev N_law_parts : List Str := ["_law_pick", "_law_many", "_law_deep", "_law_names_here", "_law_known", "_law_heads_here", "_law_found", "_law_k"]
theorem sc_law_parts : FnScope N_law_parts ["_law_pick", "_law_many", "_law_deep", "_law_names_here", "_law_known", "_law_heads_here"] (defScope s_law_parts) := ⟨rfl, rfl, rfl, by decide +kernel, rfl, by decide +kernel, by decide +kernel⟩
def L0_law_parts (f_law_form : List Ar → FR) (f_law_next : List Ar → FR) : Sx := (exprS (mtF appM 6 (consF (callF [false, false, false, false, false] f_law_form (consF (callF [false] f_law_next (consF (op2F addD (vF 0) (op2F mulD (cF (.int 7919)) (vF 7))) nilF)) (consF (vF 2) (consF (vF 3) (consF (vF 4) (consF (vF 5) nilF)))))) nilF)))
def b_law_parts (f_law_form : List Ar → FR) (f_law_next : List Ar → FR) : Sx := (seqS (asgS 6 (lstF nilF))
    (seqS (forS (rngS' rng1 (consF (vF 1) nilF)) (Tg.F (.nm 7)) (L0_law_parts f_law_form f_law_next))
    (retS (blF tupG (consF (vF 6) nilF)))))
theorem ok_law_parts {P : Program} {w : World} {K : PySem.W.Frag} {mg : Str → Option Value} {base : Heap} {f : Addr} {fd : FuncData} {k : Nat} (B : Blt mg) (F : Fun K "_law_parts" "_law_parts" s_law_parts f fd) (hm : mg "_law_parts" = some (.ref f)) (hb : Binds K fd ["_law_pick", "_law_many", "_law_deep", "_law_names_here", "_law_known", "_law_heads_here"] []) {f_law_form : List Ar → FR} {k_law_form : Nat} (h_law_form : Cal P w K mg base k_law_form "_law_form" 5 f_law_form) (l_law_form : k_law_form ≤ k) {f_law_next : List Ar → FR} {k_law_next : Nat} (h_law_next : Cal P w K mg base k_law_next "_law_next" 1 f_law_next) (l_law_next : k_law_next ≤ k) : Cal P w K mg base (k + 1) "_law_parts" 6 (runF 8 (b_law_parts f_law_form f_law_next)) := by
  refine fn_cal F sc_law_parts hm hb rfl (by decide) fun cdv A outer s H E hr => ?_
  have hu := hu65 hr
  have nd := sc_law_parts.nd
  have tk := L2N.takes_of (X := cxOf (L2N.CX P w) P w K mg base N_law_parts "_law_parts" (defScope s_law_parts) f cdv A outer s H E) (E := E) rfl rfl rfl rfl
  exact (sts_cons (st_set (i := 6) nd (ex_lst ax_nil))
    (sts_cons (st_for (passes_of rfl) rfl (sx_range1 (B _ (by decide)) (ax_cons (ex_var 1) ax_nil)) (Tg.gx (t := (.nm 7)) (pgt_name (i := 7) nd)) (sts_one (st_expr (ex_append (pv 6) (ax_cons (ex_call (sg := [false, false, false, false, false]) h_law_form hr l_law_form tk rfl (ax_cons (ex_call (sg := [false]) h_law_next hr l_law_next tk rfl (ax_cons (ex_add (ex_var 0) (ex_mul ex_int (ex_var 7))) ax_nil)) (ax_cons (ex_var 2) (ax_cons (ex_var 3) (ax_cons (ex_var 4) (ax_cons (ex_var 5) ax_nil)))))) ax_nil)))))
    (sts_one (st_ret (ex_tupC (B _ (by decide)) (ax_cons (ex_var 6) ax_nil))))))
abbrev s_law_call : Stmt := topS 52
abbrev N_law_call : List Str := ["_law_pick", "_law_deep", "_law_names_here", "_law_known", "_law_heads_here", "_law_head", "_law_parts_here", "_law_k", "_law_more"]
theorem sc_law_call : FnScope N_law_call ["_law_pick", "_law_deep", "_law_names_here", "_law_known", "_law_heads_here"] (defScope s_law_call) := ⟨rfl, rfl, rfl, by decide +kernel, rfl, by decide +kernel, by decide +kernel⟩
def L0_law_call (f_law_next : List Ar → FR) (f_law_tame : List Ar → FR) (f_law_form : List Ar → FR) : Sx := (seqS (asgS 8 (callF [false] f_law_next (consF (op2F addD (vF 0) (op2F mulD (cF (.int 7919)) (vF 7))) nilF)))
    (ifS (op2F ixD (op2F ixD (vF 5) (cF (.int 2))) (vF 7)) (exprS (mtF appM 6 (consF (callF [false, false, false] f_law_tame (consF (vF 8) (consF (vF 3) (consF (vF 4) nilF)))) nilF))) (exprS (mtF appM 6 (consF (callF [false, false, false, false, false] f_law_form (consF (vF 8) (consF (vF 1) (consF (vF 2) (consF (vF 3) (consF (vF 4) nilF)))))) nilF)))))
def b_law_call (f_law_next : List Ar → FR) (f_law_tame : List Ar → FR) (f_law_form : List Ar → FR) : Sx := (seqS (asgS 5 (op2F ixD (vF 4) (op2F modD (vF 0) (blF lenG (consF (vF 4) nilF)))))
    (seqS (asgS 6 (lstF nilF))
    (seqS (forS (rngS' rng1 (consF (blF lenG (consF (op2F ixD (vF 5) (cF (.int 1))) nilF)) nilF)) (Tg.F (.nm 7)) (L0_law_call f_law_next f_law_tame f_law_form))
    (retS (tupF (consF (cF (.str "call")) (consF (op2F ixD (vF 5) (cF (.int 0))) (consF (blF tupG (consF (vF 6) nilF)) nilF))))))))
theorem ok_law_call {P : Program} {w : World} {K : PySem.W.Frag} {mg : Str → Option Value} {base : Heap} {f : Addr} {fd : FuncData} {k : Nat} (B : Blt mg) (F : Fun K "_law_call" "_law_call" s_law_call f fd) (hm : mg "_law_call" = some (.ref f)) (hb : Binds K fd ["_law_pick", "_law_deep", "_law_names_here", "_law_known", "_law_heads_here"] []) {f_law_next : List Ar → FR} {k_law_next : Nat} (h_law_next : Cal P w K mg base k_law_next "_law_next" 1 f_law_next) (l_law_next : k_law_next ≤ k) {f_law_tame : List Ar → FR} {k_law_tame : Nat} (h_law_tame : Cal P w K mg base k_law_tame "_law_tame" 3 f_law_tame) (l_law_tame : k_law_tame ≤ k) {f_law_form : List Ar → FR} {k_law_form : Nat} (h_law_form : Cal P w K mg base k_law_form "_law_form" 5 f_law_form) (l_law_form : k_law_form ≤ k) : Cal P w K mg base (k + 1) "_law_call" 5 (runF 9 (b_law_call f_law_next f_law_tame f_law_form)) := by
  refine fn_cal F sc_law_call hm hb rfl (by decide) fun cdv A outer s H E hr => ?_
  have hu := hu65 hr
  have nd := sc_law_call.nd
  have tk := L2N.takes_of (X := cxOf (L2N.CX P w) P w K mg base N_law_call "_law_call" (defScope s_law_call) f cdv A outer s H E) (E := E) rfl rfl rfl rfl
  exact (sts_cons (st_set (i := 5) nd (ex_item (ex_var 4) (ex_mod (ex_var 0) (ex_len (B _ (by decide)) (ax_cons (ex_var 4) ax_nil)))))
    (sts_cons (st_set (i := 6) nd (ex_lst ax_nil))
    (sts_cons (st_for (passes_of rfl) rfl (sx_range1 (B _ (by decide)) (ax_cons (ex_len (B _ (by decide)) (ax_cons (ex_item (ex_var 5) ex_int) ax_nil)) ax_nil)) (Tg.gx (t := (.nm 7)) (pgt_name (i := 7) nd)) (sts_cons (st_set (i := 8) nd (ex_call (sg := [false]) h_law_next hr l_law_next tk rfl (ax_cons (ex_add (ex_var 0) (ex_mul ex_int (ex_var 7))) ax_nil)))
    (sts_one (st_if (tx_val (ex_item (ex_item (ex_var 5) ex_int) (ex_var 7))) (sts_one (st_expr (ex_append (pv 6) (ax_cons (ex_call (sg := [false, false, false]) h_law_tame hr l_law_tame tk rfl (ax_cons (ex_var 8) (ax_cons (ex_var 3) (ax_cons (ex_var 4) ax_nil)))) ax_nil)))) (sts_one (st_expr (ex_append (pv 6) (ax_cons (ex_call (sg := [false, false, false, false, false]) h_law_form hr l_law_form tk rfl (ax_cons (ex_var 8) (ax_cons (ex_var 1) (ax_cons (ex_var 2) (ax_cons (ex_var 3) (ax_cons (ex_var 4) ax_nil)))))) ax_nil))))))))
    (sts_one (st_ret (ex_tup (ax_cons ex_str (ax_cons (ex_item (ex_var 5) ex_int) (ax_cons (ex_tupC (B _ (by decide)) (ax_cons (ex_var 6) ax_nil)) ax_nil)))))))))
abbrev s_law_do : Stmt := topS 53
abbrev N_law_do : List Str := ["_law_pick", "_law_deep", "_law_names_here", "_law_known", "_law_heads_here", "_law_word_here", "_law_many"]
theorem sc_law_do : FnScope N_law_do ["_law_pick", "_law_deep", "_law_names_here", "_law_known", "_law_heads_here"] (defScope s_law_do) := ⟨rfl, rfl, rfl, by decide +kernel, rfl, by decide +kernel, by decide +kernel⟩
def b_law_do (f_law_parts : List Ar → FR) (f_law_next : List Ar → FR) : Sx := (seqS (asgS 5 (lstF (consF (cF (.str "plus")) (consF (cF (.str "minus")) (consF (cF (.str "times")) (consF (cF (.str "over")) (consF (cF (.str "less")) (consF (cF (.str "same")) (consF (cF (.str "join")) (consF (cF (.str "first")) (consF (cF (.str "rest")) (consF (cF (.str "empty")) (consF (cF (.str "down")) (consF (cF (.str "list")) nilF))))))))))))))
    (seqS (asgS 5 (op2F ixD (vF 5) (op2F modD (vF 0) (cF (.int 12)))))
    (seqS (asgS 6 (cF (.int 2)))
    (seqS (ifS (op2F inD (vF 5) (tupF (consF (cF (.str "first")) (consF (cF (.str "rest")) (consF (cF (.str "empty")) (consF (cF (.str "down")) nilF)))))) (asgS 6 (cF (.int 1))) passS)
    (seqS (ifS (op2F eqD (vF 5) (cF (.str "list"))) (asgS 6 (op2F ixD (lstF (consF (cF (.int 0)) (consF (cF (.int 1)) (consF (cF (.int 2)) (consF (cF (.int 3)) (consF (cF (.int 8)) (consF (cF (.int 5)) (consF (cF (.int 1)) (consF (cF (.int 2)) nilF))))))))) (op2F modD (op2F divD (vF 0) (cF (.int 12))) (cF (.int 8))))) passS)
    (seqS (ifS (op2F gtD (vF 6) (cF (.int 3))) (asgS 1 (cF (.int 0))) passS)
    (retS (tupF (consF (cF (.str "do")) (consF (vF 5) (consF (callF [false, false, false, false, false, false] f_law_parts (consF (callF [false] f_law_next (consF (vF 0) nilF)) (consF (vF 6) (consF (vF 1) (consF (vF 2) (consF (vF 3) (consF (vF 4) nilF))))))) nilF)))))))))))
theorem ok_law_do {P : Program} {w : World} {K : PySem.W.Frag} {mg : Str → Option Value} {base : Heap} {f : Addr} {fd : FuncData} {k : Nat} (B : Blt mg) (F : Fun K "_law_do" "_law_do" s_law_do f fd) (hm : mg "_law_do" = some (.ref f)) (hb : Binds K fd ["_law_pick", "_law_deep", "_law_names_here", "_law_known", "_law_heads_here"] []) {f_law_parts : List Ar → FR} {k_law_parts : Nat} (h_law_parts : Cal P w K mg base k_law_parts "_law_parts" 6 f_law_parts) (l_law_parts : k_law_parts ≤ k) {f_law_next : List Ar → FR} {k_law_next : Nat} (h_law_next : Cal P w K mg base k_law_next "_law_next" 1 f_law_next) (l_law_next : k_law_next ≤ k) : Cal P w K mg base (k + 1) "_law_do" 5 (runF 7 (b_law_do f_law_parts f_law_next)) := by
  refine fn_cal F sc_law_do hm hb rfl (by decide) fun cdv A outer s H E hr => ?_
  have hu := hu65 hr
  have nd := sc_law_do.nd
  have tk := L2N.takes_of (X := cxOf (L2N.CX P w) P w K mg base N_law_do "_law_do" (defScope s_law_do) f cdv A outer s H E) (E := E) rfl rfl rfl rfl
  exact (sts_cons (st_set (i := 5) nd (ex_lst (ax_cons ex_str (ax_cons ex_str (ax_cons ex_str (ax_cons ex_str (ax_cons ex_str (ax_cons ex_str (ax_cons ex_str (ax_cons ex_str (ax_cons ex_str (ax_cons ex_str (ax_cons ex_str (ax_cons ex_str ax_nil))))))))))))))
    (sts_cons (st_set (i := 5) nd (ex_item (ex_var 5) (ex_mod (ex_var 0) ex_int)))
    (sts_cons (st_set (i := 6) nd ex_int)
    (sts_cons (st_if (tx_cmp (op_inA hu) snd_in (ex_var 5) (ex_tup (ax_cons ex_str (ax_cons ex_str (ax_cons ex_str (ax_cons ex_str ax_nil))))) rfl) (sts_one (st_set (i := 6) nd ex_int)) sts_nil)
    (sts_cons (st_if (tx_cmp (op_eqA hu) snd_eq (ex_var 5) ex_str (nomark _)) (sts_one (st_set (i := 6) nd (ex_item (ex_lst (ax_cons ex_int (ax_cons ex_int (ax_cons ex_int (ax_cons ex_int (ax_cons ex_int (ax_cons ex_int (ax_cons ex_int (ax_cons ex_int ax_nil))))))))) (ex_mod (ex_div (ex_var 0) ex_int) ex_int)))) sts_nil)
    (sts_cons (st_if (tx_cmp (op_gt) snd_gt (ex_var 6) ex_int (nomark _)) (sts_one (st_set (i := 1) nd ex_int)) sts_nil)
    (sts_one (st_ret (ex_tup (ax_cons ex_str (ax_cons (ex_var 5) (ax_cons (ex_call (sg := [false, false, false, false, false, false]) h_law_parts hr l_law_parts tk rfl (ax_cons (ex_call (sg := [false]) h_law_next hr l_law_next tk rfl (ax_cons (ex_var 0) ax_nil)) (ax_cons (ex_var 6) (ax_cons (ex_var 1) (ax_cons (ex_var 2) (ax_cons (ex_var 3) (ax_cons (ex_var 4) ax_nil))))))) ax_nil))))))))))))
abbrev s_law_form : Stmt := topS 54
abbrev N_law_form : List Str := ["_law_pick", "_law_deep", "_law_names_here", "_law_known", "_law_heads_here", "_law_way", "_law_more"]
theorem sc_law_form : FnScope N_law_form ["_law_pick", "_law_deep", "_law_names_here", "_law_known", "_law_heads_here"] (defScope s_law_form) := ⟨rfl, rfl, rfl, by decide +kernel, rfl, by decide +kernel, by decide +kernel⟩
def b_law_form (f_law_next : List Ar → FR) (f_law_value : List Ar → FR) (f_law_parts : List Ar → FR) (f_law_do : List Ar → FR) (f_law_call : List Ar → FR) : Sx := (seqS (asgS 5 (op2F modD (op2F divD (vF 0) (cF (.int 3))) (cF (.int 13))))
    (seqS (asgS 6 (callF [false] f_law_next (consF (vF 0) nilF)))
    (seqS (ifS (orF (op2F eqD (vF 1) (cF (.int 0))) (op2F ltD (vF 5) (cF (.int 3)))) (seqS (ifS (andF (op2F neD (vF 2) (lstF nilF)) (op2F gtD (op2F modD (vF 6) (cF (.int 4))) (cF (.int 0)))) (retS (tupF (consF (cF (.str "name")) (consF (op2F ixD (vF 2) (op2F modD (op2F divD (vF 6) (cF (.int 4))) (blF lenG (consF (vF 2) nilF)))) nilF)))) passS)
    (retS (tupF (consF (cF (.str "value")) (consF (callF [false] f_law_value (consF (op2F divD (vF 6) (cF (.int 4))) nilF)) nilF))))) passS)
    (seqS (ifS (op2F ltD (vF 5) (cF (.int 6))) (retS (op2F addD (tupF (consF (cF (.str "if")) nilF)) (callF [false, false, false, false, false, false] f_law_parts (consF (vF 6) (consF (cF (.int 3)) (consF (op2F subD (vF 1) (cF (.int 1))) (consF (vF 2) (consF (vF 3) (consF (vF 4) nilF))))))))) passS)
    (seqS (ifS (op2F ltD (vF 5) (cF (.int 9))) (retS (callF [false, false, false, false, false] f_law_do (consF (vF 6) (consF (op2F subD (vF 1) (cF (.int 1))) (consF (vF 2) (consF (vF 3) (consF (vF 4) nilF))))))) passS)
    (seqS (ifS (op2F ltD (vF 5) (cF (.int 12))) (retS (callF [false, false, false, false, false] f_law_call (consF (vF 6) (consF (op2F subD (vF 1) (cF (.int 1))) (consF (vF 2) (consF (vF 3) (consF (vF 4) nilF))))))) passS)
    (retS (tupF (consF (cF (.str "refuse")) (consF (op2F ixD (lstF (consF (cF (.str "NoNumber")) (consF (cF (.str "NoList")) (consF (cF (.str "NoFirst")) (consF (cF (.str "NoDown")) (consF (cF (.str "ByNought")) (consF (cF (.str "TooGreat")) nilF))))))) (op2F modD (vF 6) (cF (.int 6)))) nilF))))))))))
theorem ok_law_form {P : Program} {w : World} {K : PySem.W.Frag} {mg : Str → Option Value} {base : Heap} {f : Addr} {fd : FuncData} {k : Nat} (B : Blt mg) (F : Fun K "_law_form" "_law_form" s_law_form f fd) (hm : mg "_law_form" = some (.ref f)) (hb : Binds K fd ["_law_pick", "_law_deep", "_law_names_here", "_law_known", "_law_heads_here"] []) {f_law_next : List Ar → FR} {k_law_next : Nat} (h_law_next : Cal P w K mg base k_law_next "_law_next" 1 f_law_next) (l_law_next : k_law_next ≤ k) {f_law_value : List Ar → FR} {k_law_value : Nat} (h_law_value : Cal P w K mg base k_law_value "_law_value" 1 f_law_value) (l_law_value : k_law_value ≤ k) {f_law_parts : List Ar → FR} {k_law_parts : Nat} (h_law_parts : Cal P w K mg base k_law_parts "_law_parts" 6 f_law_parts) (l_law_parts : k_law_parts ≤ k) {f_law_do : List Ar → FR} {k_law_do : Nat} (h_law_do : Cal P w K mg base k_law_do "_law_do" 5 f_law_do) (l_law_do : k_law_do ≤ k) {f_law_call : List Ar → FR} {k_law_call : Nat} (h_law_call : Cal P w K mg base k_law_call "_law_call" 5 f_law_call) (l_law_call : k_law_call ≤ k) : Cal P w K mg base (k + 1) "_law_form" 5 (runF 7 (b_law_form f_law_next f_law_value f_law_parts f_law_do f_law_call)) := by
  refine fn_cal F sc_law_form hm hb rfl (by decide) fun cdv A outer s H E hr => ?_
  have hu := hu65 hr
  have nd := sc_law_form.nd
  have tk := L2N.takes_of (X := cxOf (L2N.CX P w) P w K mg base N_law_form "_law_form" (defScope s_law_form) f cdv A outer s H E) (E := E) rfl rfl rfl rfl
  exact (sts_cons (st_set (i := 5) nd (ex_mod (ex_div (ex_var 0) ex_int) ex_int))
    (sts_cons (st_set (i := 6) nd (ex_call (sg := [false]) h_law_next hr l_law_next tk rfl (ax_cons (ex_var 0) ax_nil)))
    (sts_cons (st_if (tx_w (tw_or (tx_cmp (op_eqA hu) snd_eq (ex_var 1) ex_int (nomark _)) (tw_or1 (tx_cmp (op_lt) snd_lt (ex_var 5) ex_int (nomark _))))) (sts_cons (st_if (tx_w (tw_and (tx_cmp (op_neA hu) snd_ne (ex_var 2) (ex_lst ax_nil) (nomark _)) (tw_and1 (tx_cmp (op_gt) snd_gt (ex_mod (ex_var 6) ex_int) ex_int (nomark _))))) (sts_one (st_ret (ex_tup (ax_cons ex_str (ax_cons (ex_item (ex_var 2) (ex_mod (ex_div (ex_var 6) ex_int) (ex_len (B _ (by decide)) (ax_cons (ex_var 2) ax_nil)))) ax_nil))))) sts_nil)
    (sts_one (st_ret (ex_tup (ax_cons ex_str (ax_cons (ex_call (sg := [false]) h_law_value hr l_law_value tk rfl (ax_cons (ex_div (ex_var 6) ex_int) ax_nil)) ax_nil)))))) sts_nil)
    (sts_cons (st_if (tx_cmp (op_lt) snd_lt (ex_var 5) ex_int (nomark _)) (sts_one (st_ret (ex_add (ex_tup (ax_cons ex_str ax_nil)) (ex_call (sg := [false, false, false, false, false, false]) h_law_parts hr l_law_parts tk rfl (ax_cons (ex_var 6) (ax_cons ex_int (ax_cons (ex_sub (ex_var 1) ex_int) (ax_cons (ex_var 2) (ax_cons (ex_var 3) (ax_cons (ex_var 4) ax_nil)))))))))) sts_nil)
    (sts_cons (st_if (tx_cmp (op_lt) snd_lt (ex_var 5) ex_int (nomark _)) (sts_one (st_ret (ex_call (sg := [false, false, false, false, false]) h_law_do hr l_law_do tk rfl (ax_cons (ex_var 6) (ax_cons (ex_sub (ex_var 1) ex_int) (ax_cons (ex_var 2) (ax_cons (ex_var 3) (ax_cons (ex_var 4) ax_nil)))))))) sts_nil)
    (sts_cons (st_if (tx_cmp (op_lt) snd_lt (ex_var 5) ex_int (nomark _)) (sts_one (st_ret (ex_call (sg := [false, false, false, false, false]) h_law_call hr l_law_call tk rfl (ax_cons (ex_var 6) (ax_cons (ex_sub (ex_var 1) ex_int) (ax_cons (ex_var 2) (ax_cons (ex_var 3) (ax_cons (ex_var 4) ax_nil)))))))) sts_nil)
    (sts_one (st_ret (ex_tup (ax_cons ex_str (ax_cons (ex_item (ex_lst (ax_cons ex_str (ax_cons ex_str (ax_cons ex_str (ax_cons ex_str (ax_cons ex_str (ax_cons ex_str ax_nil))))))) (ex_mod (ex_var 6) ex_int)) ax_nil)))))))))))
abbrev s_law_heads : Stmt := topS 55
abbrev N_law_heads : List Str := ["_law_script", "_law_names_here", "_law_found", "_law_k", "_law_cell", "_law_many", "_law_wanted", "_law_j", "_law_known"]
theorem sc_law_heads : FnScope N_law_heads ["_law_script"] (defScope s_law_heads) := ⟨rfl, rfl, rfl, by decide +kernel, rfl, by decide +kernel, by decide +kernel⟩
def L0_law_heads (f_law_names : List Ar → FR) (f_law_cell_at : List Ar → FR) : Sx := (seqS (asgS 8 (op2F eqD (op2F modD (op2F divD (vF 4) (op2F ixD (lstF (consF (cF (.int 7)) (consF (cF (.int 14)) (consF (cF (.int 28)) (consF (cF (.int 56)) (consF (cF (.int 112)) (consF (cF (.int 224)) nilF))))))) (vF 7))) (cF (.int 2))) (cF (.int 1))))
    (exprS (mtF appM 6 (consF (andF (vF 8) (op2F ltD (mtF cntM 6 (consF (cF (.bl true)) nilF)) (cF (.int 2)))) nilF))))
def E0_law_heads (f_law_names : List Ar → FR) (f_law_cell_at : List Ar → FR) : Fx := (op2F ixD (vF 1) (op2F modD (op2F addD (op2F addD (cF (.int 2)) (vF 3)) (vF 7)) (cF (.int 12))))
def L1_law_heads (f_law_names : List Ar → FR) (f_law_cell_at : List Ar → FR) : Sx := (seqS (asgS 4 (callF [false, false] f_law_cell_at (consF (vF 0) (consF (op2F addD (cF (.int 2)) (vF 3)) nilF))))
    (seqS (asgS 5 (op2F ixD (lstF (consF (cF (.int 1)) (consF (cF (.int 2)) (consF (cF (.int 3)) (consF (cF (.int 2)) (consF (cF (.int 0)) (consF (cF (.int 6)) (consF (cF (.int 3)) nilF)))))))) (op2F modD (vF 4) (cF (.int 7)))))
    (seqS (asgS 6 (lstF nilF))
    (seqS (forS (rngS' rng1 (consF (vF 5) nilF)) (Tg.F (.nm 7)) (L0_law_heads f_law_names f_law_cell_at))
    (exprS (mtF appM 2 (consF (tupF (consF (op2F ixD (vF 1) (vF 3)) (consF (blF tupG (consF (lcF (rngS' rng1 (consF (vF 5) nilF)) (Tg.F (.nm 7)) yesF (E0_law_heads f_law_names f_law_cell_at) [7]) nilF)) (consF (blF tupG (consF (vF 6) nilF)) nilF)))) nilF)))))))
def b_law_heads (f_law_names : List Ar → FR) (f_law_cell_at : List Ar → FR) : Sx := (seqS (asgS 1 (callF [false] f_law_names (consF (callF [false, false] f_law_cell_at (consF (vF 0) (consF (cF (.int 0)) nilF))) nilF)))
    (seqS (asgS 2 (lstF nilF))
    (seqS (forS (rngS' rng1 (consF (op2F addD (cF (.int 1)) (op2F modD (callF [false, false] f_law_cell_at (consF (vF 0) (consF (cF (.int 1)) nilF))) (cF (.int 4)))) nilF)) (Tg.F (.nm 3)) (L1_law_heads f_law_names f_law_cell_at))
    (retS (vF 2)))))
theorem ok_law_heads {P : Program} {w : World} {K : PySem.W.Frag} {mg : Str → Option Value} {base : Heap} {f : Addr} {fd : FuncData} {k : Nat} (B : Blt mg) (F : Fun K "_law_heads" "_law_heads" s_law_heads f fd) (hm : mg "_law_heads" = some (.ref f)) (hb : Binds K fd ["_law_script"] []) {f_law_names : List Ar → FR} {k_law_names : Nat} (h_law_names : Cal P w K mg base k_law_names "_law_names" 1 f_law_names) (l_law_names : k_law_names ≤ k) {f_law_cell_at : List Ar → FR} {k_law_cell_at : Nat} (h_law_cell_at : Cal P w K mg base k_law_cell_at "_law_cell_at" 2 f_law_cell_at) (l_law_cell_at : k_law_cell_at ≤ k) : Cal P w K mg base (k + 1) "_law_heads" 1 (runF 9 (b_law_heads f_law_names f_law_cell_at)) := by
  refine fn_cal F sc_law_heads hm hb rfl (by decide) fun cdv A outer s H E hr => ?_
  have hu := hu65 hr
  have nd := sc_law_heads.nd
  have tk := L2N.takes_of (X := cxOf (L2N.CX P w) P w K mg base N_law_heads "_law_heads" (defScope s_law_heads) f cdv A outer s H E) (E := E) rfl rfl rfl rfl
  exact (sts_cons (st_set (i := 1) nd (ex_call (sg := [false]) h_law_names hr l_law_names tk rfl (ax_cons (ex_call (sg := [false, false]) h_law_cell_at hr l_law_cell_at tk rfl (ax_cons (ex_var 0) (ax_cons ex_int ax_nil))) ax_nil)))
    (sts_cons (st_set (i := 2) nd (ex_lst ax_nil))
    (sts_cons (st_for (passes_of rfl) rfl (sx_range1 (B _ (by decide)) (ax_cons (ex_add ex_int (ex_mod (ex_call (sg := [false, false]) h_law_cell_at hr l_law_cell_at tk rfl (ax_cons (ex_var 0) (ax_cons ex_int ax_nil))) ex_int)) ax_nil)) (Tg.gx (t := (.nm 3)) (pgt_name (i := 3) nd)) (sts_cons (st_set (i := 4) nd (ex_call (sg := [false, false]) h_law_cell_at hr l_law_cell_at tk rfl (ax_cons (ex_var 0) (ax_cons (ex_add ex_int (ex_var 3)) ax_nil))))
    (sts_cons (st_set (i := 5) nd (ex_item (ex_lst (ax_cons ex_int (ax_cons ex_int (ax_cons ex_int (ax_cons ex_int (ax_cons ex_int (ax_cons ex_int (ax_cons ex_int ax_nil)))))))) (ex_mod (ex_var 4) ex_int)))
    (sts_cons (st_set (i := 6) nd (ex_lst ax_nil))
    (sts_cons (st_for (passes_of rfl) rfl (sx_range1 (B _ (by decide)) (ax_cons (ex_var 5) ax_nil)) (Tg.gx (t := (.nm 7)) (pgt_name (i := 7) nd)) (sts_cons (st_set (i := 8) nd (ex_eq hu (ex_mod (ex_div (ex_var 4) (ex_item (ex_lst (ax_cons ex_int (ax_cons ex_int (ax_cons ex_int (ax_cons ex_int (ax_cons ex_int (ax_cons ex_int ax_nil))))))) (ex_var 7))) ex_int) ex_int))
    (sts_one (st_expr (ex_append (pv 6) (ax_cons (ex_and (ex_var 8) (ex_one (ex_lt (ex_count (pv 6) (ax_cons ex_bl ax_nil)) ex_int))) ax_nil))))))
    (sts_one (st_expr (ex_append (pv 2) (ax_cons (ex_tup (ax_cons (ex_item (ex_var 1) (ex_var 3)) (ax_cons (ex_tupC (B _ (by decide)) (ax_cons (ex_lc rfl nd (sx_range1 (B _ (by decide)) (ax_cons (ex_var 5) ax_nil)) (blkOk_by (own := [("_law_j", 7)]) (N := N_law_heads) (sc := defScope s_law_heads) (by decide +kernel)) (fun _ _ _ _ _ => (pgt_name (i := 7) nd)) (fun _ _ _ _ _ => ltx_nil) (fun _ _ _ _ _ => (ex_item (ex_var 1) (ex_mod (ex_add (ex_add ex_int (ex_var 3)) (ex_var 7)) ex_int)))) ax_nil)) (ax_cons (ex_tupC (B _ (by decide)) (ax_cons (ex_var 6) ax_nil)) ax_nil)))) ax_nil)))))))))
    (sts_one (st_ret (ex_var 2))))))
abbrev s_law_program : Stmt := topS 56
abbrev N_law_program : List Str := ["_law_script", "_law_heads_here", "_law_program_here", "_law_k", "_law_known", "_law_pick", "_law_body", "_law_name", "_law_params", "_law_wanted", "_law_more", "_law_test", "_law_j"]
theorem sc_law_program : FnScope N_law_program ["_law_script", "_law_heads_here"] (defScope s_law_program) := ⟨rfl, rfl, rfl, by decide +kernel, rfl, by decide +kernel, by decide +kernel⟩
def T0_law_program (f_law_next : List Ar → FR) (f_law_cell_at : List Ar → FR) (f_law_form : List Ar → FR) : Fx := (op2F ixD (vF 9) (vF 12))
def E0_law_program (f_law_next : List Ar → FR) (f_law_cell_at : List Ar → FR) (f_law_form : List Ar → FR) : Fx := (op2F ixD (vF 8) (vF 12))
def L0_law_program (f_law_next : List Ar → FR) (f_law_cell_at : List Ar → FR) (f_law_form : List Ar → FR) : Sx := (seqS (unpS (Tg.F (.tp [7, 8, 9])) (op2F ixD (vF 1) (vF 3)))
    (seqS (asgS 4 (lcF (rngS' rng1 (consF (blF lenG (consF (vF 8) nilF)) nilF)) (Tg.F (.nm 12)) (T0_law_program f_law_next f_law_cell_at f_law_form) (E0_law_program f_law_next f_law_cell_at f_law_form) [12]))
    (seqS (asgS 5 (callF [false] f_law_next (consF (op2F addD (op2F mulD (callF [false, false] f_law_cell_at (consF (vF 0) (consF (op2F addD (cF (.int 6)) (vF 3)) nilF))) (cF (.int 977))) (vF 3)) nilF)))
    (seqS (asgS 6 (callF [false, false, false, false, false] f_law_form (consF (vF 5) (consF (op2F addD (cF (.int 1)) (op2F modD (op2F divD (callF [false, false] f_law_cell_at (consF (vF 0) (consF (cF (.int 10)) nilF))) (op2F addD (vF 3) (cF (.int 1)))) (cF (.int 3)))) (consF (blF lstG (consF (vF 8) nilF)) (consF (vF 4) (consF (vF 1) nilF)))))))
    (seqS (ifS (andF (op2F gtD (op2F modD (op2F divD (callF [false, false] f_law_cell_at (consF (vF 0) (consF (cF (.int 11)) nilF))) (op2F addD (vF 3) (cF (.int 1)))) (cF (.int 3))) (cF (.int 0))) (op2F gtD (blF lenG (consF (vF 8) nilF)) (cF (.int 0)))) (seqS (asgS 10 (callF [false] f_law_next (consF (op2F addD (vF 5) (cF (.int 31))) nilF)))
    (seqS (asgS 11 (tupF (consF (cF (.str "name")) (consF (op2F ixD (vF 8) (op2F modD (vF 10) (blF lenG (consF (vF 8) nilF)))) nilF))))
    (seqS (ifS (op2F eqD (op2F modD (op2F divD (vF 10) (cF (.int 8))) (cF (.int 2))) (cF (.int 1))) (asgS 11 (tupF (consF (cF (.str "do")) (consF (cF (.str "empty")) (consF (tupF (consF (vF 11) nilF)) nilF))))) passS)
    (asgS 6 (tupF (consF (cF (.str "if")) (consF (vF 11) (consF (vF 6) (consF (callF [false, false, false, false, false] f_law_form (consF (vF 10) (consF (cF (.int 2)) (consF (blF lstG (consF (vF 8) nilF)) (consF (vF 4) (consF (vF 1) nilF)))))) nilF))))))))) passS)
    (exprS (mtF appM 2 (consF (tupF (consF (vF 7) (consF (vF 8) (consF (vF 6) nilF)))) nilF))))))))
def b_law_program (f_law_next : List Ar → FR) (f_law_cell_at : List Ar → FR) (f_law_form : List Ar → FR) : Sx := (seqS (asgS 2 (lstF nilF))
    (seqS (forS (rngS' rng1 (consF (blF lenG (consF (vF 1) nilF)) nilF)) (Tg.F (.nm 3)) (L0_law_program f_law_next f_law_cell_at f_law_form))
    (retS (blF tupG (consF (vF 2) nilF)))))
theorem ok_law_program {P : Program} {w : World} {K : PySem.W.Frag} {mg : Str → Option Value} {base : Heap} {f : Addr} {fd : FuncData} {k : Nat} (B : Blt mg) (F : Fun K "_law_program" "_law_program" s_law_program f fd) (hm : mg "_law_program" = some (.ref f)) (hb : Binds K fd ["_law_script", "_law_heads_here"] []) {f_law_next : List Ar → FR} {k_law_next : Nat} (h_law_next : Cal P w K mg base k_law_next "_law_next" 1 f_law_next) (l_law_next : k_law_next ≤ k) {f_law_cell_at : List Ar → FR} {k_law_cell_at : Nat} (h_law_cell_at : Cal P w K mg base k_law_cell_at "_law_cell_at" 2 f_law_cell_at) (l_law_cell_at : k_law_cell_at ≤ k) {f_law_form : List Ar → FR} {k_law_form : Nat} (h_law_form : Cal P w K mg base k_law_form "_law_form" 5 f_law_form) (l_law_form : k_law_form ≤ k) : Cal P w K mg base (k + 1) "_law_program" 2 (runF 13 (b_law_program f_law_next f_law_cell_at f_law_form)) := by
  refine fn_cal F sc_law_program hm hb rfl (by decide) fun cdv A outer s H E hr => ?_
  have hu := hu65 hr
  have nd := sc_law_program.nd
  have tk := L2N.takes_of (X := cxOf (L2N.CX P w) P w K mg base N_law_program "_law_program" (defScope s_law_program) f cdv A outer s H E) (E := E) rfl rfl rfl rfl
  exact (sts_cons (st_set (i := 2) nd (ex_lst ax_nil))
    (sts_cons (st_for (passes_of rfl) rfl (sx_range1 (B _ (by decide)) (ax_cons (ex_len (B _ (by decide)) (ax_cons (ex_var 1) ax_nil)) ax_nil)) (Tg.gx (t := (.nm 3)) (pgt_name (i := 3) nd)) (sts_cons (st_unp (ex_item (ex_var 1) (ex_var 3)) (Tg.gx (t := (.tp [7, 8, 9])) (pgt_tup rfl (pgts_cons (i := 7) nd (pgts_cons (i := 8) nd (pgts_cons (i := 9) nd pgts_nil))))))
    (sts_cons (st_setLc (i := 4) rfl nd (sw_true rfl rfl rfl (by decide +kernel)) (sx_range1 (B _ (by decide)) (ax_cons (ex_len (B _ (by decide)) (ax_cons (ex_var 8) ax_nil)) ax_nil)) (blkOk_by (own := [("_law_j", 12)]) (N := N_law_program) (sc := defScope s_law_program) (by decide +kernel)) (fun _ _ _ _ _ => (pgt_name (i := 12) nd)) (fun _ _ _ _ _ => (ltx_one (tx_val (ex_item (ex_var 9) (ex_var 12))))) (fun _ _ _ _ _ => (ex_item (ex_var 8) (ex_var 12))))
    (sts_cons (st_set (i := 5) nd (ex_call (sg := [false]) h_law_next hr l_law_next tk rfl (ax_cons (ex_add (ex_mul (ex_call (sg := [false, false]) h_law_cell_at hr l_law_cell_at tk rfl (ax_cons (ex_var 0) (ax_cons (ex_add ex_int (ex_var 3)) ax_nil))) ex_int) (ex_var 3)) ax_nil)))
    (sts_cons (st_set (i := 6) nd (ex_call (sg := [false, false, false, false, false]) h_law_form hr l_law_form tk rfl (ax_cons (ex_var 5) (ax_cons (ex_add ex_int (ex_mod (ex_div (ex_call (sg := [false, false]) h_law_cell_at hr l_law_cell_at tk rfl (ax_cons (ex_var 0) (ax_cons ex_int ax_nil))) (ex_add (ex_var 3) ex_int)) ex_int)) (ax_cons (ex_lstC (B _ (by decide)) (ax_cons (ex_var 8) ax_nil)) (ax_cons (ex_var 4) (ax_cons (ex_var 1) ax_nil)))))))
    (sts_cons (st_if (tx_w (tw_and (tx_cmp (op_gt) snd_gt (ex_mod (ex_div (ex_call (sg := [false, false]) h_law_cell_at hr l_law_cell_at tk rfl (ax_cons (ex_var 0) (ax_cons ex_int ax_nil))) (ex_add (ex_var 3) ex_int)) ex_int) ex_int (nomark _)) (tw_and1 (tx_cmp (op_gt) snd_gt (ex_len (B _ (by decide)) (ax_cons (ex_var 8) ax_nil)) ex_int (nomark _))))) (sts_cons (st_set (i := 10) nd (ex_call (sg := [false]) h_law_next hr l_law_next tk rfl (ax_cons (ex_add (ex_var 5) ex_int) ax_nil)))
    (sts_cons (st_set (i := 11) nd (ex_tup (ax_cons ex_str (ax_cons (ex_item (ex_var 8) (ex_mod (ex_var 10) (ex_len (B _ (by decide)) (ax_cons (ex_var 8) ax_nil)))) ax_nil))))
    (sts_cons (st_if (tx_cmp (op_eqA hu) snd_eq (ex_mod (ex_div (ex_var 10) ex_int) ex_int) ex_int (nomark _)) (sts_one (st_set (i := 11) nd (ex_tup (ax_cons ex_str (ax_cons ex_str (ax_cons (ex_tup (ax_cons (ex_var 11) ax_nil)) ax_nil)))))) sts_nil)
    (sts_one (st_set (i := 6) nd (ex_tup (ax_cons ex_str (ax_cons (ex_var 11) (ax_cons (ex_var 6) (ax_cons (ex_call (sg := [false, false, false, false, false]) h_law_form hr l_law_form tk rfl (ax_cons (ex_var 10) (ax_cons ex_int (ax_cons (ex_lstC (B _ (by decide)) (ax_cons (ex_var 8) ax_nil)) (ax_cons (ex_var 4) (ax_cons (ex_var 1) ax_nil)))))) ax_nil)))))))))) sts_nil)
    (sts_one (st_expr (ex_append (pv 2) (ax_cons (ex_tup (ax_cons (ex_var 7) (ax_cons (ex_var 8) (ax_cons (ex_var 6) ax_nil)))) ax_nil))))))))))
    (sts_one (st_ret (ex_tupC (B _ (by decide)) (ax_cons (ex_var 2) ax_nil))))))
abbrev s_law_topped : Stmt := topS 59
abbrev N_law_topped : List Str := ["_law_script", "_law_heads_here", "_law_program_here", "_law_cell", "_law_body", "_law_k", "_law_name", "_law_params", "_law_wanted", "_law_one"]
theorem sc_law_topped : FnScope N_law_topped ["_law_script", "_law_heads_here", "_law_program_here"] (defScope s_law_topped) := ⟨rfl, rfl, rfl, by decide +kernel, rfl, by decide +kernel, by decide +kernel⟩
def E0_law_topped (f_law_cell_at : List Ar → FR) : Fx := (tupF (consF (cF (.str "name")) (consF (vF 9) nilF)))
def L0_law_topped (f_law_cell_at : List Ar → FR) : Sx := (asgS 4 (tupF (consF (cF (.str "do")) (consF (cF (.str "list")) (consF (tupF (consF (vF 4) nilF)) nilF)))))
def b_law_topped (f_law_cell_at : List Ar → FR) : Sx := (seqS (asgS 3 (callF [false, false] f_law_cell_at (consF (vF 0) (consF (cF (.int 20)) nilF))))
    (seqS (ifS (op2F neD (op2F modD (vF 3) (cF (.int 6))) (cF (.int 1))) (retS (tupF (consF (vF 1) (consF (vF 2) nilF)))) passS)
    (seqS (unpS (Tg.F (.tp [6, 7, 8])) (op2F ixD (vF 1) (cF (.int 0))))
    (seqS (asgS 4 (tupF (consF (cF (.str "call")) (consF (vF 6) (consF (blF tupG (consF (lcF (seqS' (vF 7)) (Tg.F (.nm 9)) yesF (E0_law_topped f_law_cell_at) [9]) nilF)) nilF)))))
    (seqS (forS (rngS' rng1 (consF (op2F addD (cF (.int 1)) (op2F modD (op2F divD (vF 3) (cF (.int 6))) (cF (.int 17)))) nilF)) (Tg.F (.nm 5)) (L0_law_topped f_law_cell_at))
    (retS (tupF (consF (op2F addD (lstF (consF (tupF (consF (cF (.str "top")) (consF (vF 7) (consF (vF 8) nilF)))) nilF)) (vF 1)) (consF (op2F addD (tupF (consF (tupF (consF (cF (.str "top")) (consF (vF 7) (consF (vF 4) nilF)))) nilF)) (vF 2)) nilF)))))))))
theorem ok_law_topped {P : Program} {w : World} {K : PySem.W.Frag} {mg : Str → Option Value} {base : Heap} {f : Addr} {fd : FuncData} {k : Nat} (B : Blt mg) (F : Fun K "_law_topped" "_law_topped" s_law_topped f fd) (hm : mg "_law_topped" = some (.ref f)) (hb : Binds K fd ["_law_script", "_law_heads_here", "_law_program_here"] []) {f_law_cell_at : List Ar → FR} {k_law_cell_at : Nat} (h_law_cell_at : Cal P w K mg base k_law_cell_at "_law_cell_at" 2 f_law_cell_at) (l_law_cell_at : k_law_cell_at ≤ k) : Cal P w K mg base (k + 1) "_law_topped" 3 (runF 10 (b_law_topped f_law_cell_at)) := by
  refine fn_cal F sc_law_topped hm hb rfl (by decide) fun cdv A outer s H E hr => ?_
  have hu := hu65 hr
  have nd := sc_law_topped.nd
  have tk := L2N.takes_of (X := cxOf (L2N.CX P w) P w K mg base N_law_topped "_law_topped" (defScope s_law_topped) f cdv A outer s H E) (E := E) rfl rfl rfl rfl
  exact (sts_cons (st_set (i := 3) nd (ex_call (sg := [false, false]) h_law_cell_at hr l_law_cell_at tk rfl (ax_cons (ex_var 0) (ax_cons ex_int ax_nil))))
    (sts_cons (st_if (tx_cmp (op_neA hu) snd_ne (ex_mod (ex_var 3) ex_int) ex_int (nomark _)) (sts_one (st_ret (ex_tup (ax_cons (ex_var 1) (ax_cons (ex_var 2) ax_nil))))) sts_nil)
    (sts_cons (st_unp (ex_item (ex_var 1) ex_int) (Tg.gx (t := (.tp [6, 7, 8])) (pgt_tup rfl (pgts_cons (i := 6) nd (pgts_cons (i := 7) nd (pgts_cons (i := 8) nd pgts_nil))))))
    (sts_cons (st_set (i := 4) nd (ex_tup (ax_cons ex_str (ax_cons (ex_var 6) (ax_cons (ex_tupC (B _ (by decide)) (ax_cons (ex_lc rfl nd (sx_seq (ex_var 7)) (blkOk_by (own := [("_law_one", 9)]) (N := N_law_topped) (sc := defScope s_law_topped) (by decide +kernel)) (fun _ _ _ _ _ => (pgt_name (i := 9) nd)) (fun _ _ _ _ _ => ltx_nil) (fun _ _ _ _ _ => (ex_tup (ax_cons ex_str (ax_cons (ex_var 9) ax_nil))))) ax_nil)) ax_nil)))))
    (sts_cons (st_for (passes_of rfl) rfl (sx_range1 (B _ (by decide)) (ax_cons (ex_add ex_int (ex_mod (ex_div (ex_var 3) ex_int) ex_int)) ax_nil)) (Tg.gx (t := (.nm 5)) (pgt_name (i := 5) nd)) (sts_one (st_set (i := 4) nd (ex_tup (ax_cons ex_str (ax_cons ex_str (ax_cons (ex_tup (ax_cons (ex_var 4) ax_nil)) ax_nil)))))))
    (sts_one (st_ret (ex_tup (ax_cons (ex_add (ex_lst (ax_cons (ex_tup (ax_cons ex_str (ax_cons (ex_var 7) (ax_cons (ex_var 8) ax_nil)))) ax_nil)) (ex_var 1)) (ax_cons (ex_add (ex_tup (ax_cons (ex_tup (ax_cons ex_str (ax_cons (ex_var 7) (ax_cons (ex_var 4) ax_nil)))) ax_nil)) (ex_var 2)) ax_nil))))))))))
abbrev s_law : Stmt := topS 60
abbrev N_law : List Str := ["_law_script", "_law_heads_here", "_law_inputs_here", "_law_most", "_law_due", "_law_turn", "_law_program_here", "_law_found", "_law_k"]
theorem sc_law : FnScope N_law ["_law_script"] (defScope s_law) := ⟨rfl, rfl, rfl, by decide +kernel, rfl, by decide +kernel, by decide +kernel⟩
def E0_law (f_law_heads : List Ar → FR) (f_law_topped : List Ar → FR) (f_law_program : List Ar → FR) (f_law_value : List Ar → FR) (f_law_cell_at : List Ar → FR) (f_law_run : List Ar → FR) (f_law_ran : List Ar → FR) (f_law_same : List Ar → FR) : Fx := (callF [false] f_law_value (consF (callF [false, false] f_law_cell_at (consF (vF 0) (consF (op2F addD (cF (.int 12)) (vF 8)) nilF))) nilF))
def L0_law (f_law_heads : List Ar → FR) (f_law_topped : List Ar → FR) (f_law_program : List Ar → FR) (f_law_value : List Ar → FR) (f_law_cell_at : List Ar → FR) (f_law_run : List Ar → FR) (f_law_ran : List Ar → FR) (f_law_same : List Ar → FR) : Sx := (seqS (asgS 7 (callF [false, false, false] f_law_ran (consF (vF 6) (consF (vF 2) (consF (vF 3) nilF)))))
    (seqS (ifS (orF (op2F neD (op2F ixD (vF 7) (cF (.int 0))) (op2F ixD (vF 4) (cF (.int 0)))) (notF (callF [false, false] f_law_same (consF (op2F ixD (vF 7) (cF (.int 1))) (consF (op2F ixD (vF 4) (cF (.int 1))) nilF))))) (retS (cF (.bl false))) passS)
    (ifS (op2F neD (callF [false, false, false] f_law_ran (consF (tupF (consF (tupF (consF (cF (.str "a")) (consF (tupF nilF) (consF (tupF (consF (cF (.str "call")) (consF (cF (.str "a")) (consF (tupF nilF) nilF)))) nilF)))) nilF)) (consF (tupF nilF) (consF (cF (.int 3)) nilF)))) (tupF (consF (cF (.bl false)) (consF (cF (.str "TooLong")) nilF)))) (retS (cF (.bl false))) passS)))
def b_law (f_law_heads : List Ar → FR) (f_law_topped : List Ar → FR) (f_law_program : List Ar → FR) (f_law_value : List Ar → FR) (f_law_cell_at : List Ar → FR) (f_law_run : List Ar → FR) (f_law_ran : List Ar → FR) (f_law_same : List Ar → FR) : Sx := (seqS (asgS 1 (imF (callF [false] f_law_heads (consF (vF 0) nilF))))
    (seqS (unpS (Tg.F (.tp [1, 6])) (callF [false, false, false] f_law_topped (consF (vF 0) (consF (vF 1) (consF (callF [false, false] f_law_program (consF (vF 0) (consF (vF 1) nilF))) nilF)))))
    (seqS (asgS 2 (blF tupG (consF (lcF (rngS' rng1 (consF (blF lenG (consF (op2F ixD (op2F ixD (vF 1) (cF (.int 0))) (cF (.int 1))) nilF)) nilF)) (Tg.F (.nm 8)) yesF (E0_law f_law_heads f_law_topped f_law_program f_law_value f_law_cell_at f_law_run f_law_ran f_law_same) [8]) nilF)))
    (seqS (asgS 3 (op2F modD (callF [false, false] f_law_cell_at (consF (vF 0) (consF (cF (.int 15)) nilF))) (cF (.int 10))))
    (seqS (asgS 4 (callF [false, false, false] f_law_run (consF (vF 6) (consF (vF 2) (consF (vF 3) nilF)))))
    (seqS (forS (rngS' rng1 (consF (cF (.int 2)) nilF)) (Tg.F (.nm 5)) (L0_law f_law_heads f_law_topped f_law_program f_law_value f_law_cell_at f_law_run f_law_ran f_law_same))
    (retS (cF (.bl true)))))))))
theorem ok_law {P : Program} {w : World} {K : PySem.W.Frag} {mg : Str → Option Value} {base : Heap} {f : Addr} {fd : FuncData} {k : Nat} (B : Blt mg) (F : Fun K "law" "law" s_law f fd) (hm : mg "law" = some (.ref f)) (hb : Binds K fd ["_law_script"] []) {f_law_heads : List Ar → FR} {k_law_heads : Nat} (h_law_heads : Cal P w K mg base k_law_heads "_law_heads" 1 f_law_heads) (l_law_heads : k_law_heads ≤ k) {f_law_topped : List Ar → FR} {k_law_topped : Nat} (h_law_topped : Cal P w K mg base k_law_topped "_law_topped" 3 f_law_topped) (l_law_topped : k_law_topped ≤ k) {f_law_program : List Ar → FR} {k_law_program : Nat} (h_law_program : Cal P w K mg base k_law_program "_law_program" 2 f_law_program) (l_law_program : k_law_program ≤ k) {f_law_value : List Ar → FR} {k_law_value : Nat} (h_law_value : Cal P w K mg base k_law_value "_law_value" 1 f_law_value) (l_law_value : k_law_value ≤ k) {f_law_cell_at : List Ar → FR} {k_law_cell_at : Nat} (h_law_cell_at : Cal P w K mg base k_law_cell_at "_law_cell_at" 2 f_law_cell_at) (l_law_cell_at : k_law_cell_at ≤ k) {f_law_run : List Ar → FR} {k_law_run : Nat} (h_law_run : Cal P w K mg base k_law_run "_law_run" 3 f_law_run) (l_law_run : k_law_run ≤ k) {f_law_ran : List Ar → FR} {k_law_ran : Nat} (h_law_ran : Cal P w K mg base k_law_ran "_law_ran" 3 f_law_ran) (l_law_ran : k_law_ran ≤ k) {f_law_same : List Ar → FR} {k_law_same : Nat} (h_law_same : Cal P w K mg base k_law_same "_law_same" 2 f_law_same) (l_law_same : k_law_same ≤ k) : FnOk P w K mg base (L2N.CX P w) (k + 1) f fd ["_law_script"] (spD K mg 1 (runF 9 (b_law f_law_heads f_law_topped f_law_program f_law_value f_law_cell_at f_law_run f_law_ran f_law_same))) := by
  refine fn_ok F sc_law hm hb rfl (by decide) fun cdv A outer s H E hr => ?_
  have hu := hu65 hr
  have nd := sc_law.nd
  have tk := L2N.takes_of (X := cxOf (L2N.CX P w) P w K mg base N_law "law" (defScope s_law) f cdv A outer s H E) (E := E) rfl rfl rfl rfl
  exact (sts_cons (st_set (i := 1) nd (ex_im (ex_call (sg := [false]) h_law_heads hr l_law_heads tk rfl (ax_cons (ex_var 0) ax_nil))))
    (sts_cons (st_unp (ex_call (sg := [false, false, false]) h_law_topped hr l_law_topped tk rfl (ax_cons (ex_var 0) (ax_cons (ex_var 1) (ax_cons (ex_call (sg := [false, false]) h_law_program hr l_law_program tk rfl (ax_cons (ex_var 0) (ax_cons (ex_var 1) ax_nil))) ax_nil)))) (Tg.gx (t := (.tp [1, 6])) (pgt_tup rfl (pgts_cons (i := 1) nd (pgts_cons (i := 6) nd pgts_nil)))))
    (sts_cons (st_set (i := 2) nd (ex_tupC (B _ (by decide)) (ax_cons (ex_lc rfl nd (sx_range1 (B _ (by decide)) (ax_cons (ex_len (B _ (by decide)) (ax_cons (ex_item (ex_item (ex_var 1) ex_int) ex_int) ax_nil)) ax_nil)) (blkOk_by (own := [("_law_k", 8)]) (N := N_law) (sc := defScope s_law) (by decide +kernel)) (fun _ _ _ _ _ => (pgt_name (i := 8) nd)) (fun _ _ _ _ _ => ltx_nil) (fun _ _ _ _ _ => (ex_call (sg := [false]) h_law_value hr l_law_value takes0N rfl (ax_cons (ex_call (sg := [false, false]) h_law_cell_at hr l_law_cell_at takes0N rfl (ax_cons (ex_var 0) (ax_cons (ex_add ex_int (ex_var 8)) ax_nil))) ax_nil)))) ax_nil)))
    (sts_cons (st_set (i := 3) nd (ex_mod (ex_call (sg := [false, false]) h_law_cell_at hr l_law_cell_at tk rfl (ax_cons (ex_var 0) (ax_cons ex_int ax_nil))) ex_int))
    (sts_cons (st_set (i := 4) nd (ex_call (sg := [false, false, false]) h_law_run hr l_law_run tk rfl (ax_cons (ex_var 6) (ax_cons (ex_var 2) (ax_cons (ex_var 3) ax_nil)))))
    (sts_cons (st_for (passes_of rfl) rfl (sx_range1 (B _ (by decide)) (ax_cons ex_int ax_nil)) (Tg.gx (t := (.nm 5)) (pgt_name (i := 5) nd)) (sts_cons (st_set (i := 7) nd (ex_call (sg := [false, false, false]) h_law_ran hr l_law_ran tk rfl (ax_cons (ex_var 6) (ax_cons (ex_var 2) (ax_cons (ex_var 3) ax_nil)))))
    (sts_cons (st_if (tx_w (tw_or (tx_cmp (op_neA hu) snd_ne (ex_item (ex_var 7) ex_int) (ex_item (ex_var 4) ex_int) (nomark _)) (tw_or1 (tx_not (tx_val (ex_call (sg := [false, false]) h_law_same hr l_law_same tk rfl (ax_cons (ex_item (ex_var 7) ex_int) (ax_cons (ex_item (ex_var 4) ex_int) ax_nil)))))))) (sts_one (st_ret ex_bl)) sts_nil)
    (sts_one (st_if (tx_cmp (op_neA hu) snd_ne (ex_call (sg := [false, false, false]) h_law_ran hr l_law_ran tk rfl (ax_cons (ex_tup (ax_cons (ex_tup (ax_cons ex_str (ax_cons (ex_tup ax_nil) (ax_cons (ex_tup (ax_cons ex_str (ax_cons ex_str (ax_cons (ex_tup ax_nil) ax_nil)))) ax_nil)))) ax_nil)) (ax_cons (ex_tup ax_nil) (ax_cons ex_int ax_nil)))) (ex_tup (ax_cons ex_bl (ax_cons ex_str ax_nil))) (nomark _)) (sts_one (st_ret ex_bl)) sts_nil)))))
    (sts_one (st_ret ex_bl))))))))

end HFL
set_option Elab.async false
set_option linter.all false
set_option maxRecDepth 100000
set_option maxHeartbeats 4000000
set_option autoImplicit false
namespace HFL
open PySem PySem.Spec PyProof.Rows L2 HF
/-! ### equality of data -/
@[simp] theorem eqv_str (x y : Str) : PyData.eqv (.str x) (.str y) = decide (x = y) := by rw [PyData.eqv]; rfl
@[simp] theorem eqv_int (x y : Int) : PyData.eqv (.int x) (.int y) = decide (x = y) := by rw [PyData.eqv]; rfl
@[simp] theorem eqv_bl (x y : Bool) : PyData.eqv (.bool x) (.bool y) = decide (x = y) := by rw [PyData.eqv]; cases x <;> cases y <;> rfl
@[simp] theorem eqvAll_nn : PyData.eqvAll [] [] = true := by rw [PyData.eqvAll]
@[simp] theorem eqvAll_cc (x y : PyData) (xs ys : List PyData) : PyData.eqvAll (x :: xs) (y :: ys) = (PyData.eqv x y && PyData.eqvAll xs ys) := by rw [PyData.eqvAll]
@[simp] theorem eqvAll_cn (x : PyData) (xs : List PyData) : PyData.eqvAll (x :: xs) [] = false := by rw [PyData.eqvAll]
@[simp] theorem eqvAll_nc (x : PyData) (xs : List PyData) : PyData.eqvAll [] (x :: xs) = false := by rw [PyData.eqvAll]
theorem eqB_self {d : D} (h : d.pl) (hd : d.dp ≤ 64) : D.eqB d d = some true := by
  have e := PySem.SeqAt.eqv_refl d.py h
  have h' : d.py.canLay0 = true := h
  cases d <;> simp_all [D.eqB, D.dp]
/-! ### is_whole, weight, is_value -/
def big : Int := 1000000000000000000
def whole : D → Bool
  | .int i => decide ((if i < 0 then -i else i) < big)
  | _ => false
mutual
def good : D → Bool
  | .tup xs => goodL xs
  | d => whole d
def goodL : List D → Bool
  | [] => true
  | d :: ds => good d && goodL ds
end
@[simp] theorem goodL_nil : goodL [] = true := by rw [goodL]
@[simp] theorem goodL_cons (d : D) (ds : List D) : goodL (d :: ds) = (good d && goodL ds) := by rw [goodL]
@[simp] theorem good_tup (xs : List D) : good (.tup xs) = goodL xs := by rw [good]
@[simp] theorem goodL_append (a b : List D) : goodL (a ++ b) = (goodL a && goodL b) := by
  induction a with
  | nil => simp
  | cons x a ih => simp [ih, Bool.and_assoc]
theorem goodL_all (ds : List D) : goodL ds = ds.all good := by
  induction ds with
  | nil => simp
  | cons x a ih => simp [ih]
/-- tuples, numbers, truths, None, texts -/
def leafy : D → Bool
  | .non => true
  | .bl _ => true
  | .int _ => true
  | .str s => PyData.strOk s
  | _ => false
mutual
def thg : D → Bool
  | .tup xs => thgL xs
  | d => leafy d
def thgL : List D → Bool
  | [] => true
  | d :: ds => thg d && thgL ds
end
@[simp] theorem thgL_nil : thgL [] = true := by rw [thgL]
@[simp] theorem thgL_cons (d : D) (ds : List D) : thgL (d :: ds) = (thg d && thgL ds) := by rw [thgL]
@[simp] theorem thg_tup (xs : List D) : thg (.tup xs) = thgL xs := by rw [thg]
@[simp] theorem thgL_append (a b : List D) : thgL (a ++ b) = (thgL a && thgL b) := by
  induction a with
  | nil => simp
  | cons x a ih => simp [ih, Bool.and_assoc]
theorem thgL_mem {ds : List D} {d : D} (h : thgL ds = true) (m : d ∈ ds) : thg d = true := by
  induction ds with
  | nil => cases m
  | cons x ds ih =>
    simp only [thgL_cons, Bool.and_eq_true] at h
    cases m with
    | head => exact h.1
    | tail _ m => exact ih h.2 m
theorem thgL_of {ds : List D} (h : ∀ d ∈ ds, thg d = true) : thgL ds = true := by
  induction ds with
  | nil => simp
  | cons x ds ih => simp; exact ⟨h x (by simp), ih fun d m => h d (by simp [m])⟩
mutual
theorem thg_pl : ∀ d : D, thg d = true → d.pl
  | .tup xs, h => by simp at h; simpa [D.pl] using thgL_pl xs h
  | .non, h => by simp [D.pl]
  | .bl _, h => by simp [D.pl]
  | .int _, h => by simp [D.pl]
  | .str s, h => by simpa [D.pl, thg, leafy] using h
  | .lst _, h => by simp [thg, leafy] at h
  | .dct _ _, h => by simp [thg, leafy] at h
  | .scr _, h => by simp [thg, leafy] at h
  | .ty _, h => by simp [thg, leafy] at h
theorem thgL_pl : ∀ ds : List D, thgL ds = true → D.plL ds
  | [], _ => by simp [D.plL]
  | d :: ds, h => by simp at h; simpa [D.plL] using ⟨thg_pl d h.1, thgL_pl ds h.2⟩
end
end HFL

set_option Elab.async false
set_option linter.all false
set_option maxRecDepth 100000
set_option maxHeartbeats 4000000
set_option autoImplicit false
namespace HFL
open PySem PySem.Spec PyProof.Rows L2 HF
theorem run_is_whole (d : D) (h : thg d = true) : runF 1 (b_is_whole (.int big)) [.val d] = .im (.bl (whole d)) [.val d] := by
  cases d <;> simp [thg, leafy] at h <;> simp [b_is_whole, whole]
/-- is it a tuple -/
def isT : D → Bool
  | .tup _ => true
  | _ => false
theorem isi_tup {d : D} (h : thg d = true) : d.isi .tuple = some (isT d) := by
  cases d <;> simp [thg, leafy] at h <;> rfl
def isI : D → Bool
  | .int _ => true
  | .bl _ => true
  | _ => false
def isB' : D → Bool
  | .bl _ => true
  | _ => false
theorem isi_int {d : D} (h : thg d = true) : d.isi .int = some (isI d) := by
  cases d <;> simp [thg, leafy] at h <;> rfl
theorem isi_bool {d : D} (h : thg d = true) : d.isi .bool = some (isB' d) := by
  cases d <;> simp [thg, leafy] at h <;> rfl
/-- the stack behind a thing -/
def kids : D → List D
  | .tup xs => xs
  | _ => []
theorem kids_thg {d : D} (h : thg d = true) : thgL (kids d) = true := by
  cases d <;> simp [kids] <;> simpa using h
theorem kids_wt (d : D) : d.wt = 1 + D.wtL (kids d) := by
  cases d <;> simp [kids, D.wt]
theorem snoc_cases {α : Type} (xs : List α) : xs = [] ∨ ∃ ys y, xs = ys ++ [y] := by
  cases h : xs.reverse with
  | nil => left; simpa using h
  | cons y ys => right; exact ⟨ys.reverse, y, by have := congrArg List.reverse h; simpa using this⟩
theorem eqB_nn : D.eqB (.lst []) (.lst []) = some true := D.eqB_nil (xs := []) (by simp [D.plL])
def frees (x : Sl) : Prop := x = .non ∨ ∃ z, x = .val z
theorem weight_loop (w : List Sl → Nat) (t : D) : ∀ (n : Nat) (left : List D) (c : Int) (x : Sl), frees x → D.wtL left ≤ n → n ≤ 16777216 → thgL left = true →
    ∃ y : Sl, whileL (C0_weight w) (L0_weight w) (n + 1) [.val t, .val (.int c), .own (.lst left), x] = .nx [.val t, .val (.int (c + D.wtL left)), .own (.lst []), y] := by
  intro n
  induction n with
  | zero =>
    intro left c x hx hw _ hp
    have : left = [] := by
      have := D.length_le_wtL left
      exact List.eq_nil_of_length_eq_zero (by omega)
    subst this
    exact ⟨x, by simp [whileL, C0_weight, -D.eqB, eqB_nn]⟩
  | succ n ih =>
    intro left c x hx hw hn hp
    rcases snoc_cases left with rfl | ⟨ys, y, rfl⟩
    · exact ⟨x, by simp [whileL, C0_weight, -D.eqB, eqB_nn]⟩
    · have hpl := thgL_pl _ hp
      simp only [thgL_append, Bool.and_eq_true, thgL_cons, thgL_nil, and_true] at hp
      simp only [D.wtL_append, D.wtL_cons, D.wtL_nil] at hw
      have hk := kids_wt y
      have h1 := D.length_le_wtL ys
      have h2 := D.length_le_wtL (kids y)
      obtain ⟨z, hz⟩ := ih (ys ++ kids y) (c + 1) (.val y) (.inr ⟨y, rfl⟩) (by simp; omega) (by omega) (by simp [hp, kids_thg])
      refine ⟨z, ?_⟩
      have e : c + 1 + (D.wtL (ys ++ kids y) : Int) = c + (D.wtL (ys ++ [y]) : Int) := by simp; omega
      rw [e] at hz
      rw [← hz]
      conv => lhs; unfold whileL
      have hlen : ys.length + (kids y).length ≤ 16777216 := by omega
      have hi := isi_tup hp.2
      have hky : kids y = [] ∨ ∃ ks, y = .tup ks := by cases y <;> simp [kids]
      rcases hx with rfl | ⟨x, rfl⟩ <;> cases hT : isT y
      case inl.false | inr.false =>
        have : kids y = [] := by cases y <;> simp [kids, isT] at hT ⊢
        simp [C0_weight, L0_weight, -D.eqB, D.eqB_nil hpl, -D.isi, hi, hT, this]
      case inl.true | inr.true =>
        cases y <;> simp [isT] at hT
        simp [kids] at hlen
        simp [C0_weight, L0_weight, -D.eqB, D.eqB_nil hpl, kids, hlen]
theorem run_weight (d : D) (w : List Sl → Nat) (h : thg d = true) (hw : ∀ e, w e = 1001) (hb : d.wt ≤ 1000) : runF 4 (b_weight w) [.val d] = .im (.int d.wt) [.val d] := by
  obtain ⟨y, hy⟩ := weight_loop w d 1000 [d] 0 .non (.inl rfl) (by simpa using hb) (by omega) (by simp [h])
  simp at hy
  simp [b_weight, hw, hy]
end HFL

set_option Elab.async false
set_option linter.all false
set_option maxRecDepth 100000
set_option maxHeartbeats 4000000
set_option autoImplicit false
namespace HFL
open PySem PySem.Spec PyProof.Rows L2 HF
/-! ### the law's cells -/
def cell (ns : List Int) (k : Int) : Int := if k < ns.length then (L2.atI ns k).getD 0 else 0
theorem atI_lt {α : Type} {xs : List α} {k : Int} (h0 : 0 ≤ k) (h : k < xs.length) : ∃ x, L2.atI xs k = some x ∧ x ∈ xs := by
  have : k.toNat < xs.length := by omega
  refine ⟨xs[k.toNat], ?_, by simp⟩
  unfold L2.atI L2.ixN
  rw [if_pos h0, if_pos h]
  simp [List.getElem?_eq_getElem this]
theorem run_cell_at (ns : List Int) (k : Int) (h0 : 0 ≤ k) : runF 2 b_law_cell_at [.val (.scr ns), .val (.int k)] = .im (.int (cell ns k)) [.val (.scr ns), .val (.int k)] := by
  by_cases h : k < ns.length
  · obtain ⟨x, hx, _⟩ := atI_lt h0 h
    simp [b_law_cell_at, hx, cell, h]
  · simp [b_law_cell_at, cell, h]
end HFL

set_option Elab.async false
set_option linter.all false
set_option maxRecDepth 100000
set_option maxHeartbeats 4000000
set_option autoImplicit false
namespace HFL
open PySem PySem.Spec PyProof.Rows L2 HF
theorem cutL_hi {α : Type} (xs : List α) {k : Int} (h0 : 0 ≤ k) (h1 : k ≤ xs.length) : cutL xs none (some k) = xs.take k.toNat := by
  unfold cutL
  have : HT.sIx xs.length xs.length (some k) = k.toNat := by unfold HT.sIx; simp only; rw [if_neg (by omega)]; omega
  rw [this]; simp [HT.sIx]
theorem cutL_lo {α : Type} (xs : List α) {k : Int} (h0 : 0 ≤ k) (h1 : k ≤ xs.length) : cutL xs (some k) none = xs.drop k.toNat := by
  unfold cutL
  have : HT.sIx xs.length 0 (some k) = k.toNat := by unfold HT.sIx; simp only; rw [if_neg (by omega)]; omega
  rw [this]; simp [HT.sIx, List.take_of_length_le]
theorem cutL_sub {α : Type} (xs : List α) (a b : Option Int) : ∀ x ∈ cutL xs a b, x ∈ xs := fun x m => List.mem_of_mem_drop (List.mem_of_mem_take m)
theorem cutL_len {α : Type} (xs : List α) (k m : Int) (h : 0 ≤ k) (hm : 0 ≤ m) : (cutL xs (some k) (some (k + m))).length ≤ m.toNat := by
  unfold cutL HT.sIx
  simp only
  rw [if_neg (by omega), if_neg (by omega)]
  simp
  omega
theorem wtL_take (ds : List D) (n : Nat) : D.wtL (ds.take n) + D.wtL (ds.drop n) = D.wtL ds := by
  rw [← D.wtL_append, List.take_append_drop]
theorem dpL_mem {ds : List D} {n : Nat} : D.dpL ds ≤ n ↔ ∀ d ∈ ds, d.dp ≤ n := D.dpL_le
theorem thgL_iff {ds : List D} : thgL ds = true ↔ ∀ d ∈ ds, thg d = true := ⟨fun h _ m => thgL_mem h m, thgL_of⟩
theorem wtL_ints (n : Nat) (i : Int) : D.wtL (List.replicate n [D.int i]).flatten = n := by
  induction n with
  | zero => simp
  | succ n ih => rw [List.replicate_succ, List.flatten_cons, D.wtL_append, ih]; simp [D.wt]; omega
theorem mem_ints {n : Nat} {i : Int} {d : D} (m : d ∈ (List.replicate n [D.int i]).flatten) : d = .int i := by
  simp at m; exact m.2
end HFL

set_option Elab.async false
set_option linter.all false
set_option maxRecDepth 100000
set_option maxHeartbeats 4000000
set_option autoImplicit false
namespace HFL
open PySem PySem.Spec PyProof.Rows L2 HF
mutual
theorem dp_ge : ∀ d : D, thg d = true → (isT d = true → 1 ≤ d.dp)
  | .tup xs, _, _ => by simp [D.dp]
  | .non, _, h => by simp [isT] at h
  | .bl _, _, h => by simp [isT] at h
  | .int _, _, h => by simp [isT] at h
  | .str _, _, h => by simp [isT] at h
  | .lst _, _, h => by simp [isT] at h
  | .dct _ _, _, h => by simp [isT] at h
  | .scr _, _, h => by simp [isT] at h
  | .ty _, _, h => by simp [isT] at h
end
theorem thing_tup {xs : List D} {n : Nat} (h : thg (.tup xs) = true) (hd : (D.tup xs).dp ≤ n + 1) : ∀ d ∈ xs, thg d = true ∧ d.dp ≤ n := fun d m => by
  rw [thg_tup] at h
  simp only [D.dp, D.py_tup, depth_tup, Nat.add_le_add_iff_right] at hd
  exact ⟨thgL_mem h m, dpL_mem.mp hd d m⟩
theorem wtL_sum (ds : List D) : (ds.map fun d => (d.wt : Int)).sum = (D.wtL ds : Int) := by
  induction ds with
  | nil => simp
  | cons d ds ih => simp [ih]
theorem run_law_weight : ∀ (n : Nat) (d : D), thg d = true → d.dp ≤ n → d.wt ≤ 1000 → iterF (fun Φ => runF 2 (b_law_weight Φ)) (n + 1) [.val d] = .im (.int d.wt) [.val d] := by
  intro n
  induction n with
  | zero =>
    intro d h hd hw
    unfold iterF
    cases d with
    | tup xs => simp [D.dp] at hd
    | _ => first | (simp [thg, leafy] at h; done) | simp [b_law_weight, D.wt]
  | succ n ih =>
    intro d h hd hw
    unfold iterF
    cases d with
    | tup xs =>
      have hk := thing_tup h hd
      have hl := D.length_le_wtL xs
      simp only [D.wt_tup] at hw
      have hlc := lcL_map (i := 1) (E := E0_law_weight (iterF (fun Φ => runF 2 (b_law_weight Φ)) (n + 1))) (fun d => .int d.wt) (e := [.val (.tup xs), .non]) rfl xs [] (by simp; omega) (fun d m => by
        have : d.wt ≤ D.wtL xs := by
          obtain ⟨a, b, rfl⟩ := List.append_of_mem m
          simp; omega
        simp [E0_law_weight, ih d (hk d m).1 (hk d m).2 (by omega)])
      simp only [Tg.F, List.nil_append] at hlc
      generalize iterF (fun Φ => runF 2 (b_law_weight Φ)) (n + 1) = Φ at hlc
      simp [b_law_weight, hlc, intsD_map, wtL_sum]
    | _ => first | (simp [thg, leafy] at h; done) | simp [b_law_weight, D.wt]
end HFL

set_option Elab.async false
set_option linter.all false
set_option maxRecDepth 100000
set_option maxHeartbeats 4000000
set_option autoImplicit false
namespace HFL
open PySem PySem.Spec PyProof.Rows L2 HF
/-! ### the operations -/
mutual
/-- numbers below 2 ** 63, lists of these -/
def vnt : D → Bool
  | .int i => decide (-(2 ^ 63) < i) && decide (i < 2 ^ 63)
  | .tup xs => vntL xs
  | _ => false
def vntL : List D → Bool
  | [] => true
  | d :: ds => vnt d && vntL ds
end
@[simp] theorem vntL_nil : vntL [] = true := by rw [vntL]
@[simp] theorem vntL_cons (d : D) (ds : List D) : vntL (d :: ds) = (vnt d && vntL ds) := by rw [vntL]
@[simp] theorem vnt_tup (xs : List D) : vnt (.tup xs) = vntL xs := by rw [vnt]
theorem vntL_iff {ds : List D} : vntL ds = true ↔ ∀ d ∈ ds, vnt d = true := by
  induction ds with
  | nil => simp
  | cons x ds ih => simp [ih]
mutual
theorem vnt_thg : ∀ d : D, vnt d = true → thg d = true
  | .tup xs, h => by simp at h; simpa using vntL_thg xs h
  | .int _, h => by rfl
  | .non, h => by simp [vnt] at h
  | .bl _, h => by simp [vnt] at h
  | .str s, h => by simp [vnt] at h
  | .lst _, h => by simp [vnt] at h
  | .dct _ _, h => by simp [vnt] at h
  | .scr _, h => by simp [vnt] at h
  | .ty _, h => by simp [vnt] at h
  | .ob _, h => by simp [vnt] at h
theorem vntL_thg : ∀ ds : List D, vntL ds = true → thgL ds = true
  | [], _ => by simp
  | d :: ds, h => by simp at h; simp [vnt_thg d h.1, vntL_thg ds h.2]
end
/-- a number or a list -/
theorem vnt_cases {d : D} (h : vnt d = true) : (∃ i, d = .int i ∧ -(2 ^ 63) < i ∧ i < 2 ^ 63) ∨ ∃ xs, d = .tup xs ∧ vntL xs = true := by
  cases d <;> simp [vnt] at h
  · exact .inl ⟨_, rfl, by simpa using h⟩
  · exact .inr ⟨_, rfl, h⟩
/-- what an operation tells: a value, or the error's class -/
inductive Rz where
  | ok (d : D)
  | no (c : Str)
def Rz.fr (as : List Ar) : Rz → FR
  | .ok d => .im d as
  | .no c => .err c
@[simp] theorem Rz.fr_ok (as : List Ar) (d : D) : Rz.fr as (.ok d) = .im d as := rfl
@[simp] theorem Rz.fr_no (as : List Ar) (c : Str) : Rz.fr as (.no c) = .err c := rfl
def bnd (d : D) : Bool := if isT d then decide (d.wt ≤ 50) else whole d
def bz (d : D) : Rz := if bnd d then .ok d else .no "TooGreat"
theorem run_need_number (d : D) (h : thg d = true) : runF 1 b_need_number [.val d] = if isT d then .err "NoNumber" else .im .non [.val d] := by
  cases d <;> simp [thg, leafy] at h <;> simp [b_need_number, isT]
theorem run_need_list (d : D) (h : thg d = true) : runF 1 b_need_list [.val d] = if isT d then .im .non [.val d] else .err "NoList" := by
  cases d <;> simp [thg, leafy] at h <;> simp [b_need_list, isT]
theorem run_bounded {fw fi : List Ar → FR} (hw : ∀ d, thg d = true → d.wt ≤ 1000 → fw [.val d] = .im (.int d.wt) [.val d]) (hi : ∀ d, thg d = true → fi [.val d] = .im (.bl (whole d)) [.val d]) (d : D) (h : thg d = true) (hd : d.wt ≤ 1000) :
    runF 1 (b_bounded fw fi (.int 50)) [.val d] = (bz d).fr [.val d] := by
  have w := hw d h hd
  have i := hi d h
  by_cases ht : isT d = true
  · cases d <;> simp [isT] at ht
    rename_i xs
    by_cases hb : (D.tup xs).wt ≤ 50
    · simp only [D.wt_tup] at hb w
      have hb' : ¬ (50 : Int) < 1 + (D.wtL xs : Int) := by omega
      simp [b_bounded, w, hb', bz, bnd, isT, hb]
    · simp only [D.wt_tup] at hb w
      have hb' : (50 : Int) < 1 + (D.wtL xs : Int) := by omega
      simp [b_bounded, w, hb', bz, bnd, isT, hb]
  · have hi := isi_tup h
    have ht : isT d = false := by simpa using ht
    cases hb : whole d with
    | true => simp [b_bounded, -D.isi, hi, ht, i, hb, bz, bnd]
    | false => simp [b_bounded, -D.isi, hi, ht, i, hb, bz, bnd]
def numI (op : Str) (i j : Int) : Rz :=
  if op = "plus" then bz (.int (i + j)) else if op = "minus" then bz (.int (i - j)) else if op = "times" then bz (.int (i * j))
  else if op = "less" then .ok (.int (if i < j then 1 else 0)) else if j = 0 then .no "ByNought" else bz (.int (i.fdiv j))
def numM (op : Str) : D → D → Rz
  | .int i, .int j => numI op i j
  | _, _ => .no "NoNumber"
theorem thg_int (i : Int) : thg (.int i) = true := rfl
theorem wt_int (i : Int) : (D.int i).wt = 1 := rfl
theorem run_of_numbers {fn fb : List Ar → FR} (hn : ∀ d, thg d = true → fn [.val d] = if isT d then .err "NoNumber" else .im .non [.val d]) (hb : ∀ d, thg d = true → d.wt ≤ 1000 → fb [.val d] = (bz d).fr [.val d]) (op : Str) (a b : D) (ha : vnt a = true) (hbv : vnt b = true) :
    runF 3 (b_of_numbers fn fb) [.val (.str op), .val a, .val b] = (numM op a b).fr [.val (.str op), .val a, .val b] := by
  have na := hn a (vnt_thg a ha)
  have nb := hn b (vnt_thg b hbv)
  rcases vnt_cases ha with ⟨i, rfl, i1, i2⟩ | ⟨xs, rfl, h1⟩
  · rcases vnt_cases hbv with ⟨j, rfl, j1, j2⟩ | ⟨ys, rfl, h2⟩
    · simp only [isT, Bool.false_eq_true, if_false] at na nb
      have bb : ∀ k : Int, fb [.val (.int k)] = (bz (.int k)).fr [.val (.int k)] := fun k => hb _ rfl (by simp [D.wt])
      have fin : ∀ k : Int, (∃ d, bz (.int k) = .ok d) ∨ bz (.int k) = .no "TooGreat" := fun k => by unfold bz; split; exact .inl ⟨_, rfl⟩; exact .inr rfl
      have i1' : i.natAbs < 18446744073709551616 := by omega
      simp only [numM, numI]
      by_cases p1 : op = "plus"
      · rcases fin (i + j) with ⟨d, e⟩ | e <;> simp +decide [b_of_numbers, na, nb, p1, bb, e]
      by_cases p2 : op = "minus"
      · rcases fin (i - j) with ⟨d, e⟩ | e <;> simp +decide [b_of_numbers, na, nb, p1, p2, bb, e]
      by_cases p3 : op = "times"
      · rcases fin (i * j) with ⟨d, e⟩ | e <;> simp +decide [b_of_numbers, na, nb, p1, p2, p3, bb, e, i1']
      by_cases p4 : op = "less"
      · by_cases q : i < j <;> simp +decide [b_of_numbers, na, nb, p1, p2, p3, p4, q]
      by_cases p5 : j = 0
      · subst p5; simp [b_of_numbers, na, nb, p1, p2, p3, p4]
      have hj : j.natAbs < 18446744073709551616 := by omega
      rcases fin (i.fdiv j) with ⟨d, e⟩ | e <;> simp +decide [b_of_numbers, na, nb, p1, p2, p3, p4, p5, bb, e, hj]
    · simp [isT] at na nb
      simp [b_of_numbers, na, nb, numM]
  · simp [isT] at na
    simp [b_of_numbers, na, numM]
theorem eqB_tnil {xs : List D} (h : D.plL xs) : D.eqB (.tup xs) (.tup []) = some (decide (xs = [])) := by
  have h' : PyData.canLayAll0 (D.pyL xs) = true := h
  simp [D.eqB, h']
  cases xs <;> simp [PyData.eqvAll]
def oneM (op : Str) : D → Rz
  | .int i => if op = "down" then (if i ≤ 0 then .no "NoDown" else .ok (.int (i - 1))) else .no "NoList"
  | .tup xs => if op = "down" then .no "NoNumber" else if op = "empty" then .ok (.int (if xs = [] then 1 else 0)) else (match xs with
    | [] => .no "NoFirst"
    | x :: r => if op = "first" then .ok x else .ok (.tup r))
  | _ => .no "NoList"
theorem run_of_one {fn fl : List Ar → FR} (hn : ∀ d, thg d = true → fn [.val d] = if isT d then .err "NoNumber" else .im .non [.val d]) (hl : ∀ d, thg d = true → fl [.val d] = if isT d then .im .non [.val d] else .err "NoList") (op : Str) (a : D) (ha : vnt a = true) :
    runF 2 (b_of_one fn fl) [.val (.str op), .val a] = (oneM op a).fr [.val (.str op), .val a] := by
  have na := hn a (vnt_thg a ha)
  have la := hl a (vnt_thg a ha)
  rcases vnt_cases ha with ⟨i, rfl, i1, i2⟩ | ⟨xs, rfl, h1⟩
  · simp only [isT, Bool.false_eq_true, if_false] at na la
    by_cases p1 : op = "down"
    · by_cases q : i ≤ 0 <;> simp [b_of_one, na, p1, q, oneM]
    · simp [b_of_one, la, p1, oneM]
  · simp only [isT, if_true] at na la
    have hpl : D.plL xs := thgL_pl _ (vntL_thg _ h1)
    have e := eqB_tnil hpl
    have eqs : ∀ x y : Str, D.eqB (.str x) (.str y) = some (decide (x = y)) := fun _ _ => rfl
    by_cases p1 : op = "down"
    · simp [b_of_one, na, p1, oneM]
    by_cases p2 : op = "empty"
    · by_cases q : xs = []
      · subst q; simp +decide [b_of_one, la, p1, p2, oneM, -D.eqB, e, eqs]
      · simp +decide [b_of_one, la, p1, p2, oneM, -D.eqB, e, eqs, q]
    cases xs with
    | nil => simp [b_of_one, la, p1, p2, oneM, -D.eqB, e, eqs]
    | cons x r =>
      by_cases p3 : op = "first"
      · simp +decide [b_of_one, la, p1, p2, p3, oneM, -D.eqB, e, eqs, atI, ixN]
      · have c := cutL_lo (x :: r) (k := 1) (by omega) (by simp; omega)
        simp at c
        simp [b_of_one, la, p1, p2, p3, oneM, -D.eqB, e, eqs, c]
/-! done -/
def NUMS : D := .tup [.str "plus", .str "minus", .str "times", .str "over", .str "less"]
def ALON : D := .tup [.str "first", .str "rest", .str "empty", .str "down"]
def isNum (op : Str) : Bool := decide (op = "plus") || (decide (op = "minus") || (decide (op = "times") || (decide (op = "over") || decide (op = "less"))))
def isAlo (op : Str) : Bool := decide (op = "first") || (decide (op = "rest") || (decide (op = "empty") || decide (op = "down")))
theorem inB_nums (op : Str) : D.inB (.str op) NUMS = some (isNum op) := by
  simp [NUMS, isNum, @eq_comm _ op]
theorem inB_alon (op : Str) : D.inB (.str op) ALON = some (isAlo op) := by
  simp [ALON, isAlo, @eq_comm _ op]
def d0 (vs : List D) : D := (vs[0]?).getD .non
def d1 (vs : List D) : D := (vs[1]?).getD .non
def sameM (a b : D) : Rz := .ok (.int (if PyData.eqv a.py b.py then 1 else 0))
def joinM (a : D) : D → Rz
  | .tup xs => bz (.tup (a :: xs))
  | _ => .no "NoList"
def doneM (op : Str) (vs : List D) : Rz :=
  if op = "list" then bz (.tup vs) else if isNum op then numM op (d0 vs) (d1 vs) else if isAlo op then oneM op (d0 vs)
  else if op = "same" then sameM (d0 vs) (d1 vs) else joinM (d0 vs) (d1 vs)
/-- what may be handed to an operation -/
structure OkCall (op : Str) (vs : List D) : Prop where
  vn : vntL vs = true
  wt : D.wtL vs ≤ 900
  dp : D.dpL vs ≤ 60
  ar : op = "list" ∨ (isNum op = false ∧ isAlo op = true ∧ 1 ≤ vs.length) ∨ 2 ≤ vs.length
end HFL

set_option Elab.async false
set_option linter.all false
set_option maxRecDepth 100000
set_option maxHeartbeats 4000000
set_option autoImplicit false
namespace HFL
open PySem PySem.Spec PyProof.Rows L2 HF
theorem at0 {vs : List D} (h : 1 ≤ vs.length) : atI vs 0 = some (d0 vs) := by
  cases vs with
  | nil => simp at h
  | cons x r => simp [atI, ixN, d0]
theorem at1 {vs : List D} (h : 2 ≤ vs.length) : atI vs 1 = some (d1 vs) := by
  cases vs with
  | nil => simp at h
  | cons x r => cases r with
    | nil => simp at h
    | cons y r =>
      have l : (1 : Int) < ((x :: y :: r).length : Int) := by simp only [List.length_cons]; omega
      unfold atI ixN
      rw [if_pos (by omega), if_pos l]
      rfl
theorem mem0 {vs : List D} (h : 1 ≤ vs.length) : d0 vs ∈ vs := by
  cases vs with
  | nil => simp at h
  | cons x r => simp [d0]
theorem mem1 {vs : List D} (h : 2 ≤ vs.length) : d1 vs ∈ vs := by
  cases vs with
  | nil => simp at h
  | cons x r => cases r with
    | nil => simp at h
    | cons y r => simp [d1]
theorem wt_mem {ds : List D} {d : D} (m : d ∈ ds) : d.wt ≤ D.wtL ds := by
  obtain ⟨a, b, rfl⟩ := List.append_of_mem m
  simp; omega
theorem wt01 {vs : List D} (h : 2 ≤ vs.length) : (d0 vs).wt + (d1 vs).wt ≤ D.wtL vs := by
  cases vs with
  | nil => simp at h
  | cons x r => cases r with
    | nil => simp at h
    | cons y r => simp [d0, d1]
theorem Rz.two (r : Rz) : (∃ d, r = .ok d) ∨ ∃ c, r = .no c := by cases r; exact .inl ⟨_, rfl⟩; exact .inr ⟨_, rfl⟩
theorem list_ne_num : isNum "list" = false := by decide
theorem run_done {fb fm fo fl : List Ar → FR} (hb : ∀ d, thg d = true → d.wt ≤ 1000 → fb [.val d] = (bz d).fr [.val d]) (hm : ∀ op a b, vnt a = true → vnt b = true → fm [.val (.str op), .val a, .val b] = (numM op a b).fr [.val (.str op), .val a, .val b])
    (ho : ∀ op a, vnt a = true → fo [.val (.str op), .val a] = (oneM op a).fr [.val (.str op), .val a]) (hl : ∀ d, thg d = true → fl [.val d] = if isT d then .im .non [.val d] else .err "NoList") (op : Str) (vs : List D) (O : OkCall op vs) :
    runF 2 (b_done fb fm fo fl NUMS ALON) [.val (.str op), .val (.lst vs)] = (doneM op vs).fr [.val (.str op), .val (.lst vs)] := by
  have hvn := O.vn
  by_cases p1 : op = "list"
  · have b := hb (.tup vs) (by simpa using vntL_thg _ hvn) (by have := O.wt; simp; omega)
    rcases (bz (.tup vs)).two with ⟨d, e⟩ | ⟨c, e⟩ <;> (rw [e] at b; simp at b; simp [b_done, p1, doneM, b, e])
  · have hn := inB_nums op
    have ha := inB_alon op
    have ar := O.ar.resolve_left p1
    have l1 : 1 ≤ vs.length := by rcases ar with ⟨_, _, z⟩ | z <;> omega
    have a0 := at0 l1
    have v0 := vntL_iff.mp hvn _ (mem0 l1)
    cases hN : isNum op with
    | true =>
      have l2 : 2 ≤ vs.length := by rcases ar with ⟨z, _, _⟩ | z; rw [hN] at z; cases z; exact z
      have a1 := at1 l2
      have v1 := vntL_iff.mp hvn _ (mem1 l2)
      have m := hm op _ _ v0 v1
      rw [hN] at hn
      rcases (numM op (d0 vs) (d1 vs)).two with ⟨d, e⟩ | ⟨c, e⟩ <;> (rw [e] at m; simp at m; simp [b_done, p1, doneM, hn, hN, a0, a1, m, e, -D.inB])
    | false =>
      rw [hN] at hn
      cases hA : isAlo op with
      | true =>
        rw [hA] at ha
        have o := ho op _ v0
        rcases (oneM op (d0 vs)).two with ⟨d, e⟩ | ⟨c, e⟩ <;> (rw [e] at o; simp at o; simp [b_done, p1, doneM, hn, ha, hN, hA, a0, o, e, -D.inB])
      | false =>
        rw [hA] at ha
        have l2 : 2 ≤ vs.length := by rcases ar with ⟨_, z, _⟩ | z; rw [hA] at z; cases z; exact z
        have a1 := at1 l2
        have v1 := vntL_iff.mp hvn _ (mem1 l2)
        by_cases p2 : op = "same"
        · have c0 : (d0 vs).py.canLay0 = true := thg_pl _ (vnt_thg _ v0)
          have c1 : (d1 vs).py.canLay0 = true := thg_pl _ (vnt_thg _ v1)
          have dd : (d0 vs).py.depth ≤ 60 := dpL_mem.mp O.dp _ (mem0 l1)
          have eq : D.eqB (d0 vs) (d1 vs) = some (PyData.eqv (d0 vs).py (d1 vs).py) := by
            generalize d0 vs = x at *
            generalize d1 vs = y at *
            have hm : min x.py.depth y.py.depth ≤ 64 := by omega
            cases x <;> cases y <;> simp_all [D.eqB]
          have eqs : ∀ x y : Str, D.eqB (.str x) (.str y) = some (decide (x = y)) := fun _ _ => rfl
          have hs : decide (("same" : Str) = "list") = false := by decide
          subst p2
          cases q : PyData.eqv (d0 vs).py (d1 vs).py <;> simp [b_done, p1, doneM, hn, ha, hN, hA, a0, a1, -D.inB, -D.eqB, eqs, eq, q, sameM]
        · have t0 := vnt_thg _ v1
          have li := hl _ t0
          have t00 := vnt_thg _ v0
          cases hT : isT (d1 vs) with
          | false =>
            rw [hT] at li
            have : joinM (d0 vs) (d1 vs) = .no "NoList" := by cases h : d1 vs <;> simp [h, isT] at hT <;> simp [joinM, h]
            simp at li
            simp [b_done, p1, p2, doneM, hn, ha, hN, hA, a1, -D.inB, li, this]
          | true =>
            rw [hT] at li
            obtain ⟨xs, hx⟩ : ∃ xs, d1 vs = .tup xs := by cases h : d1 vs <;> simp [h, isT] at hT; exact ⟨_, rfl⟩
            have w := wt01 l2
            have ww := O.wt
            rw [hx] at a1 li t0 w
            have b := hb (.tup (d0 vs :: xs)) (by simp at t0 ⊢; exact ⟨t00, t0⟩) (by simp at w ⊢; omega)
            have hlen : 1 + xs.length ≤ 16777216 := by have := D.length_le_wtL xs; simp at w; omega
            simp at li
            rcases (bz (.tup (d0 vs :: xs))).two with ⟨d, e⟩ | ⟨c, e⟩ <;> (rw [e] at b; simp at b; simp [b_done, p1, p2, doneM, hn, ha, hN, hA, a0, a1, -D.inB, li, joinM, hx, b, e, hlen])
/-! ### the law's own reckoning -/
def due : Rz → D
  | .ok d => .tup [.bl true, d]
  | .no c => .tup [.bl false, .str c]
theorem run_law_fit {fw : List Ar → FR} (hw : ∀ d, thg d = true → d.wt ≤ 1000 → d.dp ≤ 62 → fw [.val d] = .im (.int d.wt) [.val d]) (d : D) (h : vnt d = true) (hd : d.wt ≤ 1000) (hp : d.dp ≤ 62) : runF 1 (b_law_fit fw) [.val d] = .im (due (bz d)) [.val d] := by
  rcases vnt_cases h with ⟨i, rfl, i1, i2⟩ | ⟨xs, rfl, h1⟩
  · by_cases q : (if i < 0 then -i else i) < 1000000000000000000
    · have q' : ¬ (1000000000000000000 ≤ (if i < 0 then -i else i)) := by omega
      simp [b_law_fit, q, q', due, bz, bnd, isT, whole, big, atI, ixN]
    · have q' : (1000000000000000000 ≤ (if i < 0 then -i else i)) := by omega
      simp [b_law_fit, q, q', due, bz, bnd, isT, whole, big, atI, ixN]
  · have w := hw (.tup xs) (vnt_thg _ h) hd hp
    simp only [D.wt_tup] at w
    by_cases q : 1 + D.wtL xs ≤ 50
    · have q1 : 1 + (D.wtL xs : Int) ≤ 50 := by omega
      have q2 : ¬ (50 : Int) < 1 + (D.wtL xs : Int) := by omega
      simp [b_law_fit, w, q, q1, q2, due, bz, bnd, isT, atI, ixN]
    · have q1 : ¬ 1 + (D.wtL xs : Int) ≤ 50 := by omega
      have q2 : (50 : Int) < 1 + (D.wtL xs : Int) := by omega
      simp [b_law_fit, w, q, q1, q2, due, bz, bnd, isT, atI, ixN]
end HFL

set_option Elab.async false
set_option linter.all false
set_option maxRecDepth 100000
set_option maxHeartbeats 4000000
set_option autoImplicit false
namespace HFL
open PySem PySem.Spec PyProof.Rows L2 HF
theorem run_law_counted {ff : List Ar → FR} (hf : ∀ d, vnt d = true ∨ (∃ i, d = .int i) → d.wt ≤ 1000 → d.dp ≤ 62 → ff [.val d] = .im (due (bz d)) [.val d]) (op : Str) (a b : D) (ha : vnt a = true) (hb : vnt b = true) (hop : isNum op = true) :
    runF 3 (b_law_counted ff) [.val (.str op), .val a, .val b] = .im (due (numM op a b)) [.val (.str op), .val a, .val b] := by
  rcases vnt_cases ha with ⟨i, rfl, i1, i2⟩ | ⟨xs, rfl, h1⟩
  · rcases vnt_cases hb with ⟨j, rfl, j1, j2⟩ | ⟨ys, rfl, h2⟩
    · have bb : ∀ k : Int, ff [.val (.int k)] = .im (due (bz (.int k))) [.val (.int k)] := fun k => hf _ (.inr ⟨k, rfl⟩) (by simp [D.wt]) (by simp [D.dp, PyData.depth])
      have i1' : i.natAbs < 18446744073709551616 := by omega
      simp only [numM, numI]
      have hop' : op = "plus" ∨ op = "minus" ∨ op = "times" ∨ op = "over" ∨ op = "less" := by simpa [isNum] using hop
      rcases hop' with rfl | rfl | rfl | rfl | rfl
      · simp +decide [b_law_counted, bb, dlook, i1']
      · simp +decide [b_law_counted, bb, dlook, i1']
      · simp +decide [b_law_counted, bb, dlook, i1']
      · by_cases p5 : j = 0
        · subst p5; simp +decide [b_law_counted, due]
        · have hj : j.natAbs < 18446744073709551616 := by omega
          simp +decide [b_law_counted, p5, bb, hj]
      · by_cases q : i < j <;> simp +decide [b_law_counted, q, due]
    · simp [b_law_counted, numM, due]
  · simp [b_law_counted, numM, due]
theorem run_law_taken (op : Str) (a : D) (ha : vnt a = true) (hop : isAlo op = true) :
    runF 2 b_law_taken [.val (.str op), .val a] = .im (due (oneM op a)) [.val (.str op), .val a] := by
  have hop' : op = "first" ∨ op = "rest" ∨ op = "empty" ∨ op = "down" := by simpa [isAlo] using hop
  rcases vnt_cases ha with ⟨i, rfl, i1, i2⟩ | ⟨xs, rfl, h1⟩
  · rcases hop' with rfl | rfl | rfl | rfl
    · simp +decide [b_law_taken, oneM, due]
    · simp +decide [b_law_taken, oneM, due]
    · simp +decide [b_law_taken, oneM, due]
    · by_cases q : i ≤ 0
      · have q' : ¬ 0 < i := by omega
        simp +decide [b_law_taken, oneM, due, q, q', atI, ixN]
      · have q' : 0 < i := by omega
        simp +decide [b_law_taken, oneM, due, q, q', atI, ixN]
  · cases xs with
    | nil => rcases hop' with rfl | rfl | rfl | rfl <;> simp +decide [b_law_taken, oneM, due]
    | cons x r =>
      have c := cutL_lo (x :: r) (k := 1) (by omega) (by simp; omega)
      simp at c
      have nz : ¬ ((r.length : Int) + 1 = 0) := by omega
      have l : (0 : Int) < ((x :: r).length : Int) := by simp only [List.length_cons]; omega
      have a0 : atI (x :: r) 0 = some x := by unfold atI ixN; rw [if_pos (by omega), if_pos l]; rfl
      rcases hop' with rfl | rfl | rfl | rfl <;> simp +decide [b_law_taken, oneM, due, c, nz, a0]
theorem run_law_done {ff ft fc : List Ar → FR} (hf : ∀ d, vnt d = true ∨ (∃ i, d = .int i) → d.wt ≤ 1000 → d.dp ≤ 62 → ff [.val d] = .im (due (bz d)) [.val d]) (ht : ∀ op a, vnt a = true → isAlo op = true → ft [.val (.str op), .val a] = .im (due (oneM op a)) [.val (.str op), .val a])
    (hc : ∀ op a b, vnt a = true → vnt b = true → isNum op = true → fc [.val (.str op), .val a, .val b] = .im (due (numM op a b)) [.val (.str op), .val a, .val b]) (op : Str) (vs : List D) (O : OkCall op vs)
    (hop : op = "list" ∨ isNum op = true ∨ isAlo op = true ∨ op = "same" ∨ op = "join") :
    runF 2 (b_law_done ff ft fc) [.val (.str op), .val (.lst vs)] = .im (due (doneM op vs)) [.val (.str op), .val (.lst vs)] := by
  have hvn := O.vn
  have hww := O.wt
  have hdp : D.dpL vs ≤ 60 := O.dp
  have eqs : ∀ x y : Str, D.eqB (.str x) (.str y) = some (decide (x = y)) := fun _ _ => rfl
  by_cases p1 : op = "list"
  · have f := hf (.tup vs) (.inl (by simpa using hvn)) (by simp; omega) (by unfold D.dpL at hdp; simp [D.dp]; omega)
    simp [b_law_done, p1, doneM, f]
  · have ar := O.ar.resolve_left p1
    have hop := hop.resolve_left p1
    have l1 : 1 ≤ vs.length := by rcases ar with ⟨_, _, z⟩ | z <;> omega
    have a0 := at0 l1
    have v0 := vntL_iff.mp hvn _ (mem0 l1)
    have ha : D.inB (.str op) (.tup [.str "first", .str "rest", .str "empty", .str "down"]) = some (isAlo op) := inB_alon op
    cases hN : isNum op with
    | true =>
      have l2 : 2 ≤ vs.length := by rcases ar with ⟨z, _, _⟩ | z; rw [hN] at z; cases z; exact z
      have a1 := at1 l2
      have v1 := vntL_iff.mp hvn _ (mem1 l2)
      have m := hc op _ _ v0 v1 hN
      have hnA : isAlo op = false ∧ op ≠ "same" ∧ op ≠ "join" := by
        have hop' : op = "plus" ∨ op = "minus" ∨ op = "times" ∨ op = "over" ∨ op = "less" := by simpa [isNum] using hN
        rcases hop' with rfl | rfl | rfl | rfl | rfl <;> decide
      rw [hnA.1] at ha
      simp [b_law_done, p1, doneM, ha, hN, hnA.2.1, hnA.2.2, a0, a1, m, -D.inB]
    | false =>
      rw [hN] at hop
      have hop := hop.resolve_left (by simp)
      cases hA : isAlo op with
      | true =>
        have hS : op ≠ "same" := by
          have hop' : op = "first" ∨ op = "rest" ∨ op = "empty" ∨ op = "down" := by simpa [isAlo] using hA
          rcases hop' with rfl | rfl | rfl | rfl <;> decide
        have o := ht op _ v0 hA
        rw [hA] at ha
        simp [b_law_done, p1, doneM, ha, hN, hA, hS, a0, o, -D.inB]
      | false =>
        rw [hA] at ha
        rw [hA] at hop
        have hop := hop.resolve_left (by simp)
        have l2 : 2 ≤ vs.length := by rcases ar with ⟨_, z, _⟩ | z; rw [hA] at z; cases z; exact z
        have a1 := at1 l2
        have v1 := vntL_iff.mp hvn _ (mem1 l2)
        rcases hop with rfl | rfl
        · have c0 : (d0 vs).py.canLay0 = true := thg_pl _ (vnt_thg _ v0)
          have c1 : (d1 vs).py.canLay0 = true := thg_pl _ (vnt_thg _ v1)
          have dd : (d0 vs).py.depth ≤ 60 := dpL_mem.mp O.dp _ (mem0 l1)
          have eq : D.eqB (d0 vs) (d1 vs) = some (PyData.eqv (d0 vs).py (d1 vs).py) := by
            generalize d0 vs = x at *
            generalize d1 vs = y at *
            have hm : min x.py.depth y.py.depth ≤ 64 := by omega
            cases x <;> cases y <;> simp_all [D.eqB]
          cases q : PyData.eqv (d0 vs).py (d1 vs).py <;> simp +decide [b_law_done, p1, doneM, ha, hN, hA, a0, a1, -D.inB, -D.eqB, eqs, eq, q, sameM, due]
        · have w := wt01 l2
          have d0' : (d0 vs).dp ≤ 60 := dpL_mem.mp hdp _ (mem0 l1)
          have d1' : (d1 vs).dp ≤ 60 := dpL_mem.mp hdp _ (mem1 l2)
          rcases vnt_cases v1 with ⟨i, hx, _, _⟩ | ⟨xs, hx, hxs⟩
          · rw [hx] at a1
            simp +decide [b_law_done, doneM, ha, hN, hA, a1, -D.inB, -D.eqB, eqs, joinM, hx, due]
          · rw [hx] at a1 w d1'
            have f := hf (.tup (d0 vs :: xs)) (.inl (by simp [v0, hxs])) (by simp at w ⊢; omega) (by simp [D.dp] at d1' d0' ⊢; omega)
            have hlen : 1 + xs.length ≤ 16777216 := by have := D.length_le_wtL xs; simp at w; omega
            simp +decide [b_law_done, doneM, ha, hN, hA, a0, a1, -D.inB, -D.eqB, eqs, joinM, hx, f, hlen]
end HFL

set_option Elab.async false
set_option linter.all false
set_option maxRecDepth 100000
set_option maxHeartbeats 4000000
set_option autoImplicit false
namespace HFL
open PySem PySem.Spec PyProof.Rows L2 HF
/-! law_same: the same is the same -/
theorem same_loop {Φ : List Ar → FR} (xs : List D) (h : ∀ x ∈ xs, Φ [.val x, .val x] = .im (.bl true) [.val x, .val x]) (s : Sl) (fs : frees s) : ∃ s', forL (Tg.F (.nm 2)) (L0_law_same Φ) (rgD 0 xs.length) [.val (.tup xs), .val (.tup xs), s] = .nx [.val (.tup xs), .val (.tup xs), s'] := by
  obtain ⟨e', h1, s', rfl, _⟩ := forL_nx (TF := Tg.F (.nm 2)) (S := L0_law_same Φ) (fun dn e => ∃ s, e = [.val (.tup xs), .val (.tup xs), s] ∧ frees s) (rgD 0 xs.length) (by
    rintro dn d rest e ha ⟨s, rfl, fs⟩
    have : d ∈ rgD 0 xs.length := by rw [ha]; simp
    obtain ⟨i, hi, rfl⟩ := by simpa [rgD] using this
    obtain ⟨x, hx, hm⟩ := atI_lt (xs := xs) (k := (i : Int)) (by omega) (by omega)
    refine ⟨[.val (.tup xs), .val (.tup xs), .val (.int i)], [.val (.tup xs), .val (.tup xs), .val (.int i)], ?_, ?_, _, rfl, .inr ⟨_, rfl⟩⟩
    · rcases fs with rfl | ⟨z, rfl⟩ <;> simp
    · simp [L0_law_same, hx, h x hm]) [.val (.tup xs), .val (.tup xs), s] ⟨s, rfl, fs⟩
  exact ⟨s', h1⟩
theorem rngB_len {n : Nat} (h : n ≤ 1000000) : rngB (n : Int) = true := by
  unfold rngB
  exact decide_eq_true (by simp; omega)
theorem same_leaf (Φ : List Ar → FR) (d : D) (h : (∃ i, d = .int i) ∨ ∃ x, d = .str x) : runF 3 (b_law_same Φ) [.val d, .val d] = .im (.bl true) [.val d, .val d] := by
  rcases h with ⟨i, rfl⟩ | ⟨x, rfl⟩ <;> simp [b_law_same]
theorem same_step (Φ : List Ar → FR) (xs : List D) (hl : xs.length ≤ 1000) (h : ∀ x ∈ xs, Φ [.val x, .val x] = .im (.bl true) [.val x, .val x]) : runF 3 (b_law_same Φ) [.val (.tup xs), .val (.tup xs)] = .im (.bl true) [.val (.tup xs), .val (.tup xs)] := by
  obtain ⟨s', hs⟩ := same_loop (Φ := Φ) xs h .non (.inl rfl)
  simp only [Tg.F] at hs
  have rb : xs.length < 4611686018427387904 := by omega
  simp [b_law_same, hs, rb]
theorem run_same : ∀ (n : Nat) (d : D), vnt d = true ∨ (∃ x, d = .str x) → d.dp ≤ n → d.wt ≤ 1000 → iterF (fun Φ => runF 3 (b_law_same Φ)) (n + 1) [.val d, .val d] = .im (.bl true) [.val d, .val d] := by
  intro n
  induction n with
  | zero =>
    intro d h hd hw
    refine same_leaf _ d ?_
    rcases h with h | ⟨x, rfl⟩
    · rcases vnt_cases h with ⟨i, rfl, _, _⟩ | ⟨xs, rfl, _⟩
      · exact .inl ⟨i, rfl⟩
      · simp [D.dp] at hd
    · exact .inr ⟨x, rfl⟩
  | succ n ih =>
    intro d h hd hw
    rcases h with h | ⟨x, rfl⟩
    · rcases vnt_cases h with ⟨i, rfl, _, _⟩ | ⟨xs, rfl, hx⟩
      · exact same_leaf _ _ (.inl ⟨i, rfl⟩)
      · have hk := thing_tup (vnt_thg _ h) hd
        have hl := D.length_le_wtL xs
        simp only [D.wt_tup] at hw
        exact same_step _ xs (by omega) fun x m => ih x (.inl (vntL_iff.mp hx x m)) (hk x m).2 (by have := wt_mem m; omega)
    · exact same_leaf _ _ (.inr ⟨x, rfl⟩)
end HFL

set_option Elab.async false
set_option linter.all false
set_option maxRecDepth 100000
set_option maxHeartbeats 4000000
set_option autoImplicit false
namespace HFL
open PySem PySem.Spec PyProof.Rows L2 HF
/-! ### the mixing -/
def nxt (p : Int) : Int := ((((p * 48271 + 11).fmod 2147483647)) * ((p * 48271 + 11).fmod 2147483647)).fmod 2147483629
theorem nxt_nn (p : Int) : 0 ≤ nxt p := Int.fmod_nonneg_of_pos _ (by omega)
theorem nxt_lt (p : Int) : nxt p < 2147483629 := Int.fmod_lt_of_pos _ (by omega)
theorem run_next (p : Int) : runF 2 b_law_next [.val (.int p)] = .im (.int (nxt p)) [.val (.int p)] := by
  have h0 : 0 ≤ (p * 48271 + 11).fmod 2147483647 := Int.fmod_nonneg_of_pos _ (by omega)
  have h1 : (p * 48271 + 11).fmod 2147483647 < 2147483647 := Int.fmod_lt_of_pos _ (by omega)
  have h2 : ((p * 48271 + 11).fmod 2147483647).natAbs < 18446744073709551616 := by omega
  simp [b_law_next, h2, nxt]
/-! ### values that are handed in or stand in bodies -/
/-- a value: whole numbers and lists, not too great, not too deep -/
structure Vl (d : D) : Prop where
  gd : good d = true
  wt : d.wt ≤ 50
  dp : d.dp ≤ 10
  th : thg d = true
@[simp] theorem depth_int (i : Int) : (PyData.int i).depth = 0 := by rw [PyData.depth] <;> simp
@[simp] theorem depth_str (i : Str) : (PyData.str i).depth = 0 := by rw [PyData.depth] <;> simp
@[simp] theorem depth_bool (i : Bool) : (PyData.bool i).depth = 0 := by rw [PyData.depth] <;> simp
@[simp] theorem depth_none : (PyData.none).depth = 0 := by rw [PyData.depth] <;> simp
theorem good_thg : ∀ (n : Nat) (d : D), d.wt ≤ n → good d = true → thg d = true := by
  intro n
  induction n with
  | zero => intro d h; have := D.wt_pos d; omega
  | succ n ih =>
    intro d h g
    cases d with
    | tup xs =>
      simp only [thg_tup, good_tup, goodL_all, List.all_eq_true] at g ⊢
      refine thgL_of fun x m => ih x ?_ (g x m)
      have := wt_mem m
      simp at h
      omega
    | _ => simp [good, whole, thg, leafy] at g ⊢
theorem Vl.mk' {d : D} (gd : good d = true) (wt : d.wt ≤ 50) (dp : d.dp ≤ 10) : Vl d := ⟨gd, wt, dp, good_thg _ d (Nat.le_refl _) gd⟩
theorem Vl.int {i : Int} (h : -1000000000000000000 < i) (h' : i < 1000000000000000000) : Vl (.int i) := by
  refine .mk' ?_ (by simp [D.wt]) (by simp [D.dp])
  have e : good (.int i) = decide ((if i < 0 then -i else i) < big) := by simp [good, whole]
  rw [e, decide_eq_true_eq]
  unfold big
  split <;> omega
theorem Vl.tup {ds : List D} (hl : ds.length ≤ 10) (h : ∀ d ∈ ds, ∃ i, d = .int i ∧ -1000000000000000000 < i ∧ i < 1000000000000000000) : Vl (.tup ds) := by
  have e : ∀ ds : List D, (∀ d ∈ ds, ∃ i, d = .int i ∧ -1000000000000000000 < i ∧ i < 1000000000000000000) → D.wtL ds = ds.length := by
    intro ds
    induction ds with
    | nil => intro _; simp
    | cons d ds ih =>
      intro h
      obtain ⟨i, rfl, _⟩ := h d (by simp)
      simp [D.wt, ih fun x m => h x (by simp [m])]
      omega
  refine .mk' ?_ ?_ ?_
  · rw [good_tup, goodL_all, List.all_eq_true]
    intro x m
    obtain ⟨i, rfl, a, b⟩ := h x m
    exact (Vl.int a b).gd
  · have := e ds h
    simp [D.wt]; omega
  · simp [D.dp]
    refine D.dpL_le.mpr fun x m => ?_
    obtain ⟨i, rfl, a, b⟩ := h x m
    simp [D.dp]
def VAL : List D := [.int 0, .int 1, .int 2, .int 3, .int 5, .int (-1), .int (-4), .tup [], .tup [.int 1], .tup [.int 2, .int 0], .tup [.int 1, .int 2, .int 3], .tup [.tup [], .int 1], .tup [.tup [.int 1, .int 2], .tup [.int 3]], .tup [.int 4, .tup [.int 5, .tup [.int 6]]]]
def okv (d : D) : Bool := good d && decide (d.wt ≤ 50) && decide (d.dp ≤ 10)
theorem okv_Vl {d : D} (h : okv d = true) : Vl d := by
  simp only [okv, Bool.and_eq_true, decide_eq_true_eq] at h
  exact .mk' h.1.1 h.1.2 h.2
theorem VAL_ok : ∀ d ∈ VAL, Vl d := by
  intro d m
  simp only [VAL, List.mem_cons, List.not_mem_nil, or_false] at m
  rcases m with rfl | rfl | rfl | rfl | rfl | rfl | rfl | rfl | rfl | rfl | rfl | rfl | rfl | rfl <;> exact okv_Vl (by simp [okv, whole, big, good, D.wt, D.dp])
theorem at_list {α : Type} (xs : List α) (p n : Int) (hn : 0 < n) (hx : n ≤ xs.length) : ∃ x, L2.atI xs (p.fmod n) = some x ∧ x ∈ xs :=
  atI_lt (Int.fmod_nonneg_of_pos _ hn) (by have := Int.fmod_lt_of_pos p hn; omega)
theorem run_value (p : Int) : ∃ v, runF 3 b_law_value [.val (.int p)] = .im v [.val (.int p)] ∧ Vl v := by
  have q0 : 0 ≤ p.fmod 16 := Int.fmod_nonneg_of_pos _ (by omega)
  have q1 : p.fmod 16 < 16 := Int.fmod_lt_of_pos _ (by omega)
  by_cases h14 : p.fmod 16 = 14
  · have r0 : 0 ≤ (p.fdiv 16).fmod 1999999999999999999 := Int.fmod_nonneg_of_pos _ (by omega)
    have r1 : (p.fdiv 16).fmod 1999999999999999999 < 1999999999999999999 := Int.fmod_lt_of_pos _ (by omega)
    refine ⟨.int ((p.fdiv 16).fmod 1999999999999999999 - 1000000000000000000 + 1), ?_, Vl.int (by omega) (by omega)⟩
    simp [b_law_value, h14]
  by_cases h15 : p.fmod 16 = 15
  · have r0 : 0 ≤ (p.fdiv 16).fmod 9 := Int.fmod_nonneg_of_pos _ (by omega)
    have r1 : (p.fdiv 16).fmod 9 < 9 := Int.fmod_lt_of_pos _ (by omega)
    have lc := lcL_map (i := 2) (E := E0_law_value) (fun d => match d with | .int k => .int ((p.fdiv 16).fmod (k + 2)) | _ => .non) (e := [.val (.int p), .own (.lst VAL), .non]) rfl (rgD 0 ((p.fdiv 16).fmod 9).toNat) [] (by simp [rgD]; omega) (fun d m => by
      simp [rgD] at m
      obtain ⟨k, hk, rfl⟩ := m
      have : (k : Int) + 2 ≠ 0 := by omega
      simp [E0_law_value, this])
    refine ⟨.tup ((rgD 0 ((p.fdiv 16).fmod 9).toNat).map fun d => match d with | .int k => .int ((p.fdiv 16).fmod (k + 2)) | _ => .non), ?_, Vl.tup (by simp [rgD]; omega) ?_⟩
    · have e9 : ((p.fdiv 16).fmod 9).natAbs < 4611686018427387904 := by omega
      simp [VAL] at lc
      simp [b_law_value, h15, e9, -lcL, lc]
    · intro d m
      simp [rgD] at m
      obtain ⟨k, hk, rfl⟩ := m
      refine ⟨_, rfl, ?_, ?_⟩
      · have := Int.fmod_nonneg_of_pos (p.fdiv 16) (b := (k : Int) + 2) (by omega); omega
      · have := Int.fmod_lt_of_pos (p.fdiv 16) (b := (k : Int) + 2) (by omega); omega
  · obtain ⟨x, hx, mx⟩ := atI_lt (xs := VAL) q0 (by simp [VAL]; omega)
    refine ⟨x, ?_, VAL_ok x mx⟩
    simp [VAL] at hx
    simp [b_law_value, h14, h15, hx]
def FEW : Int → List D := fun w => if w = 2 then [.tup [.int 0, .tup [.int 1, .tup [.int 2]]], .int (-4), .int 2, .tup []] else if w = 1 then [.int 3, .int (-1), .tup [.int 1, .int 2], .int 0] else [.int 0, .int 1, .int 2, .tup [], .tup [.int 1], .tup [.int 2, .int 0], .tup [.tup [], .int 1], .int 3]
theorem FEW_ok (w : Int) : ∀ d ∈ FEW w, Vl d := by
  intro d m
  unfold FEW at m
  by_cases h2 : w = 2
  · simp only [h2, if_true, List.mem_cons, List.not_mem_nil, or_false] at m
    rcases m with rfl | rfl | rfl | rfl <;> exact okv_Vl (by simp [okv, whole, big, good, D.wt, D.dp])
  by_cases h1 : w = 1
  · subst h1
    rw [if_neg h2, if_pos rfl] at m
    simp only [List.mem_cons, List.not_mem_nil, or_false] at m
    rcases m with rfl | rfl | rfl | rfl <;> exact okv_Vl (by simp [okv, whole, big, good, D.wt, D.dp])
  · simp only [h2, h1, if_true, if_false, List.mem_cons, List.not_mem_nil, or_false] at m
    rcases m with rfl | rfl | rfl | rfl | rfl | rfl | rfl | rfl <;> exact okv_Vl (by simp [okv, whole, big, good, D.wt, D.dp])
theorem run_few (p w : Int) : ∃ v, runF 3 b_law_few [.val (.int p), .val (.int w)] = .im v [.val (.int p), .val (.int w)] ∧ Vl v := by
  by_cases h2 : w = 2
  · obtain ⟨x, hx, mx⟩ := at_list (FEW w) p 4 (by omega) (by simp [FEW, h2])
    refine ⟨x, ?_, FEW_ok w x mx⟩
    subst h2
    simp [FEW] at hx
    simp [b_law_few, hx]
  by_cases h1 : w = 1
  · obtain ⟨x, hx, mx⟩ := at_list (FEW w) p 4 (by omega) (by simp [FEW, h1])
    refine ⟨x, ?_, FEW_ok w x mx⟩
    subst h1
    simp [FEW] at hx
    simp [b_law_few, hx]
  · obtain ⟨x, hx, mx⟩ := at_list (FEW w) p 8 (by omega) (by simp [FEW, h1, h2])
    refine ⟨x, ?_, FEW_ok w x mx⟩
    simp [FEW, h1, h2] at hx
    simp [b_law_few, h1, h2, hx]
end HFL

set_option Elab.async false
set_option linter.all false
set_option maxRecDepth 100000
set_option maxHeartbeats 4000000
set_option autoImplicit false
namespace HFL
open PySem PySem.Spec PyProof.Rows L2 HF
/-! ### names -/
theorem str_ext {s t : Str} (h : s.cps.toList = t.cps.toList) : s = t := by
  cases s; cases t; simp at h; simp [h]
theorem str_iff {s t : Str} : s = t ↔ s.cps.toList = t.cps.toList := ⟨fun h => by rw [h], str_ext⟩
def letC (c : Nat) : Bool := decide (97 ≤ c) && decide (c ≤ 122)
def figC (c : Nat) : Bool := decide (48 ≤ c) && decide (c ≤ 57)
theorem let_mem (c : Nat) : decide (c ∈ (Str.ofString "abcdefghijklmnopqrstuvwxyz").cps.toList) = letC c := by
  have e : (Str.ofString "abcdefghijklmnopqrstuvwxyz").cps.toList = [97, 98, 99, 100, 101, 102, 103, 104, 105, 106, 107, 108, 109, 110, 111, 112, 113, 114, 115, 116, 117, 118, 119, 120, 121, 122] := by decide +kernel
  rw [e, letC, ← Bool.decide_and]
  simp only [List.mem_cons, List.not_mem_nil, or_false, decide_eq_decide]
  omega
theorem fig_mem (c : Nat) : decide (c ∈ (Str.ofString "0123456789").cps.toList) = figC c := by
  have e : (Str.ofString "0123456789").cps.toList = [48, 49, 50, 51, 52, 53, 54, 55, 56, 57] := by decide +kernel
  rw [e, figC, ← Bool.decide_and]
  simp only [List.mem_cons, List.not_mem_nil, or_false, decide_eq_decide]
  omega
theorem sign_mem (c : Nat) : decide (c ∈ (Str.ofString "abcdefghijklmnopqrstuvwxyz0123456789").cps.toList) = (letC c || figC c) := by
  have e : (Str.ofString "abcdefghijklmnopqrstuvwxyz0123456789").cps.toList = (Str.ofString "abcdefghijklmnopqrstuvwxyz").cps.toList ++ (Str.ofString "0123456789").cps.toList := by decide +kernel
  rw [e, ← let_mem, ← fig_mem, ← Bool.decide_or]
  simp only [List.mem_append]
def opsN : List (List Nat) := [[112, 108, 117, 115], [109, 105, 110, 117, 115], [116, 105, 109, 101, 115], [111, 118, 101, 114], [108, 101, 115, 115], [102, 105, 114, 115, 116], [114, 101, 115, 116], [101, 109, 112, 116, 121], [100, 111, 119, 110], [115, 97, 109, 101], [106, 111, 105, 110], [108, 105, 115, 116]]
def resN : List (List Nat) := opsN ++ [[105, 102], [114, 101, 102, 117, 115, 101]]
def OPSL : List Str := ["plus", "minus", "times", "over", "less", "first", "rest", "empty", "down", "same", "join", "list"]
theorem ops_cps : OPSL.map (fun s => s.cps.toList) = opsN := by decide +kernel
theorem if_cps : (Str.ofString "if").cps.toList = [105, 102] := by decide +kernel
theorem refuse_cps : (Str.ofString "refuse").cps.toList = [114, 101, 102, 117, 115, 101] := by decide +kernel
def isNmL (l : List Nat) : Bool := decide (1 ≤ l.length) && decide (l.length ≤ 8) && (match l with | c :: _ => letC c | [] => false) && l.all (fun c => letC c || figC c) && !decide (l ∈ resN)
def isNm (s : Str) : Bool := isNmL s.cps.toList
theorem ops_mem (s : Str) : s ∈ OPSL ↔ s.cps.toList ∈ opsN := by
  rw [← ops_cps, List.mem_map]
  exact ⟨fun h => ⟨s, h, rfl⟩, fun ⟨t, h, e⟩ => by rw [← str_ext e]; exact h⟩
theorem isNm_res {s : Str} (h : isNm s = true) : s ∉ OPSL ∧ s ≠ "if" ∧ s ≠ "refuse" := by
  simp only [isNm, isNmL, Bool.and_eq_true, Bool.not_eq_true', decide_eq_false_iff_not, resN, List.mem_append, not_or] at h
  refine ⟨fun m => h.2.1 ((ops_mem s).mp m), fun e => ?_, fun e => ?_⟩
  · rw [e, if_cps] at h; exact h.2.2 (by simp)
  · rw [e, refuse_cps] at h; exact h.2.2 (by simp)
theorem isNm_ok {s : Str} (h : isNm s = true) : PyData.strOk s = true := by
  simp only [isNm, isNmL, Bool.and_eq_true, List.all_eq_true, letC, figC, Bool.or_eq_true, decide_eq_true_eq] at h
  simp only [PyData.strOk]
  rw [← Array.all_toList, List.all_eq_true]
  intro c m
  have := h.1.2 c m
  simp
  omega
structure Nms (ns : List Str) : Prop where
  len : ns.length = 12
  nd : ns.Nodup
  nm : ∀ s ∈ ns, isNm s = true
  zz : ∀ s ∈ ns, s ≠ "zz9"
  z2 : ∀ s ∈ ns, s ≠ "zz"
  tp : ∀ s ∈ ns, s ≠ "top"
  z : ∀ s ∈ ns, ∀ t ∈ ns, s ≠ t ++ "z"
/-- the names alike but for one sign -/
def nmL (b c a : Nat) : List Nat := List.replicate b 109 ++ [c] ++ List.replicate a 109
def nmS (b c a : Nat) : Str := ⟨(nmL b c a).toArray⟩
def abcN : List Nat := [97, 98, 99, 100, 101, 102, 103, 104, 105, 106, 107, 108, 109, 110, 111, 112, 113, 114, 115, 116, 117, 118, 119, 120, 121, 122, 48, 49, 50, 51, 52, 53, 54, 55, 56, 57]
theorem abc_cps : (Str.ofString "abcdefghijklmnopqrstuvwxyz0123456789").cps.toList = abcN := by decide +kernel
theorem nm_all : ∀ (b : Fin 8) (a : Fin 8) (c : Fin 36), b.val + a.val < 8 → (b.val = 0 → c.val < 26) → isNmL (nmL b.val (abcN.getD c.val 0) a.val) = true ∧ nmL b.val (abcN.getD c.val 0) a.val ≠ [122, 122, 57] ∧ nmL b.val (abcN.getD c.val 0) a.val ≠ [122, 122] ∧ nmL b.val (abcN.getD c.val 0) a.val ≠ [116, 111, 112] := by decide +kernel
theorem nmL_len (b c a : Nat) : (nmL b c a).length = b + 1 + a := by simp [nmL]; omega
theorem nmL_inj {b c c' a : Nat} (h : nmL b c a = nmL b c' a) : c = c' := by
  simpa [nmL] using h
def SPEC : List Str := ["ifs", "listx", "plus2", "refuses", "rested", "downs", "same1", "joins", "overs", "firsts", "emptyx", "a9"]
theorem spec_nd : SPEC.Nodup := by decide +kernel
theorem spec_nm : ∀ s ∈ SPEC, isNm s = true ∧ s ≠ "zz9" ∧ s ≠ "zz" ∧ s ≠ "top" := by decide +kernel
theorem spec_z : ∀ s ∈ SPEC, ∀ t ∈ SPEC, s ≠ t ++ "z" := by decide +kernel
theorem getD_at {α : Type} {xs : List α} {i : Nat} (d : α) (h : i < xs.length) : xs.getD i d = xs[i] := by simp [List.getD, List.getElem?_eq_getElem h]
theorem nd_inj {α : Type} {xs : List α} (h : xs.Nodup) {i j : Nat} (hi : i < xs.length) (hj : j < xs.length) (e : xs[i] = xs[j]) : i = j := by
  rcases Nat.lt_trichotomy i j with q | q | q
  · exact absurd e (List.pairwise_iff_getElem.mp h i j hi hj q)
  · exact q
  · exact absurd e.symm (List.pairwise_iff_getElem.mp h j i hj hi q)
theorem rot_nd {α β : Type} {xs : List α} (h : xs.Nodup) {n : Nat} (hn : n ≤ xs.length) (c m : Nat) (hm : m ≤ n) (d : α) (g : α → β) (hg : ∀ x ∈ xs, ∀ y ∈ xs, g x = g y → x = y) : ((List.range m).map fun k => g (xs.getD ((c + k) % n) d)).Nodup := by
  refine List.pairwise_map.mpr (List.Pairwise.imp_of_mem ?_ List.nodup_range)
  intro a b ha hb ne e
  rw [List.mem_range] at ha hb
  have n0 : 0 < n := by omega
  have la := Nat.mod_lt (c + a) n0
  have lb := Nat.mod_lt (c + b) n0
  have ia : (c + a) % n < xs.length := by omega
  have ib : (c + b) % n < xs.length := by omega
  rw [getD_at _ ia, getD_at _ ib] at e
  have q := nd_inj h ia ib (hg _ (List.getElem_mem ia) _ (List.getElem_mem ib) e)
  have da := Nat.div_add_mod (c + a) n
  have db := Nat.div_add_mod (c + b) n
  rw [q] at da
  have : (c + a) / n = (c + b) / n ∨ (c + a) / n < (c + b) / n ∨ (c + b) / n < (c + a) / n := by omega
  rcases this with t | t | t
  · rw [t] at da; omega
  · have := Nat.mul_le_mul_left n t
    rw [Nat.mul_succ] at this
    omega
  · have := Nat.mul_le_mul_left n t
    rw [Nat.mul_succ] at this
    omega
def specNs (c : Nat) : List Str := (List.range 12).map fun k => SPEC.getD ((c + k) % 12) ""
theorem specNs_sub {c : Nat} {s : Str} (h : s ∈ specNs c) : s ∈ SPEC := by
  simp only [specNs, List.mem_map, List.mem_range] at h
  obtain ⟨k, hk, rfl⟩ := h
  have : (c + k) % 12 < SPEC.length := Nat.mod_lt _ (by decide)
  rw [getD_at _ this]
  exact List.getElem_mem this
theorem specNs_ok (c : Nat) : Nms (specNs c) where
  len := by simp [specNs]
  nd := rot_nd spec_nd (n := 12) (by decide) c 12 (by omega) "" id fun _ _ _ _ h => h
  nm := fun s h => (spec_nm s (specNs_sub h)).1
  zz := fun s h => (spec_nm s (specNs_sub h)).2.1
  z2 := fun s h => (spec_nm s (specNs_sub h)).2.2.1
  tp := fun s h => (spec_nm s (specNs_sub h)).2.2.2
  z := fun s h t h' => spec_z s (specNs_sub h) t (specNs_sub h')
def lim (b : Nat) : Nat := if 0 < b then 36 else 26
def plainNs (b a c : Nat) : List Str := (List.range 12).map fun k => nmS b (abcN.getD ((c + k) % lim b) 0) a
theorem plainNs_mem {b a c : Nat} {s : Str} (h : s ∈ plainNs b a c) : ∃ i, i < lim b ∧ s = nmS b (abcN.getD i 0) a := by
  simp only [plainNs, List.mem_map, List.mem_range] at h
  obtain ⟨k, hk, rfl⟩ := h
  exact ⟨_, Nat.mod_lt _ (by unfold lim; split <;> omega), rfl⟩
theorem plainNs_ok {b a : Nat} (hab : b + a < 8) (c : Nat) : Nms (plainNs b a c) where
  len := by simp [plainNs]
  nd := rot_nd (xs := abcN) (by decide +kernel) (n := lim b) (by unfold lim; split <;> decide) c 12 (by unfold lim; split <;> omega) 0 (fun x => nmS b x a) fun x _ y _ h => by
    refine nmL_inj (b := b) (a := a) ?_
    have := congrArg (fun s : Str => s.cps.toList) h
    simpa [nmS] using this
  nm := fun s h => by
    obtain ⟨i, hi, rfl⟩ := plainNs_mem h
    have h36 : i < 36 := by unfold lim at hi; split at hi <;> omega
    have := (nm_all ⟨b, by omega⟩ ⟨a, by omega⟩ ⟨i, h36⟩ hab (fun z => by simp only at z; subst z; simpa [lim] using hi)).1
    simpa [isNm, nmS] using this
  zz := fun s h e => by
    obtain ⟨i, hi, rfl⟩ := plainNs_mem h
    have h36 : i < 36 := by unfold lim at hi; split at hi <;> omega
    refine (nm_all ⟨b, by omega⟩ ⟨a, by omega⟩ ⟨i, h36⟩ hab (fun z => by simp only at z; subst z; simpa [lim] using hi)).2.1 ?_
    have q := congrArg (fun s : Str => s.cps.toList) e
    have z9 : (Str.ofString "zz9").cps.toList = [122, 122, 57] := by decide +kernel
    simp only [z9] at q
    simpa [nmS] using q
  z2 := fun s h e => by
    obtain ⟨i, hi, rfl⟩ := plainNs_mem h
    have h36 : i < 36 := by unfold lim at hi; split at hi <;> omega
    refine (nm_all ⟨b, by omega⟩ ⟨a, by omega⟩ ⟨i, h36⟩ hab (fun z => by simp only at z; subst z; simpa [lim] using hi)).2.2.1 ?_
    have q := congrArg (fun s : Str => s.cps.toList) e
    have z9 : (Str.ofString "zz").cps.toList = [122, 122] := by decide +kernel
    simp only [z9] at q
    simpa [nmS] using q
  tp := fun s h e => by
    obtain ⟨i, hi, rfl⟩ := plainNs_mem h
    have h36 : i < 36 := by unfold lim at hi; split at hi <;> omega
    refine (nm_all ⟨b, by omega⟩ ⟨a, by omega⟩ ⟨i, h36⟩ hab (fun z => by simp only at z; subst z; simpa [lim] using hi)).2.2.2 ?_
    have q := congrArg (fun s : Str => s.cps.toList) e
    have z9 : (Str.ofString "top").cps.toList = [116, 111, 112] := by decide +kernel
    simp only [z9] at q
    simpa [nmS] using q
  z := fun s h t h' e => by
    obtain ⟨i, hi, rfl⟩ := plainNs_mem h
    obtain ⟨j, hj, rfl⟩ := plainNs_mem h'
    have q := congrArg (fun s : Str => s.cps.toList.length) e
    have z1 : (Str.ofString "z").cps.toList = [122] := by decide +kernel
    have ap : ∀ x y : Str, (x ++ y).cps.toList = x.cps.toList ++ y.cps.toList := fun x y => by show (x.cps ++ y.cps).toList = _; simp
    simp only [ap, z1, nmS, List.length_append, nmL_len, List.length_cons, List.length_nil] at q
    omega
theorem str_app (x y : Str) : (x ++ y).cps.toList = x.cps.toList ++ y.cps.toList := by show (x.cps ++ y.cps).toList = _; simp
theorem str_len (x : Str) : x.length = x.cps.toList.length := by simp [Str.length]
theorem m_cps : (Str.ofString "m").cps.toList = [109] := by decide +kernel
theorem nm_made (b c a : Nat) : (repS (Str.ofString "m") b ++ ⟨#[c]⟩) ++ repS (Str.ofString "m") a = nmS b c a := by
  refine str_ext ?_
  simp [str_app, repS, nmS, nmL, m_cps]
theorem atI_nat {α : Type} {xs : List α} {i : Int} (h0 : 0 ≤ i) (h : i < xs.length) (d : α) : L2.atI xs i = some (xs.getD i.toNat d) := by
  have : i.toNat < xs.length := by omega
  rw [getD_at _ this]
  unfold L2.atI L2.ixN
  rw [if_pos h0, if_pos h]
  simp [List.getElem?_eq_getElem this]
/-! the list of names -/
theorem rgD_mem {lo : Int} {n : Nat} {d : D} (h : d ∈ rgD lo n) : ∃ k : Nat, k < n ∧ d = .int (lo + k) := by
  simp [rgD] at h
  obtain ⟨k, hk, rfl⟩ := h
  exact ⟨k, hk, rfl⟩
theorem rgD_at {lo : Int} {n : Nat} {dn rest : List D} {d : D} (h : rgD lo n = dn ++ d :: rest) : d = .int (lo + dn.length) ∧ dn.length < n := by
  have hl := congrArg List.length h
  simp [rgD] at hl
  have : dn.length < n := by omega
  have e := congrArg (fun l => l[dn.length]?) h
  simp [rgD, this] at e
  exact ⟨e.symm, this⟩
theorem fmod_nat (c : Nat) (n : Nat) : ((c : Int).fmod (n : Int)) = ((c % n : Nat) : Int) := by
  rw [Int.fmod_eq_emod_of_nonneg _ (by omega)]; simp
theorem add_fmod_nat (x : Int) (k n : Nat) (hn : 0 < n) : (x + k).fmod n = (((x.fmod n).toNat + k) % n : Nat) := by
  have h0 : 0 ≤ x.fmod n := Int.fmod_nonneg_of_pos _ (by omega)
  have e1 : x.fmod n = x.emod n := Int.fmod_eq_emod_of_nonneg _ (by omega)
  rw [Int.fmod_eq_emod_of_nonneg _ (by omega : (0 : Int) ≤ n)]
  have e2 : ((x.fmod n).toNat : Int) = x % n := by rw [Int.toNat_of_nonneg h0, e1]; rfl
  rw [Int.natCast_emod, Int.natCast_add, e2]
  simp
theorem names_body {c z : Int} {bn an s : Nat} {k j : Int} {L : List D} {x y : Sl} (fx : frees x) (fy : frees y) (e : (c.fdiv 64 + k).fmod (lim bn) = j) (at' : L2.atI (Str.ofString "abcdefghijklmnopqrstuvwxyz0123456789").cps.toList j = some s)
    (mb : (0 : Int) ≤ bn ∧ (bn : Int) ≤ 100000 ∧ (Str.ofString "m").length ≤ 100) (ma : (0 : Int) ≤ an ∧ (an : Int) ≤ 100000 ∧ (Str.ofString "m").length ≤ 100) (l1 : (repS (Str.ofString "m") bn).length + (⟨#[s]⟩ : Str).length ≤ 16777216)
    (l2 : (repS (Str.ofString "m") bn ++ (⟨#[s]⟩ : Str)).length + (repS (Str.ofString "m") an).length ≤ 16777216) (ha : z - 1 - bn = an) (hlen : L.length < 16777216) :
    L0_law_names [.val (.int c), .val (.int z), .val (.int bn), .val (.str "abcdefghijklmnopqrstuvwxyz0123456789"), .own (.lst L), .val (.int k), y] = .nx [.val (.int c), .val (.int z), .val (.int bn), .val (.str "abcdefghijklmnopqrstuvwxyz0123456789"), .own (.lst (L ++ [.str (nmS bn s an)])), .val (.int k), .val (.str ⟨#[s]⟩)] := by
  have hlim : L2.atI [D.int 26, D.int 36] (if 0 < bn then 1 else 0) = some (.int (lim bn)) := by
    unfold lim
    by_cases q : 0 < bn
    · rw [if_pos q, if_pos q]; rfl
    · rw [if_neg q, if_neg q]; rfl
  have lim0 : lim bn ≠ 0 := by unfold lim; split <;> omega
  obtain ⟨_, mb1, mb2⟩ := mb
  obtain ⟨_, ma1, ma2⟩ := ma
  have mb3 : bn ≤ 100000 := by omega
  have ma3 : an ≤ 100000 := by omega
  have sl : (Str.ofString "abcdefghijklmnopqrstuvwxyz0123456789").length ≤ 16777216 := by decide +kernel
  have mk := nm_made bn s an
  rw [← mk]
  rcases fy with rfl | ⟨y, rfl⟩ <;> simp [L0_law_names, hlim, lim0, e, at', mb1, mb2, mb3, ma1, ma2, ma3, sl, l1, l2, ha, hlen]
theorem run_names (c : Int) : ∃ ns : List Str, runF 7 b_law_names [.val (.int c)] = .fr (.lst (ns.map D.str)) [.val (.int c)] ∧ Nms ns := by
  by_cases h9 : c.fmod 9 = 8
  · refine ⟨specNs ((c.fdiv 9).fmod 12).toNat, ?_, specNs_ok _⟩
    have lc := lcL_map (i := 5) (E := E0_law_names) (fun d => match d with | .int k => .str (SPEC.getD ((((c.fdiv 9).fmod 12).toNat + k.toNat) % 12) "") | _ => .non) (e := [.val (.int c), .non, .non, .own (.lst (SPEC.map D.str)), .non, .non, .non]) rfl (rgD 0 12) [] (by simp [rgD]) (fun d m => by
      obtain ⟨k, hk, rfl⟩ := rgD_mem m
      have e := add_fmod_nat (c.fdiv 9) k 12 (by omega)
      have l12 : (((c.fdiv 9).fmod 12).toNat + k) % 12 < 12 := Nat.mod_lt _ (by omega)
      have tk : ((0 : Int) + (k : Int)).toNat = k := by omega
      have at' := atI_nat (xs := SPEC.map D.str) (i := ((((c.fdiv 9).fmod 12).toNat + k) % 12 : Nat)) (by omega) (by simp [SPEC]; omega) (.str "")
      have gd : (SPEC.map D.str).getD ((((c.fdiv 9).fmod 12).toNat + k) % 12) (.str "") = .str (SPEC.getD ((((c.fdiv 9).fmod 12).toNat + k) % 12) "") := by
        rw [getD_at _ (by simp [SPEC]; omega), getD_at _ (by simp [SPEC]; omega)]; simp
      rw [Int.toNat_natCast, gd] at at'
      simp only [Int.cast_ofNat_Int] at e
      simp only [tk]
      generalize SPEC.getD ((((c.fdiv 9).fmod 12).toNat + k) % 12) "" = s at at' ⊢
      generalize (((((c.fdiv 9).fmod 12).toNat + k) % 12 : Nat) : Int) = j at e at'
      generalize SPEC.map D.str = L at at' ⊢
      simp [E0_law_names, e, at'])
    have e12 : specNs ((c.fdiv 9).fmod 12).toNat = (List.range 12).map fun k => SPEC.getD ((((c.fdiv 9).fmod 12).toNat + k) % 12) "" := rfl
    have em : ((rgD 0 12).map fun d => match d with | .int k => .str (SPEC.getD ((((c.fdiv 9).fmod 12).toNat + k.toNat) % 12) "") | _ => D.non) = (specNs ((c.fdiv 9).fmod 12).toNat).map D.str := by
      rw [e12]; simp [rgD]
    rw [em] at lc
    simp [SPEC] at lc
    simp [b_law_names, h9, -lcL, lc]
  · have s0 : 0 ≤ c.fmod 8 := Int.fmod_nonneg_of_pos _ (by omega)
    have s1 : c.fmod 8 < 8 := Int.fmod_lt_of_pos _ (by omega)
    have p0 : 0 ≤ (c.fdiv 8).fmod (1 + c.fmod 8) := Int.fmod_nonneg_of_pos _ (by omega)
    have p1 : (c.fdiv 8).fmod (1 + c.fmod 8) < 1 + c.fmod 8 := Int.fmod_lt_of_pos _ (by omega)
    have pz : 1 + c.fmod 8 ≠ 0 := by omega
    generalize hz : 1 + c.fmod 8 = z at p0 p1 pz
    generalize hb : (c.fdiv 8).fmod z = b at p0 p1
    obtain ⟨bn, rfl⟩ : ∃ bn : Nat, b = bn := ⟨b.toNat, by omega⟩
    have za : (z - 1 - bn).toNat + bn < 8 := by omega
    obtain ⟨an, ha⟩ : ∃ an : Nat, z - 1 - bn = an := ⟨(z - 1 - bn).toNat, by omega⟩
    rw [ha] at za
    simp only [Int.toNat_natCast] at za
    refine ⟨plainNs bn an ((c.fdiv 64).fmod (lim bn)).toNat, ?_, plainNs_ok (by omega) _⟩
    have hlim : L2.atI [D.int 26, D.int 36] (if (0 : Int) < bn then 1 else 0) = some (.int (lim bn)) := by
      unfold lim
      by_cases q : 0 < bn
      · rw [if_pos (by omega), if_pos q]; rfl
      · rw [if_neg (by omega), if_neg q]; rfl
    have lim0 : 0 < lim bn := by unfold lim; split <;> omega
    have lim36 : lim bn ≤ 36 := by unfold lim; split <;> omega
    have limz : (lim bn : Int) ≠ 0 := by omega
    let g : D → D := fun d => match d with | .int k => .str (nmS bn (abcN.getD ((((c.fdiv 64).fmod (lim bn)).toNat + k.toNat) % lim bn) 0) an) | _ => .non
    obtain ⟨e', h1, x, y, fx, fy, rfl⟩ := forL_nx (TF := Tg.F (.nm 5)) (S := L0_law_names) (fun dn e => ∃ x y, frees x ∧ frees y ∧ e = [.val (.int c), .val (.int z), .val (.int bn), .val (.str "abcdefghijklmnopqrstuvwxyz0123456789"), .own (.lst (dn.map g)), x, y]) (rgD 0 12) (fun dn d rest e hall ⟨x, y, fx, fy, he⟩ => by
      subst he
      obtain ⟨rfl, hl⟩ := rgD_at hall
      have e := add_fmod_nat (c.fdiv 64) dn.length (lim bn) lim0
      have l36 : (((c.fdiv 64).fmod (lim bn)).toNat + dn.length) % lim bn < 36 := Nat.lt_of_lt_of_le (Nat.mod_lt _ lim0) lim36
      have at' := atI_nat (xs := abcN) (i := ((((c.fdiv 64).fmod (lim bn)).toNat + dn.length) % lim bn : Nat)) (by omega) (by rw [show abcN.length = 36 from rfl]; exact Int.ofNat_lt.mpr l36) 0
      rw [Int.toNat_natCast] at at'
      have ge : g (.int (0 + dn.length)) = .str (nmS bn (abcN.getD ((((c.fdiv 64).fmod (lim bn)).toNat + dn.length) % lim bn) 0) an) := by
        simp only [g]
        have tk : ((0 : Int) + (dn.length : Int)).toNat = dn.length := by omega
        rw [tk]
      simp only [List.map_append, List.map_cons, List.map_nil]
      have l1 : ∀ w, (repS (Str.ofString "m") bn).length + (⟨#[w]⟩ : Str).length ≤ 16777216 := fun w => by simp [str_len, repS, m_cps]; omega
      have l2 : ∀ w, (repS (Str.ofString "m") bn ++ (⟨#[w]⟩ : Str)).length + (repS (Str.ofString "m") an).length ≤ 16777216 := fun w => by simp [str_len, str_app, repS, m_cps]; omega
      rw [← abc_cps] at at'
      rw [ge]
      refine ⟨_, _, by rcases fx with rfl | ⟨x, rfl⟩ <;> rfl, names_body (k := 0 + dn.length) (L := dn.map g) fx fy (by rw [Int.zero_add]; exact e) at' ⟨by omega, by omega, by decide⟩ ⟨by omega, by omega, by decide⟩ (l1 _) (l2 _) ha (by rw [List.length_map]; omega), _, _, .inr ⟨_, rfl⟩, .inr ⟨_, rfl⟩, by rw [abc_cps]⟩) [.val (.int c), .val (.int z), .val (.int bn), .val (.str "abcdefghijklmnopqrstuvwxyz0123456789"), .own (.lst []), .non, .non] ⟨.non, .non, .inl rfl, .inl rfl, rfl⟩
    have em : (rgD 0 12).map g = (plainNs bn an ((c.fdiv 64).fmod (lim bn)).toNat).map D.str := by
      simp [rgD, plainNs, g]
    rw [em] at h1
    simp only [Tg.F] at h1
    simp [b_law_names, h9, hz, pz, hb, -forL, h1]
end HFL

set_option Elab.async false
set_option linter.all false
set_option maxRecDepth 100000
set_option maxHeartbeats 4000000
set_option autoImplicit false
namespace HFL
open PySem PySem.Spec PyProof.Rows L2 HF
/-! ### heads and forms -/
structure Hd where
  nm : Str
  ps : List Str
  wn : List Bool
def Hd.d (h : Hd) : D := .tup [.str h.nm, .tup (h.ps.map D.str), .tup (h.wn.map D.bl)]
abbrev strsD (ss : List Str) : List D := ss.map D.str
def valF (v : D) : D := .tup [.str "value", v]
def nmF (s : Str) : D := .tup [.str "name", .str s]
def rfF (w : Str) : D := .tup [.str "refuse", .str w]
def ifF (a b c : D) : D := .tup [.str "if", a, b, c]
def doF (o : Str) (l : List D) : D := .tup [.str "do", .str o, .tup l]
def clF (f : Str) (l : List D) : D := .tup [.str "call", .str f, .tup l]
def WRDS : List Str := ["NoNumber", "NoList", "NoFirst", "NoDown", "ByNought", "TooGreat"]
def ALOS : List Str := ["first", "rest", "empty", "down"]
def takesB (o : Str) (n : Nat) : Bool := if o = "list" then decide (n ≤ 8) else if o ∈ ALOS then decide (n = 1) else decide (n = 2)
def tameF (known : List Str) (d : D) : Prop := (∃ v, Vl v ∧ d = valF v) ∨ (∃ s, s ∈ known ∧ d = nmF s) ∨ (∃ o s, (o = ("down" : Str) ∨ o = ("first" : Str) ∨ o = ("rest" : Str)) ∧ s ∈ known ∧ d = doF o [nmF s]) ∨ (∃ s, s ∈ known ∧ d = doF "rest" [doF "rest" [nmF s]])
def GF (hs : List Hd) (names known : List Str) : Nat → D → Prop
  | 0, _ => False
  | n + 1, d => (∃ v, Vl v ∧ d = valF v) ∨ (∃ s, s ∈ names ∧ d = nmF s) ∨ (∃ w, w ∈ WRDS ∧ d = rfF w) ∨ (∃ a b c, d = ifF a b c ∧ GF hs names known n a ∧ GF hs names known n b ∧ GF hs names known n c)
    ∨ (∃ o l, o ∈ OPSL ∧ takesB o l.length = true ∧ d = doF o l ∧ ∀ x ∈ l, GF hs names known n x)
    ∨ (∃ h, h ∈ hs ∧ ∃ l, d = clF h.nm l ∧ l.length = h.ps.length ∧ (∀ x ∈ l, GF hs names known n x) ∧ ∀ (i : Nat) (x : D), l[i]? = some x → h.wn[i]? = some true → tameF known x)
theorem GF.mono {hs : List Hd} {names known : List Str} : ∀ {n m : Nat} {d : D}, GF hs names known n d → n ≤ m → GF hs names known m d
  | n + 1, m + 1, d, h, hm => by
    have e : n ≤ m := by omega
    rcases h with h | h | h | ⟨a, b, c, rfl, ha, hb, hc⟩ | ⟨o, l, ho, ht, rfl, hl⟩ | ⟨hd, hh, l, rfl, hn, hl, htm⟩
    · exact .inl h
    · exact .inr (.inl h)
    · exact .inr (.inr (.inl h))
    · exact .inr (.inr (.inr (.inl ⟨a, b, c, rfl, ha.mono e, hb.mono e, hc.mono e⟩)))
    · exact .inr (.inr (.inr (.inr (.inl ⟨o, l, ho, ht, rfl, fun x m => (hl x m).mono e⟩))))
    · exact .inr (.inr (.inr (.inr (.inr ⟨hd, hh, l, rfl, hn, fun x m => (hl x m).mono e, htm⟩))))
theorem GF.val {hs : List Hd} {names known : List Str} {n : Nat} {v : D} (h : Vl v) : GF hs names known (n + 1) (valF v) := .inl ⟨v, h, rfl⟩
theorem GF.nm {hs : List Hd} {names known : List Str} {n : Nat} {s : Str} (h : s ∈ names) : GF hs names known (n + 1) (nmF s) := .inr (.inl ⟨s, h, rfl⟩)
theorem GF.rf {hs : List Hd} {names known : List Str} {n : Nat} {s : Str} (h : s ∈ WRDS) : GF hs names known (n + 1) (rfF s) := .inr (.inr (.inl ⟨s, h, rfl⟩))
theorem GF.iff' {hs : List Hd} {names known : List Str} {n : Nat} {a b c : D} (ha : GF hs names known n a) (hb : GF hs names known n b) (hc : GF hs names known n c) : GF hs names known (n + 1) (ifF a b c) := .inr (.inr (.inr (.inl ⟨a, b, c, rfl, ha, hb, hc⟩)))
theorem GF.dop {hs : List Hd} {names known : List Str} {n : Nat} {o : Str} {l : List D} (ho : o ∈ OPSL) (ht : takesB o l.length = true) (hl : ∀ x ∈ l, GF hs names known n x) : GF hs names known (n + 1) (doF o l) := .inr (.inr (.inr (.inr (.inl ⟨o, l, ho, ht, rfl, hl⟩))))
theorem tame_GF {hs : List Hd} {names known : List Str} (hk : ∀ s ∈ known, s ∈ names) {d : D} (h : tameF known d) : GF hs names known 3 d := by
  rcases h with ⟨v, hv, rfl⟩ | ⟨s, hs, rfl⟩ | ⟨o, s, ho, hs, rfl⟩ | ⟨s, hs, rfl⟩
  · exact .val hv
  · exact .nm (hk s hs)
  · refine .dop ?_ ?_ fun x m => ?_
    · rcases ho with rfl | rfl | rfl <;> decide +kernel
    · show takesB o 1 = true
      rcases ho with rfl | rfl | rfl <;> decide +kernel
    · rw [List.mem_singleton.mp m]; exact .nm (hk s hs)
  · refine .dop (by decide +kernel) (by show takesB _ 1 = true; decide +kernel) fun x m => ?_
    rw [List.mem_singleton.mp m]
    refine .dop (by decide +kernel) (by show takesB _ 1 = true; decide +kernel) fun x m => ?_
    rw [List.mem_singleton.mp m]; exact .nm (hk s hs)
theorem strs_pl {ss : List Str} (h : ∀ s ∈ ss, isNm s = true) : D.plL (strsD ss) := D.plL_of fun d m => by
  obtain ⟨s, hs, rfl⟩ := List.mem_map.mp m
  have := isNm_ok (h s hs)
  simpa [D.pl] using this
theorem strs_at' (ss : List Str) (i : Int) (h0 : 0 ≤ i) (h : i < ss.length) : ∃ s, s ∈ ss ∧ L2.atI (strsD ss) i = some (.str s) := by
  obtain ⟨d, hd, m⟩ := atI_lt (xs := strsD ss) h0 (by simpa using h)
  obtain ⟨s, hs, rfl⟩ := List.mem_map.mp m
  exact ⟨s, hs, hd⟩
section
variable {fn ff : List Ar → FR} (hn : ∀ p, fn [.val (.int p)] = .im (.int (nxt p)) [.val (.int p)]) (hf : ∀ p w, ∃ v, ff [.val (.int p), .val (.int w)] = .im v [.val (.int p), .val (.int w)] ∧ Vl v)
include hn hf
theorem run_tame (p : Int) (known : List Str) (hk : ∀ s ∈ known, isNm s = true) (hs : List D) :
    ∃ d, runF 7 (b_law_tame fn ff) [.val (.int p), .val (.lst (strsD known)), .val (.lst hs)] = .im d [.val (.int p), .val (.lst (strsD known)), .val (.lst hs)] ∧ tameF known d := by
  have w0 : 0 ≤ (p.fdiv 5).fmod 8 := Int.fmod_nonneg_of_pos _ (by omega)
  have w1 : (p.fdiv 5).fmod 8 < 8 := Int.fmod_lt_of_pos _ (by omega)
  have m0 := nxt_nn p
  have hpl := strs_pl hk
  have hh := hn p
  generalize nxt p = m at hh m0
  generalize hw : (p.fdiv 5).fmod 8 = w at w0 w1
  obtain ⟨v, hv, V⟩ := hf m ((hs.length : Int).fmod 3)
  by_cases hkn : known = []
  · subst hkn
    refine ⟨valF v, ?_, .inl ⟨v, V, rfl⟩⟩
    simp [b_law_tame, hw, hh, -D.eqB, eqB_nn, hv, valF]
  by_cases h0 : w = 0
  · refine ⟨valF v, ?_, .inl ⟨v, V, rfl⟩⟩
    simp [b_law_tame, hw, hh, -D.eqB, D.eqB_nil hpl, hkn, h0, hv, valF]
    simp [D.eqB, hv]
  · have kl : 0 < known.length := by cases known <;> simp_all
    have r0 : 0 ≤ m.fmod known.length := Int.fmod_nonneg_of_pos _ (by omega)
    have r1 : m.fmod known.length < known.length := Int.fmod_lt_of_pos _ (by omega)
    obtain ⟨s, ms, hat⟩ := strs_at' known (m.fmod known.length) r0 r1
    have kl0 : known ≠ [] := hkn
    have kl1 : known.length ≠ 0 := by omega
    have e0 : D.eqB (.int w) (.int 0) = some false := by simp [D.eqB, h0]
    have e7 : ∀ b, D.eqB (.int w) (.int 7) = some b ↔ b = decide (w = 7) := by intro b; simp [D.eqB]; exact eq_comm
    have q0 : D.eqB (.int ((m.fdiv 7).fmod 3)) (.int 0) = some (decide ((m.fdiv 7).fmod 3 = 0)) := by simp [D.eqB]
    by_cases h3 : w < 3
    · refine ⟨nmF s, ?_, .inr (.inl ⟨s, ms, rfl⟩)⟩
      simp [b_law_tame, hw, hh, -D.eqB, D.eqB_nil hpl, hkn, e0, hat, h3, nmF]
    · by_cases w7 : w = 7
      · subst w7
        have e0 : D.eqB (.int 7) (.int 0) = some false := by simp [D.eqB]
        have h7 : D.eqB (.int 7) (.int 7) = some true := by simp [D.eqB]
        have ao : L2.atI [D.str "down", D.str "first", D.str "rest", D.str "rest", D.str "down"] 4 = some (.str "down") := rfl
        by_cases hr : (m.fdiv 7).fmod 3 = 0
        · refine ⟨doF "rest" [doF "rest" [nmF s]], ?_, .inr (.inr (.inr ⟨s, ms, rfl⟩))⟩
          simp [b_law_tame, hw, hh, -D.eqB, D.eqB_nil hpl, hkn, e0, hat, nmF, doF, h7, q0, hr, ao, kl1, (show D.eqB (.int 0) (.int 0) = some true by simp [D.eqB])]
        · refine ⟨doF "down" [nmF s], ?_, .inr (.inr (.inl ⟨"down", s, .inl rfl, ms, rfl⟩))⟩
          simp [b_law_tame, hw, hh, -D.eqB, D.eqB_nil hpl, hkn, e0, hat, nmF, doF, h7, q0, hr, ao, kl1, (show D.eqB (.int 0) (.int 0) = some true by simp [D.eqB])]
      · have h7 : D.eqB (.int w) (.int 7) = some (decide (w = 7)) := (e7 _).mpr rfl
        obtain ⟨o, ho, hato⟩ : ∃ o : Str, (o = ("down" : Str) ∨ o = ("first" : Str) ∨ o = ("rest" : Str)) ∧ L2.atI [D.str "down", D.str "first", D.str "rest", D.str "rest", D.str "down"] (w - 3) = some (.str o) := by
          have : w = 3 ∨ w = 4 ∨ w = 5 ∨ w = 6 := by omega
          rcases this with rfl | rfl | rfl | rfl
          · exact ⟨_, .inl rfl, rfl⟩
          · exact ⟨_, .inr (.inl rfl), rfl⟩
          · exact ⟨_, .inr (.inr rfl), rfl⟩
          · exact ⟨_, .inr (.inr rfl), rfl⟩
        refine ⟨doF o [nmF s], ?_, .inr (.inr (.inl ⟨o, s, ho, ms, rfl⟩))⟩
        simp [b_law_tame, hw, hh, -D.eqB, D.eqB_nil hpl, hkn, e0, hat, h3, nmF, doF, h7, w7, hato, kl1]
end
/-! the parts, a call, a do, a form: over any lists N, K of names and H of heads -/
section
variable {f fn : List Ar → FR} {N K H : D} (hn : ∀ p, fn [.val (.int p)] = .im (.int (nxt p)) [.val (.int p)])
include hn
theorem run_parts {R : D → Prop} (deep : Int) (hf : ∀ p, ∃ d, f [.val (.int p), .val (.int deep), .val N, .val K, .val H] = .im d [.val (.int p), .val (.int deep), .val N, .val K, .val H] ∧ R d) (p : Int) (many : Nat) (hm : many ≤ 1000) :
    ∃ l, runF 8 (b_law_parts f fn) [.val (.int p), .val (.int many), .val (.int deep), .val N, .val K, .val H] = .im (.tup l) [.val (.int p), .val (.int many), .val (.int deep), .val N, .val K, .val H] ∧ l.length = many ∧ ∀ x ∈ l, R x := by
  obtain ⟨e', h1, l, y, fy, hl, hR, rfl⟩ := forL_nx (TF := Tg.F (.nm 7)) (S := L0_law_parts f fn) (fun dn e => ∃ (l : List D) (y : Sl), frees y ∧ l.length = dn.length ∧ (∀ x ∈ l, R x) ∧ e = [.val (.int p), .val (.int many), .val (.int deep), .val N, .val K, .val H, .own (.lst l), y]) (rgD 0 many) (fun dn d rest e hall ⟨l, y, fy, hl, hR, he⟩ => by
    subst he
    obtain ⟨rfl, hlt⟩ := rgD_at hall
    obtain ⟨x, hx, Rx⟩ := hf (nxt (p + 7919 * (0 + dn.length)))
    have hn' := hn (p + 7919 * (0 + dn.length))
    have ll : l.length < 16777216 := by omega
    refine ⟨_, _, by rcases fy with rfl | ⟨y, rfl⟩ <;> rfl, ?_, l ++ [x], .val (.int (0 + dn.length)), .inr ⟨_, rfl⟩, by simp [hl], fun z mz => ?_, rfl⟩
    · generalize (0 : Int) + dn.length = k at hx hn'
      simp [L0_law_parts, hn', hx, ll]
    · rcases List.mem_append.mp mz with q | q
      · exact hR z q
      · rw [List.mem_singleton.mp q]; exact Rx) [.val (.int p), .val (.int many), .val (.int deep), .val N, .val K, .val H, .own (.lst []), .non] ⟨[], .non, .inl rfl, rfl, by simp, rfl⟩
  simp only [rgD, List.length_map, List.length_range] at hl
  refine ⟨l, ?_, hl, hR⟩
  have ma : many < 4611686018427387904 := by omega
  have ll : l.length ≤ 16777216 := by omega
  simp only [Tg.F] at h1
  simp [b_law_parts, ma, -forL, h1, ll]
theorem run_call {R T : D → Prop} {ft : List Ar → FR} {hs : List Hd} (hH : H = .lst (hs.map Hd.d)) (h0 : hs ≠ []) (hw : ∀ h ∈ hs, h.wn.length = h.ps.length ∧ h.ps.length ≤ 1000) (deep : Int) (hf : ∀ p, ∃ d, f [.val (.int p), .val (.int deep), .val N, .val K, .val H] = .im d [.val (.int p), .val (.int deep), .val N, .val K, .val H] ∧ R d)
    (ht : ∀ p, ∃ d, ft [.val (.int p), .val K, .val H] = .im d [.val (.int p), .val K, .val H] ∧ T d) (p : Int) :
    ∃ h, h ∈ hs ∧ ∃ l, runF 9 (b_law_call fn ft f) [.val (.int p), .val (.int deep), .val N, .val K, .val H] = .im (clF h.nm l) [.val (.int p), .val (.int deep), .val N, .val K, .val H] ∧ l.length = h.ps.length ∧ ∀ (i : Nat) (x : D), l[i]? = some x → (h.wn[i]? = some true ∧ T x) ∨ (h.wn[i]? = some false ∧ R x) := by
  subst hH
  have hl0 : 0 < hs.length := by cases hs <;> simp_all
  obtain ⟨hd, hat, hm⟩ := at_list (hs.map Hd.d) p hs.length (by omega) (by simp)
  obtain ⟨h, mh, rfl⟩ := List.mem_map.mp hm
  obtain ⟨hwl, hps⟩ := hw h mh
  obtain ⟨e', h1, l, y, z, fy, fz, hl, hR, rfl⟩ := forL_nx (TF := Tg.F (.nm 7)) (S := L0_law_call fn ft f) (fun dn e => ∃ (l : List D) (y z : Sl), frees y ∧ frees z ∧ l.length = dn.length ∧ (∀ (i : Nat) (x : D), l[i]? = some x → (h.wn[i]? = some true ∧ T x) ∨ (h.wn[i]? = some false ∧ R x)) ∧ e = [.val (.int p), .val (.int deep), .val N, .val K, .val (.lst (hs.map Hd.d)), .val h.d, .own (.lst l), y, z]) (rgD 0 h.ps.length) (fun dn d rest e hall ⟨l, y, z, fy, fz, hl, hR, he⟩ => by
    subst he
    obtain ⟨rfl, hlt⟩ := rgD_at hall
    have hn' := hn (p + 7919 * (0 + dn.length))
    have ll : l.length < 16777216 := by omega
    have wl : dn.length < h.wn.length := by omega
    have wat : L2.atI (h.wn.map D.bl) (0 + dn.length) = some (.bl h.wn[dn.length]) := by
      rw [atI_nat (by omega) (by simp; omega) (.bl true)]
      have : ((0 : Int) + dn.length).toNat = dn.length := by omega
      rw [this, getD_at _ (by simpa using wl)]
      simp
    have wg : h.wn[dn.length]? = some h.wn[dn.length] := List.getElem?_eq_getElem wl
    have fin : ∀ (x : D), ((h.wn[dn.length]? = some true ∧ T x) ∨ (h.wn[dn.length]? = some false ∧ R x)) → ∀ (i : Nat) (w : D), (l ++ [x])[i]? = some w → (h.wn[i]? = some true ∧ T w) ∨ (h.wn[i]? = some false ∧ R w) := fun x hx i w hi => by
      by_cases q : i < l.length
      · rw [List.getElem?_append_left q] at hi
        exact hR i w hi
      · rw [List.getElem?_append_right (by omega)] at hi
        have : i - l.length = 0 := by
          rcases Nat.eq_zero_or_pos (i - l.length) with z | z
          · exact z
          · rw [List.getElem?_eq_none (by simp; omega)] at hi; cases hi
        have ei : i = dn.length := by omega
        rw [this] at hi
        cases hi
        rw [ei]
        exact hx
    generalize hb : h.wn[dn.length] = b at wat wg
    have sd : ∀ (A B C : D), L2.atI [A, B, C] 1 = some B ∧ L2.atI [A, B, C] 2 = some C := fun A B C => ⟨rfl, rfl⟩
    cases b with
    | true =>
      obtain ⟨x, hx, Tx⟩ := ht (nxt (p + 7919 * (0 + dn.length)))
      refine ⟨_, _, by rcases fy with rfl | ⟨y, rfl⟩ <;> rfl, ?_, l ++ [x], .val (.int (0 + dn.length)), .val (.int (nxt (p + 7919 * (0 + dn.length)))), .inr ⟨_, rfl⟩, .inr ⟨_, rfl⟩, by simp [hl], fin x (.inl ⟨wg, Tx⟩), rfl⟩
      generalize (0 : Int) + dn.length = k at hx hn' wat
      rcases fz with rfl | ⟨z, rfl⟩ <;> simp [L0_law_call, hn', hx, ll, Hd.d, wat, sd]
    | false =>
      obtain ⟨x, hx, Rx⟩ := hf (nxt (p + 7919 * (0 + dn.length)))
      refine ⟨_, _, by rcases fy with rfl | ⟨y, rfl⟩ <;> rfl, ?_, l ++ [x], .val (.int (0 + dn.length)), .val (.int (nxt (p + 7919 * (0 + dn.length)))), .inr ⟨_, rfl⟩, .inr ⟨_, rfl⟩, by simp [hl], fin x (.inr ⟨wg, Rx⟩), rfl⟩
      generalize (0 : Int) + dn.length = k at hx hn' wat
      rcases fz with rfl | ⟨z, rfl⟩ <;> simp [L0_law_call, hn', hx, ll, Hd.d, wat, sd]) [.val (.int p), .val (.int deep), .val N, .val K, .val (.lst (hs.map Hd.d)), .val h.d, .own (.lst []), .non, .non] ⟨[], .non, .non, .inl rfl, .inl rfl, rfl, by simp, rfl⟩
  simp only [rgD, List.length_map, List.length_range] at hl
  refine ⟨h, mh, l, ?_, hl, hR⟩
  have ma : h.ps.length < 4611686018427387904 := by omega
  have ll : l.length ≤ 16777216 := by omega
  have hln : hs.length ≠ 0 := by omega
  simp only [Tg.F, Hd.d] at h1 hat
  have sd : ∀ (A B C : D), L2.atI [A, B, C] 1 = some B ∧ L2.atI [A, B, C] 0 = some A := fun A B C => ⟨rfl, rfl⟩
  simp [b_law_call, hln, hat, ma, sd, -forL, h1, ll, clF]
end
end HFL

set_option Elab.async false
set_option linter.all false
set_option maxRecDepth 100000
set_option maxHeartbeats 4000000
set_option autoImplicit false
namespace HFL
open PySem PySem.Spec PyProof.Rows L2 HF
theorem Cal.iterS {P : Program} {w : World} {K : PySem.W.Frag} {mg : Str → Option Value} {base : Heap} {k0 n : Nat} {x : Str} {F : (List Ar → FR) → List Ar → FR} (c : Nat) (h0 : Cal P w K mg base k0 x n (fun _ => .stk)) (st : ∀ k Φ, k0 ≤ k → Cal P w K mg base k x n Φ → Cal P w K mg base (k + c) x n (F Φ)) : ∀ N, Cal P w K mg base (k0 + c * N) x n (iterF F N)
  | 0 => h0
  | N + 1 => (st _ _ (Nat.le_add_right _ _) (Cal.iterS c h0 st N)).mono (by rw [Nat.mul_succ]; omega)
section
variable {fp fn : List Ar → FR} {N K H : D} (hn : ∀ p, fn [.val (.int p)] = .im (.int (nxt p)) [.val (.int p)])
include hn
theorem run_do {R : D → Prop} (deep : Int) (hp : ∀ (q p : Int) (many : Nat), q = deep ∨ q = 0 → many ≤ 1000 → ∃ l, fp [.val (.int p), .val (.int many), .val (.int q), .val N, .val K, .val H] = .im (.tup l) [.val (.int p), .val (.int many), .val (.int q), .val N, .val K, .val H] ∧ l.length = many ∧ ∀ x ∈ l, R x) (p : Int) :
    ∃ o l, o ∈ OPSL ∧ takesB o l.length = true ∧ runF 7 (b_law_do fp fn) [.val (.int p), .val (.int deep), .val N, .val K, .val H] = .im (doF o l) [.val (.int p), .val (.int deep), .val N, .val K, .val H] ∧ ∀ x ∈ l, R x := by
  have w0 : 0 ≤ p.fmod 12 := Int.fmod_nonneg_of_pos _ (by omega)
  have w1 : p.fmod 12 < 12 := Int.fmod_lt_of_pos _ (by omega)
  have hn' := hn p
  generalize nxt p = m at hn'
  generalize hw : p.fmod 12 = w at w0 w1
  obtain ⟨l1, e1, n1, r1⟩ := hp deep m 1 (.inl rfl) (by omega)
  obtain ⟨l2, e2, n2, r2⟩ := hp deep m 2 (.inl rfl) (by omega)
  simp only [Int.cast_ofNat_Int] at e1 e2
  have c : w = 0 ∨ w = 1 ∨ w = 2 ∨ w = 3 ∨ w = 4 ∨ w = 5 ∨ w = 6 ∨ w = 7 ∨ w = 8 ∨ w = 9 ∨ w = 10 ∨ w = 11 := by omega
  have ar2 : ∀ o : Str, o ∈ OPSL → o ≠ "list" → o ∉ ALOS → takesB o l2.length = true := fun o _ h h' => by rw [n2]; simp [takesB, h, h']
  have ar1 : ∀ o : Str, o ∈ OPSL → o ≠ "list" → o ∈ ALOS → takesB o l1.length = true := fun o _ h h' => by rw [n1]; simp [takesB, h, h']
  rcases c with rfl | rfl | rfl | rfl | rfl | rfl | rfl | rfl | rfl | rfl | rfl | rfl
  · exact ⟨"plus", l2, by decide +kernel, ar2 _ (by decide +kernel) (by decide +kernel) (by decide +kernel), by simp +decide [b_law_do, hw, hn', e2, doF, atI, ixN], r2⟩
  · exact ⟨"minus", l2, by decide +kernel, ar2 _ (by decide +kernel) (by decide +kernel) (by decide +kernel), by simp +decide [b_law_do, hw, hn', e2, doF, atI, ixN], r2⟩
  · exact ⟨"times", l2, by decide +kernel, ar2 _ (by decide +kernel) (by decide +kernel) (by decide +kernel), by simp +decide [b_law_do, hw, hn', e2, doF, atI, ixN], r2⟩
  · exact ⟨"over", l2, by decide +kernel, ar2 _ (by decide +kernel) (by decide +kernel) (by decide +kernel), by simp +decide [b_law_do, hw, hn', e2, doF, atI, ixN], r2⟩
  · exact ⟨"less", l2, by decide +kernel, ar2 _ (by decide +kernel) (by decide +kernel) (by decide +kernel), by simp +decide [b_law_do, hw, hn', e2, doF, atI, ixN], r2⟩
  · exact ⟨"same", l2, by decide +kernel, ar2 _ (by decide +kernel) (by decide +kernel) (by decide +kernel), by simp +decide [b_law_do, hw, hn', e2, doF, atI, ixN], r2⟩
  · exact ⟨"join", l2, by decide +kernel, ar2 _ (by decide +kernel) (by decide +kernel) (by decide +kernel), by simp +decide [b_law_do, hw, hn', e2, doF, atI, ixN], r2⟩
  · exact ⟨"first", l1, by decide +kernel, ar1 _ (by decide +kernel) (by decide +kernel) (by decide +kernel), by simp +decide [b_law_do, hw, hn', e1, doF, atI, ixN], r1⟩
  · exact ⟨"rest", l1, by decide +kernel, ar1 _ (by decide +kernel) (by decide +kernel) (by decide +kernel), by simp +decide [b_law_do, hw, hn', e1, doF, atI, ixN], r1⟩
  · exact ⟨"empty", l1, by decide +kernel, ar1 _ (by decide +kernel) (by decide +kernel) (by decide +kernel), by simp +decide [b_law_do, hw, hn', e1, doF, atI, ixN], r1⟩
  · exact ⟨"down", l1, by decide +kernel, ar1 _ (by decide +kernel) (by decide +kernel) (by decide +kernel), by simp +decide [b_law_do, hw, hn', e1, doF, atI, ixN], r1⟩
  · obtain ⟨k, hk, hat⟩ : ∃ k : Nat, k ≤ 8 ∧ L2.atI [D.int 0, D.int 1, D.int 2, D.int 3, D.int 8, D.int 5, D.int 1, D.int 2] ((p.fdiv 12).fmod 8) = some (.int k) := by
      have u0 : 0 ≤ (p.fdiv 12).fmod 8 := Int.fmod_nonneg_of_pos _ (by omega)
      have u1 : (p.fdiv 12).fmod 8 < 8 := Int.fmod_lt_of_pos _ (by omega)
      generalize (p.fdiv 12).fmod 8 = u at u0 u1
      have c : u = 0 ∨ u = 1 ∨ u = 2 ∨ u = 3 ∨ u = 4 ∨ u = 5 ∨ u = 6 ∨ u = 7 := by omega
      rcases c with rfl | rfl | rfl | rfl | rfl | rfl | rfl | rfl
      · exact ⟨0, by omega, rfl⟩
      · exact ⟨1, by omega, rfl⟩
      · exact ⟨2, by omega, rfl⟩
      · exact ⟨3, by omega, rfl⟩
      · exact ⟨8, by omega, rfl⟩
      · exact ⟨5, by omega, rfl⟩
      · exact ⟨1, by omega, rfl⟩
      · exact ⟨2, by omega, rfl⟩
    have at11 : L2.atI [D.str "plus", D.str "minus", D.str "times", D.str "over", D.str "less", D.str "same", D.str "join", D.str "first", D.str "rest", D.str "empty", D.str "down", D.str "list"] 11 = some (D.str "list") := rfl
    by_cases k3 : 3 < k
    · obtain ⟨l, e, nl, r⟩ := hp 0 m k (.inr rfl) (by omega)
      have k3' : (3 : Int) < k := by omega
      refine ⟨"list", l, by decide +kernel, by rw [nl]; simp [takesB, hk], ?_, r⟩
      simp +decide [b_law_do, hw, hn', at11, hat, k3', e, doF]
    · obtain ⟨l, e, nl, r⟩ := hp deep m k (.inl rfl) (by omega)
      have k3' : ¬ (3 : Int) < k := by omega
      refine ⟨"list", l, by decide +kernel, by rw [nl]; simp [takesB, hk], ?_, r⟩
      simp +decide [b_law_do, hw, hn', at11, hat, k3', e, doF]
end
/-- a form, one turn of the recursion -/
def formF (fn fv ft : List Ar → FR) (F : List Ar → FR) : List Ar → FR := runF 7 (b_law_form fn fv (runF 8 (b_law_parts F fn)) (runF 7 (b_law_do (runF 8 (b_law_parts F fn)) fn)) (runF 9 (b_law_call fn ft F)))
structure HdOk (h : Hd) : Prop where
  wl : h.wn.length = h.ps.length
  pl : h.ps.length ≤ 6
theorem run_form {fn fv ft : List Ar → FR} (hn : ∀ p, fn [.val (.int p)] = .im (.int (nxt p)) [.val (.int p)]) (hv : ∀ p, ∃ v, fv [.val (.int p)] = .im v [.val (.int p)] ∧ Vl v) {hs : List Hd} (h0 : hs ≠ []) (hw : ∀ h ∈ hs, HdOk h) {names known : List Str} (hnm : ∀ s ∈ names, isNm s = true) (hkn : ∀ s ∈ known, s ∈ names)
    (ht : ∀ p, ∃ d, ft [.val (.int p), .val (.lst (strsD known)), .val (.lst (hs.map Hd.d))] = .im d [.val (.int p), .val (.lst (strsD known)), .val (.lst (hs.map Hd.d))] ∧ tameF known d) :
    ∀ (n : Nat) (deep : Nat), deep ≤ n → ∀ p, ∃ d, iterF (formF fn fv ft) (n + 1) [.val (.int p), .val (.int deep), .val (.lst (strsD names)), .val (.lst (strsD known)), .val (.lst (hs.map Hd.d))] = .im d [.val (.int p), .val (.int deep), .val (.lst (strsD names)), .val (.lst (strsD known)), .val (.lst (hs.map Hd.d))] ∧ GF hs names known (deep + 3) d := by
  have leafs : ∀ (fp fd fc : List Ar → FR) (deep : Nat) (p : Int), deep = 0 ∨ (p.fdiv 3).fmod 13 < 3 → ∃ d, runF 7 (b_law_form fn fv fp fd fc) [.val (.int p), .val (.int deep), .val (.lst (strsD names)), .val (.lst (strsD known)), .val (.lst (hs.map Hd.d))] = .im d [.val (.int p), .val (.int deep), .val (.lst (strsD names)), .val (.lst (strsD known)), .val (.lst (hs.map Hd.d))] ∧ GF hs names known (deep + 3) d := by
    intro fp fd fc deep p hc
    have hpl := strs_pl hnm
    have hn' := hn p
    have m0 := nxt_nn p
    generalize nxt p = m at hn' m0
    obtain ⟨v, hv', V⟩ := hv (m.fdiv 4)
    by_cases hz : names = []
    · refine ⟨valF v, ?_, .val V⟩
      subst hz
      rcases hc with rfl | hc
      · simp [b_law_form, hn', hv', valF, D.eqB]
      · by_cases d0 : deep = 0
        · simp [b_law_form, hn', hv', valF, D.eqB, d0]
        · simp [b_law_form, hn', hv', valF, D.eqB, hc, d0]
    by_cases h4 : 0 < m.fmod 4
    · have nl : 0 < names.length := by cases names <;> simp_all
      obtain ⟨s, ms, hat⟩ := strs_at' names ((m.fdiv 4).fmod names.length) (Int.fmod_nonneg_of_pos _ (by omega)) (Int.fmod_lt_of_pos _ (by omega))
      refine ⟨nmF s, ?_, .nm ms⟩
      have nl0 : names.length ≠ 0 := by omega
      have e0 : D.eqB (.int deep) (.int 0) = some (decide (deep = 0)) := by simp [D.eqB]
      rcases hc with rfl | hc
      · have e0 : D.eqB (.int 0) (.int 0) = some true := by simp [D.eqB]
        simp [b_law_form, hn', -D.eqB, D.eqB_nil hpl, hz, h4, hat, nmF, nl0, e0]
      · by_cases d0 : deep = 0
        · subst d0
          have e0 : D.eqB (.int 0) (.int 0) = some true := by simp [D.eqB]
          simp [b_law_form, hn', -D.eqB, D.eqB_nil hpl, hz, h4, hat, nmF, nl0, e0]
        · simp [b_law_form, hn', -D.eqB, D.eqB_nil hpl, hz, h4, hat, nmF, nl0, e0, d0, hc]
    · refine ⟨valF v, ?_, .val V⟩
      have e0 : D.eqB (.int deep) (.int 0) = some (decide (deep = 0)) := by simp [D.eqB]
      by_cases d0 : deep = 0
      · subst d0
        have e0 : D.eqB (.int 0) (.int 0) = some true := by simp [D.eqB]
        simp [b_law_form, hn', -D.eqB, D.eqB_nil hpl, hz, h4, hv', valF, e0]
      · have hc' := hc.resolve_left d0
        simp [b_law_form, hn', -D.eqB, D.eqB_nil hpl, hz, h4, hv', valF, e0, d0, hc']
  intro n
  induction n with
  | zero =>
    intro deep hd p
    have : deep = 0 := by omega
    exact leafs _ _ _ deep p (.inl this)
  | succ n ih =>
    intro deep hd p
    by_cases hc : deep = 0 ∨ (p.fdiv 3).fmod 13 < 3
    · exact leafs _ _ _ deep p hc
    · obtain ⟨d0, w3⟩ := not_or.mp hc
      obtain ⟨dp, rfl⟩ : ∃ dp, deep = dp + 1 := ⟨deep - 1, by omega⟩
      have F1 := ih dp (by omega)
      have F0 := ih 0 (by omega)
      unfold iterF
      generalize iterF (formF fn fv ft) (n + 1) = F at F1 F0
      have parts := run_parts hn (R := GF hs names known (dp + 3)) dp F1
      have parts0 := run_parts hn (R := GF hs names known (dp + 3)) 0 (fun p => by
        obtain ⟨d, e, g⟩ := F0 p
        exact ⟨d, e, g.mono (by omega)⟩)
      have hdo := run_do hn (R := GF hs names known (dp + 3)) dp (fun q p many hq hm => by
        rcases hq with rfl | rfl
        · exact parts p many hm
        · exact parts0 p many hm)
      have hcall := run_call hn (T := tameF known) rfl h0 (fun h m => ⟨(hw h m).wl, by have := (hw h m).pl; omega⟩) dp F1 ht
      unfold formF
      generalize runF 8 (b_law_parts F fn) = fp at parts hdo
      generalize runF 7 (b_law_do fp fn) = fd at hdo
      generalize runF 9 (b_law_call fn ft F) = fc at hcall
      have hn' := hn p
      have m0 := nxt_nn p
      generalize nxt p = m at hn' m0
      have e0 : ¬ ((dp : Int) + 1 = 0) := by omega
      generalize hw' : (p.fdiv 3).fmod 13 = w at w3
      by_cases w6 : w < 6
      · obtain ⟨l, e, nl, r⟩ := parts m 3 (by omega)
        match l, nl with
        | [a, b, c], _ =>
          refine ⟨ifF a b c, ?_, .iff' (r a (by simp)) (r b (by simp)) (r c (by simp))⟩
          simp only [Int.cast_ofNat_Int] at e
          simp [b_law_form, hn', hw', w3, e0, w6, e, ifF]
      by_cases w9 : w < 9
      · obtain ⟨o, l, ho, ht', e, r⟩ := hdo m
        refine ⟨doF o l, ?_, .dop ho ht' r⟩
        simp [b_law_form, hn', hw', w3, e0, w6, w9, e]
      by_cases w12 : w < 12
      · obtain ⟨h, mh, l, e, nl, r⟩ := hcall m
        refine ⟨clF h.nm l, ?_, .inr (.inr (.inr (.inr (.inr ⟨h, mh, l, rfl, nl, fun x mx => ?_, fun i x hi hw => ?_⟩))))⟩
        · simp [b_law_form, hn', hw', w3, e0, w6, w9, w12, e]
        · obtain ⟨i, hi⟩ := List.mem_iff_getElem?.mp mx
          rcases r i x hi with ⟨_, t⟩ | ⟨_, t⟩
          · exact (tame_GF hkn t).mono (by omega)
          · exact t
        · rcases r i x hi with ⟨_, t⟩ | ⟨e, _⟩
          · exact t
          · rw [hw] at e; cases e
      · obtain ⟨d, hat, md⟩ := at_list (WRDS.map D.str) m 6 (by omega) (by simp [WRDS])
        obtain ⟨s, ms, rfl⟩ := List.mem_map.mp md
        refine ⟨rfF s, ?_, .rf ms⟩
        simp only [WRDS, List.map_cons, List.map_nil] at hat
        simp [b_law_form, hn', hw', w3, e0, w6, w9, w12, hat, rfF]
end HFL

set_option Elab.async false
set_option linter.all false
set_option maxRecDepth 100000
set_option maxHeartbeats 4000000
set_option autoImplicit false
namespace HFL
open PySem PySem.Spec PyProof.Rows L2 HF
/-! ### the heads -/
structure Hds (hs : List Hd) (ns : List Str) : Prop where
  nms : Nms ns
  len0 : 1 ≤ hs.length
  len4 : hs.length ≤ 4
  each : ∀ (i : Nat) (h : Hd), hs[i]? = some h → h.nm = ns.getD i "" ∧ ∃ m, m ≤ 6 ∧ h.ps = (List.range m).map (fun j => ns.getD ((2 + i + j) % 12) "") ∧ h.wn.length = m ∧ h.wn.count true ≤ 2
theorem cnt_bl (wn : List Bool) : ((wn.map D.bl).countP fun z => PyData.eqv z.py (D.bl true).py) = wn.count true := by
  induction wn with
  | nil => rfl
  | cons b wn ih =>
    rw [List.map_cons, List.countP_cons, ih, List.count_cons]
    cases b <;> simp
theorem flat_bl (wn : List Bool) : (wn.map D.bl).all D.flat = true := by simp
theorem heads_inner (f1 f2 : List Ar → FR) (A B C : Sl) (c : Int) (E : Sl) (m : Nat) (hm : m ≤ 6) (S : Sl) (x y : Sl) (fx : frees x) (fy : frees y) : ∃ (wn : List Bool) (x' y' : Sl), frees x' ∧ frees y' ∧ wn.length = m ∧ wn.count true ≤ 2 ∧
    forL (Tg.F (.nm 7)) (L0_law_heads f1 f2) (rgD 0 m) [A, B, C, S, .val (.int c), E, .own (.lst []), x, y] = .nx [A, B, C, S, .val (.int c), E, .own (.lst (wn.map D.bl)), x', y'] := by
  obtain ⟨e', h1, wn, x', y', fx', fy', hl, hc, rfl⟩ := forL_nx (TF := Tg.F (.nm 7)) (S := L0_law_heads f1 f2) (fun dn e => ∃ (wn : List Bool) (x y : Sl), frees x ∧ frees y ∧ wn.length = dn.length ∧ wn.count true ≤ 2 ∧ e = [A, B, C, S, .val (.int c), E, .own (.lst (wn.map D.bl)), x, y]) (rgD 0 m) (fun dn d rest e hall ⟨wn, x, y, fx, fy, hl, hc, he⟩ => by
    subst he
    obtain ⟨rfl, hlt⟩ := rgD_at hall
    obtain ⟨q, hq, hq0⟩ : ∃ q : Int, L2.atI [D.int 7, D.int 14, D.int 28, D.int 56, D.int 112, D.int 224] (0 + dn.length) = some (.int q) ∧ 0 < q ∧ q < 1000 := by
      have : dn.length = 0 ∨ dn.length = 1 ∨ dn.length = 2 ∨ dn.length = 3 ∨ dn.length = 4 ∨ dn.length = 5 := by omega
      rcases this with z | z | z | z | z | z <;> rw [z]
      · exact ⟨7, rfl, by omega, by omega⟩
      · exact ⟨14, rfl, by omega, by omega⟩
      · exact ⟨28, rfl, by omega, by omega⟩
      · exact ⟨56, rfl, by omega, by omega⟩
      · exact ⟨112, rfl, by omega, by omega⟩
      · exact ⟨224, rfl, by omega, by omega⟩
    have q0 : q ≠ 0 := by omega
    have q1 : q.natAbs < 18446744073709551616 := by omega
    have ll : wn.length < 16777216 := by omega
    by_cases k1 : (c.fdiv q).fmod 2 = 1
    · refine ⟨_, _, by rcases fx with rfl | ⟨x, rfl⟩ <;> rfl, ?_, wn ++ [decide (wn.count true < 2)], .val (.int (0 + dn.length)), .val (.bl true), .inr ⟨_, rfl⟩, .inr ⟨_, rfl⟩, by simp [hl], ?_, rfl⟩
      · generalize (0 : Int) + dn.length = k at hq
        have cb := cnt_bl wn
        have fb := flat_bl wn
        rcases fy with rfl | ⟨y, rfl⟩ <;> simp [L0_law_heads, hq, q0, q1, k1, ll, -List.countP_map] <;> simp at cb <;> simp [cb] <;> omega
      · rw [List.count_append]
        by_cases c2 : wn.count true < 2
        · simp [c2]; omega
        · simp [c2]; omega
    · refine ⟨_, _, by rcases fx with rfl | ⟨x, rfl⟩ <;> rfl, ?_, wn ++ [false], .val (.int (0 + dn.length)), .val (.bl false), .inr ⟨_, rfl⟩, .inr ⟨_, rfl⟩, by simp [hl], ?_, rfl⟩
      · generalize (0 : Int) + dn.length = k at hq
        rcases fy with rfl | ⟨y, rfl⟩ <;> simp [L0_law_heads, hq, q0, q1, k1, ll]
      · rw [List.count_append]; simp; omega) [A, B, C, S, .val (.int c), E, .own (.lst []), x, y] ⟨[], x, y, fx, fy, rfl, by simp, rfl⟩
  simp only [rgD, List.length_map, List.length_range] at hl
  exact ⟨wn, x', y', fx', fy', hl, hc, h1⟩
theorem psOf (ns : List Str) (hn : ns.length = 12) (f1 f2 : List Ar → FR) (A C E F Y : Sl) (c : D) (k m : Nat) (hm : m ≤ 6) :
    lcL (Tg.F (.nm 7)) yesF (E0_law_heads f1 f2) [7] (rgD 0 m) [A, .own (.lst (strsD ns)), C, .val (.int k), .val c, E, F, .non, Y] [] = .ok (.fr (.lst (strsD ((List.range m).map fun j => ns.getD ((2 + k + j) % 12) "")))) [A, .own (.lst (strsD ns)), C, .val (.int k), .val c, E, F, .non, Y] := by
  have lc := lcL_map (i := 7) (E := E0_law_heads f1 f2) (fun d => match d with | .int j => .str (ns.getD ((2 + k + j.toNat) % 12) "") | _ => .non) (e := [A, .own (.lst (strsD ns)), C, .val (.int k), .val c, E, F, .non, Y]) rfl (rgD 0 m) [] (by simp [rgD]; omega) (fun d md => by
    obtain ⟨j, hj, rfl⟩ := rgD_mem md
    have tk : ((0 : Int) + (j : Int)).toNat = j := by omega
    have lt : (2 + k + j) % 12 < 12 := Nat.mod_lt _ (by omega)
    have e : (2 + (k : Int) + (0 + j)).fmod 12 = ((2 + k + j) % 12 : Nat) := by
      have := fmod_nat (2 + k + j) 12
      rw [← this]; simp
    have at' := atI_nat (xs := strsD ns) (i := ((2 + k + j) % 12 : Nat)) (by omega) (by rw [List.length_map, hn]; exact Int.ofNat_lt.mpr lt) (.str "")
    have gd : (strsD ns).getD ((2 + k + j) % 12) (.str "") = .str (ns.getD ((2 + k + j) % 12) "") := by
      rw [getD_at _ (by simp [hn]; omega), getD_at _ (by rw [hn]; exact lt)]; simp
    rw [Int.toNat_natCast, gd] at at'
    simp only [tk]
    generalize ns.getD ((2 + k + j) % 12) "" = s at at' ⊢
    generalize (((2 + k + j) % 12 : Nat) : Int) = q at e at'
    generalize strsD ns = L at at' ⊢
    generalize (0 : Int) + j = jj at e ⊢
    simp [E0_law_heads, e, at'])
  rw [lc]
  simp [rgD]
theorem run_heads {f1 f2 : List Ar → FR} (ns0 : List Int) (hc : ∀ k, 0 ≤ k → f2 [.val (.scr ns0), .val (.int k)] = .im (.int (cell ns0 k)) [.val (.scr ns0), .val (.int k)]) (hnm : ∀ c, ∃ ns : List Str, f1 [.val (.int c)] = .fr (.lst (strsD ns)) [.val (.int c)] ∧ Nms ns) :
    ∃ hs ns, runF 9 (b_law_heads f1 f2) [.val (.scr ns0)] = .fr (.lst (hs.map Hd.d)) [.val (.scr ns0)] ∧ Hds hs ns := by
  obtain ⟨ns, hns, N⟩ := hnm (cell ns0 0)
  have c0 := hc 0 (by omega)
  have c1 := hc 1 (by omega)
  have m0 : 0 ≤ (cell ns0 1).fmod 4 := Int.fmod_nonneg_of_pos _ (by omega)
  have m1 : (cell ns0 1).fmod 4 < 4 := Int.fmod_lt_of_pos _ (by omega)
  generalize cell ns0 0 = q0 at hns c0
  generalize cell ns0 1 = q1 at c1 m0 m1
  have nl := N.len
  obtain ⟨e', h1, hs, u, v, w, x, y, fu, fv, fw, fx, fy, hl, hE, s3, f3, rfl⟩ := forL_nx (TF := Tg.F (.nm 3)) (S := L1_law_heads f1 f2) (fun dn e => ∃ (hs : List Hd) (u v w x y : Sl), frees u ∧ frees v ∧ (frees w ∨ ∃ l, w = .own (.lst l)) ∧ frees x ∧ frees y ∧ hs.length = dn.length ∧
      (∀ (i : Nat) (h : Hd), hs[i]? = some h → h.nm = ns.getD i "" ∧ ∃ m, m ≤ 6 ∧ h.ps = (List.range m).map (fun j => ns.getD ((2 + i + j) % 12) "") ∧ h.wn.length = m ∧ h.wn.count true ≤ 2) ∧
      ∃ s3, frees s3 ∧ e = [.val (.scr ns0), .own (.lst (strsD ns)), .own (.lst (hs.map Hd.d)), s3, u, v, w, x, y]) (rgD 0 (1 + q1.fmod 4).toNat) (fun dn d rest e hall ⟨hs, u, v, w, x, y, fu, fv, fw, fx, fy, hl, hE, s3, f3, he⟩ => by
    subst he
    obtain ⟨rfl, hlt⟩ := rgD_at hall
    have d4 : dn.length < 4 := by omega
    have cc := hc (2 + (0 + dn.length)) (by omega)
    generalize cell ns0 (2 + (0 + dn.length)) = c at cc
    obtain ⟨m, hm6, hat⟩ : ∃ m : Nat, m ≤ 6 ∧ L2.atI [D.int 1, D.int 2, D.int 3, D.int 2, D.int 0, D.int 6, D.int 3] (c.fmod 7) = some (.int m) := by
      have u0 : 0 ≤ c.fmod 7 := Int.fmod_nonneg_of_pos _ (by omega)
      have u1 : c.fmod 7 < 7 := Int.fmod_lt_of_pos _ (by omega)
      generalize c.fmod 7 = u at u0 u1
      have c : u = 0 ∨ u = 1 ∨ u = 2 ∨ u = 3 ∨ u = 4 ∨ u = 5 ∨ u = 6 := by omega
      rcases c with rfl | rfl | rfl | rfl | rfl | rfl | rfl
      · exact ⟨1, by omega, rfl⟩
      · exact ⟨2, by omega, rfl⟩
      · exact ⟨3, by omega, rfl⟩
      · exact ⟨2, by omega, rfl⟩
      · exact ⟨0, by omega, rfl⟩
      · exact ⟨6, by omega, rfl⟩
      · exact ⟨3, by omega, rfl⟩
    obtain ⟨wn, x', y', fx', fy', hwl, hwc, hin⟩ := heads_inner f1 f2 (.val (.scr ns0)) (.own (.lst (strsD ns))) (.own (.lst (hs.map Hd.d))) c (.val (.int m)) m hm6 (.val (.int (0 + dn.length))) x y fx fy
    have lc := psOf ns nl f1 f2 (.val (.scr ns0)) (.own (.lst (hs.map Hd.d))) (.val (.int m)) (.own (.lst (wn.map D.bl))) y' (.int c) dn.length m hm6
    have nat' : L2.atI (strsD ns) (0 + dn.length) = some (.str (ns.getD dn.length "")) := by
      rw [atI_nat (by omega) (by simp [nl]; omega) (.str "")]
      have : ((0 : Int) + dn.length).toNat = dn.length := by omega
      rw [this, getD_at _ (by simp [nl]; omega), getD_at _ (by omega)]; simp
    have hll : hs.length < 16777216 := by omega
    have mm : m < 4611686018427387904 := by omega
    have wl2 : wn.length ≤ 16777216 := by omega
    have m2 : m ≤ 16777216 := by omega
    let hnew : Hd := ⟨ns.getD dn.length "", (List.range m).map (fun j => ns.getD ((2 + dn.length + j) % 12) ""), wn⟩
    have hD : hnew.d = .tup [.str (ns.getD dn.length ""), .tup (strsD ((List.range m).map (fun j => ns.getD ((2 + dn.length + j) % 12) ""))), .tup (wn.map D.bl)] := rfl
    refine ⟨_, _, by rcases f3 with rfl | ⟨z, rfl⟩ <;> rfl, ?_, hs ++ [hnew], .val (.int c), .val (.int m), .own (.lst (wn.map D.bl)), x', y', .inr ⟨_, rfl⟩, .inr ⟨_, rfl⟩, .inr ⟨_, rfl⟩, fx', fy', by simp [hl], ?_, .val (.int (0 + dn.length)), .inr ⟨_, rfl⟩, rfl⟩
    · rw [List.map_append, List.map_cons, List.map_nil, hD]
      have plen : (strsD ((List.range m).map (fun j => ns.getD ((2 + dn.length + j) % 12) ""))).length = m := by simp
      generalize strsD ((List.range m).map (fun j => ns.getD ((2 + dn.length + j) % 12) "")) = PL at lc plen
      generalize ns.getD dn.length "" = nm at nat'
      rw [Int.zero_add] at cc nat' hin ⊢
      simp only [Tg.F] at hin lc
      have pl2 : PL.length ≤ 16777216 := by omega
      rcases fu with rfl | ⟨u, rfl⟩ <;> rcases fv with rfl | ⟨v, rfl⟩ <;> rcases fw with (rfl | ⟨w, rfl⟩) | ⟨w, rfl⟩ <;> rcases fx' with rfl | ⟨x', rfl⟩ <;> simp [L1_law_heads, cc, hat, mm, -forL, -lcL, hin, nat', lc, hll, pl2, wl2]
    · intro i h hi
      by_cases q : i < hs.length
      · rw [List.getElem?_append_left q] at hi
        exact hE i h hi
      · rw [List.getElem?_append_right (by omega)] at hi
        have : i - hs.length = 0 := by
          rcases Nat.eq_zero_or_pos (i - hs.length) with z | z
          · exact z
          · rw [List.getElem?_eq_none (by simp; omega)] at hi; cases hi
        have ei : i = dn.length := by omega
        rw [this] at hi
        cases hi
        subst ei
        exact ⟨rfl, m, hm6, rfl, hwl, hwc⟩) [.val (.scr ns0), .own (.lst (strsD ns)), .own (.lst []), .non, .non, .non, .non, .non, .non] ⟨[], .non, .non, .non, .non, .non, .inl rfl, .inl rfl, .inl (.inl rfl), .inl rfl, .inl rfl, rfl, by simp, .non, .inl rfl, rfl⟩
  simp only [rgD, List.length_map, List.length_range] at hl
  refine ⟨hs, ns, ?_, ⟨N, by omega, by omega, hE⟩⟩
  have ma : (1 + q1.fmod 4).natAbs < 4611686018427387904 := by omega
  simp only [Tg.F] at h1
  simp [b_law_heads, c0, c1, hns, ma, -forL, h1]
end HFL

set_option Elab.async false
set_option linter.all false
set_option maxRecDepth 100000
set_option maxHeartbeats 4000000
set_option autoImplicit false
namespace HFL
open PySem PySem.Spec PyProof.Rows L2 HF
/-! ### the program -/
structure Fn where
  nm : Str
  ps : List Str
  bd : D
def Fn.d (f : Fn) : D := .tup [.str f.nm, .tup (strsD f.ps), f.bd]
def knownOf (h : Hd) : List Str := ((List.range h.ps.length).filter fun j => h.wn.getD j false).map fun j => h.ps.getD j ""
theorem knownOf_sub (h : Hd) : ∀ s ∈ knownOf h, s ∈ h.ps := by
  intro s m
  simp only [knownOf, List.mem_map, List.mem_filter, List.mem_range] at m
  obtain ⟨j, ⟨hj, _⟩, rfl⟩ := m
  rw [getD_at _ hj]
  exact List.getElem_mem hj
structure Pr (hs : List Hd) (pr : List Fn) : Prop where
  len : pr.length = hs.length
  each : ∀ (i : Nat) (f : Fn) (h : Hd), pr[i]? = some f → hs[i]? = some h → f.nm = h.nm ∧ f.ps = h.ps ∧ GF hs h.ps (knownOf h) 7 f.bd
mutual
theorem thg_pure : ∀ d : D, thg d = true → d.pure = true
  | .tup xs, h => by simp at h; simpa using thgL_pure xs h
  | .non, h => by simp
  | .bl _, h => by simp
  | .int _, h => by simp
  | .str s, h => by simp
  | .lst _, h => by simp [thg, leafy] at h
  | .dct _ _, h => by simp [thg, leafy] at h
  | .scr _, h => by simp [thg, leafy] at h
  | .ty _, h => by simp [thg, leafy] at h
  | .ob _, h => by simp [thg, leafy] at h
theorem thgL_pure : ∀ ds : List D, thgL ds = true → D.pureL ds = true
  | [], _ => by simp
  | d :: ds, h => by simp at h; simpa using ⟨thg_pure d h.1, thgL_pure ds h.2⟩
end
theorem pureL_of {ds : List D} (h : ∀ d ∈ ds, d.pure = true) : D.pureL ds = true := by
  induction ds with
  | nil => simp
  | cons x ds ih => simp; exact ⟨h x (by simp), ih fun d m => h d (by simp [m])⟩
theorem pureL_mem {ds : List D} (h : D.pureL ds = true) {d : D} (m : d ∈ ds) : d.pure = true := by
  induction ds with
  | nil => cases m
  | cons x ds ih =>
    simp only [D.pureL_cons, Bool.and_eq_true] at h
    cases m with
    | head => exact h.1
    | tail _ m => exact ih h.2 m
theorem GF.pure {hs : List Hd} {names known : List Str} : ∀ {n : Nat} {d : D}, GF hs names known n d → d.pure = true
  | n + 1, d, h => by
    rcases h with ⟨v, V, rfl⟩ | ⟨s, _, rfl⟩ | ⟨s, _, rfl⟩ | ⟨a, b, c, rfl, ha, hb, hc⟩ | ⟨o, l, ho, ht, rfl, hl⟩ | ⟨hd, hh, l, rfl, hn, hl, htm⟩
    · simp [valF, thg_pure _ V.th]
    · simp [nmF]
    · simp [rfF]
    · simp [ifF, ha.pure, hb.pure, hc.pure]
    · simp [doF, pureL_of fun x m => (hl x m).pure]
    · simp [clF, pureL_of fun x m => (hl x m).pure]
theorem strs_at_nat (ss : List Str) (i : Nat) (h : i < ss.length) : L2.atI (strsD ss) (i : Int) = some (.str (ss.getD i "")) := by
  rw [atI_nat (by omega) (by simpa using h) (.str ""), Int.toNat_natCast, getD_at _ (by simpa using h), getD_at _ h]
  simp
theorem known_lc (h : Hd) (hw : h.wn.length = h.ps.length) (hp : h.ps.length ≤ 1000) (fn fc ff : List Ar → FR) (A B C E F G H I J K : Sl) :
    lcL (Tg.F (.nm 12)) (T0_law_program fn fc ff) (E0_law_program fn fc ff) [12] (rgD 0 h.ps.length) [A, B, C, E, F, G, H, I, .val (.tup (strsD h.ps)), .val (.tup (h.wn.map D.bl)), J, K, .non] [] = .ok (.fr (.lst (strsD (knownOf h)))) [A, B, C, E, F, G, H, I, .val (.tup (strsD h.ps)), .val (.tup (h.wn.map D.bl)), J, K, .non] := by
  have lc := lcL_filter (i := 12) (T := T0_law_program fn fc ff) (E := E0_law_program fn fc ff) (fun d => match d with | .int j => h.wn.getD j.toNat false | _ => false) (fun d => match d with | .int j => .str (h.ps.getD j.toNat "") | _ => .non) (e := [A, B, C, E, F, G, H, I, .val (.tup (strsD h.ps)), .val (.tup (h.wn.map D.bl)), J, K, .non]) rfl (rgD 0 h.ps.length) [] (by simp [rgD]; omega) (fun d md => by
    obtain ⟨j, hj, rfl⟩ := rgD_mem md
    have tk : ((0 : Int) + (j : Int)).toNat = j := by omega
    have at' : L2.atI (h.wn.map D.bl) (j : Int) = some (.bl (h.wn.getD j false)) := by
      rw [atI_nat (by omega) (by simp; omega) (.bl false), Int.toNat_natCast, getD_at _ (by simp; omega), getD_at _ (by omega)]
      simp
    simp only [tk]
    generalize h.wn.getD j false = s at at' ⊢
    rw [Int.zero_add]
    generalize h.wn.map D.bl = L at at' ⊢
    generalize strsD h.ps = M
    simp [T0_law_program, at']) (fun d md hd => by
    obtain ⟨j, hj, rfl⟩ := rgD_mem md
    have tk : ((0 : Int) + (j : Int)).toNat = j := by omega
    have at' := strs_at_nat h.ps j hj
    simp only [tk]
    generalize h.ps.getD j "" = s at at' ⊢
    rw [Int.zero_add]
    generalize strsD h.ps = M at at' ⊢
    generalize h.wn.map D.bl = L
    simp [E0_law_program, at'])
  rw [lc]
  have e : ∀ n : Nat, ((List.range n).map (fun (i : Nat) => D.int (0 + (i : Int)))).filter (fun d => match d with | .int j => h.wn.getD j.toNat false | _ => false) = ((List.range n).filter fun j => h.wn.getD j false).map (fun (i : Nat) => D.int (0 + (i : Int))) := fun n => by
    rw [List.filter_map]
    congr 1
    apply List.filter_congr
    intro x _
    simp
  rw [List.nil_append, rgD, e, List.map_map]
  have e2 : (((List.range h.ps.length).filter fun j => h.wn.getD j false).map ((fun d => match d with | .int j => .str (h.ps.getD j.toNat "") | _ => D.non) ∘ fun (i : Nat) => D.int (0 + (i : Int)))) = strsD (knownOf h) := by
    simp only [knownOf, strsD, List.map_map]
    apply List.map_congr_left
    intro x _
    simp
  rw [e2]
/-- a slot that may be written -/
abbrev nio (x : Sl) : Prop := isIo (some x) = false
theorem io_val (d : D) : isIo (some (.val d)) = false := rfl
theorem io_own (d : D) : isIo (some (.own d)) = false := rfl
theorem io_non : isIo (some .non) = false := rfl
section
variable {fn fc ff : List Ar → FR} {hs : List Hd} {ns0 : List Int}
theorem run_program (hn : ∀ p, fn [.val (.int p)] = .im (.int (nxt p)) [.val (.int p)]) (hc : ∀ k, 0 ≤ k → fc [.val (.scr ns0), .val (.int k)] = .im (.int (cell ns0 k)) [.val (.scr ns0), .val (.int k)]) (hw : ∀ h ∈ hs, HdOk h) (hl4 : hs.length ≤ 4)
    (hf : ∀ h ∈ hs, ∀ (p : Int) (deep : Nat), deep ≤ 3 → ∃ d, ff [.val (.int p), .val (.int deep), .val (.lst (strsD h.ps)), .val (.lst (strsD (knownOf h))), .val (.lst (hs.map Hd.d))] = .im d [.val (.int p), .val (.int deep), .val (.lst (strsD h.ps)), .val (.lst (strsD (knownOf h))), .val (.lst (hs.map Hd.d))] ∧ GF hs h.ps (knownOf h) (deep + 3) d) :
    ∃ pr, runF 13 (b_law_program fn fc ff) [.val (.scr ns0), .val (.lst (hs.map Hd.d))] = .im (.tup (pr.map Fn.d)) [.val (.scr ns0), .val (.lst (hs.map Hd.d))] ∧ Pr hs pr := by
  have step : ∀ (h : Hd) (i : Nat), hs[i]? = some h → ∀ (L : List D), L.length < 1000 → ∀ (x4 x5 x6 x7 x8 x9 x10 x11 : Sl), nio x4 → nio x5 → nio x6 → nio x7 → nio x8 → nio x9 → nio x10 → nio x11 →
      ∃ (bd : D) (y4 y5 y6 y7 y8 y9 y10 y11 : Sl), GF hs h.ps (knownOf h) 7 bd ∧ nio y4 ∧ nio y5 ∧ nio y6 ∧ nio y7 ∧ nio y8 ∧ nio y9 ∧ nio y10 ∧ nio y11 ∧
        L0_law_program fn fc ff [.val (.scr ns0), .val (.lst (hs.map Hd.d)), .own (.lst L), .val (.int i), x4, x5, x6, x7, x8, x9, x10, x11, .non] = .nx [.val (.scr ns0), .val (.lst (hs.map Hd.d)), .own (.lst (L ++ [Fn.d ⟨h.nm, h.ps, bd⟩])), .val (.int i), y4, y5, y6, y7, y8, y9, y10, y11, .non] := by
    intro h i hi L hL x4 x5 x6 x7 x8 x9 x10 x11 f4 f5 f6 f7 f8 f9 f10 f11
    have mh := List.mem_of_getElem? hi
    obtain ⟨hil, _⟩ := List.getElem?_eq_some_iff.mp hi
    have hat : L2.atI (hs.map Hd.d) (i : Int) = some h.d := by
      rw [atI_nat (by omega) (by simpa using hil) (.non), Int.toNat_natCast, getD_at _ (by simpa using hil)]
      simp [(List.getElem?_eq_some_iff.mp hi).2]
    obtain ⟨wl, pl6⟩ := hw h mh
    have p6 := hc (6 + i) (by omega)
    have p10 := hc 10 (by omega)
    have p11 := hc 11 (by omega)
    generalize cell ns0 (6 + i) = c6 at p6
    generalize cell ns0 10 = c10 at p10
    generalize cell ns0 11 = c11 at p11
    have hn1 := hn (c6 * 977 + i)
    generalize nxt (c6 * 977 + i) = pk at hn1
    have hn2 := hn (pk + 31)
    generalize nxt (pk + 31) = mo at hn2
    have q0 : 0 ≤ (c10.fdiv (i + 1)).fmod 3 := Int.fmod_nonneg_of_pos _ (by omega)
    have q1 : (c10.fdiv (i + 1)).fmod 3 < 3 := Int.fmod_lt_of_pos _ (by omega)
    obtain ⟨dp, hdp⟩ : ∃ dp : Nat, 1 + (c10.fdiv (i + 1)).fmod 3 = dp := ⟨(1 + (c10.fdiv (i + 1)).fmod 3).toNat, by omega⟩
    obtain ⟨b1, e1, g1⟩ := hf h mh pk dp (by omega)
    obtain ⟨b2, e2, g2⟩ := hf h mh mo 2 (by omega)
    have pu1 := g1.pure
    have pu2 := g2.pure
    simp only [Int.cast_ofNat_Int] at e2
    have i1 : ((i : Int) + 1).natAbs < 18446744073709551616 := by omega
    have i2 : (i : Int) + 1 ≠ 0 := by omega
    have lk := known_lc h wl (by omega) fn fc ff (.val (.scr ns0)) (.val (.lst (hs.map Hd.d))) (.own (.lst L)) (.val (.int i)) x4 x5 x6 (.val (.str h.nm)) x10 x11
    have pmm : h.ps.length < 4611686018427387904 := by omega
    have pm2 : h.ps.length ≤ 16777216 := by omega
    have Ll : L.length < 16777216 := by omega
    have sl : (strsD h.ps).length = h.ps.length := by simp
    have hd : h.d = .tup [.str h.nm, .tup (strsD h.ps), .tup (h.wn.map D.bl)] := rfl
    rw [hd] at hat
    generalize hT : strsD h.ps = PS at lk e1 e2 sl hat
    generalize strsD (knownOf h) = KN at lk e1 e2
    generalize h.wn.map D.bl = WN at lk hat
    generalize hs.map Hd.d = HS at lk e1 e2 hat
    simp only [Tg.F] at lk
    by_cases c : 0 < (c11.fdiv (i + 1)).fmod 3 ∧ 0 < h.ps.length
    · obtain ⟨ca, cb⟩ := c
      obtain ⟨s, ms, hs'⟩ := strs_at' h.ps (mo.fmod h.ps.length) (Int.fmod_nonneg_of_pos _ (by omega)) (Int.fmod_lt_of_pos _ (by omega))
      rw [hT] at hs'
      have cb0 : h.ps.length ≠ 0 := by omega
      have pe : h.ps ≠ [] := by intro z; rw [z] at cb; simp at cb
      by_cases t : (mo.fdiv 8).fmod 2 = 1
      · refine ⟨ifF (doF "empty" [nmF s]) b1 b2, .own (.lst KN), .val (.int pk), .val (ifF (doF "empty" [nmF s]) b1 b2), .val (.str h.nm), .val (.tup PS), .val (.tup WN), .val (.int mo), .val (doF "empty" [nmF s]), ?_, rfl, rfl, rfl, rfl, rfl, rfl, rfl, rfl, ?_⟩
        · refine .iff' (.dop (by decide +kernel) (by show takesB _ 1 = true; decide +kernel) fun x m => ?_) (g1.mono (by omega)) (g2.mono (by omega))
          rw [List.mem_singleton.mp m]; exact .nm ms
        · simp only [Fn.d, hT]
          simp [L0_law_program, -isIo, io_val, io_own, io_non, f4, f5, f6, f7, f8, f9, f10, f11, hat, sl, pmm, -lcL, lk, p6, p10, p11, hn1, hn2, i1, i2, hdp, pm2, e1, e2, pu1, pu2, ca, cb, t, hs', cb0, Ll, ifF, doF, nmF, pe]
      · refine ⟨ifF (nmF s) b1 b2, .own (.lst KN), .val (.int pk), .val (ifF (nmF s) b1 b2), .val (.str h.nm), .val (.tup PS), .val (.tup WN), .val (.int mo), .val (nmF s), ?_, rfl, rfl, rfl, rfl, rfl, rfl, rfl, rfl, ?_⟩
        · exact .iff' (.nm ms) (g1.mono (by omega)) (g2.mono (by omega))
        · simp only [Fn.d, hT]
          simp [L0_law_program, -isIo, io_val, io_own, io_non, f4, f5, f6, f7, f8, f9, f10, f11, hat, sl, pmm, -lcL, lk, p6, p10, p11, hn1, hn2, i1, i2, hdp, pm2, e1, e2, pu1, pu2, ca, cb, t, hs', cb0, Ll, ifF, doF, nmF, pe]
    · refine ⟨b1, .own (.lst KN), .val (.int pk), .val b1, .val (.str h.nm), .val (.tup PS), .val (.tup WN), x10, x11, g1.mono (by omega), rfl, rfl, rfl, rfl, rfl, rfl, f10, f11, ?_⟩
      simp only [Fn.d, hT]
      by_cases ca : 0 < (c11.fdiv (i + 1)).fmod 3
      · have cb : ¬ 0 < h.ps.length := fun z => c ⟨ca, z⟩
        have pe : h.ps = [] := by simpa using cb
        have pl0 : h.ps.length = 0 := by simp [pe]
        simp [L0_law_program, -isIo, io_val, io_own, io_non, f4, f5, f6, f7, f8, f9, f10, f11, hat, sl, pmm, -lcL, lk, p6, p10, p11, hn1, hn2, i1, i2, hdp, pm2, e1, e2, pu1, pu2, ca, cb, Ll, ifF, doF, nmF]
      · simp [L0_law_program, -isIo, io_val, io_own, io_non, f4, f5, f6, f7, f8, f9, f10, f11, hat, sl, pmm, -lcL, lk, p6, p10, p11, hn1, hn2, i1, i2, hdp, pm2, e1, e2, pu1, pu2, ca, Ll, ifF, doF, nmF]
  obtain ⟨e', h1, pr, x4, x5, x6, x7, x8, x9, x10, x11, f4, f5, f6, f7, f8, f9, f10, f11, hl, hE, s3, f3, rfl⟩ := forL_nx (TF := Tg.F (.nm 3)) (S := L0_law_program fn fc ff) (fun dn e => ∃ (pr : List Fn) (x4 x5 x6 x7 x8 x9 x10 x11 : Sl), nio x4 ∧ nio x5 ∧ nio x6 ∧ nio x7 ∧ nio x8 ∧ nio x9 ∧ nio x10 ∧ nio x11 ∧ pr.length = dn.length ∧
      (∀ (i : Nat) (f : Fn) (h : Hd), pr[i]? = some f → hs[i]? = some h → f.nm = h.nm ∧ f.ps = h.ps ∧ GF hs h.ps (knownOf h) 7 f.bd) ∧ ∃ s3, nio s3 ∧ e = [.val (.scr ns0), .val (.lst (hs.map Hd.d)), .own (.lst (pr.map Fn.d)), s3, x4, x5, x6, x7, x8, x9, x10, x11, .non]) (rgD 0 hs.length) (fun dn d rest e hall ⟨pr, x4, x5, x6, x7, x8, x9, x10, x11, f4, f5, f6, f7, f8, f9, f10, f11, hl, hE, s3, f3, he⟩ => by
    subst he
    obtain ⟨rfl, hlt⟩ := rgD_at hall
    have hi : hs[dn.length]? = some hs[dn.length] := List.getElem?_eq_getElem hlt
    obtain ⟨bd, y4, y5, y6, y7, y8, y9, y10, y11, G, g4, g5, g6, g7, g8, g9, g10, g11, run⟩ := step _ dn.length hi (pr.map Fn.d) (by simp; omega) x4 x5 x6 x7 x8 x9 x10 x11 f4 f5 f6 f7 f8 f9 f10 f11
    refine ⟨[.val (.scr ns0), .val (.lst (hs.map Hd.d)), .own (.lst (pr.map Fn.d)), .val (.int dn.length), x4, x5, x6, x7, x8, x9, x10, x11, .non], _, ?_, run, pr ++ [⟨hs[dn.length].nm, hs[dn.length].ps, bd⟩], y4, y5, y6, y7, y8, y9, y10, y11, g4, g5, g6, g7, g8, g9, g10, g11, by simp [hl], ?_, .val (.int dn.length), rfl, by simp⟩
    · simp [-isIo, f3]
    · intro i f h hf' hh
      by_cases q : i < pr.length
      · rw [List.getElem?_append_left q] at hf'
        exact hE i f h hf' hh
      · rw [List.getElem?_append_right (by omega)] at hf'
        have : i - pr.length = 0 := by
          rcases Nat.eq_zero_or_pos (i - pr.length) with z | z
          · exact z
          · rw [List.getElem?_eq_none (by simp; omega)] at hf'; cases hf'
        have ei : i = dn.length := by omega
        rw [this] at hf'
        cases hf'
        subst ei
        rw [hi] at hh
        cases hh
        exact ⟨rfl, rfl, G⟩) [.val (.scr ns0), .val (.lst (hs.map Hd.d)), .own (.lst []), .non, .non, .non, .non, .non, .non, .non, .non, .non, .non] ⟨[], .non, .non, .non, .non, .non, .non, .non, .non, rfl, rfl, rfl, rfl, rfl, rfl, rfl, rfl, rfl, by simp, .non, rfl, rfl⟩
  simp only [rgD, List.length_map, List.length_range] at hl
  refine ⟨pr, ?_, hl, hE⟩
  have ma : hs.length < 4611686018427387904 := by omega
  have mb : pr.length ≤ 16777216 := by omega
  simp only [Tg.F] at h1
  simp [b_law_program, ma, -forL, h1, mb]
end
end HFL

set_option Elab.async false
set_option linter.all false
set_option maxRecDepth 100000
set_option maxHeartbeats 4000000
set_option autoImplicit false
namespace HFL
open PySem PySem.Spec PyProof.Rows L2 HF
/-! ### what holds of the heads and the program -/
structure FnG (hs : List Hd) (ns : List Str) (f : Fn) : Prop where
  nm : f.nm ∈ ns
  ps : ∀ s ∈ f.ps, s ∈ ns
  pl : f.ps.length ≤ 6
  nd : f.ps.Nodup
  hd : ∃ h, h ∈ hs ∧ f.nm = h.nm ∧ f.ps = h.ps ∧ GF hs h.ps (knownOf h) 7 f.bd
theorem hds_ok {hs : List Hd} {ns : List Str} (H : Hds hs ns) : ∀ h ∈ hs, HdOk h := fun h m => by
  obtain ⟨i, hi⟩ := List.mem_iff_getElem?.mp m
  obtain ⟨_, k, hk, e, w, _⟩ := H.each i h hi
  exact ⟨by rw [w, e]; simp, by rw [e]; simpa using hk⟩
theorem hds_each {hs : List Hd} {ns : List Str} (H : Hds hs ns) : ∀ h ∈ hs, h.nm ∈ ns ∧ (∀ s ∈ h.ps, s ∈ ns) ∧ h.ps.length ≤ 6 ∧ h.ps.Nodup := fun h m => by
  obtain ⟨i, hi⟩ := List.mem_iff_getElem?.mp m
  obtain ⟨hil, _⟩ := List.getElem?_eq_some_iff.mp hi
  obtain ⟨e1, k, hk, e, w, _⟩ := H.each i h hi
  have nl := H.nms.len
  have := H.len4
  refine ⟨?_, fun s ms => ?_, by rw [e]; simpa using hk, ?_⟩
  · rw [e1, getD_at _ (by omega)]; exact List.getElem_mem _
  · rw [e] at ms
    simp only [List.mem_map, List.mem_range] at ms
    obtain ⟨j, hj, rfl⟩ := ms
    have : (2 + i + j) % 12 < ns.length := by rw [nl]; exact Nat.mod_lt _ (by omega)
    rw [getD_at _ this]
    exact List.getElem_mem _
  · rw [e]
    exact rot_nd H.nms.nd (n := 12) (by omega) (2 + i) k (by omega) "" id fun _ _ _ _ h => h
theorem pr_each {hs : List Hd} {ns : List Str} {pr : List Fn} (H : Hds hs ns) (P : Pr hs pr) : ∀ f ∈ pr, FnG hs ns f := fun f m => by
  obtain ⟨i, hi⟩ := List.mem_iff_getElem?.mp m
  obtain ⟨hil, _⟩ := List.getElem?_eq_some_iff.mp hi
  have hil2 : i < hs.length := by have := P.len; omega
  have hh : hs[i]? = some hs[i] := List.getElem?_eq_getElem hil2
  obtain ⟨e1, e2, G⟩ := P.each i f _ hi hh
  have mh := List.mem_of_getElem? hh
  obtain ⟨a1, a2, a3, a4⟩ := hds_each H _ mh
  exact ⟨e1 ▸ a1, e2 ▸ a2, e2 ▸ a3, e2 ▸ a4, _, mh, e1, e2, G⟩
theorem pr_names {hs : List Hd} {ns : List Str} {pr : List Fn} (H : Hds hs ns) (P : Pr hs pr) : (pr.map Fn.nm).Nodup := by
  refine List.pairwise_map.mpr (List.pairwise_iff_getElem.mpr fun i j hi hj hij e => ?_)
  have nl := H.nms.len
  have l4 := H.len4
  have pl := P.len
  have gi : hs[i]? = some hs[i] := List.getElem?_eq_getElem (by omega)
  have gj : hs[j]? = some hs[j] := List.getElem?_eq_getElem (by omega)
  have ai := (P.each i _ _ (List.getElem?_eq_getElem hi) gi).1
  have aj := (P.each j _ _ (List.getElem?_eq_getElem hj) gj).1
  have bi := (H.each i _ gi).1
  have bj := (H.each j _ gj).1
  rw [ai, aj, bi, bj, getD_at _ (by omega), getD_at _ (by omega)] at e
  exact absurd (nd_inj H.nms.nd (by omega) (by omega) e) (by omega)
theorem pr_fnd {hs : List Hd} {ns : List Str} {pr : List Fn} (H : Hds hs ns) (P : Pr hs pr) : ∀ h ∈ hs, ∃ f, f ∈ pr ∧ f.nm = h.nm ∧ f.ps = h.ps := fun h m => by
  obtain ⟨i, hi⟩ := List.mem_iff_getElem?.mp m
  obtain ⟨hil, _⟩ := List.getElem?_eq_some_iff.mp hi
  have hil2 : i < pr.length := by have := P.len; omega
  have gi : pr[i]? = some pr[i] := List.getElem?_eq_getElem hil2
  obtain ⟨a, b, _⟩ := P.each i _ h gi hi
  exact ⟨pr[i], List.mem_of_getElem? gi, a, b⟩
end HFL

set_option Elab.async false
set_option linter.all false
set_option maxRecDepth 100000
set_option maxHeartbeats 4000000
set_option autoImplicit false
namespace HFL
open PySem PySem.Spec PyProof.Rows L2 HF
/-! ### values that come up in a run -/
structure Vv (d : D) : Prop where
  vn : vnt d = true
  wt : d.wt ≤ 51
mutual
theorem dp_wt : ∀ d : D, vnt d = true → d.dp ≤ d.wt
  | .tup xs, h => by
    have := dp_wtL xs (by simpa using h)
    simp only [D.dpL] at this
    simp [D.dp]; omega
  | .int _, _ => by simp [D.dp]
  | .non, h => by simp [vnt] at h
  | .bl _, h => by simp [vnt] at h
  | .str s, h => by simp [vnt] at h
  | .lst _, h => by simp [vnt] at h
  | .dct _ _, h => by simp [vnt] at h
  | .scr _, h => by simp [vnt] at h
  | .ty _, h => by simp [vnt] at h
  | .ob _, h => by simp [vnt] at h
theorem dp_wtL : ∀ ds : List D, vntL ds = true → D.dpL ds ≤ D.wtL ds
  | [], _ => by simp [D.dpL, PyData.depthAll]
  | d :: ds, h => by
    simp at h
    have a := dp_wt d h.1
    have b := dp_wtL ds h.2
    simp only [D.dpL, D.dp] at a b ⊢
    simp [PyData.depthAll]; omega
end
theorem Vv.dp {d : D} (h : Vv d) : d.dp ≤ 51 := Nat.le_trans (dp_wt d h.vn) h.wt
mutual
theorem good_vnt : ∀ d : D, good d = true → vnt d = true
  | .tup xs, h => by simp at h; simpa using goodL_vnt xs h
  | .int i, h => by
    have h0 : decide ((if i < 0 then -i else i) < 1000000000000000000) = true := by simp only [good, whole, big] at h; exact h
    have h' := of_decide_eq_true h0
    by_cases n : i < 0
    · rw [if_pos n] at h'; simp [vnt]; omega
    · rw [if_neg n] at h'; simp [vnt]; omega
  | .non, h => by simp [good, whole] at h
  | .bl _, h => by simp [good, whole] at h
  | .str s, h => by simp [good, whole] at h
  | .lst _, h => by simp [good, whole] at h
  | .dct _ _, h => by simp [good, whole] at h
  | .scr _, h => by simp [good, whole] at h
  | .ty _, h => by simp [good, whole] at h
  | .ob _, h => by simp [good, whole] at h
theorem goodL_vnt : ∀ ds : List D, goodL ds = true → vntL ds = true
  | [], _ => by simp
  | d :: ds, h => by simp at h; simp [good_vnt d h.1, goodL_vnt ds h.2]
end
theorem Vl.vv {d : D} (h : Vl d) : Vv d := ⟨good_vnt d h.gd, by have := h.wt; omega⟩
theorem vv_int {i : Int} (h1 : -(2 ^ 63) < i) (h2 : i < 2 ^ 63) : Vv (.int i) := ⟨by simp [vnt]; omega, by simp [D.wt]⟩
theorem bz_vv {d x : D} (h : bz d = .ok x) (hd : vnt d = true ∨ ∃ i, d = .int i) : Vv x := by
  unfold bz at h
  split at h
  · rename_i hb
    cases h
    rcases hd with hd | ⟨i, rfl⟩
    · rcases vnt_cases hd with ⟨i, rfl, i1, i2⟩ | ⟨xs, rfl, _⟩
      · exact vv_int i1 i2
      · simp [bnd, isT] at hb
        exact ⟨hd, by simp; omega⟩
    · have hb' : (if i < 0 then -i else i) < 1000000000000000000 := of_decide_eq_true hb
      by_cases n : i < 0
      · rw [if_pos n] at hb'; exact vv_int (by omega) (by omega)
      · rw [if_neg n] at hb'; exact vv_int (by omega) (by omega)
  · cases h
theorem doneM_vv {op : Str} {vs : List D} (hv : ∀ v ∈ vs, Vv v) (ar : op = "list" ∨ (isNum op = false ∧ isAlo op = true ∧ 1 ≤ vs.length) ∨ 2 ≤ vs.length) {x : D} (h : doneM op vs = .ok x) : Vv x := by
  unfold doneM at h
  split at h
  · exact bz_vv h (.inl (by simpa using vntL_iff.mpr fun d m => (hv d m).vn))
  rename_i p1
  have ar := ar.resolve_left p1
  have l1 : 1 ≤ vs.length := by rcases ar with ⟨_, _, z⟩ | z <;> omega
  have v0 := hv _ (mem0 l1)
  split at h
  · unfold numM at h
    split at h
    · unfold numI at h
      repeat' split at h
      all_goals first | exact bz_vv h (.inr ⟨_, rfl⟩) | (cases h; split <;> exact vv_int (by decide) (by decide)) | (cases h; exact vv_int (by decide) (by decide)) | (cases h; done)
    · cases h
  split at h
  · generalize d0 vs = a at *
    rcases vnt_cases v0.vn with ⟨i, rfl, i1, i2⟩ | ⟨xs, rfl, hx⟩
    · unfold oneM at h
      simp only at h
      repeat' split at h
      all_goals first | (cases h; exact vv_int (by omega) (by omega)) | (cases h; done)
    · unfold oneM at h
      simp only at h
      split at h
      · cases h
      split at h
      · cases h; split <;> exact vv_int (by decide) (by decide)
      cases xs with
      | nil => cases h
      | cons y r =>
        have w0 := v0.wt
        simp only at h
        simp at hx w0
        split at h
        · cases h; exact ⟨hx.1, by omega⟩
        · cases h; exact ⟨by simpa using hx.2, by simp; omega⟩
  split at h
  · unfold sameM at h
    cases h
    split <;> exact vv_int (by decide) (by decide)
  · rename_i pN pA pS
    have l2 : 2 ≤ vs.length := by rcases ar with ⟨_, z, _⟩ | z; exact absurd z pA; exact z
    have v1 := hv _ (mem1 l2)
    generalize d1 vs = b at *
    unfold joinM at h
    split at h
    · have a := v0.vn
      have b := v1.vn
      exact bz_vv h (.inl (by simp at b ⊢; exact ⟨a, b⟩))
    · cases h
theorem ok_of {op : Str} {vs : List D} (hv : ∀ v ∈ vs, Vv v) (hl : vs.length ≤ 8) (ar : op = "list" ∨ (isNum op = false ∧ isAlo op = true ∧ 1 ≤ vs.length) ∨ 2 ≤ vs.length) : OkCall op vs where
  vn := vntL_iff.mpr fun d m => (hv d m).vn
  wt := by
    have : ∀ l : List D, (∀ v ∈ l, Vv v) → D.wtL l ≤ 51 * l.length := by
      intro l
      induction l with
      | nil => intro _; simp
      | cons x l ih =>
        intro h
        have := ih fun v m => h v (List.mem_cons_of_mem _ m)
        have := (h x List.mem_cons_self).wt
        simp; omega
    have := this vs hv
    omega
  dp := dpL_mem.mpr fun d m => by have := (hv d m).dp; omega
  ar := ar
theorem ar_of {o : Str} {n : Nat} (ho : o ∈ OPSL) (ht : takesB o n = true) : n ≤ 8 ∧ (o = "list" ∨ (isNum o = false ∧ isAlo o = true ∧ 1 ≤ n) ∨ 2 ≤ n) ∧ (o = "list" ∨ isNum o = true ∨ isAlo o = true ∨ o = "same" ∨ o = "join") := by
  simp only [OPSL, List.mem_cons, List.not_mem_nil, or_false] at ho
  rcases ho with rfl | rfl | rfl | rfl | rfl | rfl | rfl | rfl | rfl | rfl | rfl | rfl <;> simp +decide [takesB, ALOS, isNum, isAlo] at ht ⊢ <;> omega
/-! ### the words of the errors -/
def excs : List Str := ["NoNumber", "NoList", "NoFirst", "NoDown", "ByNought", "TooGreat", "TooLong"]
theorem bz_err {d : D} {c : Str} (h : bz d = .no c) : c ∈ excs := by
  unfold bz at h
  split at h
  · cases h
  · cases h; simp [excs]
theorem doneM_err {op : Str} {vs : List D} {c : Str} (h : doneM op vs = .no c) : c ∈ excs := by
  unfold doneM at h
  split at h
  · exact bz_err h
  split at h
  · unfold numM at h
    split at h
    · unfold numI at h
      repeat' split at h
      all_goals first | exact bz_err h | (cases h; done) | (cases h; simp [excs])
    · cases h; simp [excs]
  split at h
  · unfold oneM at h
    repeat' split at h
    all_goals first | (cases h; done) | (cases h; simp [excs])
  split at h
  · cases h
  · unfold joinM at h
    split at h
    · exact bz_err h
    · cases h; simp [excs]
def qIs (x c : Str) : Bool := decide (c = x)
theorem run_word (a : Addr) (c : Str) (h : c ∈ excs) : runF 2 (b_law_word (qIs "NoNumber") (qIs "NoList") (qIs "NoFirst") (qIs "NoDown") (qIs "ByNought") (qIs "TooGreat") (qIs "TooLong") (qIs "NoText") (qIs "NotKept") (fun _ => true) a c) [.val (.ob a)] = .im (.str c) [.val (.ob a)] := by
  have h' : c = "NoNumber" ∨ c = "NoList" ∨ c = "NoFirst" ∨ c = "NoDown" ∨ c = "ByNought" ∨ c = "TooGreat" ∨ c = "TooLong" := by simpa [excs] using h
  rcases h' with rfl | rfl | rfl | rfl | rfl | rfl | rfl <;> simp +decide [b_law_word, qIs, atI, ixN]
def wdC (c : Str) : Option D := if c ∈ excs then some (.str c) else none
end HFL

set_option Elab.async false
set_option linter.all false
set_option maxRecDepth 100000
set_option maxHeartbeats 4000000
set_option autoImplicit false
namespace HFL
open PySem PySem.Spec PyProof.Rows L2 HF
/-! ### the small defs of the run -/
def gFun : List Ar → FR := runF 3 b_function_of
def fnd (pr : List Fn) (s : Str) : Option Fn := pr.find? fun f => decide (f.nm = s)
theorem fun_run (pr : List Fn) (s : Str) : gFun [.val (.tup (pr.map Fn.d)), .val (.str s)] = .im (match fnd pr s with | some f => f.d | none => .non) [.val (.tup (pr.map Fn.d)), .val (.str s)] := by
  have go : ∀ (l : List Fn) (P : Sl) (x : Sl), nio x → ∃ y, forL (tgN 2) L0_function_of (l.map Fn.d) [P, .val (.str s), x] = match fnd l s with
      | some f => .rt (.im f.d) [P, .val (.str s), .val f.d]
      | none => .nx [P, .val (.str s), y] := by
    intro l
    induction l with
    | nil => intro P x _; exact ⟨x, by simp [fnd]⟩
    | cons f l ih =>
      intro P x hx
      obtain ⟨y, hy⟩ := ih P (.val f.d) rfl
      refine ⟨y, ?_⟩
      have a0 : L2.atI [D.str f.nm, D.tup (strsD f.ps), f.bd] 0 = some (.str f.nm) := rfl
      by_cases c : f.nm = s
      · have : fnd (f :: l) s = some f := by simp [fnd, c]
        rw [this]
        have q : D.eqB (.str f.nm) (.str s) = some true := by rw [c]; simp [D.eqB]
        simp [-isIo, hx, L0_function_of, Fn.d, a0, -D.eqB, q]
      · have : fnd (f :: l) s = fnd l s := by simp [fnd, c]
        rw [this, ← hy]
        have q : D.eqB (.str f.nm) (.str s) = some false := by simp [D.eqB, c]
        simp [-isIo, hx, L0_function_of, Fn.d, a0, -D.eqB, q]
  obtain ⟨y, hy⟩ := go pr (.val (.tup (pr.map Fn.d))) .non rfl
  unfold gFun
  cases h : fnd pr s with
  | none => rw [h] at hy; simp [b_function_of, -forL, hy]
  | some f => rw [h] at hy; simp [b_function_of, -forL, hy]
def isZ : D → Bool
  | .int i => decide (i = 0)
  | _ => false
theorem run_is_true {fn : List Ar → FR} (hn : ∀ d, thg d = true → fn [.val d] = if isT d then .err "NoNumber" else .im .non [.val d]) (d : D) (h : Vv d) : runF 1 (b_is_true fn) [.val d] = if isT d then .err "NoNumber" else .im (.bl (!isZ d)) [.val d] := by
  have q := hn d (vnt_thg d h.vn)
  rcases vnt_cases h.vn with ⟨i, rfl, _, _⟩ | ⟨xs, rfl, _⟩
  · simp [isT] at q ⊢
    simp [b_is_true, q, isZ]
  · simp [isT] at q ⊢
    simp [b_is_true, q]
theorem run_refuse (w : Str) (h : w ∈ WRDS) : runF 1 b_refuse [.val (.str w)] = .err w := by
  simp only [WRDS, List.mem_cons, List.not_mem_nil, or_false] at h
  rcases h with rfl | rfl | rfl | rfl | rfl | rfl <;> simp +decide [b_refuse]
theorem pop_loop (L : List D) (A : Sl) : ∀ (us acc : List D) (lo : Int), acc.length + us.length ≤ 16777216 → lcL (tgN 3) yesF E0_taken_off [3] (rgD lo us.length) [.io (.lst (L ++ us.reverse)), A, .non, .non] acc = .ok (.fr (.lst (acc ++ us))) [.io (.lst L), A, .non, .non] := by
  intro us
  induction us with
  | nil => intro acc lo _; simp [rgD]
  | cons u us ih =>
    intro acc lo hl
    simp only [List.length_cons] at hl
    have e1 := ih (acc ++ [u]) (lo + 1) (by simp; omega)
    have er : rgD lo (u :: us).length = .int lo :: rgD (lo + 1) us.length := by
      simp [rgD, List.range_succ_eq_map, List.map_map, Function.comp_def]
      intro a _; omega
    have al : acc.length < 16777216 := by omega
    have ea : acc ++ u :: us = acc ++ [u] ++ us := by simp
    rw [er, ea, ← e1, List.reverse_cons, ← List.append_assoc]
    generalize L ++ us.reverse = M
    generalize rgD (lo + 1) us.length = R
    simp [E0_taken_off, al]
theorem run_taken_off (L us : List D) (n : Nat) (hn : n = us.length) (hl : us.length ≤ 1000) : runF 4 b_taken_off [.io (.lst (L ++ us)), .val (.int n)] = .fr (.lst us) [.io (.lst L), .val (.int n)] := by
  subst hn
  have lc := pop_loop L (.val (.int us.length)) us.reverse [] 0 (by simp; omega)
  have e2 : us.length < 4611686018427387904 := by omega
  rw [List.nil_append, List.reverse_reverse, List.length_reverse] at lc
  have rr : us.reverse.reverse = us := by simp
  generalize hM : L ++ us = M at lc
  generalize us.reverse = R at lc rr
  simp [b_taken_off, e2, -lcL, lc, rr]
end HFL

set_option Elab.async false
set_option linter.all false
set_option maxRecDepth 100000
set_option maxHeartbeats 4000000
set_option autoImplicit false
namespace HFL
open PySem PySem.Spec PyProof.Rows L2 HF
/-! ### opened -/
def opn (E d : D) : D := .tup [.str "open", d, E]
section
variable {fr : List Ar → FR} {W vs : List D} {E : D}
theorem opn_val (v : D) (hv : vs.length < 16777216) : runF 5 (b_opened fr) [.io (.lst W), .io (.lst vs), .val (valF v), .val E] = .im .non [.io (.lst W), .io (.lst (vs ++ [v])), .val (valF v), .val E] := by
  simp [b_opened, valF, L2.atI, L2.ixN, hv]
theorem opn_nm (s : Str) {v : D} (hd : dgetD E (.str s) = .im v) (hv : vs.length < 16777216) : runF 5 (b_opened fr) [.io (.lst W), .io (.lst vs), .val (nmF s), .val E] = .im .non [.io (.lst W), .io (.lst (vs ++ [v])), .val (nmF s), .val E] := by
  simp +decide [b_opened, nmF, L2.atI, L2.ixN, hv, -dgetD, hd]
theorem opn_rf (s : Str) (hr : fr [.val (.str s)] = .err s) : runF 5 (b_opened fr) [.io (.lst W), .io (.lst vs), .val (rfF s), .val E] = .err s := by
  simp +decide [b_opened, rfF, L2.atI, L2.ixN, hr]
def brn (E d : D) : D := .tup [.str "branch", d, E]
theorem opn_if (a b c : D) (hW : W.length < 1000000) : runF 5 (b_opened fr) [.io (.lst W), .io (.lst vs), .val (ifF a b c), .val E] = .im .non [.io (.lst (W ++ [brn E (ifF a b c)] ++ [opn E a])), .io (.lst vs), .val (ifF a b c), .val E] := by
  have h1 : W.length < 16777216 := by omega
  have h2 : W.length + 1 < 16777216 := by omega
  simp +decide [b_opened, ifF, L2.atI, L2.ixN, h1, h2, brn, opn]
theorem opn_loop (B C x : Sl) (nx : nio x) : ∀ (l : List D) (W : List D), W.length + l.length ≤ 1000000 → ∃ y, forL (tgN 4) (L0_opened fr) l [.io (.lst W), B, C, .val E, x] = .nx [.io (.lst (W ++ l.map (opn E))), B, C, .val E, y] := by
  intro l
  induction l generalizing x with
  | nil => intro W _; exact ⟨x, by simp⟩
  | cons d l ih =>
    intro W hW
    simp only [List.length_cons] at hW
    obtain ⟨y, hy⟩ := ih (.val d) rfl (W ++ [opn E d]) (by simp; omega)
    refine ⟨y, ?_⟩
    have h1 : W.length < 16777216 := by omega
    have e : W ++ (d :: l).map (opn E) = W ++ [opn E d] ++ l.map (opn E) := by simp
    rw [e, ← hy]
    simp [L0_opened, -isIo, nx, h1, opn]
def itm (s : Str) (E d : D) : D := .tup [.str s, d, E]
theorem opn_do (o : Str) (l : List D) (hl : l.length ≤ 1000) (hW : W.length < 100000) : runF 5 (b_opened fr) [.io (.lst W), .io (.lst vs), .val (doF o l), .val E] = .im .non [.io (.lst (W ++ [itm "do" E (doF o l)] ++ l.reverse.map (opn E))), .io (.lst vs), .val (doF o l), .val E] := by
  obtain ⟨y, hy⟩ := opn_loop (fr := fr) (E := E) (.io (.lst vs)) (.val (doF o l)) .non rfl l.reverse (W ++ [itm "do" E (doF o l)]) (by simp; omega)
  have h1 : W.length < 16777216 := by omega
  generalize l.reverse.map (opn E) = R at *
  unfold itm doF at *
  simp +decide [b_opened, L2.atI, L2.ixN, h1, -forL, hy]
theorem opn_cl (o : Str) (l : List D) (hl : l.length ≤ 1000) (hW : W.length < 100000) : runF 5 (b_opened fr) [.io (.lst W), .io (.lst vs), .val (clF o l), .val E] = .im .non [.io (.lst (W ++ [itm "call" E (clF o l)] ++ l.reverse.map (opn E))), .io (.lst vs), .val (clF o l), .val E] := by
  obtain ⟨y, hy⟩ := opn_loop (fr := fr) (E := E) (.io (.lst vs)) (.val (clF o l)) .non rfl l.reverse (W ++ [itm "call" E (clF o l)]) (by simp; omega)
  have h1 : W.length < 16777216 := by omega
  generalize l.reverse.map (opn E) = R at *
  unfold itm clF at *
  simp +decide [b_opened, L2.atI, L2.ixN, h1, -forL, hy]
end
end HFL

set_option Elab.async false
set_option linter.all false
set_option maxRecDepth 100000
set_option maxHeartbeats 4000000
set_option autoImplicit false
namespace HFL
open PySem PySem.Spec PyProof.Rows L2 HF
/-! ### the machine's steps -/
section
variable {fo fi fd ft ff : List Ar → FR} {w0 : List Sl → Nat} {P I : Sl} {most : Int}
def St (P I : Sl) (most : Int) (c : Nat) (vs W : List D) (x6 x7 x8 x9 : Sl) : List Sl := [P, I, .val (.int most), .val (.int c), .own (.lst vs), .own (.lst W), x6, x7, x8, x9]
def MC (fo fi fd ft ff : List Ar → FR) (w0 : List Sl → Nat) : Nat → List Sl → Out := whileL (C0_run fo fi fd ft ff w0) (L0_run fo fi fd ft ff w0)
theorem mc_succ {n : Nat} {e e2 : List Sl} (hc : C0_run fo fi fd ft ff w0 e = .ok (.im (.bl true)) e) (hs : L0_run fo fi fd ft ff w0 e = .nx e2) : MC fo fi fd ft ff w0 (n + 1) e = MC fo fi fd ft ff w0 n e2 := by
  unfold MC
  rw [whileL, hc]
  simp only [hs]
theorem mc_err {n : Nat} {e : List Sl} {c : Str} {o : Option (List Sl)} (hc : C0_run fo fi fd ft ff w0 e = .ok (.im (.bl true)) e) (hs : L0_run fo fi fd ft ff w0 e = .err c o) : MC fo fi fd ft ff w0 (n + 1) e = .err c o := by
  unfold MC
  rw [whileL, hc]
  simp only [hs]
theorem mc_end {n c : Nat} {vs : List D} {x6 x7 x8 x9 : Sl} : MC fo fi fd ft ff w0 (n + 1) (St P I most c vs [] x6 x7 x8 x9) = .nx (St P I most c vs [] x6 x7 x8 x9) := by
  unfold MC
  rw [whileL]
  simp [C0_run, St]
theorem cond_on {c : Nat} {vs W : List D} {x : D} {x6 x7 x8 x9 : Sl} : C0_run fo fi fd ft ff w0 (St P I most c vs (W ++ [x]) x6 x7 x8 x9) = .ok (.im (.bl true)) (St P I most c vs (W ++ [x]) x6 x7 x8 x9) := by
  have h : (W ++ [x]).isEmpty = false := by cases W <;> rfl
  generalize W ++ [x] = M at h
  simp [C0_run, St, h]
variable {c : Nat} {vs W : List D} {d E : D} {x6 x7 x8 x9 : Sl}
theorem step_open {vs' W' : List D} (h6 : nio x6) (h7 : nio x7) (h8 : nio x8) (ho : fo [.io (.lst W), .io (.lst vs), .val d, .val E] = .im .non [.io (.lst W'), .io (.lst vs'), .val d, .val E]) (n : Nat) :
    MC fo fi fd ft ff w0 (n + 1) (St P I most c vs (W ++ [opn E d]) x6 x7 x8 x9) = MC fo fi fd ft ff w0 n (St P I most c vs' W' (.val (.str "open")) (.val d) (.val E) x9) := by
  refine mc_succ cond_on ?_
  simp [L0_run, St, opn, -isIo, h6, h7, h8, io_val, io_own, io_non, ho]
theorem step_open_err {r : Str} (h6 : nio x6) (h7 : nio x7) (h8 : nio x8) (ho : fo [.io (.lst W), .io (.lst vs), .val d, .val E] = .err r) (n : Nat) :
    MC fo fi fd ft ff w0 (n + 1) (St P I most c vs (W ++ [opn E d]) x6 x7 x8 x9) = .err r none := by
  refine mc_err cond_on ?_
  simp [L0_run, St, opn, -isIo, h6, h7, h8, io_val, io_own, io_non, ho]
theorem step_branch {v : D} {b : Bool} {a1 a2 a3 : D} (hW : W.length < 1000000) (h6 : nio x6) (h7 : nio x7) (h8 : nio x8) (hi : fi [.val v] = .im (.bl b) [.val v]) (n : Nat) :
    MC fo fi fd ft ff w0 (n + 1) (St P I most c (vs ++ [v]) (W ++ [brn E (ifF a1 a2 a3)]) x6 x7 x8 x9) = MC fo fi fd ft ff w0 n (St P I most c vs (W ++ [opn E (if b then a2 else a3)]) (.val (.str "branch")) (.val (ifF a1 a2 a3)) (.val E) x9) := by
  have h1 : W.length < 16777216 := by omega
  refine mc_succ cond_on ?_
  cases b <;> simp +decide [L0_run, St, brn, opn, ifF, L2.atI, L2.ixN, -isIo, h6, h7, h8, h1, io_val, io_own, io_non, hi]
theorem step_branch_err {v : D} {r : Str} {a1 a2 a3 : D} (h6 : nio x6) (h7 : nio x7) (h8 : nio x8) (hi : fi [.val v] = .err r) (n : Nat) :
    ∃ o, MC fo fi fd ft ff w0 (n + 1) (St P I most c (vs ++ [v]) (W ++ [brn E (ifF a1 a2 a3)]) x6 x7 x8 x9) = .err r o := by
  refine ⟨some (St P I most c vs W (.val (.str "branch")) (.val (ifF a1 a2 a3)) (.val E) x9), mc_err cond_on ?_⟩
  simp +decide [L0_run, St, brn, opn, ifF, L2.atI, L2.ixN, -isIo, h6, h7, h8, io_val, io_own, io_non, hi]
theorem step_do {o : Str} {l us : List D} {x : D} (hv : vs.length < 1000000) (hl : l.length ≤ 1000) (h6 : nio x6) (h7 : nio x7) (h8 : nio x8) (ht : ft [.io (.lst (vs ++ us)), .val (.int l.length)] = .fr (.lst us) [.io (.lst vs), .val (.int l.length)]) (hd : fd [.val (.str o), .val (.lst us)] = .im x [.val (.str o), .val (.lst us)]) (n : Nat) :
    MC fo fi fd ft ff w0 (n + 1) (St P I most c (vs ++ us) (W ++ [itm "do" E (doF o l)]) x6 x7 x8 x9) = MC fo fi fd ft ff w0 n (St P I most c (vs ++ [x]) W (.val (.str "do")) (.val (doF o l)) (.val E) x9) := by
  have h1 : vs.length < 16777216 := by omega
  refine mc_succ cond_on ?_
  generalize vs ++ us = M at ht
  simp +decide [L0_run, St, itm, doF, L2.atI, L2.ixN, -isIo, h6, h7, h8, h1, io_val, io_own, io_non, ht, hd]
theorem step_do_err {o : Str} {l us : List D} {r : Str} (h6 : nio x6) (h7 : nio x7) (h8 : nio x8) (ht : ft [.io (.lst (vs ++ us)), .val (.int l.length)] = .fr (.lst us) [.io (.lst vs), .val (.int l.length)]) (hd : fd [.val (.str o), .val (.lst us)] = .err r) (n : Nat) :
    ∃ e, MC fo fi fd ft ff w0 (n + 1) (St P I most c (vs ++ us) (W ++ [itm "do" E (doF o l)]) x6 x7 x8 x9) = .err r e := by
  refine ⟨some (St P I most c vs W (.val (.str "do")) (.val (doF o l)) (.val E) x9), mc_err cond_on ?_⟩
  generalize vs ++ us = M at ht
  simp +decide [L0_run, St, itm, doF, L2.atI, L2.ixN, -isIo, h6, h7, h8, io_val, io_own, io_non, ht, hd]
end
end HFL

set_option Elab.async false
set_option linter.all false
set_option maxRecDepth 100000
set_option maxHeartbeats 4000000
set_option autoImplicit false
namespace HFL
open PySem PySem.Spec PyProof.Rows L2 HF
section
variable {fo fi fd ft ff : List Ar → FR} {w0 : List Sl → Nat} {PR : D} {I : Sl} {most : Int}
variable {c : Nat} {vs W : List D} {d E : D} {x6 x7 x8 x9 : Sl}
theorem keys_strs (ps : List Str) : keysD (strsD ps) = some (ps.map Sum.inr) := by
  induction ps with
  | nil => rfl
  | cons p ps ih =>
    have ih' : keysD (List.map D.str ps) = some (ps.map Sum.inr) := ih
    simp [ih']
theorem zip_ok {ps : List Str} {us : List D} (nd : ps.Nodup) (hl : us.length = ps.length) : dzipG [.tup (strsD ps), .lst us] = .fr (.dct (ps.map Sum.inr) us) := by
  have k := keys_strs ps
  have n2 : (ps.map (Sum.inr : Str → Key)).Nodup := List.pairwise_map.mpr (List.Pairwise.imp (fun {a b} hn e => hn (by injection e)) nd)
  have l2 : (ps.map (Sum.inr : Str → Key)).length = us.length := by simp [hl]
  simp only [dzipG, seq2D, k, decide_eq_true l2, decide_eq_true n2, if_true]
theorem zip_okT {ps : List Str} {us : List D} (nd : ps.Nodup) (hl : us.length = ps.length) : dzipG [.tup (strsD ps), .tup us] = .fr (.dct (ps.map Sum.inr) us) := by
  have k := keys_strs ps
  have n2 : (ps.map (Sum.inr : Str → Key)).Nodup := List.pairwise_map.mpr (List.Pairwise.imp (fun {a b} hn e => hn (by injection e)) nd)
  have l2 : (ps.map (Sum.inr : Str → Key)).length = us.length := by simp [hl]
  simp only [dzipG, seq2D, k, decide_eq_true l2, decide_eq_true n2, if_true]
theorem step_call {f : Fn} {l us : List D} {KS : List Key} (hW : W.length < 1000000) (hl : l.length ≤ 1000) (h6 : nio x6) (h7 : nio x7) (h8 : nio x8) (h9 : nio x9) (ht : ft [.io (.lst (vs ++ us)), .val (.int l.length)] = .fr (.lst us) [.io (.lst vs), .val (.int l.length)])
    (hf : ff [.val PR, .val (.str f.nm)] = .im f.d [.val PR, .val (.str f.nm)]) (hz : dzipG [.tup (strsD f.ps), .lst us] = .fr (.dct KS us)) (hm : ((c + 1 : Nat) : Int) ≤ most) (n : Nat) :
    MC fo fi fd ft ff w0 (n + 1) (St (.val PR) I most c (vs ++ us) (W ++ [itm "call" E (clF f.nm l)]) x6 x7 x8 x9) = MC fo fi fd ft ff w0 n (St (.val PR) I most (c + 1) vs (W ++ [opn (.dct KS us) f.bd]) (.val (.str "call")) (.val (clF f.nm l)) (.val E) (.val f.d)) := by
  have h1 : W.length < 16777216 := by omega
  have hm' : ¬ most < (c : Int) + 1 := by omega
  refine mc_succ cond_on ?_
  generalize vs ++ us = M at ht
  unfold Fn.d at *
  generalize strsD f.ps = PS at *
  simp +decide [L0_run, St, itm, opn, clF, L2.atI, L2.ixN, -isIo, h6, h7, h8, h9, h1, hm', io_val, io_own, io_non, ht, hf, -dzipG, hz]
theorem step_call_err {f : Str} {l us : List D} (h6 : nio x6) (h7 : nio x7) (h8 : nio x8) (hm : most < ((c + 1 : Nat) : Int)) (n : Nat) :
    ∃ e, MC fo fi fd ft ff w0 (n + 1) (St (.val PR) I most c us (W ++ [itm "call" E (clF f l)]) x6 x7 x8 x9) = .err "TooLong" e := by
  have hm' : most < (c : Int) + 1 := by omega
  refine ⟨some (St (.val PR) I most (c + 1) us W (.val (.str "call")) (.val (clF f l)) (.val E) x9), mc_err cond_on ?_⟩
  simp +decide [L0_run, St, itm, opn, clF, L2.atI, L2.ixN, -isIo, h6, h7, h8, hm', io_val, io_own, io_non]
end
end HFL

set_option Elab.async false
set_option linter.all false
set_option maxRecDepth 100000
set_option maxHeartbeats 4000000
set_option autoImplicit false
namespace HFL
open PySem PySem.Spec PyProof.Rows L2 HF
/-! ### the law's own reading, a step -/
section
variable {F g : List Ar → FR} {PR E : D} {c : Nat} {most : Int}
def CT (c : Nat) (most : Int) : D := .lst [.int c, .int most]
theorem t_val (v C : D) : runF 9 (b_law_told F g) [.val PR, .val (valF v), .val E, .io C] = .im (due (.ok v)) [.val PR, .val (valF v), .val E, .io C] := by
  simp [b_law_told, valF, L2.atI, L2.ixN, due]
theorem t_nm (s : Str) {v : D} (C : D) (h : dgetD E (.str s) = .im v) : runF 9 (b_law_told F g) [.val PR, .val (nmF s), .val E, .io C] = .im (due (.ok v)) [.val PR, .val (nmF s), .val E, .io C] := by
  simp +decide [b_law_told, nmF, L2.atI, L2.ixN, due, -dgetD, h]
theorem t_rf (s : Str) (C : D) : runF 9 (b_law_told F g) [.val PR, .val (rfF s), .val E, .io C] = .im (due (.no s)) [.val PR, .val (rfF s), .val E, .io C] := by
  simp +decide [b_law_told, rfF, L2.atI, L2.ixN, due]
theorem t_if_no {a1 a2 a3 : D} {w : Str} {C C1 : D} (h : F [.val PR, .val a1, .val E, .io C] = .im (due (.no w)) [.val PR, .val a1, .val E, .io C1]) : runF 9 (b_law_told F g) [.val PR, .val (ifF a1 a2 a3), .val E, .io C] = .im (due (.no w)) [.val PR, .val (ifF a1 a2 a3), .val E, .io C1] := by
  unfold due at *
  simp +decide [b_law_told, ifF, L2.atI, L2.ixN, h]
theorem t_if_tup {a1 a2 a3 : D} {xs : List D} {C C1 : D} (h : F [.val PR, .val a1, .val E, .io C] = .im (due (.ok (.tup xs))) [.val PR, .val a1, .val E, .io C1]) : runF 9 (b_law_told F g) [.val PR, .val (ifF a1 a2 a3), .val E, .io C] = .im (due (.no "NoNumber")) [.val PR, .val (ifF a1 a2 a3), .val E, .io C1] := by
  unfold due at *
  simp +decide [b_law_told, ifF, L2.atI, L2.ixN, h]
theorem t_if_int {a1 a2 a3 : D} {i : Int} {C C1 C2 : D} {X : D} (h : F [.val PR, .val a1, .val E, .io C] = .im (due (.ok (.int i))) [.val PR, .val a1, .val E, .io C1]) (h2 : F [.val PR, .val (if i = 0 then a3 else a2), .val E, .io C1] = .im X [.val PR, .val (if i = 0 then a3 else a2), .val E, .io C2]) :
    runF 9 (b_law_told F g) [.val PR, .val (ifF a1 a2 a3), .val E, .io C] = .im X [.val PR, .val (ifF a1 a2 a3), .val E, .io C2] := by
  unfold due at *
  by_cases z : i = 0
  · simp [z] at h2
    simp +decide [b_law_told, ifF, L2.atI, L2.ixN, h, h2, z]
  · simp [z] at h2
    simp +decide [b_law_told, ifF, L2.atI, L2.ixN, h, h2, z]
end
end HFL

set_option Elab.async false
set_option linter.all false
set_option maxRecDepth 100000
set_option maxHeartbeats 4000000
set_option autoImplicit false
namespace HFL
open PySem PySem.Spec PyProof.Rows L2 HF
inductive Rl where
  | ok (us : List D)
  | no (w : Str)
section
variable {F g : List Ar → FR} {PR E D0 : D}
def TE (PR D0 E C : D) (acc : List D) (x5 x8 : Sl) : List Sl := [.val PR, .val D0, .val E, .io C, .own (.lst acc), x5, .non, .non, x8]
theorem lp_ok {d : D} {l : List D} {C C1 v : D} {acc : List D} {x5 x8 : Sl} (h5 : nio x5) (h8 : nio x8) (ha : acc.length < 1000) (h : F [.val PR, .val d, .val E, .io C] = .im (due (.ok v)) [.val PR, .val d, .val E, .io C1]) :
    forL (tgN 5) (L0_law_told F g) (d :: l) (TE PR D0 E C acc x5 x8) = forL (tgN 5) (L0_law_told F g) l (TE PR D0 E C1 (acc ++ [v]) (.val d) (.val (due (.ok v)))) := by
  have h1 : acc.length < 16777216 := by omega
  unfold due at *
  simp [TE, L0_law_told, L2.atI, L2.ixN, -isIo, h5, h8, io_val, io_own, io_non, h, h1]
theorem lp_no {d : D} {l : List D} {C C1 : D} {w : Str} {acc : List D} {x5 x8 : Sl} (h5 : nio x5) (h8 : nio x8) (h : F [.val PR, .val d, .val E, .io C] = .im (due (.no w)) [.val PR, .val d, .val E, .io C1]) :
    forL (tgN 5) (L0_law_told F g) (d :: l) (TE PR D0 E C acc x5 x8) = .rt (.im (due (.no w))) (TE PR D0 E C1 acc (.val d) (.val (due (.no w)))) := by
  unfold due at *
  simp [TE, L0_law_told, L2.atI, L2.ixN, -isIo, h5, h8, io_val, io_own, io_non, h]
theorem t_do_no {o w : Str} {l : List D} {C C1 : D} {acc : List D} {x5 x8 : Sl} (h : forL (tgN 5) (L0_law_told F g) l (TE PR (doF o l) E C [] .non .non) = .rt (.im (due (.no w))) (TE PR (doF o l) E C1 acc x5 x8)) :
    runF 9 (b_law_told F g) [.val PR, .val (doF o l), .val E, .io C] = .im (due (.no w)) [.val PR, .val (doF o l), .val E, .io C1] := by
  unfold TE doF due at *
  simp +decide [b_law_told, L2.atI, L2.ixN, -forL, h]
theorem t_cl_no {o w : Str} {l : List D} {C C1 : D} {acc : List D} {x5 x8 : Sl} (h : forL (tgN 5) (L0_law_told F g) l (TE PR (clF o l) E C [] .non .non) = .rt (.im (due (.no w))) (TE PR (clF o l) E C1 acc x5 x8)) :
    runF 9 (b_law_told F g) [.val PR, .val (clF o l), .val E, .io C] = .im (due (.no w)) [.val PR, .val (clF o l), .val E, .io C1] := by
  unfold TE clF due at *
  simp +decide [b_law_told, L2.atI, L2.ixN, -forL, h]
theorem t_do {o : Str} {l us : List D} {C C1 X : D} {x5 x8 : Sl} (h : forL (tgN 5) (L0_law_told F g) l (TE PR (doF o l) E C [] .non .non) = .nx (TE PR (doF o l) E C1 us x5 x8)) (hX : X.pure = true) (hg : g [.val (.str o), .val (.lst us)] = .im X [.val (.str o), .val (.lst us)]) :
    runF 9 (b_law_told F g) [.val PR, .val (doF o l), .val E, .io C] = .im X [.val PR, .val (doF o l), .val E, .io C1] := by
  unfold TE doF at *
  simp +decide [b_law_told, L2.atI, L2.ixN, -forL, h, hX, hg]
theorem t_cl_long {o : Str} {l us : List D} {c : Nat} {most : Int} {C : D} {x5 x8 : Sl} (h : forL (tgN 5) (L0_law_told F g) l (TE PR (clF o l) E C [] .non .non) = .nx (TE PR (clF o l) E (CT c most) us x5 x8)) (hm : most < ((c + 1 : Nat) : Int)) :
    runF 9 (b_law_told F g) [.val PR, .val (clF o l), .val E, .io C] = .im (due (.no "TooLong")) [.val PR, .val (clF o l), .val E, .io (CT (c + 1) most)] := by
  have hm' : most < (c : Int) + 1 := by omega
  unfold TE clF CT due at *
  simp +decide [b_law_told, L2.atI, L2.ixN, -forL, h, hm']
end
end HFL

set_option Elab.async false
set_option linter.all false
set_option maxRecDepth 100000
set_option maxHeartbeats 4000000
set_option autoImplicit false
namespace HFL
open PySem PySem.Spec PyProof.Rows L2 HF
section
variable {F g : List Ar → FR} {E : D}
theorem filter_fns (pr : List Fn) (s : Str) : ((pr.map Fn.d).filter fun d => match d with | .tup (.str x :: _) => decide (x = s) | _ => false).map (fun d => d) = (pr.filter fun f => decide (f.nm = s)).map Fn.d := by
  rw [List.filter_map, List.map_map]
  have : ((fun d : D => match d with | .tup (.str x :: _) => decide (x = s) | _ => false) ∘ Fn.d) = fun f => decide (f.nm = s) := by
    funext f; rfl
  rw [this]
  rfl
theorem t_cl {pr : List Fn} {f : Fn} {l us : List D} {c : Nat} {most : Int} {C C2 : D} {X : D} {x5 x8 : Sl} (n5 : nio x5) (n8 : nio x8) (hpr : pr.length ≤ 1000) (hf : fnd pr f.nm = some f) (nd : f.ps.Nodup) (hl : us.length = f.ps.length)
    (h : forL (tgN 5) (L0_law_told F g) l (TE (.tup (pr.map Fn.d)) (clF f.nm l) E C [] .non .non) = .nx (TE (.tup (pr.map Fn.d)) (clF f.nm l) E (CT c most) us x5 x8)) (hm : ((c + 1 : Nat) : Int) ≤ most)
    (hF : F [.val (.tup (pr.map Fn.d)), .val f.bd, .val (.dct (f.ps.map Sum.inr) us), .io (CT (c + 1) most)] = .im X [.val (.tup (pr.map Fn.d)), .val f.bd, .val (.dct (f.ps.map Sum.inr) us), .io C2]) :
    runF 9 (b_law_told F g) [.val (.tup (pr.map Fn.d)), .val (clF f.nm l), .val E, .io C] = .im X [.val (.tup (pr.map Fn.d)), .val (clF f.nm l), .val E, .io C2] := by
  have hm' : ¬ most < (c : Int) + 1 := by omega
  have hz := zip_ok nd hl
  have lc := lcL_filter (i := 8) (T := T0_law_told F g) (E := E0_law_told F g) (fun d => match d with | .tup (.str x :: _) => decide (x = f.nm) | _ => false) (fun d => d) (e := [.val (.tup (pr.map Fn.d)), .val (clF f.nm l), .val E, .io (CT (c + 1) most), .own (.lst us), x5, .non, .non, .non]) rfl (pr.map Fn.d) [] (by simp; omega) (fun d m => by
    obtain ⟨q, mq, rfl⟩ := List.mem_map.mp m
    simp [T0_law_told, Fn.d, clF, L2.atI, L2.ixN]) (fun d m _ => by simp [E0_law_told])
  rw [filter_fns, List.nil_append] at lc
  obtain ⟨r, hr⟩ : ∃ r, (pr.filter fun q => decide (q.nm = f.nm)) = f :: r := by
    have e : (pr.filter fun q => decide (q.nm = f.nm)).head? = some f := by rw [List.head?_filter]; exact hf
    cases q : pr.filter fun q => decide (q.nm = f.nm) with
    | nil => rw [q] at e; cases e
    | cons a r => rw [q] at e; cases e; exact ⟨r, rfl⟩
  rw [hr, List.map_cons] at lc
  have i0 : L2.atI (f.d :: r.map Fn.d) 0 = some f.d := by simp [L2.atI, L2.ixN]
  generalize f.d :: r.map Fn.d = M at lc i0
  generalize pr.map Fn.d = PD at *
  simp only [Tg.F] at lc
  unfold TE CT clF at *
  unfold Fn.d at i0
  generalize strsD f.ps = PS at *
  generalize (f.ps.map Sum.inr : List Key) = KS at *
  have ec : ((c + 1 : Nat) : Int) = (c : Int) + 1 := by omega
  rw [ec] at lc hF
  have a3 : ∀ a b d : D, L2.atI [a, b, d] 0 = some a ∧ L2.atI [a, b, d] 1 = some b ∧ L2.atI [a, b, d] 2 = some d := fun a b d => ⟨rfl, rfl, rfl⟩
  have a2 : ∀ a b : D, L2.atI [a, b] 0 = some a ∧ L2.atI [a, b] 1 = some b := fun a b => ⟨rfl, rfl⟩
  simp +decide [b_law_told, a3, a2, L2.ixN, -forL, h, hm', -lcL, lc, -isIo, n5, n8, io_val, io_own, io_non, i0, -dzipG, hz, hF]
end
end HFL

set_option Elab.async false
set_option linter.all false
set_option maxRecDepth 100000
set_option maxHeartbeats 4000000
set_option autoImplicit false
namespace HFL
open PySem PySem.Spec PyProof.Rows L2 HF
/-! ### the run tells what the law tells -/
mutual
theorem vnt_pure : ∀ d : D, vnt d = true → d.pure = true
  | .tup xs, h => by simp at h; simpa using vntL_pure xs h
  | .int _, h => by simp
  | .non, h => by simp [vnt] at h
  | .bl _, h => by simp [vnt] at h
  | .str s, h => by simp [vnt] at h
  | .lst _, h => by simp [vnt] at h
  | .dct _ _, h => by simp [vnt] at h
  | .scr _, h => by simp [vnt] at h
  | .ty _, h => by simp [vnt] at h
  | .ob _, h => by simp [vnt] at h
theorem vntL_pure : ∀ ds : List D, vntL ds = true → D.pureL ds = true
  | [], _ => by simp
  | d :: ds, h => by simp at h; simp [vnt_pure d h.1, vntL_pure ds h.2]
end
theorem due_pure {r : Rz} (h : ∀ v, r = .ok v → Vv v) : (due r).pure = true := by
  cases r with
  | ok v => have := vnt_pure v (h v rfl).vn; simp [due, this]
  | no w => simp [due]
section
variable (fo fi fd ft ff g : List Ar → FR) (w0 : List Sl → Nat) (PR : D) (I : Sl) (mst : Nat)
def tl (g : List Ar → FR) : Nat → List Ar → FR := iterF (fun Φ => runF 9 (b_law_told Φ g))
def Sim (N : Nat) (d E : D) (c : Nat) : Prop := ∃ (r : Rz) (c' : Nat), c ≤ c' ∧ (∀ v, r = .ok v → Vv v) ∧ (∀ w, r = .no w → w ∈ excs) ∧
  (∀ j, N ≤ j → tl g j [.val PR, .val d, .val E, .io (CT c mst)] = .im (due r) [.val PR, .val d, .val E, .io (CT c' mst)]) ∧
  (∀ (W vs : List D) (x6 x7 x8 x9 : Sl), nio x6 → nio x7 → nio x8 → nio x9 → W.length + 10 * N ≤ 5000 → vs.length + 10 * N ≤ 5000 → ∃ m, m ≤ 11 ^ N ∧ match r with
    | .ok v => ∃ y6 y7 y8 y9, nio y6 ∧ nio y7 ∧ nio y8 ∧ nio y9 ∧ ∀ n, MC fo fi fd ft ff w0 (n + m) (St (.val PR) I mst c vs (W ++ [opn E d]) x6 x7 x8 x9) = MC fo fi fd ft ff w0 n (St (.val PR) I mst c' (vs ++ [v]) W y6 y7 y8 y9)
    | .no w => ∀ n, ∃ o, MC fo fi fd ft ff w0 (n + m) (St (.val PR) I mst c vs (W ++ [opn E d]) x6 x7 x8 x9) = .err w o)
def SimL (N : Nat) (l : List D) (E : D) (c : Nat) : Prop := ∃ (r : Rl) (c' : Nat), c ≤ c' ∧ (∀ us, r = .ok us → us.length = l.length ∧ ∀ v ∈ us, Vv v) ∧ (∀ w, r = .no w → w ∈ excs) ∧
  (∀ j, N ≤ j → ∀ (D0 : D) (acc : List D) (x5 x8 : Sl), nio x5 → nio x8 → acc.length + l.length ≤ 900 → match r with
    | .ok us => ∃ y5 y8, nio y5 ∧ nio y8 ∧ forL (tgN 5) (L0_law_told (tl g j) g) l (TE PR D0 E (CT c mst) acc x5 x8) = .nx (TE PR D0 E (CT c' mst) (acc ++ us) y5 y8)
    | .no w => ∃ acc' y5 y8, forL (tgN 5) (L0_law_told (tl g j) g) l (TE PR D0 E (CT c mst) acc x5 x8) = .rt (.im (due (.no w))) (TE PR D0 E (CT c' mst) acc' y5 y8)) ∧
  (∀ (W vs : List D) (x6 x7 x8 x9 : Sl), nio x6 → nio x7 → nio x8 → nio x9 → W.length + l.length + 10 * N ≤ 5000 → vs.length + l.length + 10 * N ≤ 5000 → ∃ m, m ≤ l.length * 11 ^ N ∧ match r with
    | .ok us => ∃ y6 y7 y8 y9, nio y6 ∧ nio y7 ∧ nio y8 ∧ nio y9 ∧ ∀ n, MC fo fi fd ft ff w0 (n + m) (St (.val PR) I mst c vs (W ++ l.reverse.map (opn E)) x6 x7 x8 x9) = MC fo fi fd ft ff w0 n (St (.val PR) I mst c' (vs ++ us) W y6 y7 y8 y9)
    | .no w => ∀ n, ∃ o, MC fo fi fd ft ff w0 (n + m) (St (.val PR) I mst c vs (W ++ l.reverse.map (opn E)) x6 x7 x8 x9) = .err w o)
end
section
variable {fo fi fd ft ff g : List Ar → FR} {w0 : List Sl → Nat} {PR : D} {I : Sl} {mst : Nat}
theorem Sim.mono {N M : Nat} {d E : D} {c : Nat} (h : Sim fo fi fd ft ff g w0 PR I mst N d E c) (hm : N ≤ M) : Sim fo fi fd ft ff g w0 PR I mst M d E c := by
  obtain ⟨r, c', h1, h2, h3, h4, h5⟩ := h
  refine ⟨r, c', h1, h2, h3, fun j hj => h4 j (by omega), fun W vs x6 x7 x8 x9 n6 n7 n8 n9 hW hv => ?_⟩
  obtain ⟨m, hm1, hm2⟩ := h5 W vs x6 x7 x8 x9 n6 n7 n8 n9 (by omega) (by omega)
  exact ⟨m, Nat.le_trans hm1 (Nat.pow_le_pow_right (by omega) hm), hm2⟩
theorem simL_of {N : Nat} {E : D} : ∀ (l : List D) (c : Nat), (∀ d ∈ l, ∀ c1, c ≤ c1 → Sim fo fi fd ft ff g w0 PR I mst N d E c1) → SimL fo fi fd ft ff g w0 PR I mst N l E c
  | [], c, _ => by
    refine ⟨.ok [], c, Nat.le_refl _, fun us h => by cases h; exact ⟨rfl, fun v m => (by cases m)⟩, fun w h => (by cases h), fun j _ D0 acc x5 x8 h5 h8 _ => ⟨x5, x8, h5, h8, by simp⟩, fun W vs x6 x7 x8 x9 n6 n7 n8 n9 _ _ => ⟨0, Nat.zero_le _, x6, x7, x8, x9, n6, n7, n8, n9, fun n => by simp⟩⟩
  | d :: l, c, H => by
    obtain ⟨r, c1, hc, hv, hw, ht, hm⟩ := H d List.mem_cons_self c (Nat.le_refl _)
    have er : (d :: l).reverse.map (opn E) = l.reverse.map (opn E) ++ [opn E d] := by simp
    cases r with
    | no w =>
      refine ⟨.no w, c1, hc, fun us h => (by cases h), fun w' h => by cases h; exact hw w rfl, fun j hj D0 acc x5 x8 h5 h8 ha => ⟨acc, _, _, lp_no h5 h8 (ht j hj)⟩, fun W vs x6 x7 x8 x9 n6 n7 n8 n9 hW hvs => ?_⟩
      simp only [List.length_cons] at hW hvs
      obtain ⟨m, m1, m2⟩ := hm (W ++ l.reverse.map (opn E)) vs x6 x7 x8 x9 n6 n7 n8 n9 (by simp; omega) (by omega)
      refine ⟨m, Nat.le_trans m1 ?_, fun n => ?_⟩
      · rw [List.length_cons, Nat.add_mul, Nat.one_mul]; omega
      · rw [er, ← List.append_assoc]; exact m2 n
    | ok v =>
      obtain ⟨r2, c2, hc2, hv2, hw2, ht2, hm2⟩ := simL_of l c1 fun d' m' c3 h3 => H d' (List.mem_cons_of_mem _ m') c3 (by omega)
      have vv := hv v rfl
      cases r2 with
      | no w =>
        refine ⟨.no w, c2, by omega, fun us h => (by cases h), fun w' h => by cases h; exact hw2 w rfl, fun j hj D0 acc x5 x8 h5 h8 ha => ?_, fun W vs x6 x7 x8 x9 n6 n7 n8 n9 hW hvs => ?_⟩
        · simp only [List.length_cons] at ha
          obtain ⟨acc', y5, y8, e⟩ := ht2 j hj D0 (acc ++ [v]) (.val d) (.val (due (.ok v))) rfl rfl (by simp; omega)
          exact ⟨acc', y5, y8, (lp_ok h5 h8 (by omega) (ht j hj)).trans e⟩
        · simp only [List.length_cons] at hW hvs
          obtain ⟨m, m1, y6, y7, y8, y9, k6, k7, k8, k9, m2⟩ := hm (W ++ l.reverse.map (opn E)) vs x6 x7 x8 x9 n6 n7 n8 n9 (by simp; omega) (by omega)
          obtain ⟨q, q1, q2⟩ := hm2 W (vs ++ [v]) y6 y7 y8 y9 k6 k7 k8 k9 (by omega) (by simp; omega)
          refine ⟨q + m, ?_, fun n => ?_⟩
          · rw [List.length_cons, Nat.add_mul, Nat.one_mul]; omega
          · obtain ⟨o, e⟩ := q2 n
            refine ⟨o, ?_⟩
            rw [er, ← List.append_assoc, ← Nat.add_assoc, m2 (n + q), e]
      | ok us =>
        obtain ⟨hl, hu⟩ := hv2 us rfl
        refine ⟨.ok (v :: us), c2, by omega, fun us' h => by cases h; exact ⟨by simp [hl], fun x m => by rcases List.mem_cons.mp m with rfl | m; exact vv; exact hu x m⟩, fun w' h => (by cases h), fun j hj D0 acc x5 x8 h5 h8 ha => ?_, fun W vs x6 x7 x8 x9 n6 n7 n8 n9 hW hvs => ?_⟩
        · simp only [List.length_cons] at ha
          obtain ⟨y5, y8, k5, k8, e⟩ := ht2 j hj D0 (acc ++ [v]) (.val d) (.val (due (.ok v))) rfl rfl (by simp; omega)
          refine ⟨y5, y8, k5, k8, (lp_ok h5 h8 (by omega) (ht j hj)).trans ?_⟩
          rw [e]; simp
        · simp only [List.length_cons] at hW hvs
          obtain ⟨m, m1, y6, y7, y8, y9, k6, k7, k8, k9, m2⟩ := hm (W ++ l.reverse.map (opn E)) vs x6 x7 x8 x9 n6 n7 n8 n9 (by simp; omega) (by omega)
          obtain ⟨q, q1, z6, z7, z8, z9, l6, l7, l8, l9, q2⟩ := hm2 W (vs ++ [v]) y6 y7 y8 y9 k6 k7 k8 k9 (by omega) (by simp; omega)
          refine ⟨q + m, ?_, z6, z7, z8, z9, l6, l7, l8, l9, fun n => ?_⟩
          · rw [List.length_cons, Nat.add_mul, Nat.one_mul]; omega
          · rw [er, ← List.append_assoc, ← Nat.add_assoc, m2 (n + q), q2 n]; simp
end
end HFL

set_option Elab.async false
set_option linter.all false
set_option maxRecDepth 100000
set_option maxHeartbeats 4000000
set_option autoImplicit false
namespace HFL
open PySem PySem.Spec PyProof.Rows L2 HF
/-! ### every form -/
def EnvOk (names : List Str) (E : D) : Prop := ∀ s ∈ names, ∃ v, dgetD E (.str s) = .im v ∧ Vv v
structure RP (hs : List Hd) (pr : List Fn) : Prop where
  fn : ∀ h ∈ hs, ∃ f, fnd pr h.nm = some f ∧ f.nm = h.nm ∧ f.ps.length = h.ps.length ∧ f.ps.Nodup ∧ ∃ known, GF hs f.ps known 7 f.bd
  pl : ∀ h ∈ hs, h.ps.length ≤ 6
  len : pr.length ≤ 1000
theorem pow_pos11 (n : Nat) : 1 ≤ 11 ^ n := Nat.one_le_pow n 11 (by omega)
theorem inr_inj : ∀ {ps : List Str} {us : List D} {s : Str}, s ∈ ps → us.length = ps.length → (∀ v ∈ us, Vv v) → ∃ v, dlook (.inr s) (ps.map Sum.inr) us = some v ∧ Vv v
  | [], us, s, h, _, _ => by cases h
  | p :: ps, [], s, h, hl, _ => by simp at hl
  | p :: ps, u :: us, s, h, hl, hv => by
    by_cases z : p = s
    · exact ⟨u, by simp [dlook, z], hv u List.mem_cons_self⟩
    · have m : s ∈ ps := by
        rcases List.mem_cons.mp h with e | m
        · exact absurd e.symm z
        · exact m
      obtain ⟨v, e, hv'⟩ := inr_inj m (by simpa using hl) fun v m => hv v (List.mem_cons_of_mem _ m)
      refine ⟨v, ?_, hv'⟩
      have nz : ¬ (Sum.inr s : Key) = .inr p := fun e => z (by injection e with e; exact e.symm)
      have nz' : ¬ (Sum.inr p : Key) = .inr s := fun e => z (by injection e)
      simp [dlook, z, e]
      try (intro q; exact absurd q.symm z)
theorem env_zip {ps : List Str} {us : List D} (hl : us.length = ps.length) (hv : ∀ v ∈ us, Vv v) : EnvOk ps (.dct (ps.map Sum.inr) us) := fun s m => by
  obtain ⟨v, e, h⟩ := inr_inj m hl hv
  exact ⟨v, by simp [dgetD, e, imO], h⟩
end HFL

set_option Elab.async false
set_option linter.all false
set_option maxRecDepth 100000
set_option maxHeartbeats 4000000
set_option autoImplicit false
namespace HFL
open PySem PySem.Spec PyProof.Rows L2 HF
section
variable {fi fd ft g fr : List Ar → FR} {w0 : List Sl → Nat} {I : Sl} {mst : Nat} {hs : List Hd} {pr : List Fn} {ff : List Ar → FR}
theorem tl_succ (g : List Ar → FR) (j : Nat) : tl g (j + 1) = runF 9 (b_law_told (tl g j) g) := rfl
theorem sim_all (R : RP hs pr) (hr : ∀ w ∈ WRDS, fr [.val (.str w)] = .err w)
    (hi : ∀ d, Vv d → fi [.val d] = if isT d then .err "NoNumber" else .im (.bl (!isZ d)) [.val d])
    (hd : ∀ op vs, OkCall op vs → fd [.val (.str op), .val (.lst vs)] = (doneM op vs).fr [.val (.str op), .val (.lst vs)])
    (hg : ∀ op vs, OkCall op vs → (op = "list" ∨ isNum op = true ∨ isAlo op = true ∨ op = "same" ∨ op = "join") → g [.val (.str op), .val (.lst vs)] = .im (due (doneM op vs)) [.val (.str op), .val (.lst vs)])
    (ht : ∀ (L us : List D) (n : Nat), n = us.length → us.length ≤ 1000 → ft [.io (.lst (L ++ us)), .val (.int n)] = .fr (.lst us) [.io (.lst L), .val (.int n)])
    (hf : ∀ s, ff [.val (.tup (pr.map Fn.d)), .val (.str s)] = .im (match fnd pr s with | some f => f.d | none => .non) [.val (.tup (pr.map Fn.d)), .val (.str s)]) :
    ∀ (a n : Nat) (d E : D) (c : Nat) (names known : List Str), mst - c ≤ a → GF hs names known n d → EnvOk names E → n ≤ 25 → a ≤ 20 → Sim (runF 5 (b_opened fr)) fi fd ft ff g w0 (.tup (pr.map Fn.d)) I mst (8 * a + n + 1) d E c := by
  intro a
  induction a using Nat.strongRecOn with
  | ind a iha =>
  intro n
  induction n with
  | zero => intro d E c names known _ G; exact G.elim
  | succ n ihn =>
    intro d E c names known hc G hE hn ha
    have pw := pow_pos11 (8 * a + n + 1)
    have pe : 11 ^ (8 * a + (n + 1) + 1) = 11 * 11 ^ (8 * a + n + 1) := by rw [show 8 * a + (n + 1) + 1 = (8 * a + n + 1) + 1 by omega, Nat.pow_succ, Nat.mul_comm]
    have kid : ∀ x, GF hs names known n x → ∀ c1, c ≤ c1 → Sim (runF 5 (b_opened fr)) fi fd ft ff g w0 (.tup (pr.map Fn.d)) I mst (8 * a + n + 1) x E c1 := fun x gx c1 h1 => ihn x E c1 names known (by omega) gx hE (by omega) ha
    have tls : ∀ j, 8 * a + (n + 1) + 1 ≤ j → ∃ j', j = j' + 1 ∧ 8 * a + n + 1 ≤ j' := fun j hj => ⟨j - 1, by omega, by omega⟩
    rcases G with ⟨v, V, rfl⟩ | ⟨s, ms, rfl⟩ | ⟨s, ms, rfl⟩ | ⟨a1, a2, a3, rfl, g1, g2, g3⟩ | ⟨o, l, ho, htk, rfl, hl⟩ | ⟨h, mh, l, rfl, hn', hl, _⟩
    · -- a value
      refine ⟨.ok v, c, Nat.le_refl _, fun v' e => by cases e; exact V.vv, fun w e => (by cases e), fun j hj => ?_, fun W vs x6 x7 x8 x9 n6 n7 n8 n9 hW hv => ⟨1, by omega, _, _, _, x9, rfl, rfl, rfl, n9, fun k => step_open n6 n7 n8 (opn_val v (by omega)) k⟩⟩
      obtain ⟨j', rfl, hj'⟩ := tls j hj
      rw [tl_succ]
      exact t_val v _
    · -- a name
      obtain ⟨v, ev, vv⟩ := hE s ms
      refine ⟨.ok v, c, Nat.le_refl _, fun v' e => by cases e; exact vv, fun w e => (by cases e), fun j hj => ?_, fun W vs x6 x7 x8 x9 n6 n7 n8 n9 hW hv => ⟨1, by omega, _, _, _, x9, rfl, rfl, rfl, n9, fun k => step_open n6 n7 n8 (opn_nm s ev (by omega)) k⟩⟩
      obtain ⟨j', rfl, hj'⟩ := tls j hj
      rw [tl_succ]
      exact t_nm s _ ev
    · -- refuse
      refine ⟨.no s, c, Nat.le_refl _, fun v' e => (by cases e), fun w e => ?_, fun j hj => ?_, fun W vs x6 x7 x8 x9 n6 n7 n8 n9 hW hv => ⟨1, by omega, fun k => ⟨none, step_open_err n6 n7 n8 (opn_rf s (hr s ms)) k⟩⟩⟩
      · cases e
        simp only [WRDS, List.mem_cons, List.not_mem_nil, or_false] at ms
        simp only [excs, List.mem_cons, List.not_mem_nil, or_false]
        rcases ms with h | h | h | h | h | h <;> simp [h]
      · obtain ⟨j', rfl, hj'⟩ := tls j hj
        rw [tl_succ]
        exact t_rf s _
    · -- if
      obtain ⟨r, c1, hc1, hv1, hw1, ht1, hm1⟩ := kid a1 g1 c (Nat.le_refl _)
      cases r with
      | no w =>
        refine ⟨.no w, c1, hc1, fun v' e => (by cases e), fun w' e => by cases e; exact hw1 w rfl, fun j hj => ?_, fun W vs x6 x7 x8 x9 n6 n7 n8 n9 hW hv => ?_⟩
        · obtain ⟨j', rfl, hj'⟩ := tls j hj
          rw [tl_succ]
          exact t_if_no (ht1 j' hj')
        · obtain ⟨m, m1, m2⟩ := hm1 (W ++ [brn E (ifF a1 a2 a3)]) vs (.val (.str "open")) (.val (ifF a1 a2 a3)) (.val E) x9 rfl rfl rfl n9 (by simp; omega) (by omega)
          refine ⟨m + 1, by rw [pe]; omega, fun k => ?_⟩
          obtain ⟨o, e⟩ := m2 k
          exact ⟨o, by rw [← Nat.add_assoc, step_open n6 n7 n8 (opn_if a1 a2 a3 (by omega)), e]⟩
      | ok v =>
        have vv := hv1 v rfl
        rcases vnt_cases vv.vn with ⟨i, rfl, _, _⟩ | ⟨xs, rfl, _⟩
        · have gx : GF hs names known n (if i = 0 then a3 else a2) := by split <;> assumption
          obtain ⟨r2, c2, hc2, hv2, hw2, ht2, hm2⟩ := kid _ gx c1 hc1
          have eb : (if (!isZ (.int i)) = true then a2 else a3) = (if i = 0 then a3 else a2) := by
            by_cases z : i = 0 <;> simp [isZ, z]
          have hib : fi [.val (.int i)] = .im (.bl (!isZ (.int i))) [.val (.int i)] := by
            have := hi (.int i) vv
            simpa [isT] using this
          refine ⟨r2, c2, by omega, hv2, hw2, fun j hj => ?_, fun W vs x6 x7 x8 x9 n6 n7 n8 n9 hW hv => ?_⟩
          · obtain ⟨j', rfl, hj'⟩ := tls j hj
            rw [tl_succ]
            exact t_if_int (ht1 j' hj') (ht2 j' hj')
          · obtain ⟨m, m1, y6, y7, y8, y9, k6, k7, k8, k9, m2⟩ := hm1 (W ++ [brn E (ifF a1 a2 a3)]) vs (.val (.str "open")) (.val (ifF a1 a2 a3)) (.val E) x9 rfl rfl rfl n9 (by simp; omega) (by omega)
            obtain ⟨q, q1, q2⟩ := hm2 W vs (.val (.str "branch")) (.val (ifF a1 a2 a3)) (.val E) y9 rfl rfl rfl k9 (by omega) (by omega)
            have pre : ∀ k, MC (runF 5 (b_opened fr)) fi fd ft ff w0 (k + (q + 1 + m + 1)) (St (.val (.tup (pr.map Fn.d))) I mst c vs (W ++ [opn E (ifF a1 a2 a3)]) x6 x7 x8 x9) = MC (runF 5 (b_opened fr)) fi fd ft ff w0 (k + q) (St (.val (.tup (pr.map Fn.d))) I mst c1 vs (W ++ [opn E (if i = 0 then a3 else a2)]) (.val (.str "branch")) (.val (ifF a1 a2 a3)) (.val E) y9) := fun k => by
              rw [show k + (q + 1 + m + 1) = (k + q + 1 + m) + 1 by omega, step_open n6 n7 n8 (opn_if a1 a2 a3 (by omega)), m2 (k + q + 1), step_branch (by omega) k6 k7 k8 hib, eb]
            refine ⟨q + 1 + m + 1, by rw [pe]; omega, ?_⟩
            cases r2 with
            | no w =>
              intro k
              obtain ⟨o, e⟩ := q2 k
              exact ⟨o, by rw [pre k, e]⟩
            | ok v2 =>
              obtain ⟨z6, z7, z8, z9, l6, l7, l8, l9, e⟩ := q2
              exact ⟨z6, z7, z8, z9, l6, l7, l8, l9, fun k => by rw [pre k, e k]⟩
        · have hib : fi [.val (.tup xs)] = .err "NoNumber" := by
            have := hi (.tup xs) vv
            simpa [isT] using this
          refine ⟨.no "NoNumber", c1, hc1, fun v' e => (by cases e), fun w' e => by cases e; simp [excs], fun j hj => ?_, fun W vs x6 x7 x8 x9 n6 n7 n8 n9 hW hv => ?_⟩
          · obtain ⟨j', rfl, hj'⟩ := tls j hj
            rw [tl_succ]
            exact t_if_tup (ht1 j' hj')
          · obtain ⟨m, m1, y6, y7, y8, y9, k6, k7, k8, k9, m2⟩ := hm1 (W ++ [brn E (ifF a1 a2 a3)]) vs (.val (.str "open")) (.val (ifF a1 a2 a3)) (.val E) x9 rfl rfl rfl n9 (by simp; omega) (by omega)
            refine ⟨1 + m + 1, by rw [pe]; omega, fun k => ?_⟩
            obtain ⟨o, e⟩ := step_branch_err (fo := runF 5 (b_opened fr)) (fd := fd) (ft := ft) (ff := ff) (w0 := w0) (P := .val (.tup (pr.map Fn.d))) (I := I) (most := mst) (c := c1) (vs := vs) (W := W) (E := E) (x9 := y9) (a1 := a1) (a2 := a2) (a3 := a3) k6 k7 k8 hib k
            exact ⟨o, by rw [show k + (1 + m + 1) = (k + 1 + m) + 1 by omega, step_open n6 n7 n8 (opn_if a1 a2 a3 (by omega)), m2 (k + 1), e]⟩
    · -- do
      obtain ⟨l8, ar, kd⟩ := ar_of ho htk
      obtain ⟨r, c1, hc1, hv1, hw1, ht1, hm1⟩ := simL_of (N := 8 * a + n + 1) l c fun x mx => kid x (hl x mx)
      have lm : l.length * 11 ^ (8 * a + n + 1) ≤ 8 * 11 ^ (8 * a + n + 1) := Nat.mul_le_mul_right _ l8
      cases r with
      | no w =>
        refine ⟨.no w, c1, hc1, fun v' e => (by cases e), fun w' e => by cases e; exact hw1 w rfl, fun j hj => ?_, fun W vs x6 x7 x8 x9 n6 n7 n8 n9 hW hv => ?_⟩
        · obtain ⟨j', rfl, hj'⟩ := tls j hj
          rw [tl_succ]
          obtain ⟨acc', y5, y8, e⟩ := ht1 j' hj' (doF o l) [] .non .non rfl rfl (by simp; omega)
          exact t_do_no e
        · obtain ⟨m, m1, m2⟩ := hm1 (W ++ [itm "do" E (doF o l)]) vs (.val (.str "open")) (.val (doF o l)) (.val E) x9 rfl rfl rfl n9 (by simp; omega) (by omega)
          refine ⟨m + 1, by rw [pe]; omega, fun k => ?_⟩
          obtain ⟨q, e⟩ := m2 k
          exact ⟨q, by rw [← Nat.add_assoc, step_open n6 n7 n8 (opn_do o l (by omega) (by omega)), e]⟩
      | ok us =>
        obtain ⟨ul, uv⟩ := hv1 us rfl
        have O : OkCall o us := ok_of uv (by omega) (by rw [ul]; exact ar)
        have dv := fun x => doneM_vv (op := o) (vs := us) uv (by rw [ul]; exact ar) (x := x)
        have tk := fun L : List D => ht L us l.length (by omega) (by omega)
        have gd := hg o us O kd
        have fdn := hd o us O
        refine ⟨doneM o us, c1, hc1, fun v e => dv v e, fun w e => doneM_err e, fun j hj => ?_, fun W vs x6 x7 x8 x9 n6 n7 n8 n9 hW hv => ?_⟩
        · obtain ⟨j', rfl, hj'⟩ := tls j hj
          rw [tl_succ]
          obtain ⟨y5, y8, k5, k8, e⟩ := ht1 j' hj' (doF o l) [] .non .non rfl rfl (by simp; omega)
          exact t_do (by rw [List.nil_append] at e; exact e) (due_pure dv) gd
        · obtain ⟨m, m1, y6, y7, y8, y9, k6, k7, k8, k9, m2⟩ := hm1 (W ++ [itm "do" E (doF o l)]) vs (.val (.str "open")) (.val (doF o l)) (.val E) x9 rfl rfl rfl n9 (by simp; omega) (by omega)
          have pre : ∀ k, MC (runF 5 (b_opened fr)) fi fd ft ff w0 (k + (1 + m + 1)) (St (.val (.tup (pr.map Fn.d))) I mst c vs (W ++ [opn E (doF o l)]) x6 x7 x8 x9) = MC (runF 5 (b_opened fr)) fi fd ft ff w0 (k + 1) (St (.val (.tup (pr.map Fn.d))) I mst c1 (vs ++ us) (W ++ [itm "do" E (doF o l)]) y6 y7 y8 y9) := fun k => by
            rw [show k + (1 + m + 1) = (k + 1 + m) + 1 by omega, step_open n6 n7 n8 (opn_do o l (by omega) (by omega)), m2 (k + 1)]
          refine ⟨1 + m + 1, by rw [pe]; omega, ?_⟩
          cases hR : doneM o us with
          | no w =>
            intro k
            rw [hR] at fdn
            obtain ⟨q, e⟩ := step_do_err (fo := runF 5 (b_opened fr)) (fi := fi) (ff := ff) (w0 := w0) (P := .val (.tup (pr.map Fn.d))) (I := I) (most := mst) (c := c1) (vs := vs) (W := W) (E := E) (x9 := y9) k6 k7 k8 (tk vs) fdn k
            exact ⟨q, by rw [pre k, e]⟩
          | ok x =>
            rw [hR] at fdn
            exact ⟨_, _, _, y9, rfl, rfl, rfl, k9, fun k => by rw [pre k, step_do (by omega) (by omega) k6 k7 k8 (tk vs) fdn]⟩
    · -- call
      have p6 := R.pl h mh
      obtain ⟨f, ef, fn, fl, nd, known', Gb⟩ := R.fn h mh
      obtain ⟨r, c1, hc1, hv1, hw1, ht1, hm1⟩ := simL_of (N := 8 * a + n + 1) l c fun x mx => kid x (hl x mx)
      have lm : l.length * 11 ^ (8 * a + n + 1) ≤ 6 * 11 ^ (8 * a + n + 1) := Nat.mul_le_mul_right _ (by omega)
      rw [← fn] at ef ⊢
      cases r with
      | no w =>
        refine ⟨.no w, c1, hc1, fun v' e => (by cases e), fun w' e => by cases e; exact hw1 w rfl, fun j hj => ?_, fun W vs x6 x7 x8 x9 n6 n7 n8 n9 hW hv => ?_⟩
        · obtain ⟨j', rfl, hj'⟩ := tls j hj
          rw [tl_succ]
          obtain ⟨acc', y5, y8, e⟩ := ht1 j' hj' (clF f.nm l) [] .non .non rfl rfl (by simp; omega)
          exact t_cl_no e
        · obtain ⟨m, m1, m2⟩ := hm1 (W ++ [itm "call" E (clF f.nm l)]) vs (.val (.str "open")) (.val (clF f.nm l)) (.val E) x9 rfl rfl rfl n9 (by simp; omega) (by omega)
          refine ⟨m + 1, by rw [pe]; omega, fun k => ?_⟩
          obtain ⟨q, e⟩ := m2 k
          exact ⟨q, by rw [← Nat.add_assoc, step_open n6 n7 n8 (opn_cl f.nm l (by omega) (by omega)), e]⟩
      | ok us =>
        obtain ⟨ul, uv⟩ := hv1 us rfl
        have tk := fun L : List D => ht L us l.length (by omega) (by omega)
        have pre : ∀ (W vs : List D) (x6 x7 x8 x9 : Sl), nio x6 → nio x7 → nio x8 → nio x9 → W.length + 10 * (8 * a + (n + 1) + 1) ≤ 5000 → vs.length + 10 * (8 * a + (n + 1) + 1) ≤ 5000 → ∃ m, m ≤ l.length * 11 ^ (8 * a + n + 1) ∧ ∃ y6 y7 y8 y9, nio y6 ∧ nio y7 ∧ nio y8 ∧ nio y9 ∧ ∀ k, MC (runF 5 (b_opened fr)) fi fd ft ff w0 (k + 1 + m + 1) (St (.val (.tup (pr.map Fn.d))) I mst c vs (W ++ [opn E (clF f.nm l)]) x6 x7 x8 x9) = MC (runF 5 (b_opened fr)) fi fd ft ff w0 (k + 1) (St (.val (.tup (pr.map Fn.d))) I mst c1 (vs ++ us) (W ++ [itm "call" E (clF f.nm l)]) y6 y7 y8 y9) := fun W vs x6 x7 x8 x9 n6 n7 n8 n9 hW hv => by
          obtain ⟨m, m1, y6, y7, y8, y9, k6, k7, k8, k9, m2⟩ := hm1 (W ++ [itm "call" E (clF f.nm l)]) vs (.val (.str "open")) (.val (clF f.nm l)) (.val E) x9 rfl rfl rfl n9 (by simp; omega) (by omega)
          exact ⟨m, m1, y6, y7, y8, y9, k6, k7, k8, k9, fun k => by rw [step_open n6 n7 n8 (opn_cl f.nm l (by omega) (by omega)), m2 (k + 1)]⟩
        by_cases hm : mst < c1 + 1
        · refine ⟨.no "TooLong", c1 + 1, by omega, fun v' e => (by cases e), fun w' e => by cases e; simp [excs], fun j hj => ?_, fun W vs x6 x7 x8 x9 n6 n7 n8 n9 hW hv => ?_⟩
          · obtain ⟨j', rfl, hj'⟩ := tls j hj
            rw [tl_succ]
            obtain ⟨y5, y8, k5, k8, e⟩ := ht1 j' hj' (clF f.nm l) [] .non .non rfl rfl (by simp; omega)
            exact t_cl_long e (by omega)
          · obtain ⟨m, m1, y6, y7, y8, y9, k6, k7, k8, k9, m2⟩ := pre W vs x6 x7 x8 x9 n6 n7 n8 n9 hW hv
            refine ⟨1 + m + 1, by rw [pe]; omega, fun k => ?_⟩
            obtain ⟨q, e⟩ := step_call_err (fo := runF 5 (b_opened fr)) (fi := fi) (fd := fd) (ft := ft) (ff := ff) (w0 := w0) (PR := .tup (pr.map Fn.d)) (I := I) (most := mst) (c := c1) (us := vs ++ us) (W := W) (E := E) (x9 := y9) (f := f.nm) (l := l) k6 k7 k8 (by omega) k
            exact ⟨q, by rw [show k + (1 + m + 1) = k + 1 + m + 1 by omega, m2 k, e]⟩
        · have ul' : us.length = f.ps.length := by omega
          have ff' := hf f.nm
          rw [ef] at ff'
          obtain ⟨r2, c2, hc2, hv2, hw2, ht2, hm2⟩ := (iha (a - 1) (by omega) 7 f.bd (.dct (f.ps.map Sum.inr) us) (c1 + 1) f.ps known' (by omega) Gb (env_zip ul' uv) (by omega) (by omega)).mono (M := 8 * a) (by omega)
          have pl : 11 ^ (8 * a) ≤ 11 ^ (8 * a + n + 1) := Nat.pow_le_pow_right (by omega) (by omega)
          refine ⟨r2, c2, by omega, hv2, hw2, fun j hj => ?_, fun W vs x6 x7 x8 x9 n6 n7 n8 n9 hW hv => ?_⟩
          · obtain ⟨j', rfl, hj'⟩ := tls j hj
            rw [tl_succ]
            obtain ⟨y5, y8, k5, k8, e⟩ := ht1 j' hj' (clF f.nm l) [] .non .non rfl rfl (by simp; omega)
            exact t_cl k5 k8 R.len ef nd ul' (by rw [List.nil_append] at e; exact e) (by omega) (ht2 j' (by omega))
          · obtain ⟨m, m1, y6, y7, y8, y9, k6, k7, k8, k9, m2⟩ := pre W vs x6 x7 x8 x9 n6 n7 n8 n9 hW hv
            obtain ⟨q, q1, q2⟩ := hm2 W vs (.val (.str "call")) (.val (clF f.nm l)) (.val E) (.val f.d) rfl rfl rfl rfl (by omega) (by omega)
            have pr2 : ∀ k, MC (runF 5 (b_opened fr)) fi fd ft ff w0 (k + (q + 1 + m + 1)) (St (.val (.tup (pr.map Fn.d))) I mst c vs (W ++ [opn E (clF f.nm l)]) x6 x7 x8 x9) = MC (runF 5 (b_opened fr)) fi fd ft ff w0 (k + q) (St (.val (.tup (pr.map Fn.d))) I mst (c1 + 1) vs (W ++ [opn (.dct (f.ps.map Sum.inr) us) f.bd]) (.val (.str "call")) (.val (clF f.nm l)) (.val E) (.val f.d)) := fun k => by
              rw [show k + (q + 1 + m + 1) = k + q + 1 + m + 1 by omega, m2 (k + q), step_call (by omega) (by omega) k6 k7 k8 k9 (tk vs) ff' (zip_ok nd ul') (by omega)]
            refine ⟨q + 1 + m + 1, by rw [pe]; omega, ?_⟩
            cases r2 with
            | no w =>
              intro k
              obtain ⟨o, e⟩ := q2 k
              exact ⟨o, by rw [pr2 k, e]⟩
            | ok v2 =>
              obtain ⟨z6, z7, z8, z9, l6, l7, l8, l9, e⟩ := q2
              exact ⟨z6, z7, z8, z9, l6, l7, l8, l9, fun k => by rw [pr2 k, e k]⟩
end
end HFL

set_option Elab.async false
set_option linter.all false
set_option maxRecDepth 100000
set_option maxHeartbeats 4000000
set_option autoImplicit false
namespace HFL
open PySem PySem.Spec PyProof.Rows L2 HF
/-! ### run, _law_run, _law_ran -/
section
variable {fi fd ft g fr : List Ar → FR} {mst : Nat} {hs : List Hd} {ff : List Ar → FR}
theorem run_both {f0 : Fn} {pr' : List Fn} {us : List D} {known : List Str} (R : RP hs (f0 :: pr')) (G0 : GF hs f0.ps known 25 f0.bd) (nd : f0.ps.Nodup) (ul : us.length = f0.ps.length) (uv : ∀ v ∈ us, Vv v) (hm : mst ≤ 10) (hr : ∀ w ∈ WRDS, fr [.val (.str w)] = .err w)
    (hi : ∀ d, Vv d → fi [.val d] = if isT d then .err "NoNumber" else .im (.bl (!isZ d)) [.val d])
    (hd : ∀ op vs, OkCall op vs → fd [.val (.str op), .val (.lst vs)] = (doneM op vs).fr [.val (.str op), .val (.lst vs)])
    (hg : ∀ op vs, OkCall op vs → (op = "list" ∨ isNum op = true ∨ isAlo op = true ∨ op = "same" ∨ op = "join") → g [.val (.str op), .val (.lst vs)] = .im (due (doneM op vs)) [.val (.str op), .val (.lst vs)])
    (ht : ∀ (L us : List D) (n : Nat), n = us.length → us.length ≤ 1000 → ft [.io (.lst (L ++ us)), .val (.int n)] = .fr (.lst us) [.io (.lst L), .val (.int n)])
    (hf : ∀ s, ff [.val (.tup ((f0 :: pr').map Fn.d)), .val (.str s)] = .im (match fnd (f0 :: pr') s with | some f => f.d | none => .non) [.val (.tup ((f0 :: pr').map Fn.d)), .val (.str s)]) :
    ∃ r : Rz, (∀ v, r = .ok v → Vv v) ∧ (∀ w, r = .no w → w ∈ excs) ∧
      runF 10 (b_run (runF 5 (b_opened fr)) fi fd ft ff (fun _ => 11 ^ 200)) [.val (.tup ((f0 :: pr').map Fn.d)), .val (.tup us), .val (.int mst)] = r.fr [.val (.tup ((f0 :: pr').map Fn.d)), .val (.tup us), .val (.int mst)] ∧
      ∀ j, 120 ≤ j → runF 3 (b_law_run (tl g j)) [.val (.tup ((f0 :: pr').map Fn.d)), .val (.tup us), .val (.int mst)] = .im (due r) [.val (.tup ((f0 :: pr').map Fn.d)), .val (.tup us), .val (.int mst)] := by
  obtain ⟨r, c', _, hv, hw, h4, h5⟩ := sim_all (fi := fi) (fd := fd) (ft := ft) (g := g) (fr := fr) (w0 := fun _ => 11 ^ 200) (I := .val (.tup us)) (mst := mst) R hr hi hd hg ht hf mst 25 f0.bd (.dct (f0.ps.map Sum.inr) us) 0 f0.ps known (by omega) G0 (env_zip ul uv) (by omega) (by omega)
  have hz := zip_okT nd ul
  have i0 : L2.atI ((f0 :: pr').map Fn.d) 0 = some f0.d := by simp [L2.atI, L2.ixN]
  have i3 : ∀ a b c : D, L2.atI [a, b, c] 2 = some c ∧ L2.atI [a, b, c] 1 = some b := fun a b c => ⟨rfl, rfl⟩
  have hd0 : f0.d = .tup [.str f0.nm, .tup (strsD f0.ps), f0.bd] := rfl
  obtain ⟨m, m1, m2⟩ := h5 [] [] .non .non .non .non rfl rfl rfl rfl (by simp; omega) (by simp; omega)
  have mb : m + 1 ≤ 11 ^ 200 := by
    have : 11 ^ (8 * mst + 25 + 1) ≤ 11 ^ 199 := Nat.pow_le_pow_right (by omega) (by omega)
    have p := pow_pos11 199
    have e : 11 ^ 200 = 11 * 11 ^ 199 := by rw [show 200 = 199 + 1 from rfl, Nat.pow_succ, Nat.mul_comm]
    rw [e]
    generalize 11 ^ 199 = q at *
    omega
  refine ⟨r, hv, hw, ?_, fun j hj => ?_⟩
  · have hw0 : whileS (fun _ => 11 ^ 200) (C0_run (runF 5 (b_opened fr)) fi fd ft ff (fun _ => 11 ^ 200)) (L0_run (runF 5 (b_opened fr)) fi fd ft ff (fun _ => 11 ^ 200)) = fun e => MC (runF 5 (b_opened fr)) fi fd ft ff (fun _ => 11 ^ 200) (11 ^ 200) e := rfl
    generalize hK : 11 ^ 200 = K at hw0 mb m2 ⊢
    obtain ⟨k, rfl⟩ : ∃ k, K = (k + 1) + m := ⟨K - m - 1, by omega⟩
    unfold b_run
    rw [hw0]
    clear hw0 hK
    generalize runF 5 (b_opened fr) = fo at *
    unfold opn at m2
    rw [hd0] at i0
    generalize (f0 :: pr').map Fn.d = PD at *
    generalize strsD f0.ps = PS at *
    generalize (f0.ps.map Sum.inr : List Key) = KS at *
    cases r with
    | ok v =>
      obtain ⟨y6, y7, y8, y9, _, _, _, _, e⟩ := m2
      have e1 := (e (k + 1)).trans mc_end
      have iv : L2.atI [v] 0 = some v := rfl
      unfold St at e1
      have z0 : ((0 : Nat) : Int) = 0 := rfl
      simp only [List.nil_append] at e1
      rw [z0] at e1
      simp [i0, i3, -dzipG, hz, e1, iv]
    | no w =>
      obtain ⟨o, e1⟩ := m2 (k + 1)
      unfold St at e1
      have z0 : ((0 : Nat) : Int) = 0 := rfl
      simp only [List.nil_append] at e1
      rw [z0] at e1
      simp [i0, i3, -dzipG, hz, e1]
  · have q := h4 j (by omega)
    unfold CT at q
    rw [hd0] at i0
    generalize tl g j = T at *
    generalize (f0 :: pr').map Fn.d = PD at *
    generalize strsD f0.ps = PS at *
    generalize (f0.ps.map Sum.inr : List Key) = KS at *
    generalize due r = X at *
    have z0 : ((0 : Nat) : Int) = 0 := rfl
    rw [z0] at q
    simp [b_law_run, i0, i3, -dzipG, hz, q]
end
theorem run_ran {fr : List Ar → FR} {r : Rz} {A B C : D} (hw : ∀ w, r = .no w → w ∈ excs) (h : fr [.val A, .val B, .val C] = r.fr [.val A, .val B, .val C]) (hv : ∀ v, r = .ok v → Vv v) :
    runF 4 (b_law_ran fr wdC excs) [.val A, .val B, .val C] = .im (due r) [.val A, .val B, .val C] := by
  cases r with
  | ok v =>
    simp at h
    simp [b_law_ran, h, due]
  | no c =>
    have hc := hw c rfl
    have hwd : wdC c = some (.str c) := by unfold wdC; rw [if_pos hc]
    simp at h
    simp [b_law_ran, h, due, hc, hwd]
theorem word_imp (a : Addr) (c : Str) (as : List Ar) (hc : c ∈ excs) (hl : as.length = 1) : wordR wdC a c as = .stk ∨ wordR wdC a c as = runF 2 (b_law_word (qIs "NoNumber") (qIs "NoList") (qIs "NoFirst") (qIs "NoDown") (qIs "ByNought") (qIs "TooGreat") (qIs "TooLong") (qIs "NoText") (qIs "NotKept") (fun _ => true) a c) as := by
  match as, hl with
  | [.io d], _ => exact .inl rfl
  | [.val d], _ =>
    cases d with
    | ob a' =>
      by_cases z : a' = a
      · subst z
        right
        rw [run_word a' c hc]
        simp [wdC, hc]
      · left
        simp [z]
    | _ => exact .inl rfl
end HFL

set_option Elab.async false
set_option linter.all false
set_option maxRecDepth 100000
set_option maxHeartbeats 4000000
set_option autoImplicit false
namespace HFL
open PySem PySem.Spec PyProof.Rows L2 HF
/-! ### one function more ahead -/
def topI (b : D) : Nat → D
  | 0 => b
  | n + 1 => doF "list" [topI b n]
theorem topI_gf {hs : List Hd} {ns kn : List Str} {b : D} {k : Nat} (h : GF hs ns kn k b) : ∀ n, GF hs ns kn (k + n) (topI b n)
  | 0 => h
  | n + 1 => .inr (.inr (.inr (.inr (.inl ⟨"list", [topI b n], by simp [OPSL], by simp [takesB], rfl, fun x m => by rw [List.mem_singleton.mp m]; exact topI_gf h n⟩))))
section
variable {fc : List Ar → FR} {ns : List Int}
theorem run_topped (hc : ∀ k, 0 ≤ k → fc [.val (.scr ns), .val (.int k)] = .im (.int (cell ns k)) [.val (.scr ns), .val (.int k)]) (h0 : Hd) (ht : List Hd) (pr : List Fn) (hl : (h0 :: ht).length ≤ 100) (hp : pr.length ≤ 100) (h6 : h0.ps.length ≤ 100) :
    runF 10 (b_law_topped fc) [.val (.scr ns), .val (.lst ((h0 :: ht).map Hd.d)), .val (.tup (pr.map Fn.d))] = .im (.tup [.lst ((h0 :: ht).map Hd.d), .tup (pr.map Fn.d)]) [.val (.scr ns), .val (.lst ((h0 :: ht).map Hd.d)), .val (.tup (pr.map Fn.d))] ∨
    ∃ k, k ≤ 17 ∧ runF 10 (b_law_topped fc) [.val (.scr ns), .val (.lst ((h0 :: ht).map Hd.d)), .val (.tup (pr.map Fn.d))] = .im (.tup [.lst ((⟨"top", h0.ps, h0.wn⟩ :: h0 :: ht : List Hd).map Hd.d), .tup ((⟨"top", h0.ps, topI (clF h0.nm (h0.ps.map nmF)) k⟩ :: pr : List Fn).map Fn.d)]) [.val (.scr ns), .val (.lst ((h0 :: ht).map Hd.d)), .val (.tup (pr.map Fn.d))] := by
  have c20 := hc 20 (by omega)
  generalize cell ns 20 = q at c20
  have i0 : L2.atI ((h0 :: ht).map Hd.d) 0 = some h0.d := by simp [L2.atI, L2.ixN]
  have hd0 : h0.d = .tup [.str h0.nm, .tup (strsD h0.ps), .tup (h0.wn.map D.bl)] := rfl
  by_cases q1 : q.fmod 6 = 1
  · right
    have r0 : 0 ≤ (q.fdiv 6).fmod 17 := Int.fmod_nonneg_of_pos _ (by omega)
    have r1 : (q.fdiv 6).fmod 17 < 17 := Int.fmod_lt_of_pos _ (by omega)
    obtain ⟨n, hn⟩ : ∃ n : Nat, 1 + (q.fdiv 6).fmod 17 = n := ⟨(1 + (q.fdiv 6).fmod 17).toNat, by omega⟩
    refine ⟨n, by omega, ?_⟩
    have lc := lcL_map (i := 9) (E := E0_law_topped fc) (fun d => match d with | .str s => nmF s | _ => .non) (e := [.val (.scr ns), .val (.lst ((h0 :: ht).map Hd.d)), .val (.tup (pr.map Fn.d)), .val (.int q), .non, .non, .val (.str h0.nm), .val (.tup (strsD h0.ps)), .val (.tup (h0.wn.map D.bl)), .non]) rfl (strsD h0.ps) [] (by simp; omega) (fun d m => by
      obtain ⟨s, _, rfl⟩ := List.mem_map.mp m
      simp [E0_law_topped, nmF])
    have em : ((strsD h0.ps).map fun d => match d with | .str s => nmF s | _ => D.non) = h0.ps.map nmF := by
      rw [List.map_map]; rfl
    rw [em, List.nil_append] at lc
    obtain ⟨e', e1, x5, n5, rfl⟩ := forL_nx (TF := Tg.F (.nm 5)) (S := L0_law_topped fc) (fun dn e => ∃ x5, nio x5 ∧ e = [.val (.scr ns), .val (.lst ((h0 :: ht).map Hd.d)), .val (.tup (pr.map Fn.d)), .val (.int q), .val (topI (clF h0.nm (h0.ps.map nmF)) dn.length), x5, .val (.str h0.nm), .val (.tup (strsD h0.ps)), .val (.tup (h0.wn.map D.bl)), .non]) (rgD 0 n) (fun dn d rest e hall ⟨x5, hx, he⟩ => by
      subst he
      refine ⟨[.val (.scr ns), .val (.lst ((h0 :: ht).map Hd.d)), .val (.tup (pr.map Fn.d)), .val (.int q), .val (topI (clF h0.nm (h0.ps.map nmF)) dn.length), .val d, .val (.str h0.nm), .val (.tup (strsD h0.ps)), .val (.tup (h0.wn.map D.bl)), .non], _, by simp [-isIo, hx], ?_, .val d, rfl, rfl⟩
      rw [List.length_append, List.length_singleton]
      have ti : topI (clF h0.nm (h0.ps.map nmF)) (dn.length + 1) = doF "list" [topI (clF h0.nm (h0.ps.map nmF)) dn.length] := rfl
      rw [ti]
      generalize topI (clF h0.nm (h0.ps.map nmF)) dn.length = B
      simp [L0_law_topped, doF, -isIo, hx, io_val, io_own, io_non]) [.val (.scr ns), .val (.lst ((h0 :: ht).map Hd.d)), .val (.tup (pr.map Fn.d)), .val (.int q), .val (clF h0.nm (h0.ps.map nmF)), .non, .val (.str h0.nm), .val (.tup (strsD h0.ps)), .val (.tup (h0.wn.map D.bl)), .non] ⟨.non, rfl, rfl⟩
    have en : (rgD 0 n).length = n := by simp [rgD]
    simp only [Tg.F, en] at e1 lc
    have e2 : n < 4611686018427387904 := by omega
    have sl : (strsD h0.ps).length = h0.ps.length := by simp
    have h1 : ((h0 :: ht).map Hd.d).length ≤ 1000 := by rw [List.length_map]; omega
    have h2 : (pr.map Fn.d).length ≤ 1000 := by rw [List.length_map]; omega
    have h3 : (h0.ps.map nmF).length ≤ 16777216 := by rw [List.length_map]; omega
    have eh : (⟨"top", h0.ps, h0.wn⟩ :: h0 :: ht : List Hd).map Hd.d = D.tup [.str "top", .tup (strsD h0.ps), .tup (h0.wn.map D.bl)] :: (h0 :: ht).map Hd.d := rfl
    have ep : (⟨"top", h0.ps, topI (clF h0.nm (h0.ps.map nmF)) n⟩ :: pr : List Fn).map Fn.d = D.tup [.str "top", .tup (strsD h0.ps), topI (clF h0.nm (h0.ps.map nmF)) n] :: pr.map Fn.d := rfl
    rw [eh, ep]
    rw [hd0] at i0
    generalize topI (clF h0.nm (h0.ps.map nmF)) n = TB at *
    unfold clF at e1
    generalize h0.ps.map nmF = NL at *
    generalize (h0 :: ht).map Hd.d = HD at *
    generalize pr.map Fn.d = PD at *
    generalize strsD h0.ps = PS at *
    generalize h0.wn.map D.bl = WB at *
    have h1' : 1 + HD.length ≤ 16777216 := by omega
    have h2' : 1 + PD.length ≤ 16777216 := by omega
    simp [b_law_topped, c20, q1, i0, -lcL, lc, h3, hn, e2, -forL, e1, h1', h2', -isIo, n5, io_val, io_own, io_non]
  · left
    generalize (h0 :: ht).map Hd.d = HD at *
    generalize pr.map Fn.d = PD at *
    simp [b_law_topped, c20, q1]
end
end HFL

set_option Elab.async false
set_option linter.all false
set_option maxRecDepth 100000
set_option maxHeartbeats 4000000
set_option autoImplicit false
namespace HFL
open PySem PySem.Spec PyProof.Rows L2 HF
/-! ### the law -/
def AP : D := .tup [.tup [.str "a", .tup [], .tup [.str "call", .str "a", .tup []]]]
section
variable {f1 f2 f3 f4 fc f6 f7 f8 : List Ar → FR}
theorem law_loop {A B C M PR : D} {r : Rz} (hv : ∀ v, r = .ok v → Vv v) (hr : f7 [.val PR, .val C, .val M] = .im (due r) [.val PR, .val C, .val M])
    (h8 : ∀ d, (vnt d = true ∨ ∃ x, d = .str x) → d.dp ≤ 62 → d.wt ≤ 1000 → f8 [.val d, .val d] = .im (.bl true) [.val d, .val d])
    (h7 : f7 [.val AP, .val (.tup []), .val (.int 3)] = .im (.tup [.bl false, .str "TooLong"]) [.val AP, .val (.tup []), .val (.int 3)]) :
    ∃ x5 x7, forL (tgN 5) (L0_law f1 f2 f3 f4 fc f6 f7 f8) (rgD 0 2) [.val A, .val B, .val C, .val M, .val (due r), .non, .val PR, .non, .non] = .nx [.val A, .val B, .val C, .val M, .val (due r), x5, .val PR, x7, .non] := by
  obtain ⟨b, x, ed, h8'⟩ : ∃ b x, due r = .tup [.bl b, x] ∧ f8 [.val x, .val x] = .im (.bl true) [.val x, .val x] := by
    cases r with
    | ok v => exact ⟨true, v, rfl, h8 v (.inl (hv v rfl).vn) (by have := (hv v rfl).dp; omega) (by have := (hv v rfl).wt; omega)⟩
    | no w => exact ⟨false, .str w, rfl, h8 _ (.inr ⟨w, rfl⟩) (by simp [D.dp, PyData.depth]) (by simp [D.wt])⟩
  rw [ed] at hr ⊢
  have q : D.eqB (.tup [.bl false, .str "TooLong"]) (.tup [.bl false, .str "TooLong"]) = some true := by decide +kernel
  have qb : ∀ b : Bool, D.eqB (.bl b) (.bl b) = some true := fun b => by simp [D.eqB]
  unfold AP at h7
  obtain ⟨e', e, x5, x7, _, _, rfl⟩ := forL_nx (TF := Tg.F (.nm 5)) (S := L0_law f1 f2 f3 f4 fc f6 f7 f8) (fun dn e => ∃ x5 x7, nio x5 ∧ nio x7 ∧ e = [.val A, .val B, .val C, .val M, .val (.tup [.bl b, x]), x5, .val PR, x7, .non]) (rgD 0 2) (fun dn d rest e hall ⟨x5, x7, n5, n7, he⟩ => by
    subst he
    refine ⟨[.val A, .val B, .val C, .val M, .val (.tup [.bl b, x]), .val d, .val PR, x7, .non], _, by simp [-isIo, n5], ?_, .val d, .val (.tup [.bl b, x]), rfl, rfl, rfl⟩
    cases b <;> simp [L0_law, L2.atI, L2.ixN, -isIo, n7, io_val, io_own, io_non, hr, h8', h7, -D.eqB, q, qb]) [.val A, .val B, .val C, .val M, .val (.tup [.bl b, x]), .non, .val PR, .non, .non] ⟨.non, .non, rfl, rfl, rfl⟩
  exact ⟨x5, x7, e⟩
theorem run_law (ns : List Int) (hc : ∀ k, 0 ≤ k → fc [.val (.scr ns), .val (.int k)] = .im (.int (cell ns k)) [.val (.scr ns), .val (.int k)])
    (hh : ∃ hs nm, f1 [.val (.scr ns)] = .fr (.lst (hs.map Hd.d)) [.val (.scr ns)] ∧ Hds hs nm) (hp : ∀ hs nm, Hds hs nm → ∃ pr, f3 [.val (.scr ns), .val (.lst (hs.map Hd.d))] = .im (.tup (pr.map Fn.d)) [.val (.scr ns), .val (.lst (hs.map Hd.d))] ∧ Pr hs pr)
    (h2 : ∀ (hs : List Hd) (nm : List Str) (pr : List Fn), Hds hs nm → Pr hs pr → ∃ (t0 : Hd) (tl : List Hd) (f0 : Fn) (pr' : List Fn), f2 [.val (.scr ns), .val (.lst (hs.map Hd.d)), .val (.tup (pr.map Fn.d))] = .im (.tup [.lst ((t0 :: tl).map Hd.d), .tup ((f0 :: pr').map Fn.d)]) [.val (.scr ns), .val (.lst (hs.map Hd.d)), .val (.tup (pr.map Fn.d))] ∧ t0.ps.length = f0.ps.length ∧ f0.ps.length ≤ 6 ∧
      ∀ (us : List D) (mst : Nat), us.length = f0.ps.length → (∀ v ∈ us, Vv v) → mst ≤ 10 → ∃ r : Rz, (∀ v, r = .ok v → Vv v) ∧ f7 [.val (.tup ((f0 :: pr').map Fn.d)), .val (.tup us), .val (.int mst)] = .im (due r) [.val (.tup ((f0 :: pr').map Fn.d)), .val (.tup us), .val (.int mst)] ∧ f6 [.val (.tup ((f0 :: pr').map Fn.d)), .val (.tup us), .val (.int mst)] = .im (due r) [.val (.tup ((f0 :: pr').map Fn.d)), .val (.tup us), .val (.int mst)])
    (h4 : ∀ c, ∃ v, f4 [.val (.int c)] = .im v [.val (.int c)] ∧ Vv v)
    (h8 : ∀ d, (vnt d = true ∨ ∃ x, d = .str x) → d.dp ≤ 62 → d.wt ≤ 1000 → f8 [.val d, .val d] = .im (.bl true) [.val d, .val d])
    (h7 : f7 [.val AP, .val (.tup []), .val (.int 3)] = .im (.tup [.bl false, .str "TooLong"]) [.val AP, .val (.tup []), .val (.int 3)]) :
    runF 9 (b_law f1 f2 f3 f4 fc f6 f7 f8) [.val (.scr ns)] = .im (.bl true) [.val (.scr ns)] := by
  obtain ⟨hs, nm, eh, H⟩ := hh
  obtain ⟨pr, ep, P⟩ := hp hs nm H
  obtain ⟨t0, tls, f0, pr', et, tl, pl, run⟩ := h2 hs nm pr H P
  have c15 := hc 15 (by omega)
  have r0 : 0 ≤ (cell ns 15).fmod 10 := Int.fmod_nonneg_of_pos _ (by omega)
  have r1 : (cell ns 15).fmod 10 < 10 := Int.fmod_lt_of_pos _ (by omega)
  generalize cell ns 15 = q15 at c15 r0 r1
  obtain ⟨mst, hm⟩ : ∃ mst : Nat, q15.fmod 10 = mst := ⟨(q15.fmod 10).toNat, by omega⟩
  let vl : Int → D := fun c => (h4 c).choose
  have hvl : ∀ c, f4 [.val (.int c)] = .im (vl c) [.val (.int c)] := fun c => (h4 c).choose_spec.1
  have hvv : ∀ c, Vv (vl c) := fun c => (h4 c).choose_spec.2
  have lc := lcL_map (i := 8) (E := E0_law f1 f2 f3 f4 fc f6 f7 f8) (fun d => match d with | .int k => vl (cell ns (12 + k)) | _ => .non) (e := [.val (.scr ns), .val (.lst ((t0 :: tls).map Hd.d)), .non, .non, .non, .non, .val (.tup ((f0 :: pr').map Fn.d)), .non, .non]) rfl (rgD 0 f0.ps.length) [] (by simp [rgD]; omega) (fun d m => by
    obtain ⟨k, hk, rfl⟩ := rgD_mem m
    have ck := hc (12 + (0 + (k : Int))) (by omega)
    have hk' := hvl (cell ns (12 + (0 + (k : Int))))
    simp only
    rw [Int.zero_add] at ck hk' ⊢
    simp [E0_law, ck, hk'])
  rw [List.nil_append] at lc
  obtain ⟨us, hus⟩ : ∃ us, us = (rgD 0 f0.ps.length).map fun d => match d with | .int k => vl (cell ns (12 + k)) | _ => D.non := ⟨_, rfl⟩
  have ul : us.length = f0.ps.length := by rw [hus]; simp [rgD]
  have uv : ∀ v ∈ us, Vv v := fun v m => by
    rw [hus] at m
    obtain ⟨d, md, rfl⟩ := List.mem_map.mp m
    obtain ⟨k, hk, rfl⟩ := rgD_mem md
    exact hvv _
  rw [← hus] at lc
  obtain ⟨r, hv, e7, e6⟩ := run us mst ul uv (by omega)
  obtain ⟨x5, x7, el⟩ := law_loop (f1 := f1) (f2 := f2) (f3 := f3) (f4 := f4) (fc := fc) (f6 := f6) (f7 := f7) (f8 := f8) (A := .scr ns) (B := .lst ((t0 :: tls).map Hd.d)) hv e7 h8 h7
  have i0 : L2.atI ((t0 :: tls).map Hd.d) 0 = some t0.d := by simp [L2.atI, L2.ixN]
  have i1 : ∀ a b c : D, L2.atI [a, b, c] 1 = some b := fun a b c => rfl
  have hd0 : t0.d = .tup [.str t0.nm, .tup (strsD t0.ps), .tup (t0.wn.map D.bl)] := rfl
  have sl : (strsD t0.ps).length = f0.ps.length := by simp [tl]
  have e2 : f0.ps.length < 4611686018427387904 := by omega
  have u16 : us.length ≤ 16777216 := by omega
  simp only [Tg.F] at lc
  rw [hd0] at i0
  generalize strsD t0.ps = PS at *
  generalize (t0 :: tls).map Hd.d = HT at *
  generalize (f0 :: pr').map Fn.d = PT at *
  generalize hs.map Hd.d = HD at *
  generalize pr.map Fn.d = PD at *
  generalize due r = X at *
  clear run hus h7 h8
  simp [b_law, eh, ep, et, i0, i1, sl, e2, -lcL, lc, u16, c15, hm, e6, -forL, el]
end
end HFL

set_option Elab.async false
set_option linter.all false
set_option maxRecDepth 100000
set_option maxHeartbeats 4000000
set_option autoImplicit false
namespace HFL
open PySem PySem.Spec PyProof.Rows L2 HF
theorem run_law_fit_int {fw : List Ar → FR} (i : Int) : runF 1 (b_law_fit fw) [.val (.int i)] = .im (due (bz (.int i))) [.val (.int i)] := by
  by_cases q : (if i < 0 then -i else i) < 1000000000000000000
  · have q' : ¬ (1000000000000000000 ≤ (if i < 0 then -i else i)) := by omega
    simp [b_law_fit, q, q', due, bz, bnd, isT, whole, big, atI, ixN]
  · have q' : (1000000000000000000 ≤ (if i < 0 then -i else i)) := by omega
    simp [b_law_fit, q, q', due, bz, bnd, isT, whole, big, atI, ixN]
/-! ### the programs are such as can be run -/
theorem fnd_nd : ∀ {pr : List Fn} {f : Fn}, (pr.map Fn.nm).Nodup → f ∈ pr → fnd pr f.nm = some f
  | g :: pr, f, nd, m => by
    rw [List.map_cons, List.nodup_cons] at nd
    by_cases z : g.nm = f.nm
    · rcases List.mem_cons.mp m with rfl | m
      · simp [fnd]
      · exact absurd (List.mem_map.mpr ⟨f, m, z.symm⟩) nd.1
    · rcases List.mem_cons.mp m with rfl | m
      · exact absurd rfl z
      · have := fnd_nd nd.2 m
        simp only [fnd, List.find?_cons, decide_eq_false z] at this ⊢
        exact this
def unw (hs : List Hd) : List Hd := hs.map fun h => ⟨h.nm, h.ps, []⟩
theorem gf_unw {hs : List Hd} {names known : List Str} : ∀ {n : Nat} {d : D}, GF hs names known n d → GF (unw hs) names known n d
  | n + 1, d, h => by
    rcases h with h | h | h | ⟨a, b, c, rfl, ha, hb, hc⟩ | ⟨o, l, ho, ht, rfl, hl⟩ | ⟨hd, hh, l, rfl, hn, hl, htm⟩
    · exact .inl h
    · exact .inr (.inl h)
    · exact .inr (.inr (.inl h))
    · exact .inr (.inr (.inr (.inl ⟨a, b, c, rfl, gf_unw ha, gf_unw hb, gf_unw hc⟩)))
    · exact .inr (.inr (.inr (.inr (.inl ⟨o, l, ho, ht, rfl, fun x m => gf_unw (hl x m)⟩))))
    · exact .inr (.inr (.inr (.inr (.inr ⟨⟨hd.nm, hd.ps, []⟩, List.mem_map.mpr ⟨hd, hh, rfl⟩, l, rfl, hn, fun x m => gf_unw (hl x m), fun i x _ h => by simp at h⟩))))
theorem rp_of {hs : List Hd} {ns : List Str} {pr : List Fn} (H : Hds hs ns) (P : Pr hs pr) : RP (unw hs) pr where
  fn := fun h m => by
    obtain ⟨g, mg, rfl⟩ := List.mem_map.mp m
    obtain ⟨f, mf, a1, a2⟩ := pr_fnd H P g mg
    have F := pr_each H P f mf
    obtain ⟨h', mh', b1, b2, G⟩ := F.hd
    have q := fnd_nd (pr_names H P) mf
    rw [a1] at q
    exact ⟨f, q, a1, by rw [a2], F.nd, _, b2 ▸ gf_unw G⟩
  pl := fun h m => by
    obtain ⟨g, mg, rfl⟩ := List.mem_map.mp m
    exact (hds_each H g mg).2.2.1
  len := by have := P.len; have := H.len4; omega
theorem rp_top {hs : List Hd} {ns : List Str} {pr : List Fn} (H : Hds hs ns) (P : Pr hs pr) (ps : List Str) (bd : D) : RP (unw hs) (⟨"top", ps, bd⟩ :: pr) where
  fn := fun h m => by
    obtain ⟨f, q, r⟩ := (rp_of H P).fn h m
    refine ⟨f, ?_, r⟩
    obtain ⟨g, mg, rfl⟩ := List.mem_map.mp m
    have ne : ¬ ("top" : Str) = g.nm := fun e => H.nms.tp _ (hds_each H g mg).1 e.symm
    simp only [fnd, List.find?_cons, decide_eq_false ne] at q ⊢
    exact q
  pl := (rp_of H P).pl
  len := by have := P.len; have := H.len4; simp; omega
theorem call_gf {hs : List Hd} {h : Hd} (m : h ∈ hs) : GF (unw hs) h.ps [] 2 (clF h.nm (h.ps.map nmF)) :=
  .inr (.inr (.inr (.inr (.inr ⟨⟨h.nm, h.ps, []⟩, List.mem_map.mpr ⟨h, m, rfl⟩, h.ps.map nmF, rfl, by simp, fun x mx => by
    obtain ⟨s, ms, rfl⟩ := List.mem_map.mp mx
    exact .inr (.inl ⟨s, ms, rfl⟩), fun i x _ e => by simp at e⟩))))
/-! ### the program that calls itself for ever -/
def fA : Fn := ⟨"a", [], clF "a" []⟩
section
variable {fi fd ft fr ff : List Ar → FR} {w0 : List Sl → Nat} {I : Sl}
theorem ap_turn (ht : ∀ (L us : List D) (n : Nat), n = us.length → us.length ≤ 1000 → ft [.io (.lst (L ++ us)), .val (.int n)] = .fr (.lst us) [.io (.lst L), .val (.int n)])
    (hf : ff [.val (.tup [fA.d]), .val (.str fA.nm)] = .im fA.d [.val (.tup [fA.d]), .val (.str fA.nm)]) (c : Nat) (hc : c + 1 ≤ 3) (x6 x7 x8 x9 : Sl) (n6 : nio x6) (n7 : nio x7) (n8 : nio x8) (n9 : nio x9) :
    ∃ y6 y7 y8 y9, nio y6 ∧ nio y7 ∧ nio y8 ∧ nio y9 ∧ ∀ n, MC (runF 5 (b_opened fr)) fi fd ft ff w0 (n + 2) (St (.val (.tup [fA.d])) I 3 c [] ([] ++ [opn (.dct [] []) fA.bd]) x6 x7 x8 x9) = MC (runF 5 (b_opened fr)) fi fd ft ff w0 n (St (.val (.tup [fA.d])) I 3 (c + 1) [] ([] ++ [opn (.dct [] []) fA.bd]) y6 y7 y8 y9) := by
  have hz : dzipG [.tup (strsD fA.ps), .lst []] = .fr (.dct [] []) := by simp [fA]
  refine ⟨.val (.str "call"), .val (clF "a" []), .val (.dct [] []), .val fA.d, rfl, rfl, rfl, rfl, fun n => ?_⟩
  have e1 := step_open (fi := fi) (fd := fd) (ft := ft) (ff := ff) (w0 := w0) (P := .val (.tup [fA.d])) (I := I) (most := 3) (c := c) (W := []) (x9 := x9) n6 n7 n8 (opn_cl (fr := fr) (W := []) (vs := []) (E := .dct [] []) "a" [] (by simp) (by simp)) (n + 1)
  have e2 := step_call (fo := runF 5 (b_opened fr)) (fi := fi) (fd := fd) (ff := ff) (w0 := w0) (I := I) (most := 3) (c := c) (vs := []) (us := []) (W := []) (E := .dct [] []) (x6 := .val (.str "open")) (x7 := .val (clF "a" [])) (x8 := .val (.dct [] [])) (x9 := x9) (f := fA) (l := []) (by simp) (by simp) rfl rfl rfl n9 (ht [] [] 0 rfl (by simp)) hf hz (by omega) n
  exact e1.trans e2
theorem run_AP (ht : ∀ (L us : List D) (n : Nat), n = us.length → us.length ≤ 1000 → ft [.io (.lst (L ++ us)), .val (.int n)] = .fr (.lst us) [.io (.lst L), .val (.int n)])
    (hf : ff [.val (.tup [fA.d]), .val (.str fA.nm)] = .im fA.d [.val (.tup [fA.d]), .val (.str fA.nm)]) : runF 10 (b_run (runF 5 (b_opened fr)) fi fd ft ff (fun _ => 11 ^ 200)) [.val (.tup [fA.d]), .val (.tup []), .val (.int 3)] = .err "TooLong" := by
  have hw0 : whileS (fun _ => 11 ^ 200) (C0_run (runF 5 (b_opened fr)) fi fd ft ff (fun _ => 11 ^ 200)) (L0_run (runF 5 (b_opened fr)) fi fd ft ff (fun _ => 11 ^ 200)) = fun e => MC (runF 5 (b_opened fr)) fi fd ft ff (fun _ => 11 ^ 200) (11 ^ 200) e := rfl
  have big : 8 ≤ 11 ^ 200 := by
    have p := pow_pos11 199
    have e : 11 ^ 200 = 11 * 11 ^ 199 := by rw [show 200 = 199 + 1 from rfl, Nat.pow_succ, Nat.mul_comm]
    rw [e]
    generalize 11 ^ 199 = q at *
    omega
  generalize 11 ^ 200 = K at hw0 big ⊢
  obtain ⟨k, rfl⟩ : ∃ k, K = k + 1 + 1 + 2 + 2 + 2 := ⟨K - 8, by omega⟩
  obtain ⟨a6, a7, a8, a9, p6, p7, p8, p9, t0⟩ := ap_turn (fi := fi) (fd := fd) (fr := fr) (w0 := fun _ => k + 1 + 1 + 2 + 2 + 2) (I := .val (.tup [])) ht hf 0 (by omega) .non .non .non .non rfl rfl rfl rfl
  obtain ⟨b6, b7, b8, b9, q6, q7, q8, q9, t1⟩ := ap_turn (fi := fi) (fd := fd) (fr := fr) (w0 := fun _ => k + 1 + 1 + 2 + 2 + 2) (I := .val (.tup [])) ht hf 1 (by omega) a6 a7 a8 a9 p6 p7 p8 p9
  obtain ⟨c6, c7, c8, c9, r6, r7, r8, r9, t2⟩ := ap_turn (fi := fi) (fd := fd) (fr := fr) (w0 := fun _ => k + 1 + 1 + 2 + 2 + 2) (I := .val (.tup [])) ht hf 2 (by omega) b6 b7 b8 b9 q6 q7 q8 q9
  have e1 := step_open (fi := fi) (fd := fd) (ft := ft) (ff := ff) (w0 := fun _ => k + 1 + 1 + 2 + 2 + 2) (P := .val (.tup [fA.d])) (I := .val (.tup [])) (most := 3) (c := 3) (W := []) (x9 := c9) r6 r7 r8 (opn_cl (fr := fr) (W := []) (vs := []) (E := .dct [] []) "a" [] (by simp) (by simp)) (k + 1)
  obtain ⟨o, e2⟩ := step_call_err (fo := runF 5 (b_opened fr)) (fi := fi) (fd := fd) (ft := ft) (ff := ff) (w0 := fun _ => k + 1 + 1 + 2 + 2 + 2) (PR := .tup [fA.d]) (I := .val (.tup [])) (most := 3) (c := 3) (us := []) (W := []) (E := .dct [] []) (x6 := .val (.str "open")) (x7 := .val (clF "a" [])) (x8 := .val (.dct [] [])) (x9 := c9) (f := "a") (l := []) rfl rfl rfl (by omega) k
  have fin := (((t0 _).trans (t1 _)).trans (t2 _)).trans (e1.trans e2)
  unfold b_run
  rw [hw0]
  unfold St opn at fin
  generalize runF 5 (b_opened fr) = fo at *
  have z0 : ((0 : Nat) : Int) = 0 := rfl
  rw [List.nil_append, z0] at fin
  have dz : dzipG [.tup [], .tup []] = .fr (.dct [] []) := by simp
  unfold fA at fin ⊢
  simp [Fn.d, L2.atI, L2.ixN] at fin ⊢
  simp [fin]
end
end HFL

set_option Elab.async false
set_option linter.all false
set_option maxRecDepth 100000
set_option maxHeartbeats 4000000
set_option autoImplicit false
namespace HFL
open PySem PySem.Spec PyProof.Rows L2 HF
theorem main {P : Program} {w : World} {K : PySem.W.Frag} {mg : Str → Option Value} {base : Heap} {f : Addr} {fd : FuncData} (B : Blt mg)
    (H0 : Has K mg "is_whole" s_is_whole ["thing"])
    (H1 : Has K mg "weight" s_weight ["value"])
    (H2 : Has K mg "need_number" s_need_number ["value"])
    (H3 : Has K mg "need_list" s_need_list ["value"])
    (H4 : Has K mg "bounded" s_bounded ["value"])
    (H5 : Has K mg "of_numbers" s_of_numbers ["operation", "one", "other"])
    (H6 : Has K mg "of_one" s_of_one ["operation", "value"])
    (H7 : Has K mg "done" s_done ["operation", "values"])
    (H8 : Has K mg "is_true" s_is_true ["value"])
    (H9 : Has K mg "refuse" s_refuse ["word"])
    (H10 : Has K mg "function_of" s_function_of ["program", "name"])
    (H11 : Has K mg "taken_off" s_taken_off ["values", "many"])
    (H12 : Has K mg "opened" s_opened ["work", "values", "form", "names"])
    (H13 : Has K mg "run" s_run ["program", "inputs", "most"])
    (H14 : Has K mg "_law_cell_at" s_law_cell_at ["_law_script", "_law_k"])
    (H15 : Has K mg "_law_next" s_law_next ["_law_pick"])
    (H16 : Has K mg "_law_value" s_law_value ["_law_pick"])
    (H17 : Has K mg "_law_same" s_law_same ["_law_found", "_law_due"])
    (H18 : Has K mg "_law_weight" s_law_weight ["_law_value_here"])
    (H19 : Has K mg "_law_fit" s_law_fit ["_law_value_here"])
    (H20 : Has K mg "_law_counted" s_law_counted ["_law_operation", "_law_one", "_law_other"])
    (H21 : Has K mg "_law_taken" s_law_taken ["_law_operation", "_law_value_here"])
    (H22 : Has K mg "_law_done" s_law_done ["_law_operation", "_law_values"])
    (H23 : Has K mg "_law_told" s_law_told ["_law_program_here", "_law_form_here", "_law_names_here", "_law_count"])
    (H24 : Has K mg "_law_run" s_law_run ["_law_program_here", "_law_inputs_here", "_law_most"])
    (H25 : Has K mg "_law_word" s_law_word ["_law_e"])
    (H26 : Has K mg "_law_ran" s_law_ran ["_law_program_here", "_law_inputs_here", "_law_most"])
    (H27 : Has K mg "_law_names" s_law_names ["_law_cell"])
    (H28 : Has K mg "_law_few" s_law_few ["_law_pick", "_law_way"])
    (H29 : Has K mg "_law_tame" s_law_tame ["_law_pick", "_law_known", "_law_heads_here"])
    (H30 : Has K mg "_law_parts" s_law_parts ["_law_pick", "_law_many", "_law_deep", "_law_names_here", "_law_known", "_law_heads_here"])
    (H31 : Has K mg "_law_call" s_law_call ["_law_pick", "_law_deep", "_law_names_here", "_law_known", "_law_heads_here"])
    (H32 : Has K mg "_law_do" s_law_do ["_law_pick", "_law_deep", "_law_names_here", "_law_known", "_law_heads_here"])
    (H33 : Has K mg "_law_form" s_law_form ["_law_pick", "_law_deep", "_law_names_here", "_law_known", "_law_heads_here"])
    (H34 : Has K mg "_law_heads" s_law_heads ["_law_script"])
    (H35 : Has K mg "_law_program" s_law_program ["_law_script", "_law_heads_here"])
    (H36 : Has K mg "_law_topped" s_law_topped ["_law_script", "_law_heads_here", "_law_program_here"])
    (g_MOST_NUMBER : GConst K mg "MOST_NUMBER" (.int 1000000000000000000))
    (g_MOST_WEIGHT : GConst K mg "MOST_WEIGHT" (.int 50))
    (g_NUMBERS : GConst K mg "NUMBERS" (.tup (strsD ["plus", "minus", "times", "over", "less"])))
    (g_ALONE : GConst K mg "ALONE" (.tup (strsD ["first", "rest", "empty", "down"])))
    (x_NoNumber : GExc K mg "NoNumber")
    (x_NoList : GExc K mg "NoList")
    (x_NoFirst : GExc K mg "NoFirst")
    (x_NoDown : GExc K mg "NoDown")
    (x_ByNought : GExc K mg "ByNought")
    (x_TooGreat : GExc K mg "TooGreat")
    (x_TooLong : GExc K mg "TooLong")
    (GC : GCls K mg excs)
    (y_HalfError : GTry K mg excs "HalfError")
    (A_NoNumber : GAsk K mg excs "NoNumber" (qIs "NoNumber"))
    (A_NoList : GAsk K mg excs "NoList" (qIs "NoList"))
    (A_NoFirst : GAsk K mg excs "NoFirst" (qIs "NoFirst"))
    (A_NoDown : GAsk K mg excs "NoDown" (qIs "NoDown"))
    (A_ByNought : GAsk K mg excs "ByNought" (qIs "ByNought"))
    (A_TooGreat : GAsk K mg excs "TooGreat" (qIs "TooGreat"))
    (A_NoText : GAsk K mg excs "NoText" (qIs "NoText"))
    (A_NotKept : GAsk K mg excs "NotKept" (qIs "NotKept"))
    (A_TooLong : GAsk K mg excs "TooLong" (qIs "TooLong"))
    (A_ValueError : GAsk K mg excs "ValueError" (fun _ => true))
    (F : Fun K "law" "law" s_law f fd) (hm : mg "law" = some (.ref f)) (hb : Binds K fd ["_law_script"] []) :
    FnOk P w K mg base (L2N.CX P w) 200 f fd ["_law_script"] (HF.spLaw K) := by
  have n17 := H17.never (P := P) (w := w) (base := base) (k := 0) (n := 2)
  have n18 := H18.never (P := P) (w := w) (base := base) (k := 0) (n := 1)
  have n23 := H23.never (P := P) (w := w) (base := base) (k := 67) (n := 4)
  have n33 := H33.never (P := P) (w := w) (base := base) (k := 2) (n := 5)
  obtain ⟨_, _, F0, m0, b0⟩ := H0
  obtain ⟨_, _, F1, m1, b1⟩ := H1
  obtain ⟨_, _, F2, m2, b2⟩ := H2
  obtain ⟨_, _, F3, m3, b3⟩ := H3
  obtain ⟨_, _, F4, m4, b4⟩ := H4
  obtain ⟨_, _, F5, m5, b5⟩ := H5
  obtain ⟨_, _, F6, m6, b6⟩ := H6
  obtain ⟨_, _, F7, m7, b7⟩ := H7
  obtain ⟨_, _, F8, m8, b8⟩ := H8
  obtain ⟨_, _, F9, m9, b9⟩ := H9
  obtain ⟨_, _, F10, m10, b10⟩ := H10
  obtain ⟨_, _, F11, m11, b11⟩ := H11
  obtain ⟨_, _, F12, m12, b12⟩ := H12
  obtain ⟨_, _, F13, m13, b13⟩ := H13
  obtain ⟨_, _, F14, m14, b14⟩ := H14
  obtain ⟨_, _, F15, m15, b15⟩ := H15
  obtain ⟨_, _, F16, m16, b16⟩ := H16
  obtain ⟨_, _, F17, m17, b17⟩ := H17
  obtain ⟨_, _, F18, m18, b18⟩ := H18
  obtain ⟨_, _, F19, m19, b19⟩ := H19
  obtain ⟨_, _, F20, m20, b20⟩ := H20
  obtain ⟨_, _, F21, m21, b21⟩ := H21
  obtain ⟨_, _, F22, m22, b22⟩ := H22
  obtain ⟨_, _, F23, m23, b23⟩ := H23
  obtain ⟨_, _, F24, m24, b24⟩ := H24
  obtain ⟨_, _, F25, m25, b25⟩ := H25
  obtain ⟨_, _, F26, m26, b26⟩ := H26
  obtain ⟨_, _, F27, m27, b27⟩ := H27
  obtain ⟨_, _, F28, m28, b28⟩ := H28
  obtain ⟨_, _, F29, m29, b29⟩ := H29
  obtain ⟨_, _, F30, m30, b30⟩ := H30
  obtain ⟨_, _, F31, m31, b31⟩ := H31
  obtain ⟨_, _, F32, m32, b32⟩ := H32
  obtain ⟨_, _, F33, m33, b33⟩ := H33
  obtain ⟨_, _, F34, m34, b34⟩ := H34
  obtain ⟨_, _, F35, m35, b35⟩ := H35
  obtain ⟨_, _, F36, m36, b36⟩ := H36
  have k0 := ok_is_whole (P := P) (w := w) (base := base) (k := 0) B F0 m0 b0 g_MOST_NUMBER
  have k1 := ok_weight (P := P) (w := w) (base := base) (k := 0) B F1 m1 b1 (fun _ => 1001)
  have k2 := ok_need_number (P := P) (w := w) (base := base) (k := 0) B F2 m2 b2 x_NoNumber
  have k3 := ok_need_list (P := P) (w := w) (base := base) (k := 0) B F3 m3 b3 x_NoList
  have k4 := ok_bounded (P := P) (w := w) (base := base) (k := 1) B F4 m4 b4 k1 (by decide) k0 (by decide) g_MOST_WEIGHT x_TooGreat
  have k5 := ok_of_numbers (P := P) (w := w) (base := base) (k := 2) B F5 m5 b5 k2 (by decide) k4 (by decide) x_ByNought
  have k6 := ok_of_one (P := P) (w := w) (base := base) (k := 1) B F6 m6 b6 k2 (by decide) k3 (by decide) x_NoDown x_NoFirst
  have k7 := ok_done (P := P) (w := w) (base := base) (k := 3) B F7 m7 b7 k4 (by decide) k5 (by decide) k6 (by decide) k3 (by decide) g_NUMBERS g_ALONE
  have k8 := ok_is_true (P := P) (w := w) (base := base) (k := 1) B F8 m8 b8 k2 (by decide)
  have k9 := ok_refuse (P := P) (w := w) (base := base) (k := 0) B F9 m9 b9 x_NoNumber x_NoList x_NoFirst x_NoDown x_ByNought x_TooGreat
  have k10 := ok_function_of (P := P) (w := w) (base := base) (k := 0) B F10 m10 b10
  have k11 := ok_taken_off (P := P) (w := w) (base := base) (k := 0) B F11 m11 b11
  have k12 := ok_opened (P := P) (w := w) (base := base) (k := 1) B F12 m12 b12 k9 (by decide)
  have k13 := ok_run (P := P) (w := w) (base := base) (k := 4) B F13 m13 b13 k12 (by decide) k8 (by decide) k7 (by decide) k11 (by decide) k10 (by decide) (fun _ => 11 ^ 200) x_TooLong
  have k14 := ok_law_cell_at (P := P) (w := w) (base := base) (k := 0) B F14 m14 b14
  have k15 := ok_law_next (P := P) (w := w) (base := base) (k := 0) B F15 m15 b15
  have k16 := ok_law_value (P := P) (w := w) (base := base) (k := 0) B F16 m16 b16
  have k17 := Cal.iter n17 (fun k Φ hk h => ok_law_same (P := P) (w := w) (base := base) (k := k) B F17 m17 b17 h (Nat.le_refl _)) 64
  have k18 := Cal.iter n18 (fun k Φ hk h => ok_law_weight (P := P) (w := w) (base := base) (k := k) B F18 m18 b18 h (Nat.le_refl _)) 64
  have k19 := ok_law_fit (P := P) (w := w) (base := base) (k := 64) B F19 m19 b19 k18 (by decide)
  have k20 := ok_law_counted (P := P) (w := w) (base := base) (k := 65) B F20 m20 b20 k19 (by decide)
  have k21 := ok_law_taken (P := P) (w := w) (base := base) (k := 0) B F21 m21 b21
  have k22 := ok_law_done (P := P) (w := w) (base := base) (k := 66) B F22 m22 b22 k19 (by decide) k21 (by decide) k20 (by decide)
  have k23 := Cal.iter n23 (fun k Φ hk h => ok_law_told (P := P) (w := w) (base := base) (k := k) B F23 m23 b23 h (Nat.le_refl _) k22 (Nat.le_trans (by decide) hk)) 125
  have k24 := ok_law_run (P := P) (w := w) (base := base) (k := 192) B F24 m24 b24 k23 (by decide)
  have k25 := (ok_law_word (P := P) (w := w) (base := base) (k := 0) B F25 m25 b25 GC A_NoNumber A_NoList A_NoFirst A_NoDown A_ByNought A_TooGreat A_TooLong A_NoText A_NotKept A_ValueError).imp (Ψ := wordR wdC) word_imp
  have k26 := ok_law_ran (P := P) (w := w) (base := base) (k := 5) B F26 m26 b26 k13 (by decide) excs y_HalfError k25 (by decide)
  have k27 := ok_law_names (P := P) (w := w) (base := base) (k := 0) B F27 m27 b27
  have k28 := ok_law_few (P := P) (w := w) (base := base) (k := 0) B F28 m28 b28
  have k29 := ok_law_tame (P := P) (w := w) (base := base) (k := 1) B F29 m29 b29 k15 (by decide) k28 (by decide)
  have kF : ∀ N, Cal P w K mg base (2 + 3 * N) "_law_form" 5 (iterF (formF (runF 2 b_law_next) (runF 3 b_law_value) (runF 7 (b_law_tame (runF 2 b_law_next) (runF 3 b_law_few)))) N) := Cal.iterS 3 n33 (k0 := 2) fun k Φ hk h => by
    have hp := ok_law_parts (P := P) (w := w) (base := base) (k := k) B F30 m30 b30 h (Nat.le_refl _) k15 (by omega)
    have hd := ok_law_do (P := P) (w := w) (base := base) (k := (k + 1)) B F32 m32 b32 hp (by omega) k15 (by omega)
    have hc := ok_law_call (P := P) (w := w) (base := base) (k := k) B F31 m31 b31 k15 (by omega) k29 (by omega) h (Nat.le_refl _)
    exact ok_law_form (P := P) (w := w) (base := base) (k := (k + 2)) B F33 m33 b33 k15 (by omega) k16 (by omega) hp (by omega) hd (by omega) hc (by omega)
  have k33 := kF 4
  have k34 := ok_law_heads (P := P) (w := w) (base := base) (k := 1) B F34 m34 b34 k27 (by decide) k14 (by decide)
  have k35 := ok_law_program (P := P) (w := w) (base := base) (k := 14) B F35 m35 b35 k15 (by decide) k14 (by decide) k33 (by decide)
  have k36 := ok_law_topped (P := P) (w := w) (base := base) (k := 1) B F36 m36 b36 k14 (by decide)
  refine law_fn (ok_law (P := P) (w := w) (base := base) (k := 199) B F hm hb k34 (by decide) k36 (by decide) k35 (by decide) k16 (by decide) k14 (by decide) k24 (by decide) k26 (by decide) k17 (by decide)) fun ns h63 => ?_
  have hn := run_next
  have hc := fun k h => run_cell_at ns k h
  have fit : ∀ d, vnt d = true ∨ (∃ i, d = .int i) → d.wt ≤ 1000 → d.dp ≤ 62 → runF 1 (b_law_fit (iterF (fun Φ => runF 2 (b_law_weight Φ)) 64)) [.val d] = .im (due (bz d)) [.val d] := fun d h hw hp => by
    rcases h with h | ⟨i, rfl⟩
    · exact run_law_fit (fun d h hw hp => run_law_weight 63 d h (by omega) hw) d h hw hp
    · exact run_law_fit_int i
  have ldone : ∀ op vs, OkCall op vs → (op = "list" ∨ isNum op = true ∨ isAlo op = true ∨ op = "same" ∨ op = "join") → runF 2 (b_law_done _ _ _) [.val (.str op), .val (.lst vs)] = .im (due (doneM op vs)) [.val (.str op), .val (.lst vs)] := fun op vs O P => run_law_done fit (fun op a ha hop => run_law_taken op a ha hop) (fun op a b ha hb hop => run_law_counted fit op a b ha hb hop) op vs O P
  have bnds : ∀ d, thg d = true → d.wt ≤ 1000 → runF 1 (b_bounded _ _ (.int 50)) [.val d] = (bz d).fr [.val d] := fun d h hw => run_bounded (fun d h hw => run_weight d _ h (fun _ => rfl) hw) run_is_whole d h hw
  have pdone : ∀ op vs, OkCall op vs → runF 2 (b_done _ _ _ _ NUMS ALON) [.val (.str op), .val (.lst vs)] = (doneM op vs).fr [.val (.str op), .val (.lst vs)] := fun op vs O => run_done bnds (fun op a b ha hb => run_of_numbers run_need_number bnds op a b ha hb) (fun op a ha => run_of_one run_need_number run_need_list op a ha) run_need_list op vs O
  have same : ∀ d, (vnt d = true ∨ ∃ x, d = .str x) → d.dp ≤ 62 → d.wt ≤ 1000 → iterF (fun Φ => runF 3 (b_law_same Φ)) 64 [.val d, .val d] = .im (.bl true) [.val d, .val d] := fun d h hp hw => run_same 63 d h (by omega) hw
  have istr := fun d (h : Vv d) => run_is_true run_need_number d h
  have apR := run_AP (fi := runF 1 (b_is_true (runF 1 b_need_number))) (fd := runF 2 (b_done (runF 1 (b_bounded (runF 4 (b_weight (fun _ => 1001))) (runF 1 (b_is_whole (.int 1000000000000000000))) (.int 50))) (runF 3 (b_of_numbers (runF 1 b_need_number) (runF 1 (b_bounded (runF 4 (b_weight (fun _ => 1001))) (runF 1 (b_is_whole (.int 1000000000000000000))) (.int 50))))) (runF 2 (b_of_one (runF 1 b_need_number) (runF 1 b_need_list))) (runF 1 b_need_list) NUMS ALON)) (fr := runF 1 b_refuse) run_taken_off (fun_run [fA] "a")
  have ap7 : runF 4 (b_law_ran _ wdC excs) [.val AP, .val (.tup []), .val (.int 3)] = .im (.tup [.bl false, .str "TooLong"]) [.val AP, .val (.tup []), .val (.int 3)] := run_ran (r := .no "TooLong") (fun w h => by cases h; simp [excs]) apR (fun v h => by cases h)
  refine run_law ns hc (run_heads ns hc run_names) (fun hs nm H => ?_) (fun hs nm pr H P => ?_) (fun c => ?_) same ap7
  · refine run_program hn hc (hds_ok H) H.len4 fun h mh p deep hd => ?_
    have hne : hs ≠ [] := fun z => by have := H.len0; rw [z] at this; simp at this
    have E := hds_each H h mh
    have hps : ∀ s ∈ h.ps, isNm s = true := fun s m => H.nms.nm s (E.2.1 s m)
    exact run_form hn run_value hne (hds_ok H) hps (knownOf_sub h) (fun p => run_tame hn run_few p (knownOf h) (fun s m => hps s (knownOf_sub h s m)) (hs.map Hd.d)) 3 deep hd p
  · have l0 := H.len0
    have l4 := H.len4
    have pl := P.len
    match hs, pr, H, P, l0, l4, pl with
    | h0 :: ht, f0 :: pr', H, P, l0, l4, pl =>
      have E0 := hds_each H h0 List.mem_cons_self
      obtain ⟨b1, b2, b3⟩ := P.each 0 f0 h0 rfl rfl
      rcases run_topped hc h0 ht (f0 :: pr') (by omega) (by omega) (by have := E0.2.2.1; omega) with e | ⟨k, hk, e⟩
      · refine ⟨h0, ht, f0, pr', e, by rw [b2], by rw [b2]; exact E0.2.2.1, fun us mst ul uv hm => ?_⟩
        obtain ⟨r, hv, hw, e7, e6⟩ := run_both (mst := mst) (rp_of H P) (b2 ▸ (gf_unw b3).mono (by omega)) (by rw [b2]; exact E0.2.2.2) ul uv hm run_refuse istr pdone ldone run_taken_off (fun_run (f0 :: pr'))
        exact ⟨r, hv, run_ran hw e7 hv, e6 125 (by decide)⟩
      · refine ⟨⟨"top", h0.ps, h0.wn⟩, h0 :: ht, ⟨"top", h0.ps, topI (clF h0.nm (h0.ps.map nmF)) k⟩, f0 :: pr', e, rfl, E0.2.2.1, fun us mst ul uv hm => ?_⟩
        obtain ⟨r, hv, hw, e7, e6⟩ := run_both (mst := mst) (rp_top H P h0.ps (topI (clF h0.nm (h0.ps.map nmF)) k)) ((topI_gf (call_gf (h := h0) (hs := h0 :: ht) List.mem_cons_self) k).mono (by omega)) E0.2.2.2 ul uv hm run_refuse istr pdone ldone run_taken_off (fun_run (⟨"top", h0.ps, topI (clF h0.nm (h0.ps.map nmF)) k⟩ :: f0 :: pr'))
        exact ⟨r, hv, run_ran hw e7 hv, e6 125 (by decide)⟩
  · obtain ⟨v, e, V⟩ := run_value c
    exact ⟨v, e, V.vv⟩
end HFL

set_option Elab.async false
set_option linter.all false
set_option maxRecDepth 100000
set_option maxHeartbeats 4000000
set_option autoImplicit false
namespace HFL
open PySem PySem.Spec PyProof.Rows L2 HF
theorem all_mk {P : Program} {w : World} {K : PySem.W.Frag} {h : Heap} {mg : Str → Option Value} {fa f0 f1 f2 f3 f4 f5 f6 f7 f8 f9 f10 f11 f12 f13 f14 f15 f16 f17 f18 f19 f20 f21 f22 f23 f24 f25 f26 f27 f28 f29 f30 f31 f32 f33 f34 f35 f36 f37 : Addr} (X : K.In h) (G : h.Ns mainGlobals mg) (hfa : mg "law" = some (.ref fa))
    {od0 an0 od1 an1 od2 an2 od3 an3 od4 an4 od5 an5 od6 an6 od7 an7 od8 an8 od9 an9 od10 an10 od11 an11 od12 an12 od13 an13 od14 an14 od15 an15 od16 an16 od17 an17 od18 an18 od19 an19 od20 an20 od21 an21 od22 an22 od23 an23 od24 an24 od25 an25 od26 an26 od27 an27 od28 an28 od29 an29 od30 an30 od31 an31 od32 an32 od33 an33 od34 an34 od35 an35 od36 an36 od37 an37 : Option Addr} {sl0 sl1 sl2 sl3 sl4 sl5 sl6 sl7 sl8 sl9 sl10 sl11 sl12 sl13 sl14 sl15 sl16 sl17 sl18 sl19 sl20 sl21 sl22 sl23 sl24 sl25 sl26 sl27 sl28 sl29 sl30 sl31 sl32 sl33 sl34 sl35 sl36 sl37 : Array (Option Value)} {oc0 kV0 dc0 pm0 cd0 ct0 oc1 kV1 dc1 pm1 cd1 ct1 oc2 kV2 dc2 pm2 cd2 ct2 oc3 kV3 dc3 pm3 cd3 ct3 oc4 kV4 dc4 pm4 cd4 ct4 oc5 kV5 dc5 pm5 cd5 ct5 oc6 kV6 dc6 pm6 cd6 ct6 oc7 kV7 dc7 pm7 cd7 ct7 oc8 kV8 dc8 pm8 cd8 ct8 oc9 kV9 dc9 pm9 cd9 ct9 oc10 kV10 dc10 pm10 cd10 ct10 oc11 kV11 dc11 pm11 cd11 ct11 oc12 kV12 dc12 pm12 cd12 ct12 oc13 kV13 dc13 pm13 cd13 ct13 oc14 kV14 dc14 pm14 cd14 ct14 oc15 kV15 dc15 pm15 cd15 ct15 oc16 kV16 dc16 pm16 cd16 ct16 oc17 kV17 dc17 pm17 cd17 ct17 oc18 kV18 dc18 pm18 cd18 ct18 oc19 kV19 dc19 pm19 cd19 ct19 oc20 kV20 dc20 pm20 cd20 ct20 oc21 kV21 dc21 pm21 cd21 ct21 oc22 kV22 dc22 pm22 cd22 ct22 oc23 kV23 dc23 pm23 cd23 ct23 oc24 kV24 dc24 pm24 cd24 ct24 oc25 kV25 dc25 pm25 cd25 ct25 oc26 kV26 dc26 pm26 cd26 ct26 oc27 kV27 dc27 pm27 cd27 ct27 oc28 kV28 dc28 pm28 cd28 ct28 oc29 kV29 dc29 pm29 cd29 ct29 oc30 kV30 dc30 pm30 cd30 ct30 oc31 kV31 dc31 pm31 cd31 ct31 oc32 kV32 dc32 pm32 cd32 ct32 oc33 kV33 dc33 pm33 cd33 ct33 oc34 kV34 dc34 pm34 cd34 ct34 oc35 kV35 dc35 pm35 cd35 ct35 oc36 kV36 dc36 pm36 cd36 ct36 oc37 kV37 dc37 pm37 cd37 ct37 : Value} {t_MOST_NUMBER t_MOST_WEIGHT : Tok} {C_NoNumber C_NoList C_NoFirst C_NoDown C_ByNought C_TooGreat C_TooLong C_NoText C_NotKept C_HalfError : Addr} {A_NUMBERS : Addr} {o_NUMBERS : Option Addr} {n_NUMBERS : Nat} {r_NUMBERS : Array (Option Value)} {u0_NUMBERS u1_NUMBERS u2_NUMBERS u3_NUMBERS u4_NUMBERS : Tok} {A_ALONE : Addr} {o_ALONE : Option Addr} {n_ALONE : Nat} {r_ALONE : Array (Option Value)} {u0_ALONE u1_ALONE u2_ALONE u3_ALONE : Tok}
    (a0 : PySem.W.nsIn K mainGlobals "is_whole" = some (some (.ref f0))) (l0 : K.lookup f0 = some ⟨oc0, od0, .func (PySem.W.fnOf "is_whole" "is_whole" (defArgs s_is_whole) (defBody s_is_whole) (defScope s_is_whole) .none kV0 dc0 pm0 an0 cd0 ct0), sl0⟩) (c0 : PySem.W.codeIn K cd0 "is_whole" = true) (k0 : PySem.W.keepIn K (.ref f0) = true)
    (a1 : PySem.W.nsIn K mainGlobals "weight" = some (some (.ref f1))) (l1 : K.lookup f1 = some ⟨oc1, od1, .func (PySem.W.fnOf "weight" "weight" (defArgs s_weight) (defBody s_weight) (defScope s_weight) .none kV1 dc1 pm1 an1 cd1 ct1), sl1⟩) (c1 : PySem.W.codeIn K cd1 "weight" = true) (k1 : PySem.W.keepIn K (.ref f1) = true)
    (a2 : PySem.W.nsIn K mainGlobals "need_number" = some (some (.ref f2))) (l2 : K.lookup f2 = some ⟨oc2, od2, .func (PySem.W.fnOf "need_number" "need_number" (defArgs s_need_number) (defBody s_need_number) (defScope s_need_number) .none kV2 dc2 pm2 an2 cd2 ct2), sl2⟩) (c2 : PySem.W.codeIn K cd2 "need_number" = true) (k2 : PySem.W.keepIn K (.ref f2) = true)
    (a3 : PySem.W.nsIn K mainGlobals "need_list" = some (some (.ref f3))) (l3 : K.lookup f3 = some ⟨oc3, od3, .func (PySem.W.fnOf "need_list" "need_list" (defArgs s_need_list) (defBody s_need_list) (defScope s_need_list) .none kV3 dc3 pm3 an3 cd3 ct3), sl3⟩) (c3 : PySem.W.codeIn K cd3 "need_list" = true) (k3 : PySem.W.keepIn K (.ref f3) = true)
    (a4 : PySem.W.nsIn K mainGlobals "bounded" = some (some (.ref f4))) (l4 : K.lookup f4 = some ⟨oc4, od4, .func (PySem.W.fnOf "bounded" "bounded" (defArgs s_bounded) (defBody s_bounded) (defScope s_bounded) .none kV4 dc4 pm4 an4 cd4 ct4), sl4⟩) (c4 : PySem.W.codeIn K cd4 "bounded" = true) (k4 : PySem.W.keepIn K (.ref f4) = true)
    (a5 : PySem.W.nsIn K mainGlobals "of_numbers" = some (some (.ref f5))) (l5 : K.lookup f5 = some ⟨oc5, od5, .func (PySem.W.fnOf "of_numbers" "of_numbers" (defArgs s_of_numbers) (defBody s_of_numbers) (defScope s_of_numbers) .none kV5 dc5 pm5 an5 cd5 ct5), sl5⟩) (c5 : PySem.W.codeIn K cd5 "of_numbers" = true) (k5 : PySem.W.keepIn K (.ref f5) = true)
    (a6 : PySem.W.nsIn K mainGlobals "of_one" = some (some (.ref f6))) (l6 : K.lookup f6 = some ⟨oc6, od6, .func (PySem.W.fnOf "of_one" "of_one" (defArgs s_of_one) (defBody s_of_one) (defScope s_of_one) .none kV6 dc6 pm6 an6 cd6 ct6), sl6⟩) (c6 : PySem.W.codeIn K cd6 "of_one" = true) (k6 : PySem.W.keepIn K (.ref f6) = true)
    (a7 : PySem.W.nsIn K mainGlobals "done" = some (some (.ref f7))) (l7 : K.lookup f7 = some ⟨oc7, od7, .func (PySem.W.fnOf "done" "done" (defArgs s_done) (defBody s_done) (defScope s_done) .none kV7 dc7 pm7 an7 cd7 ct7), sl7⟩) (c7 : PySem.W.codeIn K cd7 "done" = true) (k7 : PySem.W.keepIn K (.ref f7) = true)
    (a8 : PySem.W.nsIn K mainGlobals "is_true" = some (some (.ref f8))) (l8 : K.lookup f8 = some ⟨oc8, od8, .func (PySem.W.fnOf "is_true" "is_true" (defArgs s_is_true) (defBody s_is_true) (defScope s_is_true) .none kV8 dc8 pm8 an8 cd8 ct8), sl8⟩) (c8 : PySem.W.codeIn K cd8 "is_true" = true) (k8 : PySem.W.keepIn K (.ref f8) = true)
    (a9 : PySem.W.nsIn K mainGlobals "refuse" = some (some (.ref f9))) (l9 : K.lookup f9 = some ⟨oc9, od9, .func (PySem.W.fnOf "refuse" "refuse" (defArgs s_refuse) (defBody s_refuse) (defScope s_refuse) .none kV9 dc9 pm9 an9 cd9 ct9), sl9⟩) (c9 : PySem.W.codeIn K cd9 "refuse" = true) (k9 : PySem.W.keepIn K (.ref f9) = true)
    (a10 : PySem.W.nsIn K mainGlobals "function_of" = some (some (.ref f10))) (l10 : K.lookup f10 = some ⟨oc10, od10, .func (PySem.W.fnOf "function_of" "function_of" (defArgs s_function_of) (defBody s_function_of) (defScope s_function_of) .none kV10 dc10 pm10 an10 cd10 ct10), sl10⟩) (c10 : PySem.W.codeIn K cd10 "function_of" = true) (k10 : PySem.W.keepIn K (.ref f10) = true)
    (a11 : PySem.W.nsIn K mainGlobals "taken_off" = some (some (.ref f11))) (l11 : K.lookup f11 = some ⟨oc11, od11, .func (PySem.W.fnOf "taken_off" "taken_off" (defArgs s_taken_off) (defBody s_taken_off) (defScope s_taken_off) .none kV11 dc11 pm11 an11 cd11 ct11), sl11⟩) (c11 : PySem.W.codeIn K cd11 "taken_off" = true) (k11 : PySem.W.keepIn K (.ref f11) = true)
    (a12 : PySem.W.nsIn K mainGlobals "opened" = some (some (.ref f12))) (l12 : K.lookup f12 = some ⟨oc12, od12, .func (PySem.W.fnOf "opened" "opened" (defArgs s_opened) (defBody s_opened) (defScope s_opened) .none kV12 dc12 pm12 an12 cd12 ct12), sl12⟩) (c12 : PySem.W.codeIn K cd12 "opened" = true) (k12 : PySem.W.keepIn K (.ref f12) = true)
    (a13 : PySem.W.nsIn K mainGlobals "run" = some (some (.ref f13))) (l13 : K.lookup f13 = some ⟨oc13, od13, .func (PySem.W.fnOf "run" "run" (defArgs s_run) (defBody s_run) (defScope s_run) .none kV13 dc13 pm13 an13 cd13 ct13), sl13⟩) (c13 : PySem.W.codeIn K cd13 "run" = true) (k13 : PySem.W.keepIn K (.ref f13) = true)
    (a14 : PySem.W.nsIn K mainGlobals "_law_cell_at" = some (some (.ref f14))) (l14 : K.lookup f14 = some ⟨oc14, od14, .func (PySem.W.fnOf "_law_cell_at" "_law_cell_at" (defArgs s_law_cell_at) (defBody s_law_cell_at) (defScope s_law_cell_at) .none kV14 dc14 pm14 an14 cd14 ct14), sl14⟩) (c14 : PySem.W.codeIn K cd14 "_law_cell_at" = true) (k14 : PySem.W.keepIn K (.ref f14) = true)
    (a15 : PySem.W.nsIn K mainGlobals "_law_next" = some (some (.ref f15))) (l15 : K.lookup f15 = some ⟨oc15, od15, .func (PySem.W.fnOf "_law_next" "_law_next" (defArgs s_law_next) (defBody s_law_next) (defScope s_law_next) .none kV15 dc15 pm15 an15 cd15 ct15), sl15⟩) (c15 : PySem.W.codeIn K cd15 "_law_next" = true) (k15 : PySem.W.keepIn K (.ref f15) = true)
    (a16 : PySem.W.nsIn K mainGlobals "_law_value" = some (some (.ref f16))) (l16 : K.lookup f16 = some ⟨oc16, od16, .func (PySem.W.fnOf "_law_value" "_law_value" (defArgs s_law_value) (defBody s_law_value) (defScope s_law_value) .none kV16 dc16 pm16 an16 cd16 ct16), sl16⟩) (c16 : PySem.W.codeIn K cd16 "_law_value" = true) (k16 : PySem.W.keepIn K (.ref f16) = true)
    (a17 : PySem.W.nsIn K mainGlobals "_law_same" = some (some (.ref f17))) (l17 : K.lookup f17 = some ⟨oc17, od17, .func (PySem.W.fnOf "_law_same" "_law_same" (defArgs s_law_same) (defBody s_law_same) (defScope s_law_same) .none kV17 dc17 pm17 an17 cd17 ct17), sl17⟩) (c17 : PySem.W.codeIn K cd17 "_law_same" = true) (k17 : PySem.W.keepIn K (.ref f17) = true)
    (a18 : PySem.W.nsIn K mainGlobals "_law_weight" = some (some (.ref f18))) (l18 : K.lookup f18 = some ⟨oc18, od18, .func (PySem.W.fnOf "_law_weight" "_law_weight" (defArgs s_law_weight) (defBody s_law_weight) (defScope s_law_weight) .none kV18 dc18 pm18 an18 cd18 ct18), sl18⟩) (c18 : PySem.W.codeIn K cd18 "_law_weight" = true) (k18 : PySem.W.keepIn K (.ref f18) = true)
    (a19 : PySem.W.nsIn K mainGlobals "_law_fit" = some (some (.ref f19))) (l19 : K.lookup f19 = some ⟨oc19, od19, .func (PySem.W.fnOf "_law_fit" "_law_fit" (defArgs s_law_fit) (defBody s_law_fit) (defScope s_law_fit) .none kV19 dc19 pm19 an19 cd19 ct19), sl19⟩) (c19 : PySem.W.codeIn K cd19 "_law_fit" = true) (k19 : PySem.W.keepIn K (.ref f19) = true)
    (a20 : PySem.W.nsIn K mainGlobals "_law_counted" = some (some (.ref f20))) (l20 : K.lookup f20 = some ⟨oc20, od20, .func (PySem.W.fnOf "_law_counted" "_law_counted" (defArgs s_law_counted) (defBody s_law_counted) (defScope s_law_counted) .none kV20 dc20 pm20 an20 cd20 ct20), sl20⟩) (c20 : PySem.W.codeIn K cd20 "_law_counted" = true) (k20 : PySem.W.keepIn K (.ref f20) = true)
    (a21 : PySem.W.nsIn K mainGlobals "_law_taken" = some (some (.ref f21))) (l21 : K.lookup f21 = some ⟨oc21, od21, .func (PySem.W.fnOf "_law_taken" "_law_taken" (defArgs s_law_taken) (defBody s_law_taken) (defScope s_law_taken) .none kV21 dc21 pm21 an21 cd21 ct21), sl21⟩) (c21 : PySem.W.codeIn K cd21 "_law_taken" = true) (k21 : PySem.W.keepIn K (.ref f21) = true)
    (a22 : PySem.W.nsIn K mainGlobals "_law_done" = some (some (.ref f22))) (l22 : K.lookup f22 = some ⟨oc22, od22, .func (PySem.W.fnOf "_law_done" "_law_done" (defArgs s_law_done) (defBody s_law_done) (defScope s_law_done) .none kV22 dc22 pm22 an22 cd22 ct22), sl22⟩) (c22 : PySem.W.codeIn K cd22 "_law_done" = true) (k22 : PySem.W.keepIn K (.ref f22) = true)
    (a23 : PySem.W.nsIn K mainGlobals "_law_told" = some (some (.ref f23))) (l23 : K.lookup f23 = some ⟨oc23, od23, .func (PySem.W.fnOf "_law_told" "_law_told" (defArgs s_law_told) (defBody s_law_told) (defScope s_law_told) .none kV23 dc23 pm23 an23 cd23 ct23), sl23⟩) (c23 : PySem.W.codeIn K cd23 "_law_told" = true) (k23 : PySem.W.keepIn K (.ref f23) = true)
    (a24 : PySem.W.nsIn K mainGlobals "_law_run" = some (some (.ref f24))) (l24 : K.lookup f24 = some ⟨oc24, od24, .func (PySem.W.fnOf "_law_run" "_law_run" (defArgs s_law_run) (defBody s_law_run) (defScope s_law_run) .none kV24 dc24 pm24 an24 cd24 ct24), sl24⟩) (c24 : PySem.W.codeIn K cd24 "_law_run" = true) (k24 : PySem.W.keepIn K (.ref f24) = true)
    (a25 : PySem.W.nsIn K mainGlobals "_law_word" = some (some (.ref f25))) (l25 : K.lookup f25 = some ⟨oc25, od25, .func (PySem.W.fnOf "_law_word" "_law_word" (defArgs s_law_word) (defBody s_law_word) (defScope s_law_word) .none kV25 dc25 pm25 an25 cd25 ct25), sl25⟩) (c25 : PySem.W.codeIn K cd25 "_law_word" = true) (k25 : PySem.W.keepIn K (.ref f25) = true)
    (a26 : PySem.W.nsIn K mainGlobals "_law_ran" = some (some (.ref f26))) (l26 : K.lookup f26 = some ⟨oc26, od26, .func (PySem.W.fnOf "_law_ran" "_law_ran" (defArgs s_law_ran) (defBody s_law_ran) (defScope s_law_ran) .none kV26 dc26 pm26 an26 cd26 ct26), sl26⟩) (c26 : PySem.W.codeIn K cd26 "_law_ran" = true) (k26 : PySem.W.keepIn K (.ref f26) = true)
    (a27 : PySem.W.nsIn K mainGlobals "_law_names" = some (some (.ref f27))) (l27 : K.lookup f27 = some ⟨oc27, od27, .func (PySem.W.fnOf "_law_names" "_law_names" (defArgs s_law_names) (defBody s_law_names) (defScope s_law_names) .none kV27 dc27 pm27 an27 cd27 ct27), sl27⟩) (c27 : PySem.W.codeIn K cd27 "_law_names" = true) (k27 : PySem.W.keepIn K (.ref f27) = true)
    (a28 : PySem.W.nsIn K mainGlobals "_law_few" = some (some (.ref f28))) (l28 : K.lookup f28 = some ⟨oc28, od28, .func (PySem.W.fnOf "_law_few" "_law_few" (defArgs s_law_few) (defBody s_law_few) (defScope s_law_few) .none kV28 dc28 pm28 an28 cd28 ct28), sl28⟩) (c28 : PySem.W.codeIn K cd28 "_law_few" = true) (k28 : PySem.W.keepIn K (.ref f28) = true)
    (a29 : PySem.W.nsIn K mainGlobals "_law_tame" = some (some (.ref f29))) (l29 : K.lookup f29 = some ⟨oc29, od29, .func (PySem.W.fnOf "_law_tame" "_law_tame" (defArgs s_law_tame) (defBody s_law_tame) (defScope s_law_tame) .none kV29 dc29 pm29 an29 cd29 ct29), sl29⟩) (c29 : PySem.W.codeIn K cd29 "_law_tame" = true) (k29 : PySem.W.keepIn K (.ref f29) = true)
    (a30 : PySem.W.nsIn K mainGlobals "_law_parts" = some (some (.ref f30))) (l30 : K.lookup f30 = some ⟨oc30, od30, .func (PySem.W.fnOf "_law_parts" "_law_parts" (defArgs s_law_parts) (defBody s_law_parts) (defScope s_law_parts) .none kV30 dc30 pm30 an30 cd30 ct30), sl30⟩) (c30 : PySem.W.codeIn K cd30 "_law_parts" = true) (k30 : PySem.W.keepIn K (.ref f30) = true)
    (a31 : PySem.W.nsIn K mainGlobals "_law_call" = some (some (.ref f31))) (l31 : K.lookup f31 = some ⟨oc31, od31, .func (PySem.W.fnOf "_law_call" "_law_call" (defArgs s_law_call) (defBody s_law_call) (defScope s_law_call) .none kV31 dc31 pm31 an31 cd31 ct31), sl31⟩) (c31 : PySem.W.codeIn K cd31 "_law_call" = true) (k31 : PySem.W.keepIn K (.ref f31) = true)
    (a32 : PySem.W.nsIn K mainGlobals "_law_do" = some (some (.ref f32))) (l32 : K.lookup f32 = some ⟨oc32, od32, .func (PySem.W.fnOf "_law_do" "_law_do" (defArgs s_law_do) (defBody s_law_do) (defScope s_law_do) .none kV32 dc32 pm32 an32 cd32 ct32), sl32⟩) (c32 : PySem.W.codeIn K cd32 "_law_do" = true) (k32 : PySem.W.keepIn K (.ref f32) = true)
    (a33 : PySem.W.nsIn K mainGlobals "_law_form" = some (some (.ref f33))) (l33 : K.lookup f33 = some ⟨oc33, od33, .func (PySem.W.fnOf "_law_form" "_law_form" (defArgs s_law_form) (defBody s_law_form) (defScope s_law_form) .none kV33 dc33 pm33 an33 cd33 ct33), sl33⟩) (c33 : PySem.W.codeIn K cd33 "_law_form" = true) (k33 : PySem.W.keepIn K (.ref f33) = true)
    (a34 : PySem.W.nsIn K mainGlobals "_law_heads" = some (some (.ref f34))) (l34 : K.lookup f34 = some ⟨oc34, od34, .func (PySem.W.fnOf "_law_heads" "_law_heads" (defArgs s_law_heads) (defBody s_law_heads) (defScope s_law_heads) .none kV34 dc34 pm34 an34 cd34 ct34), sl34⟩) (c34 : PySem.W.codeIn K cd34 "_law_heads" = true) (k34 : PySem.W.keepIn K (.ref f34) = true)
    (a35 : PySem.W.nsIn K mainGlobals "_law_program" = some (some (.ref f35))) (l35 : K.lookup f35 = some ⟨oc35, od35, .func (PySem.W.fnOf "_law_program" "_law_program" (defArgs s_law_program) (defBody s_law_program) (defScope s_law_program) .none kV35 dc35 pm35 an35 cd35 ct35), sl35⟩) (c35 : PySem.W.codeIn K cd35 "_law_program" = true) (k35 : PySem.W.keepIn K (.ref f35) = true)
    (a36 : PySem.W.nsIn K mainGlobals "_law_topped" = some (some (.ref f36))) (l36 : K.lookup f36 = some ⟨oc36, od36, .func (PySem.W.fnOf "_law_topped" "_law_topped" (defArgs s_law_topped) (defBody s_law_topped) (defScope s_law_topped) .none kV36 dc36 pm36 an36 cd36 ct36), sl36⟩) (c36 : PySem.W.codeIn K cd36 "_law_topped" = true) (k36 : PySem.W.keepIn K (.ref f36) = true)
    (a37 : PySem.W.nsIn K mainGlobals "law" = some (some (.ref f37))) (l37 : K.lookup f37 = some ⟨oc37, od37, .func (PySem.W.fnOf "law" "law" (defArgs s_law) (defBody s_law) (defScope s_law) .none kV37 dc37 pm37 an37 cd37 ct37), sl37⟩) (c37 : PySem.W.codeIn K cd37 "law" = true) (k37 : PySem.W.keepIn K (.ref f37) = true)
    (z_len : PySem.W.nsIn K mainGlobals "len" = some none)
    (z_isinstance : PySem.W.nsIn K mainGlobals "isinstance" = some none)
    (z_abs : PySem.W.nsIn K mainGlobals "abs" = some none)
    (z_int : PySem.W.nsIn K mainGlobals "int" = some none)
    (z_str : PySem.W.nsIn K mainGlobals "str" = some none)
    (z_tuple : PySem.W.nsIn K mainGlobals "tuple" = some none)
    (z_list : PySem.W.nsIn K mainGlobals "list" = some none)
    (z_all : PySem.W.nsIn K mainGlobals "all" = some none)
    (z_any : PySem.W.nsIn K mainGlobals "any" = some none)
    (z_sum : PySem.W.nsIn K mainGlobals "sum" = some none)
    (z_range : PySem.W.nsIn K mainGlobals "range" = some none)
    (z_zip : PySem.W.nsIn K mainGlobals "zip" = some none)
    (z_reversed : PySem.W.nsIn K mainGlobals "reversed" = some none)
    (z_bool : PySem.W.nsIn K mainGlobals "bool" = some none)
    (z_set : PySem.W.nsIn K mainGlobals "set" = some none)
    (z_dict : PySem.W.nsIn K mainGlobals "dict" = some none)
    (g_MOST_NUMBER : PySem.W.nsIn K mainGlobals "MOST_NUMBER" = some (some (.int (1000000000000000000) t_MOST_NUMBER)))
    (g_MOST_WEIGHT : PySem.W.nsIn K mainGlobals "MOST_WEIGHT" = some (some (.int (50) t_MOST_WEIGHT)))
    (ce_NoNumber : PySem.W.nsIn K mainGlobals "NoNumber" = some (some (.ref C_NoNumber)))
    (cd_NoNumber : PySem.W.hasDictIn K C_NoNumber = true)
    (ct_NoNumber : PySem.W.typeIn K (.ref C_NoNumber) = some (.type "type"))
    (cb_NoNumber : PySem.W.subIn K (.ref C_NoNumber) (.type "BaseException") = some true)
    (ce_NoList : PySem.W.nsIn K mainGlobals "NoList" = some (some (.ref C_NoList)))
    (cd_NoList : PySem.W.hasDictIn K C_NoList = true)
    (ct_NoList : PySem.W.typeIn K (.ref C_NoList) = some (.type "type"))
    (cb_NoList : PySem.W.subIn K (.ref C_NoList) (.type "BaseException") = some true)
    (ce_NoFirst : PySem.W.nsIn K mainGlobals "NoFirst" = some (some (.ref C_NoFirst)))
    (cd_NoFirst : PySem.W.hasDictIn K C_NoFirst = true)
    (ct_NoFirst : PySem.W.typeIn K (.ref C_NoFirst) = some (.type "type"))
    (cb_NoFirst : PySem.W.subIn K (.ref C_NoFirst) (.type "BaseException") = some true)
    (ce_NoDown : PySem.W.nsIn K mainGlobals "NoDown" = some (some (.ref C_NoDown)))
    (cd_NoDown : PySem.W.hasDictIn K C_NoDown = true)
    (ct_NoDown : PySem.W.typeIn K (.ref C_NoDown) = some (.type "type"))
    (cb_NoDown : PySem.W.subIn K (.ref C_NoDown) (.type "BaseException") = some true)
    (ce_ByNought : PySem.W.nsIn K mainGlobals "ByNought" = some (some (.ref C_ByNought)))
    (cd_ByNought : PySem.W.hasDictIn K C_ByNought = true)
    (ct_ByNought : PySem.W.typeIn K (.ref C_ByNought) = some (.type "type"))
    (cb_ByNought : PySem.W.subIn K (.ref C_ByNought) (.type "BaseException") = some true)
    (ce_TooGreat : PySem.W.nsIn K mainGlobals "TooGreat" = some (some (.ref C_TooGreat)))
    (cd_TooGreat : PySem.W.hasDictIn K C_TooGreat = true)
    (ct_TooGreat : PySem.W.typeIn K (.ref C_TooGreat) = some (.type "type"))
    (cb_TooGreat : PySem.W.subIn K (.ref C_TooGreat) (.type "BaseException") = some true)
    (ce_TooLong : PySem.W.nsIn K mainGlobals "TooLong" = some (some (.ref C_TooLong)))
    (cd_TooLong : PySem.W.hasDictIn K C_TooLong = true)
    (ct_TooLong : PySem.W.typeIn K (.ref C_TooLong) = some (.type "type"))
    (cb_TooLong : PySem.W.subIn K (.ref C_TooLong) (.type "BaseException") = some true)
    (ce_NoText : PySem.W.nsIn K mainGlobals "NoText" = some (some (.ref C_NoText)))
    (cd_NoText : PySem.W.hasDictIn K C_NoText = true)
    (ct_NoText : PySem.W.typeIn K (.ref C_NoText) = some (.type "type"))
    (cb_NoText : PySem.W.subIn K (.ref C_NoText) (.type "BaseException") = some true)
    (ce_NotKept : PySem.W.nsIn K mainGlobals "NotKept" = some (some (.ref C_NotKept)))
    (cd_NotKept : PySem.W.hasDictIn K C_NotKept = true)
    (ct_NotKept : PySem.W.typeIn K (.ref C_NotKept) = some (.type "type"))
    (cb_NotKept : PySem.W.subIn K (.ref C_NotKept) (.type "BaseException") = some true)
    (ce_HalfError : PySem.W.nsIn K mainGlobals "HalfError" = some (some (.ref C_HalfError)))
    (cd_HalfError : PySem.W.hasDictIn K C_HalfError = true)
    (ct_HalfError : PySem.W.typeIn K (.ref C_HalfError) = some (.type "type"))
    (cb_HalfError : PySem.W.subIn K (.ref C_HalfError) (.type "BaseException") = some true)
    (cq_NoNumber : PySem.W.excIn K C_NoNumber [.type "ValueError", .type "Exception", .type "BaseException", .type "object"] "ValueError.__new__" = true)
    (ck_NoNumber : PySem.W.keepIn K (.ref C_NoNumber) = true)
    (cg_NoNumber : PySem.W.findIn K (.ref C_NoNumber) "__getattribute__" = some (some (.builtin "BaseException.__getattribute__")))
    (ch_NoNumber : PySem.W.findIn K (.ref C_NoNumber) "__getattr__" = some none)
    (ca_NoNumber : PySem.W.findIn K (.ref C_NoNumber) "__class__" = some (some (.builtin "object.__class__")))
    (cm_NoNumber : PySem.W.mroIn K C_NoNumber (.type "object") = some true)
    (cv_NoNumber : PySem.W.subIn K (.ref C_NoNumber) (.type "ValueError") = some true)
    (s_NoNumber_NoNumber : PySem.W.subIn K (.ref C_NoNumber) (.ref C_NoNumber) = some true)
    (s_NoNumber_NoList : PySem.W.subIn K (.ref C_NoNumber) (.ref C_NoList) = some false)
    (s_NoNumber_NoFirst : PySem.W.subIn K (.ref C_NoNumber) (.ref C_NoFirst) = some false)
    (s_NoNumber_NoDown : PySem.W.subIn K (.ref C_NoNumber) (.ref C_NoDown) = some false)
    (s_NoNumber_ByNought : PySem.W.subIn K (.ref C_NoNumber) (.ref C_ByNought) = some false)
    (s_NoNumber_TooGreat : PySem.W.subIn K (.ref C_NoNumber) (.ref C_TooGreat) = some false)
    (s_NoNumber_NoText : PySem.W.subIn K (.ref C_NoNumber) (.ref C_NoText) = some false)
    (s_NoNumber_NotKept : PySem.W.subIn K (.ref C_NoNumber) (.ref C_NotKept) = some false)
    (s_NoNumber_TooLong : PySem.W.subIn K (.ref C_NoNumber) (.ref C_TooLong) = some false)
    (s_NoNumber_HalfError : PySem.W.subIn K (.ref C_NoNumber) (.ref C_HalfError) = some true)
    (cq_NoList : PySem.W.excIn K C_NoList [.type "ValueError", .type "Exception", .type "BaseException", .type "object"] "ValueError.__new__" = true)
    (ck_NoList : PySem.W.keepIn K (.ref C_NoList) = true)
    (cg_NoList : PySem.W.findIn K (.ref C_NoList) "__getattribute__" = some (some (.builtin "BaseException.__getattribute__")))
    (ch_NoList : PySem.W.findIn K (.ref C_NoList) "__getattr__" = some none)
    (ca_NoList : PySem.W.findIn K (.ref C_NoList) "__class__" = some (some (.builtin "object.__class__")))
    (cm_NoList : PySem.W.mroIn K C_NoList (.type "object") = some true)
    (cv_NoList : PySem.W.subIn K (.ref C_NoList) (.type "ValueError") = some true)
    (s_NoList_NoNumber : PySem.W.subIn K (.ref C_NoList) (.ref C_NoNumber) = some false)
    (s_NoList_NoList : PySem.W.subIn K (.ref C_NoList) (.ref C_NoList) = some true)
    (s_NoList_NoFirst : PySem.W.subIn K (.ref C_NoList) (.ref C_NoFirst) = some false)
    (s_NoList_NoDown : PySem.W.subIn K (.ref C_NoList) (.ref C_NoDown) = some false)
    (s_NoList_ByNought : PySem.W.subIn K (.ref C_NoList) (.ref C_ByNought) = some false)
    (s_NoList_TooGreat : PySem.W.subIn K (.ref C_NoList) (.ref C_TooGreat) = some false)
    (s_NoList_NoText : PySem.W.subIn K (.ref C_NoList) (.ref C_NoText) = some false)
    (s_NoList_NotKept : PySem.W.subIn K (.ref C_NoList) (.ref C_NotKept) = some false)
    (s_NoList_TooLong : PySem.W.subIn K (.ref C_NoList) (.ref C_TooLong) = some false)
    (s_NoList_HalfError : PySem.W.subIn K (.ref C_NoList) (.ref C_HalfError) = some true)
    (cq_NoFirst : PySem.W.excIn K C_NoFirst [.type "ValueError", .type "Exception", .type "BaseException", .type "object"] "ValueError.__new__" = true)
    (ck_NoFirst : PySem.W.keepIn K (.ref C_NoFirst) = true)
    (cg_NoFirst : PySem.W.findIn K (.ref C_NoFirst) "__getattribute__" = some (some (.builtin "BaseException.__getattribute__")))
    (ch_NoFirst : PySem.W.findIn K (.ref C_NoFirst) "__getattr__" = some none)
    (ca_NoFirst : PySem.W.findIn K (.ref C_NoFirst) "__class__" = some (some (.builtin "object.__class__")))
    (cm_NoFirst : PySem.W.mroIn K C_NoFirst (.type "object") = some true)
    (cv_NoFirst : PySem.W.subIn K (.ref C_NoFirst) (.type "ValueError") = some true)
    (s_NoFirst_NoNumber : PySem.W.subIn K (.ref C_NoFirst) (.ref C_NoNumber) = some false)
    (s_NoFirst_NoList : PySem.W.subIn K (.ref C_NoFirst) (.ref C_NoList) = some false)
    (s_NoFirst_NoFirst : PySem.W.subIn K (.ref C_NoFirst) (.ref C_NoFirst) = some true)
    (s_NoFirst_NoDown : PySem.W.subIn K (.ref C_NoFirst) (.ref C_NoDown) = some false)
    (s_NoFirst_ByNought : PySem.W.subIn K (.ref C_NoFirst) (.ref C_ByNought) = some false)
    (s_NoFirst_TooGreat : PySem.W.subIn K (.ref C_NoFirst) (.ref C_TooGreat) = some false)
    (s_NoFirst_NoText : PySem.W.subIn K (.ref C_NoFirst) (.ref C_NoText) = some false)
    (s_NoFirst_NotKept : PySem.W.subIn K (.ref C_NoFirst) (.ref C_NotKept) = some false)
    (s_NoFirst_TooLong : PySem.W.subIn K (.ref C_NoFirst) (.ref C_TooLong) = some false)
    (s_NoFirst_HalfError : PySem.W.subIn K (.ref C_NoFirst) (.ref C_HalfError) = some true)
    (cq_NoDown : PySem.W.excIn K C_NoDown [.type "ValueError", .type "Exception", .type "BaseException", .type "object"] "ValueError.__new__" = true)
    (ck_NoDown : PySem.W.keepIn K (.ref C_NoDown) = true)
    (cg_NoDown : PySem.W.findIn K (.ref C_NoDown) "__getattribute__" = some (some (.builtin "BaseException.__getattribute__")))
    (ch_NoDown : PySem.W.findIn K (.ref C_NoDown) "__getattr__" = some none)
    (ca_NoDown : PySem.W.findIn K (.ref C_NoDown) "__class__" = some (some (.builtin "object.__class__")))
    (cm_NoDown : PySem.W.mroIn K C_NoDown (.type "object") = some true)
    (cv_NoDown : PySem.W.subIn K (.ref C_NoDown) (.type "ValueError") = some true)
    (s_NoDown_NoNumber : PySem.W.subIn K (.ref C_NoDown) (.ref C_NoNumber) = some false)
    (s_NoDown_NoList : PySem.W.subIn K (.ref C_NoDown) (.ref C_NoList) = some false)
    (s_NoDown_NoFirst : PySem.W.subIn K (.ref C_NoDown) (.ref C_NoFirst) = some false)
    (s_NoDown_NoDown : PySem.W.subIn K (.ref C_NoDown) (.ref C_NoDown) = some true)
    (s_NoDown_ByNought : PySem.W.subIn K (.ref C_NoDown) (.ref C_ByNought) = some false)
    (s_NoDown_TooGreat : PySem.W.subIn K (.ref C_NoDown) (.ref C_TooGreat) = some false)
    (s_NoDown_NoText : PySem.W.subIn K (.ref C_NoDown) (.ref C_NoText) = some false)
    (s_NoDown_NotKept : PySem.W.subIn K (.ref C_NoDown) (.ref C_NotKept) = some false)
    (s_NoDown_TooLong : PySem.W.subIn K (.ref C_NoDown) (.ref C_TooLong) = some false)
    (s_NoDown_HalfError : PySem.W.subIn K (.ref C_NoDown) (.ref C_HalfError) = some true)
    (cq_ByNought : PySem.W.excIn K C_ByNought [.type "ValueError", .type "Exception", .type "BaseException", .type "object"] "ValueError.__new__" = true)
    (ck_ByNought : PySem.W.keepIn K (.ref C_ByNought) = true)
    (cg_ByNought : PySem.W.findIn K (.ref C_ByNought) "__getattribute__" = some (some (.builtin "BaseException.__getattribute__")))
    (ch_ByNought : PySem.W.findIn K (.ref C_ByNought) "__getattr__" = some none)
    (ca_ByNought : PySem.W.findIn K (.ref C_ByNought) "__class__" = some (some (.builtin "object.__class__")))
    (cm_ByNought : PySem.W.mroIn K C_ByNought (.type "object") = some true)
    (cv_ByNought : PySem.W.subIn K (.ref C_ByNought) (.type "ValueError") = some true)
    (s_ByNought_NoNumber : PySem.W.subIn K (.ref C_ByNought) (.ref C_NoNumber) = some false)
    (s_ByNought_NoList : PySem.W.subIn K (.ref C_ByNought) (.ref C_NoList) = some false)
    (s_ByNought_NoFirst : PySem.W.subIn K (.ref C_ByNought) (.ref C_NoFirst) = some false)
    (s_ByNought_NoDown : PySem.W.subIn K (.ref C_ByNought) (.ref C_NoDown) = some false)
    (s_ByNought_ByNought : PySem.W.subIn K (.ref C_ByNought) (.ref C_ByNought) = some true)
    (s_ByNought_TooGreat : PySem.W.subIn K (.ref C_ByNought) (.ref C_TooGreat) = some false)
    (s_ByNought_NoText : PySem.W.subIn K (.ref C_ByNought) (.ref C_NoText) = some false)
    (s_ByNought_NotKept : PySem.W.subIn K (.ref C_ByNought) (.ref C_NotKept) = some false)
    (s_ByNought_TooLong : PySem.W.subIn K (.ref C_ByNought) (.ref C_TooLong) = some false)
    (s_ByNought_HalfError : PySem.W.subIn K (.ref C_ByNought) (.ref C_HalfError) = some true)
    (cq_TooGreat : PySem.W.excIn K C_TooGreat [.type "ValueError", .type "Exception", .type "BaseException", .type "object"] "ValueError.__new__" = true)
    (ck_TooGreat : PySem.W.keepIn K (.ref C_TooGreat) = true)
    (cg_TooGreat : PySem.W.findIn K (.ref C_TooGreat) "__getattribute__" = some (some (.builtin "BaseException.__getattribute__")))
    (ch_TooGreat : PySem.W.findIn K (.ref C_TooGreat) "__getattr__" = some none)
    (ca_TooGreat : PySem.W.findIn K (.ref C_TooGreat) "__class__" = some (some (.builtin "object.__class__")))
    (cm_TooGreat : PySem.W.mroIn K C_TooGreat (.type "object") = some true)
    (cv_TooGreat : PySem.W.subIn K (.ref C_TooGreat) (.type "ValueError") = some true)
    (s_TooGreat_NoNumber : PySem.W.subIn K (.ref C_TooGreat) (.ref C_NoNumber) = some false)
    (s_TooGreat_NoList : PySem.W.subIn K (.ref C_TooGreat) (.ref C_NoList) = some false)
    (s_TooGreat_NoFirst : PySem.W.subIn K (.ref C_TooGreat) (.ref C_NoFirst) = some false)
    (s_TooGreat_NoDown : PySem.W.subIn K (.ref C_TooGreat) (.ref C_NoDown) = some false)
    (s_TooGreat_ByNought : PySem.W.subIn K (.ref C_TooGreat) (.ref C_ByNought) = some false)
    (s_TooGreat_TooGreat : PySem.W.subIn K (.ref C_TooGreat) (.ref C_TooGreat) = some true)
    (s_TooGreat_NoText : PySem.W.subIn K (.ref C_TooGreat) (.ref C_NoText) = some false)
    (s_TooGreat_NotKept : PySem.W.subIn K (.ref C_TooGreat) (.ref C_NotKept) = some false)
    (s_TooGreat_TooLong : PySem.W.subIn K (.ref C_TooGreat) (.ref C_TooLong) = some false)
    (s_TooGreat_HalfError : PySem.W.subIn K (.ref C_TooGreat) (.ref C_HalfError) = some true)
    (cq_TooLong : PySem.W.excIn K C_TooLong [.type "ValueError", .type "Exception", .type "BaseException", .type "object"] "ValueError.__new__" = true)
    (ck_TooLong : PySem.W.keepIn K (.ref C_TooLong) = true)
    (cg_TooLong : PySem.W.findIn K (.ref C_TooLong) "__getattribute__" = some (some (.builtin "BaseException.__getattribute__")))
    (ch_TooLong : PySem.W.findIn K (.ref C_TooLong) "__getattr__" = some none)
    (ca_TooLong : PySem.W.findIn K (.ref C_TooLong) "__class__" = some (some (.builtin "object.__class__")))
    (cm_TooLong : PySem.W.mroIn K C_TooLong (.type "object") = some true)
    (cv_TooLong : PySem.W.subIn K (.ref C_TooLong) (.type "ValueError") = some true)
    (s_TooLong_NoNumber : PySem.W.subIn K (.ref C_TooLong) (.ref C_NoNumber) = some false)
    (s_TooLong_NoList : PySem.W.subIn K (.ref C_TooLong) (.ref C_NoList) = some false)
    (s_TooLong_NoFirst : PySem.W.subIn K (.ref C_TooLong) (.ref C_NoFirst) = some false)
    (s_TooLong_NoDown : PySem.W.subIn K (.ref C_TooLong) (.ref C_NoDown) = some false)
    (s_TooLong_ByNought : PySem.W.subIn K (.ref C_TooLong) (.ref C_ByNought) = some false)
    (s_TooLong_TooGreat : PySem.W.subIn K (.ref C_TooLong) (.ref C_TooGreat) = some false)
    (s_TooLong_NoText : PySem.W.subIn K (.ref C_TooLong) (.ref C_NoText) = some false)
    (s_TooLong_NotKept : PySem.W.subIn K (.ref C_TooLong) (.ref C_NotKept) = some false)
    (s_TooLong_TooLong : PySem.W.subIn K (.ref C_TooLong) (.ref C_TooLong) = some true)
    (s_TooLong_HalfError : PySem.W.subIn K (.ref C_TooLong) (.ref C_HalfError) = some true)
    (sn_ : PySem.W.specialIn K (.builtin "object.__class__") "__get__" = some (some (.builtin "getset_descriptor.__get__")))
    (st_ : PySem.W.takesIn K (.builtin "object.__class__") = some true)
    (zv_ : PySem.W.nsIn K mainGlobals "ValueError" = some none)
    (ta_NUMBERS : PySem.W.nsIn K mainGlobals "NUMBERS" = some (some (.ref A_NUMBERS)))
    (tl_NUMBERS : K.lookup A_NUMBERS = some ⟨.type "tuple", o_NUMBERS, .seq #[.str "plus" u0_NUMBERS, .str "minus" u1_NUMBERS, .str "times" u2_NUMBERS, .str "over" u3_NUMBERS, .str "less" u4_NUMBERS] n_NUMBERS, r_NUMBERS⟩)
    (ta_ALONE : PySem.W.nsIn K mainGlobals "ALONE" = some (some (.ref A_ALONE)))
    (tl_ALONE : K.lookup A_ALONE = some ⟨.type "tuple", o_ALONE, .seq #[.str "first" u0_ALONE, .str "rest" u1_ALONE, .str "empty" u2_ALONE, .str "down" u3_ALONE] n_ALONE, r_ALONE⟩) :
    ∃ fd : FuncData, (∀ (s : Shared) (v : Value), BindsTo s fd ⟨[v], []⟩ [("_law_script", v)]) ∧ ∀ base : Heap, K.In base → base.Ns mainGlobals mg → FnOk P w K mg base (L2N.CX P w) 200 fa fd ["_law_script"] (HF.spLaw K) := by
  have e := hfa.symm.trans (PySem.W.mg_of X G a37)
  cases e
  have F0 := fun_mk (st := s_is_whole) l0 c0 k0
  have b0 := F0.binds (ps := ["thing"]) fun _ _ _ _ _ _ us hl => match us, hl with | [_], _ => rfl
  have F1 := fun_mk (st := s_weight) l1 c1 k1
  have b1 := F1.binds (ps := ["value"]) fun _ _ _ _ _ _ us hl => match us, hl with | [_], _ => rfl
  have F2 := fun_mk (st := s_need_number) l2 c2 k2
  have b2 := F2.binds (ps := ["value"]) fun _ _ _ _ _ _ us hl => match us, hl with | [_], _ => rfl
  have F3 := fun_mk (st := s_need_list) l3 c3 k3
  have b3 := F3.binds (ps := ["value"]) fun _ _ _ _ _ _ us hl => match us, hl with | [_], _ => rfl
  have F4 := fun_mk (st := s_bounded) l4 c4 k4
  have b4 := F4.binds (ps := ["value"]) fun _ _ _ _ _ _ us hl => match us, hl with | [_], _ => rfl
  have F5 := fun_mk (st := s_of_numbers) l5 c5 k5
  have b5 := F5.binds (ps := ["operation", "one", "other"]) fun _ _ _ _ _ _ us hl => match us, hl with | [_, _, _], _ => rfl
  have F6 := fun_mk (st := s_of_one) l6 c6 k6
  have b6 := F6.binds (ps := ["operation", "value"]) fun _ _ _ _ _ _ us hl => match us, hl with | [_, _], _ => rfl
  have F7 := fun_mk (st := s_done) l7 c7 k7
  have b7 := F7.binds (ps := ["operation", "values"]) fun _ _ _ _ _ _ us hl => match us, hl with | [_, _], _ => rfl
  have F8 := fun_mk (st := s_is_true) l8 c8 k8
  have b8 := F8.binds (ps := ["value"]) fun _ _ _ _ _ _ us hl => match us, hl with | [_], _ => rfl
  have F9 := fun_mk (st := s_refuse) l9 c9 k9
  have b9 := F9.binds (ps := ["word"]) fun _ _ _ _ _ _ us hl => match us, hl with | [_], _ => rfl
  have F10 := fun_mk (st := s_function_of) l10 c10 k10
  have b10 := F10.binds (ps := ["program", "name"]) fun _ _ _ _ _ _ us hl => match us, hl with | [_, _], _ => rfl
  have F11 := fun_mk (st := s_taken_off) l11 c11 k11
  have b11 := F11.binds (ps := ["values", "many"]) fun _ _ _ _ _ _ us hl => match us, hl with | [_, _], _ => rfl
  have F12 := fun_mk (st := s_opened) l12 c12 k12
  have b12 := F12.binds (ps := ["work", "values", "form", "names"]) fun _ _ _ _ _ _ us hl => match us, hl with | [_, _, _, _], _ => rfl
  have F13 := fun_mk (st := s_run) l13 c13 k13
  have b13 := F13.binds (ps := ["program", "inputs", "most"]) fun _ _ _ _ _ _ us hl => match us, hl with | [_, _, _], _ => rfl
  have F14 := fun_mk (st := s_law_cell_at) l14 c14 k14
  have b14 := F14.binds (ps := ["_law_script", "_law_k"]) fun _ _ _ _ _ _ us hl => match us, hl with | [_, _], _ => rfl
  have F15 := fun_mk (st := s_law_next) l15 c15 k15
  have b15 := F15.binds (ps := ["_law_pick"]) fun _ _ _ _ _ _ us hl => match us, hl with | [_], _ => rfl
  have F16 := fun_mk (st := s_law_value) l16 c16 k16
  have b16 := F16.binds (ps := ["_law_pick"]) fun _ _ _ _ _ _ us hl => match us, hl with | [_], _ => rfl
  have F17 := fun_mk (st := s_law_same) l17 c17 k17
  have b17 := F17.binds (ps := ["_law_found", "_law_due"]) fun _ _ _ _ _ _ us hl => match us, hl with | [_, _], _ => rfl
  have F18 := fun_mk (st := s_law_weight) l18 c18 k18
  have b18 := F18.binds (ps := ["_law_value_here"]) fun _ _ _ _ _ _ us hl => match us, hl with | [_], _ => rfl
  have F19 := fun_mk (st := s_law_fit) l19 c19 k19
  have b19 := F19.binds (ps := ["_law_value_here"]) fun _ _ _ _ _ _ us hl => match us, hl with | [_], _ => rfl
  have F20 := fun_mk (st := s_law_counted) l20 c20 k20
  have b20 := F20.binds (ps := ["_law_operation", "_law_one", "_law_other"]) fun _ _ _ _ _ _ us hl => match us, hl with | [_, _, _], _ => rfl
  have F21 := fun_mk (st := s_law_taken) l21 c21 k21
  have b21 := F21.binds (ps := ["_law_operation", "_law_value_here"]) fun _ _ _ _ _ _ us hl => match us, hl with | [_, _], _ => rfl
  have F22 := fun_mk (st := s_law_done) l22 c22 k22
  have b22 := F22.binds (ps := ["_law_operation", "_law_values"]) fun _ _ _ _ _ _ us hl => match us, hl with | [_, _], _ => rfl
  have F23 := fun_mk (st := s_law_told) l23 c23 k23
  have b23 := F23.binds (ps := ["_law_program_here", "_law_form_here", "_law_names_here", "_law_count"]) fun _ _ _ _ _ _ us hl => match us, hl with | [_, _, _, _], _ => rfl
  have F24 := fun_mk (st := s_law_run) l24 c24 k24
  have b24 := F24.binds (ps := ["_law_program_here", "_law_inputs_here", "_law_most"]) fun _ _ _ _ _ _ us hl => match us, hl with | [_, _, _], _ => rfl
  have F25 := fun_mk (st := s_law_word) l25 c25 k25
  have b25 := F25.binds (ps := ["_law_e"]) fun _ _ _ _ _ _ us hl => match us, hl with | [_], _ => rfl
  have F26 := fun_mk (st := s_law_ran) l26 c26 k26
  have b26 := F26.binds (ps := ["_law_program_here", "_law_inputs_here", "_law_most"]) fun _ _ _ _ _ _ us hl => match us, hl with | [_, _, _], _ => rfl
  have F27 := fun_mk (st := s_law_names) l27 c27 k27
  have b27 := F27.binds (ps := ["_law_cell"]) fun _ _ _ _ _ _ us hl => match us, hl with | [_], _ => rfl
  have F28 := fun_mk (st := s_law_few) l28 c28 k28
  have b28 := F28.binds (ps := ["_law_pick", "_law_way"]) fun _ _ _ _ _ _ us hl => match us, hl with | [_, _], _ => rfl
  have F29 := fun_mk (st := s_law_tame) l29 c29 k29
  have b29 := F29.binds (ps := ["_law_pick", "_law_known", "_law_heads_here"]) fun _ _ _ _ _ _ us hl => match us, hl with | [_, _, _], _ => rfl
  have F30 := fun_mk (st := s_law_parts) l30 c30 k30
  have b30 := F30.binds (ps := ["_law_pick", "_law_many", "_law_deep", "_law_names_here", "_law_known", "_law_heads_here"]) fun _ _ _ _ _ _ us hl => match us, hl with | [_, _, _, _, _, _], _ => rfl
  have F31 := fun_mk (st := s_law_call) l31 c31 k31
  have b31 := F31.binds (ps := ["_law_pick", "_law_deep", "_law_names_here", "_law_known", "_law_heads_here"]) fun _ _ _ _ _ _ us hl => match us, hl with | [_, _, _, _, _], _ => rfl
  have F32 := fun_mk (st := s_law_do) l32 c32 k32
  have b32 := F32.binds (ps := ["_law_pick", "_law_deep", "_law_names_here", "_law_known", "_law_heads_here"]) fun _ _ _ _ _ _ us hl => match us, hl with | [_, _, _, _, _], _ => rfl
  have F33 := fun_mk (st := s_law_form) l33 c33 k33
  have b33 := F33.binds (ps := ["_law_pick", "_law_deep", "_law_names_here", "_law_known", "_law_heads_here"]) fun _ _ _ _ _ _ us hl => match us, hl with | [_, _, _, _, _], _ => rfl
  have F34 := fun_mk (st := s_law_heads) l34 c34 k34
  have b34 := F34.binds (ps := ["_law_script"]) fun _ _ _ _ _ _ us hl => match us, hl with | [_], _ => rfl
  have F35 := fun_mk (st := s_law_program) l35 c35 k35
  have b35 := F35.binds (ps := ["_law_script", "_law_heads_here"]) fun _ _ _ _ _ _ us hl => match us, hl with | [_, _], _ => rfl
  have F36 := fun_mk (st := s_law_topped) l36 c36 k36
  have b36 := F36.binds (ps := ["_law_script", "_law_heads_here", "_law_program_here"]) fun _ _ _ _ _ _ us hl => match us, hl with | [_, _, _], _ => rfl
  have F37 := fun_mk (st := s_law) l37 c37 k37
  have b37 := F37.binds (ps := ["_law_script"]) fun _ _ _ _ _ _ us hl => match us, hl with | [_], _ => rfl
  have B : Blt mg := Blt.mk (PySem.W.mg_none_of X G z_len) (PySem.W.mg_none_of X G z_isinstance) (PySem.W.mg_none_of X G z_abs) (PySem.W.mg_none_of X G z_int) (PySem.W.mg_none_of X G z_str) (PySem.W.mg_none_of X G z_tuple) (PySem.W.mg_none_of X G z_list) (PySem.W.mg_none_of X G z_all) (PySem.W.mg_none_of X G z_any) (PySem.W.mg_none_of X G z_sum) (PySem.W.mg_none_of X G z_range) (PySem.W.mg_none_of X G z_zip) (PySem.W.mg_none_of X G z_reversed) (PySem.W.mg_none_of X G z_bool) (PySem.W.mg_none_of X G z_set) (PySem.W.mg_none_of X G z_dict)
  refine ⟨PySem.W.fnOf "law" "law" (defArgs s_law) (defBody s_law) (defScope s_law) .none kV37 dc37 pm37 an37 cd37 ct37, fun s v => .of_eq rfl, fun base _ _ => ?_⟩
  exact main B (Has.mk X G a0 F0 b0) (Has.mk X G a1 F1 b1) (Has.mk X G a2 F2 b2) (Has.mk X G a3 F3 b3) (Has.mk X G a4 F4 b4) (Has.mk X G a5 F5 b5) (Has.mk X G a6 F6 b6) (Has.mk X G a7 F7 b7) (Has.mk X G a8 F8 b8) (Has.mk X G a9 F9 b9) (Has.mk X G a10 F10 b10) (Has.mk X G a11 F11 b11) (Has.mk X G a12 F12 b12) (Has.mk X G a13 F13 b13) (Has.mk X G a14 F14 b14) (Has.mk X G a15 F15 b15) (Has.mk X G a16 F16 b16) (Has.mk X G a17 F17 b17) (Has.mk X G a18 F18 b18) (Has.mk X G a19 F19 b19) (Has.mk X G a20 F20 b20) (Has.mk X G a21 F21 b21) (Has.mk X G a22 F22 b22) (Has.mk X G a23 F23 b23) (Has.mk X G a24 F24 b24) (Has.mk X G a25 F25 b25) (Has.mk X G a26 F26 b26) (Has.mk X G a27 F27 b27) (Has.mk X G a28 F28 b28) (Has.mk X G a29 F29 b29) (Has.mk X G a30 F30 b30) (Has.mk X G a31 F31 b31) (Has.mk X G a32 F32 b32) (Has.mk X G a33 F33 b33) (Has.mk X G a34 F34 b34) (Has.mk X G a35 F35 b35) (Has.mk X G a36 F36 b36) (GConst.int X G g_MOST_NUMBER) (GConst.int X G g_MOST_WEIGHT) (GConst.strs ["plus", "minus", "times", "over", "less"] X G ta_NUMBERS tl_NUMBERS (by simp) (.cons ⟨_, rfl⟩ (.cons ⟨_, rfl⟩ (.cons ⟨_, rfl⟩ (.cons ⟨_, rfl⟩ (.cons ⟨_, rfl⟩ (.nil))))))) (GConst.strs ["first", "rest", "empty", "down"] X G ta_ALONE tl_ALONE (by simp) (.cons ⟨_, rfl⟩ (.cons ⟨_, rfl⟩ (.cons ⟨_, rfl⟩ (.cons ⟨_, rfl⟩ (.nil)))))) (GExc.mk X G ce_NoNumber cq_NoNumber ck_NoNumber cb_NoNumber ct_NoNumber)  (GExc.mk X G ce_NoList cq_NoList ck_NoList cb_NoList ct_NoList)  (GExc.mk X G ce_NoFirst cq_NoFirst ck_NoFirst cb_NoFirst ct_NoFirst)  (GExc.mk X G ce_NoDown cq_NoDown ck_NoDown cb_NoDown ct_NoDown)  (GExc.mk X G ce_ByNought cq_ByNought ck_ByNought cb_ByNought ct_ByNought)  (GExc.mk X G ce_TooGreat cq_TooGreat ck_TooGreat cb_TooGreat ct_TooGreat)  (GExc.mk X G ce_TooLong cq_TooLong ck_TooLong cb_TooLong ct_TooLong) (GCls.mk (fun c hc => by
    simp only [excs, List.mem_cons, List.not_mem_nil, or_false] at hc
    rcases hc with rfl | rfl | rfl | rfl | rfl | rfl | rfl
    · exact ⟨_, PySem.W.mg_of X G ce_NoNumber, ⟨cg_NoNumber, ch_NoNumber, cb_NoNumber, cd_NoNumber, ca_NoNumber, sn_, st_, cm_NoNumber⟩⟩
    · exact ⟨_, PySem.W.mg_of X G ce_NoList, ⟨cg_NoList, ch_NoList, cb_NoList, cd_NoList, ca_NoList, sn_, st_, cm_NoList⟩⟩
    · exact ⟨_, PySem.W.mg_of X G ce_NoFirst, ⟨cg_NoFirst, ch_NoFirst, cb_NoFirst, cd_NoFirst, ca_NoFirst, sn_, st_, cm_NoFirst⟩⟩
    · exact ⟨_, PySem.W.mg_of X G ce_NoDown, ⟨cg_NoDown, ch_NoDown, cb_NoDown, cd_NoDown, ca_NoDown, sn_, st_, cm_NoDown⟩⟩
    · exact ⟨_, PySem.W.mg_of X G ce_ByNought, ⟨cg_ByNought, ch_ByNought, cb_ByNought, cd_ByNought, ca_ByNought, sn_, st_, cm_ByNought⟩⟩
    · exact ⟨_, PySem.W.mg_of X G ce_TooGreat, ⟨cg_TooGreat, ch_TooGreat, cb_TooGreat, cd_TooGreat, ca_TooGreat, sn_, st_, cm_TooGreat⟩⟩
    · exact ⟨_, PySem.W.mg_of X G ce_TooLong, ⟨cg_TooLong, ch_TooLong, cb_TooLong, cd_TooLong, ca_TooLong, sn_, st_, cm_TooLong⟩⟩)) (GTry.mk X G ce_HalfError cd_HalfError ct_HalfError cb_HalfError (fun c hc => by
    simp only [excs, List.mem_cons, List.not_mem_nil, or_false] at hc
    rcases hc with rfl | rfl | rfl | rfl | rfl | rfl | rfl
    · exact ⟨_, PySem.W.mg_of X G ce_NoNumber, s_NoNumber_HalfError⟩
    · exact ⟨_, PySem.W.mg_of X G ce_NoList, s_NoList_HalfError⟩
    · exact ⟨_, PySem.W.mg_of X G ce_NoFirst, s_NoFirst_HalfError⟩
    · exact ⟨_, PySem.W.mg_of X G ce_NoDown, s_NoDown_HalfError⟩
    · exact ⟨_, PySem.W.mg_of X G ce_ByNought, s_ByNought_HalfError⟩
    · exact ⟨_, PySem.W.mg_of X G ce_TooGreat, s_TooGreat_HalfError⟩
    · exact ⟨_, PySem.W.mg_of X G ce_TooLong, s_TooLong_HalfError⟩)) (GAsk.own X G ce_NoNumber cd_NoNumber ct_NoNumber (fun c hc => by
    simp only [excs, List.mem_cons, List.not_mem_nil, or_false] at hc
    rcases hc with rfl | rfl | rfl | rfl | rfl | rfl | rfl
    · exact ⟨_, PySem.W.mg_of X G ce_NoNumber, s_NoNumber_NoNumber.trans (congrArg some (by decide)), fun _ => by decide⟩
    · exact ⟨_, PySem.W.mg_of X G ce_NoList, s_NoList_NoNumber.trans (congrArg some (by decide)), fun z => by
        have q := s_NoList_NoNumber
        rw [← z, s_NoList_NoList] at q
        cases q⟩
    · exact ⟨_, PySem.W.mg_of X G ce_NoFirst, s_NoFirst_NoNumber.trans (congrArg some (by decide)), fun z => by
        have q := s_NoFirst_NoNumber
        rw [← z, s_NoFirst_NoFirst] at q
        cases q⟩
    · exact ⟨_, PySem.W.mg_of X G ce_NoDown, s_NoDown_NoNumber.trans (congrArg some (by decide)), fun z => by
        have q := s_NoDown_NoNumber
        rw [← z, s_NoDown_NoDown] at q
        cases q⟩
    · exact ⟨_, PySem.W.mg_of X G ce_ByNought, s_ByNought_NoNumber.trans (congrArg some (by decide)), fun z => by
        have q := s_ByNought_NoNumber
        rw [← z, s_ByNought_ByNought] at q
        cases q⟩
    · exact ⟨_, PySem.W.mg_of X G ce_TooGreat, s_TooGreat_NoNumber.trans (congrArg some (by decide)), fun z => by
        have q := s_TooGreat_NoNumber
        rw [← z, s_TooGreat_TooGreat] at q
        cases q⟩
    · exact ⟨_, PySem.W.mg_of X G ce_TooLong, s_TooLong_NoNumber.trans (congrArg some (by decide)), fun z => by
        have q := s_TooLong_NoNumber
        rw [← z, s_TooLong_TooLong] at q
        cases q⟩)) (GAsk.own X G ce_NoList cd_NoList ct_NoList (fun c hc => by
    simp only [excs, List.mem_cons, List.not_mem_nil, or_false] at hc
    rcases hc with rfl | rfl | rfl | rfl | rfl | rfl | rfl
    · exact ⟨_, PySem.W.mg_of X G ce_NoNumber, s_NoNumber_NoList.trans (congrArg some (by decide)), fun z => by
        have q := s_NoNumber_NoList
        rw [← z, s_NoNumber_NoNumber] at q
        cases q⟩
    · exact ⟨_, PySem.W.mg_of X G ce_NoList, s_NoList_NoList.trans (congrArg some (by decide)), fun _ => by decide⟩
    · exact ⟨_, PySem.W.mg_of X G ce_NoFirst, s_NoFirst_NoList.trans (congrArg some (by decide)), fun z => by
        have q := s_NoFirst_NoList
        rw [← z, s_NoFirst_NoFirst] at q
        cases q⟩
    · exact ⟨_, PySem.W.mg_of X G ce_NoDown, s_NoDown_NoList.trans (congrArg some (by decide)), fun z => by
        have q := s_NoDown_NoList
        rw [← z, s_NoDown_NoDown] at q
        cases q⟩
    · exact ⟨_, PySem.W.mg_of X G ce_ByNought, s_ByNought_NoList.trans (congrArg some (by decide)), fun z => by
        have q := s_ByNought_NoList
        rw [← z, s_ByNought_ByNought] at q
        cases q⟩
    · exact ⟨_, PySem.W.mg_of X G ce_TooGreat, s_TooGreat_NoList.trans (congrArg some (by decide)), fun z => by
        have q := s_TooGreat_NoList
        rw [← z, s_TooGreat_TooGreat] at q
        cases q⟩
    · exact ⟨_, PySem.W.mg_of X G ce_TooLong, s_TooLong_NoList.trans (congrArg some (by decide)), fun z => by
        have q := s_TooLong_NoList
        rw [← z, s_TooLong_TooLong] at q
        cases q⟩)) (GAsk.own X G ce_NoFirst cd_NoFirst ct_NoFirst (fun c hc => by
    simp only [excs, List.mem_cons, List.not_mem_nil, or_false] at hc
    rcases hc with rfl | rfl | rfl | rfl | rfl | rfl | rfl
    · exact ⟨_, PySem.W.mg_of X G ce_NoNumber, s_NoNumber_NoFirst.trans (congrArg some (by decide)), fun z => by
        have q := s_NoNumber_NoFirst
        rw [← z, s_NoNumber_NoNumber] at q
        cases q⟩
    · exact ⟨_, PySem.W.mg_of X G ce_NoList, s_NoList_NoFirst.trans (congrArg some (by decide)), fun z => by
        have q := s_NoList_NoFirst
        rw [← z, s_NoList_NoList] at q
        cases q⟩
    · exact ⟨_, PySem.W.mg_of X G ce_NoFirst, s_NoFirst_NoFirst.trans (congrArg some (by decide)), fun _ => by decide⟩
    · exact ⟨_, PySem.W.mg_of X G ce_NoDown, s_NoDown_NoFirst.trans (congrArg some (by decide)), fun z => by
        have q := s_NoDown_NoFirst
        rw [← z, s_NoDown_NoDown] at q
        cases q⟩
    · exact ⟨_, PySem.W.mg_of X G ce_ByNought, s_ByNought_NoFirst.trans (congrArg some (by decide)), fun z => by
        have q := s_ByNought_NoFirst
        rw [← z, s_ByNought_ByNought] at q
        cases q⟩
    · exact ⟨_, PySem.W.mg_of X G ce_TooGreat, s_TooGreat_NoFirst.trans (congrArg some (by decide)), fun z => by
        have q := s_TooGreat_NoFirst
        rw [← z, s_TooGreat_TooGreat] at q
        cases q⟩
    · exact ⟨_, PySem.W.mg_of X G ce_TooLong, s_TooLong_NoFirst.trans (congrArg some (by decide)), fun z => by
        have q := s_TooLong_NoFirst
        rw [← z, s_TooLong_TooLong] at q
        cases q⟩)) (GAsk.own X G ce_NoDown cd_NoDown ct_NoDown (fun c hc => by
    simp only [excs, List.mem_cons, List.not_mem_nil, or_false] at hc
    rcases hc with rfl | rfl | rfl | rfl | rfl | rfl | rfl
    · exact ⟨_, PySem.W.mg_of X G ce_NoNumber, s_NoNumber_NoDown.trans (congrArg some (by decide)), fun z => by
        have q := s_NoNumber_NoDown
        rw [← z, s_NoNumber_NoNumber] at q
        cases q⟩
    · exact ⟨_, PySem.W.mg_of X G ce_NoList, s_NoList_NoDown.trans (congrArg some (by decide)), fun z => by
        have q := s_NoList_NoDown
        rw [← z, s_NoList_NoList] at q
        cases q⟩
    · exact ⟨_, PySem.W.mg_of X G ce_NoFirst, s_NoFirst_NoDown.trans (congrArg some (by decide)), fun z => by
        have q := s_NoFirst_NoDown
        rw [← z, s_NoFirst_NoFirst] at q
        cases q⟩
    · exact ⟨_, PySem.W.mg_of X G ce_NoDown, s_NoDown_NoDown.trans (congrArg some (by decide)), fun _ => by decide⟩
    · exact ⟨_, PySem.W.mg_of X G ce_ByNought, s_ByNought_NoDown.trans (congrArg some (by decide)), fun z => by
        have q := s_ByNought_NoDown
        rw [← z, s_ByNought_ByNought] at q
        cases q⟩
    · exact ⟨_, PySem.W.mg_of X G ce_TooGreat, s_TooGreat_NoDown.trans (congrArg some (by decide)), fun z => by
        have q := s_TooGreat_NoDown
        rw [← z, s_TooGreat_TooGreat] at q
        cases q⟩
    · exact ⟨_, PySem.W.mg_of X G ce_TooLong, s_TooLong_NoDown.trans (congrArg some (by decide)), fun z => by
        have q := s_TooLong_NoDown
        rw [← z, s_TooLong_TooLong] at q
        cases q⟩)) (GAsk.own X G ce_ByNought cd_ByNought ct_ByNought (fun c hc => by
    simp only [excs, List.mem_cons, List.not_mem_nil, or_false] at hc
    rcases hc with rfl | rfl | rfl | rfl | rfl | rfl | rfl
    · exact ⟨_, PySem.W.mg_of X G ce_NoNumber, s_NoNumber_ByNought.trans (congrArg some (by decide)), fun z => by
        have q := s_NoNumber_ByNought
        rw [← z, s_NoNumber_NoNumber] at q
        cases q⟩
    · exact ⟨_, PySem.W.mg_of X G ce_NoList, s_NoList_ByNought.trans (congrArg some (by decide)), fun z => by
        have q := s_NoList_ByNought
        rw [← z, s_NoList_NoList] at q
        cases q⟩
    · exact ⟨_, PySem.W.mg_of X G ce_NoFirst, s_NoFirst_ByNought.trans (congrArg some (by decide)), fun z => by
        have q := s_NoFirst_ByNought
        rw [← z, s_NoFirst_NoFirst] at q
        cases q⟩
    · exact ⟨_, PySem.W.mg_of X G ce_NoDown, s_NoDown_ByNought.trans (congrArg some (by decide)), fun z => by
        have q := s_NoDown_ByNought
        rw [← z, s_NoDown_NoDown] at q
        cases q⟩
    · exact ⟨_, PySem.W.mg_of X G ce_ByNought, s_ByNought_ByNought.trans (congrArg some (by decide)), fun _ => by decide⟩
    · exact ⟨_, PySem.W.mg_of X G ce_TooGreat, s_TooGreat_ByNought.trans (congrArg some (by decide)), fun z => by
        have q := s_TooGreat_ByNought
        rw [← z, s_TooGreat_TooGreat] at q
        cases q⟩
    · exact ⟨_, PySem.W.mg_of X G ce_TooLong, s_TooLong_ByNought.trans (congrArg some (by decide)), fun z => by
        have q := s_TooLong_ByNought
        rw [← z, s_TooLong_TooLong] at q
        cases q⟩)) (GAsk.own X G ce_TooGreat cd_TooGreat ct_TooGreat (fun c hc => by
    simp only [excs, List.mem_cons, List.not_mem_nil, or_false] at hc
    rcases hc with rfl | rfl | rfl | rfl | rfl | rfl | rfl
    · exact ⟨_, PySem.W.mg_of X G ce_NoNumber, s_NoNumber_TooGreat.trans (congrArg some (by decide)), fun z => by
        have q := s_NoNumber_TooGreat
        rw [← z, s_NoNumber_NoNumber] at q
        cases q⟩
    · exact ⟨_, PySem.W.mg_of X G ce_NoList, s_NoList_TooGreat.trans (congrArg some (by decide)), fun z => by
        have q := s_NoList_TooGreat
        rw [← z, s_NoList_NoList] at q
        cases q⟩
    · exact ⟨_, PySem.W.mg_of X G ce_NoFirst, s_NoFirst_TooGreat.trans (congrArg some (by decide)), fun z => by
        have q := s_NoFirst_TooGreat
        rw [← z, s_NoFirst_NoFirst] at q
        cases q⟩
    · exact ⟨_, PySem.W.mg_of X G ce_NoDown, s_NoDown_TooGreat.trans (congrArg some (by decide)), fun z => by
        have q := s_NoDown_TooGreat
        rw [← z, s_NoDown_NoDown] at q
        cases q⟩
    · exact ⟨_, PySem.W.mg_of X G ce_ByNought, s_ByNought_TooGreat.trans (congrArg some (by decide)), fun z => by
        have q := s_ByNought_TooGreat
        rw [← z, s_ByNought_ByNought] at q
        cases q⟩
    · exact ⟨_, PySem.W.mg_of X G ce_TooGreat, s_TooGreat_TooGreat.trans (congrArg some (by decide)), fun _ => by decide⟩
    · exact ⟨_, PySem.W.mg_of X G ce_TooLong, s_TooLong_TooGreat.trans (congrArg some (by decide)), fun z => by
        have q := s_TooLong_TooGreat
        rw [← z, s_TooLong_TooLong] at q
        cases q⟩)) (GAsk.own X G ce_NoText cd_NoText ct_NoText (fun c hc => by
    simp only [excs, List.mem_cons, List.not_mem_nil, or_false] at hc
    rcases hc with rfl | rfl | rfl | rfl | rfl | rfl | rfl
    · exact ⟨_, PySem.W.mg_of X G ce_NoNumber, s_NoNumber_NoText.trans (congrArg some (by decide)), fun z => by
        have q := s_NoNumber_NoText
        rw [← z, s_NoNumber_NoNumber] at q
        cases q⟩
    · exact ⟨_, PySem.W.mg_of X G ce_NoList, s_NoList_NoText.trans (congrArg some (by decide)), fun z => by
        have q := s_NoList_NoText
        rw [← z, s_NoList_NoList] at q
        cases q⟩
    · exact ⟨_, PySem.W.mg_of X G ce_NoFirst, s_NoFirst_NoText.trans (congrArg some (by decide)), fun z => by
        have q := s_NoFirst_NoText
        rw [← z, s_NoFirst_NoFirst] at q
        cases q⟩
    · exact ⟨_, PySem.W.mg_of X G ce_NoDown, s_NoDown_NoText.trans (congrArg some (by decide)), fun z => by
        have q := s_NoDown_NoText
        rw [← z, s_NoDown_NoDown] at q
        cases q⟩
    · exact ⟨_, PySem.W.mg_of X G ce_ByNought, s_ByNought_NoText.trans (congrArg some (by decide)), fun z => by
        have q := s_ByNought_NoText
        rw [← z, s_ByNought_ByNought] at q
        cases q⟩
    · exact ⟨_, PySem.W.mg_of X G ce_TooGreat, s_TooGreat_NoText.trans (congrArg some (by decide)), fun z => by
        have q := s_TooGreat_NoText
        rw [← z, s_TooGreat_TooGreat] at q
        cases q⟩
    · exact ⟨_, PySem.W.mg_of X G ce_TooLong, s_TooLong_NoText.trans (congrArg some (by decide)), fun z => by
        have q := s_TooLong_NoText
        rw [← z, s_TooLong_TooLong] at q
        cases q⟩)) (GAsk.own X G ce_NotKept cd_NotKept ct_NotKept (fun c hc => by
    simp only [excs, List.mem_cons, List.not_mem_nil, or_false] at hc
    rcases hc with rfl | rfl | rfl | rfl | rfl | rfl | rfl
    · exact ⟨_, PySem.W.mg_of X G ce_NoNumber, s_NoNumber_NotKept.trans (congrArg some (by decide)), fun z => by
        have q := s_NoNumber_NotKept
        rw [← z, s_NoNumber_NoNumber] at q
        cases q⟩
    · exact ⟨_, PySem.W.mg_of X G ce_NoList, s_NoList_NotKept.trans (congrArg some (by decide)), fun z => by
        have q := s_NoList_NotKept
        rw [← z, s_NoList_NoList] at q
        cases q⟩
    · exact ⟨_, PySem.W.mg_of X G ce_NoFirst, s_NoFirst_NotKept.trans (congrArg some (by decide)), fun z => by
        have q := s_NoFirst_NotKept
        rw [← z, s_NoFirst_NoFirst] at q
        cases q⟩
    · exact ⟨_, PySem.W.mg_of X G ce_NoDown, s_NoDown_NotKept.trans (congrArg some (by decide)), fun z => by
        have q := s_NoDown_NotKept
        rw [← z, s_NoDown_NoDown] at q
        cases q⟩
    · exact ⟨_, PySem.W.mg_of X G ce_ByNought, s_ByNought_NotKept.trans (congrArg some (by decide)), fun z => by
        have q := s_ByNought_NotKept
        rw [← z, s_ByNought_ByNought] at q
        cases q⟩
    · exact ⟨_, PySem.W.mg_of X G ce_TooGreat, s_TooGreat_NotKept.trans (congrArg some (by decide)), fun z => by
        have q := s_TooGreat_NotKept
        rw [← z, s_TooGreat_TooGreat] at q
        cases q⟩
    · exact ⟨_, PySem.W.mg_of X G ce_TooLong, s_TooLong_NotKept.trans (congrArg some (by decide)), fun z => by
        have q := s_TooLong_NotKept
        rw [← z, s_TooLong_TooLong] at q
        cases q⟩)) (GAsk.own X G ce_TooLong cd_TooLong ct_TooLong (fun c hc => by
    simp only [excs, List.mem_cons, List.not_mem_nil, or_false] at hc
    rcases hc with rfl | rfl | rfl | rfl | rfl | rfl | rfl
    · exact ⟨_, PySem.W.mg_of X G ce_NoNumber, s_NoNumber_TooLong.trans (congrArg some (by decide)), fun z => by
        have q := s_NoNumber_TooLong
        rw [← z, s_NoNumber_NoNumber] at q
        cases q⟩
    · exact ⟨_, PySem.W.mg_of X G ce_NoList, s_NoList_TooLong.trans (congrArg some (by decide)), fun z => by
        have q := s_NoList_TooLong
        rw [← z, s_NoList_NoList] at q
        cases q⟩
    · exact ⟨_, PySem.W.mg_of X G ce_NoFirst, s_NoFirst_TooLong.trans (congrArg some (by decide)), fun z => by
        have q := s_NoFirst_TooLong
        rw [← z, s_NoFirst_NoFirst] at q
        cases q⟩
    · exact ⟨_, PySem.W.mg_of X G ce_NoDown, s_NoDown_TooLong.trans (congrArg some (by decide)), fun z => by
        have q := s_NoDown_TooLong
        rw [← z, s_NoDown_NoDown] at q
        cases q⟩
    · exact ⟨_, PySem.W.mg_of X G ce_ByNought, s_ByNought_TooLong.trans (congrArg some (by decide)), fun z => by
        have q := s_ByNought_TooLong
        rw [← z, s_ByNought_ByNought] at q
        cases q⟩
    · exact ⟨_, PySem.W.mg_of X G ce_TooGreat, s_TooGreat_TooLong.trans (congrArg some (by decide)), fun z => by
        have q := s_TooGreat_TooLong
        rw [← z, s_TooGreat_TooGreat] at q
        cases q⟩
    · exact ⟨_, PySem.W.mg_of X G ce_TooLong, s_TooLong_TooLong.trans (congrArg some (by decide)), fun _ => by decide⟩)) (GAsk.ve (PySem.W.mg_none_of X G zv_) (fun c hc => by
    simp only [excs, List.mem_cons, List.not_mem_nil, or_false] at hc
    rcases hc with rfl | rfl | rfl | rfl | rfl | rfl | rfl
    · exact ⟨_, PySem.W.mg_of X G ce_NoNumber, cv_NoNumber⟩
    · exact ⟨_, PySem.W.mg_of X G ce_NoList, cv_NoList⟩
    · exact ⟨_, PySem.W.mg_of X G ce_NoFirst, cv_NoFirst⟩
    · exact ⟨_, PySem.W.mg_of X G ce_NoDown, cv_NoDown⟩
    · exact ⟨_, PySem.W.mg_of X G ce_ByNought, cv_ByNought⟩
    · exact ⟨_, PySem.W.mg_of X G ce_TooGreat, cv_TooGreat⟩
    · exact ⟨_, PySem.W.mg_of X G ce_TooLong, cv_TooLong⟩)) F37 hfa b37
theorem walk {l : PySem.W.OpenLaw} {q : Program} {loose : List Str} {XP : (Str → Option Value) → Heap → Prop} {YP : World → Heap → Prop} {d : DefRec} {K : Params → PySem.W.Frag} (hn : l.most = some 63) (hdf : d.params.defaults = [])
    (hY : ∀ (w : World) (h : Heap), YP w h → (K w.params).In h)
    (F : ∀ (w : World) (mg : Str → Option Value) (fa : Addr) (h : Heap), (K w.params).In h → h.Ns mainGlobals mg → mg d.name = some (.ref fa) →
      ∃ fd : FuncData, (∀ (s : Shared) (u : Value), BindsTo s fd ⟨[u], []⟩ [("_law_script", u)]) ∧ ∀ base : Heap, (K w.params).In base → base.Ns mainGlobals mg → FnOk l.prog w (K w.params) mg base (L2N.CX l.prog w) 200 fa fd ["_law_script"] (HF.spLaw (K w.params))) :
    PySem.W.WalkO q loose XP YP l.row.toRowW d [] (fun f vs => PySem.call f vs) :=
  L2.walk_of (n := 63) (k := 200) (x := "_law_script") (CX := fun w => L2N.CX l.prog w) (sp := fun w => HF.spLaw (K w.params)) hn (by decide) hdf ⟨rfl, by decide, by decide⟩ hY F (fun _ _ a ns hl _ hS => spLaw_go hl hS) fun _ _ _ _ _ z => no_exc z
end HFL
open PySem PySem.W PyProof.Rows
set_option maxRecDepth 100000 in
set_option maxHeartbeats 0 in
theorem PySem.Challenge.cw_halfrun_k04_runs_holds : PySem.Challenge.rw_halfrun_k04_runs.Holds := by
  w_on; o_law; k_head; (case hw => w_witness2)
  k_fill
  refine HFL.walk (l := PySem.Challenge.rw_halfrun_k04_runs) rfl rfl (fun w h Y => PySem.W.kIn_of Y) ?F
  case F =>
    intro w mg fa h KX G hmg
    refine' HFL.all_mk KX G hmg ?a0 ?l0 ?c0 ?k0 ?a1 ?l1 ?c1 ?k1 ?a2 ?l2 ?c2 ?k2 ?a3 ?l3 ?c3 ?k3 ?a4 ?l4 ?c4 ?k4 ?a5 ?l5 ?c5 ?k5 ?a6 ?l6 ?c6 ?k6 ?a7 ?l7 ?c7 ?k7 ?a8 ?l8 ?c8 ?k8 ?a9 ?l9 ?c9 ?k9 ?a10 ?l10 ?c10 ?k10 ?a11 ?l11 ?c11 ?k11 ?a12 ?l12 ?c12 ?k12 ?a13 ?l13 ?c13 ?k13 ?a14 ?l14 ?c14 ?k14 ?a15 ?l15 ?c15 ?k15 ?a16 ?l16 ?c16 ?k16 ?a17 ?l17 ?c17 ?k17 ?a18 ?l18 ?c18 ?k18 ?a19 ?l19 ?c19 ?k19 ?a20 ?l20 ?c20 ?k20 ?a21 ?l21 ?c21 ?k21 ?a22 ?l22 ?c22 ?k22 ?a23 ?l23 ?c23 ?k23 ?a24 ?l24 ?c24 ?k24 ?a25 ?l25 ?c25 ?k25 ?a26 ?l26 ?c26 ?k26 ?a27 ?l27 ?c27 ?k27 ?a28 ?l28 ?c28 ?k28 ?a29 ?l29 ?c29 ?k29 ?a30 ?l30 ?c30 ?k30 ?a31 ?l31 ?c31 ?k31 ?a32 ?l32 ?c32 ?k32 ?a33 ?l33 ?c33 ?k33 ?a34 ?l34 ?c34 ?k34 ?a35 ?l35 ?c35 ?k35 ?a36 ?l36 ?c36 ?k36 ?a37 ?l37 ?c37 ?k37 ?z_len ?z_isinstance ?z_abs ?z_int ?z_str ?z_tuple ?z_list ?z_all ?z_any ?z_sum ?z_range ?z_zip ?z_reversed ?z_bool ?z_set ?z_dict ?g_MOST_NUMBER ?g_MOST_WEIGHT ?ce_NoNumber ?cd_NoNumber ?ct_NoNumber ?cb_NoNumber ?ce_NoList ?cd_NoList ?ct_NoList ?cb_NoList ?ce_NoFirst ?cd_NoFirst ?ct_NoFirst ?cb_NoFirst ?ce_NoDown ?cd_NoDown ?ct_NoDown ?cb_NoDown ?ce_ByNought ?cd_ByNought ?ct_ByNought ?cb_ByNought ?ce_TooGreat ?cd_TooGreat ?ct_TooGreat ?cb_TooGreat ?ce_TooLong ?cd_TooLong ?ct_TooLong ?cb_TooLong ?ce_NoText ?cd_NoText ?ct_NoText ?cb_NoText ?ce_NotKept ?cd_NotKept ?ct_NotKept ?cb_NotKept ?ce_HalfError ?cd_HalfError ?ct_HalfError ?cb_HalfError ?cq_NoNumber ?ck_NoNumber ?cg_NoNumber ?ch_NoNumber ?ca_NoNumber ?cm_NoNumber ?cv_NoNumber ?s_NoNumber_NoNumber ?s_NoNumber_NoList ?s_NoNumber_NoFirst ?s_NoNumber_NoDown ?s_NoNumber_ByNought ?s_NoNumber_TooGreat ?s_NoNumber_NoText ?s_NoNumber_NotKept ?s_NoNumber_TooLong ?s_NoNumber_HalfError ?cq_NoList ?ck_NoList ?cg_NoList ?ch_NoList ?ca_NoList ?cm_NoList ?cv_NoList ?s_NoList_NoNumber ?s_NoList_NoList ?s_NoList_NoFirst ?s_NoList_NoDown ?s_NoList_ByNought ?s_NoList_TooGreat ?s_NoList_NoText ?s_NoList_NotKept ?s_NoList_TooLong ?s_NoList_HalfError ?cq_NoFirst ?ck_NoFirst ?cg_NoFirst ?ch_NoFirst ?ca_NoFirst ?cm_NoFirst ?cv_NoFirst ?s_NoFirst_NoNumber ?s_NoFirst_NoList ?s_NoFirst_NoFirst ?s_NoFirst_NoDown ?s_NoFirst_ByNought ?s_NoFirst_TooGreat ?s_NoFirst_NoText ?s_NoFirst_NotKept ?s_NoFirst_TooLong ?s_NoFirst_HalfError ?cq_NoDown ?ck_NoDown ?cg_NoDown ?ch_NoDown ?ca_NoDown ?cm_NoDown ?cv_NoDown ?s_NoDown_NoNumber ?s_NoDown_NoList ?s_NoDown_NoFirst ?s_NoDown_NoDown ?s_NoDown_ByNought ?s_NoDown_TooGreat ?s_NoDown_NoText ?s_NoDown_NotKept ?s_NoDown_TooLong ?s_NoDown_HalfError ?cq_ByNought ?ck_ByNought ?cg_ByNought ?ch_ByNought ?ca_ByNought ?cm_ByNought ?cv_ByNought ?s_ByNought_NoNumber ?s_ByNought_NoList ?s_ByNought_NoFirst ?s_ByNought_NoDown ?s_ByNought_ByNought ?s_ByNought_TooGreat ?s_ByNought_NoText ?s_ByNought_NotKept ?s_ByNought_TooLong ?s_ByNought_HalfError ?cq_TooGreat ?ck_TooGreat ?cg_TooGreat ?ch_TooGreat ?ca_TooGreat ?cm_TooGreat ?cv_TooGreat ?s_TooGreat_NoNumber ?s_TooGreat_NoList ?s_TooGreat_NoFirst ?s_TooGreat_NoDown ?s_TooGreat_ByNought ?s_TooGreat_TooGreat ?s_TooGreat_NoText ?s_TooGreat_NotKept ?s_TooGreat_TooLong ?s_TooGreat_HalfError ?cq_TooLong ?ck_TooLong ?cg_TooLong ?ch_TooLong ?ca_TooLong ?cm_TooLong ?cv_TooLong ?s_TooLong_NoNumber ?s_TooLong_NoList ?s_TooLong_NoFirst ?s_TooLong_NoDown ?s_TooLong_ByNought ?s_TooLong_TooGreat ?s_TooLong_NoText ?s_TooLong_NotKept ?s_TooLong_TooLong ?s_TooLong_HalfError ?sn_ ?st_ ?zv_ ?ta_NUMBERS ?tl_NUMBERS ?ta_ALONE ?tl_ALONE
    (case a0 => k_is)
    (case l0 => k_is)
    (case c0 => k_is)
    (case k0 => k_is)
    (case a1 => k_is)
    (case l1 => k_is)
    (case c1 => k_is)
    (case k1 => k_is)
    (case a2 => k_is)
    (case l2 => k_is)
    (case c2 => k_is)
    (case k2 => k_is)
    (case a3 => k_is)
    (case l3 => k_is)
    (case c3 => k_is)
    (case k3 => k_is)
    (case a4 => k_is)
    (case l4 => k_is)
    (case c4 => k_is)
    (case k4 => k_is)
    (case a5 => k_is)
    (case l5 => k_is)
    (case c5 => k_is)
    (case k5 => k_is)
    (case a6 => k_is)
    (case l6 => k_is)
    (case c6 => k_is)
    (case k6 => k_is)
    (case a7 => k_is)
    (case l7 => k_is)
    (case c7 => k_is)
    (case k7 => k_is)
    (case a8 => k_is)
    (case l8 => k_is)
    (case c8 => k_is)
    (case k8 => k_is)
    (case a9 => k_is)
    (case l9 => k_is)
    (case c9 => k_is)
    (case k9 => k_is)
    (case a10 => k_is)
    (case l10 => k_is)
    (case c10 => k_is)
    (case k10 => k_is)
    (case a11 => k_is)
    (case l11 => k_is)
    (case c11 => k_is)
    (case k11 => k_is)
    (case a12 => k_is)
    (case l12 => k_is)
    (case c12 => k_is)
    (case k12 => k_is)
    (case a13 => k_is)
    (case l13 => k_is)
    (case c13 => k_is)
    (case k13 => k_is)
    (case a14 => k_is)
    (case l14 => k_is)
    (case c14 => k_is)
    (case k14 => k_is)
    (case a15 => k_is)
    (case l15 => k_is)
    (case c15 => k_is)
    (case k15 => k_is)
    (case a16 => k_is)
    (case l16 => k_is)
    (case c16 => k_is)
    (case k16 => k_is)
    (case a17 => k_is)
    (case l17 => k_is)
    (case c17 => k_is)
    (case k17 => k_is)
    (case a18 => k_is)
    (case l18 => k_is)
    (case c18 => k_is)
    (case k18 => k_is)
    (case a19 => k_is)
    (case l19 => k_is)
    (case c19 => k_is)
    (case k19 => k_is)
    (case a20 => k_is)
    (case l20 => k_is)
    (case c20 => k_is)
    (case k20 => k_is)
    (case a21 => k_is)
    (case l21 => k_is)
    (case c21 => k_is)
    (case k21 => k_is)
    (case a22 => k_is)
    (case l22 => k_is)
    (case c22 => k_is)
    (case k22 => k_is)
    (case a23 => k_is)
    (case l23 => k_is)
    (case c23 => k_is)
    (case k23 => k_is)
    (case a24 => k_is)
    (case l24 => k_is)
    (case c24 => k_is)
    (case k24 => k_is)
    (case a25 => k_is)
    (case l25 => k_is)
    (case c25 => k_is)
    (case k25 => k_is)
    (case a26 => k_is)
    (case l26 => k_is)
    (case c26 => k_is)
    (case k26 => k_is)
    (case a27 => k_is)
    (case l27 => k_is)
    (case c27 => k_is)
    (case k27 => k_is)
    (case a28 => k_is)
    (case l28 => k_is)
    (case c28 => k_is)
    (case k28 => k_is)
    (case a29 => k_is)
    (case l29 => k_is)
    (case c29 => k_is)
    (case k29 => k_is)
    (case a30 => k_is)
    (case l30 => k_is)
    (case c30 => k_is)
    (case k30 => k_is)
    (case a31 => k_is)
    (case l31 => k_is)
    (case c31 => k_is)
    (case k31 => k_is)
    (case a32 => k_is)
    (case l32 => k_is)
    (case c32 => k_is)
    (case k32 => k_is)
    (case a33 => k_is)
    (case l33 => k_is)
    (case c33 => k_is)
    (case k33 => k_is)
    (case a34 => k_is)
    (case l34 => k_is)
    (case c34 => k_is)
    (case k34 => k_is)
    (case a35 => k_is)
    (case l35 => k_is)
    (case c35 => k_is)
    (case k35 => k_is)
    (case a36 => k_is)
    (case l36 => k_is)
    (case c36 => k_is)
    (case k36 => k_is)
    (case a37 => k_is)
    (case l37 => k_is)
    (case c37 => k_is)
    (case k37 => k_is)
    (case z_len => k_is)
    (case z_isinstance => k_is)
    (case z_abs => k_is)
    (case z_int => k_is)
    (case z_str => k_is)
    (case z_tuple => k_is)
    (case z_list => k_is)
    (case z_all => k_is)
    (case z_any => k_is)
    (case z_sum => k_is)
    (case z_range => k_is)
    (case z_zip => k_is)
    (case z_reversed => k_is)
    (case z_bool => k_is)
    (case z_set => k_is)
    (case z_dict => k_is)
    (case g_MOST_NUMBER => k_is)
    (case g_MOST_WEIGHT => k_is)
    (case ce_NoNumber => k_is)
    (case cd_NoNumber => k_is)
    (case ct_NoNumber => k_is)
    (case cb_NoNumber => k_is)
    (case ce_NoList => k_is)
    (case cd_NoList => k_is)
    (case ct_NoList => k_is)
    (case cb_NoList => k_is)
    (case ce_NoFirst => k_is)
    (case cd_NoFirst => k_is)
    (case ct_NoFirst => k_is)
    (case cb_NoFirst => k_is)
    (case ce_NoDown => k_is)
    (case cd_NoDown => k_is)
    (case ct_NoDown => k_is)
    (case cb_NoDown => k_is)
    (case ce_ByNought => k_is)
    (case cd_ByNought => k_is)
    (case ct_ByNought => k_is)
    (case cb_ByNought => k_is)
    (case ce_TooGreat => k_is)
    (case cd_TooGreat => k_is)
    (case ct_TooGreat => k_is)
    (case cb_TooGreat => k_is)
    (case ce_TooLong => k_is)
    (case cd_TooLong => k_is)
    (case ct_TooLong => k_is)
    (case cb_TooLong => k_is)
    (case ce_NoText => k_is)
    (case cd_NoText => k_is)
    (case ct_NoText => k_is)
    (case cb_NoText => k_is)
    (case ce_NotKept => k_is)
    (case cd_NotKept => k_is)
    (case ct_NotKept => k_is)
    (case cb_NotKept => k_is)
    (case ce_HalfError => k_is)
    (case cd_HalfError => k_is)
    (case ct_HalfError => k_is)
    (case cb_HalfError => k_is)
    (case cq_NoNumber => k_exc)
    (case ck_NoNumber => k_is)
    (case cg_NoNumber => k_is)
    (case ch_NoNumber => k_is)
    (case ca_NoNumber => k_is)
    (case cm_NoNumber => k_is)
    (case cv_NoNumber => k_is)
    (case s_NoNumber_NoNumber => k_is)
    (case s_NoNumber_NoList => k_is)
    (case s_NoNumber_NoFirst => k_is)
    (case s_NoNumber_NoDown => k_is)
    (case s_NoNumber_ByNought => k_is)
    (case s_NoNumber_TooGreat => k_is)
    (case s_NoNumber_NoText => k_is)
    (case s_NoNumber_NotKept => k_is)
    (case s_NoNumber_TooLong => k_is)
    (case s_NoNumber_HalfError => k_is)
    (case cq_NoList => k_exc)
    (case ck_NoList => k_is)
    (case cg_NoList => k_is)
    (case ch_NoList => k_is)
    (case ca_NoList => k_is)
    (case cm_NoList => k_is)
    (case cv_NoList => k_is)
    (case s_NoList_NoNumber => k_is)
    (case s_NoList_NoList => k_is)
    (case s_NoList_NoFirst => k_is)
    (case s_NoList_NoDown => k_is)
    (case s_NoList_ByNought => k_is)
    (case s_NoList_TooGreat => k_is)
    (case s_NoList_NoText => k_is)
    (case s_NoList_NotKept => k_is)
    (case s_NoList_TooLong => k_is)
    (case s_NoList_HalfError => k_is)
    (case cq_NoFirst => k_exc)
    (case ck_NoFirst => k_is)
    (case cg_NoFirst => k_is)
    (case ch_NoFirst => k_is)
    (case ca_NoFirst => k_is)
    (case cm_NoFirst => k_is)
    (case cv_NoFirst => k_is)
    (case s_NoFirst_NoNumber => k_is)
    (case s_NoFirst_NoList => k_is)
    (case s_NoFirst_NoFirst => k_is)
    (case s_NoFirst_NoDown => k_is)
    (case s_NoFirst_ByNought => k_is)
    (case s_NoFirst_TooGreat => k_is)
    (case s_NoFirst_NoText => k_is)
    (case s_NoFirst_NotKept => k_is)
    (case s_NoFirst_TooLong => k_is)
    (case s_NoFirst_HalfError => k_is)
    (case cq_NoDown => k_exc)
    (case ck_NoDown => k_is)
    (case cg_NoDown => k_is)
    (case ch_NoDown => k_is)
    (case ca_NoDown => k_is)
    (case cm_NoDown => k_is)
    (case cv_NoDown => k_is)
    (case s_NoDown_NoNumber => k_is)
    (case s_NoDown_NoList => k_is)
    (case s_NoDown_NoFirst => k_is)
    (case s_NoDown_NoDown => k_is)
    (case s_NoDown_ByNought => k_is)
    (case s_NoDown_TooGreat => k_is)
    (case s_NoDown_NoText => k_is)
    (case s_NoDown_NotKept => k_is)
    (case s_NoDown_TooLong => k_is)
    (case s_NoDown_HalfError => k_is)
    (case cq_ByNought => k_exc)
    (case ck_ByNought => k_is)
    (case cg_ByNought => k_is)
    (case ch_ByNought => k_is)
    (case ca_ByNought => k_is)
    (case cm_ByNought => k_is)
    (case cv_ByNought => k_is)
    (case s_ByNought_NoNumber => k_is)
    (case s_ByNought_NoList => k_is)
    (case s_ByNought_NoFirst => k_is)
    (case s_ByNought_NoDown => k_is)
    (case s_ByNought_ByNought => k_is)
    (case s_ByNought_TooGreat => k_is)
    (case s_ByNought_NoText => k_is)
    (case s_ByNought_NotKept => k_is)
    (case s_ByNought_TooLong => k_is)
    (case s_ByNought_HalfError => k_is)
    (case cq_TooGreat => k_exc)
    (case ck_TooGreat => k_is)
    (case cg_TooGreat => k_is)
    (case ch_TooGreat => k_is)
    (case ca_TooGreat => k_is)
    (case cm_TooGreat => k_is)
    (case cv_TooGreat => k_is)
    (case s_TooGreat_NoNumber => k_is)
    (case s_TooGreat_NoList => k_is)
    (case s_TooGreat_NoFirst => k_is)
    (case s_TooGreat_NoDown => k_is)
    (case s_TooGreat_ByNought => k_is)
    (case s_TooGreat_TooGreat => k_is)
    (case s_TooGreat_NoText => k_is)
    (case s_TooGreat_NotKept => k_is)
    (case s_TooGreat_TooLong => k_is)
    (case s_TooGreat_HalfError => k_is)
    (case cq_TooLong => k_exc)
    (case ck_TooLong => k_is)
    (case cg_TooLong => k_is)
    (case ch_TooLong => k_is)
    (case ca_TooLong => k_is)
    (case cm_TooLong => k_is)
    (case cv_TooLong => k_is)
    (case s_TooLong_NoNumber => k_is)
    (case s_TooLong_NoList => k_is)
    (case s_TooLong_NoFirst => k_is)
    (case s_TooLong_NoDown => k_is)
    (case s_TooLong_ByNought => k_is)
    (case s_TooLong_TooGreat => k_is)
    (case s_TooLong_NoText => k_is)
    (case s_TooLong_NotKept => k_is)
    (case s_TooLong_TooLong => k_is)
    (case s_TooLong_HalfError => k_is)
    (case sn_ => k_is)
    (case st_ => k_is)
    (case zv_ => k_is)
    (case ta_NUMBERS => k_is)
    (case tl_NUMBERS => k_is)
    (case ta_ALONE => k_is)
    (case tl_ALONE => k_is)
