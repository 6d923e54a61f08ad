import PyProof.Rows.All
import Wide.All
import OpenK.AllK
import Wide.FinOn
import HandS.ForMost
import HandS.Flow
import HandS.Style
import HandS.Deep
import HandS.Conv
import HandS.Codes
import HandS.TupAny
import HandS.TupMul
import HandS.SortInts
import HandS.IsInst
import HandS.Zip
import HandS.TupLe
import HandS.Wide
import HandS.Walk
import KE.KeyNested
import PyProof.ListMulRoad
import PyProof.FactsAll.tuple_2
import HandS.NoneIn
import KE.GoesEnum
import KE.GoesMore
import PyProof.Rows.TupDisplay
import PyProof.Rows.TupTab
import HandS.RaiseMore
import PySem.Challenge.RW_stolenvoices_k55_whole_chain_partings
set_option Elab.async false
set_option linter.all false
set_option autoImplicit false
set_option maxRecDepth 100000
set_option maxHeartbeats 4000000
/-! DL1: a data layer over the hand layer. Values as trees (PyData); an expression's reading is a function from an environment of data to data; this file: the heaps, the environments, expressions. -/
namespace DL
open PySem L2

/-- the written part and the world -/
structure KW where
  K : PySem.W.Frag
  w : World
abbrev kw (X : Cx) : KW := ⟨X.K, X.w⟩

/-! ### data at values -/
/-- the object o at a, as it stands -/
def objO (a : Addr) (o : Obj) : HO := .ext fun h => h.get? a = some o
/-- a plain dict object with these entries -/
def DOk (o : Obj) (es : List DictEntry) : Prop := o.ExactDict ∧ ∃ ep, o.data = .dict es.toArray ep

mutual
/-- a key up to == -/
def nkOf : PyData → Option NestedKey
  | .none => some .none
  | .bool b => some (.num (if b = true then 1 else 0))
  | .int i => some (.num i)
  | .str x => some (.text x)
  | .tuple ds => (nkAll ds).bind fun ks => some (.tup ks)
  | .list _ => none
  | .dict _ => none
def nkAll : List PyData → Option (List NestedKey)
  | [] => some []
  | d :: ds => (nkOf d).bind fun k => (nkAll ds).bind fun ks => some (k :: ks)
end
mutual
/-- the value v is the tree d (lists and dicts stand in H itself) -/
inductive Rv (K : KW) (H : Hp) : V → PyData → Prop
  | non : Rv K H .non .none
  | bl (b : Bool) : Rv K H (.bl b) (.bool b)
  | int (i : Int) : Rv K H (.int i) (.int i)
  | str (x : Str) : Rv K H (.str x) (.str x)
  | lst {a : Addr} {vs : List V} {ds : List PyData} : H a = some (.lst vs) → RvA K H vs ds → Rv K H (.ref a) (.list ds)
  | tup {a : Addr} {vs : List V} {ds : List PyData} : SqT K.K H a vs → RvA K H vs ds → Rv K H (.ref a) (.tuple ds)
  | dct {a : Addr} {o : Obj} {es : List DictEntry} {kvs : List (PyData × PyData)} : H a = some (objO a o) → (a == sysModules) = false → DOk o es → RvE K H es kvs → Rv K H (.ref a) (.dict kvs)
inductive RvA (K : KW) (H : Hp) : List V → List PyData → Prop
  | nil : RvA K H [] []
  | cons {v : V} {vs : List V} {d : PyData} {ds : List PyData} : Rv K H v d → RvA K H vs ds → RvA K H (v :: vs) (d :: ds)
/-- the entries of a dict whose keys are tuples -/
inductive RvE (K : KW) (H : Hp) : List DictEntry → List (PyData × PyData) → Prop
  | nil : RvE K H [] []
  | cons {e : DictEntry} {es : List DictEntry} {k x : PyData} {kvs : List (PyData × PyData)} {a : Addr} {v : V} {n : NestedKey} : nkOf k = some n → n.depth ≤ 8 → (∀ q ∈ kvs, nkOf q.1 ≠ some n) → e.hash = n.hash K.w → e.key = .ref a → Rv K H (.ref a) k → RelV v e.val → Rv K H v x → RvE K H es kvs → RvE K H (e :: es) ((k, x) :: kvs)
end

theorem same_t {K : PySem.W.Frag} {H H' : Hp} {a : Addr} {xs : List V} (e : Same H H') (h : SqT K H a xs) : SqT K H' a xs := by
  rcases h with (h | ⟨o, h⟩) | h
  · exact .inl (.inl (e _ _ h))
  · exact .inl (.inr ⟨o, e _ _ h⟩)
  · exact .inr h

section
variable {K : KW} {H H' : Hp}
mutual
theorem Rv.same (e : Same H H') {d : PyData} {v : V} : Rv K H v d → Rv K H' v d
  | .non => .non
  | .bl b => .bl b
  | .int i => .int i
  | .str x => .str x
  | .lst h a => .lst (e _ _ h) (RvA.same e a)
  | .tup h a => .tup (same_t e h) (RvA.same e a)
  | .dct h z o r => .dct (e _ _ h) z o (RvE.same e r)
theorem RvA.same (e : Same H H') {ds : List PyData} {vs : List V} : RvA K H vs ds → RvA K H' vs ds
  | .nil => .nil
  | .cons h t => .cons (Rv.same e h) (RvA.same e t)
theorem RvE.same (e : Same H H') {es : List DictEntry} {kvs : List (PyData × PyData)} : RvE K H es kvs → RvE K H' es kvs
  | .nil => .nil
  | .cons k1 k2 k3 k4 h1 h2 h3 h4 t => .cons k1 k2 k3 k4 h1 (Rv.same e h2) h3 (Rv.same e h4) (RvE.same e t)
end
mutual
theorem Rv.dp (e : Same H H') : ∀ (d : PyData) (v : V), d.canLay0 = true → Rv K H v d → Dp K.K H' v d
  | .none, _, _, h => by cases h; exact .non
  | .bool b, _, _, h => by cases h; exact .bl b
  | .int i, _, _, h => by cases h; exact .int i
  | .str x, _, _, h => by cases h; exact .str x
  | .list ds, _, c, h => by
    cases h with
    | lst hs ha => exact .lst (SqL.of (e _ _ hs)) (RvA.dp e ds _ (by simpa only [PyData.canLay0] using c) ha)
  | .tuple ds, _, c, h => by
    cases h with
    | tup hs ha => exact .tup (same_t e hs) (RvA.dp e ds _ (by simpa only [PyData.canLay0] using c) ha)
  | .dict _, _, c, _ => by simp [PyData.canLay0] at c
theorem RvA.dp (e : Same H H') : ∀ (ds : List PyData) (vs : List V), PyData.canLayAll0 ds = true → RvA K H vs ds → DpAll K.K H' vs ds
  | [], _, _, h => by cases h; exact .nil
  | d :: ds, _, c, h => by
    simp only [PyData.canLayAll0, Bool.and_eq_true] at c
    cases h with
    | cons h1 h2 => exact .cons (Rv.dp e d _ c.1 h1) (RvA.dp e ds _ c.2 h2)
end
theorem RvA.len {vs : List V} {ds : List PyData} (h : RvA K H vs ds) : vs.length = ds.length := by
  induction ds generalizing vs with
  | nil => cases h; rfl
  | cons d ds ih =>
    cases h with
    | cons h1 h2 => rw [List.length_cons, List.length_cons, ih h2]
theorem RvA.app {vs ws : List V} {ds es : List PyData} (h : RvA K H vs ds) (g : RvA K H ws es) : RvA K H (vs ++ ws) (ds ++ es) := by
  induction ds generalizing vs with
  | nil => cases h; exact g
  | cons d ds ih =>
    cases h with
    | cons h1 h2 => exact .cons h1 (ih h2)
theorem RvA.one {v : V} {d : PyData} (h : Rv K H v d) : RvA K H [v] [d] := .cons h .nil
theorem RvA.rev {vs : List V} {ds : List PyData} (h : RvA K H vs ds) : RvA K H vs.reverse ds.reverse := by
  induction ds generalizing vs with
  | nil => cases h; exact .nil
  | cons d ds ih =>
    cases h with
    | cons h1 h2 =>
      rw [List.reverse_cons, List.reverse_cons]
      exact (ih h2).app (.one h1)
theorem RvA.drop {vs : List V} {ds : List PyData} (h : RvA K H vs ds) (n : Nat) : RvA K H (vs.drop n) (ds.drop n) := by
  induction n generalizing vs ds with
  | zero => exact h
  | succ n ih =>
    cases h with
    | nil => exact .nil
    | cons h1 h2 => exact ih h2
theorem RvA.take {vs : List V} {ds : List PyData} (h : RvA K H vs ds) (n : Nat) : RvA K H (vs.take n) (ds.take n) := by
  induction n generalizing vs ds with
  | zero => exact .nil
  | succ n ih =>
    cases h with
    | nil => exact .nil
    | cons h1 h2 => exact .cons h1 (ih h2)
theorem RvA.get {vs : List V} {ds : List PyData} (h : RvA K H vs ds) {i : Nat} {d : PyData} (e : ds[i]? = some d) : ∃ v, vs[i]? = some v ∧ Rv K H v d := by
  induction i generalizing vs ds with
  | zero =>
    cases h with
    | nil => cases e
    | cons h1 h2 => exact ⟨_, rfl, by cases e; exact h1⟩
  | succ i ih =>
    cases h with
    | nil => cases e
    | cons h1 h2 => exact ih h2 e
theorem RvA.getV {vs : List V} {ds : List PyData} (h : RvA K H vs ds) {i : Nat} {v : V} (e : vs[i]? = some v) : ∃ d, ds[i]? = some d ∧ Rv K H v d := by
  induction i generalizing vs ds with
  | zero =>
    cases h with
    | nil => cases e
    | cons h1 h2 => exact ⟨_, rfl, by cases e; exact h1⟩
  | succ i ih =>
    cases h with
    | nil => cases e
    | cons h1 h2 => exact ih h2 e
theorem RvA.rep {vs : List V} {ds : List PyData} (h : RvA K H vs ds) : ∀ n : Nat, RvA K H (List.replicate n vs).flatten (List.replicate n ds).flatten
  | 0 => .nil
  | n + 1 => by
    rw [List.replicate_succ, List.replicate_succ, List.flatten_cons, List.flatten_cons]
    exact h.app (RvA.rep h n)
theorem RvA.ints : ∀ ns : List Int, RvA K H (ns.map V.int) (ns.map PyData.int)
  | [] => .nil
  | n :: ns => .cons (.int n) (RvA.ints ns)
theorem RvA.of_ints : ∀ {ns : List Int} {vs : List V}, RvA K H vs (ns.map PyData.int) → vs = ns.map V.int
  | [], _, h => by cases h; rfl
  | n :: ns, _, h => by
    cases h with
    | cons h1 h2 => cases h1; rw [RvA.of_ints h2]; rfl
end

/-! ### how heaps grow -/
/-- from (H, its quiet part Hs) to (H', Hs'): all of H is kept, what was in H outside of Hs stays outside of Hs' -/
structure Gr (H Hs Hs' H' : Hp) : Prop where
  qq : Same Hs Hs'
  qh : Same Hs' H'
  hh : Same H H'
  out : ∀ b, Hs b = none → H b ≠ none → Hs' b = none
theorem Gr.refl {H Hs : Hp} (s : Same Hs H) : Gr H Hs Hs H := ⟨Same.refl _, s, Same.refl _, fun _ h _ => h⟩
theorem Gr.trans {H Hs Hs1 H1 Hs2 H2 : Hp} (a : Gr H Hs Hs1 H1) (b : Gr H1 Hs1 Hs2 H2) : Gr H Hs Hs2 H2 :=
  ⟨a.qq.trans b.qq, b.qh, a.hh.trans b.hh, fun c h1 h2 => b.out c (a.out c h1 h2) fun z => by
    cases q : H c with
    | none => exact h2 q
    | some o => rw [a.hh c o q] at z; cases z⟩
theorem same_upd {H : Hp} {p : Addr} {o : HO} (h : H p = none) : Same H (upd H p o) := fun b u e => by
  rw [upd_ne (ne_of_none e h)]; exact e
theorem Gr.new {H Hs : Hp} {p : Addr} {o : HO} (s : Same Hs H) (h : H p = none) : Gr H Hs (upd Hs p o) (upd H p o) :=
  ⟨same_upd (s.free h), fun b u e => by
    by_cases z : b = p
    · subst z; rw [upd_same] at e ⊢; exact e
    · rw [upd_ne z] at e ⊢; exact s b u e, same_upd h, fun b h1 h2 => by
    have z : b ≠ p := fun z => h2 (by rw [z]; exact h)
    rw [upd_ne z]; exact h1⟩
/-- a new object that is not (yet) in the quiet part -/
theorem Gr.side {H Hs : Hp} {p : Addr} {o : HO} (s : Same Hs H) (h : H p = none) : Gr H Hs Hs (upd H p o) :=
  ⟨Same.refl _, s.trans (same_upd h), same_upd h, fun _ h _ => h⟩

/-! ### environments -/
/-- what a slot holds: a tree; a list of its own that may still grow; a dict of its own (keys ints and texts); nothing that is known -/
inductive Cell where
  | d (x : PyData) | ol (xs : List PyData) | ok (kvs : List (Key × PyData)) | od (kvs : List (PyData × PyData)) | no
abbrev En := List Cell

/-- the entries of a dict -/
def KvR (K : KW) (H : Hp) : List (Key × V) → List (Key × PyData) → Prop := Paired fun p q => p.1 = q.1 ∧ Rv K H p.2 q.2
theorem Paired.imp {α β : Type} {F G : α → β → Prop} : ∀ {l : List α} {m : List β}, Paired F l m → (∀ a b, F a b → G a b) → Paired G l m
  | _, _, .nil, _ => .nil
  | _, _, .cons r t, f => .cons (f _ _ r) (Paired.imp t f)
theorem KvR.same {K : KW} {H H' : Hp} (e : Same H H') {l : List (Key × V)} {m : List (Key × PyData)} (h : KvR K H l m) : KvR K H' l m :=
  Paired.imp h fun _ _ r => ⟨r.1, Rv.same e r.2⟩

/-- a value of a slot's own kind at v: it stands at an address that is neither in Hs nor in Hb -/
def Own (K : KW) (Hb Hs H : Hp) (v : V) : Cell → Prop
  | .d x => Rv K Hs v x
  | .ol xs => ∃ a vs, v = .ref a ∧ H a = some (.lst vs) ∧ Hs a = none ∧ Hb a = none ∧ RvA K Hs vs xs
  | .ok kvs => ∃ a us, v = .ref a ∧ H a = some (.dK us) ∧ Hs a = none ∧ Hb a = none ∧ KvR K Hs us kvs
  | .od kvs => ∃ a o es, v = .ref a ∧ H a = some (objO a o) ∧ (a == sysModules) = false ∧ Hs a = none ∧ Hb a = none ∧ DOk o es ∧ RvE K Hs es kvs
  | .no => True
def Cell.own : Cell → Bool
  | .ol _ | .ok _ | .od _ => true
  | _ => false

structure Rp (K : KW) (Hb Hs : Hp) (σ : St) (H : Hp) (env : En) : Prop where
  qh : Same Hs H
  bh : Same Hb H
  len : σ.length = env.length
  at_ : ∀ (i : Nat) (c : Cell), env[i]? = some c → c ≠ .no → ∃ v, σ[i]? = some (some v) ∧ Own K Hb Hs H v c
  apart : ∀ (i j : Nat) (c c' : Cell) (a : Addr), env[i]? = some c → env[j]? = some c' → c.own = true → c'.own = true → σ[i]? = some (some (.ref a)) → σ[j]? = some (some (.ref a)) → i = j

theorem Own.gr {K : KW} {Hb Hs H Hs' H' : Hp} {v : V} {c : Cell} (g : Gr H Hs Hs' H') (h : Own K Hb Hs H v c) : Own K Hb Hs' H' v c := by
  cases c with
  | d x => exact Rv.same g.qq h
  | ol xs =>
    obtain ⟨a, vs, e, h1, h2, h3, h4⟩ := h
    exact ⟨a, vs, e, g.hh _ _ h1, g.out a h2 (by rw [h1]; exact fun z => nomatch z), h3, RvA.same g.qq h4⟩
  | ok kvs =>
    obtain ⟨a, vs, e, h1, h2, h3, h4⟩ := h
    exact ⟨a, vs, e, g.hh _ _ h1, g.out a h2 (by rw [h1]; exact fun z => nomatch z), h3, h4.same g.qq⟩
  | od kvs =>
    obtain ⟨a, o, es, e, h1, hs, h2, h3, h4, h5⟩ := h
    exact ⟨a, o, es, e, g.hh _ _ h1, hs, g.out a h2 (by rw [h1]; exact fun z => nomatch z), h3, h4, RvE.same g.qq h5⟩
  | no => exact True.intro
theorem Rp.gr {K : KW} {Hb Hs H Hs' H' : Hp} {σ : St} {env : En} (r : Rp K Hb Hs σ H env) (g : Gr H Hs Hs' H') : Rp K Hb Hs' σ H' env :=
  ⟨g.qh, r.bh.trans g.hh, r.len, fun i c e n => by
    obtain ⟨v, h1, h2⟩ := r.at_ i c e n
    exact ⟨v, h1, h2.gr g⟩, r.apart⟩

/-! ### expressions -/
abbrev Fx := En → Option PyData
abbrev Fa := En → Option (List PyData)
abbrev Ft := En → Option Bool
def tD (K : KW) (f : Fx) : TE := fun σ H Q => ∃ Hb Hs env d, Rp K Hb Hs σ H env ∧ f env = some d ∧ ∀ v Hs' H', Gr H Hs Hs' H' → Rv K Hs' v d → Q v H'
def tDA (K : KW) (f : Fa) : TA := fun σ H Q => ∃ Hb Hs env ds, Rp K Hb Hs σ H env ∧ f env = some ds ∧ ∀ vs Hs' H', Gr H Hs Hs' H' → RvA K Hs' vs ds → Q vs H'
def tDT (K : KW) (f : Ft) : TT := fun σ H Q => ∃ Hb Hs env b, Rp K Hb Hs σ H env ∧ f env = some b ∧ ∀ Hs' H', Gr H Hs Hs' H' → Q b H'
abbrev PD (X : Cx) (e : Expr) (f : Fx) : Prop := PE X e (tD (kw X) f)
abbrev PDA (X : Cx) (es : List Expr) (f : Fa) : Prop := PA X es (tDA (kw X) f)
abbrev PDT (X : Cx) (e : Expr) (f : Ft) : Prop := PT X e (tDT (kw X) f)
abbrev PDW (X : Cx) (e : Expr) (f : Ft) : Prop := PW X e (tDT (kw X) f)

section
variable {X : Cx} {e a b : Expr} {pos : Pos}
theorem pe_weak {t u : TE} (h : PE X e t) (w : ∀ σ H Q, u σ H Q → t σ H Q) : PE X e u := ⟨fun pins s σ H Q I q => h.run pins s σ H Q I (w σ H Q q)⟩
theorem pt_weak {t u : TT} (h : PT X e t) (w : ∀ σ H Q, u σ H Q → t σ H Q) : PT X e u := ⟨fun pins s σ H Q I q => h.run pins s σ H Q I (w σ H Q q)⟩
theorem pw_weak {t u : TT} (h : PW X e t) (w : ∀ σ H Q, u σ H Q → t σ H Q) : PW X e u := ⟨fun wh pins s σ H Q I q => h.run wh pins s σ H Q I (w σ H Q q)⟩
theorem pa_weak {es : List Expr} {t u : TA} (h : PA X es t) (w : ∀ σ H Q, u σ H Q → t σ H Q) : PA X es u := ⟨fun ps pins s σ H Q I q => h.run ps pins s σ H Q I (w σ H Q q)⟩

/-- a name -/
def eVar (i : Nat) : Fx := fun env => match env[i]? with
  | some (.d x) => some x
  | _ => none
theorem eVar_some {i : Nat} {env : En} {d : PyData} (h : eVar i env = some d) : env[i]? = some (.d d) := by
  unfold eVar at h
  split at h
  · rename_i x e; cases h; exact e
  · cases h
theorem pd_of {t : TE} {f : Fx} (h : PE X e t) (w : ∀ σ H Q, tD (kw X) f σ H Q → t σ H Q) : PD X e f := pe_weak h w
theorem pd_var {i : Nat} {x : Str} (h : PE X (.Name x pos) (tVar i)) : PD X (.Name x pos) (eVar i) := by
  refine pe_weak h fun σ H Q ⟨Hb, Hs, env, d, R, e, q⟩ => ?_
  obtain ⟨v, h1, h2⟩ := R.at_ i _ (eVar_some e) (fun z => nomatch z)
  exact ⟨v, h1, q v Hs H (Gr.refl R.qh) h2⟩
/-- a constant -/
def eC (d : PyData) : Fx := fun _ => some d
theorem pd_c {v : V} {d : PyData} (h : PE X e (tC v)) (r : ∀ Hs, Rv (kw X) Hs v d) : PD X e (eC d) := by
  refine pe_weak h fun σ H Q ⟨Hb, Hs, env, d', R, e, q⟩ => ?_
  cases e
  exact q v Hs H (Gr.refl R.qh) (r Hs)
theorem pd_int {i : Int} {j} : PD X (.Constant (.int i) j pos) (eC (.int i)) := pd_c pe_int fun _ => .int i
theorem pd_str {x : Str} {j} : PD X (.Constant (.str x) j pos) (eC (.str x)) := pd_c pe_str fun _ => .str x
theorem pd_bl {c : Bool} {j} : PD X (.Constant (.bool c) j pos) (eC (.bool c)) := pd_c pe_bl fun _ => .bl c
theorem pd_non {j} : PD X (.Constant .none j pos) (eC .none) := pd_c pe_non fun _ => .non
/-- a module's constant -/
def GlD (K : KW) (mg : Str → Option Value) (x : Str) (d : PyData) : Prop := ∃ v u, mg x = some u ∧ RelV v u ∧ ∀ Hs, Rv K Hs v d
theorem pd_gl {x : Str} {d : PyData} (g : GlD (kw X) X.mg x d) (hg : Gl X x) (hd : (x == ("__debug__" : Str)) = false := by decide) : PD X (.Name x pos) (eC d) := by
  obtain ⟨v, u, hm, r, h⟩ := g
  exact pd_c (pe_glob hg hm r hd) h

/-! lists of arguments -/
def aNil : Fa := fun _ => some []
def aCons (f : Fx) (fs : Fa) : Fa := fun env => (f env).bind fun x => (fs env).bind fun xs => some (x :: xs)
theorem pda_nil : PDA X [] aNil := by
  refine pa_weak pa_nil fun σ H Q ⟨Hb, Hs, env, ds, R, e, q⟩ => ?_
  cases e
  exact q [] Hs H (Gr.refl R.qh) .nil
theorem aCons_some {f : Fx} {fs : Fa} {env : En} {ds : List PyData} (h : aCons f fs env = some ds) : ∃ x xs, f env = some x ∧ fs env = some xs ∧ ds = x :: xs := by
  unfold aCons at h
  cases h1 : f env with
  | none => rw [h1] at h; cases h
  | some x =>
    rw [h1] at h
    cases h2 : fs env with
    | none => rw [h2] at h; cases h
    | some xs => rw [h2] at h; cases h; exact ⟨x, xs, rfl, rfl, rfl⟩
theorem tD_cons {K : KW} {f : Fx} {fs : Fa} {σ : St} {H : Hp} {Q : List V → Hp → Prop} (h : tDA K (aCons f fs) σ H Q) : tD K f σ H fun v H1 => tDA K fs σ H1 fun vs H2 => Q (v :: vs) H2 := by
  obtain ⟨Hb, Hs, env, ds, R, e, q⟩ := h
  obtain ⟨x, xs, e1, e2, rfl⟩ := aCons_some e
  refine ⟨Hb, Hs, env, x, R, e1, fun v Hs1 H1 g1 r1 => ⟨Hb, Hs1, env, xs, R.gr g1, e2, fun vs Hs2 H2 g2 r2 => ?_⟩⟩
  exact q _ Hs2 H2 (g1.trans g2) (.cons (Rv.same g2.qq r1) r2)
theorem pda_cons {es : List Expr} {f : Fx} {fs : Fa} (h : PD X e f) (hs : PDA X es fs) (he : starEach (e :: es) X.env = (false, eval e X.env) :: starEach es X.env := by rfl) : PDA X (e :: es) (aCons f fs) :=
  pa_weak (pa_cons h hs he) fun _ _ _ q => tD_cons q

/-! operators -/
def OpD (K : KW) (r : R2) (g : PyData → PyData → Option PyData) : Prop :=
  ∀ (v u : V) (x y d : PyData) (H Hs : Hp) (Q : VK), Same Hs H → Rv K Hs v x → Rv K Hs u y → g x y = some d → (∀ w Hs' H', Gr H Hs Hs' H' → Rv K Hs' w d → Q w H') → r v u H Q
def eB (g : PyData → PyData → Option PyData) (fa fb : Fx) : Fx := fun env => (fa env).bind fun x => (fb env).bind fun y => g x y
theorem eB_some {g : PyData → PyData → Option PyData} {fa fb : Fx} {env : En} {d : PyData} (h : eB g fa fb env = some d) : ∃ x y, fa env = some x ∧ fb env = some y ∧ g x y = some d := by
  unfold eB at h
  cases h1 : fa env with
  | none => rw [h1] at h; cases h
  | some x =>
    rw [h1] at h
    cases h2 : fb env with
    | none => rw [h2] at h; cases h
    | some y => rw [h2] at h; exact ⟨x, y, rfl, rfl, h⟩
theorem tD_B {K : KW} {r : R2} {g : PyData → PyData → Option PyData} {fa fb : Fx} (o : OpD K r g) {σ : St} {H : Hp} {Q : VK} (h : tD K (eB g fa fb) σ H Q) : tOp r (tD K fa) (tD K fb) σ H Q := by
  obtain ⟨Hb, Hs, env, d, R, e, q⟩ := h
  obtain ⟨x, y, e1, e2, e3⟩ := eB_some e
  refine ⟨Hb, Hs, env, x, R, e1, fun v Hs1 H1 g1 r1 => ⟨Hb, Hs1, env, y, R.gr g1, e2, fun u Hs2 H2 g2 r2 => ?_⟩⟩
  exact o v u x y d H2 Hs2 Q g2.qh (Rv.same g2.qq r1) r2 e3 fun w Hs3 H3 g3 r3 => q w Hs3 H3 (g1.trans (g2.trans g3)) r3
theorem pd_bin {op : Operator} {r : R2} {g : PyData → PyData → Option PyData} {fa fb : Fx} (ho : OpR X (binaryOp op) r) (o : OpD (kw X) r g) (ha : PD X a fa) (hb : PD X b fb) : PD X (.BinOp a op b pos) (eB g fa fb) :=
  pe_weak (pe_op ho ha hb) fun _ _ _ q => tD_B o q
theorem pd_cmp {op : CmpOp} {r : R2} {g : PyData → PyData → Option PyData} {fa fb : Fx} (ho : OpR X (compareOp op) r) (o : OpD (kw X) r g) (ha : PD X a fa) (hb : PD X b fb) (hm : behindInMarks op b = false) : PD X (.Compare a [op] [b] pos) (eB g fa fb) :=
  pe_weak (pe_cmpR ho ha hb hm) fun _ _ _ q => tD_B o q
/-- the two ways of one operator -/
theorem OpD.or {K : KW} {r r' : R2} {g g' k : PyData → PyData → Option PyData} (h : OpD K r g) (h' : OpD K r' g') (hk : ∀ x y d, k x y = some d → g x y = some d ∨ g' x y = some d) : OpD K (fun x y H Q => r x y H Q ∨ r' x y H Q) k :=
  fun v u x y d H Hs Q s r1 r2 e q => by
    rcases hk x y d e with z | z
    · exact .inl (h v u x y d H Hs Q s r1 r2 z q)
    · exact .inr (h' v u x y d H Hs Q s r1 r2 z q)
end
end DL

/-! DL2: operators, comparisons, subscripts, slices, displays, tests of the data layer. -/
namespace DL
open PySem L2

abbrev G2 := PyData → PyData → Option PyData
def line : Nat := 10000000

/-! ### + -/
def gAddI : G2
  | .int i, .int j => some (.int (i + j))
  | _, _ => none
def gAddL : G2
  | .list xs, .list ys => if xs.length + ys.length ≤ line then some (.list (xs ++ ys)) else none
  | _, _ => none
def gAddT : G2
  | .tuple xs, .tuple ys => if xs.length + ys.length ≤ line then some (.tuple (xs ++ ys)) else none
  | _, _ => none
def gAdd : G2
  | .int i, .int j => some (.int (i + j))
  | .list xs, .list ys => if xs.length + ys.length ≤ line then some (.list (xs ++ ys)) else none
  | .tuple xs, .tuple ys => if xs.length + ys.length ≤ line then some (.tuple (xs ++ ys)) else none
  | _, _ => none
section
variable {K : KW}
/-- a new list, a new tuple, handed on -/
theorem qL {H Hs : Hp} {Q : VK} {ds : List PyData} {vs : List V} {p : Addr} (s : Same Hs H) (hp : H p = none) (a : RvA K Hs vs ds) (q : ∀ w Hs' H', Gr H Hs Hs' H' → Rv K Hs' w (.list ds) → Q w H') : Q (.ref p) (upd H p (.lst vs)) := by
  have g := Gr.new (o := .lst vs) s hp
  exact q _ _ _ g (.lst upd_same (RvA.same g.qq a))
theorem qT {H Hs : Hp} {Q : VK} {ds : List PyData} {vs : List V} {p : Addr} (s : Same Hs H) (hp : H p = none) (a : RvA K Hs vs ds) (q : ∀ w Hs' H', Gr H Hs Hs' H' → Rv K Hs' w (.tuple ds) → Q w H') : Q (.ref p) (upd H p (.tup vs)) := by
  have g := Gr.new (o := .tup vs) s hp
  exact q _ _ _ g (.tup (SqT.of upd_same) (RvA.same g.qq a))
theorem line_ok {n : Nat} (h : n ≤ line) : n ≤ sizeLine := Nat.le_trans h (by decide)
theorem line_lt {n : Nat} (h : n ≤ line) : n < sizeLine := Nat.lt_of_le_of_lt h (by decide)
theorem od_I0 {f : Int → Int → Int} {g : G2} (hg : ∀ x y d, g x y = some d → ∃ i j, x = .int i ∧ y = .int j ∧ d = .int (f i j)) : OpD K (rI0 fun i j => .int (f i j)) g := fun v u x y d H Hs Q s r1 r2 e q => by
  obtain ⟨i, j, rfl, rfl, rfl⟩ := hg x y d e
  cases r1; cases r2
  exact ⟨i, j, rfl, rfl, q _ Hs H (Gr.refl s) (.int _)⟩
theorem od_B0 {f : Int → Int → Bool} {g : G2} (hg : ∀ x y d, g x y = some d → ∃ i j, x = .int i ∧ y = .int j ∧ d = .bool (f i j)) : OpD K (rI0 fun i j => .bl (f i j)) g := fun v u x y d H Hs Q s r1 r2 e q => by
  obtain ⟨i, j, rfl, rfl, rfl⟩ := hg x y d e
  cases r1; cases r2
  exact ⟨i, j, rfl, rfl, q _ Hs H (Gr.refl s) (.bl _)⟩
theorem od_addI : OpD K (rI0 fun i j => .int (i + j)) gAddI := od_I0 fun x y d e => by
  unfold gAddI at e
  split at e <;> cases e
  exact ⟨_, _, rfl, rfl, rfl⟩
theorem od_addL : OpD K rCat gAddL := fun v u x y d H Hs Q s r1 r2 e q => by
  unfold gAddL at e
  split at e
  · rename_i xs ys
    by_cases hz : xs.length + ys.length ≤ line
    · rw [if_pos hz] at e; cases e
      cases r1 with
      | lst h1 a1 =>
        cases r2 with
        | lst h2 a2 =>
          refine ⟨_, _, _, _, rfl, rfl, s _ _ h1, s _ _ h2, by rw [a1.len, a2.len]; exact line_ok hz, fun p hp => ?_⟩
          exact qL s hp (a1.app a2) q
    · rw [if_neg hz] at e; cases e
  · cases e
theorem od_addT : OpD K (rCatA K.K) gAddT := fun v u x y d H Hs Q s r1 r2 e q => by
  unfold gAddT at e
  split at e
  · rename_i xs ys
    by_cases hz : xs.length + ys.length ≤ line
    · rw [if_pos hz] at e; cases e
      cases r1 with
      | tup h1 a1 =>
        cases r2 with
        | tup h2 a2 =>
          refine ⟨_, _, _, _, rfl, rfl, same_t s h1, same_t s h2, by rw [a1.len, a2.len]; exact line_ok hz, fun z => ?_, fun _ z => ?_, fun _ _ p hp => ?_⟩
          · subst z; cases a1
            exact q _ _ _ (Gr.refl s) (.tup h2 a2)
          · subst z; cases a2
            rw [List.append_nil] at q
            exact q _ _ _ (Gr.refl s) (.tup h1 a1)
          · exact qT s hp (a1.app a2) q
    · rw [if_neg hz] at e; cases e
  · cases e
def rAdd3 (K : PySem.W.Frag) : R2 := fun x y H Q => (rI0 fun i j => .int (i + j)) x y H Q ∨ (rCat x y H Q ∨ rCatA K x y H Q)
theorem od_add : OpD K (rAdd3 K.K) gAdd := fun v u x y d H Hs Q s r1 r2 e q => by
  unfold gAdd at e
  split at e
  · exact .inl (od_addI v u _ _ d H Hs Q s r1 r2 e q)
  · exact .inr (.inl (od_addL v u _ _ d H Hs Q s r1 r2 e q))
  · exact .inr (.inr (od_addT v u _ _ d H Hs Q s r1 r2 e q))
  · cases e
end
section
variable {X : Cx} {a b : Expr} {fa fb : Fx} {pos : Pos}
theorem op_add3 : OpR X (binaryOp .Add) (rAdd3 X.K) := OpR.or op_add (OpR.or op_cat op_catA)
theorem pd_add (ha : PD X a fa) (hb : PD X b fb) : PD X (.BinOp a .Add b pos) (eB gAdd fa fb) := pd_bin op_add3 od_add ha hb
end

/-! ### - -/
def gSub : G2
  | .int i, .int j => some (.int (i - j))
  | _, _ => none
theorem pd_sub {X : Cx} {a b : Expr} {fa fb : Fx} {pos : Pos} (ha : PD X a fa) (hb : PD X b fb) : PD X (.BinOp a .Sub b pos) (eB gSub fa fb) := pd_bin op_sub (od_I0 fun x y d e => by
  unfold gSub at e
  split at e <;> cases e
  exact ⟨_, _, rfl, rfl, rfl⟩) ha hb

/-! ### sequences repeated -/
def gMulL : G2
  | .list xs, .int k => if 0 ≤ k ∧ k ≤ 1000 ∧ xs.length ≤ 1000 then some (.list (List.replicate k.toNat xs).flatten) else none
  | _, _ => none
def gMulT : G2
  | .tuple xs, .int k => if 1 ≤ k ∧ k ≤ 1000 ∧ xs.length ≤ 1000 ∧ xs ≠ [] then some (.tuple (List.replicate k.toNat xs).flatten) else none
  | _, _ => none
def gMul : G2
  | .list xs, .int k => gMulL (.list xs) (.int k)
  | .tuple xs, .int k => gMulT (.tuple xs) (.int k)
  | _, _ => none
/-- t * 1 is t itself -/
theorem tuple_mul1 (l : Addr) (items : Array Value) (n : Nat) (dd : Option Addr) (sl : Array (Option Value)) (u : Tok) :
    Meets (Builtin.«tuple.__mul__» ⟨[.ref l, .int 1 u], []⟩) (fun _ R s => s.heap.get? l = some { cls := .type "tuple", dict := dd, data := .seq items n, slots := sl } ∧ R (.ok (.ret (.ref l))) s) :=
  .of_wp fun prog w A R s h => by
    obtain ⟨hp, g, d, tk, os⟩ := s
    obtain ⟨hl, h⟩ := h
    have f1 := AutoSeq1.idx_int
    have c0 : (decide ((1 : Int) < -(2 ^ 63)) || decide ((1 : Int) ≥ 2 ^ 63)) = false := by decide
    have c1 : (items.isEmpty || (1 : Int) == 1) = true := by simp
    wp_walk using wpAny_loadPart' hl
    repeat (first
      | (refine wpAny_ite_false (decide_eq_false (by rw [c0]; exact Bool.false_ne_true)) ?_; wp_walk using wpAny_loadPart' hl)
      | (refine wpAny_ite_true (decide_eq_true (by rw [c1])) ?_; wp_walk using wpAny_loadPart' hl))
    all_goals exact ⟨_, rfl, h⟩
def rRep1 (K : PySem.W.Frag) : R2 := fun x y H Q => ∃ l xs, x = .ref l ∧ y = .int 1 ∧ SqT K H l xs ∧ Q (.ref l) H
theorem op_rep1 {X : Cx} : OpR X (binaryOp .Mult) (rRep1 X.K) := by
  intro pins s σ H x y v u Q I rx ry h
  obtain ⟨l, xs, rfl, rfl, hT, q⟩ := h
  cases rx
  obtain ⟨t, rfl⟩ := ry
  obtain ⟨its, r, ⟨⟨cls, dd, data, sl⟩, ho, hc, n, hd⟩, hs⟩ := I.tuple hT
  simp only at hc hd
  subst hc hd
  exact wpAny_binaryOp_repeat_ref (T := "tuple") (U := "int") (by decide) ⟨_, ho, rfl⟩ (fun s' => typeIs_int s' 1 t) noFill_tuple_mul PySem.F.fills_int_mul PySem.F.slot_int_rmul repeat_tuple PySem.F.slot_int_index.lookup
    (call_meets PySem.F.slot_int_rmul (typeIs_int s 1 t) PySem.F.entry_int_rmul (PySem.F.args_int_rmul_2 _ _) (int_rmul_tuple 1 t l its.toArray n dd sl)
      ⟨ho, rfl, ⟨_, ho, rfl⟩, call_meets PySem.F.slot_tuple_mul ⟨_, ho, rfl⟩ PySem.F.entry_tuple_mul (PySem.F.args_tuple_mul_2 _ _) (tuple_mul1 l its.toArray n dd sl t) ⟨ho, .ref l, H, I, rfl, q⟩⟩)
def rMul3 (K : PySem.W.Frag) : R2 := fun x y H Q => rRep x y H Q ∨ (rRep1 K x y H Q ∨ rRepT K x y H Q)
theorem op_mul3 {X : Cx} : OpR X (binaryOp .Mult) (rMul3 X.K) := OpR.or op_rep (OpR.or op_rep1 op_repT)
theorem od_mul {K : KW} : OpD K (rMul3 K.K) gMul := fun v u x y d H Hs Q s r1 r2 e q => by
  unfold gMul at e
  split at e
  · rename_i xs k
    unfold gMulL at e
    simp only at e
    by_cases hz : 0 ≤ k ∧ k ≤ 1000 ∧ xs.length ≤ 1000
    · rw [if_pos hz] at e; cases e
      cases r1 with
      | lst h1 a1 =>
        cases r2
        refine .inl ⟨_, _, _, rfl, rfl, s _ _ h1, by omega, by omega, ?_, fun p hp => qL s hp (a1.rep _) q⟩
        rw [a1.len]
        exact line_ok (Nat.le_trans (Nat.mul_le_mul hz.2.2 (show k.toNat ≤ 1000 by omega)) (by decide))
    · rw [if_neg hz] at e; cases e
  · rename_i xs k
    unfold gMulT at e
    simp only at e
    by_cases hz : 1 ≤ k ∧ k ≤ 1000 ∧ xs.length ≤ 1000 ∧ xs ≠ []
    · rw [if_pos hz] at e; cases e
      cases r1 with
      | tup h1 a1 =>
        cases r2
        by_cases k1 : k = 1
        · subst k1
          refine .inr (.inl ⟨_, _, rfl, rfl, same_t s h1, q _ _ _ (Gr.refl s) ?_⟩)
          have e1 : (List.replicate (1 : Int).toNat xs).flatten = xs := by simp [List.replicate]
          rw [e1]
          exact .tup h1 a1
        · refine .inr (.inr ⟨_, _, _, rfl, rfl, same_t s h1, fun z => hz.2.2.2 ?_, by omega, hz.2.1, by rw [a1.len]; exact hz.2.2.1, fun p hp => qT s hp (a1.rep _) q⟩)
          subst z; cases a1; rfl
    · rw [if_neg hz] at e; cases e
  · cases e
theorem pd_mul {X : Cx} {a b : Expr} {fa fb : Fx} {pos : Pos} (ha : PD X a fa) (hb : PD X b fb) : PD X (.BinOp a .Mult b pos) (eB gMul fa fb) := pd_bin op_mul3 od_mul ha hb

/-! ### comparisons -/
def gEq : G2 := fun x y => if (SeqAt.shaped x && SeqAt.shaped y) = true then some (.bool (PyData.eqv x y)) else none
def gNe : G2 := fun x y => if (SeqAt.shaped x && SeqAt.shaped y) = true then some (.bool (!PyData.eqv x y)) else none
def gCmp (p : Int → Int → Bool) : G2
  | .int i, .int j => some (.bool (p i j))
  | _, _ => none
def isNo : PyData → Bool
  | .none => true
  | _ => false
def gIsN : G2 := fun x y => match y with
  | .none => some (.bool (isNo x))
  | _ => none
def gNotN : G2 := fun x y => match y with
  | .none => some (.bool (!isNo x))
  | _ => none
def gNotB : G2
  | .bool a, .bool b => some (.bool (!decide (a = b)))
  | _, _ => none
def flatD : PyData → Bool
  | .none | .bool _ | .int _ | .str _ => true
  | _ => false
def gInT (neg : Bool) : G2 := fun x y => match y with
  | .tuple ds => if (SeqAt.shaped x && SeqAt.shaped (.tuple ds)) = true then some (.bool (if neg then !(ds.any fun z => PyData.eqv z x) else ds.any fun z => PyData.eqv z x)) else none
  | _ => none
def gInL (neg : Bool) : G2 := fun x y => match y with
  | .list ds => if (SeqAt.shaped x && SeqAt.shaped (.list ds)) = true then some (.bool (if neg then !(ds.any fun z => PyData.eqv z x) else ds.any fun z => PyData.eqv z x)) else none
  | _ => none
def gIn (neg : Bool) : G2 := fun x y => match y with
  | .list ds => gInL neg x (.list ds)
  | .tuple ds => gInT neg x (.tuple ds)
  | _ => none
section
variable {K : KW}
theorem sh2 {x y : PyData} {o d : PyData} (e : (if (SeqAt.shaped x && SeqAt.shaped y) = true then some o else none) = some d) : SeqAt.shaped x = true ∧ SeqAt.shaped y = true ∧ o = d := by
  by_cases h : (SeqAt.shaped x && SeqAt.shaped y) = true
  · rw [if_pos h] at e
    rw [Bool.and_eq_true] at h
    exact ⟨h.1, h.2, Option.some.inj e⟩
  · rw [if_neg h] at e; cases e
theorem od_eq : OpD K (rEqD K.K) gEq := fun v u x y d H Hs Q s r1 r2 e q => by
  obtain ⟨h1, h2, rfl⟩ := sh2 e
  exact ⟨x, y, Rv.dp s _ _ (SeqAt.canLay_of_shaped h1) r1, Rv.dp s _ _ (SeqAt.canLay_of_shaped h2) r2, h1, h2, q _ _ _ (Gr.refl s) (.bl _)⟩
theorem od_ne : OpD K (rNeD K.K) gNe := fun v u x y d H Hs Q s r1 r2 e q => by
  obtain ⟨h1, h2, rfl⟩ := sh2 e
  exact ⟨x, y, Rv.dp s _ _ (SeqAt.canLay_of_shaped h1) r1, Rv.dp s _ _ (SeqAt.canLay_of_shaped h2) r2, h1, h2, q _ _ _ (Gr.refl s) (.bl _)⟩
theorem od_cmp {p : Int → Int → Bool} : OpD K (rI0 fun i j => .bl (p i j)) (gCmp p) := od_B0 fun x y d e => by
  unfold gCmp at e
  split at e <;> cases e
  exact ⟨_, _, rfl, rfl, rfl⟩
theorem rv_non {H : Hp} {v : V} {d : PyData} (r : Rv K H v d) : decide (v = .non) = isNo d := by
  cases r <;> rfl
def rIsNn : R2 := fun x y H Q => y = .non ∧ Q (.bl (decide (x = .non))) H
def rNotNn : R2 := fun x y H Q => y = .non ∧ Q (.bl (!decide (x = .non))) H
theorem od_isN : OpD K rIsNn gIsN := fun v u x y d H Hs Q s r1 r2 e q => by
  unfold gIsN at e
  split at e
  · cases e; cases r2
    exact ⟨rfl, by rw [rv_non r1]; exact q _ _ _ (Gr.refl s) (.bl _)⟩
  · cases e
theorem od_notN : OpD K rNotNn gNotN := fun v u x y d H Hs Q s r1 r2 e q => by
  unfold gNotN at e
  split at e
  · cases e; cases r2
    exact ⟨rfl, by rw [rv_non r1]; exact q _ _ _ (Gr.refl s) (.bl _)⟩
  · cases e
theorem od_notB : OpD K rNotB gNotB := fun v u x y d H Hs Q s r1 r2 e q => by
  unfold gNotB at e
  split at e <;> cases e
  cases r1; cases r2
  exact ⟨_, _, rfl, rfl, q _ _ _ (Gr.refl s) (.bl _)⟩
def rInDT (K : PySem.W.Frag) (neg : Bool) : R2 := fun x y H Q => ∃ d ds, Dp K H x d ∧ Dp K H y (.tuple ds) ∧ SeqAt.shaped d = true ∧ SeqAt.shaped (.tuple ds) = true ∧ Q (.bl (if neg then !(ds.any fun z => PyData.eqv z d) else ds.any fun z => PyData.eqv z d)) H
end
section
variable {X : Cx}
theorem op_inDT (hu : X.A.units + 65 < cLine) : OpR X (compareOp .In) (rInDT X.K false) := by
  intro pins s σ H x y v u Q I rx ry h
  obtain ⟨d, ds, hd, he, sd, se, q⟩ := h
  obtain ⟨as, r1⟩ := Dp.reads I d x v hd rx
  obtain ⟨bs, r2⟩ := Dp.reads I (.tuple ds) y u he ry
  exact SeqAt.in_tuple_reads r2 r1 (SeqAt.canLay_of_shaped se) (SeqAt.canLay_of_shaped sd) (PyProof.Rows.room_in_shaped sd hu) ⟨.bl _, H, I, rfl, q⟩
theorem op_notInDT (hu : X.A.units + 65 < cLine) : OpR X (compareOp .NotIn) (rInDT X.K true) := by
  intro pins s σ H x y v u Q I rx ry h
  obtain ⟨d, ds, hd, he, sd, se, q⟩ := h
  obtain ⟨as, r1⟩ := Dp.reads I d x v hd rx
  obtain ⟨bs, r2⟩ := Dp.reads I (.tuple ds) y u he ry
  exact SeqAt.notIn_tuple_reads r2 r1 (SeqAt.canLay_of_shaped se) (SeqAt.canLay_of_shaped sd) (PyProof.Rows.room_in_shaped sd hu) ⟨.bl _, H, I, rfl, q⟩
theorem od_inT {K : KW} {neg : Bool} : OpD K (rInDT K.K neg) (gInT neg) := fun v u x y d H Hs Q s r1 r2 e q => by
  unfold gInT at e
  split at e
  · obtain ⟨h1, h2, rfl⟩ := sh2 e
    exact ⟨x, _, Rv.dp s _ _ (SeqAt.canLay_of_shaped h1) r1, Rv.dp s _ _ (SeqAt.canLay_of_shaped h2) r2, h1, h2, q _ _ _ (Gr.refl s) (.bl _)⟩
  · cases e
theorem od_inL {K : KW} : OpD K (rInD K.K) (gInL false) := fun v u x y d H Hs Q s r1 r2 e q => by
  unfold gInL at e
  split at e
  · obtain ⟨h1, h2, rfl⟩ := sh2 e
    exact ⟨x, _, Rv.dp s _ _ (SeqAt.canLay_of_shaped h1) r1, Rv.dp s _ _ (SeqAt.canLay_of_shaped h2) r2, h1, h2, q _ _ _ (Gr.refl s) (.bl _)⟩
  · cases e
theorem od_notInL {K : KW} : OpD K (rNotInD K.K) (gInL true) := fun v u x y d H Hs Q s r1 r2 e q => by
  unfold gInL at e
  split at e
  · obtain ⟨h1, h2, rfl⟩ := sh2 e
    exact ⟨x, _, Rv.dp s _ _ (SeqAt.canLay_of_shaped h1) r1, Rv.dp s _ _ (SeqAt.canLay_of_shaped h2) r2, h1, h2, q _ _ _ (Gr.refl s) (.bl _)⟩
  · cases e
theorem od_in {K : KW} : OpD K (fun x y H Q => rInD K.K x y H Q ∨ rInDT K.K false x y H Q) (gIn false) := od_inL.or od_inT fun x y d e => by
  unfold gIn at e
  split at e
  · exact .inl e
  · exact .inr e
  · cases e
theorem od_notIn {K : KW} : OpD K (fun x y H Q => rNotInD K.K x y H Q ∨ rInDT K.K true x y H Q) (gIn true) := od_notInL.or od_inT fun x y d e => by
  unfold gIn at e
  split at e
  · exact .inl e
  · exact .inr e
  · cases e
variable {a b : Expr} {fa fb : Fx} {pos : Pos}
theorem room_u {k : Nat} {A : Around} (r : Room k A) : A.units + 65 < cLine := by have := r.un; omega
theorem pd_eq {k : Nat} (hr : Room k X.A) (ha : PD X a fa) (hb : PD X b fb) : PD X (.Compare a [.Eq] [b] pos) (eB gEq fa fb) := pd_cmp (op_eqD (by have := room_u hr; omega)) od_eq ha hb (nobehind _ (by decide) (by decide))
theorem pd_ne {k : Nat} (hr : Room k X.A) (ha : PD X a fa) (hb : PD X b fb) : PD X (.Compare a [.NotEq] [b] pos) (eB gNe fa fb) := pd_cmp (op_neD (by have := room_u hr; omega)) od_ne ha hb (nobehind _ (by decide) (by decide))
theorem pd_lt (ha : PD X a fa) (hb : PD X b fb) : PD X (.Compare a [.Lt] [b] pos) (eB (gCmp fun i j => decide (i < j)) fa fb) := pd_cmp op_lt od_cmp ha hb (nobehind _ (by decide) (by decide))
theorem pd_le (ha : PD X a fa) (hb : PD X b fb) : PD X (.Compare a [.LtE] [b] pos) (eB (gCmp fun i j => decide (i ≤ j)) fa fb) := pd_cmp op_le od_cmp ha hb (nobehind _ (by decide) (by decide))
theorem pd_gt (ha : PD X a fa) (hb : PD X b fb) : PD X (.Compare a [.Gt] [b] pos) (eB (gCmp fun i j => decide (j < i)) fa fb) := pd_cmp op_gt od_cmp ha hb (nobehind _ (by decide) (by decide))
theorem pd_ge (ha : PD X a fa) (hb : PD X b fb) : PD X (.Compare a [.GtE] [b] pos) (eB (gCmp fun i j => decide (j ≤ i)) fa fb) := pd_cmp op_ge od_cmp ha hb (nobehind _ (by decide) (by decide))
theorem pd_isN (ha : PD X a fa) (hb : PD X b fb) : PD X (.Compare a [.Is] [b] pos) (eB gIsN fa fb) := pd_cmp (r := rIsNn) op_isN od_isN ha hb (nobehind _ (by decide) (by decide))
theorem pd_notN (ha : PD X a fa) (hb : PD X b fb) : PD X (.Compare a [.IsNot] [b] pos) (eB gNotN fa fb) := pd_cmp (r := rNotNn) op_notN od_notN ha hb (nobehind _ (by decide) (by decide))
theorem pd_notB (ha : PD X a fa) (hb : PD X b fb) : PD X (.Compare a [.IsNot] [b] pos) (eB gNotB fa fb) := pd_cmp op_notBl od_notB ha hb (nobehind _ (by decide) (by decide))
theorem pd_in {k : Nat} (hr : Room k X.A) (ha : PD X a fa) (hb : PD X b fb) (hm : behindInMarks .In b = false := by rfl) : PD X (.Compare a [.In] [b] pos) (eB (gIn false) fa fb) := pd_cmp (OpR.or (op_inD (room_u hr)) (op_inDT (room_u hr))) od_in ha hb hm
theorem pd_notIn {k : Nat} (hr : Room k X.A) (ha : PD X a fa) (hb : PD X b fb) (hm : behindInMarks .NotIn b = false := by rfl) : PD X (.Compare a [.NotIn] [b] pos) (eB (gIn true) fa fb) := pd_cmp (OpR.or (op_notInD (room_u hr)) (op_notInDT (room_u hr))) od_notIn ha hb hm
end
end DL

/-! DL3: subscripts, slices, displays, tests, calls of the data layer. -/
namespace DL
open PySem L2

section
variable {X : Cx} {a b c e : Expr} {fa fb fc f : Fx} {pos : Pos}

/-! ### comparisons as tests, as values -/
theorem pdc {op : CmpOp} {r : R2} {g : G2} (ho : OpR X (compareOp op) r) (o : OpD (kw X) r g) (ha : PD X a fa) (hb : PD X b fb) : PC X op a b (tD (kw X) (eB g fa fb)) := by
  refine ⟨fun pins s σ H Q I h => ?_⟩
  exact bin ha hb (R := fun x y H2 => r x y H2 Q) I (tD_B o h) fun v u s2 x y H2 I2 rx ry q => ho pins s2 σ H2 x y v u Q I2 rx ry q
abbrev PDC (X : Cx) (op : CmpOp) (a b : Expr) (f : Fx) : Prop := PC X op a b (tD (kw X) f)
theorem pdc_eq {k : Nat} (hr : Room k X.A) (ha : PD X a fa) (hb : PD X b fb) : PDC X .Eq a b (eB gEq fa fb) := pdc (op_eqD (by have := room_u hr; omega)) od_eq ha hb
theorem pdc_ne {k : Nat} (hr : Room k X.A) (ha : PD X a fa) (hb : PD X b fb) : PDC X .NotEq a b (eB gNe fa fb) := pdc (op_neD (by have := room_u hr; omega)) od_ne ha hb
theorem pdc_lt (ha : PD X a fa) (hb : PD X b fb) : PDC X .Lt a b (eB (gCmp fun i j => decide (i < j)) fa fb) := pdc op_lt od_cmp ha hb
theorem pdc_le (ha : PD X a fa) (hb : PD X b fb) : PDC X .LtE a b (eB (gCmp fun i j => decide (i ≤ j)) fa fb) := pdc op_le od_cmp ha hb
theorem pdc_gt (ha : PD X a fa) (hb : PD X b fb) : PDC X .Gt a b (eB (gCmp fun i j => decide (j < i)) fa fb) := pdc op_gt od_cmp ha hb
theorem pdc_ge (ha : PD X a fa) (hb : PD X b fb) : PDC X .GtE a b (eB (gCmp fun i j => decide (j ≤ i)) fa fb) := pdc op_ge od_cmp ha hb
theorem pdc_isN (ha : PD X a fa) (hb : PD X b fb) : PDC X .Is a b (eB gIsN fa fb) := pdc (r := rIsNn) op_isN od_isN ha hb
theorem pdc_notN (ha : PD X a fa) (hb : PD X b fb) : PDC X .IsNot a b (eB gNotN fa fb) := pdc (r := rNotNn) op_notN od_notN ha hb
theorem pdc_notB (ha : PD X a fa) (hb : PD X b fb) : PDC X .IsNot a b (eB gNotB fa fb) := pdc op_notBl od_notB ha hb
theorem pdc_in {k : Nat} (hr : Room k X.A) (ha : PD X a fa) (hb : PD X b fb) : PDC X .In a b (eB (gIn false) fa fb) := pdc (OpR.or (op_inD (room_u hr)) (op_inDT (room_u hr))) od_in ha hb
theorem pdc_notIn {k : Nat} (hr : Room k X.A) (ha : PD X a fa) (hb : PD X b fb) : PDC X .NotIn a b (eB (gIn true) fa fb) := pdc (OpR.or (op_notInD (room_u hr)) (op_notInDT (room_u hr))) od_notIn ha hb
theorem pd_C {op : CmpOp} (h : PDC X op a b f) (hm : behindInMarks op b = false := by first | exact nobehind _ (by decide) (by decide) | rfl) : PD X (.Compare a [op] [b] pos) f := pe_cmp h hm

/-! ### tests -/
def boolOf : PyData → Option Bool
  | .bool c => some c
  | _ => none
theorem boolOf_some {d : PyData} {c : Bool} (h : boolOf d = some c) : d = .bool c := by
  cases d <;> cases h
  rfl
def tOf (f : Fx) : Ft := fun env => (f env).bind boolOf
theorem bind_some {α β : Type} {o : Option α} {k : α → Option β} {z : β} (h : o.bind k = some z) : ∃ x, o = some x ∧ k x = some z := by
  cases o with
  | none => cases h
  | some x => exact ⟨x, rfl, h⟩
theorem tDT_of {K : KW} {f : Fx} {σ : L2.St} {H : Hp} {Q : Bool → Hp → Prop} (h : tDT K (tOf f) σ H Q) : tB (tD K f) σ H Q := by
  obtain ⟨Hb, Hs, env, d, R, e, q⟩ := h
  obtain ⟨x, e1, e2⟩ := bind_some e
  rw [boolOf_some e2] at e1
  refine ⟨Hb, Hs, env, _, R, e1, fun v Hs1 H1 g r => ?_⟩
  cases r
  exact ⟨d, rfl, q Hs1 H1 g⟩
theorem pdt_C {op : CmpOp} (h : PDC X op a b f) (hm : behindInMarks op b = false := by first | exact nobehind _ (by decide) (by decide) | rfl) : PDT X (.Compare a [op] [b] pos) (tOf f) := pt_weak (pt_cmp h hm) fun _ _ _ q => tDT_of q
theorem pdt_v (h : PD X e f) (he : ∀ whole, isTrue e X.env whole = (do let v ← whole; standAt e.pos; holding [v] (truthy v)) := by intro _; rfl) : PDT X e (tOf f) := pt_weak (pt_val h he) fun _ _ _ q => tDT_of q
def ftNot (f : Ft) : Ft := fun env => (f env).map (!·)
def ftAnd (f g : Ft) : Ft := fun env => (f env).bind fun c => if c = true then g env else some false
def ftOr (f g : Ft) : Ft := fun env => (f env).bind fun c => if c = true then some true else g env
variable {ft gt : Ft} {rest : List Expr}
theorem pdt_not (h : PDT X e ft) : PDT X (.UnaryOp .Not e pos) (ftNot ft) := pt_weak (pt_not h) fun σ H Q ⟨Hb, Hs, env, d, R, e, q⟩ => by
  unfold ftNot at e
  cases e1 : ft env with
  | none => rw [e1] at e; cases e
  | some c =>
    rw [e1] at e; cases e
    exact ⟨Hb, Hs, env, c, R, e1, q⟩
theorem pdw_and1 (h : PDT X a ft) : PDW X (.BoolOp .And [a] pos) ft := pw_and1 h
theorem pdw_or1 (h : PDT X a ft) : PDW X (.BoolOp .Or [a] pos) ft := pw_or1 h
theorem pdw_and (h : PDT X a ft) (h' : PDW X (.BoolOp .And (b :: rest) pos) gt) : PDW X (.BoolOp .And (a :: b :: rest) pos) (ftAnd ft gt) := pw_weak (pw_and h h') fun σ H Q ⟨Hb, Hs, env, d, R, e, q⟩ => by
  obtain ⟨c, e1, e2⟩ := bind_some e
  refine ⟨Hb, Hs, env, c, R, e1, fun Hs1 H1 g => ?_⟩
  cases c with
  | true =>
    rw [if_pos rfl] at e2 ⊢
    exact ⟨Hb, Hs1, env, d, R.gr g, e2, fun Hs2 H2 g2 => q Hs2 H2 (g.trans g2)⟩
  | false =>
    rw [if_neg Bool.false_ne_true] at e2 ⊢
    cases e2
    exact q Hs1 H1 g
theorem pdw_or (h : PDT X a ft) (h' : PDW X (.BoolOp .Or (b :: rest) pos) gt) : PDW X (.BoolOp .Or (a :: b :: rest) pos) (ftOr ft gt) := pw_weak (pw_or h h') fun σ H Q ⟨Hb, Hs, env, d, R, e, q⟩ => by
  obtain ⟨c, e1, e2⟩ := bind_some e
  refine ⟨Hb, Hs, env, c, R, e1, fun Hs1 H1 g => ?_⟩
  cases c with
  | true =>
    rw [if_pos rfl] at e2 ⊢
    cases e2
    exact q Hs1 H1 g
  | false =>
    rw [if_neg Bool.false_ne_true] at e2 ⊢
    exact ⟨Hb, Hs1, env, d, R.gr g, e2, fun Hs2 H2 g2 => q Hs2 H2 (g.trans g2)⟩
theorem pdt_W (h : PDW X e ft) : PDT X e ft := h.pt

/-! ### and, or, not, if as values -/
def eAnd (fa fb : Fx) : Fx := fun env => (fa env).bind fun x => (boolOf x).bind fun c => if c = true then fb env else some (.bool false)
def eOr (fa fb : Fx) : Fx := fun env => (fa env).bind fun x => (boolOf x).bind fun c => if c = true then some (.bool true) else fb env
def eNot (fa : Fx) : Fx := fun env => (fa env).bind fun x => (boolOf x).bind fun c => some (.bool (!c))
def eIf (ft : Ft) (fa fb : Fx) : Fx := fun env => (ft env).bind fun c => if c = true then fa env else fb env
theorem pd_one {op : BoolOp} (h : PD X a fa) : PD X (.BoolOp op [a] pos) fa := pe_one h
theorem pd_and (ha : PD X a fa) (hb : PD X (.BoolOp .And (b :: rest) pos) fb) : PD X (.BoolOp .And (a :: b :: rest) pos) (eAnd fa fb) := pe_weak (pe_and ha hb) fun σ H Q ⟨Hb, Hs, env, d, R, e, q⟩ => by
  obtain ⟨x, e1, e2⟩ := bind_some e
  obtain ⟨c, e2, e3⟩ := bind_some e2
  rw [boolOf_some e2] at e1
  refine ⟨Hb, Hs, env, _, R, e1, fun v Hs1 H1 g r => ?_⟩
  cases r
  refine ⟨c, rfl, ?_⟩
  cases c with
  | true =>
    rw [if_pos rfl] at e3 ⊢
    exact ⟨Hb, Hs1, env, d, R.gr g, e3, fun w Hs2 H2 g2 r2 => q w Hs2 H2 (g.trans g2) r2⟩
  | false =>
    rw [if_neg Bool.false_ne_true] at e3 ⊢
    cases e3
    exact q _ Hs1 H1 g (.bl _)
theorem pd_or (ha : PD X a fa) (hb : PD X (.BoolOp .Or (b :: rest) pos) fb) : PD X (.BoolOp .Or (a :: b :: rest) pos) (eOr fa fb) := pe_weak (pe_or ha hb) fun σ H Q ⟨Hb, Hs, env, d, R, e, q⟩ => by
  obtain ⟨x, e1, e2⟩ := bind_some e
  obtain ⟨c, e2, e3⟩ := bind_some e2
  rw [boolOf_some e2] at e1
  refine ⟨Hb, Hs, env, _, R, e1, fun v Hs1 H1 g r => ?_⟩
  cases r
  refine ⟨c, rfl, ?_⟩
  cases c with
  | true =>
    rw [if_pos rfl] at e3 ⊢
    cases e3
    exact q _ Hs1 H1 g (.bl _)
  | false =>
    rw [if_neg Bool.false_ne_true] at e3 ⊢
    exact ⟨Hb, Hs1, env, d, R.gr g, e3, fun w Hs2 H2 g2 r2 => q w Hs2 H2 (g.trans g2) r2⟩
theorem pd_not (ha : PD X a fa) : PD X (.UnaryOp .Not a pos) (eNot fa) := pe_weak (pe_not ha) fun σ H Q ⟨Hb, Hs, env, d, R, e, q⟩ => by
  obtain ⟨x, e1, e2⟩ := bind_some e
  obtain ⟨c, e2, e3⟩ := bind_some e2
  rw [boolOf_some e2] at e1
  cases e3
  refine ⟨Hb, Hs, env, _, R, e1, fun v Hs1 H1 g r => ?_⟩
  cases r
  exact ⟨c, rfl, q _ Hs1 H1 g (.bl _)⟩
theorem pd_if (hc : PDT X c ft) (ha : PD X a fa) (hb : PD X b fb) : PD X (.IfExp c a b pos) (eIf ft fa fb) := pe_weak (pe_ifExp hc ha hb) fun σ H Q ⟨Hb, Hs, env, d, R, e, q⟩ => by
  obtain ⟨k, e1, e3⟩ := bind_some e
  refine ⟨Hb, Hs, env, k, R, e1, fun Hs1 H1 g => ?_⟩
  cases k with
  | true =>
    rw [if_pos rfl] at e3 ⊢
    exact ⟨Hb, Hs1, env, d, R.gr g, e3, fun w Hs2 H2 g2 r2 => q w Hs2 H2 (g.trans g2) r2⟩
  | false =>
    rw [if_neg Bool.false_ne_true] at e3 ⊢
    exact ⟨Hb, Hs1, env, d, R.gr g, e3, fun w Hs2 H2 g2 r2 => q w Hs2 H2 (g.trans g2) r2⟩

/-! ### a chain of two comparisons of ints -/
def eChain (p p' : Int → Int → Bool) (fa fb fc : Fx) : Fx := fun env => (fa env).bind fun x => (fb env).bind fun y => (gCmp p x y).bind fun z => (boolOf z).bind fun k => if k = true then (fc env).bind fun w => gCmp p' y w else some (.bool false)
theorem pd_chain {op op' : CmpOp} {p p' : Int → Int → Bool} (ho : OpR X (compareOp op) (rI0 fun i j => .bl (p i j))) (ho' : OpR X (compareOp op') (rI0 fun i j => .bl (p' i j))) (ha : PD X a fa) (hb : PD X b fb) (hc : PD X c fc)
    (hm : lastMarks [op, op'] [b, c] = false := by with_unfolding_all rfl) : PD X (.Compare a [op, op'] [b, c] pos) (eChain p p' fa fb fc) := pe_weak (pe_chain ho ho' ha hb hc hm) fun σ H Q ⟨Hb, Hs, env, d, R, e, q⟩ => by
  obtain ⟨x, e1, e⟩ := bind_some e
  obtain ⟨y, e2, e⟩ := bind_some e
  obtain ⟨z, e3, e⟩ := bind_some e
  obtain ⟨k, e4, e⟩ := bind_some e
  refine ⟨Hb, Hs, env, x, R, e1, fun v Hs1 H1 g1 r1 => ⟨Hb, Hs1, env, y, R.gr g1, e2, fun u Hs2 H2 g2 r2 => ?_⟩⟩
  refine od_cmp (K := kw X) v u x y z H2 Hs2 _ g2.qh (Rv.same g2.qq r1) r2 e3 fun w Hs3 H3 g3 r3 => ?_
  rw [boolOf_some e4] at r3
  cases r3
  refine ⟨k, rfl, ?_⟩
  cases k with
  | true =>
    rw [if_pos rfl] at e ⊢
    obtain ⟨m, e5, e6⟩ := bind_some e
    refine ⟨Hb, Hs3, env, m, R.gr (g1.trans (g2.trans g3)), e5, fun w' Hs4 H4 g4 r4 => ?_⟩
    exact od_cmp (K := kw X) u w' y m d H4 Hs4 Q g4.qh (Rv.same (g3.qq.trans g4.qq) r2) r4 e6 fun w5 Hs5 H5 g5 r5 => q w5 Hs5 H5 (g1.trans (g2.trans (g3.trans (g4.trans g5)))) r5
  | false =>
    rw [if_neg Bool.false_ne_true] at e ⊢
    cases e
    exact q _ Hs3 H3 (g1.trans (g2.trans g3)) (.bl _)
theorem pdt_chain {op op' : CmpOp} {p p' : Int → Int → Bool} (ho : OpR X (compareOp op) (rI0 fun i j => .bl (p i j))) (ho' : OpR X (compareOp op') (rI0 fun i j => .bl (p' i j))) (ha : PD X a fa) (hb : PD X b fb) (hc : PD X c fc)
    (hm : lastMarks [op, op'] [b, c] = false := by with_unfolding_all rfl) : PDT X (.Compare a [op, op'] [b, c] pos) (tOf (eChain p p' fa fb fc)) := pt_weak (pt_chain ho ho' ha hb hc hm) fun σ H Q ⟨Hb, Hs, env, d', R, e', q⟩ => by
  obtain ⟨d, e, e0⟩ := bind_some e'
  rw [boolOf_some e0] at e
  obtain ⟨x, e1, e⟩ := bind_some e
  obtain ⟨y, e2, e⟩ := bind_some e
  obtain ⟨z, e3, e⟩ := bind_some e
  obtain ⟨k, e4, e⟩ := bind_some e
  refine ⟨Hb, Hs, env, x, R, e1, fun v Hs1 H1 g1 r1 => ⟨Hb, Hs1, env, y, R.gr g1, e2, fun u Hs2 H2 g2 r2 => ?_⟩⟩
  refine od_cmp (K := kw X) v u x y z H2 Hs2 _ g2.qh (Rv.same g2.qq r1) r2 e3 fun w Hs3 H3 g3 r3 => ?_
  rw [boolOf_some e4] at r3
  cases r3
  refine ⟨k, rfl, ?_⟩
  cases k with
  | true =>
    rw [if_pos rfl] at e ⊢
    obtain ⟨m, e5, e6⟩ := bind_some e
    refine ⟨Hb, Hs3, env, m, R.gr (g1.trans (g2.trans g3)), e5, fun w' Hs4 H4 g4 r4 => ?_⟩
    refine od_cmp (K := kw X) u w' y m _ H4 Hs4 _ g4.qh (Rv.same (g3.qq.trans g4.qq) r2) r4 e6 fun w5 Hs5 H5 g5 r5 => ?_
    cases r5
    exact ⟨_, rfl, q Hs5 H5 (g1.trans (g2.trans (g3.trans (g4.trans g5))))⟩
  | false =>
    rw [if_neg Bool.false_ne_true] at e ⊢
    cases e
    exact ⟨_, rfl, q Hs3 H3 (g1.trans (g2.trans g3))⟩

/-! ### displays -/
def eTup (fs : Fa) : Fx := fun env => (fs env).bind fun ds => if ds.length ≤ 1000 then some (.tuple ds) else none
def eLst (fs : Fa) : Fx := fun env => (fs env).bind fun ds => if ds.length ≤ 1000 then some (.list ds) else none
theorem k1000 {n : Nat} (h : n ≤ 1000) : n ≤ sizeLine := Nat.le_trans h (by decide)
theorem pd_tup {es : List Expr} {fs : Fa} {x1 : Nat} (h : PDA X es fs) : PD X (.Tuple es x1 pos) (eTup fs) := pe_weak (pe_tup h) fun σ H Q ⟨Hb, Hs, env, d, R, e, q⟩ => by
  obtain ⟨ds, e1, e2⟩ := bind_some e
  by_cases hl : ds.length ≤ 1000
  · rw [if_pos hl] at e2; cases e2
    refine ⟨Hb, Hs, env, ds, R, e1, fun vs Hs1 H1 g r => ⟨by rw [r.len]; exact k1000 hl, fun p hp => qT g.qh hp r fun w Hs2 H2 g2 r2 => q w Hs2 H2 (g.trans g2) r2⟩⟩
  · rw [if_neg hl] at e2; cases e2
theorem pd_lst {es : List Expr} {fs : Fa} (h : PDA X es fs) : PD X (.List es pos) (eLst fs) := pe_weak (pe_lst h) fun σ H Q ⟨Hb, Hs, env, d, R, e, q⟩ => by
  obtain ⟨ds, e1, e2⟩ := bind_some e
  by_cases hl : ds.length ≤ 1000
  · rw [if_pos hl] at e2; cases e2
    refine ⟨Hb, Hs, env, ds, R, e1, fun vs Hs1 H1 g r => ⟨by rw [r.len]; exact k1000 hl, fun p hp => qL g.qh hp r fun w Hs2 H2 g2 r2 => q w Hs2 H2 (g.trans g2) r2⟩⟩
  · rw [if_neg hl] at e2; cases e2

/-! ### subscripts -/
def gIx : G2
  | .list ds, .int i => atI ds i
  | .tuple ds, .int i => atI ds i
  | _, _ => none
theorem at_rv {K : KW} {H : Hp} {vs : List V} {ds : List PyData} {i : Int} {d : PyData} (r : RvA K H vs ds) (e : atI ds i = some d) : ∃ v, atI vs i = some v ∧ Rv K H v d := by
  unfold atI at e ⊢
  obtain ⟨j, e1, e2⟩ := bind_some e
  obtain ⟨v, e3, r3⟩ := r.get e2
  exact ⟨v, by rw [r.len, e1]; exact e3, r3⟩
def rIx2 (K : PySem.W.Frag) : R2 := fun x y H Q => rIxL K x y H Q ∨ rIxT K x y H Q
theorem od_ix {K : KW} : OpD K (rIx2 K.K) gIx := fun v u x y d H Hs Q s r1 r2 e q => by
  unfold gIx at e
  split at e
  · cases r1 with
    | lst h1 a1 =>
      cases r2
      obtain ⟨w, e3, r3⟩ := at_rv a1 e
      exact .inl ⟨_, _, _, w, rfl, rfl, SqL.of (s _ _ h1), e3, q w Hs H (Gr.refl s) r3⟩
  · cases r1 with
    | tup h1 a1 =>
      cases r2
      obtain ⟨w, e3, r3⟩ := at_rv a1 e
      exact .inr ⟨_, _, _, w, rfl, rfl, same_t s h1, e3, q w Hs H (Gr.refl s) r3⟩
  · cases e
theorem pd_ix (ha : PD X a fa) (hb : PD X b fb) (hs : PlainIx b := by exact fun _ _ => rfl) : PD X (.Subscript a b pos) (eB gIx fa fb) := pe_weak (pe_ix (IxR.or ix_list ix_tup) ha hb hs) fun _ _ _ q => tD_B od_ix q
/-- -n -/
def eNeg (fa : Fx) : Fx := fun env => (fa env).bind fun x => match x with
  | .int i => some (.int (-i))
  | _ => none
theorem pd_neg (ha : PD X a fa) : PD X (.UnaryOp .USub a pos) (eNeg fa) := pe_weak (pe_un un_neg ha) fun σ H Q ⟨Hb, Hs, env, d, R, e, q⟩ => by
  obtain ⟨x, e1, e2⟩ := bind_some e
  refine ⟨Hb, Hs, env, x, R, e1, fun v Hs1 H1 g r => ?_⟩
  split at e2
  · cases e2; cases r
    exact ⟨_, rfl, q _ Hs1 H1 g (.int _)⟩
  · cases e2

/-! ### slices -/
abbrev Fo := En → Option (Option Int)
def tDO (K : KW) (f : Fo) : TO := fun σ H Q => ∃ Hb Hs env o, Rp K Hb Hs σ H env ∧ f env = some o ∧ ∀ Hs' H', Gr H Hs Hs' H' → Q o H'
abbrev PDO (X : Cx) (e : Option Expr) (f : Fo) : Prop := PO X e (tDO (kw X) f)
theorem po_weak {oe : Option Expr} {t u : TO} (h : PO X oe t) (w : ∀ σ H Q, u σ H Q → t σ H Q) : PO X oe u := ⟨fun pins s σ H Q I q => h.run pins s σ H Q I (w σ H Q q)⟩
def oNone : Fo := fun _ => some none
def oSome (f : Fx) : Fo := fun env => (f env).bind fun x => match x with
  | .int i => some (some i)
  | _ => none
theorem pdo_none : PDO X none oNone := po_weak po_none fun σ H Q ⟨Hb, Hs, env, o, R, e, q⟩ => by
  cases e
  exact q Hs H (Gr.refl R.qh)
theorem pdo_some (h : PD X e f) : PDO X (some e) (oSome f) := po_weak (po_some h) fun σ H Q ⟨Hb, Hs, env, o, R, e, q⟩ => by
  obtain ⟨x, e1, e2⟩ := bind_some e
  refine ⟨Hb, Hs, env, x, R, e1, fun v Hs1 H1 g r => ?_⟩
  split at e2
  · cases e2; cases r
    exact ⟨_, rfl, q Hs1 H1 g⟩
  · cases e2
def cutD (ds : List PyData) (lo hi : Option Int) : List PyData := (ds.drop (HT.sIx ds.length 0 lo)).take (HT.sIx ds.length ds.length hi - HT.sIx ds.length 0 lo)
theorem cutD_all {ds : List PyData} {lo hi : Option Int} (z : HT.sIx ds.length 0 lo = 0 ∧ HT.sIx ds.length ds.length hi = ds.length) : cutD ds lo hi = ds := by
  unfold cutD
  rw [z.1, z.2, List.drop_zero, Nat.sub_zero, List.take_length]
theorem cut_rv {K : KW} {H : Hp} {vs : List V} {ds : List PyData} (r : RvA K H vs ds) (lo hi : Option Int) : RvA K H (cutV vs lo hi) (cutD ds lo hi) := by
  unfold cutV cutD
  rw [r.len]
  exact (r.drop _).take _
def gCut (x : PyData) (lo hi : Option Int) : Option PyData := match x with
  | .list ds => some (.list (cutD ds lo hi))
  | .tuple ds => some (.tuple (cutD ds lo hi))
  | _ => none
def eCut (fa : Fx) (lo hi : Fo) : Fx := fun env => (fa env).bind fun x => (lo env).bind fun l => (hi env).bind fun h => gCut x l h
theorem pd_cut {lo hi : Option Expr} {fl fh : Fo} {p2 : Pos} (ha : PD X a fa) (hl : PDO X lo fl) (hh : PDO X hi fh) : PD X (.Subscript a (.Slice lo hi none p2) pos) (eCut fa fl fh) := pe_weak (pe_slice (SlR.or sl_list sl_tupA) ha hl hh) fun σ H Q ⟨Hb, Hs, env, d, R, e, q⟩ => by
  obtain ⟨x, e1, e⟩ := bind_some e
  obtain ⟨l, e2, e⟩ := bind_some e
  obtain ⟨h, e3, e⟩ := bind_some e
  refine ⟨Hb, Hs, env, x, R, e1, fun v Hs1 H1 g1 r1 => ⟨Hb, Hs1, env, l, R.gr g1, e2, fun Hs2 H2 g2 => ⟨Hb, Hs2, env, h, R.gr (g1.trans g2), e3, fun Hs3 H3 g3 => ?_⟩⟩⟩
  have r3 := Rv.same (g2.qq.trans g3.qq) r1
  have g := g1.trans (g2.trans g3)
  unfold gCut at e
  split at e
  · cases e
    cases r3 with
    | lst h1 a1 => exact .inl ⟨_, _, rfl, SqL.of (g3.qh _ _ h1), fun p hp => qL g3.qh hp (cut_rv a1 l h) fun w Hs4 H4 g4 r4 => q w Hs4 H4 (g.trans g4) r4⟩
  · cases e
    cases r3 with
    | tup h1 a1 =>
      refine .inr ⟨_, _, rfl, same_t g3.qh h1, fun z => ?_, fun _ p hp => qT g3.qh hp (cut_rv a1 l h) fun w Hs4 H4 g4 r4 => q w Hs4 H4 (g.trans g4) r4⟩
      rw [a1.len] at z
      rw [cutD_all z] at q
      exact q _ Hs3 H3 g (.tup h1 a1)
  · cases e
/-- xs[::-1] of a list -/
def eRevL (fa : Fx) : Fx := fun env => (fa env).bind fun x => match x with
  | .list ds => some (.list ds.reverse)
  | _ => none
theorem pd_revL {k : Nat} {p1 p2 p3 : Pos} (ha : PD X a fa) : PD X (.Subscript a (.Slice none none (some (.UnaryOp .USub (.Constant (.int 1) k p1) p2)) p3) pos) (eRevL fa) := pe_weak (pe_revL ha) fun σ H Q ⟨Hb, Hs, env, d, R, e, q⟩ => by
  obtain ⟨x, e1, e2⟩ := bind_some e
  refine ⟨Hb, Hs, env, x, R, e1, fun v Hs1 H1 g r => ?_⟩
  split at e2
  · cases e2
    cases r with
    | lst h1 a1 => exact ⟨_, _, rfl, SqL.of (g.qh _ _ h1), fun p hp => qL g.qh hp a1.rev fun w Hs2 H2 g2 r2 => q w Hs2 H2 (g.trans g2) r2⟩
  · cases e2
end
end DL

/-! DL4: calls of the data layer: built-ins, defs by their promises. -/
namespace DL
open PySem L2

abbrev GA := List PyData → Option PyData
def eCall (F : GA) (fs : Fa) : Fx := fun env => (fs env).bind F

/-! ### sorted -/
def insI (x : Int) : List Int → List Int
  | [] => [x]
  | y :: ys => if x ≤ y then x :: y :: ys else y :: insI x ys
def sortI : List Int → List Int
  | [] => []
  | x :: xs => insI x (sortI xs)
theorem insI_perm (x : Int) : ∀ l : List Int, (insI x l).Perm (x :: l)
  | [] => .refl _
  | y :: ys => by
    unfold insI
    split
    · exact .refl _
    · exact ((insI_perm x ys).cons y).trans (.swap x y ys)
theorem sortI_perm : ∀ l : List Int, (sortI l).Perm l
  | [] => .refl _
  | x :: xs => (insI_perm x (sortI xs)).trans ((sortI_perm xs).cons x)
theorem insI_up (x : Int) : ∀ l : List Int, l.Pairwise (· ≤ ·) → (insI x l).Pairwise (· ≤ ·)
  | [], _ => by simp [insI]
  | y :: ys, h => by
    unfold insI
    cases h with
    | cons h1 h2 =>
      split
      · rename_i hxy
        refine .cons (fun z hz => ?_) (.cons h1 h2)
        rcases List.mem_cons.mp hz with rfl | hz
        · exact hxy
        · exact Int.le_trans hxy (h1 z hz)
      · rename_i hxy
        refine .cons (fun z hz => ?_) (insI_up x ys h2)
        rcases List.mem_cons.mp ((insI_perm x ys).mem_iff.mp hz) with rfl | hz
        · omega
        · exact h1 z hz
theorem sortI_up : ∀ l : List Int, (sortI l).Pairwise (· ≤ ·)
  | [] => .nil
  | x :: xs => insI_up x _ (sortI_up xs)
theorem sortI_uniq {l m : List Int} (p : m.Perm l) (u : m.Pairwise (· ≤ ·)) : m = sortI l :=
  List.Perm.eq_of_pairwise (le := fun a b => a ≤ b) (fun a b _ _ h1 h2 => Int.le_antisymm h1 h2) u (sortI_up l) (p.trans (sortI_perm l).symm)

def intsOf : List PyData → Option (List Int)
  | [] => some []
  | .int i :: r => (intsOf r).bind fun is => some (i :: is)
  | _ :: _ => none
theorem intsOf_some : ∀ {ds : List PyData} {ns : List Int}, intsOf ds = some ns → ds = ns.map .int
  | [], _, h => by cases h; rfl
  | d :: r, ns, h => by
    cases d with
    | int i =>
      unfold intsOf at h
      cases e : intsOf r with
      | none => rw [e] at h; cases h
      | some is => rw [e] at h; cases h; rw [intsOf_some e]; rfl
    | _ => cases h
theorem intsOf_map : ∀ ns : List Int, intsOf (ns.map .int) = some ns
  | [] => rfl
  | n :: ns => by
    show (intsOf (ns.map .int)).bind _ = _
    rw [intsOf_map ns]; rfl

/-! ### built-ins -/
def CallD (K : KW) (r : List V → Hp → VK → Prop) (F : GA) : Prop :=
  ∀ (vs : List V) (ds : List PyData) (d : PyData) (H Hs : Hp) (Q : VK), Same Hs H → RvA K Hs vs ds → F ds = some d → (∀ w Hs' H', Gr H Hs Hs' H' → Rv K Hs' w d → Q w H') → r vs H Q
section
variable {X : Cx} {a b e : Expr} {es : List Expr} {fa fb f : Fx} {fs : Fa} {F : GA} {pos p : Pos} {x : Str} {r : List V → Hp → VK → Prop}
theorem tDA_call {K : KW} (o : CallD K r F) {σ : L2.St} {H : Hp} {Q : VK} (h : tD K (eCall F fs) σ H Q) : tCB r (tDA K fs) σ H Q := by
  obtain ⟨Hb, Hs, env, d, R, e, q⟩ := h
  obtain ⟨ds, e1, e2⟩ := bind_some e
  exact ⟨Hb, Hs, env, ds, R, e1, fun vs Hs1 H1 g r1 => o vs ds d H1 Hs1 Q g.qh r1 e2 fun w Hs2 H2 g2 r2 => q w Hs2 H2 (g.trans g2) r2⟩
theorem pd_callB {id : String} (hc : CallR X (.builtin id) r) (o : CallD (kw X) r F) (hg : Gl X x) (hm : X.mg x = none) (hv : bootBuiltins x = some (.builtin id)) (ha : PDA X (e :: es) fs) (hn : x ≠ "__name__" := by decide) (hdb : (x == ("__debug__" : Str)) = false := by decide)
    (he : starEach (e :: es) X.env = (false, eval e X.env) :: starEach es X.env := by rfl) (hpl : (backTo pos (starEach es X.env)).any (·.1) = false := by rfl) : PD X (.Call (.Name x p) (e :: es) [] pos) (eCall F fs) :=
  pe_weak (pe_callB hc hg hm hv ha hn hdb he hpl) fun _ _ _ q => tDA_call o q
theorem pd_callTy {T : String} (hc : CallR X (.type T) r) (o : CallD (kw X) r F) (hg : Gl X x) (hm : X.mg x = none) (hv : bootBuiltins x = some (.type T)) (ha : PDA X (e :: es) fs) (hn : x ≠ "__name__" := by decide) (hdb : (x == ("__debug__" : Str)) = false := by decide)
    (he : starEach (e :: es) X.env = (false, eval e X.env) :: starEach es X.env := by rfl) (hpl : (backTo pos (starEach es X.env)).any (·.1) = false := by rfl) : PD X (.Call (.Name x p) (e :: es) [] pos) (eCall F fs) :=
  pe_weak (pe_callTy hc hg hm hv ha hn hdb he hpl) fun _ _ _ q => tDA_call o q
/-- len -/
def gLen : GA
  | [.list ds] => some (.int ds.length)
  | [.tuple ds] => some (.int ds.length)
  | _ => none
theorem cd_len {K : KW} : CallD K (fun xs H Q => ∃ p ys, xs = [V.ref p] ∧ (SqL K.K H p ys ∨ SqT K.K H p ys) ∧ Q (.int ys.length) H) gLen := fun vs ds d H Hs Q s r1 e q => by
  unfold gLen at e
  split at e
  · cases e
    cases r1 with
    | cons h1 h2 =>
      cases h2
      cases h1 with
      | lst h1 a1 => exact ⟨_, _, rfl, .inl (SqL.of (s _ _ h1)), q _ Hs H (Gr.refl s) (by rw [a1.len]; exact .int _)⟩
  · cases e
    cases r1 with
    | cons h1 h2 =>
      cases h2
      cases h1 with
      | tup h1 a1 => exact ⟨_, _, rfl, .inr (same_t s h1), q _ Hs H (Gr.refl s) (by rw [a1.len]; exact .int _)⟩
  · cases e
theorem pd_len (hm : X.mg "len" = none) (hg : Gl X "len") (ha : PD X a fa) (he : starEach [a] X.env = [(false, eval a X.env)] := by rfl) : PD X (.Call (.Name "len" p) [a] [] pos) (eCall gLen (aCons fa aNil)) :=
  pd_callB call_len_seq cd_len hg hm PySem.boot_len (pda_cons ha pda_nil he) (he := he)
/-- sorted of ints -/
def gSorted : GA
  | [.list ds] => (intsOf ds).bind fun ns => some (.list ((sortI ns).map .int))
  | _ => none
theorem cd_sorted {K : KW} : CallD K (rSortedI K.K) gSorted := fun vs ds d H Hs Q s r1 e q => by
  unfold gSorted at e
  split at e
  · obtain ⟨ns, e1, e2⟩ := bind_some e
    cases e2
    rw [intsOf_some e1] at r1
    cases r1 with
    | cons h1 h2 =>
      cases h2
      cases h1 with
      | lst h1 a1 =>
        rw [RvA.of_ints a1] at h1
        refine ⟨_, ns, rfl, SqL.of (s _ _ h1), fun ns' p perm up hp => ?_⟩
        rw [sortI_uniq perm up]
        exact qL s hp (RvA.ints _) q
  · cases e
theorem pd_sorted (hm : X.mg "sorted" = none) (hg : Gl X "sorted") (ha : PD X a fa) (he : starEach [a] X.env = [(false, eval a X.env)] := by rfl) : PD X (.Call (.Name "sorted" p) [a] [] pos) (eCall gSorted (aCons fa aNil)) :=
  pd_callB cr_sortedI cd_sorted hg hm (by decide +kernel) (pda_cons ha pda_nil he) (he := he)
/-- min, max of one list of ints -/
def minI : Int → List Int → Int
  | m, [] => m
  | m, x :: xs => minI (if x < m then x else m) xs
def maxI : Int → List Int → Int
  | m, [] => m
  | m, x :: xs => maxI (if m < x then x else m) xs
theorem minI_le : ∀ (xs : List Int) (m : Int), minI m xs ≤ m ∧ ∀ x ∈ xs, minI m xs ≤ x
  | [], m => ⟨Int.le_refl _, fun _ h => nomatch h⟩
  | y :: ys, m => by
    have ih := minI_le ys (if y < m then y else m)
    unfold minI
    by_cases hy : y < m
    · rw [if_pos hy] at ih ⊢
      refine ⟨by omega, fun x hx => ?_⟩
      rcases List.mem_cons.mp hx with z | hx
      · rw [z]; omega
      · exact ih.2 x hx
    · rw [if_neg hy] at ih ⊢
      refine ⟨by omega, fun x hx => ?_⟩
      rcases List.mem_cons.mp hx with z | hx
      · rw [z]; omega
      · exact ih.2 x hx
theorem minI_mem : ∀ (xs : List Int) (m : Int), minI m xs = m ∨ minI m xs ∈ xs
  | [], m => .inl rfl
  | y :: ys, m => by
    unfold minI
    rcases minI_mem ys (if y < m then y else m) with h | h
    · by_cases hy : y < m
      · rw [if_pos hy] at h ⊢; exact .inr (by rw [h]; exact List.mem_cons_self)
      · rw [if_neg hy] at h ⊢; exact .inl h
    · exact .inr (List.mem_cons_of_mem _ h)
theorem maxI_le : ∀ (xs : List Int) (m : Int), m ≤ maxI m xs ∧ ∀ x ∈ xs, x ≤ maxI m xs
  | [], m => ⟨Int.le_refl _, fun _ h => nomatch h⟩
  | y :: ys, m => by
    have ih := maxI_le ys (if m < y then y else m)
    unfold maxI
    by_cases hy : m < y
    · rw [if_pos hy] at ih ⊢
      refine ⟨by omega, fun x hx => ?_⟩
      rcases List.mem_cons.mp hx with z | hx
      · rw [z]; omega
      · exact ih.2 x hx
    · rw [if_neg hy] at ih ⊢
      refine ⟨by omega, fun x hx => ?_⟩
      rcases List.mem_cons.mp hx with z | hx
      · rw [z]; omega
      · exact ih.2 x hx
theorem maxI_mem : ∀ (xs : List Int) (m : Int), maxI m xs = m ∨ maxI m xs ∈ xs
  | [], m => .inl rfl
  | y :: ys, m => by
    unfold maxI
    rcases maxI_mem ys (if m < y then y else m) with h | h
    · by_cases hy : m < y
      · rw [if_pos hy] at h ⊢; exact .inr (by rw [h]; exact List.mem_cons_self)
      · rw [if_neg hy] at h ⊢; exact .inl h
    · exact .inr (List.mem_cons_of_mem _ h)
def gMin : GA
  | [.list ds] => (intsOf ds).bind fun ns => match ns with
    | [] => none
    | n :: r => some (.int (minI n r))
  | _ => none
def gMax : GA
  | [.list ds] => (intsOf ds).bind fun ns => match ns with
    | [] => none
    | n :: r => some (.int (maxI n r))
  | _ => none
theorem cd_min {K : KW} : CallD K (rMin K.K) gMin := fun vs ds d H Hs Q s r1 e q => by
  unfold gMin at e
  split at e
  · obtain ⟨ns, e1, e2⟩ := bind_some e
    rw [intsOf_some e1] at r1
    cases ns with
    | nil => cases e2
    | cons n ns =>
      cases e2
      cases r1 with
      | cons h1 h2 =>
        cases h2
        cases h1 with
        | lst h1 a1 =>
          rw [RvA.of_ints a1] at h1
          refine ⟨_, n :: ns, rfl, SqL.of (s _ _ h1), Nat.succ_pos _, fun m hm hle => ?_⟩
          have e : m = minI n ns := by
            have h1 := minI_le ns n
            have h2 : m ≤ minI n ns := by
              rcases minI_mem ns n with z | z
              · rw [z]; exact hle n List.mem_cons_self
              · exact hle _ (List.mem_cons_of_mem _ z)
            have h3 : minI n ns ≤ m := by
              rcases List.mem_cons.mp hm with z | z
              · rw [z]; exact h1.1
              · exact h1.2 m z
            omega
          rw [e]
          exact q _ Hs H (Gr.refl s) (.int _)
  · cases e
theorem cd_max {K : KW} : CallD K (rMax K.K) gMax := fun vs ds d H Hs Q s r1 e q => by
  unfold gMax at e
  split at e
  · obtain ⟨ns, e1, e2⟩ := bind_some e
    rw [intsOf_some e1] at r1
    cases ns with
    | nil => cases e2
    | cons n ns =>
      cases e2
      cases r1 with
      | cons h1 h2 =>
        cases h2
        cases h1 with
        | lst h1 a1 =>
          rw [RvA.of_ints a1] at h1
          refine ⟨_, n :: ns, rfl, SqL.of (s _ _ h1), Nat.succ_pos _, fun m hm hle => ?_⟩
          have e : m = maxI n ns := by
            have h1 := maxI_le ns n
            have h2 : maxI n ns ≤ m := by
              rcases maxI_mem ns n with z | z
              · rw [z]; exact hle n List.mem_cons_self
              · exact hle _ (List.mem_cons_of_mem _ z)
            have h3 : m ≤ maxI n ns := by
              rcases List.mem_cons.mp hm with z | z
              · rw [z]; exact h1.1
              · exact h1.2 m z
            omega
          rw [e]
          exact q _ Hs H (Gr.refl s) (.int _)
  · cases e
theorem pd_minL (hc : X.calm = true) (hm : X.mg "min" = none) (hg : Gl X "min") (ha : PD X a fa) (he : starEach [a] X.env = [(false, eval a X.env)] := by rfl) : PD X (.Call (.Name "min" p) [a] [] pos) (eCall gMin (aCons fa aNil)) :=
  pd_callB (cr_min hc) cd_min hg hm (by decide +kernel) (pda_cons ha pda_nil he) (he := he)
theorem pd_maxL (hc : X.calm = true) (hm : X.mg "max" = none) (hg : Gl X "max") (ha : PD X a fa) (he : starEach [a] X.env = [(false, eval a X.env)] := by rfl) : PD X (.Call (.Name "max" p) [a] [] pos) (eCall gMax (aCons fa aNil)) :=
  pd_callB (cr_max hc) cd_max hg hm (by decide +kernel) (pda_cons ha pda_nil he) (he := he)
/-- min of two ints -/
def gMin2 : GA
  | [.int i, .int j] => some (.int (if j < i then j else i))
  | _ => none
theorem cd_min2 {K : KW} : CallD K (fun xs H Q => ∃ i j, xs = [V.int i, .int j] ∧ Q (.int (if j < i then j else i)) H) gMin2 := fun vs ds d H Hs Q s r1 e q => by
  unfold gMin2 at e
  split at e
  · cases e
    cases r1 with
    | cons h1 h2 =>
      cases h2 with
      | cons h2 h3 =>
        cases h1; cases h2; cases h3
        exact ⟨_, _, rfl, q _ Hs H (Gr.refl s) (.int _)⟩
  · cases e
theorem pd_min2 (hc : X.calm = true) (hm : X.mg "min" = none) (hg : Gl X "min") (ha : PDA X [a, b] fs) (he : starEach [a, b] X.env = (false, eval a X.env) :: starEach [b] X.env := by rfl) (hpl : (backTo pos (starEach [b] X.env)).any (·.1) = false := by rfl) : PD X (.Call (.Name "min" p) [a, b] [] pos) (eCall gMin2 fs) :=
  pd_callB (call_min2 hc) cd_min2 hg hm (by decide +kernel) ha (he := he) (hpl := hpl)
/-- list(x) -/
def gList : GA
  | [.list ds] => some (.list ds)
  | [.tuple ds] => some (.list ds)
  | _ => none
theorem cd_list {K : KW} : CallD K (fun xs H Q => ∃ p ys, xs = [V.ref p] ∧ (SqL K.K H p ys ∨ SqT K.K H p ys) ∧ ∀ l, H l = none → Q (.ref l) (upd H l (.lst ys))) gList := fun vs ds d H Hs Q s r1 e q => by
  unfold gList at e
  split at e
  · cases e
    cases r1 with
    | cons h1 h2 =>
      cases h2
      cases h1 with
      | lst h1 a1 => exact ⟨_, _, rfl, .inl (SqL.of (s _ _ h1)), fun l hl => qL s hl a1 q⟩
  · cases e
    cases r1 with
    | cons h1 h2 =>
      cases h2
      cases h1 with
      | tup h1 a1 => exact ⟨_, _, rfl, .inr (same_t s h1), fun l hl => qL s hl a1 q⟩
  · cases e
theorem pd_list (hm : X.mg "list" = none) (hg : Gl X "list") (ha : PD X a fa) (he : starEach [a] X.env = [(false, eval a X.env)] := by rfl) : PD X (.Call (.Name "list" p) [a] [] pos) (eCall gList (aCons fa aNil)) :=
  pd_callTy call_list_of cd_list hg hm (by decide +kernel) (pda_cons ha pda_nil he) (he := he)
/-- int(x) -/
def gInt : GA
  | [.int i] => some (.int i)
  | [.bool k] => some (.int (if k then 1 else 0))
  | _ => none
theorem cd_int {K : KW} : CallD K (fun xs H Q => (∃ i, xs = [V.int i] ∧ Q (.int i) H) ∨ ∃ k, xs = [V.bl k] ∧ Q (.int (if k then 1 else 0)) H) gInt := fun vs ds d H Hs Q s r1 e q => by
  unfold gInt at e
  split at e
  · cases e
    cases r1 with
    | cons h1 h2 =>
      cases h2; cases h1
      exact .inl ⟨_, rfl, q _ Hs H (Gr.refl s) (.int _)⟩
  · cases e
    cases r1 with
    | cons h1 h2 =>
      cases h2; cases h1
      exact .inr ⟨_, rfl, q _ Hs H (Gr.refl s) (.int _)⟩
  · cases e
theorem pd_int1 (hm : X.mg "int" = none) (hg : Gl X "int") (ha : PD X a fa) (he : starEach [a] X.env = [(false, eval a X.env)] := by rfl) : PD X (.Call (.Name "int" p) [a] [] pos) (eCall gInt (aCons fa aNil)) :=
  pd_callTy call_int1 cd_int hg hm (by decide +kernel) (pda_cons ha pda_nil he) (he := he)
/-- tuple(x) -/
def eTuple (fa : Fx) : Fx := fun env => (fa env).bind fun x => match x with
  | .list ds => some (.tuple ds)
  | .tuple ds => some (.tuple ds)
  | _ => none
theorem pd_tuple (hm : X.mg "tuple" = none) (hg : Gl X "tuple") (ha : PD X a fa) (na : starEach [a] X.env = (false, eval a X.env) :: starEach [] X.env := by rfl) : PD X (.Call (.Name "tuple" p) [a] [] pos) (eTuple fa) := pe_weak (pe_tupleOf hg hm ha na) fun σ H Q ⟨Hb, Hs, env, d, R, e, q⟩ => by
  obtain ⟨x, e1, e2⟩ := bind_some e
  refine ⟨Hb, Hs, env, x, R, e1, fun v Hs1 H1 g r => ?_⟩
  split at e2
  · cases e2
    cases r with
    | lst h1 a1 => exact .inl ⟨_, _, rfl, SqL.of (g.qh _ _ h1), fun p hp => qT g.qh hp a1 fun w Hs2 H2 g2 r2 => q w Hs2 H2 (g.trans g2) r2⟩
  · cases e2
    cases r with
    | tup h1 a1 => exact .inr ⟨_, _, rfl, same_t g.qh h1, q _ Hs1 H1 g (.tup h1 a1)⟩
  · cases e2
/-- isinstance(x, T), T a built-in class -/
def tyOf : PyData → String
  | .none => "NoneType" | .bool _ => "bool" | .int _ => "int" | .str _ => "str" | .list _ => "list" | .tuple _ => "tuple" | .dict _ => "dict"
def isD (T : String) (x : PyData) : Bool := if tyOf x = T then true else if T = "int" then (match x with | .bool _ => true | _ => false) else false
def eIsi (T : String) (fa : Fx) : Fx := fun env => (fa env).bind fun x => match x with
  | .dict _ => none
  | x => some (.bool (isD T x))
theorem ty_rv {K : KW} {Hs H : Hp} {v : V} {x : PyData} (s : Same Hs H) (hx : ∀ k, x ≠ .dict k) (r : Rv K Hs v x) : TyX K.K H v (.type (tyOf x)) := by
  cases r with
  | dct _ _ _ _ => exact absurd rfl (hx _)
  | non => exact .base .non
  | bl b => exact .base (.bl b)
  | int i => exact .base (.int i)
  | str y => exact .base (.str y)
  | lst h1 a1 => exact .base (.lst (s _ _ h1))
  | tup h1 a1 =>
    rcases same_t s h1 with (h | ⟨o, h⟩) | ⟨o, its, n, h, hc, _⟩
    · exact .base (.tup h)
    · exact .fTuple h
    · exact .kTuple h hc
theorem pd_isi {T : Str} {T' : String} {pT : Pos} (hT : ∀ t ∈ (["NoneType", "bool", "int", "str", "list", "tuple"] : List String), kitB t T' = some (if t = T' then true else if T' = "int" then decide (t = "bool") else false)) (hmT : X.mg T = none) (hgT : Gl X T) (hv : bootBuiltins T = some (.type T')) (hn : T ≠ "__name__") (hdT : (T == ("__debug__" : Str)) = false)
    (hm : X.mg "isinstance" = none) (hg : Gl X "isinstance") (ha : PD X a fa) (he : starEach [a, .Name T pT] X.env = (false, eval a X.env) :: starEach [.Name T pT] X.env := by rfl) (he2 : starEach [.Name T pT] X.env = [(false, eval (.Name T pT) X.env)] := by rfl) (hpl : (backTo pos (starEach [.Name T pT] X.env)).any (·.1) = false := by rfl) :
    PD X (.Call (.Name "isinstance" p) [a, .Name T pT] [] pos) (eIsi T' fa) := by
  refine pe_weak (pe_callB call_isi hg hm (by decide +kernel) (pa_cons ha (pa_cons (pe_bltn (v := .ty T') hgT hmT hv rfl hn hdT) pa_nil he2) he) (he := he) (hpl := hpl)) fun σ H Q ⟨Hb, Hs, env, d, R, e, q⟩ => ?_
  obtain ⟨x, e1, e2⟩ := bind_some e
  refine ⟨Hb, Hs, env, x, R, e1, fun v Hs1 H1 g r => ?_⟩
  have hd : d = .bool (isD T' x) ∧ ∀ k, x ≠ .dict k := by
    split at e2
    · cases e2
    · rename_i hx; exact ⟨(Option.some.inj e2).symm, hx⟩
  obtain ⟨hd, hx⟩ := hd
  subst hd
  refine ⟨v, .ty T', _, _, _, rfl, .ty T', ty_rv g.qh hx r, kit_ty (r := isD T' x) ?_, q _ Hs1 H1 g (.bl _)⟩
  unfold isD
  cases r with
  | dct _ _ _ _ => exact absurd rfl (hx _)
  | non => rw [hT _ (by simp [tyOf])]; simp [tyOf]
  | bl b => rw [hT _ (by simp [tyOf])]; simp [tyOf]
  | int i => rw [hT _ (by simp [tyOf])]; simp [tyOf]
  | str y => rw [hT _ (by simp [tyOf])]; simp [tyOf]
  | lst h1 a1 => rw [hT _ (by simp [tyOf])]; simp [tyOf]
  | tup h1 a1 => rw [hT _ (by simp [tyOf])]; simp [tyOf]

/-! ### defs -/
/-- the promise of a def that reckons F on n arguments -/
def spD (K : KW) (n : Nat) (F : GA) : Sp := fun vs H Q _ => ∃ Hs ds d, Same Hs H ∧ RvA K Hs vs ds ∧ ds.length = n ∧ F ds = some d ∧ ∀ v Hs' H', Gr H Hs Hs' H' → Rv K Hs' v d → Q v H'
def gN (n : Nat) (F : GA) : GA := fun ds => if ds.length = n then F ds else none
theorem pd_call {j k n : Nat} (c : C8.Cal X.prog X.w X.K X.mg X.base k x (spD (kw X) n F) []) (hr : Room j X.A) (hk : k ≤ j) (hg : Gl X x) (ha : PDA X (e :: es) fs)
    (hdb : (x == ("__debug__" : Str)) = false := by decide) (he : starEach (e :: es) X.env = (false, eval e X.env) :: starEach es X.env := by rfl) (hpl : (backTo pos (starEach es X.env)).any (·.1) = false := by rfl) :
    PD X (.Call (.Name x p) (e :: es) [] pos) (eCall (gN n F) fs) := pe_weak (C8.pe_c c hr hk hg ha hdb he hpl) fun σ H Q ⟨Hb, Hs, env, d, R, e, q⟩ => by
  obtain ⟨ds, e1, e2⟩ := bind_some e
  unfold gN at e2
  by_cases hn : ds.length = n
  · rw [if_pos hn] at e2
    refine ⟨Hb, Hs, env, ds, R, e1, fun vs Hs1 H1 g r => ⟨Hs1, ds, d, g.qh, by rw [List.append_nil]; exact r, hn, e2, fun w Hs2 H2 g2 r2 => q w Hs2 H2 (g.trans g2) r2⟩⟩
  · rw [if_neg hn] at e2; cases e2
end
end DL

/-! DL5: targets, what loops walk, comprehensions of the data layer. -/
namespace DL
open PySem L2

/-! ### environments stored to -/
section
variable {K : KW} {Hb Hs H : Hp} {σ : L2.St} {env : En} {i : Nat} {v : V} {c : Cell}
theorem set_get {α : Type} {l : List α} {i j : Nat} {x y : α} (h : (l.set i x)[j]? = some y) : (j = i ∧ y = x ∧ i < l.length) ∨ (j ≠ i ∧ l[j]? = some y) := by
  by_cases e : j = i
  · subst e
    by_cases hl : j < l.length
    · rw [List.getElem?_set_self hl] at h
      exact .inl ⟨rfl, (Option.some.inj h).symm, hl⟩
    · rw [List.getElem?_eq_none (by rw [List.length_set]; omega)] at h; cases h
  · rw [List.getElem?_set_ne (Ne.symm e)] at h
    exact .inr ⟨e, h⟩
theorem Rp.setC (R : Rp K Hb Hs σ H env) (o : Own K Hb Hs H v c) (hc : c ≠ .no) (hf : c.own = true → ∀ a, v = .ref a → ∀ (j : Nat) c', env[j]? = some c' → c'.own = true → σ[j]? ≠ some (some (.ref a))) : Rp K Hb Hs (σ.set i (some v)) H (env.set i c) := by
  refine ⟨R.qh, R.bh, by rw [List.length_set, List.length_set]; exact R.len, fun j c' e n => ?_, fun j k c1 c2 a e1 e2 o1 o2 h1 h2 => ?_⟩
  · rcases set_get e with ⟨rfl, rfl, hl⟩ | ⟨hj, e⟩
    · exact ⟨v, by rw [List.getElem?_set_self (by rw [R.len]; exact hl)], o⟩
    · obtain ⟨u, hu, ou⟩ := R.at_ j c' e n
      exact ⟨u, by rw [List.getElem?_set_ne (Ne.symm hj)]; exact hu, ou⟩
  · rcases set_get e1 with ⟨rfl, rfl, hl⟩ | ⟨hj, e1⟩
    · rcases set_get e2 with ⟨rfl, rfl, hl2⟩ | ⟨hk, e2⟩
      · rfl
      · rw [List.getElem?_set_self (by rw [R.len]; exact hl)] at h1
        rw [List.getElem?_set_ne (Ne.symm hk)] at h2
        exact absurd h2 (hf o1 a (Option.some.inj (Option.some.inj h1)) k c2 e2 o2)
    · rcases set_get e2 with ⟨e3, e4, hl2⟩ | ⟨hk, e2⟩
      · rw [e3] at h2
        rw [List.getElem?_set_self (by rw [R.len]; exact hl2)] at h2
        rw [List.getElem?_set_ne (Ne.symm hj)] at h1
        exact absurd h1 (hf (by rw [← e4]; exact o2) a (Option.some.inj (Option.some.inj h2)) j c1 (by assumption) o1)
      · rw [List.getElem?_set_ne (Ne.symm hj)] at h1
        rw [List.getElem?_set_ne (Ne.symm hk)] at h2
        exact R.apart j k c1 c2 a e1 e2 o1 o2 h1 h2
theorem Rp.setD (R : Rp K Hb Hs σ H env) {d : PyData} (r : Rv K Hs v d) : Rp K Hb Hs (σ.set i (some v)) H (env.set i (.d d)) :=
  R.setC (c := .d d) r (fun z => nomatch z) fun z => nomatch z
/-- the own objects of the slots stand in H -/
theorem Rp.owned (R : Rp K Hb Hs σ H env) {j : Nat} {c' : Cell} {a : Addr} (e : env[j]? = some c') (o : c'.own = true) (h : σ[j]? = some (some (.ref a))) : H a ≠ none ∧ Hs a = none ∧ Hb a = none := by
  obtain ⟨u, hu, ou⟩ := R.at_ j c' e (fun z => by subst z; cases o)
  rw [h] at hu
  cases hu
  cases c' with
  | d x => cases o
  | no => cases o
  | ol xs =>
    obtain ⟨b, vs, e, h1, h2, h3, _⟩ := ou
    cases e
    exact ⟨(fun z => by rw [h1] at z; cases z), h2, h3⟩
  | ok kvs =>
    obtain ⟨b, vs, e, h1, h2, h3, _⟩ := ou
    cases e
    exact ⟨(fun z => by rw [h1] at z; cases z), h2, h3⟩
  | od kvs =>
    obtain ⟨b, ob, vs, e, h1, _, h2, h3, _⟩ := ou
    cases e
    exact ⟨(fun z => by rw [h1] at z; cases z), h2, h3⟩

/-! ### slots forgotten -/
def wipeE (env : En) : List Nat → En
  | [] => env
  | v :: vs => (wipeE env vs).set v .no
theorem wipe_get (σ : L2.St) (i : Nat) : ∀ vs : List Nat, (wipe σ vs)[i]? = if i ∈ vs then (σ[i]?).map (fun _ => none) else σ[i]?
  | [] => by rw [if_neg (by simp)]; rfl
  | v :: vs => by
    have ih := wipe_get σ i vs
    unfold wipe
    by_cases e : i = v
    · subst e
      rw [if_pos List.mem_cons_self]
      by_cases hl : i < σ.length
      · rw [List.getElem?_set_self (by rw [wipe_length]; exact hl), List.getElem?_eq_getElem hl]; rfl
      · rw [List.getElem?_eq_none (by rw [List.length_set, wipe_length]; omega), List.getElem?_eq_none (by omega)]; rfl
    · rw [List.getElem?_set_ne (Ne.symm e), ih]
      by_cases hm : i ∈ vs
      · rw [if_pos hm, if_pos (List.mem_cons_of_mem _ hm)]
      · rw [if_neg hm, if_neg (fun z => (List.mem_cons.mp z).elim e hm)]
theorem wipe_set {vs : List Nat} {i : Nat} {x : Option V} (σ : L2.St) (h : i ∈ vs) : wipe (σ.set i x) vs = wipe σ vs := by
  apply List.ext_getElem?
  intro j
  rw [wipe_get, wipe_get]
  by_cases hj : j ∈ vs
  · rw [if_pos hj, if_pos hj]
    by_cases e : j = i
    · subst e
      by_cases hl : j < σ.length
      · rw [List.getElem?_set_self hl, List.getElem?_eq_getElem hl]; rfl
      · rw [List.getElem?_eq_none (by rw [List.length_set]; omega), List.getElem?_eq_none (by omega)]
    · rw [List.getElem?_set_ne (Ne.symm e)]
  · rw [if_neg hj, if_neg hj]
    rw [List.getElem?_set_ne (fun z => hj (by rw [← z]; exact h))]
theorem wipe_wipe (σ : L2.St) (vs : List Nat) : wipe (wipe σ vs) vs = wipe σ vs := by
  apply List.ext_getElem?
  intro j
  rw [wipe_get, wipe_get]
  by_cases hj : j ∈ vs
  · rw [if_pos hj, if_pos hj, Option.map_map]; rfl
  · rw [if_neg hj, if_neg hj]
theorem wipeE_length (env : En) : ∀ vs : List Nat, (wipeE env vs).length = env.length
  | [] => rfl
  | v :: vs => by unfold wipeE; rw [List.length_set, wipeE_length env vs]
theorem wipeE_some {env : En} {i : Nat} {c : Cell} (n : c ≠ .no) : ∀ {vs : List Nat}, (wipeE env vs)[i]? = some c → env[i]? = some c ∧ i ∉ vs
  | [], h => ⟨h, by simp⟩
  | v :: vs, h => by
    unfold wipeE at h
    rcases set_get h with ⟨_, e, _⟩ | ⟨hj, h⟩
    · exact absurd e n
    · obtain ⟨h1, h2⟩ := wipeE_some n h
      exact ⟨h1, fun z => (List.mem_cons.mp z).elim hj h2⟩
theorem Rp.wipe (R : Rp K Hb Hs σ H env) (vs : List Nat) : Rp K Hb Hs (wipe σ vs) H (wipeE env vs) := by
  refine ⟨R.qh, R.bh, by rw [wipe_length, wipeE_length]; exact R.len, fun j c e n => ?_, fun j k c1 c2 a e1 e2 o1 o2 h1 h2 => ?_⟩
  · obtain ⟨e, hj⟩ := wipeE_some n e
    obtain ⟨u, hu, ou⟩ := R.at_ j c e n
    exact ⟨u, by rw [wipe_get, if_neg hj]; exact hu, ou⟩
  · obtain ⟨e1, _⟩ := wipeE_some (fun z => by subst z; cases o1) e1
    obtain ⟨e2, _⟩ := wipeE_some (fun z => by subst z; cases o2) e2
    exact R.apart j k c1 c2 a e1 e2 o1 o2 (wipe_some h1).1 (wipe_some h2).1
end

/-! ### targets -/
inductive Tg where
  | one (i : Nat) | many (is : List Nat)
def Tg.ixs : Tg → List Nat
  | .one i => [i]
  | .many is => is
def putAll : List Nat → List PyData → En → Option En
  | [], [], env => some env
  | i :: is, d :: ds, env => putAll is ds (env.set i (.d d))
  | _, _, _ => none
def Tg.put (t : Tg) (d : PyData) (env : En) : Option En := match t, d with
  | .one i, d => some (env.set i (.d d))
  | .many is, .tuple ds => putAll is ds env
  | .many _, _ => none
/-- behind a store to the slots ixs -/
def tG (K : KW) (t : Tg) : TG := fun v σ H Q => ∃ Hb Hs env d env', Rp K Hb Hs σ H env ∧ Rv K Hs v d ∧ t.put d env = some env' ∧ ∀ σ', Rp K Hb Hs σ' H env' → (∀ vs, (∀ i ∈ t.ixs, i ∈ vs) → wipe σ' vs = wipe σ vs) → Q σ' H
def tGs (K : KW) (is : List Nat) : TGs := fun vs σ H Q => ∃ Hb Hs env ds env', Rp K Hb Hs σ H env ∧ RvA K Hs vs ds ∧ putAll is ds env = some env' ∧ ∀ σ', Rp K Hb Hs σ' H env' → (∀ vs, (∀ i ∈ is, i ∈ vs) → wipe σ' vs = wipe σ vs) → Q σ' H
abbrev PGD (X : Cx) (e : Expr) (t : Tg) : Prop := PG X e (tG (kw X) t)
abbrev PGsD (X : Cx) (es : List Expr) (is : List Nat) : Prop := PGs X es (tGs (kw X) is)
section
variable {X : Cx} {pos : Pos} {e : Expr} {es : List Expr}
theorem pg_weak {t u : TG} (h : PG X e t) (w : ∀ v σ H Q, u v σ H Q → t v σ H Q) : PG X e u := ⟨fun pins s σ H v x Q I r q => h.run pins s σ H v x Q I r (w v σ H Q q)⟩
theorem pgs_weak {t u : TGs} (h : PGs X es t) (w : ∀ v σ H Q, u v σ H Q → t v σ H Q) : PGs X es u := ⟨fun pins s σ H v x Q I r q => h.run pins s σ H v x Q I r (w v σ H Q q)⟩
theorem pgd_one {i : Nat} (h : PG X e (gName i)) : PGD X e (.one i) := pg_weak h fun v σ H Q ⟨Hb, Hs, env, d, env', R, r, e, q⟩ => by
  cases e
  exact q _ (R.setD r) fun vs hv => wipe_set σ (hv i (by simp [Tg.ixs]))
theorem pgsd_nil : PGsD X [] [] := pgs_weak pgs_nil fun v σ H Q ⟨Hb, Hs, env, ds, env', R, r, e, q⟩ => by
  cases r with
  | nil =>
    cases e
    exact ⟨rfl, q σ R fun _ _ => rfl⟩
  | cons _ _ => cases e
theorem pgsd_cons {i : Nat} {is : List Nat} (h : PG X e (gName i)) (hs : PGsD X es is) (ha : (assignEach (e :: es) X.env).map (·.2) = assign e X.env :: (assignEach es X.env).map (·.2) := by rfl) : PGsD X (e :: es) (i :: is) :=
  pgs_weak (pgs_cons h hs ha) fun v σ H Q ⟨Hb, Hs, env, ds, env', R, r, e, q⟩ => by
    cases r with
    | nil => cases e
    | cons r1 r2 =>
      refine ⟨_, _, rfl, Hb, Hs, _, _, env', R.setD r1, r2, e, fun σ' R' w => q σ' R' fun vs hv => ?_⟩
      rw [w vs fun j hj => hv j (List.mem_cons_of_mem _ hj)]
      exact wipe_set σ (hv i List.mem_cons_self)
theorem putAll_len : ∀ {is : List Nat} {ds : List PyData} {env env' : En}, putAll is ds env = some env' → ds.length = is.length
  | [], [], _, _, _ => rfl
  | i :: is, d :: ds, env, env', h => by
    rw [List.length_cons, List.length_cons, putAll_len (is := is) (ds := ds) h]
  | [], _ :: _, _, _, h => by cases h
  | _ :: _, [], _, _, h => by cases h
theorem pgd_many {is : List Nat} {k n : Nat} (hc : X.calm = true) (h : PGsD X es is) (hl : is.length = n) (hn : (assignEach es X.env).length = n := by rfl) (hst : (assignEach es X.env).findIdx? (·.1) = none := by rfl) : PGD X (.Tuple es k pos) (.many is) :=
  pg_weak (pg_tup hc h hn hst) fun v σ H Q ⟨Hb, Hs, env, d, env', R, r, e, q⟩ => by
    cases d with
    | tuple ds =>
      cases r with
      | tup h1 a1 => exact ⟨_, _, rfl, same_t R.qh h1, by rw [a1.len, putAll_len (show putAll is ds env = some env' from e), hl], Hb, Hs, env, ds, env', R, a1, e, q⟩
    | _ => cases e
end

/-! ### what a for walks -/
/-- J gives the trees xs, one after the other, as long as Hs is kept -/
def ItOk (K : KW) (Hs : Hp) (J : It) (xs : List PyData) : Prop := ∀ Hs1 H1, Same Hs Hs1 → Same Hs1 H1 →
  (∀ (i : Nat) d, xs[i]? = some d → J.go i H1 ∧ ∀ x H2, J.yld i H1 x H2 → ∃ Hs2, Gr H1 Hs1 Hs2 H2 ∧ Rv K Hs2 x d) ∧ J.stop xs.length H1
def tI (K : KW) (fx : Fa) : TI := fun σ H R => ∃ Hb Hs env xs, Rp K Hb Hs σ H env ∧ fx env = some xs ∧ ∀ J Hs' H', Gr H Hs Hs' H' → ItOk K Hs' J xs → R J H'
abbrev PID (X : Cx) (tg iter : Expr) (fx : Fa) : Prop := PI X tg iter (tI (kw X) fx)
section
variable {X : Cx} {tg iter a b : Expr} {pos p : Pos} {fa fb : Fx} {fs : Fa}
theorem pi_weak {t u : TI} (h : PI X tg iter t) (w : ∀ σ H R, u σ H R → t σ H R) : PI X tg iter u := ⟨fun pins s σ H R I q => h.run pins s σ H R I (w σ H R q)⟩
theorem pi_or {t u : TI} (h : PI X tg iter t) (h' : PI X tg iter u) : PI X tg iter (fun σ H R => t σ H R ∨ u σ H R) := ⟨fun pins s σ H R I q => q.elim (h.run pins s σ H R I) (h'.run pins s σ H R I)⟩
theorem it_list {K : KW} {Hs : Hp} {c : Addr} {vs : List V} {ds : List PyData} (h : Hs c = some (.lst vs)) (r : RvA K Hs vs ds) : ItOk K Hs (Itl K.K c) ds := fun Hs1 H1 s1 s2 => by
  have hl : SqL K.K H1 c vs := SqL.of (s2 _ _ (s1 _ _ h))
  have w := walk_list (K := K.K) (a := c) (xs := vs)
  refine ⟨fun i d e => ?_, by rw [← r.len]; exact w.stops H1 hl⟩
  have hi : i < vs.length := by rw [r.len]; exact (List.getElem?_eq_some_iff.mp e).1
  refine ⟨w.goes i H1 hi hl, fun x H2 y => ?_⟩
  obtain ⟨rfl, hx⟩ := w.yields i H1 x H2 hi hl y
  obtain ⟨d', e', r'⟩ := r.getV hx
  rw [e] at e'; cases e'
  exact ⟨Hs1, Gr.refl s2, Rv.same s1 r'⟩
theorem it_tup {K : KW} {Hs : Hp} {c : Addr} {vs : List V} {ds : List PyData} (h : SqT K.K Hs c vs) (r : RvA K Hs vs ds) : ItOk K Hs (Itt K.K c) ds := fun Hs1 H1 s1 s2 => by
  have hl : SqT K.K H1 c vs := same_t (s1.trans s2) h
  have w := walk_tup (K := K.K) (a := c) (xs := vs)
  refine ⟨fun i d e => ?_, by rw [← r.len]; exact w.stops H1 hl⟩
  have hi : i < vs.length := by rw [r.len]; exact (List.getElem?_eq_some_iff.mp e).1
  refine ⟨w.goes i H1 hi hl, fun x H2 y => ?_⟩
  obtain ⟨rfl, hx⟩ := w.yields i H1 x H2 hi hl y
  obtain ⟨d', e', r'⟩ := r.getV hx
  rw [e] at e'; cases e'
  exact ⟨Hs1, Gr.refl s2, Rv.same s1 r'⟩
def seqOf : PyData → Option (List PyData)
  | .list ds => some ds
  | .tuple ds => some ds
  | _ => none
def iSeq (fa : Fx) : Fa := fun env => (fa env).bind seqOf
theorem pid_seq (h : PD X a fa) : PID X tg a (iSeq fa) := pi_weak (pi_or (pi_list h) (pi_tup h)) fun σ H R' ⟨Hb, Hs, env, xs, R, e, q⟩ => by
  obtain ⟨x, e1, e2⟩ := bind_some e
  unfold seqOf at e2
  split at e2
  · cases e2
    refine .inl ⟨Hb, Hs, env, _, R, e1, fun v Hs1 H1 g r => ?_⟩
    cases r with
    | lst h1 a1 => exact ⟨_, rfl, ⟨_, SqL.of (g.qh _ _ h1)⟩, q _ Hs1 H1 g (it_list h1 a1)⟩
  · cases e2
    refine .inr ⟨Hb, Hs, env, _, R, e1, fun v Hs1 H1 g r => ?_⟩
    cases r with
    | tup h1 a1 => exact ⟨_, rfl, ⟨_, same_t g.qh h1⟩, q _ Hs1 H1 g (it_tup h1 a1)⟩
  · cases e2
/-- range(n) -/
def upTo (n : Nat) : List PyData := (List.range n).map fun i => .int (i : Nat)
def iRange (fa : Fx) : Fa := fun env => (fa env).bind fun x => match x with
  | .int n => if n < 2 ^ 62 ∧ -(2 ^ 62) ≤ n then some (upTo n.toNat) else none
  | _ => none
theorem pid_range (hm : X.mg "range" = none) (hg : Gl X "range") (h : PD X a fa) (hs : starEach [a] X.env = [(false, eval a X.env)] := by rfl) : PID X tg (.Call (.Name "range" p) [a] [] pos) (iRange fa) :=
  pi_weak (pi_range1 hg hm (pda_cons h pda_nil hs) hs) fun σ H R' ⟨Hb, Hs, env, xs, R, e, q⟩ => by
    obtain ⟨x, e1, e2⟩ := bind_some e
    split at e2
    · rename_i n
      by_cases hn : n < 2 ^ 62 ∧ -(2 ^ 62) ≤ n
      · rw [if_pos hn] at e2; cases e2
        refine ⟨Hb, Hs, env, [.int n], R, by unfold aCons aNil; rw [e1]; rfl, fun vs Hs1 H1 g r => ?_⟩
        cases r with
        | cons r1 r2 =>
          cases r1; cases r2
          refine ⟨n, rfl, hn.2, hn.1, q _ Hs1 H1 g fun Hs2 H2 s1 s2 => ?_⟩
          have w := walk_range (lo := 0) (n := n.toNat)
          have hl : (upTo n.toNat).length = n.toNat := by unfold upTo; rw [List.length_map, List.length_range]
          refine ⟨fun i d e => ?_, by rw [hl]; exact w.stops H2 trivial⟩
          have hi : i < n.toNat := by rw [← hl]; exact (List.getElem?_eq_some_iff.mp e).1
          refine ⟨w.goes i H2 hi trivial, fun x H3 y => ?_⟩
          obtain ⟨rfl, rfl⟩ := w.yields i H2 x H3 hi trivial y
          have e3 : d = .int (i : Nat) := by
            unfold upTo at e
            rw [List.getElem?_map, List.getElem?_range hi] at e
            exact (Option.some.inj e).symm
          subst e3
          refine ⟨Hs2, Gr.refl s2, ?_⟩
          show Rv (kw X) Hs2 (.int (0 + (i : Int))) (.int (i : Int))
          rw [Int.zero_add]
          exact .int _
      · rw [if_neg hn] at e2; cases e2
    · cases e2
/-- zip of two tuples -/
def zipD : List PyData → List PyData → List PyData
  | x :: xs, y :: ys => .tuple [x, y] :: zipD xs ys
  | _, _ => []
theorem zipD_get : ∀ {xs ys : List PyData} {i : Nat} {d : PyData}, (zipD xs ys)[i]? = some d → ∃ x y, xs[i]? = some x ∧ ys[i]? = some y ∧ d = .tuple [x, y]
  | [], _, _, _, h => by unfold zipD at h; cases h
  | _ :: _, [], _, _, h => by unfold zipD at h; cases h
  | x :: xs, y :: ys, 0, d, h => ⟨x, y, rfl, rfl, (Option.some.inj h).symm⟩
  | x :: xs, y :: ys, i + 1, d, h => zipD_get (xs := xs) (ys := ys) (i := i) h
theorem zipD_len : ∀ (xs ys : List PyData), xs.length = ys.length → (zipD xs ys).length = xs.length
  | [], _, _ => rfl
  | _ :: _, [], h => by cases h
  | x :: xs, y :: ys, h => by
    show (zipD xs ys).length + 1 = xs.length + 1
    rw [zipD_len xs ys (Nat.succ.inj h)]
def iZip (fs : Fa) : Fa := fun env => (fs env).bind fun ds => match ds with
  | [.tuple xs, .tuple ys] => if xs.length = ys.length then some (zipD xs ys) else none
  | _ => none
theorem it_zip {K : KW} {Hs : Hp} {c c' : Addr} {vs us : List V} {xs ys : List PyData} (h : SqT K.K Hs c vs) (r : RvA K Hs vs xs) (h' : SqT K.K Hs c' us) (r' : RvA K Hs us ys) (hl : xs.length = ys.length) : ItOk K Hs (RZ.ItzT K.K c c') (zipD xs ys) := fun Hs1 H1 s1 s2 => by
  have t1 : SqT K.K H1 c vs := same_t (s1.trans s2) h
  have t2 : SqT K.K H1 c' us := same_t (s1.trans s2) h'
  refine ⟨fun i d e => ?_, ⟨vs, us, t1, t2, .inl (by rw [zipD_len _ _ hl, r.len]; exact Nat.le_refl _)⟩⟩
  obtain ⟨x, y, ex, ey, rfl⟩ := zipD_get e
  obtain ⟨v, hv, rv⟩ := r.get ex
  obtain ⟨u, hu, ru⟩ := r'.get ey
  refine ⟨⟨vs, us, v, u, t1, t2, hv, hu⟩, fun w H2 z => ?_⟩
  obtain ⟨T, x', y', rfl, hT, rfl, k1, k2⟩ := z
  have e1 : x' = v := Option.some.inj ((k1 vs t1).symm.trans hv)
  have e2 : y' = u := Option.some.inj ((k2 us t2).symm.trans hu)
  have rv' : Rv K Hs x' x := by rw [e1]; exact rv
  have ru' : Rv K Hs y' y := by rw [e2]; exact ru
  have g := Gr.new (o := .tup [x', y']) s2 hT
  exact ⟨_, g, .tup (SqT.of upd_same) (.cons (Rv.same (s1.trans g.qq) rv') (.cons (Rv.same (s1.trans g.qq) ru') .nil))⟩
theorem pid_zip {elts : List Expr} {kk : Nat} {tpos : Pos} (hm : X.mg "zip" = none) (hg : Gl X "zip") (ha : PDA X [a, b] fs)
    (hs : starEach [a, b] X.env = (false, eval a X.env) :: starEach [b] X.env := by rfl) (hpl : (backTo pos (starEach [b] X.env)).any (·.1) = false := by rfl) :
    PID X (.Tuple elts kk tpos) (.Call (.Name "zip" p) [a, b] [] pos) (iZip fs) :=
  pi_weak (RZ.pi_zipA hg hm ha hs hpl) fun σ H R' ⟨Hb, Hs, env, xs, R, e, q⟩ => by
    obtain ⟨ds, e1, e2⟩ := bind_some e
    split at e2
    · rename_i xs ys
      by_cases hl : xs.length = ys.length
      · rw [if_pos hl] at e2; cases e2
        refine ⟨Hb, Hs, env, _, R, e1, fun vs Hs1 H1 g r => ?_⟩
        cases r with
        | cons r1 r2 =>
          cases r2 with
          | cons r2 r3 =>
            cases r3
            cases r1 with
            | tup h1 a1 =>
              cases r2 with
              | tup h2 a2 => exact ⟨_, _, _, _, rfl, .inr ⟨same_t g.qh h1, same_t g.qh h2, q _ Hs1 H1 g (it_zip h1 a1 h2 a2 hl)⟩⟩
      · rw [if_neg hl] at e2; cases e2
    · cases e2
end
end DL

/-! DL6: comprehensions of the data layer. -/
namespace DL
open PySem L2

/-- H without what stands at D -/
def remH (H : Hp) (D : Addr) : Hp := fun b => if b = D then none else H b
theorem rem_ne {H : Hp} {D b : Addr} (h : b ≠ D) : remH H D b = H b := by unfold remH; rw [if_neg h]
theorem rem_at {H : Hp} {D : Addr} : remH H D D = none := by unfold remH; rw [if_pos rfl]
theorem rem_same (H : Hp) (D : Addr) : Same (remH H D) H := fun b o e => by
  by_cases h : b = D
  · rw [h, rem_at] at e; cases e
  · rw [rem_ne h] at e; exact e
theorem rem_upd {H : Hp} {D : Addr} {o : HO} : remH (upd H D o) D = remH H D := by
  funext b
  by_cases h : b = D
  · rw [h, rem_at, rem_at]
  · rw [rem_ne h, rem_ne h, upd_ne h]
theorem rem_free {H : Hp} {D : Addr} (h : H D = none) : remH H D = H := by
  funext b
  by_cases e : b = D
  · rw [e, rem_at, h]
  · rw [rem_ne e]
/-- what grows outside of D -/
theorem Gr.rem {H Hs Hs' H' : Hp} {D : Addr} (g : Gr H Hs Hs' H') (h0 : Hs D = none) (h1 : H D ≠ none) : Gr (remH H D) Hs Hs' (remH H' D) := by
  have hD : Hs' D = none := g.out D h0 h1
  refine ⟨g.qq, fun b o e => ?_, fun b o e => ?_, fun b e n => ?_⟩
  · have : b ≠ D := fun z => by rw [z, hD] at e; cases e
    rw [rem_ne this]; exact g.qh b o e
  · have : b ≠ D := fun z => by rw [z, rem_at] at e; cases e
    rw [rem_ne this] at e ⊢; exact g.hh b o e
  · by_cases z : b = D
    · rw [z]; exact hD
    · rw [rem_ne z] at n; exact g.out b e n
theorem Gr.back {H Hs : Hp} {D : Addr} (s : Same Hs (remH H D)) : Gr (remH H D) Hs Hs H := ⟨Same.refl _, s.trans (rem_same H D), rem_same H D, fun _ h _ => h⟩
/-- the list at D joins the quiet part -/
theorem Gr.join {H1 Hs1 Hs H : Hp} {D : Addr} {o : HO} (g : Gr H1 Hs1 Hs (remH H D)) (h1 : H1 D = none) (h : H D = some o) : Gr H1 Hs1 (upd Hs D o) H := by
  have hD : Hs D = none := by
    cases q : Hs D with
    | none => rfl
    | some u => have := g.qh D u q; rw [rem_at] at this; cases this
  refine ⟨fun b u e => ?_, fun b u e => ?_, fun b u e => rem_same H D b u (g.hh b u e), fun b e n => ?_⟩
  · have := g.qq b u e
    rw [upd_ne (fun z => by rw [z, hD] at this; cases this)]
    exact this
  · by_cases z : b = D
    · subst z; rw [upd_same] at e; rw [h]; exact e
    · rw [upd_ne z] at e; exact rem_same H D b u (g.qh b u e)
  · have : b ≠ D := fun z => n (by rw [z]; exact h1)
    rw [upd_ne this]; exact g.out b e n

/-! ### [elt for t in xs if c] -/
def lcGo (t : Tg) (ft : Ft) (fe : Fx) (env : En) : List PyData → Option (List PyData)
  | [] => some []
  | x :: xs => (t.put x env).bind fun e1 => (ft e1).bind fun b => if b = true then (fe e1).bind fun d => (lcGo t ft fe env xs).bind fun r => some (d :: r) else lcGo t ft fe env xs
def eLc (fx : Fa) (vs : List Nat) (t : Tg) (ft : Ft) (fe : Fx) : Fx := fun env => (fx env).bind fun xs => if xs.length ≤ line then (lcGo t ft fe (wipeE env vs) xs).bind fun r => some (.list r) else none
def ftT : Ft := fun _ => some true
section
variable {X : Cx}
abbrev PTsD (X : Cx) (es : List Expr) (f : Ft) : Prop := PTs X es (tDT (kw X) f)
theorem ptsd_nil : PTsD X [] ftT := ⟨fun pins s σ H Q I ⟨Hb, Hs, env, b, R, e, q⟩ => pts_nil.run pins s σ H Q I (by cases e; exact q Hs H (Gr.refl R.qh))⟩
theorem ptsd_one {c : Expr} {f : Ft} (h : PDT X c f) : PTsD X [c] f := pts_one h
theorem tD_lc {K : KW} {fx : Fa} {vs : List Nat} {t : Tg} {ft : Ft} {fe : Fx} (hv : ∀ i ∈ t.ixs, i ∈ vs) {σ : L2.St} {H : Hp} {Q : VK} (h : tD K (eLc fx vs t ft fe) σ H Q) : tLc (tI K fx) (tG K t) (tDT K ft) (tD K fe) vs σ H Q := by
  obtain ⟨Hb, Hs, env, d, R, e, q⟩ := h
  obtain ⟨xs, e1, e⟩ := bind_some e
  by_cases hl : xs.length ≤ line
  · rw [if_pos hl] at e
    obtain ⟨ds, e2, e3⟩ := bind_some e
    cases e3
    refine ⟨Hb, Hs, env, xs, R, e1, fun J Hs1 H1 g1 it D hD => ?_⟩
    have R1 := R.gr g1
    refine ⟨fun i m H2 => ∃ (Hs2 : Hp) (acc : List V) (accd rest : List PyData), m = xs.length - i ∧ i ≤ xs.length ∧ H2 D = some (.lst acc) ∧ Gr H1 Hs1 Hs2 (remH H2 D) ∧ RvA K Hs2 acc accd ∧ acc.length ≤ i ∧ lcGo t ft fe (wipeE env vs) (xs.drop i) = some rest ∧ accd ++ rest = ds,
      ⟨xs.length, Hs1, [], [], ds, by simp, Nat.zero_le _, upd_same, by rw [rem_upd, rem_free hD]; exact Gr.refl g1.qh, .nil, Nat.zero_le _, e2, rfl⟩, ?_⟩
    rintro i m H2 ⟨Hs2, acc, accd, rest, rfl, hi, hD2, g2, ra, hacc, eg, ed⟩
    have s2 : Same Hs2 H2 := g2.qh.trans (rem_same H2 D)
    have it2 := it Hs2 H2 g2.qq s2
    by_cases hlt : i < xs.length
    · refine .inr ?_
      have ex : xs[i]? = some xs[i] := List.getElem?_eq_getElem hlt
      obtain ⟨go, yl⟩ := it2.1 i xs[i] ex
      refine ⟨go, fun H' => ∃ (Hs2 : Hp) (acc : List V) (accd rest : List PyData), H' D = some (.lst acc) ∧ Gr H1 Hs1 Hs2 (remH H' D) ∧ RvA K Hs2 acc accd ∧ acc.length ≤ i + 1 ∧ lcGo t ft fe (wipeE env vs) (xs.drop (i + 1)) = some rest ∧ accd ++ rest = ds,
        fun H' ⟨Hs', acc', accd', rest', a1, a2, a3, a4, a5, a6⟩ => ⟨xs.length - (i + 1), by omega, Hs', acc', accd', rest', rfl, hlt, a1, a2, a3, a4, a5, a6⟩, fun x H3 y => ?_⟩
      obtain ⟨Hs3, g3, rx⟩ := yl x H3 y
      have R3 : Rp K Hb Hs3 σ H3 env := ((R1.gr g2).gr (Gr.back g2.qh)).gr g3
      have Rw := R3.wipe vs
      rw [List.drop_eq_getElem_cons hlt] at eg
      obtain ⟨en1, ep, eg⟩ := bind_some eg
      obtain ⟨b, eb, eg⟩ := bind_some eg
      refine ⟨Hb, Hs3, wipeE env vs, xs[i], en1, Rw, rx, ep, fun σ' R' w => ⟨by rw [w vs hv, wipe_wipe], Hb, Hs3, en1, b, R', eb, fun Hs4 H4 g4 => ?_⟩⟩
      have hDn : Hs2 D = none := by
        cases z : Hs2 D with
        | none => rfl
        | some u => have := g2.qh D u z; rw [rem_at] at this; cases this
      have hD2n : H2 D ≠ none := fun z => by rw [z] at hD2; cases hD2
      cases b with
      | true =>
        rw [if_pos rfl] at eg
        obtain ⟨dx, ef, eg⟩ := bind_some eg
        obtain ⟨r, er, eg⟩ := bind_some eg
        cases eg
        refine iteT ⟨Hb, Hs4, en1, dx, R'.gr g4, ef, fun v Hs5 H5 g5 rv => ?_⟩
        have gg := g3.trans (g4.trans g5)
        refine ⟨acc, gg.hh _ _ hD2, line_lt (by omega), Hs5, acc ++ [v], accd ++ [dx], r, upd_same, ?_, (RvA.same gg.qq ra).app (.one rv), by rw [List.length_append, List.length_singleton]; omega, er, by rw [← ed, List.append_assoc]; rfl⟩
        rw [rem_upd]
        exact g2.trans (gg.rem hDn hD2n)
      | false =>
        rw [if_neg Bool.false_ne_true] at eg
        have gg := g3.trans g4
        exact iteF ⟨Hs4, acc, accd, rest, gg.hh _ _ hD2, g2.trans (gg.rem hDn hD2n), RvA.same gg.qq ra, by omega, eg, ed⟩
    · have e4 : i = xs.length := by omega
      subst e4
      rw [List.drop_length] at eg
      cases eg
      rw [List.append_nil] at ed
      subst ed
      refine .inl ⟨it2.2, q _ _ _ (g1.trans (g2.join hD hD2)) (.lst upd_same (RvA.same (fun b o e => ?_) ra))⟩
      have : b ≠ D := fun z => by
        have := g2.qh b o e
        rw [z, rem_at] at this; cases this
      rw [upd_ne this]; exact e
  · rw [if_neg hl] at e; cases e
variable {elt tg iter : Expr} {ifs : List Expr} {scope : Scope} {own : List (Str × Nat)} {pos : Pos} {fx : Fa} {t : Tg} {ft : Ft} {fe : Fx}
theorem pd_lc (hc : X.calm = true) (hN : X.N.Nodup) (hv : ∀ i ∈ t.ixs, i ∈ own.map (·.2)) (hi : PID X tg iter fx) (ok : BlkOk X.N X.env.scope scope own)
    (hg : ∀ (s : Shared) (H : Hp) (C : Addr) (cl : List (Str × Addr)) (fp : List Addr), PGD (X.blk s H scope (compEnvC scope cl C X.env) fp) tg t) (ht : ∀ (s : Shared) (H : Hp) (C : Addr) (cl : List (Str × Addr)) (fp : List Addr), PTsD (X.blk s H scope (compEnvC scope cl C X.env) fp) ifs ft)
    (he : ∀ (s : Shared) (H : Hp) (C : Addr) (cl : List (Str × Addr)) (fp : List Addr), PD (X.blk s H scope (compEnvC scope cl C X.env) fp) elt fe) (hs : ∀ x, foldedSetIterable iter X.env x = pure x := by intro _; rfl) :
    PD X (.ListComp elt [⟨tg, iter, ifs, 0⟩] scope pos) (eLc fx (own.map (·.2)) t ft fe) :=
  pe_weak (pe_lc hc hN hi ok hg ht he hs) fun _ _ _ q => tD_lc hv q
end

/-! ### [elt for t in xs if c for t1 in ys if c1] -/
section
variable {K : KW} {Hb Hs H : Hp} {σ : L2.St} {env : En} {D : Addr} {o : HO}
/-- the object at D is protected, too -/
theorem Rp.guard (R : Rp K Hb Hs σ (remH H D) env) (h : H D = some o) : Rp K (upd Hb D o) Hs σ H env := by
  refine ⟨R.qh.trans (rem_same H D), fun b u e => ?_, R.len, fun i c e n => ?_, R.apart⟩
  · by_cases z : b = D
    · subst z; rw [upd_same] at e; rw [h]; exact e
    · rw [upd_ne z] at e; exact rem_same H D b u (R.bh b u e)
  · obtain ⟨v, h1, h2⟩ := R.at_ i c e n
    have ne : ∀ {a : Addr} {u : HO}, remH H D a = some u → a ≠ D := fun {a u} q z => by rw [z, rem_at] at q; cases q
    refine ⟨v, h1, ?_⟩
    cases c with
    | d x => exact h2
    | no => exact True.intro
    | ol xs =>
      obtain ⟨a, vs, e1, e2, e3, e4, e5⟩ := h2
      exact ⟨a, vs, e1, rem_same H D _ _ e2, e3, by rw [upd_ne (ne e2)]; exact e4, e5⟩
    | ok kvs =>
      obtain ⟨a, vs, e1, e2, e3, e4, e5⟩ := h2
      exact ⟨a, vs, e1, rem_same H D _ _ e2, e3, by rw [upd_ne (ne e2)]; exact e4, e5⟩
    | od kvs =>
      obtain ⟨a, ob, vs, e1, e2, e0, e3, e4, e5⟩ := h2
      exact ⟨a, ob, vs, e1, rem_same H D _ _ e2, e0, e3, by rw [upd_ne (ne e2)]; exact e4, e5⟩
theorem Rp.unguard (R : Rp K (upd Hb D o) Hs σ H env) (hb : Hb D = none) (hs : Hs D = none) : Rp K Hb Hs σ (remH H D) env := by
  refine ⟨fun b u e => ?_, fun b u e => ?_, R.len, fun i c e n => ?_, R.apart⟩
  · rw [rem_ne (fun z => by rw [z, hs] at e; cases e)]; exact R.qh b u e
  · have z : b ≠ D := fun z => by rw [z, hb] at e; cases e
    rw [rem_ne z]; exact R.bh b u (by rw [upd_ne z]; exact e)
  · obtain ⟨v, h1, h2⟩ := R.at_ i c e n
    have ne : ∀ {a : Addr}, upd Hb D o a = none → a ≠ D := fun {a} q z => by rw [z, upd_same] at q; cases q
    refine ⟨v, h1, ?_⟩
    cases c with
    | d x => exact h2
    | no => exact True.intro
    | ol xs =>
      obtain ⟨a, vs, e1, e2, e3, e4, e5⟩ := h2
      exact ⟨a, vs, e1, by rw [rem_ne (ne e4)]; exact e2, e3, by rw [upd_ne (ne e4)] at e4; exact e4, e5⟩
    | ok kvs =>
      obtain ⟨a, vs, e1, e2, e3, e4, e5⟩ := h2
      exact ⟨a, vs, e1, by rw [rem_ne (ne e4)]; exact e2, e3, by rw [upd_ne (ne e4)] at e4; exact e4, e5⟩
    | od kvs =>
      obtain ⟨a, ob, vs, e1, e2, e0, e3, e4, e5⟩ := h2
      exact ⟨a, ob, vs, e1, by rw [rem_ne (ne e4)]; exact e2, e0, e3, by rw [upd_ne (ne e4)] at e4; exact e4, e5⟩
end
def lc2Go (t : Tg) (ft : Ft) (fx1 : Fa) (vs1 : List Nat) (t1 : Tg) (ft1 : Ft) (fe : Fx) (env : En) : List PyData → Option (List PyData)
  | [] => some []
  | x :: xs => (t.put x env).bind fun e1 => (ft e1).bind fun b => if b = true then (fx1 e1).bind fun ys => (lcGo t1 ft1 fe (wipeE e1 vs1) ys).bind fun r1 => (lc2Go t ft fx1 vs1 t1 ft1 fe env xs).bind fun r => some (r1 ++ r) else lc2Go t ft fx1 vs1 t1 ft1 fe env xs
def eLc2 (fx : Fa) (vs : List Nat) (t : Tg) (ft : Ft) (fx1 : Fa) (vs1 : List Nat) (t1 : Tg) (ft1 : Ft) (fe : Fx) : Fx := fun env => (fx env).bind fun xs => (lc2Go t ft fx1 vs1 t1 ft1 fe (wipeE env vs) xs).bind fun r => if r.length ≤ line then some (.list r) else none
theorem rem_none {Hz Hh : Hp} {D : Addr} (s : Same Hz (remH Hh D)) : Hz D = none := by
  cases z : Hz D with
  | none => rfl
  | some u => have := s D u z; rw [rem_at] at this; cases this
section
variable {X : Cx}
theorem tD_lc2 {K : KW} {fx fx1 : Fa} {vs vs1 : List Nat} {t t1 : Tg} {ft ft1 : Ft} {fe : Fx} (hv : ∀ i ∈ t.ixs, i ∈ vs) (hv1 : ∀ i ∈ t1.ixs, i ∈ vs1) {σ : L2.St} {H : Hp} {Q : VK} (h : tD K (eLc2 fx vs t ft fx1 vs1 t1 ft1 fe) σ H Q) :
    tLc2 (tI K fx) (tG K t) (tDT K ft) (tI K fx1) (tG K t1) (tDT K ft1) (tD K fe) vs vs1 σ H Q := by
  obtain ⟨Hb, Hs, env, d, R, e, q⟩ := h
  obtain ⟨xs, e1, e⟩ := bind_some e
  obtain ⟨ds, e2, e3⟩ := bind_some e
  by_cases hl : ds.length ≤ line
  · rw [if_pos hl] at e3
    cases e3
    refine ⟨Hb, Hs, env, xs, R, e1, fun J Hs1 H1 g1 it D hD => ?_⟩
    have R1 := R.gr g1
    have hbD : Hb D = none := R1.bh.free hD
    refine ⟨fun i m H2 => ∃ (Hs2 : Hp) (acc : List V) (accd rest : List PyData), m = xs.length - i ∧ i ≤ xs.length ∧ H2 D = some (.lst acc) ∧ Gr H1 Hs1 Hs2 (remH H2 D) ∧ RvA K Hs2 acc accd ∧ lc2Go t ft fx1 vs1 t1 ft1 fe (wipeE env vs) (xs.drop i) = some rest ∧ accd ++ rest = ds,
      ⟨xs.length, Hs1, [], [], ds, by simp, Nat.zero_le _, upd_same, by rw [rem_upd, rem_free hD]; exact Gr.refl g1.qh, .nil, e2, rfl⟩, ?_⟩
    rintro i m H2 ⟨Hs2, acc, accd, rest, rfl, hi, hD2, g2, ra, eg, ed⟩
    have s2 : Same Hs2 H2 := g2.qh.trans (rem_same H2 D)
    have it2 := it Hs2 H2 g2.qq s2
    by_cases hlt : i < xs.length
    · refine .inr ?_
      have ex : xs[i]? = some xs[i] := List.getElem?_eq_getElem hlt
      obtain ⟨go, yl⟩ := it2.1 i xs[i] ex
      refine ⟨go, fun H' => ∃ (Hs2 : Hp) (acc : List V) (accd rest : List PyData), H' D = some (.lst acc) ∧ Gr H1 Hs1 Hs2 (remH H' D) ∧ RvA K Hs2 acc accd ∧ lc2Go t ft fx1 vs1 t1 ft1 fe (wipeE env vs) (xs.drop (i + 1)) = some rest ∧ accd ++ rest = ds,
        fun H' ⟨Hs', acc', accd', rest', a1, a2, a3, a5, a6⟩ => ⟨xs.length - (i + 1), by omega, Hs', acc', accd', rest', rfl, hlt, a1, a2, a3, a5, a6⟩, fun x H3 y => ?_⟩
      obtain ⟨Hs3, g3, rx⟩ := yl x H3 y
      have R3 : Rp K (upd Hb D (.lst acc)) Hs3 σ H3 env := ((R1.gr g2).guard hD2).gr g3
      have Rw := R3.wipe vs
      rw [List.drop_eq_getElem_cons hlt] at eg
      obtain ⟨en1, ep, eg⟩ := bind_some eg
      obtain ⟨b, eb, eg⟩ := bind_some eg
      refine ⟨_, Hs3, wipeE env vs, xs[i], en1, Rw, rx, ep, fun σ' R' w => ⟨by rw [w vs hv, wipe_wipe], _, Hs3, en1, b, R', eb, fun Hs4 H4 g4 => ?_⟩⟩
      have hDn : Hs2 D = none := rem_none g2.qh
      have hD2n : H2 D ≠ none := fun z => by rw [z] at hD2; cases hD2
      cases b with
      | true =>
        rw [if_pos rfl] at eg
        obtain ⟨ys, ey, eg⟩ := bind_some eg
        obtain ⟨r1, er1, eg⟩ := bind_some eg
        obtain ⟨r, er, eg⟩ := bind_some eg
        cases eg
        refine iteT ⟨_, Hs4, en1, ys, R'.gr g4, ey, fun J1 Hs5 H5 g5 itn => ?_⟩
        have R5 := (R'.gr g4).gr g5
        have g25 := g3.trans (g4.trans g5)
        have hD5 := g25.hh _ _ hD2
        have gx : Gr H1 Hs1 Hs5 (remH H5 D) := g2.trans (g25.rem hDn hD2n)
        have Rr : Rp K Hb Hs5 σ' (remH H5 D) en1 := R5.unguard hbD (rem_none gx.qh)
        refine ⟨fun j k H6 => ∃ (Hs6 : Hp) (acc : List V) (accd rest1 : List PyData), k = ys.length - j ∧ j ≤ ys.length ∧ H6 D = some (.lst acc) ∧ Gr (remH H5 D) Hs5 Hs6 (remH H6 D) ∧ RvA K Hs6 acc accd ∧ lcGo t1 ft1 fe (wipeE en1 vs1) (ys.drop j) = some rest1 ∧ accd ++ (rest1 ++ r) = ds,
          ⟨ys.length, Hs5, acc, accd, r1, by simp, Nat.zero_le _, hD5, Gr.refl gx.qh, RvA.same g25.qq ra, er1, ed⟩, ?_⟩
        rintro j k H6 ⟨Hs6, acc6, accd6, rest1, rfl, hj, hD6, g6, ra6, eg6, ed6⟩
        have s6 : Same Hs6 H6 := g6.qh.trans (rem_same H6 D)
        have it6 := itn Hs6 H6 g6.qq s6
        have hDn6 : Hs6 D = none := rem_none g6.qh
        have hD6n : H6 D ≠ none := fun z => by rw [z] at hD6; cases hD6
        by_cases hlt1 : j < ys.length
        · refine .inr ?_
          have ex1 : ys[j]? = some ys[j] := List.getElem?_eq_getElem hlt1
          obtain ⟨go1, yl1⟩ := it6.1 j ys[j] ex1
          refine ⟨go1, fun H' => ∃ (Hs6 : Hp) (acc : List V) (accd rest1 : List PyData), H' D = some (.lst acc) ∧ Gr (remH H5 D) Hs5 Hs6 (remH H' D) ∧ RvA K Hs6 acc accd ∧ lcGo t1 ft1 fe (wipeE en1 vs1) (ys.drop (j + 1)) = some rest1 ∧ accd ++ (rest1 ++ r) = ds,
            fun H' ⟨Hs', acc', accd', rest', a1, a2, a3, a5, a6⟩ => ⟨ys.length - (j + 1), by omega, Hs', acc', accd', rest', rfl, hlt1, a1, a2, a3, a5, a6⟩, fun x1 H7 y1 => ?_⟩
          obtain ⟨Hs7, g7, rx1⟩ := yl1 x1 H7 y1
          have R7 : Rp K Hb Hs7 σ' H7 en1 := ((Rr.gr g6).gr (Gr.back g6.qh)).gr g7
          rw [List.drop_eq_getElem_cons hlt1] at eg6
          obtain ⟨en2, ep2, eg6⟩ := bind_some eg6
          obtain ⟨b2, eb2, eg6⟩ := bind_some eg6
          refine ⟨Hb, Hs7, wipeE en1 vs1, ys[j], en2, R7.wipe vs1, rx1, ep2, fun σ3 R8 w3 => ⟨by rw [w3 vs1 hv1, wipe_wipe], Hb, Hs7, en2, b2, R8, eb2, fun Hs8 H8 g8 => ?_⟩⟩
          cases b2 with
          | true =>
            rw [if_pos rfl] at eg6
            obtain ⟨dx, ef, eg6⟩ := bind_some eg6
            obtain ⟨r2, er2, eg6⟩ := bind_some eg6
            cases eg6
            refine iteT ⟨Hb, Hs8, en2, dx, R8.gr g8, ef, fun v Hs9 H9 g9 rv => ?_⟩
            have gg := g7.trans (g8.trans g9)
            have hz : accd6.length < ds.length := by
              rw [← ed6, List.length_append, List.length_append, List.length_cons]; omega
            refine ⟨acc6, gg.hh _ _ hD6, line_lt (by rw [ra6.len]; omega), Hs9, acc6 ++ [v], accd6 ++ [dx], r2, upd_same, ?_, (RvA.same gg.qq ra6).app (.one rv), er2, by rw [← ed6, List.append_assoc]; rfl⟩
            rw [rem_upd]
            exact g6.trans (gg.rem hDn6 hD6n)
          | false =>
            rw [if_neg Bool.false_ne_true] at eg6
            have gg := g7.trans g8
            exact iteF ⟨Hs8, acc6, accd6, rest1, gg.hh _ _ hD6, g6.trans (gg.rem hDn6 hD6n), RvA.same gg.qq ra6, eg6, ed6⟩
        · have e4 : j = ys.length := by omega
          subst e4
          rw [List.drop_length] at eg6
          cases eg6
          exact .inl ⟨it6.2, Hs6, acc6, accd6, r, hD6, gx.trans g6, ra6, er, ed6⟩
      | false =>
        rw [if_neg Bool.false_ne_true] at eg
        have gg := g3.trans g4
        exact iteF ⟨Hs4, acc, accd, rest, gg.hh _ _ hD2, g2.trans (gg.rem hDn hD2n), RvA.same gg.qq ra, eg, ed⟩
    · have e4 : i = xs.length := by omega
      subst e4
      rw [List.drop_length] at eg
      cases eg
      rw [List.append_nil] at ed
      subst ed
      refine .inl ⟨it2.2, q _ _ _ (g1.trans (g2.join hD hD2)) (.lst upd_same (RvA.same (fun b o e => ?_) ra))⟩
      have := g2.qh b o e
      rw [upd_ne (fun z => by rw [z, rem_at] at this; cases this)]; exact e
  · rw [if_neg hl] at e3; cases e3
variable {elt tg iter tg1 iter1 : Expr} {ifs ifs1 : List Expr} {scope : Scope} {own : List (Str × Nat)} {vs1 : List Nat} {pos : Pos} {fx fx1 : Fa} {t t1 : Tg} {ft ft1 : Ft} {fe : Fx}
theorem pd_lc2 (hc : X.calm = true) (hN : X.N.Nodup) (hv : ∀ i ∈ t.ixs, i ∈ own.map (·.2)) (hv1 : ∀ i ∈ t1.ixs, i ∈ vs1) (hi : PID X tg iter fx) (ok : BlkOk X.N X.env.scope scope own) (hvo : ∀ i ∈ vs1, i ∈ own.map (·.2))
    (hg : ∀ (s : Shared) (H : Hp) (C : Addr) (cl : List (Str × Addr)) (fp : List Addr), PGD (X.blk s H scope (compEnvC scope cl C X.env) fp) tg t) (ht : ∀ (s : Shared) (H : Hp) (C : Addr) (cl : List (Str × Addr)) (fp : List Addr), PTsD (X.blk s H scope (compEnvC scope cl C X.env) fp) ifs ft)
    (hi1 : ∀ (s : Shared) (H : Hp) (C : Addr) (cl : List (Str × Addr)) (fp : List Addr), PID (X.blk s H scope (compEnvC scope cl C X.env) fp) tg1 iter1 fx1)
    (hg1 : ∀ (s : Shared) (H : Hp) (C : Addr) (cl : List (Str × Addr)) (fp : List Addr), PGD (X.blk s H scope (compEnvC scope cl C X.env) fp) tg1 t1) (ht1 : ∀ (s : Shared) (H : Hp) (C : Addr) (cl : List (Str × Addr)) (fp : List Addr), PTsD (X.blk s H scope (compEnvC scope cl C X.env) fp) ifs1 ft1)
    (he : ∀ (s : Shared) (H : Hp) (C : Addr) (cl : List (Str × Addr)) (fp : List Addr), PD (X.blk s H scope (compEnvC scope cl C X.env) fp) elt fe) (hs : ∀ x, foldedSetIterable iter X.env x = pure x := by intro _; rfl) (hs1 : ∀ env x, foldedSetIterable iter1 env x = pure x := by intro _ _; rfl) :
    PD X (.ListComp elt [⟨tg, iter, ifs, 0⟩, ⟨tg1, iter1, ifs1, 0⟩] scope pos) (eLc2 fx (own.map (·.2)) t ft fx1 vs1 t1 ft1 fe) :=
  pe_weak (pe_lc2 hc hN hi ok hvo hg ht hi1 hg1 ht1 he hs hs1) fun _ _ _ q => tD_lc2 hv hv1 q
end
end DL

/-! DL7: statements of the data layer. -/
namespace DL
open PySem L2

/-- how a statement ends: it goes on, or a value is handed back -/
inductive Out where
  | nx (env : En) | rt (d : PyData)
abbrev Fs := En → Option Out
/-- how the quiet part grows while a def runs (Hb: what stood at its entry) -/
structure Gs (Hb Hs Hs' : Hp) : Prop where
  qq : Same Hs Hs'
  out : ∀ b, Hs b = none → Hb b ≠ none → Hs' b = none
theorem Gs.refl {Hb Hs : Hp} : Gs Hb Hs Hs := ⟨Same.refl _, fun _ h _ => h⟩
theorem Gs.trans {Hb Hs Hs1 Hs2 : Hp} (a : Gs Hb Hs Hs1) (b : Gs Hb Hs1 Hs2) : Gs Hb Hs Hs2 := ⟨a.qq.trans b.qq, fun c h n => b.out c (a.out c h n) n⟩
theorem Gr.gs {H Hs Hs' H' Hb : Hp} (g : Gr H Hs Hs' H') (s : Same Hb H) : Gs Hb Hs Hs' := ⟨g.qq, fun b h n => g.out b h fun z => n (s.free z)⟩
def EndOk (K : KW) (Hb Hs : Hp) (D : Ends) : Out → Prop
  | .nx env' => ∀ Hs' σ' H', Gs Hb Hs Hs' → Rp K Hb Hs' σ' H' env' → D.nx σ' H'
  | .rt d => ∀ v Hs' H', Gs Hb Hs Hs' → Same Hs' H' → Same Hb H' → Rv K Hs' v d → D.rt v H'
theorem EndOk.gs {K : KW} {Hb Hs Hs1 : Hp} {D : Ends} {o : Out} (g : Gs Hb Hs Hs1) (h : EndOk K Hb Hs D o) : EndOk K Hb Hs1 D o := by
  cases o with
  | nx env => exact fun Hs' σ' H' g' R => h Hs' σ' H' (g.trans g') R
  | rt d => exact fun v Hs' H' g' s1 s2 r => h v Hs' H' (g.trans g') s1 s2 r
def tS (K : KW) (g : Fs) : TS := fun D σ H => ∃ Hb Hs env o, Rp K Hb Hs σ H env ∧ g env = some o ∧ EndOk K Hb Hs D o
abbrev PSD (X : Cx) (st : Stmt) (g : Fs) : Prop := PS X st (tS (kw X) g)
abbrev PSsD (X : Cx) (sts : List Stmt) (g : Fs) : Prop := PSs X sts (tS (kw X) g)
section
variable {X : Cx} {st : Stmt} {rest : List Stmt} {e : Expr} {pos : Pos} {f : Fx} {g g' : Fs}
theorem ps_weak {t u : TS} (h : PS X st t) (w : ∀ D σ H, u D σ H → t D σ H) : PS X st u := ⟨fun pins s σ H D I q => h.run pins s σ H D I (w D σ H q)⟩
theorem pss_weak {t u : TS} (h : PSs X rest t) (w : ∀ D σ H, u D σ H → t D σ H) : PSs X rest u := ⟨fun pins s σ H D I q => h.run pins s σ H D I (w D σ H q)⟩
def gSeq (g g' : Fs) : Fs := fun env => (g env).bind fun o => match o with
  | .nx e => g' e
  | .rt d => some (.rt d)
theorem tS_seq {K : KW} {D : Ends} {σ : L2.St} {H : Hp} (h : tS K (gSeq g g') D σ H) : tSeq (tS K g) (tS K g') D σ H := by
  obtain ⟨Hb, Hs, env, o, R, e, q⟩ := h
  obtain ⟨o1, e1, e2⟩ := bind_some e
  refine ⟨Hb, Hs, env, o1, R, e1, ?_⟩
  cases o1 with
  | nx en => exact fun Hs' σ' H' gs R' => ⟨Hb, Hs', en, o, R', e2, q.gs gs⟩
  | rt d => cases e2; exact q
theorem pssd_cons (h : PSD X st g) (hs : PSsD X rest g') : PSsD X (st :: rest) (gSeq g g') := pss_weak (pss_cons h hs) fun _ _ _ q => tS_seq q
theorem pssd_one (h : PSD X st g) : PSsD X [st] g := pss_one h
def gNext : Fs := fun env => some (.nx env)
theorem pssd_nil : PSsD X [] gNext := pss_weak pss_nil fun D σ H ⟨Hb, Hs, env, o, R, e, q⟩ => by cases e; exact q Hs σ H Gs.refl R
def gNever : Fs := fun _ => none
theorem psd_never : PSD X st gNever := ps_weak ps_never fun D σ H ⟨Hb, Hs, env, o, R, e, q⟩ => by cases e
/-- return -/
def gRet (f : Fx) : Fs := fun env => (f env).bind fun d => some (.rt d)
theorem psd_ret (h : PD X e f) : PSD X (.Return (some e) pos) (gRet f) := ps_weak (ps_ret h) fun D σ H ⟨Hb, Hs, env, o, R, e, q⟩ => by
  obtain ⟨d, e1, e2⟩ := bind_some e
  cases e2
  exact ⟨Hb, Hs, env, d, R, e1, fun v Hs' H' g r => q v Hs' H' (g.gs R.bh) g.qh (R.bh.trans g.hh) r⟩
/-- if -/
def gIf (c : Ft) (g g' : Fs) : Fs := fun env => (c env).bind fun b => if b = true then g env else g' env
theorem psd_if {c : Expr} {a b : List Stmt} {fc : Ft} (hc : PDT X c fc) (ha : PSsD X a g) (hb : PSsD X b g') : PSD X (.If c a b pos) (gIf fc g g') := ps_weak (ps_if hc ha hb) fun D σ H ⟨Hb, Hs, env, o, R, e, q⟩ => by
  obtain ⟨k, e1, e2⟩ := bind_some e
  refine ⟨Hb, Hs, env, k, R, e1, fun Hs1 H1 gr => ?_⟩
  have gs := gr.gs R.bh
  cases k with
  | true =>
    rw [if_pos rfl] at e2
    exact iteT ⟨Hb, Hs1, env, o, R.gr gr, e2, q.gs gs⟩
  | false =>
    rw [if_neg Bool.false_ne_true] at e2
    exact iteF ⟨Hb, Hs1, env, o, R.gr gr, e2, q.gs gs⟩

/-! ### stores -/
/-- a new value, of its own kind, at v -/
def NewC (K : KW) (H Hs' H' : Hp) (v : V) : Cell → Prop
  | .d x => Rv K Hs' v x
  | .ol xs => ∃ a vs, v = .ref a ∧ H a = none ∧ H' a = some (.lst vs) ∧ Hs' a = none ∧ RvA K Hs' vs xs
  | .ok kvs => ∃ a us, v = .ref a ∧ H a = none ∧ H' a = some (.dK us) ∧ Hs' a = none ∧ KvR K Hs' us kvs
  | .od kvs => ∃ a o es, v = .ref a ∧ H a = none ∧ H' a = some (objO a o) ∧ (a == sysModules) = false ∧ Hs' a = none ∧ DOk o es ∧ RvE K Hs' es kvs
  | .no => False
abbrev Fc := En → Option Cell
def tC (K : KW) (f : Fc) : TE := fun σ H Q => ∃ Hb Hs env c, Rp K Hb Hs σ H env ∧ f env = some c ∧ ∀ v Hs' H', Gr H Hs Hs' H' → NewC K H Hs' H' v c → Q v H'
abbrev PCD (X : Cx) (e : Expr) (f : Fc) : Prop := PE X e (tC (kw X) f)
def cOf (f : Fx) : Fc := fun env => (f env).bind fun d => some (.d d)
theorem tC_of {K : KW} {σ : L2.St} {H : Hp} {Q : VK} (h : tC K (cOf f) σ H Q) : tD K f σ H Q := by
  obtain ⟨Hb, Hs, env, c, R, e, q⟩ := h
  obtain ⟨d, e1, e2⟩ := bind_some e
  cases e2
  exact ⟨Hb, Hs, env, d, R, e1, fun v Hs' H' g r => q v Hs' H' g r⟩
theorem pcd_d (h : PD X e f) : PCD X e (cOf f) := pe_weak h fun _ _ _ q => tC_of q
/-- a new list that may grow -/
def cLst (fs : Fa) : Fc := fun env => (fs env).bind fun ds => if ds.length ≤ 1000 then some (.ol ds) else none
theorem pcd_lst {es : List Expr} {fs : Fa} (h : PDA X es fs) : PCD X (.List es pos) (cLst fs) := pe_weak (pe_lst h) fun σ H Q ⟨Hb, Hs, env, c, R, e, q⟩ => by
  obtain ⟨ds, e1, e2⟩ := bind_some e
  by_cases hl : ds.length ≤ 1000
  · rw [if_pos hl] at e2; cases e2
    refine ⟨Hb, Hs, env, ds, R, e1, fun vs Hs1 H1 g r => ⟨by rw [r.len]; exact k1000 hl, fun p hp => q _ Hs1 _ (g.trans (Gr.side g.qh hp)) ⟨p, vs, rfl, ?_, upd_same, g.qh.free hp, r⟩⟩⟩
    exact g.hh.free hp
  · rw [if_neg hl] at e2; cases e2
/-- {} -/
theorem pcd_dict0 : PCD X (.Dict [] [] pos) (fun _ => some (.ok [])) := pe_weak pe_dnewK fun σ H Q ⟨Hb, Hs, env, c, R, e, q⟩ => by
  cases e
  exact fun p hp => q _ Hs _ (Gr.side R.qh hp) ⟨p, [], rfl, hp, upd_same, R.qh.free hp, .nil⟩
theorem NewC.own {K : KW} {H H1 Hs' H' Hb : Hp} {v : V} {c : Cell} (h : NewC K H Hs' H' v c) (hb : Same Hb H) : Own K Hb Hs' H' v c ∧ c ≠ .no ∧ (c.own = true → ∀ a, v = .ref a → H a = none) := by
  cases c with
  | d x => exact ⟨h, fun z => (nomatch z), fun z => nomatch z⟩
  | no => exact h.elim
  | ol xs =>
    obtain ⟨a, vs, e, h1, h2, h3, h4⟩ := h
    exact ⟨⟨a, vs, e, h2, h3, hb.free h1, h4⟩, fun z => (nomatch z), fun _ b eb => by rw [e] at eb; cases eb; exact h1⟩
  | ok kvs =>
    obtain ⟨a, vs, e, h1, h2, h3, h4⟩ := h
    exact ⟨⟨a, vs, e, h2, h3, hb.free h1, h4⟩, fun z => (nomatch z), fun _ b eb => by rw [e] at eb; cases eb; exact h1⟩
  | od kvs =>
    obtain ⟨a, o, vs, e, h1, h2, h0, h3, h4⟩ := h
    exact ⟨⟨a, o, vs, e, h2, h0, h3, hb.free h1, h4⟩, fun z => (nomatch z), fun _ b eb => by rw [e] at eb; cases eb; exact h1⟩
/-- a new value into a slot: H is the heap ahead of it -/
theorem Rp.setN {K : KW} {Hb Hs Hs' H H' : Hp} {σ : L2.St} {env : En} {i : Nat} {v : V} {c : Cell} (R : Rp K Hb Hs σ H env) (g : Gr H Hs Hs' H') (n : NewC K H Hs' H' v c) : Rp K Hb Hs' (σ.set i (some v)) H' (env.set i c) := by
  obtain ⟨o, nn, fr⟩ := n.own (H1 := H) R.bh
  refine (R.gr g).setC o nn fun ho a ea j c' e' o' h' => ?_
  exact (R.owned e' o' h').1 (fr ho a ea)
def gSet (i : Nat) (f : Fc) : Fs := fun env => (f env).bind fun c => some (.nx (env.set i c))
theorem tS_set {K : KW} {i : Nat} {fc : Fc} {D : Ends} {σ : L2.St} {H : Hp} (h : tS K (gSet i fc) D σ H) : tAsg (tC K fc) (gName i) D σ H := by
  obtain ⟨Hb, Hs, env, o, R, e, q⟩ := h
  obtain ⟨c, e1, e2⟩ := bind_some e
  cases e2
  exact ⟨Hb, Hs, env, c, R, e1, fun v Hs' H' g n => q Hs' _ H' (g.gs R.bh) (R.setN g n)⟩
theorem psd_set {i : Nat} {x : Str} {fc : Fc} {p : Pos} (hN : X.N.Nodup) (hi : X.N[i]? = some x) (hx : Loc X.env.scope x) (he : PCD X e fc) (hs : swapsWith e (some (.Name x p)) pos.line X.env = pure false := by rfl) (hf : X.fn x = true ∨ X.env.scope.names.lookup x = some .local := by first | exact .inl rfl | exact .inr rfl | assumption) :
    PSD X (.Assign [.Name x p] e pos) (gSet i fc) := ps_weak (ps_set hN hi hx he hs hf) fun _ _ _ q => tS_set q
/-- name = [..] on one line -/
theorem tS_setLc {K : KW} {i : Nat} {fx : Fa} {vs : List Nat} {t : Tg} {ft : Ft} {fe : Fx} (hv : ∀ i ∈ t.ixs, i ∈ vs) {D : Ends} {σ : L2.St} {H : Hp} (h : tS K (gSet i (cOf (eLc fx vs t ft fe))) D σ H) : tAsg (tLc (tI K fx) (tG K t) (tDT K ft) (tD K fe) vs) (gName i) D σ H := by
  obtain ⟨Hb, Hs, env, o, R, e, q⟩ := h
  obtain ⟨c, e1, e2⟩ := bind_some e
  cases e2
  obtain ⟨d, e3, e4⟩ := bind_some e1
  cases e4
  exact tD_lc hv ⟨Hb, Hs, env, d, R, e3, fun v Hs' H' g n => q Hs' _ H' (g.gs R.bh) (R.setN (c := .d d) g n)⟩
theorem psd_setLc {i : Nat} {y : Str} {py : Pos} {elt tg iter : Expr} {ifs : List Expr} {scope : Scope} {own : List (Str × Nat)} {pos spos : Pos} {fx : Fa} {t : Tg} {ft : Ft} {fe : Fx} (hc : X.calm = true) (hN : X.N.Nodup) (hy : X.N[i]? = some y) (hyl : X.env.scope.names.lookup y = some .local)
    (hsw : swapsWith (.ListComp elt [⟨tg, iter, ifs, 0⟩] scope pos) (some (.Name y py)) spos.line X.env = pure true) (hv : ∀ i ∈ t.ixs, i ∈ own.map (·.2)) (hi : PID X tg iter fx) (ok : BlkOk X.N X.env.scope scope own)
    (hg : ∀ (s : Shared) (H : Hp) (C : Addr) (cl : List (Str × Addr)) (fp : List Addr), PGD (X.blk s H scope (compEnvC scope cl C X.env) fp) tg t) (ht : ∀ (s : Shared) (H : Hp) (C : Addr) (cl : List (Str × Addr)) (fp : List Addr), PTsD (X.blk s H scope (compEnvC scope cl C X.env) fp) ifs ft)
    (he : ∀ (s : Shared) (H : Hp) (C : Addr) (cl : List (Str × Addr)) (fp : List Addr), PD (X.blk s H scope (compEnvC scope cl C X.env) fp) elt fe) (hs : ∀ x, foldedSetIterable iter X.env x = pure x := by intro _; rfl) :
    PSD X (.Assign [.Name y py] (.ListComp elt [⟨tg, iter, ifs, 0⟩] scope pos) spos) (gSet i (cOf (eLc fx (own.map (·.2)) t ft fe))) :=
  ps_weak (ps_setLc hc hN hy hyl hsw hi ok hg ht he hs) fun _ _ _ q => tS_setLc hv q
/-- a, b = e -/
def gPut (t : Tg) (f : Fx) : Fs := fun env => (f env).bind fun d => (t.put d env).bind fun e => some (.nx e)
theorem psd_put {tg : Expr} {t : Tg} (he : PD X e f) (hg : PGD X tg t) (hs : swapsWithSole [tg] e pos.line X.env = pure false := by rfl) (hw : swappedStores [tg] e X.env = pure none := by rfl)
    (h1 : (assignEach [tg] X.env).map (·.2) = [assign tg X.env] := by rfl) : PSD X (.Assign [tg] e pos) (gPut t f) := ps_weak (ps_asg he hg hs hw h1) fun D σ H ⟨Hb, Hs, env, o, R, e, q⟩ => by
  obtain ⟨d, e1, e⟩ := bind_some e
  obtain ⟨en, e2, e⟩ := bind_some e
  cases e
  exact ⟨Hb, Hs, env, d, R, e1, fun v Hs' H' g r => ⟨Hb, Hs', env, d, en, R.gr g, r, e2, fun σ' R' _ => q Hs' σ' H' (g.gs R.bh) R'⟩⟩
/-- a, b = e1, e2 -/
def gPar (i j : Nat) (f f' : Fc) : Fs := fun env => (f env).bind fun c => (f' env).bind fun c' => some (.nx ((env.set i c).set j c'))
theorem NewC.later {K : KW} {H Hs1 H1 Hs2 H2 : Hp} {v : V} {c : Cell} (n : NewC K H Hs1 H1 v c) (g : Gr H1 Hs1 Hs2 H2) : NewC K H Hs2 H2 v c := by
  cases c with
  | d x => exact Rv.same g.qq n
  | no => exact n
  | ol xs =>
    obtain ⟨a, vs, e, h1, h2, h3, h4⟩ := n
    exact ⟨a, vs, e, h1, g.hh _ _ h2, g.out a h3 (fun z => by rw [h2] at z; cases z), RvA.same g.qq h4⟩
  | ok kvs =>
    obtain ⟨a, vs, e, h1, h2, h3, h4⟩ := n
    exact ⟨a, vs, e, h1, g.hh _ _ h2, g.out a h3 (fun z => by rw [h2] at z; cases z), h4.same g.qq⟩
  | od kvs =>
    obtain ⟨a, o, vs, e, h1, h2, h0, h3, h4, h5⟩ := n
    exact ⟨a, o, vs, e, h1, g.hh _ _ h2, h0, g.out a h3 (fun z => by rw [h2] at z; cases z), h4, RvE.same g.qq h5⟩
theorem NewC.there {K : KW} {H Hs1 H1 : Hp} {v : V} {c : Cell} (n : NewC K H Hs1 H1 v c) (o : c.own = true) (a : Addr) (e : v = .ref a) : H1 a ≠ none := by
  cases c with
  | d x => cases o
  | no => cases o
  | ol xs =>
    obtain ⟨b, vs, e', h1, h2, _⟩ := n
    rw [e'] at e; cases e
    exact fun z => by rw [h2] at z; cases z
  | ok xs =>
    obtain ⟨b, vs, e', h1, h2, _⟩ := n
    rw [e'] at e; cases e
    exact fun z => by rw [h2] at z; cases z
  | od xs =>
    obtain ⟨b, o', vs, e', h1, h2, _⟩ := n
    rw [e'] at e; cases e
    exact fun z => by rw [h2] at z; cases z
/-- two new values, one after the other -/
theorem Rp.set2 {K : KW} {Hb Hs Hs1 Hs2 H H1 H2 : Hp} {σ : L2.St} {env : En} {i j : Nat} {v w : V} {c c' : Cell} (R : Rp K Hb Hs σ H env) (g1 : Gr H Hs Hs1 H1) (n1 : NewC K H Hs1 H1 v c) (g2 : Gr H1 Hs1 Hs2 H2) (n2 : NewC K H1 Hs2 H2 w c') :
    Rp K Hb Hs2 ((σ.set i (some v)).set j (some w)) H2 ((env.set i c).set j c') := (R.setN (i := i) g1 n1).setN g2 n2
theorem tS_par {K : KW} {i j : Nat} {fc fc' : Fc} {D : Ends} {σ : L2.St} {H : Hp} (h : tS K (gPar i j fc fc') D σ H) : tPar i j (tCons (tC K fc) (tCons (tC K fc') tNil)) D σ H := by
  obtain ⟨Hb, Hs, env, o, R, e, q⟩ := h
  obtain ⟨c, e1, e⟩ := bind_some e
  obtain ⟨c', e2, e⟩ := bind_some e
  cases e
  refine ⟨Hb, Hs, env, c, R, e1, fun v Hs1 H1 g1 n1 => ⟨Hb, Hs1, env, c', R.gr g1, e2, fun w Hs2 H2 g2 n2 => ⟨v, w, rfl, ?_⟩⟩⟩
  exact q Hs2 _ H2 ((g1.trans g2).gs R.bh) (R.set2 g1 n1 g2 n2)
theorem psd_par {i j : Nat} {x y : Str} {a b : Expr} {fc fc' : Fc} {px py pt : Pos} {kt k2 pt2} (hc : X.calm = true) (hN : X.N.Nodup) (hi : X.N[i]? = some x) (hj : X.N[j]? = some y) (hij : i ≠ j)
    (hx : X.env.scope.names.lookup x = some .local) (hy : X.env.scope.names.lookup y = some .local) (ha : PCD X a fc) (hb : PCD X b fc')
    (hw : swappedStores [.Tuple [.Name x px, .Name y py] kt pt] (.Tuple [a, b] k2 pt2) X.env = pure (some [x, y])) (he : starEach [a, b] X.env = (false, eval a X.env) :: starEach [b] X.env := by rfl) (he2 : starEach [b] X.env = [(false, eval b X.env)] := by rfl)
    (hs : swapsWithSole [.Tuple [.Name x px, .Name y py] kt pt] (.Tuple [a, b] k2 pt2) pos.line X.env = pure false := by rfl) :
    PSD X (.Assign [.Tuple [.Name x px, .Name y py] kt pt] (.Tuple [a, b] k2 pt2) pos) (gPar i j fc fc') :=
  ps_weak (ps_par hc hN hi hj hij hx hy (pa_cons ha (pa_cons hb pa_nil he2) he) hw hs) fun _ _ _ q => tS_par q
/-- a, b, c = e1, e2, e3 -/
def gPar3 (i j l : Nat) (f f' f2 : Fc) : Fs := fun env => (f env).bind fun c => (f' env).bind fun c' => (f2 env).bind fun c2 => some (.nx (((env.set i c).set j c').set l c2))
theorem tS_par3 {K : KW} {i j l : Nat} {fc fc' fc2 : Fc} {D : Ends} {σ : L2.St} {H : Hp} (h : tS K (gPar3 i j l fc fc' fc2) D σ H) : tPar3 i j l (tCons (tC K fc) (tCons (tC K fc') (tCons (tC K fc2) tNil))) D σ H := by
  obtain ⟨Hb, Hs, env, o, R, e, q⟩ := h
  obtain ⟨c, e1, e⟩ := bind_some e
  obtain ⟨c', e2, e⟩ := bind_some e
  obtain ⟨c2, e3, e⟩ := bind_some e
  cases e
  refine ⟨Hb, Hs, env, c, R, e1, fun v Hs1 H1 g1 n1 => ⟨Hb, Hs1, env, c', R.gr g1, e2, fun w Hs2 H2 g2 n2 => ⟨Hb, Hs2, env, c2, (R.gr g1).gr g2, e3, fun u Hs3 H3 g3 n3 => ⟨v, w, u, rfl, ?_⟩⟩⟩⟩
  exact q Hs3 _ H3 ((g1.trans (g2.trans g3)).gs R.bh) ((R.set2 g1 n1 g2 n2).setN g3 n3)
theorem psd_par3 {i j l : Nat} {x y z : Str} {a b c : Expr} {fc fc' fc2 : Fc} {px py pz pt : Pos} {kt k2 pt2} (hc : X.calm = true) (hN : X.N.Nodup) (hi : X.N[i]? = some x) (hj : X.N[j]? = some y) (hl : X.N[l]? = some z) (hij : i ≠ j) (hil : i ≠ l) (hjl : j ≠ l)
    (hx : X.env.scope.names.lookup x = some .local) (hy : X.env.scope.names.lookup y = some .local) (hz : X.env.scope.names.lookup z = some .local) (ha : PCD X a fc) (hb : PCD X b fc') (hcc : PCD X c fc2)
    (hw : swappedStores [.Tuple [.Name x px, .Name y py, .Name z pz] kt pt] (.Tuple [a, b, c] k2 pt2) X.env = pure (some [x, y, z])) (he : starEach [a, b, c] X.env = (false, eval a X.env) :: starEach [b, c] X.env := by rfl) (he2 : starEach [b, c] X.env = (false, eval b X.env) :: starEach [c] X.env := by rfl) (he3 : starEach [c] X.env = [(false, eval c X.env)] := by rfl)
    (hs : swapsWithSole [.Tuple [.Name x px, .Name y py, .Name z pz] kt pt] (.Tuple [a, b, c] k2 pt2) pos.line X.env = pure false := by rfl) :
    PSD X (.Assign [.Tuple [.Name x px, .Name y py, .Name z pz] kt pt] (.Tuple [a, b, c] k2 pt2) pos) (gPar3 i j l fc fc' fc2) :=
  ps_weak (ps_par3 hc hN hi hj hl hij hil hjl hx hy hz (pa_cons ha (pa_cons hb (pa_cons hcc pa_nil he3) he2) he) hw hs) fun _ _ _ q => tS_par3 q
end
end DL

/-! DL8: lists that grow, loops of the data layer; a def by its body. -/
namespace DL
open PySem L2

section
variable {X : Cx} {st : Stmt} {rest : List Stmt} {e : Expr} {pos p apos : Pos} {f : Fx} {g g' : Fs}

/-! ### a list of a slot's own -/
theorem Rp.ol {K : KW} {Hb Hs H : Hp} {σ : L2.St} {env : En} {i : Nat} {xs : List PyData} (R : Rp K Hb Hs σ H env) (e : env[i]? = some (.ol xs)) : ∃ a vs, σ[i]? = some (some (.ref a)) ∧ H a = some (.lst vs) ∧ Hs a = none ∧ Hb a = none ∧ RvA K Hs vs xs := by
  obtain ⟨v, h1, a, vs, e1, h2⟩ := R.at_ i _ e (fun z => nomatch z)
  rw [e1] at h1
  exact ⟨a, vs, h1, h2⟩
/-- the object of the slot i is changed -/
theorem Rp.mut {K : KW} {Hb Hs H : Hp} {σ : L2.St} {env : En} {i : Nat} {a : Addr} {c c' : Cell} {o : HO} (R : Rp K Hb Hs σ H env) (e : env[i]? = some c) (ho : c.own = true) (ho' : c'.own = true) (h : σ[i]? = some (some (.ref a))) (n : Own K Hb Hs (upd H a o) (.ref a) c') : Rp K Hb Hs σ (upd H a o) (env.set i c') := by
  obtain ⟨ha, hs, hb⟩ := R.owned e ho h
  have il : i < env.length := (List.getElem?_eq_some_iff.mp e).1
  refine ⟨fun b u q => ?_, fun b u q => ?_, by rw [List.length_set]; exact R.len, fun j d ej nd => ?_, fun j k c1 c2 b e1 e2 o1 o2 h1 h2 => ?_⟩
  · rw [upd_ne (fun z => by rw [z, hs] at q; cases q)]; exact R.qh b u q
  · rw [upd_ne (fun z => by rw [z, hb] at q; cases q)]; exact R.bh b u q
  · rcases set_get ej with ⟨rfl, rfl, _⟩ | ⟨hj, ej⟩
    · exact ⟨_, h, n⟩
    · obtain ⟨v, hv, ov⟩ := R.at_ j d ej nd
      refine ⟨v, hv, ?_⟩
      have ne : d.own = true → ∀ b, v = .ref b → b ≠ a := fun od b eb z => by
        subst z
        rw [eb] at hv
        exact hj (R.apart j i d c b ej e od ho hv h)
      cases d with
      | d x => exact ov
      | no => exact True.intro
      | ol xs =>
        obtain ⟨b, vs, e1, e2, e3⟩ := ov
        exact ⟨b, vs, e1, by rw [upd_ne (ne rfl b e1)]; exact e2, e3⟩
      | ok xs =>
        obtain ⟨b, vs, e1, e2, e3⟩ := ov
        exact ⟨b, vs, e1, by rw [upd_ne (ne rfl b e1)]; exact e2, e3⟩
      | od xs =>
        obtain ⟨b, o', vs, e1, e2, e3⟩ := ov
        exact ⟨b, o', vs, e1, by rw [upd_ne (ne rfl b e1)]; exact e2, e3⟩
  · have old : ∀ {n : Nat} {d : Cell}, (env.set i c')[n]? = some d → d.own = true → ∃ d', env[n]? = some d' ∧ d'.own = true := fun {n d} q od => by
      rcases set_get q with ⟨rfl, _, _⟩ | ⟨_, q⟩
      · exact ⟨c, e, ho⟩
      · exact ⟨d, q, od⟩
    obtain ⟨d1, f1, p1⟩ := old e1 o1
    obtain ⟨d2, f2, p2⟩ := old e2 o2
    exact R.apart j k d1 d2 b f1 f2 p1 p2 h1 h2
/-- xs.append(e) -/
def gApp (i : Nat) (f : Fx) : Fs := fun env => (f env).bind fun d => match env[i]? with
  | some (.ol xs) => if xs.length < line then some (.nx (env.set i (.ol (xs ++ [d])))) else none
  | _ => none
theorem psd_app {i : Nat} {x : Str} {a : Expr} (hx : PE X (.Name x p) (tVar i)) (ha : PD X a f) (he : starEach [a] X.env = [(false, eval a X.env)] := by rfl)
    (hs : swapsWith (.Call (.Attribute (.Name x p) "append" apos) [a] [] pos) none pos.line X.env = pure false := by rfl)
    (hb : PE X (.Call (.Attribute (.Name x p) "append" apos) [a] [] pos) (tBM X.K "list" rAppend (tVar i) (tCons (tD (kw X) f) tNil))) : PSD X (.Expr (.Call (.Attribute (.Name x p) "append" apos) [a] [] pos) pos) (gApp i f) :=
  ps_weak (ps_expr hb hs) fun D σ H ⟨Hb, Hs, env, o, R, e, q⟩ => by
    obtain ⟨d, e1, e⟩ := bind_some e
    split at e
    · rename_i xs ex
      by_cases hl : xs.length < line
      · rw [if_pos hl] at e; cases e
        obtain ⟨b, vs, h1, h2, h3, h4, r⟩ := R.ol ex
        refine ⟨_, h1, .inl ⟨rfl, vs, SqL.of h2⟩, Hb, Hs, env, d, R, e1, fun v Hs1 H1 gr rv => ?_⟩
        have R1 := R.gr gr
        have h2' := gr.hh _ _ h2
        have r1 := RvA.same gr.qq r
        refine ⟨b, vs, v, rfl, rfl, h2', line_lt (by rw [r.len]; omega), q Hs1 σ _ (gr.gs R.bh) (R1.mut ex rfl rfl h1 ⟨b, vs ++ [v], rfl, upd_same, ?_, h4, r1.app (.one rv)⟩)⟩
        exact gr.out b h3 (fun z => by rw [h2] at z; cases z)
      · rw [if_neg hl] at e; cases e
    · cases e
/-- a slot's own list becomes data -/
def gFrz (i : Nat) : Fs := fun env => match env[i]? with
  | some (.ol xs) => some (.nx (env.set i (.d (.list xs))))
  | some (.od kvs) => some (.nx (env.set i (.d (.dict kvs))))
  | some (.d _) => some (.nx env)
  | _ => none
theorem Rp.frz {K : KW} {Hb Hs H : Hp} {σ : L2.St} {env : En} {i : Nat} {a : Addr} {c : Cell} {o : HO} {d : PyData} (R : Rp K Hb Hs σ H env) (e : env[i]? = some c) (ho : c.own = true) (h : σ[i]? = some (some (.ref a))) (hH : H a = some o) (r : Rv K (upd Hs a o) (.ref a) d) : Gs Hb Hs (upd Hs a o) ∧ Rp K Hb (upd Hs a o) σ H (env.set i (.d d)) := by
  obtain ⟨_, hs, hb⟩ := R.owned e ho h
  have sq : Same Hs (upd Hs a o) := same_upd hs
  refine ⟨⟨sq, fun b q n => by rw [upd_ne (fun z => n (by rw [z]; exact hb))]; exact q⟩, fun b u q => ?_, R.bh, by rw [List.length_set]; exact R.len, fun j d' ej nd => ?_, fun j k c1 c2 b e1 e2 o1 o2 h1 h2 => ?_⟩
  · by_cases z : b = a
    · subst z; rw [upd_same] at q; rw [hH]; exact q
    · rw [upd_ne z] at q; exact R.qh b u q
  · rcases set_get ej with ⟨rfl, rfl, _⟩ | ⟨hj, ej⟩
    · exact ⟨_, h, r⟩
    · obtain ⟨v, hv, ov⟩ := R.at_ j d' ej nd
      refine ⟨v, hv, ?_⟩
      have ne : d'.own = true → ∀ b, v = .ref b → b ≠ a := fun od b eb z => by
        subst z
        rw [eb] at hv
        exact hj (R.apart j i d' c b ej e od ho hv h)
      cases d' with
      | d x => exact Rv.same sq ov
      | no => exact True.intro
      | ol xs =>
        obtain ⟨b, vs, e1, e2, e3, e4, e5⟩ := ov
        exact ⟨b, vs, e1, e2, by rw [upd_ne (ne rfl b e1)]; exact e3, e4, RvA.same sq e5⟩
      | ok xs =>
        obtain ⟨b, vs, e1, e2, e3, e4, e5⟩ := ov
        exact ⟨b, vs, e1, e2, by rw [upd_ne (ne rfl b e1)]; exact e3, e4, e5.same sq⟩
      | od xs =>
        obtain ⟨b, o', vs, e1, e2, e0, e3, e4, e5, e6⟩ := ov
        exact ⟨b, o', vs, e1, e2, e0, by rw [upd_ne (ne rfl b e1)]; exact e3, e4, e5, RvE.same sq e6⟩
  · rcases set_get e1 with ⟨_, rfl, _⟩ | ⟨_, e1⟩
    · cases o1
    · rcases set_get e2 with ⟨_, rfl, _⟩ | ⟨_, e2⟩
      · cases o2
      · exact R.apart j k c1 c2 b e1 e2 o1 o2 h1 h2
theorem tS_frz {K : KW} {i : Nat} {D : Ends} {σ : L2.St} {H : Hp} (h : tS K (gSeq (gFrz i) g) D σ H) : tS K g D σ H := by
  obtain ⟨Hb, Hs, env, o, R, e, q⟩ := h
  obtain ⟨o1, e1, e2⟩ := bind_some e
  unfold gFrz at e1
  split at e1
  · rename_i xs ex
    cases e1
    obtain ⟨a, vs, h1, h2, h3, h4, r⟩ := R.ol ex
    obtain ⟨gs, R'⟩ := R.frz (d := .list xs) ex rfl h1 h2 (.lst upd_same (RvA.same (same_upd h3) r))
    exact ⟨Hb, _, _, o, R', e2, q.gs gs⟩
  · rename_i kvs ex
    cases e1
    obtain ⟨v, h1, a, ob, es, e3, h2, h0, h3, h4, h5, r⟩ := R.at_ i _ ex (fun z => nomatch z)
    rw [e3] at h1
    obtain ⟨gs, R'⟩ := R.frz (d := .dict kvs) ex rfl h1 h2 (.dct upd_same h0 h5 (RvE.same (same_upd h3) r))
    exact ⟨Hb, _, _, o, R', e2, q.gs gs⟩
  · cases e1
    exact ⟨Hb, Hs, env, o, R, e2, q⟩
  · cases e1
theorem pssd_frz (i : Nat) (h : PSsD X rest g) : PSsD X rest (gSeq (gFrz i) g) := pss_weak h fun _ _ _ q => tS_frz q
/-- xs[k] of a list that may still grow -/
def eIxO (i : Nat) (f : Fx) : Fx := fun env => (f env).bind fun y => match env[i]?, y with
  | some (.ol xs), .int k => atI xs k
  | _, _ => none
theorem pd_ixo {i : Nat} {x : Str} {b : Expr} (hx : PE X (.Name x p) (tVar i)) (hb : PD X b f) (hs : PlainIx b := by exact fun _ _ => rfl) : PD X (.Subscript (.Name x p) b pos) (eIxO i f) := pe_weak (pe_ix ix_list hx hb hs) fun σ H Q ⟨Hb, Hs, env, d, R, e, q⟩ => by
  obtain ⟨y, e1, e⟩ := bind_some e
  split at e
  · rename_i xs k ex
    obtain ⟨a, vs, h1, h2, h3, h4, r⟩ := R.ol ex
    refine ⟨_, h1, Hb, Hs, env, _, R, e1, fun v Hs1 H1 gr rv => ?_⟩
    cases rv
    obtain ⟨w, ew, rw'⟩ := at_rv (RvA.same gr.qq r) e
    exact ⟨a, vs, _, w, rfl, rfl, SqL.of (gr.hh _ _ h2), ew, q w Hs1 H1 gr rw'⟩
  · cases e

/-! ### loops -/
def forGo (t : Tg) (g : Fs) : List PyData → En → Option Out
  | [], env => some (.nx env)
  | x :: xs, env => (t.put x env).bind fun e1 => (g e1).bind fun o => match o with
    | .nx e => forGo t g xs e
    | .rt d => some (.rt d)
def gFor (fx : Fa) (t : Tg) (g : Fs) : Fs := fun env => (fx env).bind fun xs => forGo t g xs env
theorem tS_for {K : KW} {fx : Fa} {t : Tg} {D : Ends} {σ : L2.St} {H : Hp} (h : tS K (gFor fx t g) D σ H) : tFor (tI K fx) (tG K t) (tS K g) D σ H := by
  obtain ⟨Hb, Hs, env, o, R, e, q⟩ := h
  obtain ⟨xs, e1, e⟩ := bind_some e
  refine ⟨Hb, Hs, env, xs, R, e1, fun J Hs1 H1 g1 it => ?_⟩
  have gs1 := g1.gs R.bh
  refine ⟨fun i m σ2 H2 => ∃ Hs2 en, m = xs.length - i ∧ i ≤ xs.length ∧ Gs Hb Hs1 Hs2 ∧ Rp K Hb Hs2 σ2 H2 en ∧ forGo t g (xs.drop i) en = some o, ⟨xs.length, Hs1, env, by simp, Nat.zero_le _, Gs.refl, R.gr g1, e⟩, ?_⟩
  rintro i m σ2 H2 ⟨Hs2, en, rfl, hi, gs2, R2, eg⟩
  have it2 := it Hs2 H2 gs2.qq R2.qh
  by_cases hlt : i < xs.length
  · refine .inr ?_
    have ex : xs[i]? = some xs[i] := List.getElem?_eq_getElem hlt
    obtain ⟨go, yl⟩ := it2.1 i xs[i] ex
    refine ⟨go, fun σ' H' => ∃ Hs2 en, Gs Hb Hs1 Hs2 ∧ Rp K Hb Hs2 σ' H' en ∧ forGo t g (xs.drop (i + 1)) en = some o, fun σ' H' ⟨Hs', en', a1, a2, a3⟩ => ⟨xs.length - (i + 1), by omega, Hs', en', rfl, hlt, a1, a2, a3⟩, fun x H3 y => ?_⟩
    obtain ⟨Hs3, g3, rx⟩ := yl x H3 y
    rw [List.drop_eq_getElem_cons hlt] at eg
    obtain ⟨en1, ep, eg⟩ := bind_some eg
    obtain ⟨o1, eo, eg⟩ := bind_some eg
    have gs3 := gs2.trans (g3.gs R2.bh)
    refine ⟨Hb, Hs3, en, xs[i], en1, R2.gr g3, rx, ep, fun σ' R' w => ⟨Hb, Hs3, en1, o1, R', eo, ?_⟩⟩
    cases o1 with
    | nx en2 => exact fun Hs4 σ4 H4 gs4 R4 => ⟨Hs4, en2, gs3.trans gs4, R4, eg⟩
    | rt d =>
      cases eg
      exact EndOk.gs (gs1.trans gs3) q
  · have e4 : i = xs.length := by omega
    subst e4
    rw [List.drop_length] at eg
    cases eg
    exact .inl ⟨it2.2, q Hs2 σ2 H2 (gs1.trans gs2) R2⟩
theorem psd_for {tg iter : Expr} {body : List Stmt} {fx : Fa} {t : Tg} (hp : PassesOwn (model X.prog X.w) X.A X.env X.xe) (hc : X.calm = true) (hi : PID X tg iter fx) (hg : PGD X tg t) (hb : PSsD X body g) (hs : ∀ x, foldedSetIterable iter X.env x = pure x := by intro _; rfl) :
    PSD X (.For tg iter body [] pos) (gFor fx t g) := ps_weak (ps_for hp hc hi hg hb hs) fun _ _ _ q => tS_for q
def gWhile (c : Ft) (g : Fs) : Nat → Fs
  | 0 => fun _ => none
  | n + 1 => fun env => (c env).bind fun b => if b = true then (g env).bind fun o => match o with
    | .nx e => gWhile c g n e
    | .rt d => some (.rt d)
    else some (.nx env)
theorem tS_while {K : KW} {c : Ft} {n : Nat} {D : Ends} {σ : L2.St} {H : Hp} (h : tS K (gWhile c g n) D σ H) : tWhile (tDT K c) (tS K g) D σ H := by
  obtain ⟨Hb, Hs, env, o, R, e, q⟩ := h
  refine ⟨fun m σ2 H2 => ∃ Hs2 en, Gs Hb Hs Hs2 ∧ Rp K Hb Hs2 σ2 H2 en ∧ gWhile c g m en = some o, ⟨n, Hs, env, Gs.refl, R, e⟩, ?_⟩
  rintro m σ2 H2 ⟨Hs2, en, gs2, R2, eg⟩
  cases m with
  | zero => cases eg
  | succ m =>
    obtain ⟨b, eb, eg⟩ := bind_some eg
    refine ⟨Hb, Hs2, en, b, R2, eb, fun Hs3 H3 g3 => ?_⟩
    have gs3 := gs2.trans (g3.gs R2.bh)
    cases b with
    | true =>
      rw [if_pos rfl] at eg
      obtain ⟨o1, eo, eg⟩ := bind_some eg
      refine iteT ⟨fun σ' H' => ∃ Hs2 en, Gs Hb Hs Hs2 ∧ Rp K Hb Hs2 σ' H' en ∧ gWhile c g m en = some o, fun σ' H' h' => ⟨m, Nat.lt_succ_self m, h'⟩, Hb, Hs3, en, o1, R2.gr g3, eo, ?_⟩
      cases o1 with
      | nx en2 => exact fun Hs4 σ4 H4 gs4 R4 => ⟨Hs4, en2, gs3.trans gs4, R4, eg⟩
      | rt d =>
        cases eg
        exact EndOk.gs gs3 q
    | false =>
      rw [if_neg Bool.false_ne_true] at eg
      cases eg
      exact iteF (q Hs3 σ2 H3 gs3 (R2.gr g3))
theorem psd_while (n : Nat) {c : Expr} {body : List Stmt} {fc : Ft} (hp : PassesOwn (model X.prog X.w) X.A X.env X.xe) (hc : PDT X c fc) (hb : PSsD X body g) : PSD X (.While c body [] pos) (gWhile fc g n) := ps_weak (ps_while hp hc hb) fun _ _ _ q => tS_while q
end

/-! ### a def by its body -/
/-- what a body hands back from its arguments, n slots in all -/
def runF (n : Nat) (g : Fs) : GA := fun ds => (g (ds.map Cell.d ++ List.replicate (n - ds.length) .no)).bind fun o => match o with
  | .rt d => some d
  | .nx _ => some .none
theorem Rp.enter {K : KW} {Hs H : Hp} {vs : List V} {ds : List PyData} {N : List Str} (s : Same Hs H) (r : RvA K Hs vs ds) (hl : ds.length ≤ N.length) : Rp K H Hs (start N vs) H (ds.map Cell.d ++ List.replicate (N.length - ds.length) .no) := by
  have e0 : start N vs = vs.map some ++ List.replicate (N.length - vs.length) none := rfl
  have hown : ∀ (i : Nat) c, (ds.map Cell.d ++ List.replicate (N.length - ds.length) Cell.no)[i]? = some c → c ≠ .no → ∃ d, c = .d d ∧ ds[i]? = some d := fun i c e n => by
    by_cases hi : i < ds.length
    · rw [List.getElem?_append_left (by rw [List.length_map]; exact hi), List.getElem?_map, List.getElem?_eq_getElem hi] at e
      exact ⟨ds[i], (Option.some.inj e).symm, List.getElem?_eq_getElem hi⟩
    · rw [List.getElem?_append_right (by rw [List.length_map]; omega)] at e
      exact absurd (List.eq_of_mem_replicate (List.mem_of_getElem? e)) n
  refine ⟨s, Same.refl _, ?_, fun i c e n => ?_, fun i j c c' a e1 e2 o1 o2 _ _ => ?_⟩
  · rw [e0, List.length_append, List.length_append, List.length_map, List.length_map, List.length_replicate, List.length_replicate, r.len]
  · obtain ⟨d, rfl, e'⟩ := hown i c e n
    obtain ⟨v, hv, rv⟩ := r.get e'
    refine ⟨v, ?_, rv⟩
    have hi : i < vs.length := (List.getElem?_eq_some_iff.mp hv).1
    rw [e0, List.getElem?_append_left (by rw [List.length_map]; exact hi), List.getElem?_map, hv]; rfl
  · obtain ⟨d, rfl, _⟩ := hown i c e1 (fun z => by subst z; cases o1)
    cases o1
section
variable {P : Program} {w : World} {K : PySem.W.Frag} {mg : Str → Option Value} {base : Heap}
/-- a def keeps its promise, by its body -/
theorem fn_body {x qual : Str} {st : Stmt} {f : Addr} {fd : FuncData} {N ps : List Str} {k n : Nat} {g : Fs} (F : Fun K x qual st f fd) (S : FnScope N ps (defScope st)) (hn : ps.length = n) (hN : n ≤ N.length)
    (hbody : ∀ (cdv : Value) (A : Around) (outer : List Env) (s : Shared) (H : Hp) (E : XK), Room k (A.deeper (PyProof.Rows.envOfC qual (defScope st) s.heap.objs.size f cdv)) →
      PSsD (cxOf CX0 P w K mg base N qual (defScope st) f cdv A outer s H E).nox (defBody st) g) : FnOk P w K mg base CX0 (k + 1) f fd ps (spD ⟨K, w⟩ n (runF N.length g)) := by
  refine F.ok S (fun vs H Q E ⟨Hs, ds, d, h1, h2, h3, _⟩ => by rw [h2.len, h3, hn]) fun cdv A outer s H vs Q E hr hsp => ?_
  obtain ⟨Hs, ds, d, h1, h2, h3, h4, q⟩ := hsp
  refine ⟨_, hbody cdv A outer s H E hr, ?_⟩
  obtain ⟨o, e1, e2⟩ := bind_some h4
  refine ⟨H, Hs, _, o, Rp.enter h1 h2 (by omega), e1, ?_⟩
  cases o with
  | rt d' =>
    cases e2
    exact fun v Hs' H' gs s1 s2 r => q v Hs' H' ⟨gs.qq, s1, s2, gs.out⟩ r
  | nx en =>
    cases e2
    exact fun Hs' σ' H' gs R => q .non Hs' H' ⟨gs.qq, R.qh, R.bh, gs.out⟩ .non
end
end DL

/-! DL9: the walrus, small dicts, lists unpacked, enumerate of a tuple. -/
namespace DL
open PySem L2

section
variable {X : Cx} {st : Stmt} {rest : List Stmt} {e a b : Expr} {pos p apos : Pos} {f fa fb : Fx} {g g' : Fs}
/-! ### if (x := e) is not None -/
def gIfW (i : Nat) (f : Fx) (g g' : Fs) : Fs := fun env => (f env).bind fun d => if isNo d = true then g' (env.set i (.d d)) else g (env.set i (.d d))
theorem psd_ifW {i : Nat} {x : Str} {px pn : Pos} {j : Nat} {s1 s2 : List Stmt} (hN : X.N.Nodup) (hi : X.N[i]? = some x) (hx : Loc X.env.scope x) (he : PD X e f) (h1 : PSsD X s1 g) (h2 : PSsD X s2 g') (hf : X.fn x = true ∨ X.env.scope.names.lookup x = some .local := by first | exact .inl rfl | exact .inr rfl | assumption) :
    PSD X (.If (.Compare (.NamedExpr (.Name x px) e p) [.IsNot] [.Constant .none j pn] apos) s1 s2 pos) (gIfW i f g g') :=
  ps_weak (ps_ifW (ptw_cmp (r := rNotNn) op_notN (pew_named hN hi hx (pew_of he) hf) pe_non (nobehind _ (by decide) (by decide))) h1 h2) fun D σ H ⟨Hb, Hs, env, o, R, e, q⟩ => by
    obtain ⟨d, e1, e2⟩ := bind_some e
    refine ⟨Hb, Hs, env, d, R, e1, fun v Hs1 H1 gr r => ⟨rfl, _, rfl, ?_⟩⟩
    rw [rv_non r]
    have R1 := (R.gr gr).setD (i := i) r
    have gs := gr.gs R.bh
    by_cases hd : isNo d = true
    · rw [if_pos hd] at e2
      rw [hd]
      exact iteF ⟨Hb, Hs1, _, o, R1, e2, q.gs gs⟩
    · rw [if_neg hd] at e2
      have hd' : isNo d = false := by cases h : isNo d <;> simp_all
      rw [hd']
      exact iteT ⟨Hb, Hs1, _, o, R1, e2, q.gs gs⟩

/-! ### a, b = a list -/
def Tg.putL (is : List Nat) (d : PyData) (env : En) : Option En := match d with
  | .list ds => putAll is ds env
  | _ => none
def gPutL (is : List Nat) (f : Fx) : Fs := fun env => (f env).bind fun d => (Tg.putL is d env).bind fun e => some (.nx e)
theorem psd_putL {es : List Expr} {is : List Nat} {k n : Nat} {tp : Pos} (hc : X.calm = true) (he : PD X e f) (hg : PGsD X es is) (hl : is.length = n) (hn : (assignEach es X.env).length = n := by rfl) (hst : (assignEach es X.env).findIdx? (·.1) = none := by rfl)
    (hs : swapsWithSole [.Tuple es k tp] e pos.line X.env = pure false := by rfl) (hw : swappedStores [.Tuple es k tp] e X.env = pure none := by rfl)
    (h1 : (assignEach [.Tuple es k tp] X.env).map (·.2) = [assign (.Tuple es k tp) X.env] := by rfl) : PSD X (.Assign [.Tuple es k tp] e pos) (gPutL is f) := ps_weak (ps_asg he (pg_unl hc hg hn hst) hs hw h1) fun D σ H ⟨Hb, Hs, env, o, R, e, q⟩ => by
  obtain ⟨d, e1, e⟩ := bind_some e
  obtain ⟨en, e2, e⟩ := bind_some e
  cases e
  unfold Tg.putL at e2
  split at e2
  · rename_i ds
    refine ⟨Hb, Hs, env, _, R, e1, fun v Hs' H' g r => ?_⟩
    cases r with
    | lst h1 a1 => exact ⟨_, _, rfl, SqL.of (g.qh _ _ h1), by rw [a1.len, putAll_len e2, hl], Hb, Hs', env, ds, en, R.gr g, a1, e2, fun σ' R' _ => q Hs' σ' H' (g.gs R.bh) R'⟩
  · cases e2

/-! ### small dicts: keys ints and texts -/
def keyOf : PyData → Option Key
  | .int i => some (.inl i)
  | .str s => some (.inr s)
  | _ => none
theorem keyOf_rv {K : KW} {H : Hp} {v : V} {d : PyData} {k : Key} (r : Rv K H v d) (e : keyOf d = some k) : v = kV k := by
  unfold keyOf at e
  split at e
  · cases e; cases r; rfl
  · cases e; cases r; rfl
  · cases e
def valP (kvs : List (Key × PyData)) (k : Key) : Option PyData := (kvs.find? fun kv => decide (kv.1 = k)).map (·.2)
def putP (kvs : List (Key × PyData)) (k : Key) (x : PyData) : List (Key × PyData) :=
  if (kvs.any fun kv => decide (kv.1 = k)) = true then kvs.map (fun kv => if kv.1 = k then (kv.1, x) else kv) else kvs ++ [(k, x)]
section
variable {K : KW} {H : Hp}
def RvO (K : KW) (H : Hp) : Option V → Option PyData → Prop
  | some v, some d => Rv K H v d
  | none, none => True
  | _, _ => False
theorem KvR.val {us : List (Key × V)} {kvs : List (Key × PyData)} (r : KvR K H us kvs) (k : Key) : RvO K H (valV us k) (valP kvs k) := by
  unfold KvR at r
  induction r with
  | nil => exact True.intro
  | @cons x y xs ys h t ih =>
    obtain ⟨h1, h2⟩ := h
    by_cases e : x.1 = k
    · have e' : y.1 = k := h1.symm.trans e
      have z : valP (y :: ys) k = some y.2 := by simp [valP, List.find?_cons, e']
      rw [valV_pos e, z]
      exact h2
    · have e' : ¬ y.1 = k := fun z => e (h1.trans z)
      have z : valP (y :: ys) k = valP ys k := by simp [valP, List.find?_cons, e']
      rw [valV_neg e, z]
      exact ih
theorem KvR.any {us : List (Key × V)} {kvs : List (Key × PyData)} (r : KvR K H us kvs) (k : Key) : (us.any fun kv => decide (kv.1 = k)) = kvs.any fun kv => decide (kv.1 = k) := by
  unfold KvR at r
  induction r with
  | nil => rfl
  | cons h t ih => rw [List.any_cons, List.any_cons, ih, h.1]
theorem KvR.rep {us : List (Key × V)} {kvs : List (Key × PyData)} (r : KvR K H us kvs) (k : Key) {v : V} {d : PyData} (h : Rv K H v d) : KvR K H (us.map (fun kv => if kv.1 = k then (kv.1, v) else kv)) (kvs.map (fun kv => if kv.1 = k then (kv.1, d) else kv)) := by
  unfold KvR at r ⊢
  induction r with
  | nil => exact .nil
  | @cons x y xs ys h' t ih =>
    rw [List.map_cons, List.map_cons]
    refine .cons ?_ ih
    by_cases e : x.1 = k
    · rw [if_pos e, if_pos (h'.1.symm.trans e)]; exact ⟨h'.1, h⟩
    · rw [if_neg e, if_neg (fun z => e (h'.1.trans z))]; exact h'
theorem KvR.snoc {us : List (Key × V)} {kvs : List (Key × PyData)} (r : KvR K H us kvs) (k : Key) {v : V} {d : PyData} (h : Rv K H v d) : KvR K H (us ++ [(k, v)]) (kvs ++ [(k, d)]) := by
  unfold KvR at r ⊢
  induction r with
  | nil => exact .cons ⟨rfl, h⟩ .nil
  | cons h' t ih => exact .cons h' ih
theorem KvR.put {us : List (Key × V)} {kvs : List (Key × PyData)} (r : KvR K H us kvs) (k : Key) {v : V} {d : PyData} (h : Rv K H v d) : KvR K H (putK us k v) (putP kvs k d) := by
  unfold putK putP
  rw [r.any k]
  split
  · exact r.rep k h
  · exact r.snoc k h
theorem KvR.len {us : List (Key × V)} {kvs : List (Key × PyData)} (r : KvR K H us kvs) : us.length = kvs.length := Paired.length r
end
theorem Rp.okc {K : KW} {Hb Hs H : Hp} {σ : L2.St} {env : En} {i : Nat} {kvs : List (Key × PyData)} (R : Rp K Hb Hs σ H env) (e : env[i]? = some (.ok kvs)) : ∃ a us, σ[i]? = some (some (.ref a)) ∧ H a = some (.dK us) ∧ Hs a = none ∧ Hb a = none ∧ KvR K Hs us kvs := by
  obtain ⟨v, h1, a, vs, e1, h2⟩ := R.at_ i _ e (fun z => nomatch z)
  rw [e1] at h1
  exact ⟨a, vs, h1, h2⟩
theorem room_1 {k : Nat} {A : Around} (r : Room k A) : A.units + 1 < cLine := by have := r.un; omega
/-- d.get(k, x), d a slot's own dict -/
def eGet2 (i : Nat) (fk fd : Fx) : Fx := fun env => (fk env).bind fun y => (fd env).bind fun z => (keyOf y).bind fun k => match env[i]? with
  | some (.ok kvs) => some ((valP kvs k).getD z)
  | _ => none
theorem pd_get2 {i k : Nat} {x : Str} (hr : Room k X.A) (hx : PE X (.Name x p) (tVar i)) (ha : PD X a fa) (hb : PD X b fb) (m : M2 X (.Name x p) "get" apos a b pos) : PD X (.Call (.Attribute (.Name x p) "get" apos) [a, b] [] pos) (eGet2 i fa fb) :=
  pe_weak (pe_dget2 (room_1 hr) hx ha hb m) fun σ H Q ⟨Hb, Hs, env, d, R, e, q⟩ => by
    obtain ⟨y, e1, e⟩ := bind_some e
    obtain ⟨z, e2, e⟩ := bind_some e
    obtain ⟨ky, e3, e⟩ := bind_some e
    split at e
    · rename_i kvs ex
      cases e
      obtain ⟨c, us, h1, h2, h3, h4, r⟩ := R.okc ex
      refine ⟨_, h1, c, rfl, .inl ⟨us, Rd.of h2⟩, Hb, Hs, env, y, R, e1, fun v Hs1 H1 g1 r1 => ⟨Hb, Hs1, env, z, R.gr g1, e2, fun w Hs2 H2 g2 r2 => ?_⟩⟩
      have r1' := Rv.same g2.qq r1
      have rk := r.same (g1.trans g2).qq
      rw [keyOf_rv r1' e3]
      refine ⟨valV us ky, DGet.k ((g1.trans g2).hh _ _ h2), q _ Hs2 H2 (g1.trans g2) ?_⟩
      have rv := rk.val ky
      cases h5 : valV us ky with
      | none =>
        rw [h5] at rv
        cases h6 : valP kvs ky with
        | none => exact r2
        | some _ => rw [h6] at rv; exact rv.elim
      | some v5 =>
        rw [h5] at rv
        cases h6 : valP kvs ky with
        | none => rw [h6] at rv; exact rv.elim
        | some _ => rw [h6] at rv; exact rv
    · cases e
/-- d[k] = v, d a slot's own dict -/
def gPutK (i : Nat) (fk fv : Fx) : Fs := fun env => (fv env).bind fun x => (fk env).bind fun y => (keyOf y).bind fun k => match env[i]? with
  | some (.ok kvs) => if kvs.length < line then some (.nx (env.set i (.ok (putP kvs k x)))) else none
  | _ => none
theorem psd_putK {i k : Nat} {x : Str} {px : Pos} (hr : Room k X.A) (hx : PE X (.Name x p) (tVar i)) (ha : PD X a fa) (hb : PD X b fb) (hs : swapsWith b (some (.Subscript (.Name x p) a px)) pos.line X.env = pure false := by rfl) :
    PSD X (.Assign [.Subscript (.Name x p) a px] b pos) (gPutK i fa fb) := ps_weak (ps_dput (room_1 hr) hx ha hb hs) fun D σ H ⟨Hb, Hs, env, o, R, e, q⟩ => by
  obtain ⟨z, e2, e⟩ := bind_some e
  obtain ⟨y, e1, e⟩ := bind_some e
  obtain ⟨ky, e3, e⟩ := bind_some e
  split at e
  · rename_i kvs ex
    by_cases hl : kvs.length < line
    · rw [if_pos hl] at e; cases e
      obtain ⟨c, us, h1, h2, h3, h4, r⟩ := R.okc ex
      refine ⟨Hb, Hs, env, z, R, e2, fun w Hs1 H1 g1 r1 => ⟨_, h1, Hb, Hs1, env, y, R.gr g1, e1, fun v Hs2 H2 g2 r2 => ?_⟩⟩
      have gg := g1.trans g2
      have hc := gg.hh _ _ h2
      rw [keyOf_rv r2 e3]
      refine ⟨c, _, rfl, DPut.k hc (line_lt (by rw [r.len]; omega)), ?_⟩
      refine q Hs2 σ _ (gg.gs R.bh) ((R.gr gg).mut ex rfl rfl h1 ⟨c, _, rfl, upd_same, ?_, h4, (r.same gg.qq).put ky (Rv.same g2.qq r1)⟩)
      exact gg.out c h3 (fun z => by rw [h2] at z; cases z)
    · rw [if_neg hl] at e; cases e
  · cases e

/-! ### {'a': x, ..} written -/
def fPairs : List (Str × Fx) → En → Option (List (Key × PyData))
  | [], _ => some []
  | (k, f) :: r, env => (f env).bind fun x => (fPairs r env).bind fun xs => some ((.inr k, x) :: xs)
def mergeP (kvs more : List (Key × PyData)) : List (Key × PyData) := more.foldl (fun acc kv => putP acc kv.1 kv.2) kvs
theorem KvR.merge {K : KW} {H : Hp} : ∀ {more : List (Key × V)} {rs : List (Key × PyData)} {us : List (Key × V)} {kvs : List (Key × PyData)}, KvR K H more rs → KvR K H us kvs → KvR K H (mergeK us more) (mergeP kvs rs) := by
  intro more rs us kvs r
  unfold KvR at r
  induction r generalizing us kvs with
  | nil => exact fun h => h
  | @cons x y xs ys h t ih =>
    intro h'
    show KvR K H (mergeK (putK us x.1 x.2) xs) (mergeP (putP kvs y.1 y.2) ys)
    exact ih (by rw [h.1]; exact h'.put y.1 h.2)
def trsOf (K : KW) (l : List (Str × Fx)) : List (TE × TE) := l.map fun kf => (L2.tC (.str kf.1), tD K kf.2)
theorem tPairs_of {K : KW} {Hb : Hp} {env : En} {σ : L2.St} : ∀ {l : List (Str × Fx)} {Hs H : Hp} {xs : List (Key × PyData)} {Q : List (V × V) → Hp → Prop}, Rp K Hb Hs σ H env → fPairs l env = some xs →
    (∀ us Hs' H', Gr H Hs Hs' H' → KvR K Hs' us xs → Q (us.map fun kv => (kV kv.1, kv.2)) H') → tPairs (trsOf K l) σ H Q
  | [], Hs, H, xs, Q, R, e, q => by
    cases e
    exact q [] Hs H (Gr.refl R.qh) .nil
  | (k, f) :: r, Hs, H, xs, Q, R, e, q => by
    obtain ⟨x, e1, e⟩ := bind_some e
    obtain ⟨ys, e2, e⟩ := bind_some e
    cases e
    show tD K f σ H fun y H2 => tPairs (trsOf K r) σ H2 fun ps H3 => Q ((V.str k, y) :: ps) H3
    refine ⟨Hb, Hs, env, x, R, e1, fun v Hs1 H1 g1 r1 => ?_⟩
    refine tPairs_of (R.gr g1) e2 fun us Hs2 H2 g2 r2 => ?_
    exact q ((.inr k, v) :: us) Hs2 H2 (g1.trans g2) (.cons ⟨rfl, Rv.same g2.qq r1⟩ r2)
/-- the pairs of a display -/
structure PPD (X : Cx) (pos : Pos) (keys : List (Option Expr)) (values : List Expr) (l : List (Str × Fx)) : Prop where
  h : PPs X pos keys values (trsOf (kw X) l)
theorem ppd_nil : PPD X pos [] [] [] := ⟨pps_nil⟩
theorem ppd_cons {k : Str} {j : Nat} {kp : Pos} {v : Expr} {ks : List (Option Expr)} {vs : List Expr} {f : Fx} {l : List (Str × Fx)} (hv : PD X v f) (hr : PPD X pos ks vs l) : PPD X pos (some (.Constant (.str k) j kp) :: ks) (v :: vs) ((k, f) :: l) := ⟨pps_cons pe_str hv hr.h⟩
def cDisp (l : List (Str × Fx)) : Fc := fun env => (fPairs l env).bind fun xs => some (.ok (mergeP [] xs))
theorem fPairs_len : ∀ {l : List (Str × Fx)} {env : En} {xs : List (Key × PyData)}, fPairs l env = some xs → xs.length = l.length
  | [], _, _, h => by cases h; rfl
  | (k, f) :: r, env, xs, h => by
    obtain ⟨x, _, h⟩ := bind_some h
    obtain ⟨ys, e2, h⟩ := bind_some h
    cases h
    rw [List.length_cons, List.length_cons, fPairs_len e2]
theorem disp_rd {K : KW} {l : List (Str × Fx)} (h15 : l.length ≤ 15) {Hb Hs H : Hp} {σ : L2.St} {env : En} {xs : List (Key × PyData)} {Q : VK} (R : Rp K Hb Hs σ H env) (e : fPairs l env = some xs)
    (q : ∀ p us Hs' H', H p = none → Gr H Hs Hs' H' → H' p = some (.dK us) → Hs' p = none → KvR K Hs' us (mergeP [] xs) → Q (.ref p) H') : tDisp (trsOf K l) σ H Q := by
  intro p hp
  refine tPairs_of (R.gr (Gr.side R.qh hp)) e fun us Hs' H' g r => ?_
  have hps : Hs p = none := R.qh.free hp
  have h2 := g.hh _ _ (upd_same (H := H) (a := p) (o := HO.dK []))
  have hp' : Hs' p = none := g.out p hps (by rw [upd_same]; exact fun z => nomatch z)
  refine ⟨h2, us, rfl, by rw [r.len, fPairs_len e]; exact h15, q p _ Hs' _ hp ⟨g.qq, fun b u eb => ?_, fun b u eb => ?_, fun b h n => g.out b h ?_⟩ upd_same hp' (r.merge .nil)⟩
  · rw [upd_ne (fun z => by rw [z, hp'] at eb; cases eb)]; exact g.qh b u eb
  · have z : b ≠ p := fun z => by rw [z, hp] at eb; cases eb
    rw [upd_ne z]; exact g.hh b u (by rw [upd_ne z]; exact eb)
  · by_cases z : b = p
    · rw [z, upd_same]; exact fun z => nomatch z
    · rw [upd_ne z]; exact n
theorem pcd_disp {keys : List (Option Expr)} {values : List Expr} {l : List (Str × Fx)} (h : PPD X pos keys values l) (h15 : l.length ≤ 15) (hall : keys.all (·.isSome) = true) (hl : keys.length = values.length) (h0 : keys ≠ []) (hk : keys.length ≤ 15) : PCD X (.Dict keys values pos) (cDisp l) :=
  pe_weak (pe_disp h.h hall hl h0 hk) fun σ H Q ⟨Hb, Hs, env, c, R, e, q⟩ => by
    obtain ⟨xs, e1, e⟩ := bind_some e
    cases e
    exact disp_rd h15 R e1 fun p us Hs' H' hp g h1 h2 r => q _ Hs' H' g ⟨p, us, rfl, hp, h1, h2, r⟩
/-- {..}[k] -/
def eDisp (l : List (Str × Fx)) (fk : Fx) : Fx := fun env => (fPairs l env).bind fun xs => (fk env).bind fun y => (keyOf y).bind fun k => valP (mergeP [] xs) k
theorem pd_dispIx {k : Nat} {keys : List (Option Expr)} {values : List Expr} {l : List (Str × Fx)} {dp : Pos} (hr : Room k X.A) (h : PPD X dp keys values l) (ha : PD X a fa) (h15 : l.length ≤ 15) (hall : keys.all (·.isSome) = true) (hl : keys.length = values.length) (h0 : keys ≠ []) (hk : keys.length ≤ 15) (hs : NoSl a) :
    PD X (.Subscript (.Dict keys values dp) a pos) (eDisp l fa) := pe_weak (pe_dget (room_1 hr) (pe_disp h.h hall hl h0 hk) ha hs) fun σ H Q ⟨Hb, Hs, env, d, R, e, q⟩ => by
  obtain ⟨xs, e1, e⟩ := bind_some e
  obtain ⟨y, e2, e⟩ := bind_some e
  obtain ⟨ky, e3, e⟩ := bind_some e
  refine disp_rd h15 R e1 fun p us Hs1 H1 hp g h1 h2 r => ⟨Hb, Hs1, env, y, R.gr g, e2, fun v Hs2 H2 g2 r2 => ?_⟩
  have rk := (r.same g2.qq).val ky
  rw [e] at rk
  cases h5 : valV us ky with
  | none => rw [h5] at rk; exact rk.elim
  | some v5 =>
    rw [h5] at rk
    refine ⟨p, v5, rfl, ?_, q v5 Hs2 H2 (g.trans g2) rk⟩
    rw [keyOf_rv r2 e3, ← h5]
    exact DGet.k (g2.hh _ _ h1)
end
end DL

/-! DL10: enumerate of a tuple. -/
namespace DL
open PySem L2

theorem meets_enum_tup (t : Addr) (items : Array Value) :
    Meets (Builtin.«enumerate.__new__» ⟨[.type "enumerate", .ref t], []⟩) (fun _ R s => s.heap.IsTuple t items ∧
      R (.ok (.ret (.ref (s.heap.push { cls := .type "tuple_iterator", data := .fields #[.ref t, .int 0 0] }).objs.size)))
        { s with heap := (s.heap.push { cls := .type "tuple_iterator", data := .fields #[.ref t, .int 0 0] }).push { cls := .type "enumerate", data := .fields #[.none, .bool false, .ref s.heap.objs.size, rawInt 0, .none, .none] } }) :=
  .of_wp fun prog w A R s h => by
    obtain ⟨hp, g, d, tk, os⟩ := s; obtain ⟨hl, h⟩ := h
    have hsub := sub_enumerate
    have q1 : ∀ {A' : Around} {E : Value → Shared → Prop} {Q : Value → Shared → Prop}, Q (.ref hp.objs.size) ⟨hp.push { cls := .type "tuple_iterator", data := .fields #[.ref t, .int 0 0] }, g, d, tk, os⟩ → wpAny (model prog w) A' (pyIter (.ref t)) Q E ⟨hp, g, d, tk, os⟩ :=
      fun q => wpAny_pyIter_tuple (s := ⟨hp, g, d, tk, os⟩) hl q
    wp_walk using q1
    refine wpAny_stack_any fun st => wpAny_pure ?_
    split
    · rename_i c _ _ _ _ _
      cases (c == Value.type "enumerate") <;> (wp_walk using q1; exact ⟨_, rfl, h⟩)
    · wp_walk using q1
      exact ⟨_, rfl, h⟩
section
variable {prog : Program} {w : World} {A : Around} {E : Value → Shared → Prop} {s : Shared}
theorem call_enum_tup {t : Addr} {items : Array Value} {Q : Value → Shared → Prop} (hT : s.heap.IsTuple t items)
    (h : ∀ h', IsEnum h' (s.heap.objs.size + 1) s.heap.objs.size 0 .none → h'.IsTupleIter s.heap.objs.size t 0 → (∀ b o, s.heap.get? b = some o → h'.get? b = some o) → Q (.ref (s.heap.objs.size + 1)) { s with heap := h' }) :
    wpAny (model prog w) A (call (.type "enumerate") [.ref t]) Q E s := by
  refine callType_new PySem.F.called_enumerate (by decide) (PySem.F.typeCall_enumerate_1 _) (PySem.F.newCall_enumerate_1 _) (fun obj => PySem.F.args_object_init_2 obj _) PySem.F.entry_enumerate_new (meets_enum_tup t items) ⟨hT, ?_⟩
  have hz : (s.heap.push { cls := .type "tuple_iterator", data := .fields #[.ref t, .int 0 0] }).objs.size = s.heap.objs.size + 1 := Heap.size_push ..
  show _ ∧ _
  rw [hz]
  have he : IsEnum ((s.heap.push { cls := .type "tuple_iterator", data := .fields #[.ref t, .int 0 0] }).push { cls := .type "enumerate", data := .fields #[.none, .bool false, .ref s.heap.objs.size, rawInt 0, .none, .none] }) (s.heap.objs.size + 1) s.heap.objs.size 0 .none := by
    have q := Heap.get?_push_size (s.heap.push { cls := .type "tuple_iterator", data := .fields #[.ref t, .int 0 0] }) (o := { cls := .type "enumerate", data := .fields #[.none, .bool false, .ref s.heap.objs.size, rawInt 0, .none, .none] }) rfl
    rw [hz] at q
    exact q
  exact ⟨⟨_, he, rfl⟩, h _ he ⟨_, Heap.get?_push_of_some _ (Heap.get?_push_size _ rfl), rfl, rfl⟩ fun b o x => Heap.get?_push_of_some _ (Heap.get?_push_of_some _ x)⟩
end
/-- the tuple at a as it stands at each turn, each item in a new pair -/
def IteT (K : PySem.W.Frag) (a : Addr) : It :=
  ⟨fun i H => ∃ (xs : List V) (x : V), SqT K H a xs ∧ xs[i]? = some x, fun i H v H' => ∃ T x, v = .ref T ∧ H T = none ∧ H' = upd H T (.tup [.int (i : Nat), x]) ∧ ∀ xs, SqT K H a xs → xs[i]? = some x, fun i H => ∃ xs : List V, SqT K H a xs ∧ xs.length = i⟩
theorem turn_enumT {P : Program} {w : World} {K : PySem.W.Frag} {elts : List Expr} {kk : Nat} {tpos : Pos} (a e it : Addr) :
    Turn P w K (.Tuple elts kk tpos) (IteT K a) [e, it] e (fun i h => (∃ old, IsEnum h e it ((i : Nat) : Int) old) ∧ h.IsTupleIter it a i ∧ e ≠ it) where
  mem := by simp
  obj := fun i h st b hb => by
    obtain ⟨⟨old, he⟩, ⟨o, ho, hc, hd⟩, _⟩ := st
    have e' : b = e ∨ b = it := by simpa using hb
    rcases e' with z | z
    · rw [z]; exact ⟨_, he, fun v q => nomatch q⟩
    · rw [z]; exact ⟨o, ho, fun v q => by rw [hd] at q; cases q⟩
  keep := fun i h h' st k => let ⟨⟨old, he⟩, hi, hne⟩ := st; ⟨⟨old, k e (by simp) _ he⟩, hi.at fun o q => k it (by simp) o q, hne⟩
  item := by
    intro X hP hw hK hc i pins s σ H E I hf st hg
    subst hP hw hK
    obtain ⟨⟨old, he⟩, hit, hne⟩ := st
    obtain ⟨xs, x, hq, hx⟩ := hg
    obtain ⟨its, rv, p, hz⟩ := I.tuple hq
    obtain ⟨u, hu, ru⟩ := rv.get hx
    have hel : e < s.heap.objs.size := Heap.lt_size he
    have hil : it < s.heap.objs.size := by obtain ⟨_, q, _⟩ := hit; exact Heap.lt_size q
    have hT : s.heap.IsTuple a its.toArray := by
      obtain ⟨o, h1, h2, n, h3⟩ := p
      exact ⟨o, h1, h2, n, h3⟩
    have nea : e ≠ a := fun z => by
      obtain ⟨o, h1, h2, _⟩ := hT
      rw [← z] at h1
      have he' : s.heap.get? e = some _ := he
      rw [he'] at h1; cases h1
      exact absurd (show Value.type "enumerate" = Value.type "tuple" from h2) (by decide)
    have nia : a ≠ it := fun z => by
      obtain ⟨o, h1, h2, _⟩ := hT
      obtain ⟨o', h1', h2', _⟩ := hit
      rw [z, h1'] at h1; cases h1
      rw [h2'] at h2
      exact absurd h2 (by decide)
    have hlt : i < its.toArray.size := by
      have := (List.getElem?_eq_some_iff.mp hu).1
      simpa using this
    refine wpAny_pyNext_enum_itemD (Draws.tuple (show X.A.in1.handled = none from I.ok.hd hc) it a nia its.toArray) he ⟨hit, hT⟩ hlt hne (by simp; exact ⟨hne, nea⟩) fun x' h' tk hP ho hst' hTT hsz hk => ?_
    have hxu : x' = u := by
      have h1 : its.toArray[i]? = some x' := hP
      rw [show its.toArray[i]? = some u by simpa using hu] at h1
      exact (Option.some.inj h1).symm
    refine ⟨_, rfl, wpAny_letOwnedTupleGo_enum (s := { s with heap := h', toks := tk + 1 }) ho fun h'' he' sb => ?_⟩
    have hT2 : h''.get? s.heap.objs.size = some { cls := .type "tuple", data := .seq #[.int i tk, x'] } := (sb.2 _ (Nat.ne_of_gt hel)).trans hTT
    have new : ObjOk X.prog X.w (upd H s.heap.objs.size (.tup [.int (i : Nat), x])) h'' s.heap.objs.size (.tup [.int (i : Nat), x]) :=
      ⟨by show 2 ≤ sizeLine; decide, [.int i tk, x'], .cons ⟨_, rfl⟩ (.cons (by rw [hxu]; exact ru) .nil), ⟨_, hT2, rfl, _, rfl⟩⟩
    have I1 : Inv X pins σ (upd H s.heap.objs.size (.tup [.int (i : Nat), x])) { s with heap := h'', toks := tk + 1 } :=
      I.turnedNew (t' := tk + 1) (ch := [e, it]) (fun b ob hb q => (sb.2 b (fun z => hb (by simp [z]))).trans (hk b ob (fun z => hb (by simp [z])) (fun z => hb (by simp [z])) q)) hf (Nat.le_refl _) new
    refine ⟨.ref s.heap.objs.size, _, I1, rfl, ⟨_, x, rfl, I.hok.fresh (Nat.le_refl _), rfl, fun ys hy => by rw [I.tuple_inj hy hq]; exact hx⟩, ⟨⟨x', ?_⟩, hst'.1.at fun o q => (sb.2 it (Ne.symm hne)).trans q, hne⟩, fun b hb => ?_⟩
    · have e1 : ((i + 1 : Nat) : Int) = (i : Int) + 1 := by omega
      rw [e1]; exact he'
    · have hb' : b < s.heap.objs.size := by
        have e' : b = e ∨ b = it := by simpa using hb
        rcases e' with z | z
        · rw [z]; exact hel
        · rw [z]; exact hil
      rw [upd_ne (Nat.ne_of_lt hb')]
      exact (hf b hb).1
  done := by
    intro X hP hw hK hc i pins s σ H E I hf st hg
    subst hP hw hK
    obtain ⟨⟨old, he⟩, hit, hne⟩ := st
    obtain ⟨xs, hq, hx⟩ := hg
    obtain ⟨its, rv, p, hz⟩ := I.tuple hq
    obtain ⟨f0, f1, f2, f3, f4, f5⟩ := hf it (by simp)
    have hl := rv.length
    have hT : s.heap.IsTuple a its.toArray := by
      obtain ⟨o, h1, h2, n, h3⟩ := p
      exact ⟨o, h1, h2, n, h3⟩
    have nia : a ≠ it := fun z => by
      obtain ⟨o, h1, h2, _⟩ := hT
      obtain ⟨o', h1', h2', _⟩ := hit
      rw [z, h1'] at h1; cases h1
      rw [h2'] at h2
      exact absurd h2 (by decide)
    have hsz : its.toArray.size = i := by simp; omega
    exact wpAny_pyNext_enum_endD (Draws.tuple (show X.A.in1.handled = none from I.ok.hd hc) it a nia its.toArray) he ⟨by rw [hsz]; exact hit, hT⟩ fun h' eb => ⟨rfl, I.turned (t' := s.toks) (fun b o hb q => eb b o hb q) f0 f1 f3 f4 f5⟩
  self := fun A i s Q E st h => let ⟨⟨_, he⟩, _⟩ := st; wpAny_pyIter_enum he h
theorem pi_enumT {X : Cx} {e : Expr} {ta : TA} {p pos tpos : Pos} {elts : List Expr} {kk : Nat} (hg : Gl X "enumerate") (hm : X.mg "enumerate" = none) (ha : PA X [e] ta) (hs : starEach [e] X.env = [(false, eval e X.env)] := by rfl) :
    PI X (.Tuple elts kk tpos) (.Call (.Name "enumerate" p) [e] [] pos) (fun σ H R => ta σ H fun vs H1 => ∃ a xs, vs = [.ref a] ∧ SqT X.K H1 a xs ∧ R (IteT X.K a) H1) := by
  refine ⟨fun pins s σ H R I h => ?_⟩
  refine PyProof.Rows.Call_ (ld_blt I hg hm PyProof.Rows.boot_enumerate (PyProof.Rows.callWith_type1 (thn (ha.run pos pins s σ H _ I h) fun us s1 ⟨vs, H1, I1, r1, q1⟩ => ?_) hs rfl))
  obtain ⟨a, xs, ex, hq, q⟩ := q1
  subst ex
  cases r1 with
  | cons r rr =>
    cases rr
    cases r
    obtain ⟨its, rv, p', hz⟩ := I1.tuple hq
    have hT : s1.heap.IsTuple a its.toArray := by
      obtain ⟨o, h1, h2, n, h3⟩ := p'
      exact ⟨o, h1, h2, n, h3⟩
    refine call_enum_tup hT fun h' he hit hk => wpAny_pyIter_enum he ?_
    have I2 : Inv X pins σ H1 { s1 with heap := h' } := I1.kept (t' := s1.toks) hk
    refine ⟨s1.heap.objs.size + 1, [s1.heap.objs.size + 1, s1.heap.objs.size], _, _, H1, rfl, I2, turn_enumT a (s1.heap.objs.size + 1) s1.heap.objs.size, ⟨⟨.none, he⟩, hit, Nat.succ_ne_self _⟩, fun b hb => ?_, q⟩
    have e' : b = s1.heap.objs.size + 1 ∨ b = s1.heap.objs.size := by simpa using hb
    have hle : s1.heap.objs.size ≤ b := by
      rcases e' with z | z
      · rw [z]; exact Nat.le_add_right _ _
      · rw [z]; exact Nat.le_refl _
    exact I1.fpOk hle (I1.hok.fresh hle)
/-- (0, x), (1, y), .. -/
def enumD : Nat → List PyData → List PyData
  | _, [] => []
  | n, x :: xs => .tuple [.int (n : Nat), x] :: enumD (n + 1) xs
theorem enumD_len : ∀ (xs : List PyData) (n : Nat), (enumD n xs).length = xs.length
  | [], _ => rfl
  | x :: xs, n => by
    show (enumD (n + 1) xs).length + 1 = xs.length + 1
    rw [enumD_len xs (n + 1)]
theorem enumD_get : ∀ {xs : List PyData} {n i : Nat} {d : PyData}, (enumD n xs)[i]? = some d → ∃ x, xs[i]? = some x ∧ d = .tuple [.int ((n + i : Nat) : Int), x]
  | [], _, _, _, h => by cases h
  | x :: xs, n, 0, d, h => ⟨x, rfl, (Option.some.inj h).symm⟩
  | x :: xs, n, i + 1, d, h => by
    obtain ⟨y, h1, h2⟩ := enumD_get (xs := xs) (n := n + 1) (i := i) h
    refine ⟨y, h1, ?_⟩
    rw [h2, show n + 1 + i = n + (i + 1) by omega]
theorem it_enum {K : KW} {Hs : Hp} {c : Addr} {vs : List V} {xs : List PyData} (h : SqT K.K Hs c vs) (r : RvA K Hs vs xs) : ItOk K Hs (IteT K.K c) (enumD 0 xs) := fun Hs1 H1 s1 s2 => by
  have t1 : SqT K.K H1 c vs := same_t (s1.trans s2) h
  refine ⟨fun i d e => ?_, ⟨vs, t1, by rw [enumD_len, r.len]⟩⟩
  obtain ⟨x, ex, rfl⟩ := enumD_get e
  obtain ⟨v, hv, rv⟩ := r.get ex
  refine ⟨⟨vs, v, t1, hv⟩, fun w H2 z => ?_⟩
  obtain ⟨T, x', rfl, hT, rfl, k1⟩ := z
  have e1 : x' = v := Option.some.inj ((k1 vs t1).symm.trans hv)
  have rv' : Rv K Hs x' x := by rw [e1]; exact rv
  have g := Gr.new (o := .tup [.int (i : Nat), x']) s2 hT
  refine ⟨_, g, .tup (SqT.of upd_same) (.cons ?_ (.cons (Rv.same (s1.trans g.qq) rv') .nil))⟩
  rw [Nat.zero_add]
  exact .int _
def iEnumD (fa : Fx) : Fa := fun env => (fa env).bind fun x => match x with
  | .tuple ds => some (enumD 0 ds)
  | _ => none
theorem pid_enum {X : Cx} {e : Expr} {fa : Fx} {p pos tpos : Pos} {elts : List Expr} {kk : Nat} (hm : X.mg "enumerate" = none) (hg : Gl X "enumerate") (ha : PD X e fa) (hs : starEach [e] X.env = [(false, eval e X.env)] := by rfl) :
    PID X (.Tuple elts kk tpos) (.Call (.Name "enumerate" p) [e] [] pos) (iEnumD fa) :=
  pi_weak (pi_enumT hg hm (pda_cons ha pda_nil hs) hs) fun σ H R' ⟨Hb, Hs, env, xs, R, e, q⟩ => by
    obtain ⟨x, e1, e2⟩ := bind_some e
    split at e2
    · cases e2
      refine ⟨Hb, Hs, env, [_], R, by unfold aCons aNil; rw [e1]; rfl, fun vs Hs1 H1 g r => ?_⟩
      cases r with
      | cons r1 r2 =>
        cases r2
        cases r1 with
        | tup h1 a1 => exact ⟨_, _, rfl, same_t g.qh h1, q _ Hs1 H1 g (it_enum h1 a1)⟩
    · cases e2
end DL

/-! DL11: dicts whose keys are nested tuples. -/
namespace DL
open PySem L2

/-! ### what stands under a key -/
def lkD (kvs : List (PyData × PyData)) (n : NestedKey) : Option PyData := (kvs.find? fun q => decide (nkOf q.1 = some n)).map (·.2)
theorem lkD_pos {q : PyData × PyData} {r : List (PyData × PyData)} {n : NestedKey} (h : nkOf q.1 = some n) : lkD (q :: r) n = some q.2 := by simp [lkD, List.find?_cons, h]
theorem lkD_neg {q : PyData × PyData} {r : List (PyData × PyData)} {n : NestedKey} (h : nkOf q.1 ≠ some n) : lkD (q :: r) n = lkD r n := by simp [lkD, List.find?_cons, h]
theorem lkD_none {n : NestedKey} : ∀ {kvs : List (PyData × PyData)}, lkD kvs n = none → ∀ q ∈ kvs, nkOf q.1 ≠ some n
  | [], _, q, hq => nomatch hq
  | p :: r, h, q, hq => by
    by_cases e : nkOf p.1 = some n
    · rw [lkD_pos e] at h; cases h
    · rw [lkD_neg e] at h
      rcases List.mem_cons.mp hq with rfl | hq
      · exact e
      · exact lkD_none h q hq

section
variable {X : Cx} {pins : List (Addr × Obj)} {σ : L2.St} {H Hs : Hp} {s : Shared}
mutual
theorem Rv.nested (I : Inv X pins σ H s) (e : Same Hs H) {d : PyData} {v : V} : Rv (kw X) Hs v d → ∀ (n : NestedKey) (u : Value), nkOf d = some n → RelV v u → NestedIs s.heap n u
  | .non, n, u, h, r => by
    simp only [nkOf] at h; cases h; cases r; exact .none
  | .bl b, n, u, h, r => by
    simp only [nkOf] at h; cases h; cases r; exact .bool rfl
  | .int i, n, u, h, r => by
    simp only [nkOf] at h; cases h; obtain ⟨t, rfl⟩ := r; exact .int i t
  | .str x, n, u, h, r => by
    simp only [nkOf] at h; cases h; obtain ⟨t, rfl⟩ := r; exact .text x t
  | .lst h1 a, n, u, h, r => by simp [nkOf] at h
  | .tup h1 a, n, u, h, r => by
    simp only [nkOf] at h
    obtain ⟨ks, e1, e2⟩ := bind_some h
    cases e2; cases r
    obtain ⟨its, rv, ⟨o, ho, hc, m, hd⟩, _⟩ := I.tuple (same_t e h1)
    exact .tup ho hc hd (RvA.nested I e a ks its e1 rv)
  | .dct h1 z o r', n, u, h, r => by simp [nkOf] at h
theorem RvA.nested (I : Inv X pins σ H s) (e : Same Hs H) {ds : List PyData} {vs : List V} : RvA (kw X) Hs vs ds → ∀ (ks : List NestedKey) (us : List Value), nkAll ds = some ks → Vals vs us → NestedAll s.heap ks us
  | .nil, ks, us, h, r => by
    simp only [nkAll] at h; cases h; cases r; exact .nil
  | .cons h1 t, ks, us, h, r => by
    simp only [nkAll] at h
    obtain ⟨k, e1, h⟩ := bind_some h
    obtain ⟨ks', e2, h⟩ := bind_some h
    cases h
    cases r with
    | cons r1 r2 => exact .cons (Rv.nested I e h1 k _ e1 r1) (RvA.nested I e t ks' _ e2 r2)
end
/-- how an entry by its key and a pair of data hang together -/
def KvOk (K : KW) (Hs : Hp) (x : NestedKey × Addr × Value) (q : PyData × PyData) : Prop := nkOf q.1 = some x.1 ∧ ∃ v, RelV v x.2.2 ∧ Rv K Hs v q.2
theorem RvE.keyed (I : Inv X pins σ H s) (e : Same Hs H) {es : List DictEntry} {kvs : List (PyData × PyData)} : RvE (kw X) Hs es kvs → ∃ xs : List (NestedKey × Addr × Value), es = xs.map (entryOfKey (nestedKind X.prog X.w)) ∧ (∀ x ∈ xs, (nestedKind X.prog X.w).is s.heap x.1 x.2.1) ∧ (xs.map (·.1)).Nodup ∧ Paired (KvOk (kw X) Hs) xs kvs
  | .nil => ⟨[], rfl, (fun _ h => nomatch h), List.nodup_nil, .nil⟩
  | @RvE.cons _ _ en es' k x kvs' a v n k1 k2 k3 k4 h1 h2 h3 h4 t => by
    obtain ⟨xs, e1, e2, e3, e4⟩ := RvE.keyed I e t
    have hk : NestedIs s.heap n (.ref a) := Rv.nested I e h2 n _ k1 rfl
    refine ⟨(n, a, en.val) :: xs, ?_, fun y hy => ?_, ?_, .cons ⟨k1, v, h3, h4⟩ e4⟩
    · rw [List.map_cons, ← e1]
      congr 1
      obtain ⟨eh, ek, ev⟩ := en
      simp only at k4 h1
      subst h1 k4
      rfl
    · rcases List.mem_cons.mp hy with rfl | hy
      · exact ⟨hk, k2⟩
      · exact e2 y hy
    · rw [List.map_cons, List.nodup_cons]
      refine ⟨fun hm => ?_, e3⟩
      obtain ⟨y, hy, ey⟩ := List.mem_map.mp hm
      have hmem : ∀ {l : List (NestedKey × Addr × Value)} {m : List (PyData × PyData)}, Paired (KvOk (kw X) Hs) l m → y ∈ l → ∃ q ∈ m, nkOf q.1 = some y.1 := by
        intro l m pr
        induction pr with
        | nil => intro h; cases h
        | cons h t ih =>
          intro hy
          rcases List.mem_cons.mp hy with rfl | hy
          · exact ⟨_, List.mem_cons_self, h.1⟩
          · obtain ⟨q, hq, eq⟩ := ih hy
            exact ⟨q, List.mem_cons_of_mem _ hq, eq⟩
      obtain ⟨q, hq, eq⟩ := hmem e4 hy
      exact k3 q hq (by rw [eq, ey])
theorem at_lk {K : KW} {Hs : Hp} {n : NestedKey} : ∀ {xs : List (NestedKey × Addr × Value)} {kvs : List (PyData × PyData)}, Paired (KvOk K Hs) xs kvs →
    (atKey xs n).isSome = (lkD kvs n).isSome ∧ ∀ d, lkD kvs n = some d → ∃ p v, atKey xs n = some p ∧ RelV v p.2 ∧ Rv K Hs v d
  | _, _, .nil => ⟨rfl, fun d h => by cases h⟩
  | _, _, @Paired.cons _ _ _ x q xs kvs h t => by
    obtain ⟨h1, v, h2, h3⟩ := h
    have ih := at_lk (n := n) t
    by_cases e : x.1 = n
    · have e' : nkOf q.1 = some n := by rw [h1, e]
      have ea : atKey (x :: xs) n = some x.2 := by simp [atKey, List.find?_cons, e]
      rw [lkD_pos e', ea]
      exact ⟨rfl, fun d hd => by cases hd; exact ⟨x.2, v, rfl, h2, h3⟩⟩
    · have e' : nkOf q.1 ≠ some n := by rw [h1]; exact fun z => e (Option.some.inj z)
      have ea : atKey (x :: xs) n = atKey xs n := by simp [atKey, List.find?_cons, e]
      rw [lkD_neg e', ea]
      exact ih
theorem paired_len {α β : Type} {F : α → β → Prop} {l : List α} {m : List β} (h : Paired F l m) : l.length = m.length := Paired.length h

/-- a dict at a, as data -/
theorem dict_at (I : Inv X pins σ H s) (e : Same Hs H) {a : Addr} {o : Obj} {es : List DictEntry} {kvs : List (PyData × PyData)} (h : H a = some (objO a o)) (hd : DOk o es) (r : RvE (kw X) Hs es kvs) :
    ∃ xs : List (NestedKey × Addr × Value), s.heap.DictOfH (nestedKind X.prog X.w) a xs ∧ Paired (KvOk (kw X) Hs) xs kvs ∧ es = xs.map (entryOfKey (nestedKind X.prog X.w)) := by
  obtain ⟨xs, e1, e2, e3, e4⟩ := RvE.keyed I e r
  have ho : s.heap.get? a = some o := (show ObjOk X.prog X.w H s.heap a (objO a o) from I.hok a _ h).1
  obtain ⟨hx, ep, hdat⟩ := hd
  exact ⟨xs, ⟨o, es.toArray, ep, ho, hx, hdat, by simp [e1], e2, e3⟩, e4, e1⟩
end

/-! ### k in d -/
def okKey (y : PyData) : Option NestedKey := match y with
  | .tuple ds => (nkOf (.tuple ds)).bind fun n => if n.depth ≤ 8 then some n else none
  | _ => none
theorem okKey_some {y : PyData} {n : NestedKey} (h : okKey y = some n) : nkOf y = some n ∧ n.depth ≤ 8 ∧ ∀ {K : KW} {Hs : Hp} {v : V}, Rv K Hs v y → ∃ b, v = .ref b := by
  unfold okKey at h
  split at h
  · obtain ⟨m, e1, e2⟩ := bind_some h
    by_cases hd : m.depth ≤ 8
    · rw [if_pos hd] at e2; cases e2
      exact ⟨e1, hd, fun r => by cases r with | tup h1 a1 => exact ⟨_, rfl⟩⟩
    · rw [if_neg hd] at e2; cases e2
  · cases h
theorem room_9 {k : Nat} {A : Around} (r : Room k A) : A.units + 9 < cLine := by have := r.un; omega
section
variable {X : Cx} {e a b : Expr} {pos p : Pos} {f fa fb fe : Fx}
theorem Rp.odc {K : KW} {Hb Hs H : Hp} {σ : L2.St} {env : En} {i : Nat} {kvs : List (PyData × PyData)} (R : Rp K Hb Hs σ H env) (e : env[i]? = some (.od kvs)) : ∃ a o es, σ[i]? = some (some (.ref a)) ∧ H a = some (objO a o) ∧ (a == sysModules) = false ∧ Hs a = none ∧ Hb a = none ∧ DOk o es ∧ RvE K Hs es kvs := by
  obtain ⟨v, h1, a, o, es, e1, h2⟩ := R.at_ i _ e (fun z => nomatch z)
  rw [e1] at h1
  exact ⟨a, o, es, h1, h2⟩
def eInO (neg : Bool) (i : Nat) (fe : Fx) : Fx := fun env => (fe env).bind fun y => (okKey y).bind fun n => match env[i]? with
  | some (.od kvs) => some (.bool (if neg then !(lkD kvs n).isSome else (lkD kvs n).isSome))
  | _ => none
theorem pdc_notInO {i k : Nat} {x : Str} (hr : Room k X.A) (he : PD X e fe) (hx : PE X (.Name x p) (tVar i)) : PDC X .NotIn e (.Name x p) (eInO true i fe) := by
  refine ⟨fun pins s σ H Q I h => ?_⟩
  obtain ⟨Hb, Hs, env, d, R, e0, q⟩ := h
  obtain ⟨y, e1, e0⟩ := bind_some e0
  obtain ⟨n, e2, e0⟩ := bind_some e0
  obtain ⟨n1, n2, n3⟩ := okKey_some e2
  split at e0
  · rename_i kvs ex
    cases e0
    obtain ⟨c, o, es, h1, h2, h0, h3, h4, h5, r⟩ := R.odc ex
    refine thn (he.run pins s σ H (fun v H1 => ∃ Hs1, Gr H Hs Hs1 H1 ∧ Rv (kw X) Hs1 v y) I ⟨Hb, Hs, env, y, R, e1, fun v Hs1 H1 g r1 => ⟨Hs1, g, r1⟩⟩) fun u s1 ⟨v, H1, I1, ru, Hs1, g, r1⟩ => ?_
    obtain ⟨b, rfl⟩ := n3 r1
    cases ru
    refine thn (hx.run pins s1 σ H1 (fun w H2 => w = .ref c ∧ H2 = H1) I1 ⟨_, h1, rfl, rfl⟩) fun u s2 ⟨w, H2, I2, ru, ew, eH⟩ => ?_
    subst ew eH
    cases ru
    obtain ⟨xs, hm, pr, _⟩ := dict_at I2 g.qh (g.hh _ _ h2) h5 (RvE.same g.qq r)
    refine PyProof.Rows.wpAny_notIn_heap (knd := nestedKind X.prog X.w) (k := n) (show X.A.units + 1 + 8 < cLine by have := room_9 hr; omega) ⟨Rv.nested I2 g.qh r1 n _ n1 rfl, n2⟩ h0 hm ?_
    rw [(at_lk pr).1]
    exact ⟨.bl _, H2, I2.tok _, rfl, q _ Hs1 H2 g (.bl _)⟩
  · cases e0

/-! ### d[k] of a dict that is data -/
def gDix : PyData → PyData → Option PyData
  | .dict kvs, y => (okKey y).bind fun n => lkD kvs n
  | _, _ => none
theorem pd_dix {k : Nat} (hr : Room k X.A) (ha : PD X a fa) (hb : PD X b fb) (hs : NoSl b := by exact fun _ _ => rfl) : PD X (.Subscript a b pos) (eB gDix fa fb) := by
  refine ⟨fun pins s σ H Q I h => ?_⟩
  obtain ⟨Hb, Hs, env, d, R, e0, q⟩ := h
  obtain ⟨x, y, e1, e2, e0⟩ := eB_some e0
  unfold gDix at e0
  split at e0
  · rename_i x0 y0 kvs
    obtain ⟨n, e3, e4⟩ := bind_some e0
    obtain ⟨n1, n2, n3⟩ := okKey_some e3
    refine subD_of PySem.F.slot_dict_getitem.lookup hs (thn (ha.run pins s σ H (fun v H1 => ∃ Hs1, Gr H Hs Hs1 H1 ∧ Rv (kw X) Hs1 v (.dict kvs)) I ⟨Hb, Hs, env, _, R, e1, fun v Hs1 H1 g r1 => ⟨Hs1, g, r1⟩⟩) fun u s1 ⟨v, H1, I1, ru, Hs1, g1, r1⟩ => ?_)
    refine thn (hb.run pins s1 σ H1 (fun v H2 => ∃ Hs2, Gr H1 Hs1 Hs2 H2 ∧ Rv (kw X) Hs2 v y) I1 ⟨Hb, Hs1, env, _, R.gr g1, e2, fun v Hs2 H2 g r2 => ⟨Hs2, g, r2⟩⟩) fun u2 s2 ⟨w, H2, I2, ru2, Hs2, g2, r2⟩ => ?_
    obtain ⟨b, rfl⟩ := n3 r2
    cases ru2
    cases r1 with
    | dct h1 h0 h5 r =>
      cases ru
      obtain ⟨xs, hm, pr, _⟩ := dict_at I2 g2.qh (g2.hh _ _ (g1.qh _ _ h1)) h5 (RvE.same g2.qq r)
      obtain ⟨p, w, e6, e7, e8⟩ := (at_lk pr).2 d e4
      refine ⟨hm.typeIs, wpAny_getItem_heap (knd := nestedKind X.prog X.w) (k := n) (show X.A.units + 1 + 8 < cLine by have := room_9 hr; omega) ⟨Rv.nested I2 g2.qh r2 n _ n1 rfl, n2⟩ hm e6 ?_⟩
      exact ⟨w, H2, I2.tok _, e7, q w Hs2 H2 (g1.trans g2) e8⟩
  · cases e0

/-! ### d[k] = v, k new, d a slot's own dict -/
theorem RvE.snoc {K : KW} {Hs : Hp} {en : DictEntry} {k x : PyData} {c : Addr} {v : V} {n : NestedKey} (k1 : nkOf k = some n) (k2 : n.depth ≤ 8) (k4 : en.hash = n.hash K.w) (h1 : en.key = .ref c) (h2 : Rv K Hs (.ref c) k) (h3 : RelV v en.val) (h4 : Rv K Hs v x) :
    ∀ {es : List DictEntry} {kvs : List (PyData × PyData)}, RvE K Hs es kvs → (∀ q ∈ kvs, nkOf q.1 ≠ some n) → RvE K Hs (es ++ [en]) (kvs ++ [(k, x)])
  | _, _, .nil, _ => .cons k1 k2 (fun _ h => nomatch h) k4 h1 h2 h3 h4 .nil
  | _, _, @RvE.cons _ _ en' es' k' x' kvs' a' v' n' j1 j2 j3 j4 i1 i2 i3 i4 t, hn => .cons j1 j2 (fun q hq => by
      rcases List.mem_append.mp hq with hq | hq
      · exact j3 q hq
      · have e : q = (k, x) := List.mem_singleton.mp hq
        subst e
        intro z
        have e2 := k1.symm.trans z
        cases e2
        exact hn _ List.mem_cons_self j1) j4 i1 i2 i3 i4 (RvE.snoc k1 k2 k4 h1 h2 h3 h4 t fun q hq => hn q (List.mem_cons_of_mem _ hq))
def gPutO (i : Nat) (fk fv : Fx) : Fs := fun env => (fv env).bind fun x => (fk env).bind fun y => (okKey y).bind fun n => match env[i]? with
  | some (.od kvs) => if (lkD kvs n).isSome = false ∧ kvs.length < line then some (.nx (env.set i (.od (kvs ++ [(y, x)])))) else none
  | _ => none
theorem ext_ok {P : Program} {w : World} {H : Hp} {h : Heap} {c : Addr} {o : Obj} (e : h.get? c = some o) : ObjOk P w H h c (objO c o) := ⟨e, ⟨o, e⟩, fun h1 h2 q k => k o q⟩
theorem psd_putO {i k : Nat} {x : Str} {px : Pos} (hr : Room k X.A) (hx : PE X (.Name x p) (tVar i)) (ha : PD X a fa) (hb : PD X b fb) (hs : swapsWith b (some (.Subscript (.Name x p) a px)) pos.line X.env = pure false := by rfl) :
    PSD X (.Assign [.Subscript (.Name x p) a px] b pos) (gPutO i fa fb) := by
  refine ⟨fun pins s σ H D I h => ?_⟩
  obtain ⟨Hb, Hs, env, o, R, e0, q⟩ := h
  obtain ⟨z, e2, e0⟩ := bind_some e0
  obtain ⟨y, e1, e0⟩ := bind_some e0
  obtain ⟨n, e3, e0⟩ := bind_some e0
  obtain ⟨n1, n2, n3⟩ := okKey_some e3
  split at e0
  · rename_i kvs ex
    by_cases hl : (lkD kvs n).isSome = false ∧ kvs.length < line
    · rw [if_pos hl] at e0; cases e0
      obtain ⟨c, ob, es, h1, h2, h0, h3, h4, h5, r⟩ := R.odc ex
      refine wpAny_Assign_Subscript (thn (hb.run pins s σ H (fun v H1 => ∃ Hs1, Gr H Hs Hs1 H1 ∧ Rv (kw X) Hs1 v z) I ⟨Hb, Hs, env, _, R, e2, fun v Hs1 H1 g r1 => ⟨Hs1, g, r1⟩⟩) fun u s1 ⟨v, H1, I1, ru, Hs1, g1, r1⟩ => ?_) hs
      refine thn (hx.run pins s1 σ H1 (fun w H2 => w = .ref c ∧ H2 = H1) I1 ⟨_, h1, rfl, rfl⟩) fun u2 s2 ⟨w, H2, I2, ru2, ew, eH⟩ => ?_
      subst ew eH
      cases ru2
      refine thn (ha.run pins s2 σ H2 (fun v H3 => ∃ Hs2, Gr H2 Hs1 Hs2 H3 ∧ Rv (kw X) Hs2 v y) I2 ⟨Hb, Hs1, env, _, R.gr g1, e1, fun v Hs2 H3 g r2 => ⟨Hs2, g, r2⟩⟩) fun u3 s3 ⟨w, H3, I3, ru3, Hs2, g2, r2⟩ => ?_
      obtain ⟨b, rfl⟩ := n3 r2
      cases ru3
      have gg := g1.trans g2
      have hc := gg.hh _ _ h2
      have rE := RvE.same gg.qq r
      obtain ⟨xs, hm, pr, ees⟩ := dict_at I3 g2.qh hc h5 rE
      have hxs : atKey xs n = none := by
        have h6 := (at_lk (n := n) pr).1
        rw [hl.1] at h6
        cases h7 : atKey xs n with
        | none => rfl
        | some _ => rw [h7] at h6; cases h6
      have hlen := paired_len pr
      refine wpAny_setItem_heap (knd := nestedKind X.prog X.w) (k := n) (hsz := line_ok (by omega)) (show X.A.units + 1 + 8 < cLine by have := room_9 hr; omega) ⟨Rv.nested I3 g2.qh r2 n _ n1 rfl, n2⟩ hm fun h' dd hsb => ?_
      rw [storedH_new hxs] at dd
      obtain ⟨o', es', ep', ho', hx', hd', he', _, _⟩ := dd
      have I4 : Inv X pins σ (upd H3 c (objO c o')) { s3 with heap := h', toks := s3.toks + (nestedKind X.prog X.w).draws n } :=
        d_write I3 (by rw [hc]; exact True.intro) hsb ⟨o', ho'⟩ (ext_ok ho')
      refine ⟨σ, _, I4, q Hs2 σ _ (gg.gs R.bh) ((R.gr gg).mut ex rfl rfl h1 ?_)⟩
      have hcs : Hs2 c = none := gg.out c h3 (fun z => by rw [h2] at z; cases z)
      refine ⟨c, o', es ++ [⟨n.hash X.w, .ref b, u⟩], rfl, upd_same, h0, hcs, h4, ⟨hx', ep', ?_⟩, RvE.snoc (K := kw X) (v := v) n1 n2 rfl rfl r2 ru (Rv.same g2.qq r1) rE (lkD_none ?_)⟩
      · rw [hd', ees]
        congr 1
        apply Array.ext'
        rw [he']
        simp [entryOfKey]
        rfl
      · cases h8 : lkD kvs n with
        | none => rfl
        | some _ => rw [h8] at hl; exact absurd hl.1 (by simp)
    · rw [if_neg hl] at e0; cases e0
  · cases e0

/-! ### {k: v}, k a nested tuple -/
def cDisp1 (fk fv : Fx) : Fc := fun env => (fk env).bind fun y => (fv env).bind fun x => (okKey y).bind fun _ => some (.od [(y, x)])
theorem storeAll_one {P : Program} {w : World} {A : Around} {E : Value → Shared → Prop} {s : Shared} {d : Addr} {u v : Value} {Q : PUnit → Shared → Prop} (h : wpAny (model P w) A (dictSet d u v) (fun _ s' => Q PUnit.unit s') E s) : wpAny (model P w) A (storeAll d [(u, v)]) Q E s := by
  unfold storeAll
  rw [List.forIn_cons]
  refine wpAny_bind (wpAny_bind (wpAny_mono h (fun _ s' q => wpAny_pure ?_) fun _ _ q => q))
  show wpAny _ _ (forIn [] _ _) _ _ _
  rw [List.forIn_nil]
  exact wpAny_pure q
theorem pcd_disp1 {k : Nat} (hr : Room k X.A) (ha : PD X a fa) (hb : PD X b fb) : PCD X (.Dict [some a] [b] pos) (cDisp1 fa fb) := by
  refine ⟨fun pins s σ H Q I h => ?_⟩
  obtain ⟨Hb, Hs, env, c, R, e0, q⟩ := h
  obtain ⟨y, e1, e0⟩ := bind_some e0
  obtain ⟨x, e2, e0⟩ := bind_some e0
  obtain ⟨n, e3, e0⟩ := bind_some e0
  cases e0
  obtain ⟨n1, n2, n3⟩ := okKey_some e3
  have hn := I.hok.fresh (Nat.le_refl s.heap.objs.size)
  have hbig := I.big
  have hd : (s.heap.objs.size == sysModules) = false := beq_eq_false_iff_ne.mpr (Nat.ne_of_gt hbig)
  generalize hD : s.heap.objs.size = D at hn hd
  have hgD : (s.heap.push { cls := .type "dict", data := .dict #[] }).get? D = some { cls := .type "dict", data := .dict #[] } := by rw [← hD]; exact Heap.get?_push_size _ rfl
  have I1 : Inv X pins σ (upd H D (objO D { cls := .type "dict", data := .dict #[] })) { s with heap := s.heap.push { cls := .type "dict", data := .dict #[] }, toks := s.toks } :=
    I.laid (fun _ _ q => Heap.get?_push_of_some _ q) (by rw [← hD]; exact Nat.le_refl _) (ext_ok hgD)
  refine wpAny_Dict_any rfl rfl (by simp) (by simp) ?_
  rw [hD]
  have g0 := Gr.side (o := objO D { cls := .type "dict", data := .dict #[] }) R.qh hn
  refine pairTrees_cons_walk (thn (ha.run pins _ σ _ (fun v H1 => ∃ Hs1, Gr (upd H D (objO D { cls := .type "dict", data := .dict #[] })) Hs Hs1 H1 ∧ Rv (kw X) Hs1 v y) I1 ⟨Hb, Hs, env, _, R.gr g0, e1, fun v Hs1 H1 g r1 => ⟨Hs1, g, r1⟩⟩) fun u s2 ⟨v, H2, I2, ru, Hs1, g1, r1⟩ => ?_)
  refine thn (hb.run pins s2 σ H2 (fun v H3 => ∃ Hs2, Gr H2 Hs1 Hs2 H3 ∧ Rv (kw X) Hs2 v x) I2 ⟨Hb, Hs1, env, _, (R.gr g0).gr g1, e2, fun v Hs2 H3 g r2 => ⟨Hs2, g, r2⟩⟩) fun u2 s3 ⟨v2, H3, I3, ru2, Hs2, g2, r2⟩ => ?_
  refine pairTrees_nil_walk (storeAll_one ?_)
  obtain ⟨b', rfl⟩ := n3 r1
  cases ru
  have gg := g1.trans g2
  have hc : H3 D = some (objO D { cls := .type "dict", data := .dict #[] }) := gg.hh _ _ upd_same
  obtain ⟨xs, hm, pr, ees⟩ := dict_at (es := []) (kvs := []) I3 g2.qh hc ⟨⟨rfl, rfl, rfl⟩, 0, rfl⟩ .nil
  cases pr
  refine wpAny_dictSet_heap (knd := nestedKind X.prog X.w) (k := n) (hsz := Nat.zero_le _) (show X.A.units + 8 < cLine by have := room_9 hr; omega) ⟨Rv.nested I3 g2.qh (Rv.same g2.qq r1) n _ n1 rfl, n2⟩ hm fun h' dd hsb => ?_
  obtain ⟨o', es', ep', ho', hx', hd', he', _, _⟩ := dd
  have I4 : Inv X pins σ (upd H3 D (objO D o')) { s3 with heap := h', toks := s3.toks + (nestedKind X.prog X.w).draws n } :=
    d_write I3 (by rw [hc]; exact True.intro) hsb ⟨o', ho'⟩ (ext_ok ho')
  have hsD : Hs D = none := R.qh.free hn
  have hs2 : Hs2 D = none := gg.out D hsD (by rw [upd_same]; exact fun z => nomatch z)
  refine ⟨.ref D, _, I4, rfl, q _ Hs2 _ ⟨gg.qq, fun b u eb => ?_, fun b u eb => ?_, fun b h n => gg.out b h ?_⟩ ⟨D, o', [⟨n.hash X.w, .ref b', u2⟩], rfl, hn, upd_same, hd, hs2, ⟨hx', ep', ?_⟩, .cons n1 n2 (fun _ h => nomatch h) rfl rfl (Rv.same g2.qq r1) ru2 r2 .nil⟩⟩
  · rw [upd_ne (fun z => by rw [z, hs2] at eb; cases eb)]; exact gg.qh b u eb
  · have z : b ≠ D := fun z => by rw [z, hn] at eb; cases eb
    rw [upd_ne z]; exact gg.hh b u (by rw [upd_ne z]; exact eb)
  · by_cases z : b = D
    · rw [z, upd_same]; exact fun z => nomatch z
    · rw [upd_ne z]; exact n
  · rw [hd']
    congr 1
    apply Array.ext'
    rw [he']
    simp [storedH, atKey, entryOfKey]
    rfl

/-! ### for k in d, d data -/
theorem get_key {K : KW} {Hs : Hp} : ∀ {es : List DictEntry} {kvs : List (PyData × PyData)}, RvE K Hs es kvs → es.length = kvs.length ∧ ∀ (i : Nat) q, kvs[i]? = some q → ∃ en c, es[i]? = some en ∧ en.key = .ref c ∧ Rv K Hs (.ref c) q.1
  | _, _, .nil => ⟨rfl, fun i q h => by cases h⟩
  | _, _, @RvE.cons _ _ en es k x kvs a v n k1 k2 k3 k4 h1 h2 h3 h4 t => by
    obtain ⟨l, ih⟩ := get_key t
    refine ⟨by rw [List.length_cons, List.length_cons, l], fun i q h => ?_⟩
    cases i with
    | zero => cases h; exact ⟨en, a, rfl, h1, h2⟩
    | succ i => exact ih i q h
/-- the keys of the dict at d, its object o -/
def Itn (d : Addr) (o : Obj) (es : List DictEntry) : It :=
  ⟨fun i H => H d = some (objO d o) ∧ i < es.length, fun i H x H' => H' = H ∧ ∃ en c, es[i]? = some en ∧ en.key = .ref c ∧ x = .ref c, fun i H => H d = some (objO d o) ∧ es.length ≤ i⟩
theorem turn_keysN {P : Program} {w : World} {K : PySem.W.Frag} {tg : Expr} {d : Addr} {o : Obj} {es : List DictEntry} {ep : Nat} (it : Addr) (hod : o.data = .dict es.toArray ep) (hk : ∀ (i : Nat) en, es[i]? = some en → ∃ c, en.key = .ref c) :
    Turn P w K tg (Itn d o es) [it] it (fun i h => h.IsKeyIter it d i es.length ep) where
  mem := by simp
  obj := fun i h st b hb => by
    have e : b = it := by simpa using hb
    subst e
    obtain ⟨oi, e, c, dd⟩ := st
    exact ⟨oi, e, fun v z => by rw [dd] at z; cases z⟩
  keep := fun i h h' st k => st.at fun oi e => k it (by simp) oi e
  item := by
    intro X hP hw hK hc i pins s σ H E I hf st hg
    subst hP hw hK
    obtain ⟨hd, hi⟩ := hg
    obtain ⟨f0, f1, f2, f3, f4, f5⟩ := hf it (by simp)
    have hgd : s.heap.get? d = some o := (show ObjOk X.prog X.w H s.heap d (objO d o) from I.hok d _ hd).1
    have hen : es[i]? = some es[i] := List.getElem?_eq_getElem hi
    obtain ⟨c, hkey⟩ := hk i _ hen
    refine next_key_item st hgd hod (by simp) (show es.toArray[i]? = some es[i] by simpa using hen) fun h' st' sb => ?_
    have I1 : Inv X pins σ H { s with heap := h' } := I.turned (t' := s.toks) (fun b ob hb e => (sb.2 b hb).trans e) f0 f1 f3 f4 f5
    obtain ⟨oi, e, c', dd⟩ := id st'
    exact ⟨es[i].key, rfl, go_of (s := { s with heap := h' }) e c' dd (by decide) ⟨.ref c, H, I1, hkey, ⟨rfl, _, c, hen, hkey, rfl⟩, st', fun b hb => (hf b hb).1⟩⟩
  done := by
    intro X hP hw hK hc i pins s σ H E I hf st hg
    subst hP hw hK
    obtain ⟨hd, hi⟩ := hg
    obtain ⟨f0, f1, f2, f3, f4, f5⟩ := hf it (by simp)
    have hgd : s.heap.get? d = some o := (show ObjOk X.prog X.w H s.heap d (objO d o) from I.hok d _ hd).1
    exact next_key_end (I.ok.hd hc) st hgd hod (by simp) hi fun h' eb => ⟨rfl, I.turned (t' := s.toks) (fun b ob hb e => eb b ob hb e) f0 f1 f3 f4 f5⟩
  self := fun A i s Q E st h => by
    refine wpAny_pyIter_slot st.typeIs PySem.F.slot_dict_keyiterator_iter (wpAny_call_entry PySem.F.slot_dict_keyiterator_iter st.typeIs PySem.F.entry_dict_keyiterator_iter ?_ (PySem.F.args_dict_keyiterator_iter_1 _))
    show wpAny _ _ (ret (.ref it)) _ _ s
    exact wpAny_pure ⟨_, rfl, "dict_keyiterator", _, st.typeIs, PySem.F.slot_dict_keyiterator_next.lookup, h⟩
def iKeysD (fa : Fx) : Fa := fun env => (fa env).bind fun x => match x with
  | .dict kvs => some (kvs.map (·.1))
  | _ => none
theorem pid_dict {tg : Expr} (ha : PD X a fa) : PID X tg a (iKeysD fa) := by
  refine ⟨fun pins s σ H R' I h => ?_⟩
  obtain ⟨Hb, Hs, env, xs, R, e0, q⟩ := h
  obtain ⟨x, e1, e0⟩ := bind_some e0
  split at e0
  · rename_i kvs
    cases e0
    refine thn (ha.run pins s σ H (fun v H1 => ∃ Hs1, Gr H Hs Hs1 H1 ∧ Rv (kw X) Hs1 v (.dict kvs)) I ⟨Hb, Hs, env, _, R, e1, fun v Hs1 H1 g r1 => ⟨Hs1, g, r1⟩⟩) fun u s1 ⟨v, H1, I1, ru, Hs1, g1, r1⟩ => ?_
    cases r1 with
    | @dct d o es _ h1 h0 h5 r =>
      cases ru
      obtain ⟨hx, ep, hdat⟩ := h5
      obtain ⟨hl, hget⟩ := get_key r
      have hgd : s1.heap.get? d = some o := (show ObjOk X.prog X.w H1 s1.heap d (objO d o) from I1.hok d _ (g1.qh _ _ h1)).1
      have hk : ∀ (i : Nat) en, es[i]? = some en → ∃ c, en.key = .ref c := fun i en e => by
        have hi : i < kvs.length := by rw [← hl]; exact (List.getElem?_eq_some_iff.mp e).1
        obtain ⟨en', c, e', k', _⟩ := hget i _ (List.getElem?_eq_getElem hi)
        rw [e] at e'; cases e'
        exact ⟨c, k'⟩
      refine iter_keys h0 hgd hx hdat (pi_one (tk := s1.toks) I1 _ (turn_keysN (d := d) _ hdat hk) ⟨_, Heap.get?_push_size _ rfl, rfl, ?_⟩ (q _ Hs1 H1 g1 fun Hs2 H2 q1 q2 => ?_))
      · simp <;> rfl
      · have hd2 : H2 d = some (objO d o) := q2 _ _ (q1 _ _ h1)
        refine ⟨fun i dd e => ?_, hd2, by rw [List.length_map, hl]; exact Nat.le_refl _⟩
        rw [List.getElem?_map] at e
        cases e2 : kvs[i]? with
        | none => rw [e2] at e; cases e
        | some pq =>
          rw [e2] at e; cases e
          obtain ⟨en, c, e3, k3, r3⟩ := hget i pq e2
          refine ⟨⟨hd2, (List.getElem?_eq_some_iff.mp e3).1⟩, fun x H3 y => ?_⟩
          obtain ⟨rfl, en', c', e4, k4, rfl⟩ := y
          rw [e3] at e4; cases e4
          rw [k3] at k4; cases k4
          exact ⟨Hs2, Gr.refl q2, Rv.same q1 r3⟩
  · cases e0
end
end DL

/-! DL12: a value that is dropped. -/
namespace DL
open PySem L2
/-- an expression alone -/
def gDrop (f : Fx) : Fs := fun env => (f env).bind fun _ => some (.nx env)
theorem psd_drop {X : Cx} {e : Expr} {pos : Pos} {f : Fx} (h : PD X e f) (hs : swapsWith e none pos.line X.env = pure false := by rfl) : PSD X (.Expr e pos) (gDrop f) := ps_weak (ps_expr h hs) fun D σ H ⟨Hb, Hs, env, o, R, e, q⟩ => by
  obtain ⟨d, e1, e2⟩ := bind_some e
  cases e2
  exact ⟨Hb, Hs, env, d, R, e1, fun v Hs' H' g r => q Hs' σ H' (g.gs R.bh) (R.gr g)⟩
end DL

/-! ML1: expressions and statements that change an own dict handed down: wishes instead of functions. -/
namespace DL
open PySem L2

abbrev Fm := En → (En → PyData → Prop) → Prop
abbrev FmA := En → (En → List PyData → Prop) → Prop
def tM (K : KW) (F : Fm) : TE := fun σ H Q => ∃ Hb Hs env Qd, Rp K Hb Hs σ H env ∧ F env Qd ∧ ∀ v d env' Hs' H', Qd env' d → Gs Hb Hs Hs' → Rp K Hb Hs' σ H' env' → Rv K Hs' v d → Q v H'
def tMA (K : KW) (F : FmA) : TA := fun σ H Q => ∃ Hb Hs env Qd, Rp K Hb Hs σ H env ∧ F env Qd ∧ ∀ vs ds env' Hs' H', Qd env' ds → Gs Hb Hs Hs' → Rp K Hb Hs' σ H' env' → RvA K Hs' vs ds → Q vs H'
abbrev PM (X : Cx) (e : Expr) (F : Fm) : Prop := PE X e (tM (kw X) F)
abbrev PMA (X : Cx) (es : List Expr) (F : FmA) : Prop := PA X es (tMA (kw X) F)
section
variable {X : Cx} {e a b : Expr} {es : List Expr} {pos p : Pos} {f : Fx} {F G : Fm} {FA : FmA} {im : Nat}
/-- without a change -/
def mOf (f : Fx) : Fm := fun env Q => ∃ d, f env = some d ∧ Q env d
theorem pm_of (h : PD X e f) : PM X e (mOf f) := pe_weak h fun σ H Q ⟨Hb, Hs, env, Qd, R, ⟨d, e1, qd⟩, q⟩ =>
  ⟨Hb, Hs, env, d, R, e1, fun v Hs' H' g r => q v d env Hs' H' qd (g.gs R.bh) (R.gr g) r⟩
def mNil : FmA := fun env Q => Q env []
def mCons (F : Fm) (FA : FmA) : FmA := fun env Q => F env fun e1 x => FA e1 fun e2 xs => Q e2 (x :: xs)
theorem pma_nil : PMA X [] mNil := pa_weak pa_nil fun σ H Q ⟨Hb, Hs, env, Qd, R, h, q⟩ => q [] [] env Hs H h Gs.refl R .nil
theorem tM_cons {K : KW} {σ : L2.St} {H : Hp} {Q : List V → Hp → Prop} (h : tMA K (mCons F FA) σ H Q) : tM K F σ H fun v H1 => tMA K FA σ H1 fun vs H2 => Q (v :: vs) H2 := by
  obtain ⟨Hb, Hs, env, Qd, R, f, q⟩ := h
  exact ⟨Hb, Hs, env, _, R, f, fun v d e1 Hs1 H1 f1 g1 R1 r1 => ⟨Hb, Hs1, e1, _, R1, f1, fun vs ds e2 Hs2 H2 q2 g2 R2 r2 => q _ _ e2 Hs2 H2 q2 (g1.trans g2) R2 (.cons (Rv.same g2.qq r1) r2)⟩⟩
theorem pma_cons (h : PM X e F) (hs : PMA X es FA) (he : starEach (e :: es) X.env = (false, eval e X.env) :: starEach es X.env := by rfl) : PMA X (e :: es) (mCons F FA) := pa_weak (pa_cons h hs he) fun _ _ _ q => tM_cons q
def mB (g : G2) (F G : Fm) : Fm := fun env Q => F env fun e1 x => G e1 fun e2 y => ∃ z, g x y = some z ∧ Q e2 z
theorem tM_B {K : KW} {r : R2} {g : G2} (o : OpD K r g) {σ : L2.St} {H : Hp} {Q : VK} (h : tM K (mB g F G) σ H Q) : tOp r (tM K F) (tM K G) σ H Q := by
  obtain ⟨Hb, Hs, env, Qd, R, f, q⟩ := h
  refine ⟨Hb, Hs, env, _, R, f, fun v x e1 Hs1 H1 f1 g1 R1 r1 => ⟨Hb, Hs1, e1, _, R1, f1, fun u y e2 Hs2 H2 q2 g2 R2 r2 => ?_⟩⟩
  obtain ⟨z, ez, qz⟩ := q2
  exact o v u x y z H2 Hs2 Q R2.qh (Rv.same g2.qq r1) r2 ez fun w Hs3 H3 g3 r3 => q w z e2 Hs3 H3 qz (g1.trans (g2.trans (g3.gs R2.bh))) (R2.gr g3) r3
theorem pm_add (ha : PM X a F) (hb : PM X b G) : PM X (.BinOp a .Add b pos) (mB gAdd F G) := pe_weak (pe_op op_add3 ha hb) fun _ _ _ q => tM_B od_add q
theorem pm_ix (ha : PM X a F) (hb : PM X b G) (hs : PlainIx b := by exact fun _ _ => rfl) : PM X (.Subscript a b pos) (mB gIx F G) := pe_weak (pe_ix (IxR.or ix_list ix_tup) ha hb hs) fun _ _ _ q => tM_B od_ix q
def mTup (FA : FmA) : Fm := fun env Q => FA env fun e1 ds => ds.length ≤ 1000 ∧ Q e1 (.tuple ds)
theorem pm_tup {x1} (h : PMA X es FA) : PM X (.Tuple es x1 pos) (mTup FA) := pe_weak (pe_tup h) fun σ H Q ⟨Hb, Hs, env, Qd, R, f, q⟩ =>
  ⟨Hb, Hs, env, _, R, f, fun vs ds e1 Hs1 H1 ⟨hl, qd⟩ g1 R1 r1 => ⟨by rw [r1.len]; exact k1000 hl, fun p hp => qT R1.qh hp r1 fun w Hs2 H2 g2 r2 => q w _ e1 Hs2 H2 qd (g1.trans (g2.gs R1.bh)) (R1.gr g2) r2⟩⟩
def mTuple (F : Fm) : Fm := fun env Q => F env fun e1 x => ∃ ds, (x = .list ds ∨ x = .tuple ds) ∧ Q e1 (.tuple ds)
theorem pm_tuple (hm : X.mg "tuple" = none) (hg : Gl X "tuple") (ha : PM X a F) (na : starEach [a] X.env = (false, eval a X.env) :: starEach [] X.env := by rfl) : PM X (.Call (.Name "tuple" p) [a] [] pos) (mTuple F) := pe_weak (pe_tupleOf hg hm ha na) fun σ H Q ⟨Hb, Hs, env, Qd, R, f, q⟩ => by
  refine ⟨Hb, Hs, env, _, R, f, fun v x e1 Hs1 H1 ⟨ds, hx, qd⟩ g1 R1 r => ?_⟩
  rcases hx with rfl | rfl
  · cases r with
    | lst h1 a1 => exact .inl ⟨_, _, rfl, SqL.of (R1.qh _ _ h1), fun p hp => qT R1.qh hp a1 fun w Hs2 H2 g2 r2 => q w _ e1 Hs2 H2 qd (g1.trans (g2.gs R1.bh)) (R1.gr g2) r2⟩
  · cases r with
    | tup h1 a1 => exact .inr ⟨_, _, rfl, same_t R1.qh h1, q _ _ e1 Hs1 H1 qd g1 R1 (.tup h1 a1)⟩

/-! ### the promise of a def that changes the dict at its first argument -/
abbrev Kvs := List (Key × PyData)
abbrev FnM := Kvs → List PyData → (Kvs → PyData → Prop) → Prop
structure Back (K : KW) (Am : Addr) (Hs H Hs' H' : Hp) (kvs' : Kvs) : Prop where
  qq : Same Hs Hs'
  qh : Same Hs' H'
  hh : Same (remH H Am) H'
  out : ∀ b, Hs b = none → H b ≠ none → Hs' b = none
  dk : ∃ us', H' Am = some (.dK us') ∧ KvR K Hs' us' kvs'
def spM (K : KW) (F : FnM) : Sp := fun vs H Q _ => ∃ Am us kvs uks Hs ds Qd, vs = .ref Am :: us ∧ Same Hs H ∧ Hs Am = none ∧ H Am = some (.dK uks) ∧ KvR K Hs uks kvs ∧ RvA K Hs us ds ∧ F kvs ds Qd ∧
  ∀ v d kvs' Hs' H', Qd kvs' d → Back K Am Hs H Hs' H' kvs' → Rv K Hs' v d → Q v H'
/-- behind such a call -/
theorem Rp.back {K : KW} {Hb Hs H Hs' H' : Hp} {σ : L2.St} {env : En} {kvs kvs' : Kvs} {Am : Addr} (R : Rp K Hb Hs σ H env) (e : env[im]? = some (.ok kvs)) (hσ : σ[im]? = some (some (.ref Am))) (B : Back K Am Hs H Hs' H' kvs') : Gs Hb Hs Hs' ∧ Rp K Hb Hs' σ H' (env.set im (.ok kvs')) := by
  obtain ⟨ha, hs, hb⟩ := R.owned e rfl hσ
  have sb : Same Hb H' := fun b o h => B.hh b o (by rw [rem_ne (fun z => by rw [z, hb] at h; cases h)]; exact R.bh b o h)
  refine ⟨⟨B.qq, fun b h1 h2 => B.out b h1 fun z => h2 (R.bh.free z)⟩, B.qh, sb, by rw [List.length_set]; exact R.len, fun j c ej nc => ?_, fun j k c1 c2 b e1 e2 o1 o2 h1 h2 => ?_⟩
  · rcases set_get ej with ⟨rfl, rfl, _⟩ | ⟨hj, ej⟩
    · obtain ⟨us', d1, d2⟩ := B.dk
      exact ⟨_, hσ, Am, us', rfl, d1, B.out Am hs ha, hb, d2⟩
    · obtain ⟨v, hv, ov⟩ := R.at_ j c ej nc
      refine ⟨v, hv, ?_⟩
      have ne : c.own = true → ∀ b, v = .ref b → b ≠ Am := fun oc b eb z => by
        subst z
        rw [eb] at hv
        exact hj (R.apart j im c _ b ej e oc rfl hv hσ)
      have kp : ∀ b o, b ≠ Am → H b = some o → H' b = some o := fun b o n h => B.hh b o (by rw [rem_ne n]; exact h)
      cases c with
      | d x => exact Rv.same B.qq ov
      | no => exact True.intro
      | ol xs =>
        obtain ⟨b, vs, e1, e2, e3, e4, e5⟩ := ov
        exact ⟨b, vs, e1, kp _ _ (ne rfl b e1) e2, B.out b e3 (fun z => by rw [z] at e2; cases e2), e4, RvA.same B.qq e5⟩
      | ok xs =>
        obtain ⟨b, vs, e1, e2, e3, e4, e5⟩ := ov
        exact ⟨b, vs, e1, kp _ _ (ne rfl b e1) e2, B.out b e3 (fun z => by rw [z] at e2; cases e2), e4, e5.same B.qq⟩
      | od xs =>
        obtain ⟨b, o', vs, e1, e2, e0, e3, e4, e5, e6⟩ := ov
        exact ⟨b, o', vs, e1, kp _ _ (ne rfl b e1) e2, e0, B.out b e3 (fun z => by rw [z] at e2; cases e2), e4, e5, RvE.same B.qq e6⟩
  · have old : ∀ {n : Nat} {d : Cell}, (env.set im (.ok kvs'))[n]? = some d → d.own = true → ∃ d', env[n]? = some d' ∧ d'.own = true := fun {n d} q od => by
      rcases set_get q with ⟨rfl, _, _⟩ | ⟨_, q⟩
      · exact ⟨_, e, rfl⟩
      · exact ⟨d, q, od⟩
    obtain ⟨d1, f1, p1⟩ := old e1 o1
    obtain ⟨d2, f2, p2⟩ := old e2 o2
    exact R.apart j k d1 d2 b f1 f2 p1 p2 h1 h2
def mCall (im : Nat) (F : FnM) (FA : FmA) : Fm := fun env Q => (∃ k0, env[im]? = some (.ok k0)) ∧ FA env fun e1 ds => ∃ kvs, e1[im]? = some (.ok kvs) ∧ F kvs ds fun kvs' d => Q (e1.set im (.ok kvs')) d
theorem pm_call {j k : Nat} {x y : Str} {p2 : Pos} {Fn : FnM} (c : C8.Cal X.prog X.w X.K X.mg X.base k x (spM (kw X) Fn) []) (hr : Room j X.A) (hk : k ≤ j) (hg : Gl X x) (hx : PE X (.Name y p2) (tVar im)) (ha : PMA X es FA)
    (hdb : (x == ("__debug__" : Str)) = false := by decide) (he : starEach (.Name y p2 :: es) X.env = (false, eval (.Name y p2) X.env) :: starEach es X.env := by rfl) (hpl : (backTo pos (starEach es X.env)).any (·.1) = false := by rfl) :
    PM X (.Call (.Name x p) (.Name y p2 :: es) [] pos) (mCall im Fn FA) := pe_weak (C8.pe_c c hr hk hg (pa_cons hx ha he) hdb he hpl) fun σ H Q ⟨Hb, Hs, env, Qd, R, ⟨⟨k0, h0⟩, f⟩, q⟩ => by
  obtain ⟨Am, u0, hσ, _⟩ := R.okc h0
  refine ⟨_, hσ, Hb, Hs, env, _, R, f, fun vs ds e1 Hs1 H1 ⟨kvs, hk, fk⟩ g1 R1 r1 => ?_⟩
  obtain ⟨Am', uks, hσ', h2, h3, h4, h5⟩ := R1.okc hk
  rw [hσ] at hσ'
  cases hσ'
  refine ⟨Am, vs, kvs, uks, Hs1, ds, _, by rw [List.append_nil], R1.qh, h3, h2, h5, r1, fk, fun v d kvs' Hs' H' qd B rv => ?_⟩
  obtain ⟨g2, R2⟩ := R1.back hk hσ B
  exact q v d _ Hs' H' qd (g1.trans g2) R2 rv

/-! ### statements -/
inductive Out2 where
  | nx (env : En) | rt (env : En) (d : PyData)
abbrev Fms := En → (Out2 → Prop) → Prop
structure EndM (K : KW) (im : Nat) (Am : Addr) (Hb Hs : Hp) (D : Ends) (Qo : Out2 → Prop) : Prop where
  nx : ∀ env' Hs' σ' H', Qo (.nx env') → Gs Hb Hs Hs' → Rp K Hb Hs' σ' H' env' → σ'[im]? = some (some (.ref Am)) → D.nx σ' H'
  rt : ∀ env' d v Hs' σ' H', Qo (.rt env' d) → Gs Hb Hs Hs' → Rp K Hb Hs' σ' H' env' → σ'[im]? = some (some (.ref Am)) → Rv K Hs' v d → D.rt v H'
theorem EndM.gs {K : KW} {im : Nat} {Am : Addr} {Hb Hs Hs1 : Hp} {D : Ends} {Qo : Out2 → Prop} (g : Gs Hb Hs Hs1) (h : EndM K im Am Hb Hs D Qo) : EndM K im Am Hb Hs1 D Qo :=
  ⟨fun env' Hs' σ' H' a b c d => h.nx env' Hs' σ' H' a (g.trans b) c d, fun env' d v Hs' σ' H' a b c e r => h.rt env' d v Hs' σ' H' a (g.trans b) c e r⟩
def tSM (K : KW) (im : Nat) (G : Fms) : TS := fun D σ H => ∃ Hb Hs env Am Qo, Rp K Hb Hs σ H env ∧ σ[im]? = some (some (.ref Am)) ∧ G env Qo ∧ EndM K im Am Hb Hs D Qo
abbrev PSM (X : Cx) (im : Nat) (st : Stmt) (G : Fms) : Prop := PS X st (tSM (kw X) im G)
abbrev PSsM (X : Cx) (im : Nat) (sts : List Stmt) (G : Fms) : Prop := PSs X sts (tSM (kw X) im G)
variable {st : Stmt} {rest : List Stmt} {g g' : Fms}
def mSeq (g g' : Fms) : Fms := fun env Q => g env fun o => match o with
  | .nx e => g' e Q
  | .rt e d => Q (.rt e d)
def mNext : Fms := fun env Q => Q (.nx env)
theorem pssm_nil : PSsM X im [] mNext := pss_weak pss_nil fun D σ H ⟨Hb, Hs, env, Am, Qo, R, hσ, h, q⟩ => q.nx env Hs σ H h Gs.refl R hσ
theorem pssm_cons (h : PSM X im st g) (hs : PSsM X im rest g') : PSsM X im (st :: rest) (mSeq g g') := pss_weak (pss_cons h hs) fun D σ H ⟨Hb, Hs, env, Am, Qo, R, hσ, f, q⟩ =>
  ⟨Hb, Hs, env, Am, _, R, hσ, f, ⟨fun env' Hs' σ' H' h gs R' hσ' => ⟨Hb, Hs', env', Am, Qo, R', hσ', h, q.gs gs⟩, fun env' d v Hs' σ' H' h gs R' hσ' r => q.rt env' d v Hs' σ' H' h gs R' hσ' r⟩⟩
theorem pssm_one (h : PSM X im st g) : PSsM X im [st] g := pss_one h
def mRet (F : Fm) : Fms := fun env Q => F env fun e d => Q (.rt e d)
theorem psm_ret (h : PM X e F) : PSM X im (.Return (some e) pos) (mRet F) := ps_weak (ps_ret h) fun D σ H ⟨Hb, Hs, env, Am, Qo, R, hσ, f, q⟩ =>
  ⟨Hb, Hs, env, _, R, f, fun v d e1 Hs1 H1 h gs R1 r => q.rt e1 d v Hs1 σ H1 h gs R1 hσ r⟩
def mIf (c : Ft) (g g' : Fms) : Fms := fun env Q => ∃ b, c env = some b ∧ if b = true then g env Q else g' env Q
theorem psm_if {c : Expr} {s1 s2 : List Stmt} {fc : Ft} (hc : PDT X c fc) (ha : PSsM X im s1 g) (hb : PSsM X im s2 g') : PSM X im (.If c s1 s2 pos) (mIf fc g g') := ps_weak (ps_if hc ha hb) fun D σ H ⟨Hb, Hs, env, Am, Qo, R, hσ, ⟨b, e1, f⟩, q⟩ => by
  refine ⟨Hb, Hs, env, b, R, e1, fun Hs1 H1 gr => ?_⟩
  have gs := gr.gs R.bh
  cases b with
  | true =>
    rw [if_pos rfl] at f
    exact iteT ⟨Hb, Hs1, env, Am, Qo, R.gr gr, hσ, f, q.gs gs⟩
  | false =>
    rw [if_neg Bool.false_ne_true] at f
    exact iteF ⟨Hb, Hs1, env, Am, Qo, R.gr gr, hσ, f, q.gs gs⟩
def mSet (i : Nat) (F : Fm) : Fms := fun env Q => F env fun e d => Q (.nx (e.set i (.d d)))
theorem set_im {σ : L2.St} {i : Nat} {Am : Addr} {x : Option V} (h : σ[im]? = some (some (.ref Am))) (n : i ≠ im) : (σ.set i x)[im]? = some (some (.ref Am)) := by
  rw [List.getElem?_set_ne n]; exact h
theorem psm_set {i : Nat} {x : Str} {p : Pos} (hN : X.N.Nodup) (hi : X.N[i]? = some x) (hx : Loc X.env.scope x) (n : i ≠ im) (he : PM X e F) (hs : swapsWith e (some (.Name x p)) pos.line X.env = pure false := by rfl) (hf : X.fn x = true ∨ X.env.scope.names.lookup x = some .local := by first | exact .inl rfl | exact .inr rfl | assumption) :
    PSM X im (.Assign [.Name x p] e pos) (mSet i F) := ps_weak (ps_set hN hi hx he hs hf) fun D σ H ⟨Hb, Hs, env, Am, Qo, R, hσ, f, q⟩ =>
  ⟨Hb, Hs, env, _, R, f, fun v d e1 Hs1 H1 h gs R1 r => q.nx _ Hs1 _ H1 h gs (R1.setD r) (set_im hσ n)⟩
/-- a new own value into a slot -/
def mSetC (i : Nat) (f : Fc) : Fms := fun env Q => ∃ c, f env = some c ∧ Q (.nx (env.set i c))
theorem psm_setC {i : Nat} {x : Str} {p : Pos} {fc : Fc} (hN : X.N.Nodup) (hi : X.N[i]? = some x) (hx : Loc X.env.scope x) (n : i ≠ im) (he : PCD X e fc) (hs : swapsWith e (some (.Name x p)) pos.line X.env = pure false := by rfl) (hf : X.fn x = true ∨ X.env.scope.names.lookup x = some .local := by first | exact .inl rfl | exact .inr rfl | assumption) :
    PSM X im (.Assign [.Name x p] e pos) (mSetC i fc) := ps_weak (ps_set hN hi hx he hs hf) fun D σ H ⟨Hb, Hs, env, Am, Qo, R, hσ, ⟨c, e1, h⟩, q⟩ =>
  ⟨Hb, Hs, env, c, R, e1, fun v Hs1 H1 g n1 => q.nx _ Hs1 _ H1 h (g.gs R.bh) (R.setN g n1) (set_im hσ n)⟩
/-- a, b = two new values -/
def mParC (i j : Nat) (f f' : Fc) : Fms := fun env Q => ∃ c c', f env = some c ∧ f' env = some c' ∧ Q (.nx ((env.set i c).set j c'))
theorem psm_parC {i j : Nat} {x y : Str} {fc fc' : Fc} {px py pt : Pos} {kt k2 pt2} (hc : X.calm = true) (hN : X.N.Nodup) (hi : X.N[i]? = some x) (hj : X.N[j]? = some y) (hij : i ≠ j) (ni : i ≠ im) (nj : j ≠ im)
    (hx : X.env.scope.names.lookup x = some .local) (hy : X.env.scope.names.lookup y = some .local) (ha : PCD X a fc) (hb : PCD X b fc')
    (hw : swappedStores [.Tuple [.Name x px, .Name y py] kt pt] (.Tuple [a, b] k2 pt2) X.env = pure (some [x, y])) (he : starEach [a, b] X.env = (false, eval a X.env) :: starEach [b] X.env := by rfl) (he2 : starEach [b] X.env = [(false, eval b X.env)] := by rfl)
    (hs : swapsWithSole [.Tuple [.Name x px, .Name y py] kt pt] (.Tuple [a, b] k2 pt2) pos.line X.env = pure false := by rfl) :
    PSM X im (.Assign [.Tuple [.Name x px, .Name y py] kt pt] (.Tuple [a, b] k2 pt2) pos) (mParC i j fc fc') :=
  ps_weak (ps_par hc hN hi hj hij hx hy (pa_cons ha (pa_cons hb pa_nil he2) he) hw hs) fun D σ H ⟨Hb, Hs, env, Am, Qo, R, hσ, ⟨c, c', e1, e2, h⟩, q⟩ =>
    ⟨Hb, Hs, env, c, R, e1, fun v Hs1 H1 g1 n1 => ⟨Hb, Hs1, env, c', R.gr g1, e2, fun w Hs2 H2 g2 n2 => ⟨v, w, rfl, q.nx _ Hs2 _ H2 h ((g1.trans g2).gs R.bh) (R.set2 g1 n1 g2 n2) (set_im (set_im hσ ni) nj)⟩⟩⟩
/-- a, b = two values, with changes -/
def mPar (i j : Nat) (F G : Fm) : Fms := fun env Q => F env fun e1 x => G e1 fun e2 y => Q (.nx ((e2.set i (.d x)).set j (.d y)))
theorem psm_par {i j : Nat} {x y : Str} {px py pt : Pos} {kt k2 pt2} (hc : X.calm = true) (hN : X.N.Nodup) (hi : X.N[i]? = some x) (hj : X.N[j]? = some y) (hij : i ≠ j) (ni : i ≠ im) (nj : j ≠ im)
    (hx : X.env.scope.names.lookup x = some .local) (hy : X.env.scope.names.lookup y = some .local) (ha : PM X a F) (hb : PM X b G)
    (hw : swappedStores [.Tuple [.Name x px, .Name y py] kt pt] (.Tuple [a, b] k2 pt2) X.env = pure (some [x, y])) (he : starEach [a, b] X.env = (false, eval a X.env) :: starEach [b] X.env := by rfl) (he2 : starEach [b] X.env = [(false, eval b X.env)] := by rfl)
    (hs : swapsWithSole [.Tuple [.Name x px, .Name y py] kt pt] (.Tuple [a, b] k2 pt2) pos.line X.env = pure false := by rfl) :
    PSM X im (.Assign [.Tuple [.Name x px, .Name y py] kt pt] (.Tuple [a, b] k2 pt2) pos) (mPar i j F G) :=
  ps_weak (ps_par hc hN hi hj hij hx hy (pa_cons ha (pa_cons hb pa_nil he2) he) hw hs) fun D σ H ⟨Hb, Hs, env, Am, Qo, R, hσ, f, q⟩ =>
    ⟨Hb, Hs, env, _, R, f, fun v x e1 Hs1 H1 f1 g1 R1 r1 => ⟨Hb, Hs1, e1, _, R1, f1, fun u y e2 Hs2 H2 h g2 R2 r2 => ⟨v, u, rfl, q.nx _ Hs2 _ H2 h (g1.trans g2) ((R2.setD (Rv.same g2.qq r1)).setD r2) (set_im (set_im hσ ni) nj)⟩⟩⟩
/-- xs.append(e), with changes -/
def mApp (i : Nat) (F : Fm) : Fms := fun env Q => (∃ x0, env[i]? = some (.ol x0)) ∧ F env fun e1 d => ∃ xs, e1[i]? = some (.ol xs) ∧ xs.length < line ∧ Q (.nx (e1.set i (.ol (xs ++ [d]))))
theorem psm_app {i : Nat} {x : Str} {apos : Pos} (hx : PE X (.Name x p) (tVar i)) (ha : PM X a F) (he : starEach [a] X.env = [(false, eval a X.env)] := by rfl)
    (hs : swapsWith (.Call (.Attribute (.Name x p) "append" apos) [a] [] pos) none pos.line X.env = pure false := by rfl)
    (hb : PE X (.Call (.Attribute (.Name x p) "append" apos) [a] [] pos) (tBM X.K "list" rAppend (tVar i) (tCons (tM (kw X) F) tNil))) : PSM X im (.Expr (.Call (.Attribute (.Name x p) "append" apos) [a] [] pos) pos) (mApp i F) :=
  ps_weak (ps_expr hb hs) fun D σ H ⟨Hb, Hs, env, Am, Qo, R, hσ, ⟨⟨x0, h0⟩, f⟩, q⟩ => by
    obtain ⟨b, vs0, h1, h2, _⟩ := R.ol h0
    refine ⟨_, h1, .inl ⟨rfl, vs0, SqL.of h2⟩, Hb, Hs, env, _, R, f, fun v d e1 Hs1 H1 ⟨xs, ex, hl, hq⟩ gs R1 rv => ?_⟩
    obtain ⟨b', vs, h1', h2', h3, h4, r⟩ := R1.ol ex
    rw [h1] at h1'
    cases h1'
    exact ⟨b, vs, v, rfl, rfl, h2', line_lt (by rw [r.len]; omega), q.nx _ Hs1 σ _ hq gs (R1.mut ex rfl rfl h1 ⟨b, vs ++ [v], rfl, upd_same, h3, h4, r.app (.one rv)⟩) hσ⟩
end
end DL

/-! ML2: loops, comprehensions, bodies of defs. -/
namespace DL
open PySem L2
abbrev FmI := En → (En → List PyData → Prop) → Prop
def tIM (K : KW) (FI : FmI) : TI := fun σ H R => ∃ Hb Hs env Qx, Rp K Hb Hs σ H env ∧ FI env Qx ∧ ∀ J xs env' Hs' H', Qx env' xs → Gs Hb Hs Hs' → Rp K Hb Hs' σ H' env' → ItOk K Hs' J xs → R J H'
abbrev PIM (X : Cx) (tg iter : Expr) (FI : FmI) : Prop := PI X tg iter (tIM (kw X) FI)
section
variable {X : Cx} {e a b tg iter : Expr} {es : List Expr} {pos p : Pos} {f : Fx} {F G : Fm} {FA : FmA} {FI : FmI} {im : Nat} {g g' : Fms}
theorem it_range {K : KW} {Hs : Hp} (n : Int) : ItOk K Hs (Itr 0 n.toNat) (upTo n.toNat) := fun Hs2 H2 s1 s2 => by
  have w := walk_range (lo := 0) (n := n.toNat)
  have hl : (upTo n.toNat).length = n.toNat := by unfold upTo; rw [List.length_map, List.length_range]
  refine ⟨fun i d e => ?_, by rw [hl]; exact w.stops H2 trivial⟩
  have hi : i < n.toNat := by rw [← hl]; exact (List.getElem?_eq_some_iff.mp e).1
  refine ⟨w.goes i H2 hi trivial, fun x H3 y => ?_⟩
  obtain ⟨rfl, rfl⟩ := w.yields i H2 x H3 hi trivial y
  have e3 : d = .int (i : Nat) := by
    unfold upTo at e
    rw [List.getElem?_map, List.getElem?_range hi] at e
    exact (Option.some.inj e).symm
  subst e3
  refine ⟨Hs2, Gr.refl s2, ?_⟩
  show Rv K Hs2 (.int (0 + (i : Int))) (.int (i : Int))
  rw [Int.zero_add]
  exact .int _
def mRange (F : Fm) : FmI := fun env Q => F env fun e x => ∃ n : Int, x = .int n ∧ -(2 ^ 62) ≤ n ∧ n < 2 ^ 62 ∧ Q e (upTo n.toNat)
theorem pim_range (hm : X.mg "range" = none) (hg : Gl X "range") (h : PM X a F) (hs : starEach [a] X.env = [(false, eval a X.env)] := by rfl) : PIM X tg (.Call (.Name "range" p) [a] [] pos) (mRange F) :=
  pi_weak (pi_range1 hg hm (pma_cons h pma_nil hs) hs) fun σ H R' ⟨Hb, Hs, env, Qx, R, f, q⟩ => by
    refine ⟨Hb, Hs, env, fun e1 ds => (match ds with
      | [x] => ∃ n : Int, x = .int n ∧ -(2 ^ 62) ≤ n ∧ n < 2 ^ 62 ∧ Qx e1 (upTo n.toNat)
      | _ => False), R, f, fun vs ds e1 Hs1 H1 hq g1 R1 r1 => ?_⟩
    simp only at hq
    split at hq
    · obtain ⟨n, hx, h1, h2, qx⟩ := hq
      subst hx
      cases r1 with
      | cons r1 r2 =>
        cases r1; cases r2
        exact ⟨n, rfl, h1, h2, q _ _ e1 Hs1 H1 qx g1 R1 (it_range n)⟩
    · exact hq.elim
def mIt (fx : Fa) : FmI := fun env Q => ∃ xs, fx env = some xs ∧ Q env xs
theorem pim_of {fx : Fa} (h : PID X tg iter fx) : PIM X tg iter (mIt fx) := pi_weak h fun σ H R' ⟨Hb, Hs, env, Qx, R, ⟨xs, e1, h1⟩, q⟩ =>
  ⟨Hb, Hs, env, xs, R, e1, fun J Hs1 H1 g1 it => q J xs env Hs1 H1 h1 (g1.gs R.bh) (R.gr g1) it⟩
/-- for x in xs -/
def forM (i : Nat) (g : Fms) : List PyData → En → (Out2 → Prop) → Prop
  | [], e, Q => Q (.nx e)
  | x :: xs, e, Q => g (e.set i (.d x)) fun o => match o with
    | .nx e2 => forM i g xs e2 Q
    | .rt e2 d => Q (.rt e2 d)
def mFor (FI : FmI) (i : Nat) (g : Fms) : Fms := fun env Q => FI env fun e xs => forM i g xs e Q
theorem tSM_for {K : KW} {i : Nat} (n : i ≠ im) {D : Ends} {σ : L2.St} {H : Hp} (h : tSM K im (mFor FI i g) D σ H) : tFor (tIM K FI) (gName i) (tSM K im g) D σ H := by
  obtain ⟨Hb, Hs, env, Am, Qo, R, hσ, f, q⟩ := h
  refine ⟨Hb, Hs, env, _, R, f, fun J xs e0 Hs1 H1 f1 g1 R1 it => ?_⟩
  refine ⟨fun i' m σ2 H2 => ∃ Hs2 en, m = xs.length - i' ∧ i' ≤ xs.length ∧ Gs Hb Hs1 Hs2 ∧ Rp K Hb Hs2 σ2 H2 en ∧ σ2[im]? = some (some (.ref Am)) ∧ forM i g (xs.drop i') en Qo, ⟨xs.length, Hs1, e0, by simp, Nat.zero_le _, Gs.refl, R1, hσ, f1⟩, ?_⟩
  rintro i' m σ2 H2 ⟨Hs2, en, rfl, hi, gs2, R2, hσ2, eg⟩
  have it2 := it Hs2 H2 gs2.qq R2.qh
  by_cases hlt : i' < xs.length
  · refine .inr ?_
    have ex : xs[i']? = some xs[i'] := List.getElem?_eq_getElem hlt
    obtain ⟨go, yl⟩ := it2.1 i' xs[i'] ex
    refine ⟨go, fun σ' H' => ∃ Hs2 en, Gs Hb Hs1 Hs2 ∧ Rp K Hb Hs2 σ' H' en ∧ σ'[im]? = some (some (.ref Am)) ∧ forM i g (xs.drop (i' + 1)) en Qo, fun σ' H' ⟨Hs', en', a1, a2, a3, a4⟩ => ⟨xs.length - (i' + 1), by omega, Hs', en', rfl, hlt, a1, a2, a3, a4⟩, fun x H3 y => ?_⟩
    obtain ⟨Hs3, g3, rx⟩ := yl x H3 y
    rw [List.drop_eq_getElem_cons hlt] at eg
    have gs3 := gs2.trans (g3.gs R2.bh)
    refine ⟨Hb, Hs3, en.set i (.d xs[i']), Am, _, (R2.gr g3).setD rx, set_im hσ2 n, eg, ⟨fun en2 Hs4 σ4 H4 h4 gs4 R4 hσ4 => ⟨Hs4, en2, gs3.trans gs4, R4, hσ4, h4⟩, fun en2 d v Hs4 σ4 H4 h4 gs4 R4 hσ4 r => ?_⟩⟩
    exact q.rt en2 d v Hs4 σ4 H4 h4 (g1.trans (gs3.trans gs4)) R4 hσ4 r
  · have e4 : i' = xs.length := by omega
    subst e4
    rw [List.drop_length] at eg
    exact .inl ⟨it2.2, q.nx en Hs2 σ2 H2 eg (g1.trans gs2) R2 hσ2⟩
theorem psm_for {i : Nat} {x : Str} {body : List Stmt} (hp : PassesOwn (model X.prog X.w) X.A X.env X.xe) (hc : X.calm = true) (hN : X.N.Nodup) (hi : X.N[i]? = some x) (hx : Loc X.env.scope x) (n : i ≠ im) (h : PIM X (.Name x p) iter FI) (hb : PSsM X im body g) (hs : ∀ x, foldedSetIterable iter X.env x = pure x := by intro _; rfl)
    (hf : X.fn x = true ∨ X.env.scope.names.lookup x = some .local := by first | exact .inl rfl | exact .inr rfl | assumption) :
    PSM X im (.For (.Name x p) iter body [] pos) (mFor FI i g) := ps_weak (ps_for hp hc h (pg_name hN hi hx hf) hb hs) fun _ _ _ q => tSM_for n q
/-- [elt for x in xs], with changes; the slots vs are free -/
def lcM (i : Nat) (vs : List Nat) (F : Fm) : List PyData → List PyData → En → (En → List PyData → Prop) → Prop
  | [], acc, e, Q => Q e acc
  | x :: xs, acc, e, Q => wipeE e vs = e ∧ F (e.set i (.d x)) fun e2 d => lcM i vs F xs (acc ++ [d]) (wipeE e2 vs) Q
def mLc (FI : FmI) (vs : List Nat) (i : Nat) (F : Fm) : Fm := fun env Q => FI env fun e xs => xs.length ≤ line ∧ lcM i vs F xs [] e fun e2 ds => Q e2 (.list ds)
theorem Rp.unwipe {K : KW} {Hb Hs H : Hp} {σ : L2.St} {env : En} {vs : List Nat} (R : Rp K Hb Hs (L2.wipe σ vs) H (wipeE env vs)) : Rp K Hb Hs σ H (wipeE env vs) := by
  have key : ∀ {i : Nat} {c : Cell}, (wipeE env vs)[i]? = some c → c ≠ .no → (L2.wipe σ vs)[i]? = σ[i]? := fun {i c} e n => by
    obtain ⟨_, h⟩ := wipeE_some n e
    rw [wipe_get, if_neg h]
  refine ⟨R.qh, R.bh, by rw [← R.len, wipe_length], fun i c e n => ?_, fun i j c c' a e1 e2 o1 o2 h1 h2 => ?_⟩
  · obtain ⟨v, h1, h2⟩ := R.at_ i c e n
    exact ⟨v, by rw [← key e n]; exact h1, h2⟩
  · exact R.apart i j c c' a e1 e2 o1 o2 (by rw [key e1 (fun z => by subst z; cases o1)]; exact h1) (by rw [key e2 (fun z => by subst z; cases o2)]; exact h2)
theorem Rp.adopt {K : KW} {Hb Hs H : Hp} {σ : L2.St} {env : En} {D : Addr} {o : HO} (R : Rp K Hb Hs σ (remH H D) env) (h : H D = some o) (hb : Hb D = none) : Gs Hb Hs (upd Hs D o) ∧ Rp K Hb (upd Hs D o) σ H env := by
  have hs : Hs D = none := rem_none R.qh
  refine ⟨⟨same_upd hs, fun b h1 h2 => by rw [upd_ne (fun z => h2 (by rw [z]; exact hb))]; exact h1⟩, fun b u e => ?_, R.bh.trans (rem_same H D), R.len, fun i c e n => ?_, R.apart⟩
  · by_cases z : b = D
    · subst z; rw [upd_same] at e; rw [h]; exact e
    · rw [upd_ne z] at e; exact rem_same H D b u (R.qh b u e)
  · obtain ⟨v, h1, h2⟩ := R.at_ i c e n
    refine ⟨v, h1, ?_⟩
    have ne : ∀ {a : Addr} {u : HO}, remH H D a = some u → a ≠ D := fun {a u} q z => by rw [z, rem_at] at q; cases q
    cases c with
    | d x => exact Rv.same (same_upd hs) h2
    | no => exact True.intro
    | ol xs =>
      obtain ⟨a, vs, e1, e2, e3, e4, e5⟩ := h2
      exact ⟨a, vs, e1, rem_same H D _ _ e2, by rw [upd_ne (ne e2)]; exact e3, e4, RvA.same (same_upd hs) e5⟩
    | ok kvs =>
      obtain ⟨a, vs, e1, e2, e3, e4, e5⟩ := h2
      exact ⟨a, vs, e1, rem_same H D _ _ e2, by rw [upd_ne (ne e2)]; exact e3, e4, e5.same (same_upd hs)⟩
    | od kvs =>
      obtain ⟨a, ob, vs, e1, e2, e0, e3, e4, e5, e6⟩ := h2
      exact ⟨a, ob, vs, e1, rem_same H D _ _ e2, e0, by rw [upd_ne (ne e2)]; exact e3, e4, e5, RvE.same (same_upd hs) e6⟩
theorem Gs.unguard {Hb Hs Hs' : Hp} {D : Addr} {o : HO} (g : Gs (upd Hb D o) Hs Hs') : Gs Hb Hs Hs' := ⟨g.qq, fun b h1 h2 => g.out b h1 (by
  by_cases z : b = D
  · rw [z, upd_same]; exact fun z => nomatch z
  · rw [upd_ne z]; exact h2)⟩
theorem tM_lc {K : KW} {i : Nat} {vs : List Nat} (hv : i ∈ vs) {σ : L2.St} {H : Hp} {Q : VK} (h : tM K (mLc FI vs i F) σ H Q) : tLc (tIM K FI) (gName i) tYes (tM K F) vs σ H Q := by
  obtain ⟨Hb, Hs, env, Qd, R, f, q⟩ := h
  refine ⟨Hb, Hs, env, _, R, f, fun J xs e0 Hs1 H1 ⟨hl, f1⟩ g1 R1 it D hD => ?_⟩
  have hb : Hb D = none := R1.bh.free hD
  refine ⟨fun i' m H2 => ∃ (Hs2 : Hp) (en : En) (acc : List V) (accd : List PyData), m = xs.length - i' ∧ i' ≤ xs.length ∧ H2 D = some (.lst acc) ∧ Gs Hb Hs1 Hs2 ∧ Rp K Hb Hs2 σ (remH H2 D) en ∧ RvA K Hs2 acc accd ∧ acc.length ≤ i' ∧ lcM i vs F (xs.drop i') accd en fun e2 ds => Qd e2 (.list ds),
    ⟨xs.length, Hs1, e0, [], [], by simp, Nat.zero_le _, upd_same, Gs.refl, by rw [rem_upd, rem_free hD]; exact R1, .nil, Nat.zero_le _, f1⟩, ?_⟩
  rintro i' m H2 ⟨Hs2, en, acc, accd, rfl, hi, hD2, gs2, R2, ra, hacc, eg⟩
  have s2 : Same Hs2 H2 := R2.qh.trans (rem_same H2 D)
  have it2 := it Hs2 H2 gs2.qq s2
  by_cases hlt : i' < xs.length
  · refine .inr ?_
    have ex : xs[i']? = some xs[i'] := List.getElem?_eq_getElem hlt
    obtain ⟨go, yl⟩ := it2.1 i' xs[i'] ex
    refine ⟨go, fun H' => ∃ (Hs2 : Hp) (en : En) (acc : List V) (accd : List PyData), H' D = some (.lst acc) ∧ Gs Hb Hs1 Hs2 ∧ Rp K Hb Hs2 σ (remH H' D) en ∧ RvA K Hs2 acc accd ∧ acc.length ≤ i' + 1 ∧ lcM i vs F (xs.drop (i' + 1)) accd en fun e2 ds => Qd e2 (.list ds),
      fun H' ⟨Hs', en', acc', accd', a1, a2, a3, a4, a5, a6⟩ => ⟨xs.length - (i' + 1), by omega, Hs', en', acc', accd', rfl, hlt, a1, a2, a3, a4, a5, a6⟩, fun x H3 y => ?_⟩
    obtain ⟨Hs3, g3, rx⟩ := yl x H3 y
    rw [List.drop_eq_getElem_cons hlt] at eg
    obtain ⟨ew, eg⟩ := eg
    have R3 : Rp K (upd Hb D (.lst acc)) Hs3 σ H3 en := (R2.guard hD2).gr g3
    have gsg := g3.gs (R2.guard hD2).bh
    have Rw := R3.wipe vs
    rw [ew] at Rw
    refine ⟨by rw [wipe_set _ hv, wipe_wipe], ?_⟩
    unfold tYes
    simp only
    rw [if_pos trivial]
    refine ⟨upd Hb D (.lst acc), Hs3, en.set i (.d xs[i']), _, Rw.setD rx, eg, fun v d e4 Hs4 H4 h4 g4 R4 rv => ?_⟩
    have gg := gsg.trans g4
    have hs2 : Hs2 D = none := rem_none R2.qh
    have hs4 : Hs4 D = none := gg.out D hs2 (by rw [upd_same]; exact fun z => nomatch z)
    have hd4 : H4 D = some (.lst acc) := R4.bh D _ upd_same
    refine ⟨acc, hd4, line_lt (by omega), Hs4, wipeE e4 vs, acc ++ [v], accd ++ [d], upd_same, gs2.trans gg.unguard, ?_, (RvA.same gg.qq ra).app (.one rv), by rw [List.length_append, List.length_singleton]; omega, h4⟩
    rw [rem_upd]
    have R5 := R4.wipe vs
    rw [wipe_set _ hv, wipe_wipe] at R5
    exact (R5.unwipe).unguard hb hs4
  · have e4 : i' = xs.length := by omega
    subst e4
    rw [List.drop_length] at eg
    obtain ⟨g5, R5⟩ := R2.adopt hD2 hb
    have hs2 : Hs2 D = none := rem_none R2.qh
    exact .inl ⟨it2.2, q _ _ en _ H2 eg (g1.trans (gs2.trans g5)) R5 (.lst upd_same (RvA.same (same_upd hs2) ra))⟩
theorem pm_lc {elt : Expr} {scope : Scope} {own : List (Str × Nat)} {i : Nat} (hc : X.calm = true) (hN : X.N.Nodup) (hv : i ∈ own.map (·.2)) (hi : PIM X tg iter FI) (ok : BlkOk X.N X.env.scope scope own)
    (hg : ∀ (s : Shared) (H : Hp) (C : Addr) (cl : List (Str × Addr)) (fp : List Addr), PG (X.blk s H scope (compEnvC scope cl C X.env) fp) tg (gName i))
    (he : ∀ (s : Shared) (H : Hp) (C : Addr) (cl : List (Str × Addr)) (fp : List Addr), PM (X.blk s H scope (compEnvC scope cl C X.env) fp) elt F) (hs : ∀ x, foldedSetIterable iter X.env x = pure x := by intro _; rfl) :
    PM X (.ListComp elt [⟨tg, iter, [], 0⟩] scope pos) (mLc FI (own.map (·.2)) i F) :=
  pe_weak (pe_lc hc hN hi ok hg (fun _ _ _ _ _ => pts_nil) he hs) fun _ _ _ q => tM_lc hv q
end
end DL

/-! ML3: numbers, the dict's entries, pop, while, bodies of defs. -/
namespace DL
open PySem L2
/-! ### numbers -/
def gMulZ : G2
  | .int i, .int j => if (-(2 ^ 64) < i ∧ i < 2 ^ 64) ∨ (-(2 ^ 64) < j ∧ j < 2 ^ 64) then some (.int (i * j)) else none
  | _, _ => none
def gDivZ : G2
  | .int i, .int j => if 0 < j ∧ j < 1073741824 then some (.int (i / j)) else none
  | _, _ => none
def gModZ : G2
  | .int i, .int j => if 0 < j then some (.int (i % j)) else none
  | _, _ => none
theorem od_rI {K : KW} {C : Int → Int → Prop} {f : Int → Int → Int} {g : G2} (hg : ∀ x y d, g x y = some d → ∃ i j, x = .int i ∧ y = .int j ∧ C i j ∧ d = .int (f i j)) : OpD K (rI C fun i j => .int (f i j)) g := fun v u x y d H Hs Q s r1 r2 e q => by
  obtain ⟨i, j, rfl, rfl, c, rfl⟩ := hg x y d e
  cases r1; cases r2
  exact ⟨i, j, rfl, rfl, c, q _ Hs H (Gr.refl s) (.int _)⟩
theorem od_mulZ {K : KW} : OpD K (rI CMul fun i j => .int (i * j)) gMulZ := od_rI fun x y d e => by
  unfold gMulZ at e
  split at e
  · split at e
    · rename_i h; cases e; exact ⟨_, _, rfl, rfl, h, rfl⟩
    · cases e
  · cases e
theorem od_divZ {K : KW} : OpD K (rI CDiv fun i j => .int (i / j)) gDivZ := od_rI fun x y d e => by
  unfold gDivZ at e
  split at e
  · split at e
    · rename_i h; cases e; exact ⟨_, _, rfl, rfl, h, rfl⟩
    · cases e
  · cases e
theorem od_modZ {K : KW} : OpD K (rI (fun _ j => 0 < j) fun i j => .int (i % j)) gModZ := od_rI fun x y d e => by
  unfold gModZ at e
  split at e
  · split at e
    · rename_i h; cases e; exact ⟨_, _, rfl, rfl, h, rfl⟩
    · cases e
  · cases e
section
variable {X : Cx} {e a b tg iter : Expr} {es : List Expr} {pos p : Pos} {f fa fb : Fx} {F G : Fm} {FA : FmA} {FI : FmI} {im : Nat} {g g' : Fms}
theorem pd_mulZ (ha : PD X a fa) (hb : PD X b fb) : PD X (.BinOp a .Mult b pos) (eB gMulZ fa fb) := pd_bin op_mul od_mulZ ha hb
theorem pd_divZ (ha : PD X a fa) (hb : PD X b fb) : PD X (.BinOp a .FloorDiv b pos) (eB gDivZ fa fb) := pd_bin op_fdiv od_divZ ha hb
theorem pd_modZ (ha : PD X a fa) (hb : PD X b fb) : PD X (.BinOp a .Mod b pos) (eB gModZ fa fb) := pd_bin op_mod od_modZ ha hb
/-- d[k], d a slot's own dict -/
def eIxK (i : Nat) (fk : Fx) : Fx := fun env => (fk env).bind fun y => (keyOf y).bind fun k => match env[i]? with
  | some (.ok kvs) => valP kvs k
  | _ => none
theorem pd_ixk {i k : Nat} {x : Str} (hr : Room k X.A) (hx : PE X (.Name x p) (tVar i)) (ha : PD X a fa) (hs : NoSl a := by exact fun _ _ => rfl) : PD X (.Subscript (.Name x p) a pos) (eIxK i fa) := pe_weak (pe_dget (room_1 hr) hx ha hs) fun σ H Q ⟨Hb, Hs, env, d, R, e, q⟩ => by
  obtain ⟨y, e1, e⟩ := bind_some e
  obtain ⟨ky, e2, e⟩ := bind_some e
  split at e
  · rename_i kvs ex
    obtain ⟨c, us, h1, h2, h3, h4, r⟩ := R.okc ex
    refine ⟨_, h1, Hb, Hs, env, y, R, e1, fun v Hs1 H1 g rv => ?_⟩
    have rk := (r.same g.qq).val ky
    rw [e] at rk
    cases h5 : valV us ky with
    | none => rw [h5] at rk; exact rk.elim
    | some v5 =>
      rw [h5] at rk
      refine ⟨c, v5, rfl, ?_, q v5 Hs1 H1 g rk⟩
      rw [keyOf_rv rv e2, ← h5]
      exact DGet.k (g.hh _ _ h2)
  · cases e
/-- d[k] = v, d the own dict of the slot im -/
def mPutK (fk fv : Fx) (im : Nat) : Fms := fun env Q => ∃ x y k kvs, fv env = some x ∧ fk env = some y ∧ keyOf y = some k ∧ env[im]? = some (.ok kvs) ∧ kvs.length < line ∧ Q (.nx (env.set im (.ok (putP kvs k x))))
theorem psm_putK {k : Nat} {x : Str} {px : Pos} (hr : Room k X.A) (hx : PE X (.Name x p) (tVar im)) (ha : PD X a fa) (hb : PD X b fb) (hs : swapsWith b (some (.Subscript (.Name x p) a px)) pos.line X.env = pure false := by rfl) :
    PSM X im (.Assign [.Subscript (.Name x p) a px] b pos) (mPutK fa fb im) := ps_weak (ps_dput (room_1 hr) hx ha hb hs) fun D σ H ⟨Hb, Hs, env, Am, Qo, R, hσ, ⟨z, y, ky, kvs, e2, e1, e3, ex, hl, hq⟩, q⟩ => by
  obtain ⟨c, us, h1, h2, h3, h4, r⟩ := R.okc ex
  refine ⟨Hb, Hs, env, z, R, e2, fun w Hs1 H1 g1 r1 => ⟨_, h1, Hb, Hs1, env, y, R.gr g1, e1, fun v Hs2 H2 g2 r2 => ?_⟩⟩
  have gg := g1.trans g2
  have hc := gg.hh _ _ h2
  rw [keyOf_rv r2 e3]
  refine ⟨c, _, rfl, DPut.k hc (line_lt (by rw [r.len]; omega)), ?_⟩
  refine q.nx _ Hs2 σ _ hq (gg.gs R.bh) ((R.gr gg).mut ex rfl rfl h1 ⟨c, _, rfl, upd_same, ?_, h4, (r.same gg.qq).put ky (Rv.same g2.qq r1)⟩) hσ
  exact gg.out c h3 (fun z => by rw [h2] at z; cases z)
/-- while -/
def mWhile (c : Ft) (g : Fms) : Nat → Fms
  | 0 => fun _ _ => False
  | n + 1 => fun env Q => ∃ b, c env = some b ∧ if b = true then g env fun o => match o with
      | .nx e => mWhile c g n e Q
      | .rt e d => Q (.rt e d)
    else Q (.nx env)
theorem tSM_while {K : KW} {c : Ft} {n : Nat} {D : Ends} {σ : L2.St} {H : Hp} (h : tSM K im (mWhile c g n) D σ H) : tWhile (tDT K c) (tSM K im g) D σ H := by
  obtain ⟨Hb, Hs, env, Am, Qo, R, hσ, f, q⟩ := h
  refine ⟨fun m σ2 H2 => ∃ Hs2 en, Gs Hb Hs Hs2 ∧ Rp K Hb Hs2 σ2 H2 en ∧ σ2[im]? = some (some (.ref Am)) ∧ mWhile c g m en Qo, ⟨n, Hs, env, Gs.refl, R, hσ, f⟩, ?_⟩
  rintro m σ2 H2 ⟨Hs2, en, gs2, R2, hσ2, eg⟩
  cases m with
  | zero => exact eg.elim
  | succ m =>
    obtain ⟨b, eb, eg⟩ := eg
    refine ⟨Hb, Hs2, en, b, R2, eb, fun Hs3 H3 g3 => ?_⟩
    have gs3 := gs2.trans (g3.gs R2.bh)
    cases b with
    | true =>
      rw [if_pos rfl] at eg
      exact iteT ⟨fun σ' H' => ∃ Hs2 en, Gs Hb Hs Hs2 ∧ Rp K Hb Hs2 σ' H' en ∧ σ'[im]? = some (some (.ref Am)) ∧ mWhile c g m en Qo, fun σ' H' h' => ⟨m, Nat.lt_succ_self m, h'⟩, Hb, Hs3, en, Am, _, R2.gr g3, hσ2, eg,
        ⟨fun en2 Hs4 σ4 H4 h4 gs4 R4 hσ4 => ⟨Hs4, en2, gs3.trans gs4, R4, hσ4, h4⟩, fun en2 d v Hs4 σ4 H4 h4 gs4 R4 hσ4 r => q.rt en2 d v Hs4 σ4 H4 h4 (gs3.trans gs4) R4 hσ4 r⟩⟩
    | false =>
      rw [if_neg Bool.false_ne_true] at eg
      exact iteF (q.nx en Hs3 σ2 H3 eg gs3 (R2.gr g3) hσ2)
theorem psm_while {c : Expr} {body : List Stmt} {fc : Ft} (n : Nat) (hp : PassesOwn (model X.prog X.w) X.A X.env X.xe) (hc : PDT X c fc) (hb : PSsM X im body g) : PSM X im (.While c body [] pos) (mWhile fc g n) := ps_weak (ps_while hp hc hb) fun _ _ _ q => tSM_while q
/-- xs.pop(i), xs a slot's own list -/
def mPop (i : Nat) (F : Fm) : Fm := fun env Q => (∃ x0, env[i]? = some (.ol x0)) ∧ F env fun e1 d => ∃ xs k y, e1[i]? = some (.ol xs) ∧ d = .int (k : Nat) ∧ k < 2 ^ 62 ∧ xs[k]? = some y ∧ Q (e1.set i (.ol (xs.eraseIdx k))) y
theorem RvA.erase {K : KW} {H : Hp} : ∀ {vs : List V} {ds : List PyData} (k : Nat), RvA K H vs ds → RvA K H (vs.eraseIdx k) (ds.eraseIdx k)
  | _, _, _, .nil => .nil
  | _, _, 0, .cons h t => t
  | _, _, k + 1, .cons h t => .cons h (RvA.erase k t)
theorem pm_pop {i : Nat} {x : Str} {apos : Pos} (ha : PM X a F)
    (hb : PE X (.Call (.Attribute (.Name x p) "pop" apos) [a] [] pos) (tBM X.K "list" rPopAt (tVar i) (tCons (tM (kw X) F) tNil))) : PM X (.Call (.Attribute (.Name x p) "pop" apos) [a] [] pos) (mPop i F) :=
  pe_weak hb fun σ H Q ⟨Hb, Hs, env, Qd, R, ⟨⟨x0, h0⟩, f⟩, q⟩ => by
    obtain ⟨b, vs0, h1, h2, _⟩ := R.ol h0
    refine ⟨_, h1, .inl ⟨rfl, vs0, SqL.of h2⟩, Hb, Hs, env, _, R, f, fun v d e1 Hs1 H1 ⟨xs, k, y, ex, hd, hk, hy, hq⟩ gs R1 rv => ?_⟩
    obtain ⟨b', vs, h1', h2', h3, h4, r⟩ := R1.ol ex
    rw [h1] at h1'
    cases h1'
    subst hd
    cases rv
    obtain ⟨vy, hvy, ry⟩ := r.get hy
    have hkl : k < vs.length := (List.getElem?_eq_some_iff.mp hvy).1
    refine ⟨b, vs, k, k, vy, rfl, rfl, h2', by omega, by omega, ?_, hvy, q vy y _ Hs1 _ hq gs (R1.mut ex rfl rfl h1 ⟨b, vs.eraseIdx k, rfl, upd_same, h3, h4, RvA.erase k r⟩) ry⟩
    rw [seqIndex_of (by omega) (by omega)]
    simp
/-! ### a def by its body -/
def runM (n N : Nat) (g : Fms) : FnM := fun kvs ds Q => ds.length = n ∧ g (.ok kvs :: (ds.map Cell.d ++ List.replicate (N - 1 - ds.length) .no)) fun o => match o with
  | .rt e d => ∃ kvs', e[0]? = some (.ok kvs') ∧ Q kvs' d
  | .nx e => ∃ kvs', e[0]? = some (.ok kvs') ∧ Q kvs' .none
theorem Rp.enterM {K : KW} {Hs H : Hp} {us : List V} {ds : List PyData} {uks : List (Key × V)} {kvs : Kvs} {Am : Addr} {N : List Str} (s : Same Hs H) (hs : Hs Am = none) (hd : H Am = some (.dK uks)) (rk : KvR K Hs uks kvs) (r : RvA K Hs us ds) (hl : ds.length + 1 ≤ N.length) :
    Rp K (remH H Am) Hs (start N (.ref Am :: us)) H (.ok kvs :: (ds.map Cell.d ++ List.replicate (N.length - 1 - ds.length) .no)) := by
  have e0 : start N (.ref Am :: us) = some (.ref Am) :: (us.map some ++ List.replicate (N.length - 1 - us.length) none) := by
    show (V.ref Am :: us).map some ++ List.replicate (N.length - (us.length + 1)) none = _
    rw [show N.length - (us.length + 1) = N.length - 1 - us.length by omega]; rfl
  have hown : ∀ (i : Nat) c, (ds.map Cell.d ++ List.replicate (N.length - 1 - ds.length) Cell.no)[i]? = some c → c ≠ .no → ∃ d, c = .d d ∧ ds[i]? = some d := fun i c e n => by
    by_cases hi : i < ds.length
    · rw [List.getElem?_append_left (by rw [List.length_map]; exact hi), List.getElem?_map, List.getElem?_eq_getElem hi] at e
      exact ⟨ds[i], (Option.some.inj e).symm, List.getElem?_eq_getElem hi⟩
    · rw [List.getElem?_append_right (by rw [List.length_map]; omega)] at e
      exact absurd (List.eq_of_mem_replicate (List.mem_of_getElem? e)) n
  have own0 : ∀ (i : Nat) c, (Cell.ok kvs :: (ds.map Cell.d ++ List.replicate (N.length - 1 - ds.length) Cell.no))[i]? = some c → c.own = true → i = 0 := fun i c e o => by
    cases i with
    | zero => rfl
    | succ i =>
      rw [List.getElem?_cons_succ] at e
      obtain ⟨d, rfl, _⟩ := hown i c e (fun z => by subst z; cases o)
      cases o
  refine ⟨s, rem_same H Am, ?_, fun i c e n => ?_, fun i j c c' a e1 e2 o1 o2 _ _ => by rw [own0 i c e1 o1, own0 j c' e2 o2]⟩
  · rw [e0, List.length_cons, List.length_cons, List.length_append, List.length_append, List.length_map, List.length_map, List.length_replicate, List.length_replicate, r.len]
  · rw [e0]
    cases i with
    | zero =>
      rw [List.getElem?_cons_zero] at e
      cases e
      exact ⟨_, rfl, Am, uks, rfl, hd, hs, rem_at, rk⟩
    | succ i =>
      rw [List.getElem?_cons_succ] at e ⊢
      obtain ⟨d, rfl, e'⟩ := hown i c e n
      obtain ⟨v, hv, rv⟩ := r.get e'
      refine ⟨v, ?_, rv⟩
      have hi : i < us.length := (List.getElem?_eq_some_iff.mp hv).1
      rw [List.getElem?_append_left (by rw [List.length_map]; exact hi), List.getElem?_map, hv]; rfl
end
section
variable {P : Program} {w : World} {K : PySem.W.Frag} {mg : Str → Option Value} {base : Heap}
theorem fn_bodyM {x qual : Str} {st : Stmt} {f : Addr} {fd : FuncData} {N ps : List Str} {k n : Nat} {g : Fms} (F : Fun K x qual st f fd) (S : FnScope N ps (defScope st)) (hn : ps.length = n + 1) (hN : n + 1 ≤ N.length)
    (hbody : ∀ (cdv : Value) (A : Around) (outer : List Env) (s : Shared) (H : Hp) (E : XK), Room k (A.deeper (PyProof.Rows.envOfC qual (defScope st) s.heap.objs.size f cdv)) →
      PSsM (cxOf CX0 P w K mg base N qual (defScope st) f cdv A outer s H E).nox 0 (defBody st) g) : FnOk P w K mg base CX0 (k + 1) f fd ps (spM ⟨K, w⟩ (runM n N.length g)) := by
  refine F.ok S (fun vs H Q E ⟨Am, us, kvs, uks, Hs, ds, Qd, h1, _, _, _, _, h6, ⟨h7, _⟩, _⟩ => by rw [h1, List.length_cons, h6.len, h7, hn]) fun cdv A outer s H vs Q E hr hsp => ?_
  obtain ⟨Am, us, kvs, uks, Hs, ds, Qd, rfl, h2, h3, h4, h5, h6, ⟨h7, h8⟩, q⟩ := hsp
  refine ⟨_, hbody cdv A outer s H E hr, ?_⟩
  have R := Rp.enterM (N := N) h2 h3 h4 h5 h6 (by omega)
  have back : ∀ (e : En) (Hs' : Hp) (σ' : L2.St) (H' : Hp) (kvs' : Kvs), Gs (remH H Am) Hs Hs' → Rp ⟨K, w⟩ (remH H Am) Hs' σ' H' e → σ'[0]? = some (some (.ref Am)) → e[0]? = some (.ok kvs') → Back ⟨K, w⟩ Am Hs H Hs' H' kvs' := fun e Hs' σ' H' kvs' gs R' hσ' he => by
    obtain ⟨a, us', e1, e2, e3, e4, e5⟩ := R'.okc he
    rw [hσ'] at e1
    cases e1
    refine ⟨gs.qq, R'.qh, R'.bh, fun b h1 hb => ?_, us', e2, e5⟩
    by_cases z : b = Am
    · rw [z]; exact e3
    · exact gs.out b h1 (by rw [rem_ne z]; exact hb)
  refine ⟨remH H Am, Hs, _, Am, _, R, rfl, h8, ⟨fun e Hs' σ' H' hq gs R' hσ' => ?_, fun e d v Hs' σ' H' hq gs R' hσ' r => ?_⟩⟩
  · obtain ⟨kvs', he, qd⟩ := hq
    exact q .non .none kvs' Hs' H' qd (back e Hs' σ' H' kvs' gs R' hσ' he) .non
  · obtain ⟨kvs', he, qd⟩ := hq
    exact q v d kvs' Hs' H' qd (back e Hs' σ' H' kvs' gs R' hσ' he) r
end
end DL

/-! ML4: t[::-1] of a tuple, repr of a truth value, len of an own list. -/
namespace DL
open PySem PySem.Spec PyProof.Rows L2
section
variable {prog : Program} {w : World} {A : Around} {E : Value → Shared → Prop} {s : Shared}
theorem rev_adjust (n : Nat) : Builtin.Slice.sliceAdjust none none (-1) (n : Int) = ((n : Int) - 1, -1) := by
  unfold Builtin.Slice.sliceAdjust
  have h1 : ((-1 : Int) < 0) := by omega
  simp [h1]
theorem rev_places (n : Nat) : Builtin.Slice.slicePlaces ((n : Int) - 1) (-1) (-1) = n := by
  unfold Builtin.Slice.slicePlaces
  have h1 : ¬ ((-1 : Int) > 0) := by omega
  have h2 : ((n : Int) - 1 - -1 - 1) / (- -1) = (n : Int) - 1 := by
    rw [show (- -1 : Int) = 1 from rfl, Int.ediv_one]
    omega
  simp only [h1, if_false, h2]
  split <;> omega
theorem rev_pick (xs : Array Value) : ((List.range xs.size).filterMap fun (m : Nat) => xs[(((xs.size : Int) - 1) + (m : Int) * (-1)).toNat]?).toArray = xs.toList.reverse.toArray := by
  have e : (fun (m : Nat) => xs[(((xs.size : Int) - 1) + (m : Int) * (-1)).toNat]?) = (fun k => xs[k]?) ∘ fun m => xs.size - 1 - m := by
    funext m
    have : (((xs.size : Int) - 1) + (m : Int) * (-1)).toNat = xs.size - 1 - m := by omega
    rw [this]; rfl
  rw [e, ← List.filterMap_map, PySem.W.krv_range, List.filterMap_reverse, PySem.W.krv_all]
theorem sl_rev {sl : Addr} {n : Nat} {vs : Value} {Q : Int × Int × Nat → Shared → Prop} (hS : s.heap.IsSliceOf sl .none .none vs) (pv : IsPart vs (some (-1)))
    (h : Q ((n : Int) - 1, -1, n) s) : wpAny (model prog w) A (Builtin.Slice.sliceApplied (.ref sl) (pure (n : Int))) Q E s := by
  obtain ⟨o1, o2, _, o4⟩ := id hS
  unfold Builtin.Slice.sliceApplied Builtin.Slice.sliceFields
  refine wpAny_bind (wpAny_bind (wpAny_field o2 o4 (x := .none) rfl (wpAny_bind (wpAny_field o2 o4 (x := .none) rfl (wpAny_bind (wpAny_field o2 o4 (x := vs) rfl (wpAny_pure ?_)))))))
  refine wpAny_bind (HT.slicePart_ pv ?_)
  show wpAny _ _ (if ((-1 : Int) == 0) = true then _ else _) _ _ s
  rw [if_neg (by decide)]
  refine wpAny_bind (HT.slicePart_ .none (wpAny_bind (HT.slicePart_ .none (wpAny_bind (wpAny_pure ?_)))))
  show wpAny _ _ (match Builtin.Slice.sliceAdjust none none (-1) (n : Int) with | (lo, hi) => pure (lo, (-1 : Int), Builtin.Slice.slicePlaces lo hi (-1))) _ _ s
  rw [rev_adjust n]
  show wpAny _ _ (pure ((n : Int) - 1, (-1 : Int), Builtin.Slice.slicePlaces ((n : Int) - 1) (-1) (-1))) _ _ s
  rw [rev_places]
  exact wpAny_pure h
theorem item_rev {t sl : Addr} {xs : Array Value} {vs : Value} {Q : Value → Shared → Prop} (hT : IsTup s.heap t xs) (hS : s.heap.IsSliceOf sl .none .none vs) (pv : IsPart vs (some (-1)))
    (h : Q (.ref s.heap.objs.size) { s with heap := s.heap.push { cls := .type "tuple", data := .seq xs.toList.reverse.toArray } }) (hz : xs.size ≤ sizeLine) : wpAny (model prog w) A (getItem (.ref t) (.ref sl)) Q E s := by
  have hk : sizeOk (.seq xs.toList.reverse.toArray) := by
    show xs.toList.reverse.toArray.size ≤ sizeLine
    rw [List.size_toArray, List.length_reverse, Array.length_toList]; exact hz
  obtain ⟨o1, o2, o3, o4⟩ := id hS
  have tS : s.TypeIs (.ref sl) "slice" := ⟨o1, o2, o3⟩
  unfold getItem
  try with_reducible refine wpAny_holding ?_
  first | refine wpAny_bind (wpAny_pure ?_) | skip
  refine wpAny_bind (wpAny_sequenceKey hT.typeIs (by decide) ?_)
  refine wpAny_bind (wpAny_callSpecial?_slot (name := Str.ofString "__getitem__") hT.typeIs PyProof.Rows.slot_tuple_getitem (wpAny_call_entry PyProof.Rows.slot_tuple_getitem hT.typeIs entry_tuple_getitem ?_ (args_tuple_getitem _ _)))
  show wpAny _ _ (Builtin.Tuple.tupleItemsOf (.ref t) >>= _) _ _ s
  refine wpAny_bind (tupleItemsOf_ hT ?_)
  refine wpAny_bind (wpAny_typeOf tS ?_)
  rw [if_pos (by decide)]
  refine wpAny_bind (sl_rev hS pv ?_)
  have hno : ¬ ((((xs.size : Int) - 1) == 0 && (-1 : Int) == 1 && xs.size == xs.size) = true) := by
    rw [show ((-1 : Int) == 1) = false from rfl, Bool.and_false, Bool.false_and]; decide
  show wpAny _ _ (if (((xs.size : Int) - 1) == 0 && (-1 : Int) == 1 && xs.size == xs.size) = true then _ else _) _ _ s
  rw [if_neg hno, rev_pick]
  first
    | exact wpAny_bind (m := Builtin.Tuple.tupleExact _) (wpAny_newObj_type (wpAny_pure ⟨_, rfl, wpAny_pure h⟩) hk)
    | exact wpAny_bind (m := Builtin.Tuple.tupleExact _) (wpAny_newObj_type (wpAny_bind (wpAny_pure (wpAny_pure ⟨_, rfl, wpAny_pure h⟩))) hk)
    | exact wpAny_bind (wpAny_bind (m := Builtin.Tuple.tupleExact _) (wpAny_newObj_type (wpAny_pure (wpAny_pure ⟨_, rfl, wpAny_pure h⟩)) hk))
    | exact wpAny_bind (wpAny_bind (m := Builtin.Tuple.tupleExact _) (wpAny_newObj_type (wpAny_pure ⟨_, rfl, wpAny_pure h⟩) hk))
end
section
variable {X : Cx} {e a : Expr} {pos p : Pos} {fa : Fx} {im : Nat} {te : TE}
/-- t[::-1] -/
def tRvT (K : PySem.W.Frag) (te : TE) : TE := fun σ H Q => te σ H fun x H1 => ∃ a xs, x = .ref a ∧ SqT K H1 a xs ∧ ∀ p, H1 p = none → Q (.ref p) (upd H1 p (.tup xs.reverse))
theorem pe_rvT {k : Nat} {p1 p2 p3 : Pos} (he : PE X e te) : PE X (.Subscript e (.Slice none none (some (.UnaryOp .USub (.Constant (.int 1) k p1) p2)) p3) pos) (tRvT X.K te) := by
  have st : PO X (some (.UnaryOp .USub (.Constant (.int 1) k p1) p2)) (tPart (tUn (rU fun i => .int (-i)) (L2.tC (.int 1)))) := po_some (pe_un un_neg pe_int)
  refine ⟨fun pins s σ H Q I h => Subscript_ (thn (he.run pins s σ H _ I h) fun v s1 ⟨x, H1, I1, r1, c, ys, ex, hx, q⟩ => ?_)⟩
  subst ex
  cases r1
  refine wpAny_Slice (thn (po_none.run pins s1 σ H1 (fun o G => o = none ∧ G = H1) I1 ⟨rfl, rfl⟩) fun v1 s2 ⟨o1, G1, J1, k1, l1, m1⟩ => ?_)
  subst l1 m1
  refine thn (po_none.run pins s2 σ G1 (fun o G => o = none ∧ G = G1) J1 ⟨rfl, rfl⟩) fun v2 s3 ⟨o2, G2, J2, k2, l2, m2⟩ => ?_
  subst l2 m2
  refine thn (st.run pins s3 σ G2 (fun o G => o = some (-1) ∧ G = G2) J2 ⟨1, rfl, -1, rfl, rfl, rfl⟩) fun v3 s4 ⟨o3, G3, J3, k3, l3, m3⟩ => ?_
  subst l3 m3
  cases k1
  cases k2
  have J4 : Inv X pins σ G3 { s4 with heap := s4.heap.push { cls := .type "slice", data := .fields #[.none, .none, v3] } } := J3.kept (t' := s4.toks) fun _ _ q => Heap.get?_push_of_some _ q
  obtain ⟨its, r, ht, hz⟩ := J4.tuple hx
  have hlen := r.length
  show wpAny (model X.prog X.w) X.A (subscriptTail e (.Slice none none (some (.UnaryOp .USub (.Constant (.int 1) k p1) p2)) p3) (.ref c) (.ref s4.heap.objs.size)) (EP X pins σ Q) X.xe { s4 with heap := s4.heap.push { cls := .type "slice", data := .fields #[.none, .none, v3] } }
  refine tail_any (ops := [.ref c, .ref s4.heap.objs.size]) ht.typeIs (PyProof.Rows.slot_tuple_getitem.lookup) ?_ (by with_unfolding_all rfl)
  refine item_rev ht (Heap.IsSliceOf.new _ .none .none v3) k3 ?_ (by rw [List.size_toArray, ← hlen]; exact hz)
  refine ⟨.ref _, _, J4.laid (t' := s4.toks) (o := .tup ys.reverse) (fun _ _ q => Heap.get?_push_of_some _ q) (Nat.le_refl _) ?_, rfl, q _ (J4.hok.fresh (Nat.le_refl _))⟩
  exact ⟨by rw [List.length_reverse]; exact hz, _, r.reverse, IsTup.new _ _⟩
def eRevT (fa : Fx) : Fx := fun env => (fa env).bind fun x => match x with
  | .tuple ds => some (.tuple ds.reverse)
  | _ => none
theorem pd_revT {k : Nat} {p1 p2 p3 : Pos} (ha : PD X a fa) : PD X (.Subscript a (.Slice none none (some (.UnaryOp .USub (.Constant (.int 1) k p1) p2)) p3) pos) (eRevT fa) := pe_weak (pe_rvT ha) fun σ H Q ⟨Hb, Hs, env, d, R, e, q⟩ => by
  obtain ⟨x, e1, e2⟩ := bind_some e
  refine ⟨Hb, Hs, env, x, R, e1, fun v Hs1 H1 g r => ?_⟩
  split at e2
  · cases e2
    cases r with
    | tup h1 a1 => exact ⟨_, _, rfl, same_t g.qh h1, fun p hp => qT g.qh hp a1.rev fun w Hs2 H2 g2 r2 => q w Hs2 H2 (g.trans g2) r2⟩
  · cases e2
/-! repr of a truth value -/
theorem call_repr_bl : CallR X (.builtin "repr") (fun xs H Q => ∃ b, xs = [V.bl b] ∧ Q (.str (if b then "True" else "False")) H) := by
  intro pins s σ H xs us Q I r h
  obtain ⟨b, rfl, q⟩ := h
  obtain ⟨u, rfl, hu⟩ := vals1 r
  cases hu
  exact call_repr_gives (T := "bool") (x := if b then "True" else "False") rfl PySem.F.slot_bool_repr PySem.F.entry_bool_repr (PySem.F.args_bool_repr_1 _) (gives_bool_repr b) ⟨.str _, H, I.tok _, ⟨_, rfl⟩, q⟩ (hx := by cases b <;> decide)
def gRepr : GA
  | [.bool b] => some (.str (if b then "True" else "False"))
  | _ => none
theorem cd_repr {K : KW} : CallD K (fun xs H Q => ∃ b, xs = [V.bl b] ∧ Q (.str (if b then "True" else "False")) H) gRepr := fun vs ds d H Hs Q s r1 e q => by
  unfold gRepr at e
  split at e
  · cases e
    cases r1 with
    | cons h1 h2 =>
      cases h1; cases h2
      exact ⟨_, rfl, q _ Hs H (Gr.refl s) (.str _)⟩
  · cases e
theorem pd_repr (hm : X.mg "repr" = none) (hg : Gl X "repr") (ha : PD X a fa) (he : starEach [a] X.env = [(false, eval a X.env)] := by rfl) : PD X (.Call (.Name "repr" p) [a] [] pos) (eCall gRepr (aCons fa aNil)) :=
  pd_callB call_repr_bl cd_repr hg hm (by decide +kernel) (pda_cons ha pda_nil he) (he := he)
/-! len of an own list -/
def eLenO (i : Nat) : Fx := fun env => match env[i]? with
  | some (.ol xs) => some (.int xs.length)
  | _ => none
theorem pd_lenO {i : Nat} {x : Str} {px : Pos} (hm : X.mg "len" = none) (hg : Gl X "len") (hx : PE X (.Name x px) (tVar i)) (he : starEach [.Name x px] X.env = [(false, eval (.Name x px) X.env)] := by rfl) : PD X (.Call (.Name "len" p) [.Name x px] [] pos) (eLenO i) :=
  pe_weak (pe_callB call_len_seq hg hm PySem.boot_len (pa_cons hx pa_nil he) (he := he)) fun σ H Q ⟨Hb, Hs, env, d, R, e, q⟩ => by
    unfold eLenO at e
    split at e
    · rename_i xs ex
      cases e
      obtain ⟨b, vs, h1, h2, h3, h4, r⟩ := R.ol ex
      refine ⟨_, h1, b, vs, rfl, .inl (SqL.of h2), q _ Hs H (Gr.refl R.qh) ?_⟩
      rw [r.len]; exact .int _
    · cases e
/-! an own list becomes data -/
variable {g g' : Fms} {rest : List Stmt}
def mFrz (i : Nat) : Fms := fun env Q => ∃ xs, env[i]? = some (.ol xs) ∧ Q (.nx (env.set i (.d (.list xs))))
theorem tSM_frz {K : KW} {i : Nat} {D : Ends} {σ : L2.St} {H : Hp} (h : tSM K im (mSeq (mFrz i) g) D σ H) : tSM K im g D σ H := by
  obtain ⟨Hb, Hs, env, Am, Qo, R, hσ, ⟨xs, ex, f⟩, q⟩ := h
  obtain ⟨a, vs, h1, h2, h3, h4, r⟩ := R.ol ex
  obtain ⟨gs, R'⟩ := R.frz (d := .list xs) ex rfl h1 h2 (.lst upd_same (RvA.same (same_upd h3) r))
  exact ⟨Hb, _, _, Am, Qo, R', hσ, f, q.gs gs⟩
theorem pssm_frz (i : Nat) (h : PSsM X im rest g) : PSsM X im rest (mSeq (mFrz i) g) := pss_weak h fun _ _ _ q => tSM_frz q
end
end DL

/-! Sem: what each def reckons, as plain functions (printed by gen.py). -/
namespace SV
open PySem L2 DL
@[irreducible] def fuel : Nat := 1099511627776
def c_FILTERS : PyData := (.tuple [(.str "kept"), (.str "inner"), (.str "notlow"), (.str "nothigh"), (.str "below"), (.str "above"), (.str "under"), (.str "over")])
def c_ENDS : PyData := (.tuple [(.str "eldest"), (.str "latest"), (.str "lowest"), (.str "highest"), (.str "refuse")])
def c_RETURNS : PyData := (.tuple [(.str "none"), (.str "eldest"), (.str "latest"), (.str "lowest"), (.str "highest")])
def c_MOST_VOICES : PyData := (.int 8)
def c_MOST_CRITERIA : PyData := (.int 6)
def c_MOST_KEY : PyData := (.int 87)
def c_START : PyData := (.tuple [(.bool false), (.tuple [])])
def c_WITH_KEY : PyData := (.tuple [(.str "down"), (.str "up")])
def c_OF_PEDAL : PyData := (.tuple [(.str "press"), (.str "lift")])
def c_MOST_ON_BOARD : PyData := (.int 4)
def c_MOST_WITH_PEDAL : PyData := (.int 3)
def c_MOST_EVENTS : PyData := (.int 300)
def c_MOST_LINKS : PyData := (.int 3)
/-- is_whole: 0 thing, 1 least, 2 most -/
def b_is_whole : Fs := gRet (eAnd (eIsi "int" (eVar 0)) (eAnd (eNot (eIsi "bool" (eVar 0))) (eChain (fun i j => decide (i ≤ j)) (fun i j => decide (i ≤ j)) (eVar 1) (eVar 0) (eVar 2))))
def s_is_whole : GA := runF 3 b_is_whole
/-- is_key: 0 thing -/
def b_is_key : Fs := gRet (eCall (gN 3 s_is_whole) (aCons (eVar 0) (aCons (eC (.int 0)) (aCons (eC c_MOST_KEY) aNil))))
def s_is_key : GA := runF 1 b_is_key
/-- is_word_of: 0 thing, 1 words -/
def b_is_word_of : Fs := gRet (eAnd (eIsi "str" (eVar 0)) (eB (gIn false) (eVar 0) (eVar 1)))
def s_is_word_of : GA := runF 2 b_is_word_of
/-- criteria_fault: 0 criteria, 1 number, 2 word, 3 words -/
def b_criteria_fault : Fs := gSeq (gIf (ftOr (ftNot (tOf (eIsi "tuple" (eVar 0)))) (ftNot (tOf (eChain (fun i j => decide (i ≤ j)) (fun i j => decide (i ≤ j)) (eC (.int 1)) (eCall gLen (aCons (eVar 0) aNil)) (eC c_MOST_CRITERIA))))) (gRet (eTup (aCons (eC (.str "criteria")) aNil))) gNext) (gSeq (gFor (iEnumD (eVar 0)) (.many [1, 2]) (gSeq (gSet 3 (cOf (eIf (tOf (eB gEq (eVar 1) (eB gSub (eCall gLen (aCons (eVar 0) aNil)) (eC (.int 1))))) (eC c_ENDS) (eC c_FILTERS)))) (gIf (ftOr (ftNot (tOf (eCall (gN 2 s_is_word_of) (aCons (eVar 2) (aCons (eVar 3) aNil))))) (tOf (eB (gIn false) (eVar 2) (eCut (eVar 0) oNone (oSome (eVar 1)))))) (gRet (eTup (aCons (eC (.str "criteria")) (aCons (eVar 1) aNil)))) gNext))) (gRet (eC .none)))
def s_criteria_fault : GA := runF 4 b_criteria_fault
/-- machine_fault: 0 thing, 1 voices, 2 criteria, 3 back, 4 place -/
def b_machine_fault : Fs := gSeq (gIf (ftOr (ftNot (tOf (eIsi "tuple" (eVar 0)))) (tOf (eB gNe (eCall gLen (aCons (eVar 0) aNil)) (eC (.int 3))))) (gRet (eTup aNil)) gNext) (gSeq (gPut (.many [1, 2, 3]) (eVar 0)) (gSeq (gIf (ftNot (tOf (eCall (gN 3 s_is_whole) (aCons (eVar 1) (aCons (eC (.int 1)) (aCons (eC c_MOST_VOICES) aNil)))))) (gRet (eTup (aCons (eC (.str "voices")) aNil))) gNext) (gSeq (gIfW 4 (eCall (gN 1 s_criteria_fault) (aCons (eVar 2) aNil)) (gRet (eVar 4)) gNext) (gRet (eIf (tOf (eCall (gN 2 s_is_word_of) (aCons (eVar 3) (aCons (eC c_RETURNS) aNil)))) (eC .none) (eTup (aCons (eC (.str "return")) aNil)))))))
def s_machine_fault : GA := runF 5 b_machine_fault
/-- need_machine: 0 thing, 1 place -/
def b_need_machine : Fs := gSeq (gSet 1 (cOf (eCall (gN 1 s_machine_fault) (aCons (eVar 0) aNil)))) (gSeq (gIf (tOf (eB gNotN (eVar 1) (eC .none))) gNever gNext) (gRet (eVar 0)))
def s_need_machine : GA := runF 2 b_need_machine
/-- loud: 0 row, 1 pair -/
def b_loud : Fs := gRet (eLc (iSeq (eVar 0)) [1] (.one 1) (tOf (eB gNe (eB gIx (eVar 1) (eC (.int 1))) (eC (.str "waits")))) (eVar 1))
def s_loud : GA := runF 2 b_loud
/-- sound_of: 0 state, 1 key, 2 mark -/
def b_sound_of : Fs := gRet (eTuple (eCall gSorted (aCons (eLc (iSeq (eCall (gN 1 s_loud) (aCons (eB gIx (eVar 0) (eC (.int 1))) aNil))) [1, 2] (.many [1, 2]) ftT (eVar 1)) aNil)))
def s_sound_of : GA := runF 3 b_sound_of
/-- mark_of: 0 state, 1 key, 2 own, 3 mark -/
def b_mark_of : Fs := gSeq (gFor (iSeq (eB gIx (eVar 0) (eC (.int 1)))) (.many [2, 3]) (gIf (tOf (eB gEq (eVar 2) (eVar 1))) (gRet (eVar 3)) gNext)) (gRet (eC (.str "up")))
def s_mark_of : GA := runF 4 b_mark_of
/-- is_event: 0 thing -/
def b_is_event : Fs := gSeq (gIf (ftOr (ftNot (tOf (eIsi "tuple" (eVar 0)))) (ftOr (tOf (eB gEq (eVar 0) (eTup aNil))) (ftNot (tOf (eIsi "str" (eB gIx (eVar 0) (eC (.int 0)))))))) (gRet (eC (.bool false))) gNext) (gSeq (gIf (tOf (eB (gIn false) (eB gIx (eVar 0) (eC (.int 0))) (eC c_WITH_KEY))) (gRet (eAnd (eB gEq (eCall gLen (aCons (eVar 0) aNil)) (eC (.int 2))) (eCall (gN 1 s_is_key) (aCons (eB gIx (eVar 0) (eC (.int 1))) aNil)))) gNext) (gRet (eAnd (eB (gIn false) (eB gIx (eVar 0) (eC (.int 0))) (eC c_OF_PEDAL)) (eB gEq (eCall gLen (aCons (eVar 0) aNil)) (eC (.int 1))))))
def s_is_event : GA := runF 1 b_is_event
/-- can_follow: 0 state, 1 event -/
def b_can_follow : Fs := gSeq (gIf (tOf (eB gEq (eB gIx (eVar 1) (eC (.int 0))) (eC (.str "down")))) (gRet (eB (gIn false) (eCall (gN 2 s_mark_of) (aCons (eVar 0) (aCons (eB gIx (eVar 1) (eC (.int 1))) aNil))) (eTup (aCons (eC (.str "up")) (aCons (eC (.str "kept")) aNil))))) gNext) (gSeq (gIf (tOf (eB gEq (eB gIx (eVar 1) (eC (.int 0))) (eC (.str "up")))) (gRet (eB (gIn false) (eCall (gN 2 s_mark_of) (aCons (eVar 0) (aCons (eB gIx (eVar 1) (eC (.int 1))) aNil))) (eTup (aCons (eC (.str "sounds")) (aCons (eC (.str "waits")) aNil))))) gNext) (gRet (eB gEq (eB gIx (eVar 0) (eC (.int 0))) (eB gEq (eB gIx (eVar 1) (eC (.int 0))) (eC (.str "lift"))))))
def s_can_follow : GA := runF 2 b_can_follow
/-- filtered: 0 word, 1 pairs, 2 some, 3 key, 4 keys, 5 pair -/
def b_filtered : Fs := gSeq (gIf (tOf (eB gEq (eVar 0) (eC (.str "kept")))) (gRet (eLc (iSeq (eVar 2)) [5] (.one 5) (tOf (eB gEq (eB gIx (eVar 5) (eC (.int 1))) (eC (.str "kept")))) (eVar 5))) gNext) (gSeq (gSet 4 (cOf (eCall gSorted (aCons (eLc (iSeq (eVar 1)) [5] (.one 5) ftT (eB gIx (eVar 5) (eC (.int 0)))) aNil)))) (gSeq (gIf (tOf (eB gEq (eVar 0) (eC (.str "notlow")))) (gRet (eLc (iSeq (eVar 2)) [5] (.one 5) (tOf (eB gNe (eB gIx (eVar 5) (eC (.int 0))) (eB gIx (eVar 4) (eC (.int 0))))) (eVar 5))) gNext) (gSeq (gIf (tOf (eB gEq (eVar 0) (eC (.str "nothigh")))) (gRet (eLc (iSeq (eVar 2)) [5] (.one 5) (tOf (eB gNe (eB gIx (eVar 5) (eC (.int 0))) (eB gIx (eVar 4) (eNeg (eC (.int 1)))))) (eVar 5))) gNext) (gSeq (gIf (tOf (eB gEq (eVar 0) (eC (.str "inner")))) (gRet (eLc (iSeq (eVar 2)) [5] (.one 5) (tOf (eChain (fun i j => decide (i < j)) (fun i j => decide (i < j)) (eB gIx (eVar 4) (eC (.int 0))) (eB gIx (eVar 5) (eC (.int 0))) (eB gIx (eVar 4) (eNeg (eC (.int 1)))))) (eVar 5))) gNext) (gSeq (gIf (tOf (eB (gIn false) (eVar 0) (eTup (aCons (eC (.str "below")) (aCons (eC (.str "under")) aNil))))) (gRet (eLc (iSeq (eVar 2)) [5] (.one 5) (tOf (eB (gCmp fun i j => decide (i < j)) (eB gIx (eVar 5) (eC (.int 0))) (eVar 3))) (eVar 5))) gNext) (gRet (eLc (iSeq (eVar 2)) [5] (.one 5) (tOf (eB (gCmp fun i j => decide (j < i)) (eB gIx (eVar 5) (eC (.int 0))) (eVar 3))) (eVar 5))))))))
def s_filtered : GA := runF 6 b_filtered
/-- chosen: 0 word, 1 some, 2 keys, 3 pair -/
def b_chosen : Fs := gSeq (gIf (tOf (eB gEq (eVar 0) (eC (.str "refuse")))) (gRet (eC .none)) gNext) (gSeq (gIf (tOf (eB (gIn false) (eVar 0) (eTup (aCons (eC (.str "eldest")) (aCons (eC (.str "latest")) aNil))))) (gRet (eIf (tOf (eB gEq (eVar 0) (eC (.str "eldest")))) (eB gIx (eB gIx (eVar 1) (eC (.int 0))) (eC (.int 0))) (eB gIx (eB gIx (eVar 1) (eNeg (eC (.int 1)))) (eC (.int 0))))) gNext) (gSeq (gSet 2 (cOf (eCall gSorted (aCons (eLc (iSeq (eVar 1)) [3] (.one 3) ftT (eB gIx (eVar 3) (eC (.int 0)))) aNil)))) (gRet (eIf (tOf (eB gEq (eVar 0) (eC (.str "lowest")))) (eB gIx (eVar 2) (eC (.int 0))) (eB gIx (eVar 2) (eNeg (eC (.int 1))))))))
def s_chosen : GA := runF 4 b_chosen
/-- victim_of: 0 machine, 1 state, 2 key, 3 voices, 4 criteria, 5 back, 6 pairs, 7 some, 8 word, 9 left -/
def b_victim_of : Fs := gSeq (gPut (.many [3, 4, 5]) (eVar 0)) (gSeq (gSet 6 (cOf (eCall (gN 1 s_loud) (aCons (eB gIx (eVar 1) (eC (.int 1))) aNil)))) (gSeq (gIf (tOf (eB (gCmp fun i j => decide (i < j)) (eCall gLen (aCons (eVar 6) aNil)) (eVar 3))) (gRet (eC .none)) gNext) (gSeq (gSet 7 (cOf (eVar 6))) (gSeq (gFor (iSeq (eCut (eVar 4) oNone (oSome (eNeg (eC (.int 1)))))) (.one 8) (gSeq (gSet 9 (cOf (eCall (gN 4 s_filtered) (aCons (eVar 8) (aCons (eVar 6) (aCons (eVar 7) (aCons (eVar 2) aNil))))))) (gSeq (gIf (ftAnd (tOf (eB gEq (eVar 9) (eLst aNil))) (tOf (eB (gIn false) (eVar 8) (eTup (aCons (eC (.str "under")) (aCons (eC (.str "over")) aNil)))))) (gRet (eC .none)) gNext) (gSet 7 (cOf (eIf (tOf (eB gNe (eVar 9) (eLst aNil))) (eVar 9) (eVar 7))))))) (gRet (eCall (gN 2 s_chosen) (aCons (eB gIx (eVar 4) (eNeg (eC (.int 1)))) (aCons (eVar 7) aNil))))))))
def s_victim_of : GA := runF 10 b_victim_of
/-- returned: 0 machine, 1 row, 2 voices, 3 criteria, 4 back, 5 found, 6 key, 7 pair, 8 own, 9 mark -/
def b_returned : Fs := gSeq (gPut (.many [2, 3, 4]) (eVar 0)) (gSeq (gSet 5 (cLst aNil)) (gSeq (gWhile (ftAnd (tOf (eB gNe (eVar 4) (eC (.str "none")))) (tOf (eB (gCmp fun i j => decide (i < j)) (eCall gLen (aCons (eCall (gN 1 s_loud) (aCons (eVar 1) aNil)) aNil)) (eCall gMin2 (aCons (eVar 2) (aCons (eCall gLen (aCons (eVar 1) aNil)) aNil)))))) (gSeq (gSet 6 (cOf (eCall (gN 2 s_chosen) (aCons (eVar 4) (aCons (eLc (iSeq (eVar 1)) [7] (.one 7) (tOf (eB gEq (eB gIx (eVar 7) (eC (.int 1))) (eC (.str "waits")))) (eVar 7)) aNil))))) (gSeq (gSet 1 (cOf (eTuple (eLc (iSeq (eVar 1)) [8, 9] (.many [8, 9]) ftT (eIf (tOf (eB gEq (eVar 8) (eVar 6))) (eTup (aCons (eVar 8) (aCons (eC (.str "sounds")) aNil))) (eTup (aCons (eVar 8) (aCons (eVar 9) aNil)))))))) (gApp 5 (eVar 6)))) fuel) (gSeq (gFrz 5) (gRet (eTup (aCons (eVar 1) (aCons (eVar 5) aNil)))))))
def s_returned : GA := runF 10 b_returned
/-- after_down: 0 machine, 1 state, 2 key, 3 row, 4 taken, 5 rest, 6 pair, 7 own, 8 mark -/
def b_after_down : Fs := gSeq (gSet 3 (cOf (eB gIx (eVar 1) (eC (.int 1))))) (gSeq (gIf (tOf (eB gEq (eCall (gN 2 s_mark_of) (aCons (eVar 1) (aCons (eVar 2) aNil))) (eC (.str "kept")))) (gRet (eTup (aCons (eB gAdd (eTuple (eLc (iSeq (eVar 3)) [6] (.one 6) (tOf (eB gNe (eB gIx (eVar 6) (eC (.int 0))) (eVar 2))) (eVar 6))) (eTup (aCons (eTup (aCons (eVar 2) (aCons (eC (.str "sounds")) aNil))) aNil))) (aCons (eLst (aCons (eTup (aCons (eC (.str "again")) (aCons (eVar 2) aNil))) aNil)) aNil)))) gNext) (gSeq (gIf (tOf (eB (gCmp fun i j => decide (i < j)) (eCall gLen (aCons (eCall (gN 1 s_loud) (aCons (eVar 3) aNil)) aNil)) (eB gIx (eVar 0) (eC (.int 0))))) (gRet (eTup (aCons (eB gAdd (eVar 3) (eTup (aCons (eTup (aCons (eVar 2) (aCons (eC (.str "sounds")) aNil))) aNil))) (aCons (eLst (aCons (eTup (aCons (eC (.str "begin")) (aCons (eVar 2) aNil))) aNil)) aNil)))) gNext) (gSeq (gSet 4 (cOf (eCall (gN 3 s_victim_of) (aCons (eVar 0) (aCons (eVar 1) (aCons (eVar 2) aNil)))))) (gSeq (gIf (tOf (eB gIsN (eVar 4) (eC .none))) (gRet (eTup (aCons (eB gAdd (eVar 3) (eTup (aCons (eTup (aCons (eVar 2) (aCons (eC (.str "waits")) aNil))) aNil))) (aCons (eLst (aCons (eTup (aCons (eC (.str "refuse")) (aCons (eVar 2) aNil))) aNil)) aNil)))) gNext) (gSeq (gSet 5 (cOf (eLc (iSeq (eVar 3)) [7, 8] (.many [7, 8]) (ftOr (tOf (eB gNe (eVar 7) (eVar 4))) (tOf (eB gNe (eVar 8) (eC (.str "kept"))))) (eIf (tOf (eB gEq (eVar 7) (eVar 4))) (eTup (aCons (eVar 7) (aCons (eC (.str "waits")) aNil))) (eTup (aCons (eVar 7) (aCons (eVar 8) aNil))))))) (gRet (eTup (aCons (eB gAdd (eTuple (eVar 5)) (eTup (aCons (eTup (aCons (eVar 2) (aCons (eC (.str "sounds")) aNil))) aNil))) (aCons (eLst (aCons (eTup (aCons (eC (.str "cut")) (aCons (eVar 4) aNil))) (aCons (eTup (aCons (eC (.str "begin")) (aCons (eVar 2) aNil))) aNil))) aNil)))))))))
def s_after_down : GA := runF 9 b_after_down
/-- after_up: 0 machine, 1 state, 2 key, 3 pedal, 4 row, 5 rest, 6 back, 7 pair, 8 own, 9 mark, 10 one -/
def b_after_up : Fs := gSeq (gPut (.many [3, 4]) (eVar 1)) (gSeq (gSet 5 (cOf (eTuple (eLc (iSeq (eVar 4)) [7] (.one 7) (tOf (eB gNe (eB gIx (eVar 7) (eC (.int 0))) (eVar 2))) (eVar 7))))) (gSeq (gIf (tOf (eB gEq (eCall (gN 2 s_mark_of) (aCons (eVar 1) (aCons (eVar 2) aNil))) (eC (.str "waits")))) (gRet (eTup (aCons (eVar 5) (aCons (eLst (aCons (eTup (aCons (eC (.str "leave")) (aCons (eVar 2) aNil))) aNil)) aNil)))) gNext) (gSeq (gIf (tOf (eVar 3)) (gRet (eTup (aCons (eTuple (eLc (iSeq (eVar 4)) [8, 9] (.many [8, 9]) ftT (eIf (tOf (eB gEq (eVar 8) (eVar 2))) (eTup (aCons (eVar 8) (aCons (eC (.str "kept")) aNil))) (eTup (aCons (eVar 8) (aCons (eVar 9) aNil)))))) (aCons (eLst (aCons (eTup (aCons (eC (.str "keep")) (aCons (eVar 2) aNil))) aNil)) aNil)))) gNext) (gSeq (gPut (.many [5, 6]) (eCall (gN 2 s_returned) (aCons (eVar 0) (aCons (eVar 5) aNil)))) (gRet (eTup (aCons (eVar 5) (aCons (eB gAdd (eLst (aCons (eTup (aCons (eC (.str "end")) (aCons (eVar 2) aNil))) aNil)) (eLc (iSeq (eVar 6)) [10] (.one 10) ftT (eTup (aCons (eC (.str "back")) (aCons (eVar 10) aNil))))) aNil))))))))
def s_after_up : GA := runF 11 b_after_up
/-- after_lift: 0 machine, 1 state, 2 row, 3 rest, 4 back, 5 pair, 6 key, 7 mark, 8 one -/
def b_after_lift : Fs := gSeq (gSet 2 (cOf (eB gIx (eVar 1) (eC (.int 1))))) (gSeq (gPut (.many [3, 4]) (eCall (gN 2 s_returned) (aCons (eVar 0) (aCons (eTuple (eLc (iSeq (eVar 2)) [5] (.one 5) (tOf (eB gNe (eB gIx (eVar 5) (eC (.int 1))) (eC (.str "kept")))) (eVar 5))) aNil)))) (gRet (eTup (aCons (eVar 3) (aCons (eB gAdd (eLc (iSeq (eVar 2)) [6, 7] (.many [6, 7]) (tOf (eB gEq (eVar 7) (eC (.str "kept")))) (eTup (aCons (eC (.str "end")) (aCons (eVar 6) aNil)))) (eLc (iSeq (eVar 4)) [8] (.one 8) ftT (eTup (aCons (eC (.str "back")) (aCons (eVar 8) aNil))))) aNil)))))
def s_after_lift : GA := runF 9 b_after_lift
/-- done: 0 machine, 1 state, 2 event, 3 row, 4 deeds_so -/
def b_done : Fs := gSeq (gIf (tOf (eB gEq (eB gIx (eVar 2) (eC (.int 0))) (eC (.str "press")))) (gRet (eTup (aCons (eTup (aCons (eC (.bool true)) (aCons (eB gIx (eVar 1) (eC (.int 1))) aNil))) (aCons (eTup aNil) aNil)))) gNext) (gSeq (gIf (tOf (eB gEq (eB gIx (eVar 2) (eC (.int 0))) (eC (.str "lift")))) (gSeq (gPut (.many [3, 4]) (eCall (gN 2 s_after_lift) (aCons (eVar 0) (aCons (eVar 1) aNil)))) (gRet (eTup (aCons (eTup (aCons (eC (.bool false)) (aCons (eVar 3) aNil))) (aCons (eTuple (eVar 4)) aNil))))) gNext) (gSeq (gIf (tOf (eB gEq (eB gIx (eVar 2) (eC (.int 0))) (eC (.str "down")))) (gPut (.many [3, 4]) (eCall (gN 3 s_after_down) (aCons (eVar 0) (aCons (eVar 1) (aCons (eB gIx (eVar 2) (eC (.int 1))) aNil))))) (gPut (.many [3, 4]) (eCall (gN 3 s_after_up) (aCons (eVar 0) (aCons (eVar 1) (aCons (eB gIx (eVar 2) (eC (.int 1))) aNil)))))) (gRet (eTup (aCons (eTup (aCons (eB gIx (eVar 1) (eC (.int 0))) (aCons (eVar 3) aNil))) (aCons (eTuple (eVar 4)) aNil))))))
def s_done : GA := runF 5 b_done
/-- need_board: 0 keys, 1 pedal -/
def b_need_board : Fs := gIf (ftOr (ftNot (tOf (eIsi "bool" (eVar 1)))) (ftNot (tOf (eCall (gN 3 s_is_whole) (aCons (eVar 0) (aCons (eC (.int 1)) (aCons (eIf (tOf (eVar 1)) (eC c_MOST_WITH_PEDAL) (eC c_MOST_ON_BOARD)) aNil))))))) gNever gNext
def s_need_board : GA := runF 2 b_need_board
/-- all_events: 0 keys, 1 pedal, 2 downs, 3 ups, 4 key -/
def b_all_events : Fs := gSeq (gSet 2 (cOf (eLc (iRange (eVar 0)) [4] (.one 4) ftT (eTup (aCons (eC (.str "down")) (aCons (eVar 4) aNil)))))) (gSeq (gSet 3 (cOf (eLc (iRange (eVar 0)) [4] (.one 4) ftT (eTup (aCons (eC (.str "up")) (aCons (eVar 4) aNil)))))) (gRet (eB gAdd (eB gAdd (eVar 2) (eB gMul (eLst (aCons (eTup (aCons (eC (.str "lift")) aNil)) (aCons (eTup (aCons (eC (.str "press")) aNil)) aNil))) (eCall gInt (aCons (eVar 1) aNil)))) (eVar 3))))
def s_all_events : GA := runF 5 b_all_events
/-- play_to: 0 came, 1 states, 2 found, 3 event -/
def b_play_to : Fs := gSeq (gSet 2 (cLst aNil)) (gSeq (gWhile (tOf (eB gNotN (eB gDix (eVar 0) (eVar 1)) (eC .none))) (gSeq (gPut (.many [1, 3]) (eB gDix (eVar 0) (eVar 1))) (gApp 2 (eVar 3))) fuel) (gSeq (gFrz 2) (gRet (eTuple (eRevL (eVar 2))))))
def s_play_to : GA := runF 4 b_play_to
/-- play_fault: 0 thing, 1 pedal, 2 down, 3 number, 4 event, 5 word -/
def b_play_fault : Fs := gSeq (gIf (ftOr (ftNot (tOf (eIsi "tuple" (eVar 0)))) (tOf (eB (gCmp fun i j => decide (j < i)) (eCall gLen (aCons (eVar 0) aNil)) (eC c_MOST_EVENTS)))) (gRet (eTup aNil)) gNext) (gSeq (gPar 1 2 (cOf (eC (.bool false))) (fun _ => some (.ok []))) (gSeq (gFor (iEnumD (eVar 0)) (.many [3, 4]) (gSeq (gIf (ftNot (tOf (eCall (gN 1 s_is_event) (aCons (eVar 4) aNil)))) (gRet (eTup (aCons (eVar 3) aNil))) gNext) (gSeq (gSet 5 (cOf (eB gIx (eVar 4) (eC (.int 0))))) (gIf (tOf (eB (gIn false) (eVar 5) (eTup (aCons (eC (.str "press")) (aCons (eC (.str "lift")) aNil))))) (gSeq (gIf (tOf (eB gEq (eVar 1) (eB gEq (eVar 5) (eC (.str "press"))))) (gRet (eTup (aCons (eVar 3) aNil))) gNext) (gSet 1 (cOf (eNot (eVar 1))))) (gSeq (gIf (tOf (eB gEq (eGet2 2 (eB gIx (eVar 4) (eC (.int 1))) (eC (.bool false))) (eB gEq (eVar 5) (eC (.str "down"))))) (gRet (eTup (aCons (eVar 3) aNil))) gNext) (gPutK 2 (eB gIx (eVar 4) (eC (.int 1))) (eB gEq (eVar 5) (eC (.str "down"))))))))) (gRet (eC .none))))
def s_play_fault : GA := runF 6 b_play_fault
/-- need_play: 0 thing, 1 place -/
def b_need_play : Fs := gSeq (gSet 1 (cOf (eCall (gN 1 s_play_fault) (aCons (eVar 0) aNil)))) (gSeq (gIf (tOf (eB gNotN (eVar 1) (eC .none))) gNever gNext) (gRet (eVar 0)))
def s_need_play : GA := runF 2 b_need_play
/-- is_play: 0 thing -/
def b_is_play : Fs := gRet (eB gIsN (eCall (gN 1 s_play_fault) (aCons (eVar 0) aNil)) (eC .none))
def s_is_play : GA := runF 1 b_is_play
/-- need_chain: 0 thing, 1 machine -/
def b_need_chain : Fs := gSeq (gIf (ftOr (ftNot (tOf (eIsi "tuple" (eVar 0)))) (ftNot (tOf (eChain (fun i j => decide (i ≤ j)) (fun i j => decide (i ≤ j)) (eC (.int 1)) (eCall gLen (aCons (eVar 0) aNil)) (eC c_MOST_LINKS))))) gNever gNext) (gSeq (gFor (iSeq (eVar 0)) (.one 1) (gDrop (eCall (gN 1 s_need_machine) (aCons (eVar 1) aNil)))) (gRet (eVar 0)))
def s_need_chain : GA := runF 2 b_need_chain
/-- handed_on: 0 before, 1 behind, 2 old, 3 new, 4 some, 5 state, 6 key, 7 mark -/
def b_handed_on : Fs := gSeq (gPutL [2, 3] (eLc (iSeq (eTup (aCons (eVar 0) (aCons (eVar 1) aNil)))) [5] (.one 5) ftT (eLc (iSeq (eB gIx (eVar 5) (eC (.int 1)))) [6, 7] (.many [6, 7]) (tOf (eB gEq (eVar 7) (eC (.str "waits")))) (eVar 6)))) (gSeq (gSet 4 (cOf (eB gAdd (eLc (iSeq (eVar 3)) [6] (.one 6) (tOf (eB (gIn true) (eVar 6) (eVar 2))) (eTup (aCons (eC (.str "down")) (aCons (eVar 6) aNil)))) (eLc (iSeq (eVar 2)) [6] (.one 6) (tOf (eB (gIn true) (eVar 6) (eVar 3))) (eTup (aCons (eC (.str "up")) (aCons (eVar 6) aNil))))))) (gRet (eIf (tOf (eB gNe (eVar 4) (eLst aNil))) (eB gIx (eVar 4) (eC (.int 0))) (eC .none))))
def s_handed_on : GA := runF 8 b_handed_on
/-- chain_step: 0 chain, 1 states, 2 event, 3 found, 4 machine, 5 state, 6 behind -/
def b_chain_step : Fs := gSeq (gSet 3 (cLst aNil)) (gSeq (gFor (iZip (aCons (eVar 0) (aCons (eVar 1) aNil))) (.many [4, 5]) (gSeq (gSet 6 (cOf (eIf (tOf (eB gIsN (eVar 2) (eC .none))) (eVar 5) (eB gIx (eCall (gN 3 s_done) (aCons (eVar 4) (aCons (eVar 5) (aCons (eVar 2) aNil)))) (eC (.int 0)))))) (gSeq (gSet 2 (cOf (eCall (gN 2 s_handed_on) (aCons (eVar 5) (aCons (eVar 6) aNil))))) (gApp 3 (eVar 6))))) (gSeq (gFrz 3) (gRet (eTuple (eVar 3)))))
def s_chain_step : GA := runF 7 b_chain_step
/-- chain_sound: 0 states, 1 state, 2 key -/
def b_chain_sound : Fs := gRet (eTuple (eCall gSorted (aCons (eLc2 (iSeq (eVar 0)) [1, 2] (.one 1) ftT (iSeq (eCall (gN 1 s_sound_of) (aCons (eVar 1) aNil))) [2] (.one 2) ftT (eVar 2)) aNil)))
def s_chain_sound : GA := runF 3 b_chain_sound
/-- chain_path: 0 chain, 1 play, 2 found, 3 event -/
def b_chain_path : Fs := gSeq (gDrop (eCall (gN 1 s_need_chain) (aCons (eVar 0) aNil))) (gSeq (gDrop (eCall (gN 1 s_need_play) (aCons (eVar 1) aNil))) (gSeq (gIf (tOf (eB (gIn false) (eTup (aCons (eC (.str "press")) aNil)) (eVar 1))) gNever gNext) (gSeq (gSet 2 (cLst (aCons (eB gMul (eTup (aCons (eC c_START) aNil)) (eCall gLen (aCons (eVar 0) aNil))) aNil))) (gSeq (gFor (iSeq (eVar 1)) (.one 3) (gApp 2 (eCall (gN 3 s_chain_step) (aCons (eVar 0) (aCons (eIxO 2 (eNeg (eC (.int 1)))) (aCons (eVar 3) aNil)))))) (gSeq (gFrz 2) (gRet (eVar 2)))))))
def s_chain_path : GA := runF 4 b_chain_path
/-- chain_trace: 0 chain, 1 play, 2 states -/
def b_chain_trace : Fs := gRet (eTuple (eLc (iSeq (eCut (eCall (gN 2 s_chain_path) (aCons (eVar 0) (aCons (eVar 1) aNil))) (oSome (eC (.int 1))) oNone)) [2] (.one 2) ftT (eCall (gN 1 s_chain_sound) (aCons (eVar 2) aNil))))
def s_chain_trace : GA := runF 3 b_chain_trace
/-- chain_parting: 0 one, 1 other, 2 keys, 3 start, 4 came, 5 front, 6 events, 7 later, 8 here, 9 event, 10 behind -/
def b_chain_parting : Fs := gSeq (gDrop (eCall (gN 1 s_need_chain) (aCons (eVar 0) aNil))) (gSeq (gDrop (eCall (gN 1 s_need_chain) (aCons (eVar 1) aNil))) (gSeq (gDrop (eCall (gN 2 s_need_board) (aCons (eVar 2) (aCons (eC (.bool false)) aNil)))) (gSeq (gSet 3 (cOf (eTup (aCons (eB gMul (eTup (aCons (eC c_START) aNil)) (eCall gLen (aCons (eVar 0) aNil))) (aCons (eB gMul (eTup (aCons (eC c_START) aNil)) (eCall gLen (aCons (eVar 1) aNil))) aNil))))) (gSeq (gPar3 4 5 6 (cDisp1 (eVar 3) (eC .none)) (cOf (eLst (aCons (eVar 3) aNil))) (cOf (eCall (gN 2 s_all_events) (aCons (eVar 2) (aCons (eC (.bool false)) aNil))))) (gSeq (gWhile (tOf (eB gNe (eVar 5) (eLst aNil))) (gSeq (gSet 7 (cLst aNil)) (gSeq (gFor (iSeq (eVar 5)) (.one 8) (gFor (iSeq (eLc (iSeq (eVar 6)) [9] (.one 9) (tOf (eCall (gN 2 s_can_follow) (aCons (eB gIx (eB gIx (eVar 8) (eC (.int 0))) (eC (.int 0))) (aCons (eVar 9) aNil)))) (eVar 9))) (.one 9) (gSeq (gSet 10 (cOf (eTup (aCons (eCall (gN 3 s_chain_step) (aCons (eVar 0) (aCons (eB gIx (eVar 8) (eC (.int 0))) (aCons (eVar 9) aNil)))) (aCons (eCall (gN 3 s_chain_step) (aCons (eVar 1) (aCons (eB gIx (eVar 8) (eC (.int 1))) (aCons (eVar 9) aNil)))) aNil))))) (gIf (tOf (eInO true 4 (eVar 10))) (gSeq (gPutO 4 (eVar 10) (eTup (aCons (eVar 8) (aCons (eVar 9) aNil)))) (gSeq (gApp 7 (eVar 10)) (gIf (tOf (eB gNe (eCall (gN 1 s_chain_sound) (aCons (eB gIx (eVar 10) (eC (.int 0))) aNil)) (eCall (gN 1 s_chain_sound) (aCons (eB gIx (eVar 10) (eC (.int 1))) aNil)))) (gSeq (gFrz 4) (gRet (eCall (gN 2 s_play_to) (aCons (eVar 4) (aCons (eVar 10) aNil))))) gNext))) gNext)))) (gSeq (gFrz 7) (gSet 5 (cOf (eVar 7)))))) fuel) (gRet (eC .none)))))))
def s_chain_parting : GA := runF 11 b_chain_parting
/-- chain_alike: 0 one, 1 other, 2 keys -/
def b_chain_alike : Fs := gRet (eB gIsN (eCall (gN 3 s_chain_parting) (aCons (eVar 0) (aCons (eVar 1) (aCons (eVar 2) aNil)))) (eC .none))
def s_chain_alike : GA := runF 3 b_chain_alike
/-- _law_loud: 0 row, 1 pair -/
def b_law_loud : Fs := gRet (eLc (iSeq (eVar 0)) [1] (.one 1) (tOf (eB gNe (eB gIx (eVar 1) (eC (.int 1))) (eC (.str "waits")))) (eVar 1))
def s_law_loud : GA := runF 2 b_law_loud
/-- _law_sound: 0 state, 1 pair -/
def b_law_sound : Fs := gRet (eTuple (eCall gSorted (aCons (eLc (iSeq (eCall (gN 1 s_law_loud) (aCons (eB gIx (eVar 0) (eC (.int 1))) aNil))) [1] (.one 1) ftT (eB gIx (eVar 1) (eC (.int 0)))) aNil)))
def s_law_sound : GA := runF 2 b_law_sound
/-- _law_end: 0 word, 1 some, 2 heights, 3 chosen_so, 4 pair -/
def b_law_end : Fs := gSeq (gSet 2 (cOf (eLc (iSeq (eVar 1)) [4] (.one 4) ftT (eB gIx (eVar 4) (eC (.int 0)))))) (gSeq (gSet 3 (cDisp [("eldest", eCut (eVar 2) oNone (oSome (eC (.int 1)))), ("latest", eCut (eVar 2) (oSome (eNeg (eC (.int 1)))) oNone), ("lowest", eLst (aCons (eCall gMin (aCons (eVar 2) aNil)) aNil)), ("highest", eLst (aCons (eCall gMax (aCons (eVar 2) aNil)) aNil))])) (gRet (eGet2 3 (eVar 0) (eLst aNil))))
def s_law_end : GA := runF 5 b_law_end
/-- _law_left: 0 word, 1 ringing, 2 some, 3 key, 4 low, 5 high, 6 spared, 7 pair -/
def b_law_left : Fs := gSeq (gPar 4 5 (cOf (eCall gMin (aCons (eLc (iSeq (eVar 1)) [7] (.one 7) ftT (eB gIx (eVar 7) (eC (.int 0)))) aNil))) (cOf (eCall gMax (aCons (eLc (iSeq (eVar 1)) [7] (.one 7) ftT (eB gIx (eVar 7) (eC (.int 0)))) aNil)))) (gSeq (gIf (tOf (eB (gIn false) (eVar 0) (eTup (aCons (eC (.str "below")) (aCons (eC (.str "under")) aNil))))) (gRet (eLc (iSeq (eVar 2)) [7] (.one 7) (tOf (eB (gCmp fun i j => decide (i < j)) (eB gIx (eVar 7) (eC (.int 0))) (eVar 3))) (eVar 7))) gNext) (gSeq (gIf (tOf (eB (gIn false) (eVar 0) (eTup (aCons (eC (.str "above")) (aCons (eC (.str "over")) aNil))))) (gRet (eLc (iSeq (eVar 2)) [7] (.one 7) (tOf (eB (gCmp fun i j => decide (j < i)) (eB gIx (eVar 7) (eC (.int 0))) (eVar 3))) (eVar 7))) gNext) (gSeq (gSet 6 (cOf (eDisp [("kept", eLst aNil), ("notlow", eLst (aCons (eVar 4) aNil)), ("nothigh", eLst (aCons (eVar 5) aNil)), ("inner", eLst (aCons (eVar 4) (aCons (eVar 5) aNil)))] (eVar 0)))) (gRet (eLc (iSeq (eVar 2)) [7] (.one 7) (ftAnd (tOf (eB (gIn true) (eB gIx (eVar 7) (eC (.int 0))) (eVar 6))) (ftOr (tOf (eB gNe (eVar 0) (eC (.str "kept")))) (tOf (eB gEq (eB gIx (eVar 7) (eC (.int 1))) (eC (.str "kept")))))) (eVar 7))))))
def s_law_left : GA := runF 8 b_law_left
/-- _law_taken: 0 machine, 1 row, 2 key, 3 ringing, 4 some, 5 word, 6 left -/
def b_law_taken : Fs := gSeq (gSet 3 (cOf (eCall (gN 1 s_law_loud) (aCons (eVar 1) aNil)))) (gSeq (gIf (tOf (eB (gCmp fun i j => decide (i < j)) (eCall gLen (aCons (eVar 3) aNil)) (eB gIx (eVar 0) (eC (.int 0))))) (gRet (eLst aNil)) gNext) (gSeq (gSet 4 (cOf (eVar 3))) (gSeq (gFor (iSeq (eCut (eB gIx (eVar 0) (eC (.int 1))) oNone (oSome (eNeg (eC (.int 1)))))) (.one 5) (gSeq (gSet 6 (cOf (eCall (gN 4 s_law_left) (aCons (eVar 5) (aCons (eVar 3) (aCons (eVar 4) (aCons (eVar 2) aNil))))))) (gSeq (gIf (ftAnd (tOf (eB gEq (eVar 6) (eLst aNil))) (tOf (eB (gIn false) (eVar 5) (eTup (aCons (eC (.str "under")) (aCons (eC (.str "over")) aNil)))))) (gRet (eLst aNil)) gNext) (gSet 4 (cOf (eIf (tOf (eB gNe (eVar 6) (eLst aNil))) (eVar 6) (eVar 4))))))) (gRet (eCall (gN 2 s_law_end) (aCons (eB gIx (eB gIx (eVar 0) (eC (.int 1))) (eNeg (eC (.int 1)))) (aCons (eVar 4) aNil)))))))
def s_law_taken : GA := runF 7 b_law_taken
/-- _law_marked: 0 row, 1 key, 2 mark, 3 one -/
def b_law_marked : Fs := gRet (eLc (iSeq (eVar 0)) [3] (.one 3) ftT (eIf (tOf (eB gEq (eB gIx (eVar 3) (eC (.int 0))) (eVar 1))) (eTup (aCons (eB gIx (eVar 3) (eC (.int 0))) (aCons (eVar 2) aNil))) (eVar 3)))
def s_law_marked : GA := runF 4 b_law_marked
/-- _law_filled: 0 machine, 1 row, 2 found, 3 turn, 4 waiting, 5 pair -/
def b_law_filled : Fs := gSeq (gSet 2 (cLst aNil)) (gSeq (gFor (iRange (eCall gLen (aCons (eVar 1) aNil))) (.one 3) (gSeq (gSet 4 (cOf (eLc (iSeq (eVar 1)) [5] (.one 5) (tOf (eB gEq (eB gIx (eVar 5) (eC (.int 1))) (eC (.str "waits")))) (eVar 5)))) (gIf (ftAnd (tOf (eB gNe (eB gIx (eVar 0) (eC (.int 2))) (eC (.str "none")))) (ftAnd (tOf (eB gNe (eVar 4) (eLst aNil))) (tOf (eB (gCmp fun i j => decide (i < j)) (eCall gLen (aCons (eCall (gN 1 s_law_loud) (aCons (eVar 1) aNil)) aNil)) (eB gIx (eVar 0) (eC (.int 0))))))) (gSeq (gApp 2 (eB gIx (eCall (gN 2 s_law_end) (aCons (eB gIx (eVar 0) (eC (.int 2))) (aCons (eVar 4) aNil))) (eC (.int 0)))) (gSet 1 (cOf (eCall (gN 3 s_law_marked) (aCons (eVar 1) (aCons (eIxO 2 (eNeg (eC (.int 1)))) (aCons (eC (.str "sounds")) aNil))))))) gNext))) (gSeq (gFrz 2) (gRet (eTup (aCons (eVar 1) (aCons (eVar 2) aNil))))))
def s_law_filled : GA := runF 6 b_law_filled
/-- _law_gone_down: 0 machine, 1 row, 2 key, 3 taken, 4 rest, 5 pair -/
def b_law_gone_down : Fs := gSeq (gIf (tOf (eB (gIn false) (eTup (aCons (eVar 2) (aCons (eC (.str "kept")) aNil))) (eVar 1))) (gRet (eTup (aCons (eB gAdd (eLc (iSeq (eVar 1)) [5] (.one 5) (tOf (eB gNe (eB gIx (eVar 5) (eC (.int 0))) (eVar 2))) (eVar 5)) (eLst (aCons (eTup (aCons (eVar 2) (aCons (eC (.str "sounds")) aNil))) aNil))) (aCons (eLst (aCons (eTup (aCons (eC (.str "again")) (aCons (eVar 2) aNil))) aNil)) aNil)))) gNext) (gSeq (gIf (tOf (eB (gCmp fun i j => decide (i < j)) (eCall gLen (aCons (eCall (gN 1 s_law_loud) (aCons (eVar 1) aNil)) aNil)) (eB gIx (eVar 0) (eC (.int 0))))) (gRet (eTup (aCons (eB gAdd (eVar 1) (eLst (aCons (eTup (aCons (eVar 2) (aCons (eC (.str "sounds")) aNil))) aNil))) (aCons (eLst (aCons (eTup (aCons (eC (.str "begin")) (aCons (eVar 2) aNil))) aNil)) aNil)))) gNext) (gSeq (gSet 3 (cOf (eCall (gN 3 s_law_taken) (aCons (eVar 0) (aCons (eVar 1) (aCons (eVar 2) aNil)))))) (gSeq (gIf (tOf (eB gEq (eVar 3) (eLst aNil))) (gRet (eTup (aCons (eB gAdd (eVar 1) (eLst (aCons (eTup (aCons (eVar 2) (aCons (eC (.str "waits")) aNil))) aNil))) (aCons (eLst (aCons (eTup (aCons (eC (.str "refuse")) (aCons (eVar 2) aNil))) aNil)) aNil)))) gNext) (gSeq (gSet 4 (cOf (eLc (iSeq (eVar 1)) [5] (.one 5) (tOf (eB gNe (eVar 5) (eTup (aCons (eB gIx (eVar 3) (eC (.int 0))) (aCons (eC (.str "kept")) aNil))))) (eVar 5)))) (gRet (eTup (aCons (eB gAdd (eCall (gN 3 s_law_marked) (aCons (eVar 4) (aCons (eB gIx (eVar 3) (eC (.int 0))) (aCons (eC (.str "waits")) aNil)))) (eLst (aCons (eTup (aCons (eVar 2) (aCons (eC (.str "sounds")) aNil))) aNil))) (aCons (eLst (aCons (eTup (aCons (eC (.str "cut")) (aCons (eB gIx (eVar 3) (eC (.int 0))) aNil))) (aCons (eTup (aCons (eC (.str "begin")) (aCons (eVar 2) aNil))) aNil))) aNil))))))))
def s_law_gone_down : GA := runF 6 b_law_gone_down
/-- _law_stepped: 0 machine, 1 state, 2 event, 3 foot, 4 row, 5 deeds_so, 6 gone, 7 back, 8 pair, 9 key -/
def b_law_stepped : Fs := gSeq (gPar 3 4 (cOf (eB gIx (eVar 1) (eC (.int 0)))) (cOf (eCall gList (aCons (eB gIx (eVar 1) (eC (.int 1))) aNil)))) (gSeq (gIf (tOf (eB gEq (eB gIx (eVar 2) (eC (.int 0))) (eC (.str "press")))) (gRet (eTup (aCons (eTup (aCons (eC (.bool true)) (aCons (eB gIx (eVar 1) (eC (.int 1))) aNil))) (aCons (eTup aNil) aNil)))) gNext) (gSeq (gIf (tOf (eB gEq (eB gIx (eVar 2) (eC (.int 0))) (eC (.str "down")))) (gSeq (gPut (.many [4, 5]) (eCall (gN 3 s_law_gone_down) (aCons (eVar 0) (aCons (eVar 4) (aCons (eB gIx (eVar 2) (eC (.int 1))) aNil))))) (gRet (eTup (aCons (eTup (aCons (eVar 3) (aCons (eTuple (eVar 4)) aNil))) (aCons (eTuple (eVar 5)) aNil))))) gNext) (gSeq (gIf (ftAnd (tOf (eB gEq (eB gIx (eVar 2) (eC (.int 0))) (eC (.str "up")))) (tOf (eB (gIn false) (eTup (aCons (eB gIx (eVar 2) (eC (.int 1))) (aCons (eC (.str "waits")) aNil))) (eVar 4)))) (gRet (eTup (aCons (eTup (aCons (eVar 3) (aCons (eTuple (eLc (iSeq (eVar 4)) [8] (.one 8) (tOf (eB gNe (eB gIx (eVar 8) (eC (.int 0))) (eB gIx (eVar 2) (eC (.int 1))))) (eVar 8))) aNil))) (aCons (eTup (aCons (eTup (aCons (eC (.str "leave")) (aCons (eB gIx (eVar 2) (eC (.int 1))) aNil))) aNil)) aNil)))) gNext) (gSeq (gIf (ftAnd (tOf (eB gEq (eB gIx (eVar 2) (eC (.int 0))) (eC (.str "up")))) (tOf (eVar 3))) (gRet (eTup (aCons (eTup (aCons (eVar 3) (aCons (eTuple (eCall (gN 3 s_law_marked) (aCons (eVar 4) (aCons (eB gIx (eVar 2) (eC (.int 1))) (aCons (eC (.str "kept")) aNil))))) aNil))) (aCons (eTup (aCons (eTup (aCons (eC (.str "keep")) (aCons (eB gIx (eVar 2) (eC (.int 1))) aNil))) aNil)) aNil)))) gNext) (gSeq (gSet 6 (cOf (eIf (tOf (eB gEq (eB gIx (eVar 2) (eC (.int 0))) (eC (.str "lift")))) (eLc (iSeq (eVar 4)) [8] (.one 8) (tOf (eB gEq (eB gIx (eVar 8) (eC (.int 1))) (eC (.str "kept")))) (eB gIx (eVar 8) (eC (.int 0)))) (eLst (aCons (eB gIx (eVar 2) (eC (.int 1))) aNil))))) (gSeq (gPut (.many [4, 7]) (eCall (gN 2 s_law_filled) (aCons (eVar 0) (aCons (eLc (iSeq (eVar 4)) [8] (.one 8) (tOf (eB (gIn true) (eB gIx (eVar 8) (eC (.int 0))) (eVar 6))) (eVar 8)) aNil)))) (gRet (eTup (aCons (eTup (aCons (eC (.bool false)) (aCons (eTuple (eVar 4)) aNil))) (aCons (eTuple (eB gAdd (eLc (iSeq (eVar 6)) [9] (.one 9) ftT (eTup (aCons (eC (.str "end")) (aCons (eVar 9) aNil)))) (eLc (iSeq (eVar 7)) [9] (.one 9) ftT (eTup (aCons (eC (.str "back")) (aCons (eVar 9) aNil)))))) aNil))))))))))
def s_law_stepped : GA := runF 10 b_law_stepped
/-- _law_events: 0 wide, 1 foot, 2 found, 3 key -/
def b_law_events : Fs := gSeq (gSet 2 (cOf (eB gAdd (eLc (iRange (eVar 0)) [3] (.one 3) ftT (eTup (aCons (eC (.str "down")) (aCons (eVar 3) aNil)))) (eLc (iRange (eVar 0)) [3] (.one 3) ftT (eTup (aCons (eC (.str "up")) (aCons (eVar 3) aNil))))))) (gRet (eB gAdd (eVar 2) (eB gMul (eLst (aCons (eTup (aCons (eC (.str "press")) aNil)) (aCons (eTup (aCons (eC (.str "lift")) aNil)) aNil))) (eCall gInt (aCons (eVar 1) aNil)))))
def s_law_events : GA := runF 4 b_law_events
/-- _law_can: 0 state, 1 event, 2 is_down, 3 pair -/
def b_law_can : Fs := gSeq (gIf (tOf (eB (gIn false) (eB gIx (eVar 1) (eC (.int 0))) (eTup (aCons (eC (.str "press")) (aCons (eC (.str "lift")) aNil))))) (gRet (eB gEq (eB gIx (eVar 0) (eC (.int 0))) (eB gEq (eB gIx (eVar 1) (eC (.int 0))) (eC (.str "lift"))))) gNext) (gSeq (gSet 2 (cOf (eB gNe (eLc (iSeq (eB gIx (eVar 0) (eC (.int 1)))) [3] (.one 3) (ftAnd (tOf (eB gEq (eB gIx (eVar 3) (eC (.int 0))) (eB gIx (eVar 1) (eC (.int 1))))) (tOf (eB gNe (eB gIx (eVar 3) (eC (.int 1))) (eC (.str "kept"))))) (eVar 3)) (eLst aNil)))) (gRet (eB gEq (eVar 2) (eB gEq (eB gIx (eVar 1) (eC (.int 0))) (eC (.str "up"))))))
def s_law_can : GA := runF 4 b_law_can
/-- _law_handed: 0 before, 1 behind, 2 old, 3 new, 4 pair, 5 key -/
def b_law_handed : Fs := gSeq (gSet 2 (cOf (eLc (iSeq (eB gIx (eVar 0) (eC (.int 1)))) [4] (.one 4) (tOf (eB gEq (eB gIx (eVar 4) (eC (.int 1))) (eC (.str "waits")))) (eB gIx (eVar 4) (eC (.int 0)))))) (gSeq (gSet 3 (cOf (eLc (iSeq (eB gIx (eVar 1) (eC (.int 1)))) [4] (.one 4) (tOf (eB gEq (eB gIx (eVar 4) (eC (.int 1))) (eC (.str "waits")))) (eB gIx (eVar 4) (eC (.int 0)))))) (gRet (eB gAdd (eLc (iSeq (eVar 3)) [5] (.one 5) (tOf (eB (gIn true) (eVar 5) (eVar 2))) (eTup (aCons (eC (.str "down")) (aCons (eVar 5) aNil)))) (eLc (iSeq (eVar 2)) [5] (.one 5) (tOf (eB (gIn true) (eVar 5) (eVar 3))) (eTup (aCons (eC (.str "up")) (aCons (eVar 5) aNil)))))))
def s_law_handed : GA := runF 6 b_law_handed
/-- _law_linked: 0 chain, 1 states, 2 event, 3 found, 4 some, 5 machine, 6 state, 7 behind, 8 one -/
def b_law_linked : Fs := gSeq (gPar 3 4 (cLst aNil) (cOf (eLst (aCons (eVar 2) aNil)))) (gSeq (gFor (iZip (aCons (eVar 0) (aCons (eVar 1) aNil))) (.many [5, 6]) (gSeq (gSet 7 (cOf (eVar 6))) (gSeq (gFor (iSeq (eVar 4)) (.one 8) (gSet 7 (cOf (eB gIx (eCall (gN 3 s_law_stepped) (aCons (eVar 5) (aCons (eVar 7) (aCons (eVar 8) aNil)))) (eC (.int 0)))))) (gSeq (gSet 4 (cOf (eCall (gN 2 s_law_handed) (aCons (eVar 6) (aCons (eVar 7) aNil))))) (gApp 3 (eVar 7)))))) (gSeq (gFrz 3) (gRet (eTuple (eVar 3)))))
def s_law_linked : GA := runF 9 b_law_linked
/-- _law_chain_sound: 0 states, 1 found, 2 state -/
def b_law_chain_sound : Fs := gSeq (gSet 1 (cOf (eLst aNil))) (gSeq (gFor (iSeq (eVar 0)) (.one 2) (gSet 1 (cOf (eB gAdd (eVar 1) (eCall gList (aCons (eCall (gN 1 s_law_sound) (aCons (eVar 2) aNil)) aNil)))))) (gRet (eTuple (eCall gSorted (aCons (eVar 1) aNil)))))
def s_law_chain_sound : GA := runF 3 b_law_chain_sound
/-- _law_chained: 0 one, 1 other, 2 wide, 3 front, 4 turns, 5 found, 6 later, 7 pair, 8 event, 9 behind, 10 apart, 11 step_so -/
def b_law_chained : Fs := gSeq (gPar 3 4 (cOf (eLst (aCons (eTup (aCons (eB gMul (eTup (aCons (eTup (aCons (eC (.bool false)) (aCons (eTup aNil) aNil))) aNil)) (eCall gLen (aCons (eVar 0) aNil))) (aCons (eB gMul (eTup (aCons (eTup (aCons (eC (.bool false)) (aCons (eTup aNil) aNil))) aNil)) (eCall gLen (aCons (eVar 1) aNil))) aNil))) aNil))) (cOf (eC (.int 0)))) (gSeq (gSet 5 (cDisp1 (eB gIx (eVar 3) (eC (.int 0))) (eC (.int 0)))) (gSeq (gWhile (tOf (eB gNe (eVar 3) (eLst aNil))) (gSeq (gPar 6 4 (cLst aNil) (cOf (eB gAdd (eVar 4) (eC (.int 1))))) (gSeq (gFor (iSeq (eCall gList (aCons (eVar 3) aNil))) (.one 7) (gFor (iSeq (eLc (iSeq (eCall (gN 2 s_law_events) (aCons (eVar 2) (aCons (eC (.bool false)) aNil)))) [11] (.one 11) (tOf (eCall (gN 2 s_law_can) (aCons (eB gIx (eB gIx (eVar 7) (eC (.int 0))) (eC (.int 0))) (aCons (eVar 11) aNil)))) (eVar 11))) (.one 8) (gSeq (gSet 9 (cOf (eTup (aCons (eCall (gN 3 s_law_linked) (aCons (eVar 0) (aCons (eB gIx (eVar 7) (eC (.int 0))) (aCons (eVar 8) aNil)))) (aCons (eCall (gN 3 s_law_linked) (aCons (eVar 1) (aCons (eB gIx (eVar 7) (eC (.int 1))) (aCons (eVar 8) aNil)))) aNil))))) (gIf (tOf (eInO true 5 (eVar 9))) (gSeq (gPutO 5 (eVar 9) (eVar 4)) (gApp 6 (eVar 9))) gNext)))) (gSeq (gFrz 6) (gSeq (gSet 10 (cOf (eLc (iSeq (eVar 6)) [7] (.one 7) (tOf (eB gNe (eCall (gN 1 s_law_chain_sound) (aCons (eB gIx (eVar 7) (eC (.int 0))) aNil)) (eCall (gN 1 s_law_chain_sound) (aCons (eB gIx (eVar 7) (eC (.int 1))) aNil)))) (eVar 7)))) (gSeq (gFrz 6) (gSet 3 (cOf (eIf (tOf (eB gEq (eVar 10) (eLst aNil))) (eVar 6) (eLst aNil))))))))) fuel) (gSeq (gFrz 5) (gRet (eVar 5)))))
def s_law_chained : GA := runF 12 b_law_chained
/-- _law_right: 0 one, 1 other, 2 wide, 3 play, 4 some, 5 due, 6 pair, 7 event -/
def b_law_right : Fs := gSeq (gSet 4 (cOf (eCall (gN 3 s_law_chained) (aCons (eVar 0) (aCons (eVar 1) (aCons (eVar 2) aNil)))))) (gSeq (gSet 5 (cOf (eLc (iKeysD (eVar 4)) [6] (.one 6) (tOf (eB gNe (eCall (gN 1 s_law_chain_sound) (aCons (eB gIx (eVar 6) (eC (.int 0))) aNil)) (eCall (gN 1 s_law_chain_sound) (aCons (eB gIx (eVar 6) (eC (.int 1))) aNil)))) (eB gDix (eVar 4) (eVar 6))))) (gSeq (gIf (ftOr (tOf (eB gEq (eVar 5) (eLst aNil))) (tOf (eB gIsN (eVar 3) (eC .none)))) (gRet (eAnd (eB gEq (eVar 5) (eLst aNil)) (eB gIsN (eVar 3) (eC .none)))) gNext) (gSeq (gIf (ftOr (ftNot (tOf (eIsi "tuple" (eVar 3)))) (ftOr (tOf (eB gNe (eCall gLen (aCons (eVar 3) aNil)) (eCall gMin (aCons (eVar 5) aNil)))) (ftNot (tOf (eCall (gN 1 s_is_play) (aCons (eVar 3) aNil)))))) (gRet (eC (.bool false))) gNext) (gSeq (gIf (tOf (eB gNe (eLc (iSeq (eVar 3)) [7] (.one 7) (tOf (eB (gIn true) (eVar 7) (eCall (gN 2 s_law_events) (aCons (eVar 2) (aCons (eC (.bool false)) aNil))))) (eVar 7)) (eLst aNil))) (gRet (eC (.bool false))) gNext) (gRet (eB gNe (eB gIx (eCall (gN 2 s_chain_trace) (aCons (eVar 0) (aCons (eVar 3) aNil))) (eNeg (eC (.int 1)))) (eB gIx (eCall (gN 2 s_chain_trace) (aCons (eVar 1) (aCons (eVar 3) aNil))) (eNeg (eC (.int 1))))))))))
def s_law_right : GA := runF 8 b_law_right
end SV

/-! Walk0: the text's places and what the top leaves (printed by gen.py). -/
namespace SV
open PySem L2 DL
def topS (i : Nat) : Stmt := PySem.Challenge.pw_stolenvoices_k55_whole_chain_partings.main.body.getD i (.Pass ⟨0, 0, 0, 0⟩)
/-- a def of the top, where it stands -/
def DefAt (K : PySem.W.Frag) (mg : Str → Option Value) (x : Str) (st : Stmt) : Prop := ∃ f fd, Fun K x x st f fd ∧ mg x = some (.ref f)
structure Txt (K : PySem.W.Frag) (w : World) (mg : Str → Option Value) : Prop where
  g_len : mg "len" = none
  g_min : mg "min" = none
  g_max : mg "max" = none
  g_sorted : mg "sorted" = none
  g_tuple : mg "tuple" = none
  g_list : mg "list" = none
  g_int : mg "int" = none
  g_isinstance : mg "isinstance" = none
  g_range : mg "range" = none
  g_enumerate : mg "enumerate" = none
  g_zip : mg "zip" = none
  g_repr : mg "repr" = none
  g_bool : mg "bool" = none
  g_str : mg "str" = none
  c_FILTERS : GlD ⟨K, w⟩ mg "FILTERS" c_FILTERS
  c_ENDS : GlD ⟨K, w⟩ mg "ENDS" c_ENDS
  c_RETURNS : GlD ⟨K, w⟩ mg "RETURNS" c_RETURNS
  c_MOST_VOICES : GlD ⟨K, w⟩ mg "MOST_VOICES" c_MOST_VOICES
  c_MOST_CRITERIA : GlD ⟨K, w⟩ mg "MOST_CRITERIA" c_MOST_CRITERIA
  c_MOST_KEY : GlD ⟨K, w⟩ mg "MOST_KEY" c_MOST_KEY
  c_START : GlD ⟨K, w⟩ mg "START" c_START
  c_WITH_KEY : GlD ⟨K, w⟩ mg "WITH_KEY" c_WITH_KEY
  c_OF_PEDAL : GlD ⟨K, w⟩ mg "OF_PEDAL" c_OF_PEDAL
  c_MOST_ON_BOARD : GlD ⟨K, w⟩ mg "MOST_ON_BOARD" c_MOST_ON_BOARD
  c_MOST_WITH_PEDAL : GlD ⟨K, w⟩ mg "MOST_WITH_PEDAL" c_MOST_WITH_PEDAL
  c_MOST_EVENTS : GlD ⟨K, w⟩ mg "MOST_EVENTS" c_MOST_EVENTS
  c_MOST_LINKS : GlD ⟨K, w⟩ mg "MOST_LINKS" c_MOST_LINKS
  d_is_whole : DefAt K mg "is_whole" (topS 13)
  d_is_key : DefAt K mg "is_key" (topS 14)
  d_is_word_of : DefAt K mg "is_word_of" (topS 15)
  d_criteria_fault : DefAt K mg "criteria_fault" (topS 16)
  d_machine_fault : DefAt K mg "machine_fault" (topS 17)
  d_need_machine : DefAt K mg "need_machine" (topS 18)
  d_loud : DefAt K mg "loud" (topS 21)
  d_sound_of : DefAt K mg "sound_of" (topS 22)
  d_mark_of : DefAt K mg "mark_of" (topS 23)
  d_is_event : DefAt K mg "is_event" (topS 27)
  d_can_follow : DefAt K mg "can_follow" (topS 28)
  d_filtered : DefAt K mg "filtered" (topS 29)
  d_chosen : DefAt K mg "chosen" (topS 30)
  d_victim_of : DefAt K mg "victim_of" (topS 31)
  d_returned : DefAt K mg "returned" (topS 32)
  d_after_down : DefAt K mg "after_down" (topS 33)
  d_after_up : DefAt K mg "after_up" (topS 34)
  d_after_lift : DefAt K mg "after_lift" (topS 35)
  d_done : DefAt K mg "done" (topS 36)
  d_need_board : DefAt K mg "need_board" (topS 40)
  d_all_events : DefAt K mg "all_events" (topS 41)
  d_play_to : DefAt K mg "play_to" (topS 42)
  d_play_fault : DefAt K mg "play_fault" (topS 45)
  d_need_play : DefAt K mg "need_play" (topS 46)
  d_is_play : DefAt K mg "is_play" (topS 47)
  d_need_chain : DefAt K mg "need_chain" (topS 50)
  d_handed_on : DefAt K mg "handed_on" (topS 51)
  d_chain_step : DefAt K mg "chain_step" (topS 52)
  d_chain_sound : DefAt K mg "chain_sound" (topS 53)
  d_chain_path : DefAt K mg "chain_path" (topS 54)
  d_chain_trace : DefAt K mg "chain_trace" (topS 55)
  d_chain_parting : DefAt K mg "chain_parting" (topS 56)
  d_chain_alike : DefAt K mg "chain_alike" (topS 57)
  d_law_begun : DefAt K mg "_law_begun" (topS 59)
  d_law_draw : DefAt K mg "_law_draw" (topS 60)
  d_law_of : DefAt K mg "_law_of" (topS 61)
  d_law_machine : DefAt K mg "_law_machine" (topS 62)
  d_law_loud : DefAt K mg "_law_loud" (topS 63)
  d_law_sound : DefAt K mg "_law_sound" (topS 64)
  d_law_end : DefAt K mg "_law_end" (topS 65)
  d_law_left : DefAt K mg "_law_left" (topS 66)
  d_law_taken : DefAt K mg "_law_taken" (topS 67)
  d_law_marked : DefAt K mg "_law_marked" (topS 68)
  d_law_filled : DefAt K mg "_law_filled" (topS 69)
  d_law_gone_down : DefAt K mg "_law_gone_down" (topS 70)
  d_law_stepped : DefAt K mg "_law_stepped" (topS 71)
  d_law_events : DefAt K mg "_law_events" (topS 72)
  d_law_can : DefAt K mg "_law_can" (topS 73)
  d_law_handed : DefAt K mg "_law_handed" (topS 75)
  d_law_linked : DefAt K mg "_law_linked" (topS 76)
  d_law_chain_sound : DefAt K mg "_law_chain_sound" (topS 77)
  d_law_chained : DefAt K mg "_law_chained" (topS 78)
  d_law_near_chain : DefAt K mg "_law_near_chain" (topS 79)
  d_law_right : DefAt K mg "_law_right" (topS 80)
  d_law : DefAt K mg "law" (topS 81)
theorem isi_int : ∀ t ∈ (["NoneType", "bool", "int", "str", "list", "tuple"] : List String), kitB t "int" = some (if t = "int" then true else if "int" = "int" then decide (t = "bool") else false) := by decide +kernel
theorem isi_bool : ∀ t ∈ (["NoneType", "bool", "int", "str", "list", "tuple"] : List String), kitB t "bool" = some (if t = "bool" then true else if "bool" = "int" then decide (t = "bool") else false) := by decide +kernel
theorem isi_str : ∀ t ∈ (["NoneType", "bool", "int", "str", "list", "tuple"] : List String), kitB t "str" = some (if t = "str" then true else if "str" = "int" then decide (t = "bool") else false) := by decide +kernel
theorem isi_tuple : ∀ t ∈ (["NoneType", "bool", "int", "str", "list", "tuple"] : List String), kitB t "tuple" = some (if t = "tuple" then true else if "tuple" = "int" then decide (t = "bool") else false) := by decide +kernel
theorem psd_app' {X : Cx} {x : Str} {a : Expr} {f : Fx} {i : Nat} {p apos pos : Pos} (hx : PE X (.Name x p) (tVar i)) (ha : PD X a f) (he : starEach [a] X.env = [(false, eval a X.env)] := by rfl)
    (hs : swapsWith (.Call (.Attribute (.Name x p) "append" apos) [a] [] pos) none pos.line X.env = pure false := by rfl)
    (hb : ∀ t, PA X [a] t → PE X (.Call (.Attribute (.Name x p) "append" apos) [a] [] pos) (tBM X.K "list" rAppend (tVar i) t)) : PSD X (.Expr (.Call (.Attribute (.Name x p) "append" apos) [a] [] pos) pos) (gApp i f) := psd_app hx ha he hs (hb _ (pa_cons ha pa_nil he))
end SV

/-! Walk1: the defs' derivations (printed by gen.py). -/
namespace SV
open PySem L2 DL
theorem sc_is_whole : FnScope ["thing", "least", "most"] ["thing", "least", "most"] (defScope (topS 13)) := ⟨rfl, rfl, rfl, by decide +kernel, rfl, by decide +kernel, by decide +kernel⟩
theorem cal_is_whole {P : Program} {w : World} {K : PySem.W.Frag} {mg : Str → Option Value} {base : Heap} (T : Txt K w mg) : C8.Cal P w K mg base 1 "is_whole" (spD ⟨K, w⟩ 3 s_is_whole) [] := by
  obtain ⟨f, fd, F, hm⟩ := T.d_is_whole
  exact ⟨f, fd, ["thing", "least", "most"], [], fn_body (n := 3) (k := 0) (N := ["thing", "least", "most"]) F sc_is_whole rfl (by decide) fun cdv A outer s H E hr =>
    pssd_one (psd_ret (pd_and (pd_isi (T' := "int") isi_int T.g_int rfl (by decide +kernel) (by decide) (by decide) T.g_isinstance rfl (pd_var (pv 0))) (pd_and (pd_not (pd_isi (T' := "bool") isi_bool T.g_bool rfl (by decide +kernel) (by decide) (by decide) T.g_isinstance rfl (pd_var (pv 0)))) (pd_one (pd_chain (p := fun i j => decide (i ≤ j)) (p' := fun i j => decide (i ≤ j)) op_le op_le (pd_var (pv 1)) (pd_var (pv 0)) (pd_var (pv 2))))))),
    hm, F.kp, F.binds fun _ _ _ _ _ _ us hl => match us, hl with | [_, _, _], _ => rfl, .nil⟩
theorem sc_is_key : FnScope ["thing"] ["thing"] (defScope (topS 14)) := ⟨rfl, rfl, rfl, by decide +kernel, rfl, by decide +kernel, by decide +kernel⟩
theorem cal_is_key {P : Program} {w : World} {K : PySem.W.Frag} {mg : Str → Option Value} {base : Heap} (T : Txt K w mg) : C8.Cal P w K mg base 2 "is_key" (spD ⟨K, w⟩ 1 s_is_key) [] := by
  obtain ⟨f, fd, F, hm⟩ := T.d_is_key
  exact ⟨f, fd, ["thing"], [], fn_body (n := 1) (k := 1) (N := ["thing"]) F sc_is_key rfl (by decide) fun cdv A outer s H E hr =>
    pssd_one (psd_ret (pd_call (cal_is_whole T) hr (by decide) rfl (pda_cons (pd_var (pv 0)) (pda_cons pd_int (pda_cons (pd_gl T.c_MOST_KEY rfl) pda_nil))))),
    hm, F.kp, F.binds fun _ _ _ _ _ _ us hl => match us, hl with | [_], _ => rfl, .nil⟩
theorem sc_is_word_of : FnScope ["thing", "words"] ["thing", "words"] (defScope (topS 15)) := ⟨rfl, rfl, rfl, by decide +kernel, rfl, by decide +kernel, by decide +kernel⟩
theorem cal_is_word_of {P : Program} {w : World} {K : PySem.W.Frag} {mg : Str → Option Value} {base : Heap} (T : Txt K w mg) : C8.Cal P w K mg base 1 "is_word_of" (spD ⟨K, w⟩ 2 s_is_word_of) [] := by
  obtain ⟨f, fd, F, hm⟩ := T.d_is_word_of
  exact ⟨f, fd, ["thing", "words"], [], fn_body (n := 2) (k := 0) (N := ["thing", "words"]) F sc_is_word_of rfl (by decide) fun cdv A outer s H E hr =>
    pssd_one (psd_ret (pd_and (pd_isi (T' := "str") isi_str T.g_str rfl (by decide +kernel) (by decide) (by decide) T.g_isinstance rfl (pd_var (pv 0))) (pd_one (pd_C (pdc_in hr (pd_var (pv 0)) (pd_var (pv 1))))))),
    hm, F.kp, F.binds fun _ _ _ _ _ _ us hl => match us, hl with | [_, _], _ => rfl, .nil⟩
theorem sc_criteria_fault : FnScope ["criteria", "number", "word", "words"] ["criteria"] (defScope (topS 16)) := ⟨rfl, rfl, rfl, by decide +kernel, rfl, by decide +kernel, by decide +kernel⟩
theorem cal_criteria_fault {P : Program} {w : World} {K : PySem.W.Frag} {mg : Str → Option Value} {base : Heap} (T : Txt K w mg) : C8.Cal P w K mg base 2 "criteria_fault" (spD ⟨K, w⟩ 1 s_criteria_fault) [] := by
  obtain ⟨f, fd, F, hm⟩ := T.d_criteria_fault
  exact ⟨f, fd, ["criteria"], [], fn_body (n := 1) (k := 1) (N := ["criteria", "number", "word", "words"]) F sc_criteria_fault rfl (by decide) fun cdv A outer s H E hr =>
    pssd_cons (psd_if (pdt_W (pdw_or (pdt_not (pdt_v (pd_isi (T' := "tuple") isi_tuple T.g_tuple rfl (by decide +kernel) (by decide) (by decide) T.g_isinstance rfl (pd_var (pv 0))))) (pdw_or1 (pdt_not (pdt_chain (p := fun i j => decide (i ≤ j)) (p' := fun i j => decide (i ≤ j)) op_le op_le pd_int (pd_len T.g_len rfl (pd_var (pv 0))) (pd_gl T.c_MOST_CRITERIA rfl)))))) (pssd_one (psd_ret (pd_tup (pda_cons pd_str pda_nil)))) pssd_nil) (pssd_cons (psd_for PassesOwn.never rfl (pid_enum T.g_enumerate rfl (pd_var (pv 0))) (pgd_many rfl (pgsd_cons (pg_name (i := 1) sc_criteria_fault.nd rfl (Or.inl rfl)) (pgsd_cons (pg_name (i := 2) sc_criteria_fault.nd rfl (Or.inl rfl)) pgsd_nil)) rfl) (pssd_cons (psd_set (i := 3) sc_criteria_fault.nd rfl (Or.inl rfl) (pcd_d (pd_if (pdt_C (pdc_eq hr (pd_var (pv 1)) (pd_sub (pd_len T.g_len rfl (pd_var (pv 0))) pd_int))) (pd_gl T.c_ENDS rfl) (pd_gl T.c_FILTERS rfl)))) (pssd_one (psd_if (pdt_W (pdw_or (pdt_not (pdt_v (pd_call (cal_is_word_of T) hr (by decide) rfl (pda_cons (pd_var (pv 2)) (pda_cons (pd_var (pv 3)) pda_nil))))) (pdw_or1 (pdt_C (pdc_in hr (pd_var (pv 2)) (pd_cut (pd_var (pv 0)) pdo_none (pdo_some (pd_var (pv 1))))))))) (pssd_one (psd_ret (pd_tup (pda_cons pd_str (pda_cons (pd_var (pv 1)) pda_nil))))) pssd_nil)))) (pssd_one (psd_ret pd_non))),
    hm, F.kp, F.binds fun _ _ _ _ _ _ us hl => match us, hl with | [_], _ => rfl, .nil⟩
theorem sc_machine_fault : FnScope ["thing", "voices", "criteria", "back", "place"] ["thing"] (defScope (topS 17)) := ⟨rfl, rfl, rfl, by decide +kernel, rfl, by decide +kernel, by decide +kernel⟩
theorem cal_machine_fault {P : Program} {w : World} {K : PySem.W.Frag} {mg : Str → Option Value} {base : Heap} (T : Txt K w mg) : C8.Cal P w K mg base 3 "machine_fault" (spD ⟨K, w⟩ 1 s_machine_fault) [] := by
  obtain ⟨f, fd, F, hm⟩ := T.d_machine_fault
  exact ⟨f, fd, ["thing"], [], fn_body (n := 1) (k := 2) (N := ["thing", "voices", "criteria", "back", "place"]) F sc_machine_fault rfl (by decide) fun cdv A outer s H E hr =>
    pssd_cons (psd_if (pdt_W (pdw_or (pdt_not (pdt_v (pd_isi (T' := "tuple") isi_tuple T.g_tuple rfl (by decide +kernel) (by decide) (by decide) T.g_isinstance rfl (pd_var (pv 0))))) (pdw_or1 (pdt_C (pdc_ne hr (pd_len T.g_len rfl (pd_var (pv 0))) pd_int))))) (pssd_one (psd_ret (pd_tup pda_nil))) pssd_nil) (pssd_cons (psd_put (pd_var (pv 0)) (pgd_many rfl (pgsd_cons (pg_name (i := 1) sc_machine_fault.nd rfl (Or.inl rfl)) (pgsd_cons (pg_name (i := 2) sc_machine_fault.nd rfl (Or.inl rfl)) (pgsd_cons (pg_name (i := 3) sc_machine_fault.nd rfl (Or.inl rfl)) pgsd_nil))) rfl)) (pssd_cons (psd_if (pdt_not (pdt_v (pd_call (cal_is_whole T) hr (by decide) rfl (pda_cons (pd_var (pv 1)) (pda_cons pd_int (pda_cons (pd_gl T.c_MOST_VOICES rfl) pda_nil)))))) (pssd_one (psd_ret (pd_tup (pda_cons pd_str pda_nil)))) pssd_nil) (pssd_cons (psd_ifW (i := 4) sc_machine_fault.nd rfl (Or.inl rfl) (pd_call (cal_criteria_fault T) hr (by decide) rfl (pda_cons (pd_var (pv 2)) pda_nil)) (pssd_one (psd_ret (pd_var (pv 4)))) pssd_nil) (pssd_one (psd_ret (pd_if (pdt_v (pd_call (cal_is_word_of T) hr (by decide) rfl (pda_cons (pd_var (pv 3)) (pda_cons (pd_gl T.c_RETURNS rfl) pda_nil)))) pd_non (pd_tup (pda_cons pd_str pda_nil)))))))),
    hm, F.kp, F.binds fun _ _ _ _ _ _ us hl => match us, hl with | [_], _ => rfl, .nil⟩
end SV

/-! Walk2: the defs' derivations (printed by gen.py). -/
namespace SV
open PySem L2 DL
theorem sc_need_machine : FnScope ["thing", "place"] ["thing"] (defScope (topS 18)) := ⟨rfl, rfl, rfl, by decide +kernel, rfl, by decide +kernel, by decide +kernel⟩
theorem cal_need_machine {P : Program} {w : World} {K : PySem.W.Frag} {mg : Str → Option Value} {base : Heap} (T : Txt K w mg) : C8.Cal P w K mg base 4 "need_machine" (spD ⟨K, w⟩ 1 s_need_machine) [] := by
  obtain ⟨f, fd, F, hm⟩ := T.d_need_machine
  exact ⟨f, fd, ["thing"], [], fn_body (n := 1) (k := 3) (N := ["thing", "place"]) F sc_need_machine rfl (by decide) fun cdv A outer s H E hr =>
    pssd_cons (psd_set (i := 1) sc_need_machine.nd rfl (Or.inl rfl) (pcd_d (pd_call (cal_machine_fault T) hr (by decide) rfl (pda_cons (pd_var (pv 0)) pda_nil)))) (pssd_cons (psd_if (pdt_C (pdc_notN (pd_var (pv 1)) pd_non)) (pssd_one psd_never) pssd_nil) (pssd_one (psd_ret (pd_var (pv 0))))),
    hm, F.kp, F.binds fun _ _ _ _ _ _ us hl => match us, hl with | [_], _ => rfl, .nil⟩
theorem sc_loud : FnScope ["row", "pair"] ["row"] (defScope (topS 21)) := ⟨rfl, rfl, rfl, by decide +kernel, rfl, by decide +kernel, by decide +kernel⟩
theorem cal_loud {P : Program} {w : World} {K : PySem.W.Frag} {mg : Str → Option Value} {base : Heap} (T : Txt K w mg) : C8.Cal P w K mg base 1 "loud" (spD ⟨K, w⟩ 1 s_loud) [] := by
  obtain ⟨f, fd, F, hm⟩ := T.d_loud
  exact ⟨f, fd, ["row"], [], fn_body (n := 1) (k := 0) (N := ["row", "pair"]) F sc_loud rfl (by decide) fun cdv A outer s H E hr =>
    pssd_one (psd_ret (pd_lc (own := [("pair", 1)]) rfl sc_loud.nd (by decide) (pid_seq (pd_var (pv 0))) (blkOk_by (by kernel_rfl)) (fun _ _ _ _ _ => pgd_one (pg_name (i := 1) sc_loud.nd rfl (Or.inl rfl))) (fun _ _ _ _ _ => ptsd_one (pdt_C (pdc_ne hr (pd_ix (pd_var (pv 1)) pd_int) pd_str))) (fun _ _ _ _ _ => pd_var (pv 1)))),
    hm, F.kp, F.binds fun _ _ _ _ _ _ us hl => match us, hl with | [_], _ => rfl, .nil⟩
theorem sc_sound_of : FnScope ["state", "key", "mark"] ["state"] (defScope (topS 22)) := ⟨rfl, rfl, rfl, by decide +kernel, rfl, by decide +kernel, by decide +kernel⟩
theorem cal_sound_of {P : Program} {w : World} {K : PySem.W.Frag} {mg : Str → Option Value} {base : Heap} (T : Txt K w mg) : C8.Cal P w K mg base 2 "sound_of" (spD ⟨K, w⟩ 1 s_sound_of) [] := by
  obtain ⟨f, fd, F, hm⟩ := T.d_sound_of
  exact ⟨f, fd, ["state"], [], fn_body (n := 1) (k := 1) (N := ["state", "key", "mark"]) F sc_sound_of rfl (by decide) fun cdv A outer s H E hr =>
    pssd_one (psd_ret (pd_tuple T.g_tuple rfl (pd_sorted T.g_sorted rfl (pd_lc (own := [("key", 1), ("mark", 2)]) rfl sc_sound_of.nd (by decide) (pid_seq (pd_call (cal_loud T) hr (by decide) rfl (pda_cons (pd_ix (pd_var (pv 0)) pd_int) pda_nil))) (blkOk_by (by kernel_rfl)) (fun _ _ _ _ _ => pgd_many rfl (pgsd_cons (pg_name (i := 1) sc_sound_of.nd rfl (Or.inl rfl)) (pgsd_cons (pg_name (i := 2) sc_sound_of.nd rfl (Or.inl rfl)) pgsd_nil)) rfl) (fun _ _ _ _ _ => ptsd_nil) (fun _ _ _ _ _ => pd_var (pv 1)))))),
    hm, F.kp, F.binds fun _ _ _ _ _ _ us hl => match us, hl with | [_], _ => rfl, .nil⟩
theorem sc_mark_of : FnScope ["state", "key", "own", "mark"] ["state", "key"] (defScope (topS 23)) := ⟨rfl, rfl, rfl, by decide +kernel, rfl, by decide +kernel, by decide +kernel⟩
theorem cal_mark_of {P : Program} {w : World} {K : PySem.W.Frag} {mg : Str → Option Value} {base : Heap} (T : Txt K w mg) : C8.Cal P w K mg base 1 "mark_of" (spD ⟨K, w⟩ 2 s_mark_of) [] := by
  obtain ⟨f, fd, F, hm⟩ := T.d_mark_of
  exact ⟨f, fd, ["state", "key"], [], fn_body (n := 2) (k := 0) (N := ["state", "key", "own", "mark"]) F sc_mark_of rfl (by decide) fun cdv A outer s H E hr =>
    pssd_cons (psd_for PassesOwn.never rfl (pid_seq (pd_ix (pd_var (pv 0)) pd_int)) (pgd_many rfl (pgsd_cons (pg_name (i := 2) sc_mark_of.nd rfl (Or.inl rfl)) (pgsd_cons (pg_name (i := 3) sc_mark_of.nd rfl (Or.inl rfl)) pgsd_nil)) rfl) (pssd_one (psd_if (pdt_C (pdc_eq hr (pd_var (pv 2)) (pd_var (pv 1)))) (pssd_one (psd_ret (pd_var (pv 3)))) pssd_nil))) (pssd_one (psd_ret pd_str)),
    hm, F.kp, F.binds fun _ _ _ _ _ _ us hl => match us, hl with | [_, _], _ => rfl, .nil⟩
theorem sc_is_event : FnScope ["thing"] ["thing"] (defScope (topS 27)) := ⟨rfl, rfl, rfl, by decide +kernel, rfl, by decide +kernel, by decide +kernel⟩
theorem cal_is_event {P : Program} {w : World} {K : PySem.W.Frag} {mg : Str → Option Value} {base : Heap} (T : Txt K w mg) : C8.Cal P w K mg base 3 "is_event" (spD ⟨K, w⟩ 1 s_is_event) [] := by
  obtain ⟨f, fd, F, hm⟩ := T.d_is_event
  exact ⟨f, fd, ["thing"], [], fn_body (n := 1) (k := 2) (N := ["thing"]) F sc_is_event rfl (by decide) fun cdv A outer s H E hr =>
    pssd_cons (psd_if (pdt_W (pdw_or (pdt_not (pdt_v (pd_isi (T' := "tuple") isi_tuple T.g_tuple rfl (by decide +kernel) (by decide) (by decide) T.g_isinstance rfl (pd_var (pv 0))))) (pdw_or (pdt_C (pdc_eq hr (pd_var (pv 0)) (pd_tup pda_nil))) (pdw_or1 (pdt_not (pdt_v (pd_isi (T' := "str") isi_str T.g_str rfl (by decide +kernel) (by decide) (by decide) T.g_isinstance rfl (pd_ix (pd_var (pv 0)) pd_int)))))))) (pssd_one (psd_ret pd_bl)) pssd_nil) (pssd_cons (psd_if (pdt_C (pdc_in hr (pd_ix (pd_var (pv 0)) pd_int) (pd_gl T.c_WITH_KEY rfl))) (pssd_one (psd_ret (pd_and (pd_C (pdc_eq hr (pd_len T.g_len rfl (pd_var (pv 0))) pd_int)) (pd_one (pd_call (cal_is_key T) hr (by decide) rfl (pda_cons (pd_ix (pd_var (pv 0)) pd_int) pda_nil)))))) pssd_nil) (pssd_one (psd_ret (pd_and (pd_C (pdc_in hr (pd_ix (pd_var (pv 0)) pd_int) (pd_gl T.c_OF_PEDAL rfl))) (pd_one (pd_C (pdc_eq hr (pd_len T.g_len rfl (pd_var (pv 0))) pd_int))))))),
    hm, F.kp, F.binds fun _ _ _ _ _ _ us hl => match us, hl with | [_], _ => rfl, .nil⟩
end SV

/-! Walk3: the defs' derivations (printed by gen.py). -/
namespace SV
open PySem L2 DL
theorem sc_can_follow : FnScope ["state", "event"] ["state", "event"] (defScope (topS 28)) := ⟨rfl, rfl, rfl, by decide +kernel, rfl, by decide +kernel, by decide +kernel⟩
theorem cal_can_follow {P : Program} {w : World} {K : PySem.W.Frag} {mg : Str → Option Value} {base : Heap} (T : Txt K w mg) : C8.Cal P w K mg base 2 "can_follow" (spD ⟨K, w⟩ 2 s_can_follow) [] := by
  obtain ⟨f, fd, F, hm⟩ := T.d_can_follow
  exact ⟨f, fd, ["state", "event"], [], fn_body (n := 2) (k := 1) (N := ["state", "event"]) F sc_can_follow rfl (by decide) fun cdv A outer s H E hr =>
    pssd_cons (psd_if (pdt_C (pdc_eq hr (pd_ix (pd_var (pv 1)) pd_int) pd_str)) (pssd_one (psd_ret (pd_C (pdc_in hr (pd_call (cal_mark_of T) hr (by decide) rfl (pda_cons (pd_var (pv 0)) (pda_cons (pd_ix (pd_var (pv 1)) pd_int) pda_nil))) (pd_tup (pda_cons pd_str (pda_cons pd_str pda_nil))))))) pssd_nil) (pssd_cons (psd_if (pdt_C (pdc_eq hr (pd_ix (pd_var (pv 1)) pd_int) pd_str)) (pssd_one (psd_ret (pd_C (pdc_in hr (pd_call (cal_mark_of T) hr (by decide) rfl (pda_cons (pd_var (pv 0)) (pda_cons (pd_ix (pd_var (pv 1)) pd_int) pda_nil))) (pd_tup (pda_cons pd_str (pda_cons pd_str pda_nil))))))) pssd_nil) (pssd_one (psd_ret (pd_C (pdc_eq hr (pd_ix (pd_var (pv 0)) pd_int) (pd_C (pdc_eq hr (pd_ix (pd_var (pv 1)) pd_int) pd_str))))))),
    hm, F.kp, F.binds fun _ _ _ _ _ _ us hl => match us, hl with | [_, _], _ => rfl, .nil⟩
theorem sc_filtered : FnScope ["word", "pairs", "some", "key", "keys", "pair"] ["word", "pairs", "some", "key"] (defScope (topS 29)) := ⟨rfl, rfl, rfl, by decide +kernel, rfl, by decide +kernel, by decide +kernel⟩
theorem cal_filtered {P : Program} {w : World} {K : PySem.W.Frag} {mg : Str → Option Value} {base : Heap} (T : Txt K w mg) : C8.Cal P w K mg base 1 "filtered" (spD ⟨K, w⟩ 4 s_filtered) [] := by
  obtain ⟨f, fd, F, hm⟩ := T.d_filtered
  exact ⟨f, fd, ["word", "pairs", "some", "key"], [], fn_body (n := 4) (k := 0) (N := ["word", "pairs", "some", "key", "keys", "pair"]) F sc_filtered rfl (by decide) fun cdv A outer s H E hr =>
    pssd_cons (psd_if (pdt_C (pdc_eq hr (pd_var (pv 0)) pd_str)) (pssd_one (psd_ret (pd_lc (own := [("pair", 5)]) rfl sc_filtered.nd (by decide) (pid_seq (pd_var (pv 2))) (blkOk_by (by kernel_rfl)) (fun _ _ _ _ _ => pgd_one (pg_name (i := 5) sc_filtered.nd rfl (Or.inl rfl))) (fun _ _ _ _ _ => ptsd_one (pdt_C (pdc_eq hr (pd_ix (pd_var (pv 5)) pd_int) pd_str))) (fun _ _ _ _ _ => pd_var (pv 5))))) pssd_nil) (pssd_cons (psd_set (i := 4) sc_filtered.nd rfl (Or.inr rfl) (pcd_d (pd_sorted T.g_sorted rfl (pd_lc (own := [("pair", 5)]) rfl sc_filtered.nd (by decide) (pid_seq (pd_var (pv 1))) (blkOk_by (by kernel_rfl)) (fun _ _ _ _ _ => pgd_one (pg_name (i := 5) sc_filtered.nd rfl (Or.inl rfl))) (fun _ _ _ _ _ => ptsd_nil) (fun _ _ _ _ _ => pd_ix (pd_var (pv 5)) pd_int))))) (pssd_cons (psd_if (pdt_C (pdc_eq hr (pd_var (pv 0)) pd_str)) (pssd_one (psd_ret (pd_lc (own := [("pair", 5)]) rfl sc_filtered.nd (by decide) (pid_seq (pd_var (pv 2))) (blkOk_by (by kernel_rfl)) (fun _ _ _ _ _ => pgd_one (pg_name (i := 5) sc_filtered.nd rfl (Or.inl rfl))) (fun _ _ _ _ _ => ptsd_one (pdt_C (pdc_ne hr (pd_ix (pd_var (pv 5)) pd_int) (pd_ix (pd_var (pv 4)) pd_int)))) (fun _ _ _ _ _ => pd_var (pv 5))))) pssd_nil) (pssd_cons (psd_if (pdt_C (pdc_eq hr (pd_var (pv 0)) pd_str)) (pssd_one (psd_ret (pd_lc (own := [("pair", 5)]) rfl sc_filtered.nd (by decide) (pid_seq (pd_var (pv 2))) (blkOk_by (by kernel_rfl)) (fun _ _ _ _ _ => pgd_one (pg_name (i := 5) sc_filtered.nd rfl (Or.inl rfl))) (fun _ _ _ _ _ => ptsd_one (pdt_C (pdc_ne hr (pd_ix (pd_var (pv 5)) pd_int) (pd_ix (pd_var (pv 4)) (pd_neg pd_int))))) (fun _ _ _ _ _ => pd_var (pv 5))))) pssd_nil) (pssd_cons (psd_if (pdt_C (pdc_eq hr (pd_var (pv 0)) pd_str)) (pssd_one (psd_ret (pd_lc (own := [("pair", 5)]) rfl sc_filtered.nd (by decide) (pid_seq (pd_var (pv 2))) (blkOk_by (by kernel_rfl)) (fun _ _ _ _ _ => pgd_one (pg_name (i := 5) sc_filtered.nd rfl (Or.inl rfl))) (fun _ _ _ _ _ => ptsd_one (pdt_chain (p := fun i j => decide (i < j)) (p' := fun i j => decide (i < j)) op_lt op_lt (pd_ix (pd_var (pv 4)) pd_int) (pd_ix (pd_var (pv 5)) pd_int) (pd_ix (pd_var (pv 4)) (pd_neg pd_int)))) (fun _ _ _ _ _ => pd_var (pv 5))))) pssd_nil) (pssd_cons (psd_if (pdt_C (pdc_in hr (pd_var (pv 0)) (pd_tup (pda_cons pd_str (pda_cons pd_str pda_nil))))) (pssd_one (psd_ret (pd_lc (own := [("pair", 5)]) rfl sc_filtered.nd (by decide) (pid_seq (pd_var (pv 2))) (blkOk_by (by kernel_rfl)) (fun _ _ _ _ _ => pgd_one (pg_name (i := 5) sc_filtered.nd rfl (Or.inl rfl))) (fun _ _ _ _ _ => ptsd_one (pdt_C (pdc_lt (pd_ix (pd_var (pv 5)) pd_int) (pd_var (pv 3))))) (fun _ _ _ _ _ => pd_var (pv 5))))) pssd_nil) (pssd_one (psd_ret (pd_lc (own := [("pair", 5)]) rfl sc_filtered.nd (by decide) (pid_seq (pd_var (pv 2))) (blkOk_by (by kernel_rfl)) (fun _ _ _ _ _ => pgd_one (pg_name (i := 5) sc_filtered.nd rfl (Or.inl rfl))) (fun _ _ _ _ _ => ptsd_one (pdt_C (pdc_gt (pd_ix (pd_var (pv 5)) pd_int) (pd_var (pv 3))))) (fun _ _ _ _ _ => pd_var (pv 5)))))))))),
    hm, F.kp, F.binds fun _ _ _ _ _ _ us hl => match us, hl with | [_, _, _, _], _ => rfl, .nil⟩
theorem sc_chosen : FnScope ["word", "some", "keys", "pair"] ["word", "some"] (defScope (topS 30)) := ⟨rfl, rfl, rfl, by decide +kernel, rfl, by decide +kernel, by decide +kernel⟩
theorem cal_chosen {P : Program} {w : World} {K : PySem.W.Frag} {mg : Str → Option Value} {base : Heap} (T : Txt K w mg) : C8.Cal P w K mg base 1 "chosen" (spD ⟨K, w⟩ 2 s_chosen) [] := by
  obtain ⟨f, fd, F, hm⟩ := T.d_chosen
  exact ⟨f, fd, ["word", "some"], [], fn_body (n := 2) (k := 0) (N := ["word", "some", "keys", "pair"]) F sc_chosen rfl (by decide) fun cdv A outer s H E hr =>
    pssd_cons (psd_if (pdt_C (pdc_eq hr (pd_var (pv 0)) pd_str)) (pssd_one (psd_ret pd_non)) pssd_nil) (pssd_cons (psd_if (pdt_C (pdc_in hr (pd_var (pv 0)) (pd_tup (pda_cons pd_str (pda_cons pd_str pda_nil))))) (pssd_one (psd_ret (pd_if (pdt_C (pdc_eq hr (pd_var (pv 0)) pd_str)) (pd_ix (pd_ix (pd_var (pv 1)) pd_int) pd_int) (pd_ix (pd_ix (pd_var (pv 1)) (pd_neg pd_int)) pd_int)))) pssd_nil) (pssd_cons (psd_set (i := 2) sc_chosen.nd rfl (Or.inl rfl) (pcd_d (pd_sorted T.g_sorted rfl (pd_lc (own := [("pair", 3)]) rfl sc_chosen.nd (by decide) (pid_seq (pd_var (pv 1))) (blkOk_by (by kernel_rfl)) (fun _ _ _ _ _ => pgd_one (pg_name (i := 3) sc_chosen.nd rfl (Or.inl rfl))) (fun _ _ _ _ _ => ptsd_nil) (fun _ _ _ _ _ => pd_ix (pd_var (pv 3)) pd_int))))) (pssd_one (psd_ret (pd_if (pdt_C (pdc_eq hr (pd_var (pv 0)) pd_str)) (pd_ix (pd_var (pv 2)) pd_int) (pd_ix (pd_var (pv 2)) (pd_neg pd_int))))))),
    hm, F.kp, F.binds fun _ _ _ _ _ _ us hl => match us, hl with | [_, _], _ => rfl, .nil⟩
theorem sc_victim_of : FnScope ["machine", "state", "key", "voices", "criteria", "back", "pairs", "some", "word", "left"] ["machine", "state", "key"] (defScope (topS 31)) := ⟨rfl, rfl, rfl, by decide +kernel, rfl, by decide +kernel, by decide +kernel⟩
theorem cal_victim_of {P : Program} {w : World} {K : PySem.W.Frag} {mg : Str → Option Value} {base : Heap} (T : Txt K w mg) : C8.Cal P w K mg base 2 "victim_of" (spD ⟨K, w⟩ 3 s_victim_of) [] := by
  obtain ⟨f, fd, F, hm⟩ := T.d_victim_of
  exact ⟨f, fd, ["machine", "state", "key"], [], fn_body (n := 3) (k := 1) (N := ["machine", "state", "key", "voices", "criteria", "back", "pairs", "some", "word", "left"]) F sc_victim_of rfl (by decide) fun cdv A outer s H E hr =>
    pssd_cons (psd_put (pd_var (pv 0)) (pgd_many rfl (pgsd_cons (pg_name (i := 3) sc_victim_of.nd rfl (Or.inl rfl)) (pgsd_cons (pg_name (i := 4) sc_victim_of.nd rfl (Or.inl rfl)) (pgsd_cons (pg_name (i := 5) sc_victim_of.nd rfl (Or.inl rfl)) pgsd_nil))) rfl)) (pssd_cons (psd_set (i := 6) sc_victim_of.nd rfl (Or.inl rfl) (pcd_d (pd_call (cal_loud T) hr (by decide) rfl (pda_cons (pd_ix (pd_var (pv 1)) pd_int) pda_nil)))) (pssd_cons (psd_if (pdt_C (pdc_lt (pd_len T.g_len rfl (pd_var (pv 6))) (pd_var (pv 3)))) (pssd_one (psd_ret pd_non)) pssd_nil) (pssd_cons (psd_set (i := 7) sc_victim_of.nd rfl (Or.inl rfl) (pcd_d (pd_var (pv 6)))) (pssd_cons (psd_for PassesOwn.never rfl (pid_seq (pd_cut (pd_var (pv 4)) pdo_none (pdo_some (pd_neg pd_int)))) (pgd_one (pg_name (i := 8) sc_victim_of.nd rfl (Or.inl rfl))) (pssd_cons (psd_set (i := 9) sc_victim_of.nd rfl (Or.inl rfl) (pcd_d (pd_call (cal_filtered T) hr (by decide) rfl (pda_cons (pd_var (pv 8)) (pda_cons (pd_var (pv 6)) (pda_cons (pd_var (pv 7)) (pda_cons (pd_var (pv 2)) pda_nil))))))) (pssd_cons (psd_if (pdt_W (pdw_and (pdt_C (pdc_eq hr (pd_var (pv 9)) (pd_lst pda_nil))) (pdw_and1 (pdt_C (pdc_in hr (pd_var (pv 8)) (pd_tup (pda_cons pd_str (pda_cons pd_str pda_nil)))))))) (pssd_one (psd_ret pd_non)) pssd_nil) (pssd_one (psd_set (i := 7) sc_victim_of.nd rfl (Or.inl rfl) (pcd_d (pd_if (pdt_C (pdc_ne hr (pd_var (pv 9)) (pd_lst pda_nil))) (pd_var (pv 9)) (pd_var (pv 7))))))))) (pssd_one (psd_ret (pd_call (cal_chosen T) hr (by decide) rfl (pda_cons (pd_ix (pd_var (pv 4)) (pd_neg pd_int)) (pda_cons (pd_var (pv 7)) pda_nil))))))))),
    hm, F.kp, F.binds fun _ _ _ _ _ _ us hl => match us, hl with | [_, _, _], _ => rfl, .nil⟩
theorem sc_returned : FnScope ["machine", "row", "voices", "criteria", "back", "found", "key", "pair", "own", "mark"] ["machine", "row"] (defScope (topS 32)) := ⟨rfl, rfl, rfl, by decide +kernel, rfl, by decide +kernel, by decide +kernel⟩
theorem cal_returned {P : Program} {w : World} {K : PySem.W.Frag} {mg : Str → Option Value} {base : Heap} (T : Txt K w mg) : C8.Cal P w K mg base 2 "returned" (spD ⟨K, w⟩ 2 s_returned) [] := by
  obtain ⟨f, fd, F, hm⟩ := T.d_returned
  exact ⟨f, fd, ["machine", "row"], [], fn_body (n := 2) (k := 1) (N := ["machine", "row", "voices", "criteria", "back", "found", "key", "pair", "own", "mark"]) F sc_returned rfl (by decide) fun cdv A outer s H E hr =>
    pssd_cons (psd_put (pd_var (pv 0)) (pgd_many rfl (pgsd_cons (pg_name (i := 2) sc_returned.nd rfl (Or.inl rfl)) (pgsd_cons (pg_name (i := 3) sc_returned.nd rfl (Or.inl rfl)) (pgsd_cons (pg_name (i := 4) sc_returned.nd rfl (Or.inl rfl)) pgsd_nil))) rfl)) (pssd_cons (psd_set (i := 5) sc_returned.nd rfl (Or.inl rfl) (pcd_lst pda_nil)) (pssd_cons (psd_while fuel PassesOwn.never (pdt_W (pdw_and (pdt_C (pdc_ne hr (pd_var (pv 4)) pd_str)) (pdw_and1 (pdt_C (pdc_lt (pd_len T.g_len rfl (pd_call (cal_loud T) hr (by decide) rfl (pda_cons (pd_var (pv 1)) pda_nil))) (pd_min2 rfl T.g_min rfl (pda_cons (pd_var (pv 2)) (pda_cons (pd_len T.g_len rfl (pd_var (pv 1))) pda_nil)))))))) (pssd_cons (psd_set (i := 6) sc_returned.nd rfl (Or.inr rfl) (pcd_d (pd_call (cal_chosen T) hr (by decide) rfl (pda_cons (pd_var (pv 4)) (pda_cons (pd_lc (own := [("pair", 7)]) rfl sc_returned.nd (by decide) (pid_seq (pd_var (pv 1))) (blkOk_by (by kernel_rfl)) (fun _ _ _ _ _ => pgd_one (pg_name (i := 7) sc_returned.nd rfl (Or.inl rfl))) (fun _ _ _ _ _ => ptsd_one (pdt_C (pdc_eq hr (pd_ix (pd_var (pv 7)) pd_int) pd_str))) (fun _ _ _ _ _ => pd_var (pv 7))) pda_nil))))) (pssd_cons (psd_set (i := 1) sc_returned.nd rfl (Or.inl rfl) (pcd_d (pd_tuple T.g_tuple rfl (pd_lc (own := [("own", 8), ("mark", 9)]) rfl sc_returned.nd (by decide) (pid_seq (pd_var (pv 1))) (blkOk_by (by kernel_rfl)) (fun _ _ _ _ _ => pgd_many rfl (pgsd_cons (pg_name (i := 8) sc_returned.nd rfl (Or.inl rfl)) (pgsd_cons (pg_name (i := 9) sc_returned.nd rfl (Or.inl rfl)) pgsd_nil)) rfl) (fun _ _ _ _ _ => ptsd_nil) (fun _ _ _ _ _ => pd_if (pdt_C (pdc_eq hr (pd_var (pv 8)) (pd_var (pv 6)))) (pd_tup (pda_cons (pd_var (pv 8)) (pda_cons pd_str pda_nil))) (pd_tup (pda_cons (pd_var (pv 8)) (pda_cons (pd_var (pv 9)) pda_nil)))))))) (pssd_one (psd_app' (pv 5) (pd_var (pv 6)) (hb := fun _ h => pe_bm PySem.F.plainAttrs_list PySem.F.slot_list_append PySem.F.type_list_append mt_append (pv 5) h)))))) (pssd_frz 5 (pssd_one (psd_ret (pd_tup (pda_cons (pd_var (pv 1)) (pda_cons (pd_var (pv 5)) pda_nil)))))))),
    hm, F.kp, F.binds fun _ _ _ _ _ _ us hl => match us, hl with | [_, _], _ => rfl, .nil⟩
end SV

/-! Walk4: the defs' derivations (printed by gen.py). -/
namespace SV
open PySem L2 DL
theorem sc_after_down : FnScope ["machine", "state", "key", "row", "taken", "rest", "pair", "own", "mark"] ["machine", "state", "key"] (defScope (topS 33)) := ⟨rfl, rfl, rfl, by decide +kernel, rfl, by decide +kernel, by decide +kernel⟩
theorem cal_after_down {P : Program} {w : World} {K : PySem.W.Frag} {mg : Str → Option Value} {base : Heap} (T : Txt K w mg) : C8.Cal P w K mg base 3 "after_down" (spD ⟨K, w⟩ 3 s_after_down) [] := by
  obtain ⟨f, fd, F, hm⟩ := T.d_after_down
  exact ⟨f, fd, ["machine", "state", "key"], [], fn_body (n := 3) (k := 2) (N := ["machine", "state", "key", "row", "taken", "rest", "pair", "own", "mark"]) F sc_after_down rfl (by decide) fun cdv A outer s H E hr =>
    pssd_cons (psd_set (i := 3) sc_after_down.nd rfl (Or.inl rfl) (pcd_d (pd_ix (pd_var (pv 1)) pd_int))) (pssd_cons (psd_if (pdt_C (pdc_eq hr (pd_call (cal_mark_of T) hr (by decide) rfl (pda_cons (pd_var (pv 1)) (pda_cons (pd_var (pv 2)) pda_nil))) pd_str)) (pssd_one (psd_ret (pd_tup (pda_cons (pd_add (pd_tuple T.g_tuple rfl (pd_lc (own := [("pair", 6)]) rfl sc_after_down.nd (by decide) (pid_seq (pd_var (pv 3))) (blkOk_by (by kernel_rfl)) (fun _ _ _ _ _ => pgd_one (pg_name (i := 6) sc_after_down.nd rfl (Or.inl rfl))) (fun _ _ _ _ _ => ptsd_one (pdt_C (pdc_ne hr (pd_ix (pd_var (pv 6)) pd_int) (pd_var (pv 2))))) (fun _ _ _ _ _ => pd_var (pv 6)))) (pd_tup (pda_cons (pd_tup (pda_cons (pd_var (pv 2)) (pda_cons pd_str pda_nil))) pda_nil))) (pda_cons (pd_lst (pda_cons (pd_tup (pda_cons pd_str (pda_cons (pd_var (pv 2)) pda_nil))) pda_nil)) pda_nil))))) pssd_nil) (pssd_cons (psd_if (pdt_C (pdc_lt (pd_len T.g_len rfl (pd_call (cal_loud T) hr (by decide) rfl (pda_cons (pd_var (pv 3)) pda_nil))) (pd_ix (pd_var (pv 0)) pd_int))) (pssd_one (psd_ret (pd_tup (pda_cons (pd_add (pd_var (pv 3)) (pd_tup (pda_cons (pd_tup (pda_cons (pd_var (pv 2)) (pda_cons pd_str pda_nil))) pda_nil))) (pda_cons (pd_lst (pda_cons (pd_tup (pda_cons pd_str (pda_cons (pd_var (pv 2)) pda_nil))) pda_nil)) pda_nil))))) pssd_nil) (pssd_cons (psd_set (i := 4) sc_after_down.nd rfl (Or.inr rfl) (pcd_d (pd_call (cal_victim_of T) hr (by decide) rfl (pda_cons (pd_var (pv 0)) (pda_cons (pd_var (pv 1)) (pda_cons (pd_var (pv 2)) pda_nil)))))) (pssd_cons (psd_if (pdt_C (pdc_isN (pd_var (pv 4)) pd_non)) (pssd_one (psd_ret (pd_tup (pda_cons (pd_add (pd_var (pv 3)) (pd_tup (pda_cons (pd_tup (pda_cons (pd_var (pv 2)) (pda_cons pd_str pda_nil))) pda_nil))) (pda_cons (pd_lst (pda_cons (pd_tup (pda_cons pd_str (pda_cons (pd_var (pv 2)) pda_nil))) pda_nil)) pda_nil))))) pssd_nil) (pssd_cons (psd_setLc (own := [("own", 7), ("mark", 8)]) (i := 5) rfl sc_after_down.nd rfl rfl (sw_true rfl rfl rfl (by decide +kernel)) (by decide) (pid_seq (pd_var (pv 3))) (blkOk_by (by kernel_rfl)) (fun _ _ _ _ _ => pgd_many rfl (pgsd_cons (pg_name (i := 7) sc_after_down.nd rfl (Or.inl rfl)) (pgsd_cons (pg_name (i := 8) sc_after_down.nd rfl (Or.inl rfl)) pgsd_nil)) rfl) (fun _ _ _ _ _ => ptsd_one (pdt_W (pdw_or (pdt_C (pdc_ne hr (pd_var (pv 7)) (pd_var (pv 4)))) (pdw_or1 (pdt_C (pdc_ne hr (pd_var (pv 8)) pd_str)))))) (fun _ _ _ _ _ => pd_if (pdt_C (pdc_eq hr (pd_var (pv 7)) (pd_var (pv 4)))) (pd_tup (pda_cons (pd_var (pv 7)) (pda_cons pd_str pda_nil))) (pd_tup (pda_cons (pd_var (pv 7)) (pda_cons (pd_var (pv 8)) pda_nil))))) (pssd_one (psd_ret (pd_tup (pda_cons (pd_add (pd_tuple T.g_tuple rfl (pd_var (pv 5))) (pd_tup (pda_cons (pd_tup (pda_cons (pd_var (pv 2)) (pda_cons pd_str pda_nil))) pda_nil))) (pda_cons (pd_lst (pda_cons (pd_tup (pda_cons pd_str (pda_cons (pd_var (pv 4)) pda_nil))) (pda_cons (pd_tup (pda_cons pd_str (pda_cons (pd_var (pv 2)) pda_nil))) pda_nil))) pda_nil)))))))))),
    hm, F.kp, F.binds fun _ _ _ _ _ _ us hl => match us, hl with | [_, _, _], _ => rfl, .nil⟩
theorem sc_after_up : FnScope ["machine", "state", "key", "pedal", "row", "rest", "back", "pair", "own", "mark", "one"] ["machine", "state", "key"] (defScope (topS 34)) := ⟨rfl, rfl, rfl, by decide +kernel, rfl, by decide +kernel, by decide +kernel⟩
theorem cal_after_up {P : Program} {w : World} {K : PySem.W.Frag} {mg : Str → Option Value} {base : Heap} (T : Txt K w mg) : C8.Cal P w K mg base 3 "after_up" (spD ⟨K, w⟩ 3 s_after_up) [] := by
  obtain ⟨f, fd, F, hm⟩ := T.d_after_up
  exact ⟨f, fd, ["machine", "state", "key"], [], fn_body (n := 3) (k := 2) (N := ["machine", "state", "key", "pedal", "row", "rest", "back", "pair", "own", "mark", "one"]) F sc_after_up rfl (by decide) fun cdv A outer s H E hr =>
    pssd_cons (psd_put (pd_var (pv 1)) (pgd_many rfl (pgsd_cons (pg_name (i := 3) sc_after_up.nd rfl (Or.inl rfl)) (pgsd_cons (pg_name (i := 4) sc_after_up.nd rfl (Or.inl rfl)) pgsd_nil)) rfl)) (pssd_cons (psd_set (i := 5) sc_after_up.nd rfl (Or.inl rfl) (pcd_d (pd_tuple T.g_tuple rfl (pd_lc (own := [("pair", 7)]) rfl sc_after_up.nd (by decide) (pid_seq (pd_var (pv 4))) (blkOk_by (by kernel_rfl)) (fun _ _ _ _ _ => pgd_one (pg_name (i := 7) sc_after_up.nd rfl (Or.inl rfl))) (fun _ _ _ _ _ => ptsd_one (pdt_C (pdc_ne hr (pd_ix (pd_var (pv 7)) pd_int) (pd_var (pv 2))))) (fun _ _ _ _ _ => pd_var (pv 7)))))) (pssd_cons (psd_if (pdt_C (pdc_eq hr (pd_call (cal_mark_of T) hr (by decide) rfl (pda_cons (pd_var (pv 1)) (pda_cons (pd_var (pv 2)) pda_nil))) pd_str)) (pssd_one (psd_ret (pd_tup (pda_cons (pd_var (pv 5)) (pda_cons (pd_lst (pda_cons (pd_tup (pda_cons pd_str (pda_cons (pd_var (pv 2)) pda_nil))) pda_nil)) pda_nil))))) pssd_nil) (pssd_cons (psd_if (pdt_v (pd_var (pv 3))) (pssd_one (psd_ret (pd_tup (pda_cons (pd_tuple T.g_tuple rfl (pd_lc (own := [("own", 8), ("mark", 9)]) rfl sc_after_up.nd (by decide) (pid_seq (pd_var (pv 4))) (blkOk_by (by kernel_rfl)) (fun _ _ _ _ _ => pgd_many rfl (pgsd_cons (pg_name (i := 8) sc_after_up.nd rfl (Or.inl rfl)) (pgsd_cons (pg_name (i := 9) sc_after_up.nd rfl (Or.inl rfl)) pgsd_nil)) rfl) (fun _ _ _ _ _ => ptsd_nil) (fun _ _ _ _ _ => pd_if (pdt_C (pdc_eq hr (pd_var (pv 8)) (pd_var (pv 2)))) (pd_tup (pda_cons (pd_var (pv 8)) (pda_cons pd_str pda_nil))) (pd_tup (pda_cons (pd_var (pv 8)) (pda_cons (pd_var (pv 9)) pda_nil)))))) (pda_cons (pd_lst (pda_cons (pd_tup (pda_cons pd_str (pda_cons (pd_var (pv 2)) pda_nil))) pda_nil)) pda_nil))))) pssd_nil) (pssd_cons (psd_put (pd_call (cal_returned T) hr (by decide) rfl (pda_cons (pd_var (pv 0)) (pda_cons (pd_var (pv 5)) pda_nil))) (pgd_many rfl (pgsd_cons (pg_name (i := 5) sc_after_up.nd rfl (Or.inl rfl)) (pgsd_cons (pg_name (i := 6) sc_after_up.nd rfl (Or.inl rfl)) pgsd_nil)) rfl)) (pssd_one (psd_ret (pd_tup (pda_cons (pd_var (pv 5)) (pda_cons (pd_add (pd_lst (pda_cons (pd_tup (pda_cons pd_str (pda_cons (pd_var (pv 2)) pda_nil))) pda_nil)) (pd_lc (own := [("one", 10)]) rfl sc_after_up.nd (by decide) (pid_seq (pd_var (pv 6))) (blkOk_by (by kernel_rfl)) (fun _ _ _ _ _ => pgd_one (pg_name (i := 10) sc_after_up.nd rfl (Or.inl rfl))) (fun _ _ _ _ _ => ptsd_nil) (fun _ _ _ _ _ => pd_tup (pda_cons pd_str (pda_cons (pd_var (pv 10)) pda_nil))))) pda_nil))))))))),
    hm, F.kp, F.binds fun _ _ _ _ _ _ us hl => match us, hl with | [_, _, _], _ => rfl, .nil⟩
theorem sc_after_lift : FnScope ["machine", "state", "row", "rest", "back", "pair", "key", "mark", "one"] ["machine", "state"] (defScope (topS 35)) := ⟨rfl, rfl, rfl, by decide +kernel, rfl, by decide +kernel, by decide +kernel⟩
theorem cal_after_lift {P : Program} {w : World} {K : PySem.W.Frag} {mg : Str → Option Value} {base : Heap} (T : Txt K w mg) : C8.Cal P w K mg base 3 "after_lift" (spD ⟨K, w⟩ 2 s_after_lift) [] := by
  obtain ⟨f, fd, F, hm⟩ := T.d_after_lift
  exact ⟨f, fd, ["machine", "state"], [], fn_body (n := 2) (k := 2) (N := ["machine", "state", "row", "rest", "back", "pair", "key", "mark", "one"]) F sc_after_lift rfl (by decide) fun cdv A outer s H E hr =>
    pssd_cons (psd_set (i := 2) sc_after_lift.nd rfl (Or.inl rfl) (pcd_d (pd_ix (pd_var (pv 1)) pd_int))) (pssd_cons (psd_put (pd_call (cal_returned T) hr (by decide) rfl (pda_cons (pd_var (pv 0)) (pda_cons (pd_tuple T.g_tuple rfl (pd_lc (own := [("pair", 5)]) rfl sc_after_lift.nd (by decide) (pid_seq (pd_var (pv 2))) (blkOk_by (by kernel_rfl)) (fun _ _ _ _ _ => pgd_one (pg_name (i := 5) sc_after_lift.nd rfl (Or.inl rfl))) (fun _ _ _ _ _ => ptsd_one (pdt_C (pdc_ne hr (pd_ix (pd_var (pv 5)) pd_int) pd_str))) (fun _ _ _ _ _ => pd_var (pv 5)))) pda_nil))) (pgd_many rfl (pgsd_cons (pg_name (i := 3) sc_after_lift.nd rfl (Or.inl rfl)) (pgsd_cons (pg_name (i := 4) sc_after_lift.nd rfl (Or.inl rfl)) pgsd_nil)) rfl)) (pssd_one (psd_ret (pd_tup (pda_cons (pd_var (pv 3)) (pda_cons (pd_add (pd_lc (own := [("key", 6), ("mark", 7)]) rfl sc_after_lift.nd (by decide) (pid_seq (pd_var (pv 2))) (blkOk_by (by kernel_rfl)) (fun _ _ _ _ _ => pgd_many rfl (pgsd_cons (pg_name (i := 6) sc_after_lift.nd rfl (Or.inl rfl)) (pgsd_cons (pg_name (i := 7) sc_after_lift.nd rfl (Or.inl rfl)) pgsd_nil)) rfl) (fun _ _ _ _ _ => ptsd_one (pdt_C (pdc_eq hr (pd_var (pv 7)) pd_str))) (fun _ _ _ _ _ => pd_tup (pda_cons pd_str (pda_cons (pd_var (pv 6)) pda_nil)))) (pd_lc (own := [("one", 8)]) rfl sc_after_lift.nd (by decide) (pid_seq (pd_var (pv 4))) (blkOk_by (by kernel_rfl)) (fun _ _ _ _ _ => pgd_one (pg_name (i := 8) sc_after_lift.nd rfl (Or.inl rfl))) (fun _ _ _ _ _ => ptsd_nil) (fun _ _ _ _ _ => pd_tup (pda_cons pd_str (pda_cons (pd_var (pv 8)) pda_nil))))) pda_nil)))))),
    hm, F.kp, F.binds fun _ _ _ _ _ _ us hl => match us, hl with | [_, _], _ => rfl, .nil⟩
theorem sc_done : FnScope ["machine", "state", "event", "row", "deeds_so"] ["machine", "state", "event"] (defScope (topS 36)) := ⟨rfl, rfl, rfl, by decide +kernel, rfl, by decide +kernel, by decide +kernel⟩
theorem cal_done {P : Program} {w : World} {K : PySem.W.Frag} {mg : Str → Option Value} {base : Heap} (T : Txt K w mg) : C8.Cal P w K mg base 4 "done" (spD ⟨K, w⟩ 3 s_done) [] := by
  obtain ⟨f, fd, F, hm⟩ := T.d_done
  exact ⟨f, fd, ["machine", "state", "event"], [], fn_body (n := 3) (k := 3) (N := ["machine", "state", "event", "row", "deeds_so"]) F sc_done rfl (by decide) fun cdv A outer s H E hr =>
    pssd_cons (psd_if (pdt_C (pdc_eq hr (pd_ix (pd_var (pv 2)) pd_int) pd_str)) (pssd_one (psd_ret (pd_tup (pda_cons (pd_tup (pda_cons pd_bl (pda_cons (pd_ix (pd_var (pv 1)) pd_int) pda_nil))) (pda_cons (pd_tup pda_nil) pda_nil))))) pssd_nil) (pssd_cons (psd_if (pdt_C (pdc_eq hr (pd_ix (pd_var (pv 2)) pd_int) pd_str)) (pssd_cons (psd_put (pd_call (cal_after_lift T) hr (by decide) rfl (pda_cons (pd_var (pv 0)) (pda_cons (pd_var (pv 1)) pda_nil))) (pgd_many rfl (pgsd_cons (pg_name (i := 3) sc_done.nd rfl (Or.inl rfl)) (pgsd_cons (pg_name (i := 4) sc_done.nd rfl (Or.inl rfl)) pgsd_nil)) rfl)) (pssd_one (psd_ret (pd_tup (pda_cons (pd_tup (pda_cons pd_bl (pda_cons (pd_var (pv 3)) pda_nil))) (pda_cons (pd_tuple T.g_tuple rfl (pd_var (pv 4))) pda_nil)))))) pssd_nil) (pssd_cons (psd_if (pdt_C (pdc_eq hr (pd_ix (pd_var (pv 2)) pd_int) pd_str)) (pssd_one (psd_put (pd_call (cal_after_down T) hr (by decide) rfl (pda_cons (pd_var (pv 0)) (pda_cons (pd_var (pv 1)) (pda_cons (pd_ix (pd_var (pv 2)) pd_int) pda_nil)))) (pgd_many rfl (pgsd_cons (pg_name (i := 3) sc_done.nd rfl (Or.inl rfl)) (pgsd_cons (pg_name (i := 4) sc_done.nd rfl (Or.inl rfl)) pgsd_nil)) rfl))) (pssd_one (psd_put (pd_call (cal_after_up T) hr (by decide) rfl (pda_cons (pd_var (pv 0)) (pda_cons (pd_var (pv 1)) (pda_cons (pd_ix (pd_var (pv 2)) pd_int) pda_nil)))) (pgd_many rfl (pgsd_cons (pg_name (i := 3) sc_done.nd rfl (Or.inl rfl)) (pgsd_cons (pg_name (i := 4) sc_done.nd rfl (Or.inl rfl)) pgsd_nil)) rfl)))) (pssd_one (psd_ret (pd_tup (pda_cons (pd_tup (pda_cons (pd_ix (pd_var (pv 1)) pd_int) (pda_cons (pd_var (pv 3)) pda_nil))) (pda_cons (pd_tuple T.g_tuple rfl (pd_var (pv 4))) pda_nil))))))),
    hm, F.kp, F.binds fun _ _ _ _ _ _ us hl => match us, hl with | [_, _, _], _ => rfl, .nil⟩
theorem sc_need_board : FnScope ["keys", "pedal"] ["keys", "pedal"] (defScope (topS 40)) := ⟨rfl, rfl, rfl, by decide +kernel, rfl, by decide +kernel, by decide +kernel⟩
theorem cal_need_board {P : Program} {w : World} {K : PySem.W.Frag} {mg : Str → Option Value} {base : Heap} (T : Txt K w mg) : C8.Cal P w K mg base 2 "need_board" (spD ⟨K, w⟩ 2 s_need_board) [] := by
  obtain ⟨f, fd, F, hm⟩ := T.d_need_board
  exact ⟨f, fd, ["keys", "pedal"], [], fn_body (n := 2) (k := 1) (N := ["keys", "pedal"]) F sc_need_board rfl (by decide) fun cdv A outer s H E hr =>
    pssd_one (psd_if (pdt_W (pdw_or (pdt_not (pdt_v (pd_isi (T' := "bool") isi_bool T.g_bool rfl (by decide +kernel) (by decide) (by decide) T.g_isinstance rfl (pd_var (pv 1))))) (pdw_or1 (pdt_not (pdt_v (pd_call (cal_is_whole T) hr (by decide) rfl (pda_cons (pd_var (pv 0)) (pda_cons pd_int (pda_cons (pd_if (pdt_v (pd_var (pv 1))) (pd_gl T.c_MOST_WITH_PEDAL rfl) (pd_gl T.c_MOST_ON_BOARD rfl)) pda_nil))))))))) (pssd_one psd_never) pssd_nil),
    hm, F.kp, F.binds fun _ _ _ _ _ _ us hl => match us, hl with | [_, _], _ => rfl, .nil⟩
end SV

/-! Walk5: the defs' derivations (printed by gen.py). -/
namespace SV
open PySem L2 DL
theorem sc_all_events : FnScope ["keys", "pedal", "downs", "ups", "key"] ["keys", "pedal"] (defScope (topS 41)) := ⟨rfl, rfl, rfl, by decide +kernel, rfl, by decide +kernel, by decide +kernel⟩
theorem cal_all_events {P : Program} {w : World} {K : PySem.W.Frag} {mg : Str → Option Value} {base : Heap} (T : Txt K w mg) : C8.Cal P w K mg base 1 "all_events" (spD ⟨K, w⟩ 2 s_all_events) [] := by
  obtain ⟨f, fd, F, hm⟩ := T.d_all_events
  exact ⟨f, fd, ["keys", "pedal"], [], fn_body (n := 2) (k := 0) (N := ["keys", "pedal", "downs", "ups", "key"]) F sc_all_events rfl (by decide) fun cdv A outer s H E hr =>
    pssd_cons (psd_setLc (own := [("key", 4)]) (i := 2) rfl sc_all_events.nd rfl rfl (sw_true rfl rfl rfl (by decide +kernel)) (by decide) (pid_range T.g_range rfl (pd_var (pv 0))) (blkOk_by (by kernel_rfl)) (fun _ _ _ _ _ => pgd_one (pg_name (i := 4) sc_all_events.nd rfl (Or.inl rfl))) (fun _ _ _ _ _ => ptsd_nil) (fun _ _ _ _ _ => pd_tup (pda_cons pd_str (pda_cons (pd_var (pv 4)) pda_nil)))) (pssd_cons (psd_setLc (own := [("key", 4)]) (i := 3) rfl sc_all_events.nd rfl rfl (sw_true rfl rfl rfl (by decide +kernel)) (by decide) (pid_range T.g_range rfl (pd_var (pv 0))) (blkOk_by (by kernel_rfl)) (fun _ _ _ _ _ => pgd_one (pg_name (i := 4) sc_all_events.nd rfl (Or.inl rfl))) (fun _ _ _ _ _ => ptsd_nil) (fun _ _ _ _ _ => pd_tup (pda_cons pd_str (pda_cons (pd_var (pv 4)) pda_nil)))) (pssd_one (psd_ret (pd_add (pd_add (pd_var (pv 2)) (pd_mul (pd_lst (pda_cons (pd_tup (pda_cons pd_str pda_nil)) (pda_cons (pd_tup (pda_cons pd_str pda_nil)) pda_nil))) (pd_int1 T.g_int rfl (pd_var (pv 1))))) (pd_var (pv 3)))))),
    hm, F.kp, F.binds fun _ _ _ _ _ _ us hl => match us, hl with | [_, _], _ => rfl, .nil⟩
theorem sc_play_to : FnScope ["came", "states", "found", "event"] ["came", "states"] (defScope (topS 42)) := ⟨rfl, rfl, rfl, by decide +kernel, rfl, by decide +kernel, by decide +kernel⟩
theorem cal_play_to {P : Program} {w : World} {K : PySem.W.Frag} {mg : Str → Option Value} {base : Heap} (T : Txt K w mg) : C8.Cal P w K mg base 1 "play_to" (spD ⟨K, w⟩ 2 s_play_to) [] := by
  obtain ⟨f, fd, F, hm⟩ := T.d_play_to
  exact ⟨f, fd, ["came", "states"], [], fn_body (n := 2) (k := 0) (N := ["came", "states", "found", "event"]) F sc_play_to rfl (by decide) fun cdv A outer s H E hr =>
    pssd_cons (psd_set (i := 2) sc_play_to.nd rfl (Or.inl rfl) (pcd_lst pda_nil)) (pssd_cons (psd_while fuel PassesOwn.never (pdt_C (pdc_notN (pd_dix hr (pd_var (pv 0)) (pd_var (pv 1))) pd_non)) (pssd_cons (psd_put (pd_dix hr (pd_var (pv 0)) (pd_var (pv 1))) (pgd_many rfl (pgsd_cons (pg_name (i := 1) sc_play_to.nd rfl (Or.inl rfl)) (pgsd_cons (pg_name (i := 3) sc_play_to.nd rfl (Or.inl rfl)) pgsd_nil)) rfl)) (pssd_one (psd_app' (pv 2) (pd_var (pv 3)) (hb := fun _ h => pe_bm PySem.F.plainAttrs_list PySem.F.slot_list_append PySem.F.type_list_append mt_append (pv 2) h))))) (pssd_frz 2 (pssd_one (psd_ret (pd_tuple T.g_tuple rfl (pd_revL (pd_var (pv 2)))))))),
    hm, F.kp, F.binds fun _ _ _ _ _ _ us hl => match us, hl with | [_, _], _ => rfl, .nil⟩
theorem sc_play_fault : FnScope ["thing", "pedal", "down", "number", "event", "word"] ["thing"] (defScope (topS 45)) := ⟨rfl, rfl, rfl, by decide +kernel, rfl, by decide +kernel, by decide +kernel⟩
theorem cal_play_fault {P : Program} {w : World} {K : PySem.W.Frag} {mg : Str → Option Value} {base : Heap} (T : Txt K w mg) : C8.Cal P w K mg base 4 "play_fault" (spD ⟨K, w⟩ 1 s_play_fault) [] := by
  obtain ⟨f, fd, F, hm⟩ := T.d_play_fault
  exact ⟨f, fd, ["thing"], [], fn_body (n := 1) (k := 3) (N := ["thing", "pedal", "down", "number", "event", "word"]) F sc_play_fault rfl (by decide) fun cdv A outer s H E hr =>
    pssd_cons (psd_if (pdt_W (pdw_or (pdt_not (pdt_v (pd_isi (T' := "tuple") isi_tuple T.g_tuple rfl (by decide +kernel) (by decide) (by decide) T.g_isinstance rfl (pd_var (pv 0))))) (pdw_or1 (pdt_C (pdc_gt (pd_len T.g_len rfl (pd_var (pv 0))) (pd_gl T.c_MOST_EVENTS rfl)))))) (pssd_one (psd_ret (pd_tup pda_nil))) pssd_nil) (pssd_cons (psd_par rfl sc_play_fault.nd (i := 1) (j := 2) rfl rfl (by decide) rfl rfl (pcd_d pd_bl) pcd_dict0 (by rfl)) (pssd_cons (psd_for PassesOwn.never rfl (pid_enum T.g_enumerate rfl (pd_var (pv 0))) (pgd_many rfl (pgsd_cons (pg_name (i := 3) sc_play_fault.nd rfl (Or.inl rfl)) (pgsd_cons (pg_name (i := 4) sc_play_fault.nd rfl (Or.inl rfl)) pgsd_nil)) rfl) (pssd_cons (psd_if (pdt_not (pdt_v (pd_call (cal_is_event T) hr (by decide) rfl (pda_cons (pd_var (pv 4)) pda_nil)))) (pssd_one (psd_ret (pd_tup (pda_cons (pd_var (pv 3)) pda_nil)))) pssd_nil) (pssd_cons (psd_set (i := 5) sc_play_fault.nd rfl (Or.inl rfl) (pcd_d (pd_ix (pd_var (pv 4)) pd_int))) (pssd_one (psd_if (pdt_C (pdc_in hr (pd_var (pv 5)) (pd_tup (pda_cons pd_str (pda_cons pd_str pda_nil))))) (pssd_cons (psd_if (pdt_C (pdc_eq hr (pd_var (pv 1)) (pd_C (pdc_eq hr (pd_var (pv 5)) pd_str)))) (pssd_one (psd_ret (pd_tup (pda_cons (pd_var (pv 3)) pda_nil)))) pssd_nil) (pssd_one (psd_set (i := 1) sc_play_fault.nd rfl (Or.inl rfl) (pcd_d (pd_not (pd_var (pv 1))))))) (pssd_cons (psd_if (pdt_C (pdc_eq hr (pd_get2 hr (pv 2) (pd_ix (pd_var (pv 4)) pd_int) pd_bl ⟨rfl, rfl, rfl, rfl⟩) (pd_C (pdc_eq hr (pd_var (pv 5)) pd_str)))) (pssd_one (psd_ret (pd_tup (pda_cons (pd_var (pv 3)) pda_nil)))) pssd_nil) (pssd_one (psd_putK hr (pv 2) (pd_ix (pd_var (pv 4)) pd_int) (pd_C (pdc_eq hr (pd_var (pv 5)) pd_str)))))))))) (pssd_one (psd_ret pd_non)))),
    hm, F.kp, F.binds fun _ _ _ _ _ _ us hl => match us, hl with | [_], _ => rfl, .nil⟩
theorem sc_need_play : FnScope ["thing", "place"] ["thing"] (defScope (topS 46)) := ⟨rfl, rfl, rfl, by decide +kernel, rfl, by decide +kernel, by decide +kernel⟩
theorem cal_need_play {P : Program} {w : World} {K : PySem.W.Frag} {mg : Str → Option Value} {base : Heap} (T : Txt K w mg) : C8.Cal P w K mg base 5 "need_play" (spD ⟨K, w⟩ 1 s_need_play) [] := by
  obtain ⟨f, fd, F, hm⟩ := T.d_need_play
  exact ⟨f, fd, ["thing"], [], fn_body (n := 1) (k := 4) (N := ["thing", "place"]) F sc_need_play rfl (by decide) fun cdv A outer s H E hr =>
    pssd_cons (psd_set (i := 1) sc_need_play.nd rfl (Or.inl rfl) (pcd_d (pd_call (cal_play_fault T) hr (by decide) rfl (pda_cons (pd_var (pv 0)) pda_nil)))) (pssd_cons (psd_if (pdt_C (pdc_notN (pd_var (pv 1)) pd_non)) (pssd_one psd_never) pssd_nil) (pssd_one (psd_ret (pd_var (pv 0))))),
    hm, F.kp, F.binds fun _ _ _ _ _ _ us hl => match us, hl with | [_], _ => rfl, .nil⟩
theorem sc_is_play : FnScope ["thing"] ["thing"] (defScope (topS 47)) := ⟨rfl, rfl, rfl, by decide +kernel, rfl, by decide +kernel, by decide +kernel⟩
theorem cal_is_play {P : Program} {w : World} {K : PySem.W.Frag} {mg : Str → Option Value} {base : Heap} (T : Txt K w mg) : C8.Cal P w K mg base 5 "is_play" (spD ⟨K, w⟩ 1 s_is_play) [] := by
  obtain ⟨f, fd, F, hm⟩ := T.d_is_play
  exact ⟨f, fd, ["thing"], [], fn_body (n := 1) (k := 4) (N := ["thing"]) F sc_is_play rfl (by decide) fun cdv A outer s H E hr =>
    pssd_one (psd_ret (pd_C (pdc_isN (pd_call (cal_play_fault T) hr (by decide) rfl (pda_cons (pd_var (pv 0)) pda_nil)) pd_non))),
    hm, F.kp, F.binds fun _ _ _ _ _ _ us hl => match us, hl with | [_], _ => rfl, .nil⟩
end SV

/-! Walk6: the defs' derivations (printed by gen.py). -/
namespace SV
open PySem L2 DL
theorem sc_need_chain : FnScope ["thing", "machine"] ["thing"] (defScope (topS 50)) := ⟨rfl, rfl, rfl, by decide +kernel, rfl, by decide +kernel, by decide +kernel⟩
theorem cal_need_chain {P : Program} {w : World} {K : PySem.W.Frag} {mg : Str → Option Value} {base : Heap} (T : Txt K w mg) : C8.Cal P w K mg base 5 "need_chain" (spD ⟨K, w⟩ 1 s_need_chain) [] := by
  obtain ⟨f, fd, F, hm⟩ := T.d_need_chain
  exact ⟨f, fd, ["thing"], [], fn_body (n := 1) (k := 4) (N := ["thing", "machine"]) F sc_need_chain rfl (by decide) fun cdv A outer s H E hr =>
    pssd_cons (psd_if (pdt_W (pdw_or (pdt_not (pdt_v (pd_isi (T' := "tuple") isi_tuple T.g_tuple rfl (by decide +kernel) (by decide) (by decide) T.g_isinstance rfl (pd_var (pv 0))))) (pdw_or1 (pdt_not (pdt_chain (p := fun i j => decide (i ≤ j)) (p' := fun i j => decide (i ≤ j)) op_le op_le pd_int (pd_len T.g_len rfl (pd_var (pv 0))) (pd_gl T.c_MOST_LINKS rfl)))))) (pssd_one psd_never) pssd_nil) (pssd_cons (psd_for PassesOwn.never rfl (pid_seq (pd_var (pv 0))) (pgd_one (pg_name (i := 1) sc_need_chain.nd rfl (Or.inl rfl))) (pssd_one (psd_drop (pd_call (cal_need_machine T) hr (by decide) rfl (pda_cons (pd_var (pv 1)) pda_nil))))) (pssd_one (psd_ret (pd_var (pv 0))))),
    hm, F.kp, F.binds fun _ _ _ _ _ _ us hl => match us, hl with | [_], _ => rfl, .nil⟩
theorem sc_handed_on : FnScope ["before", "behind", "old", "new", "some", "state", "key", "mark"] ["before", "behind"] (defScope (topS 51)) := ⟨rfl, rfl, rfl, by decide +kernel, rfl, by decide +kernel, by decide +kernel⟩
theorem cal_handed_on {P : Program} {w : World} {K : PySem.W.Frag} {mg : Str → Option Value} {base : Heap} (T : Txt K w mg) : C8.Cal P w K mg base 1 "handed_on" (spD ⟨K, w⟩ 2 s_handed_on) [] := by
  obtain ⟨f, fd, F, hm⟩ := T.d_handed_on
  exact ⟨f, fd, ["before", "behind"], [], fn_body (n := 2) (k := 0) (N := ["before", "behind", "old", "new", "some", "state", "key", "mark"]) F sc_handed_on rfl (by decide) fun cdv A outer s H E hr =>
    pssd_cons (psd_putL rfl (pd_lc (own := [("state", 5)]) rfl sc_handed_on.nd (by decide) (pid_seq (pd_tup (pda_cons (pd_var (pv 0)) (pda_cons (pd_var (pv 1)) pda_nil)))) (blkOk_by (by kernel_rfl)) (fun _ _ _ _ _ => pgd_one (pg_name (i := 5) sc_handed_on.nd rfl (Or.inl rfl))) (fun _ _ _ _ _ => ptsd_nil) (fun _ _ _ _ _ => pd_lc (own := [("key", 6), ("mark", 7)]) rfl sc_handed_on.nd (by decide) (pid_seq (pd_ix (pd_var (pv 5)) pd_int)) (blkOk_by (by kernel_rfl)) (fun _ _ _ _ _ => pgd_many rfl (pgsd_cons (pg_name (i := 6) sc_handed_on.nd rfl (Or.inl rfl)) (pgsd_cons (pg_name (i := 7) sc_handed_on.nd rfl (Or.inl rfl)) pgsd_nil)) rfl) (fun _ _ _ _ _ => ptsd_one (pdt_C (pdc_eq hr (pd_var (pv 7)) pd_str))) (fun _ _ _ _ _ => pd_var (pv 6)))) (pgsd_cons (pg_name (i := 2) sc_handed_on.nd rfl (Or.inr rfl)) (pgsd_cons (pg_name (i := 3) sc_handed_on.nd rfl (Or.inr rfl)) pgsd_nil)) rfl) (pssd_cons (psd_set (i := 4) sc_handed_on.nd rfl (Or.inl rfl) (pcd_d (pd_add (pd_lc (own := [("key", 6)]) rfl sc_handed_on.nd (by decide) (pid_seq (pd_var (pv 3))) (blkOk_by (by kernel_rfl)) (fun _ _ _ _ _ => pgd_one (pg_name (i := 6) sc_handed_on.nd rfl (Or.inl rfl))) (fun _ _ _ _ _ => ptsd_one (pdt_C (pdc_notIn hr (pd_var (pv 6)) (pd_var (pv 2))))) (fun _ _ _ _ _ => pd_tup (pda_cons pd_str (pda_cons (pd_var (pv 6)) pda_nil)))) (pd_lc (own := [("key", 6)]) rfl sc_handed_on.nd (by decide) (pid_seq (pd_var (pv 2))) (blkOk_by (by kernel_rfl)) (fun _ _ _ _ _ => pgd_one (pg_name (i := 6) sc_handed_on.nd rfl (Or.inl rfl))) (fun _ _ _ _ _ => ptsd_one (pdt_C (pdc_notIn hr (pd_var (pv 6)) (pd_var (pv 3))))) (fun _ _ _ _ _ => pd_tup (pda_cons pd_str (pda_cons (pd_var (pv 6)) pda_nil))))))) (pssd_one (psd_ret (pd_if (pdt_C (pdc_ne hr (pd_var (pv 4)) (pd_lst pda_nil))) (pd_ix (pd_var (pv 4)) pd_int) pd_non)))),
    hm, F.kp, F.binds fun _ _ _ _ _ _ us hl => match us, hl with | [_, _], _ => rfl, .nil⟩
theorem sc_chain_step : FnScope ["chain", "states", "event", "found", "machine", "state", "behind"] ["chain", "states", "event"] (defScope (topS 52)) := ⟨rfl, rfl, rfl, by decide +kernel, rfl, by decide +kernel, by decide +kernel⟩
theorem cal_chain_step {P : Program} {w : World} {K : PySem.W.Frag} {mg : Str → Option Value} {base : Heap} (T : Txt K w mg) : C8.Cal P w K mg base 5 "chain_step" (spD ⟨K, w⟩ 3 s_chain_step) [] := by
  obtain ⟨f, fd, F, hm⟩ := T.d_chain_step
  exact ⟨f, fd, ["chain", "states", "event"], [], fn_body (n := 3) (k := 4) (N := ["chain", "states", "event", "found", "machine", "state", "behind"]) F sc_chain_step rfl (by decide) fun cdv A outer s H E hr =>
    pssd_cons (psd_set (i := 3) sc_chain_step.nd rfl (Or.inl rfl) (pcd_lst pda_nil)) (pssd_cons (psd_for PassesOwn.never rfl (pid_zip T.g_zip rfl (pda_cons (pd_var (pv 0)) (pda_cons (pd_var (pv 1)) pda_nil))) (pgd_many rfl (pgsd_cons (pg_name (i := 4) sc_chain_step.nd rfl (Or.inl rfl)) (pgsd_cons (pg_name (i := 5) sc_chain_step.nd rfl (Or.inl rfl)) pgsd_nil)) rfl) (pssd_cons (psd_set (i := 6) sc_chain_step.nd rfl (Or.inl rfl) (pcd_d (pd_if (pdt_C (pdc_isN (pd_var (pv 2)) pd_non)) (pd_var (pv 5)) (pd_ix (pd_call (cal_done T) hr (by decide) rfl (pda_cons (pd_var (pv 4)) (pda_cons (pd_var (pv 5)) (pda_cons (pd_var (pv 2)) pda_nil)))) pd_int)))) (pssd_cons (psd_set (i := 2) sc_chain_step.nd rfl (Or.inl rfl) (pcd_d (pd_call (cal_handed_on T) hr (by decide) rfl (pda_cons (pd_var (pv 5)) (pda_cons (pd_var (pv 6)) pda_nil))))) (pssd_one (psd_app' (pv 3) (pd_var (pv 6)) (hb := fun _ h => pe_bm PySem.F.plainAttrs_list PySem.F.slot_list_append PySem.F.type_list_append mt_append (pv 3) h)))))) (pssd_frz 3 (pssd_one (psd_ret (pd_tuple T.g_tuple rfl (pd_var (pv 3))))))),
    hm, F.kp, F.binds fun _ _ _ _ _ _ us hl => match us, hl with | [_, _, _], _ => rfl, .nil⟩
theorem sc_chain_sound : FnScope ["states", "state", "key"] ["states"] (defScope (topS 53)) := ⟨rfl, rfl, rfl, by decide +kernel, rfl, by decide +kernel, by decide +kernel⟩
theorem cal_chain_sound {P : Program} {w : World} {K : PySem.W.Frag} {mg : Str → Option Value} {base : Heap} (T : Txt K w mg) : C8.Cal P w K mg base 3 "chain_sound" (spD ⟨K, w⟩ 1 s_chain_sound) [] := by
  obtain ⟨f, fd, F, hm⟩ := T.d_chain_sound
  exact ⟨f, fd, ["states"], [], fn_body (n := 1) (k := 2) (N := ["states", "state", "key"]) F sc_chain_sound rfl (by decide) fun cdv A outer s H E hr =>
    pssd_one (psd_ret (pd_tuple T.g_tuple rfl (pd_sorted T.g_sorted rfl (pd_lc2 (own := [("state", 1), ("key", 2)]) (vs1 := [2]) rfl sc_chain_sound.nd (by decide) (by decide) (pid_seq (pd_var (pv 0))) (blkOk_by (by kernel_rfl)) (by decide) (fun _ _ _ _ _ => pgd_one (pg_name (i := 1) sc_chain_sound.nd rfl (Or.inl rfl))) (fun _ _ _ _ _ => ptsd_nil) (fun _ _ _ _ _ => pid_seq (pd_call (cal_sound_of T) hr (by decide) rfl (pda_cons (pd_var (pv 1)) pda_nil))) (fun _ _ _ _ _ => pgd_one (pg_name (i := 2) sc_chain_sound.nd rfl (Or.inl rfl))) (fun _ _ _ _ _ => ptsd_nil) (fun _ _ _ _ _ => pd_var (pv 2)))))),
    hm, F.kp, F.binds fun _ _ _ _ _ _ us hl => match us, hl with | [_], _ => rfl, .nil⟩
theorem sc_chain_path : FnScope ["chain", "play", "found", "event"] ["chain", "play"] (defScope (topS 54)) := ⟨rfl, rfl, rfl, by decide +kernel, rfl, by decide +kernel, by decide +kernel⟩
theorem cal_chain_path {P : Program} {w : World} {K : PySem.W.Frag} {mg : Str → Option Value} {base : Heap} (T : Txt K w mg) : C8.Cal P w K mg base 6 "chain_path" (spD ⟨K, w⟩ 2 s_chain_path) [] := by
  obtain ⟨f, fd, F, hm⟩ := T.d_chain_path
  exact ⟨f, fd, ["chain", "play"], [], fn_body (n := 2) (k := 5) (N := ["chain", "play", "found", "event"]) F sc_chain_path rfl (by decide) fun cdv A outer s H E hr =>
    pssd_cons (psd_drop (pd_call (cal_need_chain T) hr (by decide) rfl (pda_cons (pd_var (pv 0)) pda_nil))) (pssd_cons (psd_drop (pd_call (cal_need_play T) hr (by decide) rfl (pda_cons (pd_var (pv 1)) pda_nil))) (pssd_cons (psd_if (pdt_C (pdc_in hr (pd_tup (pda_cons pd_str pda_nil)) (pd_var (pv 1)))) (pssd_one psd_never) pssd_nil) (pssd_cons (psd_set (i := 2) sc_chain_path.nd rfl (Or.inl rfl) (pcd_lst (pda_cons (pd_mul (pd_tup (pda_cons (pd_gl T.c_START rfl) pda_nil)) (pd_len T.g_len rfl (pd_var (pv 0)))) pda_nil))) (pssd_cons (psd_for PassesOwn.never rfl (pid_seq (pd_var (pv 1))) (pgd_one (pg_name (i := 3) sc_chain_path.nd rfl (Or.inl rfl))) (pssd_one (psd_app' (pv 2) (pd_call (cal_chain_step T) hr (by decide) rfl (pda_cons (pd_var (pv 0)) (pda_cons (pd_ixo (pv 2) (pd_neg pd_int)) (pda_cons (pd_var (pv 3)) pda_nil)))) (hb := fun _ h => pe_bm PySem.F.plainAttrs_list PySem.F.slot_list_append PySem.F.type_list_append mt_append (pv 2) h)))) (pssd_frz 2 (pssd_one (psd_ret (pd_var (pv 2))))))))),
    hm, F.kp, F.binds fun _ _ _ _ _ _ us hl => match us, hl with | [_, _], _ => rfl, .nil⟩
end SV

/-! Walk7: the defs' derivations (printed by gen.py). -/
namespace SV
open PySem L2 DL
theorem sc_chain_trace : FnScope ["chain", "play", "states"] ["chain", "play"] (defScope (topS 55)) := ⟨rfl, rfl, rfl, by decide +kernel, rfl, by decide +kernel, by decide +kernel⟩
theorem cal_chain_trace {P : Program} {w : World} {K : PySem.W.Frag} {mg : Str → Option Value} {base : Heap} (T : Txt K w mg) : C8.Cal P w K mg base 7 "chain_trace" (spD ⟨K, w⟩ 2 s_chain_trace) [] := by
  obtain ⟨f, fd, F, hm⟩ := T.d_chain_trace
  exact ⟨f, fd, ["chain", "play"], [], fn_body (n := 2) (k := 6) (N := ["chain", "play", "states"]) F sc_chain_trace rfl (by decide) fun cdv A outer s H E hr =>
    pssd_one (psd_ret (pd_tuple T.g_tuple rfl (pd_lc (own := [("states", 2)]) rfl sc_chain_trace.nd (by decide) (pid_seq (pd_cut (pd_call (cal_chain_path T) hr (by decide) rfl (pda_cons (pd_var (pv 0)) (pda_cons (pd_var (pv 1)) pda_nil))) (pdo_some pd_int) pdo_none)) (blkOk_by (by kernel_rfl)) (fun _ _ _ _ _ => pgd_one (pg_name (i := 2) sc_chain_trace.nd rfl (Or.inl rfl))) (fun _ _ _ _ _ => ptsd_nil) (fun _ _ _ _ _ => pd_call (cal_chain_sound T) hr (by decide) rfl (pda_cons (pd_var (pv 2)) pda_nil))))),
    hm, F.kp, F.binds fun _ _ _ _ _ _ us hl => match us, hl with | [_, _], _ => rfl, .nil⟩
theorem sc_chain_parting : FnScope ["one", "other", "keys", "start", "came", "front", "events", "later", "here", "event", "behind"] ["one", "other", "keys"] (defScope (topS 56)) := ⟨rfl, rfl, rfl, by decide +kernel, rfl, by decide +kernel, by decide +kernel⟩
theorem cal_chain_parting {P : Program} {w : World} {K : PySem.W.Frag} {mg : Str → Option Value} {base : Heap} (T : Txt K w mg) : C8.Cal P w K mg base 6 "chain_parting" (spD ⟨K, w⟩ 3 s_chain_parting) [] := by
  obtain ⟨f, fd, F, hm⟩ := T.d_chain_parting
  exact ⟨f, fd, ["one", "other", "keys"], [], fn_body (n := 3) (k := 5) (N := ["one", "other", "keys", "start", "came", "front", "events", "later", "here", "event", "behind"]) F sc_chain_parting rfl (by decide) fun cdv A outer s H E hr =>
    pssd_cons (psd_drop (pd_call (cal_need_chain T) hr (by decide) rfl (pda_cons (pd_var (pv 0)) pda_nil))) (pssd_cons (psd_drop (pd_call (cal_need_chain T) hr (by decide) rfl (pda_cons (pd_var (pv 1)) pda_nil))) (pssd_cons (psd_drop (pd_call (cal_need_board T) hr (by decide) rfl (pda_cons (pd_var (pv 2)) (pda_cons pd_bl pda_nil)))) (pssd_cons (psd_set (i := 3) sc_chain_parting.nd rfl (Or.inl rfl) (pcd_d (pd_tup (pda_cons (pd_mul (pd_tup (pda_cons (pd_gl T.c_START rfl) pda_nil)) (pd_len T.g_len rfl (pd_var (pv 0)))) (pda_cons (pd_mul (pd_tup (pda_cons (pd_gl T.c_START rfl) pda_nil)) (pd_len T.g_len rfl (pd_var (pv 1)))) pda_nil))))) (pssd_cons (psd_par3 rfl sc_chain_parting.nd (i := 4) (j := 5) (l := 6) rfl rfl rfl (by decide) (by decide) (by decide) rfl rfl rfl (pcd_disp1 hr (pd_var (pv 3)) pd_non) (pcd_d (pd_lst (pda_cons (pd_var (pv 3)) pda_nil))) (pcd_d (pd_call (cal_all_events T) hr (by decide) rfl (pda_cons (pd_var (pv 2)) (pda_cons pd_bl pda_nil)))) (by rfl)) (pssd_cons (psd_while fuel PassesOwn.never (pdt_C (pdc_ne hr (pd_var (pv 5)) (pd_lst pda_nil))) (pssd_cons (psd_set (i := 7) sc_chain_parting.nd rfl (Or.inl rfl) (pcd_lst pda_nil)) (pssd_cons (psd_for PassesOwn.never rfl (pid_seq (pd_var (pv 5))) (pgd_one (pg_name (i := 8) sc_chain_parting.nd rfl (Or.inr rfl))) (pssd_one (psd_for PassesOwn.never rfl (pid_seq (pd_lc (own := [("event", 9)]) rfl sc_chain_parting.nd (by decide) (pid_seq (pd_var (pv 6))) (blkOk_by (by kernel_rfl)) (fun _ _ _ _ _ => pgd_one (pg_name (i := 9) sc_chain_parting.nd rfl (Or.inl rfl))) (fun _ _ _ _ _ => ptsd_one (pdt_v (pd_call (cal_can_follow T) hr (by decide) rfl (pda_cons (pd_ix (pd_ix (pd_var (pv 8)) pd_int) pd_int) (pda_cons (pd_var (pv 9)) pda_nil))))) (fun _ _ _ _ _ => pd_var (pv 9)))) (pgd_one (pg_name (i := 9) sc_chain_parting.nd rfl (Or.inl rfl))) (pssd_cons (psd_set (i := 10) sc_chain_parting.nd rfl (Or.inl rfl) (pcd_d (pd_tup (pda_cons (pd_call (cal_chain_step T) hr (by decide) rfl (pda_cons (pd_var (pv 0)) (pda_cons (pd_ix (pd_var (pv 8)) pd_int) (pda_cons (pd_var (pv 9)) pda_nil)))) (pda_cons (pd_call (cal_chain_step T) hr (by decide) rfl (pda_cons (pd_var (pv 1)) (pda_cons (pd_ix (pd_var (pv 8)) pd_int) (pda_cons (pd_var (pv 9)) pda_nil)))) pda_nil))))) (pssd_one (psd_if (pdt_C (pdc_notInO hr (pd_var (pv 10)) (pv 4))) (pssd_cons (psd_putO hr (pv 4) (pd_var (pv 10)) (pd_tup (pda_cons (pd_var (pv 8)) (pda_cons (pd_var (pv 9)) pda_nil)))) (pssd_cons (psd_app' (pv 7) (pd_var (pv 10)) (hb := fun _ h => pe_bm PySem.F.plainAttrs_list PySem.F.slot_list_append PySem.F.type_list_append mt_append (pv 7) h)) (pssd_one (psd_if (pdt_C (pdc_ne hr (pd_call (cal_chain_sound T) hr (by decide) rfl (pda_cons (pd_ix (pd_var (pv 10)) pd_int) pda_nil)) (pd_call (cal_chain_sound T) hr (by decide) rfl (pda_cons (pd_ix (pd_var (pv 10)) pd_int) pda_nil)))) (pssd_frz 4 (pssd_one (psd_ret (pd_call (cal_play_to T) hr (by decide) rfl (pda_cons (pd_var (pv 4)) (pda_cons (pd_var (pv 10)) pda_nil)))))) pssd_nil)))) pssd_nil)))))) (pssd_frz 7 (pssd_one (psd_set (i := 5) sc_chain_parting.nd rfl (Or.inl rfl) (pcd_d (pd_var (pv 7))))))))) (pssd_one (psd_ret pd_non))))))),
    hm, F.kp, F.binds fun _ _ _ _ _ _ us hl => match us, hl with | [_, _, _], _ => rfl, .nil⟩
theorem sc_chain_alike : FnScope ["one", "other", "keys"] ["one", "other", "keys"] (defScope (topS 57)) := ⟨rfl, rfl, rfl, by decide +kernel, rfl, by decide +kernel, by decide +kernel⟩
theorem cal_chain_alike {P : Program} {w : World} {K : PySem.W.Frag} {mg : Str → Option Value} {base : Heap} (T : Txt K w mg) : C8.Cal P w K mg base 7 "chain_alike" (spD ⟨K, w⟩ 3 s_chain_alike) [] := by
  obtain ⟨f, fd, F, hm⟩ := T.d_chain_alike
  exact ⟨f, fd, ["one", "other", "keys"], [], fn_body (n := 3) (k := 6) (N := ["one", "other", "keys"]) F sc_chain_alike rfl (by decide) fun cdv A outer s H E hr =>
    pssd_one (psd_ret (pd_C (pdc_isN (pd_call (cal_chain_parting T) hr (by decide) rfl (pda_cons (pd_var (pv 0)) (pda_cons (pd_var (pv 1)) (pda_cons (pd_var (pv 2)) pda_nil)))) pd_non))),
    hm, F.kp, F.binds fun _ _ _ _ _ _ us hl => match us, hl with | [_, _, _], _ => rfl, .nil⟩
theorem sc_law_loud : FnScope ["row", "pair"] ["row"] (defScope (topS 63)) := ⟨rfl, rfl, rfl, by decide +kernel, rfl, by decide +kernel, by decide +kernel⟩
theorem cal_law_loud {P : Program} {w : World} {K : PySem.W.Frag} {mg : Str → Option Value} {base : Heap} (T : Txt K w mg) : C8.Cal P w K mg base 1 "_law_loud" (spD ⟨K, w⟩ 1 s_law_loud) [] := by
  obtain ⟨f, fd, F, hm⟩ := T.d_law_loud
  exact ⟨f, fd, ["row"], [], fn_body (n := 1) (k := 0) (N := ["row", "pair"]) F sc_law_loud rfl (by decide) fun cdv A outer s H E hr =>
    pssd_one (psd_ret (pd_lc (own := [("pair", 1)]) rfl sc_law_loud.nd (by decide) (pid_seq (pd_var (pv 0))) (blkOk_by (by kernel_rfl)) (fun _ _ _ _ _ => pgd_one (pg_name (i := 1) sc_law_loud.nd rfl (Or.inl rfl))) (fun _ _ _ _ _ => ptsd_one (pdt_C (pdc_ne hr (pd_ix (pd_var (pv 1)) pd_int) pd_str))) (fun _ _ _ _ _ => pd_var (pv 1)))),
    hm, F.kp, F.binds fun _ _ _ _ _ _ us hl => match us, hl with | [_], _ => rfl, .nil⟩
theorem sc_law_sound : FnScope ["state", "pair"] ["state"] (defScope (topS 64)) := ⟨rfl, rfl, rfl, by decide +kernel, rfl, by decide +kernel, by decide +kernel⟩
theorem cal_law_sound {P : Program} {w : World} {K : PySem.W.Frag} {mg : Str → Option Value} {base : Heap} (T : Txt K w mg) : C8.Cal P w K mg base 2 "_law_sound" (spD ⟨K, w⟩ 1 s_law_sound) [] := by
  obtain ⟨f, fd, F, hm⟩ := T.d_law_sound
  exact ⟨f, fd, ["state"], [], fn_body (n := 1) (k := 1) (N := ["state", "pair"]) F sc_law_sound rfl (by decide) fun cdv A outer s H E hr =>
    pssd_one (psd_ret (pd_tuple T.g_tuple rfl (pd_sorted T.g_sorted rfl (pd_lc (own := [("pair", 1)]) rfl sc_law_sound.nd (by decide) (pid_seq (pd_call (cal_law_loud T) hr (by decide) rfl (pda_cons (pd_ix (pd_var (pv 0)) pd_int) pda_nil))) (blkOk_by (by kernel_rfl)) (fun _ _ _ _ _ => pgd_one (pg_name (i := 1) sc_law_sound.nd rfl (Or.inl rfl))) (fun _ _ _ _ _ => ptsd_nil) (fun _ _ _ _ _ => pd_ix (pd_var (pv 1)) pd_int))))),
    hm, F.kp, F.binds fun _ _ _ _ _ _ us hl => match us, hl with | [_], _ => rfl, .nil⟩
end SV

/-! Walk8: the defs' derivations (printed by gen.py). -/
namespace SV
open PySem L2 DL
theorem sc_law_end : FnScope ["word", "some", "heights", "chosen_so", "pair"] ["word", "some"] (defScope (topS 65)) := ⟨rfl, rfl, rfl, by decide +kernel, rfl, by decide +kernel, by decide +kernel⟩
theorem cal_law_end {P : Program} {w : World} {K : PySem.W.Frag} {mg : Str → Option Value} {base : Heap} (T : Txt K w mg) : C8.Cal P w K mg base 1 "_law_end" (spD ⟨K, w⟩ 2 s_law_end) [] := by
  obtain ⟨f, fd, F, hm⟩ := T.d_law_end
  exact ⟨f, fd, ["word", "some"], [], fn_body (n := 2) (k := 0) (N := ["word", "some", "heights", "chosen_so", "pair"]) F sc_law_end rfl (by decide) fun cdv A outer s H E hr =>
    pssd_cons (psd_setLc (own := [("pair", 4)]) (i := 2) rfl sc_law_end.nd rfl rfl (sw_true rfl rfl rfl (by decide +kernel)) (by decide) (pid_seq (pd_var (pv 1))) (blkOk_by (by kernel_rfl)) (fun _ _ _ _ _ => pgd_one (pg_name (i := 4) sc_law_end.nd rfl (Or.inl rfl))) (fun _ _ _ _ _ => ptsd_nil) (fun _ _ _ _ _ => pd_ix (pd_var (pv 4)) pd_int)) (pssd_cons (psd_set (i := 3) sc_law_end.nd rfl (Or.inl rfl) (pcd_disp (ppd_cons (pd_cut (pd_var (pv 2)) pdo_none (pdo_some pd_int)) (ppd_cons (pd_cut (pd_var (pv 2)) (pdo_some (pd_neg pd_int)) pdo_none) (ppd_cons (pd_lst (pda_cons (pd_minL rfl T.g_min rfl (pd_var (pv 2))) pda_nil)) (ppd_cons (pd_lst (pda_cons (pd_maxL rfl T.g_max rfl (pd_var (pv 2))) pda_nil)) ppd_nil)))) (by decide) rfl rfl (by simp) (by decide))) (pssd_one (psd_ret (pd_get2 hr (pv 3) (pd_var (pv 0)) (pd_lst pda_nil) ⟨rfl, rfl, rfl, rfl⟩)))),
    hm, F.kp, F.binds fun _ _ _ _ _ _ us hl => match us, hl with | [_, _], _ => rfl, .nil⟩
theorem sc_law_left : FnScope ["word", "ringing", "some", "key", "low", "high", "spared", "pair"] ["word", "ringing", "some", "key"] (defScope (topS 66)) := ⟨rfl, rfl, rfl, by decide +kernel, rfl, by decide +kernel, by decide +kernel⟩
theorem cal_law_left {P : Program} {w : World} {K : PySem.W.Frag} {mg : Str → Option Value} {base : Heap} (T : Txt K w mg) : C8.Cal P w K mg base 1 "_law_left" (spD ⟨K, w⟩ 4 s_law_left) [] := by
  obtain ⟨f, fd, F, hm⟩ := T.d_law_left
  exact ⟨f, fd, ["word", "ringing", "some", "key"], [], fn_body (n := 4) (k := 0) (N := ["word", "ringing", "some", "key", "low", "high", "spared", "pair"]) F sc_law_left rfl (by decide) fun cdv A outer s H E hr =>
    pssd_cons (psd_par rfl sc_law_left.nd (i := 4) (j := 5) rfl rfl (by decide) rfl rfl (pcd_d (pd_minL rfl T.g_min rfl (pd_lc (own := [("pair", 7)]) rfl sc_law_left.nd (by decide) (pid_seq (pd_var (pv 1))) (blkOk_by (by kernel_rfl)) (fun _ _ _ _ _ => pgd_one (pg_name (i := 7) sc_law_left.nd rfl (Or.inl rfl))) (fun _ _ _ _ _ => ptsd_nil) (fun _ _ _ _ _ => pd_ix (pd_var (pv 7)) pd_int)))) (pcd_d (pd_maxL rfl T.g_max rfl (pd_lc (own := [("pair", 7)]) rfl sc_law_left.nd (by decide) (pid_seq (pd_var (pv 1))) (blkOk_by (by kernel_rfl)) (fun _ _ _ _ _ => pgd_one (pg_name (i := 7) sc_law_left.nd rfl (Or.inl rfl))) (fun _ _ _ _ _ => ptsd_nil) (fun _ _ _ _ _ => pd_ix (pd_var (pv 7)) pd_int)))) (by rfl)) (pssd_cons (psd_if (pdt_C (pdc_in hr (pd_var (pv 0)) (pd_tup (pda_cons pd_str (pda_cons pd_str pda_nil))))) (pssd_one (psd_ret (pd_lc (own := [("pair", 7)]) rfl sc_law_left.nd (by decide) (pid_seq (pd_var (pv 2))) (blkOk_by (by kernel_rfl)) (fun _ _ _ _ _ => pgd_one (pg_name (i := 7) sc_law_left.nd rfl (Or.inl rfl))) (fun _ _ _ _ _ => ptsd_one (pdt_C (pdc_lt (pd_ix (pd_var (pv 7)) pd_int) (pd_var (pv 3))))) (fun _ _ _ _ _ => pd_var (pv 7))))) pssd_nil) (pssd_cons (psd_if (pdt_C (pdc_in hr (pd_var (pv 0)) (pd_tup (pda_cons pd_str (pda_cons pd_str pda_nil))))) (pssd_one (psd_ret (pd_lc (own := [("pair", 7)]) rfl sc_law_left.nd (by decide) (pid_seq (pd_var (pv 2))) (blkOk_by (by kernel_rfl)) (fun _ _ _ _ _ => pgd_one (pg_name (i := 7) sc_law_left.nd rfl (Or.inl rfl))) (fun _ _ _ _ _ => ptsd_one (pdt_C (pdc_gt (pd_ix (pd_var (pv 7)) pd_int) (pd_var (pv 3))))) (fun _ _ _ _ _ => pd_var (pv 7))))) pssd_nil) (pssd_cons (psd_set (i := 6) sc_law_left.nd rfl (Or.inr rfl) (pcd_d (pd_dispIx hr (ppd_cons (pd_lst pda_nil) (ppd_cons (pd_lst (pda_cons (pd_var (pv 4)) pda_nil)) (ppd_cons (pd_lst (pda_cons (pd_var (pv 5)) pda_nil)) (ppd_cons (pd_lst (pda_cons (pd_var (pv 4)) (pda_cons (pd_var (pv 5)) pda_nil))) ppd_nil)))) (pd_var (pv 0)) (by decide) rfl rfl (by simp) (by decide) (fun _ _ => rfl)))) (pssd_one (psd_ret (pd_lc (own := [("pair", 7)]) rfl sc_law_left.nd (by decide) (pid_seq (pd_var (pv 2))) (blkOk_by (by kernel_rfl)) (fun _ _ _ _ _ => pgd_one (pg_name (i := 7) sc_law_left.nd rfl (Or.inl rfl))) (fun _ _ _ _ _ => ptsd_one (pdt_W (pdw_and (pdt_C (pdc_notIn hr (pd_ix (pd_var (pv 7)) pd_int) (pd_var (pv 6)))) (pdw_and1 (pdt_W (pdw_or (pdt_C (pdc_ne hr (pd_var (pv 0)) pd_str)) (pdw_or1 (pdt_C (pdc_eq hr (pd_ix (pd_var (pv 7)) pd_int) pd_str))))))))) (fun _ _ _ _ _ => pd_var (pv 7)))))))),
    hm, F.kp, F.binds fun _ _ _ _ _ _ us hl => match us, hl with | [_, _, _, _], _ => rfl, .nil⟩
theorem sc_law_taken : FnScope ["machine", "row", "key", "ringing", "some", "word", "left"] ["machine", "row", "key"] (defScope (topS 67)) := ⟨rfl, rfl, rfl, by decide +kernel, rfl, by decide +kernel, by decide +kernel⟩
theorem cal_law_taken {P : Program} {w : World} {K : PySem.W.Frag} {mg : Str → Option Value} {base : Heap} (T : Txt K w mg) : C8.Cal P w K mg base 2 "_law_taken" (spD ⟨K, w⟩ 3 s_law_taken) [] := by
  obtain ⟨f, fd, F, hm⟩ := T.d_law_taken
  exact ⟨f, fd, ["machine", "row", "key"], [], fn_body (n := 3) (k := 1) (N := ["machine", "row", "key", "ringing", "some", "word", "left"]) F sc_law_taken rfl (by decide) fun cdv A outer s H E hr =>
    pssd_cons (psd_set (i := 3) sc_law_taken.nd rfl (Or.inl rfl) (pcd_d (pd_call (cal_law_loud T) hr (by decide) rfl (pda_cons (pd_var (pv 1)) pda_nil)))) (pssd_cons (psd_if (pdt_C (pdc_lt (pd_len T.g_len rfl (pd_var (pv 3))) (pd_ix (pd_var (pv 0)) pd_int))) (pssd_one (psd_ret (pd_lst pda_nil))) pssd_nil) (pssd_cons (psd_set (i := 4) sc_law_taken.nd rfl (Or.inl rfl) (pcd_d (pd_var (pv 3)))) (pssd_cons (psd_for PassesOwn.never rfl (pid_seq (pd_cut (pd_ix (pd_var (pv 0)) pd_int) pdo_none (pdo_some (pd_neg pd_int)))) (pgd_one (pg_name (i := 5) sc_law_taken.nd rfl (Or.inl rfl))) (pssd_cons (psd_set (i := 6) sc_law_taken.nd rfl (Or.inl rfl) (pcd_d (pd_call (cal_law_left T) hr (by decide) rfl (pda_cons (pd_var (pv 5)) (pda_cons (pd_var (pv 3)) (pda_cons (pd_var (pv 4)) (pda_cons (pd_var (pv 2)) pda_nil))))))) (pssd_cons (psd_if (pdt_W (pdw_and (pdt_C (pdc_eq hr (pd_var (pv 6)) (pd_lst pda_nil))) (pdw_and1 (pdt_C (pdc_in hr (pd_var (pv 5)) (pd_tup (pda_cons pd_str (pda_cons pd_str pda_nil)))))))) (pssd_one (psd_ret (pd_lst pda_nil))) pssd_nil) (pssd_one (psd_set (i := 4) sc_law_taken.nd rfl (Or.inl rfl) (pcd_d (pd_if (pdt_C (pdc_ne hr (pd_var (pv 6)) (pd_lst pda_nil))) (pd_var (pv 6)) (pd_var (pv 4))))))))) (pssd_one (psd_ret (pd_call (cal_law_end T) hr (by decide) rfl (pda_cons (pd_ix (pd_ix (pd_var (pv 0)) pd_int) (pd_neg pd_int)) (pda_cons (pd_var (pv 4)) pda_nil)))))))),
    hm, F.kp, F.binds fun _ _ _ _ _ _ us hl => match us, hl with | [_, _, _], _ => rfl, .nil⟩
theorem sc_law_marked : FnScope ["row", "key", "mark", "one"] ["row", "key", "mark"] (defScope (topS 68)) := ⟨rfl, rfl, rfl, by decide +kernel, rfl, by decide +kernel, by decide +kernel⟩
theorem cal_law_marked {P : Program} {w : World} {K : PySem.W.Frag} {mg : Str → Option Value} {base : Heap} (T : Txt K w mg) : C8.Cal P w K mg base 1 "_law_marked" (spD ⟨K, w⟩ 3 s_law_marked) [] := by
  obtain ⟨f, fd, F, hm⟩ := T.d_law_marked
  exact ⟨f, fd, ["row", "key", "mark"], [], fn_body (n := 3) (k := 0) (N := ["row", "key", "mark", "one"]) F sc_law_marked rfl (by decide) fun cdv A outer s H E hr =>
    pssd_one (psd_ret (pd_lc (own := [("one", 3)]) rfl sc_law_marked.nd (by decide) (pid_seq (pd_var (pv 0))) (blkOk_by (by kernel_rfl)) (fun _ _ _ _ _ => pgd_one (pg_name (i := 3) sc_law_marked.nd rfl (Or.inl rfl))) (fun _ _ _ _ _ => ptsd_nil) (fun _ _ _ _ _ => pd_if (pdt_C (pdc_eq hr (pd_ix (pd_var (pv 3)) pd_int) (pd_var (pv 1)))) (pd_tup (pda_cons (pd_ix (pd_var (pv 3)) pd_int) (pda_cons (pd_var (pv 2)) pda_nil))) (pd_var (pv 3))))),
    hm, F.kp, F.binds fun _ _ _ _ _ _ us hl => match us, hl with | [_, _, _], _ => rfl, .nil⟩
theorem sc_law_filled : FnScope ["machine", "row", "found", "turn", "waiting", "pair"] ["machine", "row"] (defScope (topS 69)) := ⟨rfl, rfl, rfl, by decide +kernel, rfl, by decide +kernel, by decide +kernel⟩
theorem cal_law_filled {P : Program} {w : World} {K : PySem.W.Frag} {mg : Str → Option Value} {base : Heap} (T : Txt K w mg) : C8.Cal P w K mg base 2 "_law_filled" (spD ⟨K, w⟩ 2 s_law_filled) [] := by
  obtain ⟨f, fd, F, hm⟩ := T.d_law_filled
  exact ⟨f, fd, ["machine", "row"], [], fn_body (n := 2) (k := 1) (N := ["machine", "row", "found", "turn", "waiting", "pair"]) F sc_law_filled rfl (by decide) fun cdv A outer s H E hr =>
    pssd_cons (psd_set (i := 2) sc_law_filled.nd rfl (Or.inl rfl) (pcd_lst pda_nil)) (pssd_cons (psd_for PassesOwn.never rfl (pid_range T.g_range rfl (pd_len T.g_len rfl (pd_var (pv 1)))) (pgd_one (pg_name (i := 3) sc_law_filled.nd rfl (Or.inl rfl))) (pssd_cons (psd_setLc (own := [("pair", 5)]) (i := 4) rfl sc_law_filled.nd rfl rfl (sw_true rfl rfl rfl (by decide +kernel)) (by decide) (pid_seq (pd_var (pv 1))) (blkOk_by (by kernel_rfl)) (fun _ _ _ _ _ => pgd_one (pg_name (i := 5) sc_law_filled.nd rfl (Or.inl rfl))) (fun _ _ _ _ _ => ptsd_one (pdt_C (pdc_eq hr (pd_ix (pd_var (pv 5)) pd_int) pd_str))) (fun _ _ _ _ _ => pd_var (pv 5))) (pssd_one (psd_if (pdt_W (pdw_and (pdt_C (pdc_ne hr (pd_ix (pd_var (pv 0)) pd_int) pd_str)) (pdw_and (pdt_C (pdc_ne hr (pd_var (pv 4)) (pd_lst pda_nil))) (pdw_and1 (pdt_C (pdc_lt (pd_len T.g_len rfl (pd_call (cal_law_loud T) hr (by decide) rfl (pda_cons (pd_var (pv 1)) pda_nil))) (pd_ix (pd_var (pv 0)) pd_int))))))) (pssd_cons (psd_app' (pv 2) (pd_ix (pd_call (cal_law_end T) hr (by decide) rfl (pda_cons (pd_ix (pd_var (pv 0)) pd_int) (pda_cons (pd_var (pv 4)) pda_nil))) pd_int) (hb := fun _ h => pe_bm PySem.F.plainAttrs_list PySem.F.slot_list_append PySem.F.type_list_append mt_append (pv 2) h)) (pssd_one (psd_set (i := 1) sc_law_filled.nd rfl (Or.inl rfl) (pcd_d (pd_call (cal_law_marked T) hr (by decide) rfl (pda_cons (pd_var (pv 1)) (pda_cons (pd_ixo (pv 2) (pd_neg pd_int)) (pda_cons pd_str pda_nil)))))))) pssd_nil)))) (pssd_frz 2 (pssd_one (psd_ret (pd_tup (pda_cons (pd_var (pv 1)) (pda_cons (pd_var (pv 2)) pda_nil))))))),
    hm, F.kp, F.binds fun _ _ _ _ _ _ us hl => match us, hl with | [_, _], _ => rfl, .nil⟩
end SV

/-! Walk9: the defs' derivations (printed by gen.py). -/
namespace SV
open PySem L2 DL
theorem sc_law_gone_down : FnScope ["machine", "row", "key", "taken", "rest", "pair"] ["machine", "row", "key"] (defScope (topS 70)) := ⟨rfl, rfl, rfl, by decide +kernel, rfl, by decide +kernel, by decide +kernel⟩
theorem cal_law_gone_down {P : Program} {w : World} {K : PySem.W.Frag} {mg : Str → Option Value} {base : Heap} (T : Txt K w mg) : C8.Cal P w K mg base 3 "_law_gone_down" (spD ⟨K, w⟩ 3 s_law_gone_down) [] := by
  obtain ⟨f, fd, F, hm⟩ := T.d_law_gone_down
  exact ⟨f, fd, ["machine", "row", "key"], [], fn_body (n := 3) (k := 2) (N := ["machine", "row", "key", "taken", "rest", "pair"]) F sc_law_gone_down rfl (by decide) fun cdv A outer s H E hr =>
    pssd_cons (psd_if (pdt_C (pdc_in hr (pd_tup (pda_cons (pd_var (pv 2)) (pda_cons pd_str pda_nil))) (pd_var (pv 1)))) (pssd_one (psd_ret (pd_tup (pda_cons (pd_add (pd_lc (own := [("pair", 5)]) rfl sc_law_gone_down.nd (by decide) (pid_seq (pd_var (pv 1))) (blkOk_by (by kernel_rfl)) (fun _ _ _ _ _ => pgd_one (pg_name (i := 5) sc_law_gone_down.nd rfl (Or.inl rfl))) (fun _ _ _ _ _ => ptsd_one (pdt_C (pdc_ne hr (pd_ix (pd_var (pv 5)) pd_int) (pd_var (pv 2))))) (fun _ _ _ _ _ => pd_var (pv 5))) (pd_lst (pda_cons (pd_tup (pda_cons (pd_var (pv 2)) (pda_cons pd_str pda_nil))) pda_nil))) (pda_cons (pd_lst (pda_cons (pd_tup (pda_cons pd_str (pda_cons (pd_var (pv 2)) pda_nil))) pda_nil)) pda_nil))))) pssd_nil) (pssd_cons (psd_if (pdt_C (pdc_lt (pd_len T.g_len rfl (pd_call (cal_law_loud T) hr (by decide) rfl (pda_cons (pd_var (pv 1)) pda_nil))) (pd_ix (pd_var (pv 0)) pd_int))) (pssd_one (psd_ret (pd_tup (pda_cons (pd_add (pd_var (pv 1)) (pd_lst (pda_cons (pd_tup (pda_cons (pd_var (pv 2)) (pda_cons pd_str pda_nil))) pda_nil))) (pda_cons (pd_lst (pda_cons (pd_tup (pda_cons pd_str (pda_cons (pd_var (pv 2)) pda_nil))) pda_nil)) pda_nil))))) pssd_nil) (pssd_cons (psd_set (i := 3) sc_law_gone_down.nd rfl (Or.inr rfl) (pcd_d (pd_call (cal_law_taken T) hr (by decide) rfl (pda_cons (pd_var (pv 0)) (pda_cons (pd_var (pv 1)) (pda_cons (pd_var (pv 2)) pda_nil)))))) (pssd_cons (psd_if (pdt_C (pdc_eq hr (pd_var (pv 3)) (pd_lst pda_nil))) (pssd_one (psd_ret (pd_tup (pda_cons (pd_add (pd_var (pv 1)) (pd_lst (pda_cons (pd_tup (pda_cons (pd_var (pv 2)) (pda_cons pd_str pda_nil))) pda_nil))) (pda_cons (pd_lst (pda_cons (pd_tup (pda_cons pd_str (pda_cons (pd_var (pv 2)) pda_nil))) pda_nil)) pda_nil))))) pssd_nil) (pssd_cons (psd_setLc (own := [("pair", 5)]) (i := 4) rfl sc_law_gone_down.nd rfl rfl (sw_true rfl rfl rfl (by decide +kernel)) (by decide) (pid_seq (pd_var (pv 1))) (blkOk_by (by kernel_rfl)) (fun _ _ _ _ _ => pgd_one (pg_name (i := 5) sc_law_gone_down.nd rfl (Or.inl rfl))) (fun _ _ _ _ _ => ptsd_one (pdt_C (pdc_ne hr (pd_var (pv 5)) (pd_tup (pda_cons (pd_ix (pd_var (pv 3)) pd_int) (pda_cons pd_str pda_nil)))))) (fun _ _ _ _ _ => pd_var (pv 5))) (pssd_one (psd_ret (pd_tup (pda_cons (pd_add (pd_call (cal_law_marked T) hr (by decide) rfl (pda_cons (pd_var (pv 4)) (pda_cons (pd_ix (pd_var (pv 3)) pd_int) (pda_cons pd_str pda_nil)))) (pd_lst (pda_cons (pd_tup (pda_cons (pd_var (pv 2)) (pda_cons pd_str pda_nil))) pda_nil))) (pda_cons (pd_lst (pda_cons (pd_tup (pda_cons pd_str (pda_cons (pd_ix (pd_var (pv 3)) pd_int) pda_nil))) (pda_cons (pd_tup (pda_cons pd_str (pda_cons (pd_var (pv 2)) pda_nil))) pda_nil))) pda_nil))))))))),
    hm, F.kp, F.binds fun _ _ _ _ _ _ us hl => match us, hl with | [_, _, _], _ => rfl, .nil⟩
theorem sc_law_stepped : FnScope ["machine", "state", "event", "foot", "row", "deeds_so", "gone", "back", "pair", "key"] ["machine", "state", "event"] (defScope (topS 71)) := ⟨rfl, rfl, rfl, by decide +kernel, rfl, by decide +kernel, by decide +kernel⟩
theorem cal_law_stepped {P : Program} {w : World} {K : PySem.W.Frag} {mg : Str → Option Value} {base : Heap} (T : Txt K w mg) : C8.Cal P w K mg base 4 "_law_stepped" (spD ⟨K, w⟩ 3 s_law_stepped) [] := by
  obtain ⟨f, fd, F, hm⟩ := T.d_law_stepped
  exact ⟨f, fd, ["machine", "state", "event"], [], fn_body (n := 3) (k := 3) (N := ["machine", "state", "event", "foot", "row", "deeds_so", "gone", "back", "pair", "key"]) F sc_law_stepped rfl (by decide) fun cdv A outer s H E hr =>
    pssd_cons (psd_par rfl sc_law_stepped.nd (i := 3) (j := 4) rfl rfl (by decide) rfl rfl (pcd_d (pd_ix (pd_var (pv 1)) pd_int)) (pcd_d (pd_list T.g_list rfl (pd_ix (pd_var (pv 1)) pd_int))) (by rfl)) (pssd_cons (psd_if (pdt_C (pdc_eq hr (pd_ix (pd_var (pv 2)) pd_int) pd_str)) (pssd_one (psd_ret (pd_tup (pda_cons (pd_tup (pda_cons pd_bl (pda_cons (pd_ix (pd_var (pv 1)) pd_int) pda_nil))) (pda_cons (pd_tup pda_nil) pda_nil))))) pssd_nil) (pssd_cons (psd_if (pdt_C (pdc_eq hr (pd_ix (pd_var (pv 2)) pd_int) pd_str)) (pssd_cons (psd_put (pd_call (cal_law_gone_down T) hr (by decide) rfl (pda_cons (pd_var (pv 0)) (pda_cons (pd_var (pv 4)) (pda_cons (pd_ix (pd_var (pv 2)) pd_int) pda_nil)))) (pgd_many rfl (pgsd_cons (pg_name (i := 4) sc_law_stepped.nd rfl (Or.inl rfl)) (pgsd_cons (pg_name (i := 5) sc_law_stepped.nd rfl (Or.inl rfl)) pgsd_nil)) rfl)) (pssd_one (psd_ret (pd_tup (pda_cons (pd_tup (pda_cons (pd_var (pv 3)) (pda_cons (pd_tuple T.g_tuple rfl (pd_var (pv 4))) pda_nil))) (pda_cons (pd_tuple T.g_tuple rfl (pd_var (pv 5))) pda_nil)))))) pssd_nil) (pssd_cons (psd_if (pdt_W (pdw_and (pdt_C (pdc_eq hr (pd_ix (pd_var (pv 2)) pd_int) pd_str)) (pdw_and1 (pdt_C (pdc_in hr (pd_tup (pda_cons (pd_ix (pd_var (pv 2)) pd_int) (pda_cons pd_str pda_nil))) (pd_var (pv 4))))))) (pssd_one (psd_ret (pd_tup (pda_cons (pd_tup (pda_cons (pd_var (pv 3)) (pda_cons (pd_tuple T.g_tuple rfl (pd_lc (own := [("pair", 8)]) rfl sc_law_stepped.nd (by decide) (pid_seq (pd_var (pv 4))) (blkOk_by (by kernel_rfl)) (fun _ _ _ _ _ => pgd_one (pg_name (i := 8) sc_law_stepped.nd rfl (Or.inl rfl))) (fun _ _ _ _ _ => ptsd_one (pdt_C (pdc_ne hr (pd_ix (pd_var (pv 8)) pd_int) (pd_ix (pd_var (pv 2)) pd_int)))) (fun _ _ _ _ _ => pd_var (pv 8)))) pda_nil))) (pda_cons (pd_tup (pda_cons (pd_tup (pda_cons pd_str (pda_cons (pd_ix (pd_var (pv 2)) pd_int) pda_nil))) pda_nil)) pda_nil))))) pssd_nil) (pssd_cons (psd_if (pdt_W (pdw_and (pdt_C (pdc_eq hr (pd_ix (pd_var (pv 2)) pd_int) pd_str)) (pdw_and1 (pdt_v (pd_var (pv 3)))))) (pssd_one (psd_ret (pd_tup (pda_cons (pd_tup (pda_cons (pd_var (pv 3)) (pda_cons (pd_tuple T.g_tuple rfl (pd_call (cal_law_marked T) hr (by decide) rfl (pda_cons (pd_var (pv 4)) (pda_cons (pd_ix (pd_var (pv 2)) pd_int) (pda_cons pd_str pda_nil))))) pda_nil))) (pda_cons (pd_tup (pda_cons (pd_tup (pda_cons pd_str (pda_cons (pd_ix (pd_var (pv 2)) pd_int) pda_nil))) pda_nil)) pda_nil))))) pssd_nil) (pssd_cons (psd_set (i := 6) sc_law_stepped.nd rfl (Or.inr rfl) (pcd_d (pd_if (pdt_C (pdc_eq hr (pd_ix (pd_var (pv 2)) pd_int) pd_str)) (pd_lc (own := [("pair", 8)]) rfl sc_law_stepped.nd (by decide) (pid_seq (pd_var (pv 4))) (blkOk_by (by kernel_rfl)) (fun _ _ _ _ _ => pgd_one (pg_name (i := 8) sc_law_stepped.nd rfl (Or.inl rfl))) (fun _ _ _ _ _ => ptsd_one (pdt_C (pdc_eq hr (pd_ix (pd_var (pv 8)) pd_int) pd_str))) (fun _ _ _ _ _ => pd_ix (pd_var (pv 8)) pd_int)) (pd_lst (pda_cons (pd_ix (pd_var (pv 2)) pd_int) pda_nil))))) (pssd_cons (psd_put (pd_call (cal_law_filled T) hr (by decide) rfl (pda_cons (pd_var (pv 0)) (pda_cons (pd_lc (own := [("pair", 8)]) rfl sc_law_stepped.nd (by decide) (pid_seq (pd_var (pv 4))) (blkOk_by (by kernel_rfl)) (fun _ _ _ _ _ => pgd_one (pg_name (i := 8) sc_law_stepped.nd rfl (Or.inl rfl))) (fun _ _ _ _ _ => ptsd_one (pdt_C (pdc_notIn hr (pd_ix (pd_var (pv 8)) pd_int) (pd_var (pv 6))))) (fun _ _ _ _ _ => pd_var (pv 8))) pda_nil))) (pgd_many rfl (pgsd_cons (pg_name (i := 4) sc_law_stepped.nd rfl (Or.inl rfl)) (pgsd_cons (pg_name (i := 7) sc_law_stepped.nd rfl (Or.inl rfl)) pgsd_nil)) rfl)) (pssd_one (psd_ret (pd_tup (pda_cons (pd_tup (pda_cons pd_bl (pda_cons (pd_tuple T.g_tuple rfl (pd_var (pv 4))) pda_nil))) (pda_cons (pd_tuple T.g_tuple rfl (pd_add (pd_lc (own := [("key", 9)]) rfl sc_law_stepped.nd (by decide) (pid_seq (pd_var (pv 6))) (blkOk_by (by kernel_rfl)) (fun _ _ _ _ _ => pgd_one (pg_name (i := 9) sc_law_stepped.nd rfl (Or.inl rfl))) (fun _ _ _ _ _ => ptsd_nil) (fun _ _ _ _ _ => pd_tup (pda_cons pd_str (pda_cons (pd_var (pv 9)) pda_nil)))) (pd_lc (own := [("key", 9)]) rfl sc_law_stepped.nd (by decide) (pid_seq (pd_var (pv 7))) (blkOk_by (by kernel_rfl)) (fun _ _ _ _ _ => pgd_one (pg_name (i := 9) sc_law_stepped.nd rfl (Or.inl rfl))) (fun _ _ _ _ _ => ptsd_nil) (fun _ _ _ _ _ => pd_tup (pda_cons pd_str (pda_cons (pd_var (pv 9)) pda_nil)))))) pda_nil))))))))))),
    hm, F.kp, F.binds fun _ _ _ _ _ _ us hl => match us, hl with | [_, _, _], _ => rfl, .nil⟩
theorem sc_law_events : FnScope ["wide", "foot", "found", "key"] ["wide", "foot"] (defScope (topS 72)) := ⟨rfl, rfl, rfl, by decide +kernel, rfl, by decide +kernel, by decide +kernel⟩
theorem cal_law_events {P : Program} {w : World} {K : PySem.W.Frag} {mg : Str → Option Value} {base : Heap} (T : Txt K w mg) : C8.Cal P w K mg base 1 "_law_events" (spD ⟨K, w⟩ 2 s_law_events) [] := by
  obtain ⟨f, fd, F, hm⟩ := T.d_law_events
  exact ⟨f, fd, ["wide", "foot"], [], fn_body (n := 2) (k := 0) (N := ["wide", "foot", "found", "key"]) F sc_law_events rfl (by decide) fun cdv A outer s H E hr =>
    pssd_cons (psd_set (i := 2) sc_law_events.nd rfl (Or.inl rfl) (pcd_d (pd_add (pd_lc (own := [("key", 3)]) rfl sc_law_events.nd (by decide) (pid_range T.g_range rfl (pd_var (pv 0))) (blkOk_by (by kernel_rfl)) (fun _ _ _ _ _ => pgd_one (pg_name (i := 3) sc_law_events.nd rfl (Or.inl rfl))) (fun _ _ _ _ _ => ptsd_nil) (fun _ _ _ _ _ => pd_tup (pda_cons pd_str (pda_cons (pd_var (pv 3)) pda_nil)))) (pd_lc (own := [("key", 3)]) rfl sc_law_events.nd (by decide) (pid_range T.g_range rfl (pd_var (pv 0))) (blkOk_by (by kernel_rfl)) (fun _ _ _ _ _ => pgd_one (pg_name (i := 3) sc_law_events.nd rfl (Or.inl rfl))) (fun _ _ _ _ _ => ptsd_nil) (fun _ _ _ _ _ => pd_tup (pda_cons pd_str (pda_cons (pd_var (pv 3)) pda_nil))))))) (pssd_one (psd_ret (pd_add (pd_var (pv 2)) (pd_mul (pd_lst (pda_cons (pd_tup (pda_cons pd_str pda_nil)) (pda_cons (pd_tup (pda_cons pd_str pda_nil)) pda_nil))) (pd_int1 T.g_int rfl (pd_var (pv 1))))))),
    hm, F.kp, F.binds fun _ _ _ _ _ _ us hl => match us, hl with | [_, _], _ => rfl, .nil⟩
theorem sc_law_can : FnScope ["state", "event", "is_down", "pair"] ["state", "event"] (defScope (topS 73)) := ⟨rfl, rfl, rfl, by decide +kernel, rfl, by decide +kernel, by decide +kernel⟩
theorem cal_law_can {P : Program} {w : World} {K : PySem.W.Frag} {mg : Str → Option Value} {base : Heap} (T : Txt K w mg) : C8.Cal P w K mg base 1 "_law_can" (spD ⟨K, w⟩ 2 s_law_can) [] := by
  obtain ⟨f, fd, F, hm⟩ := T.d_law_can
  exact ⟨f, fd, ["state", "event"], [], fn_body (n := 2) (k := 0) (N := ["state", "event", "is_down", "pair"]) F sc_law_can rfl (by decide) fun cdv A outer s H E hr =>
    pssd_cons (psd_if (pdt_C (pdc_in hr (pd_ix (pd_var (pv 1)) pd_int) (pd_tup (pda_cons pd_str (pda_cons pd_str pda_nil))))) (pssd_one (psd_ret (pd_C (pdc_eq hr (pd_ix (pd_var (pv 0)) pd_int) (pd_C (pdc_eq hr (pd_ix (pd_var (pv 1)) pd_int) pd_str)))))) pssd_nil) (pssd_cons (psd_set (i := 2) sc_law_can.nd rfl (Or.inl rfl) (pcd_d (pd_C (pdc_ne hr (pd_lc (own := [("pair", 3)]) rfl sc_law_can.nd (by decide) (pid_seq (pd_ix (pd_var (pv 0)) pd_int)) (blkOk_by (by kernel_rfl)) (fun _ _ _ _ _ => pgd_one (pg_name (i := 3) sc_law_can.nd rfl (Or.inl rfl))) (fun _ _ _ _ _ => ptsd_one (pdt_W (pdw_and (pdt_C (pdc_eq hr (pd_ix (pd_var (pv 3)) pd_int) (pd_ix (pd_var (pv 1)) pd_int))) (pdw_and1 (pdt_C (pdc_ne hr (pd_ix (pd_var (pv 3)) pd_int) pd_str)))))) (fun _ _ _ _ _ => pd_var (pv 3))) (pd_lst pda_nil))))) (pssd_one (psd_ret (pd_C (pdc_eq hr (pd_var (pv 2)) (pd_C (pdc_eq hr (pd_ix (pd_var (pv 1)) pd_int) pd_str))))))),
    hm, F.kp, F.binds fun _ _ _ _ _ _ us hl => match us, hl with | [_, _], _ => rfl, .nil⟩
theorem sc_law_handed : FnScope ["before", "behind", "old", "new", "pair", "key"] ["before", "behind"] (defScope (topS 75)) := ⟨rfl, rfl, rfl, by decide +kernel, rfl, by decide +kernel, by decide +kernel⟩
theorem cal_law_handed {P : Program} {w : World} {K : PySem.W.Frag} {mg : Str → Option Value} {base : Heap} (T : Txt K w mg) : C8.Cal P w K mg base 1 "_law_handed" (spD ⟨K, w⟩ 2 s_law_handed) [] := by
  obtain ⟨f, fd, F, hm⟩ := T.d_law_handed
  exact ⟨f, fd, ["before", "behind"], [], fn_body (n := 2) (k := 0) (N := ["before", "behind", "old", "new", "pair", "key"]) F sc_law_handed rfl (by decide) fun cdv A outer s H E hr =>
    pssd_cons (psd_set (i := 2) sc_law_handed.nd rfl (Or.inr rfl) (pcd_d (pd_lc (own := [("pair", 4)]) rfl sc_law_handed.nd (by decide) (pid_seq (pd_ix (pd_var (pv 0)) pd_int)) (blkOk_by (by kernel_rfl)) (fun _ _ _ _ _ => pgd_one (pg_name (i := 4) sc_law_handed.nd rfl (Or.inl rfl))) (fun _ _ _ _ _ => ptsd_one (pdt_C (pdc_eq hr (pd_ix (pd_var (pv 4)) pd_int) pd_str))) (fun _ _ _ _ _ => pd_ix (pd_var (pv 4)) pd_int)))) (pssd_cons (psd_set (i := 3) sc_law_handed.nd rfl (Or.inr rfl) (pcd_d (pd_lc (own := [("pair", 4)]) rfl sc_law_handed.nd (by decide) (pid_seq (pd_ix (pd_var (pv 1)) pd_int)) (blkOk_by (by kernel_rfl)) (fun _ _ _ _ _ => pgd_one (pg_name (i := 4) sc_law_handed.nd rfl (Or.inl rfl))) (fun _ _ _ _ _ => ptsd_one (pdt_C (pdc_eq hr (pd_ix (pd_var (pv 4)) pd_int) pd_str))) (fun _ _ _ _ _ => pd_ix (pd_var (pv 4)) pd_int)))) (pssd_one (psd_ret (pd_add (pd_lc (own := [("key", 5)]) rfl sc_law_handed.nd (by decide) (pid_seq (pd_var (pv 3))) (blkOk_by (by kernel_rfl)) (fun _ _ _ _ _ => pgd_one (pg_name (i := 5) sc_law_handed.nd rfl (Or.inl rfl))) (fun _ _ _ _ _ => ptsd_one (pdt_C (pdc_notIn hr (pd_var (pv 5)) (pd_var (pv 2))))) (fun _ _ _ _ _ => pd_tup (pda_cons pd_str (pda_cons (pd_var (pv 5)) pda_nil)))) (pd_lc (own := [("key", 5)]) rfl sc_law_handed.nd (by decide) (pid_seq (pd_var (pv 2))) (blkOk_by (by kernel_rfl)) (fun _ _ _ _ _ => pgd_one (pg_name (i := 5) sc_law_handed.nd rfl (Or.inl rfl))) (fun _ _ _ _ _ => ptsd_one (pdt_C (pdc_notIn hr (pd_var (pv 5)) (pd_var (pv 3))))) (fun _ _ _ _ _ => pd_tup (pda_cons pd_str (pda_cons (pd_var (pv 5)) pda_nil)))))))),
    hm, F.kp, F.binds fun _ _ _ _ _ _ us hl => match us, hl with | [_, _], _ => rfl, .nil⟩
end SV

/-! Walk10: the defs' derivations (printed by gen.py). -/
namespace SV
open PySem L2 DL
theorem sc_law_linked : FnScope ["chain", "states", "event", "found", "some", "machine", "state", "behind", "one"] ["chain", "states", "event"] (defScope (topS 76)) := ⟨rfl, rfl, rfl, by decide +kernel, rfl, by decide +kernel, by decide +kernel⟩
theorem cal_law_linked {P : Program} {w : World} {K : PySem.W.Frag} {mg : Str → Option Value} {base : Heap} (T : Txt K w mg) : C8.Cal P w K mg base 5 "_law_linked" (spD ⟨K, w⟩ 3 s_law_linked) [] := by
  obtain ⟨f, fd, F, hm⟩ := T.d_law_linked
  exact ⟨f, fd, ["chain", "states", "event"], [], fn_body (n := 3) (k := 4) (N := ["chain", "states", "event", "found", "some", "machine", "state", "behind", "one"]) F sc_law_linked rfl (by decide) fun cdv A outer s H E hr =>
    pssd_cons (psd_par rfl sc_law_linked.nd (i := 3) (j := 4) rfl rfl (by decide) rfl rfl (pcd_lst pda_nil) (pcd_d (pd_lst (pda_cons (pd_var (pv 2)) pda_nil))) (by rfl)) (pssd_cons (psd_for PassesOwn.never rfl (pid_zip T.g_zip rfl (pda_cons (pd_var (pv 0)) (pda_cons (pd_var (pv 1)) pda_nil))) (pgd_many rfl (pgsd_cons (pg_name (i := 5) sc_law_linked.nd rfl (Or.inl rfl)) (pgsd_cons (pg_name (i := 6) sc_law_linked.nd rfl (Or.inl rfl)) pgsd_nil)) rfl) (pssd_cons (psd_set (i := 7) sc_law_linked.nd rfl (Or.inl rfl) (pcd_d (pd_var (pv 6)))) (pssd_cons (psd_for PassesOwn.never rfl (pid_seq (pd_var (pv 4))) (pgd_one (pg_name (i := 8) sc_law_linked.nd rfl (Or.inl rfl))) (pssd_one (psd_set (i := 7) sc_law_linked.nd rfl (Or.inl rfl) (pcd_d (pd_ix (pd_call (cal_law_stepped T) hr (by decide) rfl (pda_cons (pd_var (pv 5)) (pda_cons (pd_var (pv 7)) (pda_cons (pd_var (pv 8)) pda_nil)))) pd_int))))) (pssd_cons (psd_set (i := 4) sc_law_linked.nd rfl (Or.inl rfl) (pcd_d (pd_call (cal_law_handed T) hr (by decide) rfl (pda_cons (pd_var (pv 6)) (pda_cons (pd_var (pv 7)) pda_nil))))) (pssd_one (psd_app' (pv 3) (pd_var (pv 7)) (hb := fun _ h => pe_bm PySem.F.plainAttrs_list PySem.F.slot_list_append PySem.F.type_list_append mt_append (pv 3) h))))))) (pssd_frz 3 (pssd_one (psd_ret (pd_tuple T.g_tuple rfl (pd_var (pv 3))))))),
    hm, F.kp, F.binds fun _ _ _ _ _ _ us hl => match us, hl with | [_, _, _], _ => rfl, .nil⟩
theorem sc_law_chain_sound : FnScope ["states", "found", "state"] ["states"] (defScope (topS 77)) := ⟨rfl, rfl, rfl, by decide +kernel, rfl, by decide +kernel, by decide +kernel⟩
theorem cal_law_chain_sound {P : Program} {w : World} {K : PySem.W.Frag} {mg : Str → Option Value} {base : Heap} (T : Txt K w mg) : C8.Cal P w K mg base 3 "_law_chain_sound" (spD ⟨K, w⟩ 1 s_law_chain_sound) [] := by
  obtain ⟨f, fd, F, hm⟩ := T.d_law_chain_sound
  exact ⟨f, fd, ["states"], [], fn_body (n := 1) (k := 2) (N := ["states", "found", "state"]) F sc_law_chain_sound rfl (by decide) fun cdv A outer s H E hr =>
    pssd_cons (psd_set (i := 1) sc_law_chain_sound.nd rfl (Or.inl rfl) (pcd_d (pd_lst pda_nil))) (pssd_cons (psd_for PassesOwn.never rfl (pid_seq (pd_var (pv 0))) (pgd_one (pg_name (i := 2) sc_law_chain_sound.nd rfl (Or.inl rfl))) (pssd_one (psd_set (i := 1) sc_law_chain_sound.nd rfl (Or.inl rfl) (pcd_d (pd_add (pd_var (pv 1)) (pd_list T.g_list rfl (pd_call (cal_law_sound T) hr (by decide) rfl (pda_cons (pd_var (pv 2)) pda_nil)))))))) (pssd_one (psd_ret (pd_tuple T.g_tuple rfl (pd_sorted T.g_sorted rfl (pd_var (pv 1))))))),
    hm, F.kp, F.binds fun _ _ _ _ _ _ us hl => match us, hl with | [_], _ => rfl, .nil⟩
theorem sc_law_chained : FnScope ["one", "other", "wide", "front", "turns", "found", "later", "pair", "event", "behind", "apart", "step_so"] ["one", "other", "wide"] (defScope (topS 78)) := ⟨rfl, rfl, rfl, by decide +kernel, rfl, by decide +kernel, by decide +kernel⟩
theorem cal_law_chained {P : Program} {w : World} {K : PySem.W.Frag} {mg : Str → Option Value} {base : Heap} (T : Txt K w mg) : C8.Cal P w K mg base 6 "_law_chained" (spD ⟨K, w⟩ 3 s_law_chained) [] := by
  obtain ⟨f, fd, F, hm⟩ := T.d_law_chained
  exact ⟨f, fd, ["one", "other", "wide"], [], fn_body (n := 3) (k := 5) (N := ["one", "other", "wide", "front", "turns", "found", "later", "pair", "event", "behind", "apart", "step_so"]) F sc_law_chained rfl (by decide) fun cdv A outer s H E hr =>
    pssd_cons (psd_par rfl sc_law_chained.nd (i := 3) (j := 4) rfl rfl (by decide) rfl rfl (pcd_d (pd_lst (pda_cons (pd_tup (pda_cons (pd_mul (pd_tup (pda_cons (pd_tup (pda_cons pd_bl (pda_cons (pd_tup pda_nil) pda_nil))) pda_nil)) (pd_len T.g_len rfl (pd_var (pv 0)))) (pda_cons (pd_mul (pd_tup (pda_cons (pd_tup (pda_cons pd_bl (pda_cons (pd_tup pda_nil) pda_nil))) pda_nil)) (pd_len T.g_len rfl (pd_var (pv 1)))) pda_nil))) pda_nil))) (pcd_d pd_int) (by rfl)) (pssd_cons (psd_set (i := 5) sc_law_chained.nd rfl (Or.inl rfl) (pcd_disp1 hr (pd_ix (pd_var (pv 3)) pd_int) pd_int)) (pssd_cons (psd_while fuel PassesOwn.never (pdt_C (pdc_ne hr (pd_var (pv 3)) (pd_lst pda_nil))) (pssd_cons (psd_par rfl sc_law_chained.nd (i := 6) (j := 4) rfl rfl (by decide) rfl rfl (pcd_lst pda_nil) (pcd_d (pd_add (pd_var (pv 4)) pd_int)) (by rfl)) (pssd_cons (psd_for PassesOwn.never rfl (pid_seq (pd_list T.g_list rfl (pd_var (pv 3)))) (pgd_one (pg_name (i := 7) sc_law_chained.nd rfl (Or.inr rfl))) (pssd_one (psd_for PassesOwn.never rfl (pid_seq (pd_lc (own := [("step_so", 11)]) rfl sc_law_chained.nd (by decide) (pid_seq (pd_call (cal_law_events T) hr (by decide) rfl (pda_cons (pd_var (pv 2)) (pda_cons pd_bl pda_nil)))) (blkOk_by (by kernel_rfl)) (fun _ _ _ _ _ => pgd_one (pg_name (i := 11) sc_law_chained.nd rfl (Or.inl rfl))) (fun _ _ _ _ _ => ptsd_one (pdt_v (pd_call (cal_law_can T) hr (by decide) rfl (pda_cons (pd_ix (pd_ix (pd_var (pv 7)) pd_int) pd_int) (pda_cons (pd_var (pv 11)) pda_nil))))) (fun _ _ _ _ _ => pd_var (pv 11)))) (pgd_one (pg_name (i := 8) sc_law_chained.nd rfl (Or.inl rfl))) (pssd_cons (psd_set (i := 9) sc_law_chained.nd rfl (Or.inl rfl) (pcd_d (pd_tup (pda_cons (pd_call (cal_law_linked T) hr (by decide) rfl (pda_cons (pd_var (pv 0)) (pda_cons (pd_ix (pd_var (pv 7)) pd_int) (pda_cons (pd_var (pv 8)) pda_nil)))) (pda_cons (pd_call (cal_law_linked T) hr (by decide) rfl (pda_cons (pd_var (pv 1)) (pda_cons (pd_ix (pd_var (pv 7)) pd_int) (pda_cons (pd_var (pv 8)) pda_nil)))) pda_nil))))) (pssd_one (psd_if (pdt_C (pdc_notInO hr (pd_var (pv 9)) (pv 5))) (pssd_cons (psd_putO hr (pv 5) (pd_var (pv 9)) (pd_var (pv 4))) (pssd_one (psd_app' (pv 6) (pd_var (pv 9)) (hb := fun _ h => pe_bm PySem.F.plainAttrs_list PySem.F.slot_list_append PySem.F.type_list_append mt_append (pv 6) h)))) pssd_nil)))))) (pssd_frz 6 (pssd_cons (psd_setLc (own := [("pair", 7)]) (i := 10) rfl sc_law_chained.nd rfl rfl (sw_true rfl rfl rfl (by decide +kernel)) (by decide) (pid_seq (pd_var (pv 6))) (blkOk_by (by kernel_rfl)) (fun _ _ _ _ _ => pgd_one (pg_name (i := 7) sc_law_chained.nd rfl (Or.inl rfl))) (fun _ _ _ _ _ => ptsd_one (pdt_C (pdc_ne hr (pd_call (cal_law_chain_sound T) hr (by decide) rfl (pda_cons (pd_ix (pd_var (pv 7)) pd_int) pda_nil)) (pd_call (cal_law_chain_sound T) hr (by decide) rfl (pda_cons (pd_ix (pd_var (pv 7)) pd_int) pda_nil))))) (fun _ _ _ _ _ => pd_var (pv 7))) (pssd_frz 6 (pssd_one (psd_set (i := 3) sc_law_chained.nd rfl (Or.inl rfl) (pcd_d (pd_if (pdt_C (pdc_eq hr (pd_var (pv 10)) (pd_lst pda_nil))) (pd_var (pv 6)) (pd_lst pda_nil))))))))))) (pssd_frz 5 (pssd_one (psd_ret (pd_var (pv 5))))))),
    hm, F.kp, F.binds fun _ _ _ _ _ _ us hl => match us, hl with | [_, _, _], _ => rfl, .nil⟩
theorem sc_law_right : FnScope ["one", "other", "wide", "play", "some", "due", "pair", "event"] ["one", "other", "wide", "play"] (defScope (topS 80)) := ⟨rfl, rfl, rfl, by decide +kernel, rfl, by decide +kernel, by decide +kernel⟩
theorem cal_law_right {P : Program} {w : World} {K : PySem.W.Frag} {mg : Str → Option Value} {base : Heap} (T : Txt K w mg) : C8.Cal P w K mg base 8 "_law_right" (spD ⟨K, w⟩ 4 s_law_right) [] := by
  obtain ⟨f, fd, F, hm⟩ := T.d_law_right
  exact ⟨f, fd, ["one", "other", "wide", "play"], [], fn_body (n := 4) (k := 7) (N := ["one", "other", "wide", "play", "some", "due", "pair", "event"]) F sc_law_right rfl (by decide) fun cdv A outer s H E hr =>
    pssd_cons (psd_set (i := 4) sc_law_right.nd rfl (Or.inr rfl) (pcd_d (pd_call (cal_law_chained T) hr (by decide) rfl (pda_cons (pd_var (pv 0)) (pda_cons (pd_var (pv 1)) (pda_cons (pd_var (pv 2)) pda_nil)))))) (pssd_cons (psd_setLc (own := [("pair", 6)]) (i := 5) rfl sc_law_right.nd rfl rfl (sw_true rfl rfl rfl (by decide +kernel)) (by decide) (pid_dict (pd_var (pv 4))) (blkOk_by (by kernel_rfl)) (fun _ _ _ _ _ => pgd_one (pg_name (i := 6) sc_law_right.nd rfl (Or.inl rfl))) (fun _ _ _ _ _ => ptsd_one (pdt_C (pdc_ne hr (pd_call (cal_law_chain_sound T) hr (by decide) rfl (pda_cons (pd_ix (pd_var (pv 6)) pd_int) pda_nil)) (pd_call (cal_law_chain_sound T) hr (by decide) rfl (pda_cons (pd_ix (pd_var (pv 6)) pd_int) pda_nil))))) (fun _ _ _ _ _ => pd_dix hr (pd_var (pv 4)) (pd_var (pv 6)))) (pssd_cons (psd_if (pdt_W (pdw_or (pdt_C (pdc_eq hr (pd_var (pv 5)) (pd_lst pda_nil))) (pdw_or1 (pdt_C (pdc_isN (pd_var (pv 3)) pd_non))))) (pssd_one (psd_ret (pd_and (pd_C (pdc_eq hr (pd_var (pv 5)) (pd_lst pda_nil))) (pd_one (pd_C (pdc_isN (pd_var (pv 3)) pd_non)))))) pssd_nil) (pssd_cons (psd_if (pdt_W (pdw_or (pdt_not (pdt_v (pd_isi (T' := "tuple") isi_tuple T.g_tuple rfl (by decide +kernel) (by decide) (by decide) T.g_isinstance rfl (pd_var (pv 3))))) (pdw_or (pdt_C (pdc_ne hr (pd_len T.g_len rfl (pd_var (pv 3))) (pd_minL rfl T.g_min rfl (pd_var (pv 5))))) (pdw_or1 (pdt_not (pdt_v (pd_call (cal_is_play T) hr (by decide) rfl (pda_cons (pd_var (pv 3)) pda_nil)))))))) (pssd_one (psd_ret pd_bl)) pssd_nil) (pssd_cons (psd_if (pdt_C (pdc_ne hr (pd_lc (own := [("event", 7)]) rfl sc_law_right.nd (by decide) (pid_seq (pd_var (pv 3))) (blkOk_by (by kernel_rfl)) (fun _ _ _ _ _ => pgd_one (pg_name (i := 7) sc_law_right.nd rfl (Or.inl rfl))) (fun _ _ _ _ _ => ptsd_one (pdt_C (pdc_notIn hr (pd_var (pv 7)) (pd_call (cal_law_events T) hr (by decide) rfl (pda_cons (pd_var (pv 2)) (pda_cons pd_bl pda_nil)))))) (fun _ _ _ _ _ => pd_var (pv 7))) (pd_lst pda_nil))) (pssd_one (psd_ret pd_bl)) pssd_nil) (pssd_one (psd_ret (pd_C (pdc_ne hr (pd_ix (pd_call (cal_chain_trace T) hr (by decide) rfl (pda_cons (pd_var (pv 0)) (pda_cons (pd_var (pv 3)) pda_nil))) (pd_neg pd_int)) (pd_ix (pd_call (cal_chain_trace T) hr (by decide) rfl (pda_cons (pd_var (pv 1)) (pda_cons (pd_var (pv 3)) pda_nil))) (pd_neg pd_int)))))))))),
    hm, F.kp, F.binds fun _ _ _ _ _ _ us hl => match us, hl with | [_, _, _, _], _ => rfl, .nil⟩
end SV

/-! ML5: the law's drawing defs. -/
namespace SV
open PySem L2 DL
def gG : Fx := eIxK 0 (eC (.str "great"))
def gT : Fx := eIxK 0 (eC (.str "turns"))
def gSd : Fx := eIxK 0 (eC (.str "seed"))
def gTail : Fx := eCut gG (oSome (eC (.int 1))) oNone
def b_law_draw : Fms := mSeq (mWhile (ftAnd (tOf (eB gNe gG (eLst aNil))) (tOf (eB gEq (eB gIx gG (eC (.int 0))) (eC (.int 0))))) (mPutK (eC (.str "great")) gTail 0) 100)
  (mSeq (mIf (tOf (eB gNe gG (eLst aNil))) (mSeq (mSet 2 (mOf (eB gIx gG (eC (.int 0))))) (mSeq (mPutK (eC (.str "great")) (eB gAdd (eLst (aCons (eB gDivZ (eVar 2) (eVar 1)) aNil)) gTail) 0) (mRet (mOf (eB gModZ (eCall gInt (aCons (eVar 2) aNil)) (eVar 1)))))) mNext)
  (mSeq (mPutK (eC (.str "turns")) (eB gAdd gT (eC (.int 1))) 0)
  (mSeq (mSet 3 (mOf (eB gModZ (eCall gInt (aCons (eB gAdd (eB gAdd (eB gMulZ gSd (eC (.int 48271))) (eB gMulZ (eB gMulZ gT gT) (eC (.int 16807)))) gT) aNil)) (eC (.int 2147483647)))))
  (mSeq (mSet 3 (mOf (eB gModZ (eCall gInt (aCons (eB gAdd (eB gMulZ (eVar 3) (eC (.int 69621))) (eC (.int 12345))) aNil)) (eC (.int 2147483629)))))
  (mRet (mOf (eB gModZ (eB gDivZ (eB gModZ (eCall gInt (aCons (eB gAdd (eB gMulZ (eVar 3) (eC (.int 40014))) gT) aNil)) (eC (.int 2147483563))) (eC (.int 64))) (eVar 1))))))))
def s_law_draw : FnM := runM 1 4 b_law_draw
theorem sc_law_draw : FnScope ["m", "limit", "cell", "mixed"] ["m", "limit"] (defScope (topS 60)) := ⟨rfl, rfl, rfl, by decide +kernel, rfl, by decide +kernel, by decide +kernel⟩
theorem cal_law_draw {P : Program} {w : World} {K : PySem.W.Frag} {mg : Str → Option Value} {base : Heap} (T : Txt K w mg) : C8.Cal P w K mg base 1 "_law_draw" (spM ⟨K, w⟩ s_law_draw) [] := by
  obtain ⟨f, fd, F, hm⟩ := T.d_law_draw
  exact ⟨f, fd, ["m", "limit"], [], fn_bodyM (n := 1) (k := 0) (N := ["m", "limit", "cell", "mixed"]) F sc_law_draw rfl (by decide) fun cdv A outer s H E hr =>
    pssm_cons (psm_while 100 PassesOwn.never (pdt_W (pdw_and (pdt_C (pdc_ne hr (pd_ixk hr (pv 0) pd_str) (pd_lst pda_nil))) (pdw_and1 (pdt_C (pdc_eq hr (pd_ix (pd_ixk hr (pv 0) pd_str) pd_int) pd_int))))) (pssm_one (psm_putK hr (pv 0) pd_str (pd_cut (pd_ixk hr (pv 0) pd_str) (pdo_some pd_int) pdo_none))))
    (pssm_cons (psm_if (pdt_C (pdc_ne hr (pd_ixk hr (pv 0) pd_str) (pd_lst pda_nil))) (pssm_cons (psm_set (i := 2) sc_law_draw.nd rfl (Or.inl rfl) (by decide) (pm_of (pd_ix (pd_ixk hr (pv 0) pd_str) pd_int))) (pssm_cons (psm_putK hr (pv 0) pd_str (pd_add (pd_lst (pda_cons (pd_divZ (pd_var (pv 2)) (pd_var (pv 1))) pda_nil)) (pd_cut (pd_ixk hr (pv 0) pd_str) (pdo_some pd_int) pdo_none))) (pssm_one (psm_ret (pm_of (pd_modZ (pd_int1 T.g_int rfl (pd_var (pv 2))) (pd_var (pv 1)))))))) pssm_nil)
    (pssm_cons (psm_putK hr (pv 0) pd_str (pd_add (pd_ixk hr (pv 0) pd_str) pd_int))
    (pssm_cons (psm_set (i := 3) sc_law_draw.nd rfl (Or.inl rfl) (by decide) (pm_of (pd_modZ (pd_int1 T.g_int rfl (pd_add (pd_add (pd_mulZ (pd_ixk hr (pv 0) pd_str) pd_int) (pd_mulZ (pd_mulZ (pd_ixk hr (pv 0) pd_str) (pd_ixk hr (pv 0) pd_str)) pd_int)) (pd_ixk hr (pv 0) pd_str))) pd_int)))
    (pssm_cons (psm_set (i := 3) sc_law_draw.nd rfl (Or.inl rfl) (by decide) (pm_of (pd_modZ (pd_int1 T.g_int rfl (pd_add (pd_mulZ (pd_var (pv 3)) pd_int) pd_int)) pd_int)))
    (pssm_one (psm_ret (pm_of (pd_modZ (pd_divZ (pd_modZ (pd_int1 T.g_int rfl (pd_add (pd_mulZ (pd_var (pv 3)) pd_int) (pd_ixk hr (pv 0) pd_str))) pd_int) pd_int) (pd_var (pv 1)))))))))),
    hm, F.kp, F.binds fun _ _ _ _ _ _ us hl => match us, hl with | [_, _], _ => rfl, .nil⟩
def b_law_of : Fms := mRet (mB gIx (mOf (eVar 1)) (mCall 0 s_law_draw (mCons (mOf (eCall gLen (aCons (eVar 1) aNil))) mNil)))
def s_law_of : FnM := runM 1 2 b_law_of
theorem sc_law_of : FnScope ["m", "some"] ["m", "some"] (defScope (topS 61)) := ⟨rfl, rfl, rfl, by decide +kernel, rfl, by decide +kernel, by decide +kernel⟩
theorem cal_law_of {P : Program} {w : World} {K : PySem.W.Frag} {mg : Str → Option Value} {base : Heap} (T : Txt K w mg) : C8.Cal P w K mg base 2 "_law_of" (spM ⟨K, w⟩ s_law_of) [] := by
  obtain ⟨f, fd, F, hm⟩ := T.d_law_of
  exact ⟨f, fd, ["m", "some"], [], fn_bodyM (n := 1) (k := 1) (N := ["m", "some"]) F sc_law_of rfl (by decide) fun cdv A outer s H E hr =>
    pssm_one (psm_ret (pm_ix (pm_of (pd_var (pv 1))) (pm_call (cal_law_draw T) hr (by decide) rfl (pv 0) (pma_cons (pm_of (pd_len T.g_len rfl (pd_var (pv 1)))) pma_nil)))),
    hm, F.kp, F.binds fun _ _ _ _ _ _ us hl => match us, hl with | [_, _], _ => rfl, .nil⟩
def aWords : Fa := aCons (eC (.str "kept")) (aCons (eC (.str "inner")) (aCons (eC (.str "notlow")) (aCons (eC (.str "nothigh")) (aCons (eC (.str "below")) (aCons (eC (.str "above")) (aCons (eC (.str "under")) (aCons (eC (.str "over")) aNil)))))))
def aEnds : Fa := aCons (eC (.str "eldest")) (aCons (eC (.str "latest")) (aCons (eC (.str "lowest")) (aCons (eC (.str "highest")) (aCons (eC (.str "refuse")) aNil))))
def aBacks : Fa := aCons (eC (.str "none")) (aCons (eC (.str "eldest")) (aCons (eC (.str "latest")) (aCons (eC (.str "lowest")) (aCons (eC (.str "highest")) aNil))))
def mDraw (f : Fx) : Fm := mCall 0 s_law_draw (mCons (mOf f) mNil)
def mOfL (fs : Fa) : Fm := mCall 0 s_law_of (mCons (mOf (eLst fs)) mNil)
def b_law_machine : Fms := mSeq (mParC 3 4 (cLst aNil) (cLst aWords)) (mSeq (mFor (mRange (mDraw (eVar 2))) 5 (mApp 3 (mPop 4 (mDraw (eLenO 4))))) (mSeq (mApp 3 (mOfL aEnds)) (mSeq (mSet 6 (mOfL aBacks)) (mSeq (mFrz 3) (mRet (mTup (mCons (mB gAdd (mOf (eC (.int 1))) (mDraw (eVar 1))) (mCons (mOf (eTuple (eVar 3))) (mCons (mOf (eVar 6)) mNil)))))))))
def s_law_machine : FnM := runM 2 7 b_law_machine
theorem sc_law_machine : FnScope ["m", "most", "long", "words", "some", "turn", "back"] ["m", "most", "long"] (defScope (topS 62)) := ⟨rfl, rfl, rfl, by decide +kernel, rfl, by decide +kernel, by decide +kernel⟩
theorem cal_law_machine {P : Program} {w : World} {K : PySem.W.Frag} {mg : Str → Option Value} {base : Heap} (T : Txt K w mg) : C8.Cal P w K mg base 3 "_law_machine" (spM ⟨K, w⟩ s_law_machine) [] := by
  obtain ⟨f, fd, F, hm⟩ := T.d_law_machine
  exact ⟨f, fd, ["m", "most", "long"], [], fn_bodyM (n := 2) (k := 2) (N := ["m", "most", "long", "words", "some", "turn", "back"]) F sc_law_machine rfl (by decide) fun cdv A outer s H E hr =>
    pssm_cons (psm_parC rfl sc_law_machine.nd (i := 3) (j := 4) rfl rfl (by decide) (by decide) (by decide) rfl rfl (pcd_lst pda_nil) (pcd_lst (pda_cons pd_str (pda_cons pd_str (pda_cons pd_str (pda_cons pd_str (pda_cons pd_str (pda_cons pd_str (pda_cons pd_str (pda_cons pd_str pda_nil))))))))) (by rfl))
    (pssm_cons (psm_for PassesOwn.never rfl sc_law_machine.nd (i := 5) rfl (Or.inl rfl) (by decide) (pim_range T.g_range rfl (pm_call (cal_law_draw T) hr (by decide) rfl (pv 0) (pma_cons (pm_of (pd_var (pv 2))) pma_nil)))
      (pssm_one (psm_app (pv 3) (pm_pop (pm_call (cal_law_draw T) hr (by decide) rfl (pv 0) (pma_cons (pm_of (pd_lenO T.g_len rfl (pv 4))) pma_nil)) (pe_bm PySem.F.plainAttrs_list PySem.F.slot_list_pop PySem.F.type_list_pop mt_popAt (pv 4) (pa_cons (pm_call (cal_law_draw T) hr (by decide) rfl (pv 0) (pma_cons (pm_of (pd_lenO T.g_len rfl (pv 4))) pma_nil)) pa_nil)))
        rfl rfl (pe_bm PySem.F.plainAttrs_list PySem.F.slot_list_append PySem.F.type_list_append mt_append (pv 3) (pa_cons (pm_pop (pm_call (cal_law_draw T) hr (by decide) rfl (pv 0) (pma_cons (pm_of (pd_lenO T.g_len rfl (pv 4))) pma_nil)) (pe_bm PySem.F.plainAttrs_list PySem.F.slot_list_pop PySem.F.type_list_pop mt_popAt (pv 4) (pa_cons (pm_call (cal_law_draw T) hr (by decide) rfl (pv 0) (pma_cons (pm_of (pd_lenO T.g_len rfl (pv 4))) pma_nil)) pa_nil))) pa_nil)))))
    (pssm_cons (psm_app (pv 3) (pm_call (cal_law_of T) hr (by decide) rfl (pv 0) (pma_cons (pm_of (pd_lst (pda_cons pd_str (pda_cons pd_str (pda_cons pd_str (pda_cons pd_str (pda_cons pd_str pda_nil))))))) pma_nil)) rfl rfl (pe_bm PySem.F.plainAttrs_list PySem.F.slot_list_append PySem.F.type_list_append mt_append (pv 3) (pa_cons (pm_call (cal_law_of T) hr (by decide) rfl (pv 0) (pma_cons (pm_of (pd_lst (pda_cons pd_str (pda_cons pd_str (pda_cons pd_str (pda_cons pd_str (pda_cons pd_str pda_nil))))))) pma_nil)) pa_nil)))
    (pssm_cons (psm_set (i := 6) sc_law_machine.nd rfl (Or.inl rfl) (by decide) (pm_call (cal_law_of T) hr (by decide) rfl (pv 0) (pma_cons (pm_of (pd_lst (pda_cons pd_str (pda_cons pd_str (pda_cons pd_str (pda_cons pd_str (pda_cons pd_str pda_nil))))))) pma_nil)))
    (pssm_frz 3 (pssm_one (psm_ret (pm_tup (pma_cons (pm_add (pm_of pd_int) (pm_call (cal_law_draw T) hr (by decide) rfl (pv 0) (pma_cons (pm_of (pd_var (pv 1))) pma_nil))) (pma_cons (pm_of (pd_tuple T.g_tuple rfl (pd_var (pv 3)))) (pma_cons (pm_of (pd_var (pv 6))) pma_nil)))))))))),
    hm, F.kp, F.binds fun _ _ _ _ _ _ us hl => match us, hl with | [_, _, _], _ => rfl, .nil⟩
end SV

/-! ML6: _law_near_chain. -/
namespace SV
open PySem L2 DL
def eCutA : Fx := eCut (eVar 1) oNone (oSome (eVar 2))
def eCutB : Fx := eCut (eVar 1) (oSome (eB gAdd (eVar 2) (eC (.int 1)))) oNone
def mMach : Fm := mCall 0 s_law_machine (mCons (mOf (eC (.int 2))) (mCons (mOf (eC (.int 3))) mNil))
def b_law_near : Fms := mSeq (mPar 2 3 (mDraw (eCall gLen (aCons (eVar 1) aNil))) (mDraw (eC (.int 5))))
  (mSeq (mIf (tOf (eB gEq (eVar 3) (eC (.int 0)))) (mRet (mOf (eIf (tOf (eB (gCmp fun i j => decide (j < i)) (eCall gLen (aCons (eVar 1) aNil)) (eC (.int 1)))) (eB gAdd eCutA eCutB) (eB gMul (eVar 1) (eC (.int 2)))))) mNext)
  (mSeq (mIf (tOf (eB gEq (eVar 3) (eC (.int 1)))) (mRet (mOf (eRevT (eVar 1)))) mNext)
  (mSeq (mIf (tOf (eB gEq (eVar 3) (eC (.int 2)))) (mSeq (mSet 4 (mOfL aBacks)) (mRet (mOf (eB gAdd (eB gAdd eCutA (eTup (aCons (eB gAdd (eCut (eB gIx (eVar 1) (eVar 2)) oNone (oSome (eC (.int 2)))) (eTup (aCons (eVar 4) aNil))) aNil))) eCutB)))) mNext)
  (mSeq (mIf (tOf (eB gEq (eVar 3) (eC (.int 3)))) (mRet (mB gAdd (mB gAdd (mOf eCutA) (mTup (mCons mMach mNil))) (mOf eCutB))) mNext)
  (mRet (mTuple (mLc (mRange (mB gAdd (mOf (eC (.int 1))) (mDraw (eC (.int 2))))) [5] 5 mMach)))))))
def s_law_near : FnM := runM 1 6 b_law_near
theorem sc_law_near : FnScope ["m", "chain", "at", "way", "back", "k"] ["m", "chain"] (defScope (topS 79)) := ⟨rfl, rfl, rfl, by decide +kernel, rfl, by decide +kernel, by decide +kernel⟩
theorem cal_law_near {P : Program} {w : World} {K : PySem.W.Frag} {mg : Str → Option Value} {base : Heap} (T : Txt K w mg) : C8.Cal P w K mg base 4 "_law_near_chain" (spM ⟨K, w⟩ s_law_near) [] := by
  obtain ⟨f, fd, F, hm⟩ := T.d_law_near_chain
  exact ⟨f, fd, ["m", "chain"], [], fn_bodyM (n := 1) (k := 3) (N := ["m", "chain", "at", "way", "back", "k"]) F sc_law_near rfl (by decide) fun cdv A outer s H E hr =>
    pssm_cons (psm_par rfl sc_law_near.nd (i := 2) (j := 3) rfl rfl (by decide) (by decide) (by decide) rfl rfl (pm_call (cal_law_draw T) hr (by decide) rfl (pv 0) (pma_cons (pm_of (pd_len T.g_len rfl (pd_var (pv 1)))) pma_nil)) (pm_call (cal_law_draw T) hr (by decide) rfl (pv 0) (pma_cons (pm_of pd_int) pma_nil)) (by rfl))
    (pssm_cons (psm_if (pdt_C (pdc_eq hr (pd_var (pv 3)) pd_int)) (pssm_one (psm_ret (pm_of (pd_if (pdt_C (pdc_gt (pd_len T.g_len rfl (pd_var (pv 1))) pd_int)) (pd_add (pd_cut (pd_var (pv 1)) pdo_none (pdo_some (pd_var (pv 2)))) (pd_cut (pd_var (pv 1)) (pdo_some (pd_add (pd_var (pv 2)) pd_int)) pdo_none)) (pd_mul (pd_var (pv 1)) pd_int))))) pssm_nil)
    (pssm_cons (psm_if (pdt_C (pdc_eq hr (pd_var (pv 3)) pd_int)) (pssm_one (psm_ret (pm_of (pd_revT (pd_var (pv 1)))))) pssm_nil)
    (pssm_cons (psm_if (pdt_C (pdc_eq hr (pd_var (pv 3)) pd_int)) (pssm_cons (psm_set (i := 4) sc_law_near.nd rfl (Or.inl rfl) (by decide) (pm_call (cal_law_of T) hr (by decide) rfl (pv 0) (pma_cons (pm_of (pd_lst (pda_cons pd_str (pda_cons pd_str (pda_cons pd_str (pda_cons pd_str (pda_cons pd_str pda_nil))))))) pma_nil))) (pssm_one (psm_ret (pm_of (pd_add (pd_add (pd_cut (pd_var (pv 1)) pdo_none (pdo_some (pd_var (pv 2)))) (pd_tup (pda_cons (pd_add (pd_cut (pd_ix (pd_var (pv 1)) (pd_var (pv 2))) pdo_none (pdo_some pd_int)) (pd_tup (pda_cons (pd_var (pv 4)) pda_nil))) pda_nil))) (pd_cut (pd_var (pv 1)) (pdo_some (pd_add (pd_var (pv 2)) pd_int)) pdo_none)))))) pssm_nil)
    (pssm_cons (psm_if (pdt_C (pdc_eq hr (pd_var (pv 3)) pd_int)) (pssm_one (psm_ret (pm_add (pm_add (pm_of (pd_cut (pd_var (pv 1)) pdo_none (pdo_some (pd_var (pv 2))))) (pm_tup (pma_cons (pm_call (cal_law_machine T) hr (by decide) rfl (pv 0) (pma_cons (pm_of pd_int) (pma_cons (pm_of pd_int) pma_nil))) pma_nil))) (pm_of (pd_cut (pd_var (pv 1)) (pdo_some (pd_add (pd_var (pv 2)) pd_int)) pdo_none))))) pssm_nil)
    (pssm_one (psm_ret (pm_tuple T.g_tuple rfl (pm_lc (own := [("k", 5)]) rfl sc_law_near.nd (by decide) (pim_range T.g_range rfl (pm_add (pm_of pd_int) (pm_call (cal_law_draw T) hr (by decide) rfl (pv 0) (pma_cons (pm_of pd_int) pma_nil)))) (blkOk_by (by kernel_rfl)) (fun _ _ _ _ _ => pg_name (i := 5) sc_law_near.nd rfl (Or.inl rfl)) (fun _ _ _ _ _ => pm_call (cal_law_machine T) hr (by decide) rfl (pv 0) (pma_cons (pm_of pd_int) (pma_cons (pm_of pd_int) pma_nil))))))))))),
    hm, F.kp, F.binds fun _ _ _ _ _ _ us hl => match us, hl with | [_, _], _ => rfl, .nil⟩
end SV

/-! M1: rows, machines and chains as typed data; the reckoning of the plain functions by simp. -/
namespace SV
open PySem L2 DL

/-! ### reckoning -/
@[simp] theorem xVar (i : Nat) (env : En) : eVar i env = match env[i]? with
  | some (.d x) => some x
  | _ => none := rfl
@[simp] theorem xC (d : PyData) (env : En) : eC d env = some d := rfl
@[simp] theorem xNil (env : En) : aNil env = some [] := rfl
@[simp] theorem xCons (f : Fx) (fs : Fa) (env : En) : aCons f fs env = (f env).bind fun x => (fs env).bind fun xs => some (x :: xs) := rfl
@[simp] theorem xB (g : G2) (fa fb : Fx) (env : En) : eB g fa fb env = (fa env).bind fun x => (fb env).bind fun y => g x y := rfl
@[simp] theorem xTup (fs : Fa) (env : En) : eTup fs env = (fs env).bind fun ds => if ds.length ≤ 1000 then some (.tuple ds) else none := rfl
@[simp] theorem xLst (fs : Fa) (env : En) : eLst fs env = (fs env).bind fun ds => if ds.length ≤ 1000 then some (.list ds) else none := rfl
@[simp] theorem xCall (F : GA) (fs : Fa) (env : En) : eCall F fs env = (fs env).bind F := rfl
@[simp] theorem xIf (ft : Ft) (fa fb : Fx) (env : En) : eIf ft fa fb env = (ft env).bind fun c => if c = true then fa env else fb env := rfl
@[simp] theorem xT (f : Fx) (env : En) : tOf f env = (f env).bind boolOf := rfl
@[simp] theorem xBool (c : Bool) : boolOf (.bool c) = some c := rfl
@[simp] theorem xNot (f : Ft) (env : En) : ftNot f env = (f env).map (!·) := rfl
@[simp] theorem xAnd (f g : Ft) (env : En) : ftAnd f g env = (f env).bind fun c => if c = true then g env else some false := rfl
@[simp] theorem xOr (f g : Ft) (env : En) : ftOr f g env = (f env).bind fun c => if c = true then some true else g env := rfl
@[simp] theorem xeAnd (fa fb : Fx) (env : En) : eAnd fa fb env = (fa env).bind fun x => (boolOf x).bind fun c => if c = true then fb env else some (.bool false) := rfl
@[simp] theorem xeOr (fa fb : Fx) (env : En) : eOr fa fb env = (fa env).bind fun x => (boolOf x).bind fun c => if c = true then some (.bool true) else fb env := rfl
@[simp] theorem xeNot (fa : Fx) (env : En) : eNot fa env = (fa env).bind fun x => (boolOf x).bind fun c => some (.bool (!c)) := rfl
@[simp] theorem xSeq (g g' : Fs) (env : En) : gSeq g g' env = (g env).bind fun o => match o with
  | .nx e => g' e
  | .rt d => some (.rt d) := rfl
@[simp] theorem xNext (env : En) : gNext env = some (.nx env) := rfl
@[simp] theorem xRet (f : Fx) (env : En) : gRet f env = (f env).bind fun d => some (.rt d) := rfl
@[simp] theorem xgIf (c : Ft) (g g' : Fs) (env : En) : gIf c g g' env = (c env).bind fun b => if b = true then g env else g' env := rfl
@[simp] theorem xSet (i : Nat) (f : Fc) (env : En) : gSet i f env = (f env).bind fun c => some (.nx (env.set i c)) := rfl
@[simp] theorem xOf (f : Fx) (env : En) : cOf f env = (f env).bind fun d => some (.d d) := rfl
@[simp] theorem xcLst (fs : Fa) (env : En) : cLst fs env = (fs env).bind fun ds => if ds.length ≤ 1000 then some (.ol ds) else none := rfl
@[simp] theorem xPut (t : Tg) (f : Fx) (env : En) : gPut t f env = (f env).bind fun d => (t.put d env).bind fun e => some (.nx e) := rfl
@[simp] theorem xPar (i j : Nat) (f f' : Fc) (env : En) : gPar i j f f' env = (f env).bind fun c => (f' env).bind fun c' => some (.nx ((env.set i c).set j c')) := rfl
@[simp] theorem xDrop (f : Fx) (env : En) : gDrop f env = (f env).bind fun _ => some (.nx env) := rfl
@[simp] theorem xFor (fx : Fa) (t : Tg) (g : Fs) (env : En) : gFor fx t g env = (fx env).bind fun xs => forGo t g xs env := rfl
@[simp] theorem xiSeq (fa : Fx) (env : En) : iSeq fa env = (fa env).bind seqOf := rfl
@[simp] theorem xseqL (ds : List PyData) : seqOf (.list ds) = some ds := rfl
@[simp] theorem xseqT (ds : List PyData) : seqOf (.tuple ds) = some ds := rfl
@[simp] theorem xTuple (fa : Fx) (env : En) : eTuple fa env = (fa env).bind fun x => match x with
  | .list ds => some (.tuple ds)
  | .tuple ds => some (.tuple ds)
  | _ => none := rfl
theorem xgN (n : Nat) (F : GA) (ds : List PyData) (h : ds.length = n) : gN n F ds = F ds := if_pos h
@[simp] theorem xgN1 (F : GA) (a : PyData) : gN 1 F [a] = F [a] := rfl
@[simp] theorem xgN2 (F : GA) (a b : PyData) : gN 2 F [a, b] = F [a, b] := rfl
@[simp] theorem xgN3 (F : GA) (a b c : PyData) : gN 3 F [a, b, c] = F [a, b, c] := rfl
@[simp] theorem xgN4 (F : GA) (a b c d : PyData) : gN 4 F [a, b, c, d] = F [a, b, c, d] := rfl
@[simp] theorem xLc (fx : Fa) (vs : List Nat) (t : Tg) (ft : Ft) (fe : Fx) (env : En) : eLc fx vs t ft fe env = (fx env).bind fun xs => if xs.length ≤ line then (lcGo t ft fe (wipeE env vs) xs).bind fun r => some (.list r) else none := rfl
@[simp] theorem xftT (env : En) : ftT env = some true := rfl
@[simp] theorem xone (i : Nat) (d : PyData) (env : En) : Tg.put (.one i) d env = some (env.set i (.d d)) := rfl
@[simp] theorem xmany (is : List Nat) (ds : List PyData) (env : En) : Tg.put (.many is) (.tuple ds) env = putAll is ds env := rfl
@[simp] theorem xputN (env : En) : putAll [] [] env = some env := rfl
@[simp] theorem xputC (i : Nat) (is : List Nat) (d : PyData) (ds : List PyData) (env : En) : putAll (i :: is) (d :: ds) env = putAll is ds (env.set i (.d d)) := rfl
@[simp] theorem xwipe0 (env : En) : wipeE env [] = env := rfl
@[simp] theorem xwipe1 (env : En) (v : Nat) (vs : List Nat) : wipeE env (v :: vs) = (wipeE env vs).set v .no := rfl
@[simp] theorem xIx0T (a : PyData) (r : List PyData) : gIx (.tuple (a :: r)) (.int 0) = some a := by
  show atI (a :: r) 0 = some a
  simp [atI, ixN]
@[simp] theorem xIx1T (a b : PyData) (r : List PyData) : gIx (.tuple (a :: b :: r)) (.int 1) = some b := by
  show atI (a :: b :: r) 1 = some b
  have h : (1 : Int) < ((a :: b :: r).length : Int) := by simp; omega
  simp only [atI, ixN]
  rw [if_pos (by decide), if_pos h]; rfl
@[simp] theorem xIx0L (a : PyData) (r : List PyData) : gIx (.list (a :: r)) (.int 0) = some a := by
  show atI (a :: r) 0 = some a
  simp [atI, ixN]
@[simp] theorem xIx2T (a b c : PyData) (r : List PyData) : gIx (.tuple (a :: b :: c :: r)) (.int 2) = some c := by
  show atI (a :: b :: c :: r) 2 = some c
  have h : (2 : Int) < ((a :: b :: c :: r).length : Int) := by simp; omega
  simp only [atI, ixN]
  rw [if_pos (by decide), if_pos h]; rfl
theorem ixN_last (n : Nat) : ixN (n + 1) (-1) = some n := by
  unfold ixN
  rw [if_neg (by decide), if_pos (by omega)]
  congr 1
  omega
@[simp] theorem xIxLT (r : List PyData) (a : PyData) : gIx (.tuple (r ++ [a])) (.int (-1)) = some a := by
  show atI (r ++ [a]) (-1) = some a
  unfold atI
  rw [List.length_append]
  show (ixN (r.length + 1) (-1)).bind _ = _
  rw [ixN_last]
  simp
@[simp] theorem xIxLL (r : List PyData) (a : PyData) : gIx (.list (r ++ [a])) (.int (-1)) = some a := xIxLT r a
@[simp] theorem xNeg1 (env : En) : eNeg (eC (.int 1)) env = some (.int (-1)) := rfl
/-- [elt for p in xs if c] over laid data -/
theorem lcGo_map {α : Type} {t : Tg} {ft : Ft} {fe : Fx} {env : En} (f : α → PyData) (p : α → Bool) (g : α → PyData) : ∀ xs : List α,
    (∀ x ∈ xs, ∃ e1, t.put (f x) env = some e1 ∧ ft e1 = some (p x) ∧ (p x = true → fe e1 = some (g x))) → lcGo t ft fe env (xs.map f) = some ((xs.filter p).map g)
  | [], _ => rfl
  | x :: xs, h => by
    obtain ⟨e1, h1, h2, h3⟩ := h x List.mem_cons_self
    have ih := lcGo_map f p g xs fun y hy => h y (List.mem_cons_of_mem _ hy)
    show (t.put (f x) env).bind _ = _
    rw [h1, Option.bind_some, h2, Option.bind_some]
    by_cases c : p x = true
    · rw [if_pos c, h3 c, Option.bind_some, ih, List.filter_cons_of_pos c]; rfl
    · rw [if_neg c, ih, List.filter_cons_of_neg c]

/-! ### same trees -/
mutual
def same : PyData → PyData → Bool
  | .none, .none => true
  | .bool a, .bool b => a == b
  | .int i, .int j => i == j
  | .str x, .str y => x == y
  | .list xs, .list ys => sameAll xs ys
  | .tuple xs, .tuple ys => sameAll xs ys
  | _, _ => false
def sameAll : List PyData → List PyData → Bool
  | [], [] => true
  | x :: xs, y :: ys => same x y && sameAll xs ys
  | _, _ => false
end
mutual
theorem same_eq : ∀ (x y : PyData), same x y = true → x = y
  | .none, y, h => by cases y <;> simp_all [same]
  | .bool _, y, h => by cases y <;> simp_all [same]
  | .int _, y, h => by cases y <;> simp_all [same]
  | .str _, y, h => by cases y <;> simp_all [same]
  | .list xs, y, h => by
    cases y <;> try (simp [same] at h; done)
    rename_i ys
    rw [sameAll_eq xs ys (by simpa [same] using h)]
  | .tuple xs, y, h => by
    cases y <;> try (simp [same] at h; done)
    rename_i ys
    rw [sameAll_eq xs ys (by simpa [same] using h)]
  | .dict _, y, h => by cases y <;> simp [same] at h
theorem sameAll_eq : ∀ (xs ys : List PyData), sameAll xs ys = true → xs = ys
  | [], ys, h => by cases ys <;> simp_all [sameAll]
  | x :: xs, ys, h => by
    cases ys with
    | nil => simp [sameAll] at h
    | cons y ys =>
      rw [sameAll, Bool.and_eq_true] at h
      rw [same_eq x y h.1, sameAll_eq xs ys h.2]
end
def sameO : Option PyData → PyData → Bool
  | some x, y => same x y
  | none, _ => false
theorem sameO_eq {o : Option PyData} {y : PyData} (h : sameO o y = true) : o = some y := by
  cases o with
  | none => cases h
  | some x => rw [same_eq x y h]

/-! ### rows -/
abbrev Row := List (Nat × Bool)
abbrev Ev := Bool × Nat
def eP (p : Nat × Bool) : PyData := .tuple [.int p.1, .str (if p.2 then "waits" else "sounds")]
def eR (r : Row) : PyData := .tuple (r.map eP)
def eL (r : Row) : PyData := .list (r.map eP)
def eS (r : Row) : PyData := .tuple [.bool false, eR r]
def eE (e : Ev) : PyData := .tuple [.str (if e.1 then "down" else "up"), .int e.2]
structure Mac where
  v : Nat
  cr : List Nat
  en : Nat
  ret : Nat
def fStr : Nat → PyData
  | 0 => .str "kept" | 1 => .str "inner" | 2 => .str "notlow" | 3 => .str "nothigh" | 4 => .str "below" | 5 => .str "above" | 6 => .str "under" | _ => .str "over"
def nStr : Nat → PyData
  | 0 => .str "eldest" | 1 => .str "latest" | 2 => .str "lowest" | 3 => .str "highest" | _ => .str "refuse"
def rStr : Nat → PyData
  | 0 => .str "none" | 1 => .str "eldest" | 2 => .str "latest" | 3 => .str "lowest" | _ => .str "highest"
def eM0 (v : Nat) (crit : PyData) (ret : Nat) : PyData := .tuple [.int v, crit, rStr ret]
def eCr (cr : List Nat) (en : Nat) : PyData := .tuple (cr.map fStr ++ [nStr en])
def eM (m : Mac) : PyData := eM0 m.v (eCr m.cr m.en) m.ret
structure Mac.Ok (m : Mac) : Prop where
  v : m.v = 1 ∨ m.v = 2
  len : m.cr.length ≤ 2
  nd : m.cr.Nodup
  lt : ∀ x ∈ m.cr, x < 8
  en : m.en < 5
  ret : m.ret < 5
def loudT (r : Row) : Row := r.filter fun p => !p.2
def waitT (r : Row) : Row := r.filter fun p => p.2
def markT : Row → Nat → Nat → Row
  | r, k, b => r.map fun p => if p.1 = k then (p.1, b == 1) else p
def rowsN : Nat → List Row
  | 0 => [[]]
  | n + 1 => (rowsN n).flatMap fun r => [0, 1, 2].flatMap fun k => if r.any (fun p => p.1 == k) then [] else [r ++ [(k, false)], r ++ [(k, true)]]
def rows : List Row := rowsN 0 ++ rowsN 1 ++ rowsN 2 ++ rowsN 3
def rowsV (v cap : Nat) : List Row := rows.filter fun r => decide ((loudT r).length ≤ v) && decide ((waitT r).length ≤ cap - v) && decide (r.length ≤ cap)
end SV

/-! M2: facts of single machines, by reckoning all rows. -/
namespace SV
open PySem L2 DL
def soundI (r : Row) : List Int := sortI ((loudT r).map fun p => (p.1 : Int))
def hasK (r : Row) (k : Nat) : Bool := r.any fun p => p.1 == k
def canT (r : Row) (e : Ev) : Bool := if e.1 then !hasK r e.2 else hasK r e.2
def minK : Row → Nat
  | [] => 0
  | [p] => p.1
  | p :: r => min p.1 (minK r)
def maxK : Row → Nat
  | [] => 0
  | p :: r => max p.1 (maxK r)
def endT (e : Nat) (l : Row) : Option Nat := match e with
  | 0 => l.head?.map (·.1)
  | 1 => l.getLast?.map (·.1)
  | 2 => match l with
    | [] => none
    | _ => some (minK l)
  | 3 => match l with
    | [] => none
    | _ => some (maxK l)
  | _ => none
def filterT (w : Nat) (pairs sm : Row) (k : Nat) : Row := match w with
  | 0 => []
  | 1 => sm.filter fun p => minK pairs < p.1 && p.1 < maxK pairs
  | 2 => sm.filter fun p => p.1 != minK pairs
  | 3 => sm.filter fun p => p.1 != maxK pairs
  | 4 => sm.filter fun p => decide (p.1 < k)
  | 6 => sm.filter fun p => decide (p.1 < k)
  | _ => sm.filter fun p => decide (k < p.1)
def goT (pairs : Row) (k : Nat) : List Nat → Row → Option Row
  | [], sm => some sm
  | w :: ws, sm => if (filterT w pairs sm k).isEmpty && (w == 6 || w == 7) then none else goT pairs k ws (if (filterT w pairs sm k).isEmpty then sm else filterT w pairs sm k)
def victT (m : Mac) (r : Row) (k : Nat) : Option Nat := (goT (loudT r) k m.cr (loudT r)).bind (endT m.en)
def setK (r : Row) (k : Nat) (b : Bool) : Row := r.map fun p => if p.1 == k then (p.1, b) else p
def dropK (r : Row) (k : Nat) : Row := r.filter fun p => p.1 != k
def fillT (v ret : Nat) (r : Row) : Row := if ret == 0 then r else if (loudT r).length < v then (match endT (ret - 1) (waitT r) with
  | none => r
  | some k => setK r k false) else r
def upT (v ret : Nat) (r : Row) (k : Nat) : Row := if r.any (fun p => p.1 == k && p.2) then dropK r k else fillT v ret (dropK r k)
def downT (m : Mac) (r : Row) (k : Nat) : Row := if (loudT r).length < m.v then r ++ [(k, false)] else match victT m r k with
  | none => r ++ [(k, true)]
  | some t => setK r t true ++ [(k, false)]
def stepT (m : Mac) (r : Row) (e : Ev) : Row := if e.1 then downT m r e.2 else upT m.v m.ret r e.2
def evs : List Ev := [(true, 0), (true, 1), (true, 2), (false, 0), (false, 1), (false, 2)]
def sndD (l : List Int) : PyData := .tuple (l.map .int)
theorem f_loud : (rows.all fun r => sameO (s_loud [eR r]) (eL (loudT r)) && (sameO (s_law_loud [eR r]) (eL (loudT r)) && sameO (s_law_loud [eL r]) (eL (loudT r)))) = true := by kernel_rfl
theorem f_sound : (rows.all fun r => sameO (s_sound_of [eS r]) (sndD (soundI r)) && sameO (s_law_sound [eS r]) (sndD (soundI r))) = true := by kernel_rfl
theorem f_can : (rows.all fun r => evs.all fun e => sameO (s_can_follow [eS r, eE e]) (.bool (canT r e)) && sameO (s_law_can [eS r, eE e]) (.bool (canT r e))) = true := by kernel_rfl
theorem f_mark : (rows.all fun r => [0, 1, 2].all fun k => hasK r k || sameO (s_mark_of [eS r, .int (k : Nat)]) (.str "up")) = true := by kernel_rfl
def okD : Option PyData → PyData → Bool
  | some (.tuple [a, .tuple _]), b => same a b
  | _, _ => false
theorem okD_some {o : Option PyData} {y : PyData} (h : okD o y = true) : ∃ ds, o = some (.tuple [y, .tuple ds]) := by
  unfold okD at h
  split at h
  · rename_i a ds
    exact ⟨ds, by rw [same_eq a y h]⟩
  · cases h
theorem f_up (crit : PyData) : ([1, 2].all fun v => (rowsV v 3).all fun r => [0, 1, 2].all fun k => !hasK r k || [0, 1, 2, 3, 4].all fun ret => okD (s_done [eM0 v crit ret, eS r, eE (false, k)]) (eS (upT v ret r k))) = true := by kernel_rfl
theorem f_lawUp (crit : PyData) : ([1, 2].all fun v => (rowsV v 3).all fun r => [0, 1, 2].all fun k => !hasK r k || [0, 1, 2, 3, 4].all fun ret => okD (s_law_stepped [eM0 v crit ret, eS r, eE (false, k)]) (eS (upT v ret r k))) = true := by kernel_rfl
end SV

/-! M3: the victim. -/
namespace SV
open PySem L2 DL
def optD : Option Nat → PyData
  | none => .none
  | some k => .int k
def optL : Option Nat → PyData
  | none => .list []
  | some k => .list [.int k]
/-- all-sounding rows of one or two -/
def sRows : List Row := rows.filter fun r => r.all (fun p => !p.2) && (r.length == 1 || r.length == 2)
def subs (r : Row) : List Row := match r with
  | [a] => [[a]]
  | [a, b] => [[a], [b], [a, b]]
  | _ => []
theorem f_filter : ([0, 1, 2, 3, 4, 5, 6, 7].all fun w => sRows.all fun pairs => (subs pairs).all fun sm => [0, 1, 2].all fun k =>
    sameO (s_filtered [fStr w, eL pairs, eL sm, .int (k : Nat)]) (eL (filterT w pairs sm k)) && (sameO (s_law_left [fStr w, eL pairs, eL sm, .int (k : Nat)]) (eL (filterT w pairs sm k)) &&
    ((filterT w pairs sm k).isEmpty || (subs pairs).contains (filterT w pairs sm k)))) = true := by kernel_rfl
theorem f_end : ([0, 1, 2, 3, 4].all fun e => sRows.all fun pairs => (subs pairs).all fun sm => sameO (s_chosen [nStr e, eL sm]) (optD (endT e sm)) && (sameO (s_law_end [nStr e, eL sm]) (optL (endT e sm)) &&
    (match endT e sm with
      | none => true
      | some k => hasK pairs k))) = true := by kernel_rfl
/-- what a row of the walk is -/
theorem f_dom : ([1, 2].all fun v => (rowsV v 3).all fun r => rows.contains r && ([0, 1, 2].all fun k => hasK r k || (decide (r.length < 3) && (decide ((loudT r).length < v) || (sRows.contains (loudT r) && (subs (loudT r)).contains (loudT r)))))) = true := by kernel_rfl
theorem all_at {α : Type} {p : α → Bool} {l : List α} (h : l.all p = true) {x : α} (hx : x ∈ l) : p x = true := List.all_eq_true.mp h x hx
theorem m2 {v : Nat} (h : v = 1 ∨ v = 2) : v ∈ [1, 2] := by simpa using h
theorem m3 {k : Nat} (h : k < 3) : k ∈ [0, 1, 2] := by
  have : k = 0 ∨ k = 1 ∨ k = 2 := by omega
  simpa using this
theorem m5 {k : Nat} (h : k < 5) : k ∈ [0, 1, 2, 3, 4] := by
  have : k = 0 ∨ k = 1 ∨ k = 2 ∨ k = 3 ∨ k = 4 := by omega
  simpa using this
theorem m8 {k : Nat} (h : k < 8) : k ∈ [0, 1, 2, 3, 4, 5, 6, 7] := by
  have : k = 0 ∨ k = 1 ∨ k = 2 ∨ k = 3 ∨ k = 4 ∨ k = 5 ∨ k = 6 ∨ k = 7 := by omega
  simpa using this
theorem filt {w : Nat} {pairs sm : Row} {k : Nat} (hw : w < 8) (hp : pairs ∈ sRows) (hs : sm ∈ subs pairs) (hk : k < 3) :
    s_filtered [fStr w, eL pairs, eL sm, .int (k : Nat)] = some (eL (filterT w pairs sm k)) ∧ s_law_left [fStr w, eL pairs, eL sm, .int (k : Nat)] = some (eL (filterT w pairs sm k)) ∧
    ((filterT w pairs sm k).isEmpty = false → filterT w pairs sm k ∈ subs pairs) := by
  have h := all_at (all_at (all_at (all_at f_filter (m8 hw)) hp) hs) (m3 hk)
  rw [Bool.and_eq_true, Bool.and_eq_true, Bool.or_eq_true] at h
  refine ⟨sameO_eq h.1, sameO_eq h.2.1, fun e => ?_⟩
  rcases h.2.2 with h | h
  · rw [e] at h; cases h
  · simpa using h
theorem ende {e : Nat} {pairs sm : Row} (he : e < 5) (hp : pairs ∈ sRows) (hs : sm ∈ subs pairs) :
    s_chosen [nStr e, eL sm] = some (optD (endT e sm)) ∧ s_law_end [nStr e, eL sm] = some (optL (endT e sm)) ∧ ∀ k, endT e sm = some k → hasK pairs k = true := by
  have h := all_at (all_at (all_at f_end (m5 he)) hp) hs
  rw [Bool.and_eq_true, Bool.and_eq_true] at h
  refine ⟨sameO_eq h.1, sameO_eq h.2.1, fun k e => ?_⟩
  have h3 := h.2.2
  rw [e] at h3
  exact h3
/-- criteria[:-1] -/
theorem cut_last (xs : List PyData) (a : PyData) : cutD (xs ++ [a]) none (some (-1)) = xs := by
  unfold cutD
  simp only [HT.sIx, List.length_append, List.length_cons, List.length_nil, List.drop_zero]
  rw [if_pos (by decide)]
  have : ((-1 : Int) + ((xs.length + (0 + 1) : Nat) : Int)).toNat - 0 = xs.length := by omega
  rw [this]
  simp
theorem eL_len (r : Row) : (eL r) = .list (r.map eP) := rfl
/-- laid, of depth n at most -/
structure Lay (n : Nat) (d : PyData) : Prop where
  c : d.canLay0 = true
  d : d.depth ≤ n
theorem Lay.mono {n m : Nat} {d : PyData} (h : Lay n d) (l : n ≤ m) : Lay m d := ⟨h.c, Nat.le_trans h.d l⟩
theorem layAll {n : Nat} : ∀ {xs : List PyData}, (∀ x ∈ xs, Lay n x) → PyData.canLayAll0 xs = true ∧ PyData.depthAll xs ≤ n
  | [], _ => ⟨by simp [PyData.canLayAll0], by simp [PyData.depthAll]⟩
  | x :: xs, h => by
    have ih := layAll (n := n) (xs := xs) fun y hy => h y (List.mem_cons_of_mem _ hy)
    have hx := h x List.mem_cons_self
    refine ⟨by rw [PyData.canLayAll0, hx.c, ih.1]; rfl, ?_⟩
    rw [PyData.depthAll]
    exact Nat.max_le.mpr ⟨hx.d, ih.2⟩
theorem Lay.list {n : Nat} {xs : List PyData} (h : ∀ x ∈ xs, Lay n x) : Lay (n + 1) (.list xs) := ⟨by rw [PyData.canLay0]; exact (layAll h).1, by rw [PyData.depth]; exact Nat.succ_le_succ (layAll h).2⟩
theorem Lay.tuple {n : Nat} {xs : List PyData} (h : ∀ x ∈ xs, Lay n x) : Lay (n + 1) (.tuple xs) := ⟨by rw [PyData.canLay0]; exact (layAll h).1, by rw [PyData.depth]; exact Nat.succ_le_succ (layAll h).2⟩
theorem Lay.int {n : Nat} (i : Int) : Lay n (.int i) := ⟨by rw [PyData.canLay0], by rw [PyData.depth]; exact Nat.zero_le _⟩
theorem Lay.bool {n : Nat} (i : Bool) : Lay n (.bool i) := ⟨by rw [PyData.canLay0], by rw [PyData.depth]; exact Nat.zero_le _⟩
theorem Lay.str {n : Nat} (x : Str) (h : PyData.strOk x = true) : Lay n (.str x) := ⟨by rw [PyData.canLay0]; exact h, by rw [PyData.depth]; exact Nat.zero_le _⟩
theorem Lay.sh {n : Nat} {d : PyData} (h : Lay n d) (l : n ≤ 64) : SeqAt.shaped d = true := by
  unfold SeqAt.shaped
  rw [h.c, decide_eq_true (Nat.le_trans h.d l)]; rfl
theorem Lay.pair {n : Nat} {a b : PyData} (h : Lay n a) (h' : Lay n b) : Lay (n + 1) (.tuple [a, b]) := .tuple fun x hx => by
  rcases List.mem_cons.mp hx with rfl | hx
  · exact h
  · rcases List.mem_cons.mp hx with rfl | hx
    · exact h'
    · cases hx
theorem lay_P (p : Nat × Bool) : Lay 1 (eP p) := .pair (.int _) (by cases p.2 <;> exact .str _ (by kernel_rfl))
theorem lay_L (r : Row) : Lay 2 (eL r) := .list fun x hx => by
  obtain ⟨p, _, rfl⟩ := List.mem_map.mp hx
  exact lay_P p
theorem lay_R (r : Row) : Lay 2 (eR r) := .tuple fun x hx => by
  obtain ⟨p, _, rfl⟩ := List.mem_map.mp hx
  exact lay_P p
theorem lay_S (r : Row) : Lay 3 (eS r) := .pair (.bool _) (lay_R r)
theorem lay_E (e : Ev) : Lay 1 (eE e) := .pair (by cases e.1 <;> exact .str _ (by kernel_rfl)) (.int _)
theorem eqv_nil (r : Row) : PyData.eqv (eL r) (.list []) = r.isEmpty := by
  cases r <;> rfl
theorem gEq_nil (r : Row) : gEq (eL r) (.list []) = some (.bool r.isEmpty) := by
  unfold gEq
  rw [(lay_L r).sh (by decide), eqv_nil]; rfl
theorem gNe_nil (r : Row) : gNe (eL r) (.list []) = some (.bool (!r.isEmpty)) := by
  unfold gNe
  rw [(lay_L r).sh (by decide), eqv_nil]; rfl
theorem in_uo {w : Nat} (hw : w < 8) : gIn false (fStr w) (.tuple [.str "under", .str "over"]) = some (.bool (w == 6 || w == 7)) := by
  have : w = 0 ∨ w = 1 ∨ w = 2 ∨ w = 3 ∨ w = 4 ∨ w = 5 ∨ w = 6 ∨ w = 7 := by omega
  rcases this with rfl | rfl | rfl | rfl | rfl | rfl | rfl | rfl <;> kernel_rfl
theorem eqv_i (i j : Int) : PyData.eqv (.int i) (.int j) = (i == j) := by rw [PyData.eqv]
@[simp] theorem xEqI (i j : Int) : gEq (.int i) (.int j) = some (.bool (i == j)) := by
  unfold gEq
  rw [(Lay.int (n := 0) i).sh (by decide), (Lay.int (n := 0) j).sh (by decide), eqv_i]; rfl
@[simp] theorem xNeI (i j : Int) : gNe (.int i) (.int j) = some (.bool (!(i == j))) := by
  unfold gNe
  rw [(Lay.int (n := 0) i).sh (by decide), (Lay.int (n := 0) j).sh (by decide), eqv_i]; rfl
@[simp] theorem xLtI (i j : Int) : gCmp (fun i j => decide (i < j)) (.int i) (.int j) = some (.bool (decide (i < j))) := rfl
@[simp] theorem xLenL (ds : List PyData) : gLen [.list ds] = some (.int ds.length) := rfl
@[simp] theorem xLenT (ds : List PyData) : gLen [.tuple ds] = some (.int ds.length) := rfl
/-- the criteria loop of victim_of -/
theorem vict_loop {m pairs : Row} {k : Nat} {A B C D E F : Cell} (hp : pairs ∈ sRows) (hk : k < 3) : ∀ (ws : List Nat) (sm : Row) (c8 c9 : Cell), (∀ w ∈ ws, w < 8) → sm ∈ subs pairs →
    ∃ o, forGo (.one 8) (gSeq (gSet 9 (cOf (eCall (gN 4 s_filtered) (aCons (eVar 8) (aCons (eVar 6) (aCons (eVar 7) (aCons (eVar 2) aNil))))))) (gSeq (gIf (ftAnd (tOf (eB gEq (eVar 9) (eLst aNil))) (tOf (eB (gIn false) (eVar 8) (eTup (aCons (eC (.str "under")) (aCons (eC (.str "over")) aNil)))))) (gRet (eC .none)) gNext) (gSet 7 (cOf (eIf (tOf (eB gNe (eVar 9) (eLst aNil))) (eVar 9) (eVar 7))))))
      (ws.map fStr) [A, B, .d (.int (k : Nat)), C, D, E, .d (eL pairs), .d (eL sm), c8, c9] = some o ∧
      match goT pairs k ws sm with
      | none => o = .rt .none
      | some sm' => sm' ∈ subs pairs ∧ ∃ d8 d9, o = .nx [A, B, .d (.int (k : Nat)), C, D, E, .d (eL pairs), .d (eL sm'), d8, d9]
  | [], sm, c8, c9, _, hs => ⟨_, rfl, hs, _, _, rfl⟩
  | w :: ws, sm, c8, c9, hw, hs => by
    have hw0 := hw w List.mem_cons_self
    have f := filt hw0 hp hs hk
    have ih := fun sm' c8 c9 h => vict_loop (m := m) (A := A) (B := B) (C := C) (D := D) (E := E) (F := F) hp hk ws sm' c8 c9 (fun x hx => hw x (List.mem_cons_of_mem _ hx)) h
    rw [List.map_cons, forGo]
    unfold goT
    cases he : (filterT w pairs sm k).isEmpty
    · obtain ⟨o, h1, h2⟩ := ih _ (.d (fStr w)) (.d (eL (filterT w pairs sm k))) (f.2.2 he)
      refine ⟨o, ?_, by simpa [he] using h2⟩
      simp [f.1, gEq_nil, in_uo hw0, gNe_nil, he, h1]
    · cases hu : (w == 6 || w == 7)
      · obtain ⟨o, h1, h2⟩ := ih _ (.d (fStr w)) (.d (eL (filterT w pairs sm k))) hs
        refine ⟨o, ?_, by simpa [he, hu] using h2⟩
        simp [f.1, gEq_nil, in_uo hw0, gNe_nil, he, h1, hu]
      · refine ⟨.rt .none, ?_, by simp [hu]⟩
        simp [f.1, gEq_nil, in_uo hw0, gNe_nil, he, hu]
end SV

/-! M4: the victim, the two step functions. -/
namespace SV
open PySem L2 DL
theorem cut_cr (cr : List Nat) (en : Nat) : gCut (eCr cr en) none (some (-1)) = some (.tuple (cr.map fStr)) := by
  show some (PyData.tuple (cutD (cr.map fStr ++ [nStr en]) none (some (-1)))) = _
  rw [cut_last]
theorem last_cr (cr : List Nat) (en : Nat) : gIx (eCr cr en) (.int (-1)) = some (nStr en) := xIxLT _ _
@[simp] theorem xCut (fa : Fx) (lo hi : Fo) (env : En) : eCut fa lo hi env = (fa env).bind fun x => (lo env).bind fun l => (hi env).bind fun h => gCut x l h := rfl
@[simp] theorem xoNone (env : En) : oNone env = some none := rfl
@[simp] theorem xoSome1 (env : En) : oSome (eNeg (eC (.int 1))) env = some (some (-1)) := rfl
structure Dn (m : Mac) (r : Row) (k : Nat) : Prop where
  ok : m.Ok
  mem : r ∈ rowsV m.v 3
  lt : k < 3
  no : hasK r k = false
theorem Dn.row {m : Mac} {r : Row} {k : Nat} (h : Dn m r k) : r ∈ rows := (List.mem_filter.mp h.mem).1
theorem Dn.dom {m : Mac} {r : Row} {k : Nat} (h : Dn m r k) : r.length < 3 ∧ ((loudT r).length < m.v ∨ (loudT r ∈ sRows ∧ loudT r ∈ subs (loudT r))) := by
  have f := all_at (all_at f_dom (m2 h.ok.v)) h.mem
  rw [Bool.and_eq_true] at f
  have f := all_at f.2 (m3 h.lt)
  rw [h.no, Bool.false_or, Bool.and_eq_true, Bool.or_eq_true, Bool.and_eq_true] at f
  refine ⟨of_decide_eq_true f.1, f.2.imp (fun z => of_decide_eq_true z) fun z => ⟨by simpa using z.1, by simpa using z.2⟩⟩
theorem loud_ok {r : Row} (h : r ∈ rows) : s_loud [eR r] = some (eL (loudT r)) ∧ s_law_loud [eR r] = some (eL (loudT r)) ∧ s_law_loud [eL r] = some (eL (loudT r)) := by
  have f := all_at f_loud h
  rw [Bool.and_eq_true, Bool.and_eq_true] at f
  exact ⟨sameO_eq f.1, sameO_eq f.2.1, sameO_eq f.2.2⟩
theorem mark_ok {r : Row} {k : Nat} (h : r ∈ rows) (hk : k < 3) (n : hasK r k = false) : s_mark_of [eS r, .int (k : Nat)] = some (.str "up") := by
  have f := all_at (all_at f_mark h) (m3 hk)
  rw [n, Bool.false_or] at f
  exact sameO_eq f
@[simp] theorem xIxS (r : Row) : gIx (eS r) (.int 1) = some (eR r) := xIx1T _ _ _
@[simp] theorem xIxS0 (r : Row) : gIx (eS r) (.int 0) = some (.bool false) := xIx0T _ _
@[simp] theorem xIxM (v : Nat) (c : PyData) (ret : Nat) : gIx (eM0 v c ret) (.int 0) = some (.int v) := xIx0T _ _
@[simp] theorem xIxM1 (v : Nat) (c : PyData) (ret : Nat) : gIx (eM0 v c ret) (.int 1) = some c := xIx1T _ _ _
@[simp] theorem xIxM2 (v : Nat) (c : PyData) (ret : Nat) : gIx (eM0 v c ret) (.int 2) = some (rStr ret) := xIx2T _ _ _ _
@[simp] theorem xLenR (r : Row) : gLen [eR r] = some (.int r.length) := by
  show some (PyData.int ((r.map eP).length : Nat)) = _
  rw [List.length_map]
@[simp] theorem xLenEL (r : Row) : gLen [eL r] = some (.int r.length) := by
  show some (PyData.int ((r.map eP).length : Nat)) = _
  rw [List.length_map]
theorem putM (is : List Nat) (v : Nat) (c : PyData) (ret : Nat) (env : En) : Tg.put (.many is) (eM0 v c ret) env = putAll is [.int v, c, rStr ret] env := rfl
/-- victim_of -/
theorem vict_ok {m : Mac} {r : Row} {k : Nat} (h : Dn m r k) (hl : ¬ (loudT r).length < m.v) : s_victim_of [eM m, eS r, .int (k : Nat)] = some (optD (victT m r k)) := by
  obtain ⟨hp, hs⟩ := h.dom.2.resolve_left hl
  have hl' : ¬ ((loudT r).length : Int) < (m.v : Int) := by omega
  obtain ⟨o, h1, h2⟩ := vict_loop (m := r) (A := .d (eM0 m.v (eCr m.cr m.en) m.ret)) (B := .d (eS r)) (C := .d (.int m.v)) (D := .d (eCr m.cr m.en)) (E := .d (rStr m.ret)) (F := .no) hp h.lt m.cr (loudT r) .no .no h.ok.lt hs
  unfold s_victim_of runF b_victim_of
  unfold victT
  cases hg : goT (loudT r) k m.cr (loudT r) with
  | none =>
    rw [hg] at h2
    subst h2
    simp [eM, putM, (loud_ok h.row).1, hl', cut_cr, h1]
    rfl
  | some sm =>
    rw [hg] at h2
    obtain ⟨h3, d8, d9, rfl⟩ := h2
    have he := ende h.ok.en hp h3
    simp [eM, putM, (loud_ok h.row).1, hl', cut_cr, h1, last_cr, he.1]
theorem sub_all {r : Row} (h : r ∈ sRows) : r ∈ rows := (List.mem_filter.mp h).1
theorem taken_loop {pairs : Row} {k : Nat} {A B D : Cell} (hp : pairs ∈ sRows) (hk : k < 3) : ∀ (ws : List Nat) (sm : Row) (c8 c9 : Cell), (∀ w ∈ ws, w < 8) → sm ∈ subs pairs →
    ∃ o, forGo (.one 5) (gSeq (gSet 6 (cOf (eCall (gN 4 s_law_left) (aCons (eVar 5) (aCons (eVar 3) (aCons (eVar 4) (aCons (eVar 2) aNil))))))) (gSeq (gIf (ftAnd (tOf (eB gEq (eVar 6) (eLst aNil))) (tOf (eB (gIn false) (eVar 5) (eTup (aCons (eC (.str "under")) (aCons (eC (.str "over")) aNil)))))) (gRet (eLst aNil)) gNext) (gSet 4 (cOf (eIf (tOf (eB gNe (eVar 6) (eLst aNil))) (eVar 6) (eVar 4))))))
      (ws.map fStr) [A, B, .d (.int (k : Nat)), .d (eL pairs), .d (eL sm), c8, c9] = some o ∧
      match goT pairs k ws sm with
      | none => o = .rt (.list [])
      | some sm' => sm' ∈ subs pairs ∧ ∃ d8 d9, o = .nx [A, B, .d (.int (k : Nat)), .d (eL pairs), .d (eL sm'), d8, d9]
  | [], sm, c8, c9, _, hs => ⟨_, rfl, hs, _, _, rfl⟩
  | w :: ws, sm, c8, c9, hw, hs => by
    have hw0 := hw w List.mem_cons_self
    have f := filt hw0 hp hs hk
    have ih := fun sm' c8 c9 h => taken_loop (A := A) (B := B) (D := D) hp hk ws sm' c8 c9 (fun x hx => hw x (List.mem_cons_of_mem _ hx)) h
    rw [List.map_cons, forGo]
    unfold goT
    cases he : (filterT w pairs sm k).isEmpty
    · obtain ⟨o, h1, h2⟩ := ih _ (.d (fStr w)) (.d (eL (filterT w pairs sm k))) (f.2.2 he)
      refine ⟨o, ?_, by simpa [he] using h2⟩
      simp [f.2.1, gEq_nil, in_uo hw0, gNe_nil, he, h1]
    · cases hu : (w == 6 || w == 7)
      · obtain ⟨o, h1, h2⟩ := ih _ (.d (fStr w)) (.d (eL (filterT w pairs sm k))) hs
        refine ⟨o, ?_, by simpa [he, hu] using h2⟩
        simp [f.2.1, gEq_nil, in_uo hw0, gNe_nil, he, h1, hu]
      · refine ⟨.rt (.list []), ?_, by simp [hu]⟩
        simp [f.2.1, gEq_nil, in_uo hw0, gNe_nil, he, hu]
theorem taken_ok {m : Mac} {r : Row} {k : Nat} (h : Dn m r k) (hl : ¬ (loudT r).length < m.v) : s_law_taken [eM m, eL r, .int (k : Nat)] = some (optL (victT m r k)) := by
  obtain ⟨hp, hs⟩ := h.dom.2.resolve_left hl
  have hl' : ¬ ((loudT r).length : Int) < (m.v : Int) := by omega
  obtain ⟨o, h1, h2⟩ := taken_loop (A := .d (eM0 m.v (eCr m.cr m.en) m.ret)) (B := .d (eL r)) (D := .no) hp h.lt m.cr (loudT r) .no .no h.ok.lt hs
  unfold s_law_taken runF b_law_taken
  unfold victT
  cases hg : goT (loudT r) k m.cr (loudT r) with
  | none =>
    rw [hg] at h2
    subst h2
    simp [eM, putM, (loud_ok h.row).2.2, hl', cut_cr, h1]
    rfl
  | some sm =>
    rw [hg] at h2
    obtain ⟨h3, d8, d9, rfl⟩ := h2
    have he := ende h.ok.en hp h3
    simp [eM, putM, (loud_ok h.row).2.2, hl', cut_cr, h1, last_cr, he.2.1]
theorem vict_in {m : Mac} {r : Row} {k t : Nat} (h : Dn m r k) (hl : ¬ (loudT r).length < m.v) (e : victT m r k = some t) : hasK (loudT r) t = true := by
  obtain ⟨hp, hs⟩ := h.dom.2.resolve_left hl
  unfold victT at e
  obtain ⟨o, _, h2⟩ := taken_loop (A := .no) (B := .no) (D := .no) hp h.lt m.cr (loudT r) .no .no h.ok.lt hs
  cases hg : goT (loudT r) k m.cr (loudT r) with
  | none => rw [hg] at e; cases e
  | some sm =>
    rw [hg] at e h2
    exact (ende h.ok.en hp h2.1).2.2 _ e
end SV

/-! M5: one event of one machine. -/
namespace SV
open PySem L2 DL
@[simp] theorem xEqS (x y : Str) (h : PyData.strOk x = true) (h' : PyData.strOk y = true) : gEq (.str x) (.str y) = some (.bool (x == y)) := by
  unfold gEq
  rw [(Lay.str (n := 0) x h).sh (by decide), (Lay.str (n := 0) y h').sh (by decide)]
  show some (PyData.bool (PyData.eqv _ _)) = _
  rw [PyData.eqv]
@[simp] theorem eq_uk : gEq (.str "up") (.str "kept") = some (.bool false) := by kernel_rfl
@[simp] theorem eq_dp : gEq (.str "down") (.str "press") = some (.bool false) := by kernel_rfl
@[simp] theorem eq_dl : gEq (.str "down") (.str "lift") = some (.bool false) := by kernel_rfl
@[simp] theorem eq_dd : gEq (.str "down") (.str "down") = some (.bool true) := by kernel_rfl
@[simp] theorem ne_mk (b : Bool) : gNe (.str (if b = true then "waits" else "sounds")) (.str "kept") = some (.bool true) := by cases b <;> kernel_rfl
@[simp] theorem xIsN (x : PyData) : gIsN x .none = some (.bool (isNo x)) := rfl
@[simp] theorem xNotN (x : PyData) : gNotN x .none = some (.bool (!isNo x)) := rfl
@[simp] theorem no_n : isNo .none = true := rfl
@[simp] theorem no_i (i : Int) : isNo (.int i) = false := rfl
@[simp] theorem no_b (i : Bool) : isNo (.bool i) = false := rfl
@[simp] theorem no_s (i : Str) : isNo (.str i) = false := rfl
@[simp] theorem no_t (i : List PyData) : isNo (.tuple i) = false := rfl
@[simp] theorem no_l (i : List PyData) : isNo (.list i) = false := rfl
theorem gAddT_ok (xs ys : List PyData) (h : xs.length + ys.length ≤ line) : gAdd (.tuple xs) (.tuple ys) = some (.tuple (xs ++ ys)) := by
  show (if xs.length + ys.length ≤ line then _ else _) = _
  rw [if_pos h]
theorem gAddL_ok (xs ys : List PyData) (h : xs.length + ys.length ≤ line) : gAdd (.list xs) (.list ys) = some (.list (xs ++ ys)) := by
  show (if xs.length + ys.length ≤ line then _ else _) = _
  rw [if_pos h]
theorem add_R (r : Row) (k : Nat) (b : Bool) (s : Str) (hs : PyData.tuple [.int (k : Nat), .str s] = eP (k, b)) (h : r.length ≤ 3) : gAdd (eR r) (.tuple [.tuple [.int (k : Nat), .str s]]) = some (eR (r ++ [(k, b)])) := by
  rw [hs, eR, gAddT_ok _ _ (by rw [List.length_map]; exact Nat.le_trans (Nat.add_le_add_right h 1) (by decide)), eR, List.map_append]; rfl
@[simp] theorem seq_R (r : Row) : seqOf (eR r) = some (r.map eP) := rfl
@[simp] theorem seq_L (r : Row) : seqOf (eL r) = some (r.map eP) := rfl
@[simp] theorem optD_s (t : Nat) : optD (some t) = .int t := rfl
@[simp] theorem optD_n : optD none = .none := rfl
@[simp] theorem optL_s (t : Nat) : optL (some t) = .list [.int t] := rfl
@[simp] theorem optL_n : optL none = .list [] := rfl
theorem lcMark (r : Row) (t : Nat) (d7 d8 : Cell) (e0 e1 e2 e3 e5 e6 : Cell) :
    lcGo (.many [7, 8]) (ftOr (tOf (eB gNe (eVar 7) (eVar 4))) (tOf (eB gNe (eVar 8) (eC (.str "kept"))))) (eIf (tOf (eB gEq (eVar 7) (eVar 4))) (eTup (aCons (eVar 7) (aCons (eC (.str "waits")) aNil))) (eTup (aCons (eVar 7) (aCons (eVar 8) aNil)))) [e0, e1, e2, e3, .d (.int (t : Nat)), e5, e6, d7, d8] (r.map eP) = some ((setK r t true).map eP) := by
  rw [lcGo_map eP (fun _ => true) (fun p => eP (if p.1 == t then (p.1, true) else p)) r]
  · rw [List.filter_eq_self.mpr (fun _ _ => rfl), setK, List.map_map]; rfl
  · intro p _
    refine ⟨[e0, e1, e2, e3, .d (.int (t : Nat)), e5, e6, .d (.int p.1), .d (.str (if p.2 then "waits" else "sounds"))], ?_, ?_, fun _ => ?_⟩
    · simp [eP]
    · simp
    · by_cases h : p.1 = t
      · simp [h, eP]
      · have h' : ¬ ((p.1 : Int) = (t : Int)) := by omega
        simp [h, h', eP]
theorem down_ok {m : Mac} {r : Row} {k : Nat} (h : Dn m r k) : ∃ ds, s_after_down [eM m, eS r, .int (k : Nat)] = some (.tuple [eR (downT m r k), .list ds]) := by
  have hn := Nat.le_of_lt h.dom.1
  unfold s_after_down runF b_after_down downT
  by_cases hl : (loudT r).length < m.v
  · have hl' : ((loudT r).length : Int) < (m.v : Int) := by omega
    simp [eM, (loud_ok h.row).1, mark_ok h.row h.lt h.no, hl, hl', add_R r k false "sounds" rfl hn]
  · have hl' : ¬ ((loudT r).length : Int) < (m.v : Int) := by omega
    have hv := vict_ok h hl
    rw [eM] at hv
    cases hg : victT m r k with
    | none =>
      rw [hg] at hv
      simp [eM, (loud_ok h.row).1, mark_ok h.row h.lt h.no, hl, hl', add_R r k true "waits" rfl hn, hv]
    | some t =>
      rw [hg] at hv
      have hq : (setK r t true).length ≤ 3 := by rw [setK, List.length_map]; exact hn
      have hz : r.length ≤ line := Nat.le_trans hn (by decide)
      have ha := add_R (setK r t true) k false "sounds" rfl hq
      rw [show eR (setK r t true) = .tuple ((setK r t true).map eP) from rfl] at ha
      simp [eM, (loud_ok h.row).1, mark_ok h.row h.lt h.no, hl, hl', hv, hz, lcMark, ha]
theorem done_down {m : Mac} {r : Row} {k : Nat} (h : Dn m r k) : ∃ ds, s_done [eM m, eS r, eE (true, k)] = some (.tuple [eS (downT m r k), .tuple ds]) := by
  obtain ⟨ds, hd⟩ := down_ok h
  refine ⟨ds, ?_⟩
  unfold s_done runF b_done eE
  simp [hd]
  rfl
/-- the law's step down -/
theorem marked_ok (r : Row) (t : Nat) (b : Bool) (s : Str) (hs : ∀ j : Nat, PyData.tuple [.int (j : Nat), .str s] = eP (j, b)) (h : r.length ≤ 3) : s_law_marked [eL r, .int (t : Nat), .str s] = some (eL (setK r t b)) := by
  have hz : r.length ≤ line := Nat.le_trans h (by decide)
  have hm : ∀ (e0 e1 e2 : Cell), lcGo (.one 3) ftT (eIf (tOf (eB gEq (eB gIx (eVar 3) (eC (.int 0))) (eVar 1))) (eTup (aCons (eB gIx (eVar 3) (eC (.int 0))) (aCons (eVar 2) aNil))) (eVar 3)) [e0, .d (.int (t : Nat)), .d (.str s), .no] (r.map eP) = some ((setK r t b).map eP) := by
    intro e0 e1 e2
    rw [lcGo_map eP (fun _ => true) (fun p => eP (if p.1 == t then (p.1, b) else p)) r]
    · rw [List.filter_eq_self.mpr (fun _ _ => rfl), setK, List.map_map]; rfl
    · intro p _
      refine ⟨[e0, .d (.int (t : Nat)), .d (.str s), .d (eP p)], ?_, ?_, fun _ => ?_⟩
      · simp
      · simp
      · have hp : gIx (eP p) (.int 0) = some (.int p.1) := xIx0T _ _
        by_cases h : p.1 = t
        · simp [h, hp, hs]
        · have h' : ¬ ((p.1 : Int) = (t : Int)) := by omega
          simp [h, h', hp]
  unfold s_law_marked runF b_law_marked
  simp [hz, hm _ .no .no]
  rfl
end SV

/-! M6: one event of one machine, the law's way; all together. -/
namespace SV
open PySem L2 DL
theorem kept_ne (p : Nat × Bool) (k : Nat) : PyData.eqv (eP p) (.tuple [.int (k : Nat), .str "kept"]) = false := by
  obtain ⟨j, b⟩ := p
  unfold eP
  rw [PyData.eqv, PyData.eqvAll, PyData.eqvAll, PyData.eqvAll, PyData.eqv, PyData.eqv]
  have : ((if b = true then Str.ofString "waits" else Str.ofString "sounds") == Str.ofString "kept") = false := by cases b <;> kernel_rfl
  show ((j : Int) == (k : Int) && ((if b = true then Str.ofString "waits" else Str.ofString "sounds") == Str.ofString "kept" && true)) = false
  rw [this, Bool.false_and, Bool.and_false]
theorem lay_kept (k : Nat) : Lay 1 (.tuple [.int (k : Nat), .str "kept"]) := .pair (.int _) (.str _ (by kernel_rfl))
@[simp] theorem in_kept (r : Row) (k : Nat) : gIn false (.tuple [.int (k : Nat), .str "kept"]) (eL r) = some (.bool false) := by
  show (if (SeqAt.shaped _ && SeqAt.shaped (eL r)) = true then some (PyData.bool (if false = true then _ else _)) else none) = _
  rw [(lay_kept k).sh (by decide), (lay_L r).sh (by decide)]
  have : ((r.map eP).any fun z => PyData.eqv z (.tuple [.int (k : Nat), .str "kept"])) = false := by
    rw [List.any_eq_false]
    intro z hz
    obtain ⟨p, _, rfl⟩ := List.mem_map.mp hz
    rw [kept_ne]; simp
  simp [this]
@[simp] theorem ne_kept (p : Nat × Bool) (k : Nat) : gNe (eP p) (.tuple [.int (k : Nat), .str "kept"]) = some (.bool true) := by
  unfold gNe
  rw [(lay_kept k).sh (by decide), (lay_P p).sh (by decide), kept_ne]; rfl
theorem add_L (r : Row) (k : Nat) (b : Bool) (s : Str) (hs : PyData.tuple [.int (k : Nat), .str s] = eP (k, b)) (h : r.length ≤ 3) : gAdd (eL r) (.list [.tuple [.int (k : Nat), .str s]]) = some (eL (r ++ [(k, b)])) := by
  rw [hs, eL, gAddL_ok _ _ (by rw [List.length_map]; exact Nat.le_trans (Nat.add_le_add_right h 1) (by decide)), eL, List.map_append]; rfl
@[simp] theorem eq_l0 : gEq (.list []) (.list []) = some (.bool true) := by kernel_rfl
@[simp] theorem eq_l1 (t : Nat) : gEq (.list [.int (t : Nat)]) (.list []) = some (.bool false) := by kernel_rfl
theorem lcKept (r : Row) (t : Nat) (e0 e1 e2 e4 d : Cell) : lcGo (.one 5) (tOf (eB gNe (eVar 5) (eTup (aCons (eB gIx (eVar 3) (eC (.int 0))) (aCons (eC (.str "kept")) aNil))))) (eVar 5) [e0, e1, e2, .d (.list [.int (t : Nat)]), e4, d] (r.map eP) = some (r.map eP) := by
  rw [lcGo_map eP (fun _ => true) eP r]
  · rw [List.filter_eq_self.mpr (fun _ _ => rfl)]
  · intro p _
    refine ⟨[e0, e1, e2, .d (.list [.int (t : Nat)]), e4, .d (eP p)], ?_, ?_, fun _ => ?_⟩ <;> simp
theorem gone_ok {m : Mac} {r : Row} {k : Nat} (h : Dn m r k) : ∃ ds, s_law_gone_down [eM m, eL r, .int (k : Nat)] = some (.tuple [eL (downT m r k), .list ds]) := by
  have hn := Nat.le_of_lt h.dom.1
  unfold s_law_gone_down runF b_law_gone_down downT
  by_cases hl : (loudT r).length < m.v
  · have hl' : ((loudT r).length : Int) < (m.v : Int) := by omega
    simp [eM, (loud_ok h.row).2.2, hl, hl', add_L r k false "sounds" rfl hn]
  · have hl' : ¬ ((loudT r).length : Int) < (m.v : Int) := by omega
    have hv := taken_ok h hl
    rw [eM] at hv
    cases hg : victT m r k with
    | none =>
      rw [hg] at hv
      simp [eM, (loud_ok h.row).2.2, hl, hl', add_L r k true "waits" rfl hn, hv]
    | some t =>
      rw [hg] at hv
      have hq : (setK r t true).length ≤ 3 := by rw [setK, List.length_map]; exact hn
      have hz : r.length ≤ line := Nat.le_trans hn (by decide)
      have ha := add_L (setK r t true) k false "sounds" rfl hq
      have hm := marked_ok r t true "waits" (fun _ => rfl) hn
      rw [show eL r = .list (r.map eP) from rfl] at hm
      simp [eM, (loud_ok h.row).2.2, hl, hl', hv, hz, lcKept, ha, hm]
@[simp] theorem xListR (r : Row) : gList [eR r] = some (eL r) := rfl
@[simp] theorem xTupleL (r : Row) : (match eL r with
  | .list ds => some (PyData.tuple ds)
  | .tuple ds => some (.tuple ds)
  | _ => none) = some (eR r) := rfl
theorem stepped_down {m : Mac} {r : Row} {k : Nat} (h : Dn m r k) : ∃ ds, s_law_stepped [eM m, eS r, eE (true, k)] = some (.tuple [eS (downT m r k), .tuple ds]) := by
  obtain ⟨ds, hd⟩ := gone_ok h
  refine ⟨ds, ?_⟩
  unfold s_law_stepped runF b_law_stepped eE
  simp [hd]
  rfl
/-- an event that can be, of one machine -/
structure Can (m : Mac) (r : Row) (e : Ev) : Prop where
  ok : m.Ok
  mem : r ∈ rowsV m.v 3
  lt : e.2 < 3
  can : canT r e = true
theorem Can.row {m : Mac} {r : Row} {e : Ev} (h : Can m r e) : r ∈ rows := (List.mem_filter.mp h.mem).1
theorem done_ok {m : Mac} {r : Row} {e : Ev} (h : Can m r e) : ∃ ds, s_done [eM m, eS r, eE e] = some (.tuple [eS (stepT m r e), .tuple ds]) := by
  obtain ⟨b, k⟩ := e
  cases b
  · have hk : hasK r k = true := h.can
    have f := all_at (all_at (all_at (f_up (eCr m.cr m.en)) (m2 h.ok.v)) h.mem) (m3 h.lt)
    rw [hk, Bool.not_true, Bool.false_or] at f
    exact okD_some (all_at f (m5 h.ok.ret))
  · exact done_down ⟨h.ok, h.mem, h.lt, by simpa [canT] using h.can⟩
theorem stepped_ok {m : Mac} {r : Row} {e : Ev} (h : Can m r e) : ∃ ds, s_law_stepped [eM m, eS r, eE e] = some (.tuple [eS (stepT m r e), .tuple ds]) := by
  obtain ⟨b, k⟩ := e
  cases b
  · have hk : hasK r k = true := h.can
    have f := all_at (all_at (all_at (f_lawUp (eCr m.cr m.en)) (m2 h.ok.v)) h.mem) (m3 h.lt)
    rw [hk, Bool.not_true, Bool.false_or] at f
    exact okD_some (all_at f (m5 h.ok.ret))
  · exact stepped_down ⟨h.ok, h.mem, h.lt, by simpa [canT] using h.can⟩
theorem mev {e : Ev} (h : e.2 < 3) : e ∈ evs := by
  obtain ⟨b, k⟩ := e
  have : k = 0 ∨ k = 1 ∨ k = 2 := by have : k < 3 := h; omega
  rcases this with rfl | rfl | rfl <;> cases b <;> decide
theorem can_ok {r : Row} {e : Ev} (h : r ∈ rows) (he : e.2 < 3) : s_can_follow [eS r, eE e] = some (.bool (canT r e)) ∧ s_law_can [eS r, eE e] = some (.bool (canT r e)) := by
  have f := all_at (all_at f_can h) (mev he)
  rw [Bool.and_eq_true] at f
  exact ⟨sameO_eq f.1, sameO_eq f.2⟩
theorem sound_ok {r : Row} (h : r ∈ rows) : s_sound_of [eS r] = some (sndD (soundI r)) ∧ s_law_sound [eS r] = some (sndD (soundI r)) := by
  have f := all_at f_sound h
  rw [Bool.and_eq_true] at f
  exact ⟨sameO_eq f.1, sameO_eq f.2⟩
end SV

/-! M7: chains as typed data. -/
namespace SV
open PySem L2 DL
def insN (x : Nat) : List Nat → List Nat
  | [] => [x]
  | y :: ys => if x ≤ y then x :: y :: ys else y :: insN x ys
def sortN : List Nat → List Nat
  | [] => []
  | x :: xs => insN x (sortN xs)
def keysT (r : Row) : List Nat := sortN (r.map (·.1))
def wk (r : Row) : List Nat := (waitT r).map (·.1)
def waitsT (r : Row) : List Nat := sortN (wk r)
def handT (r r' : Row) : List Ev := ((wk r').filter fun k => !(wk r).contains k).map (fun k => (true, k)) ++ ((wk r).filter fun k => !(wk r').contains k).map (fun k => (false, k))
def appE (e : Ev) (l : List Nat) : List Nat := if e.1 then insN e.2 l else l.filter (· != e.2)
def canK (e : Ev) (l : List Nat) : Bool := if e.1 then !l.contains e.2 else l.contains e.2
def good (v cap : Nat) (r : Row) (e : Ev) (r' : Row) : Bool := (rowsV v cap).contains r' && decide (keysT r' = appE e (keysT r)) && (match handT r r' with
  | [] => decide (waitsT r' = waitsT r)
  | [e'] => decide (e'.2 < 3) && canK e' (waitsT r) && decide (waitsT r' = appE e' (waitsT r))
  | _ => false)
theorem f_close : ([1, 2].all fun v => [1, 2, 3].all fun cap => (rowsV v cap).all fun r => [0, 1, 2].all fun k =>
    ((hasK r k || !decide (r.length < cap)) || (if (loudT r).length < v then good v cap r (true, k) (r ++ [(k, false)]) else good v cap r (true, k) (r ++ [(k, true)]) && [0, 1, 2].all fun t => !hasK (loudT r) t || good v cap r (true, k) (setK r t true ++ [(k, false)]))) &&
    (!hasK r k || [0, 1, 2, 3, 4].all fun ret => good v cap r (false, k) (upT v ret r k))) = true := by decide +kernel
theorem f_sub : ([1, 2].all fun v => [1, 2, 3].all fun cap => (rowsV v cap).all fun r => (rowsV v 3).contains r && ([0, 1, 2].all fun k => decide (hasK r k = (keysT r).contains k)) && decide (r.length = (keysT r).length) && decide ((waitsT r).length ≤ cap - v) && ((loudT r).all fun p => decide (p.1 < 3)) && decide ((keysT r).length ≤ cap)) = true := by decide +kernel
theorem f_three : ([1, 2].all fun v => (rowsV v 3).all fun r => [0, 1, 2].all fun k => hasK r k || decide (r.length < 3)) = true := by decide +kernel
theorem mc {c : Nat} (h : 0 < c) (h' : c ≤ 3) : c ∈ [1, 2, 3] := by
  have : c = 1 ∨ c = 2 ∨ c = 3 := by omega
  simpa using this
structure RowOk (v cap : Nat) (r : Row) : Prop where
  big : r ∈ rowsV v 3
  has : ∀ k, k < 3 → hasK r k = (keysT r).contains k
  len : r.length = (keysT r).length
  wl : (waitsT r).length ≤ cap - v
  lt : ∀ p ∈ loudT r, p.1 < 3
  kl : (keysT r).length ≤ cap
theorem rowOk {v cap : Nat} {r : Row} (hv : v = 1 ∨ v = 2) (hc : 0 < cap) (hc' : cap ≤ 3) (h : r ∈ rowsV v cap) : RowOk v cap r := by
  have f := all_at (all_at (all_at f_sub (m2 hv)) (mc hc hc')) h
  simp only [Bool.and_eq_true] at f
  obtain ⟨⟨⟨⟨⟨f1, f2⟩, f3⟩, f4⟩, f5⟩, f6⟩ := f
  exact ⟨by simpa using f1, fun k hk => of_decide_eq_true (all_at f2 (m3 hk)), of_decide_eq_true f3, of_decide_eq_true f4, fun p hp => of_decide_eq_true (all_at f5 hp), of_decide_eq_true f6⟩
structure Step (v cap : Nat) (r : Row) (e : Ev) (r' : Row) : Prop where
  mem : r' ∈ rowsV v cap
  keys : keysT r' = appE e (keysT r)
  hand : (handT r r' = [] ∧ waitsT r' = waitsT r) ∨ ∃ e', handT r r' = [e'] ∧ e'.2 < 3 ∧ canK e' (waitsT r) = true ∧ waitsT r' = appE e' (waitsT r)
theorem good_step {v cap : Nat} {r : Row} {e : Ev} {r' : Row} (h : good v cap r e r' = true) : Step v cap r e r' := by
  unfold good at h
  rw [Bool.and_eq_true, Bool.and_eq_true] at h
  obtain ⟨⟨h1, h2⟩, h3⟩ := h
  refine ⟨by simpa using h1, of_decide_eq_true h2, ?_⟩
  split at h3
  · rename_i e0
    exact .inl ⟨e0, of_decide_eq_true h3⟩
  · rename_i e' e0
    rw [Bool.and_eq_true, Bool.and_eq_true] at h3
    exact .inr ⟨e', e0, of_decide_eq_true h3.1.1, h3.1.2, of_decide_eq_true h3.2⟩
  · cases h3
/-- what can come to a machine -/
structure Ena (v cap : Nat) (r : Row) (e : Ev) : Prop where
  mem : r ∈ rowsV v cap
  lt : e.2 < 3
  can : canK e (keysT r) = true
  room : e.1 = true → (keysT r).length < cap
theorem ena_can {m : Mac} {cap : Nat} {r : Row} {e : Ev} (ok : m.Ok) (hc : 0 < cap) (hc' : cap ≤ 3) (h : Ena m.v cap r e) : Can m r e := by
  have q := rowOk ok.v hc hc' h.mem
  refine ⟨ok, q.big, h.lt, ?_⟩
  have := h.can
  unfold canK at this
  unfold canT
  rw [q.has _ h.lt]
  exact this
theorem step_ok {m : Mac} {cap : Nat} {r : Row} {e : Ev} (ok : m.Ok) (hc : 0 < cap) (hc' : cap ≤ 3) (h : Ena m.v cap r e) : Step m.v cap r e (stepT m r e) := by
  have q := rowOk ok.v hc hc' h.mem
  have c := ena_can ok hc hc' h
  obtain ⟨b, k⟩ := e
  have f := all_at (all_at (all_at (all_at f_close (m2 ok.v)) (mc hc hc')) h.mem) (m3 h.lt)
  rw [Bool.and_eq_true] at f
  cases b
  · have f := f.2
    have hk : hasK r k = true := c.can
    rw [hk, Bool.not_true, Bool.false_or] at f
    exact good_step (all_at f (m5 ok.ret))
  · have f := f.1
    have hk : hasK r k = false := by simpa [canT] using c.can
    have hl : r.length < cap := by rw [q.len]; exact h.room rfl
    rw [hk, decide_eq_true hl, Bool.not_true, Bool.or_false, Bool.false_or] at f
    show Step m.v cap r (true, k) (downT m r k)
    unfold downT
    by_cases hq : (loudT r).length < m.v
    · rw [if_pos hq] at f ⊢
      exact good_step f
    · rw [if_neg hq] at f ⊢
      rw [Bool.and_eq_true] at f
      cases hg : victT m r k with
      | none => exact good_step f.1
      | some t =>
        have hi := vict_in ⟨ok, q.big, h.lt, hk⟩ hq hg
        have ht : t < 3 := by
          unfold hasK at hi
          obtain ⟨p, hp, e⟩ := List.any_eq_true.mp hi
          rw [← (beq_iff_eq.mp e)]
          exact q.lt p hp
        have f2 := all_at f.2 (m3 ht)
        rw [hi, Bool.not_true, Bool.false_or] at f2
        exact good_step f2
def linkT : List Mac → List Row → Option Ev → List Row
  | m :: ms, r :: rs, some e => stepT m r e :: linkT ms rs (handT r (stepT m r e)).head?
  | _ :: ms, r :: rs, none => r :: linkT ms rs none
  | _, _, _ => []
/-- the states of a chain on a board: cap keys at most, the keys ks -/
def Val : List Mac → Nat → List Nat → List Row → Prop
  | [], _, _, [] => True
  | m :: ms, cap, ks, r :: rs => (0 < cap ∧ r ∈ rowsV m.v cap ∨ cap = 0 ∧ r = []) ∧ keysT r = ks ∧ Val ms (cap - m.v) (waitsT r) rs
  | _, _, _, _ => False
def ChOk (ms : List Mac) : Prop := ∀ m ∈ ms, m.Ok
theorem linkT_none : ∀ (ms : List Mac) (rs : List Row), ms.length = rs.length → linkT ms rs none = rs
  | [], [], _ => rfl
  | _ :: ms, r :: rs, h => by
    show r :: linkT ms rs none = _
    rw [linkT_none ms rs (Nat.succ.inj h)]
  | [], _ :: _, h => by cases h
  | _ :: _, [], h => by cases h
theorem Val.len : ∀ {ms : List Mac} {cap : Nat} {ks : List Nat} {rs : List Row}, Val ms cap ks rs → ms.length = rs.length
  | [], _, _, [], _ => rfl
  | _ :: ms, _, _, _ :: rs, h => congrArg Nat.succ (Val.len h.2.2)
  | [], _, _, _ :: _, h => h.elim
  | _ :: _, _, _, [], h => h.elim
theorem insN_len (x : Nat) : ∀ l : List Nat, (insN x l).length = l.length + 1
  | [] => rfl
  | y :: ys => by
    unfold insN
    split
    · rfl
    · show (insN x ys).length + 1 = _
      rw [insN_len x ys]; rfl
theorem Val.step : ∀ {ms : List Mac} {cap : Nat} {ks : List Nat} {rs : List Row} {e : Ev}, ChOk ms → cap ≤ 3 → Val ms cap ks rs → e.2 < 3 → canK e ks = true → (e.1 = true → ks.length < cap) → Val ms cap (appE e ks) (linkT ms rs (some e))
  | [], _, _, [], _, _, _, _, _, _, _ => trivial
  | [], _, _, _ :: _, _, _, _, h, _, _, _ => h.elim
  | _ :: _, _, _, [], _, _, _, h, _, _, _ => h.elim
  | m :: ms, cap, ks, r :: rs, e, ok, hc, h, he, hk, hr => by
    obtain ⟨h1, h2, h3⟩ := h
    subst h2
    have okm := ok m List.mem_cons_self
    rcases h1 with ⟨h0, h1⟩ | ⟨h0, h1⟩
    · have en : Ena m.v cap r e := ⟨h1, he, hk, hr⟩
      have st := step_ok okm h0 hc en
      have q := rowOk okm.v h0 hc st.mem
      refine ⟨.inl ⟨h0, st.mem⟩, st.keys, ?_⟩
      rcases st.hand with ⟨g1, g2⟩ | ⟨e', g1, g2, g3, g4⟩
      · rw [g1, g2]
        show Val _ _ _ (linkT ms rs none)
        rw [linkT_none _ _ h3.len]; exact h3
      · rw [g1, g4]
        refine Val.step (fun x hx => ok x (List.mem_cons_of_mem _ hx)) (by omega) h3 g2 g3 fun z => ?_
        have := q.wl
        rw [g4] at this
        unfold appE at this
        rw [if_pos z, insN_len] at this
        omega
    · subst h0 h1
      exfalso
      obtain ⟨b, k⟩ := e
      cases b
      · simp [canK, keysT, sortN] at hk
      · exact Nat.not_lt_zero _ (hr rfl)
end SV

/-! M8: chain_step, _law_linked, the sounds of chains. -/
namespace SV
open PySem L2 DL
def optE : Option Ev → PyData
  | none => .none
  | some e => eE e
def inL (l : List Nat) : PyData := .list (l.map fun k => .int (k : Nat))
def eC' (ms : List Mac) : PyData := .tuple (ms.map eM)
def eSt (rs : List Row) : PyData := .tuple (rs.map eS)
@[simp] theorem eq_w (b : Bool) : gEq (.str (if b = true then "waits" else "sounds")) (.str "waits") = some (.bool b) := by cases b <;> kernel_rfl
@[simp] theorem xlc0 (t : Tg) (ft : Ft) (fe : Fx) (env : En) : lcGo t ft fe env [] = some [] := rfl
@[simp] theorem xlc1 (t : Tg) (ft : Ft) (fe : Fx) (env : En) (x : PyData) (xs : List PyData) : lcGo t ft fe env (x :: xs) = (t.put x env).bind fun e1 => (ft e1).bind fun b => if b = true then (fe e1).bind fun d => (lcGo t ft fe env xs).bind fun r => some (d :: r) else lcGo t ft fe env xs := rfl
@[simp] theorem xPutL (is : List Nat) (f : Fx) (env : En) : gPutL is f env = (f env).bind fun d => (Tg.putL is d env).bind fun e => some (.nx e) := rfl
@[simp] theorem xputL (is : List Nat) (ds : List PyData) (env : En) : Tg.putL is (.list ds) env = putAll is ds env := rfl
theorem any_inL (l : List Nat) (k : Nat) : ((l.map fun k => PyData.int (k : Nat)).any fun z => PyData.eqv z (.int (k : Nat))) = l.contains k := by
  induction l with
  | nil => rfl
  | cons a l ih =>
    rw [List.map_cons, List.any_cons, ih, List.contains_cons, eqv_i]
    congr 1
    by_cases h : k = a
    · subst h; rw [beq_self_eq_true, beq_self_eq_true]
    · have : ¬ ((a : Int) = (k : Int)) := by omega
      rw [beq_eq_false_iff_ne.mpr h, beq_eq_false_iff_ne.mpr this]
theorem lay_inL (l : List Nat) : Lay 1 (inL l) := .list fun x hx => by
  obtain ⟨k, _, rfl⟩ := List.mem_map.mp hx
  exact .int _
@[simp] theorem nin_inL (l : List Nat) (k : Nat) : gIn true (.int (k : Nat)) (inL l) = some (.bool (!l.contains k)) := by
  show (if (SeqAt.shaped _ && SeqAt.shaped (inL l)) = true then some (PyData.bool (if true = true then _ else _)) else none) = _
  rw [(lay_inL l).sh (by decide), (Lay.int (n := 0) _).sh (by decide), any_inL]; rfl
@[simp] theorem seq_inL (l : List Nat) : seqOf (inL l) = some (l.map fun k => .int (k : Nat)) := rfl
theorem lcWait {t : Tg} {ft : Ft} {fe : Fx} {env : En} (r : Row) (h : ∀ p : Nat × Bool, ∃ e1, t.put (eP p) env = some e1 ∧ ft e1 = some p.2 ∧ fe e1 = some (.int p.1)) : lcGo t ft fe env (r.map eP) = some ((wk r).map fun k => .int (k : Nat)) := by
  rw [lcGo_map eP (fun p => p.2) (fun p => .int p.1) r fun p _ => ?_]
  · simp [wk, waitT]
  · obtain ⟨e1, h1, h2, h3⟩ := h p
    exact ⟨e1, h1, h2, fun _ => h3⟩
theorem lcNot {t : Tg} {ft : Ft} {fe : Fx} {env : En} (b : Bool) (l l' : List Nat) (h : ∀ k : Nat, ∃ e1, t.put (.int (k : Nat)) env = some e1 ∧ ft e1 = some (!l'.contains k) ∧ fe e1 = some (eE (b, k))) : lcGo t ft fe env (l.map fun k => .int (k : Nat)) = some (((l.filter fun k => !l'.contains k).map (fun k => (b, k))).map eE) := by
  rw [lcGo_map (fun k : Nat => .int (k : Nat)) (fun k => !l'.contains k) (fun k => eE (b, k)) l fun p _ => ?_]
  · rw [List.map_map]; rfl
  · obtain ⟨e1, h1, h2, h3⟩ := h p
    exact ⟨e1, h1, h2, fun _ => h3⟩
def evL (l : List Ev) : PyData := .list (l.map eE)
theorem lay_evL (l : List Ev) : Lay 2 (evL l) := .list fun x hx => by
  obtain ⟨k, _, rfl⟩ := List.mem_map.mp hx
  exact lay_E _
@[simp] theorem ne_evL (l : List Ev) : gNe (evL l) (.list []) = some (.bool (!l.isEmpty)) := by
  unfold gNe
  rw [(lay_evL l).sh (by decide)]
  cases l <;> rfl
@[simp] theorem eq_evL (l : List Ev) : gEq (evL l) (.list []) = some (.bool l.isEmpty) := by
  unfold gEq
  rw [(lay_evL l).sh (by decide)]
  cases l <;> rfl
theorem wk_len {r : Row} (h : r.length ≤ 3) : (wk r).length ≤ 3 := by
  unfold wk waitT
  rw [List.length_map]
  exact Nat.le_trans (List.length_filter_le _ _) h
theorem add_ev (l l' : List Ev) (h : l.length + l'.length ≤ line) : gAdd (.list (l.map eE)) (.list (l'.map eE)) = some (evL (l ++ l')) := by
  rw [gAddL_ok _ _ (by simpa using h), evL, List.map_append]
theorem hand_add {r r' : Row} (h : r.length ≤ 3) (h' : r'.length ≤ 3) : gAdd (.list ((((wk r').filter fun k => !(wk r).contains k).map (fun k => (true, k))).map eE)) (.list ((((wk r).filter fun k => !(wk r').contains k).map (fun k => (false, k))).map eE)) = some (evL (handT r r')) := by
  rw [add_ev]; rfl
  simp only [List.length_map]
  have h1 := Nat.le_trans (List.length_filter_le (fun k => !(wk r).contains k) (wk r')) (wk_len h')
  have h2 := Nat.le_trans (List.length_filter_le (fun k => !(wk r').contains k) (wk r)) (wk_len h)
  exact Nat.le_trans (Nat.add_le_add h1 h2) (by decide)
theorem toInL (l : List Nat) : PyData.list (l.map fun k => .int (k : Nat)) = inL l := rfl
theorem lawHand_ok {r r' : Row} (h : r.length ≤ 3) (h' : r'.length ≤ 3) : s_law_handed [eS r, eS r'] = some (evL (handT r r')) := by
  have l1 : r.length ≤ line := Nat.le_trans h (by decide)
  have l2 : r'.length ≤ line := Nat.le_trans h' (by decide)
  have l3 : (wk r).length ≤ line := Nat.le_trans (wk_len h) (by decide)
  have l4 : (wk r').length ≤ line := Nat.le_trans (wk_len h') (by decide)
  have w : ∀ (r0 : Row) (e0 e1 e2 e3 e4 : Cell), lcGo (.one 4) (tOf (eB gEq (eB gIx (eVar 4) (eC (.int 1))) (eC (.str "waits")))) (eB gIx (eVar 4) (eC (.int 0))) [e0, e1, e2, e3, .no, e4] (r0.map eP) = some ((wk r0).map fun k => .int (k : Nat)) := fun r0 e0 e1 e2 e3 e4 =>
    lcWait r0 fun p => ⟨[e0, e1, e2, e3, .d (eP p), e4], by simp, by simp [eP], by simp [eP]⟩
  have n1 : ∀ (e0 e1 e2 e4 : Cell) (l l' : List Nat), lcGo (.one 5) (tOf (eB (gIn true) (eVar 5) (eVar 2))) (eTup (aCons (eC (.str "down")) (aCons (eVar 5) aNil))) [e0, e1, .d (inL l'), e2, e4, .no] (l.map fun k => .int (k : Nat)) = some (((l.filter fun k => !l'.contains k).map (fun k => (true, k))).map eE) := fun e0 e1 e2 e4 l l' =>
    lcNot true l l' fun k => ⟨[e0, e1, .d (inL l'), e2, e4, .d (.int (k : Nat))], by simp, by simp, by simp [eE]⟩
  have n2 : ∀ (e0 e1 e2 e4 : Cell) (l l' : List Nat), lcGo (.one 5) (tOf (eB (gIn true) (eVar 5) (eVar 3))) (eTup (aCons (eC (.str "up")) (aCons (eVar 5) aNil))) [e0, e1, e2, .d (inL l'), e4, .no] (l.map fun k => .int (k : Nat)) = some (((l.filter fun k => !l'.contains k).map (fun k => (false, k))).map eE) := fun e0 e1 e2 e4 l l' =>
    lcNot false l l' fun k => ⟨[e0, e1, e2, .d (inL l'), e4, .d (.int (k : Nat))], by simp, by simp, by simp [eE]⟩
  have a := hand_add h h'
  unfold s_law_handed runF b_law_handed
  simp [l1, l2, w, toInL, -List.map_map, -List.contains_eq_mem, l3, l4, n1, n2, a]
/-- handed_on -/
theorem hand_ok {r r' : Row} (h : r.length ≤ 3) (h' : r'.length ≤ 3) : s_handed_on [eS r, eS r'] = some (optE (handT r r').head?) := by
  have l1 : r.length ≤ line := Nat.le_trans h (by decide)
  have l2 : r'.length ≤ line := Nat.le_trans h' (by decide)
  have l3 : (wk r).length ≤ line := Nat.le_trans (wk_len h) (by decide)
  have l4 : (wk r').length ≤ line := Nat.le_trans (wk_len h') (by decide)
  have l5 : 2 ≤ line := by decide
  have w : ∀ (r0 : Row) (e0 e1 e2 e3 e4 e5 : Cell), lcGo (.many [6, 7]) (tOf (eB gEq (eVar 7) (eC (.str "waits")))) (eVar 6) [e0, e1, e2, e3, e4, e5, .no, .no] (r0.map eP) = some ((wk r0).map fun k => .int (k : Nat)) := fun r0 e0 e1 e2 e3 e4 e5 =>
    lcWait r0 fun p => ⟨[e0, e1, e2, e3, e4, e5, .d (.int p.1), .d (.str (if p.2 then "waits" else "sounds"))], by simp [eP], by simp, by simp⟩
  have n1 : ∀ (e0 e1 e3 e4 e5 e7 : Cell) (l l' : List Nat), lcGo (.one 6) (tOf (eB (gIn true) (eVar 6) (eVar 2))) (eTup (aCons (eC (.str "down")) (aCons (eVar 6) aNil))) [e0, e1, .d (inL l'), e3, e4, e5, .no, e7] (l.map fun k => .int (k : Nat)) = some (((l.filter fun k => !l'.contains k).map (fun k => (true, k))).map eE) := fun e0 e1 e3 e4 e5 e7 l l' =>
    lcNot true l l' fun k => ⟨[e0, e1, .d (inL l'), e3, e4, e5, .d (.int (k : Nat)), e7], by simp, by simp, by simp [eE]⟩
  have n2 : ∀ (e0 e1 e2 e4 e5 e7 : Cell) (l l' : List Nat), lcGo (.one 6) (tOf (eB (gIn true) (eVar 6) (eVar 3))) (eTup (aCons (eC (.str "up")) (aCons (eVar 6) aNil))) [e0, e1, e2, .d (inL l'), e4, e5, .no, e7] (l.map fun k => .int (k : Nat)) = some (((l.filter fun k => !l'.contains k).map (fun k => (false, k))).map eE) := fun e0 e1 e2 e4 e5 e7 l l' =>
    lcNot false l l' fun k => ⟨[e0, e1, e2, .d (inL l'), e4, e5, .d (.int (k : Nat)), e7], by simp, by simp, by simp [eE]⟩
  have a := hand_add h h'
  unfold s_handed_on runF b_handed_on
  cases hh : handT r r' with
  | nil => simp [l1, l2, w, toInL, -List.map_map, -List.contains_eq_mem, l3, l4, l5, n1, n2, a, hh]; rfl
  | cons e es =>
    have hx : gIx (evL (e :: es)) (.int 0) = some (eE e) := xIx0L _ _
    simp [l1, l2, w, toInL, -List.map_map, -List.contains_eq_mem, l3, l4, l5, n1, n2, a, hh, hx]
    rfl
theorem row_len {v cap : Nat} {r : Row} (hv : v = 1 ∨ v = 2) (hc : 0 < cap) (hc' : cap ≤ 3) (h : r ∈ rowsV v cap) : r.length ≤ 3 := by
  have q := rowOk hv hc hc' h
  rw [q.len]
  exact Nat.le_trans q.kl hc'
end SV

/-! M9: chain_step and _law_linked. -/
namespace SV
open PySem L2 DL
@[simp] theorem xApp (i : Nat) (f : Fx) (env : En) : gApp i f env = (f env).bind fun d => match env[i]? with
  | some (.ol xs) => if xs.length < line then some (.nx (env.set i (.ol (xs ++ [d])))) else none
  | _ => none := rfl
@[simp] theorem xFrz (i : Nat) (env : En) : gFrz i env = match env[i]? with
  | some (.ol xs) => some (.nx (env.set i (.d (.list xs))))
  | some (.od kvs) => some (.nx (env.set i (.d (.dict kvs))))
  | some (.d _) => some (.nx env)
  | _ => none := rfl
@[simp] theorem xZip (fs : Fa) (env : En) : iZip fs env = (fs env).bind fun ds => match ds with
  | [.tuple xs, .tuple ys] => if xs.length = ys.length then some (zipD xs ys) else none
  | _ => none := rfl
@[simp] theorem no_E (e : Ev) : isNo (eE e) = false := rfl
@[simp] theorem no_O (e : Option Ev) : isNo (optE e) = e.isNone := by cases e <;> rfl
theorem RowL {m : Mac} {cap : Nat} {r : Row} (ok : m.Ok) (hc : cap ≤ 3) (h : 0 < cap ∧ r ∈ rowsV m.v cap ∨ cap = 0 ∧ r = []) : r.length ≤ 3 := by
  rcases h with ⟨h0, h⟩ | ⟨_, rfl⟩
  · exact row_len ok.v h0 hc h
  · exact Nat.zero_le _
/-- what comes to a chain's machine -/
def Fit (ks : List Nat) (cap : Nat) (oe : Option Ev) : Prop := ∀ e, oe = some e → e.2 < 3 ∧ canK e ks = true ∧ (e.1 = true → ks.length < cap)
theorem Fit.none {ks : List Nat} {cap : Nat} : Fit ks cap none := fun _ h => nomatch h
theorem fit_next {m : Mac} {ms : List Mac} {cap : Nat} {ks : List Nat} {r : Row} {rs : List Row} {e : Ev} (ok : ChOk (m :: ms)) (hc : cap ≤ 3) (h : Val (m :: ms) cap ks (r :: rs)) (hf : Fit ks cap (some e)) :
    0 < cap ∧ Ena m.v cap r e ∧ Step m.v cap r e (stepT m r e) ∧ Fit (waitsT r) (cap - m.v) (handT r (stepT m r e)).head? ∧ (stepT m r e).length ≤ 3 := by
  obtain ⟨h1, h2, h3⟩ := h
  obtain ⟨f1, f2, f3⟩ := hf e rfl
  subst h2
  have okm := ok m List.mem_cons_self
  rcases h1 with ⟨h0, h1⟩ | ⟨h0, h1⟩
  · have en : Ena m.v cap r e := ⟨h1, f1, f2, f3⟩
    have st := step_ok okm h0 hc en
    refine ⟨h0, en, st, ?_, row_len okm.v h0 hc st.mem⟩
    have q := rowOk okm.v h0 hc st.mem
    rcases st.hand with ⟨g1, g2⟩ | ⟨e', g1, g2, g3, g4⟩
    · rw [g1]; exact Fit.none
    · rw [g1]
      intro e2 he2
      cases he2
      refine ⟨g2, g3, fun z => ?_⟩
      have := q.wl
      rw [g4] at this
      unfold appE at this
      rw [if_pos z, insN_len] at this
      omega
  · subst h0 h1
    exfalso
    obtain ⟨b, k⟩ := e
    cases b
    · simp [canK, keysT, sortN] at f2
    · exact Nat.not_lt_zero _ (f3 rfl)
theorem cstep_loop {a0 a1 : Cell} : ∀ (ms : List Mac) (rs : List Row) (cap : Nat) (ks : List Nat) (oe : Option Ev) (acc : List PyData) (c4 c5 c6 : Cell), ChOk ms → cap ≤ 3 → Val ms cap ks rs → Fit ks cap oe → acc.length + ms.length < line →
    ∃ x d4 d5 d6, forGo (.many [4, 5]) (gSeq (gSet 6 (cOf (eIf (tOf (eB gIsN (eVar 2) (eC .none))) (eVar 5) (eB gIx (eCall (gN 3 s_done) (aCons (eVar 4) (aCons (eVar 5) (aCons (eVar 2) aNil)))) (eC (.int 0)))))) (gSeq (gSet 2 (cOf (eCall (gN 2 s_handed_on) (aCons (eVar 5) (aCons (eVar 6) aNil))))) (gApp 3 (eVar 6))))
      (zipD (ms.map eM) (rs.map eS)) [a0, a1, .d (optE oe), .ol acc, c4, c5, c6] = some (.nx [a0, a1, x, .ol (acc ++ (linkT ms rs oe).map eS), d4, d5, d6])
  | [], [], _, _, oe, acc, c4, c5, c6, _, _, _, _, _ => ⟨.d (optE oe), c4, c5, c6, by simp [zipD, forGo, linkT]⟩
  | [], _ :: _, _, _, _, _, _, _, _, _, _, h, _, _ => h.elim
  | _ :: _, [], _, _, _, _, _, _, _, _, _, h, _, _ => h.elim
  | m :: ms, r :: rs, cap, ks, none, acc, c4, c5, c6, ok, hc, h, hf, ha => by
    have hr := RowL (ok m List.mem_cons_self) hc h.1
    have hn : handT r r = [] := by
      unfold handT
      have : ((wk r).filter fun k => !(wk r).contains k) = [] := by
        rw [List.filter_eq_nil_iff]
        intro k hk
        simp [hk]
      rw [this]; rfl
    have hh := hand_ok hr hr
    rw [hn] at hh
    obtain ⟨x, d4, d5, d6, ih⟩ := cstep_loop (a0 := a0) (a1 := a1) ms rs (cap - m.v) (waitsT r) none (acc ++ [eS r]) (.d (eM m)) (.d (eS r)) (.d (eS r)) (fun y hy => ok y (List.mem_cons_of_mem _ hy)) (by omega) h.2.2 Fit.none (by simp at ha ⊢; omega)
    refine ⟨x, d4, d5, d6, ?_⟩
    have hl : acc.length < line := by omega
    rw [List.map_cons, List.map_cons, zipD, forGo]
    simp [hh, hl]
    exact ih.trans (by simp [linkT])
  | m :: ms, r :: rs, cap, ks, some e, acc, c4, c5, c6, ok, hc, h, hf, ha => by
    have hr := RowL (ok m List.mem_cons_self) hc h.1
    obtain ⟨h0, en, st, fn, hr'⟩ := fit_next ok hc h hf
    have okm := ok m List.mem_cons_self
    obtain ⟨ds, hd⟩ := done_ok (ena_can okm h0 hc en)
    have hh := hand_ok hr hr'
    have hx : gIx (.tuple [eS (stepT m r e), .tuple ds]) (.int 0) = some (eS (stepT m r e)) := xIx0T _ _
    have v' : Val ms (cap - m.v) (waitsT r) rs := h.2.2
    obtain ⟨x, d4, d5, d6, ih⟩ := cstep_loop (a0 := a0) (a1 := a1) ms rs (cap - m.v) (waitsT r) (handT r (stepT m r e)).head? (acc ++ [eS (stepT m r e)]) (.d (eM m)) (.d (eS r)) (.d (eS (stepT m r e))) (fun y hy => ok y (List.mem_cons_of_mem _ hy)) (by omega) v' fn (by simp at ha ⊢; omega)
    refine ⟨x, d4, d5, d6, ?_⟩
    have hl : acc.length < line := by omega
    rw [List.map_cons, List.map_cons, zipD, forGo]
    simp [hh, hl, hd, hx, show optE (some e) = eE e from rfl]
    exact ih.trans (by simp [linkT])
theorem chain_step_ok {ms : List Mac} {rs : List Row} {ks : List Nat} {e : Ev} (ok : ChOk ms) (hl : ms.length ≤ 3) (h : Val ms 3 ks rs) (he : e.2 < 3) (hk : canK e ks = true) (hr : e.1 = true → ks.length < 3) :
    s_chain_step [eC' ms, eSt rs, eE e] = some (eSt (linkT ms rs (some e))) := by
  have hz : ms.length = rs.length := h.len
  obtain ⟨x, d4, d5, d6, ih⟩ := cstep_loop (a0 := .d (eC' ms)) (a1 := .d (eSt rs)) ms rs 3 ks (some e) [] .no .no .no ok (Nat.le_refl _) h (fun e' h' => by cases h'; exact ⟨he, hk, hr⟩) (Nat.lt_of_le_of_lt (show [].length + ms.length ≤ 3 by simpa using hl) (by decide))
  unfold s_chain_step runF b_chain_step
  simp [eC', eSt, hz] at ih ⊢
  rw [show eE e = optE (some e) from rfl, ih]
  simp
theorem hand_one {m : Mac} {cap : Nat} {r : Row} {e : Ev} {r' : Row} (st : Step m.v cap r e r') : handT r r' = (handT r r').head?.toList := by
  rcases st.hand with ⟨g1, _⟩ | ⟨e', g1, _⟩ <;> rw [g1] <;> rfl
@[simp] theorem seq_ev (l : List Ev) : seqOf (evL l) = some (l.map eE) := rfl
theorem link_loop {a0 a1 a2 : Cell} : ∀ (ms : List Mac) (rs : List Row) (cap : Nat) (ks : List Nat) (oe : Option Ev) (acc : List PyData) (c5 c6 c7 c8 : Cell), ChOk ms → cap ≤ 3 → Val ms cap ks rs → Fit ks cap oe → acc.length + ms.length < line →
    ∃ x d5 d6 d7 d8, forGo (.many [5, 6]) (gSeq (gSet 7 (cOf (eVar 6))) (gSeq (gFor (iSeq (eVar 4)) (.one 8) (gSet 7 (cOf (eB gIx (eCall (gN 3 s_law_stepped) (aCons (eVar 5) (aCons (eVar 7) (aCons (eVar 8) aNil)))) (eC (.int 0)))))) (gSeq (gSet 4 (cOf (eCall (gN 2 s_law_handed) (aCons (eVar 6) (aCons (eVar 7) aNil))))) (gApp 3 (eVar 7)))))
      (zipD (ms.map eM) (rs.map eS)) [a0, a1, a2, .ol acc, .d (evL oe.toList), c5, c6, c7, c8] = some (.nx [a0, a1, a2, .ol (acc ++ (linkT ms rs oe).map eS), x, d5, d6, d7, d8])
  | [], [], _, _, oe, acc, c5, c6, c7, c8, _, _, _, _, _ => ⟨.d (evL oe.toList), c5, c6, c7, c8, by simp [zipD, forGo, linkT]⟩
  | [], _ :: _, _, _, _, _, _, _, _, _, _, _, h, _, _ => h.elim
  | _ :: _, [], _, _, _, _, _, _, _, _, _, _, h, _, _ => h.elim
  | m :: ms, r :: rs, cap, ks, none, acc, c5, c6, c7, c8, ok, hc, h, hf, ha => by
    have hr := RowL (ok m List.mem_cons_self) hc h.1
    have hn : handT r r = [] := by
      unfold handT
      have : ((wk r).filter fun k => !(wk r).contains k) = [] := by
        rw [List.filter_eq_nil_iff]
        intro k hk
        simp [hk]
      rw [this]; rfl
    have hh := lawHand_ok hr hr
    rw [hn] at hh
    obtain ⟨x, d5, d6, d7, d8, ih⟩ := link_loop (a0 := a0) (a1 := a1) (a2 := a2) ms rs (cap - m.v) (waitsT r) none (acc ++ [eS r]) (.d (eM m)) (.d (eS r)) (.d (eS r)) c8 (fun y hy => ok y (List.mem_cons_of_mem _ hy)) (by omega) h.2.2 Fit.none (by simp at ha ⊢; omega)
    refine ⟨x, d5, d6, d7, d8, ?_⟩
    have hl : acc.length < line := by omega
    rw [List.map_cons, List.map_cons, zipD, forGo]
    simp [hh, hl, forGo]
    exact ih.trans (by simp [linkT])
  | m :: ms, r :: rs, cap, ks, some e, acc, c5, c6, c7, c8, ok, hc, h, hf, ha => by
    have hr := RowL (ok m List.mem_cons_self) hc h.1
    obtain ⟨h0, en, st, fn, hr'⟩ := fit_next ok hc h hf
    have okm := ok m List.mem_cons_self
    obtain ⟨ds, hd⟩ := stepped_ok (ena_can okm h0 hc en)
    have hh := lawHand_ok hr hr'
    rw [hand_one st] at hh
    have hx : gIx (.tuple [eS (stepT m r e), .tuple ds]) (.int 0) = some (eS (stepT m r e)) := xIx0T _ _
    have v' : Val ms (cap - m.v) (waitsT r) rs := h.2.2
    obtain ⟨x, d5, d6, d7, d8, ih⟩ := link_loop (a0 := a0) (a1 := a1) (a2 := a2) ms rs (cap - m.v) (waitsT r) (handT r (stepT m r e)).head? (acc ++ [eS (stepT m r e)]) (.d (eM m)) (.d (eS r)) (.d (eS (stepT m r e))) (.d (eE e)) (fun y hy => ok y (List.mem_cons_of_mem _ hy)) (by omega) v' fn (by simp at ha ⊢; omega)
    refine ⟨x, d5, d6, d7, d8, ?_⟩
    have hl : acc.length < line := by omega
    rw [List.map_cons, List.map_cons, zipD, forGo]
    simp [hh, hl, hd, hx, forGo]
    exact ih.trans (by simp [linkT])
theorem linked_ok {ms : List Mac} {rs : List Row} {ks : List Nat} {e : Ev} (ok : ChOk ms) (hl : ms.length ≤ 3) (h : Val ms 3 ks rs) (he : e.2 < 3) (hk : canK e ks = true) (hr : e.1 = true → ks.length < 3) :
    s_law_linked [eC' ms, eSt rs, eE e] = some (eSt (linkT ms rs (some e))) := by
  have hz : ms.length = rs.length := h.len
  obtain ⟨x, d5, d6, d7, d8, ih⟩ := link_loop (a0 := .d (eC' ms)) (a1 := .d (eSt rs)) (a2 := .d (eE e)) ms rs 3 ks (some e) [] .no .no .no .no ok (Nat.le_refl _) h (fun e' h' => by cases h'; exact ⟨he, hk, hr⟩) (Nat.lt_of_le_of_lt (show [].length + ms.length ≤ 3 by simpa using hl) (by decide))
  rw [show evL (some e).toList = .list [eE e] from rfl] at ih
  unfold s_law_linked runF b_law_linked
  simp [eC', eSt, hz] at ih ⊢
  rw [ih]
  simp
end SV

/-! M10: sounds of chains, the checks at the doors, events. -/
namespace SV
open PySem L2 DL
def outT (rs : List Row) : List Int := sortI (rs.flatMap soundI)
@[simp] theorem intsOf_map (l : List Int) : intsOf (l.map .int) = some l := by
  induction l with
  | nil => rfl
  | cons a l ih => rw [List.map_cons, intsOf, ih]; rfl
@[simp] theorem xSorted (l : List Int) : gSorted [.list (l.map .int)] = some (.list ((sortI l).map .int)) := by
  show (intsOf (l.map .int)).bind _ = _
  rw [intsOf_map]; rfl
@[simp] theorem seq_snd (l : List Int) : seqOf (sndD l) = some (l.map .int) := rfl
@[simp] theorem list_snd (l : List Int) : gList [sndD l] = some (.list (l.map .int)) := rfl
@[simp] theorem xLc2 (fx : Fa) (vs : List Nat) (t : Tg) (ft : Ft) (fx1 : Fa) (vs1 : List Nat) (t1 : Tg) (ft1 : Ft) (fe : Fx) (env : En) : eLc2 fx vs t ft fx1 vs1 t1 ft1 fe env = (fx env).bind fun xs => (lc2Go t ft fx1 vs1 t1 ft1 fe (wipeE env vs) xs).bind fun r => if r.length ≤ line then some (.list r) else none := rfl
theorem soundI_len (r : Row) : (soundI r).length ≤ r.length := by
  unfold soundI
  rw [(sortI_perm _).length_eq, List.length_map]
  exact List.length_filter_le _ _
/-- rows of the walk -/
def AllR (rs : List Row) : Prop := ∀ r ∈ rs, r ∈ rows ∧ r.length ≤ 3
theorem flat_len : ∀ (rs : List Row), AllR rs → (rs.flatMap soundI).length ≤ 3 * rs.length
  | [], _ => Nat.zero_le _
  | r :: rs, h => by
    have ih := flat_len rs fun x hx => h x (List.mem_cons_of_mem _ hx)
    have h1 := soundI_len r
    have h2 := (h r List.mem_cons_self).2
    rw [List.flatMap_cons, List.length_append, List.length_cons]
    omega
theorem lcId (l : List Int) (e0 e1 : Cell) : lcGo (.one 2) ftT (eVar 2) [e0, e1, .no] (l.map .int) = some (l.map .int) := by
  rw [lcGo_map PyData.int (fun _ => true) PyData.int l]
  · rw [List.filter_eq_self.mpr (fun _ _ => rfl)]
  · intro p _
    exact ⟨[e0, e1, .d (.int p)], by simp, by simp, by simp⟩
theorem lc2Sound (e0 : Cell) : ∀ rs : List Row, AllR rs → lc2Go (.one 1) ftT (iSeq (eCall (gN 1 s_sound_of) (aCons (eVar 1) aNil))) [2] (.one 2) ftT (eVar 2) [e0, .no, .no] (rs.map eS) = some ((rs.flatMap soundI).map .int)
  | [], _ => rfl
  | r :: rs, h => by
    have ih := lc2Sound e0 rs fun x hx => h x (List.mem_cons_of_mem _ hx)
    have s := (sound_ok (h r List.mem_cons_self).1).1
    rw [List.map_cons, lc2Go]
    simp [s, lcId, ih]
theorem csound_ok {rs : List Row} (h : AllR rs) (hl : rs.length ≤ 3) : s_chain_sound [eSt rs] = some (sndD (outT rs)) := by
  have f := flat_len rs h
  have f' : (rs.flatMap soundI).length ≤ line := Nat.le_trans f (Nat.le_trans (Nat.mul_le_mul_left 3 hl) (by decide))
  unfold s_chain_sound runF b_chain_sound
  simp [eSt, lc2Sound _ _ h, -List.map_flatMap, f', -List.length_flatMap]
  rfl
theorem lsound_loop {e0 : Cell} : ∀ (rs : List Row) (acc : List Int) (c : Cell), AllR rs → acc.length + 3 * rs.length ≤ line →
    ∃ d, forGo (.one 2) (gSet 1 (cOf (eB gAdd (eVar 1) (eCall gList (aCons (eCall (gN 1 s_law_sound) (aCons (eVar 2) aNil)) aNil))))) (rs.map eS) [e0, .d (.list (acc.map .int)), c] = some (.nx [e0, .d (.list ((acc ++ rs.flatMap soundI).map .int)), d])
  | [], acc, c, _, _ => ⟨c, by simp [forGo]⟩
  | r :: rs, acc, c, h, hl => by
    have s := (sound_ok (h r List.mem_cons_self).1).2
    have h1 := soundI_len r
    have h2 := (h r List.mem_cons_self).2
    have h3 : acc.length + (soundI r).length ≤ line := by simp at hl; omega
    obtain ⟨d, ih⟩ := lsound_loop (e0 := e0) rs (acc ++ soundI r) (.d (eS r)) (fun x hx => h x (List.mem_cons_of_mem _ hx)) (by simp at hl ⊢; omega)
    refine ⟨d, ?_⟩
    have a := gAddL_ok (acc.map .int) ((soundI r).map .int) (by simpa using h3)
    rw [← List.map_append] at a
    rw [List.map_cons, forGo]
    simp only [xone, List.set_cons_zero, List.set_cons_succ, Option.bind_some, xSet, xOf, xB, xVar, xCall, xCons, xNil, xgN1, List.getElem?_cons_zero, List.getElem?_cons_succ, s, list_snd, a]
    rw [ih, List.flatMap_cons, List.append_assoc]
theorem lsound_ok {rs : List Row} (h : AllR rs) (hl : rs.length ≤ 3) : s_law_chain_sound [eSt rs] = some (sndD (outT rs)) := by
  obtain ⟨d, ih⟩ := lsound_loop (e0 := .d (eSt rs)) rs [] .no h (Nat.le_trans (show [].length + 3 * rs.length ≤ 9 by simp; omega) (by decide))
  unfold s_law_chain_sound runF b_law_chain_sound
  simp [eSt, -List.map_flatMap] at ih ⊢
  rw [ih]
  simp [-List.map_flatMap]
  rfl
theorem lay_snd (l : List Int) : Lay 1 (sndD l) := .tuple fun x hx => by
  obtain ⟨k, _, rfl⟩ := List.mem_map.mp hx
  exact .int _
theorem eqv_ints : ∀ l l' : List Int, PyData.eqvAll (l.map .int) (l'.map .int) = (l == l')
  | [], [] => by rw [List.map_nil, PyData.eqvAll]; rfl
  | [], _ :: _ => by rw [List.map_nil, List.map_cons, PyData.eqvAll]; rfl
  | _ :: _, [] => by rw [List.map_nil, List.map_cons, PyData.eqvAll]; rfl
  | a :: l, b :: l' => by
    rw [List.map_cons, List.map_cons, PyData.eqvAll, eqv_ints l l', eqv_i]; rfl
@[simp] theorem ne_snd (l l' : List Int) : gNe (sndD l) (sndD l') = some (.bool (!(l == l'))) := by
  unfold gNe
  rw [(lay_snd l).sh (by decide), (lay_snd l').sh (by decide)]
  show some (PyData.bool (!PyData.eqv (.tuple _) (.tuple _))) = _
  rw [PyData.eqv, eqv_ints]
/-! the checks at the doors -/
def crs : List (List Nat) := [[]] ++ ([0, 1, 2, 3, 4, 5, 6, 7].flatMap fun a => [a] :: ([0, 1, 2, 3, 4, 5, 6, 7].filter (· != a)).map fun b => [a, b])
theorem crs_mem {m : Mac} (ok : m.Ok) : m.cr ∈ crs := by
  have h1 := ok.len
  have h2 := ok.nd
  have h3 := ok.lt
  unfold crs
  match m.cr, h1, h2, h3 with
  | [], _, _, _ => simp
  | [a], _, _, h3 =>
    refine List.mem_append_right _ (List.mem_flatMap.mpr ⟨a, m8 (h3 a List.mem_cons_self), List.mem_cons_self⟩)
  | [a, b], _, h2, h3 =>
    refine List.mem_append_right _ (List.mem_flatMap.mpr ⟨a, m8 (h3 a List.mem_cons_self), List.mem_cons_of_mem _ (List.mem_map.mpr ⟨b, List.mem_filter.mpr ⟨m8 (h3 b (by simp)), ?_⟩, rfl⟩)⟩)
    simp at h2 ⊢
    exact fun z => h2 z.symm
theorem f_crit : (crs.all fun cr => [0, 1, 2, 3, 4].all fun en => sameO (s_criteria_fault [eCr cr en]) .none) = true := by kernel_rfl
theorem crit_ok {m : Mac} (ok : m.Ok) : s_criteria_fault [eCr m.cr m.en] = some .none := sameO_eq (all_at (all_at f_crit (crs_mem ok)) (m5 ok.en))
theorem f_whole : ([1, 2].all fun v => sameO (s_is_whole [.int (v : Nat), .int 1, c_MOST_VOICES]) (.bool true)) = true := by kernel_rfl
theorem f_ret : ([0, 1, 2, 3, 4].all fun r => sameO (s_is_word_of [rStr r, c_RETURNS]) (.bool true)) = true := by kernel_rfl
@[simp] theorem xIsi (T : String) (fa : Fx) (env : En) : eIsi T fa env = (fa env).bind fun x => match x with
  | .dict _ => none
  | x => some (.bool (isD T x)) := rfl
@[simp] theorem xIfW (i : Nat) (f : Fx) (g g' : Fs) (env : En) : gIfW i f g g' env = (f env).bind fun d => if isNo d = true then g' (env.set i (.d d)) else g (env.set i (.d d)) := rfl
@[simp] theorem isD_t (xs : List PyData) : isD "tuple" (.tuple xs) = true := by
  unfold isD tyOf
  rw [if_pos rfl]
theorem mach_ok {m : Mac} (ok : m.Ok) : s_need_machine [eM m] = some (eM m) := by
  have h1 := sameO_eq (all_at f_whole (m2 ok.v))
  have h2 := sameO_eq (all_at f_ret (m5 ok.ret))
  have h3 := crit_ok ok
  have h4 : gNe (.int 3) (.int 3) = some (.bool false) := by kernel_rfl
  have h : s_machine_fault [eM m] = some .none := by
    unfold s_machine_fault runF b_machine_fault eM eM0
    simp [h1, h2, h3, -xNeI, h4]
  unfold s_need_machine runF b_need_machine
  simp [h]
end SV

/-! M11: doors, boards, keys of the search. -/
namespace SV
open PySem L2 DL
theorem nc_loop : ∀ (ms : List Mac) (e0 e1 : Cell), ChOk ms → ∃ d, forGo (.one 1) (gDrop (eCall (gN 1 s_need_machine) (aCons (eVar 1) aNil))) (ms.map eM) [e0, e1] = some (.nx [e0, d])
  | [], e0, e1, _ => ⟨e1, rfl⟩
  | m :: ms, e0, e1, h => by
    obtain ⟨d, ih⟩ := nc_loop ms e0 (.d (eM m)) fun x hx => h x (List.mem_cons_of_mem _ hx)
    refine ⟨d, ?_⟩
    rw [List.map_cons, forGo]
    simp [mach_ok (h m List.mem_cons_self)]
    exact ih
@[simp] theorem xChain (p p' : Int → Int → Bool) (fa fb fc : Fx) (env : En) : eChain p p' fa fb fc env = (fa env).bind fun x => (fb env).bind fun y => (gCmp p x y).bind fun z => (boolOf z).bind fun k => if k = true then (fc env).bind fun w => gCmp p' y w else some (.bool false) := rfl
@[simp] theorem xCmpI (p : Int → Int → Bool) (i j : Int) : gCmp p (.int i) (.int j) = some (.bool (p i j)) := rfl
theorem chain_need {ms : List Mac} (ok : ChOk ms) (h1 : 1 ≤ ms.length) (h3 : ms.length ≤ 3) : s_need_chain [eC' ms] = some (eC' ms) := by
  obtain ⟨d, ih⟩ := nc_loop ms (.d (eC' ms)) .no ok
  unfold s_need_chain runF b_need_chain
  have g1 : (1 : Int) ≤ (ms.length : Int) := by omega
  have g3 : (ms.length : Int) ≤ 3 := by omega
  simp [eC', c_MOST_LINKS, g1, g3] at ih ⊢
  rw [ih]
  simp
def evW (w : Nat) : List Ev := (List.range w).map (fun k => (true, k)) ++ (List.range w).map (fun k => (false, k))
theorem f_ev : ([1, 2, 3].all fun w => sameO (s_all_events [.int (w : Nat), .bool false]) (evL (evW w)) && (sameO (s_law_events [.int (w : Nat), .bool false]) (evL (evW w)) && sameO (s_need_board [.int (w : Nat), .bool false]) .none)) = true := by kernel_rfl
theorem ev_ok {w : Nat} (h : 0 < w) (h' : w ≤ 3) : s_all_events [.int (w : Nat), .bool false] = some (evL (evW w)) ∧ s_law_events [.int (w : Nat), .bool false] = some (evL (evW w)) ∧ s_need_board [.int (w : Nat), .bool false] = some .none := by
  have f := all_at f_ev (mc h h')
  rw [Bool.and_eq_true, Bool.and_eq_true] at f
  exact ⟨sameO_eq f.1, sameO_eq f.2.1, sameO_eq f.2.2⟩
theorem evW_lt {w : Nat} {e : Ev} (h : e ∈ evW w) : e.2 < w := by
  unfold evW at h
  rcases List.mem_append.mp h with h | h <;> obtain ⟨k, hk, rfl⟩ := List.mem_map.mp h <;> exact List.mem_range.mp hk
/-! keys -/
abbrev J := List Row × List Row
def eJ (p : J) : PyData := .tuple [eSt p.1, eSt p.2]
def nP (p : Nat × Bool) : NestedKey := .tup [.num p.1, .text (if p.2 then "waits" else "sounds")]
def nS (r : Row) : NestedKey := .tup [.num 0, .tup (r.map nP)]
def nSt (rs : List Row) : NestedKey := .tup (rs.map nS)
def nJ (p : J) : NestedKey := .tup [nSt p.1, nSt p.2]
theorem nkAll_map {α : Type} {f : α → PyData} {g : α → NestedKey} (h : ∀ x, nkOf (f x) = some (g x)) : ∀ l : List α, nkAll (l.map f) = some (l.map g)
  | [] => by rw [List.map_nil, nkAll]; rfl
  | x :: l => by rw [List.map_cons, nkAll, h, nkAll_map h l]; rfl
theorem nk_P (p : Nat × Bool) : nkOf (eP p) = some (nP p) := by
  unfold eP nP
  rw [nkOf, nkAll, nkAll, nkAll, nkOf, nkOf]
  cases p.2 <;> rfl
theorem nk_S (r : Row) : nkOf (eS r) = some (nS r) := by
  unfold eS nS eR
  rw [nkOf, nkAll, nkAll, nkAll, nkOf, nkOf, nkAll_map nk_P]; rfl
theorem nk_St (rs : List Row) : nkOf (eSt rs) = some (nSt rs) := by
  unfold eSt nSt
  rw [nkOf, nkAll_map nk_S]; rfl
theorem nk_J (p : J) : nkOf (eJ p) = some (nJ p) := by
  unfold eJ nJ
  rw [nkOf, nkAll, nkAll, nkAll, nk_St, nk_St]; rfl
theorem map_inj' {α β : Type} {f : α → β} (h : ∀ x y, f x = f y → x = y) : ∀ l l' : List α, l.map f = l'.map f → l = l'
  | [], [], _ => rfl
  | [], _ :: _, e => by cases e
  | _ :: _, [], e => by cases e
  | a :: l, b :: l', e => by
    rw [List.map_cons, List.map_cons] at e
    obtain ⟨e1, e2⟩ := List.cons.inj e
    rw [h _ _ e1, map_inj' h l l' e2]
theorem nP_inj (p q : Nat × Bool) (h : nP p = nP q) : p = q := by
  obtain ⟨a, b⟩ := p
  obtain ⟨c, d⟩ := q
  unfold nP at h
  injection h with h
  injection h with h1 h2
  injection h2 with h2 _
  injection h1 with h1
  injection h2 with h2
  have e1 : a = c := by have h1 : ((a : Nat) : Int) = ((c : Nat) : Int) := h1; omega
  have e2 : b = d := by
    have n : ¬ ((Str.ofString "waits") = (Str.ofString "sounds")) := by
      intro z
      have : (Str.ofString "waits" == Str.ofString "sounds") = false := by kernel_rfl
      rw [z] at this
      simp at this
    cases b <;> cases d <;> first | rfl | (exfalso; revert h2; simp; intro z; first | exact n z | exact n z.symm)
  rw [e1, e2]
theorem nS_inj (p q : Row) (h : nS p = nS q) : p = q := by
  unfold nS at h
  injection h with h
  injection h with h1 h2
  injection h2 with h2 _
  injection h2 with h2
  exact map_inj' nP_inj _ _ h2
theorem nSt_inj (p q : List Row) (h : nSt p = nSt q) : p = q := by
  unfold nSt at h
  injection h with h
  exact map_inj' nS_inj _ _ h
theorem nJ_inj (p q : J) (h : nJ p = nJ q) : p = q := by
  unfold nJ at h
  injection h with h
  injection h with h1 h2
  injection h2 with h2 _
  obtain ⟨a, b⟩ := p
  obtain ⟨c, d⟩ := q
  rw [nSt_inj a c h1, nSt_inj b d h2]
theorem depthAll_le {n : Nat} : ∀ {l : List NestedKey}, (∀ x ∈ l, x.depth ≤ n) → NestedKey.depthAll l ≤ n
  | [], _ => by rw [NestedKey.depthAll]; exact Nat.zero_le _
  | x :: l, h => by
    rw [NestedKey.depthAll]
    exact Nat.max_le.mpr ⟨h x List.mem_cons_self, depthAll_le fun y hy => h y (List.mem_cons_of_mem _ hy)⟩
theorem depth_tup {n : Nat} {l : List NestedKey} (h : ∀ x ∈ l, x.depth ≤ n) : (NestedKey.tup l).depth ≤ n + 1 := by
  rw [NestedKey.depth]
  have := depthAll_le h
  omega
theorem depth_J (p : J) : (nJ p).depth ≤ 5 := by
  have h0 : ∀ i, (NestedKey.num i).depth ≤ 1 := fun i => by rw [NestedKey.depth]; omega
  have d1 : ∀ q, (nP q).depth ≤ 1 := fun q => depth_tup fun x hx => by
    rcases List.mem_cons.mp hx with rfl | hx
    · rw [NestedKey.depth]; omega
    · rcases List.mem_cons.mp hx with rfl | hx
      · rw [NestedKey.depth]; omega
      · cases hx
  have d2 : ∀ r, (nS r).depth ≤ 3 := fun r => depth_tup fun x hx => by
    rcases List.mem_cons.mp hx with rfl | hx
    · rw [NestedKey.depth]; omega
    · rcases List.mem_cons.mp hx with rfl | hx
      · exact depth_tup fun y hy => by
          obtain ⟨q, _, rfl⟩ := List.mem_map.mp hy
          exact d1 q
      · cases hx
  have d3 : ∀ rs, (nSt rs).depth ≤ 4 := fun rs => depth_tup fun y hy => by
    obtain ⟨q, _, rfl⟩ := List.mem_map.mp hy
    exact d2 q
  exact depth_tup fun x hx => by
    rcases List.mem_cons.mp hx with rfl | hx
    · exact d3 _
    · rcases List.mem_cons.mp hx with rfl | hx
      · exact d3 _
      · cases hx
@[simp] theorem okKey_J (p : J) : okKey (eJ p) = some (nJ p) := by
  show (nkOf (eJ p)).bind _ = _
  rw [nk_J, Option.bind_some, if_pos (Nat.le_trans (depth_J p) (by decide))]
/-- a dict of pairs of states -/
def dct {α : Type} (val : α → PyData) (l : List (J × α)) : List (PyData × PyData) := l.map fun q => (eJ q.1, val q.2)
theorem lk_dct {α : Type} (val : α → PyData) (p : J) : ∀ l : List (J × α), lkD (dct val l) (nJ p) = (l.find? fun q => decide (q.1 = p)).map fun q => val q.2
  | [] => rfl
  | q :: l => by
    have ih := lk_dct val p l
    unfold lkD dct at ih ⊢
    rw [List.map_cons, List.find?_cons, List.find?_cons]
    by_cases h : q.1 = p
    · subst h
      rw [nk_J]; simp
    · have : ¬ (nkOf (eJ q.1) = some (nJ p)) := by
        rw [nk_J]
        intro z
        exact h (nJ_inj _ _ (Option.some.inj z))
      simp only [h, this, decide_false]
      exact ih
theorem lk_some {α : Type} (val : α → PyData) (p : J) (l : List (J × α)) : (lkD (dct val l) (nJ p)).isSome = (l.map (·.1)).contains p := by
  rw [lk_dct, Option.isSome_map]
  induction l with
  | nil => rfl
  | cons q l ih =>
    rw [List.find?_cons, List.map_cons, List.contains_cons]
    by_cases h : q.1 = p
    · subst h; simp
    · have h' : ¬ (p = q.1) := fun z => h z.symm
      simp only [h, decide_false]
      rw [ih, beq_eq_false_iff_ne.mpr h', Bool.false_or]
end SV

/-! M12: how many states there are; typed search. -/
namespace SV
open PySem L2 DL
theorem nd_le {α : Type} [DecidableEq α] : ∀ (l m : List α), l.Nodup → (∀ x ∈ l, x ∈ m) → l.length ≤ m.length
  | [], _, _, _ => Nat.zero_le _
  | a :: l, m, nd, h => by
    have ha := h a List.mem_cons_self
    have nd' := List.nodup_cons.mp nd
    have ih := nd_le l (m.erase a) nd'.2 fun x hx => (List.mem_erase_of_ne (fun z : x = a => nd'.1 (by rw [← z]; exact hx))).mpr (h x (List.mem_cons_of_mem _ hx))
    rw [List.length_erase_of_mem ha] at ih
    have : 0 < m.length := List.length_pos_of_mem ha
    rw [List.length_cons]
    omega
def U : List Nat → Nat → List Nat → List (List Row)
  | [], _, _ => [[]]
  | v :: vs, cap, ks => ((rowsV v cap).filter fun r => decide (keysT r = ks)).flatMap fun r => (U vs (cap - v) (waitsT r)).map (r :: ·)
def allK : List (List Nat) := [[], [0], [1], [2], [0, 1], [0, 2], [1, 2], [0, 1, 2]]
def UU (vs : List Nat) : List (List Row) := allK.flatMap (U vs 3)
def vecs : List (List Nat) := [[1], [2]] ++ ([1, 2].flatMap fun a => [1, 2].map fun b => [a, b]) ++ ([1, 2].flatMap fun a => [1, 2].flatMap fun b => [1, 2].map fun c => [a, b, c])
theorem f_uu : (vecs.all fun vs => decide ((UU vs).length ≤ 130)) = true := by decide +kernel
theorem f_keys : ([1, 2].all fun v => (rowsV v 3).all fun r => allK.contains (keysT r)) = true := by decide +kernel
theorem f_nil : ([1, 2].all fun v => (rowsV v 0).contains []) = true := by decide +kernel
theorem Val.inU : ∀ {ms : List Mac} {cap : Nat} {ks : List Nat} {rs : List Row}, ChOk ms → Val ms cap ks rs → rs ∈ U (ms.map (·.v)) cap ks
  | [], _, _, [], _, _ => List.mem_cons_self
  | [], _, _, _ :: _, _, h => h.elim
  | _ :: _, _, _, [], _, h => h.elim
  | m :: ms, cap, ks, r :: rs, ok, h => by
    obtain ⟨h1, h2, h3⟩ := h
    have ih := Val.inU (fun x hx => ok x (List.mem_cons_of_mem _ hx)) h3
    have okm := ok m List.mem_cons_self
    refine List.mem_flatMap.mpr ⟨r, List.mem_filter.mpr ⟨?_, decide_eq_true h2⟩, List.mem_map.mpr ⟨rs, ih, rfl⟩⟩
    rcases h1 with ⟨_, h1⟩ | ⟨rfl, rfl⟩
    · exact h1
    · simpa using all_at f_nil (m2 okm.v)
structure Ch (ms : List Mac) : Prop where
  ok : ChOk ms
  h1 : 1 ≤ ms.length
  h3 : ms.length ≤ 3
theorem Ch.vec {ms : List Mac} (h : Ch ms) : ms.map (·.v) ∈ vecs := by
  obtain ⟨ok, h1, h3⟩ := h
  match ms, ok, h1, h3 with
  | [a], ok, _, _ =>
    rcases (ok a (by simp)).v with e | e <;> simp [vecs, e]
  | [a, b], ok, _, _ =>
    rcases (ok a (by simp)).v with e | e <;> rcases (ok b (by simp)).v with e' | e' <;> simp [vecs, e, e']
  | [a, b, c], ok, _, _ =>
    rcases (ok a (by simp)).v with e | e <;> rcases (ok b (by simp)).v with e' | e' <;> rcases (ok c (by simp)).v with e'' | e'' <;> simp [vecs, e, e', e'']
theorem Val.keys {ms : List Mac} {ks : List Nat} {rs : List Row} (h : Ch ms) (v : Val ms 3 ks rs) : ks ∈ allK := by
  match ms, rs, v, h.h1 with
  | m :: ms, r :: rs, v, _ =>
    obtain ⟨h1, h2, _⟩ := v
    subst h2
    rcases h1 with ⟨_, h1⟩ | ⟨z, _⟩
    · simpa using all_at (all_at f_keys (m2 (h.ok m List.mem_cons_self).v)) h1
    · cases z
theorem Val.inUU {ms : List Mac} {ks : List Nat} {rs : List Row} (h : Ch ms) (v : Val ms 3 ks rs) : rs ∈ UU (ms.map (·.v)) := List.mem_flatMap.mpr ⟨ks, v.keys h, v.inU h.ok⟩
theorem Ch.small {ms : List Mac} (h : Ch ms) : (UU (ms.map (·.v))).length ≤ 130 := of_decide_eq_true (all_at f_uu h.vec)
def prod {α β : Type} : List α → List β → List (α × β)
  | [], _ => []
  | a :: l, m => m.map (fun b => (a, b)) ++ prod l m
theorem prod_mem {α β : Type} {a : α} {b : β} {m : List β} (hb : b ∈ m) : ∀ {l : List α}, a ∈ l → (a, b) ∈ prod l m
  | c :: l, h => by
    rcases List.mem_cons.mp h with rfl | h
    · exact List.mem_append_left _ (List.mem_map.mpr ⟨b, hb, rfl⟩)
    · exact List.mem_append_right _ (prod_mem hb h)
theorem prod_len {α β : Type} (m : List β) : ∀ l : List α, (prod l m).length = l.length * m.length
  | [] => by simp [prod]
  | a :: l => by
    rw [prod, List.length_append, List.length_map, prod_len m l, List.length_cons, Nat.succ_mul]
    omega
/-- a question: two chains on a board -/
structure Qn (one other : List Mac) (w : Nat) : Prop where
  a : Ch one
  b : Ch other
  w1 : 0 < w
  w3 : w ≤ 3
def JV (one other : List Mac) (p : J) : Prop := ∃ ks, Val one 3 ks p.1 ∧ Val other 3 ks p.2
section
variable {one other : List Mac} {w : Nat}
def joint (one other : List Mac) : List J := prod (UU (one.map (·.v))) (UU (other.map (·.v)))
theorem joint_len (q : Qn one other w) : (joint one other).length ≤ 16900 := by
  unfold joint
  rw [prod_len]
  exact Nat.mul_le_mul q.a.small q.b.small
theorem JV.inJ (q : Qn one other w) {p : J} (h : JV one other p) : p ∈ joint one other := by
  obtain ⟨ks, h1, h2⟩ := h
  exact prod_mem (h2.inUU q.b) (h1.inUU q.a)
theorem jv_len (q : Qn one other w) {l : List J} (nd : l.Nodup) (h : ∀ x ∈ l, JV one other x) : l.length ≤ (joint one other).length := nd_le l _ nd fun x hx => (h x hx).inJ q
theorem jv_line (q : Qn one other w) {l : List J} (nd : l.Nodup) (h : ∀ x ∈ l, JV one other x) : l.length < line := Nat.lt_of_le_of_lt (Nat.le_trans (jv_len q nd h) (joint_len q)) (by decide)
end
/-! typed search -/
def stepJ (one other : List Mac) (p : J) (e : Ev) : J := (linkT one p.1 (some e), linkT other p.2 (some e))
def enab (w : Nat) (p : J) : List Ev := (evW w).filter fun e => canT (p.1.headD []) e
def nx (one other : List Mac) (w : Nat) (p : J) : List (Ev × J) := (enab w p).map fun e => (e, stepJ one other p e)
def df (p : J) : Bool := !(outT p.1 == outT p.2)
theorem Val.head {ms : List Mac} {ks : List Nat} {rs : List Row} (h : Ch ms) (v : Val ms 3 ks rs) : rs.headD [] ∈ rows ∧ keysT (rs.headD []) = ks ∧ ∀ k, k < 3 → hasK (rs.headD []) k = ks.contains k := by
  match ms, rs, v, h.h1 with
  | m :: ms, r :: rs, v, _ =>
    obtain ⟨h1, h2, _⟩ := v
    subst h2
    rcases h1 with ⟨_, h1⟩ | ⟨z, _⟩
    · have q := rowOk (h.ok m List.mem_cons_self).v (by decide) (by decide) h1
      exact ⟨(List.mem_filter.mp q.big).1, rfl, q.has⟩
    · cases z
theorem f_room : (allK.all fun ks => [0, 1, 2].all fun k => ks.contains k || decide (ks.length < 3)) = true := by decide +kernel
theorem can_keys {ms : List Mac} {ks : List Nat} {rs : List Row} {e : Ev} (h : Ch ms) (v : Val ms 3 ks rs) (he : e.2 < 3) (hc : canT (rs.headD []) e = true) : canK e ks = true ∧ (e.1 = true → ks.length < 3) := by
  have q := (v.head h).2.2 e.2 he
  unfold canT at hc
  rw [q] at hc
  refine ⟨hc, fun z => ?_⟩
  rw [if_pos z] at hc
  have f := all_at (all_at f_room (v.keys h)) (m3 he)
  have hc' : ks.contains e.2 = false := by simpa using hc
  rw [hc', Bool.false_or] at f
  exact of_decide_eq_true f
theorem Val.all : ∀ {ms : List Mac} {cap : Nat} {ks : List Nat} {rs : List Row}, ChOk ms → cap ≤ 3 → Val ms cap ks rs → AllR rs
  | [], _, _, [], _, _, _ => fun _ h => nomatch h
  | [], _, _, _ :: _, _, _, h => h.elim
  | _ :: _, _, _, [], _, _, h => h.elim
  | m :: ms, cap, ks, r :: rs, ok, hc, h => by
    have ih := Val.all (fun x hx => ok x (List.mem_cons_of_mem _ hx)) (by omega) h.2.2
    have okm := ok m List.mem_cons_self
    intro x hx
    rcases List.mem_cons.mp hx with rfl | hx
    · refine ⟨?_, RowL okm hc h.1⟩
      rcases h.1 with ⟨h0, h1⟩ | ⟨_, rfl⟩
      · exact (List.mem_filter.mp h1).1
      · decide +kernel
    · exact ih x hx
section
variable {one other : List Mac} {w : Nat}
structure En1 (w : Nat) (p : J) (e : Ev) : Prop where
  mem : e ∈ evW w
  can : canT (p.1.headD []) e = true
theorem JV.step (q : Qn one other w) {p : J} {e : Ev} (h : JV one other p) (he : En1 w p e) : JV one other (stepJ one other p e) := by
  obtain ⟨ks, h1, h2⟩ := h
  have l := Nat.lt_of_lt_of_le (evW_lt he.mem) q.w3
  obtain ⟨c1, c2⟩ := can_keys q.a h1 l he.can
  exact ⟨appE e ks, h1.step q.a.ok (by decide) l c1 c2, h2.step q.b.ok (by decide) l c1 c2⟩
theorem sem_step (q : Qn one other w) {p : J} {e : Ev} (h : JV one other p) (he : En1 w p e) :
    s_chain_step [eC' one, eSt p.1, eE e] = some (eSt (stepJ one other p e).1) ∧ s_chain_step [eC' other, eSt p.2, eE e] = some (eSt (stepJ one other p e).2) ∧
    s_law_linked [eC' one, eSt p.1, eE e] = some (eSt (stepJ one other p e).1) ∧ s_law_linked [eC' other, eSt p.2, eE e] = some (eSt (stepJ one other p e).2) := by
  obtain ⟨ks, h1, h2⟩ := h
  have l := Nat.lt_of_lt_of_le (evW_lt he.mem) q.w3
  obtain ⟨c1, c2⟩ := can_keys q.a h1 l he.can
  exact ⟨chain_step_ok q.a.ok q.a.h3 h1 l c1 c2, chain_step_ok q.b.ok q.b.h3 h2 l c1 c2, linked_ok q.a.ok q.a.h3 h1 l c1 c2, linked_ok q.b.ok q.b.h3 h2 l c1 c2⟩
theorem sem_out (q : Qn one other w) {p : J} (h : JV one other p) :
    s_chain_sound [eSt p.1] = some (sndD (outT p.1)) ∧ s_chain_sound [eSt p.2] = some (sndD (outT p.2)) ∧ s_law_chain_sound [eSt p.1] = some (sndD (outT p.1)) ∧ s_law_chain_sound [eSt p.2] = some (sndD (outT p.2)) := by
  obtain ⟨ks, h1, h2⟩ := h
  have a1 := h1.all q.a.ok (by decide)
  have a2 := h2.all q.b.ok (by decide)
  have l1 : p.1.length ≤ 3 := by rw [← h1.len]; exact q.a.h3
  have l2 : p.2.length ≤ 3 := by rw [← h2.len]; exact q.b.h3
  exact ⟨csound_ok a1 l1, csound_ok a2 l2, lsound_ok a1 l1, lsound_ok a2 l2⟩
theorem sem_can (q : Qn one other w) {p : J} {e : Ev} (h : JV one other p) (he : e ∈ evW w) : s_can_follow [eS (p.1.headD []), eE e] = some (.bool (canT (p.1.headD []) e)) ∧ s_law_can [eS (p.1.headD []), eE e] = some (.bool (canT (p.1.headD []) e)) := by
  obtain ⟨ks, h1, h2⟩ := h
  exact can_ok (h1.head q.a).1 (Nat.lt_of_lt_of_le (evW_lt he) q.w3)
end
end SV

/-! M13: what chain_parting reckons. -/
namespace SV
open PySem L2 DL
abbrev Cm := List (J × Option (J × Ev))
def vO : Option (J × Ev) → PyData
  | none => .none
  | some (h, e) => .tuple [eJ h, eE e]
inductive PR where
  | go (c : Cm) (l : List J) | ret (c : Cm) (b : J)
def pgo (h : J) : List (Ev × J) → Cm → List J → PR
  | [], c, l => .go c l
  | (e, b) :: r, c, l => if (c.map (·.1)).contains b = true then pgo h r c l else if df b = true then .ret (c ++ [(b, some (h, e))]) b else pgo h r (c ++ [(b, some (h, e))]) (l ++ [b])
def prow (one other : List Mac) (w : Nat) : List J → Cm → List J → PR
  | [], c, l => .go c l
  | h :: hs, c, l => match pgo h (nx one other w h) c l with
    | .go c l => prow one other w hs c l
    | .ret c b => .ret c b
def pwhile (one other : List Mac) (w : Nat) : Nat → Cm → List J → Option (Option (Cm × J))
  | 0, _, _ => none
  | N + 1, c, front => if front.isEmpty = true then some none else match prow one other w front c [] with
    | .go c l => pwhile one other w N c l
    | .ret c b => some (some (c, b))
def startJ (one other : List Mac) : J := (List.replicate one.length [], List.replicate other.length [])
def pB : Fs := (gSeq (gSet 10 (cOf (eTup (aCons (eCall (gN 3 s_chain_step) (aCons (eVar 0) (aCons (eB gIx (eVar 8) (eC (.int 0))) (aCons (eVar 9) aNil)))) (aCons (eCall (gN 3 s_chain_step) (aCons (eVar 1) (aCons (eB gIx (eVar 8) (eC (.int 1))) (aCons (eVar 9) aNil)))) aNil))))) (gIf (tOf (eInO true 4 (eVar 10))) (gSeq (gPutO 4 (eVar 10) (eTup (aCons (eVar 8) (aCons (eVar 9) aNil)))) (gSeq (gApp 7 (eVar 10)) (gIf (tOf (eB gNe (eCall (gN 1 s_chain_sound) (aCons (eB gIx (eVar 10) (eC (.int 0))) aNil)) (eCall (gN 1 s_chain_sound) (aCons (eB gIx (eVar 10) (eC (.int 1))) aNil)))) (gSeq (gFrz 4) (gRet (eCall (gN 2 s_play_to) (aCons (eVar 4) (aCons (eVar 10) aNil))))) gNext))) gNext))
def pE : Fx := (eLc (iSeq (eVar 6)) [9] (.one 9) (tOf (eCall (gN 2 s_can_follow) (aCons (eB gIx (eB gIx (eVar 8) (eC (.int 0))) (eC (.int 0))) (aCons (eVar 9) aNil)))) (eVar 9))
def pD : Fs := (gSeq (gSet 7 (cLst aNil)) (gSeq (gFor (iSeq (eVar 5)) (.one 8) (gFor (iSeq pE) (.one 9) pB)) (gSeq (gFrz 7) (gSet 5 (cOf (eVar 7))))))
theorem b_parting : b_chain_parting = gSeq (gDrop (eCall (gN 1 s_need_chain) (aCons (eVar 0) aNil))) (gSeq (gDrop (eCall (gN 1 s_need_chain) (aCons (eVar 1) aNil))) (gSeq (gDrop (eCall (gN 2 s_need_board) (aCons (eVar 2) (aCons (eC (.bool false)) aNil)))) (gSeq (gSet 3 (cOf (eTup (aCons (eB gMul (eTup (aCons (eC c_START) aNil)) (eCall gLen (aCons (eVar 0) aNil))) (aCons (eB gMul (eTup (aCons (eC c_START) aNil)) (eCall gLen (aCons (eVar 1) aNil))) aNil))))) (gSeq (gPar3 4 5 6 (cDisp1 (eVar 3) (eC .none)) (cOf (eLst (aCons (eVar 3) aNil))) (cOf (eCall (gN 2 s_all_events) (aCons (eVar 2) (aCons (eC (.bool false)) aNil))))) (gSeq (gWhile (tOf (eB gNe (eVar 5) (eLst aNil))) pD fuel) (gRet (eC .none))))))) := rfl
@[simp] theorem tupJ (p : J) : PyData.tuple [eSt p.1, eSt p.2] = eJ p := rfl
theorem lk_in {α : Type} (val : α → PyData) {p : J} {l : List (J × α)} (h : (l.map (·.1)).contains p = true) : ∃ v, lkD (dct val l) (nJ p) = some v := by
  rw [← lk_some val] at h
  exact Option.isSome_iff_exists.mp h
theorem lk_out {α : Type} (val : α → PyData) {p : J} {l : List (J × α)} (h : (l.map (·.1)).contains p = false) : lkD (dct val l) (nJ p) = none := by
  rw [← lk_some val] at h
  simpa using h
@[simp] theorem ixJ0 (p : J) : gIx (eJ p) (.int 0) = some (eSt p.1) := xIx0T _ _
@[simp] theorem ixJ1 (p : J) : gIx (eJ p) (.int 1) = some (eSt p.2) := xIx1T _ _ _
@[simp] theorem xInO (neg : Bool) (i : Nat) (fe : Fx) (env : En) : eInO neg i fe env = (fe env).bind fun y => (okKey y).bind fun n => match env[i]? with
  | some (.od kvs) => some (.bool (if neg then !(lkD kvs n).isSome else (lkD kvs n).isSome))
  | _ => none := rfl
@[simp] theorem xPutO (i : Nat) (fk fv : Fx) (env : En) : gPutO i fk fv env = (fv env).bind fun x => (fk env).bind fun y => (okKey y).bind fun n => match env[i]? with
  | some (.od kvs) => if (lkD kvs n).isSome = false ∧ kvs.length < line then some (.nx (env.set i (.od (kvs ++ [(y, x)])))) else none
  | _ => none := rfl
section
variable {one other : List Mac} {w : Nat}
def EP (one other : List Mac) (w : Nat) (c : Cm) (f : PyData) (l x8 x9 x10 : Cell) : En := [.d (eC' one), .d (eC' other), .d (.int w), .d (eJ (startJ one other)), .od (dct vO c), .d f, .d (evL (evW w)), l, x8, x9, x10]
structure WF (one other : List Mac) {α : Type} (c : List (J × α)) : Prop where
  nd : (c.map (·.1)).Nodup
  jv : ∀ x ∈ c.map (·.1), JV one other x
theorem WF.add {α : Type} {c : List (J × α)} (h : WF one other c) {b : J} (n : (c.map (·.1)).contains b = false) (j : JV one other b) (v : α) : WF one other (c ++ [(b, v)]) := by
  have n' : b ∉ c.map (·.1) := fun z => by
    have := List.contains_iff_mem.mpr z
    rw [n] at this; cases this
  refine ⟨?_, ?_⟩
  · rw [List.map_append, List.nodup_append]
    refine ⟨h.nd, by simp, ?_⟩
    intro x hx y hy
    simp at hy
    subst hy
    intro z; subst z
    exact n' hx
  · rw [List.map_append]
    intro x hx
    rcases List.mem_append.mp hx with hx | hx
    · exact h.jv x hx
    · simp at hx; subst hx; exact j
theorem WF.line {α : Type} (q : Qn one other w) {c : List (J × α)} (h : WF one other c) : c.length < line := by
  have := jv_line q h.nd h.jv
  rwa [List.length_map] at this
theorem dct_add {α : Type} (val : α → PyData) (c : List (J × α)) (b : J) (v : α) : dct val c ++ [(eJ b, val v)] = dct val (c ++ [(b, v)]) := by
  simp [dct]
theorem pB_loop (q : Qn one other w) {here : J} (hj : JV one other here) (F : PyData) : ∀ (es : List Ev) (c : Cm) (l : List J) (x9 x10 : Cell), (∀ e ∈ es, En1 w here e) → WF one other c → l.length ≤ c.length →
    match pgo here (es.map fun e => (e, stepJ one other here e)) c l with
    | .go c' l' => WF one other c' ∧ l'.length ≤ c'.length ∧ ∃ d9 d10, forGo (.one 9) pB (es.map eE) (EP one other w c F (.ol (l.map eJ)) (.d (eJ here)) x9 x10) = some (.nx (EP one other w c' F (.ol (l'.map eJ)) (.d (eJ here)) d9 d10))
    | .ret c' b => WF one other c' ∧ ∀ d, s_play_to [.dict (dct vO c'), eJ b] = some d → forGo (.one 9) pB (es.map eE) (EP one other w c F (.ol (l.map eJ)) (.d (eJ here)) x9 x10) = some (.rt d)
  | [], c, l, x9, x10, _, wf, hl => ⟨wf, hl, x9, x10, rfl⟩
  | e :: es, c, l, x9, x10, he, wf, hl => by
    have he0 := he e List.mem_cons_self
    obtain ⟨s1, s2, _, _⟩ := sem_step q hj he0
    have jb := hj.step q he0
    obtain ⟨o1, o2, _, _⟩ := sem_out q jb
    have cl := wf.line q
    have ll : l.length < line := Nat.lt_of_le_of_lt hl cl
    have cl' : (dct vO c).length < line := by rw [dct, List.length_map]; exact cl
    rw [List.map_cons, pgo]
    simp only [List.map_cons]
    by_cases hc : (c.map (·.1)).contains (stepJ one other here e) = true
    · rw [if_pos hc]
      obtain ⟨v, hk⟩ := lk_in vO hc
      have ih := pB_loop q hj F es c l (.d (eE e)) (.d (eJ (stepJ one other here e))) (fun x hx => he x (List.mem_cons_of_mem _ hx)) wf hl
      have hb : pB (EP one other w c F (.ol (l.map eJ)) (.d (eJ here)) (.d (eE e)) x10) = some (.nx (EP one other w c F (.ol (l.map eJ)) (.d (eJ here)) (.d (eE e)) (.d (eJ (stepJ one other here e))))) := by
        unfold pB EP
        simp [s1, s2, hk]
      have hg : forGo (.one 9) pB (eE e :: es.map eE) (EP one other w c F (.ol (l.map eJ)) (.d (eJ here)) x9 x10) = forGo (.one 9) pB (es.map eE) (EP one other w c F (.ol (l.map eJ)) (.d (eJ here)) (.d (eE e)) (.d (eJ (stepJ one other here e)))) := by
        rw [forGo]
        show ((some (EP one other w c F (.ol (l.map eJ)) (.d (eJ here)) (.d (eE e)) x10)).bind _) = _
        rw [Option.bind_some, hb]; rfl
      rw [hg]
      exact ih
    · have hc' : (c.map (·.1)).contains (stepJ one other here e) = false := by simpa using hc
      rw [if_neg hc]
      have hk := lk_out vO hc'
      have wf' := wf.add hc' jb (some (here, e))
      by_cases hd : df (stepJ one other here e) = true
      · rw [if_pos hd]
        refine ⟨wf', fun d hp => ?_⟩
        have hd' : (outT (stepJ one other here e).1 == outT (stepJ one other here e).2) = false := by simpa [df] using hd
        have hb : pB (EP one other w c F (.ol (l.map eJ)) (.d (eJ here)) (.d (eE e)) x10) = some (.rt d) := by
          unfold pB EP
          have a := dct_add vO c (stepJ one other here e) (some (here, e))
          rw [vO] at a
          simp [s1, s2, hk, cl', ll, o1, o2, hd', a, hp]
        rw [forGo]
        show ((some (EP one other w c F (.ol (l.map eJ)) (.d (eJ here)) (.d (eE e)) x10)).bind _) = _
        rw [Option.bind_some, hb]; rfl
      · rw [if_neg hd]
        have hd' : (outT (stepJ one other here e).1 == outT (stepJ one other here e).2) = true := by simpa [df] using hd
        have ih := pB_loop q hj F es (c ++ [(stepJ one other here e, some (here, e))]) (l ++ [stepJ one other here e]) (.d (eE e)) (.d (eJ (stepJ one other here e))) (fun x hx => he x (List.mem_cons_of_mem _ hx)) wf' (by simp; exact hl)
        have hb : pB (EP one other w c F (.ol (l.map eJ)) (.d (eJ here)) (.d (eE e)) x10) = some (.nx (EP one other w (c ++ [(stepJ one other here e, some (here, e))]) F (.ol ((l ++ [stepJ one other here e]).map eJ)) (.d (eJ here)) (.d (eE e)) (.d (eJ (stepJ one other here e))))) := by
          unfold pB EP
          have a := dct_add vO c (stepJ one other here e) (some (here, e))
          rw [vO] at a
          simp [s1, s2, hk, cl', ll, o1, o2, hd', a]
        have hg : forGo (.one 9) pB (eE e :: es.map eE) (EP one other w c F (.ol (l.map eJ)) (.d (eJ here)) x9 x10) = forGo (.one 9) pB (es.map eE) (EP one other w (c ++ [(stepJ one other here e, some (here, e))]) F (.ol ((l ++ [stepJ one other here e]).map eJ)) (.d (eJ here)) (.d (eE e)) (.d (eJ (stepJ one other here e)))) := by
          rw [forGo]
          show ((some (EP one other w c F (.ol (l.map eJ)) (.d (eJ here)) (.d (eE e)) x10)).bind _) = _
          rw [Option.bind_some, hb]; rfl
        rw [hg]
        exact ih
end
end SV

/-! M14: chain_parting whole. -/
namespace SV
open PySem L2 DL
def kont (g : Fs) (o : Option Out) : Option Out := o.bind fun o => match o with
  | .nx e => g e
  | .rt d => some (.rt d)
theorem kont_nx (g : Fs) (e : En) : kont g (some (.nx e)) = g e := rfl
theorem kont_rt (g : Fs) (d : PyData) : kont g (some (.rt d)) = some (.rt d) := rfl
theorem for_k (i : Nat) (g : Fs) (x : PyData) (xs : List PyData) (env : En) : forGo (.one i) g (x :: xs) env = kont (forGo (.one i) g xs) (g (env.set i (.d x))) := rfl
theorem seq_k (g g' : Fs) (env : En) : gSeq g g' env = kont g' (g env) := rfl
theorem while_k (c : Ft) (g : Fs) (n : Nat) (env : En) {b : Bool} (h : c env = some b) : gWhile c g (n + 1) env = if b = true then kont (gWhile c g n) (g env) else some (.nx env) := by
  show ((c env).bind fun b => if b = true then kont (gWhile c g n) (g env) else some (.nx env)) = _
  rw [h]; rfl
section
variable {one other : List Mac} {w : Nat}
theorem lay_St (rs : List Row) : Lay 4 (eSt rs) := .tuple fun x hx => by
  obtain ⟨p, _, rfl⟩ := List.mem_map.mp hx
  exact lay_S p
theorem lay_J (p : J) : Lay 5 (eJ p) := .pair (lay_St _) (lay_St _)
def jL (l : List J) : PyData := .list (l.map eJ)
theorem lay_jL (l : List J) : Lay 6 (jL l) := .list fun x hx => by
  obtain ⟨p, _, rfl⟩ := List.mem_map.mp hx
  exact lay_J p
@[simp] theorem ne_jL (l : List J) : gNe (jL l) (.list []) = some (.bool (!l.isEmpty)) := by
  unfold gNe
  rw [(lay_jL l).sh (by decide)]
  cases l <;> rfl
@[simp] theorem eq_jL (l : List J) : gEq (jL l) (.list []) = some (.bool l.isEmpty) := by
  unfold gEq
  rw [(lay_jL l).sh (by decide)]
  cases l <;> rfl
@[simp] theorem seq_jL (l : List J) : seqOf (jL l) = some (l.map eJ) := rfl
theorem ix_head {ms : List Mac} {ks : List Nat} {rs : List Row} (h : Ch ms) (v : Val ms 3 ks rs) : gIx (eSt rs) (.int 0) = some (eS (rs.headD [])) := by
  match ms, rs, v, h.h1 with
  | m :: ms, r :: rs, v, _ => exact xIx0T _ _
theorem evW_len {w : Nat} (h : w ≤ 3) : (evW w).length ≤ line := by
  unfold evW
  rw [List.length_append, List.length_map, List.length_map, List.length_range]
  exact Nat.le_trans (show w + w ≤ 6 by omega) (by decide)
theorem enab_mem {p : J} {e : Ev} (h : e ∈ enab w p) : En1 w p e := ⟨(List.mem_filter.mp h).1, (List.mem_filter.mp h).2⟩
theorem pE_ok (q : Qn one other w) {here : J} (hj : JV one other here) (c : Cm) (F : PyData) (l x9 x10 : Cell) : iSeq pE (EP one other w c F l (.d (eJ here)) x9 x10) = some ((enab w here).map eE) := by
  obtain ⟨ks, h1, h2⟩ := hj
  have hh := ix_head q.a h1
  have hl := evW_len q.w3
  have hm : lcGo (.one 9) (tOf (eCall (gN 2 s_can_follow) (aCons (eB gIx (eB gIx (eVar 8) (eC (.int 0))) (eC (.int 0))) (aCons (eVar 9) aNil)))) (eVar 9) (EP one other w c F l (.d (eJ here)) .no x10) ((evW w).map eE) = some ((enab w here).map eE) := by
    rw [lcGo_map eE (fun e => canT (here.1.headD []) e) eE (evW w)]
    · rfl
    · intro e he
      have s := (sem_can q ⟨ks, h1, h2⟩ he).1
      refine ⟨EP one other w c F l (.d (eJ here)) (.d (eE e)) x10, rfl, ?_, fun _ => rfl⟩
      unfold EP
      simp [hh, s, -List.headD_eq_head?_getD]
  unfold EP at hm
  unfold pE EP
  simp [hl, hm]
theorem pgo_sub {h : J} : ∀ (es : List (Ev × J)) (c : Cm) (l : List J), (∀ x ∈ l, x ∈ c.map (·.1)) → match pgo h es c l with
    | .go c' l' => ∀ x ∈ l', x ∈ c'.map (·.1)
    | .ret _ _ => True
  | [], c, l, hs => hs
  | (e, b) :: r, c, l, hs => by
    rw [pgo]
    by_cases hc : (c.map (·.1)).contains b = true
    · rw [if_pos hc]
      exact pgo_sub r c l hs
    · rw [if_neg hc]
      by_cases hd : df b = true
      · rw [if_pos hd]; trivial
      · rw [if_neg hd]
        refine pgo_sub r _ _ fun x hx => ?_
        rw [List.map_append]
        rcases List.mem_append.mp hx with hx | hx
        · exact List.mem_append_left _ (hs x hx)
        · exact List.mem_append_right _ (by simpa using hx)
theorem prow_loop (q : Qn one other w) (F : PyData) : ∀ (front : List J) (c : Cm) (l : List J) (x8 x9 x10 : Cell), (∀ x ∈ front, JV one other x) → WF one other c → l.length ≤ c.length → (∀ x ∈ l, x ∈ c.map (·.1)) →
    match prow one other w front c l with
    | .go c' l' => WF one other c' ∧ (∀ x ∈ l', x ∈ c'.map (·.1)) ∧ ∃ d8 d9 d10, forGo (.one 8) (gFor (iSeq pE) (.one 9) pB) (front.map eJ) (EP one other w c F (.ol (l.map eJ)) x8 x9 x10) = some (.nx (EP one other w c' F (.ol (l'.map eJ)) d8 d9 d10))
    | .ret c' b => WF one other c' ∧ ∀ d, s_play_to [.dict (dct vO c'), eJ b] = some d → forGo (.one 8) (gFor (iSeq pE) (.one 9) pB) (front.map eJ) (EP one other w c F (.ol (l.map eJ)) x8 x9 x10) = some (.rt d)
  | [], c, l, x8, x9, x10, hf, wf, hl, hs => ⟨wf, hs, x8, x9, x10, rfl⟩
  | h :: hs, c, l, x8, x9, x10, hf, wf, hl, hsub => by
    have jh := hf h List.mem_cons_self
    have L := pB_loop q jh F (enab w h) c l x9 x10 (fun e he => enab_mem he) wf hl
    have S := pgo_sub (h := h) (nx one other w h) c l hsub
    have hp := pE_ok q jh c F (.ol (l.map eJ)) x9 x10
    have e0 : forGo (.one 8) (gFor (iSeq pE) (.one 9) pB) ((h :: hs).map eJ) (EP one other w c F (.ol (l.map eJ)) x8 x9 x10) = kont (forGo (.one 8) (gFor (iSeq pE) (.one 9) pB) (hs.map eJ)) (forGo (.one 9) pB ((enab w h).map eE) (EP one other w c F (.ol (l.map eJ)) (.d (eJ h)) x9 x10)) := by
      rw [List.map_cons, for_k]
      show kont _ (gFor (iSeq pE) (.one 9) pB (EP one other w c F (.ol (l.map eJ)) (.d (eJ h)) x9 x10)) = _
      rw [xFor, hp, Option.bind_some]
    rw [prow]
    change (match pgo h (nx one other w h) c l with
      | .go c' l' => WF one other c' ∧ l'.length ≤ c'.length ∧ ∃ d9 d10, forGo (.one 9) pB ((enab w h).map eE) (EP one other w c F (.ol (l.map eJ)) (.d (eJ h)) x9 x10) = some (.nx (EP one other w c' F (.ol (l'.map eJ)) (.d (eJ h)) d9 d10))
      | .ret c' b => WF one other c' ∧ ∀ d, s_play_to [.dict (dct vO c'), eJ b] = some d → forGo (.one 9) pB ((enab w h).map eE) (EP one other w c F (.ol (l.map eJ)) (.d (eJ h)) x9 x10) = some (.rt d)) at L
    cases hg : pgo h (nx one other w h) c l with
    | ret c' b =>
      rw [hg] at L
      obtain ⟨l1, l2⟩ := L
      refine ⟨l1, fun d hd => ?_⟩
      rw [e0, l2 d hd, kont_rt]
    | go c' l' =>
      rw [hg] at L S
      obtain ⟨l1, l2, d9, d10, l3⟩ := L
      have ih := prow_loop q F hs c' l' (.d (eJ h)) d9 d10 (fun x hx => hf x (List.mem_cons_of_mem _ hx)) l1 l2 S
      rw [e0, l3, kont_nx]
      exact ih
theorem pwhile_loop (q : Qn one other w) : ∀ (N : Nat) (front : List J) (c : Cm) (x7 x8 x9 x10 : Cell) (r : Option (Cm × J)), (∀ x ∈ front, JV one other x) → WF one other c → pwhile one other w N c front = some r →
    match r with
    | none => ∃ e, gWhile (tOf (eB gNe (eVar 5) (eLst aNil))) pD N (EP one other w c (jL front) x7 x8 x9 x10) = some (.nx e)
    | some (c', b) => WF one other c' ∧ ∀ d, s_play_to [.dict (dct vO c'), eJ b] = some d → gWhile (tOf (eB gNe (eVar 5) (eLst aNil))) pD N (EP one other w c (jL front) x7 x8 x9 x10) = some (.rt d)
  | 0, _, _, _, _, _, _, _, _, _, h => by cases h
  | N + 1, front, c, x7, x8, x9, x10, r, hf, wf, h => by
    rw [pwhile] at h
    have ht : tOf (eB gNe (eVar 5) (eLst aNil)) (EP one other w c (jL front) x7 x8 x9 x10) = some (!front.isEmpty) := by
      unfold EP
      simp
    rw [while_k _ _ _ _ ht]
    by_cases hz : front.isEmpty = true
    · rw [if_pos hz] at h
      cases h
      refine ⟨EP one other w c (jL front) x7 x8 x9 x10, ?_⟩
      rw [hz]; rfl
    · rw [if_neg hz] at h
      have hz' : front.isEmpty = false := by simpa using hz
      have L := prow_loop q (jL front) front c [] x8 x9 x10 hf wf (Nat.zero_le _) (fun _ h => nomatch h)
      have e0 : pD (EP one other w c (jL front) x7 x8 x9 x10) = kont (gSeq (gFrz 7) (gSet 5 (cOf (eVar 7)))) (forGo (.one 8) (gFor (iSeq pE) (.one 9) pB) (front.map eJ) (EP one other w c (jL front) (.ol []) x8 x9 x10)) := by
        unfold pD
        rw [seq_k]
        have : gSet 7 (cLst aNil) (EP one other w c (jL front) x7 x8 x9 x10) = some (.nx (EP one other w c (jL front) (.ol []) x8 x9 x10)) := by
          unfold EP; simp
        rw [this, kont_nx, seq_k, xFor]
        have : iSeq (eVar 5) (EP one other w c (jL front) (.ol []) x8 x9 x10) = some (front.map eJ) := by
          unfold EP; simp
        rw [this, Option.bind_some]
      rw [hz', Bool.not_false, if_pos rfl, e0]
      cases hg : prow one other w front c [] with
      | ret c' b =>
        rw [hg] at L h
        cases h
        refine ⟨L.1, fun d hd => ?_⟩
        have := L.2 d hd
        rw [List.map_nil] at this
        rw [this, kont_rt, kont_rt]
      | go c' l' =>
        rw [hg] at L h
        obtain ⟨l1, l2, d8, d9, d10, l3⟩ := L
        rw [List.map_nil] at l3
        have e1 : gSeq (gFrz 7) (gSet 5 (cOf (eVar 7))) (EP one other w c' (jL front) (.ol (l'.map eJ)) d8 d9 d10) = some (.nx (EP one other w c' (jL l') (.d (jL l')) d8 d9 d10)) := by
          unfold EP jL; simp
        have ih := pwhile_loop q N l' c' (.d (jL l')) d8 d9 d10 r (fun x hx => l1.jv x (l2 x hx)) l1 h
        rw [l3, kont_nx, e1, kont_nx]
        exact ih
end
end SV

/-! M15: chain_parting's front door; _law_chained. -/
namespace SV
open PySem L2 DL
theorem f_nil2 : ([1, 2].all fun v => [1, 2, 3].all fun cap => (rowsV v cap).contains []) = true := by decide +kernel
theorem val_start : ∀ {ms : List Mac} {cap : Nat}, ChOk ms → cap ≤ 3 → Val ms cap [] (List.replicate ms.length [])
  | [], _, _, _ => trivial
  | m :: ms, cap, ok, hc => by
    have ih := val_start (ms := ms) (cap := cap - m.v) (fun x hx => ok x (List.mem_cons_of_mem _ hx)) (by omega)
    refine ⟨?_, rfl, ih⟩
    by_cases h0 : 0 < cap
    · exact .inl ⟨h0, by simpa using all_at (all_at f_nil2 (m2 (ok m List.mem_cons_self).v)) (mc h0 hc)⟩
    · exact .inr ⟨by omega, rfl⟩
section
variable {one other : List Mac} {w : Nat}
theorem jv_start (q : Qn one other w) : JV one other (startJ one other) := ⟨[], val_start q.a.ok (by decide), val_start q.b.ok (by decide)⟩
theorem xPar3 (i j l : Nat) (f f' f2 : Fc) (env : En) : gPar3 i j l f f' f2 env = (f env).bind fun c => (f' env).bind fun c' => (f2 env).bind fun c2 => some (.nx (((env.set i c).set j c').set l c2)) := rfl
theorem disp1_J {fk fv : Fx} {env : En} {p : J} {x : PyData} (h : fk env = some (eJ p)) (h' : fv env = some x) : cDisp1 fk fv env = some (.od [(eJ p, x)]) := by
  unfold cDisp1
  rw [h, Option.bind_some, h', Option.bind_some, okKey_J]; rfl
theorem flat_rep {α : Type} (a : α) : ∀ n : Nat, (List.replicate n [a]).flatten = List.replicate n a
  | 0 => rfl
  | n + 1 => by rw [List.replicate_succ, List.flatten_cons, flat_rep a n]; rfl
theorem mul_start {n : Nat} (h1 : 1 ≤ n) (h3 : n ≤ 3) : gMul (.tuple [eS []]) (.int n) = some (eSt (List.replicate n [])) := by
  show (if 1 ≤ (n : Int) ∧ (n : Int) ≤ 1000 ∧ [eS []].length ≤ 1000 ∧ [eS []] ≠ [] then some (PyData.tuple (List.replicate (n : Int).toNat [eS []]).flatten) else none) = _
  rw [if_pos ⟨by omega, by omega, by decide, by simp⟩, Int.toNat_natCast, flat_rep, eSt, List.map_replicate]
@[simp] theorem xStart : c_START = eS [] := rfl
@[simp] theorem xLenC (ms : List Mac) : gLen [eC' ms] = some (.int ms.length) := by
  show some (PyData.int ((ms.map eM).length : Nat)) = _
  rw [List.length_map]
theorem call2 (F : GA) {fa fb : Fx} {env : En} {a b z : PyData} (h : F [a, b] = some z) (ha : fa env = some a) (hb : fb env = some b) : eCall (gN 2 F) (aCons fa (aCons fb aNil)) env = some z := by
  rw [xCall, xCons, ha, Option.bind_some, xCons, hb, Option.bind_some, xNil, Option.bind_some, Option.bind_some, Option.bind_some, xgN2]
  exact h
theorem front_env (q : Qn one other w) (W : Fs) : ((gSeq (gDrop (eCall (gN 1 s_need_chain) (aCons (eVar 0) aNil))) (gSeq (gDrop (eCall (gN 1 s_need_chain) (aCons (eVar 1) aNil))) (gSeq (gDrop (eCall (gN 2 s_need_board) (aCons (eVar 2) (aCons (eC (.bool false)) aNil)))) (gSeq (gSet 3 (cOf (eTup (aCons (eB gMul (eTup (aCons (eC c_START) aNil)) (eCall gLen (aCons (eVar 0) aNil))) (aCons (eB gMul (eTup (aCons (eC c_START) aNil)) (eCall gLen (aCons (eVar 1) aNil))) aNil))))) (gSeq (gPar3 4 5 6 (cDisp1 (eVar 3) (eC .none)) (cOf (eLst (aCons (eVar 3) aNil))) (cOf (eCall (gN 2 s_all_events) (aCons (eVar 2) (aCons (eC (.bool false)) aNil))))) (gSeq W (gRet (eC .none)))))))) ([.d (eC' one), .d (eC' other), .d (.int (w : Nat)), .no, .no, .no, .no, .no, .no, .no, .no])).bind (fun o => match o with
  | .rt d => some d
  | .nx _ => some .none) = (W (EP one other w [(startJ one other, none)] (jL [startJ one other]) .no .no .no .no)).bind fun o => match o with
    | .nx _ => some .none
    | .rt d => some d := by
  have a1 := chain_need q.a.ok q.a.h1 q.a.h3
  have a2 := chain_need q.b.ok q.b.h1 q.b.h3
  have a3 := ev_ok q.w1 q.w3
  have a4 := mul_start q.a.h1 q.a.h3
  have a5 := mul_start q.b.h1 q.b.h3
  have e : PyData.tuple [eSt (List.replicate one.length []), eSt (List.replicate other.length [])] = eJ (startJ one other) := rfl
  have e2 : EP one other w [(startJ one other, none)] (jL [startJ one other]) .no .no .no .no = [.d (eC' one), .d (eC' other), .d (.int w), .d (eJ (startJ one other)), .od [(eJ (startJ one other), .none)], .d (.list [eJ (startJ one other)]), .d (evL (evW w)), .no, .no, .no, .no] := rfl
  have hev : eCall (gN 2 s_all_events) (aCons (eVar 2) (aCons (eC (.bool false)) aNil)) [.d (eC' one), .d (eC' other), .d (.int (w : Nat)), .d (eJ (startJ one other)), .no, .no, .no, .no, .no, .no, .no] = some (evL (evW w)) := call2 s_all_events a3.1 rfl rfl
  have hp : gPar3 4 5 6 (cDisp1 (eVar 3) (eC .none)) (cOf (eLst (aCons (eVar 3) aNil))) (cOf (eCall (gN 2 s_all_events) (aCons (eVar 2) (aCons (eC (.bool false)) aNil)))) [.d (eC' one), .d (eC' other), .d (.int (w : Nat)), .d (eJ (startJ one other)), .no, .no, .no, .no, .no, .no, .no] = some (.nx [.d (eC' one), .d (eC' other), .d (.int w), .d (eJ (startJ one other)), .od [(eJ (startJ one other), .none)], .d (.list [eJ (startJ one other)]), .d (evL (evW w)), .no, .no, .no, .no]) := by
    rw [xPar3, disp1_J (p := startJ one other) (x := .none) rfl rfl, Option.bind_some, xOf, xOf, hev]
    rfl
  rw [e2]
  have b3 := a3.2.2
  simp [a1, a2, b3, a4, a5, e, -tupJ, hp]
  generalize W [.d (eC' one), .d (eC' other), .d (.int w), .d (eJ (startJ one other)), .od [(eJ (startJ one other), .none)], .d (.list [eJ (startJ one other)]), .d (evL (evW w)), .no, .no, .no, .no] = G
  cases G with
  | none => rfl
  | some o => cases o <;> rfl
theorem start_env (q : Qn one other w) : s_chain_parting [eC' one, eC' other, .int (w : Nat)] = (gWhile (tOf (eB gNe (eVar 5) (eLst aNil))) pD fuel (EP one other w [(startJ one other, none)] (jL [startJ one other]) .no .no .no .no)).bind fun o => match o with
    | .nx _ => some .none
    | .rt d => some d := by
  unfold s_chain_parting runF
  rw [b_parting]
  exact front_env q _
theorem wf_start (q : Qn one other w) {α : Type} (v : α) : WF one other [(startJ one other, v)] := ⟨by simp, fun x hx => by
  simp at hx; subst hx; exact jv_start q⟩
theorem parting_sem (q : Qn one other w) {r : Option (Cm × J)} (h : pwhile one other w fuel [(startJ one other, none)] [startJ one other] = some r) :
    match r with
    | none => s_chain_parting [eC' one, eC' other, .int (w : Nat)] = some .none
    | some (c, b) => ∀ d, s_play_to [.dict (dct vO c), eJ b] = some d → s_chain_parting [eC' one, eC' other, .int (w : Nat)] = some d := by
  have L := pwhile_loop q fuel [startJ one other] [(startJ one other, none)] .no .no .no .no r (fun x hx => by simp at hx; subst hx; exact jv_start q) (wf_start q none) h
  rw [start_env q]
  match r, L with
  | none, ⟨e, L⟩ => rw [L]; rfl
  | some (c, b), ⟨_, L⟩ => intro d hd; rw [L d hd]; rfl
end
end SV

/-! M16: what _law_chained reckons. -/
namespace SV
open PySem L2 DL
abbrev Fd := List (J × Nat)
def vI (t : Nat) : PyData := .int t
def lgo (t : Nat) : List (Ev × J) → Fd → List J → Fd × List J
  | [], f, l => (f, l)
  | (_, b) :: r, f, l => if (f.map (·.1)).contains b = true then lgo t r f l else lgo t r (f ++ [(b, t)]) (l ++ [b])
def lrow (one other : List Mac) (w t : Nat) : List J → Fd → List J → Fd × List J
  | [], f, l => (f, l)
  | h :: hs, f, l => lrow one other w t hs (lgo t (nx one other w h) f l).1 (lgo t (nx one other w h) f l).2
def lwhile (one other : List Mac) (w : Nat) : Nat → Fd → List J → Nat → Option Fd
  | 0, _, _, _ => none
  | N + 1, f, front, t => if front.isEmpty = true then some f else
    lwhile one other w N (lrow one other w (t + 1) front f []).1 (if ((lrow one other w (t + 1) front f []).2.filter df).isEmpty = true then (lrow one other w (t + 1) front f []).2 else []) (t + 1)
def LB : Fs := (gSeq (gSet 9 (cOf (eTup (aCons (eCall (gN 3 s_law_linked) (aCons (eVar 0) (aCons (eB gIx (eVar 7) (eC (.int 0))) (aCons (eVar 8) aNil)))) (aCons (eCall (gN 3 s_law_linked) (aCons (eVar 1) (aCons (eB gIx (eVar 7) (eC (.int 1))) (aCons (eVar 8) aNil)))) aNil))))) (gIf (tOf (eInO true 5 (eVar 9))) (gSeq (gPutO 5 (eVar 9) (eVar 4)) (gApp 6 (eVar 9))) gNext))
def LE : Fx := (eLc (iSeq (eCall (gN 2 s_law_events) (aCons (eVar 2) (aCons (eC (.bool false)) aNil)))) [11] (.one 11) (tOf (eCall (gN 2 s_law_can) (aCons (eB gIx (eB gIx (eVar 7) (eC (.int 0))) (eC (.int 0))) (aCons (eVar 11) aNil)))) (eVar 11))
def LF : Fx := (eLc (iSeq (eVar 6)) [7] (.one 7) (tOf (eB gNe (eCall (gN 1 s_law_chain_sound) (aCons (eB gIx (eVar 7) (eC (.int 0))) aNil)) (eCall (gN 1 s_law_chain_sound) (aCons (eB gIx (eVar 7) (eC (.int 1))) aNil)))) (eVar 7))
def LR : Fs := (gSeq (gFrz 6) (gSeq (gSet 10 (cOf LF)) (gSeq (gFrz 6) (gSet 3 (cOf (eIf (tOf (eB gEq (eVar 10) (eLst aNil))) (eVar 6) (eLst aNil)))))))
def LD : Fs := (gSeq (gPar 6 4 (cLst aNil) (cOf (eB gAdd (eVar 4) (eC (.int 1))))) (gSeq (gFor (iSeq (eCall gList (aCons (eVar 3) aNil))) (.one 7) (gFor (iSeq LE) (.one 8) LB)) LR))
theorem b_chained : b_law_chained = gSeq (gPar 3 4 (cOf (eLst (aCons (eTup (aCons (eB gMul (eTup (aCons (eTup (aCons (eC (.bool false)) (aCons (eTup aNil) aNil))) aNil)) (eCall gLen (aCons (eVar 0) aNil))) (aCons (eB gMul (eTup (aCons (eTup (aCons (eC (.bool false)) (aCons (eTup aNil) aNil))) aNil)) (eCall gLen (aCons (eVar 1) aNil))) aNil))) aNil))) (cOf (eC (.int 0)))) (gSeq (gSet 5 (cDisp1 (eB gIx (eVar 3) (eC (.int 0))) (eC (.int 0)))) (gSeq (gWhile (tOf (eB gNe (eVar 3) (eLst aNil))) LD fuel) (gSeq (gFrz 5) (gRet (eVar 5))))) := rfl
section
variable {one other : List Mac} {w : Nat}
def EL (one other : List Mac) (w : Nat) (f : Fd) (fr : PyData) (t : Nat) (l6 x7 x8 x9 x10 x11 : Cell) : En := [.d (eC' one), .d (eC' other), .d (.int w), .d fr, .d (.int t), .od (dct vI f), l6, x7, x8, x9, x10, x11]
theorem LB_loop (q : Qn one other w) {here : J} (hj : JV one other here) (F : PyData) (t : Nat) (x10 x11 : Cell) : ∀ (es : List Ev) (f : Fd) (l : List J) (x8 x9 : Cell), (∀ e ∈ es, En1 w here e) → WF one other f → l.length ≤ f.length → (∀ x ∈ l, x ∈ f.map (·.1)) →
    ∀ f' l', lgo t (es.map fun e => (e, stepJ one other here e)) f l = (f', l') → WF one other f' ∧ l'.length ≤ f'.length ∧ (∀ x ∈ l', x ∈ f'.map (·.1)) ∧ ∃ d8 d9, forGo (.one 8) LB (es.map eE) (EL one other w f F t (.ol (l.map eJ)) (.d (eJ here)) x8 x9 x10 x11) = some (.nx (EL one other w f' F t (.ol (l'.map eJ)) (.d (eJ here)) d8 d9 x10 x11))
  | [], f, l, x8, x9, _, wf, hl, hs, f', l', e => by
    cases e
    exact ⟨wf, hl, hs, x8, x9, rfl⟩
  | e :: es, f, l, x8, x9, he, wf, hl, hs, f', l', eg => by
    have he0 := he e List.mem_cons_self
    obtain ⟨_, _, s1, s2⟩ := sem_step q hj he0
    have jb := hj.step q he0
    have cl := wf.line q
    have ll : l.length < line := Nat.lt_of_le_of_lt hl cl
    have cl' : (dct vI f).length < line := by rw [dct, List.length_map]; exact cl
    rw [List.map_cons, lgo] at eg
    rw [List.map_cons, for_k]
    change WF one other f' ∧ l'.length ≤ f'.length ∧ (∀ x ∈ l', x ∈ f'.map (·.1)) ∧ ∃ d8 d9, kont (forGo (.one 8) LB (es.map eE)) (LB (EL one other w f F t (.ol (l.map eJ)) (.d (eJ here)) (.d (eE e)) x9 x10 x11)) = _
    by_cases hc : (f.map (·.1)).contains (stepJ one other here e) = true
    · rw [if_pos hc] at eg
      obtain ⟨v, hk⟩ := lk_in vI hc
      have ih := LB_loop q hj F t x10 x11 es f l (.d (eE e)) (.d (eJ (stepJ one other here e))) (fun x hx => he x (List.mem_cons_of_mem _ hx)) wf hl hs f' l' eg
      have hb : LB (EL one other w f F t (.ol (l.map eJ)) (.d (eJ here)) (.d (eE e)) x9 x10 x11) = some (.nx (EL one other w f F t (.ol (l.map eJ)) (.d (eJ here)) (.d (eE e)) (.d (eJ (stepJ one other here e))) x10 x11)) := by
        unfold LB EL
        simp [s1, s2, hk]
      rw [hb, kont_nx]
      exact ih
    · have hc' : (f.map (·.1)).contains (stepJ one other here e) = false := by simpa using hc
      have hk := lk_out vI hc'
      rw [if_neg hc] at eg
      have wf' := wf.add hc' jb t
      have ih := LB_loop q hj F t x10 x11 es (f ++ [(stepJ one other here e, t)]) (l ++ [stepJ one other here e]) (.d (eE e)) (.d (eJ (stepJ one other here e))) (fun x hx => he x (List.mem_cons_of_mem _ hx)) wf' (by simp; exact hl) (fun x hx => by
        rw [List.map_append]
        rcases List.mem_append.mp hx with hx | hx
        · exact List.mem_append_left _ (hs x hx)
        · exact List.mem_append_right _ (by simpa using hx)) f' l' eg
      have hb : LB (EL one other w f F t (.ol (l.map eJ)) (.d (eJ here)) (.d (eE e)) x9 x10 x11) = some (.nx (EL one other w (f ++ [(stepJ one other here e, t)]) F t (.ol ((l ++ [stepJ one other here e]).map eJ)) (.d (eJ here)) (.d (eE e)) (.d (eJ (stepJ one other here e))) x10 x11)) := by
        unfold LB EL
        have a := dct_add vI f (stepJ one other here e) t
        rw [vI] at a
        simp [s1, s2, hk, cl', ll, a]
      rw [hb, kont_nx]
      exact ih
theorem LE_ok (q : Qn one other w) {here : J} (hj : JV one other here) (f : Fd) (F : PyData) (t : Nat) (l x8 x9 x10 x11 : Cell) : iSeq LE (EL one other w f F t l (.d (eJ here)) x8 x9 x10 x11) = some ((enab w here).map eE) := by
  obtain ⟨ks, h1, h2⟩ := hj
  have hh := ix_head q.a h1
  have hl := evW_len q.w3
  have hm : lcGo (.one 11) (tOf (eCall (gN 2 s_law_can) (aCons (eB gIx (eB gIx (eVar 7) (eC (.int 0))) (eC (.int 0))) (aCons (eVar 11) aNil)))) (eVar 11) (EL one other w f F t l (.d (eJ here)) x8 x9 x10 .no) ((evW w).map eE) = some ((enab w here).map eE) := by
    rw [lcGo_map eE (fun e => canT (here.1.headD []) e) eE (evW w)]
    · rfl
    · intro e he
      have s := (sem_can q ⟨ks, h1, h2⟩ he).2
      refine ⟨EL one other w f F t l (.d (eJ here)) x8 x9 x10 (.d (eE e)), rfl, ?_, fun _ => rfl⟩
      unfold EL
      simp [hh, s, -List.headD_eq_head?_getD]
  have hev : eCall (gN 2 s_law_events) (aCons (eVar 2) (aCons (eC (.bool false)) aNil)) (EL one other w f F t l (.d (eJ here)) x8 x9 x10 x11) = some (evL (evW w)) := call2 s_law_events (ev_ok q.w1 q.w3).2.1 rfl rfl
  unfold LE
  rw [xiSeq, xLc, xiSeq, hev, Option.bind_some, seq_ev, Option.bind_some, if_pos (by rw [List.length_map]; exact hl)]
  change ((lcGo _ _ _ (EL one other w f F t l (.d (eJ here)) x8 x9 x10 .no) _).bind _).bind _ = _
  rw [hm]; rfl
theorem lrow_loop (q : Qn one other w) (F : PyData) (t : Nat) (x10 x11 : Cell) : ∀ (front : List J) (f : Fd) (l : List J) (x7 x8 x9 : Cell), (∀ x ∈ front, JV one other x) → WF one other f → l.length ≤ f.length → (∀ x ∈ l, x ∈ f.map (·.1)) →
    ∀ f' l', lrow one other w t front f l = (f', l') → WF one other f' ∧ l'.length ≤ f'.length ∧ (∀ x ∈ l', x ∈ f'.map (·.1)) ∧ ∃ d7 d8 d9, forGo (.one 7) (gFor (iSeq LE) (.one 8) LB) (front.map eJ) (EL one other w f F t (.ol (l.map eJ)) x7 x8 x9 x10 x11) = some (.nx (EL one other w f' F t (.ol (l'.map eJ)) d7 d8 d9 x10 x11))
  | [], f, l, x7, x8, x9, _, wf, hl, hs, f', l', e => by
    cases e
    exact ⟨wf, hl, hs, x7, x8, x9, rfl⟩
  | h :: hs, f, l, x7, x8, x9, hf, wf, hl, hsub, f', l', eg => by
    have jh := hf h List.mem_cons_self
    rw [lrow] at eg
    obtain ⟨l1, l2, l3, d8, d9, l4⟩ := LB_loop q jh F t x10 x11 (enab w h) f l x8 x9 (fun e he => enab_mem he) wf hl hsub (lgo t (nx one other w h) f l).1 (lgo t (nx one other w h) f l).2 rfl
    have ih := lrow_loop q F t x10 x11 hs (lgo t (nx one other w h) f l).1 (lgo t (nx one other w h) f l).2 (.d (eJ h)) d8 d9 (fun x hx => hf x (List.mem_cons_of_mem _ hx)) l1 l2 l3 f' l' eg
    have hp := LE_ok q jh f F t (.ol (l.map eJ)) x8 x9 x10 x11
    have e0 : forGo (.one 7) (gFor (iSeq LE) (.one 8) LB) ((h :: hs).map eJ) (EL one other w f F t (.ol (l.map eJ)) x7 x8 x9 x10 x11) = kont (forGo (.one 7) (gFor (iSeq LE) (.one 8) LB) (hs.map eJ)) (forGo (.one 8) LB ((enab w h).map eE) (EL one other w f F t (.ol (l.map eJ)) (.d (eJ h)) x8 x9 x10 x11)) := by
      rw [List.map_cons, for_k]
      show kont _ (gFor (iSeq LE) (.one 8) LB (EL one other w f F t (.ol (l.map eJ)) (.d (eJ h)) x8 x9 x10 x11)) = _
      rw [xFor, hp, Option.bind_some]
    rw [e0, l4, kont_nx]
    exact ih
theorem LF_ok (q : Qn one other w) (f : Fd) (F : PyData) (t : Nat) (l : List J) (x7 x8 x9 x10 x11 : Cell) (hl : l.length ≤ line) (hj : ∀ x ∈ l, JV one other x) : LF (EL one other w f F t (.d (jL l)) x7 x8 x9 x10 x11) = some (jL (l.filter df)) := by
  have hm : lcGo (.one 7) (tOf (eB gNe (eCall (gN 1 s_law_chain_sound) (aCons (eB gIx (eVar 7) (eC (.int 0))) aNil)) (eCall (gN 1 s_law_chain_sound) (aCons (eB gIx (eVar 7) (eC (.int 1))) aNil)))) (eVar 7) (EL one other w f F t (.d (jL l)) .no x8 x9 x10 x11) (l.map eJ) = some ((l.filter df).map eJ) := by
    rw [lcGo_map eJ df eJ l]
    intro p hp
    obtain ⟨_, _, o1, o2⟩ := sem_out q (hj p hp)
    refine ⟨EL one other w f F t (.d (jL l)) (.d (eJ p)) x8 x9 x10 x11, rfl, ?_, fun _ => rfl⟩
    unfold EL
    simp [o1, o2, df]
  unfold LF
  rw [xLc]
  have : iSeq (eVar 6) (EL one other w f F t (.d (jL l)) x7 x8 x9 x10 x11) = some (l.map eJ) := rfl
  rw [this, Option.bind_some, if_pos (by rw [List.length_map]; exact hl)]
  change (lcGo _ _ _ (EL one other w f F t (.d (jL l)) .no x8 x9 x10 x11) _).bind _ = _
  rw [hm]; rfl
theorem lwhile_loop (q : Qn one other w) : ∀ (N : Nat) (front : List J) (f : Fd) (t : Nat) (x6 x7 x8 x9 x10 x11 : Cell) (r : Fd), (∀ x ∈ front, JV one other x) → WF one other f → lwhile one other w N f front t = some r →
    WF one other r ∧ ∃ F t' y6 y7 y8 y9 y10 y11, gWhile (tOf (eB gNe (eVar 3) (eLst aNil))) LD N (EL one other w f (jL front) t x6 x7 x8 x9 x10 x11) = some (.nx (EL one other w r F t' y6 y7 y8 y9 y10 y11))
  | 0, _, _, _, _, _, _, _, _, _, _, _, _, h => by cases h
  | N + 1, front, f, t, x6, x7, x8, x9, x10, x11, r, hf, wf, h => by
    rw [lwhile] at h
    have ht : tOf (eB gNe (eVar 3) (eLst aNil)) (EL one other w f (jL front) t x6 x7 x8 x9 x10 x11) = some (!front.isEmpty) := by
      unfold EL
      simp
    rw [while_k _ _ _ _ ht]
    by_cases hz : front.isEmpty = true
    · rw [if_pos hz] at h
      cases h
      rw [hz]
      exact ⟨wf, jL front, t, x6, x7, x8, x9, x10, x11, rfl⟩
    · rw [if_neg hz] at h
      have hz' : front.isEmpty = false := by simpa using hz
      obtain ⟨l1, l2, l3, d7, d8, d9, l4⟩ := lrow_loop q (jL front) (t + 1) x10 x11 front f [] x7 x8 x9 hf wf (Nat.zero_le _) (fun _ h => nomatch h) (lrow one other w (t + 1) front f []).1 (lrow one other w (t + 1) front f []).2 rfl
      rw [List.map_nil] at l4
      have e0 : LD (EL one other w f (jL front) t x6 x7 x8 x9 x10 x11) = kont LR (forGo (.one 7) (gFor (iSeq LE) (.one 8) LB) (front.map eJ) (EL one other w f (jL front) (t + 1) (.ol []) x7 x8 x9 x10 x11)) := by
        unfold LD
        rw [seq_k]
        have : gPar 6 4 (cLst aNil) (cOf (eB gAdd (eVar 4) (eC (.int 1)))) (EL one other w f (jL front) t x6 x7 x8 x9 x10 x11) = some (.nx (EL one other w f (jL front) (t + 1) (.ol []) x7 x8 x9 x10 x11)) := by
          unfold EL
          have : gAdd (.int t) (.int 1) = some (.int ((t + 1 : Nat) : Int)) := rfl
          simp [this]
        rw [this, kont_nx, seq_k, xFor]
        have : iSeq (eCall gList (aCons (eVar 3) aNil)) (EL one other w f (jL front) (t + 1) (.ol []) x7 x8 x9 x10 x11) = some (front.map eJ) := rfl
        rw [this, Option.bind_some]
      rw [hz', Bool.not_false, if_pos rfl, e0, l4, kont_nx]
      generalize hg : lrow one other w (t + 1) front f [] = P at h l1 l2 l3 l4 ⊢
      obtain ⟨f', l'⟩ := P
      have hll : l'.length ≤ line := Nat.le_of_lt (Nat.lt_of_le_of_lt l2 (l1.line q))
      have hlf := LF_ok q f' (jL front) (t + 1) l' d7 d8 d9 x10 x11 hll (fun x hx => l1.jv x (l3 x hx))
      have e1 : LR (EL one other w f' (jL front) (t + 1) (.ol (l'.map eJ)) d7 d8 d9 x10 x11) = some (.nx (EL one other w f' (jL (if (l'.filter df).isEmpty = true then l' else [])) (t + 1) (.d (jL l')) d7 d8 d9 (.d (jL (l'.filter df))) x11)) := by
        unfold LR
        rw [seq_k]
        have : gFrz 6 (EL one other w f' (jL front) (t + 1) (.ol (l'.map eJ)) d7 d8 d9 x10 x11) = some (.nx (EL one other w f' (jL front) (t + 1) (.d (jL l')) d7 d8 d9 x10 x11)) := rfl
        rw [this, kont_nx, seq_k, xSet, xOf, hlf]
        by_cases hq : (l'.filter df).isEmpty = true
        · rw [if_pos hq]
          unfold EL
          simp only [List.set_cons_zero, List.set_cons_succ, Option.bind_some, kont_nx, xSeq, xFrz, List.getElem?_cons_zero, List.getElem?_cons_succ, xSet, xOf, xIf, xT, xB, xVar, xLst, xNil, List.length_nil, Nat.zero_le, if_true, eq_jL, hq, xBool]
        · rw [if_neg hq]
          have hq' : (l'.filter df).isEmpty = false := by simpa using hq
          unfold EL
          simp only [List.set_cons_zero, List.set_cons_succ, Option.bind_some, kont_nx, xSeq, xFrz, List.getElem?_cons_zero, List.getElem?_cons_succ, xSet, xOf, xIf, xT, xB, xVar, xLst, xNil, List.length_nil, Nat.zero_le, if_true, eq_jL, hq', xBool]
          rfl
      rw [e1, kont_nx]
      exact lwhile_loop q N _ f' (t + 1) _ _ _ _ _ _ r (fun x hx => by
        by_cases hq : (l'.filter df).isEmpty = true
        · rw [if_pos hq] at hx
          exact l1.jv x (l3 x hx)
        · rw [if_neg hq] at hx; cases hx) l1 h
end
end SV

/-! M17: _law_chained's front door. -/
namespace SV
open PySem L2 DL
section
variable {one other : List Mac} {w : Nat}
theorem lfront_env (q : Qn one other w) (W : Fs) : ((gSeq (gPar 3 4 (cOf (eLst (aCons (eTup (aCons (eB gMul (eTup (aCons (eTup (aCons (eC (.bool false)) (aCons (eTup aNil) aNil))) aNil)) (eCall gLen (aCons (eVar 0) aNil))) (aCons (eB gMul (eTup (aCons (eTup (aCons (eC (.bool false)) (aCons (eTup aNil) aNil))) aNil)) (eCall gLen (aCons (eVar 1) aNil))) aNil))) aNil))) (cOf (eC (.int 0)))) (gSeq (gSet 5 (cDisp1 (eB gIx (eVar 3) (eC (.int 0))) (eC (.int 0)))) (gSeq W (gSeq (gFrz 5) (gRet (eVar 5)))))) ([.d (eC' one), .d (eC' other), .d (.int (w : Nat)), .no, .no, .no, .no, .no, .no, .no, .no, .no])).bind (fun o => match o with
  | .rt d => some d
  | .nx _ => some .none) = ((kont (gSeq (gFrz 5) (gRet (eVar 5)))) (W (EL one other w [(startJ one other, 0)] (jL [startJ one other]) 0 .no .no .no .no .no .no))).bind fun o => match o with
    | .rt d => some d
    | .nx _ => some .none := by
  have a4 := mul_start q.a.h1 q.a.h3
  have a5 := mul_start q.b.h1 q.b.h3
  have e : PyData.tuple [eSt (List.replicate one.length []), eSt (List.replicate other.length [])] = eJ (startJ one other) := rfl
  have e0 : PyData.tuple [.bool false, .tuple []] = eS [] := rfl
  have e1 : gPar 3 4 (cOf (eLst (aCons (eTup (aCons (eB gMul (eTup (aCons (eTup (aCons (eC (.bool false)) (aCons (eTup aNil) aNil))) aNil)) (eCall gLen (aCons (eVar 0) aNil))) (aCons (eB gMul (eTup (aCons (eTup (aCons (eC (.bool false)) (aCons (eTup aNil) aNil))) aNil)) (eCall gLen (aCons (eVar 1) aNil))) aNil))) aNil))) (cOf (eC (.int 0))) [.d (eC' one), .d (eC' other), .d (.int (w : Nat)), .no, .no, .no, .no, .no, .no, .no, .no, .no] = some (.nx [.d (eC' one), .d (eC' other), .d (.int (w : Nat)), .d (.list [eJ (startJ one other)]), .d (.int 0), .no, .no, .no, .no, .no, .no, .no]) := by
    simp [a4, a5, e, e0, -tupJ]
  have e2 : gSet 5 (cDisp1 (eB gIx (eVar 3) (eC (.int 0))) (eC (.int 0))) [.d (eC' one), .d (eC' other), .d (.int (w : Nat)), .d (.list [eJ (startJ one other)]), .d (.int 0), .no, .no, .no, .no, .no, .no, .no] = some (.nx (EL one other w [(startJ one other, 0)] (jL [startJ one other]) 0 .no .no .no .no .no .no)) := by
    rw [xSet, disp1_J (p := startJ one other) (x := .int 0) (by simp only [xB, xC, xVar, List.getElem?_cons_zero, List.getElem?_cons_succ, Option.bind_some, xIx0L]) rfl]
    rfl
  rw [seq_k, e1, kont_nx, seq_k, e2, kont_nx, seq_k]
theorem chained_sem (q : Qn one other w) {r : Fd} (h : lwhile one other w fuel [(startJ one other, 0)] [startJ one other] 0 = some r) : WF one other r ∧ s_law_chained [eC' one, eC' other, .int (w : Nat)] = some (.dict (dct vI r)) := by
  obtain ⟨wf, F, t', y6, y7, y8, y9, y10, y11, L⟩ := lwhile_loop q fuel [startJ one other] [(startJ one other, 0)] 0 .no .no .no .no .no .no r (fun x hx => by simp at hx; subst hx; exact jv_start q) (wf_start q 0) h
  refine ⟨wf, ?_⟩
  unfold s_law_chained runF
  rw [b_chained]
  refine (lfront_env q _).trans ?_
  rw [L, kont_nx]
  rfl
end
end SV

/-! M18: the two searches, side by side. -/
namespace SV
open PySem L2 DL
section
variable {one other : List Mac} {w : Nat}
abbrev keysO {α : Type} (c : List (J × α)) : List J := c.map (·.1)
def look (c : Cm) (x : J) : Option (Option (J × Ev)) := (c.find? fun q => decide (q.1 = x)).map (·.2)
inductive Tr (c : Cm) : J → List Ev → Prop where
  | start {x : J} (h : look c x = some none) : Tr c x []
  | step {x y : J} {e : Ev} {es : List Ev} (h : look c x = some (some (y, e))) (t : Tr c y es) : Tr c x (es ++ [e])
inductive Pth (one other : List Mac) (w : Nat) : List Ev → J → Prop where
  | nil : Pth one other w [] (startJ one other)
  | snoc {es : List Ev} {x y : J} {e : Ev} (p : Pth one other w es x) (h : (e, y) ∈ nx one other w x) : Pth one other w (es ++ [e]) y
theorem look_add {c : Cm} {x : J} {v : Option (J × Ev)} (h : look c x = some v) (p : J × Option (J × Ev)) : look (c ++ [p]) x = some v := by
  unfold look at h ⊢
  rw [List.find?_append]
  cases e : c.find? fun q => decide (q.1 = x) with
  | none => rw [e] at h; cases h
  | some y => rw [e] at h; exact h
theorem look_new {c : Cm} {x : J} (v : Option (J × Ev)) (h : x ∉ keysO c) : look (c ++ [(x, v)]) x = some v := by
  unfold look
  rw [List.find?_append]
  have : (c.find? fun q => decide (q.1 = x)) = none := by
    rw [List.find?_eq_none]
    intro q hq z
    exact h (List.mem_map.mpr ⟨q, hq, of_decide_eq_true z⟩)
  rw [this]
  simp
theorem Tr.add {c : Cm} {x : J} {es : List Ev} (h : Tr c x es) (p : J × Option (J × Ev)) : Tr (c ++ [p]) x es := by
  induction h with
  | start h => exact .start (look_add h p)
  | step h _ ih => exact .step (look_add h p) ih
abbrev Tri := J × Ev × J
def ptri : List Tri → Cm → List J → PR
  | [], c, l => .go c l
  | (h, e, b) :: r, c, l => if (keysO c).contains b = true then ptri r c l else if df b = true then .ret (c ++ [(b, some (h, e))]) b else ptri r (c ++ [(b, some (h, e))]) (l ++ [b])
def ltri (t : Nat) : List Tri → Fd → List J → Fd × List J
  | [], f, l => (f, l)
  | (_, _, b) :: r, f, l => if (keysO f).contains b = true then ltri t r f l else ltri t r (f ++ [(b, t)]) (l ++ [b])
def tris (one other : List Mac) (w : Nat) (h : J) : List Tri := (nx one other w h).map fun p => (h, p.1, p.2)
theorem ptri_app : ∀ (A B : List Tri) (c : Cm) (l : List J), ptri (A ++ B) c l = match ptri A c l with
    | .go c l => ptri B c l
    | .ret c b => .ret c b
  | [], B, c, l => rfl
  | (h, e, b) :: A, B, c, l => by
    rw [List.cons_append, ptri, ptri]
    by_cases hc : (keysO c).contains b = true
    · rw [if_pos hc, if_pos hc]; exact ptri_app A B c l
    · rw [if_neg hc, if_neg hc]
      by_cases hd : df b = true
      · rw [if_pos hd, if_pos hd]
      · rw [if_neg hd, if_neg hd]; exact ptri_app A B _ _
theorem ltri_app (t : Nat) : ∀ (A B : List Tri) (f : Fd) (l : List J), ltri t (A ++ B) f l = ltri t B (ltri t A f l).1 (ltri t A f l).2
  | [], B, f, l => rfl
  | (h, e, b) :: A, B, f, l => by
    rw [List.cons_append, ltri, ltri]
    by_cases hc : (keysO f).contains b = true
    · rw [if_pos hc, if_pos hc]; exact ltri_app t A B f l
    · rw [if_neg hc, if_neg hc]; exact ltri_app t A B _ _
theorem pgo_tri (h : J) : ∀ (L : List (Ev × J)) (c : Cm) (l : List J), pgo h L c l = ptri (L.map fun p => (h, p.1, p.2)) c l
  | [], _, _ => rfl
  | (e, b) :: L, c, l => by
    rw [List.map_cons, pgo, ptri, pgo_tri h L, pgo_tri h L]
theorem lgo_tri (h : J) (t : Nat) : ∀ (L : List (Ev × J)) (f : Fd) (l : List J), lgo t L f l = ltri t (L.map fun p => (h, p.1, p.2)) f l
  | [], _, _ => rfl
  | (e, b) :: L, f, l => by
    rw [List.map_cons, lgo, ltri, lgo_tri h t L, lgo_tri h t L]
theorem prow_tri : ∀ (front : List J) (c : Cm) (l : List J), prow one other w front c l = ptri (front.flatMap (tris one other w)) c l
  | [], _, _ => rfl
  | h :: hs, c, l => by
    rw [List.flatMap_cons, ptri_app, prow, pgo_tri]
    unfold tris
    cases ptri ((nx one other w h).map fun p => (h, p.1, p.2)) c l with
    | go c l => exact prow_tri hs c l
    | ret c b => rfl
theorem lrow_tri (t : Nat) : ∀ (front : List J) (f : Fd) (l : List J), lrow one other w t front f l = ltri t (front.flatMap (tris one other w)) f l
  | [], _, _ => rfl
  | h :: hs, f, l => by
    rw [List.flatMap_cons, ltri_app, lrow, lgo_tri h]
    exact lrow_tri t hs _ _
/-- the law goes on -/
theorem ltri_more (t : Nat) : ∀ (T : List Tri) (f : Fd) (l : List J), (∀ p ∈ f, df p.1 = true → p.2 = t) → (∀ p ∈ (ltri t T f l).1, df p.1 = true → p.2 = t) ∧ (∀ x ∈ keysO f, x ∈ keysO (ltri t T f l).1) ∧ (∀ x ∈ l, x ∈ (ltri t T f l).2)
  | [], f, l, h => ⟨h, fun _ h => h, fun _ h => h⟩
  | (h0, e, b) :: T, f, l, h => by
    rw [ltri]
    by_cases hc : (keysO f).contains b = true
    · rw [if_pos hc]; exact ltri_more t T f l h
    · rw [if_neg hc]
      obtain ⟨i1, i2, i3⟩ := ltri_more t T (f ++ [(b, t)]) (l ++ [b]) (fun p hp hd => by
        rcases List.mem_append.mp hp with hp | hp
        · exact h p hp hd
        · simp at hp; subst hp; rfl)
      refine ⟨i1, fun x hx => i2 x ?_, fun x hx => i3 x (List.mem_append_left _ hx)⟩
      rw [keysO, List.map_append]
      exact List.mem_append_left _ hx
theorem ptri_len : ∀ (T : List Tri) (c : Cm) (l : List J) (c' : Cm) (l' : List J), ptri T c l = .go c' l' → c'.length + l.length = c.length + l'.length
  | [], c, l, c', l', h => by cases h; rfl
  | (h0, e, b) :: T, c, l, c', l', h => by
    rw [ptri] at h
    by_cases hc : (keysO c).contains b = true
    · rw [if_pos hc] at h; exact ptri_len T c l c' l' h
    · rw [if_neg hc] at h
      by_cases hd : df b = true
      · rw [if_pos hd] at h; cases h
      · rw [if_neg hd] at h
        have := ptri_len T _ _ c' l' h
        simp at this
        omega
/-- a state with its play of n events -/
def Has (one other : List Mac) (w : Nat) (c : Cm) (n : Nat) (x : J) : Prop := ∃ es, es.length = n ∧ Tr c x es ∧ Pth one other w es x
theorem Has.add {c : Cm} {n : Nat} {x : J} (h : Has one other w c n x) (p : J × Option (J × Ev)) : Has one other w (c ++ [p]) n x := by
  obtain ⟨es, h1, h2, h3⟩ := h
  exact ⟨es, h1, h2.add p, h3⟩
structure Mid (one other : List Mac) (w n : Nat) (K0 : List J) (c : Cm) (f : Fd) (l : List J) : Prop where
  kk : keysO c = keysO f
  hl : ∀ x ∈ l, x ∈ keysO c ∧ Has one other w c (n + 1) x
  old : ∀ x ∈ keysO c, x ∈ l ∨ x ∈ K0
  hf : ∀ p ∈ f, df p.1 = true → p.2 = n + 1
  hd : ∀ x ∈ keysO c, df x = false
theorem tri_both (n : Nat) (K0 : List J) : ∀ (T : List Tri) (c : Cm) (f : Fd) (l : List J), (∀ t ∈ T, Has one other w c n t.1 ∧ (t.2.1, t.2.2) ∈ nx one other w t.1) → Mid one other w n K0 c f l →
    match ptri T c l with
    | .go c' l' => l' = (ltri (n + 1) T f l).2 ∧ Mid one other w n K0 c' (ltri (n + 1) T f l).1 l' ∧ (∀ t ∈ T, t.2.2 ∈ keysO c') ∧ (∀ x ∈ keysO c, x ∈ keysO c')
    | .ret c' b => Has one other w c' (n + 1) b ∧ df b = true ∧ b ∈ (ltri (n + 1) T f l).2 ∧ b ∈ keysO (ltri (n + 1) T f l).1 ∧ (∀ p ∈ (ltri (n + 1) T f l).1, df p.1 = true → p.2 = n + 1)
  | [], c, f, l, _, m => ⟨rfl, m, fun _ h => (nomatch h), fun _ h => h⟩
  | (h, e, b) :: T, c, f, l, hT, m => by
    have hT' : ∀ p, ∀ t ∈ T, Has one other w (c ++ [p]) n t.1 ∧ (t.2.1, t.2.2) ∈ nx one other w t.1 := fun p t ht => ⟨(hT t (List.mem_cons_of_mem _ ht)).1.add p, (hT t (List.mem_cons_of_mem _ ht)).2⟩
    obtain ⟨g1, g2⟩ := hT (h, e, b) List.mem_cons_self
    rw [ptri, ltri, ← m.kk]
    by_cases hc : (keysO c).contains b = true
    · rw [if_pos hc, if_pos hc]
      have ih := tri_both n K0 T c f l (fun t ht => hT t (List.mem_cons_of_mem _ ht)) m
      cases hp : ptri T c l with
      | ret c' b' => rw [hp] at ih; exact ih
      | go c' l' =>
        rw [hp] at ih
        obtain ⟨i1, i2, i3, i4⟩ := ih
        refine ⟨i1, i2, fun t ht => ?_, i4⟩
        rcases List.mem_cons.mp ht with rfl | ht
        · exact i4 b (List.contains_iff_mem.mp hc)
        · exact i3 t ht
    · rw [if_neg hc, if_neg hc]
      have nb : b ∉ keysO c := fun z => hc (List.contains_iff_mem.mpr z)
      have hb : Has one other w (c ++ [(b, some (h, e))]) (n + 1) b := by
        obtain ⟨es, k1, k2, k3⟩ := g1
        exact ⟨es ++ [e], by rw [List.length_append, k1]; rfl, .step (look_new _ nb) (k2.add _), .snoc k3 g2⟩
      have hf' : ∀ p ∈ f ++ [(b, n + 1)], df p.1 = true → p.2 = n + 1 := fun p hp hd => by
        rcases List.mem_append.mp hp with hp | hp
        · exact m.hf p hp hd
        · simp at hp; subst hp; rfl
      by_cases hd : df b = true
      · rw [if_pos hd]
        obtain ⟨i1, i2, i3⟩ := ltri_more (n + 1) T (f ++ [(b, n + 1)]) (l ++ [b]) hf'
        exact ⟨hb, hd, i3 b (by simp), i2 b (by simp [keysO]), i1⟩
      · rw [if_neg hd]
        have m' : Mid one other w n K0 (c ++ [(b, some (h, e))]) (f ++ [(b, n + 1)]) (l ++ [b]) := by
          refine ⟨?_, ?_, ?_, hf', ?_⟩
          · have := m.kk
            unfold keysO at this ⊢
            rw [List.map_append, List.map_append, this]; rfl
          · intro x hx
            rcases List.mem_append.mp hx with hx | hx
            · obtain ⟨k1, k2⟩ := m.hl x hx
              exact ⟨by rw [keysO, List.map_append]; exact List.mem_append_left _ k1, k2.add _⟩
            · simp at hx
              subst hx
              exact ⟨by simp [keysO], hb⟩
          · intro x hx
            rw [keysO, List.map_append] at hx
            rcases List.mem_append.mp hx with hx | hx
            · exact (m.old x hx).imp (fun z => List.mem_append_left _ z) id
            · simp at hx
              subst hx
              exact .inl (by simp)
          · intro x hx
            rw [keysO, List.map_append] at hx
            rcases List.mem_append.mp hx with hx | hx
            · exact m.hd x hx
            · simp at hx
              subst hx
              simpa using hd
        have ih := tri_both n K0 T _ _ _ (hT' _) m'
        cases hp : ptri T (c ++ [(b, some (h, e))]) (l ++ [b]) with
        | ret c' b' => rw [hp] at ih; exact ih
        | go c' l' =>
          rw [hp] at ih
          obtain ⟨i1, i2, i3, i4⟩ := ih
          refine ⟨i1, i2, fun t ht => ?_, fun x hx => i4 x (by rw [keysO, List.map_append]; exact List.mem_append_left _ hx)⟩
          rcases List.mem_cons.mp ht with rfl | ht
          · exact i4 b (by simp [keysO])
          · exact i3 t ht
/-- ahead of round n + 1 -/
structure Rnd (one other : List Mac) (w n : Nat) (c : Cm) (f : Fd) (front : List J) : Prop where
  wf : WF one other c
  kk : keysO c = keysO f
  fr : ∀ x ∈ front, x ∈ keysO c ∧ Has one other w c n x
  all : ∀ es x, es.length ≤ n → Pth one other w es x → x ∈ keysO c
  cl : ∀ x ∈ keysO c, x ∉ front → ∀ p ∈ nx one other w x, p.2 ∈ keysO c
  hd : ∀ x ∈ keysO c, df x = false
theorem pth_last {es : List Ev} {x : J} {n : Nat} (h : Pth one other w es x) (l : es.length = n + 1) : ∃ es0 y e, es0.length = n ∧ Pth one other w es0 y ∧ (e, x) ∈ nx one other w y := by
  cases h with
  | nil => cases l
  | snoc p h =>
    rw [List.length_append] at l
    exact ⟨_, _, _, Nat.succ.inj l, p, h⟩
theorem mem_tris {front : List J} {t : Tri} (h : t ∈ front.flatMap (tris one other w)) : t.1 ∈ front ∧ (t.2.1, t.2.2) ∈ nx one other w t.1 := by
  obtain ⟨x, hx, ht⟩ := List.mem_flatMap.mp h
  obtain ⟨p, hp, rfl⟩ := List.mem_map.mp ht
  exact ⟨hx, hp⟩
theorem Rnd.mid {n : Nat} {c : Cm} {f : Fd} {front : List J} (r : Rnd one other w n c f front) : Mid one other w n (keysO c) c f [] :=
  ⟨r.kk, fun _ h => (nomatch h), fun _ h => .inr h, fun p hp hd => (by
    have := r.hd p.1 (by rw [r.kk]; exact List.mem_map.mpr ⟨p, hp, rfl⟩)
    rw [this] at hd; cases hd), r.hd⟩
theorem Rnd.next {n : Nat} {c : Cm} {f : Fd} {front : List J} (r : Rnd one other w n c f front) {c' : Cm} {f' : Fd} {l : List J} (wf : WF one other c') (m : Mid one other w n (keysO c) c' f' l) (ht : ∀ t ∈ front.flatMap (tris one other w), t.2.2 ∈ keysO c') (hk : ∀ x ∈ keysO c, x ∈ keysO c') : Rnd one other w (n + 1) c' f' l := by
  have suc : ∀ x ∈ keysO c, ∀ p ∈ nx one other w x, p.2 ∈ keysO c' := fun x hx p hp => by
    by_cases hf : x ∈ front
    · exact ht (x, p.1, p.2) (List.mem_flatMap.mpr ⟨x, hf, List.mem_map.mpr ⟨p, hp, rfl⟩⟩)
    · exact hk _ (r.cl x hx hf p hp)
  refine ⟨wf, m.kk, m.hl, fun es x hl hp => ?_, fun x hx hn p hp => ?_, m.hd⟩
  · by_cases hz : es.length ≤ n
    · exact hk x (r.all es x hz hp)
    · obtain ⟨es0, y, e, k1, k2, k3⟩ := pth_last hp (show es.length = n + 1 by omega)
      exact suc y (r.all es0 y (by omega) k2) (e, x) k3
  · exact suc x ((m.old x hx).resolve_left hn) p hp
theorem bfs (q : Qn one other w) : ∀ (N n : Nat) (c : Cm) (f : Fd) (front : List J), Rnd one other w n c f front → (front = [] ∧ 1 ≤ N ∨ (joint one other).length + 2 ≤ N + c.length) →
    ∃ rP rL, pwhile one other w N c front = some rP ∧ lwhile one other w N f front n = some rL ∧
      match rP with
      | none => (∀ p ∈ rL, df p.1 = false) ∧ ∀ es x, Pth one other w es x → df x = false
      | some (c', b) => ∃ k, Has one other w c' k b ∧ df b = true ∧ b ∈ keysO rL ∧ (∀ p ∈ rL, df p.1 = true → p.2 = k) ∧ ∀ es x, es.length < k → Pth one other w es x → df x = false
  | 0, n, c, f, front, r, hN => by
    exfalso
    have := jv_len q r.wf.nd r.wf.jv
    rw [List.length_map] at this
    rcases hN with ⟨_, h⟩ | h <;> omega
  | N + 1, n, c, f, front, r, hN => by
    have hc := jv_len q r.wf.nd r.wf.jv
    rw [List.length_map] at hc
    by_cases hz : front.isEmpty = true
    · have hz' : front = [] := by simpa using hz
      refine ⟨none, f, by rw [pwhile, if_pos hz], by rw [lwhile, if_pos hz], fun p hp => r.hd p.1 (by rw [r.kk]; exact List.mem_map.mpr ⟨p, hp, rfl⟩), fun es x hp => r.hd x ?_⟩
      induction hp with
      | nil => exact r.all [] _ (Nat.zero_le _) .nil
      | snoc p h ih => exact r.cl _ ih (by rw [hz']; exact fun z => nomatch z) _ h
    · have hN' : (joint one other).length + 2 ≤ (N + 1) + c.length := by
        rcases hN with ⟨h, _⟩ | h
        · rw [h] at hz; exact absurd rfl hz
        · exact h
      have B := tri_both (one := one) (other := other) (w := w) n (keysO c) (front.flatMap (tris one other w)) c f [] (fun t ht => ⟨(r.fr _ (mem_tris ht).1).2, (mem_tris ht).2⟩) r.mid
      have L := prow_loop q (jL front) front c [] .no .no .no (fun x hx => r.wf.jv x (r.fr x hx).1) r.wf (Nat.zero_le _) (fun _ h => nomatch h)
      rw [pwhile, lwhile, if_neg hz, if_neg hz, lrow_tri]
      rw [prow_tri] at L ⊢
      cases hg : ptri (front.flatMap (tris one other w)) c [] with
      | ret c' b =>
        rw [hg] at B
        obtain ⟨b1, b2, b3, b4, b5⟩ := B
        have hne : ((ltri (n + 1) (front.flatMap (tris one other w)) f []).2.filter df).isEmpty = false := by
          cases hq : ((ltri (n + 1) (front.flatMap (tris one other w)) f []).2.filter df) with
          | nil =>
            have : b ∈ ((ltri (n + 1) (front.flatMap (tris one other w)) f []).2.filter df) := List.mem_filter.mpr ⟨b3, b2⟩
            rw [hq] at this; cases this
          | cons => rfl
        rw [hne]
        match N, hN' with
        | 0, hN' => omega
        | N + 1, _ =>
          refine ⟨some (c', b), _, rfl, rfl, n + 1, b1, b2, b4, b5, fun es x hl hp => r.hd x (r.all es x (by omega) hp)⟩
      | go c' l' =>
        rw [hg] at B L
        obtain ⟨b1, b2, b3, b4⟩ := B
        obtain ⟨l1, _, _⟩ := L
        have r' := r.next l1 b2 b3 b4
        rw [← b1]
        have hem : (l'.filter df).isEmpty = true := by
          have : l'.filter df = [] := by
            rw [List.filter_eq_nil_iff]
            intro x hx
            rw [b2.hd x (b2.hl x hx).1]; simp
          rw [this]; rfl
        rw [if_pos hem]
        refine bfs q N (n + 1) c' _ l' r' ?_
        have hg' := ptri_len _ _ _ _ _ hg
        simp at hg'
        cases l' with
        | nil => exact .inl ⟨rfl, by omega⟩
        | cons x xs =>
          rw [List.length_cons] at hg'
          exact .inr (by omega)
end
end SV

/-! M19: a shortest play that tells two chains apart is short. -/
namespace SV
open PySem L2 DL
theorem exists_least {P : Nat → Prop} (h : ∃ n, P n) : ∃ n, P n ∧ ∀ m, m < n → ¬ P m := by
  obtain ⟨n, hn⟩ := h
  induction n using Nat.strongRecOn with
  | ind n ih =>
    by_cases hm : ∃ m, m < n ∧ P m
    · obtain ⟨m, h1, h2⟩ := hm
      exact ih m h1 h2
    · exact ⟨n, hn, fun m h1 h2 => hm ⟨m, h1, h2⟩⟩
theorem countP_le' {α : Type} {p q : α → Bool} (h : ∀ x, p x = true → q x = true) : ∀ l : List α, l.countP p ≤ l.countP q
  | [] => by simp
  | a :: l => by
    have ih := countP_le' h l
    rw [List.countP_cons, List.countP_cons]
    by_cases hp : p a = true
    · rw [if_pos hp, if_pos (h a hp)]; omega
    · rw [if_neg hp]; omega
theorem countP_lt' {α : Type} {p q : α → Bool} (h : ∀ x, p x = true → q x = true) : ∀ {l : List α} {x : α}, x ∈ l → q x = true → p x = false → l.countP p < l.countP q
  | a :: l, x, hx, hq, hp => by
    rw [List.countP_cons, List.countP_cons]
    rcases List.mem_cons.mp hx with rfl | hx
    · have := countP_le' h l
      rw [if_pos hq, hp]
      simp
      omega
    · have ih := countP_lt' h hx hq hp
      by_cases hp : p a = true
      · rw [if_pos hp, if_pos (h a hp)]; omega
      · rw [if_neg hp]; omega
section
variable {β : Type}
/-- an equivalence, as a relation of places -/
structure Eqv (E : β → β → Prop) : Prop where
  r : ∀ x, E x x
  s : ∀ {x y}, E x y → E y x
  t : ∀ {x y z}, E x y → E y z → E x z
noncomputable def rep (E : β → β → Prop) (B : List β) (i : Nat) : Bool := @decide (∀ j, j < i → ∀ x y, B[j]? = some x → B[i]? = some y → ¬ E x y) (Classical.propDecidable _)
noncomputable def cnt (E : β → β → Prop) (B : List β) : Nat := (List.range B.length).countP (rep E B)
theorem rep_of {E : β → β → Prop} {B : List β} {i : Nat} : rep E B i = true ↔ ∀ j, j < i → ∀ x y, B[j]? = some x → B[i]? = some y → ¬ E x y := by
  unfold rep
  exact @decide_eq_true_iff _ (Classical.propDecidable _)
theorem cnt_lt {E E' : β → β → Prop} {B : List β} (e : Eqv E) (e' : Eqv E') (sub : ∀ x y, E' x y → E x y) {f g : β} (hf : f ∈ B) (hg : g ∈ B) (h : E f g) (h' : ¬ E' f g) : cnt E B < cnt E' B := by
  have least : ∀ u, u ∈ B → ∃ i x, i < B.length ∧ B[i]? = some x ∧ E' x u ∧ rep E' B i = true := by
    intro u hu
    obtain ⟨i, hi, hx⟩ := List.mem_iff_getElem.mp hu
    obtain ⟨n, ⟨x, h1, h2⟩, h3⟩ := exists_least (P := fun n => ∃ x, B[n]? = some x ∧ E' x u) ⟨i, u, by rw [List.getElem?_eq_getElem hi, hx], e'.r u⟩
    refine ⟨n, x, ?_, h1, h2, rep_of.mpr fun j hj y z hy hz hE => ?_⟩
    · have := (List.getElem?_eq_some_iff.mp h1).1
      exact this
    · rw [h1] at hz
      cases hz
      exact h3 j hj ⟨y, hy, e'.t hE h2⟩
  obtain ⟨a, x, ha, hx, hxf, ra⟩ := least f hf
  obtain ⟨b, y, hb, hy, hyg, rb⟩ := least g hg
  have hxy : E x y := e.t (sub _ _ hxf) (e.t h (e.s (sub _ _ hyg)))
  have up : ∀ i, rep E B i = true → rep E' B i = true := fun i hi => rep_of.mpr fun j hj u v hu hv z => rep_of.mp hi j hj u v hu hv (sub _ _ z)
  have hab : a ≠ b := by
    intro z
    subst z
    rw [hx] at hy
    cases hy
    exact h' (e'.t (e'.s hxf) hyg)
  unfold cnt
  by_cases ga : rep E B a = true
  · have gb : rep E B b = false := by
      cases hr : rep E B b with
      | false => rfl
      | true =>
        exfalso
        rcases Nat.lt_or_gt_of_ne hab with z | z
        · exact rep_of.mp hr a z x y hx hy hxy
        · exact rep_of.mp ga b z y x hy hx (e.s hxy)
    exact countP_lt' up (List.mem_range.mpr hb) rb gb
  · exact countP_lt' up (List.mem_range.mpr ha) ra (by simpa using ga)
theorem cnt_le (E : β → β → Prop) (B : List β) : cnt E B ≤ B.length := by
  have := List.countP_le_length (p := rep E B) (l := List.range B.length)
  rw [List.length_range] at this
  exact this
/-- k refinements need more than k places -/
theorem moore {E : Nat → β → β → Prop} {B : List β} (e : ∀ n, Eqv (E n)) (sub : ∀ n x y, E (n + 1) x y → E n x y) : ∀ k, (∀ j, j < k → ∃ f g, f ∈ B ∧ g ∈ B ∧ E j f g ∧ ¬ E (j + 1) f g) → k ≤ B.length := by
  intro k h
  have : ∀ n, n ≤ k → n ≤ cnt (E n) B := by
    intro n
    induction n with
    | zero => intro _; exact Nat.zero_le _
    | succ n ih =>
      intro hn
      obtain ⟨f, g, h1, h2, h3, h4⟩ := h n hn
      have := cnt_lt (e n) (e (n + 1)) (sub n) h1 h2 h3 h4
      have := ih (by omega)
      omega
  exact Nat.le_trans (this k (Nat.le_refl _)) (cnt_le _ _)
end
section
variable {one other : List Mac} {w : Nat}
def act (ms : List Mac) (w : Nat) (rs : List Row) (e : Ev) : List Row := if (evW w).contains e = true ∧ canT (rs.headD []) e = true then linkT ms rs (some e) else rs
def run (ms : List Mac) (w : Nat) (rs : List Row) (u : List Ev) : List Row := u.foldl (act ms w) rs
def actJ (one other : List Mac) (w : Nat) (p : J) (e : Ev) : J := if (evW w).contains e = true ∧ canT (p.1.headD []) e = true then stepJ one other p e else p
def runJ (one other : List Mac) (w : Nat) (p : J) (u : List Ev) : J := u.foldl (actJ one other w) p
theorem actJ_eq (q : Qn one other w) {p : J} (h : JV one other p) (e : Ev) : actJ one other w p e = (act one w p.1 e, act other w p.2 e) ∧ JV one other (actJ one other w p e) := by
  unfold actJ act
  by_cases he : (evW w).contains e = true
  · have hm : e ∈ evW w := List.contains_iff_mem.mp he
    have hl := Nat.lt_of_lt_of_le (evW_lt hm) q.w3
    have same : canT (p.2.headD []) e = canT (p.1.headD []) e := by
      obtain ⟨ks, h1, h2⟩ := h
      unfold canT
      rw [(h1.head q.a).2.2 _ hl, (h2.head q.b).2.2 _ hl]
    by_cases hc : canT (p.1.headD []) e = true
    · rw [if_pos ⟨he, hc⟩, if_pos ⟨he, hc⟩, if_pos ⟨he, same.trans hc⟩]
      exact ⟨rfl, h.step q ⟨hm, hc⟩⟩
    · rw [if_neg (fun z => hc z.2), if_neg (fun z => hc z.2), if_neg (fun z => hc (same.symm.trans z.2))]
      exact ⟨rfl, h⟩
  · rw [if_neg (fun z => he z.1), if_neg (fun z => he z.1), if_neg (fun z => he z.1)]
    exact ⟨rfl, h⟩
theorem runJ_eq (q : Qn one other w) : ∀ (u : List Ev) {p : J}, JV one other p → runJ one other w p u = (run one w p.1 u, run other w p.2 u) ∧ JV one other (runJ one other w p u)
  | [], p, h => ⟨rfl, h⟩
  | e :: u, p, h => by
    obtain ⟨h1, h2⟩ := actJ_eq q h e
    obtain ⟨i1, i2⟩ := runJ_eq q u h2
    refine ⟨?_, i2⟩
    show runJ one other w (actJ one other w p e) u = _
    rw [i1, h1]; rfl
theorem nx_act {p y : J} {e : Ev} (h : (e, y) ∈ nx one other w p) : actJ one other w p e = y ∧ En1 w p e := by
  unfold nx at h
  obtain ⟨e', he, hz⟩ := List.mem_map.mp h
  cases hz
  have m := enab_mem he
  exact ⟨if_pos ⟨List.contains_iff_mem.mpr m.mem, m.can⟩, m⟩
theorem pth_jv (q : Qn one other w) {es : List Ev} {x : J} (h : Pth one other w es x) : JV one other x := by
  induction h with
  | nil => exact jv_start q
  | snoc p h ih =>
    obtain ⟨h1, h2⟩ := nx_act h
    rw [← h1]
    exact (actJ_eq q ih _).2
theorem pth_cut {es : List Ev} {x : J} (h : Pth one other w es x) : ∀ i, i ≤ es.length → ∃ y, Pth one other w (es.take i) y ∧ runJ one other w y (es.drop i) = x := by
  induction h with
  | nil => intro i hi; exact ⟨_, by rw [List.take_nil]; exact .nil, by rw [List.drop_nil]; rfl⟩
  | @snoc es x z e p h ih =>
    intro i hi
    by_cases hl : i ≤ es.length
    · obtain ⟨y, h1, h2⟩ := ih i hl
      refine ⟨y, ?_, ?_⟩
      · rw [List.take_append_of_le_length hl]; exact h1
      · rw [List.drop_append_of_le_length hl]
        unfold runJ at h2 ⊢
        rw [List.foldl_append, h2]
        exact (nx_act h).1
    · have : i = (es ++ [e]).length := by
        rw [List.length_append] at hi ⊢
        simp at hi ⊢
        omega
      subst this
      exact ⟨z, by rw [List.take_length]; exact .snoc p h, by rw [List.drop_length]; rfl⟩
theorem pth_run : ∀ (u : List Ev) {es : List Ev} {x : J}, Pth one other w es x → ∃ es', es'.length ≤ es.length + u.length ∧ Pth one other w es' (runJ one other w x u)
  | [], es, x, h => ⟨es, by simp, h⟩
  | e :: u, es, x, h => by
    show ∃ es', es'.length ≤ _ ∧ Pth one other w es' (runJ one other w (actJ one other w x e) u)
    by_cases hc : (evW w).contains e = true ∧ canT (x.1.headD []) e = true
    · have h1 : actJ one other w x e = stepJ one other x e := if_pos hc
      have hn : (e, stepJ one other x e) ∈ nx one other w x := List.mem_map.mpr ⟨e, List.mem_filter.mpr ⟨List.contains_iff_mem.mp hc.1, hc.2⟩, rfl⟩
      obtain ⟨es', i1, i2⟩ := pth_run u (h.snoc hn)
      rw [h1]
      refine ⟨es', ?_, i2⟩
      simp at i1 ⊢
      omega
    · have h1 : actJ one other w x e = x := if_neg hc
      obtain ⟨es', i1, i2⟩ := pth_run u h
      rw [h1]
      exact ⟨es', by simp; omega, i2⟩
def beh (ms : List Mac) (w : Nat) (rs : List Row) (u : List Ev) : List Int := outT (run ms w rs u)
def Ek (k : Nat) (f g : List Ev → List Int) : Prop := ∀ u, u.length ≤ k → f u = g u
theorem short (q : Qn one other w) {es : List Ev} {b : J} (h : Pth one other w es b) (hd : df b = true) (hm : ∀ es' x, es'.length < es.length → Pth one other w es' x → df x = false) : es.length ≤ 260 := by
  have B := moore (E := Ek) (B := (UU (one.map (·.v))).map (beh one w) ++ (UU (other.map (·.v))).map (beh other w)) (fun n => ⟨fun _ _ _ => rfl, fun z u hu => (z u hu).symm, fun z z' u hu => (z u hu).trans (z' u hu)⟩) (fun n x y z u hu => z u (by omega)) es.length fun j hj => by
    obtain ⟨x, hx, hr⟩ := pth_cut h (es.length - (j + 1)) (by omega)
    have jx := pth_jv q hx
    have lx : (es.take (es.length - (j + 1))).length = es.length - (j + 1) := by rw [List.length_take]; omega
    refine ⟨beh one w x.1, beh other w x.2, ?_, ?_, ?_, ?_⟩
    · obtain ⟨ks, h1, _⟩ := jx
      exact List.mem_append_left _ (List.mem_map.mpr ⟨_, h1.inUU q.a, rfl⟩)
    · obtain ⟨ks, _, h2⟩ := jx
      exact List.mem_append_right _ (List.mem_map.mpr ⟨_, h2.inUU q.b, rfl⟩)
    · intro u hu
      obtain ⟨es', i1, i2⟩ := pth_run u hx
      have := hm es' _ (by omega) i2
      rw [(runJ_eq q u jx).1] at this
      unfold df at this
      unfold beh
      simpa using this
    · intro z
      have hz := z (es.drop (es.length - (j + 1))) (by rw [List.length_drop]; omega)
      rw [(runJ_eq q _ jx).1] at hr
      rw [← hr] at hd
      unfold df at hd
      unfold beh at hz
      rw [hz] at hd
      simp at hd
  have := q.a.small
  have := q.b.small
  rw [List.length_append, List.length_map, List.length_map] at B
  omega
end
end SV

/-! M20: play_to, is_play. -/
namespace SV
open PySem L2 DL
theorem dix_J (c : Cm) (x : J) : gDix (.dict (dct vO c)) (eJ x) = (look c x).map vO := by
  show (okKey (eJ x)).bind _ = _
  rw [okKey_J, Option.bind_some, lk_dct]
  unfold look
  cases c.find? fun q => decide (q.1 = x) <;> rfl
theorem play_loop (c : Cm) : ∀ {x : J} {es : List Ev}, Tr c x es → ∀ (N : Nat) (acc : List PyData) (c3 : Cell), es.length < N → acc.length + es.length < line →
    ∃ y d3, gWhile (tOf (eB gNotN (eB gDix (eVar 0) (eVar 1)) (eC .none))) (gSeq (gPut (.many [1, 3]) (eB gDix (eVar 0) (eVar 1))) (gApp 2 (eVar 3))) N [.d (.dict (dct vO c)), .d (eJ x), .ol acc, c3] = some (.nx [.d (.dict (dct vO c)), .d y, .ol (acc ++ es.reverse.map eE), d3]) := by
  intro x es h
  induction h with
  | @start x h =>
    intro N acc c3 hN hl
    match N, hN with
    | N + 1, _ =>
      have ht : tOf (eB gNotN (eB gDix (eVar 0) (eVar 1)) (eC .none)) [.d (.dict (dct vO c)), .d (eJ x), .ol acc, c3] = some false := by
        simp [dix_J, h, vO]
      refine ⟨eJ x, c3, ?_⟩
      rw [while_k _ _ _ _ ht]
      simp
  | @step x y e es h t ih =>
    intro N acc c3 hN hl
    rw [List.length_append] at hN hl
    simp at hN hl
    match N, hN with
    | N + 1, hN =>
      obtain ⟨z, d3, ih⟩ := ih N (acc ++ [eE e]) (.d (eE e)) (by omega) (by simp; omega)
      have ht : tOf (eB gNotN (eB gDix (eVar 0) (eVar 1)) (eC .none)) [.d (.dict (dct vO c)), .d (eJ x), .ol acc, c3] = some true := by
        simp [dix_J, h, vO]
      have hl' : acc.length < line := by omega
      have hb : gSeq (gPut (.many [1, 3]) (eB gDix (eVar 0) (eVar 1))) (gApp 2 (eVar 3)) [.d (.dict (dct vO c)), .d (eJ x), .ol acc, c3] = some (.nx [.d (.dict (dct vO c)), .d (eJ y), .ol (acc ++ [eE e]), .d (eE e)]) := by
        simp [dix_J, h, vO, hl']
      refine ⟨z, d3, ?_⟩
      rw [while_k _ _ _ _ ht, if_pos rfl, hb, kont_nx, ih]
      simp
def plD (es : List Ev) : PyData := .tuple (es.map eE)
theorem play_to_ok {c : Cm} {x : J} {es : List Ev} (h : Tr c x es) (hl : es.length ≤ 300) : s_play_to [.dict (dct vO c), eJ x] = some (plD es) := by
  have f1 : es.length < fuel := by unfold fuel; omega
  have f2 : ([] : List PyData).length + es.length < line := Nat.lt_of_le_of_lt (show _ ≤ 300 by simpa using hl) (by decide)
  obtain ⟨y, d3, L⟩ := play_loop c h fuel [] .no f1 f2
  unfold s_play_to runF b_play_to
  have e1 : gSet 2 (cLst aNil) [.d (.dict (dct vO c)), .d (eJ x), .no, .no] = some (.nx [.d (.dict (dct vO c)), .d (eJ x), .ol [], .no]) := rfl
  show ((gSeq _ _ [.d (.dict (dct vO c)), .d (eJ x), .no, .no]).bind _) = _
  rw [seq_k, e1, kont_nx, seq_k, L, kont_nx, plD]
  simp [eRevL]
/-! is_play -/
def pOK : List Nat → List Ev → Prop
  | _, [] => True
  | ks, e :: es => e.2 < 3 ∧ canK e ks = true ∧ pOK (appE e ks) es
theorem ins_mem {x k : Nat} : ∀ {l : List Nat}, k ∈ insN x l ↔ k = x ∨ k ∈ l
  | [] => by simp [insN]
  | y :: ys => by
    unfold insN
    split
    · simp
    · rw [List.mem_cons, List.mem_cons, ins_mem]
      constructor
      · rintro (h | h | h)
        · exact .inr (.inl h)
        · exact .inl h
        · exact .inr (.inr h)
      · rintro (h | h | h)
        · exact .inr (.inl h)
        · exact .inl h
        · exact .inr (.inr h)
theorem app_contains (e : Ev) (ks : List Nat) (k : Nat) : (appE e ks).contains k = if k = e.2 then e.1 else ks.contains k := by
  obtain ⟨b, x⟩ := e
  have c1 : ∀ l : List Nat, l.contains k = decide (k ∈ l) := fun l => by simp
  rw [c1, c1]
  unfold appE
  cases b
  · show decide (k ∈ ks.filter (· != x)) = _
    by_cases h : k = x
    · subst h; simp
    · simp [h]
  · show decide (k ∈ insN x ks) = _
    by_cases h : k = x
    · subst h; simp [ins_mem]
    · simp [h, ins_mem]
theorem f_isev : (evs.all fun e => sameO (s_is_event [eE e]) (.bool true) && (match gIn false (.str (if e.1 then "down" else "up")) (.tuple [.str "press", .str "lift"]) with
  | some (.bool false) => true
  | _ => false)) = true := by kernel_rfl
@[simp] theorem eq_bb (a b : Bool) : gEq (.bool a) (.bool b) = some (.bool (a == b)) := by cases a <;> cases b <;> kernel_rfl
@[simp] theorem eq_down (b : Bool) : gEq (.str (if b = true then "down" else "up")) (.str "down") = some (.bool b) := by cases b <;> kernel_rfl
@[simp] theorem in_pl (b : Bool) : gIn false (.str (if b = true then "down" else "up")) (.tuple [.str "press", .str "lift"]) = some (.bool false) := by cases b <;> kernel_rfl
theorem isev_ok {e : Ev} (h : e.2 < 3) : s_is_event [eE e] = some (.bool true) := by
  have f := all_at f_isev (mev h)
  rw [Bool.and_eq_true] at f
  exact sameO_eq f.1
@[simp] theorem xPutK (i : Nat) (fk fv : Fx) (env : En) : gPutK i fk fv env = (fv env).bind fun x => (fk env).bind fun y => (keyOf y).bind fun k => match env[i]? with
  | some (.ok kvs) => if kvs.length < line then some (.nx (env.set i (.ok (putP kvs k x)))) else none
  | _ => none := rfl
@[simp] theorem xGet2 (i : Nat) (fk fd : Fx) (env : En) : eGet2 i fk fd env = (fk env).bind fun y => (fd env).bind fun z => (keyOf y).bind fun k => match env[i]? with
  | some (.ok kvs) => some ((valP kvs k).getD z)
  | _ => none := rfl
@[simp] theorem key_i (i : Int) : keyOf (.int i) = some (.inl i) := rfl
theorem putP_len (kvs : List (Key × PyData)) (k : Key) (x : PyData) : (putP kvs k x).length ≤ kvs.length + 1 := by
  unfold putP
  split
  · rw [List.length_map]; omega
  · rw [List.length_append]; simp
theorem valP_map (k k' : Key) (x : PyData) (hn : k' ≠ k) : ∀ kvs : List (Key × PyData), valP (kvs.map fun kv => if kv.1 = k then (kv.1, x) else kv) k' = valP kvs k'
  | [] => rfl
  | p :: kvs => by
    have ih := valP_map k k' x hn kvs
    unfold valP at ih ⊢
    rw [List.map_cons, List.find?_cons, List.find?_cons]
    by_cases h : p.1 = k
    · have : ¬ (p.1 = k') := fun z => hn (z.symm.trans h)
      simp only [h, if_true]
      have h2 : ¬ (k = k') := fun z => hn z.symm
      simp only [h2, decide_false]
      exact ih
    · simp only [h, if_false]
      by_cases h2 : p.1 = k'
      · simp [h2]
      · simp only [h2, decide_false]; exact ih
theorem valP_put (kvs : List (Key × PyData)) (k k' : Key) (x : PyData) : valP (putP kvs k x) k' = if k' = k then some x else valP kvs k' := by
  unfold putP
  by_cases ha : (kvs.any fun kv => decide (kv.1 = k)) = true
  · rw [if_pos ha]
    by_cases hk : k' = k
    · subst hk
      rw [if_pos rfl]
      induction kvs with
      | nil => cases ha
      | cons p kvs ih =>
        unfold valP at ih ⊢
        rw [List.map_cons, List.find?_cons]
        by_cases h : p.1 = k'
        · simp [h]
        · simp only [h, if_false, decide_false]
          rw [List.any_cons] at ha
          simp only [h, decide_false, Bool.false_or] at ha
          exact ih ha
    · rw [if_neg hk]; exact valP_map k k' x hk kvs
  · rw [if_neg ha]
    unfold valP
    rw [List.find?_append]
    by_cases hk : k' = k
    · subst hk
      have : (kvs.find? fun kv => decide (kv.1 = k')) = none := by
        rw [List.find?_eq_none]
        intro q hq z
        exact ha (List.any_eq_true.mpr ⟨q, hq, z⟩)
      rw [this, if_pos rfl]
      simp
    · rw [if_neg hk]
      cases kvs.find? fun kv => decide (kv.1 = k') with
      | some y => rfl
      | none =>
        have : ¬ (k = k') := fun z => hk z.symm
        simp [this]
def Dwn (kvs : List (Key × PyData)) (ks : List Nat) : Prop := ∀ k : Nat, (valP kvs (.inl (k : Int))).getD (.bool false) = .bool (ks.contains k)
theorem fault_loop {T : PyData} : ∀ (es : List Ev) (ks : List Nat) (kvs : List (Key × PyData)) (n : Nat) (c3 c4 c5 : Cell), pOK ks es → Dwn kvs ks → kvs.length + es.length < line →
    ∃ k' d3 d4 d5, forGo (.many [3, 4]) (gSeq (gIf (ftNot (tOf (eCall (gN 1 s_is_event) (aCons (eVar 4) aNil)))) (gRet (eTup (aCons (eVar 3) aNil))) gNext) (gSeq (gSet 5 (cOf (eB gIx (eVar 4) (eC (.int 0))))) (gIf (tOf (eB (gIn false) (eVar 5) (eTup (aCons (eC (.str "press")) (aCons (eC (.str "lift")) aNil))))) (gSeq (gIf (tOf (eB gEq (eVar 1) (eB gEq (eVar 5) (eC (.str "press"))))) (gRet (eTup (aCons (eVar 3) aNil))) gNext) (gSet 1 (cOf (eNot (eVar 1))))) (gSeq (gIf (tOf (eB gEq (eGet2 2 (eB gIx (eVar 4) (eC (.int 1))) (eC (.bool false))) (eB gEq (eVar 5) (eC (.str "down"))))) (gRet (eTup (aCons (eVar 3) aNil))) gNext) (gPutK 2 (eB gIx (eVar 4) (eC (.int 1))) (eB gEq (eVar 5) (eC (.str "down"))))))))
      (enumD n (es.map eE)) [.d T, .d (.bool false), .ok kvs, c3, c4, c5] = some (.nx [.d T, .d (.bool false), .ok k', d3, d4, d5])
  | [], ks, kvs, n, c3, c4, c5, _, _, _ => ⟨kvs, c3, c4, c5, rfl⟩
  | e :: es, ks, kvs, n, c3, c4, c5, hp, hd, hl => by
    obtain ⟨p1, p2, p3⟩ := hp
    rw [List.length_cons] at hl
    have hl' : kvs.length < line := by omega
    have hi := isev_ok p1
    have hput := putP_len kvs (.inl (e.2 : Int)) (.bool e.1)
    have hd' : Dwn (putP kvs (.inl (e.2 : Int)) (.bool e.1)) (appE e ks) := fun k => by
      rw [valP_put, app_contains]
      by_cases hk : k = e.2
      · subst hk; simp
      · have : ¬ ((Sum.inl (k : Int) : Key) = .inl (e.2 : Int)) := by
          intro z
          injection z with z
          omega
        rw [if_neg this, if_neg hk]
        exact hd k
    obtain ⟨k', d3, d4, d5, ih⟩ := fault_loop (T := T) es (appE e ks) (putP kvs (.inl (e.2 : Int)) (.bool e.1)) (n + 1) (.d (.int (n : Nat))) (.d (eE e)) (.d (.str (if e.1 = true then "down" else "up"))) p3 hd' (by omega)
    refine ⟨k', d3, d4, d5, ?_⟩
    have hg := hd e.2
    have hx0 : gIx (eE e) (.int 0) = some (.str (if e.1 = true then "down" else "up")) := xIx0T _ _
    have hx1 : gIx (eE e) (.int 1) = some (.int e.2) := xIx1T _ _ _
    have hne : (ks.contains e.2 == e.1) = false := by
      unfold canK at p2
      cases hb : e.1 <;> rw [hb] at p2 <;> simp at p2 ⊢ <;> exact p2
    rw [List.map_cons, enumD, forGo]
    simp [hi, hx0, hx1, hg, hne, hl', -List.contains_eq_mem]
    exact ih
end SV

/-! M21: plays played. -/
namespace SV
open PySem L2 DL
@[simp] theorem xEnumD (fa : Fx) (env : En) : iEnumD fa env = (fa env).bind fun x => match x with
  | .tuple ds => some (enumD 0 ds)
  | _ => none := rfl
theorem fault_ok {es : List Ev} (h : pOK [] es) (hl : es.length ≤ 300) : s_play_fault [plD es] = some .none := by
  have h0 : Dwn [] [] := fun k => rfl
  obtain ⟨k', d3, d4, d5, L⟩ := fault_loop (T := plD es) es [] [] 0 .no .no .no h h0 (Nat.lt_of_le_of_lt (show _ ≤ 300 by simpa using hl) (by decide))
  have hl' : ¬ (300 < (es.length : Int)) := by omega
  unfold s_play_fault runF b_play_fault
  have e1 : gIf (ftOr (ftNot (tOf (eIsi "tuple" (eVar 0)))) (tOf (eB (gCmp fun i j => decide (j < i)) (eCall gLen (aCons (eVar 0) aNil)) (eC c_MOST_EVENTS)))) (gRet (eTup aNil)) gNext [.d (plD es), .no, .no, .no, .no, .no] = some (.nx [.d (plD es), .no, .no, .no, .no, .no]) := by
    simp [plD, c_MOST_EVENTS, hl']
  have e2 : gPar 1 2 (cOf (eC (.bool false))) (fun _ => some (.ok [])) [.d (plD es), .no, .no, .no, .no, .no] = some (.nx [.d (plD es), .d (.bool false), .ok [], .no, .no, .no]) := rfl
  have e3 : iEnumD (eVar 0) [.d (plD es), .d (.bool false), .ok [], .no, .no, .no] = some (enumD 0 (es.map eE)) := rfl
  show ((gSeq _ _ [.d (plD es), .no, .no, .no, .no, .no]).bind _) = _
  rw [seq_k, e1, kont_nx, seq_k, e2, kont_nx, seq_k, xFor, e3, Option.bind_some, L, kont_nx]
  rfl
theorem need_play_ok {es : List Ev} (h : pOK [] es) (hl : es.length ≤ 300) : s_need_play [plD es] = some (plD es) := by
  have f := fault_ok h hl
  unfold s_need_play runF b_need_play
  simp [f]
theorem is_play_ok {es : List Ev} (h : pOK [] es) (hl : es.length ≤ 300) : s_is_play [plD es] = some (.bool true) := by
  have f := fault_ok h hl
  unfold s_is_play runF b_is_play
  simp [f]
theorem lay_pl (es : List Ev) : Lay 2 (plD es) := .tuple fun x hx => by
  obtain ⟨p, _, rfl⟩ := List.mem_map.mp hx
  exact lay_E p
theorem no_press (es : List Ev) : gIn false (.tuple [.str "press"]) (plD es) = some (.bool false) := by
  show (if (SeqAt.shaped _ && SeqAt.shaped (plD es)) = true then some (PyData.bool (if false = true then _ else _)) else none) = _
  have h1 : SeqAt.shaped (.tuple [.str "press"]) = true := by kernel_rfl
  rw [(lay_pl es).sh (by decide), h1]
  have : ((es.map eE).any fun z => PyData.eqv z (.tuple [.str "press"])) = false := by
    rw [List.any_eq_false]
    intro z hz
    obtain ⟨p, _, rfl⟩ := List.mem_map.mp hz
    unfold eE
    rw [PyData.eqv, PyData.eqvAll, PyData.eqvAll]
    simp
  simp [this]
/-! the states on the way -/
def scan (ms : List Mac) : List Row → List Ev → List (List Row)
  | _, [] => []
  | rs, e :: es => linkT ms rs (some e) :: scan ms (linkT ms rs (some e)) es
def fin (ms : List Mac) (rs : List Row) (es : List Ev) : List Row := es.foldl (fun rs e => linkT ms rs (some e)) rs
theorem scan_len (ms : List Mac) : ∀ (es : List Ev) (rs : List Row), (scan ms rs es).length = es.length
  | [], _ => rfl
  | e :: es, rs => by rw [scan, List.length_cons, scan_len ms es, List.length_cons]
theorem scan_last (ms : List Mac) : ∀ (es : List Ev) (rs : List Row), es ≠ [] → ∃ ini, scan ms rs es = ini ++ [fin ms rs es]
  | [], _, h => absurd rfl h
  | [e], rs, _ => ⟨[], rfl⟩
  | e :: e' :: es, rs, _ => by
    obtain ⟨ini, h⟩ := scan_last ms (e' :: es) (linkT ms rs (some e)) (by simp)
    refine ⟨linkT ms rs (some e) :: ini, ?_⟩
    rw [scan, h]; rfl
theorem room_of {ms : List Mac} {ks : List Nat} {rs : List Row} {e : Ev} (h : Ch ms) (v : Val ms 3 ks rs) (he : e.2 < 3) (hc : canK e ks = true) : e.1 = true → ks.length < 3 := fun z => by
  unfold canK at hc
  rw [if_pos z] at hc
  have f := all_at (all_at f_room (v.keys h)) (m3 he)
  have hc' : ks.contains e.2 = false := by simpa using hc
  rw [hc', Bool.false_or] at f
  exact of_decide_eq_true f
theorem scan_ok {ms : List Mac} (h : Ch ms) : ∀ (es : List Ev) (ks : List Nat) (rs : List Row), Val ms 3 ks rs → pOK ks es → ∀ x ∈ scan ms rs es, AllR x ∧ x.length ≤ 3
  | [], _, _, _, _ => fun _ h => nomatch h
  | e :: es, ks, rs, v, p => by
    have v' := v.step h.ok (by decide) p.1 p.2.1 (room_of h v p.1 p.2.1)
    intro x hx
    rw [scan] at hx
    rcases List.mem_cons.mp hx with rfl | hx
    · exact ⟨v'.all h.ok (by decide), by rw [← v'.len]; exact h.h3⟩
    · exact scan_ok h es _ _ v' p.2.2 x hx
@[simp] theorem xIxO (i : Nat) (f : Fx) (env : En) : eIxO i f env = (f env).bind fun y => match env[i]?, y with
  | some (.ol xs), .int k => atI xs k
  | _, _ => none := rfl
theorem at_last (xs : List PyData) (a : PyData) : atI (xs ++ [a]) (-1) = some a := xIxLT xs a
theorem path_loop {ms : List Mac} (h : Ch ms) {P : PyData} : ∀ (es : List Ev) (ks : List Nat) (rs : List Row) (pre : List PyData) (c3 : Cell), Val ms 3 ks rs → pOK ks es → pre.length + 1 + es.length < line →
    ∃ d3, forGo (.one 3) (gApp 2 (eCall (gN 3 s_chain_step) (aCons (eVar 0) (aCons (eIxO 2 (eNeg (eC (.int 1)))) (aCons (eVar 3) aNil))))) (es.map eE) [.d (eC' ms), .d P, .ol (pre ++ [eSt rs]), c3] = some (.nx [.d (eC' ms), .d P, .ol (pre ++ eSt rs :: (scan ms rs es).map eSt), d3])
  | [], ks, rs, pre, c3, _, _, _ => ⟨c3, rfl⟩
  | e :: es, ks, rs, pre, c3, v, p, hl => by
    have hs := chain_step_ok h.ok h.h3 v p.1 p.2.1 (room_of h v p.1 p.2.1)
    have v' := v.step h.ok (by decide) p.1 p.2.1 (room_of h v p.1 p.2.1)
    rw [List.length_cons] at hl
    obtain ⟨d3, ih⟩ := path_loop h (P := P) es _ _ (pre ++ [eSt rs]) (.d (eE e)) v' p.2.2 (by simp; omega)
    refine ⟨d3, ?_⟩
    have hl' : (pre ++ [eSt rs]).length < line := by simp; omega
    rw [List.map_cons, for_k]
    have e1 : gApp 2 (eCall (gN 3 s_chain_step) (aCons (eVar 0) (aCons (eIxO 2 (eNeg (eC (.int 1)))) (aCons (eVar 3) aNil)))) [.d (eC' ms), .d P, .ol (pre ++ [eSt rs]), .d (eE e)] = some (.nx [.d (eC' ms), .d P, .ol (pre ++ [eSt rs] ++ [eSt (linkT ms rs (some e))]), .d (eE e)]) := by
      rw [xApp, xCall, xCons, xCons, xCons, xNil, xIxO, xNeg1]
      simp only [xVar, List.getElem?_cons_zero, List.getElem?_cons_succ, Option.bind_some, at_last, xgN3, hs]
      rw [if_pos hl']; rfl
    show kont _ (gApp 2 _ [.d (eC' ms), .d P, .ol (pre ++ [eSt rs]), .d (eE e)]) = _
    rw [e1, kont_nx, ih, scan]
    simp
theorem path_ok {ms : List Mac} (h : Ch ms) {es : List Ev} (p : pOK [] es) (hl : es.length ≤ 300) : s_chain_path [eC' ms, plD es] = some (.list (eSt (List.replicate ms.length []) :: (scan ms (List.replicate ms.length []) es).map eSt)) := by
  obtain ⟨d3, L⟩ := path_loop h (P := plD es) es [] (List.replicate ms.length []) [] .no (val_start h.ok (by decide)) p (Nat.lt_of_le_of_lt (show _ ≤ 301 by simp; omega) (by decide))
  have a1 := chain_need h.ok h.h1 h.h3
  have a2 := need_play_ok p hl
  have a3 := no_press es
  have a4 := mul_start h.h1 h.h3
  unfold s_chain_path runF b_chain_path
  have e1 : gDrop (eCall (gN 1 s_need_chain) (aCons (eVar 0) aNil)) [.d (eC' ms), .d (plD es), .no, .no] = some (.nx [.d (eC' ms), .d (plD es), .no, .no]) := by simp [a1]
  have e2 : gDrop (eCall (gN 1 s_need_play) (aCons (eVar 1) aNil)) [.d (eC' ms), .d (plD es), .no, .no] = some (.nx [.d (eC' ms), .d (plD es), .no, .no]) := by simp [a2]
  have e3 : gIf (tOf (eB (gIn false) (eTup (aCons (eC (.str "press")) aNil)) (eVar 1))) gNever gNext [.d (eC' ms), .d (plD es), .no, .no] = some (.nx [.d (eC' ms), .d (plD es), .no, .no]) := by simp [a3]
  have e4 : gSet 2 (cLst (aCons (eB gMul (eTup (aCons (eC c_START) aNil)) (eCall gLen (aCons (eVar 0) aNil))) aNil)) [.d (eC' ms), .d (plD es), .no, .no] = some (.nx [.d (eC' ms), .d (plD es), .ol [eSt (List.replicate ms.length [])], .no]) := by simp [a4]
  have e5 : iSeq (eVar 1) [.d (eC' ms), .d (plD es), .ol [eSt (List.replicate ms.length [])], .no] = some (es.map eE) := rfl
  show ((gSeq _ _ [.d (eC' ms), .d (plD es), .no, .no]).bind _) = _
  rw [seq_k, e1, kont_nx, seq_k, e2, kont_nx, seq_k, e3, kont_nx, seq_k, e4, kont_nx, seq_k, xFor, e5, Option.bind_some]
  rw [List.nil_append] at L
  rw [L, kont_nx]
  simp
theorem trace_ok {ms : List Mac} (h : Ch ms) {es : List Ev} (p : pOK [] es) (hl : es.length ≤ 300) : s_chain_trace [eC' ms, plD es] = some (.tuple ((scan ms (List.replicate ms.length []) es).map fun rs => sndD (outT rs))) := by
  have a := path_ok h p hl
  have sc := scan_ok h es [] (List.replicate ms.length []) (val_start h.ok (by decide)) p
  have len := scan_len ms es (List.replicate ms.length [])
  have hm : lcGo (.one 2) ftT (eCall (gN 1 s_chain_sound) (aCons (eVar 2) aNil)) [.d (eC' ms), .d (plD es), .no] ((scan ms (List.replicate ms.length []) es).map eSt) = some ((scan ms (List.replicate ms.length []) es).map fun rs => sndD (outT rs)) := by
    rw [lcGo_map eSt (fun _ => true) (fun rs => sndD (outT rs)) _]
    · rw [List.filter_eq_self.mpr (fun _ _ => rfl)]
    · intro x hx
      have s := csound_ok (sc x hx).1 (sc x hx).2
      exact ⟨[.d (eC' ms), .d (plD es), .d (eSt x)], by simp, by simp, by simp [s]⟩
  have hc : gCut (.list (eSt (List.replicate ms.length []) :: (scan ms (List.replicate ms.length []) es).map eSt)) (some 1) none = some (.list ((scan ms (List.replicate ms.length []) es).map eSt)) := by
    show some (PyData.list (cutD _ _ _)) = _
    unfold cutD
    rw [HT.sIx_none, show (some (1 : Int)) = some ((1 : Nat) : Int) from rfl, HT.sIx_nat]
    have : min 1 (eSt (List.replicate ms.length []) :: (scan ms (List.replicate ms.length []) es).map eSt).length = 1 := by simp
    rw [this]
    simp
    exact List.take_of_length_le (by simp)
  have hll : ((scan ms (List.replicate ms.length []) es).map eSt).length ≤ line := by
    rw [List.length_map, len]
    exact Nat.le_trans hl (by decide)
  unfold s_chain_trace runF b_chain_trace
  have e1 : iSeq (eCut (eCall (gN 2 s_chain_path) (aCons (eVar 0) (aCons (eVar 1) aNil))) (oSome (eC (.int 1))) oNone) [.d (eC' ms), .d (plD es), .no] = some ((scan ms (List.replicate ms.length []) es).map eSt) := by
    rw [xiSeq, xCut, call2 s_chain_path a rfl rfl]
    have o1 : ∀ env, oSome (eC (.int 1)) env = some (some 1) := fun _ => rfl
    rw [Option.bind_some, o1, Option.bind_some, xoNone, Option.bind_some, hc]; rfl
  show ((gRet _ [.d (eC' ms), .d (plD es), .no]).bind _) = _
  rw [xRet, xTuple, xLc, e1, Option.bind_some, if_pos hll]
  show ((((lcGo _ _ _ [.d (eC' ms), .d (plD es), .no] _).bind _).bind _).bind _).bind _ = _
  rw [hm]; rfl
end SV

/-! M22: the law's word on chain_parting. -/
namespace SV
open PySem L2 DL
section
variable {one other : List Mac} {w : Nat}
def kf (es : List Ev) : List Nat := es.foldl (fun ks e => appE e ks) []
theorem pOK_snoc (e : Ev) : ∀ (es : List Ev) (ks : List Nat), pOK ks es → e.2 < 3 → canK e (es.foldl (fun ks e => appE e ks) ks) = true → pOK ks (es ++ [e])
  | [], _, _, h1, h2 => ⟨h1, h2, trivial⟩
  | a :: es, ks, h, h1, h2 => ⟨h.1, h.2.1, pOK_snoc e es _ h.2.2 h1 h2⟩
theorem pth_facts (q : Qn one other w) {es : List Ev} {x : J} (h : Pth one other w es x) : pOK [] es ∧ Val one 3 (kf es) x.1 ∧ Val other 3 (kf es) x.2 ∧ x = (fin one (List.replicate one.length []) es, fin other (List.replicate other.length []) es) ∧ ∀ e ∈ es, e ∈ evW w := by
  induction h with
  | nil => exact ⟨trivial, val_start q.a.ok (by decide), val_start q.b.ok (by decide), rfl, fun _ h => nomatch h⟩
  | @snoc es x y e p h ih =>
    obtain ⟨h1, h2, h3, h4, h5⟩ := ih
    obtain ⟨g1, g2⟩ := nx_act h
    have hl := Nat.lt_of_lt_of_le (evW_lt g2.mem) q.w3
    obtain ⟨c1, c2⟩ := can_keys q.a h2 hl g2.can
    have hy : y = stepJ one other x e := by
      rw [← g1]
      exact if_pos ⟨List.contains_iff_mem.mpr g2.mem, g2.can⟩
    have hk : kf (es ++ [e]) = appE e (kf es) := by
      unfold kf; rw [List.foldl_append]; rfl
    subst hy
    refine ⟨pOK_snoc e es [] h1 hl c1, ?_, ?_, ?_, ?_⟩
    · rw [hk]; exact h2.step q.a.ok (by decide) hl c1 c2
    · rw [hk]; exact h3.step q.b.ok (by decide) hl c1 c2
    · unfold fin
      rw [List.foldl_append, List.foldl_append]
      unfold stepJ
      rw [h4]; rfl
    · intro e' he'
      rcases List.mem_append.mp he' with he' | he'
      · exact h5 e' he'
      · simp at he'; subst he'; exact g2.mem
theorem f_df0 : ((outT [[]] == []) && (outT [[], []] == []) && (outT [[], [], []] == [])) = true := by decide +kernel
theorem out_start {ms : List Mac} (h : Ch ms) : outT (List.replicate ms.length []) = [] := by
  have f := f_df0
  rw [Bool.and_eq_true, Bool.and_eq_true] at f
  obtain ⟨⟨f1, f2⟩, f3⟩ := f
  have h1 := h.h1
  have h3 := h.h3
  have : ms.length = 1 ∨ ms.length = 2 ∨ ms.length = 3 := by omega
  rcases this with e | e | e <;> rw [e]
  · simpa using f1
  · simpa using f2
  · simpa using f3
theorem df_start (q : Qn one other w) : df (startJ one other) = false := by
  unfold df startJ
  rw [out_start q.a, out_start q.b]; rfl
theorem rnd0 (q : Qn one other w) : Rnd one other w 0 [(startJ one other, none)] [(startJ one other, 0)] [startJ one other] := by
  refine ⟨wf_start q none, rfl, fun x hx => ?_, fun es x hl hp => ?_, fun x hx hn => ?_, fun x hx => ?_⟩
  · simp at hx
    subst hx
    refine ⟨by simp, [], rfl, .start ?_, .nil⟩
    unfold look
    simp
  · have : es = [] := by cases es with
      | nil => rfl
      | cons => simp at hl
    subst this
    generalize hz : ([] : List Ev) = z at hp
    cases hp with
    | nil => simp
    | snoc p h => simp at hz
  · simp at hx hn
    exact absurd hx hn
  · simp at hx
    subst hx
    exact df_start q
@[simp] theorem xKeysD (fa : Fx) (env : En) : iKeysD fa env = (fa env).bind fun x => match x with
  | .dict kvs => some (kvs.map (·.1))
  | _ => none := rfl
theorem find_nd {r : Fd} (nd : (r.map (·.1)).Nodup) {p : J × Nat} (h : p ∈ r) : (r.find? fun q => decide (q.1 = p.1)) = some p := by
  induction r with
  | nil => cases h
  | cons a r ih =>
    rw [List.map_cons, List.nodup_cons] at nd
    rw [List.find?_cons]
    rcases List.mem_cons.mp h with rfl | h
    · simp
    · have : ¬ (a.1 = p.1) := fun z => nd.1 (by rw [z]; exact List.mem_map.mpr ⟨p, h, rfl⟩)
      simp only [this, decide_false]
      exact ih nd.2 h
def dueD (r : Fd) : List Int := (r.filter fun q => df q.1).map fun q => (q.2 : Int)
theorem due_ok (q : Qn one other w) {r : Fd} (wf : WF one other r) (x0 x1 x2 x3 x5 x7 : Cell) : eLc (iKeysD (eVar 4)) [6] (.one 6) (tOf (eB gNe (eCall (gN 1 s_law_chain_sound) (aCons (eB gIx (eVar 6) (eC (.int 0))) aNil)) (eCall (gN 1 s_law_chain_sound) (aCons (eB gIx (eVar 6) (eC (.int 1))) aNil)))) (eB gDix (eVar 4) (eVar 6)) [x0, x1, x2, x3, .d (.dict (dct vI r)), x5, .no, x7] = some (.list ((dueD r).map .int)) := by
  have hm : lcGo (.one 6) (tOf (eB gNe (eCall (gN 1 s_law_chain_sound) (aCons (eB gIx (eVar 6) (eC (.int 0))) aNil)) (eCall (gN 1 s_law_chain_sound) (aCons (eB gIx (eVar 6) (eC (.int 1))) aNil)))) (eB gDix (eVar 4) (eVar 6)) [x0, x1, x2, x3, .d (.dict (dct vI r)), x5, .no, x7] (r.map fun q => eJ q.1) = some ((dueD r).map .int) := by
    rw [lcGo_map (fun q : J × Nat => eJ q.1) (fun q => df q.1) (fun q => .int (q.2 : Int)) r]
    · unfold dueD; rw [List.map_map]; rfl
    · intro p hp
      obtain ⟨_, _, o1, o2⟩ := sem_out q (wf.jv p.1 (List.mem_map.mpr ⟨p, hp, rfl⟩))
      refine ⟨[x0, x1, x2, x3, .d (.dict (dct vI r)), x5, .d (eJ p.1), x7], by simp, ?_, fun _ => ?_⟩
      · simp [o1, o2, df]
      · have hg : gDix (.dict (dct vI r)) (eJ p.1) = some (.int (p.2 : Int)) := by
          show (okKey (eJ p.1)).bind _ = _
          rw [okKey_J, Option.bind_some, lk_dct, find_nd wf.nd hp]; rfl
        simp [hg]
  have e1 : iKeysD (eVar 4) [x0, x1, x2, x3, .d (.dict (dct vI r)), x5, .no, x7] = some (r.map fun q => eJ q.1) := by
    show some ((dct vI r).map (·.1)) = _
    unfold dct
    rw [List.map_map]; rfl
  rw [xLc, e1, Option.bind_some, if_pos (by rw [List.length_map]; exact Nat.le_of_lt (wf.line q))]
  show (lcGo _ _ _ [x0, x1, x2, x3, .d (.dict (dct vI r)), x5, .no, x7] _).bind _ = _
  rw [hm]; rfl
theorem lay_il (l : List Int) : Lay 1 (.list (l.map .int)) := .list fun x hx => by
  obtain ⟨k, _, rfl⟩ := List.mem_map.mp hx
  exact .int _
theorem eq_il (l : List Int) : gEq (.list (l.map .int)) (.list []) = some (.bool l.isEmpty) := by
  unfold gEq
  rw [(lay_il l).sh (by decide)]
  cases l <;> rfl
theorem minI_all {k : Int} : ∀ (l : List Int), (∀ x ∈ l, x = k) → minI k l = k
  | [], _ => rfl
  | x :: l, h => by
    have hx := h x List.mem_cons_self
    subst hx
    unfold minI
    rw [if_neg (by omega)]
    exact minI_all l fun y hy => h y (List.mem_cons_of_mem _ hy)
theorem min_ok {k : Int} {l : List Int} (h : ∀ x ∈ l, x = k) (n : l ≠ []) : gMin [.list (l.map .int)] = some (.int k) := by
  show (intsOf (l.map .int)).bind _ = _
  rw [intsOf_map]
  cases l with
  | nil => exact absurd rfl n
  | cons a l =>
    have := h a List.mem_cons_self
    subst this
    show some (PyData.int (minI a l)) = _
    rw [minI_all l fun y hy => h y (List.mem_cons_of_mem _ hy)]
theorem f_refl : (evs.all fun e => PyData.eqv (eE e) (eE e)) = true := by kernel_rfl
theorem nin_ev {e : Ev} {l : List Ev} (h : e ∈ l) (h3 : e.2 < 3) : gIn true (eE e) (evL l) = some (.bool false) := by
  show (if (SeqAt.shaped _ && SeqAt.shaped (evL l)) = true then some (PyData.bool (if true = true then _ else _)) else none) = _
  rw [(lay_evL l).sh (by decide), (lay_E e).sh (by decide)]
  have : ((l.map eE).any fun z => PyData.eqv z (eE e)) = true := List.any_eq_true.mpr ⟨eE e, List.mem_map.mpr ⟨e, h, rfl⟩, all_at f_refl (mev h3)⟩
  simp [this]
theorem ne_ll : gNe (.list []) (.list []) = some (.bool false) := by kernel_rfl
theorem ne_nn (n : Nat) : gNe (.int (n : Nat)) (.int (n : Nat)) = some (.bool false) := by
  rw [xNeI]; simp
/-- no play tells them apart -/
theorem right_none (q : Qn one other w) {r : Fd} (wf : WF one other r) (hc : s_law_chained [eC' one, eC' other, .int (w : Nat)] = some (.dict (dct vI r))) (hd : ∀ p ∈ r, df p.1 = false) : s_law_right [eC' one, eC' other, .int (w : Nat), .none] = some (.bool true) := by
  have hz : dueD r = [] := by
    unfold dueD
    rw [List.filter_eq_nil_iff.mpr (fun p hp => by rw [hd p hp]; simp)]; rfl
  have due := due_ok q wf (.d (eC' one)) (.d (eC' other)) (.d (.int (w : Nat))) (.d .none) .no .no
  rw [hz] at due
  unfold s_law_right runF b_law_right
  have e1 : gSet 4 (cOf (eCall (gN 3 s_law_chained) (aCons (eVar 0) (aCons (eVar 1) (aCons (eVar 2) aNil))))) [.d (eC' one), .d (eC' other), .d (.int (w : Nat)), .d .none, .no, .no, .no, .no] = some (.nx [.d (eC' one), .d (eC' other), .d (.int (w : Nat)), .d .none, .d (.dict (dct vI r)), .no, .no, .no]) := by
    simp [hc]
  show ((gSeq _ _ [.d (eC' one), .d (eC' other), .d (.int (w : Nat)), .d .none, .no, .no, .no, .no]).bind _) = _
  rw [seq_k, e1, kont_nx, seq_k, xSet, xOf, due]
  simp [kont_nx]
theorem right_some (q : Qn one other w) {r : Fd} {es : List Ev} {b : J} (wf : WF one other r) (hc : s_law_chained [eC' one, eC' other, .int (w : Nat)] = some (.dict (dct vI r))) (hp : Pth one other w es b) (hb : df b = true) (hm : b ∈ keysO r) (hk : ∀ p ∈ r, df p.1 = true → p.2 = es.length) (hl : es.length ≤ 300) : s_law_right [eC' one, eC' other, .int (w : Nat), plD es] = some (.bool true) := by
  obtain ⟨p1, p2, p3, p4, p5⟩ := pth_facts q hp
  have hne : es ≠ [] := by
    intro z
    subst z
    have : b = startJ one other := p4
    rw [this, df_start q] at hb
    cases hb
  have hnz : dueD r ≠ [] := by
    obtain ⟨p, hp, hpe⟩ := List.mem_map.mp hm
    unfold dueD
    intro z
    have : p ∈ r.filter fun q => df q.1 := List.mem_filter.mpr ⟨hp, by rw [show p.1 = b from hpe]; exact hb⟩
    rw [List.map_eq_nil_iff] at z
    rw [z] at this; cases this
  have hall : ∀ x ∈ dueD r, x = (es.length : Int) := by
    intro x hx
    obtain ⟨p, hp, rfl⟩ := List.mem_map.mp hx
    obtain ⟨m1, m2⟩ := List.mem_filter.mp hp
    rw [hk p m1 m2]
  have hmin := min_ok hall hnz
  have hemp : (dueD r).isEmpty = false := by
    cases h : dueD r with
    | nil => exact absurd h hnz
    | cons => rfl
  have heq := eq_il (dueD r)
  rw [hemp] at heq
  have due := due_ok q wf (.d (eC' one)) (.d (eC' other)) (.d (.int (w : Nat))) (.d (plD es)) .no .no
  have hpl := is_play_ok p1 hl
  have t1 := trace_ok q.a p1 hl
  have t2 := trace_ok q.b p1 hl
  obtain ⟨i1, s1⟩ := scan_last one es (List.replicate one.length []) hne
  obtain ⟨i2, s2⟩ := scan_last other es (List.replicate other.length []) hne
  rw [s1, List.map_append] at t1
  rw [s2, List.map_append] at t2
  have x1 := xIxLT (i1.map fun rs => sndD (outT rs)) (sndD (outT (fin one (List.replicate one.length []) es)))
  have x2 := xIxLT (i2.map fun rs => sndD (outT rs)) (sndD (outT (fin other (List.replicate other.length []) es)))
  have hdf : (outT (fin one (List.replicate one.length []) es) == outT (fin other (List.replicate other.length []) es)) = false := by
    rw [p4] at hb
    unfold df at hb
    simpa using hb
  have hlen : gLen [plD es] = some (.int (es.length : Nat)) := by
    show some (PyData.int ((es.map eE).length : Nat)) = _
    rw [List.length_map]
  have hll : (es.map eE).length ≤ line := by rw [List.length_map]; exact Nat.le_trans hl (by decide)
  generalize hE : [Cell.d (eC' one), .d (eC' other), .d (.int (w : Nat)), .d (plD es), .d (.dict (dct vI r)), .d (.list ((dueD r).map .int)), .no, .no] = E0
  have hm : lcGo (.one 7) (tOf (eB (gIn true) (eVar 7) (eCall (gN 2 s_law_events) (aCons (eVar 2) (aCons (eC (.bool false)) aNil))))) (eVar 7) E0 (es.map eE) = some [] := by
    rw [lcGo_map eE (fun _ => false) eE es]
    · simp
    · intro e he
      have hev : eCall (gN 2 s_law_events) (aCons (eVar 2) (aCons (eC (.bool false)) aNil)) [Cell.d (eC' one), .d (eC' other), .d (.int (w : Nat)), .d (plD es), .d (.dict (dct vI r)), .d (.list ((dueD r).map .int)), .no, .d (eE e)] = some (evL (evW w)) := call2 s_law_events (ev_ok q.w1 q.w3).2.1 rfl rfl
      have hn := nin_ev (p5 e he) (Nat.lt_of_lt_of_le (evW_lt (p5 e he)) q.w3)
      refine ⟨[Cell.d (eC' one), .d (eC' other), .d (.int (w : Nat)), .d (plD es), .d (.dict (dct vI r)), .d (.list ((dueD r).map .int)), .no, .d (eE e)], by subst hE; rfl, ?_, fun h => nomatch h⟩
      rw [xT, xB, hev]
      show (((some (eE e)).bind fun x => (some (evL (evW w))).bind fun y => gIn true x y).bind boolOf) = _
      rw [Option.bind_some, Option.bind_some, hn]; rfl
  unfold s_law_right runF b_law_right
  have e1 : gSet 4 (cOf (eCall (gN 3 s_law_chained) (aCons (eVar 0) (aCons (eVar 1) (aCons (eVar 2) aNil))))) [.d (eC' one), .d (eC' other), .d (.int (w : Nat)), .d (plD es), .no, .no, .no, .no] = some (.nx [.d (eC' one), .d (eC' other), .d (.int (w : Nat)), .d (plD es), .d (.dict (dct vI r)), .no, .no, .no]) := by
    simp [hc]
  have e3 : gIf (ftOr (tOf (eB gEq (eVar 5) (eLst aNil))) (tOf (eB gIsN (eVar 3) (eC .none)))) (gRet (eAnd (eB gEq (eVar 5) (eLst aNil)) (eB gIsN (eVar 3) (eC .none)))) gNext E0 = some (.nx E0) := by
    subst hE
    simp [heq, plD]
  have e4 : gIf (ftOr (ftNot (tOf (eIsi "tuple" (eVar 3)))) (ftOr (tOf (eB gNe (eCall gLen (aCons (eVar 3) aNil)) (eCall gMin (aCons (eVar 5) aNil)))) (ftNot (tOf (eCall (gN 1 s_is_play) (aCons (eVar 3) aNil)))))) (gRet (eC (.bool false))) gNext E0 = some (.nx E0) := by
    subst hE
    have hi : eIsi "tuple" (eVar 3) [Cell.d (eC' one), .d (eC' other), .d (.int (w : Nat)), .d (plD es), .d (.dict (dct vI r)), .d (.list ((dueD r).map .int)), .no, .no] = some (.bool true) := by
      simp [plD]
    rw [xgIf, xOr, xNot, xT, hi]
    simp [hlen, hmin, hpl]
  have e5 : gIf (tOf (eB gNe (eLc (iSeq (eVar 3)) [7] (.one 7) (tOf (eB (gIn true) (eVar 7) (eCall (gN 2 s_law_events) (aCons (eVar 2) (aCons (eC (.bool false)) aNil))))) (eVar 7)) (eLst aNil))) (gRet (eC (.bool false))) gNext E0 = some (.nx E0) := by
    have h0 : iSeq (eVar 3) E0 = some (es.map eE) := by subst hE; rfl
    have hw : wipeE E0 [7] = E0 := by subst hE; rfl
    rw [xgIf, xT, xB, xLc, h0, Option.bind_some, if_pos hll, hw, hm]
    simp [ne_ll]
  have e6 : gRet (eB gNe (eB gIx (eCall (gN 2 s_chain_trace) (aCons (eVar 0) (aCons (eVar 3) aNil))) (eNeg (eC (.int 1)))) (eB gIx (eCall (gN 2 s_chain_trace) (aCons (eVar 1) (aCons (eVar 3) aNil))) (eNeg (eC (.int 1))))) E0 = some (.rt (.bool true)) := by
    subst hE
    simp only [List.map_cons, List.map_nil] at t1 t2
    rw [xRet, xB, xB, xB, call2 s_chain_trace t1 rfl rfl, call2 s_chain_trace t2 rfl rfl, xNeg1]
    simp only [Option.bind_some, x1, x2, ne_snd, hdf]
    rfl
  show ((gSeq _ _ [.d (eC' one), .d (eC' other), .d (.int (w : Nat)), .d (plD es), .no, .no, .no, .no]).bind _) = _
  rw [seq_k, e1, kont_nx, seq_k, xSet, xOf, due]
  show ((kont _ (some (.nx _))).bind _) = _
  rw [kont_nx]
  show ((gSeq _ _ [Cell.d (eC' one), .d (eC' other), .d (.int (w : Nat)), .d (plD es), .d (.dict (dct vI r)), .d (.list ((dueD r).map .int)), .no, .no]).bind _) = _
  rw [hE, seq_k, e3, kont_nx, seq_k, e4, kont_nx, seq_k, e5, kont_nx, e6]
  rfl
theorem fuel_big (q : Qn one other w) : (joint one other).length + 2 ≤ fuel + [(startJ one other, (none : Option (J × Ev)))].length := by
  have := joint_len q
  unfold fuel
  simp
  omega
/-- point 12: what chain_parting answers, and what the law says to it -/
theorem parting_right (q : Qn one other w) : ∃ p, s_chain_parting [eC' one, eC' other, .int (w : Nat)] = some p ∧ s_law_right [eC' one, eC' other, .int (w : Nat), p] = some (.bool true) ∧ (p = .none ∨ ∃ es, p = plD es) := by
  obtain ⟨rP, rL, h1, h2, h3⟩ := bfs q fuel 0 _ _ _ (rnd0 q) (.inr (fuel_big q))
  obtain ⟨wf, hc⟩ := chained_sem q h2
  have P := parting_sem q h1
  cases rP with
  | none => exact ⟨.none, P, right_none q wf hc h3.1, .inl rfl⟩
  | some cb =>
    obtain ⟨c, b⟩ := cb
    obtain ⟨k, ⟨es, k1, k2, k3⟩, k4, k5, k6, k7⟩ := h3
    subst k1
    have hl := short q k3 k4 k7
    exact ⟨plD es, P _ (play_to_ok k2 (by omega)), right_some q wf hc k3 k4 k5 k6 (by omega), .inr ⟨es, rfl⟩⟩
theorem pth_twin {ms : List Mac} {w : Nat} {es : List Ev} {x : J} (h : Pth ms ms w es x) : x.1 = x.2 := by
  induction h with
  | nil => rfl
  | @snoc es x y e p h ih =>
    unfold nx at h
    obtain ⟨e', he, hz⟩ := List.mem_map.mp h
    cases hz
    unfold stepJ
    rw [ih]
theorem parting_twin {ms : List Mac} {w : Nat} (q : Qn ms ms w) : s_chain_parting [eC' ms, eC' ms, .int (w : Nat)] = some .none := by
  obtain ⟨rP, rL, h1, h2, h3⟩ := bfs q fuel 0 _ _ _ (rnd0 q) (.inr (fuel_big q))
  have P := parting_sem q h1
  cases rP with
  | none => exact P
  | some cb =>
    obtain ⟨c, b⟩ := cb
    obtain ⟨k, ⟨es, k1, k2, k3⟩, k4, _⟩ := h3
    unfold df at k4
    rw [pth_twin k3] at k4
    simp at k4
theorem alike_ok (ms ms' : PyData) (k p : PyData) (h : s_chain_parting [ms, ms', k] = some p) : s_chain_alike [ms, ms', k] = some (.bool (isNo p)) := by
  unfold s_chain_alike runF b_chain_alike
  simp [h]
end
end SV

/-! ML7: _law_begun. -/
namespace SV
open PySem L2 DL
def gPowZ : G2
  | .int i, .int j => if 0 ≤ j ∧ j ≤ 1000000 ∧ i.natAbs < 2 ^ 64 then some (.int (i ^ j.toNat)) else none
  | _, _ => none
theorem od_powZ {K : KW} : OpD K (rI CPow fun i j => .int (i ^ j.toNat)) gPowZ := od_rI fun x y d e => by
  unfold gPowZ at e
  split at e
  · split at e
    · rename_i h; cases e; exact ⟨_, _, rfl, rfl, h, rfl⟩
    · cases e
  · cases e
theorem pd_powZ {X : Cx} {a b : Expr} {pos : Pos} {fa fb : Fx} (ha : PD X a fa) (hb : PD X b fb) : PD X (.BinOp a .Pow b pos) (eB gPowZ fa fb) := pd_bin op_pow od_powZ ha hb
def fSeed : Fx := eB gModZ (eCall gInt (aCons (eB gAdd (eB gAdd (eB gMulZ (eVar 1) (eC (.int 69621))) (eB gModZ (eCall gInt (aCons (eVar 2) aNil)) (eC (.int 2147483629)))) (eC (.int 7))) aNil)) (eC (.int 2147483647))
def fBig : Ft := tOf (eB (gCmp fun i j => decide (j ≤ i)) (eVar 2) (eB gPowZ (eC (.int 10)) (eC (.int 18))))
/-- the dict that _law_begun makes -/
structure Begun (H : Hp) (Am : Addr) (H' : Hp) : Prop where
  no : H Am = none
  hh : Same H H'
  dk : ∃ (g : Addr) (gs : List Int) (s : Int), H g = none ∧ g ≠ Am ∧ H' g = some (.lst (gs.map V.int)) ∧ H' Am = some (.dK [(.inr "great", .ref g), (.inr "seed", .int s), (.inr "turns", .int 0)]) ∧ gs.length ≤ 63 ∧ 0 ≤ s ∧ s < 2147483647
def spB (K : KW) : Sp := fun vs H Q _ => ∃ (a : Addr) (ns : List Int), vs = [.ref a] ∧ SqL K.K H a (ns.map V.int) ∧ ns.length ≤ 63 ∧ ∀ Am H', Begun H Am H' → Q (.ref Am) H'
theorem sc_law_begun : FnScope ["script", "seed", "cell"] ["script"] (defScope (topS 59)) := ⟨rfl, rfl, rfl, by decide +kernel, rfl, by decide +kernel, by decide +kernel⟩
theorem keep_l {K : PySem.W.Frag} {H H' : Hp} {a : Addr} {xs : List V} (e : Same H H') (h : SqL K H a xs) : SqL K H' a xs := by
  rcases h with (h | ⟨o, h⟩) | h
  · exact .inl (.inl (e _ _ h))
  · exact .inl (.inr ⟨o, e _ _ h⟩)
  · exact .inr h
/-- slots of numbers -/
theorem rp_num {K : KW} {H : Hp} {a : Addr} {s : Int} {c : Option V} : Rp K (fun _ => none) (fun _ => none) [some (.ref a), some (.int s), c] H [.no, .d (.int s), .no] :=
  ⟨fun _ _ h => (nomatch h), fun _ _ h => (nomatch h), rfl, fun i c e n => by
    match i, e with
    | 0, e => cases e; exact absurd rfl n
    | 1, e => cases e; exact ⟨_, rfl, .int _⟩
    | 2, e => cases e; exact absurd rfl n,
  fun i j c c' a e1 e2 o1 o2 h1 h2 => by
    match i, e1 with
    | 0, e => cases e; cases o1
    | 1, e => cases e; cases o1
    | 2, e => cases e; cases o1⟩
theorem rp_num2 {K : KW} {H : Hp} {a : Addr} {s x : Int} : Rp K (fun _ => none) (fun _ => none) [some (.ref a), some (.int s), some (.int x)] H [.no, .d (.int s), .d (.int x)] :=
  (rp_num (c := none)).setD (i := 2) (v := .int x) (.int x)
theorem rp_num3 {K : KW} {H : Hp} {a : Option V} {x : Int} {b : Option V} : Rp K (fun _ => none) (fun _ => none) [a, b, some (.int x)] H [.no, .no, .d (.int x)] :=
  ⟨fun _ _ h => (nomatch h), fun _ _ h => (nomatch h), rfl, fun i c e n => by
    match i, e with
    | 0, e => cases e; exact absurd rfl n
    | 1, e => cases e; exact absurd rfl n
    | 2, e => cases e; exact ⟨_, rfl, .int _⟩,
  fun i j c c' a e1 e2 o1 o2 h1 h2 => by
    match i, e1 with
    | 0, e => cases e; cases o1
    | 1, e => cases e; cases o1
    | 2, e => cases e; cases o1⟩
@[simp] theorem xMulZ (i j : Int) : gMulZ (.int i) (.int j) = if (-(2 ^ 64) < i ∧ i < 2 ^ 64) ∨ (-(2 ^ 64) < j ∧ j < 2 ^ 64) then some (.int (i * j)) else none := rfl
@[simp] theorem xDivZ (i j : Int) : gDivZ (.int i) (.int j) = if 0 < j ∧ j < 1073741824 then some (.int (i / j)) else none := rfl
@[simp] theorem xModZ (i j : Int) : gModZ (.int i) (.int j) = if 0 < j then some (.int (i % j)) else none := rfl
@[simp] theorem xInt (i : Int) : gInt [.int i] = some (.int i) := rfl
@[simp] theorem xAddI (i j : Int) : gAdd (.int i) (.int j) = some (.int (i + j)) := rfl
theorem seed_ok (s x : Int) : ∃ r, fSeed [.no, .d (.int s), .d (.int x)] = some (.int r) ∧ 0 ≤ r ∧ r < 2147483647 := by
  refine ⟨(s * 69621 + x % 2147483629 + 7) % 2147483647, ?_, Int.emod_nonneg _ (by decide), Int.emod_lt_of_pos _ (by decide)⟩
  unfold fSeed
  simp
theorem big_ok (x : Int) (a b : Cell) : fBig [a, b, .d (.int x)] = some (decide ((10 : Int) ^ 18 ≤ x)) := by
  have h : gPowZ (.int 10) (.int 18) = some (.int (10 ^ 18)) := by kernel_rfl
  unfold fBig
  simp [h]
theorem comp_ok {K : KW} {a : Addr} {ns : List Int} {sv : V} {c0 : Option V} {H : Hp} {Q : VK} (hS : SqL K.K H a (ns.map V.int)) (hl : ns.length ≤ 63)
    (q : ∀ (D : Addr) (gs : List Int) (H' : Hp), H D = none → Same H H' → H' D = some (.lst (gs.map V.int)) → gs.length ≤ 63 → Q (.ref D) H') :
    tLc (iList K.K (tVar 0)) (gName 2) (tDT K fBig) (tD K (eVar 2)) [2] [some (.ref a), some sv, c0] H Q := by
  refine ⟨_, rfl, a, rfl, ⟨_, hS⟩, fun D hD => ?_⟩
  have w := walk_list (K := K.K) (a := a) (xs := ns.map V.int)
  refine ⟨fun i m H2 => ∃ gs : List Int, m = ns.length - i ∧ i ≤ ns.length ∧ Same H H2 ∧ H2 D = some (.lst (gs.map V.int)) ∧ gs.length ≤ i, ⟨ns.length, [], by simp, Nat.zero_le _, same_upd hD, upd_same, Nat.zero_le _⟩, ?_⟩
  rintro i m H2 ⟨gs, rfl, hi, s2, hD2, hg⟩
  have hS2 := keep_l s2 hS
  by_cases hlt : i < ns.length
  · have hlt' : i < (ns.map V.int).length := by rw [List.length_map]; exact hlt
    refine .inr ⟨w.goes i H2 hlt' hS2, fun H' => ∃ gs : List Int, Same H H' ∧ H' D = some (.lst (gs.map V.int)) ∧ gs.length ≤ i + 1, fun H' ⟨gs', h1, h2, h3⟩ => ⟨ns.length - (i + 1), by omega, gs', rfl, hlt, h1, h2, h3⟩, fun x H' y => ?_⟩
    obtain ⟨rfl, hx⟩ := w.yields i H2 x H' hlt' hS2 y
    rw [List.getElem?_map] at hx
    obtain ⟨n, hn, rfl⟩ := Option.map_eq_some_iff.mp hx
    show L2.wipe ((L2.wipe [some (.ref a), some sv, c0] [2]).set 2 (some (.int n))) [2] = _ ∧ tDT K fBig [some (.ref a), some sv, some (.int n)] H' _
    refine ⟨rfl, fun _ => none, fun _ => none, [.no, .no, .d (.int n)], _, rp_num3, big_ok n _ _, fun Hs3 H3 g3 => ?_⟩
    by_cases hb : (10 : Int) ^ 18 ≤ n
    · rw [decide_eq_true hb]
      refine iteT ⟨fun _ => none, fun _ => none, [.no, .no, .d (.int n)], .int n, rp_num3, rfl, fun v Hs4 H4 g4 r => ?_⟩
      cases r
      have hD4 := g4.hh _ _ (g3.hh _ _ hD2)
      refine ⟨gs.map V.int, hD4, by rw [List.length_map]; exact Nat.lt_of_le_of_lt (show gs.length ≤ 63 by omega) (by decide), gs ++ [n], ?_, ?_, by rw [List.length_append]; simp; exact hg⟩
      · intro b o h
        rw [upd_ne (fun z => by rw [z, hD] at h; cases h)]
        exact g4.hh _ _ (g3.hh _ _ (s2 _ _ h))
      · rw [upd_same, List.map_append]; rfl
    · rw [decide_eq_false hb]
      exact iteF ⟨gs, s2.trans g3.hh, g3.hh _ _ hD2, by omega⟩
  · have e4 : i = ns.length := by omega
    subst e4
    refine .inl ⟨?_, q D gs H2 hD s2 hD2 (by omega)⟩
    have := w.stops H2 hS2
    rw [List.length_map] at this
    exact this
theorem tCq_i {v : V} {σ : L2.St} {H : Hp} {Q : VK} (h : Q v H) : L2.tC v σ H Q := h
theorem tVq_i {i : Nat} {v : V} {σ : L2.St} {H : Hp} {Q : VK} (e : σ[i]? = some (some v)) (h : Q v H) : tVar i σ H Q := ⟨v, e, h⟩
theorem tseq_i {t u : TS} {D : Ends} {σ : L2.St} {H : Hp} (h : t { D with nx := u D } σ H) : tSeq t u D σ H := h
theorem tasgC_i {v : V} {i : Nat} {D : Ends} {σ : L2.St} {H : Hp} (h : D.nx (σ.set i (some v)) H) : tAsg (L2.tC v) (gName i) D σ H := h
theorem tfor_i {K : PySem.W.Frag} {g : TG} {tb : TS} {D : Ends} {a : Addr} {c1 c2 : Option V} {H : Hp} {xs : List V} (hS : SqL K H a xs)
    (h : ∃ W : Nat → Nat → L2.St → Hp → Prop, (∃ m, W 0 m [some (.ref a), c1, c2] H) ∧ ∀ i m σ H, W i m σ H → ((Itl K a).stop i H ∧ D.nx σ H) ∨ ((Itl K a).go i H ∧ ∃ N : L2.St → Hp → Prop, (∀ σ' H', N σ' H' → ∃ m', m' < m ∧ W (i + 1) m' σ' H') ∧ ∀ x H', (Itl K a).yld i H x H' → g x σ H' fun σ2 H2 => tb { D with nx := N, ct := N, bk := D.nx } σ2 H2)) :
    tFor (iList K (tVar 0)) g tb D [some (.ref a), c1, c2] H := ⟨_, rfl, a, rfl, ⟨_, hS⟩, h⟩
theorem cal_law_begun {P : Program} {w : World} {K : PySem.W.Frag} {mg : Str → Option Value} {base : Heap} (T : Txt K w mg) : C8.Cal P w K mg base 1 "_law_begun" (spB ⟨K, w⟩) [] := by
  obtain ⟨f, fd, F, hm⟩ := T.d_law_begun
  refine ⟨f, fd, ["script"], [], F.ok (N := ["script", "seed", "cell"]) sc_law_begun (fun vs H Q E ⟨a, ns, h1, _⟩ => by rw [h1]; rfl) fun cdv A outer s H vs Q E hr hsp => ?_,
    hm, F.kp, F.binds fun _ _ _ _ _ _ us hl => match us, hl with | [_], _ => rfl, .nil⟩
  obtain ⟨a, ns, rfl, hS, hl, q⟩ := hsp
  refine ⟨_, pss_cons (ps_set (i := 1) sc_law_begun.nd rfl (Or.inl rfl) pe_int)
    (pss_cons (ps_for PassesOwn.never rfl (pi_list (pv 0)) (pg_name (i := 2) sc_law_begun.nd rfl (Or.inl rfl)) (pss_one (ps_set (i := 1) sc_law_begun.nd rfl (Or.inl rfl) (pd_modZ (pd_int1 T.g_int rfl (pd_add (pd_add (pd_mulZ (pd_var (pv 1)) pd_int) (pd_modZ (pd_int1 T.g_int rfl (pd_var (pv 2))) pd_int)) pd_int)) pd_int))))
    (pss_one (ps_ret (pe_disp (by exact pps_cons pe_str (pe_lc (tt := tDT ⟨K, w⟩ fBig) (te := tD ⟨K, w⟩ (eVar 2)) (own := [("cell", 2)]) rfl sc_law_begun.nd (pi_list (pv 0)) (blkOk_by (by kernel_rfl)) (fun _ _ _ _ _ => pg_name (i := 2) sc_law_begun.nd rfl (Or.inl rfl)) (fun _ _ _ _ _ => pts_one (pdt_C (pdc_ge (pd_var (pv 2)) (pd_powZ pd_int pd_int)))) (fun _ _ _ _ _ => pd_var (pv 2))) (pps_cons pe_str (pv 1) (pps_cons pe_str pe_int pps_nil))) (by rfl) (by rfl) (by simp) (by decide))))), ?_⟩
  have w := walk_list (K := K) (a := a) (xs := ns.map V.int)
  refine tseq_i (tasgC_i (tseq_i (tfor_i (hS := hS) ?_)))
  refine ⟨fun i m σ2 H2 => ∃ (s : Int) (c : Option V), m = ns.length - i ∧ i ≤ ns.length ∧ 0 ≤ s ∧ s < 2147483647 ∧ σ2 = [some (.ref a), some (.int s), c] ∧ Same H H2, ⟨ns.length, 11, none, by simp, Nat.zero_le _, by decide, by decide, rfl, Same.refl _⟩, ?_⟩
  rintro i m σ2 H2 ⟨sd, c, rfl, hi, h0, h1, rfl, s2⟩
  have hS2 := keep_l s2 hS
  by_cases hlt : i < ns.length
  · have hlt' : i < (ns.map V.int).length := by rw [List.length_map]; exact hlt
    refine .inr ⟨w.goes i H2 hlt' hS2, fun σ' H' => ∃ (s : Int) (c : Option V), 0 ≤ s ∧ s < 2147483647 ∧ σ' = [some (.ref a), some (.int s), c] ∧ Same H H', fun σ' H' ⟨s', c', e1, e2, e3, e4⟩ => ⟨ns.length - (i + 1), by omega, s', c', rfl, hlt, e1, e2, e3, e4⟩, fun x H' y => ?_⟩
    obtain ⟨rfl, hx⟩ := w.yields i H2 x H' hlt' hS2 y
    rw [List.getElem?_map] at hx
    obtain ⟨n, hn, rfl⟩ := Option.map_eq_some_iff.mp hx
    obtain ⟨r, hr1, hr2, hr3⟩ := seed_ok sd n
    refine ⟨fun _ => none, fun _ => none, [.no, .d (.int sd), .d (.int n)], .int r, rp_num2, hr1, fun v Hs3 H3 g3 rv => ?_⟩
    cases rv
    exact ⟨r, some (.int n), hr2, hr3, rfl, s2.trans g3.hh⟩
  · have e4 : i = ns.length := by omega
    subst e4
    refine .inl ⟨?_, ?_⟩
    · have := w.stops H2 hS2
      rw [List.length_map] at this
      exact this
    · intro p hp
      have hp0 : H p = none := s2.free hp
      unfold tPairs
      refine tCq_i (comp_ok (keep_l (same_upd hp) hS2) hl fun D gs H' hD hh hD' hg => ?_)
      unfold tPairs
      refine tCq_i (tVq_i rfl ?_)
      unfold tPairs
      refine tCq_i (tCq_i ?_)
      unfold tPairs
      have hDp : D ≠ p := fun z => by rw [z, upd_same] at hD; cases hD
      have hD0 : H D = none := s2.free (by rw [upd_ne hDp] at hD; exact hD)
      refine ⟨hh _ _ upd_same, [(.inr "great", .ref D), (.inr "seed", .int sd), (.inr "turns", .int 0)], rfl, by simp, ?_⟩
      have hmg : mergeK ([] : List (Key × V)) [(.inr "great", .ref D), (.inr "seed", .int sd), (.inr "turns", .int 0)] = [(.inr "great", .ref D), (.inr "seed", .int sd), (.inr "turns", .int 0)] := by kernel_rfl
      rw [hmg]
      refine q p _ ⟨hp0, fun b o h => ?_, D, gs, sd, hD0, hDp, by rw [upd_ne hDp]; exact hD', upd_same, hg, h0, h1⟩
      have hb : b ≠ p := fun z => by rw [z, hp0] at h; cases h
      rw [upd_ne hb]
      exact hh _ _ (by rw [upd_ne hb]; exact s2 _ _ h)
end SV

/-! ML8: what the drawing defs hand back. -/
namespace SV
open PySem L2 DL
def mk3 (x y z : PyData) : Kvs := [(.inr "great", x), (.inr "seed", y), (.inr "turns", z)]
theorem v_great (x y z : PyData) : valP (mk3 x y z) (.inr "great") = some x := by kernel_rfl
theorem v_seed (x y z : PyData) : valP (mk3 x y z) (.inr "seed") = some y := by kernel_rfl
theorem v_turns (x y z : PyData) : valP (mk3 x y z) (.inr "turns") = some z := by kernel_rfl
theorem p_great (x y z u : PyData) : putP (mk3 x y z) (.inr "great") u = mk3 u y z := by kernel_rfl
theorem p_turns (x y z u : PyData) : putP (mk3 x y z) (.inr "turns") u = mk3 x y u := by kernel_rfl
def iL (gs : List Int) : PyData := .list (gs.map .int)
def mD (gs : List Int) (s t : Int) : Kvs := mk3 (iL gs) (.int s) (.int t)
def MD (n : Nat) (kvs : Kvs) : Prop := ∃ gs s t, kvs = mD gs s t ∧ gs.length ≤ 64 ∧ 0 ≤ s ∧ s < 2147483647 ∧ 0 ≤ t ∧ t ≤ (n : Int)
section
variable {gs : List Int} {s t : Int} {c1 c2 c3 : Cell} {rest : En}
theorem g_G (env : En) (h : env[0]? = some (.ok (mD gs s t))) : gG env = some (iL gs) := by
  show (match env[0]? with
    | some (.ok kvs) => valP kvs (.inr "great")
    | _ => none) = _
  rw [h]; exact v_great _ _ _
theorem g_S (env : En) (h : env[0]? = some (.ok (mD gs s t))) : gSd env = some (.int s) := by
  show (match env[0]? with
    | some (.ok kvs) => valP kvs (.inr "seed")
    | _ => none) = _
  rw [h]; exact v_seed _ _ _
theorem g_T (env : En) (h : env[0]? = some (.ok (mD gs s t))) : gT env = some (.int t) := by
  show (match env[0]? with
    | some (.ok kvs) => valP kvs (.inr "turns")
    | _ => none) = _
  rw [h]; exact v_turns _ _ _
theorem ne_iL (gs : List Int) : gNe (iL gs) (.list []) = some (.bool (!gs.isEmpty)) := by
  unfold gNe
  have sh : SeqAt.shaped (iL gs) = true := (lay_il gs).sh (by decide)
  rw [sh]
  cases gs <;> rfl
theorem g_Tail (env : En) (x : Int) (h : env[0]? = some (.ok (mD (x :: gs) s t))) : gTail env = some (iL gs) := by
  unfold gTail
  rw [xCut, g_G env h]
  have o1 : ∀ env, oSome (eC (.int 1)) env = some (some 1) := fun _ => rfl
  rw [Option.bind_some, o1, Option.bind_some, xoNone, Option.bind_some]
  show some (PyData.list (cutD (PyData.int x :: gs.map .int) (some 1) none)) = _
  unfold cutD
  rw [HT.sIx_none, show (some (1 : Int)) = some ((1 : Nat) : Int) from rfl, HT.sIx_nat]
  have : min 1 (PyData.int x :: gs.map .int).length = 1 := by simp
  rw [this]
  simp [iL]
  exact List.take_of_length_le (by simp)
theorem draw_while {Q : Out2 → Prop} : ∀ (gs : List Int) (N : Nat), gs.length < N → (∀ gs' : List Int, gs'.length ≤ gs.length → Q (.nx [.ok (mD gs' s t), c1, c2, c3])) →
    mWhile (ftAnd (tOf (eB gNe gG (eLst aNil))) (tOf (eB gEq (eB gIx gG (eC (.int 0))) (eC (.int 0))))) (mPutK (eC (.str "great")) gTail 0) N [.ok (mD gs s t), c1, c2, c3] Q
  | [], N + 1, _, h => by
    refine ⟨false, ?_, by rw [if_neg Bool.false_ne_true]; exact h [] (Nat.le_refl _)⟩
    have e := g_G [.ok (mD ([] : List Int) s t), c1, c2, c3] rfl
    simp [e, ne_iL]
  | x :: gs, N + 1, hN, h => by
    have e := g_G [.ok (mD (x :: gs) s t), c1, c2, c3] rfl
    have e0 : gIx (iL (x :: gs)) (.int 0) = some (.int x) := xIx0L _ _
    have hc : ftAnd (tOf (eB gNe gG (eLst aNil))) (tOf (eB gEq (eB gIx gG (eC (.int 0))) (eC (.int 0)))) [.ok (mD (x :: gs) s t), c1, c2, c3] = some (x == 0) := by
      simp [e, ne_iL, e0]
    refine ⟨_, hc, ?_⟩
    by_cases hx : x = 0
    · subst hx
      rw [if_pos (by rfl)]
      refine ⟨iL gs, .str "great", .inr "great", mD (0 :: gs) s t, g_Tail _ 0 rfl, rfl, rfl, rfl, by show 3 < line; decide, ?_⟩
      have p : putP (mD (0 :: gs) s t) (.inr "great") (iL gs) = mD gs s t := p_great _ _ _ _
      rw [p]
      exact draw_while gs N (by simp at hN; omega) fun gs' hg => h gs' (by simp; omega)
    · rw [if_neg (by simpa using hx)]
      exact h _ (Nat.le_refl _)
theorem draw_ok {n : Nat} {kvs : Kvs} {L : Int} {Q : Kvs → PyData → Prop} (h : MD n kvs) (hn : n < 1000000) (h1 : 1 ≤ L) (h2 : L ≤ 1000) (q : ∀ kvs' r, MD (n + 1) kvs' → 0 ≤ r → r < L → Q kvs' (.int r)) : s_law_draw kvs [.int L] Q := by
  obtain ⟨gs, s, t, rfl, hg, hs0, hs1, ht0, ht1⟩ := h
  refine ⟨rfl, ?_⟩
  show b_law_draw [.ok (mD gs s t), .d (.int L), .no, .no] _
  refine draw_while gs 100 (by omega) fun gs' hg' => ?_
  cases gs' with
  | cons x gs' =>
    have e := g_G [.ok (mD (x :: gs') s t), .d (.int L), .no, .no] rfl
    have e0 : gIx (iL (x :: gs')) (.int 0) = some (.int x) := xIx0L _ _
    refine ⟨true, by simp [e, ne_iL], ?_⟩
    rw [if_pos rfl]
    refine ⟨.int x, by simp [e, e0], ?_⟩
    have ha : gAdd (.list [.int (x / L)]) (iL gs') = some (iL (x / L :: gs')) := by
      rw [iL, gAddL_ok _ _ (by simp at hg' ⊢; exact Nat.le_trans (show _ ≤ 64 by omega) (by decide))]; rfl
    have hd : 0 < L ∧ L < 1073741824 := ⟨by omega, by omega⟩
    refine ⟨iL (x / L :: gs'), .str "great", .inr "great", mD (x :: gs') s t, ?_, rfl, rfl, rfl, by show 3 < line; decide, ?_⟩
    · have et := g_Tail [.ok (mD (x :: gs') s t), .d (.int L), .d (.int x), .no] x rfl
      show eB gAdd _ gTail [.ok (mD (x :: gs') s t), .d (.int L), .d (.int x), .no] = _
      rw [xB, et]
      simp [hd, ha]
    · have p : putP (mD (x :: gs') s t) (.inr "great") (iL (x / L :: gs')) = mD (x / L :: gs') s t := p_great _ _ _ _
      rw [p]
      refine ⟨.int (x % L), ?_, mD (x / L :: gs') s t, rfl, q _ _ ⟨x / L :: gs', s, t, rfl, by simp at hg' ⊢; omega, hs0, hs1, ht0, by omega⟩ (Int.emod_nonneg _ (by omega)) (Int.emod_lt_of_pos _ (by omega))⟩
      have hl : 0 < L := by omega
      show eB gModZ _ _ [.ok (mD (x / L :: gs') s t), .d (.int L), .d (.int x), .no] = _
      simp [hl]
  | nil =>
    have e := g_G [.ok (mD ([] : List Int) s t), .d (.int L), .no, .no] rfl
    have et := g_T [.ok (mD ([] : List Int) s t), .d (.int L), .no, .no] rfl
    refine ⟨false, by simp [e, ne_iL], ?_⟩
    rw [if_neg Bool.false_ne_true]
    refine ⟨.int (t + 1), .str "turns", .inr "turns", mD [] s t, by rw [xB, et]; rfl, rfl, rfl, rfl, by show 3 < line; decide, ?_⟩
    have p : putP (mD ([] : List Int) s t) (.inr "turns") (.int (t + 1)) = mD [] s (t + 1) := p_turns _ _ _ _
    rw [p]
    have fS := fun c => g_S (gs := []) (s := s) (t := t + 1) [.ok (mD [] s (t + 1)), .d (.int L), .no, c] rfl
    have fT := fun c => g_T (gs := []) (s := s) (t := t + 1) [.ok (mD [] s (t + 1)), .d (.int L), .no, c] rfl
    have b1 : -(2 ^ 64) < t + 1 ∧ t + 1 < 2 ^ 64 := ⟨by omega, by omega⟩
    have hl : 0 < L := by omega
    refine ⟨.int ((s * 48271 + (t + 1) * (t + 1) * 16807 + (t + 1)) % 2147483647), ?_, ?_⟩
    · show eB gModZ _ _ [.ok (mD [] s (t + 1)), .d (.int L), .no, .no] = _
      have hm : gMulZ (.int (t + 1)) (.int (t + 1)) = some (.int ((t + 1) * (t + 1))) := if_pos (.inl b1)
      have hm2 : gMulZ (.int s) (.int 48271) = some (.int (s * 48271)) := if_pos (.inr (by decide))
      have hm3 : gMulZ (.int ((t + 1) * (t + 1))) (.int 16807) = some (.int ((t + 1) * (t + 1) * 16807)) := if_pos (.inr (by decide))
      simp [fS, fT, hm, hm2, hm3, -xMulZ]
    · generalize (s * 48271 + (t + 1) * (t + 1) * 16807 + (t + 1)) % 2147483647 = u
      refine ⟨.int ((u * 69621 + 12345) % 2147483629), ?_, ?_⟩
      · show eB gModZ _ _ [.ok (mD [] s (t + 1)), .d (.int L), .no, .d (.int u)] = _
        simp
      · generalize (u * 69621 + 12345) % 2147483629 = u2
        refine ⟨.int ((u2 * 40014 + (t + 1)) % 2147483563 / 64 % L), ?_, mD [] s (t + 1), rfl, q _ _ ⟨[], s, t + 1, rfl, by simp, hs0, hs1, by omega, by omega⟩ (Int.emod_nonneg _ (by omega)) (Int.emod_lt_of_pos _ (by omega))⟩
        show eB gModZ _ _ [.ok (mD [] s (t + 1)), .d (.int L), .no, .d (.int u2)] = _
        simp [fT, hl]
end
end SV

/-! ML9: _law_of, _law_machine. -/
namespace SV
open PySem L2 DL
/-! one step of a wish -/
section
variable {g g' : Fms} {F G : Fm} {FA : FmA} {FI : FmI} {env : En} {Q : Out2 → Prop} {Qd : En → PyData → Prop} {Qa : En → List PyData → Prop}
theorem mSeq_i (h : g env fun o => match o with
  | .nx e => g' e Q
  | .rt e d => Q (.rt e d)) : mSeq g g' env Q := h
theorem mFor_i {i : Nat} (h : FI env fun e xs => forM i g xs e Q) : mFor FI i g env Q := h
theorem mRange_i (h : F env fun e x => ∃ n : Int, x = .int n ∧ -(2 ^ 62) ≤ n ∧ n < 2 ^ 62 ∧ Qa e (DL.upTo n.toNat)) : mRange F env Qa := h
theorem mApp_i {i : Nat} (h0 : ∃ x0, env[i]? = some (.ol x0)) (h : F env fun e1 d => ∃ xs, e1[i]? = some (.ol xs) ∧ xs.length < line ∧ Q (.nx (e1.set i (.ol (xs ++ [d]))))) : mApp i F env Q := ⟨h0, h⟩
theorem mPop_i {i : Nat} (h0 : ∃ x0, env[i]? = some (.ol x0)) (h : F env fun e1 d => ∃ (xs : List PyData) (k : Nat) (y : PyData), e1[i]? = some (.ol xs) ∧ d = .int (k : Nat) ∧ k < 2 ^ 62 ∧ xs[k]? = some y ∧ Qd (e1.set i (.ol (xs.eraseIdx k))) y) : mPop i F env Qd := ⟨h0, h⟩
theorem mSet_i {i : Nat} (h : F env fun e d => Q (.nx (e.set i (.d d)))) : mSet i F env Q := h
theorem mPar_i {i j : Nat} (h : F env fun e1 x => G e1 fun e2 y => Q (.nx ((e2.set i (.d x)).set j (.d y)))) : mPar i j F G env Q := h
theorem mRet_i (h : F env fun e d => Q (.rt e d)) : mRet F env Q := h
theorem mTup_i (h : FA env fun e1 ds => ds.length ≤ 1000 ∧ Qd e1 (.tuple ds)) : mTup FA env Qd := h
theorem mCons_i (h : F env fun e1 x => FA e1 fun e2 xs => Qa e2 (x :: xs)) : mCons F FA env Qa := h
theorem mNil_i (h : Qa env []) : mNil env Qa := h
theorem mB_i {op : G2} (h : F env fun e1 x => G e1 fun e2 y => ∃ z, op x y = some z ∧ Qd e2 z) : mB op F G env Qd := h
theorem mOf_i {f : Fx} {d : PyData} (e : f env = some d) (h : Qd env d) : mOf f env Qd := ⟨d, e, h⟩
theorem mTuple_i (h : F env fun e1 x => ∃ ds, (x = .list ds ∨ x = .tuple ds) ∧ Qd e1 (.tuple ds)) : mTuple F env Qd := h
theorem mLc_i {vs : List Nat} {i : Nat} (h : FI env fun e xs => xs.length ≤ line ∧ lcM i vs F xs [] e fun e2 ds => Qd e2 (.list ds)) : mLc FI vs i F env Qd := h
theorem mIfT_i {c : Ft} (e : c env = some true) (h : g env Q) : mIf c g g' env Q := ⟨true, e, by rw [if_pos rfl]; exact h⟩
theorem mIfF_i {c : Ft} (e : c env = some false) (h : g' env Q) : mIf c g g' env Q := ⟨false, e, by rw [if_neg Bool.false_ne_true]; exact h⟩
theorem mParC_i {i j : Nat} {f f' : Fc} {c c' : Cell} (e : f env = some c) (e' : f' env = some c') (h : Q (.nx ((env.set i c).set j c'))) : mParC i j f f' env Q := ⟨c, c', e, e', h⟩
theorem mFrz_i {i : Nat} {xs : List PyData} (e : env[i]? = some (.ol xs)) (h : Q (.nx (env.set i (.d (.list xs))))) : mFrz i env Q := ⟨xs, e, h⟩
theorem mNext_i (h : Q (.nx env)) : mNext env Q := h
theorem runM_i {n N : Nat} {kvs : Kvs} {ds : List PyData} {Qr : Kvs → PyData → Prop} (hl : ds.length = n) (h : g (.ok kvs :: (ds.map Cell.d ++ List.replicate (N - 1 - ds.length) .no)) fun o => match o with
  | .rt e d => ∃ kvs', e[0]? = some (.ok kvs') ∧ Qr kvs' d
  | .nx e => ∃ kvs', e[0]? = some (.ok kvs') ∧ Qr kvs' .none) : runM n N g kvs ds Qr := ⟨hl, h⟩
end
theorem erase_map {α β : Type} (f : α → β) : ∀ (l : List α) (k : Nat), (l.map f).eraseIdx k = (l.eraseIdx k).map f
  | [], _ => rfl
  | _ :: _, 0 => rfl
  | a :: l, k + 1 => by
    show f a :: (l.map f).eraseIdx k = f a :: (l.eraseIdx k).map f
    rw [erase_map f l k]
theorem erase_perm : ∀ (l : List Nat) (k : Nat) (h : k < l.length), (l[k] :: l.eraseIdx k).Perm l
  | a :: l, 0, _ => .refl _
  | a :: l, k + 1, h => by
    have hk : k < l.length := Nat.lt_of_succ_lt_succ h
    have ih := erase_perm l k hk
    show (l[k] :: a :: l.eraseIdx k).Perm (a :: l)
    exact (List.Perm.swap _ _ _).trans (ih.cons a)
theorem MD.mono {n n' : Nat} {kvs : Kvs} (h : MD n kvs) (l : n ≤ n') : MD n' kvs := by
  obtain ⟨gs, s, t, rfl, hg, hs0, hs1, ht0, ht1⟩ := h
  exact ⟨gs, s, t, rfl, hg, hs0, hs1, ht0, by omega⟩
theorem mdraw_ok {im n : Nat} {f : Fx} {env : En} {kvs : Kvs} {L : Int} {Q : En → PyData → Prop} (he : env[im]? = some (.ok kvs)) (hf : f env = some (.int L)) (h : MD n kvs) (hn : n < 1000000) (h1 : 1 ≤ L) (h2 : L ≤ 1000)
    (q : ∀ kvs' r, MD (n + 1) kvs' → 0 ≤ r → r < L → Q (env.set im (.ok kvs')) (.int r)) : mCall im s_law_draw (mCons (mOf f) mNil) env Q :=
  ⟨⟨_, he⟩, _, hf, kvs, he, draw_ok h hn h1 h2 q⟩
theorem gIx_at {ds : List PyData} {r : Int} (h0 : 0 ≤ r) (h1 : r < (ds.length : Int)) : ∃ d, d ∈ ds ∧ gIx (.list ds) (.int r) = some d ∧ gIx (.tuple ds) (.int r) = some d := by
  have hl : r.toNat < ds.length := by omega
  have e : atI ds r = some ds[r.toNat] := by
    unfold atI ixN
    rw [if_pos h0, if_pos h1, Option.bind_some, List.getElem?_eq_getElem hl]
  exact ⟨ds[r.toNat], List.getElem_mem hl, e, e⟩
theorem of_ok {n : Nat} {kvs : Kvs} {ds : List PyData} {Q : Kvs → PyData → Prop} (h : MD n kvs) (hn : n < 1000000) (h1 : 1 ≤ ds.length) (h2 : ds.length ≤ 1000) (q : ∀ kvs' d, MD (n + 1) kvs' → d ∈ ds → Q kvs' d) : s_law_of kvs [.list ds] Q := by
  refine runM_i rfl ?_
  unfold b_law_of
  refine mRet_i (mB_i (mOf_i (d := .list ds) rfl ?_))
  refine mdraw_ok (L := (ds.length : Int)) rfl rfl h hn (by omega) (by omega) fun kvs' r hm r0 r1 => ?_
  obtain ⟨d, hd, e, _⟩ := gIx_at r0 r1
  exact ⟨d, e, kvs', rfl, q kvs' d hm hd⟩
theorem mof_ok {im n : Nat} {fs : Fa} {env : En} {kvs : Kvs} {ds : List PyData} {Q : En → PyData → Prop} (he : env[im]? = some (.ok kvs)) (hf : fs env = some ds) (h : MD n kvs) (hn : n < 1000000) (h1 : 1 ≤ ds.length) (h2 : ds.length ≤ 1000)
    (q : ∀ kvs' d, MD (n + 1) kvs' → d ∈ ds → Q (env.set im (.ok kvs')) d) : mCall im s_law_of (mCons (mOf (eLst fs)) mNil) env Q :=
  ⟨⟨_, he⟩, .list ds, by rw [xLst, hf, Option.bind_some, if_pos h2], kvs, he, of_ok h hn h1 h2 q⟩
/-- the filters' loop -/
theorem words_loop {c1 c2 c6 : Cell} {Q : Out2 → Prop} : ∀ (xs : List PyData) (n : Nat) (kvs : Kvs) (cr l : List Nat) (c5 : Cell), MD n kvs → n + xs.length < 1000000 → cr.length + xs.length ≤ 2 → l.length + cr.length = 8 → (cr ++ l).Nodup → (∀ x ∈ cr ++ l, x < 8) →
    (∀ (kvs' : Kvs) (cr' l' : List Nat) (d5 : Cell), MD (n + xs.length) kvs' → cr'.length ≤ 2 → (cr' ++ l').Nodup → (∀ x ∈ cr' ++ l', x < 8) → Q (.nx [.ok kvs', c1, c2, .ol (cr'.map fStr), .ol (l'.map fStr), d5, c6])) →
    forM 5 (mApp 3 (mPop 4 (mDraw (eLenO 4)))) xs [.ok kvs, c1, c2, .ol (cr.map fStr), .ol (l.map fStr), c5, c6] Q
  | [], n, kvs, cr, l, c5, h, hn, hc, hl, nd, lt, q => q kvs cr l c5 h (by simpa using hc) nd lt
  | x :: xs, n, kvs, cr, l, c5, h, hn, hc, hl, nd, lt, q => by
    rw [List.length_cons] at hn hc
    show mApp 3 (mPop 4 (mDraw (eLenO 4))) [.ok kvs, c1, c2, .ol (cr.map fStr), .ol (l.map fStr), .d x, c6] _
    refine mApp_i ⟨_, rfl⟩ (mPop_i ⟨_, rfl⟩ ?_)
    refine mdraw_ok (L := (l.length : Int)) rfl (by show some (PyData.int ((l.map fStr).length : Nat)) = _; rw [List.length_map]) h (by omega) (by omega) (by omega) fun kvs' r hm r0 r1 => ?_
    have hr : r.toNat < l.length := by omega
    refine ⟨l.map fStr, r.toNat, fStr l[r.toNat], rfl, by congr 1; omega, by omega, by rw [List.getElem?_map, List.getElem?_eq_getElem hr]; rfl, cr.map fStr, rfl, ?_, ?_⟩
    · rw [List.length_map]
      exact Nat.lt_of_le_of_lt (show cr.length ≤ 2 by omega) (by decide)
    · have e1 : (l.map fStr).eraseIdx r.toNat = (l.eraseIdx r.toNat).map fStr := erase_map _ _ _
      have e2 : cr.map fStr ++ [fStr l[r.toNat]] = (cr ++ [l[r.toNat]]).map fStr := by rw [List.map_append]; rfl
      have pm : (cr ++ [l[r.toNat]] ++ l.eraseIdx r.toNat).Perm (cr ++ l) := by
        rw [List.append_assoc]
        exact List.Perm.append_left cr (erase_perm l r.toNat hr)
      show forM 5 _ xs [.ok kvs', c1, c2, .ol (cr.map fStr ++ [fStr l[r.toNat]]), .ol ((l.map fStr).eraseIdx r.toNat), .d x, c6] Q
      rw [e1, e2]
      refine words_loop xs (n + 1) kvs' _ _ (.d x) hm (by omega) (by simp; omega) ?_ (pm.nodup_iff.mpr nd) (fun y hy => lt y (pm.mem_iff.mp hy)) fun kvs2 cr2 l2 d5 hm2 a1 a2 a3 => q kvs2 cr2 l2 d5 (hm2.mono (by rw [List.length_cons]; omega)) a1 a2 a3
      rw [List.length_eraseIdx_of_lt hr, List.length_append]
      simp
      omega
theorem machine_ok {n : Nat} {kvs : Kvs} {Q : Kvs → PyData → Prop} (h : MD n kvs) (hn : n + 10 < 1000000) (q : ∀ kvs' m, MD (n + 8) kvs' → Mac.Ok m → Q kvs' (eM m)) : s_law_machine kvs [.int 2, .int 3] Q := by
  refine runM_i rfl ?_
  unfold b_law_machine
  refine mSeq_i (mParC_i (c := .ol (([] : List Nat).map fStr)) (c' := .ol ([0, 1, 2, 3, 4, 5, 6, 7].map fStr)) rfl rfl ?_)
  show mSeq _ _ [.ok kvs, .d (.int 2), .d (.int 3), .ol (([] : List Nat).map fStr), .ol ([0, 1, 2, 3, 4, 5, 6, 7].map fStr), .no, .no] _
  refine mSeq_i (mFor_i (mRange_i ?_))
  refine mdraw_ok (L := 3) rfl rfl h (by omega) (by decide) (by decide) fun kvs1 r hm r0 r1 => ?_
  refine ⟨r, rfl, by omega, by omega, ?_⟩
  have hu : (DL.upTo r.toNat).length = r.toNat := by unfold DL.upTo; rw [List.length_map, List.length_range]
  refine words_loop (DL.upTo r.toNat) (n + 1) kvs1 [] [0, 1, 2, 3, 4, 5, 6, 7] .no hm (by omega) (by rw [hu]; simp; omega) (by decide) (by decide) (by decide) fun kvs2 cr l d5 hm2 hc nd lt => ?_
  have hm2 := hm2.mono (show n + 1 + (DL.upTo r.toNat).length ≤ n + 3 by rw [hu]; omega)
  refine mSeq_i (mApp_i ⟨_, rfl⟩ ?_)
  refine mof_ok (ds := [0, 1, 2, 3, 4].map nStr) rfl rfl hm2 (by omega) (by decide) (by decide) fun kvs3 d hm3 hd => ?_
  obtain ⟨en, hen, rfl⟩ := List.mem_map.mp hd
  have hen5 : en < 5 := by simp at hen; omega
  refine ⟨cr.map fStr, rfl, by rw [List.length_map]; exact Nat.lt_of_le_of_lt hc (by decide), ?_⟩
  show mSeq _ _ [.ok kvs3, .d (.int 2), .d (.int 3), .ol (cr.map fStr ++ [nStr en]), .ol (l.map fStr), d5, .no] _
  refine mSeq_i (mSet_i ?_)
  refine mof_ok (ds := [0, 1, 2, 3, 4].map rStr) rfl rfl hm3 (by omega) (by decide) (by decide) fun kvs4 d hm4 hd => ?_
  obtain ⟨ret, hret, rfl⟩ := List.mem_map.mp hd
  have hret5 : ret < 5 := by simp at hret; omega
  refine mSeq_i (mFrz_i (xs := cr.map fStr ++ [nStr en]) rfl ?_)
  show mRet _ [.ok kvs4, .d (.int 2), .d (.int 3), .d (.list (cr.map fStr ++ [nStr en])), .ol (l.map fStr), d5, .d (rStr ret)] _
  refine mRet_i (mTup_i (mCons_i (mB_i (mOf_i (d := .int 1) rfl ?_))))
  refine mdraw_ok (L := 2) rfl rfl hm4 (by omega) (by decide) (by decide) fun kvs5 v hm5 v0 v1 => ?_
  refine ⟨.int (1 + v), rfl, mCons_i (mOf_i (d := .tuple (cr.map fStr ++ [nStr en])) rfl (mCons_i (mOf_i (d := rStr ret) rfl (mNil_i ⟨by simp, kvs5, rfl, ?_⟩))))⟩
  have ok : Mac.Ok ⟨1 + v.toNat, cr, en, ret⟩ := by
    refine ⟨?_, hc, (List.nodup_append.mp nd).1, fun x hx => lt x (List.mem_append_left _ hx), hen5, hret5⟩
    show 1 + v.toNat = 1 ∨ 1 + v.toNat = 2
    omega
  have := q kvs5 ⟨1 + v.toNat, cr, en, ret⟩ (hm5.mono (by omega)) ok
  have e : ((1 + v.toNat : Nat) : Int) = 1 + v := by omega
  have e2 : eM ⟨1 + v.toNat, cr, en, ret⟩ = .tuple [.int (1 + v), .tuple (cr.map fStr ++ [nStr en]), rStr ret] := by
    show PyData.tuple [.int ((1 + v.toNat : Nat) : Int), eCr cr en, rStr ret] = _
    rw [e]; rfl
  rw [e2] at this
  exact this
end SV

/-! ML10: _law_near_chain. -/
namespace SV
open PySem L2 DL
def mMachI (im : Nat) : Fm := mCall im s_law_machine (mCons (mOf (eC (.int 2))) (mCons (mOf (eC (.int 3))) mNil))
theorem mmach_ok {im n : Nat} {env : En} {kvs : Kvs} {Q : En → PyData → Prop} (he : env[im]? = some (.ok kvs)) (h : MD n kvs) (hn : n + 10 < 1000000) (q : ∀ kvs' m, MD (n + 8) kvs' → Mac.Ok m → Q (env.set im (.ok kvs')) (eM m)) : mMachI im env Q :=
  ⟨⟨_, he⟩, _, rfl, _, rfl, kvs, he, machine_ok h hn q⟩
theorem lc_ok {im i : Nat} {Q : En → List PyData → Prop} (E : Kvs → En) (h1 : ∀ k x, ((E k).set i (.d x))[im]? = some (.ok k)) (h2 : ∀ k, wipeE (E k) [i] = E k) (h3 : ∀ k k' x, wipeE (((E k).set i (.d x)).set im (.ok k')) [i] = E k') : ∀ (xs : List PyData) (n : Nat) (kvs : Kvs) (ms : List Mac), MD n kvs → n + 10 * (xs.length + 1) < 1000000 → ChOk ms →
    (∀ kvs' ms', MD (n + 8 * xs.length) kvs' → ChOk ms' → ms'.length = ms.length + xs.length → Q (E kvs') (ms'.map eM)) → lcM i [i] (mMachI im) xs (ms.map eM) (E kvs) Q
  | [], n, kvs, ms, h, hn, ok, q => q kvs ms h ok rfl
  | x :: xs, n, kvs, ms, h, hn, ok, q => by
    rw [List.length_cons] at hn
    refine ⟨h2 kvs, mmach_ok (h1 kvs x) h (by omega) fun kvs' m hm hok => ?_⟩
    rw [h3]
    have e : ms.map eM ++ [eM m] = (ms ++ [m]).map eM := by rw [List.map_append]; rfl
    rw [e]
    refine lc_ok E h1 h2 h3 xs (n + 8) kvs' (ms ++ [m]) hm (by omega) (fun y hy => ?_) fun k2 ms2 a1 a2 a3 => q k2 ms2 (a1.mono (by rw [List.length_cons]; omega)) a2 (by rw [a3, List.length_append, List.length_cons]; simp; omega)
    rcases List.mem_append.mp hy with hy | hy
    · exact ok y hy
    · simp at hy; subst hy; exact hok
theorem cut_A {ms : List Mac} {a : Nat} (ha : a < ms.length) (c0 c3 c4 c5 : Cell) : eCutA [c0, .d (eC' ms), .d (.int (a : Nat)), c3, c4, c5] = some (eC' (ms.take a)) := by
  show gCut (eC' ms) none (some (a : Int)) = _
  show some (PyData.tuple (cutD (ms.map eM) none (some ((a : Nat) : Int)))) = _
  unfold cutD
  rw [HT.sIx_none, HT.sIx_nat, List.length_map, Nat.min_eq_left (by omega), List.drop_zero, Nat.sub_zero, eC', List.map_take]
theorem cut_B {ms : List Mac} {a : Nat} (ha : a < ms.length) (c0 c3 c4 c5 : Cell) : eCutB [c0, .d (eC' ms), .d (.int (a : Nat)), c3, c4, c5] = some (eC' (ms.drop (a + 1))) := by
  show gCut (eC' ms) (some ((a : Int) + 1)) none = _
  show some (PyData.tuple (cutD (ms.map eM) (some ((a : Int) + 1)) none)) = _
  rw [show ((a : Int) + 1) = ((a + 1 : Nat) : Int) by omega]
  unfold cutD
  rw [HT.sIx_none, HT.sIx_nat, List.length_map, Nat.min_eq_left (by omega), eC', List.map_drop, List.take_of_length_le (by rw [List.length_drop, List.length_map]; omega)]
theorem add_C (ms ms' : List Mac) (h : ms.length + ms'.length ≤ 10) : gAdd (eC' ms) (eC' ms') = some (eC' (ms ++ ms')) := by
  rw [eC', eC', gAddT_ok _ _ (by rw [List.length_map, List.length_map]; exact Nat.le_trans h (by decide)), eC', List.map_append]
theorem gt_len {ms : List Mac} (c0 c2 c3 c4 c5 : Cell) : tOf (eB (gCmp fun i j => decide (j < i)) (eCall gLen (aCons (eVar 1) aNil)) (eC (.int 1))) [c0, .d (eC' ms), c2, c3, c4, c5] = some (decide ((1 : Int) < (ms.length : Int))) := by
  simp
theorem eq_way {w : Int} {k : Int} (c0 c1 c2 c4 c5 : Cell) : tOf (eB gEq (eVar 3) (eC (.int k))) [c0, c1, c2, .d (.int w), c4, c5] = some (w == k) := by
  simp
theorem near_ok {n : Nat} {kvs : Kvs} {ms : List Mac} {Q : Kvs → PyData → Prop} (h : MD n kvs) (hn : n + 100 < 1000000) (ch : Ch ms) (q : ∀ kvs' ms', MD (n + 40) kvs' → Ch ms' → Q kvs' (eC' ms')) : s_law_near kvs [eC' ms] Q := by
  have l1 := ch.h1
  have l3 := ch.h3
  refine runM_i rfl ?_
  unfold b_law_near
  refine mSeq_i (mPar_i ?_)
  refine mdraw_ok (L := (ms.length : Int)) rfl (by show eCall gLen _ [.ok kvs, .d (eC' ms), .no, .no, .no, .no] = _; simp) h (by omega) (by omega) (by omega) fun kvs1 a hm1 a0 a1 => ?_
  refine mdraw_ok (L := 5) rfl rfl hm1 (by omega) (by decide) (by decide) fun kvs2 w hm2 w0 w1 => ?_
  obtain ⟨k, rfl⟩ : ∃ k : Nat, a = (k : Nat) := ⟨a.toNat, by omega⟩
  have hk : k < ms.length := by omega
  show mSeq _ _ [.ok kvs2, .d (eC' ms), .d (.int (k : Nat)), .d (.int w), .no, .no] _
  have cA := fun c4 c5 => cut_A hk (.ok kvs2) (.d (.int w)) c4 c5
  have cB := fun c4 c5 => cut_B hk (.ok kvs2) (.d (.int w)) c4 c5
  have sub : ∀ m : Mac, Mac.Ok m → Ch (ms.take k ++ [m] ++ ms.drop (k + 1)) := fun m hm => by
    refine ⟨fun y hy => ?_, ?_, ?_⟩
    · rcases List.mem_append.mp hy with hy | hy
      · rcases List.mem_append.mp hy with hy | hy
        · exact ch.ok y (List.mem_of_mem_take hy)
        · simp at hy; subst hy; exact hm
      · exact ch.ok y (List.mem_of_mem_drop hy)
    · simp
      omega
    · simp
      omega
  refine mSeq_i ?_
  by_cases e0 : w = 0
  · refine mIfT_i (by rw [eq_way, e0]; rfl) ?_
    by_cases hl : (1 : Int) < (ms.length : Int)
    · have r : Ch (ms.take k ++ ms.drop (k + 1)) := by
        refine ⟨fun y hy => ?_, ?_, ?_⟩
        · rcases List.mem_append.mp hy with hy | hy
          · exact ch.ok y (List.mem_of_mem_take hy)
          · exact ch.ok y (List.mem_of_mem_drop hy)
        · simp; omega
        · simp; omega
      have e : eIf (tOf (eB (gCmp fun i j => decide (j < i)) (eCall gLen (aCons (eVar 1) aNil)) (eC (.int 1)))) (eB gAdd eCutA eCutB) (eB gMul (eVar 1) (eC (.int 2))) [.ok kvs2, .d (eC' ms), .d (.int (k : Nat)), .d (.int w), .no, .no] = some (eC' (ms.take k ++ ms.drop (k + 1))) := by
        rw [xIf, gt_len, Option.bind_some, if_pos (by simpa using hl), xB, cA, Option.bind_some, cB, Option.bind_some, add_C _ _ (by simp; omega)]
      exact mRet_i (mOf_i e ⟨kvs2, rfl, q _ _ (hm2.mono (by omega)) r⟩)
    · have hl1 : ms.length = 1 := by omega
      have r : Ch (ms ++ ms) := ⟨fun y hy => (List.mem_append.mp hy).elim (ch.ok y) (ch.ok y), by simp; omega, by simp; omega⟩
      have e2 : gMul (eC' ms) (.int 2) = some (eC' (ms ++ ms)) := by
        show (if 1 ≤ (2 : Int) ∧ (2 : Int) ≤ 1000 ∧ (ms.map eM).length ≤ 1000 ∧ ms.map eM ≠ [] then some (PyData.tuple (List.replicate (2 : Int).toNat (ms.map eM)).flatten) else none) = _
        rw [if_pos ⟨by decide, by decide, by rw [List.length_map]; omega, fun z => by rw [List.map_eq_nil_iff] at z; rw [z] at hl1; cases hl1⟩, eC', List.map_append]
        show some (PyData.tuple (ms.map eM ++ (ms.map eM ++ []))) = _
        rw [List.append_nil]
      have e : eIf (tOf (eB (gCmp fun i j => decide (j < i)) (eCall gLen (aCons (eVar 1) aNil)) (eC (.int 1)))) (eB gAdd eCutA eCutB) (eB gMul (eVar 1) (eC (.int 2))) [.ok kvs2, .d (eC' ms), .d (.int (k : Nat)), .d (.int w), .no, .no] = some (eC' (ms ++ ms)) := by
        rw [xIf, gt_len, Option.bind_some, if_neg (by simpa using hl)]
        exact e2
      exact mRet_i (mOf_i e ⟨kvs2, rfl, q _ _ (hm2.mono (by omega)) r⟩)
  · refine mIfF_i (by rw [eq_way, beq_eq_false_iff_ne.mpr e0]) (mNext_i (mSeq_i ?_))
    by_cases e1 : w = 1
    · refine mIfT_i (by rw [eq_way, e1]; rfl) ?_
      have r : Ch ms.reverse := ⟨fun y hy => ch.ok y (List.mem_reverse.mp hy), by simp; omega, by simp; omega⟩
      have e : eRevT (eVar 1) [.ok kvs2, .d (eC' ms), .d (.int (k : Nat)), .d (.int w), .no, .no] = some (eC' ms.reverse) := by
        show some (PyData.tuple (ms.map eM).reverse) = _
        rw [eC', List.map_reverse]
      exact mRet_i (mOf_i e ⟨kvs2, rfl, q _ _ (hm2.mono (by omega)) r⟩)
    · refine mIfF_i (by rw [eq_way, beq_eq_false_iff_ne.mpr e1]) (mNext_i (mSeq_i ?_))
      by_cases e2 : w = 2
      · refine mIfT_i (by rw [eq_way, e2]; rfl) (mSeq_i (mSet_i ?_))
        refine mof_ok (ds := [0, 1, 2, 3, 4].map rStr) rfl rfl hm2 (by omega) (by decide) (by decide) fun kvs3 d hm3 hd => ?_
        obtain ⟨ret, hret, rfl⟩ := List.mem_map.mp hd
        have hret5 : ret < 5 := by simp at hret; omega
        have okm : Mac.Ok { ms[k] with ret := ret } := by
          have o := ch.ok ms[k] (List.getElem_mem hk)
          exact ⟨o.v, o.len, o.nd, o.lt, o.en, hret5⟩
        have r := sub _ okm
        have cA3 := fun c4 c5 => cut_A hk (.ok kvs3) (.d (.int w)) c4 c5
        have cB3 := fun c4 c5 => cut_B hk (.ok kvs3) (.d (.int w)) c4 c5
        have hix : gIx (eC' ms) (.int (k : Nat)) = some (eM ms[k]) := by
          show atI (ms.map eM) (k : Int) = _
          unfold atI ixN
          rw [if_pos (by omega), if_pos (by rw [List.length_map]; omega), Option.bind_some, Int.toNat_natCast, List.getElem?_map, List.getElem?_eq_getElem hk]; rfl
        have hc2 : gCut (eM ms[k]) none (some 2) = some (.tuple [.int ms[k].v, eCr ms[k].cr ms[k].en]) := rfl
        have ha : gAdd (.tuple [.int ms[k].v, eCr ms[k].cr ms[k].en]) (.tuple [rStr ret]) = some (eM { ms[k] with ret := ret }) := gAddT_ok _ _ (show 3 ≤ line by decide)
        have o2 : ∀ env, oSome (eC (.int 2)) env = some (some 2) := fun _ => rfl
        have e : eB gAdd (eB gAdd eCutA (eTup (aCons (eB gAdd (eCut (eB gIx (eVar 1) (eVar 2)) oNone (oSome (eC (.int 2)))) (eTup (aCons (eVar 4) aNil))) aNil))) eCutB [.ok kvs3, .d (eC' ms), .d (.int (k : Nat)), .d (.int w), .d (rStr ret), .no] = some (eC' (ms.take k ++ [{ ms[k] with ret := ret }] ++ ms.drop (k + 1))) := by
          have t1 : eTup (aCons (eB gAdd (eCut (eB gIx (eVar 1) (eVar 2)) oNone (oSome (eC (.int 2)))) (eTup (aCons (eVar 4) aNil))) aNil) [.ok kvs3, .d (eC' ms), .d (.int (k : Nat)), .d (.int w), .d (rStr ret), .no] = some (eC' [{ ms[k] with ret := ret }]) := by
            simp [hix, hc2, o2, ha]
            rfl
          rw [xB, xB, cA3, Option.bind_some, t1, Option.bind_some, add_C _ _ (by simp; omega), Option.bind_some, cB3, Option.bind_some, add_C _ _ (by simp; omega)]
        exact mRet_i (mOf_i e ⟨kvs3, rfl, q _ _ (hm3.mono (by omega)) r⟩)
      · refine mIfF_i (by rw [eq_way, beq_eq_false_iff_ne.mpr e2]) (mNext_i (mSeq_i ?_))
        by_cases e3 : w = 3
        · refine mIfT_i (by rw [eq_way, e3]; rfl) (mRet_i (mB_i (mB_i (mOf_i (cA .no .no) (mTup_i (mCons_i ?_))))))
          refine mmach_ok (im := 0) rfl hm2 (by omega) fun kvs3 m hm3 okm => ?_
          refine mNil_i ⟨(show 1 ≤ 1000 by decide), eC' (ms.take k ++ [m]), add_C (ms.take k) [m] (by simp; omega), mOf_i (cut_B hk (.ok kvs3) (.d (.int w)) .no .no) ⟨_, add_C (ms.take k ++ [m]) (ms.drop (k + 1)) (by simp; omega), kvs3, rfl, q _ _ (hm3.mono (by omega)) (sub m okm)⟩⟩
        · refine mIfF_i (by rw [eq_way, beq_eq_false_iff_ne.mpr e3]) (mNext_i (mRet_i (mTuple_i (mLc_i (mRange_i (mB_i (mOf_i (d := .int 1) rfl ?_)))))))
          refine mdraw_ok (L := 2) rfl rfl hm2 (by omega) (by decide) (by decide) fun kvs3 v hm3 v0 v1 => ?_
          have hu : (DL.upTo (1 + v).toNat).length = (1 + v).toNat := by unfold DL.upTo; rw [List.length_map, List.length_range]
          refine ⟨.int (1 + v), rfl, 1 + v, rfl, by omega, by omega, by rw [hu]; exact Nat.le_trans (show (1 + v).toNat ≤ 2 by omega) (by decide), ?_⟩
          refine lc_ok (im := 0) (i := 5) (fun kv => [.ok kv, .d (eC' ms), .d (.int (k : Nat)), .d (.int w), .no, .no]) (fun _ _ => rfl) (fun _ => rfl) (fun _ _ _ => rfl) _ (n + 1 + 1 + 1) kvs3 [] hm3 (by rw [hu]; omega) (fun _ h => nomatch h) fun kvs4 ms' hm4 ok' hl' => ?_
          rw [hu] at hm4 hl'
          exact ⟨_, .inl rfl, kvs4, rfl, q kvs4 ms' (hm4.mono (by omega)) ⟨ok', by rw [hl']; simp; omega, by rw [hl']; simp; omega⟩⟩
end SV

/-! ML11: law. -/
namespace SV
open PySem L2 DL
theorem call3 (F : GA) {fa fb fc : Fx} {env : En} {a b c z : PyData} (h : F [a, b, c] = some z) (ha : fa env = some a) (hb : fb env = some b) (hc : fc env = some c) : eCall (gN 3 F) (aCons fa (aCons fb (aCons fc aNil))) env = some z := by
  rw [xCall, xCons, ha, Option.bind_some, xCons, hb, Option.bind_some, xCons, hc, Option.bind_some, xNil, Option.bind_some, Option.bind_some, Option.bind_some, Option.bind_some, xgN3]
  exact h
theorem call4 (F : GA) {fa fb fc fd : Fx} {env : En} {a b c d z : PyData} (h : F [a, b, c, d] = some z) (ha : fa env = some a) (hb : fb env = some b) (hc : fc env = some c) (hd : fd env = some d) : eCall (gN 4 F) (aCons fa (aCons fb (aCons fc (aCons fd aNil)))) env = some z := by
  rw [xCall, xCons, ha, Option.bind_some, xCons, hb, Option.bind_some, xCons, hc, Option.bind_some, xCons, hd, Option.bind_some, xNil, Option.bind_some, Option.bind_some, Option.bind_some, Option.bind_some, Option.bind_some, xgN4]
  exact h
theorem not_true {f : Fx} {env : En} (h : f env = some (.bool true)) : ftNot (tOf f) env = some false := by
  rw [xNot, xT, h]; rfl
theorem repr_same {f f' : Fx} {env : En} {b : Bool} (h : f env = some (.bool b)) (h' : f' env = some (.bool b)) : tOf (eB gNe (eCall gRepr (aCons f aNil)) (eCall gRepr (aCons f' aNil))) env = some false := by
  rw [xT, xB, xCall, xCons, h, xCall, xCons, h']
  cases b <;> kernel_rfl
theorem is_true {f : Fx} {env : En} (h : f env = some (.bool true)) : tOf (eB gNotB f (eC (.bool true))) env = some false := by
  rw [xT, xB, h]; rfl
def fA (i j : Nat) : Fa := aCons (eVar i) (aCons (eVar j) (aCons (eVar 5) aNil))
def mDrawI (im : Nat) (f : Fx) : Fm := mCall im s_law_draw (mCons (mOf f) mNil)
def b_turn : Fms := mSeq (mSet 3 (mTuple (mLc (mRange (mB gAdd (mOf (eC (.int 1))) (mDrawI 1 (eC (.int 3))))) [7] 7 (mMachI 1))))
  (mSeq (mPar 4 5 (mCall 1 s_law_near (mCons (mOf (eVar 3)) mNil)) (mB gAdd (mOf (eC (.int 1))) (mDrawI 1 (eC (.int 3)))))
  (mSeq (mSet 6 (mOf (eCall (gN 3 s_chain_parting) (fA 3 4))))
  (mSeq (mIf (ftNot (tOf (eCall (gN 4 s_law_right) (aCons (eVar 3) (aCons (eVar 4) (aCons (eVar 5) (aCons (eVar 6) aNil))))))) (mRet (mOf (eC (.bool false)))) mNext)
  (mSeq (mIf (ftNot (tOf (eCall (gN 4 s_law_right) (aCons (eVar 4) (aCons (eVar 3) (aCons (eVar 5) (aCons (eCall (gN 3 s_chain_parting) (fA 4 3)) aNil))))))) (mRet (mOf (eC (.bool false)))) mNext)
  (mSeq (mIf (tOf (eB gNe (eCall gRepr (aCons (eCall (gN 3 s_chain_alike) (fA 3 4)) aNil)) (eCall gRepr (aCons (eB gIsN (eVar 6) (eC .none)) aNil)))) (mRet (mOf (eC (.bool false)))) mNext)
  (mIf (tOf (eB gNotB (eCall (gN 3 s_chain_alike) (fA 3 3)) (eC (.bool true)))) (mRet (mOf (eC (.bool false)))) mNext))))))
def b_law : Fms := mSeq (mFor (mIt (iRange (eC (.int 3)))) 2 b_turn) (mRet (mOf (eC (.bool true))))
theorem turn_ok {n : Nat} {kvs : Kvs} {c2 c3 c4 c5 c6 : Cell} {Q : Out2 → Prop} (h : MD n kvs) (hn : n + 300 < 1000000) (q : ∀ kvs' d3 d4 d5 d6, MD (n + 100) kvs' → Q (.nx [.no, .ok kvs', c2, d3, d4, d5, d6, .no])) : b_turn [.no, .ok kvs, c2, c3, c4, c5, c6, .no] Q := by
  refine mSeq_i (mSet_i (mTuple_i (mLc_i (mRange_i (mB_i (mOf_i (d := .int 1) rfl ?_))))))
  refine mdraw_ok (L := 3) rfl rfl h (by omega) (by decide) (by decide) fun kvs1 r hm1 r0 r1 => ?_
  have hu : (DL.upTo (1 + r).toNat).length = (1 + r).toNat := by unfold DL.upTo; rw [List.length_map, List.length_range]
  refine ⟨.int (1 + r), rfl, 1 + r, rfl, by omega, by omega, by rw [hu]; exact Nat.le_trans (show (1 + r).toNat ≤ 3 by omega) (by decide), ?_⟩
  refine lc_ok (im := 1) (i := 7) (fun kv => [.no, .ok kv, c2, c3, c4, c5, c6, .no]) (fun _ _ => rfl) (fun _ => rfl) (fun _ _ _ => rfl) _ (n + 1) kvs1 [] hm1 (by rw [hu]; omega) (fun _ h => nomatch h) fun kvs2 ms hm2 ok hl => ?_
  rw [hu] at hm2 hl
  have ch : Ch ms := ⟨ok, by rw [hl]; simp; omega, by rw [hl]; simp; omega⟩
  refine ⟨ms.map eM, .inl rfl, ?_⟩
  show mSeq _ _ [.no, .ok kvs2, c2, .d (eC' ms), c4, c5, c6, .no] _
  refine mSeq_i (mPar_i ⟨⟨_, rfl⟩, eC' ms, rfl, kvs2, rfl, near_ok hm2 (by omega) ch fun kvs3 ms' hm3 ch' => ?_⟩)
  refine mB_i (mOf_i (d := .int 1) rfl ?_)
  refine mdraw_ok (L := 3) rfl rfl hm3 (by omega) (by decide) (by decide) fun kvs4 v hm4 v0 v1 => ?_
  refine ⟨.int (1 + v), rfl, ?_⟩
  obtain ⟨w, hw⟩ : ∃ w : Nat, 1 + v = (w : Int) := ⟨(1 + v).toNat, by omega⟩
  rw [hw]
  have qn : Qn ms ms' w := ⟨ch, ch', by omega, by omega⟩
  have qn' : Qn ms' ms w := ⟨ch', ch, by omega, by omega⟩
  have qs : Qn ms ms w := ⟨ch, ch, by omega, by omega⟩
  obtain ⟨p, p1, p2, p3⟩ := parting_right qn
  obtain ⟨p', p1', p2', _⟩ := parting_right qn'
  have al := alike_ok _ _ _ _ p1
  have as := alike_ok _ _ _ _ (parting_twin qs)
  show mSeq _ _ [.no, .ok kvs4, c2, .d (eC' ms), .d (eC' ms'), .d (.int (w : Nat)), c6, .no] _
  refine mSeq_i (mSet_i (mOf_i (call3 s_chain_parting p1 rfl rfl rfl) ?_))
  show mSeq _ _ [.no, .ok kvs4, c2, .d (eC' ms), .d (eC' ms'), .d (.int (w : Nat)), .d p, .no] _
  refine mSeq_i (mIfF_i (not_true (call4 s_law_right p2 rfl rfl rfl rfl)) (mNext_i ?_))
  refine mSeq_i (mIfF_i (not_true (call4 s_law_right p2' rfl rfl rfl (call3 s_chain_parting p1' rfl rfl rfl))) (mNext_i ?_))
  refine mSeq_i (mIfF_i (repr_same (call3 s_chain_alike al rfl rfl rfl) rfl) (mNext_i ?_))
  refine mIfF_i (is_true (call3 s_chain_alike as rfl rfl rfl)) (mNext_i ?_)
  exact q kvs4 _ _ _ _ (hm4.mono (by omega))
theorem turns_ok {Q : Out2 → Prop} : ∀ (xs : List PyData) (n : Nat) (kvs : Kvs) (c2 c3 c4 c5 c6 : Cell), MD n kvs → n + 100 * xs.length + 300 < 1000000 → (∀ env, Q (.nx env)) → forM 2 b_turn xs [.no, .ok kvs, c2, c3, c4, c5, c6, .no] Q
  | [], n, kvs, c2, c3, c4, c5, c6, h, hn, q => q _
  | x :: xs, n, kvs, c2, c3, c4, c5, c6, h, hn, q => by
    rw [List.length_cons] at hn
    exact turn_ok (c2 := .d x) h (by omega) fun kvs' d3 d4 d5 d6 hm => turns_ok xs (n + 100) kvs' _ d3 d4 d5 d6 hm (by omega) q
def trueO : Out2 → Prop
  | .rt _ d => d = .bool true
  | .nx _ => False
theorem law_ok {kvs : Kvs} (h : MD 0 kvs) : b_law [.no, .ok kvs, .no, .no, .no, .no, .no, .no] trueO := by
  refine mSeq_i (mFor_i ⟨DL.upTo 3, rfl, ?_⟩)
  refine turns_ok _ 0 kvs _ _ _ _ _ h (by decide) fun env => ?_
  exact mRet_i (mOf_i (d := .bool true) rfl rfl)
end SV

/-! ML12: law's own walk. -/
namespace SV
open PySem L2 DL
def spLaw (K : PySem.W.Frag) : Sp := fun vs H Q _ => ∃ (a : Addr) (ns : List Int), vs = [.ref a] ∧ SqL K H a (ns.map V.int) ∧ ns.length ≤ 63 ∧ ∀ H', Q (.bl true) H'
theorem sc_law : FnScope ["script", "m", "turn", "one", "other", "wide", "play", "k"] ["script"] (defScope (topS 81)) := ⟨rfl, rfl, rfl, by decide +kernel, rfl, by decide +kernel, by decide +kernel⟩
theorem ints_rv {K : KW} {Hs : Hp} : ∀ gs : List Int, RvA K Hs (gs.map V.int) (gs.map PyData.int)
  | [] => .nil
  | g :: gs => .cons (.int g) (ints_rv gs)
theorem begun_rp {K : KW} {H H' : Hp} {Am a : Addr} (B : Begun H Am H') : ∃ kvs Hs, MD 0 kvs ∧ Rp K (fun _ => none) Hs [some (.ref a), some (.ref Am), none, none, none, none, none, none] H' [.no, .ok kvs, .no, .no, .no, .no, .no, .no] := by
  obtain ⟨g, gs, s, h1, h2, h3, h4, h5, h6, h7⟩ := B.dk
  refine ⟨mD gs s 0, fun b => if b = g then some (.lst (gs.map V.int)) else none, ⟨gs, s, 0, rfl, by omega, h6, h7, by decide, by decide⟩, fun b o e => ?_, fun _ _ h => (nomatch h), rfl, fun i c e n => ?_, fun i j c c' b e1 e2 o1 o2 _ _ => ?_⟩
  · by_cases z : b = g
    · rw [if_pos z] at e
      cases e
      rw [z]; exact h3
    · rw [if_neg z] at e; cases e
  · match i, e with
    | 0, e => cases e; exact absurd rfl n
    | 1, e =>
      cases e
      refine ⟨_, rfl, Am, _, rfl, h4, if_neg (fun z => h2 z.symm), rfl, .cons ⟨rfl, .lst (if_pos rfl) (ints_rv gs)⟩ (.cons ⟨rfl, .int s⟩ (.cons ⟨rfl, .int 0⟩ .nil))⟩
    | 2, e => cases e; exact absurd rfl n
    | 3, e => cases e; exact absurd rfl n
    | 4, e => cases e; exact absurd rfl n
    | 5, e => cases e; exact absurd rfl n
    | 6, e => cases e; exact absurd rfl n
    | 7, e => cases e; exact absurd rfl n
  · have one : ∀ (i : Nat) (c : Cell), ([.no, .ok (mD gs s 0), .no, .no, .no, .no, .no, .no] : En)[i]? = some c → c.own = true → i = 1 := fun i c e o => by
      match i, e with
      | 0, e => cases e; cases o
      | 1, e => rfl
      | 2, e => cases e; cases o
      | 3, e => cases e; cases o
      | 4, e => cases e; cases o
      | 5, e => cases e; cases o
      | 6, e => cases e; cases o
      | 7, e => cases e; cases o
    rw [one i c e1 o1, one j c' e2 o2]
theorem call_begun {K : KW} {a : Addr} {ns : List Int} {i : Nat} {u : TS} {D : Ends} {σ : L2.St} {H : Hp} (e : σ[0]? = some (some (.ref a))) (hS : SqL K.K H a (ns.map V.int)) (hl : ns.length ≤ 63) (h : ∀ Am H', Begun H Am H' → u D (σ.set i (some (.ref Am))) H') :
    tSeq (tAsg (tCall (spB K) [] E0 (tCons (tVar 0) tNil)) (gName i)) u D σ H := ⟨_, e, a, ns, rfl, hS, hl, h⟩
theorem fn_law {P : Program} {w : World} {K : PySem.W.Frag} {mg : Str → Option Value} {base : Heap} {f : Addr} {fd : FuncData} (T : Txt K w mg) (F : Fun K "law" "law" (topS 81) f fd) : FnOk P w K mg base CX0 12 f fd ["script"] (spLaw K) := by
  refine F.ok (k := 11) (N := ["script", "m", "turn", "one", "other", "wide", "play", "k"]) sc_law (fun vs H Q E ⟨a, ns, h1, _⟩ => by rw [h1]; rfl) fun cdv A outer s H vs Q E hr hsp => ?_
  obtain ⟨a, ns, rfl, hS, hl, q⟩ := hsp
  refine ⟨_, pss_cons (ps_set (i := 1) sc_law.nd rfl (Or.inr rfl) (C8.pe_c (cal_law_begun T) hr (by decide) rfl (pa_cons (pv 0) pa_nil)))
    (t := _) (u := tSM ⟨K, w⟩ 1 b_law)
    (pssm_cons (psm_for PassesOwn.never rfl sc_law.nd (i := 2) rfl (Or.inl rfl) (by decide) (pim_of (pid_range T.g_range rfl pd_int))
      (pssm_cons (psm_set (i := 3) sc_law.nd rfl (Or.inl rfl) (by decide) (pm_tuple T.g_tuple rfl (pm_lc (own := [("k", 7)]) rfl sc_law.nd (by decide) (pim_range T.g_range rfl (pm_add (pm_of pd_int) (pm_call (cal_law_draw T) hr (by decide) rfl (pv 1) (pma_cons (pm_of pd_int) pma_nil)))) (blkOk_by (by kernel_rfl)) (fun _ _ _ _ _ => pg_name (i := 7) sc_law.nd rfl (Or.inl rfl)) (fun _ _ _ _ _ => pm_call (cal_law_machine T) hr (by decide) rfl (pv 1) (pma_cons (pm_of pd_int) (pma_cons (pm_of pd_int) pma_nil))))))
      (pssm_cons (psm_par rfl sc_law.nd (i := 4) (j := 5) rfl rfl (by decide) (by decide) (by decide) rfl rfl (pm_call (cal_law_near T) hr (by decide) rfl (pv 1) (pma_cons (pm_of (pd_var (pv 3))) pma_nil)) (pm_add (pm_of pd_int) (pm_call (cal_law_draw T) hr (by decide) rfl (pv 1) (pma_cons (pm_of pd_int) pma_nil))) (by rfl))
      (pssm_cons (psm_set (i := 6) sc_law.nd rfl (Or.inl rfl) (by decide) (pm_of (pd_call (cal_chain_parting T) hr (by decide) rfl (pda_cons (pd_var (pv 3)) (pda_cons (pd_var (pv 4)) (pda_cons (pd_var (pv 5)) pda_nil))))))
      (pssm_cons (psm_if (pdt_not (pdt_v (pd_call (cal_law_right T) hr (by decide) rfl (pda_cons (pd_var (pv 3)) (pda_cons (pd_var (pv 4)) (pda_cons (pd_var (pv 5)) (pda_cons (pd_var (pv 6)) pda_nil))))))) (pssm_one (psm_ret (pm_of pd_bl))) pssm_nil)
      (pssm_cons (psm_if (pdt_not (pdt_v (pd_call (cal_law_right T) hr (by decide) rfl (pda_cons (pd_var (pv 4)) (pda_cons (pd_var (pv 3)) (pda_cons (pd_var (pv 5)) (pda_cons (pd_call (cal_chain_parting T) hr (by decide) rfl (pda_cons (pd_var (pv 4)) (pda_cons (pd_var (pv 3)) (pda_cons (pd_var (pv 5)) pda_nil)))) pda_nil))))))) (pssm_one (psm_ret (pm_of pd_bl))) pssm_nil)
      (pssm_cons (psm_if (pdt_C (pdc_ne hr (pd_repr T.g_repr rfl (pd_call (cal_chain_alike T) hr (by decide) rfl (pda_cons (pd_var (pv 3)) (pda_cons (pd_var (pv 4)) (pda_cons (pd_var (pv 5)) pda_nil))))) (pd_repr T.g_repr rfl (pd_C (pdc_isN (pd_var (pv 6)) pd_non))))) (pssm_one (psm_ret (pm_of pd_bl))) pssm_nil)
      (pssm_one (psm_if (pdt_C (pdc_notB (pd_call (cal_chain_alike T) hr (by decide) rfl (pda_cons (pd_var (pv 3)) (pda_cons (pd_var (pv 3)) (pda_cons (pd_var (pv 5)) pda_nil)))) pd_bl)) (pssm_one (psm_ret (pm_of pd_bl))) pssm_nil)))))))))
    (pssm_one (psm_ret (pm_of pd_bl)))), ?_⟩
  refine call_begun (K := ⟨K, w⟩) rfl hS hl fun Am H' B => ?_
  obtain ⟨kvs, Hs, hm, R⟩ := begun_rp (K := ⟨K, w⟩) (a := a) B
  refine ⟨fun _ => none, Hs, _, Am, trueO, R, rfl, law_ok hm, ⟨fun env' Hs' σ' H2 h _ _ _ => h.elim, fun env' d v Hs' σ' H2 h _ _ _ r => ?_⟩⟩
  have hd : d = .bool true := h
  subst hd
  cases r
  exact q H2
end SV

/-! the head (printed by genhead.py) -/
namespace SV
open PySem L2 DL
theorem def_at {K : PySem.W.Frag} {h : Heap} {mg : Str → Option Value} {x : Str} {st : Stmt} (X : K.In h) (G : h.Ns mainGlobals mg) {f : Addr} {oc kV doc pm cdv ct : Value} {od an : Option Addr} {osl : Array (Option Value)}
    (a : PySem.W.nsIn K mainGlobals x = some (some (.ref f))) (l : K.lookup f = some ⟨oc, od, .func (PySem.W.fnOf x x (defArgs st) (defBody st) (defScope st) .none kV doc pm an cdv ct), osl⟩) (c : PySem.W.codeIn K cdv x = true) (k : PySem.W.keepIn K (.ref f) = true) : DefAt K mg x st :=
  ⟨f, _, fun_mk (st := st) l c k, PySem.W.mg_of X G a⟩
theorem gl_int {K : PySem.W.Frag} {w : World} {h : Heap} {mg : Str → Option Value} {x : Str} (X : K.In h) (G : h.Ns mainGlobals mg) {i : Int} {t : Tok} (a : PySem.W.nsIn K mainGlobals x = some (some (.int i t))) : GlD ⟨K, w⟩ mg x (.int i) :=
  ⟨.int i, _, PySem.W.mg_of X G a, ⟨_, rfl⟩, fun _ => .int i⟩
theorem gl_tup {K : PySem.W.Frag} {w : World} {h : Heap} {mg : Str → Option Value} {x : Str} (X : K.In h) (G : h.Ns mainGlobals mg) {c : Addr} {o : Obj} {its : Array Value} {n : Nat} {vs : List V} {ds : List PyData} (a : PySem.W.nsIn K mainGlobals x = some (some (.ref c))) (l : K.lookup c = some o) (h1 : o.cls = .type "tuple") (h2 : o.data = .seq its n) (h3 : its.size ≤ sizeLine) (h4 : Vals vs its.toList)
    (h5 : ∀ Hs, RvA ⟨K, w⟩ Hs vs ds) : GlD ⟨K, w⟩ mg x (.tuple ds) :=
  ⟨.ref c, _, PySem.W.mg_of X G a, rfl, fun Hs => .tup (.inr ⟨o, its, n, l, h1, h2, h3, h4⟩) (h5 Hs)⟩
theorem rv_strs {K : KW} {Hs : Hp} : ∀ l : List Str, RvA K Hs (l.map V.str) (l.map PyData.str)
  | [] => .nil
  | x :: l => .cons (.str x) (rv_strs l)
theorem gl_start {K : PySem.W.Frag} {w : World} {h : Heap} {mg : Str → Option Value} {x : Str} (X : K.In h) (G : h.Ns mainGlobals mg) {c e : Addr} {o o2 : Obj} {n n2 : Nat} (a : PySem.W.nsIn K mainGlobals x = some (some (.ref c))) (l : K.lookup c = some o) (h1 : o.cls = .type "tuple") (h2 : o.data = .seq #[.bool false, .ref e] n)
    (l2 : K.lookup e = some o2) (h3 : o2.cls = .type "tuple") (h4 : o2.data = .seq #[] n2) : GlD ⟨K, w⟩ mg x c_START :=
  gl_tup X G (vs := [.bl false, .ref e]) a l h1 h2 (show 2 ≤ sizeLine by decide) (.cons rfl (.cons rfl .nil)) fun Hs => .cons (.bl false) (.cons (.tup (.inr ⟨o2, #[], n2, l2, h3, h4, Nat.zero_le _, .nil⟩) .nil) .nil)
theorem law_mk {l : PySem.W.OpenLaw} {w : World} {K : PySem.W.Frag} {h : Heap} {mg : Str → Option Value} {fa : Addr} (X : K.In h) (G : h.Ns mainGlobals mg) (hfa : mg "law" = some (.ref fa)) (T : Txt K w mg)
    {f : Addr} {oc kV doc pm cdv ct : Value} {od an : Option Addr} {osl : Array (Option Value)} (a : PySem.W.nsIn K mainGlobals "law" = some (some (.ref f))) (lk : K.lookup f = some ⟨oc, od, .func (PySem.W.fnOf "law" "law" (defArgs (topS 81)) (defBody (topS 81)) (defScope (topS 81)) .none kV doc pm an cdv ct), osl⟩) (c : PySem.W.codeIn K cdv "law" = true) (k : PySem.W.keepIn K (.ref f) = true) :
    ∃ fd : FuncData, (∀ (s : Shared) (u : Value), BindsTo s fd ⟨[u], []⟩ [("script", u)]) ∧ ∀ base : Heap, K.In base → base.Ns mainGlobals mg → FnOk l.prog w K mg base CX0 12 fa fd ["script"] (spLaw K) := by
  have e := hfa.symm.trans (PySem.W.mg_of X G a)
  cases e
  exact ⟨PySem.W.fnOf "law" "law" (defArgs (topS 81)) (defBody (topS 81)) (defScope (topS 81)) .none kV doc pm an cdv ct, fun s v => .of_eq rfl, fun base _ _ => fn_law T (fun_mk (st := topS 81) lk c k)⟩
theorem walk {l : PySem.W.OpenLaw} {q : Program} {loose : List Str} {XP : (Str → Option Value) → Heap → Prop} {YP : World → Heap → Prop} {d : DefRec} {K : Params → PySem.W.Frag} (hn : l.most = some 63) (hdf : d.params.defaults = [])
    (hY : ∀ (w : World) (h : Heap), YP w h → (K w.params).In h)
    (F : ∀ (w : World) (mg : Str → Option Value) (fa : Addr) (h : Heap), (K w.params).In h → h.Ns mainGlobals mg → mg d.name = some (.ref fa) →
      ∃ fd : FuncData, (∀ (s : Shared) (u : Value), BindsTo s fd ⟨[u], []⟩ [("script", u)]) ∧ ∀ base : Heap, (K w.params).In base → base.Ns mainGlobals mg → FnOk l.prog w (K w.params) mg base CX0 12 fa fd ["script"] (spLaw (K w.params))) :
    PySem.W.WalkO q loose XP YP l.row.toRowW d [] (fun f vs => PySem.call f vs) :=
  L2.walk_of (n := 63) (k := 12) (x := "script") (CX := fun _ => CX0) (sp := fun w => spLaw (K w.params)) hn (by decide) hdf ⟨rfl, by decide, by decide⟩ hY F (fun _ _ a ns hl _ hS => ⟨a, ns, rfl, hS, hl, fun _ => rfl⟩) fun _ _ _ _ _ z => z
end SV
open PySem PySem.W PyProof.Rows in
set_option maxRecDepth 100000 in
set_option maxHeartbeats 0 in
theorem PySem.Challenge.cw_stolenvoices_k55_whole_chain_partings_holds : PySem.Challenge.rw_stolenvoices_k55_whole_chain_partings.Holds := by
  w_on; o_law; k_head; (case hw => w_witness2)
  k_fill
  refine SV.walk (l := PySem.Challenge.rw_stolenvoices_k55_whole_chain_partings) rfl rfl (fun w h Y => PySem.W.kIn_of Y) ?F
  case F =>
    intro w mg fa h KX G hmg
    have hfa : mg "law" = some (.ref fa) := hmg
    clear hmg
    refine' SV.law_mk KX G hfa ⟨?g_len, ?g_min, ?g_max, ?g_sorted, ?g_tuple, ?g_list, ?g_int, ?g_isinstance, ?g_range, ?g_enumerate, ?g_zip, ?g_repr, ?g_bool, ?g_str, ?c_FILTERS, ?c_ENDS, ?c_RETURNS, ?c_MOST_VOICES, ?c_MOST_CRITERIA, ?c_MOST_KEY, ?c_START, ?c_WITH_KEY, ?c_OF_PEDAL, ?c_MOST_ON_BOARD, ?c_MOST_WITH_PEDAL, ?c_MOST_EVENTS, ?c_MOST_LINKS, ?d_is_whole, ?d_is_key, ?d_is_word_of, ?d_criteria_fault, ?d_machine_fault, ?d_need_machine, ?d_loud, ?d_sound_of, ?d_mark_of, ?d_is_event, ?d_can_follow, ?d_filtered, ?d_chosen, ?d_victim_of, ?d_returned, ?d_after_down, ?d_after_up, ?d_after_lift, ?d_done, ?d_need_board, ?d_all_events, ?d_play_to, ?d_play_fault, ?d_need_play, ?d_is_play, ?d_need_chain, ?d_handed_on, ?d_chain_step, ?d_chain_sound, ?d_chain_path, ?d_chain_trace, ?d_chain_parting, ?d_chain_alike, ?d_law_begun, ?d_law_draw, ?d_law_of, ?d_law_machine, ?d_law_loud, ?d_law_sound, ?d_law_end, ?d_law_left, ?d_law_taken, ?d_law_marked, ?d_law_filled, ?d_law_gone_down, ?d_law_stepped, ?d_law_events, ?d_law_can, ?d_law_handed, ?d_law_linked, ?d_law_chain_sound, ?d_law_chained, ?d_law_near_chain, ?d_law_right, ?d_law⟩ ?a ?l ?c ?k
    (case a => k_is)
    (case l => k_is)
    (case c => k_is)
    (case k => k_is)
    (case g_len =>
      refine' PySem.W.mg_none_of KX G ?a1
      (case a1 => k_is))
    (case g_min =>
      refine' PySem.W.mg_none_of KX G ?a1
      (case a1 => k_is))
    (case g_max =>
      refine' PySem.W.mg_none_of KX G ?a1
      (case a1 => k_is))
    (case g_sorted =>
      refine' PySem.W.mg_none_of KX G ?a1
      (case a1 => k_is))
    (case g_tuple =>
      refine' PySem.W.mg_none_of KX G ?a1
      (case a1 => k_is))
    (case g_list =>
      refine' PySem.W.mg_none_of KX G ?a1
      (case a1 => k_is))
    (case g_int =>
      refine' PySem.W.mg_none_of KX G ?a1
      (case a1 => k_is))
    (case g_isinstance =>
      refine' PySem.W.mg_none_of KX G ?a1
      (case a1 => k_is))
    (case g_range =>
      refine' PySem.W.mg_none_of KX G ?a1
      (case a1 => k_is))
    (case g_enumerate =>
      refine' PySem.W.mg_none_of KX G ?a1
      (case a1 => k_is))
    (case g_zip =>
      refine' PySem.W.mg_none_of KX G ?a1
      (case a1 => k_is))
    (case g_repr =>
      refine' PySem.W.mg_none_of KX G ?a1
      (case a1 => k_is))
    (case g_bool =>
      refine' PySem.W.mg_none_of KX G ?a1
      (case a1 => k_is))
    (case g_str =>
      refine' PySem.W.mg_none_of KX G ?a1
      (case a1 => k_is))
    (case c_FILTERS =>
      refine' SV.gl_tup (vs := ([("kept" : Str), ("inner" : Str), ("notlow" : Str), ("nothigh" : Str), ("below" : Str), ("above" : Str), ("under" : Str), ("over" : Str)]).map L2.V.str) KX G ?a1 ?l1 ?h1 ?h2 ?h3 ?h4 ?h5
      (case a1 => k_is)
      (case l1 => k_is)
      (case h1 => rfl)
      (case h2 => rfl)
      (case h3 => decide)
      (case h4 => exact (.cons ⟨_, rfl⟩ (.cons ⟨_, rfl⟩ (.cons ⟨_, rfl⟩ (.cons ⟨_, rfl⟩ (.cons ⟨_, rfl⟩ (.cons ⟨_, rfl⟩ (.cons ⟨_, rfl⟩ (.cons ⟨_, rfl⟩ .nil)))))))))
      (case h5 => exact fun Hs => SV.rv_strs [("kept" : Str), ("inner" : Str), ("notlow" : Str), ("nothigh" : Str), ("below" : Str), ("above" : Str), ("under" : Str), ("over" : Str)]))
    (case c_ENDS =>
      refine' SV.gl_tup (vs := ([("eldest" : Str), ("latest" : Str), ("lowest" : Str), ("highest" : Str), ("refuse" : Str)]).map L2.V.str) KX G ?a1 ?l1 ?h1 ?h2 ?h3 ?h4 ?h5
      (case a1 => k_is)
      (case l1 => k_is)
      (case h1 => rfl)
      (case h2 => rfl)
      (case h3 => decide)
      (case h4 => exact (.cons ⟨_, rfl⟩ (.cons ⟨_, rfl⟩ (.cons ⟨_, rfl⟩ (.cons ⟨_, rfl⟩ (.cons ⟨_, rfl⟩ .nil))))))
      (case h5 => exact fun Hs => SV.rv_strs [("eldest" : Str), ("latest" : Str), ("lowest" : Str), ("highest" : Str), ("refuse" : Str)]))
    (case c_RETURNS =>
      refine' SV.gl_tup (vs := ([("none" : Str), ("eldest" : Str), ("latest" : Str), ("lowest" : Str), ("highest" : Str)]).map L2.V.str) KX G ?a1 ?l1 ?h1 ?h2 ?h3 ?h4 ?h5
      (case a1 => k_is)
      (case l1 => k_is)
      (case h1 => rfl)
      (case h2 => rfl)
      (case h3 => decide)
      (case h4 => exact (.cons ⟨_, rfl⟩ (.cons ⟨_, rfl⟩ (.cons ⟨_, rfl⟩ (.cons ⟨_, rfl⟩ (.cons ⟨_, rfl⟩ .nil))))))
      (case h5 => exact fun Hs => SV.rv_strs [("none" : Str), ("eldest" : Str), ("latest" : Str), ("lowest" : Str), ("highest" : Str)]))
    (case c_MOST_VOICES =>
      refine' SV.gl_int KX G ?a1
      (case a1 => k_is))
    (case c_MOST_CRITERIA =>
      refine' SV.gl_int KX G ?a1
      (case a1 => k_is))
    (case c_MOST_KEY =>
      refine' SV.gl_int KX G ?a1
      (case a1 => k_is))
    (case c_START =>
      refine' SV.gl_start KX G ?a1 ?l1 ?h1 ?h2 ?l2 ?h3 ?h4
      (case a1 => k_is)
      (case l1 => k_is)
      (case h1 => rfl)
      (case h2 => rfl)
      (case l2 => k_is)
      (case h3 => rfl)
      (case h4 => rfl))
    (case c_WITH_KEY =>
      refine' SV.gl_tup (vs := ([("down" : Str), ("up" : Str)]).map L2.V.str) KX G ?a1 ?l1 ?h1 ?h2 ?h3 ?h4 ?h5
      (case a1 => k_is)
      (case l1 => k_is)
      (case h1 => rfl)
      (case h2 => rfl)
      (case h3 => decide)
      (case h4 => exact (.cons ⟨_, rfl⟩ (.cons ⟨_, rfl⟩ .nil)))
      (case h5 => exact fun Hs => SV.rv_strs [("down" : Str), ("up" : Str)]))
    (case c_OF_PEDAL =>
      refine' SV.gl_tup (vs := ([("press" : Str), ("lift" : Str)]).map L2.V.str) KX G ?a1 ?l1 ?h1 ?h2 ?h3 ?h4 ?h5
      (case a1 => k_is)
      (case l1 => k_is)
      (case h1 => rfl)
      (case h2 => rfl)
      (case h3 => decide)
      (case h4 => exact (.cons ⟨_, rfl⟩ (.cons ⟨_, rfl⟩ .nil)))
      (case h5 => exact fun Hs => SV.rv_strs [("press" : Str), ("lift" : Str)]))
    (case c_MOST_ON_BOARD =>
      refine' SV.gl_int KX G ?a1
      (case a1 => k_is))
    (case c_MOST_WITH_PEDAL =>
      refine' SV.gl_int KX G ?a1
      (case a1 => k_is))
    (case c_MOST_EVENTS =>
      refine' SV.gl_int KX G ?a1
      (case a1 => k_is))
    (case c_MOST_LINKS =>
      refine' SV.gl_int KX G ?a1
      (case a1 => k_is))
    (case d_is_whole =>
      refine' SV.def_at KX G ?a1 ?l1 ?c1 ?k1
      (case a1 => k_is)
      (case l1 => k_is)
      (case c1 => k_is)
      (case k1 => k_is))
    (case d_is_key =>
      refine' SV.def_at KX G ?a1 ?l1 ?c1 ?k1
      (case a1 => k_is)
      (case l1 => k_is)
      (case c1 => k_is)
      (case k1 => k_is))
    (case d_is_word_of =>
      refine' SV.def_at KX G ?a1 ?l1 ?c1 ?k1
      (case a1 => k_is)
      (case l1 => k_is)
      (case c1 => k_is)
      (case k1 => k_is))
    (case d_criteria_fault =>
      refine' SV.def_at KX G ?a1 ?l1 ?c1 ?k1
      (case a1 => k_is)
      (case l1 => k_is)
      (case c1 => k_is)
      (case k1 => k_is))
    (case d_machine_fault =>
      refine' SV.def_at KX G ?a1 ?l1 ?c1 ?k1
      (case a1 => k_is)
      (case l1 => k_is)
      (case c1 => k_is)
      (case k1 => k_is))
    (case d_need_machine =>
      refine' SV.def_at KX G ?a1 ?l1 ?c1 ?k1
      (case a1 => k_is)
      (case l1 => k_is)
      (case c1 => k_is)
      (case k1 => k_is))
    (case d_loud =>
      refine' SV.def_at KX G ?a1 ?l1 ?c1 ?k1
      (case a1 => k_is)
      (case l1 => k_is)
      (case c1 => k_is)
      (case k1 => k_is))
    (case d_sound_of =>
      refine' SV.def_at KX G ?a1 ?l1 ?c1 ?k1
      (case a1 => k_is)
      (case l1 => k_is)
      (case c1 => k_is)
      (case k1 => k_is))
    (case d_mark_of =>
      refine' SV.def_at KX G ?a1 ?l1 ?c1 ?k1
      (case a1 => k_is)
      (case l1 => k_is)
      (case c1 => k_is)
      (case k1 => k_is))
    (case d_is_event =>
      refine' SV.def_at KX G ?a1 ?l1 ?c1 ?k1
      (case a1 => k_is)
      (case l1 => k_is)
      (case c1 => k_is)
      (case k1 => k_is))
    (case d_can_follow =>
      refine' SV.def_at KX G ?a1 ?l1 ?c1 ?k1
      (case a1 => k_is)
      (case l1 => k_is)
      (case c1 => k_is)
      (case k1 => k_is))
    (case d_filtered =>
      refine' SV.def_at KX G ?a1 ?l1 ?c1 ?k1
      (case a1 => k_is)
      (case l1 => k_is)
      (case c1 => k_is)
      (case k1 => k_is))
    (case d_chosen =>
      refine' SV.def_at KX G ?a1 ?l1 ?c1 ?k1
      (case a1 => k_is)
      (case l1 => k_is)
      (case c1 => k_is)
      (case k1 => k_is))
    (case d_victim_of =>
      refine' SV.def_at KX G ?a1 ?l1 ?c1 ?k1
      (case a1 => k_is)
      (case l1 => k_is)
      (case c1 => k_is)
      (case k1 => k_is))
    (case d_returned =>
      refine' SV.def_at KX G ?a1 ?l1 ?c1 ?k1
      (case a1 => k_is)
      (case l1 => k_is)
      (case c1 => k_is)
      (case k1 => k_is))
    (case d_after_down =>
      refine' SV.def_at KX G ?a1 ?l1 ?c1 ?k1
      (case a1 => k_is)
      (case l1 => k_is)
      (case c1 => k_is)
      (case k1 => k_is))
    (case d_after_up =>
      refine' SV.def_at KX G ?a1 ?l1 ?c1 ?k1
      (case a1 => k_is)
      (case l1 => k_is)
      (case c1 => k_is)
      (case k1 => k_is))
    (case d_after_lift =>
      refine' SV.def_at KX G ?a1 ?l1 ?c1 ?k1
      (case a1 => k_is)
      (case l1 => k_is)
      (case c1 => k_is)
      (case k1 => k_is))
    (case d_done =>
      refine' SV.def_at KX G ?a1 ?l1 ?c1 ?k1
      (case a1 => k_is)
      (case l1 => k_is)
      (case c1 => k_is)
      (case k1 => k_is))
    (case d_need_board =>
      refine' SV.def_at KX G ?a1 ?l1 ?c1 ?k1
      (case a1 => k_is)
      (case l1 => k_is)
      (case c1 => k_is)
      (case k1 => k_is))
    (case d_all_events =>
      refine' SV.def_at KX G ?a1 ?l1 ?c1 ?k1
      (case a1 => k_is)
      (case l1 => k_is)
      (case c1 => k_is)
      (case k1 => k_is))
    (case d_play_to =>
      refine' SV.def_at KX G ?a1 ?l1 ?c1 ?k1
      (case a1 => k_is)
      (case l1 => k_is)
      (case c1 => k_is)
      (case k1 => k_is))
    (case d_play_fault =>
      refine' SV.def_at KX G ?a1 ?l1 ?c1 ?k1
      (case a1 => k_is)
      (case l1 => k_is)
      (case c1 => k_is)
      (case k1 => k_is))
    (case d_need_play =>
      refine' SV.def_at KX G ?a1 ?l1 ?c1 ?k1
      (case a1 => k_is)
      (case l1 => k_is)
      (case c1 => k_is)
      (case k1 => k_is))
    (case d_is_play =>
      refine' SV.def_at KX G ?a1 ?l1 ?c1 ?k1
      (case a1 => k_is)
      (case l1 => k_is)
      (case c1 => k_is)
      (case k1 => k_is))
    (case d_need_chain =>
      refine' SV.def_at KX G ?a1 ?l1 ?c1 ?k1
      (case a1 => k_is)
      (case l1 => k_is)
      (case c1 => k_is)
      (case k1 => k_is))
    (case d_handed_on =>
      refine' SV.def_at KX G ?a1 ?l1 ?c1 ?k1
      (case a1 => k_is)
      (case l1 => k_is)
      (case c1 => k_is)
      (case k1 => k_is))
    (case d_chain_step =>
      refine' SV.def_at KX G ?a1 ?l1 ?c1 ?k1
      (case a1 => k_is)
      (case l1 => k_is)
      (case c1 => k_is)
      (case k1 => k_is))
    (case d_chain_sound =>
      refine' SV.def_at KX G ?a1 ?l1 ?c1 ?k1
      (case a1 => k_is)
      (case l1 => k_is)
      (case c1 => k_is)
      (case k1 => k_is))
    (case d_chain_path =>
      refine' SV.def_at KX G ?a1 ?l1 ?c1 ?k1
      (case a1 => k_is)
      (case l1 => k_is)
      (case c1 => k_is)
      (case k1 => k_is))
    (case d_chain_trace =>
      refine' SV.def_at KX G ?a1 ?l1 ?c1 ?k1
      (case a1 => k_is)
      (case l1 => k_is)
      (case c1 => k_is)
      (case k1 => k_is))
    (case d_chain_parting =>
      refine' SV.def_at KX G ?a1 ?l1 ?c1 ?k1
      (case a1 => k_is)
      (case l1 => k_is)
      (case c1 => k_is)
      (case k1 => k_is))
    (case d_chain_alike =>
      refine' SV.def_at KX G ?a1 ?l1 ?c1 ?k1
      (case a1 => k_is)
      (case l1 => k_is)
      (case c1 => k_is)
      (case k1 => k_is))
    (case d_law_begun =>
      refine' SV.def_at KX G ?a1 ?l1 ?c1 ?k1
      (case a1 => k_is)
      (case l1 => k_is)
      (case c1 => k_is)
      (case k1 => k_is))
    (case d_law_draw =>
      refine' SV.def_at KX G ?a1 ?l1 ?c1 ?k1
      (case a1 => k_is)
      (case l1 => k_is)
      (case c1 => k_is)
      (case k1 => k_is))
    (case d_law_of =>
      refine' SV.def_at KX G ?a1 ?l1 ?c1 ?k1
      (case a1 => k_is)
      (case l1 => k_is)
      (case c1 => k_is)
      (case k1 => k_is))
    (case d_law_machine =>
      refine' SV.def_at KX G ?a1 ?l1 ?c1 ?k1
      (case a1 => k_is)
      (case l1 => k_is)
      (case c1 => k_is)
      (case k1 => k_is))
    (case d_law_loud =>
      refine' SV.def_at KX G ?a1 ?l1 ?c1 ?k1
      (case a1 => k_is)
      (case l1 => k_is)
      (case c1 => k_is)
      (case k1 => k_is))
    (case d_law_sound =>
      refine' SV.def_at KX G ?a1 ?l1 ?c1 ?k1
      (case a1 => k_is)
      (case l1 => k_is)
      (case c1 => k_is)
      (case k1 => k_is))
    (case d_law_end =>
      refine' SV.def_at KX G ?a1 ?l1 ?c1 ?k1
      (case a1 => k_is)
      (case l1 => k_is)
      (case c1 => k_is)
      (case k1 => k_is))
    (case d_law_left =>
      refine' SV.def_at KX G ?a1 ?l1 ?c1 ?k1
      (case a1 => k_is)
      (case l1 => k_is)
      (case c1 => k_is)
      (case k1 => k_is))
    (case d_law_taken =>
      refine' SV.def_at KX G ?a1 ?l1 ?c1 ?k1
      (case a1 => k_is)
      (case l1 => k_is)
      (case c1 => k_is)
      (case k1 => k_is))
    (case d_law_marked =>
      refine' SV.def_at KX G ?a1 ?l1 ?c1 ?k1
      (case a1 => k_is)
      (case l1 => k_is)
      (case c1 => k_is)
      (case k1 => k_is))
    (case d_law_filled =>
      refine' SV.def_at KX G ?a1 ?l1 ?c1 ?k1
      (case a1 => k_is)
      (case l1 => k_is)
      (case c1 => k_is)
      (case k1 => k_is))
    (case d_law_gone_down =>
      refine' SV.def_at KX G ?a1 ?l1 ?c1 ?k1
      (case a1 => k_is)
      (case l1 => k_is)
      (case c1 => k_is)
      (case k1 => k_is))
    (case d_law_stepped =>
      refine' SV.def_at KX G ?a1 ?l1 ?c1 ?k1
      (case a1 => k_is)
      (case l1 => k_is)
      (case c1 => k_is)
      (case k1 => k_is))
    (case d_law_events =>
      refine' SV.def_at KX G ?a1 ?l1 ?c1 ?k1
      (case a1 => k_is)
      (case l1 => k_is)
      (case c1 => k_is)
      (case k1 => k_is))
    (case d_law_can =>
      refine' SV.def_at KX G ?a1 ?l1 ?c1 ?k1
      (case a1 => k_is)
      (case l1 => k_is)
      (case c1 => k_is)
      (case k1 => k_is))
    (case d_law_handed =>
      refine' SV.def_at KX G ?a1 ?l1 ?c1 ?k1
      (case a1 => k_is)
      (case l1 => k_is)
      (case c1 => k_is)
      (case k1 => k_is))
    (case d_law_linked =>
      refine' SV.def_at KX G ?a1 ?l1 ?c1 ?k1
      (case a1 => k_is)
      (case l1 => k_is)
      (case c1 => k_is)
      (case k1 => k_is))
    (case d_law_chain_sound =>
      refine' SV.def_at KX G ?a1 ?l1 ?c1 ?k1
      (case a1 => k_is)
      (case l1 => k_is)
      (case c1 => k_is)
      (case k1 => k_is))
    (case d_law_chained =>
      refine' SV.def_at KX G ?a1 ?l1 ?c1 ?k1
      (case a1 => k_is)
      (case l1 => k_is)
      (case c1 => k_is)
      (case k1 => k_is))
    (case d_law_near_chain =>
      refine' SV.def_at KX G ?a1 ?l1 ?c1 ?k1
      (case a1 => k_is)
      (case l1 => k_is)
      (case c1 => k_is)
      (case k1 => k_is))
    (case d_law_right =>
      refine' SV.def_at KX G ?a1 ?l1 ?c1 ?k1
      (case a1 => k_is)
      (case l1 => k_is)
      (case c1 => k_is)
      (case k1 => k_is))
    (case d_law =>
      refine' SV.def_at KX G ?a1 ?l1 ?c1 ?k1
      (case a1 => k_is)
      (case l1 => k_is)
      (case c1 => k_is)
      (case k1 => k_is))
