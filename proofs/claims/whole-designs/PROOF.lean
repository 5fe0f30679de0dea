import PyProof.Rows.All
import Wide.All
import OpenK.AllK
import Wide.FinOn
import PyProof.EqAt
import PyProof.EqKinds
import PyProof.TupleCall
import HandS.ForMost
import HandS.TupAny
import HandS.Style
import HandS.IsInst
import HandS.Wide
import HandS.TupSets
import HandS.Conv
import HandS.SortOrd
import HandS.SortRule
import HandS.Deep
import HandS.Small
import HandS.Lambda
import HandS.EndOwn
import HandS.WordsExc
import HandS.ExcIs
import HandS.Nested
import KE.LtSeq
import KE.DataMinMax
import PySem.Challenge.RW_stagebelt_k09_whole_designs
import KE.KSortTupAny
import PyProof.Rows.InDataRows
set_option Elab.async false
set_option linter.all false
set_option maxRecDepth 100000
set_option maxHeartbeats 4000000
/-! Worlds, data, joined judgements. -/
namespace SB
open PySem PySem.Spec PyProof.Rows L2

abbrev Frag := PySem.W.Frag
abbrev ASet := Addr → Prop
def Er (S : ASet) (H H' : Hp) : Prop := ∀ a o, ¬ S a → H a = some o → H' a = some o
def Ex (H H' : Hp) : Prop := ∀ a o, H a = some o → H' a = some o
theorem Er.refl {S : ASet} (H : Hp) : Er S H H := fun _ _ _ h => h
theorem Er.trans {S : ASet} {H H1 H2 : Hp} (a : Er S H H1) (b : Er S H1 H2) : Er S H H2 := fun x o n h => b x o n (a x o n h)
theorem Ex.er {S : ASet} {H H' : Hp} (e : Ex H H') : Er S H H' := fun a o _ h => e a o h
theorem Ex.new {H : Hp} {p : Addr} {o : HO} (h : H p = none) : Ex H (upd H p o) := fun a u e => by
  rw [upd_ne (ne_of_none e h)]
  exact e
theorem Er.fresh {S : ASet} {H H' : Hp} {p : Addr} (e : Er S H H') (hd : S p → H p ≠ none) (hs : S p → H' p ≠ none) (h : H' p = none) : H p = none := by
  cases q : H p with
  | none => rfl
  | some o =>
    by_cases s : S p
    · exact absurd h (hs s)
    · rw [e p o s q] at h
      cases h
def mutO : HO → Prop
  | .lst _ => True
  | .dT _ => True
  | _ => False
def lamK : HO → Prop
  | .ext _ => True
  | .tup _ => True
  | _ => False
structure Wd where
  S : ASet
  J : Hp → Prop
  more : ∀ {H H' : Hp}, J H → Ex H H' → J H'
  turn : ∀ {H H1 : Hp} {p : Addr} {u o : HO}, J H → H p = none → Er S H H1 → J H1 → H1 p = some u → mutO u → J (upd H1 p o)
  dom : ∀ {H : Hp} {a : Addr}, J H → S a → H a ≠ none
  nk : ∀ {H : Hp} {a : Addr} {o : HO}, J H → S a → H a = some o → ¬ lamK o
theorem Wd.nt (W : Wd) {H : Hp} {a : Addr} {xs : List V} (j : W.J H) (s : W.S a) : H a ≠ some (.tup xs) := fun e => W.nk j s e True.intro
/-- a tuple, a list that stays -/
def KT (K : Frag) (a : Addr) (xs : List V) : Prop := ∃ (o : Obj) (its : Array Value) (n : Nat), K.lookup a = some o ∧ o.cls = .type "tuple" ∧ o.data = .seq its n ∧ its.size ≤ sizeLine ∧ Vals xs its.toList
def TuW (K : Frag) (S : ASet) (H : Hp) (a : Addr) (xs : List V) : Prop := (Rd H a (.tup xs) ∧ ¬ S a) ∨ KT K a xs
def LiW (K : Frag) (S : ASet) (H : Hp) (a : Addr) (xs : List V) : Prop := H a = some (.lst xs) ∧ ¬ S a
theorem TuW.sq {K : Frag} {S : ASet} {H : Hp} {a : Addr} {xs : List V} (h : TuW K S H a xs) : SqT K H a xs := h.elim (fun q => .inl q.1) .inr
theorem LiW.sq {K : Frag} {S : ASet} {H : Hp} {a : Addr} {xs : List V} (h : LiW K S H a xs) : SqL K H a xs := .inl (.inl h.1)
mutual
inductive Dw (K : Frag) (S : ASet) (H : Hp) : V → PyData → Prop
  | non : Dw K S H .non .none
  | bl (b : Bool) : Dw K S H (.bl b) (.bool b)
  | int (i : Int) : Dw K S H (.int i) (.int i)
  | str (x : Str) : Dw K S H (.str x) (.str x)
  | lst {a : Addr} {xs : List V} {ds : List PyData} : LiW K S H a xs → DwA K S H xs ds → Dw K S H (.ref a) (.list ds)
  | tup {a : Addr} {xs : List V} {ds : List PyData} : TuW K S H a xs → DwA K S H xs ds → Dw K S H (.ref a) (.tuple ds)
inductive DwA (K : Frag) (S : ASet) (H : Hp) : List V → List PyData → Prop
  | nil : DwA K S H [] []
  | cons {v : V} {vs : List V} {d : PyData} {ds : List PyData} : Dw K S H v d → DwA K S H vs ds → DwA K S H (v :: vs) (d :: ds)
end
section
variable {K : Frag} {S S' : ASet} {H H' : Hp}
theorem rd_to {a : Addr} {u : HO} (h : ∀ a o, ¬ S a → H a = some o → ¬ S' a ∧ H' a = some o) (r : Rd H a u) (n : ¬ S a) : Rd H' a u ∧ ¬ S' a := by
  rcases r with r | ⟨o, r⟩
  · exact ⟨.inl (h a _ n r).2, (h a _ n r).1⟩
  · exact ⟨.inr ⟨o, (h a _ n r).2⟩, (h a _ n r).1⟩
mutual
theorem Dw.to (h : ∀ a o, ¬ S a → H a = some o → ¬ S' a ∧ H' a = some o) : ∀ (d : PyData) (v : V), Dw K S H v d → Dw K S' H' v d
  | .none, _, q => by cases q; exact .non
  | .bool b, _, q => by cases q; exact .bl b
  | .int i, _, q => by cases q; exact .int i
  | .str x, _, q => by cases q; exact .str x
  | .list ds, _, q => by
    cases q with
    | lst p r => exact .lst ⟨(h _ _ p.2 p.1).2, (h _ _ p.2 p.1).1⟩ (DwA.to h ds _ r)
  | .tuple ds, _, q => by
    cases q with
    | tup p r =>
      refine .tup ?_ (DwA.to h ds _ r)
      rcases p with p | p
      · exact .inl (rd_to h p.1 p.2)
      · exact .inr p
  | .dict _, _, q => by cases q
theorem DwA.to (h : ∀ a o, ¬ S a → H a = some o → ¬ S' a ∧ H' a = some o) : ∀ (ds : List PyData) (vs : List V), DwA K S H vs ds → DwA K S' H' vs ds
  | [], _, q => by cases q; exact .nil
  | d :: ds, _, q => by
    cases q with
    | cons a b => exact .cons (Dw.to h d _ a) (DwA.to h ds _ b)
end
mutual
theorem Dw.dp : ∀ (d : PyData) (v : V), Dw K S H v d → Dp K H v d
  | .none, _, q => by cases q; exact .non
  | .bool b, _, q => by cases q; exact .bl b
  | .int i, _, q => by cases q; exact .int i
  | .str x, _, q => by cases q; exact .str x
  | .list ds, _, q => by
    cases q with
    | lst p r => exact .lst p.sq (DwA.dp ds _ r)
  | .tuple ds, _, q => by
    cases q with
    | tup p r => exact .tup p.sq (DwA.dp ds _ r)
  | .dict _, _, q => by cases q
theorem DwA.dp : ∀ (ds : List PyData) (vs : List V), DwA K S H vs ds → DpAll K H vs ds
  | [], _, q => by cases q; exact .nil
  | d :: ds, _, q => by
    cases q with
    | cons a b => exact .cons (Dw.dp d _ a) (DwA.dp ds _ b)
end
theorem Dw.mono {d : PyData} {v : V} (e : Er S H H') (q : Dw K S H v d) : Dw K S H' v d := q.to (fun a o n h => ⟨n, e a o n h⟩) d v
theorem DwA.mono {ds : List PyData} {vs : List V} (e : Er S H H') (q : DwA K S H vs ds) : DwA K S H' vs ds := q.to (fun a o n h => ⟨n, e a o n h⟩) ds vs
theorem DwA.length : ∀ {ds : List PyData} {vs : List V}, DwA K S H vs ds → vs.length = ds.length
  | _, _, .nil => rfl
  | _, _, .cons _ t => congrArg (· + 1) (DwA.length t)
theorem DwA.get : ∀ {ds : List PyData} {vs : List V} {i : Nat} {d : PyData}, DwA K S H vs ds → ds[i]? = some d → ∃ v, vs[i]? = some v ∧ Dw K S H v d
  | _, _, _, _, .nil, e => by simp at e
  | _, _, 0, _, .cons a _, e => by simp at e; subst e; exact ⟨_, rfl, a⟩
  | _, _, i + 1, _, .cons _ t, e => by
    obtain ⟨v, h1, h2⟩ := DwA.get (i := i) t (by simpa using e)
    exact ⟨v, by simpa using h1, h2⟩
theorem DwA.get' : ∀ {ds : List PyData} {vs : List V} {i : Nat} {v : V}, DwA K S H vs ds → vs[i]? = some v → ∃ d, ds[i]? = some d ∧ Dw K S H v d
  | _, _, _, _, .nil, e => by simp at e
  | _, _, 0, _, .cons a _, e => by simp at e; subst e; exact ⟨_, rfl, a⟩
  | _, _, i + 1, _, .cons _ t, e => by
    obtain ⟨v, h1, h2⟩ := DwA.get' (i := i) t (by simpa using e)
    exact ⟨v, by simpa using h1, h2⟩
theorem DwA.append : ∀ {ds es : List PyData} {vs us : List V}, DwA K S H vs ds → DwA K S H us es → DwA K S H (vs ++ us) (ds ++ es)
  | _, _, _, _, .nil, s => s
  | _, _, _, _, .cons r t, s => .cons r (DwA.append t s)
theorem DwA.take : ∀ {ds : List PyData} {vs : List V} (n : Nat), DwA K S H vs ds → DwA K S H (vs.take n) (ds.take n)
  | _, _, 0, _ => .nil
  | _, _, _ + 1, .nil => .nil
  | _, _, n + 1, .cons r t => .cons r (DwA.take n t)
theorem DwA.drop : ∀ {ds : List PyData} {vs : List V} (n : Nat), DwA K S H vs ds → DwA K S H (vs.drop n) (ds.drop n)
  | _, _, 0, r => r
  | _, _, _ + 1, .nil => .nil
  | _, _, n + 1, .cons _ t => DwA.drop n t
end
/-- a lambda: its words, the cells that it captured -/
structure LD where
  params : Arguments
  body : Expr
  scope : Scope
  cl : List (Str × Addr)
  q : Str
abbrev LD.fd (L : LD) (c : Addr) (dV pm ctv : Value) : FuncData := { name := "<lambda>", qualname := L.q, params := L.params, body := .expr L.body, scope := L.scope, globals := mainGlobals, closure := L.cl, defaults := dV, kwdefaults := .none, doc := .none, pyModule := pm, annotations := none, code := .ref c, closureTuple := ctv, builtins := builtinsNs }
/-- the object at f is the lambda L -/
def LamO (L : LD) (f c : Addr) (dV : Value) : HO := .ext fun h => ∃ pm ctv : Value, h.get? f = some { cls := .type "function", data := .func (L.fd c dV pm ctv) }
/-- the defaults: none, or the one 0 -/
def LamD (S : ASet) (H : Hp) (dV : Value) : List Expr → Prop
  | [] => dV = .none
  | _ :: _ => ∃ T, dV = .ref T ∧ H T = some (.tup [.int 0]) ∧ ¬ S T
def LamV (S : ASet) (H : Hp) (v : V) (L : LD) : Prop := ∃ (f c : Addr) (dV : Value), v = .ref f ∧ (H f = some (LamO L f c dV) ∧ ¬ S f) ∧ (H c = some (LamX.CodeO c L.q) ∧ ¬ S c) ∧ LamD S H dV L.params.defaults
theorem lamK_tup {xs : List V} : lamK (.tup xs) := True.intro
theorem lamK_code {c : Addr} {q : Str} : lamK (LamX.CodeO c q) := True.intro
theorem lamK_lam {L : LD} {f c : Addr} {dV : Value} : lamK (LamO L f c dV) := True.intro
theorem LamD.to {S S' : ASet} {H H' : Hp} {dV : Value} (h : ∀ a o, lamK o → ¬ S a → H a = some o → ¬ S' a ∧ H' a = some o) : ∀ {es : List Expr}, LamD S H dV es → LamD S' H' dV es
  | [], r => r
  | _ :: _, ⟨T, e, h1, h2⟩ => ⟨T, e, (h T _ lamK_tup h2 h1).2, (h T _ lamK_tup h2 h1).1⟩
theorem LamV.to {S S' : ASet} {H H' : Hp} {v : V} {L : LD} (h : ∀ a o, lamK o → ¬ S a → H a = some o → ¬ S' a ∧ H' a = some o) (r : LamV S H v L) : LamV S' H' v L := by
  obtain ⟨f, c, dV, e, ⟨h1, n1⟩, ⟨h2, n2⟩, h3⟩ := r
  exact ⟨f, c, dV, e, ⟨(h f _ lamK_lam n1 h1).2, (h f _ lamK_lam n1 h1).1⟩, ⟨(h c _ lamK_code n2 h2).2, (h c _ lamK_code n2 h2).1⟩, h3.to h⟩
theorem lams_to {S S' : ASet} {H H' : Hp} (h : ∀ a o, lamK o → ¬ S a → H a = some o → ¬ S' a ∧ H' a = some o) : ∀ {vs : List V} {Ls : List LD}, Paired (LamV S H) vs Ls → Paired (LamV S' H') vs Ls
  | _, _, .nil => .nil
  | _, _, .cons a t => .cons (a.to h) (lams_to h t)
/-- what a slot or an expression holds: data, or an object told elsewhere -/
inductive Dv where
  | d (x : PyData)
  | o (a : Addr)
  | t (n : String)
  | h (ks : List Key)
  | hl (kss : List (List Key))
  | fn (L : LD)
  | fl (Ls : List LD)
def HK (S : ASet) (H : Hp) (b : Addr) (ks : List Key) : Prop := H b = some (.tup (ks.map kV)) ∧ ¬ S b
theorem HK.mono {S : ASet} {H H' : Hp} {b : Addr} {ks : List Key} (e : Er S H H') (h : HK S H b ks) : HK S H' b ks := ⟨e _ _ h.2 h.1, h.2⟩
theorem hks_mono {S : ASet} {H H' : Hp} (e : Er S H H') : ∀ {bs : List Addr} {kss : List (List Key)}, Paired (HK S H) bs kss → Paired (HK S H') bs kss
  | _, _, .nil => .nil
  | _, _, .cons a t => .cons (a.mono e) (hks_mono e t)
def VR (K : Frag) (S : ASet) (H : Hp) (v : V) : Dv → Prop
  | .d x => Dw K S H v x
  | .o a => v = .ref a
  | .t n => v = .ty n
  | .h ks => ∃ b, v = .ref b ∧ HK S H b ks
  | .hl kss => ∃ l bs, v = .ref l ∧ H l = some (.lst (bs.map V.ref)) ∧ ¬ S l ∧ Paired (HK S H) bs kss
  | .fn L => LamV S H v L
  | .fl Ls => ∃ l vs, v = .ref l ∧ H l = some (.lst vs) ∧ ¬ S l ∧ Paired (LamV S H) vs Ls
abbrev Is (d : PyData) : Dv → Prop := fun x => x = .d d
theorem VR.mono {K : Frag} {S : ASet} {H H' : Hp} {v : V} {x : Dv} (e : Er S H H') (r : VR K S H v x) : VR K S H' v x := by
  cases x with
  | d x => exact Dw.mono e r
  | o a => exact r
  | t n => exact r
  | h ks =>
    obtain ⟨b, e1, e2⟩ := r
    exact ⟨b, e1, e2.mono e⟩
  | hl kss =>
    obtain ⟨l, bs, e1, e2, e3, e4⟩ := r
    exact ⟨l, bs, e1, e _ _ e3 e2, e3, hks_mono e e4⟩
  | fn L => exact LamV.to (fun a o _ n h => ⟨n, e a o n h⟩) r
  | fl Ls =>
    obtain ⟨l, vs, e1, e2, e3, e4⟩ := r
    exact ⟨l, vs, e1, e _ _ e3 e2, e3, lams_to (fun a o _ n h => ⟨n, e a o n h⟩) e4⟩
abbrev Gm := List (Option Dv)
structure Tp (K : Frag) (W : Wd) (Γ : Gm) (σ : L2.St) (H : Hp) : Prop where
  j : W.J H
  len : σ.length = Γ.length
  at_ : ∀ (i : Nat) (x : Dv), Γ[i]? = some (some x) → ∃ v, σ[i]? = some (some v) ∧ VR K W.S H v x
section
variable {K : Frag} {W : Wd} {Γ Γ' : Gm} {σ : L2.St} {H H' : Hp} {v : V} {x : Dv}
theorem Tp.mono (T : Tp K W Γ σ H) (e : Er W.S H H') (j : W.J H') : Tp K W Γ σ H' := ⟨j, T.len, fun i x h => by
  obtain ⟨v, h1, h2⟩ := T.at_ i x h
  exact ⟨v, h1, h2.mono e⟩⟩
theorem Tp.set {i : Nat} (T : Tp K W Γ σ H) (r : VR K W.S H v x) : Tp K W (Γ.set i (some x)) (σ.set i (some v)) H := by
  refine ⟨T.j, by rw [List.length_set, List.length_set]; exact T.len, fun j y h => ?_⟩
  by_cases e : i = j
  · subst e
    rw [List.getElem?_set] at h
    by_cases l : i < Γ.length
    · rw [if_pos rfl, if_pos l] at h
      cases h
      exact ⟨v, by rw [List.getElem?_set, if_pos rfl, if_pos (by rw [T.len]; exact l)], r⟩
    · rw [if_pos rfl, if_neg l] at h
      cases h
  · rw [List.getElem?_set_ne e] at h
    rw [List.getElem?_set_ne e]
    exact T.at_ j y h
theorem Tp.weak (T : Tp K W Γ σ H) (hl : Γ'.length = Γ.length) (h : ∀ (i : Nat) (x : Dv), Γ'[i]? = some (some x) → Γ[i]? = some (some x)) : Tp K W Γ' σ H := ⟨T.j, T.len.trans hl.symm, fun i x e => T.at_ i x (h i x e)⟩
end
/-- what is wanted behind an expression -/
def Ret (K : Frag) (W : Wd) (H : Hp) (P : Dv → Prop) (Q : VK) : Prop := ∀ (v : V) (x : Dv) (H2 : Hp), P x → VR K W.S H2 v x → Er W.S H H2 → W.J H2 → Q v H2
theorem Ret.later {K : Frag} {W : Wd} {H H' : Hp} {P : Dv → Prop} {Q : VK} (R : Ret K W H P Q) (e : Er W.S H H') : Ret K W H' P Q := fun v x H2 p r e2 j => R v x H2 p r (e.trans e2) j
theorem Ret.imp {K : Frag} {W : Wd} {H : Hp} {P P' : Dv → Prop} {Q : VK} (R : Ret K W H P Q) (h : ∀ x, P' x → P x) : Ret K W H P' Q := fun v x H2 p r e2 j => R v x H2 (h x p) r e2 j
def XE (X : Cx) (W : Wd) (Γ : Gm) (e : Expr) (P : Dv → Prop) : Prop := PE X e fun σ H Q => Tp X.K W Γ σ H ∧ Ret X.K W H P Q
inductive VRA (K : Frag) (S : ASet) (H : Hp) : List V → List Dv → Prop
  | nil : VRA K S H [] []
  | cons {v : V} {vs : List V} {x : Dv} {xs : List Dv} : VR K S H v x → VRA K S H vs xs → VRA K S H (v :: vs) (x :: xs)
theorem VRA.mono {K : Frag} {S : ASet} {H H' : Hp} (e : Er S H H') : ∀ {vs : List V} {xs : List Dv}, VRA K S H vs xs → VRA K S H' vs xs
  | _, _, .nil => .nil
  | _, _, .cons a b => .cons (a.mono e) (VRA.mono e b)
theorem VRA.dwa {K : Frag} {S : ASet} {H : Hp} : ∀ {ds : List PyData} {vs : List V}, VRA K S H vs (ds.map Dv.d) → DwA K S H vs ds
  | [], _, h => by cases h; exact .nil
  | d :: ds, _, h => by
    cases h with
    | cons a b => exact .cons a (VRA.dwa b)
def RetA (K : Frag) (W : Wd) (H : Hp) (P : List Dv → Prop) (Q : List V → Hp → Prop) : Prop := ∀ (vs : List V) (xs : List Dv) (H2 : Hp), P xs → VRA K W.S H2 vs xs → Er W.S H H2 → W.J H2 → Q vs H2
def XA (X : Cx) (W : Wd) (Γ : Gm) (es : List Expr) (P : List Dv → Prop) : Prop := PA X es fun σ H Q => Tp X.K W Γ σ H ∧ RetA X.K W H P Q
def RetB (W : Wd) (H : Hp) (b : Bool) (Q : Bool → Hp → Prop) : Prop := ∀ H2, Er W.S H H2 → W.J H2 → Q b H2
def XT (X : Cx) (W : Wd) (Γ : Gm) (e : Expr) (b : Bool) : Prop := PT X e fun σ H Q => Tp X.K W Γ σ H ∧ RetB W H b Q
theorem pe_imp {X : Cx} {e : Expr} {t t' : TE} (h : PE X e t) (i : ∀ σ H Q, t' σ H Q → t σ H Q) : PE X e t' := ⟨fun pins s σ H Q I q => h.run pins s σ H Q I (i σ H Q q)⟩
theorem pt_imp {X : Cx} {e : Expr} {t t' : TT} (h : PT X e t) (i : ∀ σ H Q, t' σ H Q → t σ H Q) : PT X e t' := ⟨fun pins s σ H Q I q => h.run pins s σ H Q I (i σ H Q q)⟩
theorem pa_imp {X : Cx} {es : List Expr} {t t' : TA} (h : PA X es t) (i : ∀ σ H Q, t' σ H Q → t σ H Q) : PA X es t' := ⟨fun pos pins s σ H Q I q => h.run pos pins s σ H Q I (i σ H Q q)⟩
section
variable {X : Cx} {W : Wd} {Γ : Gm} {a b c e : Expr} {es : List Expr} {pos : Pos} {Pa Pb P P' : Dv → Prop}
theorem XE.imp (h : XE X W Γ e P) (i : ∀ x, P x → P' x) : XE X W Γ e P' := pe_imp h fun σ H Q ⟨T, R⟩ => ⟨T, R.imp i⟩
theorem XE.is {d d' : PyData} (h : XE X W Γ e (Is d)) (i : d = d') : XE X W Γ e (Is d') := i ▸ h
theorem XT.is {k k' : Bool} (h : XT X W Γ e k) (i : k = k') : XT X W Γ e k' := i ▸ h
/-! ### atoms -/
theorem xv (i : Nat) {n : Str} {pos : Pos} {x : Dv} (hΓ : Γ[i]? = some (some x) := by rfl) (hN : X.N[i]? = some n := by rfl) (hv : Vis X.env.scope n := by first | exact Or.inl rfl | exact Or.inr (Or.inl rfl) | exact Or.inr (Or.inr rfl)) (hd : (n == ("__debug__" : Str)) = false := by decide)
    (hcd : (n == ("__classdict__" : Str)) = false := by decide) : XE X W Γ (.Name n pos) (fun y => y = x) := pe_imp (pe_var hN hv hd hcd) fun σ H Q ⟨T, R⟩ => by
  obtain ⟨v, h1, h2⟩ := T.at_ i x hΓ
  exact ⟨v, h1, R v x H rfl h2 (Er.refl H) T.j⟩
theorem xe_int {i : Int} {j : Nat} : XE X W Γ (.Constant (.int i) j pos) (Is (.int i)) := pe_imp pe_int fun σ H Q ⟨T, R⟩ => R _ _ H rfl (Dw.int i) (Er.refl H) T.j
theorem xe_bl {i : Bool} {j : Nat} : XE X W Γ (.Constant (.bool i) j pos) (Is (.bool i)) := pe_imp pe_bl fun σ H Q ⟨T, R⟩ => R _ _ H rfl (Dw.bl i) (Er.refl H) T.j
theorem xe_non {j : Nat} : XE X W Γ (.Constant .none j pos) (Is .none) := pe_imp pe_non fun σ H Q ⟨T, R⟩ => R _ _ H rfl Dw.non (Er.refl H) T.j
theorem xe_str {x : Str} {j : Nat} : XE X W Γ (.Constant (.str x) j pos) (Is (.str x)) := pe_imp pe_str fun σ H Q ⟨T, R⟩ => R _ _ H rfl (Dw.str x) (Er.refl H) T.j
/-- a constant of the module -/
theorem xe_glob {n : Str} {v : V} {u : Value} {d : PyData} (hm : X.mg n = some u) (r : RelV v u) (hd : ∀ S H, Dw X.K S H v d) (hg : Gl X n := by rfl) (hdb : (n == ("__debug__" : Str)) = false := by decide) : XE X W Γ (.Name n pos) (Is d) :=
  pe_imp (pe_glob hg hm r hdb) fun σ H Q ⟨T, R⟩ => R _ _ H rfl (hd _ _) (Er.refl H) T.j
/-! ### arguments -/
theorem xa_nil : XA X W Γ [] (fun xs => xs = []) := pa_imp pa_nil fun σ H Q ⟨T, R⟩ => R _ _ H rfl .nil (Er.refl H) T.j
theorem xa_cons {Ps : List Dv → Prop} (ha : XE X W Γ e Pa) (hr : XA X W Γ es Ps) (hs : starEach (e :: es) X.env = (false, eval e X.env) :: starEach es X.env := by rfl) :
    XA X W Γ (e :: es) (fun xs => ∃ x r, xs = x :: r ∧ Pa x ∧ Ps r) := pa_imp (pa_cons ha hr hs) fun σ H Q ⟨T, R⟩ =>
  ⟨T, fun v x H1 px rx e1 j1 => ⟨T.mono e1 j1, fun vs xs H2 ps rs e2 j2 => R _ _ H2 ⟨x, xs, rfl, px, ps⟩ (.cons (rx.mono e2) rs) (e1.trans e2) j2⟩⟩
theorem XA.imp {Ps Ps' : List Dv → Prop} (h : XA X W Γ es Ps) (i : ∀ x, Ps x → Ps' x) : XA X W Γ es Ps' := pa_imp h fun σ H Q ⟨T, R⟩ => ⟨T, fun vs xs H2 p r e j => R vs xs H2 (i xs p) r e j⟩
/-- the arguments are this data -/
abbrev IsA (ds : List PyData) : List Dv → Prop := fun xs => xs = ds.map Dv.d
theorem xa0 : XA X W Γ [] (IsA []) := xa_nil
theorem xac {d : PyData} {ds : List PyData} (ha : XE X W Γ e (Is d)) (hr : XA X W Γ es (IsA ds)) (hs : starEach (e :: es) X.env = (false, eval e X.env) :: starEach es X.env := by rfl) :
    XA X W Γ (e :: es) (IsA (d :: ds)) := (xa_cons ha hr hs).imp fun xs ⟨x, r, e1, e2, e3⟩ => by
  rw [e1, e2, e3]
  rfl
/-! ### displays -/
theorem new_world {W : Wd} {H : Hp} {p : Addr} {o : HO} (j : W.J H) (hp : H p = none) : W.J (upd H p o) ∧ Er W.S H (upd H p o) ∧ ¬ W.S p := ⟨W.more j (Ex.new hp), (Ex.new hp).er, fun s => W.dom j s hp⟩
theorem xe_tup {ds : List PyData} {k} (h : XA X W Γ es (IsA ds)) (hl : ds.length ≤ 100000 := by first | decide | simp) : XE X W Γ (.Tuple es k pos) (Is (.tuple ds)) := pe_imp (pe_tup h) fun σ H Q ⟨T, R⟩ =>
  ⟨T, fun vs xs H2 ps rs e2 j2 => by
    have hw : DwA X.K W.S H2 vs ds := VRA.dwa (ps ▸ rs)
    refine ⟨Nat.le_trans (Nat.le_trans (Nat.le_of_eq hw.length) hl) (by decide), fun p hp => ?_⟩
    obtain ⟨j3, e3, n3⟩ := new_world (o := .tup vs) j2 hp
    exact R _ _ _ rfl (Dw.tup (.inl ⟨.inl upd_same, n3⟩) (hw.mono e3)) (e2.trans e3) j3⟩
/-- a display, drawn -/
theorem xe_tupP {Ps : List PyData → Prop} {k} (h : XA X W Γ es (fun xs => ∃ ds, xs = ds.map Dv.d ∧ Ps ds)) (hl : ∀ ds, Ps ds → ds.length ≤ 100000) : XE X W Γ (.Tuple es k pos) (fun x => ∃ ds, x = .d (.tuple ds) ∧ Ps ds) := pe_imp (pe_tup h) fun σ H Q ⟨T, R⟩ =>
  ⟨T, fun vs xs H2 ⟨ds, ps, hds⟩ rs e2 j2 => by
    have hw : DwA X.K W.S H2 vs ds := VRA.dwa (ps ▸ rs)
    refine ⟨Nat.le_trans (Nat.le_trans (Nat.le_of_eq hw.length) (hl ds hds)) (by decide), fun p hp => ?_⟩
    obtain ⟨j3, e3, n3⟩ := new_world (o := .tup vs) j2 hp
    exact R _ _ _ ⟨ds, rfl, hds⟩ (Dw.tup (.inl ⟨.inl upd_same, n3⟩) (hw.mono e3)) (e2.trans e3) j3⟩
theorem xe_lst {ds : List PyData} (h : XA X W Γ es (IsA ds)) (hl : ds.length ≤ 100000 := by first | decide | simp) : XE X W Γ (.List es pos) (Is (.list ds)) := pe_imp (pe_lst h) fun σ H Q ⟨T, R⟩ =>
  ⟨T, fun vs xs H2 ps rs e2 j2 => by
    have hw : DwA X.K W.S H2 vs ds := VRA.dwa (ps ▸ rs)
    refine ⟨Nat.le_trans (Nat.le_trans (Nat.le_of_eq hw.length) hl) (by decide), fun p hp => ?_⟩
    obtain ⟨j3, e3, n3⟩ := new_world (o := .lst vs) j2 hp
    exact R _ _ _ rfl (Dw.lst ⟨upd_same, n3⟩ (hw.mono e3)) (e2.trans e3) j3⟩
theorem xe_lstP {Ps : List PyData → Prop} (h : XA X W Γ es (fun xs => ∃ ds, xs = ds.map Dv.d ∧ Ps ds)) (hl : ∀ ds, Ps ds → ds.length ≤ 100000) : XE X W Γ (.List es pos) (fun x => ∃ ds, x = .d (.list ds) ∧ Ps ds) := pe_imp (pe_lst h) fun σ H Q ⟨T, R⟩ =>
  ⟨T, fun vs xs H2 ⟨ds, ps, hds⟩ rs e2 j2 => by
    have hw : DwA X.K W.S H2 vs ds := VRA.dwa (ps ▸ rs)
    refine ⟨Nat.le_trans (Nat.le_trans (Nat.le_of_eq hw.length) (hl ds hds)) (by decide), fun p hp => ?_⟩
    obtain ⟨j3, e3, n3⟩ := new_world (o := .lst vs) j2 hp
    exact R _ _ _ ⟨ds, rfl, hds⟩ (Dw.lst ⟨upd_same, n3⟩ (hw.mono e3)) (e2.trans e3) j3⟩
/-! ### operations by values -/
def RR2 (K : Frag) (W : Wd) (r : R2) (Pa Pb P : Dv → Prop) : Prop := ∀ (x y : Dv) (v u : V) (H : Hp) (Q : VK), Pa x → Pb y → VR K W.S H v x → VR K W.S H u y → W.J H → Ret K W H P Q → r v u H Q
theorem two (hb : XE X W Γ b Pb) {r : R2} (hr : RR2 X.K W r Pa Pb P) {σ : L2.St} {H : Hp} {Q : VK} (T : Tp X.K W Γ σ H) (R : Ret X.K W H P Q) :
    Tp X.K W Γ σ H ∧ Ret X.K W H Pa fun x H1 => (fun σ H Q => Tp X.K W Γ σ H ∧ Ret X.K W H Pb Q) σ H1 fun y H2 => r x y H2 Q :=
  ⟨T, fun v x H1 px rx e1 j1 => ⟨T.mono e1 j1, fun u y H2 py ry e2 j2 => hr x y v u H2 Q px py (rx.mono e2) ry j2 (R.later (e1.trans e2))⟩⟩
theorem xe_op {op : Operator} {r : R2} (ho : OpR X (binaryOp op) r) (hr : RR2 X.K W r Pa Pb P) (ha : XE X W Γ a Pa) (hb : XE X W Γ b Pb) : XE X W Γ (.BinOp a op b pos) P := pe_imp (pe_op ho ha hb) fun σ H Q ⟨T, R⟩ => two hb hr T R
theorem xe_cmp {op : CmpOp} {r : R2} (ho : OpR X (compareOp op) r) (hr : RR2 X.K W r Pa Pb P) (ha : XE X W Γ a Pa) (hb : XE X W Γ b Pb) (hm : behindInMarks op b = false := by exact nomark _) : XE X W Γ (.Compare a [op] [b] pos) P :=
  pe_imp (pe_cmpR ho ha hb hm) fun σ H Q ⟨T, R⟩ => two hb hr T R
theorem xe_ix {r : R2} (ho : IxR X r) (hr : RR2 X.K W r Pa Pb P) (ha : XE X W Γ a Pa) (hb : XE X W Γ b Pb) (hs : PlainIx b := by exact fun _ _ => rfl) : XE X W Γ (.Subscript a b pos) P := pe_imp (pe_ix ho ha hb hs) fun σ H Q ⟨T, R⟩ => two hb hr T R
theorem rr_I0 {g : Int → Int → Int} {i j : Int} {K : Frag} : RR2 K W (rI0 fun i j => .int (g i j)) (Is (.int i)) (Is (.int j)) (Is (.int (g i j))) := fun x y v u H Q px py rx ry jj R => by
  subst px py
  cases rx
  cases ry
  exact ⟨i, j, rfl, rfl, R _ _ H rfl (Dw.int _) (Er.refl H) jj⟩
theorem rr_B0 {g : Int → Int → Bool} {i j : Int} {K : Frag} : RR2 K W (rI0 fun i j => .bl (g i j)) (Is (.int i)) (Is (.int j)) (Is (.bool (g i j))) := fun x y v u H Q px py rx ry jj R => by
  subst px py
  cases rx
  cases ry
  exact ⟨i, j, rfl, rfl, R _ _ H rfl (Dw.bl _) (Er.refl H) jj⟩
theorem rr_I {C : Int → Int → Prop} {g : Int → Int → Int} {i j : Int} {K : Frag} (hc : C i j) : RR2 K W (rI C fun i j => .int (g i j)) (Is (.int i)) (Is (.int j)) (Is (.int (g i j))) := fun x y v u H Q px py rx ry jj R => by
  subst px py
  cases rx
  cases ry
  exact ⟨i, j, rfl, rfl, hc, R _ _ H rfl (Dw.int _) (Er.refl H) jj⟩
/-- the same for drawn ints -/
theorem rr_I0P {g : Int → Int → Int} {A B : Int → Prop} {K : Frag} : RR2 K W (rI0 fun i j => .int (g i j)) (fun x => ∃ i, x = .d (.int i) ∧ A i) (fun x => ∃ i, x = .d (.int i) ∧ B i) (fun x => ∃ k, x = .d (.int k) ∧ ∃ i j, A i ∧ B j ∧ k = g i j) := fun x y v u H Q ⟨i, px, hi⟩ ⟨j, py, hj⟩ rx ry jj R => by
  subst px py
  cases rx
  cases ry
  exact ⟨i, j, rfl, rfl, R _ _ H ⟨_, rfl, i, j, hi, hj, rfl⟩ (Dw.int _) (Er.refl H) jj⟩
theorem sh_int (x : Int) : SeqAt.shaped (.int x) = true := rfl
theorem sh_bool (x : Bool) : SeqAt.shaped (.bool x) = true := rfl
theorem rr_eqS {x y : Str} {K : Frag} : RR2 K W rEq (Is (.str x)) (Is (.str y)) (Is (.bool (x == y))) := fun x' y' v u H Q px py rx ry jj R => by
  subst px py
  cases rx
  cases ry
  exact ⟨rfl, by rw [dec_str]; exact R _ _ H rfl (Dw.bl _) (Er.refl H) jj⟩
theorem rr_eqI {x y : Int} {K : Frag} : RR2 K W rEq (Is (.int x)) (Is (.int y)) (Is (.bool (x == y))) := fun x' y' v u H Q px py rx ry jj R => by
  subst px py
  cases rx
  cases ry
  exact ⟨rfl, by rw [dec_int]; exact R _ _ H rfl (Dw.bl _) (Er.refl H) jj⟩
theorem rr_eqB {x y : Bool} {K : Frag} : RR2 K W rEq (Is (.bool x)) (Is (.bool y)) (Is (.bool (x == y))) := fun x' y' v u H Q px py rx ry jj R => by
  subst px py
  cases rx
  cases ry
  exact ⟨rfl, by rw [dec_bl]; exact R _ _ H rfl (Dw.bl _) (Er.refl H) jj⟩
theorem rr_neS {x y : Str} {K : Frag} : RR2 K W rNe (Is (.str x)) (Is (.str y)) (Is (.bool (!(x == y)))) := fun x' y' v u H Q px py rx ry jj R => by
  subst px py
  cases rx
  cases ry
  exact ⟨rfl, by rw [dec_str]; exact R _ _ H rfl (Dw.bl _) (Er.refl H) jj⟩
theorem rr_neB {x y : Bool} {K : Frag} : RR2 K W rNe (Is (.bool x)) (Is (.bool y)) (Is (.bool (!(x == y)))) := fun x' y' v u H Q px py rx ry jj R => by
  subst px py
  cases rx
  cases ry
  exact ⟨rfl, by rw [dec_bl]; exact R _ _ H rfl (Dw.bl _) (Er.refl H) jj⟩
theorem rr_eqD {x y : PyData} {K : Frag} (sx : SeqAt.shaped x = true) (sy : SeqAt.shaped y = true) : RR2 K W (rEqD K) (Is x) (Is y) (Is (.bool (PyData.eqv x y))) := fun x' y' v u H Q px py rx ry jj R => by
  subst px py
  exact ⟨x, y, Dw.dp _ _ rx, Dw.dp _ _ ry, sx, sy, R _ _ H rfl (Dw.bl _) (Er.refl H) jj⟩
theorem rr_neD {x y : PyData} {K : Frag} (sx : SeqAt.shaped x = true) (sy : SeqAt.shaped y = true) : RR2 K W (rNeD K) (Is x) (Is y) (Is (.bool (!PyData.eqv x y))) := fun x' y' v u H Q px py rx ry jj R => by
  subst px py
  exact ⟨x, y, Dw.dp _ _ rx, Dw.dp _ _ ry, sx, sy, R _ _ H rfl (Dw.bl _) (Er.refl H) jj⟩
theorem rr_isB {x y : Bool} {K : Frag} : RR2 K W rIsB (Is (.bool x)) (Is (.bool y)) (Is (.bool (decide (x = y)))) := fun x' y' v u H Q px py rx ry jj R => by
  subst px py
  cases rx
  cases ry
  exact ⟨x, y, rfl, rfl, R _ _ H rfl (Dw.bl _) (Er.refl H) jj⟩
theorem rr_notB {x y : Bool} {K : Frag} : RR2 K W rNotB (Is (.bool x)) (Is (.bool y)) (Is (.bool (!decide (x = y)))) := fun x' y' v u H Q px py rx ry jj R => by
  subst px py
  cases rx
  cases ry
  exact ⟨x, y, rfl, rfl, R _ _ H rfl (Dw.bl _) (Er.refl H) jj⟩
end
end SB

namespace SB
open PySem PySem.Spec PyProof.Rows L2
section
variable {X : Cx} {W : Wd} {Γ : Gm} {a b c e : Expr} {es rest : List Expr} {pos : Pos} {Pa Pb P P' : Dv → Prop} {K : Frag}
theorem RR2.of {r : R2} (h : ∀ x y, Pa x → Pb y → RR2 K W r (fun z => z = x) (fun z => z = y) P) : RR2 K W r Pa Pb P := fun x y v u H Q px py => h x y px py x y v u H Q rfl rfl
theorem RR2.post {r : R2} (h : RR2 K W r Pa Pb P') (i : ∀ x, P' x → P x) : RR2 K W r Pa Pb P := fun x y v u H Q px py rx ry jj R => h x y v u H Q px py rx ry jj (R.imp i)
/-! ### subscripts, slices, sums of tuples -/
theorem at_rel {S : ASet} {H : Hp} {ds : List PyData} {xs : List V} {k : Int} {d : PyData} (w : DwA K S H xs ds) (h : atI ds k = some d) : ∃ v, atI xs k = some v ∧ Dw K S H v d := by
  unfold atI at h ⊢
  rw [w.length]
  cases q : ixN ds.length k with
  | none =>
    rw [q] at h
    cases h
  | some j =>
    rw [q] at h
    obtain ⟨v, h1, h2⟩ := w.get (i := j) h
    exact ⟨v, h1, h2⟩
theorem rr_ixT {ds : List PyData} {k : Int} {d : PyData} (h : atI ds k = some d) : RR2 K W (rIxT K) (Is (.tuple ds)) (Is (.int k)) (Is d) := fun x y v u H Q px py rx ry jj R => by
  subst px py
  cases ry
  cases rx with
  | tup p w =>
    obtain ⟨v, h1, h2⟩ := at_rel w h
    exact ⟨_, _, k, v, rfl, rfl, p.sq, h1, R _ _ H rfl h2 (Er.refl H) jj⟩
theorem rr_ixL {ds : List PyData} {k : Int} {d : PyData} (h : atI ds k = some d) : RR2 K W (rIxL K) (Is (.list ds)) (Is (.int k)) (Is d) := fun x y v u H Q px py rx ry jj R => by
  subst px py
  cases ry
  cases rx with
  | lst p w =>
    obtain ⟨v, h1, h2⟩ := at_rel w h
    exact ⟨_, _, k, v, rfl, rfl, p.sq, h1, R _ _ H rfl h2 (Er.refl H) jj⟩
theorem ix_nat {ds : List PyData} {k : Nat} {d : PyData} (h : ds[k]? = some d) : atI ds (k : Int) = some d := atI_nat h
/-- an item of a list at a drawn place -/
theorem rr_ixLP {ds : List PyData} : RR2 K W (rIxL K) (Is (.list ds)) (fun x => ∃ k : Nat, x = .d (.int (k : Int)) ∧ k < ds.length) (fun x => ∃ (k : Nat) (d : PyData), ds[k]? = some d ∧ x = .d d) :=
  RR2.of fun x y px ⟨k, py, hk⟩ => by
    subst px py
    exact (rr_ixL (ix_nat (List.getElem?_eq_getElem hk))).post fun z hz => ⟨k, _, List.getElem?_eq_getElem hk, hz⟩
def cutD (ds : List PyData) (lo hi : Option Int) : List PyData := (ds.drop (HT.sIx ds.length 0 lo)).take (HT.sIx ds.length ds.length hi - HT.sIx ds.length 0 lo)
theorem cut_rel {S : ASet} {H : Hp} {ds : List PyData} {xs : List V} (lo hi : Option Int) (w : DwA K S H xs ds) : DwA K S H (cutV xs lo hi) (cutD ds lo hi) := by
  unfold cutV cutD
  rw [w.length]
  exact (w.drop _).take _
/-- a slice's part -/
def XO (X : Cx) (W : Wd) (Γ : Gm) (e : Option Expr) (o : Option Int) : Prop := PO X e fun σ H Q => Tp X.K W Γ σ H ∧ ∀ H2, Er W.S H H2 → W.J H2 → Q o H2
theorem xo_none : XO X W Γ none none := ⟨fun pins s σ H Q I ⟨T, R⟩ => po_none.run pins s σ H Q I (R H (Er.refl H) T.j)⟩
theorem xo_some {i : Int} (h : XE X W Γ e (Is (.int i))) : XO X W Γ (some e) (some i) := ⟨fun pins s σ H Q I ⟨T, R⟩ => (po_some h).run pins s σ H Q I ⟨T, fun v x H2 px rx e1 j1 => by
  subst px
  cases rx
  exact ⟨i, rfl, R H2 e1 j1⟩⟩⟩
theorem sIx_size (n : Nat) (o : Option Int) : HT.sIx n n o ≤ n := HT.sIx_le n n (Nat.le_refl _) o
theorem xe_slice {ds zs : List PyData} {lo hi : Option Expr} {l u : Option Int} {p2 : Pos} (he : XE X W Γ e (Is (.tuple ds))) (hl : XO X W Γ lo l) (hu : XO X W Γ hi u) (hd : cutD ds l u = zs := by rfl) :
    XE X W Γ (.Subscript e (.Slice lo hi none p2) pos) (Is (.tuple zs)) := by
  subst hd
  exact pe_imp (pe_slice sl_tupA he hl hu) fun σ H Q ⟨T, R⟩ =>
  ⟨T, fun v x H1 px rx e1 j1 => ⟨T.mono e1 j1, fun H2 e2 j2 => ⟨T.mono (e1.trans e2) j2, fun H3 e3 j3 => by
    subst px
    have rx3 := (rx.mono (e2.trans e3))
    cases rx3 with
    | tup p w =>
      refine ⟨_, _, rfl, p.sq, fun hw => ?_, fun hw q hq => ?_⟩
      · have e0 : cutD ds l u = ds := by
          unfold cutD
          rw [← w.length, hw.1, hw.2, Nat.sub_zero, List.drop_zero, w.length, List.take_length]
        exact R _ _ H3 rfl (by rw [e0]; exact Dw.tup p w) ((e1.trans e2).trans e3) j3
      · obtain ⟨j4, e4, n4⟩ := new_world (o := .tup (cutV _ l u)) j3 hq
        exact R _ _ _ rfl (Dw.tup (.inl ⟨.inl upd_same, n4⟩) ((cut_rel l u w).mono e4)) (((e1.trans e2).trans e3).trans e4) j4⟩⟩⟩
theorem rr_cat {ds ys : List PyData} (hl : ds.length + ys.length ≤ 100000) : RR2 K W (rCatA K) (Is (.tuple ds)) (Is (.tuple ys)) (Is (.tuple (ds ++ ys))) := fun x y v u H Q px py rx ry jj R => by
  subst px py
  cases rx with
  | tup p w =>
    cases ry with
    | tup q z =>
      refine ⟨_, _, _, _, rfl, rfl, p.sq, q.sq, ?_, fun h0 => ?_, fun h0 h1 => ?_, fun h0 h1 r hr => ?_⟩
      · rw [w.length, z.length]
        exact Nat.le_trans hl (by decide)
      · have e0 : ds = [] := by
          have := w.length
          rw [h0] at this
          exact List.eq_nil_of_length_eq_zero this.symm
        refine R _ _ H rfl ?_ (Er.refl H) jj
        rw [e0]
        exact Dw.tup q z
      · have e0 : ys = [] := by
          have := z.length
          rw [h1] at this
          exact List.eq_nil_of_length_eq_zero this.symm
        refine R _ _ H rfl ?_ (Er.refl H) jj
        rw [e0, List.append_nil]
        exact Dw.tup p w
      · obtain ⟨j4, e4, n4⟩ := new_world (o := .tup _) jj hr
        exact R _ _ _ rfl (Dw.tup (.inl ⟨.inl upd_same, n4⟩) ((w.append z).mono e4)) e4 j4
theorem rr_catL {ds ys : List PyData} (hl : ds.length + ys.length ≤ 100000) : RR2 K W rCat (Is (.list ds)) (Is (.list ys)) (Is (.list (ds ++ ys))) := fun x y v u H Q px py rx ry jj R => by
  subst px py
  cases rx with
  | lst p w =>
    cases ry with
    | lst q z =>
      refine ⟨_, _, _, _, rfl, rfl, p.1, q.1, ?_, fun r hr => ?_⟩
      · rw [w.length, z.length]
        exact Nat.le_trans hl (by decide)
      · obtain ⟨j4, e4, n4⟩ := new_world (o := .lst _) jj hr
        exact R _ _ _ rfl (Dw.lst ⟨upd_same, n4⟩ ((w.append z).mono e4)) e4 j4
/-! ### and, or, not by value -/
theorem pe_when {C : Prop} {t : TE} (h : C → PE X e t) : PE X e (fun σ H Q => C ∧ t σ H Q) := ⟨fun pins s σ H Q I ⟨hc, q⟩ => (h hc).run pins s σ H Q I q⟩
theorem pt_when {C : Prop} {t : TT} (h : C → PT X e t) : PT X e (fun σ H Q => C ∧ t σ H Q) := ⟨fun pins s σ H Q I ⟨hc, q⟩ => (h hc).run pins s σ H Q I q⟩
theorem pw_when {C : Prop} {t : TT} (h : C → PW X e t) : PW X e (fun σ H Q => C ∧ t σ H Q) := ⟨fun whole pins s σ H Q I ⟨hc, q⟩ => (h hc).run whole pins s σ H Q I q⟩
theorem xe_one {op} (h : XE X W Γ a P) : XE X W Γ (.BoolOp op [a] pos) P := pe_one h
theorem xe_and {x y : Bool} (ha : XE X W Γ a (Is (.bool x))) (hb : x = true → XE X W Γ (.BoolOp .And (b :: rest) pos) (Is (.bool y))) : XE X W Γ (.BoolOp .And (a :: b :: rest) pos) (Is (.bool (x && y))) :=
  pe_imp (pe_and ha (pe_when hb)) fun σ H Q ⟨T, R⟩ => ⟨T, fun v z H1 pz rz e1 j1 => by
    subst pz
    cases rz
    refine ⟨x, rfl, ?_⟩
    cases x with
    | true =>
      rw [if_pos rfl]
      exact ⟨rfl, T.mono e1 j1, R.later e1⟩
    | false =>
      rw [if_neg Bool.false_ne_true]
      exact R _ _ H1 rfl (Dw.bl _) e1 j1⟩
theorem xe_or {x y : Bool} (ha : XE X W Γ a (Is (.bool x))) (hb : x = false → XE X W Γ (.BoolOp .Or (b :: rest) pos) (Is (.bool y))) : XE X W Γ (.BoolOp .Or (a :: b :: rest) pos) (Is (.bool (x || y))) :=
  pe_imp (pe_or ha (pe_when hb)) fun σ H Q ⟨T, R⟩ => ⟨T, fun v z H1 pz rz e1 j1 => by
    subst pz
    cases rz
    refine ⟨x, rfl, ?_⟩
    cases x with
    | true =>
      rw [if_pos rfl]
      exact R _ _ H1 rfl (Dw.bl _) e1 j1
    | false =>
      rw [if_neg Bool.false_ne_true]
      exact ⟨rfl, T.mono e1 j1, R.later e1⟩⟩
theorem xe_not {x : Bool} (ha : XE X W Γ a (Is (.bool x))) : XE X W Γ (.UnaryOp .Not a pos) (Is (.bool (!x))) := pe_imp (pe_not ha) fun σ H Q ⟨T, R⟩ => ⟨T, fun v z H1 pz rz e1 j1 => by
    subst pz
    cases rz
    exact ⟨x, rfl, R _ _ H1 rfl (Dw.bl _) e1 j1⟩⟩
/-! ### tests -/
theorem xt_val {x : Bool} (h : XE X W Γ e (Is (.bool x))) (he : ∀ whole, isTrue e X.env whole = (do let v ← whole; standAt e.pos; holding [v] (truthy v)) := by intro _; rfl) : XT X W Γ e x := pt_imp (pt_val h he) fun σ H Q ⟨T, R⟩ => ⟨T, fun v z H1 pz rz e1 j1 => by
    subst pz
    cases rz
    exact ⟨x, rfl, R _ e1 j1⟩⟩
theorem xt_cmp {op : CmpOp} {r : R2} {x : Bool} (ho : OpR X (compareOp op) r) (hr : RR2 X.K W r Pa Pb (Is (.bool x))) (ha : XE X W Γ a Pa) (hb : XE X W Γ b Pb) (hm : behindInMarks op b = false := by exact nomark _) : XT X W Γ (.Compare a [op] [b] pos) x :=
  pt_imp (pt_cmpR ho ha hb hm) fun σ H Q ⟨T, R⟩ => two hb (P := Is (.bool x)) hr T fun v z H1 pz rz e1 j1 => by
    subst pz
    cases rz
    exact ⟨x, rfl, R _ e1 j1⟩
theorem xt_not {x : Bool} (h : XT X W Γ a x) : XT X W Γ (.UnaryOp .Not a pos) (!x) := pt_imp (pt_not h) fun σ H Q ⟨T, R⟩ => ⟨T, fun H1 e1 j1 => R _ e1 j1⟩
def XW (X : Cx) (W : Wd) (Γ : Gm) (e : Expr) (b : Bool) : Prop := PW X e fun σ H Q => Tp X.K W Γ σ H ∧ RetB W H b Q
theorem pw_imp {t t' : TT} (h : PW X e t) (i : ∀ σ H Q, t' σ H Q → t σ H Q) : PW X e t' := ⟨fun whole pins s σ H Q I q => h.run whole pins s σ H Q I (i σ H Q q)⟩
theorem XW.t {x : Bool} (h : XW X W Γ e x) : XT X W Γ e x := PW.pt h
theorem xw_or1 {x : Bool} (h : XT X W Γ a x) : XW X W Γ (.BoolOp .Or [a] pos) x := pw_or1 h
theorem xw_and1 {x : Bool} (h : XT X W Γ a x) : XW X W Γ (.BoolOp .And [a] pos) x := pw_and1 h
theorem xw_or {x y : Bool} (ha : XT X W Γ a x) (hb : x = false → XW X W Γ (.BoolOp .Or (b :: rest) pos) y) : XW X W Γ (.BoolOp .Or (a :: b :: rest) pos) (x || y) := pw_imp (pw_or ha (pw_when hb)) fun σ H Q ⟨T, R⟩ => ⟨T, fun H1 e1 j1 => by
    cases x with
    | true =>
      rw [if_pos rfl]
      exact R _ e1 j1
    | false =>
      rw [if_neg Bool.false_ne_true]
      exact ⟨rfl, T.mono e1 j1, fun H2 e2 j2 => R _ (e1.trans e2) j2⟩⟩
theorem xw_and {x y : Bool} (ha : XT X W Γ a x) (hb : x = true → XW X W Γ (.BoolOp .And (b :: rest) pos) y) : XW X W Γ (.BoolOp .And (a :: b :: rest) pos) (x && y) := pw_imp (pw_and ha (pw_when hb)) fun σ H Q ⟨T, R⟩ => ⟨T, fun H1 e1 j1 => by
    cases x with
    | true =>
      rw [if_pos rfl]
      exact ⟨rfl, T.mono e1 j1, fun H2 e2 j2 => R _ (e1.trans e2) j2⟩
    | false =>
      rw [if_neg Bool.false_ne_true]
      exact R _ e1 j1⟩
theorem xe_ifx {x : Bool} (hc : XT X W Γ c x) (ha : x = true → XE X W Γ a P) (hb : x = false → XE X W Γ b P) : XE X W Γ (.IfExp c a b pos) P := pe_imp (pe_ifExp hc (pe_when ha) (pe_when hb)) fun σ H Q ⟨T, R⟩ => ⟨T, fun H1 e1 j1 => by
    cases x with
    | true =>
      rw [if_pos rfl]
      exact ⟨rfl, T.mono e1 j1, R.later e1⟩
    | false =>
      rw [if_neg Bool.false_ne_true]
      exact ⟨rfl, T.mono e1 j1, R.later e1⟩⟩
/-! ### chains of ints -/
theorem dw_bl {S : ASet} {H : Hp} {x y : Bool} (e : x = y) : VR K S H (.bl x) (.d (.bool y)) := by
  subst e
  exact Dw.bl _
theorem xe_chain {op op' : CmpOp} {g g' : Int → Int → Bool} {i j k : Int} (ho : OpR X (compareOp op) (rI0 fun i j => .bl (g i j))) (ho' : OpR X (compareOp op') (rI0 fun i j => .bl (g' i j))) (ha : XE X W Γ a (Is (.int i))) (hb : XE X W Γ b (Is (.int j))) (hc : XE X W Γ c (Is (.int k)))
    (hm : lastMarks [op, op'] [b, c] = false := by with_unfolding_all rfl) : XE X W Γ (.Compare a [op, op'] [b, c] pos) (Is (.bool (g i j && g' j k))) := pe_imp (pe_chain ho ho' ha hb hc hm) fun σ H Q ⟨T, R⟩ => ⟨T, fun v z H1 pz rz e1 j1 =>
      ⟨T.mono e1 j1, fun u y H2 py ry e2 j2 => by
    subst pz py
    cases rz
    cases ry
    refine ⟨i, j, rfl, rfl, _, rfl, ?_⟩
    cases hg : g i j with
    | true =>
      rw [if_pos rfl]
      exact ⟨T.mono (e1.trans e2) j2, fun w x H3 px rx e3 j3 => by
        subst px
        cases rx
        exact ⟨j, k, rfl, rfl, R _ _ H3 rfl (dw_bl (by rw [hg, Bool.true_and])) ((e1.trans e2).trans e3) j3⟩⟩
    | false =>
      rw [if_neg Bool.false_ne_true]
      exact R _ _ H2 rfl (dw_bl (by rw [hg, Bool.false_and])) (e1.trans e2) j2⟩⟩
/-- a op1 b op2 c op3 d -/
def tChain3 (r r' r'' : R2) (ta tb tc td : TE) : TE := fun σ H Q => ta σ H fun x H1 => tb σ H1 fun y H2 => r x y H2 fun z H3 => ∃ k, z = .bl k ∧
  (if k = true then tc σ H3 fun y' H4 => r' y y' H4 fun z' H5 => ∃ k', z' = .bl k' ∧ (if k' = true then td σ H5 fun y'' H6 => r'' y' y'' H6 Q else Q (.bl false) H5) else Q (.bl false) H3)
theorem pe_chain3 {d : Expr} {ta tb tc td : TE} {op op' op'' : CmpOp} {r r' r'' : R2} (ho : OpR X (compareOp op) r) (ho' : OpR X (compareOp op') r') (ho'' : OpR X (compareOp op'') r'') (ha : PE X a ta) (hb : PE X b tb) (hc : PE X c tc) (hd : PE X d td)
    (hm : lastMarks [op, op', op''] [b, c, d] = false := by with_unfolding_all rfl) : PE X (.Compare a [op, op', op''] [b, c, d] pos) (tChain3 r r' r'' ta tb tc td) := by
  refine ⟨fun pins s σ H Q I h => ?_⟩
  refine Compare_chain (thn (ha.run pins s σ H _ I h) fun v s1 ⟨x, H1, I1, r1, q1⟩ => chain_link (thn (hb.run pins s1 σ H1 _ I1 q1) fun u s2 ⟨y, H2, I2, r2, q2⟩ =>
    thn (ho pins s2 σ H2 x y v u _ I2 r1 r2 q2) fun d s3 ⟨z, H3, I3, r3, k, e, q3⟩ => ?_)) hm
  subst e
  cases r3
  refine wpAny_truthy_bool ?_
  cases k with
  | false => exact ite_ff ⟨.bl false, H3, I3, rfl, q3⟩
  | true =>
    refine ite_tt (chain_link (thn (hc.run pins s3 σ H3 _ I3 q3) fun w' s4 ⟨z', H4, I4, r4, q4⟩ => thn (ho' pins s4 σ H4 y z' u w' _ I4 r2 r4 q4) fun d' s5 ⟨z2, H5, I5, r5, k2, e2, q5⟩ => ?_))
    subst e2
    cases r5
    refine wpAny_truthy_bool ?_
    cases k2 with
    | false => exact ite_ff ⟨.bl false, H5, I5, rfl, q5⟩
    | true => exact ite_tt (chain_last (thn (hd.run pins s5 σ H5 _ I5 q5) fun w2 s6 ⟨z3, H6, I6, r6, q6⟩ => ho'' pins s6 σ H6 z' z3 w' w2 Q I6 r4 r6 q6))
theorem xe_chain3 {d : Expr} {op op' op'' : CmpOp} {g g' g'' : Int → Int → Bool} {i j k l : Int} (ho : OpR X (compareOp op) (rI0 fun i j => .bl (g i j))) (ho' : OpR X (compareOp op') (rI0 fun i j => .bl (g' i j))) (ho'' : OpR X (compareOp op'') (rI0 fun i j => .bl (g'' i j)))
    (ha : XE X W Γ a (Is (.int i))) (hb : XE X W Γ b (Is (.int j))) (hc : XE X W Γ c (Is (.int k))) (hd : XE X W Γ d (Is (.int l)))
    (hm : lastMarks [op, op', op''] [b, c, d] = false := by with_unfolding_all rfl) : XE X W Γ (.Compare a [op, op', op''] [b, c, d] pos) (Is (.bool (g i j && (g' j k && g'' k l)))) := pe_imp (pe_chain3 ho ho' ho'' ha hb hc hd hm) fun σ H Q ⟨T, R⟩ => ⟨T, fun v z H1 pz rz e1 j1 =>
      ⟨T.mono e1 j1, fun u y H2 py ry e2 j2 => by
    subst pz py
    cases rz
    cases ry
    refine ⟨i, j, rfl, rfl, _, rfl, ?_⟩
    cases hg : g i j with
    | false =>
      rw [if_neg Bool.false_ne_true]
      exact R _ _ H2 rfl (dw_bl (by rw [hg, Bool.false_and])) (e1.trans e2) j2
    | true =>
      rw [if_pos rfl]
      refine ⟨T.mono (e1.trans e2) j2, fun w x H3 px rx e3 j3 => ?_⟩
      subst px
      cases rx
      refine ⟨j, k, rfl, rfl, _, rfl, ?_⟩
      cases hg' : g' j k with
      | false =>
        rw [if_neg Bool.false_ne_true]
        exact R _ _ H3 rfl (dw_bl (by rw [hg, hg', Bool.true_and, Bool.false_and])) ((e1.trans e2).trans e3) j3
      | true =>
        rw [if_pos rfl]
        refine ⟨T.mono ((e1.trans e2).trans e3) j3, fun w' x' H4 px rx e4 j4 => ?_⟩
        subst px
        cases rx
        exact ⟨k, l, rfl, rfl, R _ _ H4 rfl (dw_bl (by rw [hg, hg', Bool.true_and, Bool.true_and])) (((e1.trans e2).trans e3).trans e4) j4⟩⟩⟩
/-! ### calls of built-ins -/
def RRC (K : Frag) (W : Wd) (r : List V → Hp → VK → Prop) (Ps : List Dv → Prop) (P : Dv → Prop) : Prop := ∀ (xs : List Dv) (vs : List V) (H : Hp) (Q : VK), Ps xs → VRA K W.S H vs xs → W.J H → Ret K W H P Q → r vs H Q
theorem xe_callB {x : Str} {p : Pos} {id : String} {r : List V → Hp → VK → Prop} {Ps : List Dv → Prop} (hc : CallR X (.builtin id) r) (hr : RRC X.K W r Ps P) (hm : X.mg x = none) (hv : bootBuiltins x = some (.builtin id)) (ha : XA X W Γ (e :: es) Ps) (hg : Gl X x := by rfl)
    (hn : x ≠ "__name__" := by decide) (hdb : (x == ("__debug__" : Str)) = false := by decide) (he : starEach (e :: es) X.env = (false, eval e X.env) :: starEach es X.env := by rfl) (hpl : (backTo pos (starEach es X.env)).any (·.1) = false := by rfl) : XE X W Γ (.Call (.Name x p) (e :: es) [] pos) P :=
  pe_imp (pe_callB hc hg hm hv ha hn hdb he hpl) fun σ H Q ⟨T, R⟩ => ⟨T, fun vs xs H2 ps rs e j => hr xs vs H2 Q ps rs j (R.later e)⟩
theorem xe_callTy {x : Str} {p : Pos} {id : String} {r : List V → Hp → VK → Prop} {Ps : List Dv → Prop} (hc : CallR X (.type id) r) (hr : RRC X.K W r Ps P) (hm : X.mg x = none) (hv : bootBuiltins x = some (.type id)) (ha : XA X W Γ (e :: es) Ps) (hg : Gl X x := by rfl)
    (hn : x ≠ "__name__" := by decide) (hdb : (x == ("__debug__" : Str)) = false := by decide) (he : starEach (e :: es) X.env = (false, eval e X.env) :: starEach es X.env := by rfl) (hpl : (backTo pos (starEach es X.env)).any (·.1) = false := by rfl) : XE X W Γ (.Call (.Name x p) (e :: es) [] pos) P :=
  pe_imp (pe_callTy hc hg hm hv ha hn hdb he hpl) fun σ H Q ⟨T, R⟩ => ⟨T, fun vs xs H2 ps rs e j => hr xs vs H2 Q ps rs j (R.later e)⟩
theorem xe_ty {x : Str} {n : String} (hm : X.mg x = none) (hv : bootBuiltins x = some (.type n)) (hg : Gl X x := by rfl) (hn : x ≠ "__name__" := by decide) (hdb : (x == ("__debug__" : Str)) = false := by decide) : XE X W Γ (.Name x pos) (fun y => y = .t n) :=
  pe_imp (pe_bltn (v := .ty n) hg hm hv rfl hn hdb) fun σ H Q ⟨T, R⟩ => R (.ty n) (.t n) H rfl rfl (Er.refl H) T.j
def tyD : PyData → String
  | .none => "NoneType"
  | .bool _ => "bool"
  | .int _ => "int"
  | .str _ => "str"
  | .list _ => "list"
  | .tuple _ => "tuple"
  | .dict _ => "dict"
theorem tyx_of {S : ASet} {H : Hp} {v : V} {d : PyData} (h : Dw K S H v d) : TyX K H v (.type (tyD d)) := by
  cases h with
  | non => exact .base .non
  | bl b => exact .base (.bl b)
  | int i => exact .base (.int i)
  | str x => exact .base (.str x)
  | lst p w => exact .base (.lst p.1)
  | tup p w =>
    rcases p with ⟨(p | ⟨o, p⟩), _⟩ | ⟨o, its, n, ho, hc, _⟩
    · exact .base (.tup p)
    · exact .fTuple p
    · exact .kTuple ho hc
theorem rr_isi {d : PyData} {T : String} {k : Bool} (h : kitB (tyD d) T = some k) : RRC K W (rIsi K) (fun xs => xs = [.d d, .t T]) (Is (.bool k)) := fun xs vs H Q ps rs jj R => by
  subst ps
  cases rs with
  | cons r1 rs =>
    cases rs with
    | cons r2 rs =>
      cases rs
      have r2' : _ = V.ty T := r2
      subst r2'
      exact ⟨_, _, _, _, k, rfl, .ty T, tyx_of r1, kit_ty h, R _ _ H rfl (Dw.bl _) (Er.refl H) jj⟩
theorem xe_isi {d : PyData} {T : String} {k : Bool} {tn : Str} {p p2 : Pos} (h : kitB (tyD d) T = some k) (mi : X.mg "isinstance" = none) (mt : X.mg tn = none) (hv : bootBuiltins tn = some (.type T)) (ha : XE X W Γ a (Is d))
    (g1 : Gl X "isinstance" := by rfl) (g2 : Gl X tn := by rfl) (hn : tn ≠ "__name__" := by decide) (hdb : (tn == ("__debug__" : Str)) = false := by decide)
    (he : starEach [a, .Name tn p2] X.env = (false, eval a X.env) :: starEach [.Name tn p2] X.env := by rfl) (hpl : (backTo pos (starEach [.Name tn p2] X.env)).any (·.1) = false := by rfl) : XE X W Γ (.Call (.Name "isinstance" p) [a, .Name tn p2] [] pos) (Is (.bool k)) :=
  xe_callB call_isi (rr_isi h) mi (by decide +kernel) ((xa_cons ha (xa_cons (xe_ty mt hv g2 hn hdb) xa_nil) he).imp fun xs ⟨x, r, e1, e2, y, r', e3, e4, e5⟩ => by rw [e1, e2, e3, e4, e5]) g1 (by decide) (by decide) he hpl
theorem rr_len {d : PyData} {ds : List PyData} (h : d = .tuple ds ∨ d = .list ds) : RRC K W (fun xs H Q => ∃ p ys, xs = [.ref p] ∧ (SqL K H p ys ∨ SqT K H p ys) ∧ Q (.int ys.length) H) (IsA [d]) (Is (.int ds.length)) := fun xs vs H Q ps rs jj R => by
  subst ps
  have w := VRA.dwa (ds := [d]) rs
  cases w with
  | cons w1 w2 =>
    cases w2
    rcases h with rfl | rfl
    · cases w1 with
      | tup p w => exact ⟨_, _, rfl, .inr p.sq, R _ _ H rfl (by rw [w.length]; exact Dw.int _) (Er.refl H) jj⟩
    · cases w1 with
      | lst p w => exact ⟨_, _, rfl, .inl p.sq, R _ _ H rfl (by rw [w.length]; exact Dw.int _) (Er.refl H) jj⟩
theorem xe_len {d : PyData} {ds : List PyData} {p : Pos} (h : d = .tuple ds ∨ d = .list ds) (ml : X.mg "len" = none) (ha : XE X W Γ a (Is d)) (g1 : Gl X "len" := by rfl) (he : starEach [a] X.env = (false, eval a X.env) :: starEach [] X.env := by rfl) (hpl : (backTo pos (starEach [] X.env)).any (·.1) = false := by rfl) :
    XE X W Γ (.Call (.Name "len" p) [a] [] pos) (Is (.int ds.length)) := xe_callB call_len_seq (rr_len h) ml PySem.boot_len (xac ha xa0 he) g1 (by decide) (by decide) he hpl
theorem dwa_bools {S : ASet} {H : Hp} : ∀ {bs : List Bool} {vs : List V}, DwA K S H vs (bs.map .bool) → vs = bs.map V.bl
  | [], _, h => by cases h; rfl
  | b :: bs, _, h => by
    cases h with
    | cons h1 h2 =>
      cases h1
      rw [dwa_bools h2]
      rfl
theorem rr_all {bs : List Bool} : RRC K W (rAll K) (IsA [.list (bs.map .bool)]) (Is (.bool (bs.all id))) := fun xs vs H Q ps rs jj R => by
  subst ps
  have w := VRA.dwa (ds := [.list (bs.map .bool)]) rs
  cases w with
  | cons w1 w2 =>
    cases w2
    cases w1 with
    | lst p w =>
      have e := dwa_bools w
      subst e
      exact ⟨_, bs, rfl, p.sq, R _ _ H rfl (Dw.bl _) (Er.refl H) jj⟩
theorem xe_all {bs : List Bool} {p : Pos} (hc : X.calm = true) (ml : X.mg "all" = none) (ha : XE X W Γ a (Is (.list (bs.map .bool)))) (g1 : Gl X "all" := by rfl) (he : starEach [a] X.env = (false, eval a X.env) :: starEach [] X.env := by rfl) (hpl : (backTo pos (starEach [] X.env)).any (·.1) = false := by rfl) :
    XE X W Γ (.Call (.Name "all" p) [a] [] pos) (Is (.bool (bs.all id))) := xe_callB (cr_all hc) rr_all ml (by decide +kernel) (xac ha xa0 he) g1 (by decide) (by decide) he hpl
theorem dwa_ints {S : ASet} {H : Hp} : ∀ {bs : List Int} {vs : List V}, DwA K S H vs (bs.map .int) → vs = bs.map V.int
  | [], _, h => by cases h; rfl
  | b :: bs, _, h => by
    cases h with
    | cons h1 h2 =>
      cases h1
      rw [dwa_ints h2]
      rfl
/-- a written text among written texts -/
def strsOf (zs : List Str) : List PyData := zs.map .str
theorem dwa_strs {S : ASet} {H : Hp} : ∀ {bs : List Str} {vs : List V}, DwA K S H vs (strsOf bs) → vs = bs.map V.str
  | [], _, h => by cases h; rfl
  | b :: bs, _, h => by
    cases h with
    | cons h1 h2 =>
      cases h1
      rw [dwa_strs h2]
      rfl
theorem inV_strs (z : Str) : ∀ zs : List Str, inV (.str z) (zs.map V.str) = zs.any (· == z)
  | [] => rfl
  | y :: zs => by
    show (eqV (.str y) (.str z) || inV (.str z) (zs.map V.str)) = _
    rw [inV_strs z zs]
    rfl
theorem rr_inS {z : Str} {zs : List Str} : RR2 K W (rIn K false) (Is (.str z)) (Is (.tuple (strsOf zs))) (Is (.bool (zs.any (· == z)))) := fun x y v u H Q px py rx ry jj R => by
  subst px py
  cases rx
  cases ry with
  | tup p w =>
    have e := dwa_strs w
    subst e
    refine ⟨_, _, rfl, .inr p.sq, rfl, ?_, ?_⟩
    · rw [List.all_map]
      exact List.all_eq_true.mpr fun _ _ => rfl
    · show Q (.bl (if false = true then _ else inV (.str z) (zs.map V.str))) H
      rw [if_neg Bool.false_ne_true, inV_strs]
      exact R _ _ H rfl (Dw.bl _) (Er.refl H) jj
end
end SB

namespace SB
open PySem PySem.Spec PyProof.Rows L2
/-! ### data without lists -/
mutual
def noL : PyData → Bool
  | .list _ => false
  | .dict _ => false
  | .tuple ds => noLs ds
  | .none => true
  | .bool _ => true
  | .int _ => true
  | .str _ => true
def noLs : List PyData → Bool
  | [] => true
  | d :: ds => noL d && noLs ds
end
theorem noLs_append : ∀ (ds es : List PyData), noLs ds = true → noLs es = true → noLs (ds ++ es) = true
  | [], _, _, h => h
  | d :: ds, es, h, h' => by
    have h0 : (noL d && noLs ds) = true := h
    rw [Bool.and_eq_true] at h0
    show (noL d && noLs (ds ++ es)) = true
    rw [h0.1, noLs_append ds es h0.2 h']
    rfl
section
variable {K : Frag} {S S' : ASet} {H H' : Hp}
mutual
theorem Dw.toN (h : ∀ a xs, ¬ S a → Rd H a (.tup xs) → Rd H' a (.tup xs) ∧ ¬ S' a) : ∀ (d : PyData) (v : V), noL d = true → Dw K S H v d → Dw K S' H' v d
  | .none, _, _, q => by cases q; exact .non
  | .bool b, _, _, q => by cases q; exact .bl b
  | .int i, _, _, q => by cases q; exact .int i
  | .str x, _, _, q => by cases q; exact .str x
  | .list ds, _, n, q => by cases n
  | .tuple ds, _, n, q => by
    cases q with
    | tup p r =>
      refine .tup ?_ (DwA.toN h ds _ n r)
      rcases p with p | p
      · exact .inl (h _ _ p.2 p.1)
      · exact .inr p
  | .dict _, _, _, q => by cases q
theorem DwA.toN (h : ∀ a xs, ¬ S a → Rd H a (.tup xs) → Rd H' a (.tup xs) ∧ ¬ S' a) : ∀ (ds : List PyData) (vs : List V), noLs ds = true → DwA K S H vs ds → DwA K S' H' vs ds
  | [], _, _, q => by cases q; exact .nil
  | d :: ds, _, n, q => by
    have n0 : (noL d && noLs ds) = true := n
    rw [Bool.and_eq_true] at n0
    cases q with
    | cons a b => exact .cons (Dw.toN h d _ n0.1 a) (DwA.toN h ds _ n0.2 b)
end
end
theorem rd_upd {H : Hp} {p : Addr} {o u : HO} {a : Addr} {xs : List V} (hp : H p = some u) (hu : mutO u) (r : Rd H a (.tup xs)) : Rd (upd H p o) a (.tup xs) := by
  rcases r with r | ⟨ob, r⟩
  · left
    rw [upd_ne (ne_of r hp (by rintro rfl; exact hu))]
    exact r
  · right
    refine ⟨ob, ?_⟩
    rw [upd_ne (ne_of r hp (by rintro rfl; exact hu))]
    exact r
/-! ### a list that is being made -/
structure CW (K : Frag) (W : Wd) (H1 : Hp) (p : Addr) (es : List PyData) (H : Hp) : Prop where
  j : W.J H
  er : Er W.S H1 H
  at_ : ∃ acc, H p = some (.lst acc) ∧ DwA K W.S H acc es
section
variable {K : Frag} {W : Wd} {H1 H H4 : Hp} {p : Addr} {es : List PyData} {d : PyData} {v : V}
theorem CW.start (j1 : W.J H1) (hp : H1 p = none) : CW K W H1 p [] (upd H1 p (.lst [])) := ⟨W.more j1 (Ex.new hp), (Ex.new hp).er, [], upd_same, .nil⟩
theorem CW.next (j1 : W.J H1) (hp : H1 p = none) (c : CW K W H1 p es H) (ns : noLs es = true) (nd : noL d = true) (e4 : Er W.S H H4) (j4 : W.J H4) (w : Dw K W.S H4 v d) (hl : es.length < 100000) :
    ∃ acc, H4 p = some (.lst acc) ∧ acc.length < sizeLine ∧ CW K W H1 p (es ++ [d]) (upd H4 p (.lst (acc ++ [v]))) := by
  obtain ⟨acc, ha, hw⟩ := c.at_
  have np : ¬ W.S p := fun s => W.dom j1 s hp
  have h4 := e4 p _ np ha
  have up : ∀ a xs, ¬ W.S a → Rd H4 a (.tup xs) → Rd (upd H4 p (.lst (acc ++ [v]))) a (.tup xs) ∧ ¬ W.S a := fun a xs n r => ⟨rd_upd h4 trivial r, n⟩
  refine ⟨acc, h4, Nat.lt_of_lt_of_le (by rw [hw.length]; exact hl) (by decide), W.turn j1 hp (c.er.trans e4) j4 h4 trivial, fun a o n h => ?_, _, upd_same, ?_⟩
  · rw [upd_ne (ne_of_none h hp)]
    exact e4 a o n (c.er a o n h)
  · exact ((hw.mono e4).toN up _ _ ns).append (.cons (w.toN up _ _ nd) .nil)
theorem CW.fin (j1 : W.J H1) (hp : H1 p = none) (c : CW K W H1 p es H) : Dw K W.S H (.ref p) (.list es) := by
  obtain ⟨acc, ha, hw⟩ := c.at_
  exact .lst ⟨ha, fun s => W.dom j1 s hp⟩ hw
end
theorem paired_snoc {α β : Type} {R : α → β → Prop} {x : α} {y : β} (r : R x y) : ∀ {l : List α} {m : List β}, Paired R l m → Paired R (l ++ [x]) (m ++ [y])
  | _, _, .nil => .cons r .nil
  | _, _, .cons a t => .cons a (paired_snoc r t)
theorem paired_len {α β : Type} {R : α → β → Prop} : ∀ {l : List α} {m : List β}, Paired R l m → l.length = m.length
  | _, _, .nil => rfl
  | _, _, .cons a t => congrArg (· + 1) (paired_len t)
theorem paired_noL {R : PyData → PyData → Prop} (h : ∀ d e, R d e → noL e = true) : ∀ {l m : List PyData}, Paired R l m → noLs m = true
  | _, _, .nil => rfl
  | _, _, .cons a t => by
    show (noL _ && noLs _) = true
    rw [h _ _ a, paired_noL h t]
    rfl
theorem paired_map {f : PyData → PyData} : ∀ {l m : List PyData}, Paired (fun d e => e = f d) l m → m = l.map f
  | _, _, .nil => rfl
  | _, _, .cons a t => by rw [a, paired_map t]; rfl
theorem take_snoc {α : Type} {l : List α} {i : Nat} {x : α} (h : l[i]? = some x) : l.take (i + 1) = l.take i ++ [x] := by
  rw [List.take_add_one, h]
  rfl
section
variable {X : Cx} {W : Wd} {Γ : Gm} {iter elt e : Expr} {pos p : Pos} {n : Str} {j : Nat} {scope : Scope}
theorem Tp.none {K : Frag} {σ : L2.St} {H : Hp} {i : Nat} (T : Tp K W Γ σ H) : Tp K W (Γ.set i Option.none) (σ.set i Option.none) H := by
  refine ⟨T.j, by rw [List.length_set, List.length_set]; exact T.len, fun k y h => ?_⟩
  by_cases q : i = k
  · subst q
    rw [List.getElem?_set] at h
    by_cases l : i < Γ.length
    · rw [if_pos rfl, if_pos l] at h
      cases h
    · rw [if_pos rfl, if_neg l] at h
      cases h
  · rw [List.getElem?_set_ne q] at h
    rw [List.getElem?_set_ne q]
    exact T.at_ k y h
/-- [elt for n in iter], iter a tuple -/
theorem xe_lcT {ds : List PyData} {R : PyData → PyData → Prop} (hc : X.calm = true) (hN : X.N.Nodup) (hi : XE X W Γ iter (Is (.tuple ds))) (ok : BlkOk X.N X.env.scope scope [(n, j)])
    (hg : ∀ (s : Shared) (H : Hp) (C : Addr) (cl : List (Str × Addr)) (fp : List Addr), PG (X.blk s H scope (compEnvC scope cl C X.env) fp) (.Name n p) (gName j))
    (he : ∀ (s : Shared) (H : Hp) (C : Addr) (cl : List (Str × Addr)) (fp : List Addr) (d : PyData), d ∈ ds → XE (X.blk s H scope (compEnvC scope cl C X.env) fp) W (Γ.set j (some (.d d))) elt (fun x => ∃ e, x = .d e ∧ R d e))
    (hR : ∀ d e, R d e → noL e = true) (hl : ds.length ≤ 90000) (hs : ∀ x, foldedSetIterable iter X.env x = pure x := by intro _; rfl) :
    XE X W Γ (.ListComp elt [⟨.Name n p, iter, [], 0⟩] scope pos) (fun x => ∃ es, x = .d (.list es) ∧ Paired R ds es) := by
  refine pe_imp (pe_lc (own := [(n, j)]) (g := gName j) (tt := tYes) (te := fun σ H Q => ∃ d, d ∈ ds ∧ Tp X.K W (Γ.set j (some (.d d))) σ H ∧ Ret X.K W H (fun x => ∃ e, x = .d e ∧ R d e) Q) hc hN (pi_tup hi) ok hg (fun _ _ _ _ _ => pts_nil)
    (fun s H C cl fp => ⟨fun pins s' σ H' Q I ⟨d, hd, q⟩ => (he s H C cl fp d hd).run pins s' σ H' Q I q⟩) hs) fun σ H Q ⟨T, RQ⟩ => ⟨T, fun v z H1 pz rz e1 j1 => ?_⟩
  subst pz
  cases rz with
  | tup pt w =>
    rename_i a xs
    refine ⟨a, rfl, ⟨xs, pt.sq⟩, fun D hD => ?_⟩
    refine lc_tup (K := X.K) (a := a) (xs := xs) (g := gName j) (tt := tYes) (te := fun σ H Q => ∃ d, d ∈ ds ∧ Tp X.K W (Γ.set j (some (.d d))) σ H ∧ Ret X.K W H (fun x => ∃ e, x = .d e ∧ R d e) Q) (vs := [j]) (σ := σ) (Qd := fun H => Q (.ref D) H) (fun i H' => ∃ es, Paired R (ds.take i) es ∧ CW X.K W H1 D es H') ⟨[], .nil, CW.start j1 hD⟩ (fun i H' _ ⟨es, _, c⟩ => ?_) (fun i x H' hx ⟨es, hp, c⟩ => ?_) (fun H' ⟨es, hp, c⟩ => ?_)
    · rcases pt with ⟨r, ns⟩ | k
      · refine .inl ?_
        rcases r with r | ⟨ob, r⟩
        · exact .inl (c.er _ _ ns r)
        · exact .inr ⟨ob, c.er _ _ ns r⟩
      · exact .inr k
    · obtain ⟨d, hd, wd⟩ := w.get' hx
      have hj : (wipe σ [j]).set j (some x) = σ.set j (some x) := by
        show (σ.set j Option.none).set j (some x) = _
        rw [List.set_set]
      have hes : es.length ≤ 90000 := by
        rw [← paired_len hp, List.length_take]
        omega
      show (wipe ((wipe σ [j]).set j (some x)) [j] = wipe σ [j]) ∧ _
      refine ⟨by show (((σ.set j Option.none).set j (some x)).set j Option.none) = σ.set j Option.none; rw [List.set_set, List.set_set], ?_⟩
      show ∃ d, _
      refine ⟨d, List.mem_of_getElem? hd, ?_, fun v' x' H4 ⟨e', px, hre⟩ rx e4 j4 => ?_⟩
      · rw [hj]
        exact (T.mono (e1.trans c.er) c.j).set (x := .d d) (wd.mono c.er)
      · subst px
        obtain ⟨acc, h1, h2, h3⟩ := CW.next j1 hD c (paired_noL hR hp) (hR _ _ hre) e4 j4 rx (by omega)
        refine ⟨acc, h1, h2, es ++ [e'], ?_, h3⟩
        rw [take_snoc hd]
        exact paired_snoc hre hp
    · rw [w.length, List.take_length] at hp
      exact RQ _ _ H' ⟨es, rfl, hp⟩ (c.fin j1 hD) (e1.trans c.er) c.j
/-- .. over a list -/
theorem xe_lcL {ds : List PyData} {R : PyData → PyData → Prop} (hc : X.calm = true) (hN : X.N.Nodup) (hi : XE X W Γ iter (Is (.list ds))) (ok : BlkOk X.N X.env.scope scope [(n, j)])
    (hg : ∀ (s : Shared) (H : Hp) (C : Addr) (cl : List (Str × Addr)) (fp : List Addr), PG (X.blk s H scope (compEnvC scope cl C X.env) fp) (.Name n p) (gName j))
    (he : ∀ (s : Shared) (H : Hp) (C : Addr) (cl : List (Str × Addr)) (fp : List Addr) (d : PyData), d ∈ ds → XE (X.blk s H scope (compEnvC scope cl C X.env) fp) W (Γ.set j (some (.d d))) elt (fun x => ∃ e, x = .d e ∧ R d e))
    (hR : ∀ d e, R d e → noL e = true) (hl : ds.length ≤ 90000) (hs : ∀ x, foldedSetIterable iter X.env x = pure x := by intro _; rfl) :
    XE X W Γ (.ListComp elt [⟨.Name n p, iter, [], 0⟩] scope pos) (fun x => ∃ es, x = .d (.list es) ∧ Paired R ds es) := by
  refine pe_imp (pe_lc (own := [(n, j)]) (g := gName j) (tt := tYes) (te := fun σ H Q => ∃ d, d ∈ ds ∧ Tp X.K W (Γ.set j (some (.d d))) σ H ∧ Ret X.K W H (fun x => ∃ e, x = .d e ∧ R d e) Q) hc hN (pi_list hi) ok hg (fun _ _ _ _ _ => pts_nil)
    (fun s H C cl fp => ⟨fun pins s' σ H' Q I ⟨d, hd, q⟩ => (he s H C cl fp d hd).run pins s' σ H' Q I q⟩) hs) fun σ H Q ⟨T, RQ⟩ => ⟨T, fun v z H1 pz rz e1 j1 => ?_⟩
  subst pz
  cases rz with
  | lst pt w =>
    rename_i a xs
    refine ⟨a, rfl, ⟨xs, pt.sq⟩, fun D hD => ?_⟩
    refine lc_list (K := X.K) (a := a) (xs := xs) (g := gName j) (tt := tYes) (te := fun σ H Q => ∃ d, d ∈ ds ∧ Tp X.K W (Γ.set j (some (.d d))) σ H ∧ Ret X.K W H (fun x => ∃ e, x = .d e ∧ R d e) Q) (vs := [j]) (σ := σ) (Qd := fun H => Q (.ref D) H) (fun i H' => ∃ es, Paired R (ds.take i) es ∧ CW X.K W H1 D es H') ⟨[], .nil, CW.start j1 hD⟩ (fun i H' _ ⟨es, _, c⟩ => ?_) (fun i x H' hx ⟨es, hp, c⟩ => ?_) (fun H' ⟨es, hp, c⟩ => ?_)
    · exact .inl (.inl (c.er _ _ pt.2 pt.1))
    · obtain ⟨d, hd, wd⟩ := w.get' hx
      have hj : (wipe σ [j]).set j (some x) = σ.set j (some x) := by
        show (σ.set j Option.none).set j (some x) = _
        rw [List.set_set]
      have hes : es.length ≤ 90000 := by
        rw [← paired_len hp, List.length_take]
        omega
      show (wipe ((wipe σ [j]).set j (some x)) [j] = wipe σ [j]) ∧ _
      refine ⟨by show (((σ.set j Option.none).set j (some x)).set j Option.none) = σ.set j Option.none; rw [List.set_set, List.set_set], ?_⟩
      show ∃ d, _
      refine ⟨d, List.mem_of_getElem? hd, ?_, fun v' x' H4 ⟨e', px, hre⟩ rx e4 j4 => ?_⟩
      · rw [hj]
        exact (T.mono (e1.trans c.er) c.j).set (x := .d d) (wd.mono c.er)
      · subst px
        obtain ⟨acc, h1, h2, h3⟩ := CW.next j1 hD c (paired_noL hR hp) (hR _ _ hre) e4 j4 rx (by omega)
        refine ⟨acc, h1, h2, es ++ [e'], ?_, h3⟩
        rw [take_snoc hd]
        exact paired_snoc hre hp
    · rw [w.length, List.take_length] at hp
      exact RQ _ _ H' ⟨es, rfl, hp⟩ (c.fin j1 hD) (e1.trans c.er) c.j
/-- what a range gives -/
def rgD (lo : Int) (m : Nat) : List PyData := (List.range m).map fun (i : Nat) => .int (lo + i)
theorem rgD_len (lo : Int) (m : Nat) : (rgD lo m).length = m := by unfold rgD; rw [List.length_map, List.length_range]
theorem rgD_at {lo : Int} {m i : Nat} (h : i < m) : (rgD lo m)[i]? = some (.int (lo + i)) := by
  unfold rgD
  rw [List.getElem?_map, List.getElem?_range h]
  rfl
/-- what is walked is a range -/
def XR (X : Cx) (W : Wd) (Γ : Gm) (tg iter : Expr) (lo : Int) (m : Nat) : Prop := ∃ wi : TI, PI X tg iter wi ∧ ∀ (σ : L2.St) (H : Hp) (Q : It → Hp → Prop), Tp X.K W Γ σ H → (∀ H2, Er W.S H H2 → W.J H2 → Q (Itr lo m) H2) → wi σ H Q
/-- .. over a range -/
theorem xe_lcR {lo : Int} {m : Nat} {R : PyData → PyData → Prop} (hc : X.calm = true) (hN : X.N.Nodup) (hi : XR X W Γ (.Name n p) iter lo m) (ok : BlkOk X.N X.env.scope scope [(n, j)])
    (hg : ∀ (s : Shared) (H : Hp) (C : Addr) (cl : List (Str × Addr)) (fp : List Addr), PG (X.blk s H scope (compEnvC scope cl C X.env) fp) (.Name n p) (gName j))
    (he : ∀ (s : Shared) (H : Hp) (C : Addr) (cl : List (Str × Addr)) (fp : List Addr) (i : Nat), i < m → XE (X.blk s H scope (compEnvC scope cl C X.env) fp) W (Γ.set j (some (.d (.int (lo + i))))) elt (fun x => ∃ e, x = .d e ∧ R (.int (lo + i)) e))
    (hR : ∀ d e, R d e → noL e = true) (hl : m ≤ 90000) (hs : ∀ x, foldedSetIterable iter X.env x = pure x := by intro _; rfl) :
    XE X W Γ (.ListComp elt [⟨.Name n p, iter, [], 0⟩] scope pos) (fun x => ∃ es, x = .d (.list es) ∧ Paired R (rgD lo m) es) := by
  obtain ⟨wi, hi, hw⟩ := hi
  refine pe_imp (pe_lc (own := [(n, j)]) (g := gName j) (tt := tYes) (te := fun σ H Q => ∃ i : Nat, i < m ∧ Tp X.K W (Γ.set j (some (.d (.int (lo + i))))) σ H ∧ Ret X.K W H (fun x => ∃ e, x = .d e ∧ R (.int (lo + i)) e) Q) hc hN hi ok hg (fun _ _ _ _ _ => pts_nil)
    (fun s H C cl fp => ⟨fun pins s' σ H' Q I ⟨d, hd, q⟩ => (he s H C cl fp d hd).run pins s' σ H' Q I q⟩) hs) fun σ H Q ⟨T, RQ⟩ => hw σ H _ T fun H1 e1 j1 D hD => ?_
  refine lc_range (lo := lo) (n := m) (g := gName j) (tt := tYes) (te := fun σ H Q => ∃ i : Nat, i < m ∧ Tp X.K W (Γ.set j (some (.d (.int (lo + i))))) σ H ∧ Ret X.K W H (fun x => ∃ e, x = .d e ∧ R (.int (lo + i)) e) Q) (vs := [j]) (σ := σ) (Qd := fun H => Q (.ref D) H) (fun i H' => ∃ es, Paired R ((rgD lo m).take i) es ∧ CW X.K W H1 D es H') ⟨[], .nil, CW.start j1 hD⟩ (fun i H' hx ⟨es, hp, c⟩ => ?_) (fun H' ⟨es, hp, c⟩ => ?_)
  · have hj : (wipe σ [j]).set j (some (.int (lo + i))) = σ.set j (some (.int (lo + i))) := by
      show (σ.set j Option.none).set j (some (.int (lo + i))) = _
      rw [List.set_set]
    have hes : es.length ≤ 90000 := by
      rw [← paired_len hp, List.length_take, rgD_len]
      omega
    show (wipe ((wipe σ [j]).set j (some (.int (lo + i)))) [j] = wipe σ [j]) ∧ _
    refine ⟨by show (((σ.set j Option.none).set j (some (.int (lo + i)))).set j Option.none) = σ.set j Option.none; rw [List.set_set, List.set_set], ?_⟩
    show ∃ d, _
    refine ⟨i, hx, ?_, fun v' x' H4 ⟨e', px, hre⟩ rx e4 j4 => ?_⟩
    · rw [hj]
      exact (T.mono (e1.trans c.er) c.j).set (x := .d (.int (lo + i))) (Dw.int _)
    · subst px
      obtain ⟨acc, h1, h2, h3⟩ := CW.next j1 hD c (paired_noL hR hp) (hR _ _ hre) e4 j4 rx (by omega)
      refine ⟨acc, h1, h2, es ++ [e'], ?_, h3⟩
      rw [take_snoc (rgD_at hx)]
      exact paired_snoc hre hp
  · rw [List.take_of_length_le (by rw [rgD_len]; exact Nat.le_refl _)] at hp
    exact RQ _ _ H' ⟨es, rfl, hp⟩ (c.fin j1 hD) (e1.trans c.er) c.j
theorem rng1_tp {es : List Expr} {m : Nat} (h : XA X W Γ es (IsA [.int (m : Int)])) (hm : m < 90000) (σ : L2.St) (H : Hp) (Q : It → Hp → Prop) (T : Tp X.K W Γ σ H) (k : ∀ H2, Er W.S H H2 → W.J H2 → Q (Itr 0 m) H2) :
    iRng1 (fun σ H Q => Tp X.K W Γ σ H ∧ RetA X.K W H (IsA [.int (m : Int)]) Q) σ H Q := ⟨T, fun vs xs H2 ps rs e j => by
  have w := VRA.dwa (ds := [.int (m : Int)]) (ps ▸ rs)
  cases w with
  | cons w1 w2 =>
    cases w2
    cases w1
    refine ⟨m, rfl, by omega, by omega, ?_⟩
    have := k H2 e j
    simpa using this⟩
theorem rng2_tp {es : List Expr} {lo hi : Int} (h : XA X W Γ es (IsA [.int lo, .int hi])) (hb : -100 ≤ lo ∧ lo ≤ 100000 ∧ -100 ≤ hi ∧ hi ≤ 100000) (σ : L2.St) (H : Hp) (Q : It → Hp → Prop) (T : Tp X.K W Γ σ H) (k : ∀ H2, Er W.S H H2 → W.J H2 → Q (Itr lo (hi - lo).toNat) H2) :
    iRng2 (fun σ H Q => Tp X.K W Γ σ H ∧ RetA X.K W H (IsA [.int lo, .int hi]) Q) σ H Q := ⟨T, fun vs xs H2 ps rs e j => by
  have w := VRA.dwa (ds := [.int lo, .int hi]) (ps ▸ rs)
  cases w with
  | cons w1 w2 =>
    cases w1
    cases w2 with
    | cons w1 w2 =>
      cases w2
      cases w1
      exact ⟨lo, hi, rfl, by omega, k H2 e j⟩⟩
theorem xr_1 {tg a : Expr} {m : Nat} {p p2 : Pos} (hm : X.mg "range" = none) (ha : XE X W Γ a (Is (.int (m : Int)))) (hl : m < 90000) (hg : Gl X "range" := by rfl) (hs : starEach [a] X.env = [(false, eval a X.env)] := by rfl) : XR X W Γ tg (.Call (.Name "range" p) [a] [] p2) 0 m :=
  ⟨_, pi_range1 hg hm (xac (d := .int (m : Int)) ha xa0 hs) hs, fun σ H Q T k => rng1_tp (xac (d := .int (m : Int)) ha xa0 hs) hl σ H Q T k⟩
theorem xr_2 {tg a b : Expr} {lo hi : Int} {p p2 : Pos} (hm : X.mg "range" = none) (ha : XE X W Γ a (Is (.int lo))) (hb : XE X W Γ b (Is (.int hi))) (hl : -100 ≤ lo ∧ lo ≤ 100000 ∧ -100 ≤ hi ∧ hi ≤ 100000) (hg : Gl X "range" := by rfl)
    (hs : starEach [a, b] X.env = [(false, eval a X.env), (false, eval b X.env)] := by rfl) (hs2 : starEach [b] X.env = [(false, eval b X.env)] := by rfl) : XR X W Γ tg (.Call (.Name "range" p) [a, b] [] p2) lo (hi - lo).toNat :=
  ⟨_, pi_range2 hg hm (xac (d := .int lo) ha (xac (d := .int hi) hb xa0 hs2) (hs.trans (by rw [hs2]))) hs hs2, fun σ H Q T k => rng2_tp (xac (d := .int lo) ha (xac (d := .int hi) hb xa0 hs2) (hs.trans (by rw [hs2]))) hl σ H Q T k⟩
end
/-! ### statements -/
structure HS (X : Cx) (Pre : L2.St → Hp → Prop) (sts : List Stmt) (D : Ends) : Prop where
  run : ∀ (pins : List (Addr × Obj)) (s : Shared) (σ : L2.St) (H : Hp), Inv X pins σ H s → Pre σ H → wpAny (model X.prog X.w) X.A (execs sts X.env) (SP X pins D) X.xe s
section
variable {X : Cx} {Pre Pre' Mid : L2.St → Hp → Prop} {st : Stmt} {rest body : List Stmt} {D : Ends} {t : TS} {W : Wd} {Γ Γ' : Gm} {e c : Expr} {pos p : Pos} {P : Dv → Prop}
theorem HS.nil (h : ∀ σ H, Pre σ H → D.nx σ H) : HS X Pre [] D := ⟨fun pins s σ H I q => pss_nil.run pins s σ H D I (h σ H q)⟩
theorem HS.cons (h1 : PS X st t) (ht : ∀ σ H, Pre σ H → t { D with nx := Mid } σ H) (h2 : HS X Mid rest D) : HS X Pre (st :: rest) D := ⟨fun pins s σ H I q =>
  wpAny_execs_cons (thn (h1.run pins s σ H { D with nx := Mid } I (ht σ H q)) fun f s1 q => by
    cases f with
    | next =>
      obtain ⟨σ', H', I', q⟩ := q
      exact h2.run pins s1 σ' H' I' q
    | ret v => exact q
    | brk => exact q
    | cont => exact q)⟩
theorem HS.pre (h : HS X Pre rest D) (i : ∀ σ H, Pre' σ H → Pre σ H) : HS X Pre' rest D := ⟨fun pins s σ H I q => h.run pins s σ H I (i σ H q)⟩
theorem HS.ex {α : Sort _} {Pr : α → L2.St → Hp → Prop} (h : ∀ a, HS X (Pr a) rest D) : HS X (fun σ H => ∃ a, Pr a σ H) rest D := ⟨fun pins s σ H I ⟨a, q⟩ => (h a).run pins s σ H I q⟩
theorem HS.and {C : Prop} (h : C → HS X Pre rest D) : HS X (fun σ H => C ∧ Pre σ H) rest D := ⟨fun pins s σ H I ⟨a, q⟩ => (h a).run pins s σ H I q⟩
theorem HS.never : HS X (fun _ _ => False) rest D := ⟨fun _ _ _ _ _ q => q.elim⟩
theorem HS.pss (h : HS X Pre rest D) : PSs X rest (fun D' σ H => D' = D ∧ Pre σ H) := ⟨fun pins s σ H D' I ⟨e, q⟩ => by
  subst e
  exact h.run pins s σ H I q⟩
theorem HS.nx {N : L2.St → Hp → Prop} (h : HS X Pre rest { D with nx := N }) (i : ∀ σ H, N σ H → D.nx σ H) : HS X Pre rest D := ⟨fun pins s σ H I q => thn (h.run pins s σ H I q) fun f s1 q => by
  cases f with
  | next =>
    obtain ⟨σ', H', I', q⟩ := q
    exact ⟨σ', H', I', i _ _ q⟩
  | ret v => exact q
  | brk => exact q
  | cont => exact q⟩
/-- what a return gives -/
def Gives (X : Cx) (W : Wd) (P : Dv → Prop) (D : Ends) : Prop := ∀ (v : V) (x : Dv) (H : Hp), P x → VR X.K W.S H v x → W.J H → D.rt v H
theorem hs_ret (he : XE X W Γ e P) (g : Gives X W P D) : HS X (Tp X.K W Γ) (.Return (some e) pos :: rest) D :=
  HS.cons (Mid := fun _ _ => False) (ps_ret he) (fun σ H T => ⟨T, fun v x H2 px rx e2 j2 => g v x H2 px rx j2⟩) (HS.never (rest := rest))
theorem hs_ret' (he : XE X W Γ e P) (g : ∀ x, P x → Gives X W (fun y => y = x) D) : HS X (Tp X.K W Γ) (.Return (some e) pos :: rest) D :=
  hs_ret he fun v x H px rx j => g x px v x H rfl rx j
/-- an if that does not go on -/
theorem hs_when {b : Bool} (hc : XT X W Γ c b) (h1 : b = true → HS X (Tp X.K W Γ) body { D with nx := fun _ _ => False }) (h2 : b = false → HS X (Tp X.K W Γ) rest D) : HS X (Tp X.K W Γ) (.If c body [] pos :: rest) D := by
  refine .cons (Mid := fun σ H => b = false ∧ Tp X.K W Γ σ H) (ps_if (t := fun D' σ H => b = true ∧ D' = { D with nx := fun σ H => b = false ∧ Tp X.K W Γ σ H } ∧ Tp X.K W Γ σ H) hc ⟨fun pins s σ H D' I ⟨hb, e, q⟩ => ?_⟩ pss_nil) (fun σ H T => ⟨T, fun H2 e2 j2 => ?_⟩) (HS.and h2)
  · subst e
    exact HS.nx (D := { D with nx := fun σ H => b = false ∧ Tp X.K W Γ σ H }) (N := fun _ _ => False) (h1 hb) (fun _ _ z => z.elim) |>.run pins s σ H I q
  · cases b with
    | true =>
      rw [if_pos rfl]
      exact ⟨rfl, rfl, T.mono e2 j2⟩
    | false =>
      rw [if_neg Bool.false_ne_true]
      exact ⟨rfl, T.mono e2 j2⟩
/-- name = e -/
theorem hs_set {i : Nat} {x : Str} {pos' : Pos} (he : XE X W Γ e P) (h : ∀ y, P y → HS X (Tp X.K W (Γ.set i (some y))) rest D) (hN : X.N.Nodup) (hi : X.N[i]? = some x := by rfl) (hx : Loc X.env.scope x := by first | exact Or.inl rfl | exact Or.inr rfl) (hs : swapsWith e (some (.Name x pos')) pos.line X.env = pure false := by rfl)
    (hf : X.fn x = true ∨ X.env.scope.names.lookup x = some .local := by first | exact .inl rfl | exact .inr rfl | assumption) : HS X (Tp X.K W Γ) (.Assign [.Name x pos'] e pos :: rest) D :=
  .cons (Mid := fun σ H => ∃ y, P y ∧ Tp X.K W (Γ.set i (some y)) σ H) (ps_set hN hi hx he hs hf) (fun σ H T => ⟨T, fun v y H2 py ry e2 j2 => ⟨y, py, (T.mono e2 j2).set ry⟩⟩) (HS.ex fun y => HS.and fun py => h y py)
/-- e -/
theorem hs_expr (he : XE X W Γ e P) (h : HS X (Tp X.K W Γ) rest D) (hs : swapsWith e none pos.line X.env = pure false := by rfl) : HS X (Tp X.K W Γ) (.Expr e pos :: rest) D :=
  .cons (Mid := Tp X.K W Γ) (ps_expr he hs) (fun σ H T => ⟨T, fun v y H2 py ry e2 j2 => T.mono e2 j2⟩) h
/-- names = a tuple -/
def gNames : List Nat → TGs
  | [] => gNil
  | i :: is => gCons (gName i) (gNames is)
def setAll (Γ : Gm) : List Nat → List PyData → Gm
  | i :: is, d :: ds => setAll (Γ.set i (some (.d d))) is ds
  | _, _ => Γ
theorem gNames_tp {K : Frag} {Q : L2.St → Hp → Prop} : ∀ {is : List Nat} {ds : List PyData} {xs : List V} {Γ : Gm} {σ : L2.St} {H : Hp}, is.length = ds.length → DwA K W.S H xs ds → Tp K W Γ σ H → (∀ σ', Tp K W (setAll Γ is ds) σ' H → Q σ' H) → gNames is xs σ H Q
  | [], [], _, _, _, _, _, .nil, T, q => ⟨rfl, q _ T⟩
  | i :: is, d :: ds, _, _, _, _, hl, .cons w ws, T, q => ⟨_, _, rfl, gNames_tp (is := is) (ds := ds) (Nat.succ.inj hl) ws (T.set (x := .d d) w) q⟩
  | [], _ :: _, _, _, _, _, hl, _, _, _ => nomatch hl
  | _ :: _, [], _, _, _, _, hl, _, _, _ => nomatch hl
theorem hs_unpack {ts : List Expr} {is : List Nat} {ds : List PyData} {k : Nat} {pos' : Pos} (hc : X.calm = true) (he : XE X W Γ e (Is (.tuple ds))) (hg : PGs X ts (gNames is)) (hl : is.length = ds.length) (h : HS X (Tp X.K W (setAll Γ is ds)) rest D) (hn : (assignEach ts X.env).length = ds.length := by rfl) (hst : (assignEach ts X.env).findIdx? (·.1) = none := by rfl)
    (hs : swapsWithSole [.Tuple ts k pos'] e pos.line X.env = pure false := by rfl) (hw : swappedStores [.Tuple ts k pos'] e X.env = pure none := by rfl) : HS X (Tp X.K W Γ) (.Assign [.Tuple ts k pos'] e pos :: rest) D :=
  .cons (Mid := Tp X.K W (setAll Γ is ds)) (ps_asg he (pg_tup hc hg hn hst) hs hw) (fun σ H T => ⟨T, fun v y H2 py ry e2 j2 => by
    subst py
    cases ry with
    | tup p w => exact ⟨_, _, rfl, p.sq, w.length, gNames_tp hl w (T.mono e2 j2) fun σ' T' => T'⟩⟩) h
end
/-! ### contracts -/
theorem Wd.ext {S : ASet} {H0 H H1 : Hp} {p : Addr} {o : HO} (d : S p → H p ≠ none) (h : H p = none) (e0 : Er S H0 H) (e : Er S H0 H1) : Er S H0 (upd H1 p o) := fun a u n ha => by
  have n0 : a ≠ p := fun z => by
    subst z
    rw [e0 a u n ha] at h
    cases h
  rw [upd_ne n0]
  exact e a u n ha
/-- W from H0 on -/
def Wd.from (W : Wd) (H0 : Hp) : Wd where
  S := W.S
  J := fun H => W.J H ∧ Er W.S H0 H
  more := fun ⟨j, e⟩ x => ⟨W.more j x, e.trans x.er⟩
  turn := fun ⟨j, e⟩ h e1 ⟨j1, e2⟩ hu mu => ⟨W.turn j h e1 j1 hu mu, Wd.ext (fun s => W.dom j s) h e e2⟩
  dom := fun ⟨j, _⟩ s => W.dom j s
  nk := fun ⟨j, _⟩ s e => W.nk j s e
/-- a function of data -/
def spF (K : Frag) (n : Nat) (pre : List PyData → Prop) (f : List PyData → PyData) : Sp := fun vs H Q _ => ∃ (W : Wd) (ds : List PyData), W.J H ∧ DwA K W.S H vs ds ∧ ds.length = n ∧ pre ds ∧ Ret K W H (Is (f ds)) Q
abbrev gOf (N : List Str) (ds : List PyData) : Gm := ds.map (fun d => some (Dv.d d)) ++ List.replicate (N.length - ds.length) none
theorem tp_start {K : Frag} {W : Wd} {H : Hp} {N : List Str} {vs : List V} {ds : List PyData} (j : W.J H) (w : DwA K W.S H vs ds) : Tp K W (gOf N ds) (L2.start N vs) H := by
  refine ⟨j, ?_, fun i x h => ?_⟩
  · unfold L2.start gOf
    rw [List.length_append, List.length_append, List.length_map, List.length_map, List.length_replicate, List.length_replicate, w.length]
  · unfold gOf at h
    unfold L2.start
    rw [List.getElem?_append] at h
    rw [List.getElem?_append, List.length_map]
    rw [List.length_map] at h
    by_cases l : i < ds.length
    · rw [if_pos l] at h
      rw [if_pos (by rw [w.length]; exact l)]
      rw [List.getElem?_map] at h
      rw [List.getElem?_map]
      cases q : ds[i]? with
      | none =>
        rw [q] at h
        cases h
      | some d =>
        rw [q] at h
        cases h
        obtain ⟨v, h1, h2⟩ := w.get q
        rw [h1]
        exact ⟨v, rfl, h2⟩
    · rw [if_neg l, List.getElem?_replicate] at h
      split at h
      · cases h
      · cases h
section
variable {P : Program} {w : World} {K : Frag} {mg : Str → Option Value} {base : Heap} {x qual : Str} {st : Stmt} {f : Addr} {fd : FuncData} {N ps : List Str} {k n : Nat} {pre : List PyData → Prop} {g : List PyData → PyData}
abbrev cxP (P : Program) (w : World) (K : Frag) (mg : Str → Option Value) (base : Heap) (N : List Str) (qual : Str) (st : Stmt) (f : Addr) (cdv : Value) (A : Around) (outer : List Env) (s : Shared) (H : Hp) (E : XK) : Cx :=
  (cxOf CX0 P w K mg base N qual (defScope st) f cdv A outer s H E).nox
theorem ok_pure (F : Fun K x qual st f fd) (S : FnScope N ps (defScope st)) (hn : ps.length = n)
    (hbody : ∀ (cdv : Value) (A : Around) (outer : List Env) (s : Shared) (H : Hp) (E : XK) (W : Wd) (ds : List PyData) (D : Ends), Room k (A.deeper (envOfC qual (defScope st) s.heap.objs.size f cdv)) → ds.length = n → pre ds →
      Gives (cxP P w K mg base N qual st f cdv A outer s H E) W (Is (g ds)) D → HS (cxP P w K mg base N qual st f cdv A outer s H E) (Tp K W (gOf N ds)) (defBody st) D) :
    FnOk P w K mg base CX0 (k + 1) f fd ps (spF K n pre g) := by
  refine F.ok S (fun vs H Q E h => ?_) (fun cdv A outer s H vs Q E hr h => ?_)
  · obtain ⟨W, ds, _, w, l, _, _⟩ := h
    rw [w.length, l, hn]
  · obtain ⟨W, ds, j, w', l, hp, R⟩ := h
    have hb := hbody cdv A outer s H E (W.from H) ds { nx := fun _ H' => Q .non H', rt := Q } hr l hp (fun v y H2 py ry jy => R v y H2 py ry jy.2 jy.1)
    exact ⟨_, hb.pss, rfl, tp_start (W := W.from H) ⟨j, Er.refl H⟩ w'⟩
end
section
variable {X : Cx} {W : Wd} {Γ : Gm} {e : Expr} {es : List Expr} {k n : Nat} {f : Addr} {fd : FuncData} {ps : List Str} {x : Str} {p pos : Pos} {pre : List PyData → Prop} {g : List PyData → PyData} {ds : List PyData}
/-- f(e, ..) -/
theorem xe_call {d' : PyData} (F : FnOk X.prog X.w X.K X.mg X.base CX0 k f fd ps (spF X.K n pre g)) (hr : Room k X.A) (hm : X.mg x = some (.ref f)) (hk : PySem.W.keepIn X.K (.ref f) = true) (hb : Binds X.K fd ps []) (ha : XA X W Γ (e :: es) (IsA ds)) (hl : ds.length = n) (hp : pre ds) (hd : g ds = d' := by rfl) (hg : Gl X x := by rfl) (hdb : (x == ("__debug__" : Str)) = false := by decide)
    (he : starEach (e :: es) X.env = (false, eval e X.env) :: starEach es X.env := by rfl) (hpl : (backTo pos (starEach es X.env)).any (·.1) = false := by rfl) : XE X W Γ (.Call (.Name x p) (e :: es) [] pos) (Is d') := by
  subst hd
  exact pe_imp (pe_call F hr hg hm hk hb .nil pass0 ha hdb he hpl) fun σ H Q ⟨T, R⟩ => ⟨T, fun vs xs H2 ps' rs e2 j2 => by
    show spF X.K n pre g (vs ++ []) H2 Q E0
    rw [List.append_nil]
    exact ⟨W, ds, j2, VRA.dwa (ps' ▸ rs), hl, hp, R.later e2⟩⟩
end
end SB

namespace SB
open PySem PySem.Spec PyProof.Rows L2
/-! ### the text -/
def topS (i : Nat) : Stmt := PySem.Challenge.pw_stagebelt_k09_whole_designs.main.body.getD i (.Pass ⟨0, 0, 0, 0⟩)
abbrev sIsInteger : Stmt := topS 1
abbrev sIsIn : Stmt := topS 2
abbrev sIsList : Stmt := topS 3
abbrev sIsPlace : Stmt := topS 16
abbrev sArePlaces : Stmt := topS 17
abbrev sIsPath : Stmt := topS 18
abbrev sRises : Stmt := topS 19
abbrev sArePaths : Stmt := topS 20
abbrev sIsEntry : Stmt := topS 21
abbrev sAreWaits : Stmt := topS 22
abbrev sIsDesign : Stmt := topS 23
/-- the built-ins that the text names -/
structure Blt (mg : Str → Option Value) : Prop where
  isi : mg "isinstance" = none
  int : mg "int" = none
  bool : mg "bool" = none
  str : mg "str" = none
  tuple : mg "tuple" = none
  list : mg "list" = none
  len : mg "len" = none
  range : mg "range" = none
  all : mg "all" = none
  min : mg "min" = none
  max : mg "max" = none
  sorted : mg "sorted" = none
  dict : mg "dict" = none
  set : mg "set" = none
/-- a def of the top -/
structure Fn (K : Frag) (mg : Str → Option Value) (x : Str) (st : Stmt) (ps : List Str) (f : Addr) (fd : FuncData) : Prop where
  F : Fun K x x st f fd
  g : mg x = some (.ref f)
  b : L2.Binds K fd ps []
/-! ### mirrors -/
def isiInt : PyData → Bool
  | .int _ => true
  | .bool _ => true
  | _ => false
def isiBool : PyData → Bool
  | .bool _ => true
  | _ => false
def isiStr : PyData → Bool
  | .str _ => true
  | _ => false
def isiTup : PyData → Bool
  | .tuple _ => true
  | _ => false
theorem kit_int : ∀ d : PyData, kitB (tyD d) "int" = some (isiInt d)
  | .none => (by decide +kernel : kitB "NoneType" "int" = some false)
  | .bool _ => (by decide +kernel : kitB "bool" "int" = some true)
  | .int _ => (by decide +kernel : kitB "int" "int" = some true)
  | .str _ => (by decide +kernel : kitB "str" "int" = some false)
  | .list _ => (by decide +kernel : kitB "list" "int" = some false)
  | .tuple _ => (by decide +kernel : kitB "tuple" "int" = some false)
  | .dict _ => (by decide +kernel : kitB "dict" "int" = some false)
theorem kit_bool : ∀ d : PyData, kitB (tyD d) "bool" = some (isiBool d)
  | .none => (by decide +kernel : kitB "NoneType" "bool" = some false)
  | .bool _ => (by decide +kernel : kitB "bool" "bool" = some true)
  | .int _ => (by decide +kernel : kitB "int" "bool" = some false)
  | .str _ => (by decide +kernel : kitB "str" "bool" = some false)
  | .list _ => (by decide +kernel : kitB "list" "bool" = some false)
  | .tuple _ => (by decide +kernel : kitB "tuple" "bool" = some false)
  | .dict _ => (by decide +kernel : kitB "dict" "bool" = some false)
theorem kit_str : ∀ d : PyData, kitB (tyD d) "str" = some (isiStr d)
  | .none => (by decide +kernel : kitB "NoneType" "str" = some false)
  | .bool _ => (by decide +kernel : kitB "bool" "str" = some false)
  | .int _ => (by decide +kernel : kitB "int" "str" = some false)
  | .str _ => (by decide +kernel : kitB "str" "str" = some true)
  | .list _ => (by decide +kernel : kitB "list" "str" = some false)
  | .tuple _ => (by decide +kernel : kitB "tuple" "str" = some false)
  | .dict _ => (by decide +kernel : kitB "dict" "str" = some false)
theorem kit_tup : ∀ d : PyData, kitB (tyD d) "tuple" = some (isiTup d)
  | .none => (by decide +kernel : kitB "NoneType" "tuple" = some false)
  | .bool _ => (by decide +kernel : kitB "bool" "tuple" = some false)
  | .int _ => (by decide +kernel : kitB "int" "tuple" = some false)
  | .str _ => (by decide +kernel : kitB "str" "tuple" = some false)
  | .list _ => (by decide +kernel : kitB "list" "tuple" = some false)
  | .tuple _ => (by decide +kernel : kitB "tuple" "tuple" = some true)
  | .dict _ => (by decide +kernel : kitB "dict" "tuple" = some false)
def isIntD (d : PyData) : Bool := isiInt d && !isiBool d
def betw (d : PyData) (lo hi : Int) : Bool := match d with
  | .int i => decide (lo ≤ i) && decide (i ≤ hi)
  | _ => false
def isInD (d : PyData) (lo hi : Int) : Bool := isIntD d && betw d lo hi
def lenD : PyData → Int
  | .tuple ds => ds.length
  | _ => 0
def isListD (d : PyData) (lo hi : Int) : Bool := isiTup d && (decide (lo ≤ lenD d) && decide (lenD d ≤ hi))
def isPlaceD (d : PyData) : Bool := isInD d 0 7
theorem isIntD_int {d : PyData} (h : isIntD d = true) : ∃ i, d = .int i := by
  cases d with
  | int i => exact ⟨i, rfl⟩
  | bool b => exact nomatch h
  | none => exact nomatch h
  | str s => exact nomatch h
  | list s => exact nomatch h
  | tuple s => exact nomatch h
  | dict s => exact nomatch h
theorem isiTup_tup {d : PyData} (h : isiTup d = true) : ∃ ds, d = .tuple ds := by
  cases d with
  | tuple s => exact ⟨s, rfl⟩
  | int i => exact nomatch h
  | bool b => exact nomatch h
  | none => exact nomatch h
  | str s => exact nomatch h
  | list s => exact nomatch h
  | dict s => exact nomatch h
/-! ### defs -/
section
variable {P : Program} {w : World} {K : Frag} {mg : Str → Option Value} {base : Heap} {f f1 f2 f3 f4 : Addr} {fd fd1 fd2 fd3 fd4 : FuncData}
theorem sc_isInteger : FnScope ["value"] ["value"] (defScope sIsInteger) := ⟨rfl, rfl, rfl, by decide +kernel, rfl, by decide +kernel, by decide +kernel⟩
abbrev spIsInteger (K : Frag) : Sp := spF K 1 (fun _ => True) fun ds => .bool (isIntD (ds.getD 0 .none))
theorem ok_isInteger (B : Blt mg) (F : Fn K mg "is_integer" sIsInteger ["value"] f fd) : FnOk P w K mg base CX0 1 f fd ["value"] (spIsInteger K) := by
  refine ok_pure F.F sc_isInteger rfl fun cdv A outer s H E W ds D hr hl hp g => ?_
  match ds, hl with
  | [d], _ =>
    exact hs_ret (xe_and (xe_isi (kit_int d) B.isi B.int (by decide +kernel) (xv 0)) fun _ => xe_one (xe_not (xe_isi (kit_bool d) B.isi B.bool (by decide +kernel) (xv 0)))) g
theorem sc_isIn : FnScope ["value", "least", "most"] ["value", "least", "most"] (defScope sIsIn) := ⟨rfl, rfl, rfl, by decide +kernel, rfl, by decide +kernel, by decide +kernel⟩
def intOf : PyData → Int
  | .int i => i
  | _ => 0
abbrev spIsIn (K : Frag) : Sp := spF K 3 (fun ds => ∃ lo hi, ds.getD 1 .none = .int lo ∧ ds.getD 2 .none = .int hi) fun ds => .bool (isInD (ds.getD 0 .none) (intOf (ds.getD 1 .none)) (intOf (ds.getD 2 .none)))
theorem ok_isIn (F1 : Fn K mg "is_integer" sIsInteger ["value"] f1 fd1) (G1 : FnOk P w K mg base CX0 1 f1 fd1 ["value"] (spIsInteger K)) (F : Fn K mg "is_in" sIsIn ["value", "least", "most"] f fd) : FnOk P w K mg base CX0 2 f fd ["value", "least", "most"] (spIsIn K) := by
  refine ok_pure F.F sc_isIn rfl fun cdv A outer s H E W ds D hr hl hp g => ?_
  match ds, hl with
  | [d, l, m], _ =>
    obtain ⟨lo, hi, e1, e2⟩ := hp
    have e1 : l = .int lo := e1
    have e2 : m = .int hi := e2
    subst e1 e2
    refine hs_ret (xe_and (y := betw d lo hi) ?_ fun hx => ?_) g
    · exact xe_call G1 hr F1.g F1.F.kp F1.b (xac (xv 0) xa0) rfl trivial
    obtain ⟨i, rfl⟩ := isIntD_int hx
    exact xe_one (xe_chain op_le op_le (xv 1) (xv 0) (xv 2))
theorem sc_isList : FnScope ["value", "least", "most"] ["value", "least", "most"] (defScope sIsList) := ⟨rfl, rfl, rfl, by decide +kernel, rfl, by decide +kernel, by decide +kernel⟩
abbrev spIsList (K : Frag) : Sp := spF K 3 (fun ds => ∃ lo hi, ds.getD 1 .none = .int lo ∧ ds.getD 2 .none = .int hi) fun ds => .bool (isListD (ds.getD 0 .none) (intOf (ds.getD 1 .none)) (intOf (ds.getD 2 .none)))
theorem ok_isList (B : Blt mg) (F : Fn K mg "is_list" sIsList ["value", "least", "most"] f fd) : FnOk P w K mg base CX0 1 f fd ["value", "least", "most"] (spIsList K) := by
  refine ok_pure F.F sc_isList rfl fun cdv A outer s H E W ds D hr hl hp g => ?_
  match ds, hl with
  | [d, l, m], _ =>
    obtain ⟨lo, hi, e1, e2⟩ := hp
    have e1 : l = .int lo := e1
    have e2 : m = .int hi := e2
    subst e1 e2
    refine hs_ret (xe_and (y := decide (lo ≤ lenD d) && decide (lenD d ≤ hi)) ?_ fun hx => ?_) g
    · exact xe_isi (kit_tup d) B.isi B.tuple (by decide +kernel) (xv 0)
    obtain ⟨ds, rfl⟩ := isiTup_tup hx
    exact xe_one (xe_chain op_le op_le (xv 1) (xe_len (.inl rfl) B.len (xv 0)) (xv 2))
theorem sc_isPlace : FnScope ["value"] ["value"] (defScope sIsPlace) := ⟨rfl, rfl, rfl, by decide +kernel, rfl, by decide +kernel, by decide +kernel⟩
abbrev spIsPlace (K : Frag) : Sp := spF K 1 (fun _ => True) fun ds => .bool (isPlaceD (ds.getD 0 .none))
theorem ok_isPlace (t7 : ∃ t, mg "MOST_PLACE" = some (.int 7 t)) (F1 : Fn K mg "is_in" sIsIn ["value", "least", "most"] f1 fd1) (G1 : FnOk P w K mg base CX0 2 f1 fd1 ["value", "least", "most"] (spIsIn K)) (F : Fn K mg "is_place" sIsPlace ["value"] f fd) : FnOk P w K mg base CX0 3 f fd ["value"] (spIsPlace K) := by
  refine ok_pure F.F sc_isPlace rfl fun cdv A outer s H E W ds D hr hl hp g => ?_
  obtain ⟨t, t7⟩ := t7
  match ds, hl with
  | [d], _ =>
    exact hs_ret (xe_call G1 hr F1.g F1.F.kp F1.b (xac (xv 0) (xac xe_int (xac (xe_glob (v := .int 7) t7 ⟨t, rfl⟩ fun _ _ => .int 7) xa0))) rfl ⟨0, 7, rfl, rfl⟩) g
theorem sc_isPath : FnScope ["value"] ["value"] (defScope sIsPath) := ⟨rfl, rfl, rfl, by decide +kernel, rfl, by decide +kernel, by decide +kernel⟩
def pathB (d : PyData) : Bool := match d with
  | .tuple [a, b] => isPlaceD a && (isPlaceD b && decide (intOf b < intOf a))
  | _ => false
def isPathD (d : PyData) : Bool := isListD d 2 2 && pathB d
theorem isPlaceD_int {d : PyData} (h : isPlaceD d = true) : ∃ i, d = .int i ∧ 0 ≤ i ∧ i ≤ 7 := by
  have h0 : (isIntD d && _) = true := h
  rw [Bool.and_eq_true] at h0
  obtain ⟨i, rfl⟩ := isIntD_int h0.1
  have h1 : (decide (0 ≤ i) && decide (i ≤ 7)) = true := h0.2
  rw [Bool.and_eq_true, decide_eq_true_eq, decide_eq_true_eq] at h1
  exact ⟨i, rfl, h1⟩
theorem isListD_len {d : PyData} {n : Nat} (h : isListD d n n = true) : ∃ ds, d = .tuple ds ∧ ds.length = n := by
  have h0 : (isiTup d && _) = true := h
  rw [Bool.and_eq_true] at h0
  obtain ⟨ds, rfl⟩ := isiTup_tup h0.1
  refine ⟨ds, rfl, ?_⟩
  have h1 := h0.2
  rw [Bool.and_eq_true, decide_eq_true_eq, decide_eq_true_eq] at h1
  have h2 : (n : Int) ≤ (ds.length : Int) ∧ (ds.length : Int) ≤ n := h1
  omega
abbrev spIsPath (K : Frag) : Sp := spF K 1 (fun _ => True) fun ds => .bool (isPathD (ds.getD 0 .none))
theorem ok_isPath (F1 : Fn K mg "is_list" sIsList ["value", "least", "most"] f1 fd1) (G1 : FnOk P w K mg base CX0 1 f1 fd1 ["value", "least", "most"] (spIsList K)) (F2 : Fn K mg "is_place" sIsPlace ["value"] f2 fd2) (G2 : FnOk P w K mg base CX0 3 f2 fd2 ["value"] (spIsPlace K))
    (F : Fn K mg "is_path" sIsPath ["value"] f fd) : FnOk P w K mg base CX0 4 f fd ["value"] (spIsPath K) := by
  refine ok_pure F.F sc_isPath rfl fun cdv A outer s H E W ds D hr hl hp g => ?_
  match ds, hl with
  | [d], _ =>
    refine hs_ret (xe_and (y := pathB d) ?_ fun hx => ?_) g
    · exact xe_call G1 (hr.mono (by decide)) F1.g F1.F.kp F1.b (xac (xv 0) (xac xe_int (xac xe_int xa0))) rfl ⟨2, 2, rfl, rfl⟩
    obtain ⟨es, rfl, he⟩ := isListD_len (n := 2) hx
    match es, he with
    | [a, b], _ =>
      refine xe_and (y := isPlaceD b && decide (intOf b < intOf a)) ?_ fun ha => ?_
      · exact xe_call G2 hr F2.g F2.F.kp F2.b (xac (xe_ix ix_tup (rr_ixT (ix_nat (k := 0) rfl)) (xv 0) xe_int) xa0) rfl trivial
      obtain ⟨i, rfl, _⟩ := isPlaceD_int ha
      refine xe_and (y := decide (intOf b < i)) ?_ fun hb => ?_
      · exact xe_call G2 hr F2.g F2.F.kp F2.b (xac (xe_ix ix_tup (rr_ixT (ix_nat (k := 1) rfl)) (xv 0) xe_int) xa0) rfl trivial
      obtain ⟨j, rfl, _⟩ := isPlaceD_int hb
      exact xe_one (xe_cmp op_lt rr_B0 (xe_ix ix_tup (rr_ixT (ix_nat (k := 1) rfl)) (xv 0) xe_int) (xe_ix ix_tup (rr_ixT (ix_nat (k := 0) rfl)) (xv 0) xe_int))
end
end SB

/-! Tuples of ints and texts: their order, < and sorted. -/
namespace SB
open PySem PySem.Spec PyProof.Rows L2
def ltK : Key → Key → Bool
  | .inl a, .inl b => decide (a < b)
  | .inr a, .inr b => decide (a.cps.toList < b.cps.toList)
  | .inl _, .inr _ => true
  | .inr _, .inl _ => false
def likeK : Key → Key → Bool
  | .inl _, .inl _ => true
  | .inr _, .inr _ => true
  | _, _ => false
def lexK : List Key → List Key → Bool
  | [], [] => false
  | [], _ :: _ => true
  | _ :: _, [] => false
  | x :: xs, y :: ys => if x = y then lexK xs ys else ltK x y
/-- where they first differ they are of one kind -/
def compK : List Key → List Key → Bool
  | x :: xs, y :: ys => if x = y then compK xs ys else likeK x y
  | _, _ => true
theorem lexK_eq {x y : Key} {xs ys : List Key} (e : x = y) : lexK (x :: xs) (y :: ys) = lexK xs ys := if_pos e
theorem lexK_ne {x y : Key} {xs ys : List Key} (e : ¬ x = y) : lexK (x :: xs) (y :: ys) = ltK x y := if_neg e
theorem compK_eq {x y : Key} {xs ys : List Key} (e : x = y) : compK (x :: xs) (y :: ys) = compK xs ys := if_pos e
theorem compK_ne {x y : Key} {xs ys : List Key} (e : ¬ x = y) : compK (x :: xs) (y :: ys) = likeK x y := if_neg e
theorem str_ext {a b : Str} (h : a.cps.toList = b.cps.toList) : a = b := by
  obtain ⟨a⟩ := a
  obtain ⟨b⟩ := b
  have h' : a.toList = b.toList := h
  rw [Array.toList_inj.mp h']
theorem nats_tri (a b : List Nat) : a < b ∨ a = b ∨ b < a := by
  by_cases h : a < b
  · exact .inl h
  · by_cases h' : b < a
    · exact .inr (.inr h')
    · exact .inr (.inl (List.le_antisymm (List.not_lt.mp h') (List.not_lt.mp h)))
theorem ltK_irr (x : Key) : ltK x x = false := by
  cases x with
  | inl a => exact decide_eq_false (Int.lt_irrefl a)
  | inr a => exact decide_eq_false (List.lt_irrefl _)
theorem ltK_asym {x y : Key} (h : ltK x y = true) : ltK y x = false := by
  cases x with
  | inl a =>
    cases y with
    | inl b =>
      have h' : a < b := of_decide_eq_true h
      exact decide_eq_false (by omega)
    | inr b => rfl
  | inr a =>
    cases y with
    | inl b => cases h
    | inr b => exact decide_eq_false (fun q => List.lt_irrefl _ (List.lt_trans q (of_decide_eq_true h)))
theorem ltK_trans {x y z : Key} (h : ltK x y = true) (h' : ltK y z = true) : ltK x z = true := by
  cases x with
  | inl a =>
    cases y with
    | inl b =>
      cases z with
      | inl c =>
        have q : a < b := of_decide_eq_true h
        have q' : b < c := of_decide_eq_true h'
        exact decide_eq_true (by omega)
      | inr c => rfl
    | inr b =>
      cases z with
      | inl c => cases h'
      | inr c => rfl
  | inr a =>
    cases y with
    | inl b => cases h
    | inr b =>
      cases z with
      | inl c => cases h'
      | inr c => exact decide_eq_true (List.lt_trans (of_decide_eq_true h) (of_decide_eq_true h'))
theorem ltK_tri (x y : Key) : ltK x y = true ∨ x = y ∨ ltK y x = true := by
  cases x with
  | inl a =>
    cases y with
    | inl b =>
      rcases Int.lt_trichotomy a b with h | h | h
      · exact .inl (decide_eq_true h)
      · exact .inr (.inl (by rw [h]))
      · exact .inr (.inr (decide_eq_true h))
    | inr b => exact .inl rfl
  | inr a =>
    cases y with
    | inl b => exact .inr (.inr rfl)
    | inr b =>
      rcases nats_tri a.cps.toList b.cps.toList with h | h | h
      · exact .inl (decide_eq_true h)
      · exact .inr (.inl (by rw [str_ext h]))
      · exact .inr (.inr (decide_eq_true h))
theorem lexK_tri : ∀ xs ys : List Key, lexK xs ys = true ∨ xs = ys ∨ lexK ys xs = true
  | [], [] => .inr (.inl rfl)
  | [], _ :: _ => .inl rfl
  | _ :: _, [] => .inr (.inr rfl)
  | x :: xs, y :: ys => by
    by_cases e : x = y
    · subst e
      rw [lexK_eq rfl, lexK_eq rfl]
      rcases lexK_tri xs ys with h | h | h
      · exact .inl h
      · exact .inr (.inl (by rw [h]))
      · exact .inr (.inr h)
    · rw [lexK_ne e, lexK_ne (Ne.symm e)]
      rcases ltK_tri x y with h | h | h
      · exact .inl h
      · exact absurd h e
      · exact .inr (.inr h)
theorem lexK_irr : ∀ xs : List Key, lexK xs xs = false
  | [] => rfl
  | x :: xs => by rw [lexK_eq rfl]; exact lexK_irr xs
theorem lexK_trans : ∀ {xs ys zs : List Key}, lexK xs ys = true → lexK ys zs = true → lexK xs zs = true
  | [], [], _, h, _ => nomatch h
  | [], _ :: _, [], _, h => nomatch h
  | [], _ :: _, _ :: _, _, _ => rfl
  | _ :: _, [], _, h, _ => nomatch h
  | _ :: _, _ :: _, [], _, h => nomatch h
  | x :: xs, y :: ys, z :: zs, h, h' => by
    by_cases e : x = y
    · subst e
      rw [lexK_eq rfl] at h
      by_cases e' : x = z
      · subst e'
        rw [lexK_eq rfl] at h' ⊢
        exact lexK_trans h h'
      · rw [lexK_ne e'] at h' ⊢
        exact h'
    · rw [lexK_ne e] at h
      by_cases e' : y = z
      · subst e'
        rw [lexK_ne e]
        exact h
      · rw [lexK_ne e'] at h'
        have q := ltK_trans h h'
        have e2 : ¬ x = z := fun q' => by
          subst q'
          rw [ltK_irr] at q
          cases q
        rw [lexK_ne e2]
        exact q
theorem lexK_asym {xs ys : List Key} (h : lexK xs ys = true) : lexK ys xs = false := by
  cases q : lexK ys xs with
  | false => rfl
  | true =>
    have := lexK_trans h q
    rw [lexK_irr] at this
    cases this
theorem swo_lexK {α : Type} (k : α → List Key) : SrtO.Swo fun x y => lexK (k x) (k y) := by
  refine ⟨fun x y h => lexK_asym h, fun x y z h1 h2 => ?_⟩
  cases q : lexK (k z) (k x) with
  | false => rfl
  | true =>
    exfalso
    rcases lexK_tri (k x) (k y) with h | h | h
    · rw [lexK_trans q h] at h2
      cases h2
    · rw [h] at q
      rw [q] at h2
      cases h2
    · rw [h] at h1
      cases h1
theorem strict_of {α : Type} {k : α → List Key} : ∀ {l : List α}, SrtO.Srtd (fun x y => lexK (k x) (k y)) l → (l.map k).Nodup → l.Pairwise fun x y => lexK (k x) (k y) = true
  | [], _, _ => .nil
  | x :: l, h, n => by
    rw [List.map_cons, List.nodup_cons] at n
    have h' := List.pairwise_cons.mp h
    refine List.pairwise_cons.mpr ⟨fun y hy => ?_, strict_of h'.2 n.2⟩
    rcases lexK_tri (k x) (k y) with q | q | q
    · exact q
    · exact absurd (List.mem_map.mpr ⟨y, hy, q.symm⟩) n.1
    · have q2 : lexK (k y) (k x) = false := h'.1 y hy
      rw [q] at q2
      cases q2
/-! ### data of keys -/
def keyD : Key → PyData
  | .inl i => .int i
  | .inr x => .str x
theorem dwa_keys {K : Frag} {S : ASet} {H : Hp} : ∀ {ks : List Key} {vs : List V}, DwA K S H vs (ks.map keyD) → vs = ks.map kV
  | [], _, h => by cases h; rfl
  | .inl i :: ks, _, h => by
    cases h with
    | cons h1 h2 =>
      cases h1
      rw [dwa_keys h2]
      rfl
  | .inr i :: ks, _, h => by
    cases h with
    | cons h1 h2 =>
      cases h1
      rw [dwa_keys h2]
      rfl
theorem keys_dwa {K : Frag} {S : ASet} {H : Hp} : ∀ ks : List Key, DwA K S H (ks.map kV) (ks.map keyD)
  | [] => .nil
  | .inl i :: ks => .cons (.int i) (keys_dwa ks)
  | .inr i :: ks => .cons (.str i) (keys_dwa ks)
theorem dw_keys {K : Frag} {S : ASet} {H : Hp} {v : V} {ks : List Key} (h : Dw K S H v (.tuple (ks.map keyD))) : ∃ a, v = .ref a ∧ TuW K S H a (ks.map kV) := by
  cases h with
  | tup p w =>
    rw [dwa_keys w] at p
    exact ⟨_, rfl, p⟩
theorem is_of_rel {k : Key} {u : Value} (r : RelV (kV k) u) : keyIs k u = true := by
  cases k with
  | inl i =>
    obtain ⟨t, rfl⟩ := r
    exact keyIs_int i t
  | inr x =>
    obtain ⟨t, rfl⟩ := r
    exact keyIs_str x t
/-! ### < of two such tuples -/
section
open PySem.SeqAt
open PySem.AutoSeq1 (wpAny_loadPart')
open PySem.MeetsSeq PySem.MeetsSeq2 PySem.MeetsSeq3
theorem like_lt {P : Program} {w : World} {A : Around} {E : Value → Shared → Prop} {s : Shared} {k m : Key} {u v : Value} {Q : Value → Shared → Prop} (hk : RelV (kV k) u) (hm : RelV (kV m) v) (hl : likeK k m = true) (h : Q (.bool (ltK k m)) s) :
    wpAny (model P w) A (richCompare .Lt u v) Q E s := by
  cases k with
  | inl a =>
    cases m with
    | inl b =>
      obtain ⟨t, rfl⟩ := hk
      obtain ⟨t', rfl⟩ := hm
      exact HT.rcLt_int A s a t b t' P w E Q h
    | inr b => cases hl
  | inr a =>
    cases m with
    | inl b => cases hl
    | inr b =>
      obtain ⟨t, rfl⟩ := hk
      obtain ⟨t', rfl⟩ := hm
      exact (PyProof.Rows.lt_str h : wpAny (model P w) A (compareOp .Lt (.str a t) (.str b t')) Q E s)
theorem keys_lt (l b : Addr) (us0 ws0 : Array Value) (n n2 : Nat) (dd dd2 : Option Addr) (sl sl2 : Array (Option Value)) (ks ms : List Key) (hi : Vals (ks.map kV) us0.toList) (hj : Vals (ms.map kV) ws0.toList) (hc : compK ks ms = true) :
    Meets (Builtin.«tuple.__lt__» ⟨[.ref l, .ref b], []⟩)
      (fun _ R s => s.heap.get? l = some { cls := .type "tuple", dict := dd, data := .seq us0 n, slots := sl } ∧ s.heap.get? b = some { cls := .type "tuple", dict := dd2, data := .seq ws0 n2, slots := sl2 } ∧ R (.ok (.ret (.bool (lexK ks ms)))) s) :=
  .of_wp fun prog w A R s h => by
    obtain ⟨hp, g, d, tk, os⟩ := s
    obtain ⟨hl, hb, h⟩ := h
    have f2 := AutoSeq1.sub_tuple_tuple
    have z1 : us0.size = ks.length := by
      have := hi.length
      rw [List.length_map] at this
      rw [this]
      simp
    have z2 : ws0.size = ms.length := by
      have := hj.length
      rw [List.length_map] at this
      rw [this]
      simp
    wp_walk using wpAny_loadPart' hl, wpAny_loadPart' hb, wpAny_forIn_list _ (fun rest b s' => b.1 = none ∧ s' = ⟨hp, g, d, tk, os⟩ ∧ ∃ (vs ws : List Value) (ks' ms' : List Key), rest = vs.zip ws ∧
      Vals (ks'.map kV) vs ∧ Vals (ms'.map kV) ws ∧ compK ks' ms' = true ∧ ks'.length + ws0.size = ms'.length + us0.size ∧ R (.ok (.ret (.bool (lexK ks' ms')))) ⟨hp, g, d, tk, os⟩) _
    case turn =>
      rintro ⟨y, x⟩ rest b s' ⟨hb', rfl, vs, ws, ks', ms', hz, hv, hw, hc', hlen, hR⟩
      cases ks' with
      | nil =>
        cases hv
        rw [List.zip_nil_left] at hz
        cases hz
      | cons k ks' =>
        cases ms' with
        | nil =>
          cases hw
          rw [List.zip_nil_right] at hz
          cases hz
        | cons m ms' =>
          cases hv with
          | cons rk hv =>
            cases hw with
            | cons rm hw =>
              rw [List.zip_cons_cons] at hz
              injection hz with hyx hrest
              injection hyx with hy hx
              subst hy hx
              simp only [List.length_cons] at hlen
              refine wpAny_bind ((mixKind prog w).eqBool (is_of_rel rk) (is_of_rel rm) ?_)
              by_cases e : k = m
              · rw [lexK_eq e] at hR
                rw [compK_eq e] at hc'
                rw [decide_eq_true e]
                wp_walk
                exact ⟨rfl, rfl, _, _, _, _, hrest, hv, hw, hc', by omega, hR⟩
              · rw [lexK_ne e] at hR
                rw [compK_ne e] at hc'
                rw [decide_eq_false e]
                have hri := fun (Q : Value → Shared → Prop) (E : Value → Shared → Prop) (h : Q (.bool (ltK k m)) ⟨hp, g, d, tk, os⟩) => like_lt (P := prog) (w := w) (A := A.in1) (E := E) rk rm hc' h
                wp_walk using hri
                exact ⟨_, rfl, by simpa using hR⟩
    case fin =>
      rintro ⟨b1, b2⟩ s' ⟨hb', rfl, vs, ws, ks', ms', hz, hv, hw, _, hlen, hR⟩
      simp only at hb'
      subst hb'
      have hlast : lexK ks' ms' = decide (us0.size < ws0.size) := by
        cases ks' with
        | nil =>
          cases ms' with
          | nil =>
            simp only [List.length_nil] at hlen
            exact (decide_eq_false (by omega)).symm
          | cons m ms' =>
            simp only [List.length_nil, List.length_cons] at hlen
            exact (decide_eq_true (by omega)).symm
        | cons k ks' =>
          cases ms' with
          | nil =>
            simp only [List.length_nil, List.length_cons] at hlen
            exact (decide_eq_false (by omega)).symm
          | cons m ms' =>
            cases hv with
            | cons _ _ =>
              cases hw with
              | cons _ _ =>
                rw [List.zip_cons_cons] at hz
                cases hz
      rw [hlast] at hR
      wp_walk
      exact ⟨_, rfl, by simpa [Builtin.Tuple.tupleCompareSizes] using hR⟩
    case h =>
      exact ⟨rfl, rfl, us0.toList, ws0.toList, ks, ms, rfl, hi, hj, hc, by omega, h⟩
end
section
variable {X : Cx}
def rLtK (K : Frag) : R2 := fun x y H Q => ∃ (a b : Addr) (ks ms : List Key), x = .ref a ∧ y = .ref b ∧ SqT K H a (ks.map kV) ∧ SqT K H b (ms.map kV) ∧ compK ks ms = true ∧ Q (.bl (lexK ks ms)) H
theorem op_ltK (hu : X.A.units < cLine) : OpR X (compareOp .Lt) (rLtK X.K) := by
  intro pins s σ H x y v u Q I rx ry h
  obtain ⟨a, b, ks, ms, rfl, rfl, ha, hb, hc, q⟩ := h
  obtain rfl : v = Value.ref a := rx
  obtain rfl : u = Value.ref b := ry
  obtain ⟨us, r1, t1, _⟩ := I.tuple ha
  obtain ⟨ws, r2, t2, _⟩ := I.tuple hb
  obtain ⟨⟨cls, dd, data, sl⟩, ho, hcl, n, hd⟩ := t1
  obtain ⟨⟨cls2, dd2, data2, sl2⟩, ho2, hcl2, n2, hd2⟩ := t2
  simp only at hcl hd hcl2 hd2
  subst hcl hd hcl2 hd2
  exact richCompare_meets_room (op := .Lt) ⟨_, ho, rfl⟩ ⟨_, ho2, rfl⟩ PySem.F.slot_tuple_lt PySem.F.entry_tuple_lt (PySem.F.args_tuple_lt_2 _ _) (keys_lt a b us.toArray ws.toArray n n2 dd dd2 sl sl2 ks ms (by simpa using r1) (by simpa using r2) hc)
    ⟨ho, ho2, (fun z => nomatch z), ⟨.bl _, H, I, rfl, q⟩⟩ hu
theorem rr_ltK {K : Frag} {W : Wd} {ks ms : List Key} (hc : compK ks ms = true) : RR2 K W (rLtK K) (Is (.tuple (ks.map keyD))) (Is (.tuple (ms.map keyD))) (Is (.bool (lexK ks ms))) := fun x y v u H Q px py rx ry jj R => by
  subst px py
  obtain ⟨a, rfl, p⟩ := dw_keys rx
  obtain ⟨b, rfl, q⟩ := dw_keys ry
  exact ⟨a, b, ks, ms, rfl, rfl, p.sq, q.sq, hc, R _ _ H rfl (Dw.bl _) (Er.refl H) jj⟩
end
/-! ### sorted -/
def IsKs (h : Heap) (v : Value) (ks : List Key) : Prop := ∃ (a : Addr) (o : Obj) (its : List Value) (n : Nat), v = .ref a ∧ h.get? a = some o ∧ o.cls = .type "tuple" ∧ o.data = .seq its.toArray n ∧ Vals (ks.map kV) its
theorem IsKs.keeps {h h' : Heap} {v : Value} {ks : List Key} (x : IsKs h v ks) (k : ∀ b o, h.get? b = some o → o.cls = .type "tuple" → h'.get? b = some o) : IsKs h' v ks := by
  obtain ⟨a, o, its, n, e, ho, hc, hd, r⟩ := x
  exact ⟨a, o, its, n, e, k a o ho hc, hc, hd, r⟩
section
variable {prog : Program} {w : World} {A : Around} {E : Value → Shared → Prop} {s : Shared}
open PySem.W in
theorem kat_keys {b : Bool} : ∀ (ks ms : List Key) (us ws : List Value) (i : Nat), Vals (ks.map kV) us → Vals (ms.map kV) ws → compK ks ms = true →
    KatLex prog w A b (decide (us.length < ws.length)) (fun r s' => s' = s ∧ r = lexK ks ms) (us.zip ws) i s
  | [], [], _, _, i, .nil, .nil, _ => kat_nil ⟨rfl, rfl⟩
  | [], m :: ms, _, _, i, .nil, .cons _ _, _ => kat_nil ⟨rfl, decide_eq_true (Nat.succ_pos _)⟩
  | k :: ks, [], _, _, i, .cons _ _, .nil, _ => kat_nil ⟨rfl, decide_eq_false (Nat.not_lt_zero _)⟩
  | k :: ks, m :: ms, _, _, i, Paired.cons (l₂ := us) rk r, Paired.cons (l₂ := ws) rm r', hc => by
    rw [List.zip_cons_cons]
    refine kat_cons ((mixKind prog w).eqBool (is_of_rel rk) (is_of_rel rm) ?_)
    refine kat_go (fun e => ?_) (fun e => ?_)
    · have e := of_decide_eq_true e
      rw [compK_eq e] at hc
      refine kat_yes ?_
      have q := kat_keys (b := b) ks ms us ws (i + 1) r r' hc
      rw [lexK_eq e]
      have e2 : decide ((List.length us + 1) < (List.length ws + 1)) = decide (us.length < ws.length) := by
        by_cases z : us.length < ws.length
        · rw [decide_eq_true z, decide_eq_true (by omega)]
        · rw [decide_eq_false z, decide_eq_false (by omega)]
      show KatLex prog w A b (decide ((List.length us + 1) < (List.length ws + 1))) _ _ _ _
      rw [e2]
      exact q
    · have e := of_decide_eq_false e
      rw [compK_ne e] at hc
      refine kat_no ?_
      rw [lexK_ne e]
      cases k with
      | inl x =>
        cases m with
        | inl y =>
          obtain ⟨t, rfl⟩ := rk
          obtain ⟨t', rfl⟩ := rm
          exact oneLt_any_int ⟨rfl, rfl⟩
        | inr y => cases hc
      | inr x =>
        cases m with
        | inl y => cases hc
        | inr y =>
          obtain ⟨t, rfl⟩ := rk
          obtain ⟨t', rfl⟩ := rm
          exact oneLt_any_str ⟨rfl, rfl⟩
theorem key_cmp {vs : List Value} {k : Value → List Key} (hp : ∀ v ∈ vs, IsKs s.heap v (k v)) (hc : ∀ v ∈ vs, ∀ u ∈ vs, compK (k v) (k u) = true) : SrtO.Cmp prog w A s (tuples' true) (fun p => p.1 ∈ vs) (SrtO.lt2 fun v u => lexK (k v) (k u)) := by
  intro p q hm hm'
  have h1 := hp _ hm
  have h2 := hp _ hm'
  have h3 := hc _ hm _ hm'
  show wpAny (model prog w) A (keyLt' (tuples' true) p.1 q.1) (fun r s' => s' = s ∧ r = lexK (k p.1) (k q.1)) (fun _ _ => False) s
  generalize k p.1 = x at h1 h3 ⊢
  generalize k q.1 = y at h2 h3 ⊢
  obtain ⟨a, o, us, n, e, ho, hcl, hd, r⟩ := h1
  obtain ⟨a', o', us', n', e', ho', hcl', hd', r'⟩ := h2
  rw [e, e']
  refine PySem.W.kat_lt ho hd ho' hd' ?_
  have q := kat_keys (prog := prog) (w := w) (A := A) (s := s) (b := true) x y us us' 0 r r' h3
  simpa using q
/-- the kind of the first key: a text (true) or an int -/
def firstK (b : Bool) (ks : List Key) : Bool := match ks with
  | .inl _ :: _ => !b
  | .inr _ :: _ => b
  | [] => false
theorem firsts_ks {h : Heap} {k : Value → List Key} {b : Bool} : ∀ {vs : List Value}, (∀ v ∈ vs, IsKs h v (k v) ∧ firstK b (k v) = true) →
    ∃ fs : List Value, PySem.W.KatTups h vs fs ∧ fs.length = vs.length ∧ ∀ f ∈ fs, (b = true ∧ ∃ x t, f = Value.str x t) ∨ (b = false ∧ ∃ x t, f = Value.int x t)
  | [], _ => ⟨[], .nil, rfl, fun f hf => absurd hf (by simp)⟩
  | v :: vs, hv => by
    obtain ⟨fs, h1, h2, h3⟩ := firsts_ks (vs := vs) fun u hu => hv u (List.mem_cons_of_mem _ hu)
    obtain ⟨⟨a, o, its, n, e, ho, hc, hd, r⟩, hf⟩ := hv v List.mem_cons_self
    generalize k v = ks at r hf
    cases ks with
    | nil => cases hf
    | cons x ks =>
      cases r with
      | cons rx r =>
        rename_i u us
        subst e
        refine ⟨u :: fs, .cons ho hc hd (by simp) h1, by rw [List.length_cons, List.length_cons, h2], fun f hf' => ?_⟩
        rcases List.mem_cons.mp hf' with e | hf'
        · subst e
          cases x with
          | inl i =>
            obtain ⟨t, rfl⟩ := rx
            cases b with
            | true => cases hf
            | false => exact .inr ⟨rfl, i, t, rfl⟩
          | inr i =>
            obtain ⟨t, rfl⟩ := rx
            cases b with
            | true => exact .inl ⟨rfl, i, t, rfl⟩
            | false => cases hf
        · exact h3 f hf'
theorem keys_sortable {a : Addr} {vs : List Value} {k : Value → List Key} {b : Bool} (h0 : 0 < vs.length) (hp : ∀ v ∈ vs, IsKs s.heap v (k v) ∧ firstK b (k v) = true) (hc : ∀ v ∈ vs, ∀ u ∈ vs, compK (k v) (k u) = true) (ha : ∀ o, s.heap.get? a = some o → o.cls ≠ .type "tuple") :
    SrtO.SortableO prog w A s a vs fun v u => lexK (k v) (k u) := by
  intro h' keep
  have hp' : ∀ v ∈ vs, IsKs h' v (k v) ∧ firstK b (k v) = true := fun v hm => ⟨(hp v hm).1.keeps fun c o e q => keep c o (fun z => by subst z; exact ha o e q) e, (hp v hm).2⟩
  obtain ⟨fs, h1, h2, h3⟩ := firsts_ks hp'
  refine ⟨tuples' true, fun Q E hq => ?_, key_cmp (fun v hm => (hp' v hm).1) hc⟩
  cases b with
  | true =>
    refine PySem.W.kat_kind (T := .type "str") h1 (by omega) (fun f hm => ?_) (by rfl) ?_
    · rcases h3 f hm with ⟨_, x, t, rfl⟩ | ⟨z, _⟩
      · exact PySem.W.Looks.now
      · cases z
    · rw [show (Value.type "str" != Value.type "tuple") = true by decide +kernel]
      exact hq
  | false =>
    refine PySem.W.kat_kind (T := .type "int") h1 (by omega) (fun f hm => ?_) (by rfl) ?_
    · rcases h3 f hm with ⟨z, _⟩ | ⟨_, x, t, rfl⟩
      · cases z
      · exact PySem.W.Looks.now
    · rw [show (Value.type "int" != Value.type "tuple") = true by decide +kernel]
      exact hq
theorem sorted_keys {l : Addr} {vs : List Value} {k : Value → List Key} {b : Bool} {Q : Value → Shared → Prop} (hl : s.heap.IsList l vs.toArray) (hz : vs.length ≤ sizeLine) (hp : ∀ v ∈ vs, IsKs s.heap v (k v) ∧ firstK b (k v) = true) (hc : ∀ v ∈ vs, ∀ u ∈ vs, compK (k v) (k u) = true)
    (h : ∀ (h' : Heap) (d : Addr) (out : List Value), SrtO.Srtd (fun v u => lexK (k v) (k u)) out → SrtO.Stb (fun v u => lexK (k v) (k u)) out vs → (∀ b o, s.heap.get? b = some o → h'.get? b = some o) → s.heap.objs.size ≤ d → (∃ n, h'.get? d = some (seqObj "list" out.toArray n)) → Q (.ref d) { s with heap := h' }) :
    wpAny (model prog w) A (call (.builtin "sorted") [.ref l]) Q E s := by
  refine SrtO.sorted_ord (swo_lexK k) hl hz (fun h2 h₁ a ha kk => ?_) fun out hs hb => ?_
  · refine keys_sortable (s := { s with heap := h₁ }) (by omega) (fun v hm => ⟨(hp v hm).1.keeps fun b o e _ => (kk b o e).2, (hp v hm).2⟩) hc fun o e => ?_
    have e' : some o = some (seqObj "list" vs.toArray 0) := e.symm.trans ha
    cases e'
    intro c
    exact absurd (Value.type.inj c) (by decide)
  · exact h _ _ out hs hb (fun b o e => sortedAll_old e) (Nat.le_succ _) (sortedAll_at s.heap vs out.toArray)
end
/-- sorted(xs), xs a list of such tuples -/
def rSortedK (K : Frag) : List V → Hp → VK → Prop := fun vs H Q => ∃ (a : Addr) (xs : List V) (k : V → List Key) (b : Bool), vs = [V.ref a] ∧ SqL K H a xs ∧ (∀ x ∈ xs, (∃ t, x = V.ref t ∧ SqT K H t ((k x).map kV)) ∧ firstK b (k x) = true) ∧ (∀ x ∈ xs, ∀ y ∈ xs, compK (k x) (k y) = true) ∧
  ∀ ys p, SrtO.Srtd (fun x y => lexK (k x) (k y)) ys → ys.Perm xs → H p = none → Q (.ref p) (upd H p (.lst ys))
theorem cr_sortedK {X : Cx} : CallR X (.builtin "sorted") (rSortedK X.K) := by
  intro pins s σ H vs us Q I r h
  obtain ⟨a, xs, k, b, rfl, hs, hx, hc, q⟩ := h
  obtain ⟨its, rv, hl, hz⟩ := I.list hs
  obtain ⟨u, rfl, ru⟩ := vals1 r
  obtain rfl : u = Value.ref a := ru
  obtain ⟨e1, e2⟩ := refs_back rv fun x m => by
    obtain ⟨⟨t, e, _⟩, _⟩ := hx x m
    exact ⟨t, e⟩
  have hmem : ∀ v ∈ its, backV v ∈ xs := fun v hv => by rw [e1]; exact List.mem_map.mpr ⟨v, hv, rfl⟩
  refine sorted_keys (k := fun u => k (backV u)) (b := b) hl.isList (by rw [← rv.length]; exact hz) (fun v hv => ?_) (fun v hv u hu => hc _ (hmem v hv) _ (hmem u hu)) fun h' d out h1 h2 kp hd hn => ?_
  · obtain ⟨⟨t, e, ht⟩, hf⟩ := hx _ (hmem v hv)
    obtain ⟨t', rfl⟩ := e2 v hv
    have e' : t' = t := V.ref.inj e
    subst e'
    obtain ⟨ws, r2, ⟨o, ho, hcl, n, hd⟩, _⟩ := I.tuple ht
    exact ⟨⟨t', o, ws, n, rfl, ho, hcl, hd, r2⟩, hf⟩
  · have h3 : ∀ u ∈ out, ∃ a, u = Value.ref a := fun u hu => e2 u (h2.perm.mem_iff.mp hu)
    obtain ⟨n, hn⟩ := hn
    have hb : (out.map backV).Perm xs := by
      rw [e1]
      exact h2.perm.map backV
    refine ⟨.ref d, upd H d (.lst (out.map backV)), I.laid (t' := s.toks) kp hd ⟨?_, out, n, vals_back h3, hn⟩, rfl, q _ d (SrtO.srtd_map h1) hb (I.hok.fresh hd)⟩
    rw [hb.length_eq]
    exact hz
end SB

namespace SB
open PySem PySem.Spec PyProof.Rows L2
section
variable {X : Cx} {W : Wd} {Γ : Gm} {a e : Expr} {es : List Expr} {pos p p2 pos' : Pos} {rest body : List Stmt} {D : Ends} {K : Frag}
theorem xe_neg {i : Int} (ha : XE X W Γ a (Is (.int i))) : XE X W Γ (.UnaryOp .USub a pos) (Is (.int (-i))) := pe_imp (pe_un un_neg ha) fun σ H Q ⟨T, R⟩ => ⟨T, fun v z H1 pz rz e1 j1 => by
    subst pz
    cases rz
    exact ⟨i, rfl, R _ _ H1 rfl (Dw.int _) e1 j1⟩⟩
/-- x in a tuple of data -/
def rInT (K : Frag) : R2 := fun x y H Q => ∃ d ds, Dp K H x d ∧ Dp K H y (.tuple ds) ∧ SeqAt.shaped d = true ∧ SeqAt.shaped (.tuple ds) = true ∧ Q (.bl (ds.any fun z => PyData.eqv z d)) H
theorem op_inT (hu : X.A.units + 65 < cLine) : OpR X (compareOp .In) (rInT X.K) := by
  intro pins s σ H x y v u Q I rx ry h
  obtain ⟨d, ds, hd, he, sd, se, q⟩ := h
  obtain ⟨as, r1⟩ := Dp.reads I d x v hd rx
  obtain ⟨bs, r2⟩ := Dp.reads I (.tuple ds) y u he ry
  exact SeqAt.in_tuple_reads r2 r1 (SeqAt.canLay_of_shaped se) (SeqAt.canLay_of_shaped sd) (room_in_shaped sd hu) ⟨.bl _, H, I, rfl, q⟩
theorem rr_inT {x : PyData} {ds : List PyData} (sx : SeqAt.shaped x = true) (sy : SeqAt.shaped (.tuple ds) = true) : RR2 K W (rInT K) (Is x) (Is (.tuple ds)) (Is (.bool (ds.any fun z => PyData.eqv z x))) := fun x' y' v u H Q px py rx ry jj R => by
  subst px py
  exact ⟨x, ds, Dw.dp _ _ rx, Dw.dp _ _ ry, sx, sy, R _ _ H rfl (Dw.bl _) (Er.refl H) jj⟩
/-- for n in range(m), no break; what the turns show is a plain fact -/
def Turned (K : Frag) (W : Wd) (Γ : Gm) (C : Prop) (D : Ends) : Ends := { nx := fun σ H => C ∧ Tp K W Γ σ H, ct := fun σ H => C ∧ Tp K W Γ σ H, bk := fun _ _ => False, rt := D.rt }
theorem hs_range {m : Nat} {n : Str} {j : Nat} (Pure : Nat → Prop) (hc : X.calm = true) (hx : PassesOwn (model X.prog X.w) X.A X.env X.xe) (hN : X.N.Nodup) (hm : X.mg "range" = none) (ha : XA X W Γ [a] (IsA [.int (m : Int)])) (hl : m < 90000) (h0 : Pure 0)
    (hb : ∀ i : Nat, i < m → Pure i → HS X (Tp X.K W (Γ.set j (some (.d (.int (i : Int)))))) body (Turned X.K W Γ (Pure (i + 1)) D))
    (hr : Pure m → HS X (Tp X.K W Γ) rest D) (hi : X.N[j]? = some n := by rfl) (hL : Loc X.env.scope n := by first | exact Or.inl rfl | exact Or.inr rfl)
    (hf : X.fn n = true ∨ X.env.scope.names.lookup n = some .local := by first | exact .inl rfl | exact .inr rfl) (hg : Gl X "range" := by rfl) (hs : starEach [a] X.env = [(false, eval a X.env)] := by rfl)
    (hfs : ∀ x, foldedSetIterable (.Call (.Name "range" p) [a] [] p2) X.env x = pure x := by intro _; rfl) :
    HS X (Tp X.K W Γ) (.For (.Name n pos) (.Call (.Name "range" p) [a] [] p2) body [] pos' :: rest) D := by
  have hbody : PSs X body (fun D' σ H => ∃ i : Nat, i < m ∧ Pure i ∧ D'.nx = (fun σ H => Pure (i + 1) ∧ Tp X.K W Γ σ H) ∧ D'.ct = (fun σ H => Pure (i + 1) ∧ Tp X.K W Γ σ H) ∧ D'.rt = D.rt ∧ Tp X.K W (Γ.set j (some (.d (.int (i : Int))))) σ H) := by
    refine ⟨fun pins s σ H D' I ⟨i, h1, h2, e1, e2, e3, T⟩ => thn ((hb i h1 h2).run pins s σ H I T) fun f s1 q => ?_⟩
    cases f with
    | next =>
      obtain ⟨σ', H', I', q⟩ := q
      exact ⟨σ', H', I', by rw [e1]; exact q⟩
    | ret v =>
      obtain ⟨v', σ', H', I', r, q⟩ := q
      exact ⟨v', σ', H', I', r, by rw [e3]; exact q⟩
    | cont =>
      obtain ⟨σ', H', I', q⟩ := q
      exact ⟨σ', H', I', by rw [e2]; exact q⟩
    | brk =>
      obtain ⟨_, _, _, q⟩ := q
      exact q.elim
  refine .cons (Mid := fun σ H => Pure m ∧ Tp X.K W Γ σ H) (ps_for hx hc (pi_range1 hg hm ha hs) (pg_name hN hi hL hf) hbody hfs) (fun σ H T => rng1_tp ha hl σ H _ T fun H2 e2 j2 => ?_) (HS.and hr)
  refine for_range (lo := 0) (n := m) (g := gName j) (D := { D with nx := fun σ H => Pure m ∧ Tp X.K W Γ σ H }) (tb := fun D' σ H => ∃ i : Nat, i < m ∧ Pure i ∧ D'.nx = (fun σ H => Pure (i + 1) ∧ Tp X.K W Γ σ H) ∧ D'.ct = (fun σ H => Pure (i + 1) ∧ Tp X.K W Γ σ H) ∧ D'.rt = D.rt ∧ Tp X.K W (Γ.set j (some (.d (.int (i : Int))))) σ H) (fun i σ H => Pure i ∧ Tp X.K W Γ σ H) ⟨h0, T.mono e2 j2⟩ (fun i σ' H' hi' ⟨hp, T'⟩ => ?_) (fun σ' H' q => q)
  have e0 : (0 : Int) + (i : Int) = (i : Int) := Int.zero_add _
  exact ⟨i, hi', hp, rfl, rfl, rfl, by rw [e0]; exact T'.set (x := .d (.int (i : Int))) (Dw.int _)⟩
end
/-! ### rises -/
def keyOf : PyData → Key
  | .int i => .inl i
  | .str x => .inr x
  | _ => .inl 0
def keysOf : PyData → List Key
  | .tuple ds => ds.map keyOf
  | _ => []
theorem keysOf_keys (ks : List Key) : keysOf (.tuple (ks.map keyD)) = ks := by
  show (ks.map keyD).map keyOf = ks
  rw [List.map_map]
  have : (keyOf ∘ keyD) = id := by
    funext k
    cases k <;> rfl
  rw [this, List.map_id]
/-- a tuple of ints and texts -/
def isKeyT (d : PyData) : Prop := ∃ ks : List Key, d = .tuple (ks.map keyD)
theorem isKeyT.eq {d : PyData} (h : isKeyT d) : d = .tuple ((keysOf d).map keyD) := by
  obtain ⟨ks, rfl⟩ := h
  rw [keysOf_keys]
def itemD : PyData → Nat → PyData
  | .tuple ds, k => ds.getD k .none
  | _, _ => .none
def risesD (d : PyData) : Bool := (List.range (lenD d - 1).toNat).all fun i => lexK (keysOf (itemD d i)) (keysOf (itemD d (i + 1)))
/-- rises may be asked -/
def preRise (d : PyData) : Prop := ∃ ds, d = .tuple ds ∧ ds.length ≤ 1000 ∧ (∀ e ∈ ds, isKeyT e) ∧ ∀ e ∈ ds, ∀ f ∈ ds, compK (keysOf e) (keysOf f) = true
section
variable {P : Program} {w : World} {K : Frag} {mg : Str → Option Value} {base : Heap} {f f1 f2 f3 f4 f5 : Addr} {fd fd1 fd2 fd3 fd4 fd5 : FuncData}
theorem sc_rises : FnScope ["some", "index"] ["some"] (defScope sRises) := ⟨rfl, rfl, rfl, by decide +kernel, rfl, by decide +kernel, by decide +kernel⟩
abbrev spRises (K : Frag) : Sp := spF K 1 (fun ds => preRise (ds.getD 0 .none)) fun ds => .bool (risesD (ds.getD 0 .none))
theorem ok_rises (B : Blt mg) (F : Fn K mg "rises" sRises ["some"] f fd) : FnOk P w K mg base CX0 1 f fd ["some"] (spRises K) := by
  refine ok_pure F.F sc_rises rfl fun cdv A outer s H E W ds D hr hl hp g => ?_
  match ds, hl with
  | [d], _ =>
    obtain ⟨es, hd, hlen, hk, hcmp⟩ := hp
    have hd : d = .tuple es := hd
    subst hd
    have e1 : (1 + ((es.length : Int) - 1)) = es.length := by omega
    have at_ : ∀ (i : Nat), i < ((es.length : Int) - 1).toNat → ∃ x y, es[i]? = some x ∧ es[i + 1]? = some y := fun i hi => ⟨_, _, List.getElem?_eq_getElem (by omega), List.getElem?_eq_getElem (by omega)⟩
    refine hs_ret (xe_all (bs := (List.range ((es.length : Int) - 1).toNat).map fun i => lexK (keysOf (itemD (.tuple es) i)) (keysOf (itemD (.tuple es) (i + 1)))) rfl B.all ?_) ?_
    rotate_left
    · intro v x H' px rx jj
      subst px
      refine g v _ H' rfl ?_ jj
      have e0 : (List.all ((List.range ((es.length : Int) - 1).toNat).map fun i => lexK (keysOf (itemD (.tuple es) i)) (keysOf (itemD (.tuple es) (i + 1)))) id) = risesD (.tuple es) := by
        rw [List.all_map]
        rfl
      rw [e0] at rx
      exact rx
    refine XE.imp (P := fun x => ∃ es', x = .d (.list es') ∧ Paired (fun a b => b = .bool (lexK (keysOf (es.getD (intOf a - 1).toNat .none)) (keysOf (es.getD (intOf a).toNat .none)))) (rgD 1 ((es.length : Int) - 1).toNat) es') ?_ ?_
    refine xe_lcR (lo := 1) (j := 1) rfl sc_rises.nd ?_ (blkOk_by (N := ["some", "index"]) (sc := defScope sRises) (by decide +kernel)) (fun _ _ _ _ _ => pg_name (i := 1) sc_rises.nd rfl (Or.inl rfl)) ?_ ?_ (by omega)
    · exact xr_2 B.range xe_int (xe_len (.inl rfl) B.len (xv 0)) (by omega)
    · intro s1 H1 C cl fp i hi
      obtain ⟨x, y, hx, hy⟩ := at_ i hi
      have mx : x ∈ es := List.mem_of_getElem? hx
      have my : y ∈ es := List.mem_of_getElem? hy
      have ex := (hk x mx).eq
      have ey := (hk y my).eq
      have gx : es.getD (1 + (i : Int) - 1).toNat .none = x := by
        rw [show (1 + (i : Int) - 1).toNat = i by omega, List.getD_eq_getElem?_getD, hx]
        rfl
      have gy : es.getD (1 + (i : Int)).toNat .none = y := by
        rw [show (1 + (i : Int)).toNat = i + 1 by omega, List.getD_eq_getElem?_getD, hy]
        rfl
      have ax : atI es (1 + (i : Int) - 1) = some (.tuple ((keysOf x).map keyD)) := by
        rw [show (1 + (i : Int) - 1) = ((i : Nat) : Int) by omega, ← ex]
        exact ix_nat hx
      have ay : atI es (1 + (i : Int)) = some (.tuple ((keysOf y).map keyD)) := by
        rw [show (1 + (i : Int)) = ((i + 1 : Nat) : Int) by omega, ← ey]
        exact ix_nat hy
      refine (xe_cmp (op_ltK hr.units0) (rr_ltK (hcmp x mx y my)) (xe_ix ix_tup (rr_ixT ax) (xv 0) (xe_op op_sub rr_I0 (xv 1) xe_int)) (xe_ix ix_tup (rr_ixT ay) (xv 0) (xv 1))).imp fun z hz => ⟨_, hz, ?_⟩
      show _ = PyData.bool (lexK (keysOf (es.getD (1 + (i : Int) - 1).toNat .none)) (keysOf (es.getD (1 + (i : Int)).toNat .none)))
      rw [gx, gy]
    · intro a b h
      rw [h]
      rfl
    · rintro z ⟨zs, hz, hp⟩
      rw [hz, paired_map hp]
      show Dv.d (.list ((rgD 1 ((es.length : Int) - 1).toNat).map _)) = Dv.d (.list (((List.range ((es.length : Int) - 1).toNat).map fun i => lexK (keysOf (itemD (.tuple es) i)) (keysOf (itemD (.tuple es) (i + 1)))).map PyData.bool))
      unfold rgD
      rw [List.map_map, List.map_map]
      congr 2
      apply List.map_congr_left
      intro i _
      show PyData.bool (lexK (keysOf (es.getD (1 + (i : Int) - 1).toNat .none)) (keysOf (es.getD (1 + (i : Int)).toNat .none))) = PyData.bool (lexK (keysOf (es.getD i .none)) (keysOf (es.getD (i + 1) .none)))
      rw [show (1 + (i : Int) - 1).toNat = i by omega, show (1 + (i : Int)).toNat = i + 1 by omega]
end
end SB

namespace SB
open PySem PySem.Spec PyProof.Rows L2
def allD (p : PyData → Bool) (d : PyData) : Bool := match d with
  | .tuple ds => ds.all p
  | _ => false
/-! ### paths -/
def arePathsD (d : PyData) : Bool := isiTup d && (allD isPathD d && risesD d)
theorem isPathD_keys {d : PyData} (h : isPathD d = true) : ∃ a b : Int, d = .tuple ([Sum.inl a, Sum.inl b].map keyD) ∧ 0 ≤ b ∧ b < a ∧ a ≤ 7 := by
  have h0 : (isListD d 2 2 && pathB d) = true := h
  rw [Bool.and_eq_true] at h0
  obtain ⟨es, rfl, he⟩ := isListD_len (n := 2) h0.1
  match es, he, h0.2 with
  | [x, y], _, h2 =>
    have h3 : (isPlaceD x && (isPlaceD y && decide (intOf y < intOf x))) = true := h2
    rw [Bool.and_eq_true, Bool.and_eq_true, decide_eq_true_eq] at h3
    obtain ⟨i, rfl, i1, i2⟩ := isPlaceD_int h3.1
    obtain ⟨j, rfl, j1, j2⟩ := isPlaceD_int h3.2.1
    exact ⟨i, j, rfl, j1, h3.2.2, i2⟩
theorem comp_pairs (a b c d : Int) : compK [.inl a, .inl b] [.inl c, .inl d] = true := by
  by_cases e : (Sum.inl a : Key) = .inl c
  · rw [compK_eq e]
    by_cases e' : (Sum.inl b : Key) = .inl d
    · rw [compK_eq e']
      rfl
    · rw [compK_ne e']
      rfl
  · rw [compK_ne e]
    rfl
theorem paths_pre {ds : List PyData} (h : ds.all isPathD = true) (hl : ds.length ≤ 1000) : preRise (.tuple ds) := by
  have h0 := List.all_eq_true.mp h
  refine ⟨ds, rfl, hl, fun e he => ?_, fun e he f hf => ?_⟩
  · obtain ⟨a, b, e1, _⟩ := isPathD_keys (h0 e he)
    exact ⟨_, e1⟩
  · obtain ⟨a, b, e1, _⟩ := isPathD_keys (h0 e he)
    obtain ⟨c, d, e2, _⟩ := isPathD_keys (h0 f hf)
    rw [e1, e2, keysOf_keys, keysOf_keys]
    exact comp_pairs a b c d
section
variable {X : Cx} {W : Wd} {Γ : Gm} {iter elt : Expr} {pos p : Pos} {n : Str} {j : Nat} {scope : Scope}
/-- [f(one) for one in a tuple], f of data -/
theorem xe_lcF {ds : List PyData} {g : PyData → PyData} (hc : X.calm = true) (hN : X.N.Nodup) (hi : XE X W Γ iter (Is (.tuple ds))) (ok : BlkOk X.N X.env.scope scope [(n, j)])
    (hg : ∀ (s : Shared) (H : Hp) (C : Addr) (cl : List (Str × Addr)) (fp : List Addr), PG (X.blk s H scope (compEnvC scope cl C X.env) fp) (.Name n p) (gName j))
    (he : ∀ (s : Shared) (H : Hp) (C : Addr) (cl : List (Str × Addr)) (fp : List Addr) (d : PyData), d ∈ ds → XE (X.blk s H scope (compEnvC scope cl C X.env) fp) W (Γ.set j (some (.d d))) elt (Is (g d)))
    (hR : ∀ d, noL (g d) = true) (hl : ds.length ≤ 90000) (hs : ∀ x, foldedSetIterable iter X.env x = pure x := by intro _; rfl) :
    XE X W Γ (.ListComp elt [⟨.Name n p, iter, [], 0⟩] scope pos) (Is (.list (ds.map g))) :=
  (xe_lcT (R := fun d e => e = g d) hc hN hi ok hg (fun s H C cl fp d hd => (he s H C cl fp d hd).imp fun x hx => ⟨_, hx, rfl⟩) (fun d e h => by rw [h]; exact hR d) hl hs).imp fun x ⟨es, hx, hp⟩ => by
    rw [hx, paired_map hp]
/-- .. of truth values, under all -/
theorem xe_allF {ds : List PyData} {g : PyData → Bool} {pl pa : Pos} (hc : X.calm = true) (ml : X.mg "all" = none) (hN : X.N.Nodup) (hi : XE X W Γ iter (Is (.tuple ds))) (ok : BlkOk X.N X.env.scope scope [(n, j)])
    (hg : ∀ (s : Shared) (H : Hp) (C : Addr) (cl : List (Str × Addr)) (fp : List Addr), PG (X.blk s H scope (compEnvC scope cl C X.env) fp) (.Name n p) (gName j))
    (he : ∀ (s : Shared) (H : Hp) (C : Addr) (cl : List (Str × Addr)) (fp : List Addr) (d : PyData), d ∈ ds → XE (X.blk s H scope (compEnvC scope cl C X.env) fp) W (Γ.set j (some (.d d))) elt (Is (.bool (g d))))
    (hl : ds.length ≤ 90000) (g1 : Gl X "all" := by rfl) (hs : ∀ x, foldedSetIterable iter X.env x = pure x := by intro _; rfl)
    (hst : starEach [.ListComp elt [⟨.Name n p, iter, [], 0⟩] scope pl] X.env = (false, eval (.ListComp elt [⟨.Name n p, iter, [], 0⟩] scope pl) X.env) :: starEach [] X.env := by rfl) (hpl : (backTo pos (starEach [] X.env)).any (·.1) = false := by rfl) :
    XE X W Γ (.Call (.Name "all" pa) [.ListComp elt [⟨.Name n p, iter, [], 0⟩] scope pl] [] pos) (Is (.bool (ds.all g))) := by
  have h1 : XE X W Γ (.ListComp elt [⟨.Name n p, iter, [], 0⟩] scope pl) (Is (.list ((ds.map g).map .bool))) := (xe_lcF (g := fun d => .bool (g d)) hc hN hi ok hg he (fun _ => rfl) hl hs).is (by rw [List.map_map]; rfl)
  have h2 := xe_all (p := pa) (pos := pos) hc ml h1 g1 hst hpl
  rw [List.all_map] at h2
  exact h2
end
section
variable {P : Program} {w : World} {K : Frag} {mg : Str → Option Value} {base : Heap} {f f1 f2 f3 f4 f5 : Addr} {fd fd1 fd2 fd3 fd4 fd5 : FuncData}
theorem sc_arePaths : FnScope ["value", "one"] ["value"] (defScope sArePaths) := ⟨rfl, rfl, rfl, by decide +kernel, rfl, by decide +kernel, by decide +kernel⟩
abbrev spArePaths (K : Frag) : Sp := spF K 1 (fun ds => lenD (ds.getD 0 .none) ≤ 1000) fun ds => .bool (arePathsD (ds.getD 0 .none))
theorem ok_arePaths (B : Blt mg) (F1 : Fn K mg "is_path" sIsPath ["value"] f1 fd1) (G1 : FnOk P w K mg base CX0 4 f1 fd1 ["value"] (spIsPath K)) (F2 : Fn K mg "rises" sRises ["some"] f2 fd2) (G2 : FnOk P w K mg base CX0 1 f2 fd2 ["some"] (spRises K))
    (F : Fn K mg "are_paths" sArePaths ["value"] f fd) : FnOk P w K mg base CX0 5 f fd ["value"] (spArePaths K) := by
  refine ok_pure F.F sc_arePaths rfl fun cdv A outer s H E W ds D hr hl hp g => ?_
  match ds, hl with
  | [d], _ =>
    have hp : lenD d ≤ 1000 := hp
    refine hs_ret (xe_and (y := allD isPathD d && risesD d) ?_ fun hx => ?_) g
    · exact xe_isi (kit_tup d) B.isi B.tuple (by decide +kernel) (xv 0)
    · obtain ⟨es, rfl⟩ := isiTup_tup hx
      have hle : es.length ≤ 1000 := by
        have : (es.length : Int) ≤ 1000 := hp
        omega
      refine xe_and ?_ fun hall => ?_
      · refine xe_allF (n := "one") (j := 1) (g := isPathD) rfl B.all sc_arePaths.nd (xv 0) (blkOk_by (N := ["value", "one"]) (sc := defScope sArePaths) (by decide +kernel)) (fun _ _ _ _ _ => pg_name (i := 1) sc_arePaths.nd rfl (Or.inl rfl)) (fun s1 H1 C cl fp e he => ?_) (by omega)
        exact xe_call G1 hr F1.g F1.F.kp F1.b (xac (xv 1) xa0) rfl trivial
      · exact xe_one (xe_call G2 (hr.mono (by decide)) F2.g F2.F.kp F2.b (xac (xv 0) xa0) rfl (paths_pre hall hle))
end
/-! ### entries -/
def writingL : List Str := ["set", "sum", "mul", "load"]
def effectsL : List Str := ["set", "sum", "mul", "load", "store", "out"]
def jumpsL : List Str := ["zero", "go"]
def tup2 (a b : Str) : PyData := .tuple [.str a, .str b]
def usersL : List PyData := [tup2 "sum" "a", tup2 "mul" "a", tup2 "load" "a", tup2 "store" "a", tup2 "store" "b", tup2 "zero" "a", tup2 "out" "a"]
def memL : List PyData := [tup2 "store" "load", tup2 "load" "store"]
def inS (zs : List Str) (z : Str) : Bool := zs.any (· == z)
def inD (zs : List PyData) (z : PyData) : Bool := zs.any fun y => PyData.eqv y z
def eqS (a b : Str) : Bool := a == b
def entry4 (r f s : Str) : Bool := if eqS r "order" = true then inS writingL f && inS writingL s else if eqS r "memory" = true then inD memL (tup2 f s) else eqS r "wrong" && (inS jumpsL f && inS effectsL s)
def entry5 (r f s q : Str) : Bool := eqS r "value" && (inS writingL f && inD usersL (tup2 s q))
def isEntryD (d : PyData) : Bool := match d with
  | .tuple [.str r, .str f, .str s, x] => isInD x 1 7 && entry4 r f s
  | .tuple [.str r, .str f, .str s, .str q, x] => isInD x 1 7 && entry5 r f s q
  | _ => false
theorem isiStr_str {d : PyData} (h : isiStr d = true) : ∃ x, d = .str x := by
  cases d with
  | str x => exact ⟨x, rfl⟩
  | int i => exact nomatch h
  | bool b => exact nomatch h
  | none => exact nomatch h
  | list s => exact nomatch h
  | tuple s => exact nomatch h
  | dict s => exact nomatch h
theorem entry_len {d : PyData} (h : isListD d 4 5 = false) : isEntryD d = false := by
  unfold isEntryD
  split
  · exact absurd (show true = false from h) (by decide)
  · exact absurd (show true = false from h) (by decide)
  · rfl
theorem list45 {d : PyData} (h : isListD d 4 5 = true) : (∃ a b c x, d = .tuple [a, b, c, x]) ∨ ∃ a b c q x, d = .tuple [a, b, c, q, x] := by
  have h0 : (isiTup d && _) = true := h
  rw [Bool.and_eq_true] at h0
  obtain ⟨ds, rfl⟩ := isiTup_tup h0.1
  have h1 := h0.2
  rw [Bool.and_eq_true, decide_eq_true_eq, decide_eq_true_eq] at h1
  have h2 : (4 : Int) ≤ (ds.length : Int) ∧ (ds.length : Int) ≤ 5 := h1
  match ds, h2 with
  | [a, b, c, x], _ => exact .inl ⟨a, b, c, x, rfl⟩
  | [a, b, c, q, x], _ => exact .inr ⟨a, b, c, q, x, rfl⟩
  | [], h2 => exact absurd h2.1 (by decide)
  | [_], h2 => exact absurd h2.1 (by show ¬ (4 : Int) ≤ ((1 : Nat) : Int); omega)
  | [_, _], h2 => exact absurd h2.1 (by show ¬ (4 : Int) ≤ ((2 : Nat) : Int); omega)
  | [_, _, _], h2 => exact absurd h2.1 (by show ¬ (4 : Int) ≤ ((3 : Nat) : Int); omega)
  | _ :: _ :: _ :: _ :: _ :: _ :: r, h2 =>
    have := h2.2
    simp only [List.length_cons] at this
    omega
theorem entry4_no {a b c x : PyData} (h : [a, b, c].all isiStr = false) : isEntryD (.tuple [a, b, c, x]) = false := by
  cases a with
  | str r =>
    cases b with
    | str f =>
      cases c with
      | str s => cases h
      | _ => rfl
    | _ => rfl
  | _ => rfl
theorem entry5_no {a b c q x : PyData} (h : [a, b, c, q].all isiStr = false) : isEntryD (.tuple [a, b, c, q, x]) = false := by
  cases a with
  | str r =>
    cases b with
    | str f =>
      cases c with
      | str s =>
        cases q with
        | str z => cases h
        | _ => rfl
      | _ => rfl
    | _ => rfl
  | _ => rfl
theorem Gives.is {X : Cx} {W : Wd} {d d' : PyData} {D : Ends} (g : Gives X W (Is d) D) (e : d = d') : Gives X W (Is d') D := e ▸ g
theorem lay_items {ds : List PyData} (h : SeqAt.shaped (.tuple ds) = true) : ∀ d ∈ ds, PyData.canLay0 d = true := fun d hd => PyData.canLay0_of_mem ds d (SeqAt.canLay_of_shaped h) hd
theorem sh_tup2 {a b : Str} (ha : PyData.canLay0 (.str a) = true) (hb : PyData.canLay0 (.str b) = true) : SeqAt.shaped (tup2 a b) = true := by
  unfold SeqAt.shaped
  rw [Bool.and_eq_true]
  refine ⟨?_, rfl⟩
  show (PyData.canLay0 (.str a) && (PyData.canLay0 (.str b) && true)) = true
  rw [ha, hb]
  rfl
/-- the constants of the text -/
structure Cst (K : Frag) (mg : Str → Option Value) : Prop where
  place : ∃ t, mg "MOST_PLACE" = some (.int 7 t)
  apart : ∃ t, mg "MOST_APART" = some (.int 7 t)
  writing : ∃ a, mg "WRITING" = some (.ref a) ∧ ∀ S H, Dw K S H (.ref a) (.tuple (strsOf writingL))
  effects : ∃ a, mg "EFFECTS" = some (.ref a) ∧ ∀ S H, Dw K S H (.ref a) (.tuple (strsOf effectsL))
  users : ∃ a, mg "USERS" = some (.ref a) ∧ ∀ S H, Dw K S H (.ref a) (.tuple usersL)
  names : ∃ (a : Addr) (ns : List PyData), mg "NAMES" = some (.ref a) ∧ (∀ S H, Dw K S H (.ref a) (.tuple ns)) ∧ ns.map lenD = [3, 4, 4, 4, 4, 3, 2, 3] ∧ ns.all isiTup = true
section
variable {P : Program} {w : World} {K : Frag} {mg : Str → Option Value} {base : Heap} {f f1 f2 f3 f4 f5 : Addr} {fd fd1 fd2 fd3 fd4 fd5 : FuncData}
theorem sc_isEntry : FnScope ["value", "rule", "first", "second", "one"] ["value"] (defScope sIsEntry) := ⟨rfl, rfl, rfl, by decide +kernel, rfl, by decide +kernel, by decide +kernel⟩
abbrev spIsEntry (K : Frag) : Sp := spF K 1 (fun ds => SeqAt.shaped (ds.getD 0 .none) = true) fun ds => .bool (isEntryD (ds.getD 0 .none))
theorem ok_isEntry (B : Blt mg) (C : Cst K mg) (F1 : Fn K mg "is_list" sIsList ["value", "least", "most"] f1 fd1) (G1 : FnOk P w K mg base CX0 1 f1 fd1 ["value", "least", "most"] (spIsList K)) (F2 : Fn K mg "is_in" sIsIn ["value", "least", "most"] f2 fd2) (G2 : FnOk P w K mg base CX0 2 f2 fd2 ["value", "least", "most"] (spIsIn K))
    (F : Fn K mg "is_entry_in" sIsEntry ["value"] f fd) : FnOk P w K mg base CX0 3 f fd ["value"] (spIsEntry K) := by
  refine ok_pure F.F sc_isEntry rfl fun cdv A outer s H E W ds D hr hl hp g => ?_
  obtain ⟨ta, mApart⟩ := C.apart
  obtain ⟨wa, mW, dW⟩ := C.writing
  obtain ⟨ea, mE, dE⟩ := C.effects
  obtain ⟨ua, mU, dU⟩ := C.users
  have hu65 : (A.deeper (envOfC "is_entry_in" (defScope sIsEntry) s.heap.objs.size f cdv)).units + 65 < cLine := by
    have := hr.un
    omega
  match ds, hl with
  | [d], _ =>
    have g : Gives (cxP P w K mg base ["value", "rule", "first", "second", "one"] "is_entry_in" sIsEntry f cdv A outer s H E) W (Is (.bool (isEntryD d))) D := g
    have hp : SeqAt.shaped d = true := hp
    cases hL : isListD d 4 5 with
    | false =>
      refine hs_when (b := true) ?_ (fun _ => hs_ret xe_bl (g.is (by rw [entry_len hL]))) (fun z => nomatch z)
      refine (xw_or (x := true) (y := true) ?_ (fun z => nomatch z)).t
      exact (xt_not (xt_val (x := false) (xe_call G1 (hr.mono (by decide)) F1.g F1.F.kp F1.b (xac (xv 0) (xac xe_int (xac xe_int xa0))) rfl ⟨4, 5, rfl, rfl⟩ (by show PyData.bool (isListD d 4 5) = _; rw [hL])))).is rfl
    | true =>
      rcases list45 hL with ⟨a, b, c, x, rfl⟩ | ⟨a, b, c, q, x, rfl⟩
      · cases hS : [a, b, c].all isiStr with
        | false =>
          refine hs_when (b := true) ?_ (fun _ => hs_ret xe_bl (g.is (by rw [entry4_no hS]))) (fun z => nomatch z)
          refine (xw_or (x := false) (y := true) ((xt_not (xt_val (x := true) ?_)).is rfl) fun _ => xw_or1 ((xt_not (xt_val (x := false) ?_)).is rfl)).t
          · exact (xe_call G1 (hr.mono (by decide)) F1.g F1.F.kp F1.b (xac (xv 0) (xac xe_int (xac xe_int xa0))) rfl ⟨4, 5, rfl, rfl⟩)
          · refine XE.is (d := .bool ([a, b, c].all isiStr)) ?_ (by rw [hS])
            exact xe_allF (n := "one") (j := 4) (g := isiStr) (ds := [a, b, c]) rfl B.all sc_isEntry.nd (xe_slice (xv 0) xo_none (xo_some (xe_neg xe_int))) (blkOk_by (N := ["value", "rule", "first", "second", "one"]) (sc := defScope sIsEntry) (by decide +kernel)) (fun _ _ _ _ _ => pg_name (i := 4) sc_isEntry.nd rfl (Or.inl rfl)) (fun s1 H1 C cl fp e he => xe_isi (kit_str e) B.isi B.str (by decide +kernel) (xv 4)) (by show 3 ≤ 90000; decide)
        | true =>
          refine hs_when (b := false) ?_ (fun z => nomatch z) fun _ => ?_
          · refine (xw_or (x := false) (y := false) ((xt_not (xt_val (x := true) ?_)).is rfl) fun _ => xw_or1 ((xt_not (xt_val (x := true) ?_)).is rfl)).t
            · exact (xe_call G1 (hr.mono (by decide)) F1.g F1.F.kp F1.b (xac (xv 0) (xac xe_int (xac xe_int xa0))) rfl ⟨4, 5, rfl, rfl⟩)
            · refine XE.is (d := .bool ([a, b, c].all isiStr)) ?_ (by rw [hS])
              exact xe_allF (n := "one") (j := 4) (g := isiStr) (ds := [a, b, c]) rfl B.all sc_isEntry.nd (xe_slice (xv 0) xo_none (xo_some (xe_neg xe_int))) (blkOk_by (N := ["value", "rule", "first", "second", "one"]) (sc := defScope sIsEntry) (by decide +kernel)) (fun _ _ _ _ _ => pg_name (i := 4) sc_isEntry.nd rfl (Or.inl rfl)) (fun s1 H1 C cl fp e he => xe_isi (kit_str e) B.isi B.str (by decide +kernel) (xv 4)) (by show 3 ≤ 90000; decide)
          have hS' := List.all_eq_true.mp hS
          obtain ⟨r, rfl⟩ := isiStr_str (hS' a (by simp))
          obtain ⟨f2s, rfl⟩ := isiStr_str (hS' b (by simp))
          obtain ⟨s2, rfl⟩ := isiStr_str (hS' c (by simp))
          cases hI : isInD x 1 7 with
          | false =>
            refine hs_when (b := true) ?_ (fun _ => hs_ret xe_bl (g.is (by show PyData.bool (isInD x 1 7 && entry4 r f2s s2) = _; rw [hI, Bool.false_and]))) (fun z => nomatch z)
            exact (xt_not (xt_val (x := false) (xe_call G2 (hr.mono (by decide)) F2.g F2.F.kp F2.b (xac (xe_ix ix_tup (rr_ixT (k := -1) (d := x) rfl) (xv 0) (xe_neg xe_int)) (xac xe_int (xac (xe_glob (v := .int 7) mApart ⟨ta, rfl⟩ fun _ _ => .int 7) xa0))) rfl ⟨1, 7, rfl, rfl⟩ (by show PyData.bool (isInD x 1 7) = _; rw [hI])))).is rfl
          | true =>
            have g : Gives (cxP P w K mg base ["value", "rule", "first", "second", "one"] "is_entry_in" sIsEntry f cdv A outer s H E) W (Is (.bool (entry4 r f2s s2))) D := g.is (by show PyData.bool (isInD x 1 7 && entry4 r f2s s2) = _; rw [hI, Bool.true_and])
            refine hs_when (b := false) ?_ (fun z => nomatch z) fun _ => ?_
            · exact (xt_not (xt_val (x := true) (xe_call G2 (hr.mono (by decide)) F2.g F2.F.kp F2.b (xac (xe_ix ix_tup (rr_ixT (k := -1) (d := x) rfl) (xv 0) (xe_neg xe_int)) (xac xe_int (xac (xe_glob (v := .int 7) mApart ⟨ta, rfl⟩ fun _ _ => .int 7) xa0))) rfl ⟨1, 7, rfl, rfl⟩ (by show PyData.bool (isInD x 1 7) = _; rw [hI])))).is rfl
            refine hs_unpack (is := [1, 2, 3]) (ds := [.str r, .str f2s, .str s2]) rfl (xe_slice (xv 0) xo_none (xo_some xe_int)) (pgs_cons (pg_name (i := 1) sc_isEntry.nd rfl (Or.inl rfl)) (pgs_cons (pg_name (i := 2) sc_isEntry.nd rfl (Or.inl rfl)) (pgs_cons (pg_name (i := 3) sc_isEntry.nd rfl (Or.inl rfl)) pgs_nil))) rfl ?_
            refine hs_when (b := false) ((xt_cmp (x := (4 : Int) == 5) op_eq rr_eqI (xe_len (ds := [.str r, .str f2s, .str s2, x]) (.inl rfl) B.len (xv 0)) xe_int).is rfl) (fun z => nomatch z) fun _ => ?_
            refine hs_when (b := eqS r "order") (xt_cmp op_eq rr_eqS (xv 1) xe_str) (fun h1 => ?_) fun h1 => ?_
            · refine hs_ret (xe_and (xe_cmp op_in_seq rr_inS (xv 2) (xe_glob (v := .ref wa) mW rfl dW) rfl) fun _ => xe_one (xe_cmp op_in_seq rr_inS (xv 3) (xe_glob (v := .ref wa) mW rfl dW) rfl)) (g.is ?_)
              show PyData.bool (entry4 r f2s s2) = .bool (inS writingL f2s && inS writingL s2)
              unfold entry4
              rw [if_pos h1]
            refine hs_when (b := eqS r "memory") (xt_cmp op_eq rr_eqS (xv 1) xe_str) (fun h2 => ?_) fun h2 => ?_
            · refine hs_ret (xe_cmp (op_inT hu65) (rr_inT (ds := memL) (sh_tup2 (lay_items hp (.str f2s) (List.mem_of_getElem? (i := 1) rfl)) (lay_items hp (.str s2) (List.mem_of_getElem? (i := 2) rfl))) (by decide +kernel)) (xe_tup (xac (xv 2) (xac (xv 3) xa0))) (xe_tup (xac (xe_tup (xac xe_str (xac xe_str xa0))) (xac (xe_tup (xac xe_str (xac xe_str xa0))) xa0))) rfl) (g.is ?_)
              show PyData.bool (entry4 r f2s s2) = .bool (inD memL (tup2 f2s s2))
              unfold entry4
              rw [if_neg (by rw [h1]; exact Bool.false_ne_true), if_pos h2]
            · refine hs_ret (xe_and (xe_cmp op_eq rr_eqS (xv 1) xe_str) fun _ => xe_and (xe_cmp op_in_seq (rr_inS (zs := jumpsL)) (xv 2) (xe_tup (xac xe_str (xac xe_str xa0))) rfl) fun _ => xe_one (xe_cmp op_in_seq rr_inS (xv 3) (xe_glob (v := .ref ea) mE rfl dE) rfl)) (g.is ?_)
              show PyData.bool (entry4 r f2s s2) = .bool (eqS r "wrong" && (inS jumpsL f2s && inS effectsL s2))
              unfold entry4
              rw [if_neg (by rw [h1]; exact Bool.false_ne_true), if_neg (by rw [h2]; exact Bool.false_ne_true)]
      · cases hS : [a, b, c, q].all isiStr with
        | false =>
          refine hs_when (b := true) ?_ (fun _ => hs_ret xe_bl (g.is (by rw [entry5_no hS]))) (fun z => nomatch z)
          refine (xw_or (x := false) (y := true) ((xt_not (xt_val (x := true) ?_)).is rfl) fun _ => xw_or1 ((xt_not (xt_val (x := false) ?_)).is rfl)).t
          · exact (xe_call G1 (hr.mono (by decide)) F1.g F1.F.kp F1.b (xac (xv 0) (xac xe_int (xac xe_int xa0))) rfl ⟨4, 5, rfl, rfl⟩)
          · refine XE.is (d := .bool ([a, b, c, q].all isiStr)) ?_ (by rw [hS])
            exact xe_allF (n := "one") (j := 4) (g := isiStr) (ds := [a, b, c, q]) rfl B.all sc_isEntry.nd (xe_slice (xv 0) xo_none (xo_some (xe_neg xe_int))) (blkOk_by (N := ["value", "rule", "first", "second", "one"]) (sc := defScope sIsEntry) (by decide +kernel)) (fun _ _ _ _ _ => pg_name (i := 4) sc_isEntry.nd rfl (Or.inl rfl)) (fun s1 H1 C cl fp e he => xe_isi (kit_str e) B.isi B.str (by decide +kernel) (xv 4)) (by show 4 ≤ 90000; decide)
        | true =>
          refine hs_when (b := false) ?_ (fun z => nomatch z) fun _ => ?_
          · refine (xw_or (x := false) (y := false) ((xt_not (xt_val (x := true) ?_)).is rfl) fun _ => xw_or1 ((xt_not (xt_val (x := true) ?_)).is rfl)).t
            · exact (xe_call G1 (hr.mono (by decide)) F1.g F1.F.kp F1.b (xac (xv 0) (xac xe_int (xac xe_int xa0))) rfl ⟨4, 5, rfl, rfl⟩)
            · refine XE.is (d := .bool ([a, b, c, q].all isiStr)) ?_ (by rw [hS])
              exact xe_allF (n := "one") (j := 4) (g := isiStr) (ds := [a, b, c, q]) rfl B.all sc_isEntry.nd (xe_slice (xv 0) xo_none (xo_some (xe_neg xe_int))) (blkOk_by (N := ["value", "rule", "first", "second", "one"]) (sc := defScope sIsEntry) (by decide +kernel)) (fun _ _ _ _ _ => pg_name (i := 4) sc_isEntry.nd rfl (Or.inl rfl)) (fun s1 H1 C cl fp e he => xe_isi (kit_str e) B.isi B.str (by decide +kernel) (xv 4)) (by show 4 ≤ 90000; decide)
          have hS' := List.all_eq_true.mp hS
          obtain ⟨r, rfl⟩ := isiStr_str (hS' a (by simp))
          obtain ⟨f2s, rfl⟩ := isiStr_str (hS' b (by simp))
          obtain ⟨s2, rfl⟩ := isiStr_str (hS' c (by simp))
          obtain ⟨q2, rfl⟩ := isiStr_str (hS' q (by simp))
          cases hI : isInD x 1 7 with
          | false =>
            refine hs_when (b := true) ?_ (fun _ => hs_ret xe_bl (g.is (by show PyData.bool (isInD x 1 7 && entry5 r f2s s2 q2) = _; rw [hI, Bool.false_and]))) (fun z => nomatch z)
            exact (xt_not (xt_val (x := false) (xe_call G2 (hr.mono (by decide)) F2.g F2.F.kp F2.b (xac (xe_ix ix_tup (rr_ixT (k := -1) (d := x) rfl) (xv 0) (xe_neg xe_int)) (xac xe_int (xac (xe_glob (v := .int 7) mApart ⟨ta, rfl⟩ fun _ _ => .int 7) xa0))) rfl ⟨1, 7, rfl, rfl⟩ (by show PyData.bool (isInD x 1 7) = _; rw [hI])))).is rfl
          | true =>
            have g : Gives (cxP P w K mg base ["value", "rule", "first", "second", "one"] "is_entry_in" sIsEntry f cdv A outer s H E) W (Is (.bool (entry5 r f2s s2 q2))) D := g.is (by show PyData.bool (isInD x 1 7 && entry5 r f2s s2 q2) = _; rw [hI, Bool.true_and])
            refine hs_when (b := false) ?_ (fun z => nomatch z) fun _ => ?_
            · exact (xt_not (xt_val (x := true) (xe_call G2 (hr.mono (by decide)) F2.g F2.F.kp F2.b (xac (xe_ix ix_tup (rr_ixT (k := -1) (d := x) rfl) (xv 0) (xe_neg xe_int)) (xac xe_int (xac (xe_glob (v := .int 7) mApart ⟨ta, rfl⟩ fun _ _ => .int 7) xa0))) rfl ⟨1, 7, rfl, rfl⟩ (by show PyData.bool (isInD x 1 7) = _; rw [hI])))).is rfl
            refine hs_unpack (is := [1, 2, 3]) (ds := [.str r, .str f2s, .str s2]) rfl (xe_slice (xv 0) xo_none (xo_some xe_int)) (pgs_cons (pg_name (i := 1) sc_isEntry.nd rfl (Or.inl rfl)) (pgs_cons (pg_name (i := 2) sc_isEntry.nd rfl (Or.inl rfl)) (pgs_cons (pg_name (i := 3) sc_isEntry.nd rfl (Or.inl rfl)) pgs_nil))) rfl ?_
            refine hs_when (b := true) ((xt_cmp (x := (5 : Int) == 5) op_eq rr_eqI (xe_len (ds := [.str r, .str f2s, .str s2, .str q2, x]) (.inl rfl) B.len (xv 0)) xe_int).is rfl) (fun _ => ?_) (fun z => nomatch z)
            refine hs_ret (xe_and (xe_cmp op_eq rr_eqS (xv 1) xe_str) fun _ => xe_and (xe_cmp op_in_seq rr_inS (xv 2) (xe_glob (v := .ref wa) mW rfl dW) rfl) fun _ => xe_one ?_) g
            exact xe_cmp (op_inT hu65) (rr_inT (sh_tup2 (lay_items hp (.str s2) (List.mem_of_getElem? (i := 2) rfl)) (lay_items hp (.str q2) (List.mem_of_getElem? (i := 3) rfl))) (by decide +kernel)) (xe_tup (xac (xv 3) (xac (xe_ix ix_tup (rr_ixT (ix_nat (k := 3) rfl)) (xv 0) xe_int) xa0))) (xe_glob (v := .ref ua) mU rfl dU) rfl
end
end SB

namespace SB
open PySem PySem.Spec PyProof.Rows L2
/-! ### waits -/
def areWaitsD (d : PyData) : Bool := isiTup d && (allD isEntryD d && risesD d)
def isTxt : Key → Bool
  | .inl _ => false
  | .inr _ => true
theorem like_of {x y : Key} (h : isTxt x = isTxt y) : likeK x y = true := by
  cases x with
  | inl a =>
    cases y with
    | inl b => rfl
    | inr b => cases h
  | inr a =>
    cases y with
    | inl b => cases h
    | inr b => rfl
theorem comp_of : ∀ {ks ms : List Key}, ks.map isTxt = ms.map isTxt → compK ks ms = true
  | [], _, _ => by unfold compK; rfl
  | _ :: _, [], _ => by unfold compK; rfl
  | x :: xs, y :: ys, h => by
    rw [List.map_cons, List.map_cons] at h
    injection h with h1 h2
    by_cases e : x = y
    · rw [compK_eq e]
      exact comp_of h2
    · rw [compK_ne e]
      exact like_of h1
theorem isInD_int {d : PyData} {lo hi : Int} (h : isInD d lo hi = true) : ∃ i, d = .int i := by
  have h0 : (isIntD d && betw d lo hi) = true := h
  rw [Bool.and_eq_true] at h0
  exact isIntD_int h0.1
/-- an entry's keys: five from "value" on, four from another word on -/
theorem isEntryD_keys {d : PyData} (h : isEntryD d = true) : (∃ f s i, ∃ r : Str, r ≠ "value" ∧ d = .tuple (([Sum.inr r, Sum.inr f, Sum.inr s, Sum.inl i] : List Key).map keyD)) ∨ ∃ f s q i, d = .tuple (([Sum.inr ("value" : Str), Sum.inr f, Sum.inr s, Sum.inr q, Sum.inl i] : List Key).map keyD) := by
  unfold isEntryD at h
  split at h
  · rename_i r f s x
    rw [Bool.and_eq_true] at h
    obtain ⟨i, rfl⟩ := isInD_int h.1
    refine .inl ⟨f, s, i, r, fun e => ?_, rfl⟩
    subst e
    exact absurd (show (if eqS "value" "order" = true then _ else if eqS "value" "memory" = true then _ else eqS "value" "wrong" && _) = true from h.2) (by
      rw [if_neg (by decide +kernel), if_neg (by decide +kernel), show eqS "value" "wrong" = false by decide +kernel, Bool.false_and]
      decide)
  · rename_i r f s q x
    rw [Bool.and_eq_true] at h
    obtain ⟨i, rfl⟩ := isInD_int h.1
    have h2 : (eqS r "value" && _) = true := h.2
    rw [Bool.and_eq_true] at h2
    have e : r = "value" := eq_of_beq h2.1
    subst e
    exact .inr ⟨f, s, q, i, rfl⟩
  · cases h
theorem entries_pre {ds : List PyData} (h : ds.all isEntryD = true) (hl : ds.length ≤ 1000) : preRise (.tuple ds) := by
  have h0 := List.all_eq_true.mp h
  refine ⟨ds, rfl, hl, fun e he => ?_, fun e he f hf => ?_⟩
  · rcases isEntryD_keys (h0 e he) with ⟨_, _, _, _, _, e1⟩ | ⟨_, _, _, _, e1⟩
    · exact ⟨_, e1⟩
    · exact ⟨_, e1⟩
  · rcases isEntryD_keys (h0 e he) with ⟨_, _, _, r, n, e1⟩ | ⟨_, _, _, _, e1⟩
    · rcases isEntryD_keys (h0 f hf) with ⟨_, _, _, r', n', e2⟩ | ⟨_, _, _, _, e2⟩
      · rw [e1, e2, keysOf_keys, keysOf_keys]
        exact comp_of rfl
      · rw [e1, e2, keysOf_keys, keysOf_keys, compK_ne (fun z => n (Sum.inr.inj z))]
        rfl
    · rcases isEntryD_keys (h0 f hf) with ⟨_, _, _, r', n', e2⟩ | ⟨_, _, _, _, e2⟩
      · rw [e1, e2, keysOf_keys, keysOf_keys, compK_ne (fun z => n' (Sum.inr.inj z).symm)]
        rfl
      · rw [e1, e2, keysOf_keys, keysOf_keys]
        exact comp_of rfl
theorem depth_item {d : PyData} : ∀ {ds : List PyData}, d ∈ ds → d.depth ≤ PyData.depthAll ds
  | x :: ds, h => by
    have e : PyData.depthAll (x :: ds) = max x.depth (PyData.depthAll ds) := rfl
    rw [e]
    rcases List.mem_cons.mp h with h | h
    · rw [h]
      exact Nat.le_max_left _ _
    · exact Nat.le_trans (depth_item h) (Nat.le_max_right _ _)
theorem sh_item {d : PyData} {ds : List PyData} (h : SeqAt.shaped (.tuple ds) = true) (hd : d ∈ ds) : SeqAt.shaped d = true := by
  have h1 := lay_items h d hd
  have h2 := SeqAt.depth_of_shaped h
  have h3 := depth_item hd
  have e : (PyData.tuple ds).depth = PyData.depthAll ds + 1 := rfl
  unfold SeqAt.shaped
  rw [h1, decide_eq_true (by omega)]
  rfl
section
variable {P : Program} {w : World} {K : Frag} {mg : Str → Option Value} {base : Heap} {f f1 f2 f3 f4 f5 : Addr} {fd fd1 fd2 fd3 fd4 fd5 : FuncData}
theorem sc_areWaits : FnScope ["value", "one"] ["value"] (defScope sAreWaits) := ⟨rfl, rfl, rfl, by decide +kernel, rfl, by decide +kernel, by decide +kernel⟩
abbrev spAreWaits (K : Frag) : Sp := spF K 1 (fun ds => lenD (ds.getD 0 .none) ≤ 1000 ∧ SeqAt.shaped (ds.getD 0 .none) = true) fun ds => .bool (areWaitsD (ds.getD 0 .none))
theorem ok_areWaits (B : Blt mg) (F1 : Fn K mg "is_entry_in" sIsEntry ["value"] f1 fd1) (G1 : FnOk P w K mg base CX0 3 f1 fd1 ["value"] (spIsEntry K)) (F2 : Fn K mg "rises" sRises ["some"] f2 fd2) (G2 : FnOk P w K mg base CX0 1 f2 fd2 ["some"] (spRises K))
    (F : Fn K mg "are_waits" sAreWaits ["value"] f fd) : FnOk P w K mg base CX0 4 f fd ["value"] (spAreWaits K) := by
  refine ok_pure F.F sc_areWaits rfl fun cdv A outer s H E W ds D hr hl hp g => ?_
  match ds, hl with
  | [d], _ =>
    obtain ⟨hp, hs⟩ := hp
    have hp : lenD d ≤ 1000 := hp
    have hs : SeqAt.shaped d = true := hs
    refine hs_ret (xe_and (y := allD isEntryD d && risesD d) ?_ fun hx => ?_) g
    · exact xe_isi (kit_tup d) B.isi B.tuple (by decide +kernel) (xv 0)
    · obtain ⟨es, rfl⟩ := isiTup_tup hx
      have hle : es.length ≤ 1000 := by
        have : (es.length : Int) ≤ 1000 := hp
        omega
      refine xe_and ?_ fun hall => ?_
      · refine xe_allF (n := "one") (j := 1) (g := isEntryD) rfl B.all sc_areWaits.nd (xv 0) (blkOk_by (N := ["value", "one"]) (sc := defScope sAreWaits) (by decide +kernel)) (fun _ _ _ _ _ => pg_name (i := 1) sc_areWaits.nd rfl (Or.inl rfl)) (fun s1 H1 C cl fp e he => ?_) (by omega)
        exact xe_call G1 hr F1.g F1.F.kp F1.b (xac (xv 1) xa0) rfl (sh_item hs he)
      · exact xe_one (xe_call G2 (hr.mono (by decide)) F2.g F2.F.kp F2.b (xac (xv 0) xa0) rfl (entries_pre hall hle))
end
/-! ### places -/
def manyN (k : Nat) : Int := [2, 3, 3, 3, 3, 2, 1, 2].getD k 0
def okPl (k : Nat) (d : PyData) : Bool := isListD d (manyN k) (manyN k) && allD isPlaceD d
def shapeD (d : PyData) : Bool := isListD d 8 8 && (List.range 8).all fun k => okPl k (itemD d k)
def atD (e : PyData) (j : Nat) : Int := intOf (itemD e j)
def triD (r : Int) (e : PyData) : Bool := decide (r ≤ atD e 0) && (decide (atD e 0 ≤ atD e 1) && decide (atD e 1 < atD e 2))
def stoD (r m : Int) (e : PyData) : Bool := decide (r ≤ intOf e) && decide (intOf e < m)
def headB (r : Int) (d : PyData) : Bool := decide (r < atD (itemD d 0) 1) && (decide (atD (itemD d 0) 0 < atD (itemD d 0) 1) && ((decide (r ≤ atD (itemD d 5) 0) && decide (atD (itemD d 5) 0 ≤ atD (itemD d 5) 1)) && (decide (r ≤ atD (itemD d 7) 0) && decide (atD (itemD d 7) 0 ≤ atD (itemD d 7) 1))))
def orderB (r : Int) (d : PyData) : Bool := headB r d && ([itemD d 1, itemD d 2, itemD d 3].all (triD r) && [itemD (itemD d 4) 0, itemD (itemD d 4) 1].all (stoD r (atD (itemD d 4) 2)))
def arePlacesD (r d : PyData) : Bool := shapeD d && orderB (intOf r) d
theorem okPl1 {d : PyData} {k : Nat} (h : okPl k d = true) (hk : manyN k = 1) : ∃ a : Int, d = .tuple [.int a] ∧ (0 ≤ a ∧ a ≤ 7) := by
  unfold okPl at h
  rw [Bool.and_eq_true, hk] at h
  obtain ⟨ds, rfl, hl⟩ := isListD_len (n := 1) h.1
  have h2 := List.all_eq_true.mp h.2
  match ds, hl, h2 with
  | [a], _, h2 =>
    obtain ⟨i, rfl, hi⟩ := isPlaceD_int (h2 a (by simp))
    exact ⟨i, rfl, hi⟩
theorem okPl2 {d : PyData} {k : Nat} (h : okPl k d = true) (hk : manyN k = 2) : ∃ a b : Int, d = .tuple [.int a, .int b] ∧ (0 ≤ a ∧ a ≤ 7) ∧ (0 ≤ b ∧ b ≤ 7) := by
  unfold okPl at h
  rw [Bool.and_eq_true, hk] at h
  obtain ⟨ds, rfl, hl⟩ := isListD_len (n := 2) h.1
  have h2 := List.all_eq_true.mp h.2
  match ds, hl, h2 with
  | [a, b], _, h2 =>
    obtain ⟨i, rfl, hi⟩ := isPlaceD_int (h2 a (by simp))
    obtain ⟨j, rfl, hj⟩ := isPlaceD_int (h2 b (by simp))
    exact ⟨i, j, rfl, hi, hj⟩
theorem okPl3 {d : PyData} {k : Nat} (h : okPl k d = true) (hk : manyN k = 3) : ∃ a b c : Int, d = .tuple [.int a, .int b, .int c] ∧ (0 ≤ a ∧ a ≤ 7) ∧ (0 ≤ b ∧ b ≤ 7) ∧ (0 ≤ c ∧ c ≤ 7) := by
  unfold okPl at h
  rw [Bool.and_eq_true, hk] at h
  obtain ⟨ds, rfl, hl⟩ := isListD_len (n := 3) h.1
  have h2 := List.all_eq_true.mp h.2
  match ds, hl, h2 with
  | [a, b, c], _, h2 =>
    obtain ⟨i, rfl, hi⟩ := isPlaceD_int (h2 a (by simp))
    obtain ⟨j, rfl, hj⟩ := isPlaceD_int (h2 b (by simp))
    obtain ⟨k, rfl, hk⟩ := isPlaceD_int (h2 c (by simp))
    exact ⟨i, j, k, rfl, hi, hj, hk⟩
theorem shape_all {d : PyData} (h : shapeD d = true) : ∃ a0 a1 b0 b1 b2 c0 c1 c2 e0 e1 e2 s0 s1 s2 z0 z1 g0 u0 u1 : Int, d = .tuple [.tuple [.int a0, .int a1], .tuple [.int b0, .int b1, .int b2], .tuple [.int c0, .int c1, .int c2], .tuple [.int e0, .int e1, .int e2], .tuple [.int s0, .int s1, .int s2], .tuple [.int z0, .int z1], .tuple [.int g0], .tuple [.int u0, .int u1]] := by
  unfold shapeD at h
  rw [Bool.and_eq_true] at h
  obtain ⟨ds, rfl, hl⟩ := isListD_len (n := 8) h.1
  have h2 : ∀ k < 8, okPl k (itemD (.tuple ds) k) = true := fun k hk => List.all_eq_true.mp h.2 k (List.mem_range.mpr hk)
  match ds, hl, h2 with
  | [t0, t1, t2, t3, t4, t5, t6, t7], _, h2 =>
    obtain ⟨a0, a1, e, _⟩ := okPl2 (h2 0 (by decide)) rfl
    have e : t0 = _ := e
    subst e
    obtain ⟨b0, b1, b2, e, _⟩ := okPl3 (h2 1 (by decide)) rfl
    have e : t1 = _ := e
    subst e
    obtain ⟨c0, c1, c2, e, _⟩ := okPl3 (h2 2 (by decide)) rfl
    have e : t2 = _ := e
    subst e
    obtain ⟨e0, e1, e2, e, _⟩ := okPl3 (h2 3 (by decide)) rfl
    have e : t3 = _ := e
    subst e
    obtain ⟨s0, s1, s2, e, _⟩ := okPl3 (h2 4 (by decide)) rfl
    have e : t4 = _ := e
    subst e
    obtain ⟨z0, z1, e, _⟩ := okPl2 (h2 5 (by decide)) rfl
    have e : t5 = _ := e
    subst e
    obtain ⟨g0, e, _⟩ := okPl1 (h2 6 (by decide)) rfl
    have e : t6 = _ := e
    subst e
    obtain ⟨u0, u1, e, _⟩ := okPl2 (h2 7 (by decide)) rfl
    have e : t7 = _ := e
    subst e
    exact ⟨a0, a1, b0, b1, b2, c0, c1, c2, e0, e1, e2, s0, s1, s2, z0, z1, g0, u0, u1, rfl⟩
section
variable {X : Cx} {W : Wd} {Γ : Gm} {a b c : Expr} {pos : Pos}
theorem xt_chain {op op' : CmpOp} {g g' : Int → Int → Bool} {i j k : Int} (ho : OpR X (compareOp op) (rI0 fun i j => .bl (g i j))) (ho' : OpR X (compareOp op') (rI0 fun i j => .bl (g' i j))) (ha : XE X W Γ a (Is (.int i))) (hb : XE X W Γ b (Is (.int j))) (hc : XE X W Γ c (Is (.int k)))
    (hm : lastMarks [op, op'] [b, c] = false := by with_unfolding_all rfl) : XT X W Γ (.Compare a [op, op'] [b, c] pos) (g i j && g' j k) := pt_imp (pt_chain ho ho' ha hb hc hm) fun σ H Q ⟨T, R⟩ => ⟨T, fun v z H1 pz rz e1 j1 =>
      ⟨T.mono e1 j1, fun u y H2 py ry e2 j2 => by
    subst pz py
    cases rz
    cases ry
    refine ⟨i, j, rfl, rfl, _, rfl, ?_⟩
    cases hg : g i j with
    | true =>
      rw [if_pos rfl]
      exact ⟨T.mono (e1.trans e2) j2, fun w x H3 px rx e3 j3 => by
        subst px
        cases rx
        have q := R H3 ((e1.trans e2).trans e3) j3
        rw [hg, Bool.true_and] at q
        exact ⟨j, k, rfl, rfl, _, rfl, q⟩⟩
    | false =>
      rw [if_neg Bool.false_ne_true]
      have q := R H2 (e1.trans e2) j2
      rw [hg, Bool.false_and] at q
      exact ⟨_, rfl, q⟩⟩⟩
theorem Tp.unset {K : Frag} {σ : L2.St} {H : Hp} {i : Nat} {x : Option Dv} (T : Tp K W (Γ.set i x) σ H) (h : Γ[i]? = some Option.none) : Tp K W Γ σ H := T.weak (by rw [List.length_set]) fun j y e => by
  by_cases q : i = j
  · subst q
    rw [h] at e
    cases e
  · rw [List.getElem?_set_ne q]
    exact e
end
end SB

namespace SB
open PySem PySem.Spec PyProof.Rows L2
def isDesignD (d : PyData) : Bool := match d with
  | .tuple [r, b, ps, pa, wa] => isPlaceD r && (isiBool b && (arePlacesD r ps && (arePathsD pa && areWaitsD wa)))
  | _ => false
section
variable {P : Program} {w : World} {K : Frag} {mg : Str → Option Value} {base : Heap} {f f1 f2 f3 f4 f5 : Addr} {fd fd1 fd2 fd3 fd4 fd5 : FuncData}
abbrev nArePlaces : List Str := ["read", "places", "index", "many", "own", "sums", "mul", "load", "store", "zero", "go", "out", "one"]
theorem sc_arePlaces : FnScope nArePlaces ["read", "places"] (defScope sArePlaces) := ⟨rfl, rfl, rfl, by decide +kernel, rfl, by decide +kernel, by decide +kernel⟩
abbrev spArePlaces (K : Frag) : Sp := spF K 2 (fun ds => ∃ r, ds.getD 0 .none = .int r) fun ds => .bool (arePlacesD (ds.getD 0 .none) (ds.getD 1 .none))
theorem ok_arePlaces (B : Blt mg) (C : Cst K mg) (F1 : Fn K mg "is_list" sIsList ["value", "least", "most"] f1 fd1) (G1 : FnOk P w K mg base CX0 1 f1 fd1 ["value", "least", "most"] (spIsList K)) (F2 : Fn K mg "is_place" sIsPlace ["value"] f2 fd2) (G2 : FnOk P w K mg base CX0 3 f2 fd2 ["value"] (spIsPlace K))
    (F : Fn K mg "are_places" sArePlaces ["read", "places"] f fd) : FnOk P w K mg base CX0 4 f fd ["read", "places"] (spArePlaces K) := by
  refine ok_pure F.F sc_arePlaces rfl fun cdv A outer s H E W ds D hr hl hp g => ?_
  obtain ⟨na, ns, mN, dN, hlens, htups⟩ := C.names
  match ds, hl with
  | [rd, d], _ =>
    obtain ⟨r, e⟩ := hp
    have e : rd = .int r := e
    subst e
    have g : Gives (cxP P w K mg base nArePlaces "are_places" sArePlaces f cdv A outer s H E) W (Is (.bool (shapeD d && orderB r d))) D := g
    have hns : ns.length = 8 := by
      have := congrArg List.length hlens
      rw [List.length_map] at this
      exact this
    have nm : ∀ i : Nat, i < 8 → ∃ ts, ns[i]? = some (.tuple ts) ∧ (ts.length : Int) - 1 = manyN i := fun i hi => by
      have h1 : i < ns.length := by omega
      have h2 := List.all_eq_true.mp htups ns[i] (List.getElem_mem h1)
      obtain ⟨ts, ets⟩ := isiTup_tup h2
      refine ⟨ts, by rw [List.getElem?_eq_getElem h1, ets], ?_⟩
      have h3 : (ns.map lenD)[i]? = some (lenD ns[i]) := by rw [List.getElem?_map, List.getElem?_eq_getElem h1]; rfl
      rw [hlens, ets] at h3
      have h4 : ([3, 4, 4, 4, 4, 3, 2, 3] : List Int)[i]? = some (ts.length : Int) := h3
      match i, hi, h4 with
      | 0, _, h4 => have := Option.some.inj h4; show (ts.length : Int) - 1 = 2; omega
      | 1, _, h4 => have := Option.some.inj h4; show (ts.length : Int) - 1 = 3; omega
      | 2, _, h4 => have := Option.some.inj h4; show (ts.length : Int) - 1 = 3; omega
      | 3, _, h4 => have := Option.some.inj h4; show (ts.length : Int) - 1 = 3; omega
      | 4, _, h4 => have := Option.some.inj h4; show (ts.length : Int) - 1 = 3; omega
      | 5, _, h4 => have := Option.some.inj h4; show (ts.length : Int) - 1 = 2; omega
      | 6, _, h4 => have := Option.some.inj h4; show (ts.length : Int) - 1 = 1; omega
      | 7, _, h4 => have := Option.some.inj h4; show (ts.length : Int) - 1 = 2; omega
    cases hL : isListD d 8 8 with
    | false =>
      refine hs_when (b := true) ?_ (fun _ => hs_ret xe_bl (g.is (by unfold shapeD; rw [hL, Bool.false_and, Bool.false_and]))) (fun z => nomatch z)
      exact (xt_not (xt_val (x := false) (xe_call G1 (hr.mono (by decide)) F1.g F1.F.kp F1.b (xac (xv 1) (xac ((xe_len (.inl rfl) B.len (xe_glob (v := .ref na) mN rfl dN)).is (d' := .int 8) (by rw [hns]; rfl)) (xac ((xe_len (.inl rfl) B.len (xe_glob (v := .ref na) mN rfl dN)).is (d' := .int 8) (by rw [hns]; rfl)) xa0))) rfl ⟨8, 8, rfl, rfl⟩ (by show PyData.bool (isListD d 8 8) = _; rw [hL])))).is rfl
    | true =>
      obtain ⟨ts, rfl, hts⟩ := isListD_len (n := 8) hL
      refine hs_when (b := false) ?_ (fun z => nomatch z) fun _ => ?_
      · exact (xt_not (xt_val (x := true) (xe_call G1 (hr.mono (by decide)) F1.g F1.F.kp F1.b (xac (xv 1) (xac ((xe_len (.inl rfl) B.len (xe_glob (v := .ref na) mN rfl dN)).is (d' := .int 8) (by rw [hns]; rfl)) (xac ((xe_len (.inl rfl) B.len (xe_glob (v := .ref na) mN rfl dN)).is (d' := .int 8) (by rw [hns]; rfl)) xa0))) rfl ⟨8, 8, rfl, rfl⟩ (by show PyData.bool (isListD (.tuple ts) 8 8) = _; rw [hL])))).is rfl
      refine hs_range (j := 2) (m := 8) (fun i => ∀ k < i, okPl k (itemD (.tuple ts) k) = true) rfl PassesOwn.never sc_arePlaces.nd B.range ?_ (by decide) (fun k hk => absurd hk (Nat.not_lt_zero k)) (fun i hi hpure => ?_) fun hall => ?_
      · exact xac (d := .int 8) ((xe_len (.inl rfl) B.len (xe_glob (v := .ref na) mN rfl dN)).is (by rw [hns]; rfl)) xa0
      · obtain ⟨nt, hnt, hmany⟩ := nm i hi
        have hti : ts[i]? = some (itemD (.tuple ts) i) := by
          show ts[i]? = some (ts.getD i .none)
          rw [List.getD_eq_getElem?_getD, List.getElem?_eq_getElem (by omega)]
          rfl
        refine hs_set (i := 3) (P := Is (.int (manyN i))) ?_ (fun y hy => ?_) sc_arePlaces.nd
        · exact (xe_op op_sub rr_I0 (xe_len (.inl rfl) B.len (xe_ix ix_tup (rr_ixT (ix_nat hnt)) (xe_glob (v := .ref na) mN rfl dN) (xv 2))) xe_int).is (by rw [hmany])
        subst hy
        have okItem : ∀ {p q q2 : Pos}, XE (cxP P w K mg base nArePlaces "are_places" sArePlaces f cdv A outer s H E) W (((gOf nArePlaces [.int r, .tuple ts]).set 2 (some (.d (.int (i : Int))))).set 3 (some (.d (.int (manyN i))))) (.Subscript (.Name "places" p) (.Name "index" q) q2) (Is (itemD (.tuple ts) i)) :=
          fun {p q q2} => xe_ix ix_tup (rr_ixT (ix_nat hti)) (xv 1) (xv 2)
        have okMany : ∀ {b : Bool}, isListD (itemD (.tuple ts) i) (manyN i) (manyN i) = b → PyData.bool (isListD (itemD (.tuple ts) i) (manyN i) (manyN i)) = .bool b := fun h => by rw [h]
        cases h1 : isListD (itemD (.tuple ts) i) (manyN i) (manyN i) with
        | false =>
          have hno : shapeD (.tuple ts) = false := by
            unfold shapeD
            rw [Bool.and_eq_false_iff]
            refine .inr (List.all_eq_false.mpr ⟨i, List.mem_range.mpr hi, ?_⟩)
            unfold okPl
            rw [h1, Bool.false_and]
            exact Bool.false_ne_true
          refine hs_when (b := true) ?_ (fun _ => hs_ret xe_bl (g.is (by rw [hno, Bool.false_and]))) (fun z => nomatch z)
          refine (xw_or (x := true) (y := true) ?_ (fun z => nomatch z)).t
          exact (xt_not (xt_val (x := false) (xe_call G1 (hr.mono (by decide)) F1.g F1.F.kp F1.b (xac okItem (xac (xv 3) (xac (xv 3) xa0))) rfl ⟨_, _, rfl, rfl⟩ (okMany h1)))).is rfl
        | true =>
          have hm : ∃ n : Nat, manyN i = (n : Int) := by
            match i, hi with
            | 0, _ => exact ⟨2, rfl⟩
            | 1, _ => exact ⟨3, rfl⟩
            | 2, _ => exact ⟨3, rfl⟩
            | 3, _ => exact ⟨3, rfl⟩
            | 4, _ => exact ⟨3, rfl⟩
            | 5, _ => exact ⟨2, rfl⟩
            | 6, _ => exact ⟨1, rfl⟩
            | 7, _ => exact ⟨2, rfl⟩
          obtain ⟨n, hn⟩ := hm
          have hn4 : n ≤ 100 := by
            have : manyN i ≤ 3 := by
              match i, hi with
              | 0, _ => decide
              | 1, _ => decide
              | 2, _ => decide
              | 3, _ => decide
              | 4, _ => decide
              | 5, _ => decide
              | 6, _ => decide
              | 7, _ => decide
            omega
          have h1' := h1
          rw [hn] at h1'
          obtain ⟨es, hes, hlen⟩ := isListD_len h1'
          have okAll : ∀ {b : Bool}, allD isPlaceD (itemD (.tuple ts) i) = b → es.all isPlaceD = b := fun h => by
            rw [hes] at h
            exact h
          rw [hes] at okItem
          cases h2 : allD isPlaceD (itemD (.tuple ts) i) with
          | false =>
            have hno : shapeD (.tuple ts) = false := by
              unfold shapeD
              rw [Bool.and_eq_false_iff]
              refine .inr (List.all_eq_false.mpr ⟨i, List.mem_range.mpr hi, ?_⟩)
              unfold okPl
              rw [h2, Bool.and_false]
              exact Bool.false_ne_true
            refine hs_when (b := true) ?_ (fun _ => hs_ret xe_bl (g.is (by rw [hno, Bool.false_and]))) (fun z => nomatch z)
            refine (xw_or (x := false) (y := true) ((xt_not (xt_val (x := true) ?_)).is rfl) fun _ => xw_or1 ((xt_not (xt_val (x := false) ?_)).is rfl)).t
            · exact xe_call G1 (hr.mono (by decide)) F1.g F1.F.kp F1.b (xac okItem (xac (xv 3) (xac (xv 3) xa0))) rfl ⟨_, _, rfl, rfl⟩ (by rw [hes] at okMany; exact okMany (by rw [hes] at h1; exact h1))
            · refine XE.is (d := .bool (es.all isPlaceD)) ?_ (by rw [okAll h2])
              exact xe_allF (n := "one") (j := 12) (g := isPlaceD) (ds := es) rfl B.all sc_arePlaces.nd okItem (blkOk_by (N := nArePlaces) (sc := defScope sArePlaces) (by decide +kernel)) (fun _ _ _ _ _ => pg_name (i := 12) sc_arePlaces.nd rfl (Or.inl rfl))
                (fun s1 H1 C cl fp e he => xe_call G2 hr F2.g F2.F.kp F2.b (xac (xv 12) xa0) rfl trivial) (by omega)
          | true =>
            refine hs_when (b := false) ?_ (fun z => nomatch z) fun _ => HS.nil fun σ' H' T => ⟨fun k hk => ?_, (T.unset rfl).unset rfl⟩
            · refine (xw_or (x := false) (y := false) ((xt_not (xt_val (x := true) ?_)).is rfl) fun _ => xw_or1 ((xt_not (xt_val (x := true) ?_)).is rfl)).t
              · exact xe_call G1 (hr.mono (by decide)) F1.g F1.F.kp F1.b (xac okItem (xac (xv 3) (xac (xv 3) xa0))) rfl ⟨_, _, rfl, rfl⟩ (by rw [hes] at okMany; exact okMany (by rw [hes] at h1; exact h1))
              · refine XE.is (d := .bool (es.all isPlaceD)) ?_ (by rw [okAll h2])
                exact xe_allF (n := "one") (j := 12) (g := isPlaceD) (ds := es) rfl B.all sc_arePlaces.nd okItem (blkOk_by (N := nArePlaces) (sc := defScope sArePlaces) (by decide +kernel)) (fun _ _ _ _ _ => pg_name (i := 12) sc_arePlaces.nd rfl (Or.inl rfl))
                  (fun s1 H1 C cl fp e he => xe_call G2 hr F2.g F2.F.kp F2.b (xac (xv 12) xa0) rfl trivial) (by omega)
            · rcases Nat.lt_or_ge k i with hki | hki
              · exact hpure k hki
              · have e : k = i := by omega
                subst e
                unfold okPl
                rw [h1, h2]
                rfl
      -- all have their places
      have hsh : shapeD (.tuple ts) = true := by
        unfold shapeD
        rw [hL, Bool.true_and]
        exact List.all_eq_true.mpr fun k hk => hall k (List.mem_range.mp hk)
      obtain ⟨a0, a1, b0, b1, b2, c0, c1, c2, e0, e1, e2, s0, s1, s2, z0, z1, g0, u0, u1, hts2⟩ := shape_all hsh
      rw [hsh, Bool.true_and] at g
      cases hts2
      refine hs_unpack (is := [4, 5, 6, 7, 8, 9, 10, 11]) rfl (xv 1) (pgs_cons (pg_name (i := 4) sc_arePlaces.nd rfl (Or.inl rfl)) (pgs_cons (pg_name (i := 5) sc_arePlaces.nd rfl (Or.inl rfl)) (pgs_cons (pg_name (i := 6) sc_arePlaces.nd rfl (Or.inl rfl)) (pgs_cons (pg_name (i := 7) sc_arePlaces.nd rfl (Or.inl rfl)) (pgs_cons (pg_name (i := 8) sc_arePlaces.nd rfl (Or.inr rfl)) (pgs_cons (pg_name (i := 9) sc_arePlaces.nd rfl (Or.inl rfl)) (pgs_cons (pg_name (i := 10) sc_arePlaces.nd rfl (Or.inl rfl)) (pgs_cons (pg_name (i := 11) sc_arePlaces.nd rfl (Or.inl rfl)) pgs_nil)))))))) rfl ?_
      refine hs_when (b := !headB r (.tuple [.tuple [.int a0, .int a1], .tuple [.int b0, .int b1, .int b2], .tuple [.int c0, .int c1, .int c2], .tuple [.int e0, .int e1, .int e2], .tuple [.int s0, .int s1, .int s2], .tuple [.int z0, .int z1], .tuple [.int g0], .tuple [.int u0, .int u1]])) ?_ (fun hb => hs_ret xe_bl (g.is ?_)) fun hb => ?_
      · refine xt_not (XW.t ?_)
        refine xw_and (xt_cmp op_lt rr_B0 (xv 0) (xe_ix ix_tup (rr_ixT (ix_nat (k := 1) rfl)) (xv 4) xe_int)) fun _ => ?_
        refine xw_and (xt_cmp op_lt rr_B0 (xe_ix ix_tup (rr_ixT (ix_nat (k := 0) rfl)) (xv 4) xe_int) (xe_ix ix_tup (rr_ixT (ix_nat (k := 1) rfl)) (xv 4) xe_int)) fun _ => ?_
        refine xw_and (xt_chain op_le op_le (xv 0) (xe_ix ix_tup (rr_ixT (ix_nat (k := 0) rfl)) (xv 9) xe_int) (xe_ix ix_tup (rr_ixT (ix_nat (k := 1) rfl)) (xv 9) xe_int)) fun _ => ?_
        exact xw_and1 (xt_chain op_le op_le (xv 0) (xe_ix ix_tup (rr_ixT (ix_nat (k := 0) rfl)) (xv 11) xe_int) (xe_ix ix_tup (rr_ixT (ix_nat (k := 1) rfl)) (xv 11) xe_int))
      · unfold orderB
        rw [Bool.not_eq_true'] at hb
        rw [hb, Bool.false_and]
      · rw [Bool.not_eq_false'] at hb
        have g : Gives (cxP P w K mg base nArePlaces "are_places" sArePlaces f cdv A outer s H E) W (Is (.bool ([.tuple [.int b0, .int b1, .int b2], .tuple [.int c0, .int c1, .int c2], .tuple [.int e0, .int e1, .int e2]].all (triD r) && [PyData.int s0, .int s1].all (stoD r s2)))) D := g.is (by
          unfold orderB
          rw [hb, Bool.true_and]
          rfl)
        refine hs_when (b := !([PyData.tuple [.int b0, .int b1, .int b2], .tuple [.int c0, .int c1, .int c2], .tuple [.int e0, .int e1, .int e2]].all (triD r))) ?_ (fun hb2 => hs_ret xe_bl (g.is ?_)) fun hb2 => ?_
        · refine xt_not (xt_val ?_)
          refine xe_allF (n := "one") (j := 12) (g := triD r) rfl B.all sc_arePlaces.nd (xe_tup (xac (xv 5) (xac (xv 6) (xac (xv 7) xa0)))) (blkOk_by (N := nArePlaces) (sc := defScope sArePlaces) (by decide +kernel)) (fun _ _ _ _ _ => pg_name (i := 12) sc_arePlaces.nd rfl (Or.inl rfl)) (fun s1 H1 C cl fp e he => ?_) (by simp)
          have he3 : ∃ x y z : Int, e = .tuple [.int x, .int y, .int z] := by
            rcases List.mem_cons.mp he with h | he
            · exact ⟨_, _, _, h⟩
            rcases List.mem_cons.mp he with h | he
            · exact ⟨_, _, _, h⟩
            rcases List.mem_cons.mp he with h | he
            · exact ⟨_, _, _, h⟩
            · cases he
          obtain ⟨x, y, z, rfl⟩ := he3
          exact xe_chain3 op_le op_le op_lt (xv 0) (xe_ix ix_tup (rr_ixT (ix_nat (k := 0) rfl)) (xv 12) xe_int) (xe_ix ix_tup (rr_ixT (ix_nat (k := 1) rfl)) (xv 12) xe_int) (xe_ix ix_tup (rr_ixT (ix_nat (k := 2) rfl)) (xv 12) xe_int)
        · rw [Bool.not_eq_true'] at hb2
          rw [hb2, Bool.false_and]
        · rw [Bool.not_eq_false'] at hb2
          refine hs_ret (P := Is (.bool ([PyData.int s0, .int s1].all (stoD r s2)))) ?_ (g.is (by rw [hb2, Bool.true_and]))
          refine xe_allF (n := "one") (j := 12) (g := stoD r s2) rfl B.all sc_arePlaces.nd (xe_slice (xv 8) xo_none (xo_some xe_int)) (blkOk_by (N := nArePlaces) (sc := defScope sArePlaces) (by decide +kernel)) (fun _ _ _ _ _ => pg_name (i := 12) sc_arePlaces.nd rfl (Or.inl rfl)) (fun s1 H1 C cl fp e he => ?_) (by simp)
          have he1 : ∃ x : Int, e = .int x := by
            rcases List.mem_cons.mp he with h | he
            · exact ⟨_, h⟩
            rcases List.mem_cons.mp he with h | he
            · exact ⟨_, h⟩
            · cases he
          obtain ⟨x, rfl⟩ := he1
          exact xe_chain op_le op_lt (xv 0) (xv 12) (xe_ix ix_tup (rr_ixT (ix_nat (k := 2) rfl)) (xv 8) xe_int)
/-! ### designs -/
theorem sc_isDesign : FnScope ["value"] ["value"] (defScope sIsDesign) := ⟨rfl, rfl, rfl, by decide +kernel, rfl, by decide +kernel, by decide +kernel⟩
def preDes (d : PyData) : Prop := SeqAt.shaped d = true ∧ lenD (itemD d 3) ≤ 1000 ∧ lenD (itemD d 4) ≤ 1000
abbrev spIsDesign (K : Frag) : Sp := spF K 1 (fun ds => preDes (ds.getD 0 .none)) fun ds => .bool (isDesignD (ds.getD 0 .none))
theorem isDesign_five {d : PyData} (h : isListD d 5 5 = false) : isDesignD d = false := by
  unfold isDesignD
  split
  · exact absurd (show true = false from h) (by decide)
  · rfl
theorem list5 {d : PyData} (h : isListD d 5 5 = true) : ∃ r b ps pa wa, d = .tuple [r, b, ps, pa, wa] := by
  obtain ⟨ds, rfl, hl⟩ := isListD_len (n := 5) h
  match ds, hl with
  | [r, b, ps, pa, wa], _ => exact ⟨r, b, ps, pa, wa, rfl⟩
theorem isiBool_bool {d : PyData} (h : isiBool d = true) : ∃ x, d = .bool x := by
  cases d with
  | bool x => exact ⟨x, rfl⟩
  | str x => exact nomatch h
  | int i => exact nomatch h
  | none => exact nomatch h
  | list s => exact nomatch h
  | tuple s => exact nomatch h
  | dict s => exact nomatch h
theorem ok_isDesign (B : Blt mg) (F1 : Fn K mg "is_list" sIsList ["value", "least", "most"] f1 fd1) (G1 : FnOk P w K mg base CX0 1 f1 fd1 ["value", "least", "most"] (spIsList K)) (F2 : Fn K mg "is_place" sIsPlace ["value"] f2 fd2) (G2 : FnOk P w K mg base CX0 3 f2 fd2 ["value"] (spIsPlace K))
    (F3 : Fn K mg "are_places" sArePlaces ["read", "places"] f3 fd3) (G3 : FnOk P w K mg base CX0 4 f3 fd3 ["read", "places"] (spArePlaces K)) (F4 : Fn K mg "are_paths" sArePaths ["value"] f4 fd4) (G4 : FnOk P w K mg base CX0 5 f4 fd4 ["value"] (spArePaths K))
    (F5 : Fn K mg "are_waits" sAreWaits ["value"] f5 fd5) (G5 : FnOk P w K mg base CX0 4 f5 fd5 ["value"] (spAreWaits K)) (F : Fn K mg "is_design" sIsDesign ["value"] f fd) : FnOk P w K mg base CX0 6 f fd ["value"] (spIsDesign K) := by
  refine ok_pure F.F sc_isDesign rfl fun cdv A outer s H E W ds D hr hl hp g => ?_
  match ds, hl with
  | [d], _ =>
    have g : Gives (cxP P w K mg base ["value"] "is_design" sIsDesign f cdv A outer s H E) W (Is (.bool (isDesignD d))) D := g
    have hp : preDes d := hp
    cases hL : isListD d 5 5 with
    | false =>
      refine hs_when (b := true) ?_ (fun _ => hs_ret xe_bl (g.is (by rw [isDesign_five hL]))) (fun z => nomatch z)
      refine (xw_or (x := true) (y := true) ?_ (fun z => nomatch z)).t
      exact (xt_not (xt_val (x := false) (xe_call G1 (hr.mono (by decide)) F1.g F1.F.kp F1.b (xac (xv 0) (xac xe_int (xac xe_int xa0))) rfl ⟨5, 5, rfl, rfl⟩ (by show PyData.bool (isListD d 5 5) = _; rw [hL])))).is rfl
    | true =>
      obtain ⟨r, b, ps, pa, wa, rfl⟩ := list5 hL
      have okR : ∀ {k : Bool}, isPlaceD r = k → PyData.bool (isPlaceD r) = .bool k := fun h => by rw [h]
      cases h1 : isPlaceD r with
      | false =>
        refine hs_when (b := true) ?_ (fun _ => hs_ret xe_bl (g.is (by show PyData.bool (isPlaceD r && _) = _; rw [h1, Bool.false_and]))) (fun z => nomatch z)
        refine (xw_or (x := false) (y := true) ((xt_not (xt_val (x := true) ?_)).is rfl) fun _ => xw_or (x := true) (y := true) ((xt_not (xt_val (x := false) ?_)).is rfl) fun z => nomatch z).t
        · exact xe_call G1 (hr.mono (by decide)) F1.g F1.F.kp F1.b (xac (xv 0) (xac xe_int (xac xe_int xa0))) rfl ⟨5, 5, rfl, rfl⟩
        · exact xe_call G2 (hr.mono (by decide)) F2.g F2.F.kp F2.b (xac (xe_ix ix_tup (rr_ixT (ix_nat (k := 0) (d := r) rfl)) (xv 0) xe_int) xa0) rfl trivial (okR h1)
      | true =>
        cases h2 : isiBool b with
        | false =>
          refine hs_when (b := true) ?_ (fun _ => hs_ret xe_bl (g.is (by show PyData.bool (isPlaceD r && (isiBool b && _)) = _; rw [h2, Bool.false_and, Bool.and_false]))) (fun z => nomatch z)
          refine (xw_or (x := false) (y := true) ((xt_not (xt_val (x := true) ?_)).is rfl) fun _ => xw_or (x := false) (y := true) ((xt_not (xt_val (x := true) ?_)).is rfl) fun _ => xw_or1 ((xt_not (xt_val (x := false) ?_)).is rfl)).t
          · exact xe_call G1 (hr.mono (by decide)) F1.g F1.F.kp F1.b (xac (xv 0) (xac xe_int (xac xe_int xa0))) rfl ⟨5, 5, rfl, rfl⟩
          · exact xe_call G2 (hr.mono (by decide)) F2.g F2.F.kp F2.b (xac (xe_ix ix_tup (rr_ixT (ix_nat (k := 0) (d := r) rfl)) (xv 0) xe_int) xa0) rfl trivial (okR h1)
          · exact xe_isi ((kit_bool b).trans (by rw [h2])) B.isi B.bool (by decide +kernel) (xe_ix ix_tup (rr_ixT (ix_nat (k := 1) (d := b) rfl)) (xv 0) xe_int)
        | true =>
          refine hs_when (b := false) ?_ (fun z => nomatch z) fun _ => ?_
          · refine (xw_or (x := false) (y := false) ((xt_not (xt_val (x := true) ?_)).is rfl) fun _ => xw_or (x := false) (y := false) ((xt_not (xt_val (x := true) ?_)).is rfl) fun _ => xw_or1 ((xt_not (xt_val (x := true) ?_)).is rfl)).t
            · exact xe_call G1 (hr.mono (by decide)) F1.g F1.F.kp F1.b (xac (xv 0) (xac xe_int (xac xe_int xa0))) rfl ⟨5, 5, rfl, rfl⟩
            · exact xe_call G2 (hr.mono (by decide)) F2.g F2.F.kp F2.b (xac (xe_ix ix_tup (rr_ixT (ix_nat (k := 0) (d := r) rfl)) (xv 0) xe_int) xa0) rfl trivial (okR h1)
            · exact xe_isi ((kit_bool b).trans (by rw [h2])) B.isi B.bool (by decide +kernel) (xe_ix ix_tup (rr_ixT (ix_nat (k := 1) (d := b) rfl)) (xv 0) xe_int)
          obtain ⟨i, rfl, _⟩ := isPlaceD_int h1
          refine hs_ret (xe_and (x := arePlacesD (.int i) ps) (y := arePathsD pa && areWaitsD wa) ?_ fun _ => xe_and (x := arePathsD pa) (y := areWaitsD wa) ?_ fun _ => xe_one ?_) (g.is (by show PyData.bool (isPlaceD (.int i) && (isiBool b && _)) = _; rw [h1, h2, Bool.true_and, Bool.true_and]))
          · exact xe_call G3 (hr.mono (by decide)) F3.g F3.F.kp F3.b (xac (xe_ix ix_tup (rr_ixT (ix_nat (k := 0) rfl)) (xv 0) xe_int) (xac (xe_ix ix_tup (rr_ixT (ix_nat (k := 2) rfl)) (xv 0) xe_int) xa0)) rfl ⟨i, rfl⟩
          · exact xe_call G4 hr F4.g F4.F.kp F4.b (xac (xe_ix ix_tup (rr_ixT (ix_nat (k := 3) rfl)) (xv 0) xe_int) xa0) rfl hp.2.1
          · exact xe_call G5 (hr.mono (by decide)) F5.g F5.F.kp F5.b (xac (xe_ix ix_tup (rr_ixT (ix_nat (k := 4) rfl)) (xv 0) xe_int) xa0) rfl ⟨hp.2.2, sh_item hp.1 (List.mem_of_getElem? (i := 4) rfl)⟩
end
end SB

/-! The defs that raise. -/
namespace SB
open PySem PySem.Spec PyProof.Rows L2
abbrev sNeed : Stmt := topS 24
abbrev sWithWaits : Stmt := topS 30
abbrev sWithPaths : Stmt := topS 31
abbrev sOpenEntries : Stmt := topS 38
abbrev sIsRight : Stmt := topS 39
abbrev bm4 : List Value := [.type "ValueError", .type "Exception", .type "BaseException", .type "object"]
structure ErrC (K : Frag) (mg : Str → Option Value) (x : Str) (C : Addr) : Prop where
  g : mg x = some (.ref C)
  ex : PySem.W.excIn K C bm4 "ValueError.__new__" = true
  kp : PySem.W.keepIn K (.ref C) = true
  sub : PySem.W.subIn K (.ref C) (.type "BaseException") = some true
  ty : PySem.W.typeIn K (.ref C) = some (.type "type")
section
variable {X : Cx} {W : Wd} {Γ : Gm} {e : Expr} {es : List Expr} {k n : Nat} {f C : Addr} {fd : FuncData} {ps : List Str} {x : Str} {p pos : Pos} {pre : List PyData → Prop} {ds : List PyData} {rest : List Stmt} {D : Ends} {Pre : L2.St → Hp → Prop}
theorem pmk_own0 (T : ErrC X.K X.mg x C) (hg : Gl X x := by rfl) (hdb : (x == ("__debug__" : Str)) = false := by decide) : PMk X (.Call (.Name x p) [] [] pos) (fun _ H Q => Q (.ref C) none H) := by
  intro pins s σ H Q I h
  refine wpAny_Call_Name_kw (ld_glob I hg T.g ?_ hdb)
  obtain ⟨bm, N, nm, qn, bs, hdct, sn, sub, ab, col, dd, k0, k1, k2, k3, k5, mN, hC, hN, hni, OT⟩ := exc_obj I.kIn T.ex
  refine PySem.W.callWith_K0 I.kIn T.kp ?_
  show wpAny _ _ (call (.ref C) []) _ _ _
  refine wpAny_call_exc_subT PySem.F.excBase_ValueError OT hC hN hni (fun h' e hm => ?_) (Nat.zero_le _)
  exact mk_of I hm (raises_own T.sub T.ty) h (I.hok.gone hm.new)
/-- raise X() -/
theorem hs_raise {E : XK} {pos2 : Pos} (hc : X.calm = true) (tk : Takes X (fun cls d _ H => E cls d H)) (T : ErrC X.K X.mg x C) (h : ∀ σ H, Pre σ H → E (.ref C) none H) (hg : Gl X x := by rfl) (hdb : (x == ("__debug__" : Str)) = false := by decide) : HS X Pre (.Raise (some (.Call (.Name x p) [] [] pos)) none pos2 :: rest) D :=
  HS.cons (Mid := fun _ _ => False) (ps_raise hc tk (pmk_own0 T hg hdb)) (fun σ H q => h σ H q) (HS.never (rest := rest))
/-- data, or an exception of the class at C -/
def spE (K : Frag) (n : Nat) (pre : List PyData → Prop) (g : List PyData → PyData ⊕ Addr) : Sp := fun vs H Q E => ∃ (W : Wd) (ds : List PyData), W.J H ∧ DwA K W.S H vs ds ∧ ds.length = n ∧ pre ds ∧
  (∀ d, g ds = .inl d → Ret K W H (Is d) Q) ∧ (∀ C, g ds = .inr C → ∀ H2, Er W.S H H2 → W.J H2 → E (.ref C) none H2)
variable {g : List PyData → PyData ⊕ Addr}
theorem pe_callE {E : XK} (F : FnOk X.prog X.w X.K X.mg X.base (L2.CX X.prog X.w) k f fd ps (spE X.K n pre g)) (hr : Room k X.A) (hm : X.mg x = some (.ref f)) (hk : PySem.W.keepIn X.K (.ref f) = true) (hb : L2.Binds X.K fd ps []) (hx : Passes (L2.CX X.prog X.w) X E) (ha : XA X W Γ (e :: es) (IsA ds)) (hl : ds.length = n) (hp : pre ds)
    (hg : Gl X x := by rfl) (hdb : (x == ("__debug__" : Str)) = false := by decide) (he : starEach (e :: es) X.env = (false, eval e X.env) :: starEach es X.env := by rfl) (hpl : (backTo pos (starEach es X.env)).any (·.1) = false := by rfl) :
    PE X (.Call (.Name x p) (e :: es) [] pos) (fun σ H Q => Tp X.K W Γ σ H ∧ (∀ d, g ds = .inl d → Ret X.K W H (Is d) Q) ∧ ∀ C, g ds = .inr C → ∀ H2, Er W.S H H2 → W.J H2 → E (.ref C) none H2) :=
  pe_imp (pe_call F hr hg hm hk hb .nil hx ha hdb he hpl) fun σ H Q ⟨T, R, RE⟩ => ⟨T, fun vs xs H2 ps' rs e2 j2 => by
    show spE X.K n pre g (vs ++ []) H2 Q E
    rw [List.append_nil]
    exact ⟨W, ds, j2, VRA.dwa (ps' ▸ rs), hl, hp, fun d hd => (R d hd).later e2, fun C hC H3 e3 j3 => RE C hC H3 (e2.trans e3) j3⟩⟩
/-- the call as a statement -/
theorem hs_callE {E : XK} (F : FnOk X.prog X.w X.K X.mg X.base (L2.CX X.prog X.w) k f fd ps (spE X.K n pre g)) (hr : Room k X.A) (hm : X.mg x = some (.ref f)) (hk : PySem.W.keepIn X.K (.ref f) = true) (hb : L2.Binds X.K fd ps []) (hx : Passes (L2.CX X.prog X.w) X E) (ha : XA X W Γ (e :: es) (IsA ds)) (hl : ds.length = n) (hp : pre ds)
    (hE : ∀ C, g ds = .inr C → ∀ H2, W.J H2 → E (.ref C) none H2) (h : ∀ d, g ds = .inl d → HS X (Tp X.K W Γ) rest D) {pos2 : Pos} (hg : Gl X x := by rfl) (hdb : (x == ("__debug__" : Str)) = false := by decide) (he : starEach (e :: es) X.env = (false, eval e X.env) :: starEach es X.env := by rfl)
    (hpl : (backTo pos (starEach es X.env)).any (·.1) = false := by rfl) (hs : swapsWith (.Call (.Name x p) (e :: es) [] pos) none pos2.line X.env = pure false := by rfl) : HS X (Tp X.K W Γ) (.Expr (.Call (.Name x p) (e :: es) [] pos) pos2 :: rest) D :=
  HS.cons (Mid := fun σ H => ∃ d, g ds = .inl d ∧ Tp X.K W Γ σ H) (ps_expr (pe_callE F hr hm hk hb hx ha hl hp hg hdb he hpl) hs) (fun σ H T => ⟨T, fun d hd v y H2 py ry e2 j2 => ⟨d, hd, T.mono e2 j2⟩, fun C hC H2 e2 j2 => hE C hC H2 j2⟩) (HS.ex fun d => HS.and fun hd => h d hd)
end
section
variable {P : Program} {w : World} {K : Frag} {mg : Str → Option Value} {base : Heap} {x qual : Str} {st : Stmt} {f : Addr} {fd : FuncData} {N ps : List Str} {k n : Nat} {pre : List PyData → Prop} {g : List PyData → PyData ⊕ Addr}
abbrev cxR (P : Program) (w : World) (K : Frag) (mg : Str → Option Value) (base : Heap) (N : List Str) (qual : Str) (st : Stmt) (f : Addr) (cdv : Value) (A : Around) (outer : List Env) (s : Shared) (H : Hp) (E : XK) : Cx :=
  cxOf (L2.CX P w) P w K mg base N qual (defScope st) f cdv A outer s H E
theorem cxR_takes {cdv : Value} {A : Around} {outer : List Env} {s : Shared} {H : Hp} {E : XK} : Takes (cxR P w K mg base N qual st f cdv A outer s H E) (fun cls d _ H => E cls d H) := takes_of rfl rfl rfl rfl
theorem cxR_passes {cdv : Value} {A : Around} {outer : List Env} {s : Shared} {H : Hp} {E : XK} : Passes (L2.CX P w) (cxR P w K mg base N qual st f cdv A outer s H E) E := passes_call cxR_takes fun _ _ _ _ h => h
theorem ok_raise (F : Fun K x qual st f fd) (S : FnScope N ps (defScope st)) (hn : ps.length = n)
    (hbody : ∀ (cdv : Value) (A : Around) (outer : List Env) (s : Shared) (H : Hp) (E : XK) (W : Wd) (ds : List PyData) (D : Ends), Room k (A.deeper (envOfC qual (defScope st) s.heap.objs.size f cdv)) → ds.length = n → pre ds →
      (∀ d, g ds = .inl d → Gives (cxR P w K mg base N qual st f cdv A outer s H E) W (Is d) D) → (∀ C, g ds = .inr C → ∀ H2, W.J H2 → E (.ref C) none H2) → (∀ σ H, D.rt .non H → D.nx σ H) → HS (cxR P w K mg base N qual st f cdv A outer s H E) (Tp K W (gOf N ds)) (defBody st) D) :
    FnOk P w K mg base (L2.CX P w) (k + 1) f fd ps (spE K n pre g) := by
  refine F.okX S (fun vs H Q E h => ?_) (fun cdv A outer s H vs Q E hr h => ?_)
  · obtain ⟨W, ds, _, w, l, _⟩ := h
    rw [w.length, l, hn]
  · obtain ⟨W, ds, j, w', l, hp, R, RE⟩ := h
    have hb := hbody cdv A outer s H E (W.from H) ds { nx := fun _ H' => Q .non H', rt := Q } hr l hp (fun d hd v y H2 py ry jy => R d hd v y H2 py ry jy.2 jy.1) (fun C hC H2 j2 => RE C hC H2 j2.2 j2.1) (fun _ _ h => h)
    exact ⟨_, hb.pss, rfl, tp_start (W := W.from H) ⟨j, Er.refl H⟩ w'⟩
end
/-! ### need_design, with_waits, with_paths, open_entries, is_right -/
section
variable {P : Program} {w : World} {K : Frag} {mg : Str → Option Value} {base : Heap} {f f1 f2 f3 f4 f5 CD CW : Addr} {fd fd1 fd2 fd3 fd4 fd5 : FuncData}
theorem sc_need : FnScope ["design"] ["design"] (defScope sNeed) := ⟨rfl, rfl, rfl, by decide +kernel, rfl, by decide +kernel, by decide +kernel⟩
def needG (CD : Addr) (ds : List PyData) : PyData ⊕ Addr := if isDesignD (ds.getD 0 .none) = true then .inl .none else .inr CD
abbrev spNeed (K : Frag) (CD : Addr) : Sp := spE K 1 (fun ds => preDes (ds.getD 0 .none)) (needG CD)
theorem ok_need (T : ErrC K mg "BadDesign" CD) (F1 : Fn K mg "is_design" sIsDesign ["value"] f1 fd1) (G1 : FnOk P w K mg base CX0 6 f1 fd1 ["value"] (spIsDesign K)) (F : Fn K mg "need_design" sNeed ["design"] f fd) : FnOk P w K mg base (L2.CX P w) 7 f fd ["design"] (spNeed K CD) := by
  refine ok_raise F.F sc_need rfl fun cdv A outer s H E W ds D hr hl hp g gE gN => ?_
  match ds, hl with
  | [d], _ =>
    have hp : preDes d := hp
    cases h : isDesignD d with
    | true =>
      have e : needG CD [d] = .inl .none := if_pos h
      refine hs_when (b := false) ((xt_not (xt_val (x := true) (xe_call G1 hr F1.g F1.F.kp F1.b (xac (xv 0) xa0) rfl hp (by show PyData.bool (isDesignD d) = _; rw [h])))).is rfl) (fun z => nomatch z) fun _ => HS.nil fun σ' H' T' => gN σ' H' (g .none e .non (.d .none) H' rfl Dw.non T'.j)
    | false =>
      have e : needG CD [d] = .inr CD := if_neg (by show ¬ isDesignD d = true; rw [h]; exact Bool.false_ne_true)
      refine hs_when (b := true) ((xt_not (xt_val (x := false) (xe_call G1 hr F1.g F1.F.kp F1.b (xac (xv 0) xa0) rfl hp (by show PyData.bool (isDesignD d) = _; rw [h])))).is rfl) (fun _ => ?_) (fun z => nomatch z)
      exact hs_raise rfl cxR_takes T fun σ' H' T' => gE CD e H' T'.j
theorem design_five {d : PyData} (h : isDesignD d = true) : ∃ r b ps pa wa, d = .tuple [r, b, ps, pa, wa] := by
  unfold isDesignD at h
  split at h
  · exact ⟨_, _, _, _, _, rfl⟩
  · cases h
def itemsD : PyData → List PyData
  | .tuple ds => ds
  | _ => []
def small (d : PyData) : Prop := lenD d ≤ 1000 ∧ SeqAt.shaped d = true
theorem sc_withWaits : FnScope ["design", "waits"] ["design", "waits"] (defScope sWithWaits) := ⟨rfl, rfl, rfl, by decide +kernel, rfl, by decide +kernel, by decide +kernel⟩
def waitsG (CD CW : Addr) (ds : List PyData) : PyData ⊕ Addr := if isDesignD (ds.getD 0 .none) = true then (if areWaitsD (ds.getD 1 .none) = true then .inl (.tuple ((itemsD (ds.getD 0 .none)).take 4 ++ [ds.getD 1 .none])) else .inr CW) else .inr CD
abbrev spWithWaits (K : Frag) (CD CW : Addr) : Sp := spE K 2 (fun ds => preDes (ds.getD 0 .none) ∧ small (ds.getD 1 .none)) (waitsG CD CW)
theorem ok_withWaits (T : ErrC K mg "BadWaits" CW) (F1 : Fn K mg "need_design" sNeed ["design"] f1 fd1) (G1 : FnOk P w K mg base (L2.CX P w) 7 f1 fd1 ["design"] (spNeed K CD)) (F2 : Fn K mg "are_waits" sAreWaits ["value"] f2 fd2) (G2 : FnOk P w K mg base CX0 4 f2 fd2 ["value"] (spAreWaits K))
    (F : Fn K mg "with_waits" sWithWaits ["design", "waits"] f fd) : FnOk P w K mg base (L2.CX P w) 8 f fd ["design", "waits"] (spWithWaits K CD CW) := by
  refine ok_raise F.F sc_withWaits rfl fun cdv A outer s H E W ds D hr hl hp g gE gN => ?_
  match ds, hl with
  | [d, wt], _ =>
    obtain ⟨hp, hs⟩ := hp
    have hp : preDes d := hp
    have hs : small wt := hs
    refine hs_callE G1 hr F1.g F1.F.kp F1.b cxR_passes (xac (xv 0) xa0) rfl hp (fun C hC H2 j2 => gE C ?_ H2 j2) fun y hy => ?_
    · have hC : (if isDesignD d = true then Sum.inl PyData.none else Sum.inr CD) = Sum.inr C := hC
      show (if isDesignD d = true then _ else Sum.inr CD) = Sum.inr C
      by_cases h : isDesignD d = true
      · rw [if_pos h] at hC
        cases hC
      · rw [if_neg h] at hC ⊢
        exact hC
    · have hy : (if isDesignD d = true then Sum.inl PyData.none else Sum.inr CD) = Sum.inl y := hy
      have hd : isDesignD d = true := by
        by_cases h : isDesignD d = true
        · exact h
        · rw [if_neg h] at hy
          cases hy
      cases h : areWaitsD wt with
      | true =>
        obtain ⟨r, b, ps, pa, wa, rfl⟩ := design_five hd
        have e : waitsG CD CW [.tuple [r, b, ps, pa, wa], wt] = .inl (.tuple [r, b, ps, pa, wt]) := (if_pos hd).trans (if_pos h)
        refine hs_when (b := false) ((xt_not (xt_val (x := true) (xe_call G2 (hr.mono (by decide)) F2.g F2.F.kp F2.b (xac (xv 1) xa0) rfl hs (by show PyData.bool (areWaitsD wt) = _; rw [h])))).is rfl) (fun z => nomatch z) fun _ => ?_
        exact hs_ret (xe_op op_catA (rr_cat (ds := [r, b, ps, pa]) (ys := [wt]) (by simp)) (xe_slice (xv 0) xo_none (xo_some xe_int)) (xe_tup (xac (xv 1) xa0))) (g _ e)
      | false =>
        have e : waitsG CD CW [d, wt] = .inr CW := (if_pos hd).trans (if_neg (by show ¬ areWaitsD wt = true; rw [h]; exact Bool.false_ne_true))
        refine hs_when (b := true) ((xt_not (xt_val (x := false) (xe_call G2 (hr.mono (by decide)) F2.g F2.F.kp F2.b (xac (xv 1) xa0) rfl hs (by show PyData.bool (areWaitsD wt) = _; rw [h])))).is rfl) (fun _ => ?_) (fun z => nomatch z)
        exact hs_raise rfl cxR_takes T fun σ' H' T' => gE CW e H' T'.j
theorem sc_withPaths : FnScope ["design", "paths"] ["design", "paths"] (defScope sWithPaths) := ⟨rfl, rfl, rfl, by decide +kernel, rfl, by decide +kernel, by decide +kernel⟩
def pathsG (CD CW : Addr) (ds : List PyData) : PyData ⊕ Addr := if isDesignD (ds.getD 0 .none) = true then (if arePathsD (ds.getD 1 .none) = true then .inl (.tuple ((itemsD (ds.getD 0 .none)).take 3 ++ [ds.getD 1 .none, itemD (ds.getD 0 .none) 4])) else .inr CW) else .inr CD
abbrev spWithPaths (K : Frag) (CD CW : Addr) : Sp := spE K 2 (fun ds => preDes (ds.getD 0 .none) ∧ lenD (ds.getD 1 .none) ≤ 1000) (pathsG CD CW)
theorem ok_withPaths (T : ErrC K mg "BadPaths" CW) (F1 : Fn K mg "need_design" sNeed ["design"] f1 fd1) (G1 : FnOk P w K mg base (L2.CX P w) 7 f1 fd1 ["design"] (spNeed K CD)) (F2 : Fn K mg "are_paths" sArePaths ["value"] f2 fd2) (G2 : FnOk P w K mg base CX0 5 f2 fd2 ["value"] (spArePaths K))
    (F : Fn K mg "with_paths" sWithPaths ["design", "paths"] f fd) : FnOk P w K mg base (L2.CX P w) 8 f fd ["design", "paths"] (spWithPaths K CD CW) := by
  refine ok_raise F.F sc_withPaths rfl fun cdv A outer s H E W ds D hr hl hp g gE gN => ?_
  match ds, hl with
  | [d, wt], _ =>
    obtain ⟨hp, hs⟩ := hp
    have hp : preDes d := hp
    have hs : lenD wt ≤ 1000 := hs
    refine hs_callE G1 hr F1.g F1.F.kp F1.b cxR_passes (xac (xv 0) xa0) rfl hp (fun C hC H2 j2 => gE C ?_ H2 j2) fun y hy => ?_
    · have hC : (if isDesignD d = true then Sum.inl PyData.none else Sum.inr CD) = Sum.inr C := hC
      show (if isDesignD d = true then _ else Sum.inr CD) = Sum.inr C
      by_cases h : isDesignD d = true
      · rw [if_pos h] at hC
        cases hC
      · rw [if_neg h] at hC ⊢
        exact hC
    · have hy : (if isDesignD d = true then Sum.inl PyData.none else Sum.inr CD) = Sum.inl y := hy
      have hd : isDesignD d = true := by
        by_cases h : isDesignD d = true
        · exact h
        · rw [if_neg h] at hy
          cases hy
      cases h : arePathsD wt with
      | true =>
        obtain ⟨r, b, ps, pa, wa, rfl⟩ := design_five hd
        have e : pathsG CD CW [.tuple [r, b, ps, pa, wa], wt] = .inl (.tuple [r, b, ps, wt, wa]) := (if_pos hd).trans (if_pos h)
        refine hs_when (b := false) ((xt_not (xt_val (x := true) (xe_call G2 (hr.mono (by decide)) F2.g F2.F.kp F2.b (xac (xv 1) xa0) rfl hs (by show PyData.bool (arePathsD wt) = _; rw [h])))).is rfl) (fun z => nomatch z) fun _ => ?_
        exact hs_ret (xe_op op_catA (rr_cat (ds := [r, b, ps]) (ys := [wt, wa]) (by simp)) (xe_slice (xv 0) xo_none (xo_some xe_int)) (xe_tup (xac (xv 1) (xac (xe_ix ix_tup (rr_ixT (ix_nat (k := 4) rfl)) (xv 0) xe_int) xa0)))) (g _ e)
      | false =>
        have e : pathsG CD CW [d, wt] = .inr CW := (if_pos hd).trans (if_neg (by show ¬ arePathsD wt = true; rw [h]; exact Bool.false_ne_true))
        refine hs_when (b := true) ((xt_not (xt_val (x := false) (xe_call G2 (hr.mono (by decide)) F2.g F2.F.kp F2.b (xac (xv 1) xa0) rfl hs (by show PyData.bool (arePathsD wt) = _; rw [h])))).is rfl) (fun _ => ?_) (fun z => nomatch z)
        exact hs_raise rfl cxR_takes T fun σ' H' T' => gE CW e H' T'.j
/-- a def that needs a design, asked of what is none -/
abbrev spNone (K : Frag) (CD : Addr) : Sp := spE K 1 (fun ds => preDes (ds.getD 0 .none) ∧ isDesignD (ds.getD 0 .none) = false) (fun _ => .inr CD)
theorem need_none {d : PyData} {CD : Addr} (h : isDesignD d = false) : needG CD [d] = .inr CD := if_neg (by show ¬ isDesignD d = true; rw [h]; exact Bool.false_ne_true)
theorem sc_openEntries : FnScope ["design"] ["design"] (defScope sOpenEntries) := ⟨rfl, rfl, rfl, by decide +kernel, rfl, by decide +kernel, by decide +kernel⟩
theorem ok_openEntries (F1 : Fn K mg "need_design" sNeed ["design"] f1 fd1) (G1 : FnOk P w K mg base (L2.CX P w) 7 f1 fd1 ["design"] (spNeed K CD)) (F : Fn K mg "open_entries" sOpenEntries ["design"] f fd) : FnOk P w K mg base (L2.CX P w) 8 f fd ["design"] (spNone K CD) := by
  refine ok_raise F.F sc_openEntries rfl fun cdv A outer s H E W ds D hr hl hp g gE gN => ?_
  match ds, hl with
  | [d], _ =>
    obtain ⟨hp, hs⟩ := hp
    have hs : isDesignD d = false := hs
    refine hs_callE G1 hr F1.g F1.F.kp F1.b cxR_passes (xac (xv 0) xa0) rfl hp (fun C hC H2 j2 => gE C ?_ H2 j2) fun y hy => ?_
    · rw [need_none hs] at hC
      exact hC
    · rw [need_none hs] at hy
      cases hy
theorem sc_isRight : FnScope ["design"] ["design"] (defScope sIsRight) := ⟨rfl, rfl, rfl, by decide +kernel, rfl, by decide +kernel, by decide +kernel⟩
theorem ok_isRight (F1 : Fn K mg "need_design" sNeed ["design"] f1 fd1) (G1 : FnOk P w K mg base (L2.CX P w) 7 f1 fd1 ["design"] (spNeed K CD)) (F : Fn K mg "is_right" sIsRight ["design"] f fd) : FnOk P w K mg base (L2.CX P w) 8 f fd ["design"] (spNone K CD) := by
  refine ok_raise F.F sc_isRight rfl fun cdv A outer s H E W ds D hr hl hp g gE gN => ?_
  match ds, hl with
  | [d], _ =>
    obtain ⟨hp, hs⟩ := hp
    have hs : isDesignD d = false := hs
    refine hs_callE G1 hr F1.g F1.F.kp F1.b cxR_passes (xac (xv 0) xa0) rfl hp (fun C hC H2 j2 => gE C ?_ H2 j2) fun y hy => ?_
    · rw [need_none hs] at hC
      exact hC
    · rw [need_none hs] at hy
      cases hy
end
end SB

/-! The draws. -/
namespace SB
open PySem PySem.Spec PyProof.Rows L2
abbrev sTaken : Stmt := topS 41
abbrev sPick : Stmt := topS 42
abbrev sAlike : Stmt := topS 43
abbrev sUp : Stmt := topS 44
abbrev sLDesign : Stmt := topS 45
abbrev sLEntries : Stmt := topS 46
abbrev sMore : Stmt := topS 47
abbrev sWrong : Stmt := topS 48
abbrev sFits : Stmt := topS 49
abbrev sLaw : Stmt := topS 50
def rowO (sa : Addr) (i g c : Int) : HO := .lst [.ref sa, .int i, .int g, .int c]
structure RowW (K : Frag) (W : Wd) (r sa : Addr) (ns : List Int) : Prop where
  s : W.S r
  at_ : ∀ H, W.J H → ∃ i g c : Int, 0 ≤ i ∧ 0 ≤ g ∧ g < 2147483647 ∧ 0 ≤ c ∧ H r = some (rowO sa i g c)
  put : ∀ (H : Hp) (i g c : Int), W.J H → 0 ≤ i → 0 ≤ g → g < 2147483647 → 0 ≤ c → W.J (upd H r (rowO sa i g c))
  scr : ∀ H, W.J H → SqL K H sa (ns.map V.int)
  up : ∀ (H : Hp) (o : HO), SqL K H sa (ns.map V.int) → SqL K (upd H r o) sa (ns.map V.int)
theorem er_at {S : ASet} {H : Hp} {r : Addr} {o : HO} (h : S r) : Er S H (upd H r o) := fun a u n e => by
  rw [upd_ne (fun z => n (by rw [z]; exact h))]
  exact e
def spTaken (K : Frag) : Sp := fun vs H Q _ => ∃ (W : Wd) (r sa : Addr) (ns : List Int) (m : Int), RowW K W r sa ns ∧ W.J H ∧ vs = [.ref r, .int m] ∧ 0 < m ∧ m < 1073741824 ∧ ns.length ≤ 63 ∧ ∀ (k : Int) (H2 : Hp), 0 ≤ k → k < m → Er W.S H H2 → W.J H2 → Q (.int k) H2
section
variable {P : Program} {w : World} {K : Frag} {mg : Str → Option Value} {base : Heap} {f f1 f2 f3 f4 f5 : Addr} {fd fd1 fd2 fd3 fd4 fd5 : FuncData}
theorem sc_taken : FnScope ["_law_row", "_law_many", "_law_found", "_law_cell"] ["_law_row", "_law_many"] (defScope sTaken) := ⟨rfl, rfl, rfl, by decide +kernel, rfl, by decide +kernel, by decide +kernel⟩
theorem seq_upd {K : Frag} {H : Hp} {a r : Addr} {xs : List V} {o : HO} (h : SqL K H a xs) (n : r ≠ a) : SqL K (upd H r o) a xs := by
  rcases h with (h | ⟨ob, h⟩) | h
  · exact .inl (.inl (by rw [upd_ne (Ne.symm n)]; exact h))
  · exact .inl (.inr ⟨ob, by rw [upd_ne (Ne.symm n)]; exact h⟩)
  · exact .inr h
theorem ok_taken (B : Blt mg) (F : Fn K mg "_law_taken" sTaken ["_law_row", "_law_many"] f fd) : FnOk P w K mg base CX0 1 f fd ["_law_row", "_law_many"] (spTaken K) := by
  refine F.F.ok sc_taken (fun vs H Q E h => ?_) (fun cdv A outer s H vs Q E hr h => ?_)
  · obtain ⟨W, r, sa, ns, m, _, _, rfl, _⟩ := h
    rfl
  · obtain ⟨W, r, sa, ns, m, RW, j, rfl, m0, m1, hlen, q⟩ := h
    obtain ⟨i, g, c, hi, hg, hg2, hc, hrow⟩ := RW.at_ H j
    have bint : bootBuiltins "int" = some (.type "int") := by decide +kernel
    have hS : SqL K H r [.ref sa, .int i, .int g, .int c] := .inl (.inl hrow)
    have fin : ∀ (k i' g' c' : Int), 0 ≤ k → k < m → 0 ≤ i' → 0 ≤ g' → g' < 2147483647 → 0 ≤ c' → Q (.int k) (upd H r (rowO sa i' g' c')) := fun k i' g' c' k0 k1 h1 h2 h3 h4 =>
      q k _ k0 k1 (er_at RW.s) (RW.put H i' g' c' j h1 h2 h3 h4)
    have hem : ∀ z : Int, 0 ≤ z % m ∧ z % m < m := fun z => ⟨Int.emod_nonneg _ (by omega), Int.emod_lt_of_pos _ m0⟩
    have heM : ∀ z : Int, 0 ≤ z % 2147483647 ∧ z % 2147483647 < 2147483647 := fun z => ⟨Int.emod_nonneg _ (by omega), Int.emod_lt_of_pos _ (by omega)⟩
    refine ⟨_, pss_cons (ps_if (pt_cmpR op_gt (pe_ix ix_list (pv 0) pe_int (fun _ _ => rfl)) pe_int (nomark _))
        (pss_cons (ps_set (i := 2) sc_taken.nd rfl (.inl rfl) (pe_op op_mod (pe_callTy call_int1 (by rfl) B.int bint (pa_cons (pe_ix ix_list (pv 0) pe_int (fun _ _ => rfl)) pa_nil)) (pv 1)))
        (pss_cons (ps_asg (pe_op op_fdiv (pe_ix ix_list (pv 0) pe_int (fun _ _ => rfl)) (pv 1)) (pg_sub (pv 0) pe_int set_list))
        (pss_one (ps_ret (pv 2))))) pss_nil)
      (pss_cons (ps_asg (pe_op op_add (pe_ix ix_list (pv 0) pe_int (fun _ _ => rfl)) pe_int) (pg_sub (pv 0) pe_int set_list))
      (pss_cons (ps_if (pt_cmpR op_gt (pe_ix ix_list (pv 0) pe_int (fun _ _ => rfl)) (pe_callB call_len_seq (by rfl) B.len PySem.boot_len (pa_cons (pe_ix ix_list (pv 0) pe_int (fun _ _ => rfl)) pa_nil)) (nomark _))
        (pss_cons (ps_asg (pe_op op_mod (pe_callTy call_int1 (by rfl) B.int bint (pa_cons (pe_op op_add (pe_op op_mul (pe_ix ix_list (pv 0) pe_int (fun _ _ => rfl)) pe_int) pe_int) pa_nil)) pe_int) (pg_sub (pv 0) pe_int set_list))
        (pss_one (ps_ret (pe_op op_mod (pe_callTy call_int1 (by rfl) B.int bint (pa_cons (pe_op op_fdiv (pe_ix ix_list (pv 0) pe_int (fun _ _ => rfl)) pe_int) pa_nil)) (pv 1))))) pss_nil)
      (pss_cons (ps_set (i := 3) sc_taken.nd rfl (.inl rfl) (pe_ix ix_list (pe_ix ix_list (pv 0) pe_int (fun _ _ => rfl)) (pe_op op_sub (pe_ix ix_list (pv 0) pe_int (fun _ _ => rfl)) pe_int) (fun _ _ => rfl)))
      (pss_cons (ps_asg (pe_op op_mod (pe_callTy call_int1 (by rfl) B.int bint (pa_cons (pe_op op_add (pe_op op_add (pe_op op_mul (pe_ix ix_list (pv 0) pe_int (fun _ _ => rfl)) pe_int) (pv 3)) pe_int) pa_nil)) pe_int) (pg_sub (pv 0) pe_int set_list))
      (pss_cons (ps_if (pt_cmpR op_ge (pv 3) (pe_op op_pow pe_int pe_int) (nomark _))
        (pss_one (ps_asg (pe_op op_fdiv (pv 3) (pv 1)) (pg_sub (pv 0) pe_int set_list))) pss_nil)
      (pss_one (ps_ret (pe_op op_mod (pe_callTy call_int1 (by rfl) B.int bint (pa_cons (pv 3) pa_nil)) (pv 1))))))))), ?_⟩
    -- if row[3] > 0
    refine ⟨_, rfl, r, _, 3, .int c, rfl, rfl, hS, rfl, c, 0, rfl, rfl, _, rfl, ite2 (fun hb => ?_) (fun hb => ?_)⟩
    · -- found = int(row[3]) % many; row[3] = row[3] // many; return found
      refine ⟨_, rfl, r, _, 3, .int c, rfl, rfl, hS, rfl, .inl ⟨c, rfl, ?_⟩⟩
      refine ⟨_, rfl, c, m, rfl, rfl, m0, ?_⟩
      refine ⟨_, rfl, r, _, 3, .int c, rfl, rfl, hS, rfl, _, rfl, c, m, rfl, rfl, ⟨m0, m1⟩, ?_⟩
      refine ⟨_, rfl, r, _, 3, 3, rfl, rfl, hrow, rfl, ?_⟩
      refine ⟨_, rfl, ?_⟩
      exact fin (c % m) i g (c / m) (hem c).1 (hem c).2 hi hg hg2 (Int.ediv_nonneg hc (by omega))
    · -- row[1] = row[1] + 1
      refine ⟨_, rfl, r, _, 1, .int i, rfl, rfl, hS, rfl, i, 1, rfl, rfl, ?_⟩
      refine ⟨_, rfl, r, _, 1, 1, rfl, rfl, hrow, rfl, ?_⟩
      have hrow1 : (upd H r (.lst [.ref sa, .int (i + 1), .int g, .int c])) r = some (.lst [.ref sa, .int (i + 1), .int g, .int c]) := upd_same
      have hS1 : SqL K (upd H r (.lst [.ref sa, .int (i + 1), .int g, .int c])) r [.ref sa, .int (i + 1), .int g, .int c] := .inl (.inl hrow1)
      have hscr : SqL K (upd H r (.lst [.ref sa, .int (i + 1), .int g, .int c])) sa (ns.map V.int) := RW.up H _ (RW.scr H j)
      refine ⟨_, rfl, r, _, 1, .int (i + 1), rfl, rfl, hS1, rfl, _, rfl, r, _, 0, .ref sa, rfl, rfl, hS1, rfl, sa, ns.map V.int, rfl, .inl hscr, i + 1, _, rfl, rfl, _, rfl, ite2 (fun hb2 => ?_) (fun hb2 => ?_)⟩
      · -- row[2] = int(row[2] * 48271 + 11) % 2147483647; return int(row[2] // 7) % many
        refine ⟨_, rfl, r, _, 2, .int g, rfl, rfl, hS1, rfl, g, 48271, rfl, rfl, .inr ⟨by decide, by decide⟩, g * 48271, 11, rfl, rfl, .inl ⟨_, rfl, g * 48271 + 11, 2147483647, rfl, rfl, (by show (0 : Int) < 2147483647; decide), ?_⟩⟩
        refine ⟨_, rfl, r, _, 2, 2, rfl, rfl, hrow1, rfl, ?_⟩
        rw [upd_upd]
        refine ⟨_, rfl, r, _, 2, .int ((g * 48271 + 11) % 2147483647), rfl, rfl, .inl (.inl upd_same), rfl, _, 7, rfl, rfl, ⟨by decide, by decide⟩, .inl ⟨_, rfl, ?_⟩⟩
        refine ⟨_, rfl, _, m, rfl, rfl, m0, ?_⟩
        exact fin _ (i + 1) _ c (hem _).1 (hem _).2 (by omega) (heM _).1 (heM _).2 hc
      · -- cell = row[0][row[1] - 1]
        have hle : i + 1 ≤ ns.length := by
          have := of_decide_eq_false (Bool.eq_false_iff.mpr hb2)
          rw [List.length_map] at this
          omega
        have hget : ns[i.toNat]? = some (ns[i.toNat]'(by omega)) := List.getElem?_eq_getElem (by omega)
        generalize ns[i.toNat]'(by omega) = cell at hget
        have hat : atI (ns.map V.int) (i + 1 - 1) = some (.int cell) := by
          rw [show i + 1 - 1 = ((i.toNat : Nat) : Int) by omega]
          refine atI_nat ?_
          rw [List.getElem?_map, hget]
          rfl
        refine ⟨_, rfl, r, _, 0, .ref sa, rfl, rfl, hS1, rfl, _, rfl, r, _, 1, .int (i + 1), rfl, rfl, hS1, rfl, i + 1, 1, rfl, rfl, sa, _, _, .int cell, rfl, rfl, hscr, hat, ?_⟩
        refine ⟨_, rfl, r, _, 2, .int g, rfl, rfl, hS1, rfl, g, 48271, rfl, rfl, .inr ⟨by decide, by decide⟩, _, rfl, g * 48271, cell, rfl, rfl, g * 48271 + cell, 11, rfl, rfl, .inl ⟨_, rfl, g * 48271 + cell + 11, 2147483647, rfl, rfl, (by show (0 : Int) < 2147483647; decide), ?_⟩⟩
        refine ⟨_, rfl, r, _, 2, 2, rfl, rfl, hrow1, rfl, ?_⟩
        rw [upd_upd]
        refine ⟨_, rfl, 10, 18, rfl, rfl, ⟨by decide, by decide, by decide⟩, cell, _, rfl, rfl, _, rfl, ite2 (fun hb3 => ?_) (fun hb3 => ?_)⟩
        · have hcell : 0 ≤ cell := by
            have h3 : (10 : Int) ^ (18 : Int).toNat ≤ cell := of_decide_eq_true hb3
            exact Int.le_trans (by decide) h3
          refine ⟨_, rfl, _, rfl, cell, m, rfl, rfl, ⟨m0, m1⟩, ?_⟩
          refine ⟨_, rfl, r, _, 3, 3, rfl, rfl, upd_same, rfl, ?_⟩
          rw [upd_upd]
          refine ⟨_, rfl, .inl ⟨cell, rfl, _, rfl, cell, m, rfl, rfl, m0, ?_⟩⟩
          exact fin _ (i + 1) _ (cell / m) (hem _).1 (hem _).2 (by omega) (heM _).1 (heM _).2 (Int.ediv_nonneg hcell (by omega))
        · refine ⟨_, rfl, .inl ⟨cell, rfl, _, rfl, cell, m, rfl, rfl, m0, ?_⟩⟩
          exact fin _ (i + 1) _ c (hem _).1 (hem _).2 (by omega) (heM _).1 (heM _).2 hc
end
end SB

/-! Defs that draw: contracts with a row. -/
namespace SB
open PySem PySem.Spec PyProof.Rows L2
theorem RowW.from {K : Frag} {W : Wd} {r sa : Addr} {ns : List Int} (R : RowW K W r sa ns) (H0 : Hp) : RowW K (W.from H0) r sa ns where
  s := R.s
  at_ := fun H j => R.at_ H j.1
  put := fun H i g c j h1 h2 h3 h4 => ⟨R.put H i g c j.1 h1 h2 h3 h4, j.2.trans (er_at R.s)⟩
  scr := fun H j => R.scr H j.1
  up := R.up
/-- a def that draws from a row: its first argument the row, the others data -/
def spRow (K : Frag) (n : Nat) (pre : List PyData → Prop) (P : List PyData → Dv → Prop) : Sp := fun vs H Q _ => ∃ (W : Wd) (r sa : Addr) (ns : List Int) (vs' : List V) (ds : List PyData), RowW K W r sa ns ∧ ns.length ≤ 63 ∧ W.J H ∧ vs = .ref r :: vs' ∧ DwA K W.S H vs' ds ∧ ds.length = n ∧ pre ds ∧ Ret K W H (P ds) Q
abbrev gOfR (N : List Str) (r : Addr) (ds : List PyData) : Gm := (some (Dv.o r) :: ds.map (fun d => some (Dv.d d))) ++ List.replicate (N.length - (ds.length + 1)) none
theorem tp_startR {K : Frag} {W : Wd} {H : Hp} {N : List Str} {vs : List V} {ds : List PyData} {r : Addr} (j : W.J H) (w : DwA K W.S H vs ds) : Tp K W (gOfR N r ds) (L2.start N (.ref r :: vs)) H := by
  refine ⟨j, ?_, fun i x h => ?_⟩
  · unfold L2.start gOfR
    rw [List.length_append, List.length_append, List.length_map, List.length_cons, List.length_cons, List.length_map, List.length_replicate, List.length_replicate, w.length]
  · cases i with
    | zero =>
      have h : some (Dv.o r) = some x := Option.some.inj h
      cases h
      exact ⟨.ref r, rfl, rfl⟩
    | succ i =>
      have h' : (gOf (N.drop 1) ds)[i]? = some (some x) := by
        have e : N.length - (ds.length + 1) = (N.drop 1).length - ds.length := by rw [List.length_drop]; omega
        unfold gOf
        rw [← e]
        exact h
      have T : Tp K W (gOf (N.drop 1) ds) (L2.start (N.drop 1) vs) H := tp_start j w
      obtain ⟨v, h1, h2⟩ := T.at_ i x h'
      refine ⟨v, ?_, h2⟩
      have e : N.length - (vs.length + 1) = (N.drop 1).length - vs.length := by rw [List.length_drop]; omega
      show (L2.start N (V.ref r :: vs))[i + 1]? = some (some v)
      unfold L2.start at h1 ⊢
      rw [List.map_cons, List.length_cons, e]
      exact h1
section
variable {P : Program} {w : World} {K : Frag} {mg : Str → Option Value} {base : Heap} {x qual : Str} {st : Stmt} {f : Addr} {fd : FuncData} {N ps : List Str} {k n : Nat} {pre : List PyData → Prop} {g : List PyData → Dv → Prop}
theorem ok_row (F : Fun K x qual st f fd) (S : FnScope N ps (defScope st)) (hn : ps.length = n + 1)
    (hbody : ∀ (cdv : Value) (A : Around) (outer : List Env) (s : Shared) (H : Hp) (E : XK) (W : Wd) (r sa : Addr) (ns : List Int) (ds : List PyData) (D : Ends), Room k (A.deeper (envOfC qual (defScope st) s.heap.objs.size f cdv)) → RowW K W r sa ns → ns.length ≤ 63 → ds.length = n → pre ds →
      Gives (cxP P w K mg base N qual st f cdv A outer s H E) W (g ds) D → HS (cxP P w K mg base N qual st f cdv A outer s H E) (Tp K W (gOfR N r ds)) (defBody st) D) :
    FnOk P w K mg base CX0 (k + 1) f fd ps (spRow K n pre g) := by
  refine F.ok S (fun vs H Q E h => ?_) (fun cdv A outer s H vs Q E hr h => ?_)
  · obtain ⟨W, r, sa, ns, vs', ds, _, _, _, rfl, w, l, _⟩ := h
    rw [List.length_cons, w.length, l, hn]
  · obtain ⟨W, r, sa, ns, vs', ds, RW, hlen, j, rfl, w', l, hp, R⟩ := h
    have hb := hbody cdv A outer s H E (W.from H) r sa ns ds { nx := fun _ H' => Q .non H', rt := Q } hr (RW.from H) hlen l hp (fun v y H2 py ry jy => R v y H2 py ry jy.2 jy.1)
    exact ⟨_, hb.pss, rfl, tp_startR (W := W.from H) ⟨j, Er.refl H⟩ w'⟩
end
section
variable {X : Cx} {W : Wd} {Γ : Gm} {e : Expr} {es : List Expr} {k n : Nat} {f r sa : Addr} {fd : FuncData} {ps : List Str} {x : Str} {p pos : Pos} {pre : List PyData → Prop} {g : List PyData → Dv → Prop} {ds : List PyData} {ns : List Int}
theorem vra_row {K : Frag} {S : ASet} {H : Hp} {vs : List V} {ds : List PyData} {r : Addr} (h : VRA K S H vs (.o r :: ds.map Dv.d)) : ∃ vs', vs = .ref r :: vs' ∧ DwA K S H vs' ds := by
  cases h with
  | cons a b =>
    have a : _ = V.ref r := a
    subst a
    exact ⟨_, rfl, VRA.dwa b⟩
/-- f(row, ..) -/
theorem xe_row {P' : Dv → Prop} (F : FnOk X.prog X.w X.K X.mg X.base CX0 k f fd ps (spRow X.K n pre g)) (hr : Room k X.A) (hm : X.mg x = some (.ref f)) (hk : PySem.W.keepIn X.K (.ref f) = true) (hb : L2.Binds X.K fd ps []) (RW : RowW X.K W r sa ns) (hlen : ns.length ≤ 63)
    {Ps : List PyData → Prop} (ha : XA X W Γ (e :: es) (fun xs => ∃ ds, xs = .o r :: ds.map Dv.d ∧ Ps ds)) (hl : ∀ ds, Ps ds → ds.length = n ∧ pre ds) (hP : ∀ ds x, Ps ds → g ds x → P' x) (hg : Gl X x := by rfl) (hdb : (x == ("__debug__" : Str)) = false := by decide)
    (he : starEach (e :: es) X.env = (false, eval e X.env) :: starEach es X.env := by rfl) (hpl : (backTo pos (starEach es X.env)).any (·.1) = false := by rfl) : XE X W Γ (.Call (.Name x p) (e :: es) [] pos) P' :=
  pe_imp (pe_call F hr hg hm hk hb .nil pass0 ha hdb he hpl) fun σ H Q ⟨T, R⟩ => ⟨T, fun vs xs H2 ⟨ds, ex, hps⟩ rs e2 j2 => by
    subst ex
    obtain ⟨vs', ev, w⟩ := vra_row rs
    show spRow X.K n pre g (vs ++ []) H2 Q E0
    rw [List.append_nil]
    exact ⟨W, r, sa, ns, vs', ds, RW, hlen, j2, ev, w, (hl ds hps).1, (hl ds hps).2, (R.later e2).imp fun y hy => hP ds y hps hy⟩⟩
/-- the arguments: the row and given data -/
theorem xa_row {rest : List Expr} (ha : XE X W Γ e (fun y => y = .o r)) (hr : XA X W Γ rest (IsA ds)) (hs : starEach (e :: rest) X.env = (false, eval e X.env) :: starEach rest X.env := by rfl) : XA X W Γ (e :: rest) (fun xs => ∃ ds', xs = .o r :: ds'.map Dv.d ∧ ds' = ds) :=
  (xa_cons ha hr hs).imp fun xs ⟨y, z, e1, e2, e3⟩ => ⟨ds, by rw [e1, e2, e3], rfl⟩
end
/-- a drawn int below m -/
abbrev Dr (m : Int) : Dv → Prop := fun x => ∃ k : Int, x = .d (.int k) ∧ 0 ≤ k ∧ k < m
abbrev spTakenR (K : Frag) : Sp := spRow K 1 (fun ds => ∃ m, ds.getD 0 .none = .int m ∧ 0 < m ∧ m < 1073741824) (fun ds => Dr (intOf (ds.getD 0 .none)))
section
variable {P : Program} {w : World} {K : Frag} {mg : Str → Option Value} {base : Heap} {f f1 f2 f3 f4 f5 : Addr} {fd fd1 fd2 fd3 fd4 fd5 : FuncData}
theorem ok_takenR (B : Blt mg) (F : Fn K mg "_law_taken" sTaken ["_law_row", "_law_many"] f fd) : FnOk P w K mg base CX0 1 f fd ["_law_row", "_law_many"] (spTakenR K) := (ok_taken B F).imp fun vs H Q E h => by
  obtain ⟨W, r, sa, ns, vs', ds, RW, hlen, j, rfl, w', l, ⟨m, hm, m0, m1⟩, R⟩ := h
  match ds, l, w' with
  | [d], _, .cons w1 w2 =>
    have hm : d = .int m := hm
    subst hm
    cases w1
    cases w2
    exact ⟨W, r, sa, ns, m, RW, j, rfl, m0, m1, hlen, fun k H2 k0 k1 e2 j2 => R _ _ H2 ⟨k, rfl, k0, k1⟩ (Dw.int k) e2 j2⟩
end
section
variable {X : Cx} {W : Wd} {Γ : Gm} {a b : Expr} {f r sa : Addr} {fd : FuncData} {p pos : Pos} {ns : List Int} {k : Nat}
/-- _law_taken(row, m) -/
theorem xe_taken {m : Int} (F : Fn X.K X.mg "_law_taken" sTaken ["_law_row", "_law_many"] f fd) (G : FnOk X.prog X.w X.K X.mg X.base CX0 1 f fd ["_law_row", "_law_many"] (spTakenR X.K)) (hr : Room 1 X.A) (RW : RowW X.K W r sa ns) (hlen : ns.length ≤ 63) (ha : XE X W Γ a (fun y => y = .o r)) (hb : XE X W Γ b (Is (.int m))) (m0 : 0 < m) (m1 : m < 1073741824)
    (hg : Gl X "_law_taken" := by rfl) (h1 : starEach [a, b] X.env = (false, eval a X.env) :: starEach [b] X.env := by rfl) (h2 : starEach [b] X.env = (false, eval b X.env) :: starEach [] X.env := by rfl) (hpl : (backTo pos (starEach [b] X.env)).any (·.1) = false := by rfl) : XE X W Γ (.Call (.Name "_law_taken" p) [a, b] [] pos) (Dr m) :=
  xe_row G hr F.g F.F.kp F.b RW hlen (xa_row ha (xac (d := .int m) hb xa0 h2) h1) (fun ds h => by subst h; exact ⟨rfl, m, rfl, m0, m1⟩) (fun ds x h hx => by subst h; exact hx) hg (by decide) h1 hpl
end
/-! ### pick, up -/
section
variable {P : Program} {w : World} {K : Frag} {mg : Str → Option Value} {base : Heap} {f f1 f2 f3 f4 f5 : Addr} {fd fd1 fd2 fd3 fd4 fd5 : FuncData}
theorem sc_pick : FnScope ["_law_row", "_law_kinds"] ["_law_row", "_law_kinds"] (defScope sPick) := ⟨rfl, rfl, rfl, by decide +kernel, rfl, by decide +kernel, by decide +kernel⟩
abbrev spPick (K : Frag) : Sp := spRow K 1 (fun ds => ∃ zs, ds.getD 0 .none = .list zs ∧ 0 < zs.length ∧ zs.length < 100000) (fun ds x => ∃ zs d, ds.getD 0 .none = .list zs ∧ d ∈ zs ∧ x = .d d)
theorem ok_pick (B : Blt mg) (F1 : Fn K mg "_law_taken" sTaken ["_law_row", "_law_many"] f1 fd1) (F : Fn K mg "_law_pick" sPick ["_law_row", "_law_kinds"] f fd) : FnOk P w K mg base CX0 2 f fd ["_law_row", "_law_kinds"] (spPick K) := by
  have G1 : FnOk P w K mg base CX0 1 f1 fd1 ["_law_row", "_law_many"] (spTakenR K) := ok_takenR B F1
  refine ok_row F.F sc_pick rfl fun cdv A outer s H E W r sa ns ds D hr RW hlen hl hp g => ?_
  match ds, hl with
  | [d], _ =>
    obtain ⟨zs, hz, z0, z1⟩ := hp
    have hz : d = .list zs := hz
    subst hz
    refine hs_ret (xe_ix (Pb := fun x => ∃ k : Nat, x = .d (.int (k : Int)) ∧ k < zs.length) ix_list rr_ixLP (xv 1) ((xe_taken (m := (zs.length : Int)) F1 G1 hr RW hlen (xv 0) (xe_len (.inr rfl) B.len (xv 1)) (by omega) (by omega)).imp ?_)) ?_
    · rintro y ⟨k, rfl, k0, k1⟩
      exact ⟨k.toNat, by rw [Int.toNat_of_nonneg k0], by omega⟩
    · intro v y H' ⟨k, d, hk, hy⟩ ry jy
      exact g v y H' ⟨zs, d, rfl, List.mem_of_getElem? hk, hy⟩ ry jy
theorem sc_up : FnScope ["_law_row", "_law_least", "_law_most"] ["_law_row", "_law_least", "_law_most"] (defScope sUp) := ⟨rfl, rfl, rfl, by decide +kernel, rfl, by decide +kernel, by decide +kernel⟩
/-- a drawn int between two -/
abbrev Bt (lo hi : Int) : Dv → Prop := fun x => ∃ k : Int, x = .d (.int k) ∧ lo ≤ k ∧ k ≤ hi
abbrev spUp (K : Frag) : Sp := spRow K 2 (fun ds => ∃ lo hi, ds = [.int lo, .int hi] ∧ lo ≤ hi) (fun ds => Bt (intOf (ds.getD 0 .none)) (intOf (ds.getD 1 .none)))
theorem ok_up (B : Blt mg) (F1 : Fn K mg "_law_taken" sTaken ["_law_row", "_law_many"] f1 fd1) (F : Fn K mg "_law_up" sUp ["_law_row", "_law_least", "_law_most"] f fd) : FnOk P w K mg base CX0 2 f fd ["_law_row", "_law_least", "_law_most"] (spUp K) := by
  have G1 : FnOk P w K mg base CX0 1 f1 fd1 ["_law_row", "_law_many"] (spTakenR K) := ok_takenR B F1
  refine ok_row F.F sc_up rfl fun cdv A outer s H E W r sa ns ds D hr RW hlen hl hp g => ?_
  obtain ⟨lo, hi, rfl, hle⟩ := hp
  refine hs_ret (P := Bt lo hi) (xe_callB (Ps := fun xs => ∃ k : Int, xs = [.d (.int hi), .d (.int (lo + k))] ∧ 0 ≤ k ∧ k < 3) (call_min2 rfl) ?_ B.min (by decide +kernel) ?_) g
  · rintro xs vs H' Q ⟨k, rfl, k0, k1⟩ rs jj R
    have w' := VRA.dwa (ds := [.int hi, .int (lo + k)]) rs
    cases w' with
    | cons w1 w2 =>
      cases w1
      cases w2 with
      | cons w1 w2 =>
        cases w1
        cases w2
        refine ⟨hi, lo + k, rfl, R _ _ H' ⟨_, rfl, ?_, ?_⟩ (Dw.int _) (Er.refl H') jj⟩
        · split <;> omega
        · split <;> omega
  · refine XA.imp (xa_cons (xv 2) (xa_cons (Pa := fun x => ∃ k : Int, x = .d (.int (lo + k)) ∧ 0 ≤ k ∧ k < 3) ?_ xa_nil)) ?_
    · refine XE.imp (xe_op op_add (rr_I0P (A := fun z => z = lo) (B := fun z => 0 ≤ z ∧ z < 3)) ((xv 1).imp ?_) ((xe_taken (m := 3) F1 G1 hr RW hlen (xv 0) xe_int (by decide) (by decide)).imp ?_)) ?_
      · intro y hy
        exact ⟨lo, hy, rfl⟩
      · rintro y ⟨k, rfl, k0, k1⟩
        exact ⟨k, rfl, k0, k1⟩
      · rintro y ⟨z, rfl, i, j, rfl, hj, rfl⟩
        exact ⟨j, rfl, hj⟩
    · rintro xs ⟨y, z, rfl, rfl, y2, z2, rfl, ⟨k, rfl, hk⟩, rfl⟩
      exact ⟨k, rfl, hk⟩
end
end SB

/-! min and max of a tuple of two ints; loops with a free promise; alike, fits. -/
namespace SB
open PySem PySem.Spec PyProof.Rows L2
section
variable {X : Cx}
theorem units_tr (hr : X.A.units + 65 < cLine) : X.A.units + 1 + PyData.depthAll [PyData.int 0, PyData.int 0] < cLine := by
  have : PyData.depthAll [PyData.int 0, PyData.int 0] = 1 ∨ PyData.depthAll [PyData.int 0, PyData.int 0] = 0 := by decide +kernel
  omega
theorem depth2 (i j : Int) : PyData.depthAll [.int i, .int j] = PyData.depthAll [.int 0, .int 0] := rfl
theorem two_ints {h : Heap} {u v : Value} {i j : Int} (a : RelV (.int i) u) (b : RelV (.int j) v) : ReadsAll h [u, v] [.int i, .int j] [] := by
  obtain ⟨t, rfl⟩ := a
  obtain ⟨t', rfl⟩ := b
  exact .cons (.int i t) (.cons (.int j t') .nil)
theorem alike_ints (i j : Int) : PySem.W.AlikeAll [.int i, .int j] := by
  refine ⟨fun x hx y hy => ?_, fun x hx => ?_⟩
  · rcases List.mem_cons.mp hx with e | e
    · rcases List.mem_cons.mp hy with e' | e'
      · rw [e, e']; rfl
      · rw [e, List.mem_singleton.mp e']; rfl
    · rcases List.mem_cons.mp hy with e' | e'
      · rw [List.mem_singleton.mp e, e']; rfl
      · rw [List.mem_singleton.mp e, List.mem_singleton.mp e']; rfl
  · rcases List.mem_cons.mp hx with e | e
    · rw [e]; exact fun z => nomatch z
    · rw [List.mem_singleton.mp e]; exact fun z => nomatch z
theorem int_of_reads {h : Heap} {v : Value} {i : Int} {bs : List Addr} (r : Reads h v (.int i) bs) : RelV (.int i) v := by
  cases r
  exact ⟨_, rfl⟩
theorem call_minT (hc : X.calm = true) (hu : X.A.units + 65 < cLine) : CallR X (.builtin "min") (fun xs H Q => ∃ a i j, xs = [.ref a] ∧ SqT X.K H a [.int i, .int j] ∧ Q (.int (min i j)) H) := by
  intro pins s σ H xs us Q I r h
  obtain ⟨a, i, j, rfl, ha, q⟩ := h
  obtain ⟨its, rv, ht, _⟩ := I.tuple ha
  rw [Vals.ref1 r]
  obtain ⟨u, v, rfl, r1, r2⟩ := vals2 rv
  refine PySem.W.min_tuple_data (I.ok.hd hc) ht (x := .int i) (xs := [.int j]) (as := []) (two_ints r1 r2) (alike_ints i j) (by rw [depth2]; exact units_tr hu) fun k v' h' tk bs _ hr hk => ?_
  rw [show [PyData.int j] = [j].map PyData.int from rfl, PySem.W.minD_ints] at hr
  exact ⟨_, H, I.kept hk, int_of_reads hr, q⟩
theorem call_maxT (hc : X.calm = true) (hu : X.A.units + 65 < cLine) : CallR X (.builtin "max") (fun xs H Q => ∃ a i j, xs = [.ref a] ∧ SqT X.K H a [.int i, .int j] ∧ Q (.int (max i j)) H) := by
  intro pins s σ H xs us Q I r h
  obtain ⟨a, i, j, rfl, ha, q⟩ := h
  obtain ⟨its, rv, ht, _⟩ := I.tuple ha
  rw [Vals.ref1 r]
  obtain ⟨u, v, rfl, r1, r2⟩ := vals2 rv
  refine PySem.W.max_tuple_data (I.ok.hd hc) ht (x := .int i) (xs := [.int j]) (as := []) (two_ints r1 r2) (alike_ints i j) (by rw [depth2]; exact units_tr hu) fun k v' h' tk bs _ hr hk => ?_
  rw [show [PyData.int j] = [j].map PyData.int from rfl, PySem.W.maxD_ints] at hr
  exact ⟨_, H, I.kept hk, int_of_reads hr, q⟩
end
section
variable {K : Frag} {W : Wd} {i j : Int}
theorem rr_minT : RRC K W (fun xs H Q => ∃ a i j, xs = [.ref a] ∧ SqT K H a [.int i, .int j] ∧ Q (.int (min i j)) H) (IsA [.tuple [.int i, .int j]]) (Is (.int (min i j))) := fun xs vs H Q ps rs jj R => by
  subst ps
  have w := VRA.dwa (ds := [.tuple [.int i, .int j]]) rs
  cases w with
  | cons w1 w2 =>
    cases w2
    cases w1 with
    | tup p w =>
      rw [dwa_ints (bs := [i, j]) w] at p
      exact ⟨_, i, j, rfl, p.sq, R _ _ H rfl (Dw.int _) (Er.refl H) jj⟩
theorem rr_maxT : RRC K W (fun xs H Q => ∃ a i j, xs = [.ref a] ∧ SqT K H a [.int i, .int j] ∧ Q (.int (max i j)) H) (IsA [.tuple [.int i, .int j]]) (Is (.int (max i j))) := fun xs vs H Q ps rs jj R => by
  subst ps
  have w := VRA.dwa (ds := [.tuple [.int i, .int j]]) rs
  cases w with
  | cons w1 w2 =>
    cases w2
    cases w1 with
    | tup p w =>
      rw [dwa_ints (bs := [i, j]) w] at p
      exact ⟨_, i, j, rfl, p.sq, R _ _ H rfl (Dw.int _) (Er.refl H) jj⟩
end
/-! ### loops -/
section
variable {X : Cx} {W : Wd} {Γ : Gm} {iter a : Expr} {pos p p2 pos' : Pos} {rest body : List Stmt} {D : Ends} {n : Str} {j : Nat}
/-- what a turn starts from: the name set -/
def SetAt (j : Nat) (P : V → Hp → Prop) (Pv : L2.St → Hp → Prop) : L2.St → Hp → Prop := fun σ H => ∃ (σ0 : L2.St) (v : V), Pv σ0 H ∧ P v H ∧ σ = σ0.set j (some v)
def Then (D : Ends) (Pv : L2.St → Hp → Prop) : Ends := { nx := Pv, ct := Pv, bk := fun _ _ => False, rt := D.rt }
/-- for n in a list of data, no break -/
theorem hs_forL {ds : List PyData} (Pv : Hp → Nat → L2.St → Hp → Prop) (hc : X.calm = true) (hx : PassesOwn (model X.prog X.w) X.A X.env X.xe) (hN : X.N.Nodup) (hi : XE X W Γ iter (Is (.list ds))) (h0 : ∀ σ H1, Tp X.K W Γ σ H1 → Pv H1 0 σ H1)
    (hk : ∀ H1 i σ H, Pv H1 i σ H → Er W.S H1 H)
    (hb : ∀ (H1 : Hp) (i : Nat) (d : PyData), W.J H1 → ds[i]? = some d → HS X (SetAt j (fun v H => Dw X.K W.S H v d) (Pv H1 i)) body (Then D (Pv H1 (i + 1))))
    (hr : HS X (fun σ H => ∃ H1, W.J H1 ∧ Pv H1 ds.length σ H) rest D) (hi' : X.N[j]? = some n := by rfl) (hL : Loc X.env.scope n := by first | exact Or.inl rfl | exact Or.inr rfl)
    (hf : X.fn n = true ∨ X.env.scope.names.lookup n = some .local := by first | exact .inl rfl | exact .inr rfl)
    (hfs : ∀ x, foldedSetIterable iter X.env x = pure x := by intro _; rfl) :
    HS X (Tp X.K W Γ) (.For (.Name n pos) iter body [] pos' :: rest) D := by
  have hbody : PSs X body (fun D' σ H => ∃ (H1 : Hp) (i : Nat) (d : PyData), W.J H1 ∧ ds[i]? = some d ∧ D'.nx = Pv H1 (i + 1) ∧ D'.ct = Pv H1 (i + 1) ∧ D'.rt = D.rt ∧ SetAt j (fun v H => Dw X.K W.S H v d) (Pv H1 i) σ H) := by
    refine ⟨fun pins s σ H D' I ⟨H1, i, d, jj, h1, e1, e2, e3, T⟩ => thn ((hb H1 i d jj h1).run pins s σ H I T) fun f s1 q => ?_⟩
    cases f with
    | next =>
      obtain ⟨σ', H', I', q⟩ := q
      exact ⟨σ', H', I', by rw [e1]; exact q⟩
    | ret v =>
      obtain ⟨v', σ', H', I', r, q⟩ := q
      exact ⟨v', σ', H', I', r, by rw [e3]; exact q⟩
    | cont =>
      obtain ⟨σ', H', I', q⟩ := q
      exact ⟨σ', H', I', by rw [e2]; exact q⟩
    | brk =>
      obtain ⟨_, _, _, q⟩ := q
      exact q.elim
  refine .cons (Mid := fun σ H => ∃ H1, W.J H1 ∧ Pv H1 ds.length σ H) (ps_for hx hc (pi_list hi) (pg_name hN hi' hL hf) hbody hfs) (fun σ H T => ⟨T, fun v z H1 pz rz e1 j1 => ?_⟩) hr
  subst pz
  cases rz with
  | lst pt w =>
    rename_i a xs
    refine ⟨a, rfl, ⟨xs, pt.sq⟩, ?_⟩
    refine for_list (K := X.K) (a := a) (xs := xs) (g := gName j) (D := { D with nx := fun σ H => ∃ H1, W.J H1 ∧ Pv H1 ds.length σ H }) (tb := fun D' σ H => ∃ (H1 : Hp) (i : Nat) (d : PyData), W.J H1 ∧ ds[i]? = some d ∧ D'.nx = Pv H1 (i + 1) ∧ D'.ct = Pv H1 (i + 1) ∧ D'.rt = D.rt ∧ SetAt j (fun v H => Dw X.K W.S H v d) (Pv H1 i) σ H)
      (Pv H1) (h0 σ H1 (T.mono e1 j1)) (fun i σ' H' _ hp => .inl (.inl (hk H1 i σ' H' hp _ _ pt.2 pt.1))) (fun i x σ' H' hx' hp => ?_) (fun σ' H' q => ⟨H1, j1, by rw [w.length] at q; exact q⟩)
    obtain ⟨d, hd, wd⟩ := w.get' hx'
    exact ⟨H1, i, d, j1, hd, rfl, rfl, rfl, σ', x, hp, wd.mono (hk H1 i σ' H' hp), rfl⟩
/-- for n in range(m), m drawn, no break -/
theorem hs_rangeG {B : Int → Prop} (Pv : Nat → L2.St → Hp → Prop) (hc : X.calm = true) (hx : PassesOwn (model X.prog X.w) X.A X.env X.xe) (hN : X.N.Nodup) (hm : X.mg "range" = none) (ha : XE X W Γ a (fun x => ∃ m, x = .d (.int m) ∧ B m)) (hB : ∀ m, B m → 0 ≤ m ∧ m < 90000)
    (h0 : ∀ σ H, Tp X.K W Γ σ H → Pv 0 σ H) (hb : ∀ i : Nat, (∃ m, B m ∧ (i : Int) < m) → HS X (SetAt j (fun v H => v = .int (i : Int)) (Pv i)) body (Then D (Pv (i + 1))))
    (hr : HS X (fun σ H => ∃ m : Nat, B (m : Int) ∧ Pv m σ H) rest D) (hi : X.N[j]? = some n := by rfl) (hL : Loc X.env.scope n := by first | exact Or.inl rfl | exact Or.inr rfl)
    (hf : X.fn n = true ∨ X.env.scope.names.lookup n = some .local := by first | exact .inl rfl | exact .inr rfl) (hg : Gl X "range" := by rfl) (hs : starEach [a] X.env = [(false, eval a X.env)] := by rfl)
    (hfs : ∀ x, foldedSetIterable (.Call (.Name "range" p) [a] [] p2) X.env x = pure x := by intro _; rfl) :
    HS X (Tp X.K W Γ) (.For (.Name n pos) (.Call (.Name "range" p) [a] [] p2) body [] pos' :: rest) D := by
  have hbody : PSs X body (fun D' σ H => ∃ i : Nat, (∃ m, B m ∧ (i : Int) < m) ∧ D'.nx = Pv (i + 1) ∧ D'.ct = Pv (i + 1) ∧ D'.rt = D.rt ∧ SetAt j (fun v H => v = .int (i : Int)) (Pv i) σ H) := by
    refine ⟨fun pins s σ H D' I ⟨i, h1, e1, e2, e3, T⟩ => thn ((hb i h1).run pins s σ H I T) fun f s1 q => ?_⟩
    cases f with
    | next =>
      obtain ⟨σ', H', I', q⟩ := q
      exact ⟨σ', H', I', by rw [e1]; exact q⟩
    | ret v =>
      obtain ⟨v', σ', H', I', r, q⟩ := q
      exact ⟨v', σ', H', I', r, by rw [e3]; exact q⟩
    | cont =>
      obtain ⟨σ', H', I', q⟩ := q
      exact ⟨σ', H', I', by rw [e2]; exact q⟩
    | brk =>
      obtain ⟨_, _, _, q⟩ := q
      exact q.elim
  have ha' := xa_cons (Ps := fun xs => xs = []) ha xa_nil hs
  refine .cons (Mid := fun σ H => ∃ m : Nat, B (m : Int) ∧ Pv m σ H) (ps_for hx hc (pi_range1 hg hm ha' hs) (pg_name hN hi hL hf) hbody hfs) (fun σ H T => ⟨T, fun vs xs H2 ⟨x, r, ex, ⟨m, em, hm⟩, er⟩ rs e2 j2 => ?_⟩) hr
  subst er
  subst em
  subst ex
  have w := VRA.dwa (ds := [.int m]) rs
  have hm' := hB m hm
  cases w with
  | cons w1 w2 =>
    cases w2
    cases w1
    have em : m = ((m.toNat : Nat) : Int) := (Int.toNat_of_nonneg hm'.1).symm
    refine ⟨m, rfl, by omega, by omega, ?_⟩
    refine for_range (lo := 0) (n := m.toNat) (g := gName j) (D := { D with nx := fun σ H => ∃ m : Nat, B (m : Int) ∧ Pv m σ H }) (tb := fun D' σ H => ∃ i : Nat, (∃ m, B m ∧ (i : Int) < m) ∧ D'.nx = Pv (i + 1) ∧ D'.ct = Pv (i + 1) ∧ D'.rt = D.rt ∧ SetAt j (fun v H => v = .int (i : Int)) (Pv i) σ H) Pv (h0 σ H2 (T.mono e2 j2)) (fun i σ' H' hi' hp => ?_) (fun σ' H' q => ⟨m.toNat, by rw [← em]; exact hm, q⟩)
    have e0 : (0 : Int) + (i : Int) = (i : Int) := Int.zero_add _
    exact ⟨i, ⟨m, hm, by omega⟩, rfl, rfl, rfl, σ', .int (i : Int), hp, rfl, by rw [e0]⟩
/-- the common case: slots in a world that starts at the list -/
theorem Tp.at {K : Frag} {H0 : Hp} {σ : L2.St} {H : Hp} (T : Tp K (W.from H0) Γ σ H) : Tp K W Γ σ H := ⟨T.j.1, T.len, T.at_⟩
theorem Tp.here {K : Frag} {σ : L2.St} {H : Hp} (T : Tp K W Γ σ H) : Tp K (W.from H) Γ σ H := ⟨⟨T.j, Er.refl H⟩, T.len, T.at_⟩
theorem Gives.from {P : Dv → Prop} {H0 : Hp} (g : Gives X W P D) : Gives X (W.from H0) P D := fun v x H px rx j => g v x H px rx j.1
/-- for n in a list of data: the slots at each turn -/
theorem hs_forLT {ds : List PyData} (G : Nat → Gm → Prop) (hc : X.calm = true) (hx : PassesOwn (model X.prog X.w) X.A X.env X.xe) (hN : X.N.Nodup) (hi : XE X W Γ iter (Is (.list ds))) (h0 : G 0 Γ)
    (hb : ∀ (H1 : Hp) (i : Nat) (d : PyData) (Γ' : Gm), W.J H1 → ds[i]? = some d → G i Γ' → HS X (Tp X.K (W.from H1) (Γ'.set j (some (.d d)))) body (Then D (fun σ H => ∃ Γ2, G (i + 1) Γ2 ∧ Tp X.K (W.from H1) Γ2 σ H)))
    (hr : ∀ Γ', G ds.length Γ' → HS X (Tp X.K W Γ') rest D) (hi' : X.N[j]? = some n := by rfl) (hL : Loc X.env.scope n := by first | exact Or.inl rfl | exact Or.inr rfl)
    (hf : X.fn n = true ∨ X.env.scope.names.lookup n = some .local := by first | exact .inl rfl | exact .inr rfl)
    (hfs : ∀ x, foldedSetIterable iter X.env x = pure x := by intro _; rfl) :
    HS X (Tp X.K W Γ) (.For (.Name n pos) iter body [] pos' :: rest) D :=
  hs_forL (Pv := fun H1 i σ H => ∃ Γ', G i Γ' ∧ Tp X.K (W.from H1) Γ' σ H) hc hx hN hi (fun σ H1 T => ⟨Γ, h0, T.here⟩) (fun H1 i σ H ⟨Γ', _, T⟩ => T.j.2)
    (fun H1 i d jj hd => ⟨fun pins s σ H I ⟨σ0, v, ⟨Γ', g, T⟩, wd, e⟩ => by
      subst e
      exact (hb H1 i d Γ' jj hd g).run pins s _ H I (T.set (x := .d d) wd)⟩)
    ⟨fun pins s σ H I ⟨H1, _, Γ', g, T⟩ => (hr Γ' g).run pins s σ H I T.at⟩ hi' hL hf hfs
end
end SB

/-! _law_fits, _law_alike. -/
namespace SB
open PySem PySem.Spec PyProof.Rows L2
def eqB2 : PyData → PyData → Bool
  | .bool a, .bool b => a == b
  | _, _ => false
abbrev nFits : List Str := ["_law_read", "_law_places", "_law_own", "_law_sums", "_law_mul", "_law_load", "_law_store", "_law_zero", "_law_go", "_law_out", "_law_good", "_law_one"]
def triP (r a b c : Int) : Bool := decide (r ≤ a) && (decide (a ≤ b) && decide (b < c))
section
variable {P : Program} {w : World} {K : Frag} {mg : Str → Option Value} {base : Heap} {f f1 f2 f3 f4 f5 : Addr} {fd fd1 fd2 fd3 fd4 fd5 : FuncData}
theorem sc_fits : FnScope nFits ["_law_read", "_law_places"] (defScope sFits) := ⟨rfl, rfl, rfl, by decide +kernel, rfl, by decide +kernel, by decide +kernel⟩
abbrev spFits (K : Frag) : Sp := spF K 2 (fun ds => (∃ r, ds.getD 0 .none = .int r) ∧ shapeD (ds.getD 1 .none) = true) fun ds => .bool (orderB (intOf (ds.getD 0 .none)) (ds.getD 1 .none))
theorem ok_fits (B : Blt mg) (F : Fn K mg "_law_fits" sFits ["_law_read", "_law_places"] f fd) : FnOk P w K mg base CX0 1 f fd ["_law_read", "_law_places"] (spFits K) := by
  refine ok_pure F.F sc_fits rfl fun cdv A outer s H E W ds D hr hl hp g => ?_
  match ds, hl with
  | [r', pl], _ =>
    obtain ⟨⟨r, hr'⟩, hsh⟩ := hp
    have hr' : r' = .int r := hr'
    subst hr'
    have hsh : shapeD pl = true := hsh
    obtain ⟨a0, a1, b0, b1, b2, c0, c1, c2, e0, e1, e2, s0, s1, s2, z0, z1, g0, u0, u1, rfl⟩ := shape_all hsh
    have hu65 : (A.deeper (envOfC "_law_fits" (defScope sFits) s.heap.objs.size f cdv)).units + 65 < cLine := by
      have := hr.un
      omega
    refine hs_unpack (is := [2, 3, 4, 5, 6, 7, 8, 9]) rfl (xv 1) (pgs_cons (pg_name (i := 2) sc_fits.nd rfl (Or.inl rfl)) (pgs_cons (pg_name (i := 3) sc_fits.nd rfl (Or.inl rfl)) (pgs_cons (pg_name (i := 4) sc_fits.nd rfl (Or.inl rfl)) (pgs_cons (pg_name (i := 5) sc_fits.nd rfl (Or.inl rfl)) (pgs_cons (pg_name (i := 6) sc_fits.nd rfl (Or.inl rfl)) (pgs_cons (pg_name (i := 7) sc_fits.nd rfl (Or.inl rfl)) (pgs_cons (pg_name (i := 8) sc_fits.nd rfl (Or.inl rfl)) (pgs_cons (pg_name (i := 9) sc_fits.nd rfl (Or.inl rfl)) pgs_nil)))))))) rfl ?_
    generalize hq : (decide (a0 < a1) && (decide (r < a1) && (decide (r ≤ z0) && (decide (z0 ≤ z1) && (decide (r ≤ u0) && decide (u0 ≤ u1)))))) = q0
    refine hs_set (i := 10) (P := Is (.bool q0)) ?_ (fun y hy => ?_) sc_fits.nd
    · rw [← hq]
      refine xe_and (xe_cmp op_lt rr_B0 (xe_ix ix_tup (rr_ixT (ix_nat (k := 0) rfl)) (xv 2) xe_int) (xe_ix ix_tup (rr_ixT (ix_nat (k := 1) rfl)) (xv 2) xe_int)) fun _ => ?_
      refine xe_and (xe_cmp op_lt rr_B0 (xv 0) (xe_ix ix_tup (rr_ixT (ix_nat (k := 1) rfl)) (xv 2) xe_int)) fun _ => ?_
      refine xe_and (xe_cmp op_le rr_B0 (xv 0) (xe_ix ix_tup (rr_ixT (ix_nat (k := 0) rfl)) (xv 7) xe_int)) fun _ => ?_
      refine xe_and (xe_cmp op_le rr_B0 (xe_ix ix_tup (rr_ixT (ix_nat (k := 0) rfl)) (xv 7) xe_int) (xe_ix ix_tup (rr_ixT (ix_nat (k := 1) rfl)) (xv 7) xe_int)) fun _ => ?_
      refine xe_and (xe_cmp op_le rr_B0 (xv 0) (xe_ix ix_tup (rr_ixT (ix_nat (k := 0) rfl)) (xv 9) xe_int)) fun _ => ?_
      exact xe_one (xe_cmp op_le rr_B0 (xe_ix ix_tup (rr_ixT (ix_nat (k := 0) rfl)) (xv 9) xe_int) (xe_ix ix_tup (rr_ixT (ix_nat (k := 1) rfl)) (xv 9) xe_int))
    subst hy
    let ts : List PyData := [.tuple [.int b0, .int b1, .int b2], .tuple [.int c0, .int c1, .int c2], .tuple [.int e0, .int e1, .int e2]]
    let gg : Nat → Bool := fun i => match i with
      | 0 => q0
      | 1 => q0 && triP r b0 b1 b2
      | 2 => (q0 && triP r b0 b1 b2) && triP r c0 c1 c2
      | _ => ((q0 && triP r b0 b1 b2) && triP r c0 c1 c2) && triP r e0 e1 e2
    let ΓΓ : Bool → Option Dv → Gm := fun b o => [some (.d (.int r)), some (.d (.tuple [.tuple [.int a0, .int a1], .tuple [.int b0, .int b1, .int b2], .tuple [.int c0, .int c1, .int c2], .tuple [.int e0, .int e1, .int e2], .tuple [.int s0, .int s1, .int s2], .tuple [.int z0, .int z1], .tuple [.int g0], .tuple [.int u0, .int u1]])),
      some (.d (.tuple [.int a0, .int a1])), some (.d (.tuple [.int b0, .int b1, .int b2])), some (.d (.tuple [.int c0, .int c1, .int c2])), some (.d (.tuple [.int e0, .int e1, .int e2])), some (.d (.tuple [.int s0, .int s1, .int s2])), some (.d (.tuple [.int z0, .int z1])), some (.d (.tuple [.int g0])), some (.d (.tuple [.int u0, .int u1])), some (.d (.bool b)), o]
    have turn : ∀ (W' : Wd) (b : Bool) (o : Option Dv) (x y z : Int) (D' : Ends), (∀ σ H, Tp K W' (ΓΓ (b && triP r x y z) (some (.d (.tuple [.int x, .int y, .int z])))) σ H → D'.nx σ H) →
        HS (cxP P w K mg base nFits "_law_fits" sFits f cdv A outer s H E) (Tp K W' (ΓΓ b (some (.d (.tuple [.int x, .int y, .int z]))))) (match defBody sFits with | _ :: _ :: .For _ _ bd _ _ :: _ => bd | _ => []) D' := fun W' b o x y z D' hD' => by
      refine hs_set (i := 10) (P := Is (.bool (b && triP r x y z))) ?_ (fun y' hy' => ?_) sc_fits.nd
      · refine xe_and (xv 10) fun _ => ?_
        refine xe_and (xe_cmp op_le rr_B0 (xv 0) (xe_ix ix_tup (rr_ixT (ix_nat (k := 0) rfl)) (xv 11) xe_int)) fun _ => ?_
        refine xe_and (xe_cmp op_le rr_B0 (xe_ix ix_tup (rr_ixT (ix_nat (k := 0) rfl)) (xv 11) xe_int) (xe_ix ix_tup (rr_ixT (ix_nat (k := 1) rfl)) (xv 11) xe_int)) fun _ => ?_
        exact xe_one (xe_cmp op_lt rr_B0 (xe_ix ix_tup (rr_ixT (ix_nat (k := 1) rfl)) (xv 11) xe_int) (xe_ix ix_tup (rr_ixT (ix_nat (k := 2) rfl)) (xv 11) xe_int))
      subst hy'
      exact HS.nil hD'
    refine hs_forLT (ds := ts) (j := 11) (G := fun i Γ' => ∃ o, Γ' = ΓΓ (gg i) o) rfl PassesOwn.never sc_fits.nd (xe_lst (xac (xv 3) (xac (xv 4) (xac (xv 5) xa0))) (by show 3 ≤ 100000; decide)) ⟨none, rfl⟩ (fun H1 i d Γ' jj hd ⟨o, e⟩ => ?_) (fun Γ' ⟨o, e⟩ => ?_)
    · subst e
      match i, hd with
      | 0, hd =>
        cases hd
        exact turn _ q0 o b0 b1 b2 _ fun σ H T => ⟨_, ⟨_, rfl⟩, T⟩
      | 1, hd =>
        cases hd
        exact turn _ _ o c0 c1 c2 _ fun σ H T => ⟨_, ⟨_, rfl⟩, T⟩
      | 2, hd =>
        cases hd
        exact turn _ _ o e0 e1 e2 _ fun σ H T => ⟨_, ⟨_, rfl⟩, T⟩
      | _ + 3, hd => cases hd
    · subst e
      refine hs_ret (P := Is (.bool (gg 3 && (decide (r ≤ min s0 s1) && decide (max s0 s1 < s2))))) ?_ (g.is ?_)
      · refine xe_and (xv 10) fun _ => ?_
        refine xe_and (xe_cmp op_le rr_B0 (xv 0) (xe_callB (call_minT rfl hu65) rr_minT B.min (by decide +kernel) (xac (xe_slice (xv 6) xo_none (xo_some xe_int)) xa0))) fun _ => ?_
        exact xe_one (xe_cmp op_lt rr_B0 (xe_callB (call_maxT rfl hu65) rr_maxT B.max (by decide +kernel) (xac (xe_slice (xv 6) xo_none (xo_some xe_int)) xa0)) (xe_ix ix_tup (rr_ixT (ix_nat (k := 2) rfl)) (xv 6) xe_int))
      · show PyData.bool (orderB r _) = PyData.bool ((((q0 && triP r b0 b1 b2) && triP r c0 c1 c2) && triP r e0 e1 e2) && _)
        rw [← hq]
        congr 1
        show ((decide (r < a1) && (decide (a0 < a1) && ((decide (r ≤ z0) && decide (z0 ≤ z1)) && (decide (r ≤ u0) && decide (u0 ≤ u1))))) && ((triP r b0 b1 b2 && (triP r c0 c1 c2 && (triP r e0 e1 e2 && true))) && ((decide (r ≤ s0) && decide (s0 < s2)) && ((decide (r ≤ s1) && decide (s1 < s2)) && true)))) = _
        unfold triP
        rw [Bool.eq_iff_iff]
        simp only [Bool.and_eq_true, decide_eq_true_eq, Bool.and_true]
        omega
/-! ### alike, of two truth values -/
theorem sc_alike : FnScope ["_law_found", "_law_due", "_law_k"] ["_law_found", "_law_due"] (defScope sAlike) := ⟨rfl, rfl, rfl, by decide +kernel, rfl, by decide +kernel, by decide +kernel⟩
abbrev spAlike (K : Frag) : Sp := spF K 2 (fun ds => ∃ a b, ds = [.bool a, .bool b]) fun ds => .bool (eqB2 (ds.getD 0 .none) (ds.getD 1 .none))
end
section
variable {X : Cx} {W : Wd} {Γ : Gm} {a : Expr} {p p1 p2 pos pt : Pos}
theorem xe_isiSeq {x : Bool} {k : Nat} (mi : X.mg "isinstance" = none) (mt : X.mg "tuple" = none) (ml : X.mg "list" = none) (ha : XE X W Γ a (Is (.bool x))) (g1 : Gl X "isinstance" := by rfl) (g2 : Gl X "tuple" := by rfl) (g3 : Gl X "list" := by rfl)
    (he : starEach [a, .Tuple [.Name "tuple" p1, .Name "list" p2] k pt] X.env = (false, eval a X.env) :: starEach [.Tuple [.Name "tuple" p1, .Name "list" p2] k pt] X.env := by rfl) (hpl : (backTo pos (starEach [.Tuple [.Name "tuple" p1, .Name "list" p2] k pt] X.env)).any (·.1) = false := by rfl) :
    XE X W Γ (.Call (.Name "isinstance" p) [a, .Tuple [.Name "tuple" p1, .Name "list" p2] k pt] [] pos) (Is (.bool false)) := by
  have hT : XA X W Γ [.Name "tuple" p1, .Name "list" p2] (fun xs => xs = [.t "tuple", .t "list"]) := (xa_cons (xe_ty (n := "tuple") mt (by decide +kernel) g2) (xa_cons (xe_ty (n := "list") ml (by decide +kernel) g3) xa_nil)).imp fun xs ⟨x, r, e1, e2, y, r', e3, e4, e5⟩ => by rw [e1, e2, e3, e4, e5]
  refine pe_imp (pe_callB call_isiT g1 mi (by decide +kernel) (pa_cons ha (pa_cons (pe_tup hT) pa_nil) he) (by decide) (by decide) he hpl) fun σ H Q ⟨T, R⟩ => ⟨T, fun v z H1 pz rz e1 j1 => ⟨T.mono e1 j1, fun vs xs H2 px rx e2 j2 => ?_⟩⟩
  subst pz
  cases rz
  subst px
  cases rx with
  | cons r1 rx =>
    cases rx with
    | cons r2 rx =>
      cases rx
      have r1 : _ = V.ty "tuple" := r1
      have r2 : _ = V.ty "list" := r2
      subst r1 r2
      refine ⟨by decide, fun q hq => ?_⟩
      obtain ⟨j3, e3, n3⟩ := new_world (o := .tup [V.ty "tuple", V.ty "list"]) j2 hq
      exact ⟨.bl x, q, [.ty "tuple", .ty "list"], .type "bool", [.type "tuple", .type "list"], false, rfl, upd_same, .cons (.ty _) (.cons (.ty _) .nil), .base (.bl x), kitAny_cons (b := false) (kit_ty (by decide +kernel)) (fun _ => kitAny_cons (b := false) (kit_ty (by decide +kernel)) (fun _ => rfl) (fun z => nomatch z)) (fun z => nomatch z), R _ _ _ rfl (Dw.bl _) ((e1.trans e2).trans e3) j3⟩
theorem xt_isNone {x : Bool} {j : Nat} (ha : XE X W Γ a (Is (.bool x))) : XT X W Γ (.Compare a [.Is] [.Constant .none j p2] pos) false :=
  xt_cmp (r := fun x y H Q => y = .non ∧ Q (.bl (decide (x = .non))) H) op_isN (Pb := Is .none) (fun x' y v u H Q px py rx ry jj R => by
    subst px py
    cases rx
    cases ry
    exact ⟨rfl, R _ _ H rfl (Dw.bl _) (Er.refl H) jj⟩) ha xe_non
end
section
variable {P : Program} {w : World} {K : Frag} {mg : Str → Option Value} {base : Heap} {f f1 f2 f3 f4 f5 : Addr} {fd fd1 fd2 fd3 fd4 fd5 : FuncData}
theorem ok_alike (B : Blt mg) (F : Fn K mg "_law_alike" sAlike ["_law_found", "_law_due"] f fd) : FnOk P w K mg base CX0 1 f fd ["_law_found", "_law_due"] (spAlike K) := by
  refine ok_pure F.F sc_alike rfl fun cdv A outer s H E W ds D hr hl hp g => ?_
  obtain ⟨a, b, rfl⟩ := hp
  refine hs_when (b := false) (xt_val (xe_isiSeq B.isi B.tuple B.list (xv 1))) (fun z => nomatch z) fun _ => ?_
  refine hs_when (b := false) ((xw_or (x := false) (y := false) (xt_isNone (xv 1)) fun _ => xw_or1 (xt_val (xe_isi (kit_str (.bool b)) B.isi B.str (by decide +kernel) (xv 1)))).t) (fun z => nomatch z) fun _ => ?_
  refine hs_ret (P := Is (.bool (true && (true && (a == b))))) ?_ (g.is ?_)
  · refine xe_and (xe_isi (kit_int (.bool a)) B.isi B.int (by decide +kernel) (xv 0)) fun _ => ?_
    refine xe_and ((xe_cmp op_eq rr_eqB (xe_isi (kit_bool (.bool a)) B.isi B.bool (by decide +kernel) (xv 0)) (xe_isi (kit_bool (.bool b)) B.isi B.bool (by decide +kernel) (xv 1))).is rfl) fun _ => ?_
    exact xe_one (xe_cmp op_eq rr_eqB (xv 0) (xv 1))
  · show PyData.bool (a == b) = _
    cases a <;> cases b <;> rfl
end
end SB

/-! Lists of tracked key tuples. -/
namespace SB
open PySem PySem.Spec PyProof.Rows L2
theorem kV_inj {a b : Key} (h : kV a = kV b) : a = b := by
  cases a with
  | inl i =>
    cases b with
    | inl j => exact congrArg Sum.inl (V.int.inj h)
    | inr y => exact nomatch (show V.int i = V.str y from h)
  | inr x =>
    cases b with
    | inl j => exact nomatch (show V.str x = V.int j from h)
    | inr y => exact congrArg Sum.inr (V.str.inj h)
theorem kVs_inj : ∀ {a b : List Key}, a.map kV = b.map kV → a = b
  | [], [], _ => rfl
  | [], _ :: _, h => nomatch h
  | _ :: _, [], h => nomatch h
  | x :: a, y :: b, h => by
    rw [List.map_cons, List.map_cons] at h
    injection h with h1 h2
    rw [kV_inj h1, kVs_inj h2]
open Classical in
noncomputable def kOf (H : Hp) : V → List Key
  | .ref b => if h : ∃ ks : List Key, H b = some (.tup (ks.map kV)) then choose h else []
  | _ => []
open Classical in
theorem kOf_eq {H : Hp} {b : Addr} {ks : List Key} (h : H b = some (.tup (ks.map kV))) : kOf H (.ref b) = ks := by
  have he : ∃ ks : List Key, H b = some (.tup (ks.map kV)) := ⟨ks, h⟩
  have e : kOf H (.ref b) = choose he := dif_pos he
  rw [e]
  have h2 := choose_spec he
  exact (kVs_inj (HO.tup.inj (Option.some.inj (h.symm.trans h2)))).symm
section
variable {S : ASet} {H : Hp}
theorem hks_len : ∀ {bs : List Addr} {kss : List (List Key)}, Paired (HK S H) bs kss → bs.length = kss.length
  | _, _, .nil => rfl
  | _, _, .cons _ t => congrArg (· + 1) (hks_len t)
theorem hks_map : ∀ {bs : List Addr} {kss : List (List Key)}, Paired (HK S H) bs kss → kss = (bs.map V.ref).map (kOf H)
  | _, _, .nil => rfl
  | _, _, .cons a t => by
    rw [List.map_cons, List.map_cons, kOf_eq a.1, ← hks_map t]
theorem hks_mem : ∀ {bs : List Addr} {kss : List (List Key)} {b : Addr}, Paired (HK S H) bs kss → b ∈ bs → ∃ ks, ks ∈ kss ∧ HK S H b ks
  | _, _, b, .nil, h => absurd h (by simp)
  | _, _, b, .cons (a := x) a t, h => by
    rcases List.mem_cons.mp h with e | h
    · subst e
      exact ⟨_, List.mem_cons_self, a⟩
    · obtain ⟨ks, h1, h2⟩ := hks_mem t h
      exact ⟨ks, List.mem_cons_of_mem _ h1, h2⟩
theorem hks_app {bs cs : List Addr} {kss lss : List (List Key)} (h : Paired (HK S H) bs kss) (h' : Paired (HK S H) cs lss) : Paired (HK S H) (bs ++ cs) (kss ++ lss) := by
  induction h with
  | nil => exact h'
  | cons a t ih => exact .cons a ih
theorem hks_of {bs : List Addr} (h : ∀ b ∈ bs, ∃ ks, HK S H b ks) : Paired (HK S H) bs ((bs.map V.ref).map (kOf H)) := by
  induction bs with
  | nil => exact .nil
  | cons b bs ih =>
    obtain ⟨ks, hk⟩ := h b List.mem_cons_self
    refine .cons ?_ (ih fun c hc => h c (List.mem_cons_of_mem _ hc))
    rw [kOf_eq hk.1]
    exact hk
theorem hks_at : ∀ {bs : List Addr} {kss : List (List Key)} {i : Nat} {ks : List Key}, Paired (HK S H) bs kss → kss[i]? = some ks → ∃ b, (bs.map V.ref)[i]? = some (.ref b) ∧ HK S H b ks
  | _, _, _, _, .nil, e => by simp at e
  | _, _, 0, _, .cons a _, e => by simp at e; subst e; exact ⟨_, rfl, a⟩
  | _, _, i + 1, _, .cons _ t, e => by
    obtain ⟨b, h1, h2⟩ := hks_at (i := i) t (by simpa using e)
    exact ⟨b, by simpa using h1, h2⟩
/-- the data of key tuples -/
abbrev tupsD (kss : List (List Key)) : List PyData := kss.map fun ks => .tuple (ks.map keyD)
theorem hks_dwa {K : Frag} : ∀ {bs : List Addr} {kss : List (List Key)}, Paired (HK S H) bs kss → DwA K S H (bs.map V.ref) (tupsD kss)
  | _, _, .nil => .nil
  | _, ks :: _, .cons a t => .cons (.tup (.inl ⟨.inl a.1, a.2⟩) (keys_dwa ks)) (hks_dwa t)
end
structure CH (W : Wd) (H1 : Hp) (p : Addr) (kss : List (List Key)) (H : Hp) : Prop where
  j : W.J H
  er : Er W.S H1 H
  at_ : ∃ bs : List Addr, H p = some (.lst (bs.map V.ref)) ∧ Paired (HK W.S H) bs kss
section
variable {K : Frag} {W : Wd} {H1 H H4 : Hp} {p : Addr} {kss : List (List Key)} {ks : List Key} {v : V}
theorem CH.start (j1 : W.J H1) (hp : H1 p = none) : CH W H1 p [] (upd H1 p (.lst [])) := ⟨W.more j1 (Ex.new hp), (Ex.new hp).er, [], upd_same, .nil⟩
theorem HK.upd {b : Addr} {o u : HO} (h : HK W.S H b ks) (hp : H p = some u) (hu : mutO u) : HK W.S (upd H p o) b ks := ⟨by
  rw [upd_ne (fun z => by
    have h1 := h.1
    rw [z, hp] at h1
    have e := Option.some.inj h1
    rw [e] at hu
    exact hu)]
  exact h.1, h.2⟩
theorem hks_upd {o u : HO} (hp : H p = some u) (hu : mutO u) : ∀ {bs : List Addr} {kss : List (List Key)}, Paired (HK W.S H) bs kss → Paired (HK W.S (upd H p o)) bs kss
  | _, _, .nil => .nil
  | _, _, .cons a t => .cons (a.upd hp hu) (hks_upd hp hu t)
theorem CH.next (j1 : W.J H1) (hp : H1 p = none) (c : CH W H1 p kss H) (e4 : Er W.S H H4) (j4 : W.J H4) (w : VR K W.S H4 v (.h ks)) (hl : kss.length < 100000) :
    ∃ acc, H4 p = some (.lst acc) ∧ acc.length < sizeLine ∧ CH W H1 p (kss ++ [ks]) (upd H4 p (.lst (acc ++ [v]))) := by
  obtain ⟨bs, ha, hw⟩ := c.at_
  obtain ⟨b, rfl, hb⟩ := w
  have np : ¬ W.S p := fun s => W.dom j1 s hp
  have h4 := e4 p _ np ha
  refine ⟨bs.map V.ref, h4, Nat.lt_of_lt_of_le (by rw [List.length_map, hks_len hw]; exact hl) (by decide), W.turn j1 hp (c.er.trans e4) j4 h4 trivial, fun a o n h => ?_, bs ++ [b], ?_, ?_⟩
  · rw [upd_ne (ne_of_none h hp)]
    exact e4 a o n (c.er a o n h)
  · rw [upd_same, List.map_append]
    rfl
  · exact hks_app (hks_upd h4 trivial (hks_mono e4 hw)) (.cons (hb.upd h4 trivial) .nil)
theorem CH.fin (j1 : W.J H1) (hp : H1 p = none) (c : CH W H1 p kss H) : VR K W.S H (.ref p) (.hl kss) := by
  obtain ⟨bs, ha, hw⟩ := c.at_
  exact ⟨p, bs, rfl, ha, fun s => W.dom j1 s hp, hw⟩
end
section
variable {X : Cx} {W : Wd} {Γ : Gm} {iter elt e a b tg : Expr} {es : List Expr} {pos p : Pos} {n : Str} {j : Nat} {scope : Scope} {ks : List Key} {kss lss : List (List Key)} {K : Frag}
abbrev IsH (ks : List Key) : Dv → Prop := fun x => x = .h ks
abbrev IsHL (kss : List (List Key)) : Dv → Prop := fun x => x = .hl kss
/-- (k, ..) -/
theorem xe_tupH {k} (h : XA X W Γ es (IsA (ks.map keyD))) (hl : ks.length ≤ 100000 := by first | decide | simp) : XE X W Γ (.Tuple es k pos) (IsH ks) := pe_imp (pe_tup h) fun σ H Q ⟨T, R⟩ =>
  ⟨T, fun vs xs H2 ps rs e2 j2 => by
    have hw : DwA X.K W.S H2 vs (ks.map keyD) := VRA.dwa (ps ▸ rs)
    have ev := dwa_keys hw
    subst ev
    refine ⟨Nat.le_trans (by rw [List.length_map]; exact hl) (by decide), fun p hp => ?_⟩
    obtain ⟨j3, e3, n3⟩ := new_world (o := .tup (ks.map kV)) j2 hp
    exact R _ _ _ rfl ⟨p, rfl, upd_same, n3⟩ (e2.trans e3) j3⟩
theorem xe_lst2H {k1 k2 : List Key} (ha : XE X W Γ a (IsH k1)) (hb : XE X W Γ b (IsH k2)) (h1 : starEach [a, b] X.env = (false, eval a X.env) :: starEach [b] X.env := by rfl) (h2 : starEach [b] X.env = (false, eval b X.env) :: starEach [] X.env := by rfl) : XE X W Γ (.List [a, b] pos) (IsHL [k1, k2]) :=
  pe_imp (pe_lst (xa_cons ha (xa_cons hb xa_nil h2) h1)) fun σ H Q ⟨T, R⟩ => ⟨T, fun vs xs H2 ⟨x, r, e1, e2, y, r', e3, e4, e5⟩ rs e6 j2 => by
    subst e5 e4 e2
    subst e3
    subst e1
    cases rs with
    | cons r1 rs =>
      cases rs with
      | cons r2 rs =>
        cases rs
        obtain ⟨b1, rfl, hb1⟩ := r1
        obtain ⟨b2, rfl, hb2⟩ := r2
        refine ⟨by show 2 ≤ sizeLine; decide, fun p hp => ?_⟩
        obtain ⟨j3, e3, n3⟩ := new_world (o := .lst [.ref b1, .ref b2]) j2 hp
        exact R _ _ _ rfl ⟨p, [b1, b2], rfl, upd_same, n3, .cons (hb1.mono e3) (.cons (hb2.mono e3) .nil)⟩ (e6.trans e3) j3⟩
theorem xe_lst0H : XE X W Γ (.List [] pos) (IsHL []) := pe_imp (pe_lst (xa_nil (W := W) (Γ := Γ))) fun σ H Q ⟨T, R⟩ => ⟨T, fun vs xs H2 px rs e6 j2 => by
    subst px
    cases rs
    refine ⟨by show 0 ≤ sizeLine; decide, fun p hp => ?_⟩
    obtain ⟨j3, e3, n3⟩ := new_world (o := .lst []) j2 hp
    exact R _ _ _ rfl ⟨p, [], rfl, upd_same, n3, .nil⟩ (e6.trans e3) j3⟩
theorem rr_catH (hl : kss.length + lss.length ≤ 100000) : RR2 K W rCat (IsHL kss) (IsHL lss) (IsHL (kss ++ lss)) := fun x y v u H Q px py rx ry jj R => by
  subst px py
  obtain ⟨l, bs, rfl, h1, h2, h3⟩ := rx
  obtain ⟨m, cs, rfl, h4, h5, h6⟩ := ry
  refine ⟨l, m, _, _, rfl, rfl, h1, h4, ?_, fun r hr => ?_⟩
  · rw [List.length_map, List.length_map, hks_len h3, hks_len h6]
    exact Nat.le_trans hl (by decide)
  · obtain ⟨j4, e4, n4⟩ := new_world (o := .lst (bs.map V.ref ++ cs.map V.ref)) jj hr
    exact R _ _ _ rfl ⟨r, bs ++ cs, rfl, by rw [upd_same, List.map_append], n4, hks_app (hks_mono e4 h3) (hks_mono e4 h6)⟩ e4 j4
/-- [elt for tg in iter], iter a list of data, elt a key tuple -/
theorem xe_lcH {ds : List PyData} {Gd : PyData → Gm} {R : List Key → Prop} {g : TG} {own : List (Str × Nat)} (hc : X.calm = true) (hN : X.N.Nodup) (hi : XE X W Γ iter (Is (.list ds))) (ok : BlkOk X.N X.env.scope scope own)
    (hg : ∀ (s : Shared) (H : Hp) (C : Addr) (cl : List (Str × Addr)) (fp : List Addr), PG (X.blk s H scope (compEnvC scope cl C X.env) fp) tg g)
    (hgt : ∀ (d : PyData) (x : V) (σ : L2.St) (H : Hp) (Q : L2.St → Hp → Prop), d ∈ ds → Dw X.K W.S H x d → Tp X.K W Γ σ H → (∀ σ2, wipe σ2 (own.map (·.2)) = wipe σ (own.map (·.2)) → Tp X.K W (Gd d) σ2 H → Q σ2 H) → g x (wipe σ (own.map (·.2))) H Q)
    (he : ∀ (s : Shared) (H : Hp) (C : Addr) (cl : List (Str × Addr)) (fp : List Addr) (d : PyData), d ∈ ds → XE (X.blk s H scope (compEnvC scope cl C X.env) fp) W (Gd d) elt (fun x => ∃ ks, x = .h ks ∧ R ks))
    (hl : ds.length ≤ 90000) (hs : ∀ x, foldedSetIterable iter X.env x = pure x := by intro _; rfl) :
    XE X W Γ (.ListComp elt [⟨tg, iter, [], 0⟩] scope pos) (fun x => ∃ kss : List (List Key), x = .hl kss ∧ kss.length = ds.length ∧ ∀ ks ∈ kss, R ks) := by
  refine pe_imp (pe_lc (own := own) (g := g) (tt := tYes) (te := fun σ H Q => ∃ d, d ∈ ds ∧ Tp X.K W (Gd d) σ H ∧ Ret X.K W H (fun x => ∃ ks, x = .h ks ∧ R ks) Q) hc hN (pi_list hi) ok hg (fun _ _ _ _ _ => pts_nil)
    (fun s H C cl fp => ⟨fun pins s' σ H' Q I ⟨d, hd, q⟩ => (he s H C cl fp d hd).run pins s' σ H' Q I q⟩) hs) fun σ H Q ⟨T, RQ⟩ => ⟨T, fun v z H1 pz rz e1 j1 => ?_⟩
  subst pz
  cases rz with
  | lst pt w =>
    rename_i a xs
    refine ⟨a, rfl, ⟨xs, pt.sq⟩, fun D hD => ?_⟩
    refine lc_list (K := X.K) (a := a) (xs := xs) (g := g) (tt := tYes) (te := fun σ H Q => ∃ d, d ∈ ds ∧ Tp X.K W (Gd d) σ H ∧ Ret X.K W H (fun x => ∃ ks, x = .h ks ∧ R ks) Q) (vs := own.map (·.2)) (σ := σ) (Qd := fun H => Q (.ref D) H) (fun i H' => ∃ kss : List (List Key), kss.length = i ∧ (∀ ks ∈ kss, R ks) ∧ CH W H1 D kss H') ⟨[], rfl, fun _ h => absurd h (by simp), CH.start j1 hD⟩ (fun i H' _ ⟨es, _, _, c⟩ => ?_) (fun i x H' hx ⟨kss, hp, hR, c⟩ => ?_) (fun H' ⟨kss, hp, hR, c⟩ => ?_)
    · exact .inl (.inl (c.er _ _ pt.2 pt.1))
    · obtain ⟨d, hd, wd⟩ := w.get' hx
      have hil : i < ds.length := (List.getElem?_eq_some_iff.mp hd).1
      refine hgt d x σ H' _ (List.mem_of_getElem? hd) (wd.mono c.er) (T.mono (e1.trans c.er) c.j) fun σ2 hw T2 => ⟨hw, ?_⟩
      show ∃ d, _
      refine ⟨d, List.mem_of_getElem? hd, T2, fun v' x' H4 ⟨ks, px, hre⟩ rx e4 j4 => ?_⟩
      subst px
      obtain ⟨acc, h1, h2, h3⟩ := CH.next (K := X.K) j1 hD c e4 j4 rx (by omega)
      refine ⟨acc, h1, h2, kss ++ [ks], by rw [List.length_append, hp]; rfl, fun ms hm => ?_, h3⟩
      rcases List.mem_append.mp hm with h | h
      · exact hR ms h
      · rw [List.mem_singleton.mp h]
        exact hre
    · exact RQ _ _ H' ⟨kss, rfl, by rw [hp, w.length], hR⟩ (c.fin j1 hD) (e1.trans c.er) c.j
/-- sorted(..) of key tuples -/
theorem rr_sortedH {B : Bool} (h1 : ∀ ks ∈ kss, firstK B ks = true) (h2 : ∀ ks ∈ kss, ∀ ms ∈ kss, compK ks ms = true) : RRC K W (rSortedK K) (fun xs => xs = [.hl kss]) (fun x => ∃ lss, x = .hl lss ∧ lss.Perm kss ∧ SrtO.Srtd lexK lss) := fun xs vs H Q ps rs jj R => by
  subst ps
  cases rs with
  | cons r1 rs =>
    cases rs
    obtain ⟨l, bs, rfl, h3, h4, h5⟩ := r1
    have hk : ∀ x ∈ bs.map V.ref, ∃ t, x = V.ref t ∧ HK W.S H t (kOf H x) ∧ kOf H x ∈ kss := fun x hx => by
      obtain ⟨t, ht, rfl⟩ := List.mem_map.mp hx
      obtain ⟨ks, m, hks⟩ := hks_mem h5 ht
      rw [kOf_eq hks.1]
      exact ⟨t, rfl, hks, m⟩
    refine ⟨l, _, kOf H, B, rfl, .inl (.inl h3), fun x hx => ?_, fun x hx y hy => ?_, fun ys p hs hp hn => ?_⟩
    · obtain ⟨t, rfl, ht, m⟩ := hk x hx
      exact ⟨⟨t, rfl, .inl (.inl ht.1)⟩, h1 _ m⟩
    · obtain ⟨_, _, _, m⟩ := hk x hx
      obtain ⟨_, _, _, m'⟩ := hk y hy
      exact h2 _ m _ m'
    · obtain ⟨j4, e4, n4⟩ := new_world (o := .lst ys) jj hn
      have hy : ∃ cs : List Addr, ys = cs.map V.ref := by
        have : ∀ y ∈ ys, ∃ t, y = V.ref t := fun y m => by
          obtain ⟨t, e, _⟩ := hk y (hp.mem_iff.mp m)
          exact ⟨t, e⟩
        clear hs hp j4 e4 n4
        induction ys with
        | nil => exact ⟨[], rfl⟩
        | cons y ys ih =>
          obtain ⟨t, rfl⟩ := this y List.mem_cons_self
          obtain ⟨cs, hc⟩ := ih fun z m => this z (List.mem_cons_of_mem _ m)
          exact ⟨t :: cs, by rw [hc]; rfl⟩
      obtain ⟨cs, rfl⟩ := hy
      have hc : ∀ c ∈ cs, ∃ ks, HK W.S H c ks := fun c m => by
        obtain ⟨t, e, ht, _⟩ := hk (.ref c) (hp.mem_iff.mp (List.mem_map.mpr ⟨c, m, rfl⟩))
        cases e
        exact ⟨_, ht⟩
      refine R _ (.hl ((cs.map V.ref).map (kOf H))) _ ⟨_, rfl, ?_, SrtO.srtd_map hs⟩ ⟨p, cs, rfl, upd_same, n4, hks_mono e4 (hks_of hc)⟩ e4 j4
      rw [hks_map h5]
      exact hp.map _
/-- tuple(..) of a list of key tuples -/
theorem rr_tupleH : RRC K W (fun xs H Q => ∃ p ys, xs = [.ref p] ∧ ((SqL K H p ys ∧ ∀ l, H l = none → Q (.ref l) (upd H l (.tup ys))) ∨ (SqT K H p ys ∧ Q (.ref p) H))) (fun xs => xs = [.hl kss]) (Is (.tuple (tupsD kss))) := fun xs vs H Q ps rs jj R => by
  subst ps
  cases rs with
  | cons r1 rs =>
    cases rs
    obtain ⟨l, bs, rfl, h3, h4, h5⟩ := r1
    refine ⟨l, _, rfl, .inl ⟨.inl (.inl h3), fun p hp => ?_⟩⟩
    obtain ⟨j4, e4, n4⟩ := new_world (o := .tup (bs.map V.ref)) jj hp
    exact R _ _ _ rfl (Dw.tup (.inl ⟨.inl upd_same, n4⟩) (hks_dwa (hks_mono e4 h5))) e4 j4
/-- .. of a list of data -/
theorem rr_tupleL {ds : List PyData} : RRC K W (fun xs H Q => ∃ p ys, xs = [.ref p] ∧ ((SqL K H p ys ∧ ∀ l, H l = none → Q (.ref l) (upd H l (.tup ys))) ∨ (SqT K H p ys ∧ Q (.ref p) H))) (IsA [.list ds]) (Is (.tuple ds)) := fun xs vs H Q ps rs jj R => by
  subst ps
  have w := VRA.dwa (ds := [.list ds]) rs
  cases w with
  | cons w1 w2 =>
    cases w2
    cases w1 with
    | lst q w =>
      refine ⟨_, _, rfl, .inl ⟨q.sq, fun p hp => ?_⟩⟩
      obtain ⟨j4, e4, n4⟩ := new_world (o := .tup _) jj hp
      exact R _ _ _ rfl (Dw.tup (.inl ⟨.inl upd_same, n4⟩) (w.mono e4)) e4 j4
/-- one argument of any kind -/
theorem xa_one {Pa : Dv → Prop} (ha : XE X W Γ a Pa) (hs : starEach [a] X.env = (false, eval a X.env) :: starEach [] X.env := by rfl) : XA X W Γ [a] (fun xs => ∃ x, xs = [x] ∧ Pa x) := (xa_cons ha xa_nil hs).imp fun xs ⟨x, r, e1, e2, e3⟩ => ⟨x, by rw [e1, e3], e2⟩
theorem RRC.of {r : List V → Hp → VK → Prop} {Ps : List Dv → Prop} {P : Dv → Prop} (h : ∀ xs, Ps xs → RRC K W r (fun ys => ys = xs) P) : RRC K W r Ps P := fun xs vs H Q ps rs jj R => h xs ps xs vs H Q rfl rs jj R
theorem RRC.post {r : List V → Hp → VK → Prop} {Ps : List Dv → Prop} {P P' : Dv → Prop} (h : RRC K W r Ps P') (i : ∀ x, P' x → P x) : RRC K W r Ps P := fun xs vs H Q ps rs jj R => h xs vs H Q ps rs jj (R.imp i)
end
/-! ### for n in range(lo, hi) -/
section
variable {X : Cx} {W : Wd} {Γ : Gm} {a b : Expr} {pos p p2 pos' : Pos} {rest body : List Stmt} {D : Ends} {n : Str} {j : Nat}
theorem hs_range2 {lo hi : Int} (Pv : Nat → L2.St → Hp → Prop) (hc : X.calm = true) (hx : PassesOwn (model X.prog X.w) X.A X.env X.xe) (hN : X.N.Nodup) (hm : X.mg "range" = none) (ha : XE X W Γ a (Is (.int lo))) (hb' : XE X W Γ b (Is (.int hi))) (hB : -100 ≤ lo ∧ lo ≤ 100000 ∧ -100 ≤ hi ∧ hi ≤ 100000)
    (h0 : ∀ σ H, Tp X.K W Γ σ H → Pv 0 σ H) (hb : ∀ i : Nat, i < (hi - lo).toNat → HS X (SetAt j (fun v H => v = .int (lo + (i : Int))) (Pv i)) body (Then D (Pv (i + 1))))
    (hr : HS X (Pv (hi - lo).toNat) rest D) (hi' : X.N[j]? = some n := by rfl) (hL : Loc X.env.scope n := by first | exact Or.inl rfl | exact Or.inr rfl)
    (hf : X.fn n = true ∨ X.env.scope.names.lookup n = some .local := by first | exact .inl rfl | exact .inr rfl) (hg : Gl X "range" := by rfl) (hs : starEach [a, b] X.env = [(false, eval a X.env), (false, eval b X.env)] := by rfl) (hs2 : starEach [b] X.env = [(false, eval b X.env)] := by rfl)
    (hfs : ∀ x, foldedSetIterable (.Call (.Name "range" p) [a, b] [] p2) X.env x = pure x := by intro _; rfl) :
    HS X (Tp X.K W Γ) (.For (.Name n pos) (.Call (.Name "range" p) [a, b] [] p2) body [] pos' :: rest) D := by
  have hbody : PSs X body (fun D' σ H => ∃ i : Nat, i < (hi - lo).toNat ∧ D'.nx = Pv (i + 1) ∧ D'.ct = Pv (i + 1) ∧ D'.rt = D.rt ∧ SetAt j (fun v H => v = .int (lo + (i : Int))) (Pv i) σ H) := by
    refine ⟨fun pins s σ H D' I ⟨i, h1, e1, e2, e3, T⟩ => thn ((hb i h1).run pins s σ H I T) fun f s1 q => ?_⟩
    cases f with
    | next =>
      obtain ⟨σ', H', I', q⟩ := q
      exact ⟨σ', H', I', by rw [e1]; exact q⟩
    | ret v =>
      obtain ⟨v', σ', H', I', r, q⟩ := q
      exact ⟨v', σ', H', I', r, by rw [e3]; exact q⟩
    | cont =>
      obtain ⟨σ', H', I', q⟩ := q
      exact ⟨σ', H', I', by rw [e2]; exact q⟩
    | brk =>
      obtain ⟨_, _, _, q⟩ := q
      exact q.elim
  have ha' : XA X W Γ [a, b] (IsA [.int lo, .int hi]) := xac (d := .int lo) ha (xac (d := .int hi) hb' xa0 hs2) (hs.trans (by rw [hs2]))
  refine .cons (Mid := Pv (hi - lo).toNat) (ps_for hx hc (pi_range2 hg hm ha' hs hs2) (pg_name hN hi' hL hf) hbody hfs) (fun σ H T => rng2_tp ha' hB σ H _ T fun H2 e2 j2 => ?_) hr
  refine for_range (lo := lo) (n := (hi - lo).toNat) (g := gName j) (D := { D with nx := Pv (hi - lo).toNat }) (tb := fun D' σ H => ∃ i : Nat, i < (hi - lo).toNat ∧ D'.nx = Pv (i + 1) ∧ D'.ct = Pv (i + 1) ∧ D'.rt = D.rt ∧ SetAt j (fun v H => v = .int (lo + (i : Int))) (Pv i) σ H) Pv (h0 σ H2 (T.mono e2 j2)) (fun i σ' H' hi' hp => ?_) (fun σ' H' q => q)
  exact ⟨i, hi', rfl, rfl, rfl, σ', .int (lo + (i : Int)), hp, rfl, rfl⟩
end
end SB

/-! _law_entries. -/
namespace SB
open PySem PySem.Spec PyProof.Rows L2
section
variable {X : Cx} {W : Wd} {Γ : Gm} {a b : Expr} {rest : List Stmt} {D : Ends} {Pa Pb : Dv → Prop} {i j : Nat} {x y : Str} {px py pt pos : Pos} {kt : Nat} {k2 : Nat} {pt2 : Pos}
theorem hs_par (hc : X.calm = true) (hN : X.N.Nodup) (ha : XE X W Γ a Pa) (hb : XE X W Γ b Pb) (h : ∀ u v, Pa u → Pb v → HS X (Tp X.K W ((Γ.set i (some u)).set j (some v))) rest D) (hij : i ≠ j) (hi : X.N[i]? = some x := by rfl) (hj : X.N[j]? = some y := by rfl)
    (hx : X.env.scope.names.lookup x = some .local := by rfl) (hy : X.env.scope.names.lookup y = some .local := by rfl) (h1 : starEach [a, b] X.env = (false, eval a X.env) :: starEach [b] X.env := by rfl) (h2 : starEach [b] X.env = (false, eval b X.env) :: starEach [] X.env := by rfl)
    (hw : swappedStores [.Tuple [.Name x px, .Name y py] kt pt] (.Tuple [a, b] k2 pt2) X.env = pure (some [x, y]) := by rfl)
    (hs : swapsWithSole [.Tuple [.Name x px, .Name y py] kt pt] (.Tuple [a, b] k2 pt2) pos.line X.env = pure false := by rfl) :
    HS X (Tp X.K W Γ) (.Assign [.Tuple [.Name x px, .Name y py] kt pt] (.Tuple [a, b] k2 pt2) pos :: rest) D :=
  .cons (Mid := fun σ H => ∃ u v, (Pa u ∧ Pb v) ∧ Tp X.K W ((Γ.set i (some u)).set j (some v)) σ H) (ps_par hc hN hi hj hij hx hy (xa_cons ha (xa_cons hb xa_nil h2) h1) hw hs) (fun σ H T => ⟨T, fun vs xs H2 ⟨u, r, e1, pu, v, r', e2, pv, e3⟩ rs e j2 => by
    subst e3 e2 e1
    cases rs with
    | cons r1 rs =>
      cases rs with
      | cons r2 rs =>
        cases rs
        exact ⟨_, _, rfl, u, v, ⟨pu, pv⟩, ((T.mono e j2).set r1).set r2⟩⟩) (HS.ex fun u => HS.ex fun v => HS.and fun ⟨pu, pv⟩ => h u v pu pv)
end
abbrev nEnt : List Str := ["_law_makers", "_law_found", "_law_users", "_law_d", "_law_one", "_law_other", "_law_role"]
def EntK (ks : List Key) : Prop := isEntryD (.tuple (ks.map keyD)) = true
def FE (kss : List (List Key)) (n : Nat) : Prop := (∀ ks ∈ kss, EntK ks) ∧ kss.length ≤ n
theorem FE.app {kss lss : List (List Key)} {n m : Nat} (h : FE kss n) (h' : FE lss m) : FE (kss ++ lss) (n + m) := ⟨fun ks hk => (List.mem_append.mp hk).elim (h.1 ks) (h'.1 ks), by
  have := h.2
  have := h'.2
  rw [List.length_append]
  omega⟩
theorem ent_in {d : Int} (h : 1 ≤ d ∧ d ≤ 7) : isInD (.int d) 1 7 = true := by
  show (true && (decide (1 ≤ d) && decide (d ≤ 7))) = true
  rw [decide_eq_true h.1, decide_eq_true h.2]
  rfl
theorem ent_value {d : Int} (hd : 1 ≤ d ∧ d ≤ 7) {o u r : Str} (ho : o ∈ writingL) (hu : tup2 u r ∈ usersL) : EntK [.inr "value", .inr o, .inr u, .inr r, .inl d] := by
  show (isInD (.int d) 1 7 && entry5 "value" o u r) = true
  rw [ent_in hd, Bool.true_and]
  have h1 : inS writingL o = true := List.any_eq_true.mpr ⟨o, ho, beq_self_eq_true o⟩
  have h2 : ∀ z ∈ usersL, inD usersL z = true := by decide +kernel
  show (eqS "value" "value" && (inS writingL o && inD usersL (tup2 u r))) = true
  rw [h1, h2 _ hu]
  decide +kernel
theorem inS_mem {zs : List Str} {z : Str} (h : z ∈ zs) : inS zs z = true := List.any_eq_true.mpr ⟨z, h, beq_self_eq_true z⟩
theorem ent_order {d : Int} (hd : 1 ≤ d ∧ d ≤ 7) {o u : Str} (ho : o ∈ writingL) (hu : u ∈ writingL) : EntK [.inr "order", .inr o, .inr u, .inl d] := by
  show (isInD (.int d) 1 7 && entry4 "order" o u) = true
  rw [ent_in hd, Bool.true_and]
  show (if eqS "order" "order" = true then inS writingL o && inS writingL u else _) = true
  rw [if_pos (by decide +kernel), inS_mem ho, inS_mem hu]
  rfl
theorem ent_wrong {d : Int} (hd : 1 ≤ d ∧ d ≤ 7) {o u : Str} (ho : o ∈ jumpsL) (hu : u ∈ effectsL) : EntK [.inr "wrong", .inr o, .inr u, .inl d] := by
  show (isInD (.int d) 1 7 && entry4 "wrong" o u) = true
  rw [ent_in hd, Bool.true_and]
  show (if eqS "wrong" "order" = true then _ else if eqS "wrong" "memory" = true then _ else eqS "wrong" "wrong" && (inS jumpsL o && inS effectsL u)) = true
  rw [if_neg (by decide +kernel), if_neg (by decide +kernel), inS_mem ho, inS_mem hu]
  decide +kernel
theorem ent_mem1 {d : Int} (hd : 1 ≤ d ∧ d ≤ 7) : EntK [.inr "memory", .inr "store", .inr "load", .inl d] := by
  show (isInD (.int d) 1 7 && entry4 "memory" "store" "load") = true
  rw [ent_in hd, Bool.true_and]
  decide +kernel
theorem ent_mem2 {d : Int} (hd : 1 ≤ d ∧ d ≤ 7) : EntK [.inr "memory", .inr "load", .inr "store", .inl d] := by
  show (isInD (.int d) 1 7 && entry4 "memory" "load" "store") = true
  rw [ent_in hd, Bool.true_and]
  decide +kernel
theorem EntK.keys {ks : List Key} (h : EntK ks) : (∃ f s i, ∃ r : Str, r ≠ "value" ∧ ks = [Sum.inr r, Sum.inr f, Sum.inr s, Sum.inl i]) ∨ ∃ f s q i, ks = [Sum.inr ("value" : Str), Sum.inr f, Sum.inr s, Sum.inr q, Sum.inl i] := by
  rcases isEntryD_keys h with ⟨f, s, i, r, n, e⟩ | ⟨f, s, q, i, e⟩
  · refine .inl ⟨f, s, i, r, n, ?_⟩
    have := congrArg keysOf e
    rw [keysOf_keys, keysOf_keys] at this
    exact this
  · refine .inr ⟨f, s, q, i, ?_⟩
    have := congrArg keysOf e
    rw [keysOf_keys, keysOf_keys] at this
    exact this
theorem EntK.first {ks : List Key} (h : EntK ks) : firstK true ks = true := by
  rcases h.keys with ⟨f, s, i, r, n, rfl⟩ | ⟨f, s, q, i, rfl⟩ <;> rfl
theorem EntK.comp {ks ms : List Key} (h : EntK ks) (h' : EntK ms) : compK ks ms = true := by
  rcases h.keys with ⟨f, s, i, r, n, rfl⟩ | ⟨f, s, q, i, rfl⟩
  · rcases h'.keys with ⟨f', s', i', r', n', rfl⟩ | ⟨f', s', q', i', rfl⟩
    · exact comp_of rfl
    · rw [compK_ne (fun z => n (Sum.inr.inj z))]
      rfl
  · rcases h'.keys with ⟨f', s', i', r', n', rfl⟩ | ⟨f', s', q', i', rfl⟩
    · rw [compK_ne (fun z => n' (Sum.inr.inj z).symm)]
      rfl
    · exact comp_of rfl
theorem EntK.len {ks : List Key} (h : EntK ks) : ks.length ≤ 5 := by
  rcases h.keys with ⟨f, s, i, r, n, rfl⟩ | ⟨f, s, q, i, rfl⟩
  · exact (by decide : 4 ≤ 5)
  · exact Nat.le_refl 5
section
variable {P : Program} {w : World} {K : Frag} {mg : Str → Option Value} {base : Heap} {f f1 f2 f3 f4 f5 : Addr} {fd fd1 fd2 fd3 fd4 fd5 : FuncData}
theorem sc_ent : FnScope nEnt [] (defScope sLEntries) := ⟨rfl, rfl, rfl, by decide +kernel, rfl, by decide +kernel, by decide +kernel⟩
abbrev PEnt : Dv → Prop := fun x => ∃ kss, x = .hl kss ∧ (∀ ks ∈ kss, EntK ks) ∧ 0 < kss.length ∧ kss.length ≤ 1000
/-- a def without arguments -/
abbrev spFree (K : Frag) (Pr : Dv → Prop) : Sp := fun vs H Q _ => ∃ W : Wd, W.J H ∧ vs = [] ∧ Ret K W H Pr Q
theorem ok_free {x qual : Str} {st : Stmt} {N : List Str} {k : Nat} {Pr : Dv → Prop} (F : Fun K x qual st f fd) (S : FnScope N [] (defScope st))
    (hbody : ∀ (cdv : Value) (A : Around) (outer : List Env) (s : Shared) (H : Hp) (E : XK) (W : Wd) (D : Ends), Room k (A.deeper (envOfC qual (defScope st) s.heap.objs.size f cdv)) →
      Gives (cxP P w K mg base N qual st f cdv A outer s H E) W Pr D → HS (cxP P w K mg base N qual st f cdv A outer s H E) (Tp K W (gOf N [])) (defBody st) D) :
    FnOk P w K mg base CX0 (k + 1) f fd [] (spFree K Pr) := by
  refine F.ok S (fun vs H Q E h => ?_) (fun cdv A outer s H vs Q E hr h => ?_)
  · obtain ⟨W, _, rfl, _⟩ := h
    rfl
  · obtain ⟨W, j, rfl, R⟩ := h
    have hb := hbody cdv A outer s H E (W.from H) { nx := fun _ H' => Q .non H', rt := Q } hr (fun v y H2 py ry jy => R v y H2 py ry jy.2 jy.1)
    exact ⟨_, hb.pss, rfl, tp_start (W := W.from H) (ds := []) (vs := []) ⟨j, Er.refl H⟩ .nil⟩
abbrev gEnt (kss : List (List Key)) (od oo : Option Dv) : Gm := [some (.d (.list (strsOf writingL))), some (.hl kss), some (.d (.list usersL)), od, oo, none, none]
theorem strs_mem {zs : List Str} {d : PyData} (h : d ∈ strsOf zs) : ∃ z, d = .str z ∧ z ∈ zs := by
  obtain ⟨z, hz, rfl⟩ := List.mem_map.mp h
  exact ⟨z, rfl, hz⟩
theorem strs_at {zs : List Str} {d : PyData} {i : Nat} (h : (strsOf zs)[i]? = some d) : ∃ z, d = .str z ∧ z ∈ zs := strs_mem (List.mem_of_getElem? h)
theorem users_mem {d : PyData} (h : d ∈ usersL) : ∃ u r, d = tup2 u r := by
  have h' : d = tup2 "sum" "a" ∨ d = tup2 "mul" "a" ∨ d = tup2 "load" "a" ∨ d = tup2 "store" "a" ∨ d = tup2 "store" "b" ∨ d = tup2 "zero" "a" ∨ d = tup2 "out" "a" := by
    simpa [usersL] using h
  rcases h' with e | e | e | e | e | e | e <;> exact ⟨_, _, e⟩
theorem ok_ent (B : Blt mg) (F : Fn K mg "_law_entries" sLEntries [] f fd) : FnOk P w K mg base CX0 1 f fd [] (spFree K PEnt) := by
  refine ok_free F.F sc_ent fun cdv A outer s H E W D hr g => ?_
  refine hs_par (i := 0) (j := 1) (Pa := Is (.list (strsOf writingL))) (Pb := IsHL []) rfl sc_ent.nd ?_ ?_ (fun u v hu hv => ?_) (by decide)
  · exact xe_lst (xac xe_str (xac xe_str (xac xe_str (xac xe_str xa0))))
  · exact xe_lst0H
  subst hu hv
  refine hs_set (i := 2) (P := Is (.list [tup2 "sum" "a", tup2 "mul" "a", tup2 "load" "a", tup2 "store" "a", tup2 "store" "b", tup2 "zero" "a", tup2 "out" "a"])) ?_ (fun y hy => ?_) sc_ent.nd
  · exact xe_lst (xac (xe_tup (xac xe_str (xac xe_str xa0))) (xac (xe_tup (xac xe_str (xac xe_str xa0))) (xac (xe_tup (xac xe_str (xac xe_str xa0))) (xac (xe_tup (xac xe_str (xac xe_str xa0))) (xac (xe_tup (xac xe_str (xac xe_str xa0))) (xac (xe_tup (xac xe_str (xac xe_str xa0))) (xac (xe_tup (xac xe_str (xac xe_str xa0))) xa0)))))))
  subst hy
  refine hs_range2 (lo := 1) (hi := 8) (j := 3) (fun i σ H => ∃ kss od oo, (FE kss (58 * i) ∧ (0 < i → 0 < kss.length)) ∧ Tp K W (gEnt kss od oo) σ H) rfl PassesOwn.never sc_ent.nd B.range xe_int xe_int (by decide) (fun σ H T => ⟨[], none, none, ⟨⟨fun _ h => absurd h (by simp), Nat.zero_le _⟩, fun h => absurd h (by decide)⟩, T⟩) (fun i hi => ?_) ?_
  · have hi : i < 7 := hi
    have hd : 1 ≤ 1 + (i : Int) ∧ 1 + (i : Int) ≤ 7 := by omega
    generalize ed : (1 + (i : Int)) = d at hd
    refine HS.pre (Pre := fun σ H => ∃ kss oo, FE kss (58 * i) ∧ Tp K W (gEnt kss (some (.d (.int d))) oo) σ H) ?_ (fun σ H ⟨σ0, v, ⟨kss, od, oo, hF, T⟩, hv, e⟩ => ?_)
    rotate_left
    · subst hv e
      exact ⟨kss, oo, hF.1, T.set (i := 3) (x := .d (.int d)) (Dw.int d)⟩
    refine HS.ex fun kss => HS.ex fun oo => HS.and fun hF => ?_
    refine hs_forLT (ds := strsOf writingL) (j := 4) (G := fun m Γ' => ∃ kss oo, FE kss (58 * i + 11 * m) ∧ Γ' = gEnt kss (some (.d (.int d))) oo) rfl PassesOwn.never sc_ent.nd (xv 0) ⟨kss, oo, hF, rfl⟩ (fun H1 m one Γ' jj hone ⟨kss, oo, hF, e⟩ => ?_) (fun Γ' ⟨kss, oo, hF, e⟩ => ?_)
    · subst e
      obtain ⟨o, rfl, ho⟩ := strs_at hone
      have hm : m < 4 := (List.getElem?_eq_some_iff.mp hone).1
      -- values
      refine hs_set (i := 1) (P := fun x => ∃ kss', x = .hl kss' ∧ FE kss' (58 * i + 11 * m + 7)) (xe_op (Pa := IsHL kss) (Pb := fun x => ∃ lss, x = .hl lss ∧ lss.length = 7 ∧ ∀ ks ∈ lss, EntK ks) op_cat ?_ (xv 1) ?_) (fun y ⟨kss', hy, hF'⟩ => ?_) sc_ent.nd
      · refine RR2.of fun x y hx ⟨lss, hy, hl, he⟩ => ?_
        subst hx hy
        refine (rr_catH ?_).post fun z hz => ⟨_, hz, hF.app ⟨he, Nat.le_of_eq hl⟩⟩
        have := hF.2
        omega
      · refine XE.imp (xe_lcH (ds := usersL) (R := EntK) (own := [("_law_other", 5), ("_law_role", 6)]) (g := gTup K 2 (gNames [5, 6])) (Gd := fun u => match u with | .tuple [x, y] => ((gEnt kss (some (.d (.int d))) (some (.d (.str o)))).set 5 (some (.d x))).set 6 (some (.d y)) | _ => []) rfl sc_ent.nd (xv 2) (blkOk_by (N := nEnt) (sc := defScope sLEntries) (by decide +kernel)) (fun _ _ _ _ _ => pg_tup rfl (pgs_cons (pg_name (i := 5) sc_ent.nd rfl (Or.inl rfl)) (pgs_cons (pg_name (i := 6) sc_ent.nd rfl (Or.inl rfl)) pgs_nil))) ?_ ?_ (by decide)) ?_
        · intro u x σ H Q hu hx T hq
          obtain ⟨a, b, rfl⟩ := users_mem hu
          cases hx with
          | tup p w =>
            cases w with
            | cons w1 w2 =>
              cases w2 with
              | cons w2 w3 =>
                cases w3
                refine ⟨_, _, rfl, p.sq, rfl, _, _, rfl, _, _, rfl, rfl, hq _ ?_ ?_⟩
                · simp [wipe, List.set_comm]
                · have T2 := ((T.none (i := 5)).none (i := 6)).set (i := 5) (x := .d (.str a)) w1
                  have T3 := T2.set (i := 6) (x := .d (.str b)) w2
                  exact cast (by simp [wipe, List.set_comm, tup2]) T3
        · intro s1 H2 C cl fp u hu
          obtain ⟨a, b, rfl⟩ := users_mem hu
          refine (xe_tupH (ks := [.inr "value", .inr o, .inr a, .inr b, .inl d]) (xac xe_str (xac (xv 4) (xac (xv 5) (xac (xv 6) (xac (xv 3) xa0)))))).imp fun x hx => ⟨_, hx, ent_value hd ho hu⟩
        · rintro x ⟨lss, h1, h2, h3⟩
          exact ⟨lss, h1, h2, h3⟩
      subst hy
      -- orders
      refine hs_set (i := 1) (P := fun x => ∃ kss'', x = .hl kss'' ∧ FE kss'' (58 * i + 11 * m + 7 + 4)) (xe_op (Pa := IsHL kss') (Pb := fun x => ∃ lss, x = .hl lss ∧ lss.length = 4 ∧ ∀ ks ∈ lss, EntK ks) op_cat ?_ (xv 1) ?_) (fun y ⟨kss'', hy, hF''⟩ => ?_) sc_ent.nd
      · refine RR2.of fun x y hx ⟨lss, hy, hl, he⟩ => ?_
        subst hx hy
        refine (rr_catH ?_).post fun z hz => ⟨_, hz, hF'.app ⟨he, Nat.le_of_eq hl⟩⟩
        have := hF'.2
        omega
      · refine XE.imp (xe_lcH (ds := strsOf writingL) (R := EntK) (own := [("_law_other", 5)]) (g := gName 5) (Gd := fun u => (gEnt kss' (some (.d (.int d))) (some (.d (.str o)))).set 5 (some (.d u))) rfl sc_ent.nd (xv 0) (blkOk_by (N := nEnt) (sc := defScope sLEntries) (by decide +kernel)) (fun _ _ _ _ _ => pg_name (i := 5) sc_ent.nd rfl (Or.inl rfl)) ?_ ?_ (by decide)) ?_
        · intro u x σ H Q hu hx T hq
          refine hq _ ?_ ?_
          · simp [wipe]
          · exact (T.none (i := 5)).set (i := 5) (x := .d u) hx
        · intro s1 H2 C cl fp u hu
          obtain ⟨a, rfl, ha⟩ := strs_mem hu
          refine (xe_tupH (ks := [.inr "order", .inr o, .inr a, .inl d]) (xac xe_str (xac (xv 4) (xac (xv 5) (xac (xv 3) xa0))))).imp fun x hx => ⟨_, hx, ent_order hd ho ha⟩
        · rintro x ⟨lss, h1, h2, h3⟩
          exact ⟨lss, h1, h2, h3⟩
      subst hy
      exact HS.nil fun σ H T => ⟨_, ⟨kss'', some (.d (.str o)), hF'', rfl⟩, T⟩
    · subst e
      have hF : FE kss (58 * i + 44) := hF
      refine hs_set (i := 1) (P := fun x => ∃ kss', x = .hl kss' ∧ FE kss' (58 * i + 44 + 2) ∧ 0 < kss'.length) (xe_op (Pa := IsHL kss) (Pb := IsHL [[.inr "memory", .inr "store", .inr "load", .inl d], [.inr "memory", .inr "load", .inr "store", .inl d]]) op_cat ?_ (xv 1) ?_) (fun y ⟨kss', hy, hF', hpos⟩ => ?_) sc_ent.nd
      · refine (rr_catH ?_).post fun z hz => ⟨_, hz, hF.app ⟨fun ks hk => ?_, Nat.le_refl 2⟩, by rw [List.length_append]; exact Nat.lt_of_lt_of_le (by decide : 0 < 2) (Nat.le_add_left _ _)⟩
        · have := hF.2
          show kss.length + 2 ≤ 100000
          omega
        · rcases List.mem_cons.mp hk with e | hk
          · rw [e]
            exact ent_mem1 hd
          · rw [List.mem_singleton.mp hk]
            exact ent_mem2 hd
      · exact xe_lst2H (xe_tupH (ks := [.inr "memory", .inr "store", .inr "load", .inl d]) (xac xe_str (xac xe_str (xac xe_str (xac (xv 3) xa0))))) (xe_tupH (ks := [.inr "memory", .inr "load", .inr "store", .inl d]) (xac xe_str (xac xe_str (xac xe_str (xac (xv 3) xa0)))))
      subst hy
      refine hs_forLT (ds := strsOf jumpsL) (j := 4) (G := fun m Γ' => ∃ kss oo, (FE kss (58 * i + 44 + 2 + 6 * m) ∧ 0 < kss.length) ∧ Γ' = gEnt kss (some (.d (.int d))) oo) rfl PassesOwn.never sc_ent.nd (xe_lst (xac xe_str (xac xe_str xa0))) ⟨kss', oo, ⟨hF', hpos⟩, rfl⟩ (fun H1 m one Γ' jj hone ⟨kss, oo, ⟨hF, hpos⟩, e⟩ => ?_) (fun Γ' ⟨kss, oo, ⟨hF, hpos⟩, e⟩ => ?_)
      · subst e
        obtain ⟨o, rfl, ho⟩ := strs_at hone
        have hm : m < 2 := (List.getElem?_eq_some_iff.mp hone).1
        refine hs_set (i := 1) (P := fun x => ∃ kss'', x = .hl kss'' ∧ FE kss'' (58 * i + 44 + 2 + 6 * m + 6) ∧ 0 < kss''.length) (xe_op (Pa := IsHL kss) (Pb := fun x => ∃ lss, x = .hl lss ∧ lss.length = 6 ∧ ∀ ks ∈ lss, EntK ks) op_cat ?_ (xv 1) ?_) (fun y ⟨kss'', hy, hF'', hpos''⟩ => ?_) sc_ent.nd
        · refine RR2.of fun x y hx ⟨lss, hy, hl, he⟩ => ?_
          subst hx hy
          refine (rr_catH ?_).post fun z hz => ⟨_, hz, hF.app ⟨he, Nat.le_of_eq hl⟩, by rw [List.length_append]; omega⟩
          have := hF.2
          omega
        · refine XE.imp (xe_lcH (ds := strsOf effectsL) (R := EntK) (own := [("_law_other", 5)]) (g := gName 5) (Gd := fun u => (gEnt kss (some (.d (.int d))) (some (.d (.str o)))).set 5 (some (.d u))) rfl sc_ent.nd (xe_op op_cat (rr_catL (ds := strsOf writingL) (ys := strsOf ["store", "out"]) (by decide)) (xv 0) (xe_lst (xac xe_str (xac xe_str xa0)))) (blkOk_by (N := nEnt) (sc := defScope sLEntries) (by decide +kernel)) (fun _ _ _ _ _ => pg_name (i := 5) sc_ent.nd rfl (Or.inl rfl)) ?_ ?_ (by decide)) ?_
          · intro u x σ H Q hu hx T hq
            refine hq _ ?_ ?_
            · simp [wipe]
            · exact (T.none (i := 5)).set (i := 5) (x := .d u) hx
          · intro s1 H2 C cl fp u hu
            obtain ⟨a, rfl, ha⟩ := strs_mem hu
            refine (xe_tupH (ks := [.inr "wrong", .inr o, .inr a, .inl d]) (xac xe_str (xac (xv 4) (xac (xv 5) (xac (xv 3) xa0))))).imp fun x hx => ⟨_, hx, ent_wrong hd ho ha⟩
          · rintro x ⟨lss, h1, h2, h3⟩
            exact ⟨lss, h1, h2, h3⟩
        subst hy
        exact HS.nil fun σ H T => ⟨_, ⟨kss'', some (.d (.str o)), ⟨hF'', hpos''⟩, rfl⟩, T⟩
      · subst e
        refine HS.nil fun σ H T => ⟨kss, _, _, ⟨?_, fun _ => hpos⟩, T⟩
        have e : 58 * i + 44 + 2 + 6 * (strsOf jumpsL).length = 58 * (i + 1) := by
          show 58 * i + 44 + 2 + 6 * 2 = 58 * (i + 1)
          omega
        rw [e] at hF
        exact hF
  · refine HS.ex fun kss => HS.ex fun od => HS.ex fun oo => HS.and fun ⟨hF, hpos⟩ => ?_
    have hpos := hpos (by decide)
    refine hs_ret (xe_callB (Ps := fun xs => ∃ x, xs = [x] ∧ IsHL kss x) cr_sortedK ?_ B.sorted (by decide +kernel) (xa_one (xv 1))) g
    refine RRC.of fun xs ⟨x, e1, e2⟩ => ?_
    subst e1 e2
    refine (rr_sortedH (B := true) (fun ks m => (hF.1 ks m).first) (fun ks m ms m' => (hF.1 ks m).comp (hF.1 ms m'))).post fun x ⟨lss, h1, h2, h3⟩ => ⟨lss, h1, fun ks m => hF.1 ks (h2.mem_iff.mp m), by rw [h2.length_eq]; exact hpos, ?_⟩
    rw [h2.length_eq]
    exact Nat.le_trans hF.2 (by decide)
end
end SB

/-! A local list or dict that grows; _law_more. -/
namespace SB
open PySem PySem.Spec PyProof.Rows L2
section
variable {K : Frag} {S S' : ASet} {H H' : Hp}
def isDT : HO → Prop
  | .dT _ => True
  | _ => False
theorem nL {xs : List V} : ¬ isDT (.lst xs) := fun z => z
theorem nT {xs : List V} : ¬ isDT (.tup xs) := fun z => z
theorem nF {o : Obj} {u : HO} : ¬ isDT (.frz o u) := fun z => z
theorem not_dt {o : HO} (k : lamK o) : ¬ isDT o := fun d => by
  cases o <;> first
    | exact (d : False)
    | exact (k : False)
mutual
theorem Dw.toT (h : ∀ a o, ¬ isDT o → ¬ S a → H a = some o → ¬ S' a ∧ H' a = some o) : ∀ (d : PyData) (v : V), Dw K S H v d → Dw K S' H' v d
  | .none, _, q => by cases q; exact .non
  | .bool b, _, q => by cases q; exact .bl b
  | .int i, _, q => by cases q; exact .int i
  | .str x, _, q => by cases q; exact .str x
  | .list ds, _, q => by
    cases q with
    | lst p r => exact .lst ⟨(h _ _ nL p.2 p.1).2, (h _ _ nL p.2 p.1).1⟩ (DwA.toT h ds _ r)
  | .tuple ds, _, q => by
    cases q with
    | tup p r =>
      refine .tup ?_ (DwA.toT h ds _ r)
      rcases p with ⟨p | ⟨o, p⟩, n⟩ | p
      · exact .inl ⟨.inl (h _ _ nT n p).2, (h _ _ nT n p).1⟩
      · exact .inl ⟨.inr ⟨o, (h _ _ nF n p).2⟩, (h _ _ nF n p).1⟩
      · exact .inr p
  | .dict _, _, q => by cases q
theorem DwA.toT (h : ∀ a o, ¬ isDT o → ¬ S a → H a = some o → ¬ S' a ∧ H' a = some o) : ∀ (ds : List PyData) (vs : List V), DwA K S H vs ds → DwA K S' H' vs ds
  | [], _, q => by cases q; exact .nil
  | d :: ds, _, q => by
    cases q with
    | cons a b => exact .cons (Dw.toT h d _ a) (DwA.toT h ds _ b)
end
theorem HK.toT {b : Addr} {ks : List Key} (h : ∀ a o, ¬ isDT o → ¬ S a → H a = some o → ¬ S' a ∧ H' a = some o) (q : HK S H b ks) : HK S' H' b ks := ⟨(h _ _ nT q.2 q.1).2, (h _ _ nT q.2 q.1).1⟩
theorem hks_toT (h : ∀ a o, ¬ isDT o → ¬ S a → H a = some o → ¬ S' a ∧ H' a = some o) : ∀ {bs : List Addr} {kss : List (List Key)}, Paired (HK S H) bs kss → Paired (HK S' H') bs kss
  | _, _, .nil => .nil
  | _, _, .cons a t => .cons (a.toT h) (hks_toT h t)
theorem VR.toT {v : V} {x : Dv} (h : ∀ a o, ¬ isDT o → ¬ S a → H a = some o → ¬ S' a ∧ H' a = some o) (r : VR K S H v x) : VR K S' H' v x := by
  cases x with
  | d x => exact Dw.toT h x v r
  | o a => exact r
  | t n => exact r
  | h ks =>
    obtain ⟨b, e1, e2⟩ := r
    exact ⟨b, e1, e2.toT h⟩
  | hl kss =>
    obtain ⟨l, bs, e1, e2, e3, e4⟩ := r
    exact ⟨l, bs, e1, (h _ _ nL e3 e2).2, (h _ _ nL e3 e2).1, hks_toT h e4⟩
  | fn L => exact LamV.to (fun a o k n e => h a o (not_dt k) n e) r
  | fl Ls =>
    obtain ⟨l, vs, e1, e2, e3, e4⟩ := r
    exact ⟨l, vs, e1, (h _ _ nL e3 e2).2, (h _ _ nL e3 e2).1, lams_to (fun a o k n e => h a o (not_dt k) n e) e4⟩
end
section
variable {X : Cx} {W : Wd} {Γ : Gm} {e a b o key value : Expr} {rest : List Stmt} {D : Ends} {pos p : Pos} {ob : HO}
theorem Gives.at2 {P : Dv → Prop} {H0 H1 : Hp} (g : Gives X W P D) : Gives X ((W.from H0).from H1) P D := fun v x H px rx j => g v x H px rx j.1.1
/-- the world behind a new object -/
theorem from_new {W : Wd} {H : Hp} {p : Addr} {ob : HO} (j : W.J H) (hp : H p = none) : ((W.from H).from (upd H p ob)).J (upd H p ob) := ⟨⟨W.more j (Ex.new hp), (Ex.new hp).er⟩, Er.refl _⟩
/-- the world behind a change of a new object -/
theorem from_turn {W : Wd} {H0 H1 H : Hp} {p : Addr} {u o : HO} (j0 : W.J H0) (hp : H0 p = none) (h1 : H1 p = some u) (mu : mutO u) (j : ((W.from H0).from H1).J H) : H p = some u ∧ ¬ W.S p ∧ ((W.from H0).from (upd H p o)).J (upd H p o) := by
  have np : ¬ W.S p := fun s => W.dom j0 s hp
  have h := j.2 p u np h1
  exact ⟨h, np, ⟨W.turn j0 hp j.1.2 j.1.1 h mu, Wd.ext (fun s => W.dom j0 s) hp (Er.refl H0) j.1.2⟩, Er.refl _⟩
/-- what lays a new object -/
def XN (X : Cx) (W : Wd) (Γ : Gm) (e : Expr) (ob : HO) : Prop := PE X e fun σ H Q => Tp X.K W Γ σ H ∧ ∀ H1 p, Er W.S H H1 → W.J H1 → H1 p = none → Q (.ref p) (upd H1 p ob)
/-- name = what lays a new object -/
theorem hs_setNew {i : Nat} {x : Str} {pos' : Pos} (he : XN X W Γ e ob) (h : ∀ H0 p, W.J H0 → H0 p = none → HS X (Tp X.K ((W.from H0).from (upd H0 p ob)) (Γ.set i (some (.o p)))) rest D) (hN : X.N.Nodup) (hi : X.N[i]? = some x := by rfl) (hx : Loc X.env.scope x := by first | exact Or.inl rfl | exact Or.inr rfl) (hs : swapsWith e (some (.Name x pos')) pos.line X.env = pure false := by rfl)
    (hf : X.fn x = true ∨ X.env.scope.names.lookup x = some .local := by first | exact .inl rfl | exact .inr rfl | assumption) : HS X (Tp X.K W Γ) (.Assign [.Name x pos'] e pos :: rest) D :=
  .cons (Mid := fun σ H => ∃ H0 p, (W.J H0 ∧ H0 p = none) ∧ Tp X.K ((W.from H0).from (upd H0 p ob)) (Γ.set i (some (.o p))) σ H) (ps_set hN hi hx he hs hf) (fun σ H T => ⟨T, fun H1 p e1 j1 hp =>
    ⟨H1, p, ⟨j1, hp⟩, by
      have T1 : Tp X.K W Γ σ (upd H1 p ob) := T.mono (e1.trans (Ex.new hp).er) (W.more j1 (Ex.new hp))
      have T2 : Tp X.K ((W.from H1).from (upd H1 p ob)) Γ σ (upd H1 p ob) := ⟨from_new j1 hp, T1.len, T1.at_⟩
      exact T2.set (x := .o p) rfl⟩⟩) (HS.ex fun H0 => HS.ex fun p => HS.and fun ⟨j, hp⟩ => h H0 p j hp)
/-- d[key] = True, d a dict of our own -/
theorem hs_dput {H0 H1 : Hp} {q : Addr} {kvs : List (List Key × V)} {R : List Key → Prop} {pos' : Pos} (hu : X.A.units + 1 < cLine) (j0 : W.J H0) (hq : H0 q = none) (h1 : H1 q = some (.dT kvs)) (hl : kvs.length < 90000) (ho : XE X ((W.from H0).from H1) Γ o (fun y => y = .o q)) (hi : XE X ((W.from H0).from H1) Γ key (fun x => ∃ ks, x = .h ks ∧ R ks))
    (hv : XE X ((W.from H0).from H1) Γ value (Is (.bool true))) (h : ∀ H2 ks, R ks → H2 q = some (.dT (putK kvs ks (.bl true))) → HS X (Tp X.K ((W.from H0).from H2) Γ) rest D) (hs : swapsWith value (some (.Subscript o key pos')) pos.line X.env = pure false := by rfl) :
    HS X (Tp X.K ((W.from H0).from H1) Γ) (.Assign [.Subscript o key pos'] value pos :: rest) D :=
  .cons (Mid := fun σ H => ∃ H2 ks, (R ks ∧ H2 q = some (.dT (putK kvs ks (.bl true)))) ∧ Tp X.K ((W.from H0).from H2) Γ σ H) (ps_dput hu ho hi hv hs) (fun σ H T => ⟨T, fun v x Ha px rx ea ja => ⟨T.mono ea ja, fun u y Hb py ry eb jb => ⟨T.mono (ea.trans eb) jb, fun w z Hc ⟨ks, pz, hR⟩ rz ec jc => by
    subst px py pz
    cases rx
    obtain ⟨b, rfl, hb⟩ := rz
    have ry : u = .ref q := ry
    obtain ⟨hc, np, jn⟩ := from_turn (o := .dT (putK kvs ks (.bl true))) j0 hq h1 trivial jc
    refine ⟨q, _, ry, DPut.t hc hb.1 (Nat.lt_of_lt_of_le hl (by decide)), upd Hc q (.dT (putK kvs ks (.bl true))), ks, ⟨hR, upd_same⟩, ?_⟩
    have T3 := T.mono ((ea.trans eb).trans ec) jc
    exact ⟨jn, T3.len, fun i x hx => by
      obtain ⟨v, g1, g2⟩ := T3.at_ i x hx
      exact ⟨v, g1, g2.toT fun a o nd ns ha => ⟨ns, by
        rw [upd_ne (fun z => by
          rw [z, hc] at ha
          cases ha
          exact nd trivial)]
        exact ha⟩⟩⟩⟩⟩⟩) (HS.ex fun H2 => HS.ex fun ks => HS.and fun ⟨hR, h2⟩ => h H2 ks hR h2)
/-- l.append(e), l a list of our own -/
def safeX : Dv → Bool
  | .d x => noL x
  | .o _ => true
  | .t _ => true
  | .h _ => true
  | .hl _ => false
  | .fn _ => false
  | .fl _ => false
theorem VR.turnL {K : Frag} {S : ASet} {H : Hp} {q : Addr} {xs ys : List V} {v : V} {x : Dv} (hq : H q = some (.lst xs)) (hs : safeX x = true) (r : VR K S H v x) : VR K S (upd H q (.lst ys)) v x := by
  cases x with
  | d x => exact Dw.toN (fun a zs n r => ⟨rd_upd hq trivial r, n⟩) x v hs r
  | o a => exact r
  | t n => exact r
  | h ks =>
    obtain ⟨b, e1, e2, e3⟩ := r
    refine ⟨b, e1, ?_, e3⟩
    rw [upd_ne (fun z => by
      rw [z, hq] at e2
      cases e2)]
    exact e2
  | hl kss => cases hs
  | fn L => cases hs
  | fl Ls => cases hs
theorem hs_append {H0 H1 : Hp} {q : Addr} {xs : List V} {ds : List PyData} {P : PyData → Prop} {pa' : Pos} (j0 : W.J H0) (hq : H0 q = none) (h1 : H1 q = some (.lst xs)) (hw : DwA X.K W.S H1 xs ds) (hn : noLs ds = true) (hl : ds.length < 90000) (hsafe : ∀ (i : Nat) (x : Dv), Γ[i]? = some (some x) → safeX x = true)
    (ho : XE X ((W.from H0).from H1) Γ o (fun y => y = .o q)) (he : XE X ((W.from H0).from H1) Γ e (fun x => ∃ d, x = .d d ∧ P d)) (hP : ∀ d, P d → noL d = true) (h : ∀ H2 ys d, P d → H2 q = some (.lst ys) → DwA X.K W.S H2 ys (ds ++ [d]) → HS X (Tp X.K ((W.from H0).from H2) Γ) rest D)
    (hbase : attributeBase o "append" X.env (eval o X.env) = eval o X.env := by rfl)
    (hfew : ((backTo p (starEach [e] X.env)).all (fun x => !x.1) && (backToKw p (keywordEach [] X.env)).all (fun x => x.1.isSome)
      && decide ([e].length + ([] : List Keyword).length + (if ([] : List Keyword).isEmpty then 0 else 1) < 30)) = true := by rfl)
    (hline : (pa'.endLine == p.line) = true := by rfl) (hs : starEach [e] X.env = (false, eval e X.env) :: starEach [] X.env := by rfl) (hplain : (backTo p (starEach [] X.env)).any (·.1) = false := by rfl)
    (hsw : swapsWith (.Call (.Attribute o "append" pa') [e] [] p) none pos.line X.env = pure false := by rfl) :
    HS X (Tp X.K ((W.from H0).from H1) Γ) (.Expr (.Call (.Attribute o "append" pa') [e] [] p) pos :: rest) D :=
  .cons (Mid := fun σ H => ∃ H2 ys d, (P d ∧ H2 q = some (.lst ys) ∧ DwA X.K W.S H2 ys (ds ++ [d])) ∧ Tp X.K ((W.from H0).from H2) Γ σ H) (ps_expr (pe_bm PySem.F.plainAttrs_list PySem.F.slot_list_append PySem.F.type_list_append mt_append ho (pa_cons he pa_nil hs) hbase hfew hline hs hplain) hsw)
    (fun σ H T => ⟨T, fun v x Ha px rx ea ja => by
      subst px
      have rx : v = .ref q := rx
      subst rx
      have np : ¬ W.S q := fun s => W.dom j0 s hq
      refine ⟨Or.inl ⟨rfl, xs, .inl (.inl (ja.2 q _ np h1))⟩, T.mono ea ja, fun u y Hb ⟨d, py, hd⟩ ry eb jb => ?_⟩
      subst py
      obtain ⟨hb, _, jn⟩ := from_turn (o := .lst (xs ++ [u])) j0 hq h1 trivial jb
      refine ⟨q, xs, u, rfl, rfl, hb, Nat.lt_of_lt_of_le (by rw [hw.length]; exact hl) (by decide), upd Hb q (.lst (xs ++ [u])), xs ++ [u], d, ⟨hd, upd_same, ?_⟩, ?_⟩
      · have up : ∀ a zs, ¬ W.S a → Rd Hb a (.tup zs) → Rd (upd Hb q (.lst (xs ++ [u]))) a (.tup zs) ∧ ¬ W.S a := fun a zs n r => ⟨rd_upd hb trivial r, n⟩
        exact ((hw.mono jb.2).toN up _ _ hn).append (.cons (Dw.toN up d u (hP d hd) ry) .nil)
      · have T3 := T.mono (ea.trans eb) jb
        exact ⟨jn, T3.len, fun i x hx => by
          obtain ⟨v, g1, g2⟩ := T3.at_ i x hx
          exact ⟨v, g1, g2.turnL hb (hsafe i x hx)⟩⟩⟩) (HS.ex fun H2 => HS.ex fun ys => HS.ex fun d => HS.and fun ⟨h3, h4, h5⟩ => h H2 ys d h3 h4 h5)
/-- list(d), d a dict of our own -/
theorem ikeys_hks {W : Wd} {H : Hp} (j : W.J H) : ∀ {kvs : List (List Key × V)} {bs : List Addr}, IsKeys H kvs bs → Paired (HK W.S H) bs (kvs.map (·.1))
  | _, _, .nil => .nil
  | _, _, .cons a t => .cons ⟨a, fun s => W.nt j s a⟩ (ikeys_hks j t)
theorem xe_listD {H0 H1 : Hp} {q : Addr} {kvs : List (List Key × V)} (hc : X.calm = true) (hm : X.mg "list" = none) (j0 : W.J H0) (hq : H0 q = none) (h1 : H1 q = some (.dT kvs)) (ha : XE X ((W.from H0).from H1) Γ a (fun y => y = .o q)) (hg : Gl X "list" := by rfl)
    (he : starEach [a] X.env = (false, eval a X.env) :: starEach [] X.env := by rfl) (hpl : (backTo pos (starEach [] X.env)).any (·.1) = false := by rfl) : XE X ((W.from H0).from H1) Γ (.Call (.Name "list" p) [a] [] pos) (IsHL (kvs.map (·.1))) := by
  refine xe_callTy (Ps := fun xs => ∃ x, xs = [x] ∧ x = .o q) (call_list_dT hc) ?_ hm (by decide +kernel) (xa_one ha he) hg (by decide) (by decide) he hpl
  rintro xs vs H Q ⟨x, rfl, rfl⟩ rs jj R
  cases rs with
  | cons r1 rs =>
    cases rs
    have r1 : _ = V.ref q := r1
    subst r1
    have np : ¬ W.S q := fun s => W.dom j0 s hq
    refine ⟨q, kvs, rfl, .inl (jj.2 q _ np h1), fun p bs hp hk => ?_⟩
    obtain ⟨j4, e4, n4⟩ := new_world (W := (W.from H0).from H1) (o := .lst (bs.map V.ref)) jj hp
    exact R _ _ _ rfl ⟨p, bs, rfl, upd_same, n4, hks_mono e4 (ikeys_hks (W := (W.from H0).from H1) jj hk)⟩ e4 j4
/-- dict([]) -/
theorem call_dict0 (hc : X.calm = true) : CallR X (.type "dict") (fun xs H Q => ∃ l, xs = [.ref l] ∧ SqL X.K H l [] ∧ ∀ p, H p = none → Q (.ref p) (upd H p (.dT []))) := by
  intro pins s σ H xs us Q I r q
  obtain ⟨l, rfl, hq, q⟩ := q
  obtain ⟨u, rfl, rx⟩ := vals1 r
  cases rx
  obtain ⟨its, rv, pl, hz⟩ := I.list hq
  cases rv
  obtain ⟨o, n, ho, hcl, hd, hdat⟩ := pl
  refine call_dict_pairs (prs := []) (I.ok.hd hc) ho hcl hd hdat rfl (Nat.zero_le _) (fun j q' e => by simp at e) fun h' tk hd' k => ?_
  have hm : (s.heap.objs.size == sysModules) = false := beq_eq_false_iff_ne.mpr (Nat.ne_of_gt I.big)
  obtain ⟨o', es, ep, e1, e2, e3, e4, e5, e6⟩ := hd'
  refine ⟨.ref s.heap.objs.size, upd H s.heap.objs.size (.dT []), I.laid (t' := tk) k (Nat.le_refl _) (show ObjOk X.prog X.w _ _ _ (.dT []) from ⟨Nat.zero_le _, hm, [], .nil, o', es, ep, e1, e2, e3, ?_, List.nodup_nil⟩), rfl, q _ (I.hok.fresh (Nat.le_refl _))⟩
  have e5' : Pairs (mixKind X.prog X.w) es.toList [] := e5
  generalize es.toList = l at e5'
  cases e5'
  rfl
theorem xn_dict0 (hc : X.calm = true) (hm : X.mg "dict" = none) (ha : XE X W Γ a (Is (.list []))) (hg : Gl X "dict" := by rfl) (he : starEach [a] X.env = (false, eval a X.env) :: starEach [] X.env := by rfl) (hpl : (backTo pos (starEach [] X.env)).any (·.1) = false := by rfl) :
    XN X W Γ (.Call (.Name "dict" p) [a] [] pos) (.dT []) := pe_imp (pe_callTy (call_dict0 hc) hg hm (by decide +kernel) (xac ha xa0 he) (by decide) (by decide) he hpl) fun σ H Q ⟨T, R⟩ => ⟨T, fun vs xs H2 ps rs e j => by
  subst ps
  have w := VRA.dwa (ds := [.list []]) rs
  cases w with
  | cons w1 w2 =>
    cases w2
    cases w1 with
    | lst pt w =>
      cases w
      exact ⟨_, rfl, pt.sq, fun p hp => R _ p e j hp⟩⟩
theorem xn_dnew : XN X W Γ (.Dict [] [] pos) (.dT []) := pe_imp pe_dnewT fun σ H Q ⟨T, R⟩ p hp => R H p (Er.refl H) T.j hp
theorem safe_list {Γ : Gm} (h : Γ.all (fun o => match o with | some x => safeX x | none => true) = true) : ∀ (i : Nat) (x : Dv), Γ[i]? = some (some x) → safeX x = true := fun i x e => List.all_eq_true.mp h _ (List.mem_of_getElem? e)
end
/-! ### good dicts -/
structure KvG (R : List Key → Prop) (kvs : List (List Key × V)) (n : Nat) : Prop where
  len : kvs.length ≤ n
  nd : (kvs.map (·.1)).Nodup
  all : ∀ kv ∈ kvs, R kv.1
theorem KvG.nil {R : List Key → Prop} : KvG R [] 0 := ⟨Nat.le_refl _, .nil, fun _ h => absurd h (by simp)⟩
theorem putK_fst (kvs : List (List Key × V)) (k : List Key) (v : V) : (putK kvs k v).map (·.1) = if (kvs.any fun kv => decide (kv.1 = k)) = true then kvs.map (·.1) else kvs.map (·.1) ++ [k] := by
  unfold putK
  split
  · rw [List.map_map]
    apply List.map_congr_left
    intro kv _
    show (if kv.1 = k then (kv.1, v) else kv).1 = kv.1
    split <;> rfl
  · rw [List.map_append]
    rfl
theorem KvG.put {R : List Key → Prop} {kvs : List (List Key × V)} {n : Nat} {k : List Key} {v : V} (h : KvG R kvs n) (hk : R k) : KvG R (putK kvs k v) (n + 1) := by
  refine ⟨Nat.le_trans (length_putK kvs k v) (Nat.succ_le_succ h.len), ?_, fun kv m => ?_⟩
  · rw [putK_fst]
    split
    · exact h.nd
    · rename_i q
      refine List.nodup_append.mpr ⟨h.nd, by simp, fun a ha b hb e => ?_⟩
      rw [List.mem_singleton.mp hb] at e
      subst e
      obtain ⟨kv, m, e⟩ := List.mem_map.mp ha
      exact q (List.any_eq_true.mpr ⟨kv, m, decide_eq_true e⟩)
  · have m' : kv.1 ∈ (putK kvs k v).map (·.1) := List.mem_map.mpr ⟨kv, m, rfl⟩
    rw [putK_fst] at m'
    have old : ∀ {z : List Key}, z ∈ kvs.map (·.1) → R z := fun hz => by
      obtain ⟨kv, m, e⟩ := List.mem_map.mp hz
      rw [← e]
      exact h.all kv m
    split at m'
    · exact old m'
    · rcases List.mem_append.mp m' with h' | h'
      · exact old h'
      · rw [List.mem_singleton.mp h']
        exact hk
/-- sorted keys without doubles rise -/
theorem rise_of {kss lss : List (List Key)} (hs : SrtO.Srtd lexK lss) (hp : lss.Perm kss) (hn : kss.Nodup) : lss.Pairwise fun x y => lexK x y = true := by
  refine strict_of (k := id) hs ?_
  rw [List.map_id]
  exact hp.nodup_iff.mpr hn
end SB

/-! _law_pick of key tuples, _law_more. -/
namespace SB
open PySem PySem.Spec PyProof.Rows L2
section
variable {X : Cx} {W : Wd} {Γ : Gm} {a b : Expr} {f r sa : Addr} {fd : FuncData} {p pos : Pos} {ns : List Int} {k : Nat} {K : Frag} {kss : List (List Key)} {Pr : Dv → Prop} {x : Str} {ps : List Str}
/-- f(), f without arguments -/
theorem xe_free (F : FnOk X.prog X.w X.K X.mg X.base CX0 k f fd [] (spFree X.K Pr)) (hr : Room k X.A) (hm : X.mg x = some (.ref f)) (hk : PySem.W.keepIn X.K (.ref f) = true) (hb : L2.Binds X.K fd [] []) (hg : Gl X x := by rfl) (hdb : (x == ("__debug__" : Str)) = false := by decide) :
    XE X W Γ (.Call (.Name x p) [] [] pos) Pr := pe_imp (pe_call0 F hr hg hm hk hb .nil pass0 hdb) fun σ H Q ⟨T, R⟩ => by
  show spFree X.K Pr ([] ++ []) H Q E0
  exact ⟨W, T.j, rfl, R⟩
theorem rr_lenH : RRC K W (fun xs H Q => ∃ p ys, xs = [.ref p] ∧ (SqL K H p ys ∨ SqT K H p ys) ∧ Q (.int ys.length) H) (fun xs => xs = [.hl kss]) (Is (.int kss.length)) := fun xs vs H Q ps rs jj R => by
  subst ps
  cases rs with
  | cons r1 rs =>
    cases rs
    obtain ⟨l, bs, rfl, h3, h4, h5⟩ := r1
    refine ⟨l, _, rfl, .inl (.inl (.inl h3)), R _ _ H rfl ?_ (Er.refl H) jj⟩
    rw [List.length_map, hks_len h5]
    exact Dw.int _
theorem rr_ixH : RR2 K W (rIxL K) (IsHL kss) (fun x => ∃ k : Nat, x = .d (.int (k : Int)) ∧ k < kss.length) (fun x => ∃ ks, x = .h ks ∧ ks ∈ kss) := RR2.of fun x y px ⟨k, py, hk⟩ => by
  subst px py
  intro x y v u H Q px py rx ry jj R
  subst px py
  cases ry
  obtain ⟨l, bs, rfl, h3, h4, h5⟩ := rx
  obtain ⟨b, hb, hkb⟩ := hks_at h5 (List.getElem?_eq_getElem hk)
  exact ⟨l, _, (k : Int), .ref b, rfl, rfl, .inl (.inl h3), atI_nat hb, R _ (.h (kss[k])) H ⟨_, rfl, List.getElem_mem hk⟩ ⟨b, rfl, hkb⟩ (Er.refl H) jj⟩
end
abbrev spPickH (K : Frag) : Sp := fun vs H Q _ => ∃ (W : Wd) (r sa : Addr) (ns : List Int) (v : V) (kss : List (List Key)), RowW K W r sa ns ∧ ns.length ≤ 63 ∧ W.J H ∧ vs = [.ref r, v] ∧ VR K W.S H v (.hl kss) ∧ 0 < kss.length ∧ kss.length < 100000 ∧ Ret K W H (fun x => ∃ ks, x = .h ks ∧ ks ∈ kss) Q
section
variable {P : Program} {w : World} {K : Frag} {mg : Str → Option Value} {base : Heap} {f f1 f2 f3 f4 f5 : Addr} {fd fd1 fd2 fd3 fd4 fd5 : FuncData}
theorem ok_pickH (B : Blt mg) (F1 : Fn K mg "_law_taken" sTaken ["_law_row", "_law_many"] f1 fd1) (F : Fn K mg "_law_pick" sPick ["_law_row", "_law_kinds"] f fd) : FnOk P w K mg base CX0 2 f fd ["_law_row", "_law_kinds"] (spPickH K) := by
  have G1 : FnOk P w K mg base CX0 1 f1 fd1 ["_law_row", "_law_many"] (spTakenR K) := ok_takenR B F1
  refine F.F.ok sc_pick (fun vs H Q E h => ?_) (fun cdv A outer s H vs Q E hr h => ?_)
  · obtain ⟨W, r, sa, ns, v, kss, _, _, _, rfl, _⟩ := h
    rfl
  · obtain ⟨W, r, sa, ns, v, kss, RW, hlen, j, rfl, rv, z0, z1, R⟩ := h
    have hb : HS (cxP P w K mg base ["_law_row", "_law_kinds"] "_law_pick" sPick f cdv A outer s H E) (Tp K (W.from H) [some (.o r), some (.hl kss)]) (defBody sPick) { nx := fun _ H' => Q .non H', rt := Q } := by
      refine hs_ret (P := fun x => ∃ ks, x = .h ks ∧ ks ∈ kss) (xe_ix (Pa := IsHL kss) (Pb := fun x => ∃ k : Nat, x = .d (.int (k : Int)) ∧ k < kss.length) ix_list rr_ixH (xv 1) (XE.imp (xe_taken (m := (kss.length : Int)) F1 G1 hr (RW.from H) hlen (xv 0) ?_ (by omega) (by omega)) ?_)) ?_
      · exact xe_callB call_len_seq (Ps := fun xs => ∃ x, xs = [x] ∧ x = .hl kss) (RRC.of fun xs ⟨x, e1, e2⟩ => by subst e1 e2; exact rr_lenH) B.len PySem.boot_len (xa_one (xv 1))
      · rintro y ⟨k, rfl, k0, k1⟩
        exact ⟨k.toNat, by rw [Int.toNat_of_nonneg k0], by omega⟩
      · exact fun v y H2 py ry jy => R v y H2 py ry jy.2 jy.1
    refine ⟨_, hb.pss, rfl, ⟨⟨j, Er.refl H⟩, rfl, fun i x h => ?_⟩⟩
    match i, h with
    | 0, h => cases h; exact ⟨.ref r, rfl, rfl⟩
    | 1, h => cases h; exact ⟨v, rfl, rv⟩
    | _ + 2, h => simp at h
end
section
variable {X : Cx} {W : Wd} {Γ : Gm} {a b : Expr} {f r sa : Addr} {fd : FuncData} {p pos : Pos} {ns : List Int} {k : Nat} {kss : List (List Key)}
theorem xe_pickH (F : Fn X.K X.mg "_law_pick" sPick ["_law_row", "_law_kinds"] f fd) (G : FnOk X.prog X.w X.K X.mg X.base CX0 2 f fd ["_law_row", "_law_kinds"] (spPickH X.K)) (hr : Room 2 X.A) (RW : RowW X.K W r sa ns) (hlen : ns.length ≤ 63) (ha : XE X W Γ a (fun y => y = .o r)) (hb : XE X W Γ b (IsHL kss)) (m0 : 0 < kss.length) (m1 : kss.length < 100000)
    (hg : Gl X "_law_pick" := by rfl) (h1 : starEach [a, b] X.env = (false, eval a X.env) :: starEach [b] X.env := by rfl) (h2 : starEach [b] X.env = (false, eval b X.env) :: starEach [] X.env := by rfl) (hpl : (backTo pos (starEach [b] X.env)).any (·.1) = false := by rfl) : XE X W Γ (.Call (.Name "_law_pick" p) [a, b] [] pos) (fun x => ∃ ks, x = .h ks ∧ ks ∈ kss) :=
  pe_imp (pe_call G hr hg F.g F.F.kp F.b .nil pass0 (xa_cons ha (xa_cons hb xa_nil h2) h1) (by decide) h1 hpl) fun σ H Q ⟨T, R⟩ => ⟨T, fun vs xs H2 ⟨x, rr, e1, e2, y, r', e3, e4, e5⟩ rs e j2 => by
    subst e5 e3 e1 e2 e4
    cases rs with
    | cons r1 rs =>
      cases rs with
      | cons r2 rs =>
        cases rs
        have r1 : _ = V.ref r := r1
        subst r1
        show spPickH X.K (_ ++ []) H2 Q E0
        rw [List.append_nil]
        exact ⟨W, r, sa, ns, _, kss, RW, hlen, j2, rfl, r2, m0, m1, R.later e⟩⟩
end
abbrev nMore : List Str := ["_law_row", "_law_waits", "_law_many", "_law_every", "_law_found", "_law_turn", "_law_entry"]
/-- waits as the law draws them -/
structure WaitsOk (lss : List (List Key)) : Prop where
  all : ∀ ks ∈ lss, EntK ks
  rise : lss.Pairwise fun x y => lexK x y = true
  len : lss.length ≤ 9
abbrev PMore : Dv → Prop := fun x => ∃ lss, x = .d (.tuple (tupsD lss)) ∧ WaitsOk lss
section
variable {P : Program} {w : World} {K : Frag} {mg : Str → Option Value} {base : Heap} {f f1 f2 f3 f4 f5 : Addr} {fd fd1 fd2 fd3 fd4 fd5 : FuncData}
theorem sc_more : FnScope nMore ["_law_row", "_law_waits", "_law_many"] (defScope sMore) := ⟨rfl, rfl, rfl, by decide +kernel, rfl, by decide +kernel, by decide +kernel⟩
abbrev spMore (K : Frag) : Sp := spRow K 2 (fun ds => ∃ m : Int, ds = [.tuple [], .int m] ∧ 0 ≤ m ∧ m ≤ 9) (fun _ => PMore)
theorem ok_more (B : Blt mg) (F1 : Fn K mg "_law_taken" sTaken ["_law_row", "_law_many"] f1 fd1) (F2 : Fn K mg "_law_pick" sPick ["_law_row", "_law_kinds"] f2 fd2) (F3 : Fn K mg "_law_entries" sLEntries [] f3 fd3)
    (F : Fn K mg "_law_more" sMore ["_law_row", "_law_waits", "_law_many"] f fd) : FnOk P w K mg base CX0 3 f fd ["_law_row", "_law_waits", "_law_many"] (spMore K) := by
  have G1 : FnOk P w K mg base CX0 1 f1 fd1 ["_law_row", "_law_many"] (spTakenR K) := ok_takenR B F1
  have G2 : FnOk P w K mg base CX0 2 f2 fd2 ["_law_row", "_law_kinds"] (spPickH K) := ok_pickH B F1 F2
  have G3 : FnOk P w K mg base CX0 1 f3 fd3 [] (spFree K PEnt) := ok_ent B F3
  refine ok_row F.F sc_more rfl fun cdv A outer s H E W r sa ns ds D hr RW hlen hl hp g => ?_
  obtain ⟨m, rfl, m0, m1⟩ := hp
  have hu : (A.deeper (envOfC "_law_more" (defScope sMore) s.heap.objs.size f cdv)).units + 1 < cLine := by
    have := hr.un
    omega
  refine hs_set (i := 3) (P := PEnt) (xe_free G3 (hr.mono (by decide)) F3.g F3.F.kp F3.b) (fun y ⟨kss, hy, he, l0, l1⟩ => ?_) sc_more.nd
  subst hy
  refine hs_setNew (i := 4) (ob := .dT []) (xn_dict0 rfl B.dict (XE.imp (xe_lcT (ds := []) (R := fun _ e => noL e = true) (n := "_law_entry") (j := 6) rfl sc_more.nd (xv 1) (blkOk_by (N := nMore) (sc := defScope sMore) (by decide +kernel)) (fun _ _ _ _ _ => pg_name (i := 6) sc_more.nd rfl (Or.inl rfl)) (fun s1 H1 C cl fp d hd => absurd hd (by simp)) (fun d e h => h) (by decide)) (fun x ⟨es, hx, hp⟩ => by cases hp; exact hx))) (fun H0 q j0 hq => ?_) sc_more.nd
  refine hs_rangeG (j := 5) (B := fun z => 0 ≤ z ∧ z < m + 1) (fun i σ H => ∃ kvs H2 od, (KvG EntK kvs i ∧ H2 q = some (.dT kvs)) ∧ Tp K ((W.from H0).from H2) [some (.o r), some (.d (.tuple [])), some (.d (.int m)), some (.hl kss), some (.o q), od, none] σ H) rfl PassesOwn.never sc_more.nd B.range ?_ (fun z hz => by omega) (fun σ H T => ⟨[], _, none, ⟨KvG.nil, upd_same⟩, T⟩) (fun i ⟨z, hz, hiz⟩ => ?_) ?_
  · exact (xe_taken (m := m + 1) F1 G1 (hr.mono (by decide)) ((RW.from H0).from _) hlen (xv 0) (xe_op op_add rr_I0 (xv 2) xe_int) (by omega) (by omega)).imp fun x ⟨k, hx, k0, k1⟩ => ⟨k, hx, k0, k1⟩
  · refine HS.pre (Pre := fun σ H => ∃ kvs H2, (KvG EntK kvs i ∧ H2 q = some (.dT kvs)) ∧ Tp K ((W.from H0).from H2) [some (.o r), some (.d (.tuple [])), some (.d (.int m)), some (.hl kss), some (.o q), some (.d (.int (i : Int))), none] σ H) ?_ (fun σ H ⟨σ0, v, ⟨kvs, H2, od, hk, T⟩, hv, e⟩ => ?_)
    · refine HS.ex fun kvs => HS.ex fun H2 => HS.and fun ⟨hk, h2⟩ => ?_
      refine hs_dput (R := EntK) hu j0 hq h2 (Nat.lt_of_le_of_lt hk.len (by omega)) (xv 4) ?_ xe_bl (fun H3 ks hR h3 => HS.nil fun σ H T => ⟨_, H3, _, ⟨hk.put hR, h3⟩, T⟩)
      exact (xe_pickH F2 G2 hr ((RW.from H0).from H2) hlen (xv 0) (xv 3) l0 (by omega)).imp fun x ⟨ks, hx, hm⟩ => ⟨ks, hx, he ks hm⟩
    · subst hv e
      exact ⟨kvs, H2, hk, T.set (i := 5) (x := .d (.int (i : Int))) (Dw.int _)⟩
  · refine HS.ex fun z => HS.and fun hz => HS.ex fun kvs => HS.ex fun H2 => HS.ex fun od => HS.and fun ⟨hk, h2⟩ => ?_
    refine hs_ret (P := PMore) ?_ g.at2
    have hall : ∀ ks ∈ kvs.map (·.1), EntK ks := fun ks hm => by
      obtain ⟨kv, m', e⟩ := List.mem_map.mp hm
      rw [← e]
      exact hk.all kv m'
    refine xe_callTy (Ps := fun xs => ∃ x, xs = [x] ∧ ∃ lss, x = .hl lss ∧ lss.Perm (kvs.map (·.1)) ∧ SrtO.Srtd lexK lss) call_tuple_of (RRC.of fun xs ⟨x, e1, lss, e2, h3, h4⟩ => ?_) B.tuple (by decide +kernel) (xa_one (xe_callB (Ps := fun xs => ∃ x, xs = [x] ∧ IsHL (kvs.map (·.1)) x) cr_sortedK (RRC.of fun xs ⟨x, e1, e2⟩ => ?_) B.sorted (by decide +kernel) (xa_one (xe_listD rfl B.list j0 hq h2 (xv 4)))))
    · subst e1 e2
      refine rr_tupleH.post fun x hx => ⟨lss, hx, fun ks hm => hall ks (h3.mem_iff.mp hm), rise_of h4 h3 hk.nd, ?_⟩
      rw [h3.length_eq, List.length_map]
      have := hk.len
      omega
    · subst e1 e2
      exact rr_sortedH (B := true) (fun ks hm => (hall ks hm).first) (fun ks hm ms hm' => (hall ks hm).comp (hall ms hm'))
end
end SB

/-! _law_design. -/
namespace SB
open PySem PySem.Spec PyProof.Rows L2
section
variable {X : Cx} {W : Wd} {Γ : Gm} {iter e a b : Expr} {rest body : List Stmt} {D : Ends} {pos p p2 pos' : Pos} {n : Str} {j : Nat}
theorem strs_dwa {K : Frag} {S : ASet} {H : Hp} : ∀ zs : List Str, DwA K S H (zs.map V.str) (strsOf zs)
  | [] => .nil
  | z :: zs => .cons (.str z) (strs_dwa zs)
/-- for n in a list of texts, the promise told of the list's place -/
theorem hs_forS {zs : List Str} (Pv : Addr → Nat → L2.St → Hp → Prop) (hc : X.calm = true) (hx : PassesOwn (model X.prog X.w) X.A X.env X.xe) (hN : X.N.Nodup) (hi : XE X W Γ iter (Is (.list (strsOf zs)))) (h0 : ∀ σ H a, Tp X.K W Γ σ H → H a = some (.lst (zs.map V.str)) → ¬ W.S a → Pv a 0 σ H)
    (hk : ∀ a i σ H, Pv a i σ H → H a = some (.lst (zs.map V.str)))
    (hb : ∀ (a : Addr) (i : Nat) (z : Str), zs[i]? = some z → HS X (SetAt j (fun v H => v = .str z) (Pv a i)) body (Then D (Pv a (i + 1))))
    (hr : HS X (fun σ H => ∃ a, Pv a zs.length σ H) rest D) (hi' : X.N[j]? = some n := by rfl) (hL : Loc X.env.scope n := by first | exact Or.inl rfl | exact Or.inr rfl)
    (hf : X.fn n = true ∨ X.env.scope.names.lookup n = some .local := by first | exact .inl rfl | exact .inr rfl)
    (hfs : ∀ x, foldedSetIterable iter X.env x = pure x := by intro _; rfl) :
    HS X (Tp X.K W Γ) (.For (.Name n pos) iter body [] pos' :: rest) D := by
  have hbody : PSs X body (fun D' σ H => ∃ (a : Addr) (i : Nat) (z : Str), zs[i]? = some z ∧ D'.nx = Pv a (i + 1) ∧ D'.ct = Pv a (i + 1) ∧ D'.rt = D.rt ∧ SetAt j (fun v H => v = .str z) (Pv a i) σ H) := by
    refine ⟨fun pins s σ H D' I ⟨a, i, z, h1, e1, e2, e3, T⟩ => thn ((hb a i z h1).run pins s σ H I T) fun f s1 q => ?_⟩
    cases f with
    | next =>
      obtain ⟨σ', H', I', q⟩ := q
      exact ⟨σ', H', I', by rw [e1]; exact q⟩
    | ret v =>
      obtain ⟨v', σ', H', I', r, q⟩ := q
      exact ⟨v', σ', H', I', r, by rw [e3]; exact q⟩
    | cont =>
      obtain ⟨σ', H', I', q⟩ := q
      exact ⟨σ', H', I', by rw [e2]; exact q⟩
    | brk =>
      obtain ⟨_, _, _, q⟩ := q
      exact q.elim
  refine .cons (Mid := fun σ H => ∃ a, Pv a zs.length σ H) (ps_for hx hc (pi_list hi) (pg_name hN hi' hL hf) hbody hfs) (fun σ H T => ⟨T, fun v z H1 pz rz e1 j1 => ?_⟩) hr
  subst pz
  cases rz with
  | lst pt w =>
    rename_i a xs
    have ex := dwa_strs w
    subst ex
    refine ⟨a, rfl, ⟨_, pt.sq⟩, ?_⟩
    refine for_list (K := X.K) (a := a) (xs := zs.map V.str) (g := gName j) (D := { D with nx := fun σ H => ∃ a, Pv a zs.length σ H }) (tb := fun D' σ H => ∃ (a : Addr) (i : Nat) (z : Str), zs[i]? = some z ∧ D'.nx = Pv a (i + 1) ∧ D'.ct = Pv a (i + 1) ∧ D'.rt = D.rt ∧ SetAt j (fun v H => v = .str z) (Pv a i) σ H)
      (Pv a) (h0 σ H1 a (T.mono e1 j1) pt.1 pt.2) (fun i σ' H' _ hp => .inl (.inl (hk a i σ' H' hp))) (fun i x σ' H' hx' hp => ?_) (fun σ' H' q => ⟨a, by rw [List.length_map] at q; exact q⟩)
    rw [List.getElem?_map] at hx'
    cases hz : zs[i]? with
    | none =>
      rw [hz] at hx'
      cases hx'
    | some z =>
      rw [hz] at hx'
      cases hx'
      exact ⟨a, i, z, hz, rfl, rfl, rfl, σ', .str z, hp, rfl, rfl⟩
/-- l.append(e), with what stays -/
theorem hs_append2 {H0 H1 : Hp} {q : Addr} {xs : List V} {ds : List PyData} {P : PyData → Prop} {pa' : Pos} {o : Expr} (j0 : W.J H0) (hq : H0 q = none) (h1 : H1 q = some (.lst xs)) (hw : DwA X.K W.S H1 xs ds) (hn : noLs ds = true) (hl : ds.length < 90000) (hsafe : ∀ (i : Nat) (x : Dv), Γ[i]? = some (some x) → safeX x = true)
    (ho : XE X ((W.from H0).from H1) Γ o (fun y => y = .o q)) (he : XE X ((W.from H0).from H1) Γ e (fun x => ∃ d, x = .d d ∧ P d)) (hP : ∀ d, P d → noL d = true) (h : ∀ H2 ys d, P d → H2 q = some (.lst ys) → DwA X.K W.S H2 ys (ds ++ [d]) → (∀ a u, a ≠ q → ¬ W.S a → H1 a = some u → H2 a = some u) → HS X (Tp X.K ((W.from H0).from H2) Γ) rest D)
    (hbase : attributeBase o "append" X.env (eval o X.env) = eval o X.env := by rfl)
    (hfew : ((backTo p (starEach [e] X.env)).all (fun x => !x.1) && (backToKw p (keywordEach [] X.env)).all (fun x => x.1.isSome)
      && decide ([e].length + ([] : List Keyword).length + (if ([] : List Keyword).isEmpty then 0 else 1) < 30)) = true := by rfl)
    (hline : (pa'.endLine == p.line) = true := by rfl) (hs : starEach [e] X.env = (false, eval e X.env) :: starEach [] X.env := by rfl) (hplain : (backTo p (starEach [] X.env)).any (·.1) = false := by rfl)
    (hsw : swapsWith (.Call (.Attribute o "append" pa') [e] [] p) none pos.line X.env = pure false := by rfl) :
    HS X (Tp X.K ((W.from H0).from H1) Γ) (.Expr (.Call (.Attribute o "append" pa') [e] [] p) pos :: rest) D :=
  .cons (Mid := fun σ H => ∃ H2 ys d, (P d ∧ H2 q = some (.lst ys) ∧ DwA X.K W.S H2 ys (ds ++ [d]) ∧ (∀ a u, a ≠ q → ¬ W.S a → H1 a = some u → H2 a = some u)) ∧ Tp X.K ((W.from H0).from H2) Γ σ H) (ps_expr (pe_bm PySem.F.plainAttrs_list PySem.F.slot_list_append PySem.F.type_list_append mt_append ho (pa_cons he pa_nil hs) hbase hfew hline hs hplain) hsw)
    (fun σ H T => ⟨T, fun v x Ha px rx ea ja => by
      subst px
      have rx : v = .ref q := rx
      subst rx
      have np : ¬ W.S q := fun s => W.dom j0 s hq
      refine ⟨Or.inl ⟨rfl, xs, .inl (.inl (ja.2 q _ np h1))⟩, T.mono ea ja, fun u y Hb ⟨d, py, hd⟩ ry eb jb => ?_⟩
      subst py
      obtain ⟨hb, _, jn⟩ := from_turn (o := .lst (xs ++ [u])) j0 hq h1 trivial jb
      refine ⟨q, xs, u, rfl, rfl, hb, Nat.lt_of_lt_of_le (by rw [hw.length]; exact hl) (by decide), upd Hb q (.lst (xs ++ [u])), xs ++ [u], d, ⟨hd, upd_same, ?_, fun a z na ns hz => ?_⟩, ?_⟩
      · have up : ∀ a zs, ¬ W.S a → Rd Hb a (.tup zs) → Rd (upd Hb q (.lst (xs ++ [u]))) a (.tup zs) ∧ ¬ W.S a := fun a zs n r => ⟨rd_upd hb trivial r, n⟩
        exact ((hw.mono jb.2).toN up _ _ hn).append (.cons (Dw.toN up d u (hP d hd) ry) .nil)
      · rw [upd_ne na]
        exact jb.2 a z ns hz
      · have T3 := T.mono (ea.trans eb) jb
        exact ⟨jn, T3.len, fun i x hx => by
          obtain ⟨v, g1, g2⟩ := T3.at_ i x hx
          exact ⟨v, g1, g2.turnL hb (hsafe i x hx)⟩⟩⟩) (HS.ex fun H2 => HS.ex fun ys => HS.ex fun d => HS.and fun ⟨h3, h4, h5, h6⟩ => h H2 ys d h3 h4 h5 h6)
/-- name = [e]: the list is ours -/
theorem hs_setList {i : Nat} {x : Str} {P : PyData → Prop} {pos2 : Pos} (he : XE X W Γ e (fun x => ∃ d, x = .d d ∧ P d)) (h : ∀ H0 H1 q xs d, W.J H0 → H0 q = none → P d → H1 q = some (.lst xs) → DwA X.K W.S H1 xs [d] → HS X (Tp X.K ((W.from H0).from H1) (Γ.set i (some (.o q)))) rest D) (hN : X.N.Nodup) (hi : X.N[i]? = some x := by rfl) (hx : Loc X.env.scope x := by first | exact Or.inl rfl | exact Or.inr rfl) (hs1 : starEach [e] X.env = (false, eval e X.env) :: starEach [] X.env := by rfl) (hs : swapsWith (.List [e] pos2) (some (.Name x pos')) pos.line X.env = pure false := by rfl)
    (hf : X.fn x = true ∨ X.env.scope.names.lookup x = some .local := by first | exact .inl rfl | exact .inr rfl | assumption) : HS X (Tp X.K W Γ) (.Assign [.Name x pos'] (.List [e] pos2) pos :: rest) D :=
  .cons (Mid := fun σ H => ∃ H0 H1 q xs d, (W.J H0 ∧ H0 q = none ∧ P d ∧ H1 q = some (.lst xs) ∧ DwA X.K W.S H1 xs [d]) ∧ Tp X.K ((W.from H0).from H1) (Γ.set i (some (.o q))) σ H) (ps_set hN hi hx (pe_lst (pa_cons he pa_nil hs1)) hs hf) (fun σ H T => ⟨T, fun v y H1 ⟨d, py, hd⟩ ry e1 j1 => by
    subst py
    refine ⟨by show 1 ≤ sizeLine; decide, fun q hq => ⟨H1, upd H1 q (.lst [v]), q, [v], d, ⟨j1, hq, hd, upd_same, ?_⟩, ?_⟩⟩
    · exact .cons (Dw.mono (Ex.new hq).er ry) .nil
    · have T1 : Tp X.K W Γ σ (upd H1 q (.lst [v])) := T.mono (e1.trans (Ex.new hq).er) (W.more j1 (Ex.new hq))
      have T2 : Tp X.K ((W.from H1).from (upd H1 q (.lst [v]))) Γ σ (upd H1 q (.lst [v])) := ⟨from_new j1 hq, T1.len, T1.at_⟩
      exact T2.set (x := .o q) rfl⟩) (HS.ex fun H0 => HS.ex fun H1 => HS.ex fun q => HS.ex fun xs => HS.ex fun d => HS.and fun ⟨h1, h2, h3, h4, h5⟩ => h H0 H1 q xs d h1 h2 h3 h4 h5)
/-- tuple(l), l a list whose content is known -/
theorem xe_tupleO {H1 : Hp} {q : Addr} {xs : List V} {ds : List PyData} (hm : X.mg "tuple" = none) (np : ¬ W.S q) (hk : ∀ H, W.J H → Er W.S H1 H) (h1 : H1 q = some (.lst xs)) (hw : DwA X.K W.S H1 xs ds) (ha : XE X W Γ a (fun y => y = .o q)) (hg : Gl X "tuple" := by rfl)
    (he : starEach [a] X.env = (false, eval a X.env) :: starEach [] X.env := by rfl) (hpl : (backTo pos (starEach [] X.env)).any (·.1) = false := by rfl) : XE X W Γ (.Call (.Name "tuple" p) [a] [] pos) (Is (.tuple ds)) := by
  refine xe_callTy (Ps := fun xs => ∃ x, xs = [x] ∧ x = .o q) call_tuple_of ?_ hm (by decide +kernel) (xa_one ha he) hg (by decide) (by decide) he hpl
  rintro zs vs H Q ⟨x, rfl, rfl⟩ rs jj R
  cases rs with
  | cons r1 rs =>
    cases rs
    have r1 : _ = V.ref q := r1
    subst r1
    refine ⟨q, xs, rfl, .inl ⟨.inl (.inl (hk H jj q _ np h1)), fun p hp => ?_⟩⟩
    obtain ⟨j4, e4, n4⟩ := new_world (W := W) (o := .tup xs) jj hp
    exact R _ _ _ rfl (Dw.tup (.inl ⟨.inl upd_same, n4⟩) (hw.mono ((hk H jj).trans e4))) e4 j4
end
/-! ### drawn ints -/
section
variable {X : Cx} {W : Wd} {Γ : Gm} {a b c : Expr} {f r sa : Addr} {fd : FuncData} {p pos : Pos} {ns : List Int}
/-- _law_up(row, lo, hi) -/
theorem xe_up {lo hi : Int} (F : Fn X.K X.mg "_law_up" sUp ["_law_row", "_law_least", "_law_most"] f fd) (G : FnOk X.prog X.w X.K X.mg X.base CX0 2 f fd ["_law_row", "_law_least", "_law_most"] (spUp X.K)) (hr : Room 2 X.A) (RW : RowW X.K W r sa ns) (hlen : ns.length ≤ 63) (ha : XE X W Γ a (fun y => y = .o r)) (hb : XE X W Γ b (Is (.int lo))) (hc : XE X W Γ c (Is (.int hi))) (hle : lo ≤ hi)
    (hg : Gl X "_law_up" := by rfl) (h1 : starEach [a, b, c] X.env = (false, eval a X.env) :: starEach [b, c] X.env := by rfl) (h2 : starEach [b, c] X.env = (false, eval b X.env) :: starEach [c] X.env := by rfl) (h3 : starEach [c] X.env = (false, eval c X.env) :: starEach [] X.env := by rfl) (hpl : (backTo pos (starEach [b, c] X.env)).any (·.1) = false := by rfl) :
    XE X W Γ (.Call (.Name "_law_up" p) [a, b, c] [] pos) (Bt lo hi) :=
  xe_row G hr F.g F.F.kp F.b RW hlen (xa_row ha (xac (d := .int lo) hb (xac (d := .int hi) hc xa0 h3) h2) h1) (fun ds h => by subst h; exact ⟨rfl, lo, hi, rfl, hle⟩) (fun ds x h hx => by subst h; exact hx) hg (by decide) h1 hpl
theorem xe_max2 {i j : Int} (hc : X.calm = true) (hm : X.mg "max" = none) (ha : XE X W Γ a (Is (.int i))) (hb : XE X W Γ b (Is (.int j))) (hg : Gl X "max" := by rfl) (h1 : starEach [a, b] X.env = (false, eval a X.env) :: starEach [b] X.env := by rfl) (h2 : starEach [b] X.env = (false, eval b X.env) :: starEach [] X.env := by rfl) (hpl : (backTo pos (starEach [b] X.env)).any (·.1) = false := by rfl) :
    XE X W Γ (.Call (.Name "max" p) [a, b] [] pos) (Is (.int (max i j))) := by
  refine xe_callB (call_max2 hc) (fun xs vs H Q ps rs jj R => ?_) hm (by decide +kernel) (xac (d := .int i) ha (xac (d := .int j) hb xa0 h2) h1) hg (by decide) (by decide) h1 hpl
  have w := VRA.dwa (ds := [.int i, .int j]) (ps ▸ rs)
  cases w with
  | cons w1 w2 =>
    cases w1
    cases w2 with
    | cons w1 w2 =>
      cases w1
      cases w2
      refine ⟨i, j, rfl, ?_⟩
      have e : (if j > i then j else i) = max i j := by
        split <;> omega
      rw [e]
      exact R _ _ H rfl (Dw.int _) (Er.refl H) jj
/-- a tuple of two drawn things, of three -/
theorem xa_P {e : Expr} {es : List Expr} {Pa : PyData → Prop} {Ps : List PyData → Prop} (ha : XE X W Γ e (fun x => ∃ d, x = .d d ∧ Pa d)) (hr : XA X W Γ es (fun xs => ∃ ds, xs = ds.map Dv.d ∧ Ps ds)) (hs : starEach (e :: es) X.env = (false, eval e X.env) :: starEach es X.env := by rfl) :
    XA X W Γ (e :: es) (fun xs => ∃ ds, xs = ds.map Dv.d ∧ ∃ d r, ds = d :: r ∧ Pa d ∧ Ps r) := (xa_cons ha hr hs).imp fun xs ⟨x, r, e1, ⟨d, e2, h2⟩, ds, e3, h3⟩ => ⟨d :: ds, by rw [e1, e2, e3]; rfl, d, ds, rfl, h2, h3⟩
theorem xa_P0 : XA X W Γ [] (fun xs => ∃ ds, xs = ds.map Dv.d ∧ ds = []) := xa_nil.imp fun xs h => ⟨[], by rw [h]; rfl, rfl⟩
theorem XE.d {e : Expr} {d : PyData} (h : XE X W Γ e (Is d)) : XE X W Γ e (fun x => ∃ d', x = .d d' ∧ d' = d) := h.imp fun x hx => ⟨d, hx, rfl⟩
theorem XE.bt {e : Expr} {lo hi : Int} (h : XE X W Γ e (Bt lo hi)) : XE X W Γ e (fun x => ∃ d, x = .d d ∧ ∃ k, d = .int k ∧ lo ≤ k ∧ k ≤ hi) := h.imp fun x ⟨k, hx, h1, h2⟩ => ⟨_, hx, k, rfl, h1, h2⟩
theorem XE.dr {e : Expr} {m : Int} (h : XE X W Γ e (Dr m)) : XE X W Γ e (fun x => ∃ d, x = .d d ∧ ∃ k, d = .int k ∧ 0 ≤ k ∧ k < m) := h.imp fun x ⟨k, hx, h1, h2⟩ => ⟨_, hx, k, rfl, h1, h2⟩
end
/-! ### what is drawn is a design -/
abbrev pl2 (a b : Int) : PyData := .tuple [.int a, .int b]
abbrev pl3 (a b c : Int) : PyData := .tuple [.int a, .int b, .int c]
theorem place_in {i : Int} (h : 0 ≤ i ∧ i ≤ 7) : isPlaceD (.int i) = true := by
  show (true && (decide (0 ≤ i) && decide (i ≤ 7))) = true
  rw [decide_eq_true h.1, decide_eq_true h.2]
  rfl
theorem ok_pl1 {k : Nat} {a : Int} (hk : manyN k = 1) (h : 0 ≤ a ∧ a ≤ 7) : okPl k (.tuple [.int a]) = true := by
  unfold okPl
  rw [hk]
  show (isListD _ 1 1 && (isPlaceD (.int a) && true)) = true
  rw [place_in h]
  rfl
theorem ok_pl2 {k : Nat} {a b : Int} (hk : manyN k = 2) (h : 0 ≤ a ∧ a ≤ 7) (h' : 0 ≤ b ∧ b ≤ 7) : okPl k (pl2 a b) = true := by
  unfold okPl
  rw [hk]
  show (isListD _ 2 2 && (isPlaceD (.int a) && (isPlaceD (.int b) && true))) = true
  rw [place_in h, place_in h']
  rfl
theorem ok_pl3 {k : Nat} {a b c : Int} (hk : manyN k = 3) (h : 0 ≤ a ∧ a ≤ 7) (h' : 0 ≤ b ∧ b ≤ 7) (h'' : 0 ≤ c ∧ c ≤ 7) : okPl k (pl3 a b c) = true := by
  unfold okPl
  rw [hk]
  show (isListD _ 3 3 && (isPlaceD (.int a) && (isPlaceD (.int b) && (isPlaceD (.int c) && true)))) = true
  rw [place_in h, place_in h', place_in h'']
  rfl
def In7 (a : Int) : Prop := 0 ≤ a ∧ a ≤ 7
theorem shape_mk {a0 a1 b0 b1 b2 c0 c1 c2 e0 e1 e2 s0 s1 s2 z0 z1 g0 u0 u1 : Int} (ha : In7 a0 ∧ In7 a1) (hb : In7 b0 ∧ In7 b1 ∧ In7 b2) (hc : In7 c0 ∧ In7 c1 ∧ In7 c2) (he : In7 e0 ∧ In7 e1 ∧ In7 e2) (hs : In7 s0 ∧ In7 s1 ∧ In7 s2) (hz : In7 z0 ∧ In7 z1) (hg : In7 g0) (hu : In7 u0 ∧ In7 u1) :
    shapeD (.tuple [pl2 a0 a1, pl3 b0 b1 b2, pl3 c0 c1 c2, pl3 e0 e1 e2, pl3 s0 s1 s2, pl2 z0 z1, .tuple [.int g0], pl2 u0 u1]) = true := by
  show (isListD _ 8 8 && (okPl 0 (pl2 a0 a1) && (okPl 1 (pl3 b0 b1 b2) && (okPl 2 (pl3 c0 c1 c2) && (okPl 3 (pl3 e0 e1 e2) && (okPl 4 (pl3 s0 s1 s2) && (okPl 5 (pl2 z0 z1) && (okPl 6 (.tuple [.int g0]) && (okPl 7 (pl2 u0 u1) && true))))))))) = true
  rw [ok_pl2 rfl ha.1 ha.2, ok_pl3 rfl hb.1 hb.2.1 hb.2.2, ok_pl3 rfl hc.1 hc.2.1 hc.2.2, ok_pl3 rfl he.1 he.2.1 he.2.2, ok_pl3 rfl hs.1 hs.2.1 hs.2.2, ok_pl2 rfl hz.1 hz.2, ok_pl1 rfl hg, ok_pl2 rfl hu.1 hu.2]
  rfl
/-- three places of a maker -/
def TriP (r : Int) (d : PyData) : Prop := ∃ a b c : Int, d = pl3 a b c ∧ r ≤ a ∧ a ≤ b ∧ b < c ∧ c ≤ 7
def OwnP (r : Int) (d : PyData) : Prop := ∃ a b : Int, d = pl2 a b ∧ 0 ≤ a ∧ a < b ∧ r < b ∧ b ≤ 7
def StoP (r : Int) (d : PyData) : Prop := ∃ a b c : Int, d = pl3 a b c ∧ r ≤ a ∧ r ≤ b ∧ a < c ∧ b < c ∧ c ≤ 7
def PairP (r : Int) (d : PyData) : Prop := ∃ a b : Int, d = pl2 a b ∧ r ≤ a ∧ a ≤ b ∧ b ≤ 7
def OneP (d : PyData) : Prop := ∃ a : Int, d = .tuple [.int a] ∧ 0 ≤ a ∧ a ≤ 7
theorem places_mk {r : Int} (hr : 0 ≤ r ∧ r ≤ 7) {d0 d1 d2 d3 d4 d5 d6 d7 : PyData} (h0 : OwnP r d0) (h1 : TriP r d1) (h2 : TriP r d2) (h3 : TriP r d3) (h4 : StoP r d4) (h5 : PairP r d5) (h6 : OneP d6) (h7 : PairP r d7) :
    shapeD (.tuple [d0, d1, d2, d3, d4, d5, d6, d7]) = true ∧ orderB r (.tuple [d0, d1, d2, d3, d4, d5, d6, d7]) = true := by
  obtain ⟨a0, a1, rfl, h0⟩ := h0
  obtain ⟨b0, b1, b2, rfl, h1⟩ := h1
  obtain ⟨c0, c1, c2, rfl, h2⟩ := h2
  obtain ⟨e0, e1, e2, rfl, h3⟩ := h3
  obtain ⟨s0, s1, s2, rfl, h4⟩ := h4
  obtain ⟨z0, z1, rfl, h5⟩ := h5
  obtain ⟨g0, rfl, h6⟩ := h6
  obtain ⟨u0, u1, rfl, h7⟩ := h7
  constructor
  · refine shape_mk ?_ ?_ ?_ ?_ ?_ ?_ ?_ ?_ <;> (unfold In7; omega)
  · show ((decide (r < a1) && (decide (a0 < a1) && ((decide (r ≤ z0) && decide (z0 ≤ z1)) && (decide (r ≤ u0) && decide (u0 ≤ u1))))) && (((decide (r ≤ b0) && (decide (b0 ≤ b1) && decide (b1 < b2))) && ((decide (r ≤ c0) && (decide (c0 ≤ c1) && decide (c1 < c2))) && ((decide (r ≤ e0) && (decide (e0 ≤ e1) && decide (e1 < e2))) && true))) && ((decide (r ≤ s0) && decide (s0 < s2)) && ((decide (r ≤ s1) && decide (s1 < s2)) && true)))) = true
    simp only [Bool.and_eq_true, decide_eq_true_eq, Bool.and_true]
    omega
end SB

/-! _law_design: the walk. -/
namespace SB
open PySem PySem.Spec PyProof.Rows L2
def PathK (ks : List Key) : Prop := ∃ a b : Int, ks = [.inl a, .inl b] ∧ 0 ≤ b ∧ b < a ∧ a ≤ 7
structure PathsOk (lss : List (List Key)) : Prop where
  all : ∀ ks ∈ lss, PathK ks
  rise : lss.Pairwise fun x y => lexK x y = true
  len : lss.length ≤ 100
theorem PathK.first {ks : List Key} (h : PathK ks) : firstK false ks = true := by
  obtain ⟨a, b, rfl, _⟩ := h
  rfl
theorem PathK.comp {ks ms : List Key} (h : PathK ks) (h' : PathK ms) : compK ks ms = true := by
  obtain ⟨a, b, rfl, _⟩ := h
  obtain ⟨c, d, rfl, _⟩ := h'
  exact comp_pairs a b c d
theorem noLs_all : ∀ {ds : List PyData}, (∀ d ∈ ds, noL d = true) → noLs ds = true
  | [], _ => rfl
  | d :: ds, h => by
    show (noL d && noLs ds) = true
    rw [h d List.mem_cons_self, noLs_all fun e he => h e (List.mem_cons_of_mem _ he)]
    rfl
theorem TriP.n {r : Int} {d : PyData} (h : TriP r d) : noL d = true := by
  obtain ⟨a, b, c, rfl, _⟩ := h
  rfl
theorem OwnP.n {r : Int} {d : PyData} (h : OwnP r d) : noL d = true := by
  obtain ⟨a, b, rfl, _⟩ := h
  rfl
theorem StoP.n {r : Int} {d : PyData} (h : StoP r d) : noL d = true := by
  obtain ⟨a, b, c, rfl, _⟩ := h
  rfl
theorem PairP.n {r : Int} {d : PyData} (h : PairP r d) : noL d = true := by
  obtain ⟨a, b, rfl, _⟩ := h
  rfl
theorem OneP.n {d : PyData} (h : OneP d) : noL d = true := by
  obtain ⟨a, rfl, _⟩ := h
  rfl
section
variable {X : Cx} {W : Wd} {Γ : Gm} {es : List Expr} {pos : Pos} {a b : Expr}
theorem xe_tupHP {Ps : List Key → Prop} {k} (h : XA X W Γ es (fun xs => ∃ ks : List Key, xs = (ks.map keyD).map Dv.d ∧ Ps ks)) (hl : ∀ ks, Ps ks → ks.length ≤ 100000) : XE X W Γ (.Tuple es k pos) (fun x => ∃ ks, x = .h ks ∧ Ps ks) := pe_imp (pe_tup h) fun σ H Q ⟨T, R⟩ =>
  ⟨T, fun vs xs H2 ⟨ks, ps, hk⟩ rs e2 j2 => by
    have hw : DwA X.K W.S H2 vs (ks.map keyD) := VRA.dwa (ps ▸ rs)
    have ev := dwa_keys hw
    subst ev
    refine ⟨Nat.le_trans (by rw [List.length_map]; exact hl ks hk) (by decide), fun p hp => ?_⟩
    obtain ⟨j3, e3, n3⟩ := new_world (o := .tup (ks.map kV)) j2 hp
    exact R _ _ _ ⟨ks, rfl, hk⟩ ⟨p, rfl, upd_same, n3⟩ (e2.trans e3) j3⟩
theorem xe_eq0 {m : Int} (ha : XE X W Γ a (Dr m)) (hb : XE X W Γ b (Is (.int 0))) : XE X W Γ (.Compare a [.Eq] [b] pos) (fun x => ∃ d, x = .d d ∧ ∃ c, d = .bool c) :=
  xe_cmp op_eq (RR2.of fun x y ⟨k, hx, _⟩ hy => by
    subst hx hy
    exact (rr_eqI (x := k) (y := 0)).post fun z hz => ⟨_, hz, _, rfl⟩) ha hb
end
abbrev nDes : List Str := ["_law_row", "_law_read", "_law_made", "_law_places", "_law_kind", "_law_used", "_law_one", "_law_other", "_law_paths", "_law_turn", "_law_to"]
abbrev PDes : Dv → Prop := fun x => ∃ (r : Int) (b : Bool) (ds : List PyData) (lss : List (List Key)), x = .d (.tuple [.int r, .bool b, .tuple ds, .tuple (tupsD lss), .tuple []]) ∧ 0 ≤ r ∧ r ≤ 7 ∧ shapeD (.tuple ds) = true ∧ orderB r (.tuple ds) = true ∧ PathsOk lss
abbrev gDes (r : Addr) (rd : Int) (made : Option Dv) (pl kind used one other paths turn to : Option Dv) : Gm := [some (.o r), some (.d (.int rd)), made, pl, kind, used, one, other, paths, turn, to]
section
variable {P : Program} {w : World} {K : Frag} {mg : Str → Option Value} {base : Heap} {f f1 f2 f3 f4 f5 : Addr} {fd fd1 fd2 fd3 fd4 fd5 : FuncData}
theorem sc_des : FnScope nDes ["_law_row"] (defScope sLDesign) := ⟨rfl, rfl, rfl, by decide +kernel, rfl, by decide +kernel, by decide +kernel⟩
abbrev spDes (K : Frag) : Sp := spRow K 0 (fun _ => True) (fun _ => PDes)
theorem ok_des (B : Blt mg) (F1 : Fn K mg "_law_taken" sTaken ["_law_row", "_law_many"] f1 fd1) (F2 : Fn K mg "_law_up" sUp ["_law_row", "_law_least", "_law_most"] f2 fd2)
    (F : Fn K mg "_law_design" sLDesign ["_law_row"] f fd) : FnOk P w K mg base CX0 3 f fd ["_law_row"] (spDes K) := by
  have G1 : FnOk P w K mg base CX0 1 f1 fd1 ["_law_row", "_law_many"] (spTakenR K) := ok_takenR B F1
  have G2 : FnOk P w K mg base CX0 2 f2 fd2 ["_law_row", "_law_least", "_law_most"] (spUp K) := ok_up B F1 F2
  refine ok_row F.F sc_des rfl fun cdv A outer s H E W r sa ns ds D hr RW hlen hl hp g => ?_
  match ds, hl with
  | [], _ =>
    have hu : (A.deeper (envOfC "_law_design" (defScope sLDesign) s.heap.objs.size f cdv)).units + 1 < cLine := by
      have := hr.un
      omega
    have hr1 : Room 1 (A.deeper (envOfC "_law_design" (defScope sLDesign) s.heap.objs.size f cdv)) := hr.mono (by decide)
    refine hs_set (i := 1) (P := Dr 3) (xe_taken (m := 3) F1 G1 hr1 RW hlen (xv 0) xe_int (by decide) (by decide)) (fun y ⟨rd, hy, rd0, rd1⟩ => ?_) sc_des.nd
    subst hy
    refine hs_set (i := 2) (P := Dr 3) (xe_taken (m := 3) F1 G1 hr1 RW hlen (xv 0) xe_int (by decide) (by decide)) (fun y ⟨md, hy, md0, md1⟩ => ?_) sc_des.nd
    subst hy
    -- places = [own]
    refine hs_setList (i := 3) (P := OwnP rd) ?_ (fun H0 H1 q xs d j0 hq hd h1 hw => ?_) sc_des.nd
    · refine (xe_tupP (Ps := fun ds => ∃ d r, ds = d :: r ∧ d = .int md ∧ ∃ d2 r2, r = d2 :: r2 ∧ (∃ k, d2 = .int k ∧ max md rd + 1 ≤ k ∧ k ≤ 7) ∧ r2 = []) (xa_P (XE.d (xv 2)) (xa_P (XE.bt (xe_up (lo := max md rd + 1) (hi := 7) F2 G2 (hr.mono (by decide)) RW hlen (xv 0) (xe_op op_add rr_I0 (xe_max2 rfl B.max (xv 2) (xv 1)) xe_int) xe_int (by omega))) xa_P0)) ?_).imp ?_
      · rintro ds ⟨d, r, rfl, rfl, d2, r2, rfl, _, rfl⟩
        exact (by decide : 2 ≤ 100000)
      · rintro x ⟨ds, hx, d, r, rfl, rfl, d2, r2, rfl, ⟨k, rfl, k1, k2⟩, rfl⟩
        exact ⟨_, hx, md, k, rfl, by omega⟩
    have RW2 : ∀ H2, RowW K ((W.from H0).from H2) r sa ns := fun H2 => (RW.from H0).from H2
    have safe : ∀ (md : Int) (kd us : Option Dv) (kd' : kd = none ∨ ∃ z, kd = some (.d (.str z))) (us' : us = none ∨ ∃ z : Int, us = some (.d (.int z))) (on ot : Option Dv) (on' : on = none ∨ ∃ z : Int, on = some (.d (.int z))) (ot' : ot = none ∨ ∃ z : Int, ot = some (.d (.int z))),
        ∀ (i : Nat) (x : Dv), (gDes r rd (some (.d (.int md))) (some (.o q)) kd us on ot none none none)[i]? = some (some x) → safeX x = true := by
      intro md kd us kd' us' on ot on' ot'
      apply safe_list
      rcases kd' with rfl | ⟨z, rfl⟩ <;> rcases us' with rfl | ⟨z, rfl⟩ <;> rcases on' with rfl | ⟨z, rfl⟩ <;> rcases ot' with rfl | ⟨z, rfl⟩ <;> rfl
    -- the makers
    refine hs_forS (zs := ["sum", "mul", "load"]) (j := 4) (fun a i σ H => ∃ (md : Int) (us kd : Option Dv) (H2 : Hp) (ys : List V) (ts : List PyData), (a ≠ q ∧ ¬ W.S a ∧ H2 a = some (.lst ((["sum", "mul", "load"] : List Str).map V.str)) ∧ H2 q = some (.lst ys) ∧ DwA K W.S H2 ys (d :: ts) ∧ ts.length = i ∧ (∀ t ∈ ts, TriP rd t) ∧ (us = none ∨ ∃ z : Int, us = some (.d (.int z))) ∧ (kd = none ∨ ∃ z, kd = some (.d (.str z)))) ∧ Tp K ((W.from H0).from H2) (gDes r rd (some (.d (.int md))) (some (.o q)) kd us none none none none none) σ H) rfl PassesOwn.never sc_des.nd (xe_lst (xac xe_str (xac xe_str (xac xe_str xa0)))) (fun σ H a T ha na => ?_) (fun a i σ H ⟨md, us, kd, H2, ys, ts, ⟨h1, h2, h3, _⟩, T⟩ => T.j.2 a _ h2 h3) (fun a i z hz => ?_) ?_
    · have hqH := T.j.2 q _ (fun s => W.dom j0 s hq) h1
      refine ⟨md, none, none, H, xs, [], ⟨fun e => ?_, na, ha, hqH, hw.mono T.j.2, rfl, fun t h => absurd h (by simp), .inl rfl, .inl rfl⟩, ⟨⟨T.j.1, Er.refl H⟩, T.len, T.at_⟩⟩
      subst e
      -- the list of the texts is not the list of the places
      rw [hqH] at ha
      have e := HO.lst.inj (Option.some.inj ha)
      have := hw.length
      rw [e] at this
      exact absurd (show 3 = 1 from this) (by decide)
    · refine HS.pre (Pre := fun σ H => ∃ (md : Int) (us : Option Dv) (H2 : Hp) (ys : List V) (ts : List PyData), (a ≠ q ∧ ¬ W.S a ∧ H2 a = some (.lst ((["sum", "mul", "load"] : List Str).map V.str)) ∧ H2 q = some (.lst ys) ∧ DwA K W.S H2 ys (d :: ts) ∧ ts.length = i ∧ (∀ t ∈ ts, TriP rd t) ∧ (us = none ∨ ∃ z : Int, us = some (.d (.int z)))) ∧ Tp K ((W.from H0).from H2) (gDes r rd (some (.d (.int md))) (some (.o q)) (some (.d (.str z))) us none none none none none) σ H) ?_ (fun σ H ⟨σ0, v, ⟨md, us, kd, H2, ys, ts, ⟨h1, h2, h3, h4, h5, h6, h7, h8, h9⟩, T⟩, hv, e⟩ => ?_)
      rotate_left
      · subst hv e
        exact ⟨md, us, H2, ys, ts, ⟨h1, h2, h3, h4, h5, h6, h7, h8⟩, T.set (i := 4) (x := .d (.str z)) (Dw.str z)⟩
      refine HS.ex fun md => HS.ex fun us => HS.ex fun H2 => HS.ex fun ys => HS.ex fun ts => HS.and fun ⟨h1, h2, h3, h4, h5, h6, h7, h8⟩ => ?_
      refine hs_set (i := 5) (P := Bt rd 5) (xe_up F2 G2 (hr.mono (by decide)) (RW2 H2) hlen (xv 0) (xv 1) xe_int (by omega)) (fun y ⟨u, hy, u0, u1⟩ => ?_) sc_des.nd
      subst hy
      refine hs_set (i := 2) (P := Bt u 6) (xe_up F2 G2 (hr.mono (by decide)) (RW2 H2) hlen (xv 0) (xv 5) xe_int (by omega)) (fun y ⟨m, hy, m0, m1⟩ => ?_) sc_des.nd
      subst hy
      have hi3 : i < 3 := (List.getElem?_eq_some_iff.mp hz).1
      refine hs_append2 (P := TriP rd) j0 hq h4 h5 ?_ ?_ (safe m (some (.d (.str z))) (some (.d (.int u))) (.inr ⟨z, rfl⟩) (.inr ⟨u, rfl⟩) none none (.inl rfl) (.inl rfl)) (xv 3) ?_ ?_ (fun H3 zs d' hd' h3q hw3 hst => HS.nil fun σ H T => ?_)
      · refine noLs_all fun e he => ?_
        rcases List.mem_cons.mp he with e1 | he
        · rw [e1]
          exact hd.n
        · exact (h7 e he).n
      · rw [List.length_cons]
        omega
      · refine (xe_tupP (Ps := fun ds => ∃ d r, ds = d :: r ∧ d = .int u ∧ ∃ d2 r2, r = d2 :: r2 ∧ d2 = .int m ∧ ∃ d3 r3, r2 = d3 :: r3 ∧ (∃ k, d3 = .int k ∧ m + 1 ≤ k ∧ k ≤ 7) ∧ r3 = []) (xa_P (XE.d (xv 5)) (xa_P (XE.d (xv 2)) (xa_P (XE.bt (xe_up (lo := m + 1) (hi := 7) F2 G2 (hr.mono (by decide)) (RW2 H2) hlen (xv 0) (xe_op op_add rr_I0 (xv 2) xe_int) xe_int (by omega))) xa_P0))) ?_).imp ?_
        · rintro ds ⟨d, r, rfl, rfl, d2, r2, rfl, rfl, d3, r3, rfl, _, rfl⟩
          exact (by decide : 3 ≤ 100000)
        · rintro x ⟨ds, hx, d, r, rfl, rfl, d2, r2, rfl, rfl, d3, r3, rfl, ⟨k, rfl, k1, k2⟩, rfl⟩
          exact ⟨_, hx, u, m, k, rfl, by omega⟩
      · exact fun d h => h.n
      · refine ⟨m, _, _, H3, zs, ts ++ [d'], ⟨h1, h2, hst a _ h1 h2 h3, h3q, hw3, ?_, fun t ht => ?_, .inr ⟨u, rfl⟩, .inr ⟨z, rfl⟩⟩, T⟩
        · rw [List.length_append, h6]
          rfl
        · rcases List.mem_append.mp ht with h | h
          · exact h7 t h
          · rw [List.mem_singleton.mp h]
            exact hd'
    · refine HS.ex fun a => HS.ex fun md => HS.ex fun us => HS.ex fun kd => HS.ex fun H2 => HS.ex fun ys => HS.ex fun ts => HS.and fun ⟨h1, h2, h3, h4, h5, h6, h7, h8, h9⟩ => ?_
      have n0 : noLs (d :: ts) = true := noLs_all fun e he => by
        rcases List.mem_cons.mp he with e1 | he
        · rw [e1]
          exact hd.n
        · exact (h7 e he).n
      have l3 : ts.length = 3 := h6
      -- the store's places
      refine hs_par (i := 6) (j := 7) (Pa := Bt rd 5) (Pb := Bt rd 5) rfl sc_des.nd ?_ ?_ (fun y1 y2 ⟨on, hy1, on0, on1⟩ ⟨ot, hy2, ot0, ot1⟩ => ?_) (by decide)
      · exact xe_up F2 G2 (hr.mono (by decide)) (RW2 H2) hlen (xv 0) (xv 1) xe_int (by omega)
      · exact xe_up F2 G2 (hr.mono (by decide)) (RW2 H2) hlen (xv 0) (xv 1) xe_int (by omega)
      subst hy1 hy2
      refine hs_append2 (P := StoP rd) j0 hq h4 h5 n0 (by rw [List.length_cons]; omega) (safe md kd us h9 h8 (some (.d (.int on))) (some (.d (.int ot))) (.inr ⟨on, rfl⟩) (.inr ⟨ot, rfl⟩)) (xv 3) ?_ (fun d h => h.n) (fun H3 zs d4 hd4 h3q hw3 _ => ?_)
      · refine (xe_tupP (Ps := fun ds => ∃ d r, ds = d :: r ∧ d = .int on ∧ ∃ d2 r2, r = d2 :: r2 ∧ d2 = .int ot ∧ ∃ d3 r3, r2 = d3 :: r3 ∧ (∃ k, d3 = .int k ∧ max on ot + 1 ≤ k ∧ k ≤ 7) ∧ r3 = []) (xa_P (XE.d (xv 6)) (xa_P (XE.d (xv 7)) (xa_P (XE.bt (xe_up (lo := max on ot + 1) (hi := 7) F2 G2 (hr.mono (by decide)) (RW2 H2) hlen (xv 0) (xe_op op_add rr_I0 (xe_max2 rfl B.max (xv 6) (xv 7)) xe_int) xe_int (by omega))) xa_P0))) ?_).imp ?_
        · rintro ds ⟨d, r, rfl, rfl, d2, r2, rfl, rfl, d3, r3, rfl, _, rfl⟩
          exact (by decide : 3 ≤ 100000)
        · rintro x ⟨ds, hx, d, r, rfl, rfl, d2, r2, rfl, rfl, d3, r3, rfl, ⟨k, rfl, k1, k2⟩, rfl⟩
          exact ⟨_, hx, on, ot, k, rfl, by omega⟩
      -- zero
      refine hs_set (i := 5) (P := Bt rd 5) (xe_up F2 G2 (hr.mono (by decide)) (RW2 H3) hlen (xv 0) (xv 1) xe_int (by omega)) (fun y ⟨u, hy, u0, u1⟩ => ?_) sc_des.nd
      subst hy
      have pair : ∀ (H9 : Hp) (u : Int) (kd : Option Dv) (p1 p2 p3 p4 p5 p6 : Pos) (k : Nat), rd ≤ u → u ≤ 5 → XE (cxP P w K mg base nDes "_law_design" sLDesign f cdv A outer s H E) ((W.from H0).from H9) (gDes r rd (some (.d (.int md))) (some (.o q)) kd (some (.d (.int u))) (some (.d (.int on))) (some (.d (.int ot))) none none none)
          (.Tuple [.Name "_law_used" p1, .Call (.Name "_law_up" p2) [.Name "_law_row" p3, .Name "_law_used" p4, .Constant (.int 7) 0 p5] [] p6] k p1) (fun x => ∃ d, x = .d d ∧ PairP rd d) := fun H9 u kd p1 p2 p3 p4 p5 p6 k u0 u1 => by
        refine (xe_tupP (Ps := fun ds => ∃ d r, ds = d :: r ∧ d = .int u ∧ ∃ d2 r2, r = d2 :: r2 ∧ (∃ k, d2 = .int k ∧ u ≤ k ∧ k ≤ 7) ∧ r2 = []) (xa_P (XE.d (xv 5)) (xa_P (XE.bt (xe_up (lo := u) (hi := 7) F2 G2 (hr.mono (by decide)) (RW2 H9) hlen (xv 0) (xv 5) xe_int (by omega))) xa_P0)) ?_).imp ?_
        · rintro ds ⟨d, r, rfl, rfl, d2, r2, rfl, _, rfl⟩
          exact (by decide : 2 ≤ 100000)
        · rintro x ⟨ds, hx, d, r, rfl, rfl, d2, r2, rfl, ⟨k, rfl, k1, k2⟩, rfl⟩
          exact ⟨_, hx, u, k, rfl, by omega⟩
      have n1 := noLs_append (d :: ts) [d4] n0 (noLs_all fun e he => by rw [List.mem_singleton.mp he]; exact hd4.n)
      refine hs_append2 (P := PairP rd) j0 hq h3q hw3 n1 (by rw [List.length_append, List.length_cons]; show ts.length + 1 + 1 < 90000; omega) (safe md kd (some (.d (.int u))) h9 (.inr ⟨u, rfl⟩) (some (.d (.int on))) (some (.d (.int ot))) (.inr ⟨on, rfl⟩) (.inr ⟨ot, rfl⟩)) (xv 3) ?_ (fun d h => h.n) (fun H4 zs d5 hd5 h4q hw4 _ => ?_)
      · exact (xe_tupP (Ps := fun ds => ∃ d r, ds = d :: r ∧ d = .int u ∧ ∃ d2 r2, r = d2 :: r2 ∧ (∃ k, d2 = .int k ∧ u ≤ k ∧ k ≤ 7) ∧ r2 = []) (xa_P (XE.d (xv 5)) (xa_P (XE.bt (xe_up (lo := u) (hi := 7) F2 G2 (hr.mono (by decide)) (RW2 H3) hlen (xv 0) (xv 5) xe_int (by omega))) xa_P0)) (by
            rintro ds ⟨d, r, rfl, rfl, d2, r2, rfl, _, rfl⟩
            exact (by decide : 2 ≤ 100000))).imp (by
          rintro x ⟨ds, hx, d, r, rfl, rfl, d2, r2, rfl, ⟨k, rfl, k1, k2⟩, rfl⟩
          exact ⟨_, hx, u, k, rfl, by omega⟩)
      -- go
      have n2 := noLs_append _ [d5] n1 (noLs_all fun e he => by rw [List.mem_singleton.mp he]; exact hd5.n)
      refine hs_append2 (P := OneP) j0 hq h4q hw4 n2 (by rw [List.length_append, List.length_append, List.length_cons]; show ts.length + 1 + 1 + 1 < 90000; omega) (safe md kd (some (.d (.int u))) h9 (.inr ⟨u, rfl⟩) (some (.d (.int on))) (some (.d (.int ot))) (.inr ⟨on, rfl⟩) (.inr ⟨ot, rfl⟩)) (xv 3) ?_ (fun d h => h.n) (fun H5 zs d6 hd6 h5q hw5 _ => ?_)
      · exact (xe_tupP (Ps := fun ds => ∃ d r, ds = d :: r ∧ (∃ k, d = .int k ∧ 0 ≤ k ∧ k < 4) ∧ r = []) (xa_P (XE.dr (xe_taken (m := 4) F1 G1 hr1 (RW2 H4) hlen (xv 0) xe_int (by decide) (by decide))) xa_P0) (by
            rintro ds ⟨d, r, rfl, _, rfl⟩
            exact (by decide : 1 ≤ 100000))).imp (by
          rintro x ⟨ds, hx, d, r, rfl, ⟨k, rfl, k1, k2⟩, rfl⟩
          exact ⟨_, hx, k, rfl, by omega⟩)
      -- out
      refine hs_set (i := 5) (P := Bt rd 5) (xe_up F2 G2 (hr.mono (by decide)) (RW2 H5) hlen (xv 0) (xv 1) xe_int (by omega)) (fun y ⟨u2, hy, u20, u21⟩ => ?_) sc_des.nd
      subst hy
      have n3 := noLs_append _ [d6] n2 (noLs_all fun e he => by rw [List.mem_singleton.mp he]; exact hd6.n)
      refine hs_append2 (P := PairP rd) j0 hq h5q hw5 n3 (by rw [List.length_append, List.length_append, List.length_append, List.length_cons]; show ts.length + 1 + 1 + 1 + 1 < 90000; omega) (safe md kd (some (.d (.int u2))) h9 (.inr ⟨u2, rfl⟩) (some (.d (.int on))) (some (.d (.int ot))) (.inr ⟨on, rfl⟩) (.inr ⟨ot, rfl⟩)) (xv 3) ?_ (fun d h => h.n) (fun H6 zs d7 hd7 h6q hw6 _ => ?_)
      · exact (xe_tupP (Ps := fun ds => ∃ d r, ds = d :: r ∧ d = .int u2 ∧ ∃ d2 r2, r = d2 :: r2 ∧ (∃ k, d2 = .int k ∧ u2 ≤ k ∧ k ≤ 7) ∧ r2 = []) (xa_P (XE.d (xv 5)) (xa_P (XE.bt (xe_up (lo := u2) (hi := 7) F2 G2 (hr.mono (by decide)) (RW2 H5) hlen (xv 0) (xv 5) xe_int (by omega))) xa_P0)) (by
            rintro ds ⟨d, r, rfl, rfl, d2, r2, rfl, _, rfl⟩
            exact (by decide : 2 ≤ 100000))).imp (by
          rintro x ⟨ds, hx, d, r, rfl, rfl, d2, r2, rfl, ⟨k, rfl, k1, k2⟩, rfl⟩
          exact ⟨_, hx, u2, k, rfl, by omega⟩)
      match ts, l3, h7, hw6 with
      | [t1, t2, t3], _, h7, hw6 =>
        have hw6 : DwA K W.S H6 zs [d, t1, t2, t3, d4, d5, d6, d7] := hw6
        obtain ⟨hsh, hor⟩ := places_mk ⟨rd0, by omega⟩ hd (h7 t1 (by simp)) (h7 t2 (by simp)) (h7 t3 (by simp)) hd4 hd5 hd6 hd7
        -- the paths
        refine hs_setNew (i := 8) (ob := .dT []) xn_dnew (fun H8 p8 j8 hp8 => ?_) sc_des.nd
        have RW3 : ∀ H9, RowW K ((((W.from H0).from H6).from H8).from H9) r sa ns := fun H9 => ((RW2 H6).from H8).from H9
        refine hs_rangeG (j := 9) (B := fun z => 0 ≤ z ∧ z < 10) (fun i σ H => ∃ kvs H9 od oto, (KvG PathK kvs i ∧ H9 p8 = some (.dT kvs)) ∧ Tp K ((((W.from H0).from H6).from H8).from H9) (gDes r rd (some (.d (.int md))) (some (.o q)) kd (some (.d (.int u2))) (some (.d (.int on))) (some (.d (.int ot))) (some (.o p8)) od oto) σ H) rfl PassesOwn.never sc_des.nd B.range ?_ (fun z hz => by omega) (fun σ H T => ⟨[], _, none, none, ⟨KvG.nil, upd_same⟩, T⟩) (fun i ⟨z, hz, hiz⟩ => ?_) ?_
        · exact (xe_taken (m := 10) F1 G1 hr1 (RW3 _) hlen (xv 0) xe_int (by decide) (by decide)).imp fun x ⟨k, hx, k0, k1⟩ => ⟨k, hx, k0, k1⟩
        · refine HS.pre (Pre := fun σ H => ∃ kvs H9 oto, (KvG PathK kvs i ∧ H9 p8 = some (.dT kvs)) ∧ Tp K ((((W.from H0).from H6).from H8).from H9) (gDes r rd (some (.d (.int md))) (some (.o q)) kd (some (.d (.int u2))) (some (.d (.int on))) (some (.d (.int ot))) (some (.o p8)) (some (.d (.int (i : Int)))) oto) σ H) ?_ (fun σ H ⟨σ0, v, ⟨kvs, H9, od, oto, hk, T⟩, hv, e⟩ => ?_)
          rotate_left
          · subst hv e
            exact ⟨kvs, H9, oto, hk, T.set (i := 9) (x := .d (.int (i : Int))) (Dw.int _)⟩
          refine HS.ex fun kvs => HS.ex fun H9 => HS.ex fun oto => HS.and fun ⟨hk, h9⟩ => ?_
          refine hs_set (i := 10) (P := Dr 5) (xe_taken (m := 5) F1 G1 hr1 (RW3 _) hlen (xv 0) xe_int (by decide) (by decide)) (fun y ⟨t, hy, t0, t1⟩ => ?_) sc_des.nd
          subst hy
          refine hs_dput (R := PathK) hu j8 hp8 h9 (Nat.lt_of_le_of_lt hk.len (by omega)) (xv 8) ?_ xe_bl (fun H10 ks hR h10 => HS.nil fun σ H T => ⟨_, H10, _, _, ⟨hk.put hR, h10⟩, T⟩)
          refine xe_tupHP (Ps := PathK) (XA.imp (xa_P (Pa := fun d => ∃ k, d = .int k ∧ ∃ i j, i = t + 1 ∧ (0 ≤ j ∧ j < 7 - t) ∧ k = i + j) (XE.imp (xe_op op_add (rr_I0P (A := fun z => z = t + 1) (B := fun z => 0 ≤ z ∧ z < 7 - t)) (XE.imp (xe_op op_add (rr_I0 (i := t) (j := 1)) (xv 10) xe_int) fun x hx => ⟨t + 1, hx, rfl⟩) ((xe_taken (m := 7 - t) F1 G1 hr1 (RW3 _) hlen (xv 0) (xe_op op_sub rr_I0 xe_int (xv 10)) (by omega) (by omega)).imp fun x ⟨k, hx, k0, k1⟩ => ⟨k, hx, k0, k1⟩)) ?_) (xa_P (XE.d (xv 10)) xa_P0)) ?_) ?_
          · rintro x ⟨k, hx, i, j, hi, hj, hk⟩
            exact ⟨_, hx, k, rfl, i, j, hi, hj, hk⟩
          · rintro xs ⟨ds, hx, d, r, rfl, ⟨k, rfl, i, j, rfl, hj, rfl⟩, d2, r2, rfl, rfl, rfl⟩
            exact ⟨[.inl (t + 1 + j), .inl t], hx, _, _, rfl, by omega⟩
          · rintro ks ⟨a, b, rfl, _⟩
            exact (by decide : 2 ≤ 100000)
        · refine HS.ex fun z => HS.and fun hz => HS.ex fun kvs => HS.ex fun H9 => HS.ex fun od => HS.ex fun oto => HS.and fun ⟨hk, h9'⟩ => ?_
          have hall : ∀ ks ∈ kvs.map (·.1), PathK ks := fun ks hm => by
            obtain ⟨kv, m', e⟩ := List.mem_map.mp hm
            rw [← e]
            exact hk.all kv m'
          have npq : ¬ W.S q := fun s => W.dom j0 s hq
          refine hs_ret (P := PDes) ?_ g.at2.at2
          refine XE.imp (xe_tupP (Ps := fun ds => ∃ e0 r, ds = e0 :: r ∧ e0 = .int rd ∧ ∃ e2 r2, r = e2 :: r2 ∧ (∃ c, e2 = .bool c) ∧ ∃ e3 r3, r2 = e3 :: r3 ∧ e3 = .tuple [d, t1, t2, t3, d4, d5, d6, d7] ∧ ∃ e4 r4, r3 = e4 :: r4 ∧ (∃ lss, e4 = .tuple (tupsD lss) ∧ PathsOk lss) ∧ ∃ e5 r5, r4 = e5 :: r5 ∧ e5 = .tuple [] ∧ r5 = []) ?_ ?_) ?_
          · refine xa_P (XE.d (xv 1)) ?_
            refine xa_P (xe_eq0 (xe_taken (m := 2) F1 G1 hr1 (RW3 _) hlen (xv 0) xe_int (by decide) (by decide)) xe_int) ?_
            refine xa_P (XE.d (xe_tupleO (H1 := H6) B.tuple npq (fun H j => j.1.1.2) h6q hw6 (xv 3))) ?_
            refine xa_P ?_ (xa_P (XE.d (xe_tup xa0)) xa_P0)
            refine XE.imp (xe_callTy (Ps := fun xs => ∃ x, xs = [x] ∧ ∃ lss, x = .hl lss ∧ lss.Perm (kvs.map (·.1)) ∧ SrtO.Srtd lexK lss) (P := fun x => ∃ lss, x = .d (.tuple (tupsD lss)) ∧ PathsOk lss) call_tuple_of (RRC.of fun xs ⟨x, e1, lss, e2, h3, h4⟩ => ?_) B.tuple (by decide +kernel) (xa_one (xe_callB (Ps := fun xs => ∃ x, xs = [x] ∧ IsHL (kvs.map (·.1)) x) cr_sortedK (RRC.of fun xs ⟨x, e1, e2⟩ => ?_) B.sorted (by decide +kernel) (xa_one (xe_listD rfl B.list j8 hp8 h9' (xv 8)))))) ?_
            · subst e1 e2
              refine rr_tupleH.post fun x hx => ⟨lss, hx, fun ks hm => hall ks (h3.mem_iff.mp hm), rise_of h4 h3 hk.nd, ?_⟩
              rw [h3.length_eq, List.length_map]
              have := hk.len
              omega
            · subst e1 e2
              exact rr_sortedH (B := false) (fun ks hm => (hall ks hm).first) (fun ks hm ms hm' => (hall ks hm).comp (hall ms hm'))
            · rintro x ⟨lss, hx, hp⟩
              exact ⟨_, hx, lss, rfl, hp⟩
          · rintro ds ⟨_, _, rfl, _, _, _, rfl, _, _, _, rfl, _, _, _, rfl, _, _, _, rfl, _, rfl⟩
            exact (by decide : 5 ≤ 100000)
          · rintro x ⟨ds, hx, _, _, rfl, rfl, _, _, rfl, ⟨c, rfl⟩, _, _, rfl, rfl, _, _, rfl, ⟨lss, rfl, hp⟩, _, _, rfl, rfl, rfl⟩
            exact ⟨rd, c, _, lss, hx, rd0, by omega, hsh, hor, hp⟩
end
end SB

/-! Lambdas as values. -/
namespace SB
open PySem PySem.Spec PyProof.Rows L2 LamX
section
open PySem.W PySem.Calls
variable {M : Model} {A : Around} {E : Value → Shared → Prop} {s : Shared} {L : LD} {env : Env} {c P : Addr} {ps : Array Value} {pos : Pos} {mg : Str → Option Value} {q0 : Str × Addr} {r0 : List (Str × Addr)} {dV : Value} {Q : Value → Shared → Prop}
/-- the lambda's object, its code object new -/
theorem lamTail (hcl : closureFor L.scope env = pure L.cl) (hn : L.cl = q0 :: r0) (hG : env.globals = mainGlobals) (hg : s.heap.Ns mainGlobals mg) (hcode : env.code = .ref c) (C : CodeHd s.heap c P) (hP : s.heap.get? P = some (tabObj ps)) (ht : TriplesOk ps.toList)
    (hnf : codeAmong pos ps.toList = none) (hgP : mainGlobals ≠ P) (hb : s.heap.BuiltinsAt mg P)
    (h : ∀ c' pm ctv h' tk, Heap.ExtBut P s.heap h' → s.heap.objs.size ≤ c' → c' < h'.objs.size → h'.CodeRec (.ref c') L.q → h'.get? P = some (tabObj (ps ++ #[rawInt pos.line, rawInt pos.col, .ref c'])) →
      Q (.ref h'.objs.size) { s with heap := h'.push { cls := .type "function", data := .func (L.fd c' dV pm ctv) }, toks := tk }) :
    wpAny M A (makeTail "<lambda>" L.q L.params (.expr L.body) L.scope env dV .none none pos pos.line) Q E s := by
  obtain ⟨lp, lb, ls, lcl, lq⟩ := L
  have hn : lcl = q0 :: r0 := hn
  subst hn
  obtain ⟨bm, ob, b1, b2, _, b4, b5, b6, b7, b8⟩ := hb
  unfold makeTail
  rw [hcl, hG]
  refine wpAny_bind (wpAny_pure ?_)
  simp only [List.isEmpty_cons, Bool.false_eq_true, if_false]
  have pk : ∀ {oT : Obj} (b : Addr) (o : Obj), s.heap.get? b = some o → (s.heap.push oT).get? b = some o := fun b o e => Heap.get?_push_of_some _ e
  refine wpAny_bind (wpAny_newTextTuple (wpAny_bind (wpAny_functionCodeX hcode ((C.keeps pk).code (pk _ _ hP) ht) ((C.keeps pk).tab (pk _ _ hP)) hnf fun c' h' tk hx hge hlt _ hrec htb _ => ?_)))
  have g2 := (hg.push _).extBut hx hgP
  have x2 : Heap.ExtBut P s.heap h' := fun b o nb e => hx b o nb (pk _ _ e)
  have s2 : s.heap.objs.size ≤ c' := Nat.le_trans (by rw [Heap.size_push]; omega) hge
  refine wpAny_bind (wpAny_builtinsFor g2 b1 b2 (x2 _ _ b4 b5) b6 b7 b8 (wpAny_bind (wpAny_nsGet g2 (wpAny_bind (wpAny_pure (wpAny_newObj_type (h c' ((mg "__name__").getD .none) _ h' tk x2 s2 hlt hrec htb.2) (by size_fits)))))))
/-- .. its code object found -/
theorem lamTailHit {cv : Addr} (hcl : closureFor L.scope env = pure L.cl) (hn : L.cl = q0 :: r0) (hG : env.globals = mainGlobals) (hg : s.heap.Ns mainGlobals mg) (hcode : env.code = .ref c) (C : CodeHd s.heap c P) (hP : s.heap.get? P = some (tabObj ps)) (ht : TriplesOk ps.toList)
    (hf : codeAmong pos ps.toList = some (.ref cv)) (hb : s.heap.BuiltinsAt mg P)
    (h : ∀ (pm ctv : Value) (h' : Heap) (tk : Tok), (∀ b o, s.heap.get? b = some o → h'.get? b = some o) → s.heap.objs.size ≤ h'.objs.size →
      Q (.ref h'.objs.size) { s with heap := h'.push { cls := .type "function", data := .func (L.fd cv dV pm ctv) }, toks := tk }) :
    wpAny M A (makeTail "<lambda>" L.q L.params (.expr L.body) L.scope env dV .none none pos pos.line) Q E s := by
  obtain ⟨lp, lb, ls, lcl, lq⟩ := L
  have hn : lcl = q0 :: r0 := hn
  subst hn
  obtain ⟨bm, ob, b1, b2, _, _, b5, b6, b7, b8⟩ := hb
  unfold makeTail
  rw [hcl, hG]
  refine wpAny_bind (wpAny_pure ?_)
  simp only [List.isEmpty_cons, Bool.false_eq_true, if_false]
  have pk : ∀ {oT : Obj} (b : Addr) (o : Obj), s.heap.get? b = some o → (s.heap.push oT).get? b = some o := fun b o e => Heap.get?_push_of_some _ e
  have sz : ∀ oT : Obj, s.heap.objs.size ≤ (s.heap.push oT).objs.size := fun oT => by rw [Heap.size_push]; omega
  refine wpAny_bind (wpAny_newTextTuple (wpAny_bind (wpAny_functionCode_hit hcode ((C.keeps pk).code (pk _ _ hP) ht) hf ?_)))
  refine wpAny_bind (wpAny_builtinsFor (hg.push _) b1 b2 (pk _ _ b5) b6 b7 b8 (wpAny_bind (wpAny_nsGet (hg.push _) (wpAny_bind (wpAny_pure (wpAny_newObj_type (h ((mg "__name__").getD .none) _ _ s.toks pk (sz _)) (by size_fits)))))))
end
section
variable {X : Cx} {pins : List (Addr × Obj)} {σ : L2.St} {H : Hp} {s : Shared}
theorem inv_lam {L : LD} {c' : Addr} {dV pm ctv : Value} {h' : Heap} {tk : Nat} {H1 : Hp} {s' : Shared} (I : Inv X pins σ H1 s') :
    Inv X pins σ (upd H1 s'.heap.objs.size (LamO L s'.heap.objs.size c' dV)) { s' with heap := s'.heap.push { cls := .type "function", data := .func (L.fd c' dV pm ctv) }, toks := tk } := by
  refine I.laid (a := s'.heap.objs.size) (fun b u e => Heap.get?_push_of_some _ e) (Nat.le_refl _) ?_
  have e : (s'.heap.push ({ cls := .type "function", data := .func (L.fd c' dV pm ctv) } : Obj)).get? s'.heap.objs.size = some ({ cls := .type "function", data := .func (L.fd c' dV pm ctv) } : Obj) := Heap.get?_push_size _ rfl
  exact ⟨⟨pm, ctv, e⟩, ⟨_, e⟩, fun h1 h2 ⟨p, t, z⟩ st => ⟨p, t, st _ z⟩⟩
/-- the lambda is made, its defaults in hand -/
theorem lam_tail_inv {L : LD} {c P : Addr} {pos : Pos} {E : Value → Shared → Prop} {Q : Value → Shared → Prop} {dV : Value} {q0 : Str × Addr} {r0 : List (Str × Addr)} (I : Inv X pins σ H s) (TB : TabB X.base X.mg c P) (hcode : X.env.code = .ref c) (hT : TabS H P L.q)
    (hfree : ∀ y ∈ L.scope.names, y.2 = .free → ∃ c, X.env.cells.lookup y.1 = some c) (hcl : L.cl = cloFrom X.env.cells L.scope.names []) (hn : L.cl = q0 :: r0)
    (h : ∀ (f c' : Addr) (H1 : Hp) (s' : Shared), Inv X pins σ H1 s' → (∀ a o, a ≠ P → H a = some o → H1 a = some o) → TabS H1 P L.q → H1 f = some (LamO L f c' dV) → H f = none → H1 c' = some (CodeO c' L.q) → Q (.ref f) s') :
    wpAny (model X.prog X.w) X.A (makeTail "<lambda>" L.q L.params (.expr L.body) L.scope X.env dV .none none pos pos.line) Q E s := by
  obtain ⟨ps, hP, ht, ha⟩ := hT
  have bP : s.heap.BuiltinsAt X.mg P := TB.bm.keeps I.bk
  have hP' : s.heap.get? P = some { cls := .none, data := .fields ps } := I.hok P _ hP
  have hcl' : closureFor L.scope X.env = pure L.cl := by
    rw [hcl]
    exact closure_ok hfree
  cases hc : codeAmong pos ps.toList with
  | none =>
    refine lamTail (mg := X.mg) (c := c) (P := P) (ps := ps) hcl' hn I.ok.glob (I.mod.glob.keeps I.bk) hcode (TB.code.keeps I.bk) hP' ht hc TB.gP bP fun c' pm ctv h' tk hx hge hlt hrec htb => ?_
    obtain ⟨c2, oc, vs, t, e2, hoc, hd, hv⟩ := hrec
    cases e2
    have nC : H c' = none := I.hok.fresh hge
    have I1 := inv_table (t' := tk) (more := #[rawInt pos.line, rawInt pos.col, .ref c']) (h' := h') I hP (fun b o hb e => hx b o hb e) htb hge ⟨oc, vs, t, hoc, hd, hv⟩
    have nF := I1.hok.fresh (Nat.le_refl _)
    have I2 := inv_lam (L := L) (c' := c') (dV := dV) (pm := pm) (ctv := ctv) (h' := h') (tk := tk) I1
    have old : ∀ a o, a ≠ P → H a = some o → upd (upd H P (.tbl (ps ++ #[rawInt pos.line, rawInt pos.col, .ref c']))) c' (CodeO c' L.q) a = some o := fun a o na e => by
      rw [upd_ne (ne_of_none e nC), upd_ne na]
      exact e
    have eL : (ps ++ #[rawInt pos.line, rawInt pos.col, .ref c']).toList = ps.toList ++ [rawInt pos.line, rawInt pos.col, .ref c'] := by simp
    have fresh : ∀ {a : Addr} {o : HO}, upd (upd H P (.tbl (ps ++ #[rawInt pos.line, rawInt pos.col, .ref c']))) c' (CodeO c' L.q) a = some o → a ≠ h'.objs.size := fun {a o} e z => by
      subst z
      exact nomatch (e.symm.trans nF)
    have hPl : P < s.heap.objs.size := Heap.lt_size hP'
    have hsz : s.heap.objs.size ≤ h'.objs.size := Nat.le_trans hge (Nat.le_of_lt hlt)
    refine h h'.objs.size c' _ _ I2 (fun a o na e => ?_) ?_ upd_same (I.hok.fresh hsz) ?_
    · have e1 := old a o na e
      exact (upd_ne (fresh e1)).trans e1
    · have atP : upd (upd H P (.tbl (ps ++ #[rawInt pos.line, rawInt pos.col, .ref c']))) c' (CodeO c' L.q) P = some (.tbl (ps ++ #[rawInt pos.line, rawInt pos.col, .ref c'])) := by rw [upd_ne (ne_of_none hP nC), upd_same]
      refine ⟨_, (upd_ne (fresh atP)).trans atP, by rw [eL]; exact PySem.TriplesOk_snoc _ _ _ _ ht, fun p' cv hcv => ?_⟩
      rw [eL] at hcv
      rcases among_app _ ht hcv with z | z
      · obtain ⟨c0, e1, e2⟩ := ha p' cv z
        have n0 : c0 ≠ P := fun z => by
          rw [z, hP] at e2
          exact codeO_ne ps (Option.some.inj e2).symm
        have e3 := old c0 _ n0 e2
        exact ⟨c0, e1, (upd_ne (fresh e3)).trans e3⟩
      · exact ⟨c', z, (upd_ne (Nat.ne_of_lt hlt)).trans upd_same⟩
    · exact (upd_ne (Nat.ne_of_lt hlt)).trans upd_same
  | some cv =>
    obtain ⟨c', e, hco⟩ := ha pos cv hc
    subst e
    refine lamTailHit (mg := X.mg) (c := c) (P := P) (ps := ps) hcl' hn I.ok.glob (I.mod.glob.keeps I.bk) hcode (TB.code.keeps I.bk) hP' ht hc bP fun pm ctv h' tk hx hsz => ?_
    have I1 : Inv X pins σ H { s with heap := h', toks := tk } := I.kept fun b o e => hx b o e
    have nF := I1.hok.fresh (Nat.le_refl _)
    have I2 := inv_lam (L := L) (c' := c') (dV := dV) (pm := pm) (ctv := ctv) (h' := h') (tk := tk) I1
    have old : ∀ a o, H a = some o → upd H h'.objs.size (LamO L h'.objs.size c' dV) a = some o := fun a o e => (upd_ne (ne_of_none e nF)).trans e
    exact h h'.objs.size c' _ _ I2 (fun a o _ e => old a o e) (TabS.ext ⟨ps, hP, ht, ha⟩ old) upd_same nF (old _ _ hco)
end
end SB

/-! Lambdas: the values, the calls. -/
namespace SB
open PySem PySem.Spec PyProof.Rows L2 LamX
structure TabW (W : Wd) (P : Addr) (q : Str) : Prop where
  s : W.S P
  at_ : ∀ H, W.J H → TabS H P q
  put : ∀ H H1, W.J H → (∀ a o, a ≠ P → H a = some o → H1 a = some o) → TabS H1 P q → W.J H1
theorem TabW.from {W : Wd} {P : Addr} {q : Str} (T : TabW W P q) (H0 : Hp) : TabW (W.from H0) P q where
  s := T.s
  at_ := fun H j => T.at_ H j.1
  put := fun H H1 j old t => ⟨T.put H H1 j.1 old t, fun a o n h => old a o (fun z => n (by rw [z]; exact T.s)) (j.2 a o n h)⟩
abbrev lamOf (X : Cx) (params : Arguments) (body : Expr) (scope : Scope) : LD := ⟨params, body, scope, cloFrom X.env.cells scope.names [], X.env.qual ++ "<lambda>"⟩
/-- the lambda's names -/
structure LamL (N : List Str) (sc scope : Scope) : Prop where
  kind : scope.kind = .function
  co : scope.isCoroutine = false
  gen : scope.isGenerator = false
  cell : ∀ y ∈ scope.names, y.2 ≠ .cell
  own : ∀ y ∈ scope.names, y.2 = .local → y.1 ∉ N
  free : ∀ y ∈ scope.names, y.2 = .free → sc.names.lookup y.1 = some .cell ∨ sc.names.lookup y.1 = some .free
  some_ : ∃ y, scope.names.lookup y = some .free
def lamLB (N : List Str) (sc scope : Scope) : Bool :=
  decide (scope.kind = .function) && !scope.isCoroutine && !scope.isGenerator && (scope.names.all fun y => !decide (y.2 = .cell) && (!decide (y.2 = .local) || !N.contains y.1) && (!decide (y.2 = .free) || decide (sc.names.lookup y.1 = some .cell) || decide (sc.names.lookup y.1 = some .free))) && scope.names.any fun y => decide (scope.names.lookup y.1 = some .free)
theorem lamL_by {N : List Str} {sc scope : Scope} (h : lamLB N sc scope = true) : LamL N sc scope := by
  unfold lamLB at h
  simp only [Bool.and_eq_true, Bool.or_eq_true, Bool.not_eq_true', decide_eq_true_eq, decide_eq_false_iff_not, List.all_eq_true, List.any_eq_true] at h
  obtain ⟨⟨⟨⟨h1, h2⟩, h3⟩, h4⟩, y0, _, h5⟩ := h
  refine ⟨h1, h2, h3, fun y hy => (h4 y hy).1.1, fun y hy e => ?_, fun y hy e => ?_, y0.1, h5⟩
  · rcases (h4 y hy).1.2 with z | z
    · exact absurd e z
    · intro m
      rw [List.contains_iff_mem.mpr m] at z
      cases z
  · rcases (h4 y hy).2 with (z | z) | z
    · exact absurd e z
    · exact .inl z
    · exact .inr z
theorem LamL.has {X : Cx} {N : List Str} {scope : Scope} (L : LamL N X.env.scope scope) (ok : X.Ok) : ∀ y ∈ scope.names, y.2 = .free → ∃ c, X.env.cells.lookup y.1 = some c := fun y hy e => by
  rcases L.free y hy e with k | k
  · exact ok.has _ (.inl k)
  · exact ok.has _ (.inr k)
theorem LamL.cons {X : Cx} {N : List Str} {scope : Scope} (L : LamL N X.env.scope scope) : ∃ q0 r0, cloFrom X.env.cells scope.names [] = q0 :: r0 := by
  obtain ⟨y, hy⟩ := L.some_
  obtain ⟨c, hc⟩ := mem_lookup (cloFrom_has (cells := X.env.cells) (acc := []) (PySem.mem_of_lookup hy))
  cases h : cloFrom X.env.cells scope.names [] with
  | nil =>
    rw [h] at hc
    cases hc
  | cons a b => exact ⟨a, b, rfl⟩
section
variable {X : Cx} {W : Wd} {Γ : Gm} {pos : Pos} {params : Arguments} {body : Expr} {scope : Scope} {c P : Addr}
theorem lam_ret {L : LD} {H H1 : Hp} {f c' : Addr} {dV : Value} {Q : VK} {S : Hp → Prop} (TW : TabW W P L.q) (j : W.J H) (R : Ret X.K W H (fun x => x = .fn L) Q) (old : ∀ a o, a ≠ P → H a = some o → H1 a = some o) (t1 : TabS H1 P L.q) (hf : H1 f = some (LamO L f c' dV)) (hc : H1 c' = some (CodeO c' L.q)) (hd : LamD W.S H1 dV L.params.defaults) :
    Q (.ref f) H1 := by
  have j1 := TW.put H H1 j old t1
  exact R (.ref f) (.fn L) H1 rfl ⟨f, c', dV, rfl, ⟨hf, fun s => W.nk j1 s hf lamK_lam⟩, ⟨hc, fun s => W.nk j1 s hc lamK_code⟩, hd⟩ (fun a o n e => old a o (fun z => n (by rw [z]; exact TW.s)) e) j1
/-- lambda: body -/
theorem xe_lam0 (TW : TabW W P (X.env.qual ++ "<lambda>")) (TB : TabB X.base X.mg c P) (hcode : X.env.code = .ref c) (L : LamL X.N X.env.scope scope) (hp : params.defaults = []) (hd : defaultsOf params X.env = ([], [])) : XE X W Γ (.Lambda params body scope pos) (fun x => x = .fn (lamOf X params body scope)) := by
  refine ⟨fun pins s σ H Q I ⟨T, R⟩ => ?_⟩
  obtain ⟨q0, r0, hn⟩ := L.cons
  rw [arm_eval_Lambda, hd]
  show wpAny (model X.prog X.w) X.A (evalAll [] >>= fun dv => holding dv (evalAllOpt []) >>= fun kdv => makeFunction "<lambda>" (X.env.qual ++ "<lambda>") params (.expr body) scope X.env dv kdv [] pos pos.line) _ _ s
  refine wpAny_bind (wpAny_pure (wpAny_bind (wpAny_holding (wpAny_pure ?_))))
  rw [makeFunction_eq]
  simp only [List.zip_nil_right, List.filterMap_nil, List.isEmpty_nil, if_true, pure_bind]
  exact lam_tail_inv (L := lamOf X params body scope) I TB hcode (TW.at_ H T.j) (L.has I.ok) rfl hn fun f c' H1 s' I1 old t1 hf hfn hc =>
    ⟨.ref f, H1, I1, rfl, lam_ret (S := W.J) TW T.j R old t1 hf hc (by show LamD W.S H1 .none params.defaults; rw [hp]; rfl)⟩
/-- lambda a=0: body -/
theorem xe_lam1 {j : Nat} {pd : Pos} (TW : TabW W P (X.env.qual ++ "<lambda>")) (TB : TabB X.base X.mg c P) (hcode : X.env.code = .ref c) (L : LamL X.N X.env.scope scope) (hp : params.defaults = [.Constant (.int 0) j pd]) (hd : defaultsOf params X.env = ([eval (.Constant (.int 0) j pd) X.env], [])) : XE X W Γ (.Lambda params body scope pos) (fun x => x = .fn (lamOf X params body scope)) := by
  refine ⟨fun pins s σ H Q I ⟨T, R⟩ => ?_⟩
  obtain ⟨q0, r0, hn⟩ := L.cons
  rw [arm_eval_Lambda, hd]
  show wpAny (model X.prog X.w) X.A (evalAll [eval (.Constant (.int 0) j pd) X.env] >>= fun dv => holding dv (evalAllOpt []) >>= fun kdv => makeFunction "<lambda>" (X.env.qual ++ "<lambda>") params (.expr body) scope X.env dv kdv [] pos pos.line) _ _ s
  refine wpAny_bind (wpAny_bind (thn ((pe_int (pos := pd) (i := 0) (j := j)).run pins s σ H (fun v H1 => v = .int 0 ∧ H1 = H) I ⟨rfl, rfl⟩) fun u s1 ⟨v, H1, I1, r1, ev, eH⟩ => ?_))
  subst ev
  rw [eH] at I1
  refine wpAny_bind (wpAny_holding (wpAny_pure (wpAny_pure (wpAny_bind (wpAny_holding (wpAny_pure ?_))))))
  rw [makeFunction_eq]
  simp only [List.zip_nil_right, List.filterMap_nil, List.isEmpty_nil, List.isEmpty_cons, if_true, Bool.false_eq_true, if_false, pure_bind]
  refine wpAny_bind (wpAny_newTextTuple ?_)
  have nT := I1.hok.fresh (Nat.le_refl s1.heap.objs.size)
  have I2 : Inv X pins σ (upd H s1.heap.objs.size (.tup [.int 0])) { s1 with heap := s1.heap.push { cls := .type "tuple", data := .seq [u].toArray } } :=
    I1.laid (t' := s1.toks) (fun b o e => Heap.get?_push_of_some _ e) (Nat.le_refl _) ⟨by show 1 ≤ sizeLine; decide, [u], .cons r1 .nil, _, Heap.get?_push_size _ rfl, rfl, 0, rfl⟩
  obtain ⟨j2, e2, n2⟩ := new_world (W := W) (o := .tup [.int 0]) T.j nT
  refine lam_tail_inv (L := lamOf X params body scope) I2 TB hcode (TW.at_ _ j2) (L.has I2.ok) rfl hn fun f c' H1 s' I3 old t1 hf hfn hc => ?_
  refine ⟨.ref f, H1, I3, rfl, lam_ret (S := W.J) TW j2 (R.later e2) old t1 hf hc ?_⟩
  show LamD W.S H1 (.ref s1.heap.objs.size) params.defaults
  rw [hp]
  have hT1 := old s1.heap.objs.size _ (fun z => n2 (by rw [z]; exact TW.s)) upd_same
  exact ⟨_, rfl, hT1, n2⟩
end
/-! ### lists of lambdas -/
section
variable {X : Cx} {W : Wd} {Γ : Gm} {pos : Pos} {es : List Expr} {Ls : List LD} {K : Frag}
theorem vra_fns {K : Frag} {S : ASet} {H : Hp} : ∀ {Ls : List LD} {vs : List V}, VRA K S H vs (Ls.map Dv.fn) → Paired (LamV S H) vs Ls
  | [], _, h => by cases h; exact .nil
  | L :: Ls, _, h => by
    cases h with
    | cons a b => exact .cons a (vra_fns b)
theorem xaf {e : Expr} {L : LD} (ha : XE X W Γ e (fun x => x = .fn L)) (hr : XA X W Γ es (fun xs => xs = Ls.map Dv.fn)) (hs : starEach (e :: es) X.env = (false, eval e X.env) :: starEach es X.env := by rfl) :
    XA X W Γ (e :: es) (fun xs => xs = (L :: Ls).map Dv.fn) := (xa_cons ha hr hs).imp fun xs ⟨x, r, e1, e2, e3⟩ => by
  rw [e1, e2, e3]
  rfl
theorem xe_lstF (h : XA X W Γ es (fun xs => xs = Ls.map Dv.fn)) (hl : Ls.length ≤ 100000) : XE X W Γ (.List es pos) (fun x => x = .fl Ls) := pe_imp (pe_lst h) fun σ H Q ⟨T, R⟩ =>
  ⟨T, fun vs xs H2 ps rs e2 j2 => by
    subst ps
    have hw := vra_fns rs
    have hlen : vs.length = Ls.length := Paired.length hw
    refine ⟨Nat.le_trans (by rw [hlen]; exact hl) (by decide), fun p hp => ?_⟩
    obtain ⟨j3, e3, n3⟩ := new_world (o := .lst vs) j2 hp
    exact R _ _ _ rfl ⟨p, vs, rfl, upd_same, n3, lams_to (fun a o _ n h => ⟨n, e3 a o n h⟩) hw⟩ (e2.trans e3) j3⟩
theorem lams_at {S : ASet} {H : Hp} : ∀ {vs : List V} {Ls : List LD} {i : Nat} {L : LD}, Paired (LamV S H) vs Ls → Ls[i]? = some L → ∃ v, vs[i]? = some v ∧ LamV S H v L
  | _, _, _, _, .nil, e => by simp at e
  | _, _, 0, _, .cons a _, e => by simp at e; subst e; exact ⟨_, rfl, a⟩
  | _, _, i + 1, _, .cons _ t, e => by
    obtain ⟨b, h1, h2⟩ := lams_at (i := i) t (by simpa using e)
    exact ⟨b, by simpa using h1, h2⟩
theorem rr_ixF : RR2 K W (rIxL K) (fun x => x = .fl Ls) (fun x => ∃ k : Nat, x = .d (.int (k : Int)) ∧ k < Ls.length) (fun x => ∃ L, x = .fn L ∧ L ∈ Ls) := RR2.of fun x y px ⟨k, py, hk⟩ => by
  subst px py
  intro x y v u H Q px py rx ry jj R
  subst px py
  cases ry
  obtain ⟨l, vs, rfl, h3, h4, h5⟩ := rx
  obtain ⟨b, hb, hkb⟩ := lams_at h5 (List.getElem?_eq_getElem hk)
  exact ⟨l, _, (k : Int), b, rfl, rfl, .inl (.inl h3), atI_nat hb, R _ (.fn (Ls[k])) H ⟨_, rfl, List.getElem_mem hk⟩ hkb (Er.refl H) jj⟩
end
/-! ### a lambda called -/
/-- what the call without arguments binds -/
inductive LamB (params : Arguments) (body : Expr) (scope : Scope) : Prop
  | zero (hd : params.defaults = []) (h : ∀ (q : Str) (cl : List (Str × Addr)) (c : Addr) (pm ctv : Value), bindArgs (LD.fd ⟨params, body, scope, cl, q⟩ c .none pm ctv) ⟨[], []⟩ = pure [])
  | one (e : Expr) (es : List Expr) (a : Str) (hd : params.defaults = e :: es) (ha : scope.names.lookup a = some .local)
      (h : ∀ (q : Str) (cl : List (Str × Addr)) (T c : Addr) (pm ctv u : Value), ∃ k, bindArgs (LD.fd ⟨params, body, scope, cl, q⟩ c (.ref T) pm ctv) ⟨[], []⟩ = seqItems? (.ref T) >>= k ∧ k (some #[u]) = pure [(a, u)])
section
variable {X : Cx} {pins : List (Addr × Obj)} {σ : L2.St} {H HZ : Hp} {s s1 : Shared}
theorem lam_start3 {A : Around} {outer : List Env} {E : XK} {scope : Scope} {f c' : Addr} {h₁ : Heap} {tk : Nat} {binds : List (Str × Value)} (I : Inv X pins σ H s) (L : LamL X.N X.env.scope scope) (e0 : Env0 X.prog X.w X.K X.mg X.base A outer s1 HZ) (hd : A.handled = none)
    (un : Un (frs X.stack) [] H HZ s.heap s1.heap) (hns : h₁.Ns s1.heap.objs.size fun y => binds.reverse.lookup y) (kp : ∀ b o, s1.heap.get? b = some o → h₁.get? b = some o) :
    Inv (lamCx X A outer s1 HZ E scope f c') [] σ HZ { s1 with heap := h₁, toks := tk } := by
  have hfree := L.has I.ok
  have cm : ∀ {y c}, (cloFrom X.env.cells scope.names []).lookup y = some c → X.env.cells.lookup y = some c := fun {y c} e => by
    rcases cloFrom_mem (PySem.mem_of_lookup e) with hm | ⟨h1, h2⟩
    · cases hm
    · obtain ⟨c1, hc⟩ := hfree _ h1 rfl
      have hc : X.env.cells.lookup y = some c1 := hc
      have e2 : c = c1 := by rw [h2, hc] <;> rfl
      exact e2 ▸ hc
  have look : ∀ {y}, scope.names.lookup y = some .free → ∃ c, (cloFrom X.env.cells scope.names []).lookup y = some c := fun {y} hl => mem_lookup (cloFrom_has (cells := X.env.cells) (acc := []) (PySem.mem_of_lookup hl))
  have cellK : ∀ {c : Addr} {v : Option Value}, H c = none → s.heap.IsCell c v → h₁.IsCell c v := fun {c v} n ⟨o, ho, hd⟩ => by
    obtain ⟨sl, q⟩ := un.any ho n (by simp)
    exact ⟨_, kp _ _ q, hd⟩
  have noA : ∀ b : Addr, b ∉ (lamCx X A outer s1 HZ E scope f c').ex := fun b => List.not_mem_nil
  have noC : ∀ {y}, scope.names.lookup y ≠ some .cell := fun {y} k => L.cell _ (PySem.mem_of_lookup k) rfl
  refine ⟨⟨e0.mod, L.kind, rfl, rfl, Nat.le_refl _, fun y z c e1 e2 => I.ok.inj y z c (cm e1) (cm e2), fun y hy => ?_, fun y c z _ => ?_, fun _ => hd, Around.frames_deeper e0.frames, .inr ⟨rfl, rfl⟩, fun b z => absurd z (noA b), e0.bs, e0.bsz, fun b _ _ => noA b,
      fun b z => absurd z (noA b), e0.funs, e0.frf⟩,
    rfl, e0.bare, Un.kept kp, ⟨_, hns, fun i y v e1 e2 e3 => ?_⟩, fun y c e => ?_, e0.hok.fresh (Nat.le_refl _), fun y c e => ?_, fun q hq => absurd (show q ∈ ([] : List (Addr × Obj)) ++ [] from hq) (by simp), e0.hok.kept kp, I.len⟩
  · exact (show scope.names.lookup y = some .cell ∨ scope.names.lookup y = some .free from hy).elim (fun k => absurd k noC) look
  · exact nomatch (show false = true from z)
  · rcases (show Vis scope y from e3) with k | k | k
    · exact absurd (List.mem_of_getElem? (show X.N[i]? = some y from e1)) (L.own _ (PySem.mem_of_lookup k) rfl)
    · exact absurd k noC
    · obtain ⟨m, hn, hl⟩ := I.loc
      have hvis : Vis X.env.scope y := (L.free _ (PySem.mem_of_lookup k) rfl).elim (fun k => .inr (.inl k)) (fun k => .inr (.inr k))
      obtain ⟨w', r, q⟩ := hl i y v e1 e2 hvis
      obtain ⟨c2, h2⟩ := look k
      refine ⟨w', r, .inr ⟨.inr k, c2, h2, ?_⟩⟩
      have c1 := cm h2
      rcases q with ⟨k', _⟩ | ⟨_, c3, e', z⟩
      · have k' : X.env.scope.names.lookup y = some .local := k'
        rcases L.free _ (PySem.mem_of_lookup k) rfl with k2 | k2
        · have k2 : X.env.scope.names.lookup y = some .cell := k2
          rw [k2] at k'
          cases k'
        · have k2 : X.env.scope.names.lookup y = some .free := k2
          rw [k2] at k'
          cases k'
      · have e3 : c2 = c3 := Option.some.inj (c1.symm.trans e')
        rw [e3]
        rw [e3] at c1
        exact cellK (I.freeC y _ c1) z
  · obtain ⟨w', z⟩ := I.cell y c (cm e)
    exact ⟨w', cellK (I.freeC y c (cm e)) z⟩
  · obtain ⟨v, o, ho, hd⟩ := I.cell y c (cm e)
    exact un.free c o ho (I.freeC y c (cm e)) (by simp)
/-- a(), in the def that got the lambda -/
theorem pe_act3 {S : ASet} {CXg : CXT} {Eg : XK} {Ng : List Str} {qg : Str} {sg : Scope} {g : Addr} {cdg : Value} {params : Arguments} {body : Expr} {scope : Scope} {k i : Nat} {a : Str} {pn : List (Addr × Obj)} {xe : Value → Shared → Prop} {W : WX} {E : XK} {tb : TE} {p1 p2 : Pos}
    (I : Inv X pins σ H s) (L : LamL X.N X.env.scope scope) (hbind : LamB params body scope)
    (tk : Takes ((cxOf CXg X.prog X.w X.K X.mg X.base Ng qg sg g cdg X.A X.stack s H Eg).tr pn xe) W) (hW : ∀ cls d σ' H', E cls d H' → W cls d σ' H') (hr : Room (k + 1) (X.A.deeper (envOfC qg sg s.heap.objs.size g cdg)))
    (hbody : ∀ (A : Around) (outer : List Env) (s : Shared) (H : Hp) (f c' : Addr), Room k (A.deeper (lamEnv X scope s.heap.objs.size f c')) → PE (lamCx X A outer s H E scope f c') body tb)
    (hN : Ng[i]? = some a) (hv : Vis sg a) (hd : (a == ("__debug__" : Str)) = false := by decide) (hcd : (a == ("__classdict__" : Str)) = false := by decide) :
    PE ((cxOf CXg X.prog X.w X.K X.mg X.base Ng qg sg g cdg X.A X.stack s H Eg).tr pn xe) (.Call (.Name a p1) [] [] p2)
      (fun σZ HZ Q => ∃ v, σZ[i]? = some (some v) ∧ LamV S HZ v (lamOf X params body scope) ∧ tb σ HZ Q) := by
  refine ⟨fun pinsZ sZ σZ HZ Q IZ h => ?_⟩
  obtain ⟨v, hs, ⟨f, c', dV, ev, ⟨hf, _⟩, ⟨hc, _⟩, hD⟩, ht⟩ := h
  subst ev
  refine wpAny_Call_Name_kw (thn ((pe_var (pos := p1) (i := i) hN hv hd hcd).run pinsZ sZ σZ HZ (fun v H1 => v = .ref f ∧ H1 = HZ) IZ ⟨.ref f, hs, rfl, rfl⟩) fun u s1 ⟨v, H1, I1, r1, ev, eH⟩ => ?_)
  subst ev
  rw [eH] at I1
  obtain rfl : u = Value.ref f := r1
  obtain ⟨⟨pm, ctv, of1⟩, _, _⟩ := I1.hok f _ hf
  refine PySem.W.callWith_F0 ⟨_, _, _, _, of1⟩ ?_
  have un : Un (frs X.stack) [] H HZ s.heap s1.heap := I1.base
  obtain ⟨⟨oc, vs, t, hoc, hdc, hvc⟩, _, _⟩ := I1.hok c' _ hc
  have go : ∀ binds : List (Str × Value), (∀ y ∈ binds, scope.names.lookup y.1 = some .local) → wpAny (model X.prog X.w) (X.A.deeper (envOfC qg sg s.heap.objs.size g cdg)).in1 (newFunctionEnv scope mainGlobals (lamOf X params body scope).cl binds ((lamOf X params body scope).q ++ ".<locals>.") (some f) (.ref c') none builtinsNs)
      (fun env s₂ => s₂.heap.NoLimit ∧ codeAny (model X.prog X.w) (X.A.deeper (envOfC qg sg s.heap.objs.size g cdg)) (.expr body env) (CR (L2.CX X.prog X.w) (envOfC qg sg s.heap.objs.size g cdg :: X.stack) X.prog X.w HZ s1 Q E) s₂) (fun e s' => CR (L2.CX X.prog X.w) (envOfC qg sg s.heap.objs.size g cdg :: X.stack) X.prog X.w HZ s1 Q E (.error e) s') s1 := fun binds hloc => by
    refine wpAny_newFunctionEnv L.cell hloc (fun h₁ hns hsb => ⟨I1.nolimit.fresh _ hsb, ?_⟩) L.kind
    show codeAny _ _ (.expr body (lamEnv X scope s1.heap.objs.size f c')) _ _
    have kp : ∀ b o, s1.heap.get? b = some o → h₁.get? b = some o := fun b o e => hsb.extBut b o (Nat.ne_of_lt (Heap.lt_size e)) (Heap.get?_push_of_some _ e)
    have J : Inv (lamCx X (X.A.deeper (envOfC qg sg s.heap.objs.size g cdg)) (envOfC qg sg s.heap.objs.size g cdg :: X.stack) s1 HZ E scope f c') [] σ HZ { s1 with heap := h₁, toks := s1.toks + binds.length } :=
      lam_start3 I L I1.env0 hr.hd un hns kp
    refine PySem.W.kla_codeExpr (wpAny_mono ((hbody _ _ s1 HZ f c' (hr.deeper _)).run [] _ _ HZ Q J ht) (fun v s' hq => ?_) fun e s' hq => hq)
    obtain ⟨w', H', J', rv, q⟩ := hq
    exact ⟨w', H', J'.os, J'.bare, J'.base, J'.hok, rv, q⟩
  have rc : codeAny (model X.prog X.w) (X.A.deeper (envOfC qg sg s.heap.objs.size g cdg)) (.call (.ref f) ⟨[], []⟩) (CR (L2.CX X.prog X.w) (envOfC qg sg s.heap.objs.size g cdg :: X.stack) X.prog X.w HZ s1 Q E) s1 := by
    refine PySem.W.kla_callFunE hr.depth of1 rfl L.co L.gen rfl ⟨c', oc, vs, t, rfl, hoc, hdc, hvc⟩ ?_
    rcases hbind with ⟨hd0, hb⟩ | ⟨e, es, a', hd1, ha, hb⟩
    · have hD : LamD S HZ dV params.defaults := hD
      rw [hd0] at hD
      have hD : dV = .none := hD
      subst hD
      rw [hb]
      exact wpAny_pure (go [] fun y hy => absurd hy (by simp))
    · have hD : LamD S HZ dV params.defaults := hD
      rw [hd1] at hD
      obtain ⟨T, rfl, hT, _⟩ := hD
      obtain ⟨_, its, rv, o, ho, hoc, n, hod⟩ := (show ObjOk X.prog X.w HZ s1.heap T (.tup [.int 0]) from I1.hok T _ hT)
      obtain ⟨u, rfl, ru⟩ := vals1 rv
      obtain ⟨k, e1, e2⟩ := hb (lamOf X params body scope).q (lamOf X params body scope).cl T c' pm ctv u
      rw [e1]
      refine wpAny_bind (wpAny_seqItems ho hod ?_)
      rw [e2]
      exact wpAny_pure (go [(a', u)] fun y hy => by rw [List.mem_singleton.mp hy]; exact ha)
  have hx : Passes (L2.CX X.prog X.w) ((cxOf CXg X.prog X.w X.K X.mg X.base Ng qg sg g cdg X.A X.stack s H Eg).tr pn xe) E := passes_call tk hW
  refine wpAny_call (codeAny_mono rc fun r s' hq => ?_)
  cases r with
  | error e => exact hx pinsZ σZ HZ s1 e s' I1 hq
  | ok fl =>
    cases fl with
    | ret u => exact I1.after hq
    | next => exact False.elim hq
    | brk => exact False.elim hq
    | cont => exact False.elim hq
end
end SB

/-! _law_wrong. -/
namespace SB
open PySem PySem.Spec PyProof.Rows L2 LamX
section
variable {X : Cx}
/-- l.count(x), all flat -/
def rCntV (K : Frag) : V → List V → Hp → VK → Prop := fun x xs H Q => ∃ (p : Addr) (ys : List V) (y : V), x = .ref p ∧ xs = [y] ∧ SqL K H p ys ∧ flatV y = true ∧ ys.all flatV = true ∧ Q (.int ((ys.countP fun z => eqV z y) : Nat)) H
theorem cnt_vals {y : V} : ∀ {ys : List V} {us : List Value}, Vals ys us → ys.all flatV = true → us.countP (eqU y) = ys.countP fun z => eqV z y
  | _, _, .nil, _ => rfl
  | z :: ys, u :: us, .cons r t, f => by
    rw [List.all_cons, Bool.and_eq_true] at f
    rw [List.countP_cons, List.countP_cons, cnt_vals t f.2, eqU_of r f.1]
theorem mt_cntV : MtR X "list.count" (rCntV X.K) := by
  intro pins s σ H x xs v us Q I rx rxs h
  obtain ⟨p, ys, y, rfl, rfl, hs, fy, fys, q⟩ := h
  cases rx
  obtain ⟨u, rfl, ru⟩ := rxs.one
  obtain ⟨its, rv, ⟨⟨cls, dd, data, sl⟩, n, ho, hc, hdn, hd⟩, hlen⟩ := I.list hs
  have hc : cls = .type "list" := hc
  have hd : data = .seq its.toArray n := hd
  subst hc hd
  refine call_meets PySem.F.slot_list_count ⟨_, ho, rfl⟩ PySem.F.entry_list_count (PySem.F.args_list_count_2 _ _)
    (SeqAt.list_countAt p its.toArray n dd sl u (eqU y)) ⟨ho, fun z hz => mem_eqAt ru fy rv fys z (by simpa using hz), ?_⟩
  have ec : its.toArray.toList.countP (eqU y) = ys.countP fun z => eqV z y := by
    have e0 : its.toArray.toList = its := by simp
    rw [e0]
    exact cnt_vals rv fys
  refine ⟨.int ((ys.countP fun z => eqV z y) : Nat), H, I.tok _, ⟨s.toks, ?_⟩, q⟩
  rw [ec]
end
section
variable {X : Cx} {W : Wd} {Γ : Gm} {a b c o e : Expr} {pos p apos p1 p2 : Pos} {ds : List PyData}
theorem bools_flat (bs : List Bool) : (bs.map V.bl).all flatV = true := by
  rw [List.all_map]
  exact List.all_eq_true.mpr fun _ _ => rfl
/-- l.count(True) -/
theorem xe_countT {bs : List Bool} {j : Nat} (ho : XE X W Γ o (Is (.list (bs.map .bool))))
    (hbase : attributeBase o "count" X.env (eval o X.env) = eval o X.env := by rfl)
    (hfew : ((backTo pos (starEach [.Constant (.bool true) j p1] X.env)).all (fun x => !x.1) && (backToKw pos (keywordEach [] X.env)).all (fun x => x.1.isSome)
      && decide ([Expr.Constant (.bool true) j p1].length + ([] : List Keyword).length + (if ([] : List Keyword).isEmpty then 0 else 1) < 30)) = true := by rfl)
    (hline : (apos.endLine == pos.line) = true := by rfl) (hs : starEach [.Constant (.bool true) j p1] X.env = (false, eval (.Constant (.bool true) j p1) X.env) :: starEach [] X.env := by rfl) (hplain : (backTo pos (starEach [] X.env)).any (·.1) = false := by rfl) :
    XE X W Γ (.Call (.Attribute o "count" apos) [.Constant (.bool true) j p1] [] pos) (Is (.int ((bs.countP fun z => z == true) : Nat))) :=
  pe_imp (pe_bm PySem.F.plainAttrs_list PySem.F.slot_list_count PySem.F.type_list_count mt_cntV ho (pa_cons xe_bl pa_nil hs) hbase hfew hline hs hplain) fun σ H Q ⟨T, R⟩ => ⟨T, fun v x Ha px rx ea ja => by
    subst px
    cases rx with
    | lst pt w =>
      have ev := dwa_bools w
      subst ev
      refine ⟨Or.inl ⟨rfl, _, pt.sq⟩, T.mono ea ja, fun u y Hb py ry eb jb => ?_⟩
      subst py
      cases ry
      refine ⟨_, bs.map V.bl, .bl true, rfl, rfl, .inl (.inl (eb _ _ pt.2 pt.1)), rfl, bools_flat bs, ?_⟩
      have e0 : ((bs.map V.bl).countP fun z => eqV z (.bl true)) = bs.countP fun z => z == true := by
        rw [List.countP_map]
        rfl
      rw [e0]
      exact R _ _ Hb rfl (Dw.int _) (ea.trans eb) jb⟩
/-- l.index(True) -/
theorem xe_indexT {bs : List Bool} {j k : Nat} (hk : bs[k]? = some true) (hno : ∀ m < k, bs[m]? = some false) (ho : XE X W Γ o (Is (.list (bs.map .bool))))
    (hbase : attributeBase o "index" X.env (eval o X.env) = eval o X.env := by rfl)
    (hfew : ((backTo pos (starEach [.Constant (.bool true) j p1] X.env)).all (fun x => !x.1) && (backToKw pos (keywordEach [] X.env)).all (fun x => x.1.isSome)
      && decide ([Expr.Constant (.bool true) j p1].length + ([] : List Keyword).length + (if ([] : List Keyword).isEmpty then 0 else 1) < 30)) = true := by rfl)
    (hline : (apos.endLine == pos.line) = true := by rfl) (hs : starEach [.Constant (.bool true) j p1] X.env = (false, eval (.Constant (.bool true) j p1) X.env) :: starEach [] X.env := by rfl) (hplain : (backTo pos (starEach [] X.env)).any (·.1) = false := by rfl) :
    XE X W Γ (.Call (.Attribute o "index" apos) [.Constant (.bool true) j p1] [] pos) (Is (.int (k : Int))) :=
  pe_imp (pe_bm PySem.F.plainAttrs_list PySem.F.slot_list_index PySem.F.type_list_index mt_index ho (pa_cons xe_bl pa_nil hs) hbase hfew hline hs hplain) fun σ H Q ⟨T, R⟩ => ⟨T, fun v x Ha px rx ea ja => by
    subst px
    cases rx with
    | lst pt w =>
      have ev := dwa_bools w
      subst ev
      refine ⟨Or.inl ⟨rfl, _, pt.sq⟩, T.mono ea ja, fun u y Hb py ry eb jb => ?_⟩
      subst py
      cases ry
      refine ⟨_, bs.map V.bl, .bl true, k, .bl true, rfl, rfl, .inl (.inl (eb _ _ pt.2 pt.1)), rfl, bools_flat bs, ?_, rfl, fun m z hm hz => ?_, R _ _ Hb rfl (Dw.int _) (ea.trans eb) jb⟩
      · rw [List.getElem?_map, hk]
        rfl
      · rw [List.getElem?_map, hno m hm] at hz
        cases hz
        rfl⟩
/-- a class of the module -/
theorem xe_cls {x : Str} {D : Addr} (hm : X.mg x = some (.ref D)) (hg : Gl X x := by rfl) (hdb : (x == ("__debug__" : Str)) = false := by decide) : XE X W Γ (.Name x pos) (fun y => y = .o D) :=
  pe_imp (pe_glob (v := .ref D) hg hm rfl hdb) fun σ H Q ⟨T, R⟩ => R (.ref D) (.o D) H rfl rfl (Er.refl H) T.j
end
section
variable {X : Cx} {W : Wd} {Γ : Gm} {pos p p1 p2 : Pos} {a C : Addr} {oe : Obj} {pn : List (Addr × Obj)} {x en : Str} {D : Addr} {b : Bool} {i : Nat}
/-- isinstance(e, D) behind except .. as e -/
theorem xe_isE (EC : ExcC X.K C) (hz : Zc (.ref C) none oe) (hf : ∃ vs, oe.data = .fields vs) (hk : PySem.W.kitOne X.K (.ref C) (.ref D) = some b) (hm : X.mg x = some (.ref D)) (mi : X.mg "isinstance" = none) (he : XE (X.suite a ((a, oe) :: pn)) W Γ (.Name en p1) (fun y => y = .o a))
    (g1 : Gl (X.suite a ((a, oe) :: pn)) "isinstance" := by rfl) (g2 : Gl (X.suite a ((a, oe) :: pn)) x := by rfl) (hdb : (x == ("__debug__" : Str)) = false := by decide)
    (hs1 : starEach [.Name en p1, .Name x p2] (X.suite a ((a, oe) :: pn)).env = (false, eval (.Name en p1) (X.suite a ((a, oe) :: pn)).env) :: starEach [.Name x p2] (X.suite a ((a, oe) :: pn)).env := by rfl) (hs2 : starEach [.Name x p2] (X.suite a ((a, oe) :: pn)).env = (false, eval (.Name x p2) (X.suite a ((a, oe) :: pn)).env) :: starEach [] (X.suite a ((a, oe) :: pn)).env := by rfl)
    (hpl : (backTo pos (starEach [.Name x p2] (X.suite a ((a, oe) :: pn)).env)).any (·.1) = false := by rfl) : XE (X.suite a ((a, oe) :: pn)) W Γ (.Call (.Name "isinstance" p) [.Name en p1, .Name x p2] [] pos) (Is (.bool b)) := by
  refine xe_callB (Ps := fun xs => xs = [.o a, .o D]) (call_isE EC hz hf) (fun xs vs H Q ps rs jj R => ?_) mi (by decide +kernel) ((xa_cons he (xa_cons (xe_cls hm g2 hdb) xa_nil hs2) hs1).imp fun xs ⟨x, r, e1, e2, y, r', e3, e4, e5⟩ => by rw [e1, e2, e3, e4, e5]) g1 (by decide) (by decide) hs1 hpl
  subst ps
  cases rs with
  | cons r1 rs =>
    cases rs with
    | cons r2 rs =>
      cases rs
      have r1 : _ = V.ref a := r1
      have r2 : _ = V.ref D := r2
      subst r1 r2
      exact ⟨.ref D, .ref D, b, rfl, fun u r => r, hk, R _ _ H rfl (Dw.bl _) (Er.refl H) jj⟩
end
/-- what an exception of the class C gives -/
structure WrongC (K : Frag) (mg : Str → Option Value) (C : Addr) (k : Nat) : Prop where
  base : ∃ B, mg "BeltError" = some (.ref B) ∧ PySem.W.exmOne K (.ref C) (.ref B) = some true
  ec : ExcC K C
  g1 : ∃ D, mg "BadDesign" = some (.ref D) ∧ PySem.W.kitOne K (.ref C) (.ref D) = some (k == 0)
  g2 : ∃ D, mg "BadWaits" = some (.ref D) ∧ PySem.W.kitOne K (.ref C) (.ref D) = some (k == 1)
  g3 : ∃ D, mg "BadPaths" = some (.ref D) ∧ PySem.W.kitOne K (.ref C) (.ref D) = some (k == 2)
  lt : k < 3
def set1 (σ : L2.St) (a : Addr) : L2.St := σ.set 1 (some (.ref a))
def retS (k : Nat) : Str := (["design", "waits", "paths"] : List Str).getD k ""
abbrev nWrong : List Str := ["_law_work", "e", "_law_known"]
theorem sc_wrong : FnScope nWrong ["_law_work"] (defScope sWrong) := ⟨rfl, rfl, rfl, by decide +kernel, rfl, by decide +kernel, by decide +kernel⟩
section
variable {P : Program} {w : World} {K : Frag} {mg : Str → Option Value} {base : Heap} {g C : Addr} {cdg : Value} {A : Around} {outer : List Env} {s : Shared} {H : Hp} {W : Wd} {L : LD} {k : Nat} {TL : Hp → Prop} {v : V} {Q : VK}
abbrev cxW (P : Program) (w : World) (K : Frag) (mg : Str → Option Value) (base : Heap) (g : Addr) (cdg : Value) (A : Around) (outer : List Env) (s : Shared) (H : Hp) : Cx := (cxOf C8.CX0 P w K mg base nWrong "_law_wrong" (defScope sWrong) g cdg A outer s H C8.E0).nox
theorem wrong_suite (B : Blt mg) (WC : WrongC K mg C k) (R : Ret K W H (Is (.str (retS k))) Q) {a : Addr} {oe : Obj} {pn : List (Addr × Obj)} (hz : Zc (.ref C) none oe) (hf : ∃ vs, oe.data = .fields vs) {D : Ends} (hD : D.rt = Q) {Pre : L2.St → Hp → Prop} (hp : ∀ σ H', Pre σ H' → Tp K (W.from H) [none, some (.o a), none] σ H') :
    HS ((cxW P w K mg base g cdg A outer s H).suite a ((a, oe) :: pn)) Pre (match defBody sWrong with | .Try _ [.ExceptHandler _ _ st _] _ _ _ :: _ => st | _ => []) D := by
  refine HS.pre (Pre := Tp K (W.from H) [none, some (.o a), none]) ?_ hp
  obtain ⟨D1, m1, k1⟩ := WC.g1
  obtain ⟨D2, m2, k2⟩ := WC.g2
  obtain ⟨D3, m3, k3⟩ := WC.g3
  refine hs_set (i := 2) (P := Is (.list [.bool (k == 0), .bool (k == 1), .bool (k == 2)])) ?_ (fun y hy => ?_) sc_wrong.nd
  · exact xe_lst (xac (xe_isE WC.ec hz hf k1 m1 B.isi (xv 1)) (xac (xe_isE WC.ec hz hf k2 m2 B.isi (xv 1)) (xac (xe_isE WC.ec hz hf k3 m3 B.isi (xv 1)) xa0)))
  subst hy
  have hb : ∀ b : List Bool, b = [k == 0, k == 1, k == 2] → b.countP (fun z => z == true) = 1 ∧ b[k]? = some true ∧ (∀ m < k, b[m]? = some false) := by
    intro b e
    subst e
    match k, WC.lt with
    | 0, _ => exact ⟨rfl, rfl, fun m hm => absurd hm (Nat.not_lt_zero m)⟩
    | 1, _ => exact ⟨rfl, rfl, fun m hm => by
        obtain rfl : m = 0 := by omega
        rfl⟩
    | 2, _ => exact ⟨rfl, rfl, fun m hm => by
        match m, hm with
        | 0, _ => rfl
        | 1, _ => rfl⟩
  obtain ⟨c1, c2, c3⟩ := hb _ rfl
  have lst : XE ((cxW P w K mg base g cdg A outer s H).suite a ((a, oe) :: pn)) (W.from H) ([none, some (.o a), some (.d (.list [.bool (k == 0), .bool (k == 1), .bool (k == 2)]))] : Gm) (.Name "_law_known" ⟨205, 71, 205, 81⟩) (Is (.list ([k == 0, k == 1, k == 2].map .bool))) := xv 2
  have lst2 : XE ((cxW P w K mg base g cdg A outer s H).suite a ((a, oe) :: pn)) (W.from H) ([none, some (.o a), some (.d (.list [.bool (k == 0), .bool (k == 1), .bool (k == 2)]))] : Gm) (.Name "_law_known" ⟨205, 44, 205, 54⟩) (Is (.list ([k == 0, k == 1, k == 2].map .bool))) := xv 2
  refine hs_ret (P := Is (.str (retS k))) (xe_ifx (x := true) ?_ (fun _ => ?_) (fun z => nomatch z)) ?_
  · refine XT.is (xt_cmp op_eq rr_eqI (xe_countT lst) xe_int) ?_
    rw [c1]
    rfl
  · refine xe_ix ix_list (rr_ixL (ds := strsOf ["design", "waits", "paths"]) (ix_nat (k := k) ?_)) (xe_lst (xac xe_str (xac xe_str (xac xe_str xa0)))) (xe_indexT c2 c3 lst2)
    match k, WC.lt with
    | 0, _ => rfl
    | 1, _ => rfl
    | 2, _ => rfl
  · intro v x H' px rx j
    rw [hD]
    exact R v x H' px rx j.2 j.1
theorem wrong_gives (B : Blt mg) (WC : WrongC K mg C k) (j : W.J H) (hTL : TL H) (hv : LamV W.S H v L) (R : Ret K W H (Is (.str (retS k))) Q)
    (act : ∀ (Wx : WX) (pn : List (Addr × Obj)) (xe : Value → Shared → Prop) (E : XK) (p1 p2 : Pos), Takes ((cxOf C8.CX0 P w K mg base nWrong "_law_wrong" (defScope sWrong) g cdg A outer s H C8.E0).tr pn xe) Wx → (∀ cls d σ' H', E cls d H' → Wx cls d σ' H') →
      PE ((cxOf C8.CX0 P w K mg base nWrong "_law_wrong" (defScope sWrong) g cdg A outer s H C8.E0).tr pn xe) (.Call (.Name "_law_work" p1) [] [] p2) (fun σZ HZ Q => ∃ v', σZ[0]? = some (some v') ∧ LamV W.S HZ v' L ∧ TL HZ ∧ ∀ H2, Er W.S HZ H2 → W.J H2 → E (.ref C) none H2)) :
    ∃ t, PSs (cxW P w K mg base g cdg A outer s H) (defBody sWrong) t ∧ t { nx := fun _ H' => Q .non H', rt := Q } (L2.start nWrong [v]) H := by
  obtain ⟨CB, gB, xB⟩ := WC.base
  refine ⟨_, pss_cons (ps_try_as (X := cxW P w K mg base g cdg A outer s H) (x := "BeltError") (n := "e") (i := 1) (c := .ref CB)
      (tb := fun Wx D σ H0 => ∃ Ech : XK, (∀ cls d σ' H', Ech cls d H' → Wx cls d σ' H') ∧ ∃ v', σ[0]? = some (some v') ∧ LamV W.S H0 v' L ∧ TL H0 ∧ ∀ H2, Er W.S H0 H2 → W.J H2 → Ech (.ref C) none H2)
      (ts := fun a cls d D σ H0 => cls = .ref C ∧ d = none ∧ D.rt = Q ∧ (∃ σ0, σ = set1 σ0 a) ∧ W.J H0 ∧ Er W.S H H0) (Wout := fun _ _ _ _ => False)
      rfl rfl sc_wrong.nd rfl rfl ⟨rfl, by decide, Or.inl gB⟩ LamX.takes0 (fun Wx pn xe tk _ => ?_) (fun a oe cls d pn hz hf => ?_)) (pss_one (ps_ret pe_str)), ?_⟩
  · refine ⟨fun pins s' σ H' D I h' => ?_⟩
    obtain ⟨Ech, hW, h1⟩ := h'
    have hp := act Wx pn xe Ech ⟨202, 8, 202, 17⟩ ⟨202, 8, 202, 19⟩ tk hW
    exact (pss_one (ps_expr (pos := ⟨202, 8, 202, 19⟩) hp)).run pins s' σ H' D I h1
  · refine ⟨fun pins s' σ H' D I h' => ?_⟩
    obtain ⟨ec, ed, hD, ⟨σ0, eσ⟩, j', e'⟩ := h'
    subst ec ed
    exact (wrong_suite B WC R hz hf hD (Pre := fun σ' H2 => σ' = σ ∧ H2 = H') (fun σ' H2 ⟨e1, e2⟩ => by
      subst e1 e2
      have hlen : σ0.length = 3 := by
        have h3 : σ'.length = 3 := I.len
        rw [eσ] at h3
        rw [← h3]
        exact (List.length_set ..).symm
      refine ⟨⟨j', e'⟩, by rw [eσ]; exact (List.length_set ..).trans hlen, fun i x h => ?_⟩
      match i, h with
      | 0, h => cases h
      | 1, h =>
        cases h
        exact ⟨.ref a, by rw [eσ]; simp [set1, hlen], rfl⟩
      | 2, h => cases h
      | _ + 3, h => simp at h)).run pins s' σ H' I ⟨rfl, rfl⟩
  · refine ⟨fun cls d H2 => cls = .ref C ∧ d = none ∧ Er W.S H H2 ∧ W.J H2, fun cls d σ' H' ⟨e1, e2, e3, e4⟩ => ?_, v, rfl, hv, hTL, fun H2 e2 j2 => ⟨rfl, rfl, e2, j2⟩⟩
    subst e1 e2
    exact ⟨true, xB, fun _ a _ => ⟨rfl, rfl, rfl, ⟨σ', rfl⟩, e4, e3⟩, fun z => nomatch z⟩
end
end SB

/-! Plain facts of the law. -/
namespace SB
open PySem PySem.Spec PyProof.Rows L2 LamX
/-! ### shaped -/
def OkD (n : Nat) (d : PyData) : Prop := PyData.canLay0 d = true ∧ d.depth ≤ n
def OkDs (n : Nat) (ds : List PyData) : Prop := ∀ d ∈ ds, OkD n d
theorem OkD.mono {n m : Nat} {d : PyData} (h : OkD n d) (l : n ≤ m) : OkD m d := ⟨h.1, Nat.le_trans h.2 l⟩
theorem OkD.sh {n : Nat} {d : PyData} (h : OkD n d) (l : n ≤ 64) : SeqAt.shaped d = true := by
  unfold SeqAt.shaped
  rw [h.1, decide_eq_true (Nat.le_trans h.2 l)]
  rfl
theorem OkDs.lay {n : Nat} : ∀ {ds : List PyData}, OkDs n ds → PyData.canLayAll0 ds = true
  | [], _ => rfl
  | d :: ds, h => by
    show (PyData.canLay0 d && PyData.canLayAll0 ds) = true
    rw [(h d List.mem_cons_self).1, OkDs.lay (n := n) fun e he => h e (List.mem_cons_of_mem _ he)]
    rfl
theorem OkDs.dep {n : Nat} : ∀ {ds : List PyData}, OkDs n ds → PyData.depthAll ds ≤ n
  | [], _ => Nat.zero_le _
  | d :: ds, h => Nat.max_le.mpr ⟨(h d List.mem_cons_self).2, OkDs.dep fun e he => h e (List.mem_cons_of_mem _ he)⟩
theorem OkD.tup {n : Nat} {ds : List PyData} (h : OkDs n ds) : OkD (n + 1) (.tuple ds) := ⟨h.lay, Nat.succ_le_succ h.dep⟩
theorem OkD.lst {n : Nat} {ds : List PyData} (h : OkDs n ds) : OkD (n + 1) (.list ds) := ⟨h.lay, Nat.succ_le_succ h.dep⟩
theorem OkD.int {n : Nat} {i : Int} : OkD n (.int i) := ⟨rfl, Nat.zero_le _⟩
theorem OkD.bool {n : Nat} {i : Bool} : OkD n (.bool i) := ⟨rfl, Nat.zero_le _⟩
theorem OkD.non {n : Nat} : OkD n .none := ⟨rfl, Nat.zero_le _⟩
theorem OkDs.nil {n : Nat} : OkDs n [] := fun _ h => absurd h (by simp)
theorem OkDs.cons {n : Nat} {d : PyData} {ds : List PyData} (h : OkD n d) (h' : OkDs n ds) : OkDs n (d :: ds) := fun e he => by
  rcases List.mem_cons.mp he with e1 | he
  · rw [e1]
    exact h
  · exact h' e he
theorem OkDs.app {n : Nat} {ds es : List PyData} (h : OkDs n ds) (h' : OkDs n es) : OkDs n (ds ++ es) := fun e he => (List.mem_append.mp he).elim (h e) (h' e)
theorem OkDs.sub {n : Nat} {ds es : List PyData} (h : OkDs n ds) (h' : ∀ e ∈ es, e ∈ ds) : OkDs n es := fun e he => h e (h' e he)
/-! ### the texts of an entry -/
theorem inS_ok {zs : List Str} {z : Str} (hz : zs.all PyData.strOk = true) (h : inS zs z = true) : PyData.strOk z = true := by
  obtain ⟨y, hy, e⟩ := List.any_eq_true.mp h
  have e' : y = z := eq_of_beq e
  rw [← e']
  exact List.all_eq_true.mp hz y hy
theorem eqS_ok {a b : Str} (hz : PyData.strOk b = true) (h : eqS a b = true) : PyData.strOk a = true := by
  have e : a = b := eq_of_beq h
  rw [e]
  exact hz
theorem eqv_tup2 {a b c d : Str} (h : PyData.eqv (tup2 a b) (tup2 c d) = true) : a = c ∧ b = d := by
  have h' : ((a == c) && ((b == d) && true)) = true := h
  rw [Bool.and_true, Bool.and_eq_true] at h'
  exact ⟨eq_of_beq h'.1, eq_of_beq h'.2⟩
theorem inD_ok {zs : List PyData} {s q : Str} (hz : ∀ z ∈ zs, ∃ a b, z = tup2 a b ∧ PyData.strOk a = true ∧ PyData.strOk b = true) (h : inD zs (tup2 s q) = true) : PyData.strOk s = true ∧ PyData.strOk q = true := by
  obtain ⟨y, hy, e⟩ := List.any_eq_true.mp h
  obtain ⟨a, b, rfl, h1, h2⟩ := hz y hy
  obtain ⟨e1, e2⟩ := eqv_tup2 e
  rw [← e1, ← e2]
  exact ⟨h1, h2⟩
theorem mem_mem {z : PyData} (h : z ∈ memL) : ∃ a b, z = tup2 a b ∧ PyData.strOk a = true ∧ PyData.strOk b = true := by
  have h' : z = tup2 "store" "load" ∨ z = tup2 "load" "store" := by simpa [memL] using h
  rcases h' with e | e <;> exact ⟨_, _, e, by decide +kernel, by decide +kernel⟩
theorem mem_users {z : PyData} (h : z ∈ usersL) : ∃ a b, z = tup2 a b ∧ PyData.strOk a = true ∧ PyData.strOk b = true := by
  have h' : z = tup2 "sum" "a" ∨ z = tup2 "mul" "a" ∨ z = tup2 "load" "a" ∨ z = tup2 "store" "a" ∨ z = tup2 "store" "b" ∨ z = tup2 "zero" "a" ∨ z = tup2 "out" "a" := by
    simpa [usersL] using h
  rcases h' with e | e | e | e | e | e | e <;> exact ⟨_, _, e, by decide +kernel, by decide +kernel⟩
theorem OkD.str {n : Nat} {x : Str} (h : PyData.strOk x = true) : OkD n (.str x) := ⟨h, Nat.zero_le _⟩
theorem EntK.ok {ks : List Key} (h : EntK ks) : OkD 1 (.tuple (ks.map keyD)) := by
  have h0 : isEntryD (.tuple (ks.map keyD)) = true := h
  rcases h.keys with ⟨f, s, i, r, n, rfl⟩ | ⟨f, s, q, i, rfl⟩
  · have h1 : (isInD (.int i) 1 7 && entry4 r f s) = true := h0
    rw [Bool.and_eq_true] at h1
    have h2 := h1.2
    unfold entry4 at h2
    have key : PyData.strOk r = true ∧ PyData.strOk f = true ∧ PyData.strOk s = true := by
      by_cases q : eqS r "order" = true
      · rw [if_pos q, Bool.and_eq_true] at h2
        exact ⟨eqS_ok (by decide +kernel) q, inS_ok (by decide +kernel) h2.1, inS_ok (by decide +kernel) h2.2⟩
      · rw [if_neg q] at h2
        by_cases q2 : eqS r "memory" = true
        · rw [if_pos q2] at h2
          exact ⟨eqS_ok (by decide +kernel) q2, inD_ok (fun z => mem_mem) h2⟩
        · rw [if_neg q2, Bool.and_eq_true, Bool.and_eq_true] at h2
          exact ⟨eqS_ok (by decide +kernel) h2.1, inS_ok (by decide +kernel) h2.2.1, inS_ok (by decide +kernel) h2.2.2⟩
    exact .tup (.cons (.str key.1) (.cons (.str key.2.1) (.cons (.str key.2.2) (.cons .int .nil))))
  · have h1 : (isInD (.int i) 1 7 && (eqS "value" "value" && (inS writingL f && inD usersL (tup2 s q)))) = true := h0
    rw [Bool.and_eq_true, Bool.and_eq_true, Bool.and_eq_true] at h1
    have k2 := inD_ok (fun z => mem_users) h1.2.2.2
    exact .tup (.cons (.str (by decide +kernel)) (.cons (.str (inS_ok (by decide +kernel) h1.2.2.1)) (.cons (.str k2.1) (.cons (.str k2.2) (.cons .int .nil)))))
theorem PathK.ok {ks : List Key} (h : PathK ks) : OkD 1 (.tuple (ks.map keyD)) := by
  obtain ⟨a, b, rfl, _⟩ := h
  exact .tup (.cons .int (.cons .int .nil))
theorem tups_ok {lss : List (List Key)} (h : ∀ ks ∈ lss, OkD 1 (.tuple (ks.map keyD))) : OkD 2 (.tuple (tupsD lss)) := .tup fun d hd => by
  obtain ⟨ks, hk, rfl⟩ := List.mem_map.mp hd
  exact h ks hk
theorem WaitsOk.ok {lss : List (List Key)} (h : WaitsOk lss) : OkD 2 (.tuple (tupsD lss)) := tups_ok fun ks hk => (h.all ks hk).ok
theorem PathsOk.ok {lss : List (List Key)} (h : PathsOk lss) : OkD 2 (.tuple (tupsD lss)) := tups_ok fun ks hk => (h.all ks hk).ok
/-! ### rises -/
theorem rises_of {lss : List (List Key)} (h : lss.Pairwise fun x y => lexK x y = true) : risesD (.tuple (tupsD lss)) = true := by
  refine List.all_eq_true.mpr fun i hi => ?_
  have hi' := List.mem_range.mp hi
  have hl : lenD (.tuple (tupsD lss)) = (lss.length : Int) := by
    show (((tupsD lss).length : Nat) : Int) = _
    rw [List.length_map]
  rw [hl] at hi'
  have h1 : i < lss.length := by omega
  have h2 : i + 1 < lss.length := by omega
  have it : ∀ j (hj : j < lss.length), keysOf (itemD (.tuple (tupsD lss)) j) = lss[j] := fun j hj => by
    show keysOf ((tupsD lss).getD j .none) = _
    rw [List.getD_eq_getElem?_getD, List.getElem?_map, List.getElem?_eq_getElem hj]
    exact keysOf_keys _
  rw [it i h1, it (i + 1) h2]
  exact List.pairwise_iff_getElem.mp h i (i + 1) h1 h2 (Nat.lt_succ_self i)
theorem path_is {ks : List Key} (h : PathK ks) : isPathD (.tuple (ks.map keyD)) = true := by
  obtain ⟨a, b, rfl, h1, h2, h3⟩ := h
  show (isListD (.tuple [.int a, .int b]) 2 2 && (isPlaceD (.int a) && (isPlaceD (.int b) && decide (b < a)))) = true
  rw [place_in (i := a) ⟨by omega, h3⟩, place_in (i := b) ⟨h1, by omega⟩, decide_eq_true h2]
  rfl
theorem PathsOk.is {lss : List (List Key)} (h : PathsOk lss) : arePathsD (.tuple (tupsD lss)) = true := by
  show (true && ((tupsD lss).all isPathD && risesD (.tuple (tupsD lss)))) = true
  rw [rises_of h.rise, Bool.true_and, Bool.and_true]
  exact List.all_eq_true.mpr fun d hd => by
    obtain ⟨ks, hk, rfl⟩ := List.mem_map.mp hd
    exact path_is (h.all ks hk)
theorem WaitsOk.is {lss : List (List Key)} (h : WaitsOk lss) : areWaitsD (.tuple (tupsD lss)) = true := by
  show (true && ((tupsD lss).all isEntryD && risesD (.tuple (tupsD lss)))) = true
  rw [rises_of h.rise, Bool.true_and, Bool.and_true]
  exact List.all_eq_true.mpr fun d hd => by
    obtain ⟨ks, hk, rfl⟩ := List.mem_map.mp hd
    exact h.all ks hk
/-! ### places with one moved -/
theorem okPl_iff {k : Nat} {es : List PyData} : okPl k (.tuple es) = true ↔ (es.length : Int) = manyN k ∧ ∀ e ∈ es, isPlaceD e = true := by
  show ((true && (decide (manyN k ≤ (es.length : Int)) && decide ((es.length : Int) ≤ manyN k))) && es.all isPlaceD) = true ↔ _
  rw [Bool.true_and, Bool.and_eq_true, Bool.and_eq_true, decide_eq_true_eq, decide_eq_true_eq, List.all_eq_true]
  constructor
  · rintro ⟨⟨h1, h2⟩, h3⟩
    exact ⟨by omega, h3⟩
  · rintro ⟨h1, h3⟩
    exact ⟨⟨by omega, by omega⟩, h3⟩
theorem shape_iff {ds : List PyData} : shapeD (.tuple ds) = true ↔ ds.length = 8 ∧ ∀ k < 8, okPl k (ds.getD k .none) = true := by
  show ((true && (decide ((8 : Int) ≤ (ds.length : Int)) && decide ((ds.length : Int) ≤ 8))) && (List.range 8).all fun k => okPl k (ds.getD k .none)) = true ↔ _
  rw [Bool.true_and, Bool.and_eq_true, Bool.and_eq_true, decide_eq_true_eq, decide_eq_true_eq, List.all_eq_true]
  constructor
  · rintro ⟨⟨h1, h2⟩, h3⟩
    exact ⟨by omega, fun k hk => h3 k (List.mem_range.mpr hk)⟩
  · rintro ⟨h1, h3⟩
    exact ⟨⟨by omega, by omega⟩, fun k hk => h3 k (List.mem_range.mp hk)⟩
theorem okPl_tup {k : Nat} {d : PyData} (h : okPl k d = true) : ∃ es, d = .tuple es := by
  unfold okPl at h
  rw [Bool.and_eq_true] at h
  have h1 : (isiTup d && _) = true := h.1
  rw [Bool.and_eq_true] at h1
  exact isiTup_tup h1.1
theorem move_in {k j : Nat} {es : List PyData} {t : Int} (h : okPl k (.tuple es) = true) (hj : j < es.length) (ht : 0 ≤ t ∧ t ≤ 7) : okPl k (.tuple (es.take j ++ [.int t] ++ es.drop (j + 1))) = true := by
  rw [okPl_iff] at h ⊢
  refine ⟨?_, fun e he => ?_⟩
  · rw [← h.1, List.length_append, List.length_append, List.length_take, List.length_drop]
    show ((min j es.length + 1 + (es.length - (j + 1)) : Nat) : Int) = _
    omega
  · rcases List.mem_append.mp he with he | he
    · rcases List.mem_append.mp he with he | he
      · exact h.2 e (List.mem_of_mem_take he)
      · rw [List.mem_singleton.mp he]
        exact place_in ht
    · exact h.2 e (List.mem_of_mem_drop he)
theorem place_at {ds : List PyData} {k k' : Nat} {m : PyData} (hk : k < ds.length) : (ds.take k ++ [m] ++ ds.drop (k + 1)).getD k' .none = if k' = k then m else ds.getD k' .none := by
  have e : ds.take k ++ [m] ++ ds.drop (k + 1) = ds.set k m := by
    rw [List.set_eq_take_append_cons_drop, if_pos hk, List.append_assoc]
    rfl
  rw [e, List.getD_eq_getElem?_getD, List.getD_eq_getElem?_getD, List.getElem?_set]
  by_cases q : k' = k
  · subst q
    rw [if_pos rfl, if_pos rfl, if_pos hk]
    rfl
  · rw [if_neg (Ne.symm q), if_neg q]
theorem shape_move {ds : List PyData} {k : Nat} {m : PyData} (h : shapeD (.tuple ds) = true) (hk : k < 8) (hm : okPl k m = true) : shapeD (.tuple (ds.take k ++ [m] ++ ds.drop (k + 1))) = true := by
  rw [shape_iff] at h ⊢
  have hk' : k < ds.length := by omega
  refine ⟨?_, fun k' hk2 => ?_⟩
  · rw [List.length_append, List.length_append, List.length_take, List.length_drop]
    show min k ds.length + 1 + (ds.length - (k + 1)) = 8
    omega
  · rw [place_at hk']
    split
    · rename_i e
      rw [e]
      exact hm
    · exact h.2 k' hk2
theorem okPl_ok {k : Nat} {d : PyData} (h : okPl k d = true) : OkD 1 d := by
  obtain ⟨es, rfl⟩ := okPl_tup h
  rw [okPl_iff] at h
  exact .tup fun e he => by
    obtain ⟨i, rfl, _⟩ := isPlaceD_int (h.2 e he)
    exact .int
theorem shape_ok {ds : List PyData} (h : shapeD (.tuple ds) = true) : OkDs 1 ds := fun d hd => by
  rw [shape_iff] at h
  obtain ⟨i, hi, e⟩ := List.mem_iff_getElem.mp hd
  have := h.2 i (by omega)
  rw [List.getD_eq_getElem?_getD, List.getElem?_eq_getElem hi] at this
  have this : okPl i ds[i] = true := this
  rw [e] at this
  exact okPl_ok this
end SB

/-! The law's world, its rules. -/
namespace SB
open PySem PySem.Spec PyProof.Rows L2 LamX
/-! ### the world of the law -/
theorem sql_ex {K : Frag} {H H' : Hp} {a : Addr} {xs : List V} (h : SqL K H a xs) (e : ∀ o, H a = some o → H' a = some o) : SqL K H' a xs := by
  rcases h with (h | ⟨ob, h⟩) | h
  · exact .inl (.inl (e _ h))
  · exact .inl (.inr ⟨ob, e _ h⟩)
  · exact .inr h
theorem tabs_ex {H H' : Hp} {P : Addr} {q : Str} (t : TabS H P q) (e : ∀ a o, H a = some o → (a = P ∨ ∃ c q, o = CodeO c q) → H' a = some o) : TabS H' P q := by
  obtain ⟨ps, h1, h2, h3⟩ := t
  refine ⟨ps, e _ _ h1 (.inl rfl), h2, fun pos cv hc => ?_⟩
  obtain ⟨c, e1, e2⟩ := h3 pos cv hc
  exact ⟨c, e1, e c _ e2 (.inr ⟨c, q, rfl⟩)⟩
theorem codeO_mut {c : Addr} {q : Str} : ¬ mutO (CodeO c q) := fun z => z
/-- the script and the table -/
def W0 (K : Frag) (sa P : Addr) (q : Str) (ns : List Int) : Wd where
  S := fun a => a = P
  J := fun H => TabS H P q ∧ SqL K H sa (ns.map V.int)
  more := fun ⟨t, h⟩ x => ⟨tabs_ex t fun a o e _ => x a o e, sql_ex h fun o e => x sa o e⟩
  turn := fun {H H1 p u o} ⟨t, h⟩ hp e ⟨t1, h1⟩ hu mu => by
    obtain ⟨ps, hP, _⟩ := t
    have n1 : P ≠ p := ne_of_none hP hp
    have n2 : ∀ {a : Addr} {z : HO}, H a = some z → a ≠ p := fun h => ne_of_none h hp
    refine ⟨tabs_ex t1 fun a z ez hz => ?_, ?_⟩
    · refine (upd_ne ?_).trans ez
      intro ea
      rw [ea] at ez hz
      rcases hz with hz | ⟨c, q, rfl⟩
      · exact n1 hz.symm
      · rw [hu] at ez
        rw [Option.some.inj ez] at mu
        exact codeO_mut mu
    · rcases h with (h | ⟨ob, h⟩) | h
      · exact sql_ex h1 fun o e => (upd_ne (n2 h)).trans e
      · exact sql_ex h1 fun o e => (upd_ne (n2 h)).trans e
      · exact .inr h
  dom := fun {H a} ⟨t, _⟩ s => by
    obtain ⟨ps, hP, _⟩ := t
    have s : a = P := s
    rw [s, hP]
    exact fun z => nomatch z
  nk := fun {H a o} ⟨t, _⟩ s e => by
    obtain ⟨ps, hP, _⟩ := t
    have s : a = P := s
    rw [s, hP] at e
    rw [← Option.some.inj e]
    exact fun z => z
/-- a change of the row leaves the script -/
def UpOk (K : Frag) (r sa : Addr) (ns : List Int) : Prop := ∀ (H : Hp) (o : HO), SqL K H sa (ns.map V.int) → SqL K (upd H r o) sa (ns.map V.int)
theorem up_of {K : Frag} {r sa : Addr} {ns : List Int} {H : Hp} (h : SqL K H sa (ns.map V.int)) (hr : H r = none) : UpOk K r sa ns := by
  rcases h with (h | ⟨ob, h⟩) | h
  · exact fun H' o h' => seq_upd h' (fun z => by rw [z, h] at hr; cases hr)
  · exact fun H' o h' => seq_upd h' (fun z => by rw [z, h] at hr; cases hr)
  · exact fun H' o _ => .inr h
/-- .. and the row -/
def W1 (K : Frag) (r sa P : Addr) (q : Str) (ns : List Int) : Wd where
  S := fun a => a = r ∨ a = P
  J := fun H => (∃ i g c : Int, 0 ≤ i ∧ 0 ≤ g ∧ g < 2147483647 ∧ 0 ≤ c ∧ H r = some (rowO sa i g c)) ∧ (W0 K sa P q ns).J H ∧ UpOk K r sa ns
  more := fun ⟨⟨i, g, c, h1, h2, h3, h4, h5⟩, j, n⟩ x => ⟨⟨i, g, c, h1, h2, h3, h4, x _ _ h5⟩, (W0 K sa P q ns).more j x, n⟩
  turn := fun {H H1 p u o} ⟨⟨i, g, c, _, _, _, _, h5⟩, j, n⟩ hp e ⟨⟨i', g', c', h1, h2, h3, h4, h5'⟩, j1, _⟩ hu mu => by
    have nr : r ≠ p := ne_of_none h5 hp
    refine ⟨⟨i', g', c', h1, h2, h3, h4, (upd_ne nr).trans h5'⟩, ?_, n⟩
    obtain ⟨t, h⟩ := j
    obtain ⟨t1, h1⟩ := j1
    obtain ⟨ps, hP, _⟩ := t
    have n1 : P ≠ p := ne_of_none hP hp
    have n2 : ∀ {a : Addr} {z : HO}, H a = some z → a ≠ p := fun h => ne_of_none h hp
    refine ⟨tabs_ex t1 fun a z ez hz => ?_, ?_⟩
    · refine (upd_ne ?_).trans ez
      intro ea
      rw [ea] at ez hz
      rcases hz with hz | ⟨c, q, rfl⟩
      · exact n1 hz.symm
      · rw [hu] at ez
        rw [Option.some.inj ez] at mu
        exact codeO_mut mu
    · rcases h with (h | ⟨ob, h⟩) | h
      · exact sql_ex h1 fun o e => (upd_ne (n2 h)).trans e
      · exact sql_ex h1 fun o e => (upd_ne (n2 h)).trans e
      · exact .inr h
  dom := fun {H a} ⟨⟨i, g, c, _, _, _, _, h5⟩, j, _⟩ s => by
    rcases s with rfl | s
    · rw [h5]
      exact fun z => nomatch z
    · exact (W0 K sa P q ns).dom j s
  nk := fun {H a o} ⟨⟨i, g, c, _, _, _, _, h5⟩, j, _⟩ s e => by
    rcases s with rfl | s
    · rw [h5] at e
      rw [← Option.some.inj e]
      exact fun z => z
    · exact (W0 K sa P q ns).nk j s e
theorem w1_row {K : Frag} {r sa P : Addr} {q : Str} {ns : List Int} (hne : UpOk K r sa ns) : RowW K (W1 K r sa P q ns) r sa ns where
  s := .inl rfl
  at_ := fun H j => j.1
  put := fun H i g c ⟨⟨i', g', c', _, _, _, _, h5⟩, ⟨t, h⟩, n⟩ h1 h2 h3 h4 => by
    obtain ⟨ps, hP, _⟩ := id t
    refine ⟨⟨i, g, c, h1, h2, h3, h4, upd_same⟩, ⟨tabs_ex t fun a z ez hz => ?_, hne _ _ h⟩, n⟩
    refine (upd_ne ?_).trans ez
    intro ea
    rw [ea, h5] at ez
    rcases hz with hz | ⟨c, q, rfl⟩
    · rw [← hz, ea, h5] at hP
      cases hP
    · cases ez
  scr := fun H j => j.2.1.2
  up := hne
theorem w1_tab {K : Frag} {r sa P : Addr} {q : Str} {ns : List Int} : TabW (W1 K r sa P q ns) P q where
  s := .inr rfl
  at_ := fun H j => j.2.1.1
  put := fun H H1 ⟨⟨i, g, c, h1, h2, h3, h4, h5⟩, ⟨t, h⟩, n⟩ old t1 => by
    obtain ⟨ps, hP, _⟩ := t
    refine ⟨⟨i, g, c, h1, h2, h3, h4, old r _ (fun z => ?_) h5⟩, ⟨t1, ?_⟩, n⟩
    · rw [← z, h5] at hP
      cases hP
    · rcases h with (h | ⟨ob, h⟩) | h
      · refine .inl (.inl (old sa _ (fun z => ?_) h))
        rw [← z, h] at hP
        cases hP
      · refine .inl (.inr ⟨ob, old sa _ (fun z => ?_) h⟩)
        rw [← z, h] at hP
        cases hP
      · exact .inr h
/-! ### calls in the law -/
section
variable {X : Cx} {W : Wd} {Γ : Gm} {e a : Expr} {es : List Expr} {k n : Nat} {f C : Addr} {fd : FuncData} {ps : List Str} {x : Str} {p pos : Pos} {pre : List PyData → Prop} {g : List PyData → PyData ⊕ Addr} {ds : List PyData}
theorem passF {P : Program} {w : World} {X : Cx} : Passes (L2.CX P w) X (fun _ _ _ => False) := fun _ _ _ _ _ _ _ c => by
  obtain ⟨_, _, _, _, _, _, _, _, _, _, _, _, z⟩ := c
  exact z.elim
/-- a call that raises nothing -/
theorem xe_callN {d : PyData} (F : FnOk X.prog X.w X.K X.mg X.base (L2.CX X.prog X.w) k f fd ps (spE X.K n pre g)) (hr : Room k X.A) (hm : X.mg x = some (.ref f)) (hk : PySem.W.keepIn X.K (.ref f) = true) (hb : L2.Binds X.K fd ps []) (ha : XA X W Γ (e :: es) (IsA ds)) (hl : ds.length = n) (hp : pre ds) (hd : g ds = .inl d)
    (hg : Gl X x := by rfl) (hdb : (x == ("__debug__" : Str)) = false := by decide) (he : starEach (e :: es) X.env = (false, eval e X.env) :: starEach es X.env := by rfl) (hpl : (backTo pos (starEach es X.env)).any (·.1) = false := by rfl) : XE X W Γ (.Call (.Name x p) (e :: es) [] pos) (Is d) :=
  pe_imp (pe_callE F hr hm hk hb passF ha hl hp hg hdb he hpl) fun σ H Q ⟨T, R⟩ => ⟨T, fun d' hd' => by
    rw [hd] at hd'
    cases hd'
    exact R, fun C hC => by
    rw [hd] at hC
    cases hC⟩
/-- a lambda's body that calls what raises -/
def Raises (X : Cx) (W : Wd) (Γ : Gm) (kk : Nat) (body : Expr) (scope : Scope) (C : Addr) : Prop := ∀ (A : Around) (outer : List Env) (s : Shared) (H : Hp) (E : XK) (f c' : Addr), Room kk (A.deeper (lamEnv X scope s.heap.objs.size f c')) →
  PE (lamCx X A outer s H E scope f c') body (fun σ H Q => Tp X.K W Γ σ H ∧ ∀ H2, Er W.S H H2 → W.J H2 → E (.ref C) none H2)
theorem lam_takes {A : Around} {outer : List Env} {s : Shared} {H : Hp} {E : XK} {scope : Scope} {f c' : Addr} : Takes (lamCx X A outer s H E scope f c') (fun cls d _ H => E cls d H) := takes_of rfl rfl rfl rfl
theorem raises_call {scope : Scope} (F : FnOk X.prog X.w X.K X.mg X.base (L2.CX X.prog X.w) k f fd ps (spE X.K n pre g)) (hm : X.mg x = some (.ref f)) (hk : PySem.W.keepIn X.K (.ref f) = true) (hb : L2.Binds X.K fd ps [])
    (ha : ∀ (A : Around) (outer : List Env) (s : Shared) (H : Hp) (E : XK) (f c' : Addr), XA (lamCx X A outer s H E scope f c') W Γ (e :: es) (IsA ds)) (hl : ds.length = n) (hp : pre ds) (hd : g ds = .inr C) (hg : scope.names.lookup x = some .globalImplicit) (hdb : (x == ("__debug__" : Str)) = false := by decide)
    (he : ∀ env, starEach (e :: es) env = (false, eval e env) :: starEach es env) (hpl : ∀ env, (backTo pos (starEach es env)).any (·.1) = false) : Raises X W Γ k (.Call (.Name x p) (e :: es) [] pos) scope C := fun A outer s H E f' c' hr =>
  pe_imp (pe_callE (X := lamCx X A outer s H E scope f' c') (E := E) F hr hm hk hb (passes_call lam_takes fun _ _ _ _ h => h) (ha A outer s H E f' c') hl hp hg hdb (he _) (hpl _)) fun σ H Q ⟨T, R⟩ => ⟨T, (fun d hd' => by
    rw [hd] at hd'
    cases hd'), (fun C' hC => by
    rw [hd] at hC
    cases hC
    exact R)⟩
/-- _law_wrong(e), e one of these lambdas -/
theorem xe_wrong {Ls : List LD} {kk kc : Nat} (B : Blt X.mg) (WC : WrongC X.K X.mg C kc) (F : Fn X.K X.mg "_law_wrong" sWrong ["_law_work"] f fd) (hr : Room (kk + 2) X.A) (hcalm : X.calm = true) (he : XE X W Γ e (fun x => ∃ L, x = .fn L ∧ L ∈ Ls))
    (hL : ∀ L ∈ Ls, ∃ params body scope, L = lamOf X params body scope ∧ LamL X.N X.env.scope scope ∧ LamB params body scope ∧ Raises X W Γ kk body scope C)
    (hg : Gl X "_law_wrong" := by rfl) (hs : starEach [e] X.env = (false, eval e X.env) :: starEach [] X.env := by rfl) : XE X W Γ (.Call (.Name "_law_wrong" p) [e] [] pos) (Is (.str (retS kc))) := by
  refine ⟨fun pins s σ H Q I ⟨T, R⟩ => ?_⟩
  obtain ⟨oc, od, kV, doc, pm, an, cdv, ct, osl, efd, lk, hcd⟩ := F.F.ex
  refine wpAny_Call_Name_kw (ld_glob I hg F.g ?_ (by decide))
  refine PySem.W.callWith_K (h₀ := X.base) I.ok.mod.kin F.F.kp ?_ (by rw [hs]) (by rfl)
  rw [hs]
  show wpAny _ _ (spliced ((false, eval e X.env) :: backTo pos (starEach [] X.env))) _ _ s
  refine Calls.spliced_cons (thn (he.run pins s σ H (fun v H1 => ∃ L, L ∈ Ls ∧ LamV W.S H1 v L ∧ Er W.S H H1 ∧ W.J H1) I ⟨T, fun v x H1 ⟨L, ex, hm⟩ rx e1 j1 => ⟨L, hm, by subst ex; exact rx, e1, j1⟩⟩) fun u s1 ⟨v, H1, I1, r1, L, hm, lv, e1, j1⟩ => ?_)
  refine Calls.spliced_nil ⟨I1.kIn, ?_⟩
  obtain ⟨params, body, scope, rfl, hLL, hLB, hR⟩ := hL L hm
  subst efd
  have rc : codeAny (model X.prog X.w) X.A (.call (.ref f) ⟨[u], []⟩) (CR C8.CX0 X.stack X.prog X.w H1 s1 Q C8.E0) s1 := by
    refine run_ofS (N := nWrong) (ps := ["_law_work"]) (us := [u]) (vs := [v]) lk hcd sc_wrong hr I1.env0 (F.b s1 [u] I1.kIn rfl) (.cons r1 .nil) rfl fun hr' => ?_
    obtain ⟨t', ht', hq'⟩ := wrong_gives (K := X.K) (base := X.base) (g := f) (cdg := cdv) (A := X.A) (outer := X.stack) (s := s1) (H := H1) (Q := Q) (TL := fun HZ => Tp X.K W Γ σ HZ) B WC j1 (T.mono e1 j1) lv (R.later e1)
      (fun Wx pn xe E p1 p2 tk hW => pe_act3 (i := 0) (tb := fun σ HZ Q => Tp X.K W Γ σ HZ ∧ ∀ H2, Er W.S HZ H2 → W.J H2 → E (.ref C) none H2) I1 hLL hLB tk hW hr' (fun A outer s H f' c' hr2 => hR A outer s H E f' c' hr2) rfl (.inl rfl))
    exact ⟨t', ht'.nox, hq'⟩
  refine wpAny_call (codeAny_mono rc fun r s2 hq => ?_)
  cases r with
  | error e => exact (show False from hq).elim
  | ok fl =>
    cases fl with
    | ret u => exact I1.after hq
    | next => exact False.elim hq
    | brk => exact False.elim hq
    | cont => exact False.elim hq
/-- list(t), t a tuple of data -/
theorem xe_listT {ts : List PyData} (hm : X.mg "list" = none) (ha : XE X W Γ a (Is (.tuple ts))) (hg : Gl X "list" := by rfl) (he : starEach [a] X.env = (false, eval a X.env) :: starEach [] X.env := by rfl) (hpl : (backTo pos (starEach [] X.env)).any (·.1) = false := by rfl) : XE X W Γ (.Call (.Name "list" p) [a] [] pos) (Is (.list ts)) := by
  refine xe_callTy (Ps := IsA [.tuple ts]) call_list_of (fun xs vs H Q ps rs jj R => ?_) hm (by decide +kernel) (xac ha xa0 he) hg (by decide) (by decide) he hpl
  subst ps
  have w := VRA.dwa (ds := [.tuple ts]) rs
  cases w with
  | cons w1 w2 =>
    cases w2
    cases w1 with
    | tup q w =>
      refine ⟨_, _, rfl, .inr q.sq, fun p hp => ?_⟩
      obtain ⟨j4, e4, n4⟩ := new_world (o := .lst _) jj hp
      exact R _ _ _ rfl (Dw.lst ⟨upd_same, n4⟩ (w.mono e4)) e4 j4
end
end SB

/-! The law: the walk's parts. -/
namespace SB
open PySem PySem.Spec PyProof.Rows L2 LamX
theorem cut_take {es : List PyData} {n : Nat} : cutD es none (some (n : Int)) = es.take n := by
  unfold cutD
  rw [HT.sIx_none, HT.sIx_nat, List.drop_zero, Nat.sub_zero]
  by_cases h : n ≤ es.length
  · rw [Nat.min_eq_left h]
  · rw [Nat.min_eq_right (by omega), List.take_length, List.take_of_length_le (by omega)]
theorem cut_drop {es : List PyData} {n : Nat} : cutD es (some (n : Int)) none = es.drop n := by
  unfold cutD
  rw [HT.sIx_none, HT.sIx_nat]
  by_cases h : n ≤ es.length
  · rw [Nat.min_eq_left h, List.take_of_length_le (by rw [List.length_drop]; exact Nat.le_refl _)]
  · rw [Nat.min_eq_right (by omega), Nat.sub_self, List.take_zero, List.drop_of_length_le (by omega)]
def des (r : Int) (b : Bool) (ps pa wa : PyData) : PyData := .tuple [.int r, .bool b, ps, pa, wa]
theorem des_is {r : Int} {b : Bool} {ps pa wa : PyData} (hr : 0 ≤ r ∧ r ≤ 7) : isDesignD (des r b ps pa wa) = (arePlacesD (.int r) ps && (arePathsD pa && areWaitsD wa)) := by
  show (isPlaceD (.int r) && (true && (arePlacesD (.int r) ps && (arePathsD pa && areWaitsD wa)))) = _
  rw [place_in hr, Bool.true_and, Bool.true_and]
theorem des_ok {n : Nat} {r : Int} {b : Bool} {ps pa wa : PyData} (h1 : OkD n ps) (h2 : OkD n pa) (h3 : OkD n wa) : OkD (n + 1) (des r b ps pa wa) := .tup (.cons .int (.cons .bool (.cons h1 (.cons h2 (.cons h3 .nil)))))
theorem des_pre {r : Int} {b : Bool} {ps pa wa : PyData} (h1 : OkD 6 ps) (h2 : OkD 6 pa) (h3 : OkD 6 wa) (l1 : lenD pa ≤ 1000) (l2 : lenD wa ≤ 1000) : preDes (des r b ps pa wa) := ⟨(des_ok h1 h2 h3).sh (by decide), l1, l2⟩
theorem tups_len {lss : List (List Key)} (h : lss.length ≤ 1000) : lenD (.tuple (tupsD lss)) ≤ 1000 := by
  show (((tupsD lss).length : Nat) : Int) ≤ 1000
  rw [List.length_map]
  omega
/-! ### the bad things -/
def odds1 : List PyData := [.none, .list [], .tuple [tup2i 0 0], .tuple [tup2i 1 2], .tuple [tup2i 8 0], .tuple [tup2i 3 0, tup2i 2 0], .tuple [tup2i 2 1, tup2i 2 1], .tuple [.tuple [.int 2]], .tuple [.list [.int 2, .int 1]], .tuple [.tuple [.bool true, .int 0]]]
where tup2i (a b : Int) : PyData := .tuple [.int a, .int b]
def firstD : PyData := .tuple [.str "order", .str "set", .str "sum", .int 1]
def odds2 : List PyData := [.none, .list [], .tuple [firstD, firstD], .tuple [.tuple [.str "wrong", .str "go", .str "out", .int 1], firstD], .tuple [.tuple [.str "order", .str "set", .str "sum", .int 8]], .tuple [.tuple [.str "order", .str "set", .str "sum"]], .tuple [.list []], .tuple [.none]]
theorem odds1_bad : ∀ d ∈ odds1, arePathsD d = false ∧ OkD 4 d ∧ lenD d ≤ 1000 := by
  have h : odds1.all (fun d => !arePathsD d && (PyData.canLay0 d && (decide (d.depth ≤ 4) && decide (lenD d ≤ 1000)))) = true := by decide +kernel
  intro d hd
  have := List.all_eq_true.mp h d hd
  rw [Bool.and_eq_true, Bool.and_eq_true, Bool.and_eq_true, Bool.not_eq_true', decide_eq_true_eq, decide_eq_true_eq] at this
  exact ⟨this.1, ⟨this.2.1, this.2.2.1⟩, this.2.2.2⟩
theorem odds2_bad : ∀ d ∈ odds2, areWaitsD d = false ∧ OkD 4 d ∧ lenD d ≤ 1000 := by
  have h : odds2.all (fun d => !areWaitsD d && (PyData.canLay0 d && (decide (d.depth ≤ 4) && decide (lenD d ≤ 1000)))) = true := by decide +kernel
  intro d hd
  have := List.all_eq_true.mp h d hd
  rw [Bool.and_eq_true, Bool.and_eq_true, Bool.and_eq_true, Bool.not_eq_true', decide_eq_true_eq, decide_eq_true_eq] at this
  exact ⟨this.1, ⟨this.2.1, this.2.2.1⟩, this.2.2.2⟩
/-- no designs -/
def odds3 (r : Int) (b : Bool) (ds : List PyData) (pa wa : PyData) : List PyData :=
  [.none, .tuple [], .tuple [.int r, .bool b, .tuple ds, pa], .list [.int r, .bool b, .tuple ds, pa, wa], .tuple [.int r, .bool b, .tuple ds, pa, wa, .tuple []], .tuple [.int 8, .bool b, .tuple ds, pa, wa], .tuple [.bool true, .bool b, .tuple ds, pa, wa], .tuple [.int r, .int 1, .tuple ds, pa, wa]]
  ++ [des r b (.tuple (ds.take 7)) pa wa, des r b (.list ds) pa wa, .str "design"]
theorem odds3_bad {r : Int} {b : Bool} {ds : List PyData} {pa wa : PyData} (h0 : OkDs 1 ds) (h1 : OkD 2 pa) (h2 : OkD 2 wa) (l1 : lenD pa ≤ 1000) (l2 : lenD wa ≤ 1000) (hds : ds.length = 8) : ∀ d ∈ odds3 r b ds pa wa, isDesignD d = false ∧ preDes d ∧ small d := by
  have ht : OkD 2 (.tuple ds) := .tup h0
  have hl : OkD 2 (.list ds) := .lst h0
  have ht7 : OkD 2 (.tuple (ds.take 7)) := .tup (h0.sub fun e he => List.mem_of_mem_take he)
  have mk : ∀ {n : Nat} {d : PyData}, n ≤ 64 → isDesignD d = false → OkD n d → lenD (itemD d 3) ≤ 1000 → lenD (itemD d 4) ≤ 1000 → lenD d ≤ 1000 → isDesignD d = false ∧ preDes d ∧ small d := fun hn a b c e g => ⟨a, ⟨b.sh hn, c, e⟩, g, b.sh hn⟩
  have z0 : (0 : Int) ≤ 1000 := by decide
  have z5 : ((5 : Nat) : Int) ≤ 1000 := by decide
  have z6 : ((6 : Nat) : Int) ≤ 1000 := by decide
  have z4 : ((4 : Nat) : Int) ≤ 1000 := by decide
  intro d hd
  rcases List.mem_append.mp hd with hd | hd
  · rcases List.mem_cons.mp hd with rfl | hd
    · exact mk (n := 0) (by decide) rfl .non z0 z0 z0
    rcases List.mem_cons.mp hd with rfl | hd
    · exact mk (n := 1) (by decide) rfl (.tup .nil) z0 z0 z0
    rcases List.mem_cons.mp hd with rfl | hd
    · exact mk (n := 3) (by decide) rfl (.tup (.cons .int (.cons .bool (.cons ht (.cons h1 .nil))))) l1 z0 z4
    rcases List.mem_cons.mp hd with rfl | hd
    · exact mk (n := 3) (by decide) rfl (.lst (.cons .int (.cons .bool (.cons ht (.cons h1 (.cons h2 .nil)))))) z0 z0 z0
    rcases List.mem_cons.mp hd with rfl | hd
    · exact mk (n := 3) (by decide) rfl (.tup (.cons .int (.cons .bool (.cons ht (.cons h1 (.cons h2 (.cons (.tup (n := 1) .nil) .nil))))))) l1 l2 z6
    rcases List.mem_cons.mp hd with rfl | hd
    · refine mk (n := 3) (by decide) ?_ (.tup (.cons .int (.cons .bool (.cons ht (.cons h1 (.cons h2 .nil)))))) l1 l2 z5
      show (isPlaceD (.int 8) && (isiBool (.bool b) && (arePlacesD (.int 8) (.tuple ds) && (arePathsD pa && areWaitsD wa)))) = false
      rw [show isPlaceD (.int 8) = false by decide +kernel, Bool.false_and]
    rcases List.mem_cons.mp hd with rfl | hd
    · exact mk (n := 3) (by decide) rfl (.tup (.cons .bool (.cons .bool (.cons ht (.cons h1 (.cons h2 .nil)))))) l1 l2 z5
    · rw [List.mem_singleton.mp hd]
      refine mk (n := 3) (by decide) ?_ (.tup (.cons .int (.cons .int (.cons ht (.cons h1 (.cons h2 .nil)))))) l1 l2 z5
      show (isPlaceD (.int r) && (false && (arePlacesD (.int r) (.tuple ds) && (arePathsD pa && areWaitsD wa)))) = false
      rw [Bool.false_and, Bool.and_false]
  · rcases List.mem_cons.mp hd with rfl | hd
    · refine mk (n := 3) (by decide) ?_ (des_ok ht7 h1 h2) l1 l2 z5
      have hno : shapeD (.tuple (ds.take 7)) = false := by
        cases q : shapeD (.tuple (ds.take 7)) with
        | false => rfl
        | true =>
          rw [shape_iff] at q
          have := q.1
          rw [List.length_take] at this
          omega
      show (isPlaceD (.int r) && (true && ((shapeD (.tuple (ds.take 7)) && orderB r (.tuple (ds.take 7))) && (arePathsD pa && areWaitsD wa)))) = false
      rw [hno, Bool.false_and, Bool.false_and, Bool.and_false, Bool.and_false]
    rcases List.mem_cons.mp hd with rfl | hd
    · refine mk (n := 3) (by decide) ?_ (des_ok hl h1 h2) l1 l2 z5
      have hno : shapeD (.list ds) = false := rfl
      show (isPlaceD (.int r) && (true && ((shapeD (.list ds) && orderB r (.list ds)) && (arePathsD pa && areWaitsD wa)))) = false
      rw [hno, Bool.false_and, Bool.false_and, Bool.and_false, Bool.and_false]
    · rw [List.mem_singleton.mp hd]
      exact mk (n := 0) (by decide) rfl (.str (by decide +kernel)) z0 z0 z0
/-! ### sorted(set(..)) of pairs of ints -/
section
variable {K : Frag} {W : Wd} {P : Program} {w : World}
theorem tup_ints {S : ASet} {H : Hp} {v : V} {a b : Int} (h : Dw K S H v (.tuple [.int a, .int b])) : ∃ t, v = .ref t ∧ TuW K S H t [.int a, .int b] := by
  cases h with
  | tup p q =>
    rw [dwa_ints (bs := [a, b]) q] at p
    exact ⟨_, rfl, p⟩
def pairD (q : Int × Int) : PyData := .tuple [.int q.1, .int q.2]
theorem pairs_refs {S : ASet} {H : Hp} : ∀ {qs : List (Int × Int)} {vs : List V}, DwA K S H vs (qs.map pairD) → ∃ ks : List (Addr × List Int), vs = ks.map (fun p => V.ref p.1) ∧ ks.map (·.2) = qs.map (fun q => [q.1, q.2]) ∧ ∀ p ∈ ks, TuW K S H p.1 (p.2.map V.int)
  | [], _, h => by
    cases h
    exact ⟨[], rfl, rfl, fun _ h => absurd h (by simp)⟩
  | q :: qs, _, h => by
    cases h with
    | cons h1 h2 =>
      obtain ⟨t, rfl, ht⟩ := tup_ints h1
      obtain ⟨ks, rfl, e2, h3⟩ := pairs_refs h2
      refine ⟨(t, [q.1, q.2]) :: ks, rfl, by rw [List.map_cons, List.map_cons, e2], fun p hp => ?_⟩
      rcases List.mem_cons.mp hp with e | hp
      · rw [e]
        exact ht
      · exact h3 p hp
/-- a set of pairs: told by its place -/
def SetP (P : Program) (w : World) (K : Frag) (W : Wd) (qs : List (Int × Int)) (v : V) (H : Hp) : Prop := ∃ (a : Addr) (L : List (Addr × List Int)), v = .ref a ∧ H a = some (SetTO P w a L) ∧ (∀ p ∈ L, TuW K W.S H p.1 (p.2.map V.int) ∧ ∃ q ∈ qs, p.2 = [q.1, q.2])
end
theorem TuW.mono {K : Frag} {S : ASet} {H H' : Hp} {a : Addr} {xs : List V} (e : Er S H H') (h : TuW K S H a xs) : TuW K S H' a xs := by
  rcases h with ⟨h, n⟩ | h
  · refine .inl ⟨?_, n⟩
    rcases h with h | ⟨ob, h⟩
    · exact .inl (e _ _ n h)
    · exact .inr ⟨ob, e _ _ n h⟩
  · exact .inr h
theorem ints_keys (ns : List Int) : (ns.map Sum.inl : List Key).map kV = ns.map V.int := by
  rw [List.map_map]
  rfl
theorem refs_dwa {K : Frag} {S : ASet} {H : Hp} : ∀ {L : List (Addr × List Int)}, (∀ p ∈ L, TuW K S H p.1 (p.2.map V.int)) → DwA K S H (L.map fun q => V.ref q.1) (tupsD (L.map fun q => (q.2.map Sum.inl : List Key)))
  | [], _ => .nil
  | p :: L, h => by
    have h0 := h p List.mem_cons_self
    rw [← ints_keys] at h0
    exact .cons (.tup h0 (keys_dwa _)) (refs_dwa fun q hq => h q (List.mem_cons_of_mem _ hq))
theorem pair_rise {x y x' y' : Int} (h : x < x' ∨ (x = x' ∧ y < y')) : lexK [.inl x, .inl y] [.inl x', .inl y'] = true := by
  rcases h with h | ⟨rfl, h⟩
  · rw [lexK_ne (fun e => by have := Sum.inl.inj e; omega)]
    exact decide_eq_true h
  · rw [lexK_eq rfl, lexK_ne (fun e => by have := Sum.inl.inj e; omega)]
    exact decide_eq_true h
section
variable {X : Cx} {W : Wd} {Γ : Gm} {e : Expr} {p p2 pos pos2 : Pos}
/-- pairs with a first in [1, 8), a second 0 -/
def QsOk (qs : List (Int × Int)) : Prop := qs.length ≤ 3 ∧ ∀ q ∈ qs, 1 ≤ q.1 ∧ q.1 ≤ 7 ∧ q.2 = 0
theorem xe_sortedSet (hc : X.calm = true) (hu : X.A.units + 64 < cLine) (B : Blt X.mg) (he : XE X W Γ e (fun x => ∃ qs, x = .d (.list (qs.map pairD)) ∧ QsOk qs)) (g1 : Gl X "set" := by rfl) (g2 : Gl X "sorted" := by rfl)
    (h1 : starEach [e] X.env = (false, eval e X.env) :: starEach [] X.env := by rfl) (h2 : starEach [.Call (.Name "set" p2) [e] [] pos2] X.env = (false, eval (.Call (.Name "set" p2) [e] [] pos2) X.env) :: starEach [] X.env := by rfl) (hp1 : (backTo pos2 (starEach [] X.env)).any (·.1) = false := by rfl) (hp2 : (backTo pos (starEach [] X.env)).any (·.1) = false := by rfl) :
    XE X W Γ (.Call (.Name "sorted" p) [.Call (.Name "set" p2) [e] [] pos2] [] pos) (fun x => ∃ lss, x = .d (.list (tupsD lss)) ∧ PathsOk lss) := by
  have hset : PE X (.Call (.Name "set" p2) [e] [] pos2) (fun σ H Q => Tp X.K W Γ σ H ∧ ∀ v H2 qs, QsOk qs → SetP X.prog X.w X.K W qs v H2 → Er W.S H H2 → W.J H2 → Q v H2) :=
    pe_imp (pe_callTy (cr_setOfT hc hu) g1 B.set (by decide +kernel) (xa_one he h1) (by decide) (by decide) h1 hp1) fun σ H Q ⟨T, R⟩ => ⟨T, fun vs xs H2 ⟨x, ex, qs, ex2, hq⟩ rs er j => by
      subst ex2
      subst ex
      have w := VRA.dwa (ds := [.list (qs.map pairD)]) rs
      cases w with
      | cons w1 w2 =>
        cases w2
        cases w1 with
        | lst pt w =>
          obtain ⟨ks, rfl, e2, h3⟩ := pairs_refs w
          refine ⟨_, ks, rfl, pt.sq, fun p hp => (h3 p hp).sq, ?_, fun a L ha hL _ => ?_⟩
          · have : ks.length = qs.length := by
              have := congrArg List.length e2
              rw [List.length_map, List.length_map] at this
              exact this
            rw [this]
            exact Nat.lt_of_le_of_lt hq.1 (by decide)
          · obtain ⟨j4, e4, n4⟩ := new_world (W := W) (o := SetTO X.prog X.w a L) j ha
            refine R (.ref a) _ qs hq ⟨a, L, rfl, upd_same, fun p hp => ⟨?_, ?_⟩⟩ (er.trans e4) j4
            · exact (h3 p (hL p hp)).mono e4
            · have m : p.2 ∈ ks.map (·.2) := List.mem_map.mpr ⟨p, hL p hp, rfl⟩
              rw [e2] at m
              obtain ⟨q, hq2, e⟩ := List.mem_map.mp m
              exact ⟨q, hq2, e.symm⟩⟩
  refine pe_imp (pe_callB (cr_sortedT hc) g2 B.sorted (by decide +kernel) (pa_cons hset pa_nil h2) (by decide) (by decide) h2 hp2) fun σ H Q ⟨T, R⟩ => ⟨T, fun v H2 qs hq ⟨a, L, ev, ha, hL⟩ er j => ?_⟩
  subst ev
  refine ⟨a, L, 2, 64, rfl, ha, fun p hp => (hL p hp).1.sq, by decide, fun p hp => ?_, fun L' q hp hn hf hw hq' => ?_⟩
  · obtain ⟨_, q, hq2, e⟩ := hL p hp
    have := hq.2 q hq2
    rw [e]
    refine ⟨rfl, fun m hm => ?_⟩
    rcases List.mem_cons.mp hm with rfl | hm
    · omega
    · rw [List.mem_singleton.mp hm]
      omega
  · obtain ⟨j4, e4, n4⟩ := new_world (W := W) (o := .lst (L'.map fun q => V.ref q.1)) j hq'
    have hL' : ∀ p ∈ L', TuW X.K W.S H2 p.1 (p.2.map V.int) ∧ ∃ a : Int, p.2 = [a, 0] ∧ 1 ≤ a ∧ a ≤ 7 := fun p hm => by
      obtain ⟨h1, q, hq2, e⟩ := hL p (hp.mem_iff.mp hm)
      obtain ⟨h2, h3, h4⟩ := hq.2 q hq2
      rw [h4] at e
      exact ⟨h1, q.1, e, h2, h3⟩
    refine R _ (.d (.list (tupsD (L'.map fun q => (q.2.map Sum.inl : List Key))))) _ ⟨_, rfl, fun ks hk => ?_, ?_, ?_⟩ (Dw.lst ⟨upd_same, n4⟩ (refs_dwa fun p hm => (hL' p hm).1.mono e4)) (er.trans e4) j4
    · obtain ⟨p, hm, rfl⟩ := List.mem_map.mp hk
      obtain ⟨_, a, e, h2, h3⟩ := hL' p hm
      rw [e]
      exact ⟨a, 0, rfl, by omega⟩
    · refine List.pairwise_map.mpr ?_
      have hn2 : L'.Pairwise fun q r => q.2 ≠ r.2 := List.pairwise_map.mp hn
      have both := List.Pairwise.and hw hn2
      refine List.Pairwise.imp_of_mem (fun {x y} hx hy hxy => ?_) both
      obtain ⟨_, a, e, h2, h3⟩ := hL' x hx
      obtain ⟨_, a', e', h2', h3'⟩ := hL' y hy
      obtain ⟨h4, h5⟩ := hxy
      rw [e, e'] at h4 h5 ⊢
      exact pair_rise (pair_lt h4 h5 (by omega) (by omega) (by omega) (by omega))
    · rw [List.length_map]
      omega
end
end SB

/-! The law: the walk. -/
namespace SB
open PySem PySem.Spec PyProof.Rows L2 LamX
abbrev nLaw : List Str := ["_law_script", "_law_row", "_law_k", "_law_j", "_law_moved", "_law_places", "_law_read", "_law_waits", "_law_paths", "_law_odd", "_law_first", "_law_works", "_law_bad", "_law_design_here", "_law_turn"]
abbrev qLaw : Str := ("law" : Str) ++ ".<locals>." ++ "<lambda>"
theorem sc_law : FnScope nLaw ["_law_script"] (defScope sLaw) := ⟨rfl, rfl, rfl, by decide +kernel, rfl, by decide +kernel, by decide +kernel⟩
/-- what the law calls -/
structure LawF (P : Program) (w : World) (K : Frag) (mg : Str → Option Value) (base : Heap) (CD CW CP : Addr) : Prop where
  B : Blt mg
  taken : ∃ f fd, Fn K mg "_law_taken" sTaken ["_law_row", "_law_many"] f fd
  pick : ∃ f fd, Fn K mg "_law_pick" sPick ["_law_row", "_law_kinds"] f fd
  alike : ∃ f fd, Fn K mg "_law_alike" sAlike ["_law_found", "_law_due"] f fd
  des : ∃ f fd, Fn K mg "_law_design" sLDesign ["_law_row"] f fd ∧ FnOk P w K mg base CX0 3 f fd ["_law_row"] (spDes K)
  more : ∃ f fd, Fn K mg "_law_more" sMore ["_law_row", "_law_waits", "_law_many"] f fd ∧ FnOk P w K mg base CX0 3 f fd ["_law_row", "_law_waits", "_law_many"] (spMore K)
  wrong : ∃ f fd, Fn K mg "_law_wrong" sWrong ["_law_work"] f fd
  fits : ∃ f fd, Fn K mg "_law_fits" sFits ["_law_read", "_law_places"] f fd
  is_ : ∃ f fd, Fn K mg "is_design" sIsDesign ["value"] f fd ∧ FnOk P w K mg base CX0 6 f fd ["value"] (spIsDesign K)
  ww : ∃ f fd, Fn K mg "with_waits" sWithWaits ["design", "waits"] f fd ∧ FnOk P w K mg base (L2.CX P w) 8 f fd ["design", "waits"] (spWithWaits K CD CW)
  wp : ∃ f fd, Fn K mg "with_paths" sWithPaths ["design", "paths"] f fd ∧ FnOk P w K mg base (L2.CX P w) 8 f fd ["design", "paths"] (spWithPaths K CD CP)
  oe : ∃ f fd, Fn K mg "open_entries" sOpenEntries ["design"] f fd ∧ FnOk P w K mg base (L2.CX P w) 8 f fd ["design"] (spNone K CD)
  ir : ∃ f fd, Fn K mg "is_right" sIsRight ["design"] f fd ∧ FnOk P w K mg base (L2.CX P w) 8 f fd ["design"] (spNone K CD)
  w0 : WrongC K mg CD 0
  w1 : WrongC K mg CW 1
  w2 : WrongC K mg CP 2
section
variable {P : Program} {w : World} {K : Frag} {mg : Str → Option Value} {base : Heap} {CD CW CP fa c Pt r sa : Addr} {A : Around} {outer : List Env} {s : Shared} {H : Hp} {E : XK} {ns : List Int} {D : Ends}
abbrev cxL (P : Program) (w : World) (K : Frag) (mg : Str → Option Value) (base : Heap) (fa c : Addr) (A : Around) (outer : List Env) (s : Shared) (H : Hp) (E : XK) : Cx := cxP P w K mg base nLaw "law" sLaw fa (.ref c) A outer s H E
/-- the statements from the i-th on -/
def fromL (i : Nat) : List Stmt := (defBody sLaw).drop i
abbrev GT (D : Ends) : Prop := ∀ H, D.rt (.bl true) H
abbrev gL (sa r : Addr) (k j mv pl re wt pt od fi wo bad de tu : Option Dv) : Gm := [some (.o sa), some (.o r), k, j, mv, pl, re, wt, pt, od, fi, wo, bad, de, tu]
abbrev desL (rd : Int) (b : Bool) (ds : List PyData) (pa wa : PyData) : PyData := .tuple [.int rd, .bool b, .tuple ds, pa, wa]
theorem wrongC_room (h : Room 10 A) : Room (8 + 2) A := h
/-- an item at a drawn place -/
theorem xe_oddP {X : Cx} {W : Wd} {Γ : Gm} {a b : Expr} {pos : Pos} {zs : List PyData} {m : Int} (hm : m = zs.length) (ha : XE X W Γ a (Is (.list zs))) (hb : XE X W Γ b (Dr m)) (hs : PlainIx b := by exact fun _ _ => rfl) : XE X W Γ (.Subscript a b pos) (fun x => ∃ d, x = .d d ∧ d ∈ zs) :=
  XE.imp (xe_ix ix_list (rr_ixLP (ds := zs)) ha (hb.imp fun x ⟨k, hx, k0, k1⟩ => ⟨k.toNat, by rw [hx, Int.toNat_of_nonneg k0], by omega⟩) hs) fun x ⟨k, d, hk, hx⟩ => ⟨d, hx, List.mem_of_getElem? hk⟩
/-- the last: no design -/
theorem law_end (F : LawF P w K mg base CD CW CP) (hr : Room 10 (cxL P w K mg base fa c A outer s H E).A) (hlen : ns.length ≤ 63) (hup : UpOk K r sa ns) (TB : TabB base mg c Pt) {k j mv pl re wt pt od fi wo bad tu : Option Dv} {rd : Int} {b : Bool} {ds : List PyData} {pa wa : PyData}
    (h0 : OkDs 1 ds) (h1 : OkD 2 pa) (h2 : OkD 2 wa) (l1 : lenD pa ≤ 1000) (l2 : lenD wa ≤ 1000) (hds : ds.length = 8) (g : GT D) :
    HS (cxL P w K mg base fa c A outer s H E) (Tp K (W1 K r sa Pt qLaw ns) (gL sa r k j mv pl re wt pt od fi wo bad (some (.d (desL rd b ds pa wa))) tu)) (fromL 19) D := by
  obtain ⟨ft, fdt, Ft⟩ := F.taken
  have Gt : FnOk P w K mg base CX0 1 ft fdt ["_law_row", "_law_many"] (spTakenR K) := ok_takenR F.B Ft
  obtain ⟨fi', fdi, Fi, Gi⟩ := F.is_
  obtain ⟨fw, fdw, Fw⟩ := F.wrong
  obtain ⟨foe, fdoe, Foe, Goe⟩ := F.oe
  obtain ⟨fir, fdir, Fir, Gir⟩ := F.ir
  obtain ⟨fww, fdww, Fww, Gww⟩ := F.ww
  obtain ⟨fwp, fdwp, Fwp, Gwp⟩ := F.wp
  have RW : RowW K (W1 K r sa Pt qLaw ns) r sa ns := w1_row hup
  refine hs_set (i := 9) (P := Is (.list [.none, .tuple [], .tuple [.int rd, .bool b, .tuple ds, pa], .list [.int rd, .bool b, .tuple ds, pa, wa], .tuple [.int rd, .bool b, .tuple ds, pa, wa, .tuple []], .tuple [.int 8, .bool b, .tuple ds, pa, wa], .tuple [.bool true, .bool b, .tuple ds, pa, wa], .tuple [.int rd, .int 1, .tuple ds, pa, wa]])) ?_ (fun y hy => ?_) sc_law.nd
  · refine xe_lst (xac xe_non (xac (xe_tup xa0) (xac (xe_slice (xv 13) xo_none (xo_some xe_int)) (xac (xe_listT F.B.list (xv 13)) (xac (xe_op op_catA (rr_cat (ds := [.int rd, .bool b, .tuple ds, pa, wa]) (ys := [.tuple []]) (by simp)) (xv 13) (xe_tup (xac (xe_tup xa0) xa0))) (xac ?_ (xac ?_ (xac ?_ xa0))))))))
    · exact xe_op op_catA (rr_cat (ds := [.int 8]) (ys := [.bool b, .tuple ds, pa, wa]) (by simp)) (xe_tup (xac xe_int xa0)) (xe_slice (xv 13) (xo_some xe_int) xo_none)
    · exact xe_op op_catA (rr_cat (ds := [.bool true]) (ys := [.bool b, .tuple ds, pa, wa]) (by simp)) (xe_tup (xac xe_bl xa0)) (xe_slice (xv 13) (xo_some xe_int) xo_none)
    · exact xe_op op_catA (rr_cat (ds := [.int rd, .int 1]) (ys := [.tuple ds, pa, wa]) (by simp)) (xe_op op_catA (rr_cat (ds := [.int rd]) (ys := [.int 1]) (by simp)) (xe_slice (xv 13) xo_none (xo_some xe_int)) (xe_tup (xac xe_int xa0))) (xe_slice (xv 13) (xo_some xe_int) xo_none)
  subst hy
  refine hs_set (i := 9) (P := Is (.list (odds3 rd b ds pa wa))) ?_ (fun y hy => ?_) sc_law.nd
  · have c7 : cutD ds none (some 7) = ds.take 7 := cut_take (n := 7)
    refine xe_op op_cat (rr_catL (ys := [des rd b (.tuple (ds.take 7)) pa wa, des rd b (.list ds) pa wa, .str "design"]) (by simp)) (xv 9) (xe_lst (xac ?_ (xac ?_ (xac xe_str xa0))))
    · exact xe_op op_catA (rr_cat (ds := [.int rd, .bool b, .tuple (ds.take 7)]) (ys := [pa, wa]) (by simp)) (xe_op op_catA (rr_cat (ds := [.int rd, .bool b]) (ys := [.tuple (ds.take 7)]) (by simp)) (xe_slice (xv 13) xo_none (xo_some xe_int)) (xe_tup (xac (xe_slice (ds := ds) (xe_ix ix_tup (rr_ixT (ix_nat (k := 2) rfl)) (xv 13) xe_int) xo_none (xo_some xe_int) c7) xa0))) (xe_slice (xv 13) (xo_some xe_int) xo_none)
    · exact xe_op op_catA (rr_cat (ds := [.int rd, .bool b, .list ds]) (ys := [pa, wa]) (by simp)) (xe_op op_catA (rr_cat (ds := [.int rd, .bool b]) (ys := [.list ds]) (by simp)) (xe_slice (xv 13) xo_none (xo_some xe_int)) (xe_tup (xac (xe_listT F.B.list (xe_ix ix_tup (rr_ixT (ix_nat (k := 2) rfl)) (xv 13) xe_int)) xa0))) (xe_slice (xv 13) (xo_some xe_int) xo_none)
  subst hy
  refine hs_set (i := 12) (P := fun x => ∃ d, x = .d d ∧ d ∈ odds3 rd b ds pa wa) (xe_oddP (m := 11) rfl (xv 9) (xe_taken (m := 11) Ft Gt (hr.mono (by decide)) RW hlen (xv 1) xe_int (by decide) (by decide))) (fun y ⟨d, hy, hd⟩ => ?_) sc_law.nd
  subst hy
  obtain ⟨hno, hpre, hsm⟩ := odds3_bad h0 h1 h2 l1 l2 hds d hd
  have TW : TabW (W1 K r sa Pt qLaw ns) Pt qLaw := w1_tab
  refine hs_set (i := 11) (xe_lstF (xaf (xe_lam0 TW TB rfl (lamL_by (N := nLaw) (sc := defScope sLaw) (by decide +kernel)) rfl rfl) (xaf (xe_lam1 TW TB rfl (lamL_by (N := nLaw) (sc := defScope sLaw) (by decide +kernel)) rfl rfl) (xaf (xe_lam1 TW TB rfl (lamL_by (N := nLaw) (sc := defScope sLaw) (by decide +kernel)) rfl rfl) (xaf (xe_lam1 TW TB rfl (lamL_by (N := nLaw) (sc := defScope sLaw) (by decide +kernel)) rfl rfl) (Ls := []) xa_nil)))) (by show 4 ≤ 100000; decide)) (fun y hy => ?_) sc_law.nd
  subst hy
  have hw : waitsG CD CW [d, .none] = .inr CD := if_neg (by show ¬ isDesignD d = true; rw [hno]; exact Bool.false_ne_true)
  have hp0 : pathsG CD CP [d, .int 0] = .inr CD := if_neg (by show ¬ isDesignD d = true; rw [hno]; exact Bool.false_ne_true)
  refine hs_ret (P := Is (.bool (true && true))) (xe_and (x := true) ?_ fun _ => xe_one ?_) (fun v x H' px rx jj => by
    subst px
    cases rx
    exact g H')
  · exact (xe_cmp op_isBl (rr_isB (x := false) (y := false)) (xe_call Gi (hr.mono (by decide)) Fi.g Fi.F.kp Fi.b (xac (xv 12) xa0) rfl hpre (by show PyData.bool (isDesignD d) = _; rw [hno])) xe_bl).is rfl
  · refine XE.is (xe_cmp op_eq (rr_eqS (x := retS 0) (y := "design")) (xe_wrong (kk := 8) F.B F.w0 Fw hr rfl (xe_ix ix_list rr_ixF (xv 11) ((xe_taken (m := 4) Ft Gt (hr.mono (by decide)) RW hlen (xv 1) xe_int (by decide) (by decide)).imp fun x ⟨k, hx, k0, k1⟩ => ⟨k.toNat, by rw [hx, Int.toNat_of_nonneg k0], by show k.toNat < 4; omega⟩)) (fun L hL => ?_)) xe_str) rfl
    rcases List.mem_cons.mp hL with rfl | hL
    · exact ⟨_, _, _, rfl, lamL_by (N := nLaw) (sc := defScope sLaw) (by decide +kernel), .zero rfl (fun _ _ _ _ _ => rfl), raises_call Goe Foe.g Foe.F.kp Foe.b (fun _ _ _ _ _ _ _ => xac (xv 12) xa0) rfl ⟨hpre, hno⟩ rfl rfl (by decide) (fun _ => rfl) (fun _ => rfl)⟩
    rcases List.mem_cons.mp hL with rfl | hL
    · exact ⟨_, _, _, rfl, lamL_by (N := nLaw) (sc := defScope sLaw) (by decide +kernel), .one _ _ "_law_a" rfl rfl (fun _ _ _ _ _ _ _ => ⟨_, rfl, rfl⟩), raises_call Gir Fir.g Fir.F.kp Fir.b (fun _ _ _ _ _ _ _ => xac (xv 12) xa0) rfl ⟨hpre, hno⟩ rfl rfl (by decide) (fun _ => rfl) (fun _ => rfl)⟩
    rcases List.mem_cons.mp hL with rfl | hL
    · exact ⟨_, _, _, rfl, lamL_by (N := nLaw) (sc := defScope sLaw) (by decide +kernel), .one _ _ "_law_b" rfl rfl (fun _ _ _ _ _ _ _ => ⟨_, rfl, rfl⟩), raises_call Gww Fww.g Fww.F.kp Fww.b (fun _ _ _ _ _ _ _ => xac (xv 12) (xac xe_non xa0)) rfl ⟨hpre, by show (0 : Int) ≤ 1000; decide, rfl⟩ hw rfl (by decide) (fun _ => rfl) (fun _ => rfl)⟩
    · rw [List.mem_singleton.mp hL]
      exact ⟨_, _, _, rfl, lamL_by (N := nLaw) (sc := defScope sLaw) (by decide +kernel), .one _ _ "_law_c" rfl rfl (fun _ _ _ _ _ _ _ => ⟨_, rfl, rfl⟩), raises_call Gwp Fwp.g Fwp.F.kp Fwp.b (fun _ _ _ _ _ _ _ => xac (xv 12) (xac xe_int xa0)) rfl ⟨hpre, by show (0 : Int) ≤ 1000; decide⟩ hp0 rfl (by decide) (fun _ => rfl) (fun _ => rfl)⟩
end
end SB

/-! The law: bad waits, bad paths. -/
namespace SB
open PySem PySem.Spec PyProof.Rows L2 LamX
/-- a design as the law has it -/
structure DesOk (rd : Int) (b : Bool) (ds : List PyData) (pa wa : PyData) : Prop where
  hr : 0 ≤ rd ∧ rd ≤ 7
  sh : shapeD (.tuple ds) = true
  od : orderB rd (.tuple ds) = true
  hp : arePathsD pa = true
  hw : areWaitsD wa = true
  okp : OkD 2 pa
  okw : OkD 2 wa
  lp : lenD pa ≤ 1000
  lw : lenD wa ≤ 1000
theorem DesOk.pl {rd : Int} {b : Bool} {ds : List PyData} {pa wa : PyData} (h : DesOk rd b ds pa wa) : arePlacesD (.int rd) (.tuple ds) = true := by
  show (shapeD (.tuple ds) && orderB rd (.tuple ds)) = true
  rw [h.sh, h.od]
  rfl
theorem DesOk.is {rd : Int} {b : Bool} {ds : List PyData} {pa wa : PyData} (h : DesOk rd b ds pa wa) : isDesignD (desL rd b ds pa wa) = true := by
  refine (des_is h.hr).trans ?_
  rw [h.pl, h.hp, h.hw]
  rfl
theorem DesOk.okds {rd : Int} {b : Bool} {ds : List PyData} {pa wa : PyData} (h : DesOk rd b ds pa wa) : OkDs 1 ds := shape_ok h.sh
theorem DesOk.len {rd : Int} {b : Bool} {ds : List PyData} {pa wa : PyData} (h : DesOk rd b ds pa wa) : ds.length = 8 := (shape_iff.mp h.sh).1
theorem DesOk.pre {rd : Int} {b : Bool} {ds : List PyData} {pa wa : PyData} (h : DesOk rd b ds pa wa) : preDes (desL rd b ds pa wa) := des_pre ((OkD.tup h.okds).mono (m := 6) (by decide)) (h.okp.mono (m := 6) (by decide)) (h.okw.mono (m := 6) (by decide)) h.lp h.lw
section
variable {X : Cx} {W : Wd} {Γ : Gm} {f C c Pt : Addr} {fd : FuncData} {p pos lpos : Pos} {params : Arguments} {body : Expr} {scope : Scope}
/-- _law_wrong(lambda: ..) -/
theorem xe_wrong0 {kk kc : Nat} (B : Blt X.mg) (WC : WrongC X.K X.mg C kc) (F : Fn X.K X.mg "_law_wrong" sWrong ["_law_work"] f fd) (hr : Room (kk + 2) X.A) (hcalm : X.calm = true) (TW : TabW W Pt (X.env.qual ++ "<lambda>")) (TB : TabB X.base X.mg c Pt) (hcode : X.env.code = .ref c)
    (L : LamL X.N X.env.scope scope) (hp : params.defaults = []) (hd : defaultsOf params X.env = ([], [])) (LB : LamB params body scope) (R : Raises X W Γ kk body scope C)
    (hg : Gl X "_law_wrong" := by rfl) (hs : starEach [.Lambda params body scope lpos] X.env = (false, eval (.Lambda params body scope lpos) X.env) :: starEach [] X.env := by rfl) : XE X W Γ (.Call (.Name "_law_wrong" p) [.Lambda params body scope lpos] [] pos) (Is (.str (retS kc))) :=
  xe_wrong (Ls := [lamOf X params body scope]) B WC F hr hcalm ((xe_lam0 TW TB hcode L hp hd).imp fun x hx => ⟨_, hx, List.mem_singleton.mpr rfl⟩) (fun L' hL => by
    rw [List.mem_singleton.mp hL]
    exact ⟨_, _, _, rfl, L, LB, R⟩) hg hs
end
section
variable {P : Program} {w : World} {K : Frag} {mg : Str → Option Value} {base : Heap} {CD CW CP fa c Pt r sa : Addr} {A : Around} {outer : List Env} {s : Shared} {H : Hp} {E : XK} {ns : List Int} {D : Ends}
theorem law_waits (F : LawF P w K mg base CD CW CP) (hr : Room 10 (cxL P w K mg base fa c A outer s H E).A) (hlen : ns.length ≤ 63) (hup : UpOk K r sa ns) (TB : TabB base mg c Pt) {k j mv pl re wt pt od fi bad tu : Option Dv} {rd : Int} {b : Bool} {ds : List PyData} {pa wa : PyData}
    (hd : DesOk rd b ds pa wa) (g : GT D) :
    HS (cxL P w K mg base fa c A outer s H E) (Tp K (W1 K r sa Pt qLaw ns) (gL sa r k j mv pl re wt pt od fi none bad (some (.d (desL rd b ds pa wa))) tu)) (fromL 15) D := by
  obtain ⟨ft, fdt, Ft⟩ := F.taken
  have Gt : FnOk P w K mg base CX0 1 ft fdt ["_law_row", "_law_many"] (spTakenR K) := ok_takenR F.B Ft
  obtain ⟨fi', fdi, Fi, Gi⟩ := F.is_
  obtain ⟨fw, fdw, Fw⟩ := F.wrong
  obtain ⟨fww, fdww, Fww, Gww⟩ := F.ww
  have RW : RowW K (W1 K r sa Pt qLaw ns) r sa ns := w1_row hup
  have TW : TabW (W1 K r sa Pt qLaw ns) Pt qLaw := w1_tab
  refine hs_set (i := 10) (P := Is (.tuple [.str "order", .str "set", .str "sum", .int 1])) (xe_tup (xac xe_str (xac xe_str (xac xe_str (xac xe_int xa0))))) (fun y hy => ?_) sc_law.nd
  subst hy
  refine hs_set (i := 9) (P := Is (.list odds2)) ?_ (fun y hy => ?_) sc_law.nd
  · refine xe_lst (xac xe_non (xac (xe_lst xa0) (xac (xe_tup (xac (xv 10) (xac (xv 10) xa0))) (xac (xe_tup (xac (xe_tup (xac xe_str (xac xe_str (xac xe_str (xac xe_int xa0))))) (xac (xv 10) xa0))) (xac (xe_tup (xac (xe_tup (xac xe_str (xac xe_str (xac xe_str (xac xe_int xa0))))) xa0)) (xac (xe_tup (xac (xe_slice (xv 10) xo_none (xo_some xe_int)) xa0)) (xac (xe_tup (xac (xe_lst xa0) xa0)) (xac (xe_tup (xac xe_non xa0)) xa0))))))))
  subst hy
  refine hs_set (i := 12) (P := fun x => ∃ d, x = .d d ∧ d ∈ odds2) (xe_oddP (m := 8) rfl (xv 9) (xe_taken (m := 8) Ft Gt (hr.mono (by decide)) RW hlen (xv 1) xe_int (by decide) (by decide))) (fun y ⟨d, hy, hdm⟩ => ?_) sc_law.nd
  subst hy
  obtain ⟨hno, hok, hlen'⟩ := odds2_bad d hdm
  have hno2 : isDesignD (.tuple [.int rd, .bool b, .tuple ds, pa, d]) = false := by
    refine (des_is hd.hr).trans ?_
    rw [hno, Bool.and_false, Bool.and_false]
  have hpre2 : preDes (.tuple [.int rd, .bool b, .tuple ds, pa, d]) := des_pre ((OkD.tup hd.okds).mono (m := 6) (by decide)) (hd.okp.mono (m := 6) (by decide)) (hok.mono (m := 6) (by decide)) hd.lp hlen'
  have hg : waitsG CD CW [desL rd b ds pa wa, d] = .inr CW := (if_pos hd.is).trans (if_neg (by show ¬ areWaitsD d = true; rw [hno]; exact Bool.false_ne_true))
  refine hs_when (b := false) ((xw_or (x := false) (y := false) ?_ fun _ => xw_or1 ?_).t) (fun z => nomatch z) fun _ => law_end F hr hlen hup TB hd.okds hd.okp hd.okw hd.lp hd.lw hd.len g
  · refine XT.is (xt_cmp op_notBl (rr_notB (x := false) (y := false)) (xe_call Gi (hr.mono (by decide)) Fi.g Fi.F.kp Fi.b (xac (xe_op op_catA (rr_cat (ds := [.int rd, .bool b, .tuple ds, pa]) (ys := [d]) (by simp)) (xe_slice (xv 13) xo_none (xo_some xe_int)) (xe_tup (xac (xv 12) xa0))) xa0) rfl hpre2 ?_) xe_bl) rfl
    exact congrArg PyData.bool hno2
  · refine XT.is (xt_cmp op_ne (rr_neS (x := retS 1) (y := "waits")) ?_ xe_str) (by decide +kernel)
    exact xe_wrong0 (kk := 8) F.B F.w1 Fw hr rfl TW TB rfl (lamL_by (N := nLaw) (sc := defScope sLaw) (by decide +kernel)) rfl rfl (.zero rfl (fun _ _ _ _ _ => rfl)) (raises_call Gww Fww.g Fww.F.kp Fww.b (fun _ _ _ _ _ _ _ => xac (xv 13) (xac (xv 12) xa0)) rfl ⟨hd.pre, hlen', hok.sh (by decide)⟩ hg rfl (by decide) (fun _ => rfl) (fun _ => rfl))
theorem law_paths (F : LawF P w K mg base CD CW CP) (hr : Room 10 (cxL P w K mg base fa c A outer s H E).A) (hlen : ns.length ≤ 63) (hup : UpOk K r sa ns) (TB : TabB base mg c Pt) {k j mv pl re wt pt od bad tu : Option Dv} {rd : Int} {b : Bool} {ds : List PyData} {pa wa : PyData}
    (hd : DesOk rd b ds pa wa) (g : GT D) :
    HS (cxL P w K mg base fa c A outer s H E) (Tp K (W1 K r sa Pt qLaw ns) (gL sa r k j mv pl re wt pt od none none bad (some (.d (desL rd b ds pa wa))) tu)) (fromL 12) D := by
  obtain ⟨ft, fdt, Ft⟩ := F.taken
  have Gt : FnOk P w K mg base CX0 1 ft fdt ["_law_row", "_law_many"] (spTakenR K) := ok_takenR F.B Ft
  obtain ⟨fi', fdi, Fi, Gi⟩ := F.is_
  obtain ⟨fw, fdw, Fw⟩ := F.wrong
  obtain ⟨fwp, fdwp, Fwp, Gwp⟩ := F.wp
  have RW : RowW K (W1 K r sa Pt qLaw ns) r sa ns := w1_row hup
  have TW : TabW (W1 K r sa Pt qLaw ns) Pt qLaw := w1_tab
  refine hs_set (i := 9) (P := Is (.list odds1)) ?_ (fun y hy => ?_) sc_law.nd
  · refine xe_lst (xac xe_non (xac (xe_lst xa0) (xac (xe_tup (xac (xe_tup (xac xe_int (xac xe_int xa0))) xa0)) (xac (xe_tup (xac (xe_tup (xac xe_int (xac xe_int xa0))) xa0)) (xac (xe_tup (xac (xe_tup (xac xe_int (xac xe_int xa0))) xa0)) (xac (xe_tup (xac (xe_tup (xac xe_int (xac xe_int xa0))) (xac (xe_tup (xac xe_int (xac xe_int xa0))) xa0))) (xac (xe_tup (xac (xe_tup (xac xe_int (xac xe_int xa0))) (xac (xe_tup (xac xe_int (xac xe_int xa0))) xa0))) (xac (xe_tup (xac (xe_tup (xac xe_int xa0)) xa0)) (xac (xe_tup (xac (xe_lst (xac xe_int (xac xe_int xa0))) xa0)) (xac (xe_tup (xac (xe_tup (xac xe_bl (xac xe_int xa0))) xa0)) xa0))))))))))
  subst hy
  refine hs_set (i := 12) (P := fun x => ∃ d, x = .d d ∧ d ∈ odds1) (xe_oddP (m := 10) rfl (xv 9) (xe_taken (m := 10) Ft Gt (hr.mono (by decide)) RW hlen (xv 1) xe_int (by decide) (by decide))) (fun y ⟨d, hy, hdm⟩ => ?_) sc_law.nd
  subst hy
  obtain ⟨hno, hok, hlen'⟩ := odds1_bad d hdm
  have hno2 : isDesignD (.tuple [.int rd, .bool b, .tuple ds, d, .tuple []]) = false := by
    refine (des_is hd.hr).trans ?_
    rw [hno, Bool.false_and, Bool.and_false]
  have hpre2 : preDes (.tuple [.int rd, .bool b, .tuple ds, d, .tuple []]) := des_pre ((OkD.tup hd.okds).mono (m := 6) (by decide)) (hok.mono (m := 6) (by decide)) (OkD.tup (n := 5) .nil) hlen' (by show (0 : Int) ≤ 1000; decide)
  have hg : pathsG CD CP [desL rd b ds pa wa, d] = .inr CP := (if_pos hd.is).trans (if_neg (by show ¬ arePathsD d = true; rw [hno]; exact Bool.false_ne_true))
  refine hs_when (b := false) ((xw_or (x := false) (y := false) ?_ fun _ => xw_or1 ?_).t) (fun z => nomatch z) fun _ => law_waits F hr hlen hup TB hd g
  · refine XT.is (xt_cmp op_notBl (rr_notB (x := false) (y := false)) (xe_call Gi (hr.mono (by decide)) Fi.g Fi.F.kp Fi.b (xac (xe_op op_catA (rr_cat (ds := [.int rd, .bool b, .tuple ds]) (ys := [d, .tuple []]) (by simp)) (xe_slice (xv 13) xo_none (xo_some xe_int)) (xe_tup (xac (xv 12) (xac (xe_tup xa0) xa0)))) xa0) rfl hpre2 ?_) xe_bl) rfl
    exact congrArg PyData.bool hno2
  · refine XT.is (xt_cmp op_ne (rr_neS (x := retS 2) (y := "paths")) ?_ xe_str) (by decide +kernel)
    exact xe_wrong0 (kk := 8) F.B F.w2 Fw hr rfl TW TB rfl (lamL_by (N := nLaw) (sc := defScope sLaw) (by decide +kernel)) rfl rfl (.zero rfl (fun _ _ _ _ _ => rfl)) (raises_call Gwp Fwp.g Fwp.F.kp Fwp.b (fun _ _ _ _ _ _ _ => xac (xv 13) (xac (xv 12) xa0)) rfl ⟨hd.pre, hlen'⟩ hg rfl (by decide) (fun _ => rfl) (fun _ => rfl))
end
end SB

/-! The law: its first half. -/
namespace SB
open PySem PySem.Spec PyProof.Rows L2 LamX
theorem paired_pairs : ∀ {l es : List PyData}, Paired (fun _ e => ∃ q : Int × Int, e = pairD q ∧ 1 ≤ q.1 ∧ q.1 ≤ 7 ∧ q.2 = 0) l es → ∃ qs : List (Int × Int), es = qs.map pairD ∧ qs.length = l.length ∧ ∀ q ∈ qs, 1 ≤ q.1 ∧ q.1 ≤ 7 ∧ q.2 = 0
  | _, _, .nil => ⟨[], rfl, rfl, fun _ h => absurd h (by simp)⟩
  | _, _, .cons ⟨q, e, h⟩ t => by
    obtain ⟨qs, e1, e2, h3⟩ := paired_pairs t
    refine ⟨q :: qs, by rw [e, e1]; rfl, by rw [List.length_cons, List.length_cons, e2], fun p hp => ?_⟩
    rcases List.mem_cons.mp hp with rfl | hp
    · exact h
    · exact h3 p hp
section
variable {P : Program} {w : World} {K : Frag} {mg : Str → Option Value} {base : Heap} {CD CW CP fa c Pt r sa : Addr} {A : Around} {outer : List Env} {s : Shared} {H : Hp} {E : XK} {ns : List Int} {D : Ends}
theorem law_mid (F : LawF P w K mg base CD CW CP) (hr : Room 10 (cxL P w K mg base fa c A outer s H E).A) (hlen : ns.length ≤ 63) (hup : UpOk K r sa ns) (TB : TabB base mg c Pt) {k j mv pl re : Option Dv} {rd : Int} {b : Bool} {ds : List PyData} {pa wa : PyData}
    (hd : DesOk rd b ds pa wa) (g : GT D) :
    HS (cxL P w K mg base fa c A outer s H E) (Tp K (W1 K r sa Pt qLaw ns) (gL sa r k j mv pl re none none none none none none (some (.d (desL rd b ds pa wa))) none)) (fromL 10) D := by
  obtain ⟨ft, fdt, Ft⟩ := F.taken
  have Gt : FnOk P w K mg base CX0 1 ft fdt ["_law_row", "_law_many"] (spTakenR K) := ok_takenR F.B Ft
  obtain ⟨fm, fdm, Fm, Gm⟩ := F.more
  obtain ⟨fww, fdww, Fww, Gww⟩ := F.ww
  obtain ⟨fwp, fdwp, Fwp, Gwp⟩ := F.wp
  have RW : RowW K (W1 K r sa Pt qLaw ns) r sa ns := w1_row hup
  have hu : (cxL P w K mg base fa c A outer s H E).A.units + 64 < cLine := hr.units
  refine hs_par (i := 7) (j := 8) (Pa := fun x => ∃ w2, x = .d (.tuple (tupsD w2)) ∧ WaitsOk w2) (Pb := fun x => ∃ l2, x = .d (.tuple (tupsD l2)) ∧ PathsOk l2) rfl sc_law.nd ?_ ?_ (fun y1 y2 ⟨w2, hy1, hw2⟩ ⟨l2, hy2, hl2⟩ => ?_) (by decide)
  · exact xe_row Gm (hr.mono (by decide)) Fm.g Fm.F.kp Fm.b RW hlen (xa_row (xv 1) (xac (xe_tup xa0) (xac xe_int xa0))) (fun ds h => by subst h; exact ⟨rfl, 9, rfl, by decide, by decide⟩) (fun ds x h hx => hx)
  · refine xe_callTy (Ps := fun xs => ∃ x, xs = [x] ∧ ∃ lss, x = .d (.list (tupsD lss)) ∧ PathsOk lss) call_tuple_of (RRC.of fun xs ⟨x, e1, lss, e2, h3⟩ => ?_) F.B.tuple (by decide +kernel) (xa_one ?_)
    · subst e2
      subst e1
      exact rr_tupleL.post fun x hx => ⟨lss, hx, h3⟩
    · refine xe_sortedSet rfl hu F.B (XE.imp (xe_lcR (lo := 0) (m := 3) (j := 14) (R := fun _ e => ∃ q : Int × Int, e = pairD q ∧ 1 ≤ q.1 ∧ q.1 ≤ 7 ∧ q.2 = 0) rfl sc_law.nd ?_ (blkOk_by (N := nLaw) (sc := defScope sLaw) (by decide +kernel)) (fun _ _ _ _ _ => pg_name (i := 14) sc_law.nd rfl (Or.inl rfl)) ?_ ?_ (by decide)) ?_)
      · exact xr_1 F.B.range xe_int (by decide)
      · intro s1 H1 C cl fp i hi
        refine XE.imp (xe_tupP (Ps := fun ds => ∃ d r, ds = d :: r ∧ (∃ k, d = .int k ∧ ∃ i j, i = (1 : Int) ∧ (0 ≤ j ∧ j < 7) ∧ k = i + j) ∧ ∃ d2 r2, r = d2 :: r2 ∧ d2 = .int 0 ∧ r2 = []) ?_ ?_) ?_
        · refine xa_P (XE.imp (xe_op op_add (rr_I0P (A := fun z => z = 1) (B := fun z => 0 ≤ z ∧ z < 7)) (XE.imp xe_int fun x hx => ⟨1, hx, rfl⟩) ?_) ?_) (xa_P (XE.d xe_int) xa_P0)
          · refine XE.imp (xe_taken (m := 7) Ft Gt (hr.mono (by decide)) RW hlen (xv 1) xe_int (by decide) (by decide)) fun x ⟨k, hx, k0, k1⟩ => ⟨k, hx, k0, k1⟩
          rintro x ⟨k, hx, i, j, hi, hj, hk⟩
          exact ⟨_, hx, k, rfl, i, j, hi, hj, hk⟩
        · rintro ds ⟨_, _, rfl, _, _, _, rfl, _, rfl⟩
          exact (by decide : 2 ≤ 100000)
        · rintro x ⟨ds, hx, _, _, rfl, ⟨k, rfl, i, j, rfl, hj, rfl⟩, _, _, rfl, rfl, rfl⟩
          exact ⟨_, hx, (1 + j, 0), rfl, by show 1 ≤ 1 + j; omega, by show 1 + j ≤ 7; omega, rfl⟩
      · rintro d e ⟨q, rfl, _⟩
        rfl
      · rintro x ⟨es, hx, hp⟩
        obtain ⟨qs, rfl, h1, h2⟩ := paired_pairs hp
        exact ⟨qs, hx, by rw [h1, rgD_len]; exact Nat.le_refl 3, h2⟩
  subst hy1 hy2
  have hww : waitsG CD CW [desL rd b ds pa wa, .tuple (tupsD w2)] = .inl (.tuple [.int rd, .bool b, .tuple ds, pa, .tuple (tupsD w2)]) := (if_pos hd.is).trans (if_pos hw2.is)
  have hwp : pathsG CD CP [desL rd b ds pa wa, .tuple (tupsD l2)] = .inl (.tuple [.int rd, .bool b, .tuple ds, .tuple (tupsD l2), wa]) := (if_pos hd.is).trans (if_pos hl2.is)
  have ht := OkD.tup hd.okds
  have lw2 : lenD (.tuple (tupsD w2)) ≤ 1000 := tups_len (Nat.le_trans hw2.len (by decide))
  have ll2 : lenD (.tuple (tupsD l2)) ≤ 1000 := tups_len (Nat.le_trans hl2.len (by decide))
  have ok1 : OkD 3 (.tuple [.int rd, .bool b, .tuple ds, pa, .tuple (tupsD w2)]) := des_ok ht hd.okp hw2.ok
  have ok2 : OkD 3 (.tuple [.int rd, .bool b, .tuple ds, .tuple (tupsD l2), wa]) := des_ok ht hl2.ok hd.okw
  refine hs_when (b := false) ((xw_or (x := false) (y := false) ?_ fun _ => xw_or1 ?_).t) (fun z => nomatch z) fun _ => law_paths F hr hlen hup TB hd g
  · refine XT.is (xt_cmp (op_neD hu) (rr_neD (ok1.sh (by decide)) (ok1.sh (by decide))) (xe_callN Gww (hr.mono (by decide)) Fww.g Fww.F.kp Fww.b (xac (xv 13) (xac (xv 7) xa0)) rfl ⟨hd.pre, lw2, hw2.ok.sh (by decide)⟩ hww) (xe_op op_catA (rr_cat (ds := [.int rd, .bool b, .tuple ds, pa]) (ys := [.tuple (tupsD w2)]) (by simp)) (xe_slice (xv 13) xo_none (xo_some xe_int)) (xe_tup (xac (xv 7) xa0)))) ?_
    rw [SeqAt.eqv_refl _ ok1.1]
    rfl
  · refine XT.is (xt_cmp (op_neD hu) (rr_neD (ok2.sh (by decide)) (ok2.sh (by decide))) (xe_callN Gwp (hr.mono (by decide)) Fwp.g Fwp.F.kp Fwp.b (xac (xv 13) (xac (xv 8) xa0)) rfl ⟨hd.pre, ll2⟩ hwp) (xe_op op_catA (rr_cat (ds := [.int rd, .bool b, .tuple ds]) (ys := [.tuple (tupsD l2), wa]) (by simp)) (xe_slice (xv 13) xo_none (xo_some xe_int)) (xe_tup (xac (xv 8) (xac (xe_ix ix_tup (rr_ixT (ix_nat (k := 4) rfl)) (xv 13) xe_int) xa0))))) ?_
    rw [SeqAt.eqv_refl _ ok2.1]
    rfl
end
end SB

/-! The law: its start. -/
namespace SB
open PySem PySem.Spec PyProof.Rows L2 LamX
theorem manyN_le {k : Nat} (h : k < 8) : 0 < manyN k ∧ manyN k ≤ 3 := by
  match k, h with
  | 0, _ => decide
  | 1, _ => decide
  | 2, _ => decide
  | 3, _ => decide
  | 4, _ => decide
  | 5, _ => decide
  | 6, _ => decide
  | 7, _ => decide
section
variable {P : Program} {w : World} {K : Frag} {mg : Str → Option Value} {base : Heap} {CD CW CP fa c Pt r sa : Addr} {A : Around} {outer : List Env} {s : Shared} {H : Hp} {E : XK} {ns : List Int} {D : Ends}
theorem law_move (F : LawF P w K mg base CD CW CP) (hr : Room 10 (cxL P w K mg base fa c A outer s H E).A) (hlen : ns.length ≤ 63) (hup : UpOk K r sa ns) (TB : TabB base mg c Pt) {rd : Int} {b : Bool} {ds : List PyData} {pa wa : PyData}
    (hd : DesOk rd b ds pa wa) (g : GT D) :
    HS (cxL P w K mg base fa c A outer s H E) (Tp K (W1 K r sa Pt qLaw ns) (gL sa r none none none none none none none none none none none (some (.d (desL rd b ds pa wa))) none)) (fromL 4) D := by
  obtain ⟨ft, fdt, Ft⟩ := F.taken
  have Gt : FnOk P w K mg base CX0 1 ft fdt ["_law_row", "_law_many"] (spTakenR K) := ok_takenR F.B Ft
  obtain ⟨fi', fdi, Fi, Gi⟩ := F.is_
  obtain ⟨fp, fdp, Fp⟩ := F.pick
  have Gp : FnOk P w K mg base CX0 2 fp fdp ["_law_row", "_law_kinds"] (spPick K) := ok_pick F.B Ft Fp
  obtain ⟨fl, fdl, Fa⟩ := F.alike
  have Ga : FnOk P w K mg base CX0 1 fl fdl ["_law_found", "_law_due"] (spAlike K) := ok_alike F.B Fa
  obtain ⟨ff, fdf, Ff⟩ := F.fits
  have Gf : FnOk P w K mg base CX0 1 ff fdf ["_law_read", "_law_places"] (spFits K) := ok_fits F.B Ff
  have RW : RowW K (W1 K r sa Pt qLaw ns) r sa ns := w1_row hup
  have hds := hd.len
  refine hs_set (i := 2) (P := Dr 8) (xe_taken (m := 8) Ft Gt (hr.mono (by decide)) RW hlen (xv 1) xe_int (by decide) (by decide)) (fun y ⟨kz, hy, k0, k1⟩ => ?_) sc_law.nd
  subst hy
  obtain ⟨kn, rfl⟩ : ∃ n : Nat, kz = n := ⟨kz.toNat, (Int.toNat_of_nonneg k0).symm⟩
  have hkn : kn < 8 := by omega
  have hit : okPl kn (ds.getD kn .none) = true := (shape_iff.mp hd.sh).2 kn hkn
  have hat : ds[kn]? = some (ds.getD kn .none) := by
    rw [List.getD_eq_getElem?_getD, List.getElem?_eq_getElem (by omega)]
    rfl
  obtain ⟨es, hes⟩ := okPl_tup hit
  rw [hes] at hit hat
  have hem := (okPl_iff.mp hit).1
  have hmk := manyN_le hkn
  have he3 : 0 < es.length ∧ es.length ≤ 3 := by omega
  refine hs_set (i := 3) (P := Dr (es.length : Int)) (xe_taken (m := (es.length : Int)) Ft Gt (hr.mono (by decide)) RW hlen (xv 1) (xe_len (.inl rfl) F.B.len (xe_ix ix_tup (rr_ixT (ix_nat hat)) (xe_ix ix_tup (rr_ixT (ix_nat (k := 2) rfl)) (xv 13) xe_int) (xv 2))) (by omega) (by omega)) (fun y ⟨jz, hy, j0, j1⟩ => ?_) sc_law.nd
  subst hy
  obtain ⟨jn, rfl⟩ : ∃ n : Nat, jz = n := ⟨jz.toNat, (Int.toNat_of_nonneg j0).symm⟩
  have hjn : jn < es.length := by omega
  have cd1 : cutD es (some ((jn : Int) + 1)) none = es.drop (jn + 1) := cut_drop (n := jn + 1)
  have cd2 : cutD ds (some ((kn : Int) + 1)) none = ds.drop (kn + 1) := cut_drop (n := kn + 1)
  refine hs_set (i := 4) (P := fun x => ∃ t : Int, x = .d (.tuple (es.take jn ++ [.int t] ++ es.drop (jn + 1))) ∧ 0 ≤ t ∧ t ≤ 7) ?_ (fun y ⟨t, hy, t0, t1⟩ => ?_) sc_law.nd
  · refine xe_op op_catA (Pa := fun x => ∃ t : Int, x = .d (.tuple (es.take jn ++ [.int t])) ∧ 0 ≤ t ∧ t ≤ 7) (Pb := Is (.tuple (es.drop (jn + 1)))) (RR2.of fun x y ⟨t, hx, ht⟩ hy => ?_) (xe_op op_catA (Pa := Is (.tuple (es.take jn))) (Pb := fun x => ∃ t : Int, x = .d (.tuple [.int t]) ∧ 0 ≤ t ∧ t ≤ 7) (RR2.of fun x y hx ⟨t, hy, ht⟩ => ?_) ?_ ?_) ?_
    · subst hx hy
      exact (rr_cat (by rw [List.length_append, List.length_take, List.length_drop]; show min jn es.length + 1 + (es.length - (jn + 1)) ≤ 100000; omega)).post fun z hz => ⟨t, hz, ht⟩
    · subst hx hy
      exact (rr_cat (by rw [List.length_take]; show min jn es.length + 1 ≤ 100000; omega)).post fun z hz => ⟨t, hz, ht⟩
    · exact xe_slice (ds := es) (xe_ix ix_tup (rr_ixT (ix_nat hat)) (xe_ix ix_tup (rr_ixT (ix_nat (k := 2) rfl)) (xv 13) xe_int) (xv 2)) xo_none (xo_some (xv 3)) cut_take
    · refine XE.imp (xe_tupP (Ps := fun ds => ∃ d r, ds = d :: r ∧ (∃ k, d = .int k ∧ 0 ≤ k ∧ k < 8) ∧ r = []) (xa_P (XE.dr (xe_taken (m := 8) Ft Gt (hr.mono (by decide)) RW hlen (xv 1) xe_int (by decide) (by decide))) xa_P0) ?_) ?_
      · rintro ds ⟨_, _, rfl, _, rfl⟩
        exact (by decide : 1 ≤ 100000)
      · rintro x ⟨ds, hx, _, _, rfl, ⟨t, rfl, t0, t1⟩, rfl⟩
        exact ⟨t, hx, t0, by omega⟩
    · exact xe_slice (ds := es) (xe_ix ix_tup (rr_ixT (ix_nat hat)) (xe_ix ix_tup (rr_ixT (ix_nat (k := 2) rfl)) (xv 13) xe_int) (xv 2)) (xo_some (xe_op op_add rr_I0 (xv 3) xe_int)) xo_none cd1
  subst hy
  generalize hmv : es.take jn ++ [PyData.int t] ++ es.drop (jn + 1) = mv
  have hokm : okPl kn (.tuple mv) = true := by
    rw [← hmv]
    exact move_in hit hjn ⟨t0, t1⟩
  have hsh2 := shape_move (m := .tuple mv) hd.sh hkn hokm
  refine hs_set (i := 5) (P := Is (.tuple (ds.take kn ++ [.tuple mv] ++ ds.drop (kn + 1)))) ?_ (fun y hy => ?_) sc_law.nd
  · refine xe_op op_catA (rr_cat (ds := ds.take kn ++ [.tuple mv]) (ys := ds.drop (kn + 1)) ?_) (xe_op op_catA (rr_cat (ds := ds.take kn) (ys := [.tuple mv]) ?_) ?_ (xe_tup (xac (xv 4) xa0))) ?_
    · rw [List.length_append, List.length_take, List.length_drop]
      show min kn ds.length + 1 + (ds.length - (kn + 1)) ≤ 100000
      omega
    · rw [List.length_take]
      show min kn ds.length + 1 ≤ 100000
      omega
    · exact xe_slice (ds := ds) (xe_ix ix_tup (rr_ixT (ix_nat (k := 2) rfl)) (xv 13) xe_int) xo_none (xo_some (xv 2)) cut_take
    · exact xe_slice (ds := ds) (xe_ix ix_tup (rr_ixT (ix_nat (k := 2) rfl)) (xv 13) xe_int) (xo_some (xe_op op_add rr_I0 (xv 2) xe_int)) xo_none cd2
  subst hy
  generalize ds.take kn ++ [PyData.tuple mv] ++ ds.drop (kn + 1) = p2 at hsh2
  refine hs_set (i := 6) (P := fun x => ∃ z : Int, x = .d (.int z) ∧ 0 ≤ z ∧ z ≤ 7) ?_ (fun y ⟨z, hy, z0, z1⟩ => ?_) sc_law.nd
  · refine xe_row (Ps := fun ds => ∃ z1 z2 : Int, ds = [.list [.int z1, .int z2]] ∧ (0 ≤ z1 ∧ z1 ≤ 7) ∧ 0 ≤ z2 ∧ z2 ≤ 7) Gp (hr.mono (by decide)) Fp.g Fp.F.kp Fp.b RW hlen ?_ (fun ds ⟨z1, z2, e, _⟩ => ?_) (fun ds x ⟨z1, z2, e, h1, h2⟩ ⟨zs, d, e1, hm, hx⟩ => ?_)
    · refine XA.imp (xa_cons (xv 1) (xa_P (Pa := fun d => ∃ z1 z2 : Int, d = .list [.int z1, .int z2] ∧ (0 ≤ z1 ∧ z1 ≤ 7) ∧ 0 ≤ z2 ∧ z2 ≤ 7) (XE.imp (xe_lstP (Ps := fun ds => ∃ d r, ds = d :: r ∧ d = .int rd ∧ ∃ d2 r2, r = d2 :: r2 ∧ (∃ k, d2 = .int k ∧ 0 ≤ k ∧ k < 8) ∧ r2 = []) (xa_P (XE.d (xe_ix ix_tup (rr_ixT (ix_nat (k := 0) rfl)) (xv 13) xe_int)) (xa_P (XE.dr (xe_taken (m := 8) Ft Gt (hr.mono (by decide)) RW hlen (xv 1) xe_int (by decide) (by decide))) xa_P0)) ?_) ?_) xa_P0)) ?_
      · rintro ds ⟨_, _, rfl, _, _, _, rfl, _, rfl⟩
        exact (by decide : 2 ≤ 100000)
      · rintro x ⟨ds, hx, _, _, rfl, rfl, _, _, rfl, ⟨k, rfl, k0, k1⟩, rfl⟩
        exact ⟨_, hx, rd, k, rfl, hd.hr, k0, by omega⟩
      · rintro xs ⟨x, r', rfl, rfl, ds, rfl, d, r2, rfl, ⟨z1, z2, rfl, h⟩, rfl⟩
        exact ⟨_, rfl, z1, z2, rfl, h⟩
    · subst e
      exact ⟨rfl, _, rfl, by show 0 < 2; decide, by show 2 < 100000; decide⟩
    · subst e
      have e1 : PyData.list [.int z1, .int z2] = .list zs := e1
      cases e1
      rcases List.mem_cons.mp hm with rfl | hm
      · exact ⟨z1, hx, h1⟩
      · rw [List.mem_singleton.mp hm] at hx
        exact ⟨z2, hx, h2⟩
  subst hy
  have hq : isDesignD (.tuple [.int z, .bool b, .tuple p2, pa, wa]) = orderB z (.tuple p2) := by
    refine (des_is ⟨z0, z1⟩).trans ?_
    rw [hd.hp, hd.hw, Bool.and_self, Bool.and_true]
    show (shapeD (.tuple p2) && orderB z (.tuple p2)) = _
    rw [hsh2, Bool.true_and]
  have hpre2 : preDes (.tuple [.int z, .bool b, .tuple p2, pa, wa]) := des_pre ((OkD.tup (shape_ok hsh2)).mono (m := 6) (by decide)) (hd.okp.mono (m := 6) (by decide)) (hd.okw.mono (m := 6) (by decide)) hd.lp hd.lw
  refine hs_when (b := false) ((xt_not (xt_val (x := true) ?_)).is rfl) (fun z => nomatch z) fun _ => law_mid F hr hlen hup TB hd g
  refine xe_call (ds := [.bool (orderB z (.tuple p2)), .bool (orderB z (.tuple p2))]) Ga (hr.mono (by decide)) Fa.g Fa.F.kp Fa.b (xac ?_ (xac ?_ xa0)) rfl ⟨_, _, rfl⟩ ?_
  · refine xe_call (ds := [.tuple [.int z, .bool b, .tuple p2, pa, wa]]) Gi (hr.mono (by decide)) Fi.g Fi.F.kp Fi.b (xac ?_ xa0) rfl hpre2 (congrArg PyData.bool hq)
    exact xe_op op_catA (rr_cat (ds := [.int z, .bool b, .tuple p2]) (ys := [pa, wa]) (by simp)) (xe_tup (xac (xv 6) (xac (xe_ix ix_tup (rr_ixT (ix_nat (k := 1) rfl)) (xv 13) xe_int) (xac (xv 5) xa0)))) (xe_slice (xv 13) (xo_some xe_int) xo_none)
  · exact xe_call Gf (hr.mono (by decide)) Ff.g Ff.F.kp Ff.b (xac (xv 6) (xac (xv 5) xa0)) rfl ⟨⟨z, rfl⟩, hsh2⟩
  · show PyData.bool (orderB z (.tuple p2) == orderB z (.tuple p2)) = _
    rw [beq_self_eq_true]
end
end SB

/-! The law as a def. -/
namespace SB
open PySem PySem.Spec PyProof.Rows L2 LamX
section
variable {P : Program} {w : World} {K : Frag} {mg : Str → Option Value} {base : Heap} {CD CW CP fa c Pt r sa : Addr} {A : Around} {outer : List Env} {s : Shared} {H : Hp} {E : XK} {ns : List Int} {D : Ends}
theorem law_made (F : LawF P w K mg base CD CW CP) (hr : Room 10 (cxL P w K mg base fa c A outer s H E).A) (hlen : ns.length ≤ 63) (hup : UpOk K r sa ns) (TB : TabB base mg c Pt) (g : GT D) :
    HS (cxL P w K mg base fa c A outer s H E) (Tp K (W1 K r sa Pt qLaw ns) (gL sa r none none none none none none none none none none none none none)) (fromL 1) D := by
  obtain ⟨fi', fdi, Fi, Gi⟩ := F.is_
  obtain ⟨fd', fdd, Fd, Gd⟩ := F.des
  obtain ⟨fm, fdm, Fm, Gm⟩ := F.more
  have RW : RowW K (W1 K r sa Pt qLaw ns) r sa ns := w1_row hup
  refine hs_set (i := 13) (P := PDes) (xe_row Gd (hr.mono (by decide)) Fd.g Fd.F.kp Fd.b RW hlen (xa_row (xv 1) xa0) (fun ds h => by subst h; exact ⟨rfl, trivial⟩) (fun ds x h hx => hx)) (fun y ⟨rd, b, ds, lss, hy, r0, r7, hsh, hor, hpa⟩ => ?_) sc_law.nd
  subst hy
  refine hs_set (i := 13) (P := fun x => ∃ wss, x = .d (desL rd b ds (.tuple (tupsD lss)) (.tuple (tupsD wss))) ∧ WaitsOk wss) (xe_op op_catA (Pa := Is (.tuple [.int rd, .bool b, .tuple ds, .tuple (tupsD lss)])) (Pb := fun x => ∃ wss, x = .d (.tuple [.tuple (tupsD wss)]) ∧ WaitsOk wss) (RR2.of fun x y hx ⟨wss, hy, hw⟩ => ?_) (xe_slice (xv 13) xo_none (xo_some xe_int)) ?_) (fun y ⟨wss, hy, hw⟩ => ?_) sc_law.nd
  · subst hx hy
    exact (rr_cat (by simp)).post fun z hz => ⟨wss, hz, hw⟩
  · refine XE.imp (xe_tupP (Ps := fun ds => ∃ d r, ds = d :: r ∧ (∃ wss, d = .tuple (tupsD wss) ∧ WaitsOk wss) ∧ r = []) (xa_P (XE.imp (xe_row (P' := PMore) Gm (hr.mono (by decide)) Fm.g Fm.F.kp Fm.b RW hlen (xa_row (xv 1) (xac (xe_tup xa0) (xac xe_int xa0))) (fun ds h => by subst h; exact ⟨rfl, 8, rfl, by decide, by decide⟩) (fun ds x h hx => hx)) fun x ⟨wss, hx, hw⟩ => ⟨_, hx, wss, rfl, hw⟩) xa_P0) ?_) ?_
    · rintro ds ⟨_, _, rfl, _, rfl⟩
      exact (by decide : 1 ≤ 100000)
    · rintro x ⟨ds, hx, _, _, rfl, ⟨wss, rfl, hw⟩, rfl⟩
      exact ⟨wss, hx, hw⟩
  subst hy
  have hd : DesOk rd b ds (.tuple (tupsD lss)) (.tuple (tupsD wss)) := ⟨⟨r0, r7⟩, hsh, hor, hpa.is, hw.is, hpa.ok, hw.ok, tups_len (Nat.le_trans hpa.len (by decide)), tups_len (Nat.le_trans hw.len (by decide))⟩
  refine hs_when (b := false) ((xt_cmp op_notBl (rr_notB (x := true) (y := true)) (xe_call Gi (hr.mono (by decide)) Fi.g Fi.F.kp Fi.b (xac (xv 13) xa0) rfl hd.pre (congrArg PyData.bool hd.is)) xe_bl).is rfl) (fun z => nomatch z) fun _ => law_move F hr hlen hup TB hd g
theorem law_all (F : LawF P w K mg base CD CW CP) (hr : Room 10 (cxL P w K mg base fa c A outer s H E).A) (hlen : ns.length ≤ 63) (TB : TabB base mg c Pt) (g : GT D) :
    HS (cxL P w K mg base fa c A outer s H E) (Tp K (W0 K sa Pt qLaw ns) [some (.o sa), none, none, none, none, none, none, none, none, none, none, none, none, none, none]) (defBody sLaw) D := by
  have hxa : ∀ {p1 p2 p3 p4 : Pos}, XA (cxL P w K mg base fa c A outer s H E) (W0 K sa Pt qLaw ns) [some (.o sa), none, none, none, none, none, none, none, none, none, none, none, none, none, none] [.Name "_law_script" p1, .Constant (.int 0) 0 p2, .Constant (.int 14309) 0 p3, .Constant (.int 0) 0 p4] (fun xs => xs = [.o sa, .d (.int 0), .d (.int 14309), .d (.int 0)]) := fun {p1 p2 p3 p4} => by
    refine XA.imp (xa_cons (Pa := fun y => y = .o sa) (xv 0) (xac (d := .int 0) xe_int (xac (d := .int 14309) xe_int (xac (d := .int 0) xe_int xa0)))) ?_
    rintro xs ⟨x, r, e1, e2, e3⟩
    rw [e1, e2, e3]
    rfl
  refine .cons (Mid := fun σ H' => ∃ r, UpOk K r sa ns ∧ Tp K (W1 K r sa Pt qLaw ns) (gL sa r none none none none none none none none none none none none none) σ H') (ps_set (i := 1) sc_law.nd rfl (.inr rfl) (pe_lst hxa)) (fun σ H' T => ⟨T, fun vs xs H2 ps rs e j => ?_⟩) (HS.ex fun r => HS.and fun hup => law_made F hr hlen hup TB g)
  subst ps
  have ev : vs = [.ref sa, .int 0, .int 14309, .int 0] := by
    cases rs with
    | cons r1 rs =>
      have r1 : _ = V.ref sa := r1
      have w := VRA.dwa (ds := [.int 0, .int 14309, .int 0]) rs
      rw [r1, dwa_ints (bs := [0, 14309, 0]) w]
      rfl
  subst ev
  refine ⟨by show 4 ≤ sizeLine; decide, fun p hp => ⟨p, up_of j.2 hp, ?_⟩⟩
  have j1 : (W1 K p sa Pt qLaw ns).J (upd H2 p (.lst [.ref sa, .int 0, .int 14309, .int 0])) := ⟨⟨0, 14309, 0, by decide, by decide, by decide, by decide, upd_same⟩, (W0 K sa Pt qLaw ns).more j (Ex.new hp), up_of j.2 hp⟩
  have hl15 : σ.length = 15 := T.len
  obtain ⟨v0, hv0, hv1⟩ := T.at_ 0 (.o sa) rfl
  have hv1 : v0 = .ref sa := hv1
  subst hv1
  refine ⟨j1, by rw [List.length_set]; exact hl15, fun i x h => ?_⟩
  match i, h with
  | 0, h =>
    cases h
    exact ⟨.ref sa, by rw [List.getElem?_set_ne (by decide)]; exact hv0, rfl⟩
  | 1, h =>
    cases h
    exact ⟨.ref p, by rw [List.getElem?_set, if_pos rfl, if_pos (by rw [hl15]; decide)], rfl⟩
  | 2, h => cases h
  | 3, h => cases h
  | 4, h => cases h
  | 5, h => cases h
  | 6, h => cases h
  | 7, h => cases h
  | 8, h => cases h
  | 9, h => cases h
  | 10, h => cases h
  | 11, h => cases h
  | 12, h => cases h
  | 13, h => cases h
  | 14, h => cases h
  | _ + 15, h => simp at h
/-- the law, of a script -/
def spLaw (K : Frag) (Pt : Addr) : Sp := fun vs H Q _ => ∃ (a : Addr) (ns : List Int), vs = [.ref a] ∧ ns.length ≤ 63 ∧ TabS H Pt qLaw ∧ SqL K H a (ns.map V.int) ∧ ∀ H2, Q (.bl true) H2
theorem ok_law {doc pm ct oc kV : Value} {an od : Option Addr} {osl : Array (Option Value)} (F : LawF P w K mg base CD CW CP) (TB : TabB base mg c Pt) (lk : K.lookup fa = some ⟨oc, od, .func (PySem.W.fnOf "law" "law" (defArgs sLaw) (defBody sLaw) (defScope sLaw) .none kV doc pm an (.ref c) ct), osl⟩) (hcd : PySem.W.codeIn K (.ref c) "law" = true) :
    FnOk P w K mg base CX0 11 fa (PySem.W.fnOf "law" "law" (defArgs sLaw) (defBody sLaw) (defScope sLaw) .none kV doc pm an (.ref c) ct) ["_law_script"] (spLaw K Pt) := by
  refine fn_of lk hcd sc_law (fun vs H Q E h => ?_) (fun A outer s H vs Q E hr h => ?_)
  · obtain ⟨a, ns, rfl, _⟩ := h
    rfl
  · obtain ⟨a, ns, rfl, hlen, ht, hs, hq⟩ := h
    have hb := law_all (P := P) (w := w) (fa := fa) (sa := a) (A := A) (outer := outer) (s := s) (H := H) (E := E) (D := { nx := fun _ H' => Q .non H', rt := Q }) F hr hlen TB hq
    refine ⟨_, hb.pss.nox, rfl, ⟨ht, hs⟩, rfl, fun i x h => ?_⟩
    match i, h with
    | 0, h =>
      cases h
      exact ⟨.ref a, rfl, rfl⟩
    | 1, h => cases h
    | 2, h => cases h
    | 3, h => cases h
    | 4, h => cases h
    | 5, h => cases h
    | 6, h => cases h
    | 7, h => cases h
    | 8, h => cases h
    | 9, h => cases h
    | 10, h => cases h
    | 11, h => cases h
    | 12, h => cases h
    | 13, h => cases h
    | 14, h => cases h
    | _ + 15, h => simp at h
end
end SB

/-! What the head must show. -/
namespace SB
open PySem PySem.Spec PyProof.Rows L2 LamX
/-- a def stands where the module says -/
def DefF (K : Frag) (x : Str) (st : Stmt) : Prop := ∃ (f : Addr) (oc : Value) (od : Option Addr) (kV doc pm : Value) (an : Option Addr) (cdv ct : Value) (osl : Array (Option Value)),
  PySem.W.nsIn K mainGlobals x = some (some (.ref f)) ∧ K.lookup f = some ⟨oc, od, .func (PySem.W.fnOf x x (defArgs st) (defBody st) (defScope st) .none kV doc pm an cdv ct), osl⟩ ∧ PySem.W.codeIn K cdv x = true ∧ PySem.W.keepIn K (.ref f) = true
theorem DefF.fn {K : Frag} {x : Str} {st : Stmt} {ps : List Str} {h : Heap} {mg : Str → Option Value} (D : DefF K x st) (X : K.In h) (G : h.Ns mainGlobals mg)
    (hb : ∀ (kV doc pm : Value) (an : Option Addr) (cdv ct : Value) (us : List Value), us.length = ps.length → bindArgs (PySem.W.fnOf x x (defArgs st) (defBody st) (defScope st) .none kV doc pm an cdv ct) ⟨us, []⟩ = pure (ps.zip us)) : ∃ f fd, Fn K mg x st ps f fd := by
  obtain ⟨f, oc, od, kV, doc, pm, an, cdv, ct, osl, a, l, c, k⟩ := D
  have F := fun_mk (st := st) l c k
  exact ⟨f, _, F, PySem.W.mg_of X G a, F.binds hb⟩
/-- a tuple of the text -/
theorem kt_of {K : Frag} {a : Addr} {dd : Option Addr} {its : Array Value} {n : Nat} {sl : Array (Option Value)} {xs : List V} (l : K.lookup a = some ⟨.type "tuple", dd, .seq its n, sl⟩) (z : its.size ≤ sizeLine) (r : Vals xs its.toList) : KT K a xs := ⟨_, its, n, l, rfl, rfl, z, r⟩
theorem kt_strs {K : Frag} {a : Addr} {zs : List Str} (k : KT K a (zs.map V.str)) (S : ASet) (H : Hp) : Dw K S H (.ref a) (.tuple (strsOf zs)) := .tup (.inr k) (strs_dwa zs)
/-- a class of the errors -/
structure ErrF (K : Frag) (x : Str) (C : Addr) : Prop where
  a : PySem.W.nsIn K mainGlobals x = some (some (.ref C))
  ex : PySem.W.excIn K C bm4 "ValueError.__new__" = true
  kp : PySem.W.keepIn K (.ref C) = true
  ty : PySem.W.typeIn K (.ref C) = some (.type "type")
  ec : ExcC K C
theorem ErrF.c {K : Frag} {x : Str} {C : Addr} {h : Heap} {mg : Str → Option Value} (E : ErrF K x C) (X : K.In h) (G : h.Ns mainGlobals mg) : ErrC K mg x C := ⟨PySem.W.mg_of X G E.a, E.ex, E.kp, E.ec.hs, E.ty⟩

structure Facts (K : Frag) (CB CD CW CP : Addr) : Prop where
  b_isi : PySem.W.nsIn K mainGlobals "isinstance" = some none
  b_int : PySem.W.nsIn K mainGlobals "int" = some none
  b_bool : PySem.W.nsIn K mainGlobals "bool" = some none
  b_str : PySem.W.nsIn K mainGlobals "str" = some none
  b_tuple : PySem.W.nsIn K mainGlobals "tuple" = some none
  b_list : PySem.W.nsIn K mainGlobals "list" = some none
  b_len : PySem.W.nsIn K mainGlobals "len" = some none
  b_range : PySem.W.nsIn K mainGlobals "range" = some none
  b_all : PySem.W.nsIn K mainGlobals "all" = some none
  b_min : PySem.W.nsIn K mainGlobals "min" = some none
  b_max : PySem.W.nsIn K mainGlobals "max" = some none
  b_sorted : PySem.W.nsIn K mainGlobals "sorted" = some none
  b_dict : PySem.W.nsIn K mainGlobals "dict" = some none
  b_set : PySem.W.nsIn K mainGlobals "set" = some none
  d_sIsInteger : DefF K "is_integer" sIsInteger
  d_sIsIn : DefF K "is_in" sIsIn
  d_sIsList : DefF K "is_list" sIsList
  d_sIsPlace : DefF K "is_place" sIsPlace
  d_sArePlaces : DefF K "are_places" sArePlaces
  d_sIsPath : DefF K "is_path" sIsPath
  d_sRises : DefF K "rises" sRises
  d_sArePaths : DefF K "are_paths" sArePaths
  d_sIsEntry : DefF K "is_entry_in" sIsEntry
  d_sAreWaits : DefF K "are_waits" sAreWaits
  d_sIsDesign : DefF K "is_design" sIsDesign
  d_sNeed : DefF K "need_design" sNeed
  d_sWithWaits : DefF K "with_waits" sWithWaits
  d_sWithPaths : DefF K "with_paths" sWithPaths
  d_sOpenEntries : DefF K "open_entries" sOpenEntries
  d_sIsRight : DefF K "is_right" sIsRight
  d_sTaken : DefF K "_law_taken" sTaken
  d_sPick : DefF K "_law_pick" sPick
  d_sAlike : DefF K "_law_alike" sAlike
  d_sUp : DefF K "_law_up" sUp
  d_sLDesign : DefF K "_law_design" sLDesign
  d_sLEntries : DefF K "_law_entries" sLEntries
  d_sMore : DefF K "_law_more" sMore
  d_sWrong : DefF K "_law_wrong" sWrong
  d_sFits : DefF K "_law_fits" sFits
  c_place : ∃ t, PySem.W.nsIn K mainGlobals "MOST_PLACE" = some (some (.int 7 t))
  c_apart : ∃ t, PySem.W.nsIn K mainGlobals "MOST_APART" = some (some (.int 7 t))
  c_writing : ∃ a, PySem.W.nsIn K mainGlobals "WRITING" = some (some (.ref a)) ∧ KT K a (writingL.map V.str)
  c_effects : ∃ a, PySem.W.nsIn K mainGlobals "EFFECTS" = some (some (.ref a)) ∧ KT K a (effectsL.map V.str)
  c_users : ∃ a u0 u1 u2 u3 u4 u5 u6, PySem.W.nsIn K mainGlobals "USERS" = some (some (.ref a)) ∧ KT K a [.ref u0, .ref u1, .ref u2, .ref u3, .ref u4, .ref u5, .ref u6] ∧ KT K u0 ((["sum", "a"] : List Str).map V.str) ∧ KT K u1 ((["mul", "a"] : List Str).map V.str) ∧ KT K u2 ((["load", "a"] : List Str).map V.str) ∧ KT K u3 ((["store", "a"] : List Str).map V.str) ∧ KT K u4 ((["store", "b"] : List Str).map V.str) ∧ KT K u5 ((["zero", "a"] : List Str).map V.str) ∧ KT K u6 ((["out", "a"] : List Str).map V.str)
  c_names : ∃ a u0 u1 u2 u3 u4 u5 u6 u7, PySem.W.nsIn K mainGlobals "NAMES" = some (some (.ref a)) ∧ KT K a [.ref u0, .ref u1, .ref u2, .ref u3, .ref u4, .ref u5, .ref u6, .ref u7] ∧ KT K u0 ((["set", "made", "written"] : List Str).map V.str) ∧ KT K u1 ((["sum", "used", "made", "written"] : List Str).map V.str) ∧ KT K u2 ((["mul", "used", "made", "written"] : List Str).map V.str) ∧ KT K u3 ((["load", "used", "fetched", "written"] : List Str).map V.str) ∧ KT K u4 ((["store", "used a", "used b", "put"] : List Str).map V.str) ∧ KT K u5 ((["zero", "used", "decided"] : List Str).map V.str) ∧ KT K u6 ((["go", "decided"] : List Str).map V.str) ∧ KT K u7 ((["out", "used", "shown"] : List Str).map V.str)
  e_b : PySem.W.nsIn K mainGlobals "BeltError" = some (some (.ref CB))
  e_bs : PySem.W.subIn K (.ref CB) (.type "BaseException") = some true
  e_bd : PySem.W.hasDictIn K CB = true
  e_bt : PySem.W.typeIn K (.ref CB) = some (.type "type")
  e_d : ErrF K "BadDesign" CD
  s_d : PySem.W.subIn K (.ref CD) (.ref CB) = some true
  k_dd : PySem.W.kitOne K (.ref CD) (.ref CD) = some true
  k_dw : PySem.W.kitOne K (.ref CD) (.ref CW) = some false
  k_dp : PySem.W.kitOne K (.ref CD) (.ref CP) = some false
  e_w : ErrF K "BadWaits" CW
  s_w : PySem.W.subIn K (.ref CW) (.ref CB) = some true
  k_wd : PySem.W.kitOne K (.ref CW) (.ref CD) = some false
  k_ww : PySem.W.kitOne K (.ref CW) (.ref CW) = some true
  k_wp : PySem.W.kitOne K (.ref CW) (.ref CP) = some false
  e_p : ErrF K "BadPaths" CP
  s_p : PySem.W.subIn K (.ref CP) (.ref CB) = some true
  k_pd : PySem.W.kitOne K (.ref CP) (.ref CD) = some false
  k_pw : PySem.W.kitOne K (.ref CP) (.ref CW) = some false
  k_pp : PySem.W.kitOne K (.ref CP) (.ref CP) = some true
theorem Facts.law {K : Frag} {CB CD CW CP : Addr} {h : Heap} {mg : Str → Option Value} (T : Facts K CB CD CW CP) (X : K.In h) (G : h.Ns mainGlobals mg) (P : Program) (w : World) (base : Heap) : LawF P w K mg base CD CW CP := by
  have B : Blt mg := ⟨PySem.W.mg_none_of X G T.b_isi, PySem.W.mg_none_of X G T.b_int, PySem.W.mg_none_of X G T.b_bool, PySem.W.mg_none_of X G T.b_str, PySem.W.mg_none_of X G T.b_tuple, PySem.W.mg_none_of X G T.b_list, PySem.W.mg_none_of X G T.b_len, PySem.W.mg_none_of X G T.b_range, PySem.W.mg_none_of X G T.b_all, PySem.W.mg_none_of X G T.b_min, PySem.W.mg_none_of X G T.b_max, PySem.W.mg_none_of X G T.b_sorted, PySem.W.mg_none_of X G T.b_dict, PySem.W.mg_none_of X G T.b_set⟩
  have C : Cst K mg := by
    obtain ⟨t1, h1⟩ := T.c_place
    obtain ⟨t2, h2⟩ := T.c_apart
    obtain ⟨a3, h3, k3⟩ := T.c_writing
    obtain ⟨a4, h4, k4⟩ := T.c_effects
    obtain ⟨a5, u0, u1, u2, u3, u4, u5, u6, h5, k5, m0, m1, m2, m3, m4, m5, m6⟩ := T.c_users
    obtain ⟨a6, v0, v1, v2, v3, v4, v5, v6, v7, h6, k6, n0, n1, n2, n3, n4, n5, n6, n7⟩ := T.c_names
    refine ⟨⟨t1, PySem.W.mg_of X G h1⟩, ⟨t2, PySem.W.mg_of X G h2⟩, ⟨a3, PySem.W.mg_of X G h3, kt_strs k3⟩, ⟨a4, PySem.W.mg_of X G h4, kt_strs k4⟩, ⟨a5, PySem.W.mg_of X G h5, fun S H => .tup (.inr k5) ?_⟩, a6, [.tuple (strsOf ["set", "made", "written"]), .tuple (strsOf ["sum", "used", "made", "written"]), .tuple (strsOf ["mul", "used", "made", "written"]), .tuple (strsOf ["load", "used", "fetched", "written"]), .tuple (strsOf ["store", "used a", "used b", "put"]), .tuple (strsOf ["zero", "used", "decided"]), .tuple (strsOf ["go", "decided"]), .tuple (strsOf ["out", "used", "shown"])], PySem.W.mg_of X G h6, fun S H => .tup (.inr k6) ?_, rfl, rfl⟩
    · exact (.cons (kt_strs m0 S H) (.cons (kt_strs m1 S H) (.cons (kt_strs m2 S H) (.cons (kt_strs m3 S H) (.cons (kt_strs m4 S H) (.cons (kt_strs m5 S H) (.cons (kt_strs m6 S H) .nil)))))))
    · exact (.cons (kt_strs n0 S H) (.cons (kt_strs n1 S H) (.cons (kt_strs n2 S H) (.cons (kt_strs n3 S H) (.cons (kt_strs n4 S H) (.cons (kt_strs n5 S H) (.cons (kt_strs n6 S H) (.cons (kt_strs n7 S H) .nil))))))))
  obtain ⟨f_sIsInteger, fd_sIsInteger, F_sIsInteger⟩ := T.d_sIsInteger.fn (ps := (["value"] : List Str)) X G (fun _ _ _ _ _ _ us hl => match us, hl with | [_], _ => rfl)
  obtain ⟨f_sIsIn, fd_sIsIn, F_sIsIn⟩ := T.d_sIsIn.fn (ps := (["value", "least", "most"] : List Str)) X G (fun _ _ _ _ _ _ us hl => match us, hl with | [_, _, _], _ => rfl)
  obtain ⟨f_sIsList, fd_sIsList, F_sIsList⟩ := T.d_sIsList.fn (ps := (["value", "least", "most"] : List Str)) X G (fun _ _ _ _ _ _ us hl => match us, hl with | [_, _, _], _ => rfl)
  obtain ⟨f_sIsPlace, fd_sIsPlace, F_sIsPlace⟩ := T.d_sIsPlace.fn (ps := (["value"] : List Str)) X G (fun _ _ _ _ _ _ us hl => match us, hl with | [_], _ => rfl)
  obtain ⟨f_sArePlaces, fd_sArePlaces, F_sArePlaces⟩ := T.d_sArePlaces.fn (ps := (["read", "places"] : List Str)) X G (fun _ _ _ _ _ _ us hl => match us, hl with | [_, _], _ => rfl)
  obtain ⟨f_sIsPath, fd_sIsPath, F_sIsPath⟩ := T.d_sIsPath.fn (ps := (["value"] : List Str)) X G (fun _ _ _ _ _ _ us hl => match us, hl with | [_], _ => rfl)
  obtain ⟨f_sRises, fd_sRises, F_sRises⟩ := T.d_sRises.fn (ps := (["some"] : List Str)) X G (fun _ _ _ _ _ _ us hl => match us, hl with | [_], _ => rfl)
  obtain ⟨f_sArePaths, fd_sArePaths, F_sArePaths⟩ := T.d_sArePaths.fn (ps := (["value"] : List Str)) X G (fun _ _ _ _ _ _ us hl => match us, hl with | [_], _ => rfl)
  obtain ⟨f_sIsEntry, fd_sIsEntry, F_sIsEntry⟩ := T.d_sIsEntry.fn (ps := (["value"] : List Str)) X G (fun _ _ _ _ _ _ us hl => match us, hl with | [_], _ => rfl)
  obtain ⟨f_sAreWaits, fd_sAreWaits, F_sAreWaits⟩ := T.d_sAreWaits.fn (ps := (["value"] : List Str)) X G (fun _ _ _ _ _ _ us hl => match us, hl with | [_], _ => rfl)
  obtain ⟨f_sIsDesign, fd_sIsDesign, F_sIsDesign⟩ := T.d_sIsDesign.fn (ps := (["value"] : List Str)) X G (fun _ _ _ _ _ _ us hl => match us, hl with | [_], _ => rfl)
  obtain ⟨f_sNeed, fd_sNeed, F_sNeed⟩ := T.d_sNeed.fn (ps := (["design"] : List Str)) X G (fun _ _ _ _ _ _ us hl => match us, hl with | [_], _ => rfl)
  obtain ⟨f_sWithWaits, fd_sWithWaits, F_sWithWaits⟩ := T.d_sWithWaits.fn (ps := (["design", "waits"] : List Str)) X G (fun _ _ _ _ _ _ us hl => match us, hl with | [_, _], _ => rfl)
  obtain ⟨f_sWithPaths, fd_sWithPaths, F_sWithPaths⟩ := T.d_sWithPaths.fn (ps := (["design", "paths"] : List Str)) X G (fun _ _ _ _ _ _ us hl => match us, hl with | [_, _], _ => rfl)
  obtain ⟨f_sOpenEntries, fd_sOpenEntries, F_sOpenEntries⟩ := T.d_sOpenEntries.fn (ps := (["design"] : List Str)) X G (fun _ _ _ _ _ _ us hl => match us, hl with | [_], _ => rfl)
  obtain ⟨f_sIsRight, fd_sIsRight, F_sIsRight⟩ := T.d_sIsRight.fn (ps := (["design"] : List Str)) X G (fun _ _ _ _ _ _ us hl => match us, hl with | [_], _ => rfl)
  obtain ⟨f_sTaken, fd_sTaken, F_sTaken⟩ := T.d_sTaken.fn (ps := (["_law_row", "_law_many"] : List Str)) X G (fun _ _ _ _ _ _ us hl => match us, hl with | [_, _], _ => rfl)
  obtain ⟨f_sPick, fd_sPick, F_sPick⟩ := T.d_sPick.fn (ps := (["_law_row", "_law_kinds"] : List Str)) X G (fun _ _ _ _ _ _ us hl => match us, hl with | [_, _], _ => rfl)
  obtain ⟨f_sAlike, fd_sAlike, F_sAlike⟩ := T.d_sAlike.fn (ps := (["_law_found", "_law_due"] : List Str)) X G (fun _ _ _ _ _ _ us hl => match us, hl with | [_, _], _ => rfl)
  obtain ⟨f_sUp, fd_sUp, F_sUp⟩ := T.d_sUp.fn (ps := (["_law_row", "_law_least", "_law_most"] : List Str)) X G (fun _ _ _ _ _ _ us hl => match us, hl with | [_, _, _], _ => rfl)
  obtain ⟨f_sLDesign, fd_sLDesign, F_sLDesign⟩ := T.d_sLDesign.fn (ps := (["_law_row"] : List Str)) X G (fun _ _ _ _ _ _ us hl => match us, hl with | [_], _ => rfl)
  obtain ⟨f_sLEntries, fd_sLEntries, F_sLEntries⟩ := T.d_sLEntries.fn (ps := ([] : List Str)) X G (fun _ _ _ _ _ _ us hl => match us, hl with | [], _ => rfl)
  obtain ⟨f_sMore, fd_sMore, F_sMore⟩ := T.d_sMore.fn (ps := (["_law_row", "_law_waits", "_law_many"] : List Str)) X G (fun _ _ _ _ _ _ us hl => match us, hl with | [_, _, _], _ => rfl)
  obtain ⟨f_sWrong, fd_sWrong, F_sWrong⟩ := T.d_sWrong.fn (ps := (["_law_work"] : List Str)) X G (fun _ _ _ _ _ _ us hl => match us, hl with | [_], _ => rfl)
  obtain ⟨f_sFits, fd_sFits, F_sFits⟩ := T.d_sFits.fn (ps := (["_law_read", "_law_places"] : List Str)) X G (fun _ _ _ _ _ _ us hl => match us, hl with | [_, _], _ => rfl)
  have E_d := T.e_d.c X G
  have E_w := T.e_w.c X G
  have E_p := T.e_p.c X G
  have G1 := ok_isInteger (P := P) (w := w) (base := base) B F_sIsInteger
  have G2 := ok_isIn F_sIsInteger G1 F_sIsIn
  have G3 := ok_isList (P := P) (w := w) (base := base) B F_sIsList
  have G4 := ok_isPlace C.place F_sIsIn G2 F_sIsPlace
  have G5 := ok_isPath F_sIsList G3 F_sIsPlace G4 F_sIsPath
  have G6 := ok_rises (P := P) (w := w) (base := base) B F_sRises
  have G7 := ok_arePaths B F_sIsPath G5 F_sRises G6 F_sArePaths
  have G8 := ok_isEntry B C F_sIsList G3 F_sIsIn G2 F_sIsEntry
  have G9 := ok_areWaits B F_sIsEntry G8 F_sRises G6 F_sAreWaits
  have G10 := ok_arePlaces B C F_sIsList G3 F_sIsPlace G4 F_sArePlaces
  have G11 := ok_isDesign B F_sIsList G3 F_sIsPlace G4 F_sArePlaces G10 F_sArePaths G7 F_sAreWaits G9 F_sIsDesign
  have G12 := ok_need E_d F_sIsDesign G11 F_sNeed
  have G13 := ok_withWaits E_w F_sNeed G12 F_sAreWaits G9 F_sWithWaits
  have G14 := ok_withPaths E_p F_sNeed G12 F_sArePaths G7 F_sWithPaths
  have G15 := ok_openEntries F_sNeed G12 F_sOpenEntries
  have G16 := ok_isRight F_sNeed G12 F_sIsRight
  have G17 := ok_des (P := P) (w := w) (base := base) B F_sTaken F_sUp F_sLDesign
  have G18 := ok_more (P := P) (w := w) (base := base) B F_sTaken F_sPick F_sLEntries F_sMore
  have gB := PySem.W.mg_of X G T.e_b
  have g1 := PySem.W.mg_of X G T.e_d.a
  have g2 := PySem.W.mg_of X G T.e_w.a
  have g3 := PySem.W.mg_of X G T.e_p.a
  have x1 := PySem.W.exm_ref T.e_bs T.e_bd T.e_bt T.s_d
  have x2 := PySem.W.exm_ref T.e_bs T.e_bd T.e_bt T.s_w
  have x3 := PySem.W.exm_ref T.e_bs T.e_bd T.e_bt T.s_p
  exact
    { B := B, taken := ⟨_, _, F_sTaken⟩, pick := ⟨_, _, F_sPick⟩, alike := ⟨_, _, F_sAlike⟩, des := ⟨_, _, F_sLDesign, G17⟩, more := ⟨_, _, F_sMore, G18⟩, wrong := ⟨_, _, F_sWrong⟩, fits := ⟨_, _, F_sFits⟩,
      is_ := ⟨_, _, F_sIsDesign, G11⟩, ww := ⟨_, _, F_sWithWaits, G13⟩, wp := ⟨_, _, F_sWithPaths, G14⟩, oe := ⟨_, _, F_sOpenEntries, G15⟩, ir := ⟨_, _, F_sIsRight, G16⟩,
      w0 := ⟨⟨CB, gB, x1⟩, T.e_d.ec, ⟨CD, g1, T.k_dd⟩, ⟨CW, g2, T.k_dw⟩, ⟨CP, g3, T.k_dp⟩, by decide⟩,
      w1 := ⟨⟨CB, gB, x2⟩, T.e_w.ec, ⟨CD, g1, T.k_wd⟩, ⟨CW, g2, T.k_ww⟩, ⟨CP, g3, T.k_wp⟩, by decide⟩,
      w2 := ⟨⟨CB, gB, x3⟩, T.e_p.ec, ⟨CD, g1, T.k_pd⟩, ⟨CW, g2, T.k_pw⟩, ⟨CP, g3, T.k_pp⟩, by decide⟩ }
/-- the law's own code object and its table -/
structure LawC (K : Frag) (fa c Pt : Addr) : Prop where
  a : PySem.W.nsIn K mainGlobals "law" = some (some (.ref fa))
  l : ∃ (oc : Value) (od : Option Addr) (kV doc pm : Value) (an : Option Addr) (ct : Value) (osl : Array (Option Value)), K.lookup fa = some ⟨oc, od, .func (PySem.W.fnOf "law" "law" (defArgs sLaw) (defBody sLaw) (defScope sLaw) .none kV doc pm an (.ref c) ct), osl⟩
  cd : PySem.W.codeIn K (.ref c) "law" = true
  nP : K.lookup Pt = none
  hd : ∃ (dd : Option Addr) (vs : Array Value) (sl : Array (Option Value)) (file : Str) (tf : Tok) (flags : Int) (tg : Tok) (inF : Bool) (text : Int) (tt : Tok), K.lookup c = some ⟨.type "code", dd, .fields vs, sl⟩ ∧ vs[11]? = some (.ref Pt) ∧ vs.getD 11 .none = .ref Pt ∧ vs.getD 18 .none = .str file tf ∧
    vs.getD 7 .none = .int flags tg ∧ vs.getD 9 .none = .bool inF ∧ vs.getD 10 .none = .int text tt ∧ c ≠ Pt
theorem law_at {K : Frag} {CB CD CW CP fa fa' c Pt : Addr} {h : Heap} {mg : Str → Option Value} {l : PySem.W.OpenLaw} {w : World} (T : Facts K CB CD CW CP) (L : LawC K fa c Pt) (X : K.In h) (G : h.Ns mainGlobals mg) (hfa : mg "law" = some (.ref fa')) (own : OwnTab K fa' h) : LawAtS l w K CX0 11 63 "_law_script" mg fa' h := by
  have e := hfa.symm.trans (PySem.W.mg_of X G L.a)
  cases e
  obtain ⟨oc, od, kV, doc, pm, an, ct, osl, lk⟩ := L.l
  obtain ⟨dd, vs, sl, file, tf, flags, tg, inF, text, tt, lc, v11, g11, g18, g7, g9, g10, ne⟩ := L.hd
  have hT : h.get? Pt = some { cls := .none, data := .fields #[] } := own c Pt _ _ _ dd vs sl lk rfl rfl lc v11
  refine ⟨_, [(c, Pt)], spLaw K Pt, fun p hp => ?_, fun p hp => ?_, fun p hp => ?_, fun s u => .of_eq rfl, fun H a ns hl _ hS hq => ⟨a, ns, rfl, hl, .nil (hS (c, Pt) (List.mem_singleton.mpr rfl)), hq, fun _ => rfl⟩, fun base _ G' TB => ok_law (T.law X G l.prog w base) (TB (c, Pt) (List.mem_singleton.mpr rfl)) lk L.cd⟩
  · rw [List.mem_singleton.mp hp]
    exact hT
  · rw [List.mem_singleton.mp hp]
    exact L.nP
  · rw [List.mem_singleton.mp hp]
    exact ⟨_, vs, file, tf, flags, tg, inF, text, tt, X _ _ lc, rfl, rfl, v11, g11, g18, g7, g9, g10, ne⟩

theorem DefF.of {K : Frag} {x : Str} {st : Stmt} {f : Addr} {oc : Value} {od : Option Addr} {kV doc pm : Value} {an : Option Addr} {cdv ct : Value} {osl : Array (Option Value)} (a : PySem.W.nsIn K mainGlobals x = some (some (.ref f)))
    (l : K.lookup f = some ⟨oc, od, .func (PySem.W.fnOf x x (defArgs st) (defBody st) (defScope st) .none kV doc pm an cdv ct), osl⟩) (c : PySem.W.codeIn K cdv x = true) (k : PySem.W.keepIn K (.ref f) = true) : DefF K x st := ⟨f, oc, od, kV, doc, pm, an, cdv, ct, osl, a, l, c, k⟩
theorem int_of {K : Frag} {x : Str} {i : Int} {t : Tok} (a : PySem.W.nsIn K mainGlobals x = some (some (.int i t))) : ∃ t, PySem.W.nsIn K mainGlobals x = some (some (.int i t)) := ⟨t, a⟩
theorem tup_of {K : Frag} {x : Str} {xs : List V} {a : Addr} (h : PySem.W.nsIn K mainGlobals x = some (some (.ref a))) (k : KT K a xs) : ∃ a, PySem.W.nsIn K mainGlobals x = some (some (.ref a)) ∧ KT K a xs := ⟨a, h, k⟩
theorem users_of {K : Frag} {a u0 u1 u2 u3 u4 u5 u6 : Addr} (h : PySem.W.nsIn K mainGlobals "USERS" = some (some (.ref a))) (k : KT K a [.ref u0, .ref u1, .ref u2, .ref u3, .ref u4, .ref u5, .ref u6]) (k0 : KT K u0 ((["sum", "a"] : List Str).map V.str)) (k1 : KT K u1 ((["mul", "a"] : List Str).map V.str)) (k2 : KT K u2 ((["load", "a"] : List Str).map V.str)) (k3 : KT K u3 ((["store", "a"] : List Str).map V.str)) (k4 : KT K u4 ((["store", "b"] : List Str).map V.str)) (k5 : KT K u5 ((["zero", "a"] : List Str).map V.str)) (k6 : KT K u6 ((["out", "a"] : List Str).map V.str)) : ∃ a u0 u1 u2 u3 u4 u5 u6, PySem.W.nsIn K mainGlobals "USERS" = some (some (.ref a)) ∧ KT K a [.ref u0, .ref u1, .ref u2, .ref u3, .ref u4, .ref u5, .ref u6] ∧ KT K u0 ((["sum", "a"] : List Str).map V.str) ∧ KT K u1 ((["mul", "a"] : List Str).map V.str) ∧ KT K u2 ((["load", "a"] : List Str).map V.str) ∧ KT K u3 ((["store", "a"] : List Str).map V.str) ∧ KT K u4 ((["store", "b"] : List Str).map V.str) ∧ KT K u5 ((["zero", "a"] : List Str).map V.str) ∧ KT K u6 ((["out", "a"] : List Str).map V.str) := ⟨a, u0, u1, u2, u3, u4, u5, u6, h, k, k0, k1, k2, k3, k4, k5, k6⟩
theorem names_of {K : Frag} {a u0 u1 u2 u3 u4 u5 u6 u7 : Addr} (h : PySem.W.nsIn K mainGlobals "NAMES" = some (some (.ref a))) (k : KT K a [.ref u0, .ref u1, .ref u2, .ref u3, .ref u4, .ref u5, .ref u6, .ref u7]) (k0 : KT K u0 ((["set", "made", "written"] : List Str).map V.str)) (k1 : KT K u1 ((["sum", "used", "made", "written"] : List Str).map V.str)) (k2 : KT K u2 ((["mul", "used", "made", "written"] : List Str).map V.str)) (k3 : KT K u3 ((["load", "used", "fetched", "written"] : List Str).map V.str)) (k4 : KT K u4 ((["store", "used a", "used b", "put"] : List Str).map V.str)) (k5 : KT K u5 ((["zero", "used", "decided"] : List Str).map V.str)) (k6 : KT K u6 ((["go", "decided"] : List Str).map V.str)) (k7 : KT K u7 ((["out", "used", "shown"] : List Str).map V.str)) : ∃ a u0 u1 u2 u3 u4 u5 u6 u7, PySem.W.nsIn K mainGlobals "NAMES" = some (some (.ref a)) ∧ KT K a [.ref u0, .ref u1, .ref u2, .ref u3, .ref u4, .ref u5, .ref u6, .ref u7] ∧ KT K u0 ((["set", "made", "written"] : List Str).map V.str) ∧ KT K u1 ((["sum", "used", "made", "written"] : List Str).map V.str) ∧ KT K u2 ((["mul", "used", "made", "written"] : List Str).map V.str) ∧ KT K u3 ((["load", "used", "fetched", "written"] : List Str).map V.str) ∧ KT K u4 ((["store", "used a", "used b", "put"] : List Str).map V.str) ∧ KT K u5 ((["zero", "used", "decided"] : List Str).map V.str) ∧ KT K u6 ((["go", "decided"] : List Str).map V.str) ∧ KT K u7 ((["out", "used", "shown"] : List Str).map V.str) := ⟨a, u0, u1, u2, u3, u4, u5, u6, u7, h, k, k0, k1, k2, k3, k4, k5, k6, k7⟩
theorem LawC.of {K : Frag} {fa c Pt : Addr} {oc : Value} {od : Option Addr} {kV doc pm : Value} {an : Option Addr} {ct : Value} {osl : Array (Option Value)} {dd : Option Addr} {vs : Array Value} {sl : Array (Option Value)} {file : Str} {tf : Tok} {flags : Int} {tg : Tok} {inF : Bool} {text : Int} {tt : Tok}
    (a : PySem.W.nsIn K mainGlobals "law" = some (some (.ref fa))) (l : K.lookup fa = some ⟨oc, od, .func (PySem.W.fnOf "law" "law" (defArgs sLaw) (defBody sLaw) (defScope sLaw) .none kV doc pm an (.ref c) ct), osl⟩) (cd : PySem.W.codeIn K (.ref c) "law" = true)
    (lc : K.lookup c = some ⟨.type "code", dd, .fields vs, sl⟩) (v11 : vs[11]? = some (.ref Pt)) (g11 : vs.getD 11 .none = .ref Pt) (g18 : vs.getD 18 .none = .str file tf) (g7 : vs.getD 7 .none = .int flags tg) (g9 : vs.getD 9 .none = .bool inF) (g10 : vs.getD 10 .none = .int text tt) (ne : c ≠ Pt) (nP : K.lookup Pt = none) : LawC K fa c Pt :=
  ⟨a, ⟨oc, od, kV, doc, pm, an, ct, osl, l⟩, cd, nP, ⟨dd, vs, sl, file, tf, flags, tg, inF, text, tt, lc, v11, g11, g18, g7, g9, g10, ne⟩⟩
end SB

open PySem PySem.W PyProof.Rows
set_option maxHeartbeats 0 in
theorem PySem.Challenge.cw_stagebelt_k09_whole_designs_holds : PySem.Challenge.rw_stagebelt_k09_whole_designs.Holds := by
  w_on; o_law; k_head; (case hw => w_witness2)
  k_fill
  refine LamX.walk_ofOwn (l := PySem.Challenge.rw_stagebelt_k09_whole_designs) (n := 63) (k := 11) (x := "_law_script") (CX := fun _ => L2.CX0) rfl (by decide) rfl ⟨rfl, by decide, by decide⟩ ?rc (fun w h Y => PySem.W.km_in_of Y) ?F (fun _ _ _ _ _ h => h)
  case rc => first | rfl | decide +kernel
  case F =>
    intro w mg fa h Y KX G hmg own
    refine' SB.law_at ?T ?L KX G hmg own
    case T =>
      refine' ⟨?b_isi, ?b_int, ?b_bool, ?b_str, ?b_tuple, ?b_list, ?b_len, ?b_range, ?b_all, ?b_min, ?b_max, ?b_sorted, ?b_dict, ?b_set, ?d_sIsInteger, ?d_sIsIn, ?d_sIsList, ?d_sIsPlace, ?d_sArePlaces, ?d_sIsPath, ?d_sRises, ?d_sArePaths, ?d_sIsEntry, ?d_sAreWaits, ?d_sIsDesign, ?d_sNeed, ?d_sWithWaits, ?d_sWithPaths, ?d_sOpenEntries, ?d_sIsRight, ?d_sTaken, ?d_sPick, ?d_sAlike, ?d_sUp, ?d_sLDesign, ?d_sLEntries, ?d_sMore, ?d_sWrong, ?d_sFits, ?c_place, ?c_apart, ?c_writing, ?c_effects, ?c_users, ?c_names, ?e_b, ?e_bs, ?e_bd, ?e_bt, ?e_d, ?s_d, ?k_dd, ?k_dw, ?k_dp, ?e_w, ?s_w, ?k_wd, ?k_ww, ?k_wp, ?e_p, ?s_p, ?k_pd, ?k_pw, ?k_pp⟩
      (case b_isi => (first | k_is))
      (case b_int => (first | k_is))
      (case b_bool => (first | k_is))
      (case b_str => (first | k_is))
      (case b_tuple => (first | k_is))
      (case b_list => (first | k_is))
      (case b_len => (first | k_is))
      (case b_range => (first | k_is))
      (case b_all => (first | k_is))
      (case b_min => (first | k_is))
      (case b_max => (first | k_is))
      (case b_sorted => (first | k_is))
      (case b_dict => (first | k_is))
      (case b_set => (first | k_is))
      (case d_sIsInteger => refine' SB.DefF.of ?a ?l ?c ?k; (case a => (first | k_is)); (case l => (first | k_is)); (case c => (first | k_is)); (case k => (first | k_is)))
      (case d_sIsIn => refine' SB.DefF.of ?a ?l ?c ?k; (case a => (first | k_is)); (case l => (first | k_is)); (case c => (first | k_is)); (case k => (first | k_is)))
      (case d_sIsList => refine' SB.DefF.of ?a ?l ?c ?k; (case a => (first | k_is)); (case l => (first | k_is)); (case c => (first | k_is)); (case k => (first | k_is)))
      (case d_sIsPlace => refine' SB.DefF.of ?a ?l ?c ?k; (case a => (first | k_is)); (case l => (first | k_is)); (case c => (first | k_is)); (case k => (first | k_is)))
      (case d_sArePlaces => refine' SB.DefF.of ?a ?l ?c ?k; (case a => (first | k_is)); (case l => (first | k_is)); (case c => (first | k_is)); (case k => (first | k_is)))
      (case d_sIsPath => refine' SB.DefF.of ?a ?l ?c ?k; (case a => (first | k_is)); (case l => (first | k_is)); (case c => (first | k_is)); (case k => (first | k_is)))
      (case d_sRises => refine' SB.DefF.of ?a ?l ?c ?k; (case a => (first | k_is)); (case l => (first | k_is)); (case c => (first | k_is)); (case k => (first | k_is)))
      (case d_sArePaths => refine' SB.DefF.of ?a ?l ?c ?k; (case a => (first | k_is)); (case l => (first | k_is)); (case c => (first | k_is)); (case k => (first | k_is)))
      (case d_sIsEntry => refine' SB.DefF.of ?a ?l ?c ?k; (case a => (first | k_is)); (case l => (first | k_is)); (case c => (first | k_is)); (case k => (first | k_is)))
      (case d_sAreWaits => refine' SB.DefF.of ?a ?l ?c ?k; (case a => (first | k_is)); (case l => (first | k_is)); (case c => (first | k_is)); (case k => (first | k_is)))
      (case d_sIsDesign => refine' SB.DefF.of ?a ?l ?c ?k; (case a => (first | k_is)); (case l => (first | k_is)); (case c => (first | k_is)); (case k => (first | k_is)))
      (case d_sNeed => refine' SB.DefF.of ?a ?l ?c ?k; (case a => (first | k_is)); (case l => (first | k_is)); (case c => (first | k_is)); (case k => (first | k_is)))
      (case d_sWithWaits => refine' SB.DefF.of ?a ?l ?c ?k; (case a => (first | k_is)); (case l => (first | k_is)); (case c => (first | k_is)); (case k => (first | k_is)))
      (case d_sWithPaths => refine' SB.DefF.of ?a ?l ?c ?k; (case a => (first | k_is)); (case l => (first | k_is)); (case c => (first | k_is)); (case k => (first | k_is)))
      (case d_sOpenEntries => refine' SB.DefF.of ?a ?l ?c ?k; (case a => (first | k_is)); (case l => (first | k_is)); (case c => (first | k_is)); (case k => (first | k_is)))
      (case d_sIsRight => refine' SB.DefF.of ?a ?l ?c ?k; (case a => (first | k_is)); (case l => (first | k_is)); (case c => (first | k_is)); (case k => (first | k_is)))
      (case d_sTaken => refine' SB.DefF.of ?a ?l ?c ?k; (case a => (first | k_is)); (case l => (first | k_is)); (case c => (first | k_is)); (case k => (first | k_is)))
      (case d_sPick => refine' SB.DefF.of ?a ?l ?c ?k; (case a => (first | k_is)); (case l => (first | k_is)); (case c => (first | k_is)); (case k => (first | k_is)))
      (case d_sAlike => refine' SB.DefF.of ?a ?l ?c ?k; (case a => (first | k_is)); (case l => (first | k_is)); (case c => (first | k_is)); (case k => (first | k_is)))
      (case d_sUp => refine' SB.DefF.of ?a ?l ?c ?k; (case a => (first | k_is)); (case l => (first | k_is)); (case c => (first | k_is)); (case k => (first | k_is)))
      (case d_sLDesign => refine' SB.DefF.of ?a ?l ?c ?k; (case a => (first | k_is)); (case l => (first | k_is)); (case c => (first | k_is)); (case k => (first | k_is)))
      (case d_sLEntries => refine' SB.DefF.of ?a ?l ?c ?k; (case a => (first | k_is)); (case l => (first | k_is)); (case c => (first | k_is)); (case k => (first | k_is)))
      (case d_sMore => refine' SB.DefF.of ?a ?l ?c ?k; (case a => (first | k_is)); (case l => (first | k_is)); (case c => (first | k_is)); (case k => (first | k_is)))
      (case d_sWrong => refine' SB.DefF.of ?a ?l ?c ?k; (case a => (first | k_is)); (case l => (first | k_is)); (case c => (first | k_is)); (case k => (first | k_is)))
      (case d_sFits => refine' SB.DefF.of ?a ?l ?c ?k; (case a => (first | k_is)); (case l => (first | k_is)); (case c => (first | k_is)); (case k => (first | k_is)))
      (case c_place => refine' SB.int_of ?a; (case a => (first | k_is)))
      (case c_apart => refine' SB.int_of ?a; (case a => (first | k_is)))
      (case c_writing => refine' SB.tup_of ?a ?k; (case a => (first | k_is)); (case k => refine' SB.kt_of ?l ?z ?r; (case l => (first | k_is)); (case r => first | exact (.cons ⟨_, rfl⟩ (.cons ⟨_, rfl⟩ (.cons ⟨_, rfl⟩ (.cons ⟨_, rfl⟩ .nil))))); (case z => first | decide)))
      (case c_effects => refine' SB.tup_of ?a ?k; (case a => (first | k_is)); (case k => refine' SB.kt_of ?l ?z ?r; (case l => (first | k_is)); (case r => first | exact (.cons ⟨_, rfl⟩ (.cons ⟨_, rfl⟩ (.cons ⟨_, rfl⟩ (.cons ⟨_, rfl⟩ (.cons ⟨_, rfl⟩ (.cons ⟨_, rfl⟩ .nil))))))); (case z => first | decide)))
      (case c_users => refine' SB.users_of ?a ?k ?k0 ?k1 ?k2 ?k3 ?k4 ?k5 ?k6; (case a => (first | k_is)); (case k => refine' SB.kt_of ?l ?z ?r; (case l => (first | k_is)); (case r => first | exact (.cons rfl (.cons rfl (.cons rfl (.cons rfl (.cons rfl (.cons rfl (.cons rfl .nil)))))))); (case z => first | decide)); (case k0 => refine' SB.kt_of ?l ?z ?r; (case l => (first | k_is)); (case r => first | exact (.cons ⟨_, rfl⟩ (.cons ⟨_, rfl⟩ .nil))); (case z => first | decide)); (case k1 => refine' SB.kt_of ?l ?z ?r; (case l => (first | k_is)); (case r => first | exact (.cons ⟨_, rfl⟩ (.cons ⟨_, rfl⟩ .nil))); (case z => first | decide)); (case k2 => refine' SB.kt_of ?l ?z ?r; (case l => (first | k_is)); (case r => first | exact (.cons ⟨_, rfl⟩ (.cons ⟨_, rfl⟩ .nil))); (case z => first | decide)); (case k3 => refine' SB.kt_of ?l ?z ?r; (case l => (first | k_is)); (case r => first | exact (.cons ⟨_, rfl⟩ (.cons ⟨_, rfl⟩ .nil))); (case z => first | decide)); (case k4 => refine' SB.kt_of ?l ?z ?r; (case l => (first | k_is)); (case r => first | exact (.cons ⟨_, rfl⟩ (.cons ⟨_, rfl⟩ .nil))); (case z => first | decide)); (case k5 => refine' SB.kt_of ?l ?z ?r; (case l => (first | k_is)); (case r => first | exact (.cons ⟨_, rfl⟩ (.cons ⟨_, rfl⟩ .nil))); (case z => first | decide)); (case k6 => refine' SB.kt_of ?l ?z ?r; (case l => (first | k_is)); (case r => first | exact (.cons ⟨_, rfl⟩ (.cons ⟨_, rfl⟩ .nil))); (case z => first | decide)))
      (case c_names => refine' SB.names_of ?a ?k ?k0 ?k1 ?k2 ?k3 ?k4 ?k5 ?k6 ?k7; (case a => (first | k_is)); (case k => refine' SB.kt_of ?l ?z ?r; (case l => (first | k_is)); (case r => first | exact (.cons rfl (.cons rfl (.cons rfl (.cons rfl (.cons rfl (.cons rfl (.cons rfl (.cons rfl .nil))))))))); (case z => first | decide)); (case k0 => refine' SB.kt_of ?l ?z ?r; (case l => (first | k_is)); (case r => first | exact (.cons ⟨_, rfl⟩ (.cons ⟨_, rfl⟩ (.cons ⟨_, rfl⟩ .nil)))); (case z => first | decide)); (case k1 => refine' SB.kt_of ?l ?z ?r; (case l => (first | k_is)); (case r => first | exact (.cons ⟨_, rfl⟩ (.cons ⟨_, rfl⟩ (.cons ⟨_, rfl⟩ (.cons ⟨_, rfl⟩ .nil))))); (case z => first | decide)); (case k2 => refine' SB.kt_of ?l ?z ?r; (case l => (first | k_is)); (case r => first | exact (.cons ⟨_, rfl⟩ (.cons ⟨_, rfl⟩ (.cons ⟨_, rfl⟩ (.cons ⟨_, rfl⟩ .nil))))); (case z => first | decide)); (case k3 => refine' SB.kt_of ?l ?z ?r; (case l => (first | k_is)); (case r => first | exact (.cons ⟨_, rfl⟩ (.cons ⟨_, rfl⟩ (.cons ⟨_, rfl⟩ (.cons ⟨_, rfl⟩ .nil))))); (case z => first | decide)); (case k4 => refine' SB.kt_of ?l ?z ?r; (case l => (first | k_is)); (case r => first | exact (.cons ⟨_, rfl⟩ (.cons ⟨_, rfl⟩ (.cons ⟨_, rfl⟩ (.cons ⟨_, rfl⟩ .nil))))); (case z => first | decide)); (case k5 => refine' SB.kt_of ?l ?z ?r; (case l => (first | k_is)); (case r => first | exact (.cons ⟨_, rfl⟩ (.cons ⟨_, rfl⟩ (.cons ⟨_, rfl⟩ .nil)))); (case z => first | decide)); (case k6 => refine' SB.kt_of ?l ?z ?r; (case l => (first | k_is)); (case r => first | exact (.cons ⟨_, rfl⟩ (.cons ⟨_, rfl⟩ .nil))); (case z => first | decide)); (case k7 => refine' SB.kt_of ?l ?z ?r; (case l => (first | k_is)); (case r => first | exact (.cons ⟨_, rfl⟩ (.cons ⟨_, rfl⟩ (.cons ⟨_, rfl⟩ .nil)))); (case z => first | decide)))
      (case e_b => (first | k_is))
      (case e_bs => (first | k_is))
      (case e_bd => (first | k_is))
      (case e_bt => (first | k_is))
      (case e_d => refine' ⟨?a, ?ex, ?kp, ?ty, ⟨?hg, ?hk, ?hs, ?hd, ?ha, ?hn, ?ht, ?hm⟩⟩; (case a => (first | k_is | k_exc | rfl)); (case ex => (first | k_is | k_exc | rfl)); (case kp => (first | k_is | k_exc | rfl)); (case ty => (first | k_is | k_exc | rfl)); (case hg => (first | k_is | k_exc | rfl)); (case hk => (first | k_is | k_exc | rfl)); (case hs => (first | k_is | k_exc | rfl)); (case hd => (first | k_is | k_exc | rfl)); (case ha => (first | k_is | k_exc | rfl)); (case hn => (first | k_is | k_exc | rfl)); (case ht => (first | k_is | k_exc | rfl)); (case hm => (first | k_is | k_exc | rfl)))
      (case e_w => refine' ⟨?a, ?ex, ?kp, ?ty, ⟨?hg, ?hk, ?hs, ?hd, ?ha, ?hn, ?ht, ?hm⟩⟩; (case a => (first | k_is | k_exc | rfl)); (case ex => (first | k_is | k_exc | rfl)); (case kp => (first | k_is | k_exc | rfl)); (case ty => (first | k_is | k_exc | rfl)); (case hg => (first | k_is | k_exc | rfl)); (case hk => (first | k_is | k_exc | rfl)); (case hs => (first | k_is | k_exc | rfl)); (case hd => (first | k_is | k_exc | rfl)); (case ha => (first | k_is | k_exc | rfl)); (case hn => (first | k_is | k_exc | rfl)); (case ht => (first | k_is | k_exc | rfl)); (case hm => (first | k_is | k_exc | rfl)))
      (case e_p => refine' ⟨?a, ?ex, ?kp, ?ty, ⟨?hg, ?hk, ?hs, ?hd, ?ha, ?hn, ?ht, ?hm⟩⟩; (case a => (first | k_is | k_exc | rfl)); (case ex => (first | k_is | k_exc | rfl)); (case kp => (first | k_is | k_exc | rfl)); (case ty => (first | k_is | k_exc | rfl)); (case hg => (first | k_is | k_exc | rfl)); (case hk => (first | k_is | k_exc | rfl)); (case hs => (first | k_is | k_exc | rfl)); (case hd => (first | k_is | k_exc | rfl)); (case ha => (first | k_is | k_exc | rfl)); (case hn => (first | k_is | k_exc | rfl)); (case ht => (first | k_is | k_exc | rfl)); (case hm => (first | k_is | k_exc | rfl)))
      (case s_d => (first | k_is | rfl))
      (case k_dd => (first | k_is | rfl | decide +kernel))
      (case k_dw => (first | k_is | rfl | decide +kernel))
      (case k_dp => (first | k_is | rfl | decide +kernel))
      (case s_w => (first | k_is | rfl))
      (case k_wd => (first | k_is | rfl | decide +kernel))
      (case k_ww => (first | k_is | rfl | decide +kernel))
      (case k_wp => (first | k_is | rfl | decide +kernel))
      (case s_p => (first | k_is | rfl))
      (case k_pd => (first | k_is | rfl | decide +kernel))
      (case k_pw => (first | k_is | rfl | decide +kernel))
      (case k_pp => (first | k_is | rfl | decide +kernel))
    case L =>
      refine' SB.LawC.of ?a ?l ?cd ?lc ?v11 ?g11 ?g18 ?g7 ?g9 ?g10 ?ne ?nP
      (case a => (first | k_is))
      (case l => (first | k_is))
      (case cd => (first | k_is))
      (case lc => (first | k_is))
      (case v11 => first | rfl | k_is)
      (case g11 => first | rfl | k_is)
      (case g18 => first | rfl | k_is)
      (case g7 => first | rfl | k_is)
      (case g9 => first | rfl | k_is)
      (case g10 => first | rfl | k_is)
      (case nP => first | k_is | rfl | decide +kernel)
      (case ne => first | decide)

