import PyProof.Rows.All
import Wide.All
import OpenK.AllK
import Wide.FinOn
import HandS.ForMost
import HandS.ForExc
import HandS.IsInst
import HandS.TupLe
import HandS.TupAny
import HandS.Style
import HandS.Zip
import HandS.TupMul
import HandS.Small
import HandS.SortInts
import HandS.Conv
import KE.GoesMore
import KE.GoesEnum
import HandS.SortRule
import HandS.NamedTupSort
import PySem.Challenge.RW_treetrail_k04_contradictions
set_option Elab.async false
set_option linter.all false
set_option maxRecDepth 100000
/-! LA: data, representation, environments, the lifted judgements. -/
namespace Lf
open PySem PySem.Spec PyProof.Rows L2

abbrev D := PyData
abbrev Frag := PySem.W.Frag
def keyD : L2.Key → D
  | .inl i => .int i
  | .inr x => .str x

mutual
inductive Rp (K : Frag) (F : Hp) : V → D → Prop
  | non : Rp K F .non .none
  | bl (b : Bool) : Rp K F (.bl b) (.bool b)
  | int (i : Int) : Rp K F (.int i) (.int i)
  | str (x : Str) : Rp K F (.str x) (.str x)
  | lst {a : Addr} {xs : List V} {ds : List D} : SqL K F a xs → RpL K F xs ds → Rp K F (.ref a) (.list ds)
  | tup {a : Addr} {xs : List V} {ds : List D} : SqT K F a xs → RpL K F xs ds → Rp K F (.ref a) (.tuple ds)
  | dK {a : Addr} {kvs : List (L2.Key × V)} {es : List (D × D)} : F a = some (.dK kvs) → RpK K F kvs es → Rp K F (.ref a) (.dict es)
  | dT {a : Addr} {kvs : List (List L2.Key × V)} {es : List (D × D)} : F a = some (.dT kvs) → RpT K F kvs es → Rp K F (.ref a) (.dict ((.bool true, .none) :: es))
inductive RpL (K : Frag) (F : Hp) : List V → List D → Prop
  | nil : RpL K F [] []
  | cons {v : V} {vs : List V} {d : D} {ds : List D} : Rp K F v d → RpL K F vs ds → RpL K F (v :: vs) (d :: ds)
inductive RpK (K : Frag) (F : Hp) : List (L2.Key × V) → List (D × D) → Prop
  | nil : RpK K F [] []
  | cons {k : L2.Key} {v : V} {vs : List (L2.Key × V)} {d : D} {ds : List (D × D)} : Rp K F v d → RpK K F vs ds → RpK K F ((k, v) :: vs) ((keyD k, d) :: ds)
inductive RpT (K : Frag) (F : Hp) : List (List L2.Key × V) → List (D × D) → Prop
  | nil : RpT K F [] []
  | cons {k : List L2.Key} {v : V} {vs : List (List L2.Key × V)} {d : D} {ds : List (D × D)} : Rp K F v d → RpT K F vs ds → RpT K F ((k, v) :: vs) ((.tuple (k.map keyD), d) :: ds)
end

/-- one heap within another -/
def Sub (F G : Hp) : Prop := ∀ a o, F a = some o → G a = some o
theorem Sub.refl (F : Hp) : Sub F F := fun _ _ h => h
theorem Sub.trans {F G H : Hp} (a : Sub F G) (b : Sub G H) : Sub F H := fun c o h => b c o (a c o h)

section
variable {K : Frag} {F F' : Hp}
theorem sqL_mono (h : Sub F F') {a : Addr} {xs : List V} (q : SqL K F a xs) : SqL K F' a xs := by
  rcases q with (q | ⟨o, q⟩) | q
  · exact .inl (.inl (h _ _ q))
  · exact .inl (.inr ⟨o, h _ _ q⟩)
  · exact .inr q
theorem sqT_mono (h : Sub F F') {a : Addr} {xs : List V} (q : SqT K F a xs) : SqT K F' a xs := by
  rcases q with (q | ⟨o, q⟩) | q
  · exact .inl (.inl (h _ _ q))
  · exact .inl (.inr ⟨o, h _ _ q⟩)
  · exact .inr q
mutual
theorem Rp.mono (h : Sub F F') : ∀ {v : V} {d : D}, Rp K F v d → Rp K F' v d
  | _, _, .non => .non
  | _, _, .bl b => .bl b
  | _, _, .int i => .int i
  | _, _, .str x => .str x
  | _, _, .lst s r => .lst (sqL_mono h s) (RpL.mono h r)
  | _, _, .tup s r => .tup (sqT_mono h s) (RpL.mono h r)
  | _, _, .dK s r => .dK (h _ _ s) (RpK.mono h r)
  | _, _, .dT s r => .dT (h _ _ s) (RpT.mono h r)
theorem RpL.mono (h : Sub F F') : ∀ {vs : List V} {ds : List D}, RpL K F vs ds → RpL K F' vs ds
  | _, _, .nil => .nil
  | _, _, .cons a b => .cons (Rp.mono h a) (RpL.mono h b)
theorem RpK.mono (h : Sub F F') : ∀ {vs : List (L2.Key × V)} {ds : List (D × D)}, RpK K F vs ds → RpK K F' vs ds
  | _, _, .nil => .nil
  | _, _, .cons a b => .cons (Rp.mono h a) (RpK.mono h b)
theorem RpT.mono (h : Sub F F') : ∀ {vs : List (List L2.Key × V)} {ds : List (D × D)}, RpT K F vs ds → RpT K F' vs ds
  | _, _, .nil => .nil
  | _, _, .cons a b => .cons (Rp.mono h a) (RpT.mono h b)
end
theorem RpL.length : ∀ {vs : List V} {ds : List D}, RpL K F vs ds → vs.length = ds.length
  | _, _, .nil => rfl
  | _, _, .cons _ b => congrArg (· + 1) (RpL.length b)
theorem RpL.append : ∀ {vs ws : List V} {ds es : List D}, RpL K F vs ds → RpL K F ws es → RpL K F (vs ++ ws) (ds ++ es)
  | _, _, _, _, .nil, q => q
  | _, _, _, _, .cons a b, q => .cons a (RpL.append b q)
theorem RpL.get : ∀ {vs : List V} {ds : List D} {i : Nat} {d : D}, RpL K F vs ds → ds[i]? = some d → ∃ v, vs[i]? = some v ∧ Rp K F v d
  | _, _, _, _, .nil, e => by simp at e
  | _, _, 0, _, .cons a b, e => by simp at e; subst e; exact ⟨_, rfl, a⟩
  | _, _, i + 1, _, .cons a b, e => by
    obtain ⟨v, h1, h2⟩ := RpL.get (i := i) b (by simpa using e)
    exact ⟨v, by simpa using h1, h2⟩
theorem RpL.getV : ∀ {vs : List V} {ds : List D} {i : Nat} {v : V}, RpL K F vs ds → vs[i]? = some v → ∃ d, ds[i]? = some d ∧ Rp K F v d
  | _, _, _, _, .nil, e => by simp at e
  | _, _, 0, _, .cons a b, e => by simp at e; subst e; exact ⟨_, rfl, a⟩
  | _, _, i + 1, _, .cons a b, e => by
    obtain ⟨v, h1, h2⟩ := RpL.getV (i := i) b (by simpa using e)
    exact ⟨v, by simpa using h1, h2⟩
theorem RpL.take : ∀ (n : Nat) {vs : List V} {ds : List D}, RpL K F vs ds → RpL K F (vs.take n) (ds.take n)
  | 0, _, _, _ => by simp; exact .nil
  | _ + 1, _, _, .nil => .nil
  | n + 1, _, _, .cons a b => .cons a (RpL.take n b)
theorem RpL.drop : ∀ (n : Nat) {vs : List V} {ds : List D}, RpL K F vs ds → RpL K F (vs.drop n) (ds.drop n)
  | 0, _, _, h => h
  | _ + 1, _, _, .nil => .nil
  | n + 1, _, _, .cons _ b => RpL.drop n b
theorem RpL.set {v : V} {d : D} (r : Rp K F v d) : ∀ (i : Nat) {vs : List V} {ds : List D}, RpL K F vs ds → RpL K F (vs.set i v) (ds.set i d)
  | _, _, _, .nil => .nil
  | 0, _, _, .cons _ b => .cons r b
  | i + 1, _, _, .cons a b => .cons a (RpL.set r i b)
theorem RpL.eraseIdx : ∀ (i : Nat) {vs : List V} {ds : List D}, RpL K F vs ds → RpL K F (vs.eraseIdx i) (ds.eraseIdx i)
  | _, _, _, .nil => .nil
  | 0, _, _, .cons _ b => b
  | i + 1, _, _, .cons a b => .cons a (RpL.eraseIdx i b)
theorem RpL.dropLast {vs : List V} {ds : List D} (h : RpL K F vs ds) : RpL K F vs.dropLast ds.dropLast := by
  rw [List.dropLast_eq_take, List.dropLast_eq_take, h.length]; exact h.take _
theorem RpL.reverse : ∀ {vs : List V} {ds : List D}, RpL K F vs ds → RpL K F vs.reverse ds.reverse
  | _, _, .nil => .nil
  | _, _, .cons a b => by rw [List.reverse_cons, List.reverse_cons]; exact (RpL.reverse b).append (.cons a .nil)
theorem RpL.ints : ∀ (ns : List Int), RpL K F (ns.map V.int) (ns.map PyData.int)
  | [] => .nil
  | n :: r => .cons (.int n) (RpL.ints r)
theorem RpL.ints_of : ∀ {ns : List Int} {vs : List V}, RpL K F vs (ns.map PyData.int) → vs = ns.map V.int
  | [], _, .nil => rfl
  | _ :: _, _, .cons (.int _) b => by rw [RpL.ints_of b]; rfl
end

/-! ### environments -/
inductive S where
  | fr (d : D) | ow (d : D) | lk (d : D) | io (d : D)
def S.own : S → Bool
  | .fr _ => false
  | .lk _ => false
  | _ => true
abbrev EnvD := List (Option S)
def isDct : HO → Bool
  | .dK _ => true
  | .dT _ => true
  | _ => false
/-- the frozen heap, within the heap (dicts may be locked) -/
def FH (F H : Hp) : Prop := ∀ a o, F a = some o → H a = some o ∨ (isDct o = true ∧ ∃ od, H a = some (.frz od o))
def RO (K : Frag) (F : Hp) : HO → D → Prop
  | .lst xs, .list ds => RpL K F xs ds
  | .dK kvs, .dict es => RpK K F kvs es
  | .dT kvs, .dict ((.bool true, .none) :: es) => RpT K F kvs es
  | _, _ => False
theorem RO.mono {K : Frag} {F F' : Hp} (h : Sub F F') {o : HO} {d : D} (r : RO K F o d) : RO K F' o d := by
  unfold RO at r ⊢
  split at r
  · exact RpL.mono h r
  · exact RpK.mono h r
  · exact RpT.mono h r
  · exact r.elim
theorem RO.rp {K : Frag} {F : Hp} {a : Addr} {o : HO} {d : D} (h : F a = some o) (r : RO K F o d) : Rp K F (.ref a) d := by
  unfold RO at r
  split at r
  · exact .lst (SqL.of h) r
  · exact .dK h r
  · exact .dT h r
  · exact r.elim
inductive RS (K : Frag) (G : Hp) (io : Option Addr) (F H : Hp) : V → S → Prop
  | fr {v : V} {d : D} : Rp K F v d → RS K G io F H v (.fr d)
  | ow {a : Addr} {o : HO} {d : D} : H a = some o → F a = none → G a = none → some a ≠ io → RO K F o d → RS K G io F H (.ref a) (.ow d)
  | lk {a : Addr} : RS K G io F H (.ref a) (.lk (.int (a : Nat)))
  | io {a : Addr} {o : HO} {d : D} : H a = some o → F a = none → G a = none → some a = io → RO K F o d → RS K G io F H (.ref a) (.io d)
structure EnvOk (K : Frag) (G : Hp) (io : Option Addr) (F : Hp) (σ : L2.St) (H : Hp) (ρ : EnvD) : Prop where
  g : Sub G H
  f : FH F H
  len : ρ.length = σ.length
  at_ : ∀ (i : Nat) s, ρ[i]? = some (some s) → ∃ v, σ[i]? = some (some v) ∧ RS K G io F H v s
  apart : ∀ (i j : Nat) s t v, ρ[i]? = some (some s) → ρ[j]? = some (some t) → s.own = true → t.own = true → σ[i]? = some (some v) → σ[j]? = some (some v) → i = j
  iok : ∀ a, io = some a → H a ≠ none
/-- a value stands apart from what the environment owns -/
def Sep (σ : L2.St) (ρ : EnvD) (v : V) (s : S) : Prop := s.own = true → ∀ (i : Nat) t, ρ[i]? = some (some t) → t.own = true → σ[i]? ≠ some (some v)
/-- the frozen heap grows, not into G -/
structure Fx (G F F' : Hp) : Prop where
  sub : Sub F F'
  new : ∀ a o, F' a = some o → F a = some o ∨ G a = none
theorem Fx.refl (G F : Hp) : Fx G F F := ⟨Sub.refl F, fun _ _ h => .inl h⟩
theorem Fx.trans {G F F1 F2 : Hp} (a : Fx G F F1) (b : Fx G F1 F2) : Fx G F F2 :=
  ⟨a.sub.trans b.sub, fun c o h => (b.new c o h).elim (fun q => a.new c o q) .inr⟩

inductive Res (α : Type) where
  | ok (a : α) | exc (c : Str) | bad
abbrev M (α : Type) := EnvD → Res (α × EnvD)
def M.pure {α : Type} (a : α) : M α := fun ρ => .ok (a, ρ)
def M.bind {α β : Type} (m : M α) (f : α → M β) : M β := fun ρ => match m ρ with
  | .ok (a, ρ') => f a ρ'
  | .exc c => .exc c
  | .bad => .bad
def M.lift {α : Type} (r : Res α) : M α := fun ρ => match r with
  | .ok a => .ok (a, ρ)
  | .exc c => .exc c
  | .bad => .bad

/-- what is wanted behind an expression, by its lifted result -/
def PoE {α β : Type} (R : Hp → Hp → α → β → L2.St → EnvD → Prop) (X : Cx) (W : WX) (G : Hp) (io : Option Addr) (F : Hp) (σ : L2.St) (Q : α → Hp → Prop) : Res (β × EnvD) → Prop
  | .ok (d, ρ') => ∀ v F' H', Fx G F F' → EnvOk X.K G io F' σ H' ρ' → R F' H' v d σ ρ' → Q v H'
  | .exc c => ∀ C H', X.mg c = some (.ref C) → Sub G H' → W (.ref C) none σ H'
  | .bad => False
abbrev rE (X : Cx) : Hp → Hp → V → D → L2.St → EnvD → Prop := fun F _ v d _ _ => Rp X.K F v d
abbrev rF (X : Cx) (G : Hp) (io : Option Addr) : Hp → Hp → V → S → L2.St → EnvD → Prop := fun F H v s σ ρ => RS X.K G io F H v s ∧ Sep σ ρ v s
abbrev rT : Hp → Hp → Bool → Bool → L2.St → EnvD → Prop := fun _ _ b c _ _ => b = c
abbrev rA (X : Cx) : Hp → Hp → List V → List D → L2.St → EnvD → Prop := fun F _ vs ds _ _ => RpL X.K F vs ds

structure LE (X : Cx) (W : WX) (e : Expr) (m : M D) : Prop where
  ex : ∃ t, PE X e t ∧ ∀ G io F σ H ρ Q, EnvOk X.K G io F σ H ρ → PoE (rE X) X W G io F σ Q (m ρ) → t σ H Q
structure LF (X : Cx) (W : WX) (e : Expr) (m : M S) : Prop where
  ex : ∃ t, PE X e t ∧ ∀ G io F σ H ρ Q, EnvOk X.K G io F σ H ρ → PoE (rF X G io) X W G io F σ Q (m ρ) → t σ H Q
structure LT (X : Cx) (W : WX) (e : Expr) (m : M Bool) : Prop where
  ex : ∃ t, PT X e t ∧ ∀ G io F σ H ρ Q, EnvOk X.K G io F σ H ρ → PoE rT X W G io F σ Q (m ρ) → t σ H Q
structure LW (X : Cx) (W : WX) (e : Expr) (m : M Bool) : Prop where
  ex : ∃ t, PW X e t ∧ ∀ G io F σ H ρ Q, EnvOk X.K G io F σ H ρ → PoE rT X W G io F σ Q (m ρ) → t σ H Q
structure LA (X : Cx) (W : WX) (es : List Expr) (m : M (List D)) : Prop where
  ex : ∃ t, PA X es t ∧ ∀ G io F σ H ρ Q, EnvOk X.K G io F σ H ρ → PoE (rA X) X W G io F σ Q (m ρ) → t σ H Q

/-- the way of a result -/
inductive Out where
  | nx (ρ : EnvD) | rt (s : S) (ρ : EnvD) | bk (ρ : EnvD) | ct (ρ : EnvD) | exc (c : Str) | bad
def PoS (X : Cx) (W : WX) (G : Hp) (io : Option Addr) (F : Hp) (E : Ends) : Out → Prop
  | .nx ρ' => ∀ σ' F' H', Fx G F F' → EnvOk X.K G io F' σ' H' ρ' → E.nx σ' H'
  | .rt s ρ' => ∀ v σ' F' H', Fx G F F' → EnvOk X.K G io F' σ' H' ρ' → RS X.K G io F' H' v s → E.rt v H'
  | .bk ρ' => ∀ σ' F' H', Fx G F F' → EnvOk X.K G io F' σ' H' ρ' → E.bk σ' H'
  | .ct ρ' => ∀ σ' F' H', Fx G F F' → EnvOk X.K G io F' σ' H' ρ' → E.ct σ' H'
  | .exc c => ∀ C σ' H', X.mg c = some (.ref C) → Sub G H' → W (.ref C) none σ' H'
  | .bad => False
structure LS (X : Cx) (W : WX) (st : Stmt) (f : EnvD → Out) : Prop where
  ex : ∃ t, PS X st t ∧ ∀ G io F σ H ρ E, EnvOk X.K G io F σ H ρ → PoS X W G io F E (f ρ) → t E σ H
structure LSs (X : Cx) (W : WX) (sts : List Stmt) (f : EnvD → Out) : Prop where
  ex : ∃ t, PSs X sts t ∧ ∀ G io F σ H ρ E, EnvOk X.K G io F σ H ρ → PoS X W G io F E (f ρ) → t E σ H

/-! ### moving along -/
theorem PoE.mono {α β : Type} {R : Hp → Hp → α → β → L2.St → EnvD → Prop} {X : Cx} {W : WX} {G : Hp} {io : Option Addr} {F F1 : Hp} {σ : L2.St} {Q : α → Hp → Prop} (x : Fx G F F1) : ∀ {r : Res (β × EnvD)}, PoE R X W G io F σ Q r → PoE R X W G io F1 σ Q r
  | .ok (d, ρ'), h => fun v F' H' y => h v F' H' (x.trans y)
  | .exc _, h => h
  | .bad, h => h
theorem PoS.mono {X : Cx} {W : WX} {G : Hp} {io : Option Addr} {F F1 : Hp} {E : Ends} (x : Fx G F F1) : ∀ {r : Out}, PoS X W G io F E r → PoS X W G io F1 E r
  | .nx _, h => fun σ' F' H' y => h σ' F' H' (x.trans y)
  | .rt _ _, h => fun v σ' F' H' y => h v σ' F' H' (x.trans y)
  | .bk _, h => fun σ' F' H' y => h σ' F' H' (x.trans y)
  | .ct _, h => fun σ' F' H' y => h σ' F' H' (x.trans y)
  | .exc _, h => h
  | .bad, h => h
/-- bind: the first part's want -/
theorem PoE.bind {α β γ δ : Type} {R : Hp → Hp → α → β → L2.St → EnvD → Prop} {R' : Hp → Hp → γ → δ → L2.St → EnvD → Prop} {X : Cx} {W : WX} {G : Hp} {io : Option Addr} {F : Hp} {σ : L2.St} {Q : γ → Hp → Prop} {Q1 : α → Hp → Prop} {m : M β} {f : β → M δ} {ρ : EnvD}
    (h : PoE R' X W G io F σ Q (M.bind m f ρ))
    (k : ∀ v d ρ1 F1 H1, Fx G F F1 → EnvOk X.K G io F1 σ H1 ρ1 → R F1 H1 v d σ ρ1 → PoE R' X W G io F1 σ Q (f d ρ1) → Q1 v H1) : PoE R X W G io F σ Q1 (m ρ) := by
  unfold M.bind at h
  cases e : m ρ with
  | ok p =>
    obtain ⟨d, ρ1⟩ := p
    rw [e] at h
    exact fun v F1 H1 x ok r => k v d ρ1 F1 H1 x ok r (h.mono x)
  | exc c => rw [e] at h; exact h
  | bad => rw [e] at h; exact h
end Lf

/-! LB: freezing, storing, names, constants, blocks, if, while, for. -/
namespace Lf
open PySem PySem.Spec PyProof.Rows L2
section
variable {K : Frag} {G : Hp} {io : Option Addr} {F F' H : Hp} {σ : L2.St} {ρ : EnvD}
/-- an owned thing at a is frozen -/
theorem freezeFx {a : Addr} {o : HO} (hf : F a = none) (hg : G a = none) : Fx G F (upd F a o) :=
  ⟨fun b u e => by rw [upd_ne (ne_of_none e hf)]; exact e, fun b u e => by
    by_cases hb : b = a
    · subst hb; exact .inr hg
    · rw [upd_ne hb] at e; exact .inl e⟩
theorem EnvOk.freeze {a : Addr} {o : HO} (ok : EnvOk K G io F σ H ρ) (hh : H a = some o) (hf : F a = none) (hg : G a = none)
    (sep : ∀ (i : Nat) t, ρ[i]? = some (some t) → t.own = true → σ[i]? ≠ some (some (.ref a))) : EnvOk K G io (upd F a o) σ H ρ := by
  have fx : Fx G F (upd F a o) := freezeFx hf hg
  refine ⟨ok.g, fun b u e => ?_, ok.len, fun i s e => ?_, ok.apart, ok.iok⟩
  · by_cases hb : b = a
    · subst hb; rw [upd_same] at e; cases e; exact .inl hh
    · rw [upd_ne hb] at e; exact ok.f b u e
  · obtain ⟨v, h1, r⟩ := ok.at_ i s e
    refine ⟨v, h1, ?_⟩
    have na : ∀ b, v = .ref b → s.own = true → F b = none → upd F a o b = none := fun b hb hs hn => by
      rw [upd_ne (fun z => sep i s e hs (by rw [h1, hb, z]))]; exact hn
    cases r with
    | fr q => exact .fr (q.mono fx.sub)
    | ow x y z w q => exact .ow x (na _ rfl rfl y) z w (q.mono fx.sub)
    | lk => exact .lk
    | io x y z w q => exact .io x (na _ rfl rfl y) z w (q.mono fx.sub)
theorem isDct_no {o : HO} {od : Obj} (h : isDct (.frz od o) = true) : False := by cases h
theorem FH.rd {a : Addr} {o : HO} (f : FH F H) (h : F a = some o) : Rd H a o := (f a o h).elim .inl fun ⟨_, od, e⟩ => .inr ⟨od, e⟩
theorem sqL_H (f : FH F H) {a : Addr} {xs : List V} (q : SqL K F a xs) : SqL K H a xs := by
  rcases q with (q | ⟨o, q⟩) | q
  · rcases f _ _ q with z | ⟨z, _⟩
    · exact .inl (.inl z)
    · cases z
  · rcases f _ _ q with z | ⟨z, _⟩
    · exact .inl (.inr ⟨o, z⟩)
    · cases z
  · exact .inr q
theorem sqT_H (f : FH F H) {a : Addr} {xs : List V} (q : SqT K F a xs) : SqT K H a xs := by
  rcases q with (q | ⟨o, q⟩) | q
  · rcases f _ _ q with z | ⟨z, _⟩
    · exact .inl (.inl z)
    · cases z
  · rcases f _ _ q with z | ⟨z, _⟩
    · exact .inl (.inr ⟨o, z⟩)
    · cases z
  · exact .inr q
theorem FH.none (f : FH F H) {a : Addr} (h : H a = none) : F a = none := by
  cases e : F a with
  | none => rfl
  | some o =>
    rcases f _ _ e with z | ⟨_, od, z⟩
    · rw [h] at z; cases z
    · rw [h] at z; cases z
/-- a new thing is laid, frozen at once -/
theorem EnvOk.laid {p : Addr} {o : HO} (ok : EnvOk K G io F σ H ρ) (hn : H p = none) : Fx G F (upd F p o) ∧ EnvOk K G io (upd F p o) σ (upd H p o) ρ := by
  have hf : F p = none := ok.f.none hn
  have hg : G p = none := by
    cases e : G p with
    | none => rfl
    | some u => have := ok.g _ _ e; rw [hn] at this; cases this
  have fx : Fx G F (upd F p o) := freezeFx hf hg
  refine ⟨fx, fun b u e => ?_, fun b u e => ?_, ok.len, fun i s e => ?_, ok.apart, fun b e => by by_cases hb : b = p; (rw [hb, upd_same]; exact fun z => nomatch z); (rw [upd_ne hb]; exact ok.iok b e)⟩
  · rw [upd_ne (ne_of_none (ok.g _ _ e) hn)]; exact ok.g _ _ e
  · by_cases hb : b = p
    · subst hb; rw [upd_same] at e; cases e; exact .inl upd_same
    · rw [upd_ne hb] at e ⊢; exact ok.f b u e
  · obtain ⟨v, h1, r⟩ := ok.at_ i s e
    refine ⟨v, h1, ?_⟩
    cases r with
    | fr q => exact .fr (q.mono fx.sub)
    | ow x y z w q => exact .ow (by rw [upd_ne (ne_of_none x hn)]; exact x) (by rw [upd_ne (ne_of_none x hn)]; exact y) z w (q.mono fx.sub)
    | lk => exact .lk
    | io x y z w q => exact .io (by rw [upd_ne (ne_of_none x hn)]; exact x) (by rw [upd_ne (ne_of_none x hn)]; exact y) z w (q.mono fx.sub)
/-- a new thing is laid and owned -/
theorem EnvOk.laidOw {p : Addr} {o : HO} {d : D} (ok : EnvOk K G io F σ H ρ) (hn : H p = none) (r : RO K F o d) :
    EnvOk K G io F σ (upd H p o) ρ ∧ RS K G io F (upd H p o) (.ref p) (.ow d) ∧ Sep σ ρ (.ref p) (.ow d) := by
  have hf : F p = none := ok.f.none hn
  have hg : G p = none := by
    cases e : G p with
    | none => rfl
    | some u => have := ok.g _ _ e; rw [hn] at this; cases this
  refine ⟨⟨fun b u e => ?_, fun b u e => ?_, ok.len, fun i s e => ?_, ok.apart, fun b e => by by_cases hb : b = p; (rw [hb, upd_same]; exact fun z => nomatch z); (rw [upd_ne hb]; exact ok.iok b e)⟩, .ow upd_same hf hg (fun z => ok.iok p z.symm hn) r, fun _ i t e ho q => ?_⟩
  · rw [upd_ne (ne_of_none (ok.g _ _ e) hn)]; exact ok.g _ _ e
  · rcases ok.f b u e with z | ⟨z, od, w⟩
    · left; rw [upd_ne (ne_of_none z hn)]; exact z
    · right; refine ⟨z, od, ?_⟩; rw [upd_ne (ne_of_none w hn)]; exact w
  · obtain ⟨v, h1, r⟩ := ok.at_ i s e
    refine ⟨v, h1, ?_⟩
    cases r with
    | fr q => exact .fr q
    | ow x y z w q => exact .ow (by rw [upd_ne (ne_of_none x hn)]; exact x) y z w q
    | lk => exact .lk
    | io x y z w q => exact .io (by rw [upd_ne (ne_of_none x hn)]; exact x) y z w q
  · obtain ⟨v, h1, r⟩ := ok.at_ i t e
    rw [h1] at q
    cases q
    cases r with
    | fr q => cases ho
    | ow x y z w q => rw [hn] at x; cases x
    | lk => cases ho
    | io x y z w q => rw [hn] at x; cases x
/-- a slot is set to a frozen value -/
theorem EnvOk.setFr {i : Nat} {v : V} {d : D} (ok : EnvOk K G io F σ H ρ) (r : Rp K F v d) (hi : i < ρ.length) : EnvOk K G io F (σ.set i (some v)) H (ρ.set i (some (.fr d))) := by
  refine ⟨ok.g, ok.f, by simp [ok.len], fun j s e => ?_, fun j k s t u e1 e2 o1 o2 q1 q2 => ?_, ok.iok⟩
  · by_cases hj : j = i
    · subst hj
      rw [List.getElem?_set_self hi] at e
      cases e
      exact ⟨v, by rw [List.getElem?_set_self (by rw [← ok.len]; exact hi)], .fr r⟩
    · rw [List.getElem?_set_ne (Ne.symm hj)] at e ⊢
      exact ok.at_ j s e
  · have h1 : j ≠ i := fun z => by subst z; rw [List.getElem?_set_self hi] at e1; cases e1; cases o1
    have h2 : k ≠ i := fun z => by subst z; rw [List.getElem?_set_self hi] at e2; cases e2; cases o2
    rw [List.getElem?_set_ne (Ne.symm h1)] at e1 q1
    rw [List.getElem?_set_ne (Ne.symm h2)] at e2 q2
    exact ok.apart j k s t u e1 e2 o1 o2 q1 q2
/-- a slot is set to a fresh value -/
theorem EnvOk.setRS {i : Nat} {v : V} {s : S} (ok : EnvOk K G io F σ H ρ) (r : RS K G io F H v s) (sp : Sep σ ρ v s) (hi : i < ρ.length) : EnvOk K G io F (σ.set i (some v)) H (ρ.set i (some s)) := by
  refine ⟨ok.g, ok.f, by simp [ok.len], fun j s e => ?_, fun j k s1 t u e1 e2 o1 o2 q1 q2 => ?_, ok.iok⟩
  · by_cases hj : j = i
    · subst hj
      rw [List.getElem?_set_self hi] at e
      cases e
      exact ⟨v, by rw [List.getElem?_set_self (by rw [← ok.len]; exact hi)], r⟩
    · rw [List.getElem?_set_ne (Ne.symm hj)] at e ⊢
      exact ok.at_ j s e
  · have hiσ : i < σ.length := by rw [← ok.len]; exact hi
    by_cases h1 : j = i
    · by_cases h2 : k = i
      · rw [h1, h2]
      · subst h1
        rw [List.getElem?_set_self hi] at e1
        rw [List.getElem?_set_self hiσ] at q1
        cases e1; cases q1
        rw [List.getElem?_set_ne (Ne.symm h2)] at e2 q2
        exact absurd q2 (sp o1 k t e2 o2)
    · by_cases h2 : k = i
      · subst h2
        rw [List.getElem?_set_self hi] at e2
        rw [List.getElem?_set_self hiσ] at q2
        cases e2; cases q2
        rw [List.getElem?_set_ne (Ne.symm h1)] at e1 q1
        exact absurd q1 (sp o2 j s1 e1 o1)
      · rw [List.getElem?_set_ne (Ne.symm h1)] at e1 q1
        rw [List.getElem?_set_ne (Ne.symm h2)] at e2 q2
        exact ok.apart j k s1 t u e1 e2 o1 o2 q1 q2
/-- a slot is forgotten -/
theorem EnvOk.drop {i : Nat} (ok : EnvOk K G io F σ H ρ) : EnvOk K G io F σ H (ρ.set i none) := by
  have key : ∀ (j : Nat) s, (ρ.set i none)[j]? = some (some s) → ρ[j]? = some (some s) := fun j s e => by
    by_cases hj : j = i
    · subst hj
      by_cases hl : j < ρ.length
      · rw [List.getElem?_set_self hl] at e; cases e
      · rw [List.getElem?_eq_none (by simpa using hl)] at e; cases e
    · rw [List.getElem?_set_ne (Ne.symm hj)] at e; exact e
  exact ⟨ok.g, ok.f, by simp [ok.len], fun j s e => ok.at_ j s (key j s e), fun j k s t u e1 e2 => ok.apart j k s t u (key j s e1) (key k t e2), ok.iok⟩
/-- an owned slot turns frozen -/
theorem EnvOk.freezeSlot {i : Nat} {d : D} (ok : EnvOk K G io F σ H ρ) (e : ρ[i]? = some (some (.ow d))) : ∃ F' v, Fx G F F' ∧ EnvOk K G io F' σ H (ρ.set i (some (.fr d))) ∧ σ[i]? = some (some v) ∧ Rp K F' v d := by
  obtain ⟨v, h1, r⟩ := ok.at_ i _ e
  cases r with
  | @ow a o d x y z w q =>
    have hi : i < ρ.length := by
      rcases Nat.lt_or_ge i ρ.length with h | h
      · exact h
      · rw [List.getElem?_eq_none h] at e; cases e
    have ok1 : EnvOk K G io (upd F a o) σ H (ρ.set i none) := ok.drop.freeze x y z fun j t ej ho hq => by
      by_cases hj : j = i
      · subst hj; rw [List.getElem?_set_self hi] at ej; cases ej
      · rw [List.getElem?_set_ne (Ne.symm hj)] at ej
        exact hj (ok.apart j i t _ _ ej e ho rfl hq h1)
    have fx : Fx G F (upd F a o) := freezeFx y z
    refine ⟨upd F a o, .ref a, fx, ?_, h1, (RO.rp upd_same (q.mono fx.sub))⟩
    have ok2 := ok1.setFr (i := i) (RO.rp (a := a) upd_same (q.mono fx.sub)) (by simpa using hi)
    have es : σ.set i (some (.ref a)) = σ := by
      apply List.ext_getElem?
      intro j
      by_cases hj : j = i
      · subst hj; rw [List.getElem?_set_self (by rw [← ok.len]; exact hi)]; exact h1.symm
      · rw [List.getElem?_set_ne (Ne.symm hj)]
    rw [es, List.set_set] at ok2
    exact ok2
end

/-! ### names, constants -/
section
variable {X : Cx} {W : WX}
/-- a name as a value: what is owned is frozen -/
def varM (i : Nat) : M D := fun ρ => match ρ[i]? with
  | some (some (.fr d)) => .ok (d, ρ)
  | some (some (.ow d)) => .ok (d, ρ.set i (some (.fr d)))
  | _ => .bad
theorem le_pe {e : Expr} {i : Nat} (h : PE X e (tVar i)) : LE X W e (varM i) := by
  refine ⟨_, h, fun G io F σ H ρ Q ok q => ?_⟩
  unfold varM at q
  cases e1 : ρ[i]? with
  | none => rw [e1] at q; exact q.elim
  | some o =>
    rw [e1] at q
    cases o with
    | none => exact q.elim
    | some s =>
      cases s with
      | fr d =>
        obtain ⟨v, h1, r⟩ := ok.at_ i _ e1
        cases r with
        | fr r => exact ⟨v, h1, q v F H (Fx.refl G F) ok r⟩
      | ow d =>
        obtain ⟨F', v, fx, ok', h1, r⟩ := ok.freezeSlot e1
        exact ⟨v, h1, q v F' H fx ok' r⟩
      | lk d => exact q.elim
      | io d => exact q.elim
theorem le_var (i : Nat) {x : Str} {pos : Pos} (hN : X.N[i]? = some x := by rfl) (hv : Vis X.env.scope x := by first | exact Or.inl rfl | exact Or.inr (Or.inl rfl) | exact Or.inr (Or.inr rfl)) (hd : (x == ("__debug__" : Str)) = false := by decide)
    (hcd : (x == ("__classdict__" : Str)) = false := by decide) : LE X W (.Name x pos) (varM i) := le_pe (pe_var hN hv hd hcd)
/-- a name moved (return, the value of an assignment of a name that is not used again): its own slot is emptied -/
def movM (i : Nat) : M S := fun ρ => match ρ[i]? with
  | some (some (.fr d)) => .ok (.fr d, ρ)
  | some (some (.ow d)) => .ok (.ow d, ρ.set i none)
  | _ => .bad
theorem lf_mov (i : Nat) {x : Str} {pos : Pos} (hN : X.N[i]? = some x := by rfl) (hv : Vis X.env.scope x := by first | exact Or.inl rfl | exact Or.inr (Or.inl rfl) | exact Or.inr (Or.inr rfl)) (hd : (x == ("__debug__" : Str)) = false := by decide)
    (hcd : (x == ("__classdict__" : Str)) = false := by decide) : LF X W (.Name x pos) (movM i) := by
  refine ⟨_, pe_var hN hv hd hcd, fun G io F σ H ρ Q ok q => ?_⟩
  unfold movM at q
  cases e1 : ρ[i]? with
  | none => rw [e1] at q; exact q.elim
  | some o =>
    rw [e1] at q
    cases o with
    | none => exact q.elim
    | some s =>
      cases s with
      | fr d =>
        obtain ⟨v, h1, r⟩ := ok.at_ i _ e1
        exact ⟨v, h1, q v F H (Fx.refl G F) ok ⟨r, fun z => nomatch z⟩⟩
      | ow d =>
        obtain ⟨v, h1, r⟩ := ok.at_ i _ e1
        refine ⟨v, h1, q v F H (Fx.refl G F) ok.drop ⟨r, fun _ j t ej ho hq => ?_⟩⟩
        have hi : i < ρ.length := by
          rcases Nat.lt_or_ge i ρ.length with h | h
          · exact h
          · rw [List.getElem?_eq_none h] at e1; cases e1
        by_cases hj : j = i
        · subst hj; rw [List.getElem?_set_self hi] at ej; cases ej
        · rw [List.getElem?_set_ne (Ne.symm hj)] at ej
          exact hj (ok.apart j i t _ _ ej e1 ho rfl hq h1)
      | lk d => exact q.elim
      | io d => exact q.elim
theorem le_const {e : Expr} {v : V} {d : D} (h : PE X e (tC v)) (r : ∀ F, Rp X.K F v d) : LE X W e (M.pure d) :=
  ⟨_, h, fun G io F σ H ρ Q ok q => q v F H (Fx.refl G F) ok (r F)⟩
theorem le_int {i j pos} : LE X W (.Constant (.int i) j pos) (M.pure (.int i)) := le_const pe_int fun _ => .int i
theorem le_bl {b j pos} : LE X W (.Constant (.bool b) j pos) (M.pure (.bool b)) := le_const pe_bl fun _ => .bl b
theorem le_non {j pos} : LE X W (.Constant .none j pos) (M.pure .none) := le_const pe_non fun _ => .non
theorem le_str {x j pos} : LE X W (.Constant (.str x) j pos) (M.pure (.str x)) := le_const pe_str fun _ => .str x
/-- a module's constant int -/
theorem le_globI {x : Str} {pos : Pos} {i : Int} (hm : ∃ t, X.mg x = some (.int i t)) (hg : Gl X x := by rfl) (hd : (x == ("__debug__" : Str)) = false := by decide) : LE X W (.Name x pos) (M.pure (.int i)) := by
  obtain ⟨t, hm⟩ := hm
  exact le_const (pe_glob hg hm (v := .int i) ⟨t, rfl⟩ hd) fun _ => .int i
/-- frozen out of fresh -/
def frz (m : M S) : M D := fun ρ => match m ρ with
  | .ok (.fr d, ρ') => .ok (d, ρ')
  | .ok (.ow d, ρ') => .ok (d, ρ')
  | .ok _ => .bad
  | .exc c => .exc c
  | .bad => .bad
theorem le_of {e : Expr} {m : M S} (h : LF X W e m) : LE X W e (frz m) := by
  obtain ⟨t, ht, l⟩ := h.ex
  refine ⟨t, ht, fun G io F σ H ρ Q ok q => l G io F σ H ρ Q ok ?_⟩
  unfold frz at q
  cases e1 : m ρ with
  | ok p =>
    obtain ⟨s, ρ'⟩ := p
    rw [e1] at q
    cases s with
    | fr d =>
      rintro v F' H' fx ok' ⟨r, sp⟩
      cases r with
      | fr r => exact q v F' H' fx ok' r
    | ow d =>
      rintro v F' H' fx ok' ⟨r, sp⟩
      cases r with
      | @ow a o d x y z w r =>
        have f2 : Fx G F' (upd F' a o) := freezeFx y z
        exact q _ _ H' (fx.trans f2) (ok'.freeze x y z (sp rfl)) (RO.rp upd_same (r.mono f2.sub))
    | lk d => exact q.elim
    | io d => exact q.elim
  | exc c => rw [e1] at q; exact q
  | bad => rw [e1] at q; exact q
def fre (m : M D) : M S := fun ρ => match m ρ with
  | .ok (d, ρ') => .ok (.fr d, ρ')
  | .exc c => .exc c
  | .bad => .bad
theorem lf_of {e : Expr} {m : M D} (h : LE X W e m) : LF X W e (fre m) := by
  obtain ⟨t, ht, l⟩ := h.ex
  refine ⟨t, ht, fun G io F σ H ρ Q ok q => l G io F σ H ρ Q ok ?_⟩
  unfold fre at q
  cases e1 : m ρ with
  | ok p =>
    obtain ⟨d, ρ'⟩ := p
    rw [e1] at q
    exact fun v F' H' fx ok' r => q v F' H' fx ok' ⟨.fr r, fun z => nomatch z⟩
  | exc c => rw [e1] at q; exact q
  | bad => rw [e1] at q; exact q
end

/-! ### arguments -/
section
variable {X : Cx} {W : WX} {e : Expr} {es : List Expr}
theorem la_nil : LA X W [] (M.pure []) := ⟨_, pa_nil, fun G io F σ H ρ Q ok q => q [] F H (Fx.refl G F) ok .nil⟩
def consM (m : M D) (ms : M (List D)) : M (List D) := m.bind fun d => ms.bind fun ds => M.pure (d :: ds)
theorem la_cons {m : M D} {ms : M (List D)} (h : LE X W e m) (hs : LA X W es ms) (he : starEach (e :: es) X.env = (false, eval e X.env) :: starEach es X.env := by rfl) : LA X W (e :: es) (consM m ms) := by
  obtain ⟨t, ht, l⟩ := h.ex
  obtain ⟨u, hu, l2⟩ := hs.ex
  refine ⟨_, pa_cons ht hu he, fun G io F σ H ρ Q ok q => l G io F σ H ρ _ ok (PoE.bind q fun v d ρ1 F1 H1 fx ok1 r q1 => ?_)⟩
  refine l2 G io F1 σ H1 ρ1 _ ok1 (PoE.bind q1 fun vs ds ρ2 F2 H2 fx2 ok2 r2 q2 => ?_)
  exact q2 (v :: vs) F2 H2 (Fx.refl G F2) ok2 (.cons (r.mono fx2.sub) r2)
end

/-! ### blocks -/
section
variable {X : Cx} {W : WX} {st : Stmt} {rest : List Stmt} {f g : EnvD → Out}
def seqM (f g : EnvD → Out) : EnvD → Out := fun ρ => match f ρ with
  | .nx ρ' => g ρ'
  | o => o
theorem lss_nil : LSs X W [] .nx := ⟨_, pss_nil, fun G io F σ H ρ E ok q => q σ F H (Fx.refl G F) ok⟩
theorem lss_cons (h : LS X W st f) (hs : LSs X W rest g) : LSs X W (st :: rest) (seqM f g) := by
  obtain ⟨t, ht, l⟩ := h.ex
  obtain ⟨u, hu, l2⟩ := hs.ex
  refine ⟨_, pss_cons ht hu, fun G io F σ H ρ E ok q => l G io F σ H ρ _ ok ?_⟩
  unfold seqM at q
  cases e : f ρ with
  | nx ρ' => rw [e] at q; exact fun σ' F' H' fx ok' => l2 G io F' σ' H' ρ' E ok' (q.mono fx)
  | rt s ρ' => rw [e] at q; exact q
  | bk ρ' => rw [e] at q; exact q
  | ct ρ' => rw [e] at q; exact q
  | exc c => rw [e] at q; exact q
  | bad => rw [e] at q; exact q
theorem lss_one (h : LS X W st f) : LSs X W [st] f := by
  obtain ⟨t, ht, l⟩ := h.ex
  exact ⟨_, pss_one ht, l⟩
theorem ls_pass {pos} : LS X W (.Pass pos) .nx := ⟨_, ps_pass, fun G io F σ H ρ E ok q => q σ F H (Fx.refl G F) ok⟩
theorem ls_break {pos} : LS X W (.Break pos) .bk := ⟨_, ps_break, fun G io F σ H ρ E ok q => q σ F H (Fx.refl G F) ok⟩
theorem ls_continue {pos} : LS X W (.Continue pos) .ct := ⟨_, ps_continue, fun G io F σ H ρ E ok q => q σ F H (Fx.refl G F) ok⟩
theorem ls_doc {x j pos pos'} : LS X W (.Expr (.Constant (.str x) j pos) pos') .nx := ⟨_, ps_doc, fun G io F σ H ρ E ok q => q σ F H (Fx.refl G F) ok⟩
/-- a result as an outcome -/
def outM {α : Type} (k : α → EnvD → Out) : Res (α × EnvD) → Out
  | .ok (a, ρ) => k a ρ
  | .exc c => .exc c
  | .bad => .bad
theorem PoS.outE {α β : Type} {R : Hp → Hp → α → β → L2.St → EnvD → Prop} {G : Hp} {io : Option Addr} {F : Hp} {σ : L2.St} {E : Ends} {k : β → EnvD → Out} {Q1 : α → Hp → Prop} {r : Res (β × EnvD)} (h : PoS X W G io F E (outM k r))
    (z : ∀ v d ρ1 F1 H1, Fx G F F1 → EnvOk X.K G io F1 σ H1 ρ1 → R F1 H1 v d σ ρ1 → PoS X W G io F1 E (k d ρ1) → Q1 v H1) : PoE R X W G io F σ Q1 r := by
  cases r with
  | ok p => exact fun v F1 H1 x ok r => z v p.1 p.2 F1 H1 x ok r (PoS.mono x h)
  | exc c => exact fun C H' e s => h C σ H' e s
  | bad => exact h
def exprM {α : Type} (m : M α) : EnvD → Out := fun ρ => outM (fun _ ρ' => .nx ρ') (m ρ)
theorem ls_expr {e : Expr} {pos : Pos} {m : M S} (h : LF X W e m) (hs : swapsWith e none pos.line X.env = pure false := by rfl) : LS X W (.Expr e pos) (exprM m) := by
  obtain ⟨t, ht, l⟩ := h.ex
  exact ⟨_, ps_expr ht hs, fun G io F σ H ρ E ok q => l G io F σ H ρ _ ok (q.outE fun v d ρ1 F1 H1 fx ok1 r q1 => q1 σ F1 H1 (Fx.refl G F1) ok1)⟩
def retM (m : M S) : EnvD → Out := fun ρ => outM (fun s ρ' => .rt s ρ') (m ρ)
theorem ls_ret {e : Expr} {pos : Pos} {m : M S} (h : LF X W e m) : LS X W (.Return (some e) pos) (retM m) := by
  obtain ⟨t, ht, l⟩ := h.ex
  exact ⟨_, ps_ret ht, fun G io F σ H ρ E ok q => l G io F σ H ρ _ ok (q.outE fun v d ρ1 F1 H1 fx ok1 r q1 => q1 v σ F1 H1 (Fx.refl G F1) ok1 r.1)⟩
theorem ls_retN {pos : Pos} : LS X W (.Return none pos) (fun ρ => .rt (.fr .none) ρ) :=
  ⟨_, ps_retN, fun G io F σ H ρ E ok q => q .non σ F H (Fx.refl G F) ok (.fr .non)⟩
def ifM (c : M Bool) (f g : EnvD → Out) : EnvD → Out := fun ρ => outM (fun b ρ' => if b = true then f ρ' else g ρ') (c ρ)
theorem ls_if {c : Expr} {a b : List Stmt} {pos : Pos} {m : M Bool} (hc : LT X W c m) (ha : LSs X W a f) (hb : LSs X W b g) : LS X W (.If c a b pos) (ifM m f g) := by
  obtain ⟨t, ht, l⟩ := hc.ex
  obtain ⟨u, hu, lu⟩ := ha.ex
  obtain ⟨v, hv, lv⟩ := hb.ex
  refine ⟨_, ps_if ht hu hv, fun G io F σ H ρ E ok q => l G io F σ H ρ _ ok (q.outE fun x d ρ1 F1 H1 fx ok1 r q1 => ?_)⟩
  have r' : x = d := r
  subst r'
  cases x with
  | true => exact lu G io F1 σ H1 ρ1 E ok1 q1
  | false => exact lv G io F1 σ H1 ρ1 E ok1 q1
end
end Lf

/-! LC: operators, comparisons, tests, isinstance. -/
namespace Lf
open PySem PySem.Spec PyProof.Rows L2

def M.opt {α : Type} (o : Option α) : M α := fun ρ => match o with
  | some a => .ok (a, ρ)
  | none => .bad
def op2 (g : D → D → Option D) (a b : M D) : M D := a.bind fun x => b.bind fun y => M.opt (g x y)
def Op2 (K : Frag) (r : R2) (g : D → D → Option D) : Prop :=
  ∀ (F H : Hp) (x y : V) (d e z : D), FH F H → Rp K F x d → Rp K F y e → g d e = some z → ∃ v, Rp K F v z ∧ ∀ Q : VK, Q v H → r x y H Q
section
variable {X : Cx} {W : WX} {a b c : Expr} {ma mb mc : M D} {pos : Pos} {g g' : D → D → Option D} {r r' : R2}
theorem op2_run {ta tb : TE} (hg : Op2 X.K r g) (la : ∀ G io F σ H ρ Q, EnvOk X.K G io F σ H ρ → PoE (rE X) X W G io F σ Q (ma ρ) → ta σ H Q) (lb : ∀ G io F σ H ρ Q, EnvOk X.K G io F σ H ρ → PoE (rE X) X W G io F σ Q (mb ρ) → tb σ H Q)
    {G io F σ H ρ} {Q : VK} (ok : EnvOk X.K G io F σ H ρ) (q : PoE (rE X) X W G io F σ Q (op2 g ma mb ρ)) : tOp r ta tb σ H Q := by
  refine la G io F σ H ρ _ ok (PoE.bind q fun x d ρ1 F1 H1 fx ok1 r1 q1 => ?_)
  refine lb G io F1 σ H1 ρ1 _ ok1 (PoE.bind q1 fun y e ρ2 F2 H2 fx2 ok2 r2 q2 => ?_)
  unfold M.opt at q2
  cases e1 : g d e with
  | none => rw [e1] at q2; exact q2.elim
  | some z =>
    rw [e1] at q2
    obtain ⟨v, rv, k⟩ := hg F2 H2 x y d e z ok2.f (r1.mono fx2.sub) r2 e1
    exact k Q (q2 v F2 H2 (Fx.refl G F2) ok2 rv)
theorem le_bin {op : Operator} (ho : OpR X (binaryOp op) r) (hg : Op2 X.K r g) (ha : LE X W a ma) (hb : LE X W b mb) : LE X W (.BinOp a op b pos) (op2 g ma mb) := by
  obtain ⟨ta, ha, la⟩ := ha.ex
  obtain ⟨tb, hb, lb⟩ := hb.ex
  exact ⟨_, pe_op ho ha hb, fun G io F σ H ρ Q ok q => op2_run hg la lb ok q⟩
theorem le_cmp {op : CmpOp} (ho : OpR X (compareOp op) r) (hg : Op2 X.K r g) (ha : LE X W a ma) (hb : LE X W b mb) (hm : behindInMarks op b = false) : LE X W (.Compare a [op] [b] pos) (op2 g ma mb) := by
  obtain ⟨ta, ha, la⟩ := ha.ex
  obtain ⟨tb, hb, lb⟩ := hb.ex
  exact ⟨_, pe_cmpR ho ha hb hm, fun G io F σ H ρ Q ok q => op2_run hg la lb ok q⟩
def boolO : D → Option Bool
  | .bool b => some b
  | _ => none
def tst (m : M D) : M Bool := m.bind fun d => M.opt (boolO d)
theorem tst_run {t : TE} {e : Expr} {m : M D} (l : ∀ G io F σ H ρ Q, EnvOk X.K G io F σ H ρ → PoE (rE X) X W G io F σ Q (m ρ) → t σ H Q)
    {G io F σ H ρ} {Q : Bool → Hp → Prop} (ok : EnvOk X.K G io F σ H ρ) (q : PoE rT X W G io F σ Q (tst m ρ)) : t σ H fun x H' => ∃ k, x = .bl k ∧ Q k H' := by
  refine l G io F σ H ρ _ ok (PoE.bind q fun x d ρ1 F1 H1 fx ok1 r1 q1 => ?_)
  unfold M.opt at q1
  cases d with
  | bool k => cases r1 with | bl _ => exact ⟨k, rfl, q1 k F1 H1 (Fx.refl G F1) ok1 rfl⟩
  | _ => exact q1.elim
theorem lt_cmp {op : CmpOp} (ho : OpR X (compareOp op) r) (hg : Op2 X.K r g) (ha : LE X W a ma) (hb : LE X W b mb) (hm : behindInMarks op b = false) : LT X W (.Compare a [op] [b] pos) (tst (op2 g ma mb)) := by
  obtain ⟨ta, ha, la⟩ := ha.ex
  obtain ⟨tb, hb, lb⟩ := hb.ex
  exact ⟨_, pt_cmpR ho ha hb hm, fun G io F σ H ρ Q ok q => tst_run (t := tOp r ta tb) (e := a) (fun G io F σ H ρ Q ok q => op2_run hg la lb ok q) ok q⟩
theorem lt_val {e : Expr} {m : M D} (h : LE X W e m) (he : ∀ whole, isTrue e X.env whole = (do let v ← whole; standAt e.pos; holding [v] (truthy v)) := by intro _; rfl) : LT X W e (tst m) := by
  obtain ⟨t, ht, l⟩ := h.ex
  exact ⟨_, pt_val ht he, fun G io F σ H ρ Q ok q => tst_run (e := e) l ok q⟩
/-! ### and, or, not -/
def andT (m n : M Bool) : M Bool := m.bind fun b => if b = true then n else M.pure false
def orT (m n : M Bool) : M Bool := m.bind fun b => if b = true then M.pure true else n
def notT (m : M Bool) : M Bool := m.bind fun b => M.pure (!b)
variable {m n : M Bool} {rest : List Expr}
theorem lw_and1 (ha : LT X W a m) : LW X W (.BoolOp .And [a] pos) m := by
  obtain ⟨t, ht, l⟩ := ha.ex
  exact ⟨_, pw_and1 ht, l⟩
theorem lw_or1 (ha : LT X W a m) : LW X W (.BoolOp .Or [a] pos) m := by
  obtain ⟨t, ht, l⟩ := ha.ex
  exact ⟨_, pw_or1 ht, l⟩
theorem lw_and (ha : LT X W a m) (hb : LW X W (.BoolOp .And (b :: rest) pos) n) : LW X W (.BoolOp .And (a :: b :: rest) pos) (andT m n) := by
  obtain ⟨t, ht, l⟩ := ha.ex
  obtain ⟨u, hu, l2⟩ := hb.ex
  refine ⟨_, pw_and ht hu, fun G io F σ H ρ Q ok q => l G io F σ H ρ _ ok (PoE.bind q fun x d ρ1 F1 H1 fx ok1 r1 q1 => ?_)⟩
  have r1 : x = d := r1
  subst r1
  cases x with
  | true => exact l2 G io F1 σ H1 ρ1 Q ok1 q1
  | false => exact q1 false F1 H1 (Fx.refl G F1) ok1 rfl
theorem lw_or (ha : LT X W a m) (hb : LW X W (.BoolOp .Or (b :: rest) pos) n) : LW X W (.BoolOp .Or (a :: b :: rest) pos) (orT m n) := by
  obtain ⟨t, ht, l⟩ := ha.ex
  obtain ⟨u, hu, l2⟩ := hb.ex
  refine ⟨_, pw_or ht hu, fun G io F σ H ρ Q ok q => l G io F σ H ρ _ ok (PoE.bind q fun x d ρ1 F1 H1 fx ok1 r1 q1 => ?_)⟩
  have r1 : x = d := r1
  subst r1
  cases x with
  | false => exact l2 G io F1 σ H1 ρ1 Q ok1 q1
  | true => exact q1 true F1 H1 (Fx.refl G F1) ok1 rfl
theorem lt_lw {e : Expr} (h : LW X W e m) : LT X W e m := by
  obtain ⟨t, ht, l⟩ := h.ex
  exact ⟨_, ht.pt, l⟩
theorem lt_not (ha : LT X W a m) : LT X W (.UnaryOp .Not a pos) (notT m) := by
  obtain ⟨t, ht, l⟩ := ha.ex
  refine ⟨_, pt_not ht, fun G io F σ H ρ Q ok q => l G io F σ H ρ _ ok (PoE.bind q fun x d ρ1 F1 H1 fx ok1 r1 q1 => ?_)⟩
  have r1 : x = d := r1
  subst r1
  exact q1 _ F1 H1 (Fx.refl G F1) ok1 rfl
def andV (m n : M D) : M D := m.bind fun d => (M.opt (boolO d)).bind fun b => if b = true then n else M.pure (.bool false)
def orV (m n : M D) : M D := m.bind fun d => (M.opt (boolO d)).bind fun b => if b = true then M.pure (.bool true) else n
def notV (m : M D) : M D := m.bind fun d => (M.opt (boolO d)).bind fun b => M.pure (.bool (!b))
theorem le_one {op} (h : LE X W a ma) : LE X W (.BoolOp op [a] pos) ma := by
  obtain ⟨t, ht, l⟩ := h.ex
  exact ⟨_, pe_one ht, l⟩
theorem bO {d : D} {x : V} {F : Hp} {k : Bool} {G io σ Q} {f : Bool → M D} {ρ : EnvD} (r : Rp X.K F x d) (q : PoE (rE X) X W G io F σ Q ((M.opt (boolO d)).bind f ρ)) : ∃ b, d = .bool b ∧ x = .bl b ∧ PoE (rE X) X W G io F σ Q (f b ρ) := by
  cases d with
  | bool b => cases r with | bl _ => exact ⟨b, rfl, rfl, q⟩
  | _ => exact q.elim
theorem le_and (ha : LE X W a ma) (hb : LE X W (.BoolOp .And (b :: rest) pos) mb) : LE X W (.BoolOp .And (a :: b :: rest) pos) (andV ma mb) := by
  obtain ⟨t, ht, l⟩ := ha.ex
  obtain ⟨u, hu, l2⟩ := hb.ex
  refine ⟨_, pe_and ht hu, fun G io F σ H ρ Q ok q => l G io F σ H ρ _ ok (PoE.bind q fun x d ρ1 F1 H1 fx ok1 r1 q1 => ?_)⟩
  obtain ⟨k, rfl, rfl, q2⟩ := bO (k := true) r1 q1
  refine ⟨k, rfl, ?_⟩
  cases k with
  | true => exact l2 G io F1 σ H1 ρ1 Q ok1 q2
  | false => exact q2 _ F1 H1 (Fx.refl G F1) ok1 (.bl _)
theorem le_or (ha : LE X W a ma) (hb : LE X W (.BoolOp .Or (b :: rest) pos) mb) : LE X W (.BoolOp .Or (a :: b :: rest) pos) (orV ma mb) := by
  obtain ⟨t, ht, l⟩ := ha.ex
  obtain ⟨u, hu, l2⟩ := hb.ex
  refine ⟨_, pe_or ht hu, fun G io F σ H ρ Q ok q => l G io F σ H ρ _ ok (PoE.bind q fun x d ρ1 F1 H1 fx ok1 r1 q1 => ?_)⟩
  obtain ⟨k, rfl, rfl, q2⟩ := bO (k := true) r1 q1
  refine ⟨k, rfl, ?_⟩
  cases k with
  | false => exact l2 G io F1 σ H1 ρ1 Q ok1 q2
  | true => exact q2 _ F1 H1 (Fx.refl G F1) ok1 (.bl _)
theorem le_not (ha : LE X W a ma) : LE X W (.UnaryOp .Not a pos) (notV ma) := by
  obtain ⟨t, ht, l⟩ := ha.ex
  refine ⟨_, pe_not ht, fun G io F σ H ρ Q ok q => l G io F σ H ρ _ ok (PoE.bind q fun x d ρ1 F1 H1 fx ok1 r1 q1 => ?_)⟩
  obtain ⟨k, rfl, rfl, q2⟩ := bO (k := true) r1 q1
  exact ⟨k, rfl, q2 _ F1 H1 (Fx.refl G F1) ok1 (.bl _)⟩
def ifV {α : Type} (c : M Bool) (m n : M α) : M α := c.bind fun b => if b = true then m else n
theorem le_ifExp {mc : M Bool} (hc : LT X W c mc) (ha : LE X W a ma) (hb : LE X W b mb) : LE X W (.IfExp c a b pos) (ifV mc ma mb) := by
  obtain ⟨t, ht, l⟩ := hc.ex
  obtain ⟨u, hu, l2⟩ := ha.ex
  obtain ⟨v, hv, l3⟩ := hb.ex
  refine ⟨_, pe_ifExp ht hu hv, fun G io F σ H ρ Q ok q => l G io F σ H ρ _ ok (PoE.bind q fun x d ρ1 F1 H1 fx ok1 r1 q1 => ?_)⟩
  have r1 : x = d := r1
  subst r1
  cases x with
  | true => exact l2 G io F1 σ H1 ρ1 Q ok1 q1
  | false => exact l3 G io F1 σ H1 ρ1 Q ok1 q1
theorem lf_ifExp {mc : M Bool} {ma mb : M S} (hc : LT X W c mc) (ha : LF X W a ma) (hb : LF X W b mb) : LF X W (.IfExp c a b pos) (ifV mc ma mb) := by
  obtain ⟨t, ht, l⟩ := hc.ex
  obtain ⟨u, hu, l2⟩ := ha.ex
  obtain ⟨v, hv, l3⟩ := hb.ex
  refine ⟨_, pe_ifExp ht hu hv, fun G io F σ H ρ Q ok q => l G io F σ H ρ _ ok (PoE.bind q fun x d ρ1 F1 H1 fx ok1 r1 q1 => ?_)⟩
  have r1 : x = d := r1
  subst r1
  cases x with
  | true => exact l2 G io F1 σ H1 ρ1 Q ok1 q1
  | false => exact l3 G io F1 σ H1 ρ1 Q ok1 q1
/-! ### chains of comparisons -/
def chainM (g g' : D → D → Option D) (a b c : M D) : M D := a.bind fun x => b.bind fun y => (M.opt (g x y)).bind fun z => (M.opt (boolO z)).bind fun k => if k = true then c.bind fun w => M.opt (g' y w) else M.pure (.bool false)
theorem chain_run {ta tb tc : TE} (hg : Op2 X.K r g) (hg' : Op2 X.K r' g') (la : ∀ G io F σ H ρ Q, EnvOk X.K G io F σ H ρ → PoE (rE X) X W G io F σ Q (ma ρ) → ta σ H Q) (lb : ∀ G io F σ H ρ Q, EnvOk X.K G io F σ H ρ → PoE (rE X) X W G io F σ Q (mb ρ) → tb σ H Q)
    (lc : ∀ G io F σ H ρ Q, EnvOk X.K G io F σ H ρ → PoE (rE X) X W G io F σ Q (mc ρ) → tc σ H Q)
    {G io F σ H ρ} {Q : VK} (ok : EnvOk X.K G io F σ H ρ) (q : PoE (rE X) X W G io F σ Q (chainM g g' ma mb mc ρ)) : tChain r r' ta tb tc σ H Q := by
  refine la G io F σ H ρ _ ok (PoE.bind q fun x d ρ1 F1 H1 fx ok1 r1 q1 => ?_)
  refine lb G io F1 σ H1 ρ1 _ ok1 (PoE.bind q1 fun y e ρ2 F2 H2 fx2 ok2 r2 q2 => ?_)
  cases e1 : g d e with
  | none =>
    unfold M.opt at q2
    rw [e1] at q2
    exact q2.elim
  | some z =>
    obtain ⟨v, rv, k⟩ := hg F2 H2 x y d e z ok2.f (r1.mono fx2.sub) r2 e1
    rw [e1] at q2
    have q2 : PoE (rE X) X W G io F2 σ Q ((M.opt (boolO z)).bind (fun k => if k = true then mc.bind fun w => M.opt (g' e w) else M.pure (.bool false)) ρ2) := q2
    obtain ⟨kk, rfl, rfl, q3⟩ := bO (k := true) rv q2
    refine k _ ⟨kk, rfl, ?_⟩
    cases kk with
    | false => rw [if_neg (by decide)]; exact q3 _ F2 H2 (Fx.refl G F2) ok2 (.bl _)
    | true =>
      rw [if_pos rfl]
      rw [if_pos rfl] at q3
      refine lc G io F2 σ H2 ρ2 _ ok2 (PoE.bind q3 fun w f ρ3 F3 H3 fx3 ok3 r3 q4 => ?_)
      unfold M.opt at q4
      cases e2 : g' e f with
      | none => rw [e2] at q4; exact q4.elim
      | some z2 =>
        rw [e2] at q4
        obtain ⟨v2, rv2, k2⟩ := hg' F3 H3 y w e f z2 ok3.f (r2.mono fx3.sub) r3 e2
        exact k2 Q (q4 v2 F3 H3 (Fx.refl G F3) ok3 rv2)
theorem le_chain {op op' : CmpOp} (ho : OpR X (compareOp op) r) (ho' : OpR X (compareOp op') r') (hg : Op2 X.K r g) (hg' : Op2 X.K r' g') (ha : LE X W a ma) (hb : LE X W b mb) (hc : LE X W c mc)
    (hm : lastMarks [op, op'] [b, c] = false := by with_unfolding_all rfl) : LE X W (.Compare a [op, op'] [b, c] pos) (chainM g g' ma mb mc) := by
  obtain ⟨ta, ha, la⟩ := ha.ex
  obtain ⟨tb, hb, lb⟩ := hb.ex
  obtain ⟨tc, hc, lc⟩ := hc.ex
  exact ⟨_, pe_chain ho ho' ha hb hc hm, fun G io F σ H ρ Q ok q => chain_run hg hg' la lb lc ok q⟩
theorem lt_chain {op op' : CmpOp} (ho : OpR X (compareOp op) r) (ho' : OpR X (compareOp op') r') (hg : Op2 X.K r g) (hg' : Op2 X.K r' g') (ha : LE X W a ma) (hb : LE X W b mb) (hc : LE X W c mc)
    (hm : lastMarks [op, op'] [b, c] = false := by with_unfolding_all rfl) : LT X W (.Compare a [op, op'] [b, c] pos) (tst (chainM g g' ma mb mc)) := by
  obtain ⟨ta, ha, la⟩ := ha.ex
  obtain ⟨tb, hb, lb⟩ := hb.ex
  obtain ⟨tc, hc, lc⟩ := hc.ex
  exact ⟨_, pt_chain ho ho' ha hb hc hm, fun G io F σ H ρ Q ok q => tst_run (e := a) (fun G io F σ H ρ Q ok q => chain_run hg hg' la lb lc ok q) ok q⟩
end

/-! ### the operators' data rules -/
section
variable {K : Frag}
def intI (f : Int → Int → Int) : D → D → Option D
  | .int i, .int j => some (.int (f i j))
  | _, _ => none
def intB (f : Int → Int → Bool) : D → D → Option D
  | .int i, .int j => some (.bool (f i j))
  | _, _ => none
def intC (C : Int → Int → Bool) (f : Int → Int → Int) : D → D → Option D
  | .int i, .int j => if C i j = true then some (.int (f i j)) else none
  | _, _ => none
theorem o2_I (f : Int → Int → Int) : Op2 K (rI0 fun i j => .int (f i j)) (intI f) := by
  intro F H x y d e z fh r1 r2 h
  cases d <;> cases e <;> first | (cases h; done) | skip
  cases r1; cases r2; cases h
  exact ⟨_, .int _, fun Q q => ⟨_, _, rfl, rfl, q⟩⟩
theorem o2_B (f : Int → Int → Bool) : Op2 K (rI0 fun i j => .bl (f i j)) (intB f) := by
  intro F H x y d e z fh r1 r2 h
  cases d <;> cases e <;> first | (cases h; done) | skip
  cases r1; cases r2; cases h
  exact ⟨_, .bl _, fun Q q => ⟨_, _, rfl, rfl, q⟩⟩
theorem o2_C {C : Int → Int → Bool} {C' : Int → Int → Prop} (f : Int → Int → Int) (hC : ∀ i j, C i j = true → C' i j) : Op2 K (rI C' fun i j => .int (f i j)) (intC C f) := by
  intro F H x y d e z fh r1 r2 h
  cases d <;> cases e <;> first | (cases h; done) | skip
  rename_i i j
  cases r1; cases r2
  unfold intC at h
  by_cases hc : C i j = true
  · simp only [hc, if_true] at h
    cases h
    exact ⟨_, .int _, fun Q q => ⟨_, _, rfl, rfl, hC _ _ hc, q⟩⟩
  · simp only [hc] at h
    cases h
abbrev addI := intI fun i j => i + j
abbrev subI := intI fun i j => i - j
def cMul (i j : Int) : Bool := (decide (-(2 ^ 64) < i) && decide (i < 2 ^ 64)) || (decide (-(2 ^ 64) < j) && decide (j < 2 ^ 64))
abbrev mulI := intC cMul fun i j => i * j
def cMod (i j : Int) : Bool := decide (0 < j)
abbrev modI := intC cMod fun i j => i % j
def cDiv (i j : Int) : Bool := decide (0 < j) && decide (j < 1073741824)
abbrev fdivI := intC cDiv fun i j => i / j
def cPow (i j : Int) : Bool := decide (0 ≤ j) && decide (j ≤ 1000000) && decide (i.natAbs < 2 ^ 64)
abbrev powI := intC cPow fun i j => i ^ j.toNat
abbrev ltI := intB fun i j => decide (i < j)
abbrev leI := intB fun i j => decide (i ≤ j)
abbrev gtI := intB fun i j => decide (j < i)
abbrev geI := intB fun i j => decide (j ≤ i)
theorem cMul_ok (i j : Int) (h : cMul i j = true) : CMul i j := by
  unfold cMul at h
  simp only [Bool.or_eq_true, Bool.and_eq_true, decide_eq_true_eq] at h
  exact h
theorem cMod_ok (i j : Int) (h : cMod i j = true) : 0 < j := of_decide_eq_true h
theorem cDiv_ok (i j : Int) (h : cDiv i j = true) : CDiv i j := by
  unfold cDiv at h
  simp only [Bool.and_eq_true, decide_eq_true_eq] at h
  exact h
theorem cPow_ok (i j : Int) (h : cPow i j = true) : CPow i j := by
  unfold cPow at h
  simp only [Bool.and_eq_true, decide_eq_true_eq] at h
  exact ⟨h.1.1, h.1.2, h.2⟩
mutual
theorem Rp.dp {K : Frag} {F H : Hp} (fh : FH F H) : ∀ {v : V} {d : D}, Rp K F v d → d.canLay0 = true → Dp K H v d
  | _, _, .non, _ => .non
  | _, _, .bl b, _ => .bl b
  | _, _, .int i, _ => .int i
  | _, _, .str x, _ => .str x
  | _, _, .lst s r, h => .lst (sqL_H fh s) (RpL.dp fh r (by simpa [PyData.canLay0] using h))
  | _, _, .tup s r, h => .tup (sqT_H fh s) (RpL.dp fh r (by simpa [PyData.canLay0] using h))
  | _, _, .dK s r, h => by simp [PyData.canLay0] at h
  | _, _, .dT s r, h => by simp [PyData.canLay0] at h
theorem RpL.dp {K : Frag} {F H : Hp} (fh : FH F H) : ∀ {vs : List V} {ds : List D}, RpL K F vs ds → PyData.canLayAll0 ds = true → DpAll K H vs ds
  | _, _, .nil, _ => .nil
  | _, _, .cons a b, h => by
    simp only [PyData.canLayAll0, Bool.and_eq_true] at h
    exact .cons (Rp.dp fh a h.1) (RpL.dp fh b h.2)
end
def eqD (d e : D) : Option D := if SeqAt.shaped d = true ∧ SeqAt.shaped e = true then some (.bool (PyData.eqv d e)) else none
def neD (d e : D) : Option D := if SeqAt.shaped d = true ∧ SeqAt.shaped e = true then some (.bool (!PyData.eqv d e)) else none
theorem o2_eqD : Op2 K (rEqD K) eqD := by
  intro F H x y d e z fh r1 r2 h
  unfold eqD at h
  split at h
  · rename_i c
    cases h
    exact ⟨_, .bl _, fun Q q => ⟨d, e, r1.dp fh (SeqAt.canLay_of_shaped c.1), r2.dp fh (SeqAt.canLay_of_shaped c.2), c.1, c.2, q⟩⟩
  · cases h
theorem o2_neD : Op2 K (rNeD K) neD := by
  intro F H x y d e z fh r1 r2 h
  unfold neD at h
  split at h
  · rename_i c
    cases h
    exact ⟨_, .bl _, fun Q q => ⟨d, e, r1.dp fh (SeqAt.canLay_of_shaped c.1), r2.dp fh (SeqAt.canLay_of_shaped c.2), c.1, c.2, q⟩⟩
  · cases h
/-- x is None -/
def isN (b : Bool) : D → D → Option D
  | .none, .none => some (.bool b)
  | _, .none => some (.bool (!b))
  | _, _ => none
theorem o2_isN : Op2 K (fun x y H Q => y = .non ∧ Q (.bl (decide (x = .non))) H) (isN true) := by
  intro F H x y d e z fh r1 r2 h
  cases e <;> cases d <;> first | (cases h; done) | skip
  all_goals (cases h; cases r2; refine ⟨_, .bl _, fun Q q => ⟨rfl, ?_⟩⟩; cases r1 <;> exact q)
theorem o2_notN : Op2 K (fun x y H Q => y = .non ∧ Q (.bl (!decide (x = .non))) H) (isN false) := by
  intro F H x y d e z fh r1 r2 h
  cases e <;> cases d <;> first | (cases h; done) | skip
  all_goals (cases h; cases r2; refine ⟨_, .bl _, fun Q q => ⟨rfl, ?_⟩⟩; cases r1 <;> exact q)
def isB : D → D → Option D
  | .bool a, .bool b => some (.bool (decide (a = b)))
  | _, _ => none
def isNotB : D → D → Option D
  | .bool a, .bool b => some (.bool (!decide (a = b)))
  | _, _ => none
theorem o2_isB : Op2 K (fun x y H Q => ∃ a b, x = .bl a ∧ y = .bl b ∧ Q (.bl (decide (a = b))) H) isB := by
  intro F H x y d e z fh r1 r2 h
  cases d <;> cases e <;> first | (cases h; done) | skip
  cases r1; cases r2; cases h
  exact ⟨_, .bl _, fun Q q => ⟨_, _, rfl, rfl, q⟩⟩
theorem o2_isNotB : Op2 K (fun x y H Q => ∃ a b, x = .bl a ∧ y = .bl b ∧ Q (.bl (!decide (a = b))) H) isNotB := by
  intro F H x y d e z fh r1 r2 h
  cases d <;> cases e <;> first | (cases h; done) | skip
  cases r1; cases r2; cases h
  exact ⟨_, .bl _, fun Q q => ⟨_, _, rfl, rfl, q⟩⟩
/-- tuples of ints -/
def intsD : List D → Option (List Int)
  | [] => some []
  | .int i :: r => (intsD r).map (i :: ·)
  | _ :: _ => none
theorem intsD_eq : ∀ {ds : List D} {ns : List Int}, intsD ds = some ns → ds = ns.map PyData.int
  | [], _, h => by cases h; rfl
  | .int i :: r, ns, h => by
    simp only [intsD, Option.map_eq_some_iff] at h
    obtain ⟨ms, e, rfl⟩ := h
    rw [intsD_eq e]; rfl
  | .none :: _, _, h => by cases h
  | .bool _ :: _, _, h => by cases h
  | .str _ :: _, _, h => by cases h
  | .list _ :: _, _, h => by cases h
  | .tuple _ :: _, _, h => by cases h
  | .dict _ :: _, _, h => by cases h
theorem intsD_map : ∀ ns : List Int, intsD (ns.map PyData.int) = some ns
  | [] => rfl
  | n :: r => by simp [intsD, intsD_map r]
def ltD : D → D → Option D
  | .int i, .int j => some (.bool (decide (i < j)))
  | .tuple ds, .tuple es => match intsD ds, intsD es with
    | some ns, some ms => some (.bool (HT.lexLt ns ms))
    | _, _ => none
  | _, _ => none
theorem o2_ltD : Op2 K (fun x y H Q => (rI0 fun i j => .bl (decide (i < j))) x y H Q ∨ rLtT K x y H Q) ltD := by
  intro F H x y d e z fh r1 r2 h
  unfold ltD at h
  split at h
  · cases r1; cases r2; cases h
    exact ⟨_, .bl _, fun Q q => .inl ⟨_, _, rfl, rfl, q⟩⟩
  · rename_i ds es
    split at h
    · rename_i ns ms e1 e2
      cases h
      rw [intsD_eq e1] at r1
      rw [intsD_eq e2] at r2
      cases r1 with
      | tup s1 l1 =>
        cases r2 with
        | tup s2 l2 =>
          rw [RpL.ints_of l1] at s1
          rw [RpL.ints_of l2] at s2
          exact ⟨_, .bl _, fun Q q => .inr ⟨_, _, ns, ms, rfl, rfl, sqT_H fh s1, sqT_H fh s2, q⟩⟩
    · cases h
  · cases h
end
/-! ### in, not in -/
section
variable {X : Cx} {K : Frag}
def seqD : D → Option (List D)
  | .list ds => some ds
  | .tuple ds => some ds
  | _ => none
def inD (d e : D) : Option D := match seqD e with
  | some ds => if SeqAt.shaped d = true ∧ SeqAt.shaped e = true then some (.bool (ds.any fun z => PyData.eqv z d)) else none
  | none => none
def notInD (d e : D) : Option D := match seqD e with
  | some ds => if SeqAt.shaped d = true ∧ SeqAt.shaped e = true then some (.bool (!ds.any fun z => PyData.eqv z d)) else none
  | none => none
def rInS' (K : Frag) (neg : Bool) : R2 := fun x y H Q => ∃ d e ds, Dp K H x d ∧ Dp K H y e ∧ seqD e = some ds ∧ SeqAt.shaped d = true ∧ SeqAt.shaped e = true ∧ Q (.bl (if neg then !ds.any fun z => PyData.eqv z d else ds.any fun z => PyData.eqv z d)) H
theorem op_inS' (hu : X.A.units + 65 < cLine) : OpR X (compareOp .In) (rInS' X.K false) := by
  intro pins s σ H x y v u Q I rx ry h
  obtain ⟨d, e, ds, hd, he, hs, sd, se, q⟩ := h
  obtain ⟨as, r1⟩ := Dp.reads I d x v hd rx
  obtain ⟨bs, r2⟩ := Dp.reads I e y u he ry
  cases e with
  | list es => cases hs; exact SeqAt.in_list_reads r2 r1 (SeqAt.canLay_of_shaped se) (SeqAt.canLay_of_shaped sd) (room_in_shaped sd hu) ⟨.bl _, H, I, rfl, q⟩
  | tuple es => cases hs; exact SeqAt.in_tuple_reads r2 r1 (SeqAt.canLay_of_shaped se) (SeqAt.canLay_of_shaped sd) (room_in_shaped sd hu) ⟨.bl _, H, I, rfl, q⟩
  | _ => cases hs
theorem op_notInS' (hu : X.A.units + 65 < cLine) : OpR X (compareOp .NotIn) (rInS' X.K true) := by
  intro pins s σ H x y v u Q I rx ry h
  obtain ⟨d, e, ds, hd, he, hs, sd, se, q⟩ := h
  obtain ⟨as, r1⟩ := Dp.reads I d x v hd rx
  obtain ⟨bs, r2⟩ := Dp.reads I e y u he ry
  cases e with
  | list es => cases hs; exact SeqAt.notIn_list_reads r2 r1 (SeqAt.canLay_of_shaped se) (SeqAt.canLay_of_shaped sd) (room_in_shaped sd hu) ⟨.bl _, H, I, rfl, q⟩
  | tuple es => cases hs; exact SeqAt.notIn_tuple_reads r2 r1 (SeqAt.canLay_of_shaped se) (SeqAt.canLay_of_shaped sd) (room_in_shaped sd hu) ⟨.bl _, H, I, rfl, q⟩
  | _ => cases hs
theorem o2_in : Op2 K (rInS' K false) inD := by
  intro F H x y d e z fh r1 r2 h
  unfold inD at h
  split at h
  · rename_i ds hs
    split at h
    · rename_i c
      cases h
      exact ⟨_, .bl _, fun Q q => ⟨d, e, ds, r1.dp fh (SeqAt.canLay_of_shaped c.1), r2.dp fh (SeqAt.canLay_of_shaped c.2), hs, c.1, c.2, q⟩⟩
    · cases h
  · cases h
theorem o2_notIn : Op2 K (rInS' K true) notInD := by
  intro F H x y d e z fh r1 r2 h
  unfold notInD at h
  split at h
  · rename_i ds hs
    split at h
    · rename_i c
      cases h
      exact ⟨_, .bl _, fun Q q => ⟨d, e, ds, r1.dp fh (SeqAt.canLay_of_shaped c.1), r2.dp fh (SeqAt.canLay_of_shaped c.2), hs, c.1, c.2, q⟩⟩
    · cases h
  · cases h
end
end Lf

/-! LD: results that are new things; displays, +, *, subscripts, slices, built-in calls, the calls of defs. -/
namespace Lf
open PySem PySem.Spec PyProof.Rows L2

/-- a rule yields s: r' is its reading with its want as the parameter -/
inductive Yld (K : Frag) (F H : Hp) : S → (VK → Prop) → Prop
  | flat {z : D} {v : V} {r : VK → Prop} : Rp K F v z → (∀ Q : VK, Q v H → r Q) → Yld K F H (.fr z) r
  | tup {xs : List V} {ds : List D} {r : VK → Prop} : RpL K F xs ds → (∀ Q : VK, (∀ p, H p = none → Q (.ref p) (upd H p (.tup xs))) → r Q) → Yld K F H (.fr (.tuple ds)) r
  | ow {z : D} {o : HO} {r : VK → Prop} : RO K F o z → (∀ Q : VK, (∀ p, H p = none → Q (.ref p) (upd H p o)) → r Q) → Yld K F H (.ow z) r
  | ows {z : D} {P : HO → Prop} {r : VK → Prop} : (∀ o, P o → RO K F o z) → (∀ Q : VK, (∀ p o, P o → H p = none → Q (.ref p) (upd H p o)) → r Q) → Yld K F H (.ow z) r
section
variable {X : Cx} {W : WX} {K : Frag} {G : Hp} {io : Option Addr} {F H : Hp} {σ : L2.St} {ρ : EnvD}
theorem Yld.run {s : S} {r : VK → Prop} {Q : VK} (ok : EnvOk K G io F σ H ρ) (y : Yld K F H s r)
    (q : ∀ v F' H', Fx G F F' → EnvOk K G io F' σ H' ρ → RS K G io F' H' v s ∧ Sep σ ρ v s → Q v H') : r Q := by
  cases y with
  | flat rv k => exact k Q (q _ F H (Fx.refl G F) ok ⟨.fr rv, fun z => nomatch z⟩)
  | tup rl k =>
    refine k Q fun p hp => ?_
    obtain ⟨fx, ok'⟩ := ok.laid (o := .tup _) hp
    exact q _ _ _ fx ok' ⟨.fr (.tup (SqT.of upd_same) (rl.mono fx.sub)), fun z => nomatch z⟩
  | ow ro k =>
    refine k Q fun p hp => ?_
    obtain ⟨ok', rs, sp⟩ := ok.laidOw hp ro
    exact q _ _ _ (Fx.refl G F) ok' ⟨rs, sp⟩
  | ows ro k =>
    refine k Q fun p o ho hp => ?_
    obtain ⟨ok', rs, sp⟩ := ok.laidOw hp (ro o ho)
    exact q _ _ _ (Fx.refl G F) ok' ⟨rs, sp⟩
theorem Yld.runM {o : Option S} {r : VK → Prop} {Q : VK} (ok : EnvOk X.K G io F σ H ρ) (y : ∀ s, o = some s → Yld X.K F H s r) (q : PoE (rF X G io) X W G io F σ Q (M.opt o ρ)) : r Q := by
  cases o with
  | none => exact q.elim
  | some s => exact (y s rfl).run ok fun v F' H' fx ok' rs => q v F' H' fx ok' rs
end

/-! ### binary operations that may make things -/
def op2F (g : D → D → Option S) (a b : M D) : M S := a.bind fun x => b.bind fun y => M.opt (g x y)
def Op2F (K : Frag) (r : R2) (g : D → D → Option S) : Prop :=
  ∀ (F H : Hp) (x y : V) (d e : D) (s : S), FH F H → Rp K F x d → Rp K F y e → g d e = some s → Yld K F H s (r x y H)
/-- a value that can be read: frozen, or an owned thing -/
def Top (K : Frag) (F H : Hp) (v : V) (d : D) : Prop := Rp K F v d ∨ ∃ a o, v = .ref a ∧ H a = some o ∧ RO K F o d
def S.d : S → D
  | .fr d => d
  | .ow d => d
  | .lk d => d
  | .io d => d
def S.pin : S → Bool
  | .lk _ => true
  | _ => false
theorem RS.top {K : Frag} {G : Hp} {io : Option Addr} {F H : Hp} {v : V} {s : S} (r : RS K G io F H v s) (hp : s.pin = false) : Top K F H v s.d := by
  cases r with
  | fr q => exact .inl q
  | ow a b c d e => exact .inr ⟨_, _, rfl, a, e⟩
  | lk => cases hp
  | io a b c d e => exact .inr ⟨_, _, rfl, a, e⟩
theorem _root_.And.top {K : Frag} {G : Hp} {io : Option Addr} {F H : Hp} {v : V} {s : S} (r : RS K G io F H v s ∧ s.pin = false) : Top K F H v s.d := r.1.top r.2
def Op2FT (K : Frag) (r : R2) (g : D → D → Option S) : Prop :=
  ∀ (F H : Hp) (x y : V) (d e : D) (s : S), FH F H → Top K F H x d → Rp K F y e → g d e = some s → Yld K F H s (r x y H)
theorem Op2FT.of {K : Frag} {r : R2} {g : D → D → Option S} (h : Op2FT K r g) : Op2F K r g := fun F H x y d e s f a b c => h F H x y d e s f (.inl a) b c
/-- the i-th slot's content, read where it stands -/
def slotM (i : Nat) : M D := fun ρ => match ρ[i]? with
  | some (some s) => if s.pin = true then .bad else .ok (s.d, ρ)
  | _ => .bad
/-- a name read, then a part, then an operation of both -/
def op2V (i : Nat) (g : D → D → Option S) (b : M D) : M S := (slotM i).bind fun _ => b.bind fun y => (slotM i).bind fun x => M.opt (g x y)
section
variable {X : Cx} {W : WX} {a b c e : Expr} {ma mb mc : M D} {pos p2 : Pos} {g : D → D → Option S} {r : R2}
theorem op2F_run {ta tb : TE} (hg : Op2F X.K r g) (la : ∀ G io F σ H ρ Q, EnvOk X.K G io F σ H ρ → PoE (rE X) X W G io F σ Q (ma ρ) → ta σ H Q) (lb : ∀ G io F σ H ρ Q, EnvOk X.K G io F σ H ρ → PoE (rE X) X W G io F σ Q (mb ρ) → tb σ H Q)
    {G io F σ H ρ} {Q : VK} (ok : EnvOk X.K G io F σ H ρ) (q : PoE (rF X G io) X W G io F σ Q (op2F g ma mb ρ)) : tOp r ta tb σ H Q := by
  refine la G io F σ H ρ _ ok (PoE.bind q fun x d ρ1 F1 H1 fx ok1 r1 q1 => ?_)
  refine lb G io F1 σ H1 ρ1 _ ok1 (PoE.bind q1 fun y e ρ2 F2 H2 fx2 ok2 r2 q2 => ?_)
  exact Yld.runM ok2 (fun s hs => hg F2 H2 x y d e s ok2.f (r1.mono fx2.sub) r2 hs) q2
theorem slot_run {α β : Type} {R : Hp → Hp → α → β → L2.St → EnvD → Prop} {i : Nat} {G io F σ H ρ} {f : D → M β} {Q : α → Hp → Prop} (ok : EnvOk X.K G io F σ H ρ) (q : PoE R X W G io F σ Q ((slotM i).bind f ρ)) : ∃ v s, σ[i]? = some (some v) ∧ ρ[i]? = some (some s) ∧ (RS X.K G io F H v s ∧ s.pin = false) ∧ PoE R X W G io F σ Q (f s.d ρ) := by
  unfold slotM M.bind at q
  cases e1 : ρ[i]? with
  | none => simp only [e1] at q; exact q.elim
  | some o =>
    cases o with
    | none => simp only [e1] at q; exact q.elim
    | some s =>
      simp only [e1] at q
      obtain ⟨v, h1, rs⟩ := ok.at_ i s e1
      cases hp : s.pin with
      | true => rw [hp, if_pos rfl] at q; exact q.elim
      | false => rw [hp, if_neg (by decide)] at q; exact ⟨v, s, h1, rfl, ⟨rs, hp⟩, q⟩
theorem op2V_run {i : Nat} {tb : TE} (hg : Op2FT X.K r g) (lb : ∀ G io F σ H ρ Q, EnvOk X.K G io F σ H ρ → PoE (rE X) X W G io F σ Q (mb ρ) → tb σ H Q)
    {G io F σ H ρ} {Q : VK} (ok : EnvOk X.K G io F σ H ρ) (q : PoE (rF X G io) X W G io F σ Q (op2V i g mb ρ)) : tOp r (tVar i) tb σ H Q := by
  obtain ⟨v, s, h1, _, _, q⟩ := slot_run ok q
  refine ⟨v, h1, lb G io F σ H ρ _ ok (PoE.bind q fun y e ρ2 F2 H2 fx2 ok2 r2 q2 => ?_)⟩
  obtain ⟨v2, s2, h2, _, rs, q3⟩ := slot_run ok2 q2
  rw [h1] at h2
  cases h2
  exact Yld.runM ok2 (fun s hs => hg F2 H2 v y _ e s ok2.f rs.top r2 hs) q3
theorem lf_bin {op : Operator} (ho : OpR X (binaryOp op) r) (hg : Op2F X.K r g) (ha : LE X W a ma) (hb : LE X W b mb) : LF X W (.BinOp a op b pos) (op2F g ma mb) := by
  obtain ⟨ta, ha, la⟩ := ha.ex
  obtain ⟨tb, hb, lb⟩ := hb.ex
  exact ⟨_, pe_op ho ha hb, fun G io F σ H ρ Q ok q => op2F_run hg la lb ok q⟩
theorem lf_binV {op : Operator} {i : Nat} {x : Str} (ho : OpR X (binaryOp op) r) (hg : Op2FT X.K r g) (hb : LE X W b mb) (hN : X.N[i]? = some x := by rfl) (hv : Vis X.env.scope x := by first | exact Or.inl rfl | exact Or.inr (Or.inl rfl) | exact Or.inr (Or.inr rfl)) (hd : (x == ("__debug__" : Str)) = false := by decide)
    (hcd : (x == ("__classdict__" : Str)) = false := by decide) : LF X W (.BinOp (.Name x p2) op b pos) (op2V i g mb) := by
  obtain ⟨tb, hb, lb⟩ := hb.ex
  exact ⟨_, pe_op ho (pe_var hN hv hd hcd) hb, fun G io F σ H ρ Q ok q => op2V_run hg lb ok q⟩
theorem lf_cmpV {op : CmpOp} {i : Nat} {x : Str} (ho : OpR X (compareOp op) r) (hg : Op2FT X.K r g) (hb : LE X W b mb) (hm : behindInMarks op b = false) (hN : X.N[i]? = some x := by rfl) (hv : Vis X.env.scope x := by first | exact Or.inl rfl | exact Or.inr (Or.inl rfl) | exact Or.inr (Or.inr rfl)) (hd : (x == ("__debug__" : Str)) = false := by decide)
    (hcd : (x == ("__classdict__" : Str)) = false := by decide) : LF X W (.Compare (.Name x p2) [op] [b] pos) (op2V i g mb) := by
  obtain ⟨tb, hb, lb⟩ := hb.ex
  exact ⟨_, pe_cmpR ho (pe_var hN hv hd hcd) hb hm, fun G io F σ H ρ Q ok q => op2V_run hg lb ok q⟩
theorem tstF_run {t : TE} {m : M S} (l : ∀ G io F σ H ρ Q, EnvOk X.K G io F σ H ρ → PoE (rF X G io) X W G io F σ Q (m ρ) → t σ H Q)
    {G io F σ H ρ} {Q : Bool → Hp → Prop} (ok : EnvOk X.K G io F σ H ρ) (q : PoE rT X W G io F σ Q (tst (frz m) ρ)) : t σ H fun x H' => ∃ k, x = .bl k ∧ Q k H' := by
  refine l G io F σ H ρ _ ok ?_
  unfold tst frz M.bind at q
  cases e1 : m ρ with
  | ok p =>
    obtain ⟨s, ρ'⟩ := p
    simp only [e1] at q
    cases s with
    | fr d =>
      rintro v F' H' fx ok' ⟨rs, sp⟩
      cases rs with
      | fr rs =>
        cases d with
        | bool k => cases rs with | bl _ => exact ⟨k, rfl, q k F' H' fx ok' rfl⟩
        | _ => exact q.elim
    | ow d =>
      rintro v F' H' fx ok' ⟨rs, sp⟩
      cases rs with
      | ow a b c d' rs =>
        rename_i o
        cases d with
        | bool k => cases o <;> exact rs.elim
        | _ => exact q.elim
    | lk d => exact q.elim
    | io d => exact q.elim
  | exc c => simp only [e1] at q; exact q
  | bad => simp only [e1] at q; exact q
theorem lt_cmpV {op : CmpOp} {i : Nat} {x : Str} (ho : OpR X (compareOp op) r) (hg : Op2FT X.K r g) (hb : LE X W b mb) (hm : behindInMarks op b = false) (hN : X.N[i]? = some x := by rfl) (hv : Vis X.env.scope x := by first | exact Or.inl rfl | exact Or.inr (Or.inl rfl) | exact Or.inr (Or.inr rfl)) (hd : (x == ("__debug__" : Str)) = false := by decide)
    (hcd : (x == ("__classdict__" : Str)) = false := by decide) : LT X W (.Compare (.Name x p2) [op] [b] pos) (tst (frz (op2V i g mb))) := by
  obtain ⟨tb, hb, lb⟩ := hb.ex
  exact ⟨_, pt_cmpR ho (pe_var hN hv hd hcd) hb hm, fun G io F σ H ρ Q ok q => tstF_run (t := tOp r (tVar i) tb) (fun G io F σ H ρ Q ok q => op2V_run hg lb ok q) ok q⟩
/-- a part, then a name read: e in x -/
def op2W (i : Nat) (g : D → D → Option S) (a : M D) : M S := a.bind fun x => (slotM i).bind fun y => M.opt (g x y)
def Op2TF (K : Frag) (r : R2) (g : D → D → Option S) : Prop :=
  ∀ (F H : Hp) (x y : V) (d e : D) (s : S), FH F H → Rp K F x d → Top K F H y e → g d e = some s → Yld K F H s (r x y H)
theorem op2W_run {i : Nat} {ta : TE} (hg : Op2TF X.K r g) (la : ∀ G io F σ H ρ Q, EnvOk X.K G io F σ H ρ → PoE (rE X) X W G io F σ Q (ma ρ) → ta σ H Q)
    {G io F σ H ρ} {Q : VK} (ok : EnvOk X.K G io F σ H ρ) (q : PoE (rF X G io) X W G io F σ Q (op2W i g ma ρ)) : tOp r ta (tVar i) σ H Q := by
  refine la G io F σ H ρ _ ok (PoE.bind q fun y e ρ2 F2 H2 fx2 ok2 r2 q2 => ?_)
  obtain ⟨v2, s2, h2, _, rs, q3⟩ := slot_run ok2 q2
  exact ⟨v2, h2, Yld.runM ok2 (fun s hs => hg F2 H2 y v2 e _ s ok2.f r2 rs.top hs) q3⟩
theorem lf_cmpW {op : CmpOp} {i : Nat} {x : Str} (ho : OpR X (compareOp op) r) (hg : Op2TF X.K r g) (ha : LE X W a ma) (hm : behindInMarks op (.Name x p2) = false := by rfl) (hN : X.N[i]? = some x := by rfl) (hv : Vis X.env.scope x := by first | exact Or.inl rfl | exact Or.inr (Or.inl rfl) | exact Or.inr (Or.inr rfl)) (hd : (x == ("__debug__" : Str)) = false := by decide)
    (hcd : (x == ("__classdict__" : Str)) = false := by decide) : LF X W (.Compare a [op] [.Name x p2] pos) (op2W i g ma) := by
  obtain ⟨ta, ha, la⟩ := ha.ex
  exact ⟨_, pe_cmpR ho ha (pe_var hN hv hd hcd) hm, fun G io F σ H ρ Q ok q => op2W_run hg la ok q⟩
theorem lt_cmpW {op : CmpOp} {i : Nat} {x : Str} (ho : OpR X (compareOp op) r) (hg : Op2TF X.K r g) (ha : LE X W a ma) (hm : behindInMarks op (.Name x p2) = false := by rfl) (hN : X.N[i]? = some x := by rfl) (hv : Vis X.env.scope x := by first | exact Or.inl rfl | exact Or.inr (Or.inl rfl) | exact Or.inr (Or.inr rfl)) (hd : (x == ("__debug__" : Str)) = false := by decide)
    (hcd : (x == ("__classdict__" : Str)) = false := by decide) : LT X W (.Compare a [op] [.Name x p2] pos) (tst (frz (op2W i g ma))) := by
  obtain ⟨ta, ha, la⟩ := ha.ex
  exact ⟨_, pt_cmpR ho ha (pe_var hN hv hd hcd) hm, fun G io F σ H ρ Q ok q => tstF_run (t := tOp r ta (tVar i)) (fun G io F σ H ρ Q ok q => op2W_run hg la ok q) ok q⟩

/-! ### displays -/
def tupM (ms : M (List D)) : M S := ms.bind fun ds => M.opt (if ds.length ≤ 16777216 then some (.fr (.tuple ds)) else none)
def lstM (ms : M (List D)) : M S := ms.bind fun ds => M.opt (if ds.length ≤ 16777216 then some (.ow (.list ds)) else none)
variable {es : List Expr} {ms : M (List D)}
theorem lf_tup {x1} (h : LA X W es ms) : LF X W (.Tuple es x1 pos) (tupM ms) := by
  obtain ⟨t, ht, l⟩ := h.ex
  refine ⟨_, pe_tup ht, fun G io F σ H ρ Q ok q => l G io F σ H ρ _ ok (PoE.bind q fun vs ds ρ1 F1 H1 fx ok1 r1 q1 => ?_)⟩
  by_cases hl : ds.length ≤ 16777216
  · rw [if_pos hl] at q1
    refine ⟨by rw [r1.length, sizeLine_eq]; exact hl, ?_⟩
    exact (Yld.tup (r := fun Q => ∀ p, H1 p = none → Q (.ref p) (upd H1 p (.tup vs))) r1 fun Q k => k).run ok1 fun v F' H' fx ok' rs => q1 v F' H' fx ok' rs
  · rw [if_neg hl] at q1; exact q1.elim
theorem lf_lst (h : LA X W es ms) : LF X W (.List es pos) (lstM ms) := by
  obtain ⟨t, ht, l⟩ := h.ex
  refine ⟨_, pe_lst ht, fun G io F σ H ρ Q ok q => l G io F σ H ρ _ ok (PoE.bind q fun vs ds ρ1 F1 H1 fx ok1 r1 q1 => ?_)⟩
  by_cases hl : ds.length ≤ 16777216
  · rw [if_pos hl] at q1
    refine ⟨by rw [r1.length, sizeLine_eq]; exact hl, ?_⟩
    exact (Yld.ow (o := .lst vs) (z := .list ds) (r := fun Q => ∀ p, H1 p = none → Q (.ref p) (upd H1 p (.lst vs))) (show RO X.K F1 (.lst vs) (.list ds) from r1) fun Q k => k).run ok1 fun v F' H' fx ok' rs => q1 v F' H' fx ok' rs
  · rw [if_neg hl] at q1; exact q1.elim
theorem lf_dictK : LF X W (.Dict [] [] pos) (M.pure (.ow (.dict []))) := by
  refine ⟨_, pe_dnewK, fun G io F σ H ρ Q ok q => ?_⟩
  exact (Yld.ow (K := X.K) (F := F) (H := H) (o := .dK []) (z := .dict []) (r := fun Q => ∀ p, H p = none → Q (.ref p) (upd H p (.dK []))) (show RO X.K F (.dK []) (.dict []) from .nil) fun Q k => k).run ok fun v F' H' fx ok' rs => q v F' H' fx ok' rs
theorem lf_dictT : LF X W (.Dict [] [] pos) (M.pure (.ow (.dict [(.bool true, .none)]))) := by
  refine ⟨_, pe_dnewT, fun G io F σ H ρ Q ok q => ?_⟩
  exact (Yld.ow (K := X.K) (F := F) (H := H) (o := .dT []) (z := .dict [(.bool true, .none)]) (r := fun Q => ∀ p, H p = none → Q (.ref p) (upd H p (.dT []))) (show RO X.K F (.dT []) (.dict [(.bool true, .none)]) from .nil) fun Q k => k).run ok fun v F' H' fx ok' rs => q v F' H' fx ok' rs
end
end Lf

/-! LG: +, *, subscripts, slices, built-in calls. -/
namespace Lf
open PySem PySem.Spec PyProof.Rows L2
def ltM (n : Nat) : Bool := decide (n ≤ 16777216)
theorem ltM_ok {n : Nat} (h : ltM n = true) : n ≤ sizeLine := by rw [sizeLine_eq]; exact of_decide_eq_true h
section
variable {X : Cx} {K : Frag}
/-- xs + ys, both readable -/
def rCatL (K : Frag) : R2 := fun x y H Q => ∃ l b xs zs, x = .ref l ∧ y = .ref b ∧ SqL K H l xs ∧ SqL K H b zs ∧ xs.length + zs.length ≤ sizeLine ∧ ∀ p, H p = none → Q (.ref p) (upd H p (.lst (xs ++ zs)))
theorem op_catL : OpR X (binaryOp .Add) (rCatL X.K) := by
  intro pins s σ H x y v u Q I rx ry h
  obtain ⟨l, b, xs, zs, rfl, rfl, hH, hB, hz, q⟩ := h
  cases rx
  cases ry
  obtain ⟨its, r, pl, z⟩ := I.list hH
  obtain ⟨its2, r2, pl2, z2⟩ := I.list hB
  obtain ⟨⟨cls, dd, data, sl⟩, ho, hc, n, hd⟩ := pl.isList
  obtain ⟨⟨cls2, dd2, data2, sl2⟩, ho2, hc2, n2, hd2⟩ := pl2.isList
  simp only at hc hd hc2 hd2
  subst hc hd hc2 hd2
  have hl := r.length
  have hl2 := r2.length
  refine concat_meets ⟨_, ho, rfl⟩ ⟨_, ho2, rfl⟩ noFill_list_add seq_list_add PySem.F.slot_list_add PySem.F.entry_list_add (PySem.F.args_list_add_2 _ _) (list_addW l b its.toArray its2.toArray n n2 dd dd2 sl sl2 (by rw [List.size_toArray, List.size_toArray]; omega)) ⟨ho, ho2, ?_⟩
  have ea : its.toArray ++ its2.toArray = (its ++ its2).toArray := by simp
  rw [ea]
  exact ⟨.ref _, _, I.lnew (t' := s.toks) (r.append r2) (by rw [List.length_append]; omega), rfl, q _ I.fresh⟩
/-- a bool beside an int -/
def rAddB : R2 := fun x y H Q => ∃ k i, x = .bl k ∧ y = .int i ∧ Q (.int ((if k = true then (1 : Int) else 0) + i)) H
def rSubB : R2 := fun x y H Q => ∃ k i, x = .bl k ∧ y = .int i ∧ Q (.int ((if k = true then (1 : Int) else 0) - i)) H
theorem op_addB : OpR X (binaryOp .Add) rAddB := by
  intro pins s σ H x y v u Q I rx ry h
  obtain ⟨k, i, rfl, rfl, q⟩ := h
  obtain ⟨t, rfl⟩ := ry
  cases rx
  exact IntBool.add_bool_int ⟨.int _, H, I.tok _, ⟨_, rfl⟩, q⟩
theorem op_subB : OpR X (binaryOp .Sub) rSubB := by
  intro pins s σ H x y v u Q I rx ry h
  obtain ⟨k, i, rfl, rfl, q⟩ := h
  obtain ⟨t, rfl⟩ := ry
  cases rx
  exact IntBool.sub_bool_int ⟨.int _, H, I.tok _, ⟨_, rfl⟩, q⟩
def subD : D → D → Option D
  | .int i, .int j => some (.int (i - j))
  | .bool k, .int j => some (.int ((if k = true then (1 : Int) else 0) - j))
  | _, _ => none
theorem o2_subD : Op2 K (fun x y H Q => (rI0 fun i j => .int (i - j)) x y H Q ∨ rSubB x y H Q) subD := by
  intro F H x y d e z fh r1 r2 h
  unfold subD at h
  split at h
  · cases h; cases r1; cases r2
    exact ⟨_, .int _, fun Q q => .inl ⟨_, _, rfl, rfl, q⟩⟩
  · cases h; cases r1; cases r2
    exact ⟨_, .int _, fun Q q => .inr ⟨_, _, rfl, rfl, q⟩⟩
  · cases h
def rAddA (K : Frag) : R2 := fun x y H Q => rAddB x y H Q ∨ rI0 (fun i j => .int (i + j)) x y H Q ∨ (∃ i j, x = .str i ∧ y = .str j ∧ i.length + j.length ≤ sizeLine ∧ Q (.str (i ++ j)) H) ∨ rCatL K x y H Q ∨ rCatA K x y H Q
theorem op_addA : OpR X (binaryOp .Add) (rAddA X.K) := op_addB.or (op_add.or (op_add_str.or (op_catL.or op_catA)))
theorem Top.lst {F H : Hp} (fh : FH F H) {v : V} {ds : List D} (t : Top K F H v (.list ds)) : ∃ a xs, v = .ref a ∧ SqL K H a xs ∧ RpL K F xs ds := by
  rcases t with r | ⟨a, o, e, h, r⟩
  · cases r with
    | lst s l => exact ⟨_, _, rfl, sqL_H fh s, l⟩
  · cases o <;> first | exact ⟨a, _, e, SqL.of h, r⟩ | exact r.elim
theorem Top.tup {F H : Hp} (fh : FH F H) {v : V} {ds : List D} (t : Top K F H v (.tuple ds)) : ∃ a xs, v = .ref a ∧ SqT K H a xs ∧ RpL K F xs ds ∧ Rp K F v (.tuple ds) := by
  rcases t with r | ⟨a, o, e, h, r⟩
  · have r' := r
    cases r with
    | tup s l => exact ⟨_, _, rfl, sqT_H fh s, l, r'⟩
  · cases o <;> exact r.elim
theorem Top.dct {F H : Hp} (fh : FH F H) {v : V} {es : List (D × D)} (t : Top K F H v (.dict es)) : ∃ a, v = .ref a ∧ ((∃ kvs, Rd H a (.dK kvs) ∧ RpK K F kvs es) ∨ ∃ kvs es', es = (.bool true, .none) :: es' ∧ Rd H a (.dT kvs) ∧ RpT K F kvs es') := by
  rcases t with r | ⟨a, o, e, h, r⟩
  · cases r with
    | dK s l => exact ⟨_, rfl, .inl ⟨_, fh.rd s, l⟩⟩
    | dT s l => exact ⟨_, rfl, .inr ⟨_, _, rfl, fh.rd s, l⟩⟩
  · unfold RO at r
    split at r
    · rename_i q; cases q
    · rename_i q; cases q; exact ⟨a, e, .inl ⟨_, .inl h, r⟩⟩
    · rename_i q; cases q; exact ⟨a, e, .inr ⟨_, _, rfl, .inl h, r⟩⟩
    · exact r.elim
theorem Top.flat {F H : Hp} {v : V} {d : D} (t : Top K F H v d) (h : ∀ ds, d ≠ .list ds) (h' : ∀ es, d ≠ .dict es) : Rp K F v d := by
  rcases t with r | ⟨a, o, e, hh, r⟩
  · exact r
  · cases o <;> cases d <;> first | exact r.elim | exact (h _ rfl).elim | exact (h' _ rfl).elim
def addS : D → D → Option S
  | .int i, .int j => some (.fr (.int (i + j)))
  | .bool k, .int j => some (.fr (.int ((if k = true then (1 : Int) else 0) + j)))
  | .str i, .str j => if ltM (i.length + j.length) = true then some (.fr (.str (i ++ j))) else none
  | .list ds, .list es => if ltM (ds.length + es.length) = true then some (.ow (.list (ds ++ es))) else none
  | .tuple ds, .tuple es => if ltM (ds.length + es.length) = true then some (.fr (.tuple (ds ++ es))) else none
  | _, _ => none
theorem o2_add : Op2FT K (rAddA K) addS := by
  intro F H x y d e s fh r1 r2 h
  unfold addS at h
  split at h
  · cases h
    have r1 := r1.flat (fun _ z => nomatch z) (fun _ z => nomatch z)
    cases r1; cases r2
    exact .flat (.int _) fun Q q => .inr (.inl ⟨_, _, rfl, rfl, q⟩)
  · cases h
    have r1 := r1.flat (fun _ z => nomatch z) (fun _ z => nomatch z)
    cases r1; cases r2
    exact .flat (.int _) fun Q q => .inl ⟨_, _, rfl, rfl, q⟩
  · split at h
    · rename_i hl
      cases h
      have r1 := r1.flat (fun _ z => nomatch z) (fun _ z => nomatch z)
      cases r1; cases r2
      exact .flat (.str _) fun Q q => .inr (.inr (.inl ⟨_, _, rfl, rfl, ltM_ok hl, q⟩))
    · cases h
  · split at h
    · rename_i hl
      cases h
      obtain ⟨a, xs, rfl, s1, l1⟩ := r1.lst fh
      cases r2 with
      | lst s2 l2 => exact .ow (o := .lst _) (show RO K F (.lst _) (.list _) from l1.append l2) fun Q k => .inr (.inr (.inr (.inl ⟨_, _, _, _, rfl, rfl, s1, sqL_H fh s2, by rw [l1.length, l2.length]; exact ltM_ok hl, k⟩)))
    · cases h
  · split at h
    · rename_i ds es hl
      cases h
      obtain ⟨a, xs, rfl, s1, l1, r1'⟩ := r1.tup fh
      have r2' := r2
      cases r2 with
      | @tup b ys _ s2 l2 =>
        by_cases h1 : xs = []
        · subst h1
          cases l1
          exact .flat (v := .ref b) (by simpa using r2') fun Q q => .inr (.inr (.inr (.inr ⟨_, _, _, _, rfl, rfl, s1, sqT_H fh s2, by have := l2.length; have := ltM_ok hl; simp only [List.length_nil] at *; omega, fun _ => q, fun z => absurd rfl z, fun z => absurd rfl z⟩)))
        · by_cases h2 : ys = []
          · subst h2
            cases l2
            exact .flat (v := .ref a) (by simpa using r1') fun Q q => .inr (.inr (.inr (.inr ⟨_, _, _, _, rfl, rfl, s1, sqT_H fh s2, by have := l1.length; have := ltM_ok hl; simp only [List.length_nil] at *; omega, fun z => absurd z h1, fun _ _ => q, fun _ z => absurd rfl z⟩)))
          · exact .tup (l1.append l2) fun Q k => .inr (.inr (.inr (.inr ⟨_, _, _, _, rfl, rfl, s1, sqT_H fh s2, by rw [l1.length, l2.length]; exact ltM_ok hl, fun z => absurd z h1, fun _ z => absurd z h2, fun _ _ => k⟩)))
    · cases h
  · cases h
/-! ### * -/
def rMulA (K : Frag) : R2 := fun x y H Q => rI CMul (fun i j => .int (i * j)) x y H Q ∨ rRep x y H Q ∨ rRepT K x y H Q
theorem op_mulA : OpR X (binaryOp .Mult) (rMulA X.K) := op_mul.or (op_rep.or op_repT)
def repD (k : Int) (ds : List D) : List D := (List.replicate k.toNat ds).flatten
theorem RpL.rep {F : Hp} {xs : List V} {ds : List D} (r : RpL K F xs ds) : ∀ n : Nat, RpL K F (List.replicate n xs).flatten (List.replicate n ds).flatten
  | 0 => .nil
  | n + 1 => by rw [List.replicate_succ, List.replicate_succ, List.flatten_cons, List.flatten_cons]; exact r.append (RpL.rep r n)
def mulS : D → D → Option S
  | .int i, .int j => if cMul i j = true then some (.fr (.int (i * j))) else none
  | .tuple ds, .int k => if ds ≠ [] ∧ 2 ≤ k ∧ k ≤ 1000 ∧ ds.length ≤ 1000 then some (.fr (.tuple (repD k ds))) else none
  | _, _ => none
theorem o2_mul : Op2F K (rMulA K) mulS := by
  intro F H x y d e s fh r1 r2 h
  unfold mulS at h
  split at h
  · split at h
    · rename_i hc
      cases h
      cases r1; cases r2
      exact .flat (.int _) fun Q q => .inl ⟨_, _, rfl, rfl, cMul_ok _ _ hc, q⟩
    · cases h
  · split at h
    · rename_i ds k hc
      cases h
      cases r2
      cases r1 with
      | @tup a xs _ s1 l1 =>
        have hl := l1.length
        refine .tup (l1.rep k.toNat) fun Q q => .inr (.inr ⟨a, k, xs, rfl, rfl, sqT_H fh s1, ?_, hc.2.1, hc.2.2.1, by omega, q⟩)
        rintro rfl
        cases l1
        exact hc.1 rfl
    · cases h
  · cases h
/-- [..] * k, k written -/
def lmulM (k : Int) (m : M S) : M S := m.bind fun s => M.opt (match s with
  | .ow (.list ds) => if 0 ≤ k ∧ k ≤ 4000 ∧ ds.length ≤ 4000 then some (.ow (.list (repD k ds))) else none
  | _ => none)
theorem lf_lmul {W : WX} {a : Expr} {m : M S} {k : Int} {j : Nat} {p2 pos : Pos} (h : LF X W a m) : LF X W (.BinOp a .Mult (.Constant (.int k) j p2) pos) (lmulM k m) := by
  obtain ⟨t, ht, l⟩ := h.ex
  refine ⟨_, pe_op op_rep ht pe_int, fun G io F σ H ρ Q ok q => l G io F σ H ρ _ ok (PoE.bind q fun v s ρ1 F1 H1 fx ok1 r1 q1 => ?_)⟩
  cases s with
  | ow d =>
    cases d with
    | list ds =>
      simp only at q1
      split at q1
      · rename_i hc
        obtain ⟨rs, sp⟩ := r1
        cases rs with
        | @ow a o d ha hf hg hio ro =>
          cases o <;> first | exact ro.elim | skip
          rename_i xs
          have ro : RpL X.K F1 xs ds := ro
          have hl := ro.length
          refine ⟨a, k, xs, rfl, rfl, ha, by omega, by omega, ?_, ?_⟩
          · rw [sizeLine_eq]
            have h1 : xs.length ≤ 4000 := by omega
            have h2 : k.toNat ≤ 4000 := by omega
            exact Nat.le_trans (Nat.mul_le_mul h1 h2) (by decide)
          · exact (Yld.ow (K := X.K) (F := F1) (o := .lst (List.replicate k.toNat xs).flatten) (z := .list (repD k ds)) (r := fun Q => ∀ p, H1 p = none → Q (.ref p) (upd H1 p (.lst (List.replicate k.toNat xs).flatten))) (ro.rep k.toNat) fun Q k => k).run ok1 fun v F' H' fx ok' rs => q1 v F' H' fx ok' rs
      · exact q1.elim
    | _ => exact q1.elim
  | _ => exact q1.elim
/-! ### subscripts -/
def itemD (d e : D) : Option D := match d, e with
  | .list ds, .int i => atI ds i
  | .tuple ds, .int i => atI ds i
  | _, _ => none
theorem atI_rp {F : Hp} {xs : List V} {ds : List D} {i : Int} {z : D} (r : RpL K F xs ds) (h : atI ds i = some z) : ∃ v, atI xs i = some v ∧ Rp K F v z := by
  unfold atI at h ⊢
  rw [r.length]
  obtain ⟨j, h1, h2⟩ := Option.bind_eq_some_iff.mp h
  obtain ⟨v, h3, h4⟩ := r.get h2
  exact ⟨v, by rw [h1]; exact h3, h4⟩
def itemS (d e : D) : Option S := (itemD d e).map .fr
theorem o2_item : Op2FT K (rIx K) itemS := by
  intro F H x y d e s fh r1 r2 h
  unfold itemS itemD at h
  split at h
  · obtain ⟨z, h1, rfl⟩ := Option.map_eq_some_iff.mp h
    obtain ⟨a, xs, rfl, s1, l1⟩ := r1.lst fh
    cases r2
    obtain ⟨v, h2, rv⟩ := atI_rp l1 h1
    exact .flat rv fun Q q => .inl ⟨a, xs, _, v, rfl, rfl, s1, h2, q⟩
  · obtain ⟨z, h1, rfl⟩ := Option.map_eq_some_iff.mp h
    obtain ⟨a, xs, rfl, s1, l1, _⟩ := r1.tup fh
    cases r2
    obtain ⟨v, h2, rv⟩ := atI_rp l1 h1
    exact .flat rv fun Q q => .inr (.inl ⟨a, xs, _, v, rfl, rfl, s1, h2, q⟩)
  · cases h
section
variable {W : WX} {a b : Expr} {ma mb : M D} {pos p2 : Pos}
theorem lf_item (ha : LE X W a ma) (hb : LE X W b mb) (hs : PlainIx b := by exact fun _ _ => rfl) : LF X W (.Subscript a b pos) (op2F itemS ma mb) := by
  obtain ⟨ta, ha, la⟩ := ha.ex
  obtain ⟨tb, hb, lb⟩ := hb.ex
  exact ⟨_, pe_ix ix_seq ha hb hs, fun G io F σ H ρ Q ok q => op2F_run o2_item.of la lb ok q⟩
theorem lf_itemV {i : Nat} {x : Str} (hb : LE X W b mb) (hs : PlainIx b := by exact fun _ _ => rfl) (hN : X.N[i]? = some x := by rfl) (hv : Vis X.env.scope x := by first | exact Or.inl rfl | exact Or.inr (Or.inl rfl) | exact Or.inr (Or.inr rfl)) (hd : (x == ("__debug__" : Str)) = false := by decide)
    (hcd : (x == ("__classdict__" : Str)) = false := by decide) : LF X W (.Subscript (.Name x p2) b pos) (op2V i itemS mb) := by
  obtain ⟨tb, hb, lb⟩ := hb.ex
  exact ⟨_, pe_ix ix_seq (pe_var hN hv hd hcd) hb hs, fun G io F σ H ρ Q ok q => op2V_run o2_item lb ok q⟩
/-! ### dicts: d[k], k in d -/
def keyOf : D → Option L2.Key
  | .int i => some (.inl i)
  | .str x => some (.inr x)
  | _ => none
def getK (es : List (D × D)) (k : L2.Key) : Option D := (es.find? fun e => decide (keyOf e.1 = some k)).map (·.2)
theorem keyOf_keyD (k : L2.Key) : keyOf (keyD k) = some k := by cases k <;> rfl
theorem RpK.get {F : Hp} (k : L2.Key) : ∀ {kvs : List (L2.Key × V)} {es : List (D × D)}, RpK K F kvs es → (∃ v d, valV kvs k = some v ∧ getK es k = some d ∧ Rp K F v d) ∨ (valV kvs k = none ∧ getK es k = none)
  | _, _, .nil => .inr ⟨rfl, rfl⟩
  | _, _, @RpK.cons _ _ k' v vs d ds h1 h2 => by
    have ih := RpK.get k h2
    unfold valV getK at ih ⊢
    rw [List.find?_cons, List.find?_cons]
    simp only [keyOf_keyD]
    by_cases e : k' = k
    · subst e
      simp only [decide_true]
      exact .inl ⟨v, d, rfl, rfl, h1⟩
    · have e' : ¬ (some k' = some k) := fun z => e (Option.some.inj z)
      simp only [e, e', decide_false]
      exact ih
/-- is it a dict with tuple keys -/
def isTd : List (D × D) → Bool
  | (.bool true, .none) :: _ => true
  | _ => false
def dgetS (d e : D) : Option S := match d, keyOf e with
  | .dict es, some k => if isTd es = true then none else (getK es k).map .fr
  | _, _ => none
def dinS (b : Bool) (e d : D) : Option S := match d, keyOf e with
  | .dict es, some k => if isTd es = true then none else some (.fr (.bool (if b then (getK es k).isSome else !(getK es k).isSome)))
  | _, _ => none
theorem Top.dk {F H : Hp} (fh : FH F H) {v : V} {es : List (D × D)} (t : Top K F H v (.dict es)) (h : ¬ isTd es = true) : ∃ a kvs, v = .ref a ∧ Rd H a (.dK kvs) ∧ RpK K F kvs es := by
  obtain ⟨a, e, ⟨kvs, h1, h2⟩ | ⟨kvs, es', h1, _⟩⟩ := t.dct fh
  · exact ⟨a, kvs, e, h1, h2⟩
  · subst h1; exact absurd rfl h
theorem keyOf_rp {F : Hp} {v : V} {d : D} {k : L2.Key} (r : Rp K F v d) (h : keyOf d = some k) : v = kV k := by
  cases d <;> first | cases h | skip
  all_goals (cases r; rfl)
def tDGetR : R2 := fun x y H Q => ∃ a v, x = .ref a ∧ DGet H a y (some v) ∧ Q v H
theorem o2_dget : Op2FT K tDGetR dgetS := by
  intro F H x y d e s fh r1 r2 h
  unfold dgetS at h
  split at h
  · rename_i es k hk
    split at h
    · cases h
    · rename_i ht
      obtain ⟨z, h1, rfl⟩ := Option.map_eq_some_iff.mp h
      obtain ⟨a, kvs, rfl, hr, l⟩ := r1.dk fh ht
      rcases l.get k with ⟨v, d, e1, e2, rv⟩ | ⟨_, e2⟩
      · rw [h1] at e2; cases e2
        exact .flat rv fun Q q => ⟨a, v, rfl, .inl ⟨kvs, k, hr, keyOf_rp r2 hk, e1.symm⟩, q⟩
      · rw [h1] at e2; cases e2
  · cases h
def tDInR (b : Bool) : R2 := fun y x H Q => ∃ a o, x = .ref a ∧ DGet H a y o ∧ Q (.bl (if b then o.isSome else !o.isSome)) H
theorem o2_din (b : Bool) : Op2TF K (tDInR b) (dinS b) := by
  intro F H y x e d s fh r2 r1 h
  unfold dinS at h
  split at h
  · rename_i es k hk
    split at h
    · cases h
    · rename_i ht
      cases h
      obtain ⟨a, kvs, rfl, hr, l⟩ := r1.dk fh ht
      have eq : (valV kvs k).isSome = (getK es k).isSome := by
        rcases l.get k with ⟨v, d, e1, e2, rv⟩ | ⟨e1, e2⟩ <;> rw [e1, e2] <;> rfl
      exact .flat (.bl _) fun Q q => ⟨a, valV kvs k, rfl, .inl ⟨kvs, k, hr, keyOf_rp r2 hk, rfl⟩, by rw [eq]; exact q⟩
  · cases h
theorem lf_dget (hu : X.A.units + 1 < cLine) (ha : LE X W a ma) (hb : LE X W b mb) (hs : NoSl b := by exact fun _ _ => rfl) : LF X W (.Subscript a b pos) (op2F dgetS ma mb) := by
  obtain ⟨ta, ha, la⟩ := ha.ex
  obtain ⟨tb, hb, lb⟩ := hb.ex
  exact ⟨_, pe_dget hu ha hb hs, fun G io F σ H ρ Q ok q => op2F_run (r := tDGetR) o2_dget.of la lb ok q⟩
theorem lf_dgetV {i : Nat} {x : Str} (hu : X.A.units + 1 < cLine) (hb : LE X W b mb) (hs : NoSl b := by exact fun _ _ => rfl) (hN : X.N[i]? = some x := by rfl) (hv : Vis X.env.scope x := by first | exact Or.inl rfl | exact Or.inr (Or.inl rfl) | exact Or.inr (Or.inr rfl)) (hd : (x == ("__debug__" : Str)) = false := by decide)
    (hcd : (x == ("__classdict__" : Str)) = false := by decide) : LF X W (.Subscript (.Name x p2) b pos) (op2V i dgetS mb) := by
  obtain ⟨tb, hb, lb⟩ := hb.ex
  exact ⟨_, pe_dget hu (pe_var hN hv hd hcd) hb hs, fun G io F σ H ρ Q ok q => op2V_run (r := tDGetR) o2_dget lb ok q⟩
theorem lt_dinV {i : Nat} {x : Str} (hu : X.A.units + 1 < cLine) (ha : LE X W a ma) (hN : X.N[i]? = some x := by rfl) (hv : Vis X.env.scope x := by first | exact Or.inl rfl | exact Or.inr (Or.inl rfl) | exact Or.inr (Or.inr rfl)) (hd : (x == ("__debug__" : Str)) = false := by decide)
    (hcd : (x == ("__classdict__" : Str)) = false := by decide) : LT X W (.Compare a [.In] [.Name x p2] pos) (tst (frz (op2W i (dinS true) ma))) := by
  obtain ⟨ta, ha, la⟩ := ha.ex
  exact ⟨_, pt_cmp (pc_din hu ha (pe_var hN hv hd hcd)), fun G io F σ H ρ Q ok q => tstF_run (t := tOp (tDInR true) ta (tVar i)) (fun G io F σ H ρ Q ok q => op2W_run (o2_din true) la ok q) ok q⟩
theorem lt_dnotinV {i : Nat} {x : Str} (hu : X.A.units + 1 < cLine) (ha : LE X W a ma) (hN : X.N[i]? = some x := by rfl) (hv : Vis X.env.scope x := by first | exact Or.inl rfl | exact Or.inr (Or.inl rfl) | exact Or.inr (Or.inr rfl)) (hd : (x == ("__debug__" : Str)) = false := by decide)
    (hcd : (x == ("__classdict__" : Str)) = false := by decide) : LT X W (.Compare a [.NotIn] [.Name x p2] pos) (tst (frz (op2W i (dinS false) ma))) := by
  obtain ⟨ta, ha, la⟩ := ha.ex
  exact ⟨_, pt_cmp (pc_dnotin hu ha (pe_var hN hv hd hcd)), fun G io F σ H ρ Q ok q => tstF_run (t := tOp (tDInR false) ta (tVar i)) (fun G io F σ H ρ Q ok q => op2W_run (o2_din false) la ok q) ok q⟩
end
end
end Lf

/-! LH: what loops walk; for, while, list comprehensions. -/
namespace Lf
open PySem PySem.Spec PyProof.Rows L2

/-- the iterator walks the data ds -/
structure Wk (K : Frag) (G F : Hp) (J : It) (ds : List D) : Prop where
  step : ∀ F' H' (i : Nat), Sub F F' → Sub G H' → FH F' H' → (i < ds.length → J.go i H') ∧ (ds.length ≤ i → J.stop i H')
  yld : ∀ F' H' (i : Nat) d x H'', Sub F F' → Sub G H' → FH F' H' → ds[i]? = some d → J.yld i H' x H'' →
    (H'' = H' ∧ Rp K F' x d) ∨ ∃ T xs es, x = .ref T ∧ H' T = none ∧ H'' = upd H' T (.tup xs) ∧ d = .tuple es ∧ RpL K F' xs es
theorem Wk.mono {K : Frag} {G F F1 : Hp} {J : It} {ds : List D} (w : Wk K G F J ds) (h : Sub F F1) : Wk K G F1 J ds :=
  ⟨fun F' H' i s => w.step F' H' i (h.trans s), fun F' H' i d x H'' s => w.yld F' H' i d x H'' (h.trans s)⟩
def PoI (X : Cx) (W : WX) (G : Hp) (io : Option Addr) (F : Hp) (σ : L2.St) (R : It → Hp → Prop) : Res (List D × EnvD) → Prop
  | .ok (ds, ρ') => ∀ J F' H', Fx G F F' → EnvOk X.K G io F' σ H' ρ' → (∀ G0, Wk X.K G0 F' J ds) → R J H'
  | .exc c => ∀ C H', X.mg c = some (.ref C) → Sub G H' → W (.ref C) none σ H'
  | .bad => False
structure LI (X : Cx) (W : WX) (tg iter : Expr) (m : M (List D)) : Prop where
  ex : ∃ wi, PI X tg iter wi ∧ ∀ G io F σ H ρ R, EnvOk X.K G io F σ H ρ → PoI X W G io F σ R (m ρ) → wi σ H R
theorem PoI.mono {X : Cx} {W : WX} {G : Hp} {io : Option Addr} {F F1 : Hp} {σ : L2.St} {R : It → Hp → Prop} (x : Fx G F F1) : ∀ {r : Res (List D × EnvD)}, PoI X W G io F σ R r → PoI X W G io F1 σ R r
  | .ok (d, ρ'), h => fun v F' H' y => h v F' H' (x.trans y)
  | .exc _, h => h
  | .bad, h => h
theorem PoI.bind {α β : Type} {R : Hp → Hp → α → β → L2.St → EnvD → Prop} {X : Cx} {W : WX} {G : Hp} {io : Option Addr} {F : Hp} {σ : L2.St} {Q : It → Hp → Prop} {Q1 : α → Hp → Prop} {m : M β} {f : β → M (List D)} {ρ : EnvD}
    (h : PoI X W G io F σ Q (M.bind m f ρ))
    (k : ∀ v d ρ1 F1 H1, Fx G F F1 → EnvOk X.K G io F1 σ H1 ρ1 → R F1 H1 v d σ ρ1 → PoI X W G io F1 σ Q (f d ρ1) → Q1 v H1) : PoE R X W G io F σ Q1 (m ρ) := by
  unfold M.bind at h
  cases e : m ρ with
  | ok p =>
    obtain ⟨d, ρ1⟩ := p
    rw [e] at h
    exact fun v F1 H1 x ok r => k v d ρ1 F1 H1 x ok r (h.mono x)
  | exc c => rw [e] at h; exact h
  | bad => rw [e] at h; exact h
section
variable {X : Cx} {W : WX} {K : Frag} {G F H : Hp}
theorem wk_list {a : Addr} {xs : List V} {ds : List D} (s : SqL K F a xs) (l : RpL K F xs ds) : Wk K G F (Itl K a) ds where
  step := fun F' H' i hs _ fh => ⟨fun hi => ⟨xs, xs[i]'(by rw [l.length]; exact hi), sqL_H fh (sqL_mono hs s), by simp⟩, fun hi => ⟨xs, sqL_H fh (sqL_mono hs s), by rw [l.length]; exact hi⟩⟩
  yld := fun F' H' i d x H'' hs _ fh e y => by
    obtain ⟨rfl, y⟩ := y
    obtain ⟨v, h1, h2⟩ := l.get e
    have h3 := y xs (sqL_H fh (sqL_mono hs s))
    rw [h1] at h3; cases h3
    exact .inl ⟨rfl, h2.mono hs⟩
theorem wk_tup {a : Addr} {xs : List V} {ds : List D} (s : SqT K F a xs) (l : RpL K F xs ds) : Wk K G F (Itt K a) ds where
  step := fun F' H' i hs _ fh => ⟨fun hi => ⟨xs, xs[i]'(by rw [l.length]; exact hi), sqT_H fh (sqT_mono hs s), by simp⟩, fun hi => ⟨xs, sqT_H fh (sqT_mono hs s), by rw [l.length]; exact hi⟩⟩
  yld := fun F' H' i d x H'' hs _ fh e y => by
    obtain ⟨rfl, y⟩ := y
    obtain ⟨v, h1, h2⟩ := l.get e
    have h3 := y xs (sqT_H fh (sqT_mono hs s))
    rw [h1] at h3; cases h3
    exact .inl ⟨rfl, h2.mono hs⟩
def rangeD (lo : Int) (n : Nat) : List D := (List.range n).map fun i => .int (lo + (i : Nat))
theorem rangeD_get {lo : Int} {n i : Nat} {d : D} (e : (rangeD lo n)[i]? = some d) : d = .int (lo + (i : Nat)) := by
  unfold rangeD at e
  rw [List.getElem?_map] at e
  cases q : (List.range n)[i]? with
  | none => rw [q] at e; cases e
  | some j =>
    rw [q] at e
    have : j = i := by
      have := List.getElem?_eq_some_iff.mp q
      obtain ⟨h, e2⟩ := this
      simpa using e2.symm
    subst this
    exact (Option.some.inj e).symm
theorem wk_range {lo : Int} {n : Nat} : Wk K G F (Itr lo n) (rangeD lo n) where
  step := fun F' H' i _ _ _ => ⟨fun hi => by show i < n; simpa [rangeD] using hi, fun hi => by show n ≤ i; simpa [rangeD] using hi⟩
  yld := fun F' H' i d x H'' _ _ _ e y => by
    obtain ⟨rfl, rfl⟩ := y
    rw [rangeD_get e]
    exact .inl ⟨rfl, .int _⟩
/-- a list or a tuple, walked -/
def iSeq (K : PySem.W.Frag) (tl : TE) : TI := fun σ H R => tl σ H fun x H1 => ∃ a, x = .ref a ∧ (((∃ xs, SqL K H1 a xs) ∧ R (Itl K a) H1) ∨ ((∃ xs, SqT K H1 a xs) ∧ R (Itt K a) H1))
theorem pi_seq {tg l : Expr} {tl : TE} (hl : PE X l tl) : PI X tg l (iSeq X.K tl) := by
  refine ⟨fun pins s σ H R I h => ?_⟩
  refine thn (hl.run pins s σ H _ I h) fun v s1 ⟨x, H1, I1, r1, q1⟩ => ?_
  obtain ⟨a, e, ⟨⟨xs, hq⟩, q⟩ | ⟨⟨xs, hq⟩, q⟩⟩ := q1
  · subst e
    cases r1
    obtain ⟨its, rv, p, hz⟩ := I1.list hq
    refine wpAny_pyIter_list p.isList ?_
    refine ⟨s1.heap.objs.size, [s1.heap.objs.size], _, _, H1, rfl, I1.kept (t' := s1.toks) fun b o e => Heap.get?_push_of_some _ e, turn_list a _, ⟨_, Heap.get?_push_size _ rfl, rfl, rfl⟩, fun b hb => ?_, q⟩
    have e : b = s1.heap.objs.size := by simpa using hb
    subst e
    exact I1.fpOk (Nat.le_refl _) (I1.hok.fresh (Nat.le_refl _))
  · subst e
    cases r1
    obtain ⟨its, rv, p, hz⟩ := I1.tuple hq
    refine wpAny_pyIter_tuple (show s1.heap.IsTuple a its.toArray from p) ?_
    refine ⟨s1.heap.objs.size, [s1.heap.objs.size], _, _, H1, rfl, I1.kept (t' := s1.toks) fun b o e => Heap.get?_push_of_some _ e, turn_tuple a _, ⟨_, Heap.get?_push_size _ rfl, rfl, rfl⟩, fun b hb => ?_, q⟩
    have e : b = s1.heap.objs.size := by simpa using hb
    subst e
    exact I1.fpOk (Nat.le_refl _) (I1.hok.fresh (Nat.le_refl _))
def seqM' (m : M D) : M (List D) := m.bind fun d => M.opt (seqD d)
theorem li_seq {tg l : Expr} {m : M D} (h : LE X W l m) : LI X W tg l (seqM' m) := by
  obtain ⟨t, ht, lf⟩ := h.ex
  refine ⟨_, pi_seq ht, fun G io F σ H ρ R ok q => lf G io F σ H ρ _ ok (PoI.bind q fun v d ρ1 F1 H1 fx ok1 r q1 => ?_)⟩
  cases d with
  | list ds => cases r with | lst s l => exact ⟨_, rfl, .inl ⟨⟨_, sqL_H ok1.f s⟩, q1 _ F1 H1 (Fx.refl G F1) ok1 (fun _ => wk_list s l)⟩⟩
  | tuple ds => cases r with | tup s l => exact ⟨_, rfl, .inr ⟨⟨_, sqT_H ok1.f s⟩, q1 _ F1 H1 (Fx.refl G F1) ok1 (fun _ => wk_tup s l)⟩⟩
  | _ => exact q1.elim
/-! ### ranges -/
def rgB (j : Int) : Bool := decide (-1000000000000000 ≤ j) && decide (j ≤ 1000000000000000)
theorem rgB_ok {j : Int} (h : rgB j = true) : -(2 ^ 62) ≤ j ∧ j < 2 ^ 62 := by
  unfold rgB at h
  rw [Bool.and_eq_true, decide_eq_true_eq, decide_eq_true_eq] at h
  exact ⟨Int.le_trans (by decide) h.1, Int.lt_of_le_of_lt h.2 (by decide)⟩
def rg1 : List D → Option (List D)
  | [.int j] => if rgB j = true then some (rangeD 0 j.toNat) else none
  | _ => none
def rg2 : List D → Option (List D)
  | [.int i, .int j] => if rgB i = true ∧ rgB j = true then some (rangeD i (j - i).toNat) else none
  | _ => none
def rgM (f : List D → Option (List D)) (ms : M (List D)) : M (List D) := ms.bind fun ds => M.opt (f ds)
theorem rp1 {vs : List V} {F : Hp} {i : Int} (r : RpL K F vs [.int i]) : vs = [.int i] := by
  cases r with | cons a b => cases a; cases b; rfl
theorem rp2 {vs : List V} {F : Hp} {i j : Int} (r : RpL K F vs [.int i, .int j]) : vs = [.int i, .int j] := by
  cases r with | cons a b => cases a; cases b with | cons a b => cases a; cases b; rfl
theorem rp3 {vs : List V} {F : Hp} {i j k : Int} (r : RpL K F vs [.int i, .int j, .int k]) : vs = [.int i, .int j, .int k] := by
  cases r with | cons a b => cases a; cases b with | cons a b => cases a; cases b with | cons a b => cases a; cases b; rfl
theorem li_range1 {tg a : Expr} {ms : M (List D)} {p pos : Pos} (hm : X.mg "range" = none) (ha : LA X W [a] ms) (hg : Gl X "range" := by rfl) (hs : starEach [a] X.env = [(false, eval a X.env)] := by rfl) : LI X W tg (.Call (.Name "range" p) [a] [] pos) (rgM rg1 ms) := by
  obtain ⟨t, ht, lf⟩ := ha.ex
  refine ⟨_, pi_range1 hg hm ht hs, fun G io F σ H ρ R ok q => lf G io F σ H ρ _ ok (PoI.bind q fun vs ds ρ1 F1 H1 fx ok1 r q1 => ?_)⟩
  unfold rg1 at q1
  split at q1
  · rename_i j
    split at q1
    · rename_i hc
      exact ⟨j, rp1 r, (rgB_ok hc).1, (rgB_ok hc).2, q1 _ F1 H1 (Fx.refl G F1) ok1 (fun _ => wk_range)⟩
    · exact q1.elim
  · exact q1.elim
theorem li_range2 {tg a b : Expr} {ms : M (List D)} {p pos : Pos} (hm : X.mg "range" = none) (ha : LA X W [a, b] ms) (hg : Gl X "range" := by rfl) (hs : starEach [a, b] X.env = [(false, eval a X.env), (false, eval b X.env)] := by rfl) (hs2 : starEach [b] X.env = [(false, eval b X.env)] := by rfl) :
    LI X W tg (.Call (.Name "range" p) [a, b] [] pos) (rgM rg2 ms) := by
  obtain ⟨t, ht, lf⟩ := ha.ex
  refine ⟨_, pi_range2 hg hm ht hs hs2, fun G io F σ H ρ R ok q => lf G io F σ H ρ _ ok (PoI.bind q fun vs ds ρ1 F1 H1 fx ok1 r q1 => ?_)⟩
  unfold rg2 at q1
  split at q1
  · rename_i i j
    split at q1
    · rename_i hc
      exact ⟨i, j, rp2 r, ⟨(rgB_ok hc.1).1, (rgB_ok hc.1).2, (rgB_ok hc.2).1, (rgB_ok hc.2).2⟩, q1 _ F1 H1 (Fx.refl G F1) ok1 (fun _ => wk_range)⟩
    · exact q1.elim
  · exact q1.elim
end

/-! ### targets -/
def setFr (i : Nat) (d : D) (ρ : EnvD) : Option EnvD := if i < ρ.length then some (ρ.set i (some (.fr d))) else none
/-- the slots but those at is are as they were -/
def Ag (is : List Nat) (σ σ' : L2.St) : Prop := σ'.length = σ.length ∧ ∀ j, j ∉ is → σ'[j]? = σ[j]?
theorem Ag.trans {is js : List Nat} {a b c : L2.St} (h : Ag is a b) (k : Ag js b c) : Ag (is ++ js) a c :=
  ⟨k.1.trans h.1, fun j hj => (k.2 j fun z => hj (List.mem_append_right _ z)).trans (h.2 j fun z => hj (List.mem_append_left _ z))⟩
structure LG (X : Cx) (tg : Expr) (is : List Nat) (f : D → EnvD → Option EnvD) : Prop where
  ex : ∃ t, PG X tg t ∧ ∀ G io F σ H ρ v d ρ' Q, EnvOk X.K G io F σ H ρ → Rp X.K F v d → f d ρ = some ρ' → (∀ σ', EnvOk X.K G io F σ' H ρ' → Ag is σ σ' → Q σ' H) → t v σ H Q
structure LGs (X : Cx) (tgs : List Expr) (is : List Nat) (f : List D → EnvD → Option EnvD) : Prop where
  ex : ∃ t, PGs X tgs t ∧ ∀ G io F σ H ρ vs ds ρ' Q, EnvOk X.K G io F σ H ρ → RpL X.K F vs ds → f ds ρ = some ρ' → (∀ σ', EnvOk X.K G io F σ' H ρ' → Ag is σ σ' → Q σ' H) → t vs σ H Q
section
variable {X : Cx} {W : WX}
theorem lg_name {i : Nat} {x : Str} {pos : Pos} (hN : X.N.Nodup) (hi : X.N[i]? = some x) (hx : Loc X.env.scope x) (hf : X.fn x = true ∨ X.env.scope.names.lookup x = some .local := by first | exact .inl rfl | exact .inr rfl | assumption) : LG X (.Name x pos) [i] (setFr i) := by
  refine ⟨_, pg_name hN hi hx hf, fun G io F σ H ρ v d ρ' Q ok r e k => ?_⟩
  unfold setFr at e
  split at e
  · rename_i hl
    cases e
    exact k _ (ok.setFr r hl) ⟨by simp, fun j hj => by rw [List.getElem?_set_ne (fun z => hj (by simp [z]))]⟩
  · cases e
def gsNil : List D → EnvD → Option EnvD
  | [], ρ => some ρ
  | _, _ => none
def gsCons (f : D → EnvD → Option EnvD) (g : List D → EnvD → Option EnvD) : List D → EnvD → Option EnvD
  | d :: ds, ρ => (f d ρ).bind (g ds)
  | [], _ => none
theorem lgs_nil : LGs X [] [] gsNil := by
  refine ⟨_, pgs_nil, fun G io F σ H ρ vs ds ρ' Q ok r e k => ?_⟩
  cases r with
  | nil => cases e; exact ⟨rfl, k _ ok ⟨rfl, fun _ _ => rfl⟩⟩
  | cons _ _ => cases e
theorem lgs_cons {e : Expr} {es : List Expr} {is js : List Nat} {f : D → EnvD → Option EnvD} {g : List D → EnvD → Option EnvD} (h1 : LG X e is f) (h2 : LGs X es js g)
    (hs : (assignEach (e :: es) X.env).map (·.2) = assign e X.env :: (assignEach es X.env).map (·.2) := by rfl) : LGs X (e :: es) (is ++ js) (gsCons f g) := by
  obtain ⟨t, ht, l⟩ := h1.ex
  obtain ⟨u, hu, l2⟩ := h2.ex
  refine ⟨_, pgs_cons ht hu hs, fun G io F σ H ρ vs ds ρ' Q ok r e k => ?_⟩
  cases r with
  | nil => cases e
  | @cons v vs d ds a b =>
    obtain ⟨ρ1, e1, e2⟩ := Option.bind_eq_some_iff.mp e
    exact ⟨v, vs, rfl, l G io F σ H ρ v d ρ1 _ ok a e1 fun σ1 ok1 ag1 => l2 G io F σ1 H ρ1 vs ds ρ' Q ok1 b e2 fun σ2 ok2 ag2 => k σ2 ok2 (ag1.trans ag2)⟩
def gTupD (n : Nat) (g : List D → EnvD → Option EnvD) : D → EnvD → Option EnvD
  | .tuple ds, ρ => if ds.length = n then g ds ρ else none
  | _, _ => none
theorem lg_tup {es : List Expr} {is : List Nat} {k : Nat} {pos : Pos} {g : List D → EnvD → Option EnvD} {n : Nat} (hc : X.calm = true) (h : LGs X es is g)
    (hn : (assignEach es X.env).length = n := by rfl) (hst : (assignEach es X.env).findIdx? (·.1) = none := by rfl) : LG X (.Tuple es k pos) is (gTupD n g) := by
  obtain ⟨t, ht, l⟩ := h.ex
  refine ⟨_, pg_tup hc ht hn hst, fun G io F σ H ρ v d ρ' Q ok r e k => ?_⟩
  unfold gTupD at e
  cases d with
  | tuple ds =>
    simp only at e
    split at e
    · rename_i hl
      cases r with
      | tup s rl => exact ⟨_, _, rfl, sqT_H ok.f s, by rw [rl.length]; exact hl, l G io F σ H ρ _ ds ρ' Q ok rl e k⟩
    · cases e
  | _ => cases e

/-! ### for -/
def forD (set : D → EnvD → Option EnvD) (body : EnvD → Out) : List D → EnvD → Out
  | [], ρ => .nx ρ
  | d :: ds, ρ => match set d ρ with
    | none => .bad
    | some ρ1 => match body ρ1 with
      | .nx ρ2 => forD set body ds ρ2
      | .ct ρ2 => forD set body ds ρ2
      | .bk ρ2 => .nx ρ2
      | .rt s ρ2 => .rt s ρ2
      | .exc c => .exc c
      | .bad => .bad
def forM (m : M (List D)) (set : D → EnvD → Option EnvD) (body : EnvD → Out) : EnvD → Out := fun ρ => outM (fun ds ρ' => forD set body ds ρ') (m ρ)
/-- the item that a walk yields, laid -/
theorem yld_ok {K : Frag} {G : Hp} {io : Option Addr} {F H H'' : Hp} {σ : L2.St} {ρ : EnvD} {d : D} {x : V} (ok : EnvOk K G io F σ H ρ)
    (y : (H'' = H ∧ Rp K F x d) ∨ ∃ T xs es, x = .ref T ∧ H T = none ∧ H'' = upd H T (.tup xs) ∧ d = .tuple es ∧ RpL K F xs es) :
    ∃ F', Fx G F F' ∧ EnvOk K G io F' σ H'' ρ ∧ Rp K F' x d := by
  rcases y with ⟨rfl, r⟩ | ⟨T, xs, es, rfl, hT, rfl, rfl, r⟩
  · exact ⟨F, Fx.refl G F, ok, r⟩
  · obtain ⟨fx, ok'⟩ := ok.laid (o := .tup xs) hT
    exact ⟨_, fx, ok', .tup (SqT.of upd_same) (r.mono fx.sub)⟩
theorem for_run {K : Frag} {is : List Nat} {mgc : Str → Option Value} {J : It} {ds : List D} {set : D → EnvD → Option EnvD} {body : EnvD → Out} {g : TG} {tb : TS} {G : Hp} {io : Option Addr} {F : Hp} {σ : L2.St} {H : Hp} {ρ : EnvD} {E : Ends} (hK : X.K = K) (wk : Wk K G F J ds)
    (lg : ∀ G io F σ H ρ v d ρ' Q, EnvOk X.K G io F σ H ρ → Rp X.K F v d → set d ρ = some ρ' → (∀ σ', EnvOk X.K G io F σ' H ρ' → Ag is σ σ' → Q σ' H) → g v σ H Q)
    (lb : ∀ G io F σ H ρ E, EnvOk X.K G io F σ H ρ → PoS X W G io F E (body ρ) → tb E σ H)
    (ok : EnvOk X.K G io F σ H ρ) (q : PoS X W G io F E (forD set body ds ρ)) :
    ∃ Wv : Nat → Nat → L2.St → Hp → Prop, (∃ m, Wv 0 m σ H) ∧ ∀ i m σ H, Wv i m σ H →
      (J.stop i H ∧ E.nx σ H) ∨ (J.go i H ∧ ∃ N : L2.St → Hp → Prop, (∀ σ' H', N σ' H' → ∃ m', m' < m ∧ Wv (i + 1) m' σ' H') ∧ ∀ x H', J.yld i H x H' → g x σ H' fun σ2 H2 => tb { E with nx := N, ct := N, bk := E.nx } σ2 H2) := by
  subst hK
  refine ⟨fun i m σ' H' => ∃ F' ρ', m = ds.length - i ∧ i ≤ ds.length ∧ Fx G F F' ∧ EnvOk X.K G io F' σ' H' ρ' ∧ PoS X W G io F' E (forD set body (ds.drop i) ρ'), ⟨ds.length, F, ρ, by simp, Nat.zero_le _, Fx.refl G F, ok, by simpa using q⟩, ?_⟩
  rintro i m σ1 H1 ⟨F1, ρ1, rfl, hi, fx, ok1, q1⟩
  obtain ⟨go, stop⟩ := wk.step F1 H1 i fx.sub ok1.g ok1.f
  by_cases hlt : i < ds.length
  · refine .inr ⟨go hlt, fun σ' H' => ∃ F' ρ', Fx G F F' ∧ EnvOk X.K G io F' σ' H' ρ' ∧ PoS X W G io F' E (forD set body (ds.drop (i + 1)) ρ'), fun σ' H' ⟨F', ρ', a, b, c⟩ => ⟨ds.length - (i + 1), by omega, F', ρ', rfl, hlt, a, b, c⟩, fun x H' y => ?_⟩
    obtain ⟨F2, fx2, ok2, rx⟩ := yld_ok ok1 (wk.yld F1 H1 i ds[i] x H' fx.sub ok1.g ok1.f (by simp [hlt]) y)
    rw [List.drop_eq_getElem_cons hlt] at q1
    unfold forD at q1
    cases e1 : set ds[i] ρ1 with
    | none => simp only [e1] at q1; exact q1.elim
    | some ρ2 =>
      simp only [e1] at q1
      refine lg G io F2 σ1 H' ρ1 x ds[i] ρ2 _ ok2 rx e1 fun σ3 ok3 _ => ?_
      refine lb G io F2 σ3 H' ρ2 _ ok3 ?_
      cases e2 : body ρ2 with
      | nx ρ3 => simp only [e2] at q1; exact fun σ4 F4 H4 fx4 ok4 => ⟨F4, ρ3, (fx.trans fx2).trans fx4, ok4, q1.mono (fx2.trans fx4)⟩
      | ct ρ3 => simp only [e2] at q1; exact fun σ4 F4 H4 fx4 ok4 => ⟨F4, ρ3, (fx.trans fx2).trans fx4, ok4, q1.mono (fx2.trans fx4)⟩
      | bk ρ3 => simp only [e2] at q1; exact fun σ4 F4 H4 fx4 ok4 => q1 σ4 F4 H4 (fx2.trans fx4) ok4
      | rt s ρ3 => simp only [e2] at q1; exact fun v σ4 F4 H4 fx4 ok4 => q1 v σ4 F4 H4 (fx2.trans fx4) ok4
      | exc c => simp only [e2] at q1; exact q1
      | bad => simp only [e2] at q1; exact q1.elim
  · have e : i = ds.length := by omega
    subst e
    refine .inl ⟨stop (Nat.le_refl _), ?_⟩
    rw [List.drop_length] at q1
    exact q1 σ1 F1 H1 (Fx.refl G F1) ok1
theorem ls_for {tg iter : Expr} {is : List Nat} {body : List Stmt} {pos : Pos} {m : M (List D)} {set : D → EnvD → Option EnvD} {f : EnvD → Out} (hp : PassesOwn (model X.prog X.w) X.A X.env X.xe) (hc : X.calm = true) (hi : LI X W tg iter m) (hg : LG X tg is set) (hb : LSs X W body f)
    (hs : ∀ x, foldedSetIterable iter X.env x = pure x := by intro _; rfl) : LS X W (.For tg iter body [] pos) (forM m set f) := by
  obtain ⟨wi, hi, li⟩ := hi.ex
  obtain ⟨g, hg, lg⟩ := hg.ex
  obtain ⟨tb, hb, lb⟩ := hb.ex
  refine ⟨_, ps_for hp hc hi hg hb hs, fun G io F σ H ρ E ok q => li G io F σ H ρ _ ok ?_⟩
  unfold forM at q
  cases e : m ρ with
  | ok p =>
    obtain ⟨ds, ρ'⟩ := p
    rw [e] at q
    exact fun J F' H' fx ok' wk => for_run (mgc := X.mg) rfl (wk _) lg lb ok' (PoS.mono fx q)
  | exc c => rw [e] at q; exact fun C H' a b => q C σ H' a b
  | bad => rw [e] at q; exact q
/-! ### while -/
def whD (c : M Bool) (body : EnvD → Out) : Nat → EnvD → Out
  | 0, _ => .bad
  | n + 1, ρ => match c ρ with
    | .ok (false, ρ1) => .nx ρ1
    | .ok (true, ρ1) => match body ρ1 with
      | .nx ρ2 => whD c body n ρ2
      | .ct ρ2 => whD c body n ρ2
      | .bk ρ2 => .nx ρ2
      | .rt s ρ2 => .rt s ρ2
      | .exc c => .exc c
      | .bad => .bad
    | .exc c => .exc c
    | .bad => .bad
theorem ls_while (n : Nat) {c : Expr} {body : List Stmt} {pos : Pos} {m : M Bool} {f : EnvD → Out} (hp : PassesOwn (model X.prog X.w) X.A X.env X.xe) (hc : LT X W c m) (hb : LSs X W body f) : LS X W (.While c body [] pos) (whD m f n) := by
  obtain ⟨t, ht, lt⟩ := hc.ex
  obtain ⟨tb, hb, lb⟩ := hb.ex
  refine ⟨_, ps_while hp ht hb, fun G io F σ H ρ E ok q => ?_⟩
  refine ⟨fun k σ' H' => ∃ F' ρ', Fx G F F' ∧ EnvOk X.K G io F' σ' H' ρ' ∧ PoS X W G io F' E (whD m f k ρ'), ⟨n, F, ρ, Fx.refl G F, ok, q⟩, ?_⟩
  rintro k σ1 H1 ⟨F1, ρ1, fx, ok1, q1⟩
  cases k with
  | zero => exact q1.elim
  | succ k =>
    unfold whD at q1
    refine lt G io F1 σ1 H1 ρ1 _ ok1 ?_
    cases e : m ρ1 with
    | ok p =>
      obtain ⟨b, ρ2⟩ := p
      rw [e] at q1
      cases b with
      | false =>
        intro b F2 H2 fx2 ok2 hb2
        have hb2 : b = false := hb2
        subst hb2
        exact q1 σ1 F2 H2 fx2 ok2
      | true =>
        intro b F2 H2 fx2 ok2 hb2
        have hb2 : b = true := hb2
        subst hb2
        refine ⟨fun σ' H' => ∃ F' ρ', Fx G F F' ∧ EnvOk X.K G io F' σ' H' ρ' ∧ PoS X W G io F' E (whD m f k ρ'), fun σ' H' h => ⟨k, Nat.lt_succ_self k, h⟩, ?_⟩
        refine lb G io F2 σ1 H2 ρ2 _ ok2 ?_
        simp only at q1
        cases e2 : f ρ2 with
        | nx ρ3 => simp only [e2] at q1; exact fun σ4 F4 H4 fx4 ok4 => ⟨F4, ρ3, (fx.trans fx2).trans fx4, ok4, q1.mono (fx2.trans fx4)⟩
        | ct ρ3 => simp only [e2] at q1; exact fun σ4 F4 H4 fx4 ok4 => ⟨F4, ρ3, (fx.trans fx2).trans fx4, ok4, q1.mono (fx2.trans fx4)⟩
        | bk ρ3 => simp only [e2] at q1; exact fun σ4 F4 H4 fx4 ok4 => q1 σ4 F4 H4 (fx2.trans fx4) ok4
        | rt s ρ3 => simp only [e2] at q1; exact fun v σ4 F4 H4 fx4 ok4 => q1 v σ4 F4 H4 (fx2.trans fx4) ok4
        | exc c => simp only [e2] at q1; exact q1
        | bad => simp only [e2] at q1; exact q1.elim
    | exc c => rw [e] at q1; exact fun C H' a b => q1 C σ1 H' a b
    | bad => rw [e] at q1; exact q1.elim
end
end Lf

/-! LI: list comprehensions. -/
namespace Lf
open PySem PySem.Spec PyProof.Rows L2
def wipeD (ρ : EnvD) : List Nat → EnvD
  | [] => ρ
  | v :: vs => (wipeD ρ vs).set v none
theorem wipeD_length (ρ : EnvD) : ∀ vs : List Nat, (wipeD ρ vs).length = ρ.length
  | [] => rfl
  | v :: vs => by unfold wipeD; rw [List.length_set, wipeD_length ρ vs]
theorem wipeD_some {ρ : EnvD} {i : Nat} {s : S} : ∀ {vs : List Nat}, (wipeD ρ vs)[i]? = some (some s) → ρ[i]? = some (some s) ∧ i ∉ vs
  | [], h => ⟨h, by simp⟩
  | v :: vs, h => by
    unfold wipeD at h
    by_cases hi : v = i
    · subst hi
      by_cases hv : v < (wipeD ρ vs).length
      · rw [List.getElem?_set_self hv] at h; cases h
      · rw [List.getElem?_eq_none (by simpa using hv)] at h; cases h
    · rw [List.getElem?_set_ne hi] at h
      obtain ⟨h1, h2⟩ := wipeD_some h
      exact ⟨h1, by simp only [List.mem_cons, not_or]; exact ⟨fun e => hi e.symm, h2⟩⟩
section
variable {X : Cx} {W : WX} {K : Frag} {G : Hp} {io : Option Addr} {F H : Hp} {σ σ' : L2.St} {ρ : EnvD}
/-- the slots at vs forgotten: only the others count -/
theorem EnvOk.wipe {vs : List Nat} (ok : EnvOk K G io F σ H ρ) (hl : σ'.length = σ.length) (h : ∀ i, i ∉ vs → σ'[i]? = σ[i]?) : EnvOk K G io F σ' H (wipeD ρ vs) :=
  ⟨ok.g, ok.f, by rw [wipeD_length, ok.len, hl], fun i s e => by
    obtain ⟨h1, h2⟩ := wipeD_some e
    obtain ⟨v, h3, r⟩ := ok.at_ i s h1
    exact ⟨v, by rw [h i h2]; exact h3, r⟩, fun i j s t v e1 e2 o1 o2 q1 q2 => by
    obtain ⟨a1, a2⟩ := wipeD_some e1
    obtain ⟨b1, b2⟩ := wipeD_some e2
    rw [h i a2] at q1
    rw [h j b2] at q2
    exact ok.apart i j s t v a1 b1 o1 o2 q1 q2, ok.iok⟩
theorem wipe_eq {σ1 σ2 : L2.St} {vs : List Nat} (e : L2.wipe σ1 vs = L2.wipe σ2 vs) : σ1.length = σ2.length ∧ ∀ i, i ∉ vs → σ1[i]? = σ2[i]? :=
  ⟨by have := congrArg List.length e; rwa [L2.wipe_length, L2.wipe_length] at this, fun i hi => by
    have := congrArg (fun l => l[i]?) e
    simp only [L2.wipe_out hi] at this
    exact this⟩
/-- the frozen ones among vs come back -/
def backD (ρ0 ρ : EnvD) : List Nat → EnvD
  | [] => ρ
  | v :: vs => match ρ0[v]? with
    | some (some (.fr d)) => (backD ρ0 ρ vs).set v (some (.fr d))
    | _ => backD ρ0 ρ vs
theorem EnvOk.setSame {i : Nat} {v : V} {d : D} (ok : EnvOk K G io F σ H ρ) (h : σ[i]? = some (some v)) (r : Rp K F v d) : EnvOk K G io F σ H (ρ.set i (some (.fr d))) := by
  have hi : i < σ.length := by
    rcases Nat.lt_or_ge i σ.length with z | z
    · exact z
    · rw [List.getElem?_eq_none z] at h; cases h
  have ok2 := ok.setFr (i := i) r (by rw [ok.len]; exact hi)
  have es : σ.set i (some v) = σ := by
    apply List.ext_getElem?
    intro j
    by_cases hj : j = i
    · subst hj; rw [List.getElem?_set_self hi]; exact h.symm
    · rw [List.getElem?_set_ne (Ne.symm hj)]
  rw [es] at ok2
  exact ok2
theorem EnvOk.back {F0 G0 : Hp} {io0 : Option Addr} {ρ0 : EnvD} {H0 : Hp} (ok0 : EnvOk K G0 io0 F0 σ H0 ρ0) (hs : Sub F0 F) (ok : EnvOk K G io F σ H ρ) : ∀ vs : List Nat, EnvOk K G io F σ H (backD ρ0 ρ vs)
  | [] => ok
  | v :: vs => by
    have ih := EnvOk.back ok0 hs ok vs
    unfold backD
    split
    · rename_i d e
      obtain ⟨x, h1, r⟩ := ok0.at_ v _ e
      cases r with
      | fr r => exact ih.setSame h1 (r.mono hs)
    · exact ih
end
/-- the canonical readings: the same in every block -/
def eM (X : Cx) (m : M D) : TE := fun σ H Q => ∃ G io F ρ, EnvOk X.K G io F σ H ρ ∧ PoE (rE X) X (fun _ _ _ _ => False) G io F σ Q (m ρ)
def tM (X : Cx) (m : M Bool) : TT := fun σ H Q => ∃ G io F ρ, EnvOk X.K G io F σ H ρ ∧ PoE rT X (fun _ _ _ _ => False) G io F σ Q (m ρ)
def gM (K : Frag) (is : List Nat) (f : D → EnvD → Option EnvD) : TG := fun v σ H Q => ∃ G io F ρ d ρ', EnvOk K G io F σ H ρ ∧ Rp K F v d ∧ f d ρ = some ρ' ∧ ∀ σ', EnvOk K G io F σ' H ρ' → Ag is σ σ' → Q σ' H
theorem LE.pe {X : Cx} {e : Expr} {m : M D} (h : LE X (fun _ _ _ _ => False) e m) : PE X e (eM X m) := by
  obtain ⟨t, ht, l⟩ := h.ex
  exact ⟨fun pins s σ H Q I ⟨G, io, F, ρ, ok, q⟩ => ht.run pins s σ H Q I (l G io F σ H ρ Q ok q)⟩
theorem LG.pg {X : Cx} {e : Expr} {is : List Nat} {f : D → EnvD → Option EnvD} (h : LG X e is f) : PG X e (gM X.K is f) := by
  obtain ⟨t, ht, l⟩ := h.ex
  exact ⟨fun pins s σ H v u Q I r ⟨G, io, F, ρ, d, ρ', ok, rp, e, k⟩ => ht.run pins s σ H v u Q I r (l G io F σ H ρ v d ρ' Q ok rp e k)⟩
/-- one turn of a comprehension; the env is wiped at its start and its end -/
def lcD (vs : List Nat) (set : D → EnvD → Option EnvD) (c : M Bool) (e : M D) : List D → List D → M (List D)
  | [], acc, ρ => .ok (acc, ρ)
  | d :: ds, acc, ρ => match set d ρ with
    | none => .bad
    | some ρ1 => match c ρ1 with
      | .ok (false, ρ2) => lcD vs set c e ds acc (wipeD ρ2 vs)
      | .ok (true, ρ2) => match e ρ2 with
        | .ok (x, ρ3) => if ltM (acc.length + 1) = true then lcD vs set c e ds (acc ++ [x]) (wipeD ρ3 vs) else .bad
        | _ => .bad
      | _ => .bad
def compM (m : M (List D)) (vs : List Nat) (set : D → EnvD → Option EnvD) (c : M Bool) (e : M D) : M S := fun ρ => match m ρ with
  | .ok (ds, ρ1) => match lcD vs set c e ds [] (wipeD ρ1 vs) with
    | .ok (ys, ρ2) => .ok (.ow (.list ys), backD ρ1 ρ2 vs)
    | _ => .bad
  | .exc c => .exc c
  | .bad => .bad
def yesM : M Bool := M.pure true
structure LTs (X : Cx) (ifs : List Expr) (m : M Bool) : Prop where
  ex : ∃ t, PTs X ifs t ∧ ∀ G io F σ H ρ Q, EnvOk X.K G io F σ H ρ → PoE rT X (fun _ _ _ _ => False) G io F σ Q (m ρ) → t σ H Q
theorem LTs.pts {X : Cx} {ifs : List Expr} {m : M Bool} (h : LTs X ifs m) : PTs X ifs (tM X m) := by
  obtain ⟨t, ht, l⟩ := h.ex
  exact ⟨fun pins s σ H Q I ⟨G, io, F, ρ, ok, q⟩ => ht.run pins s σ H Q I (l G io F σ H ρ Q ok q)⟩
theorem lts_nil {X : Cx} : LTs X [] yesM := ⟨_, pts_nil, fun G io F σ H ρ Q ok q => q true F H (Fx.refl G F) ok rfl⟩
theorem lts_one {X : Cx} {c : Expr} {m : M Bool} (h : LT X (fun _ _ _ _ => False) c m) : LTs X [c] m := by
  obtain ⟨t, ht, l⟩ := h.ex
  exact ⟨_, pts_one ht, l⟩
/-- nothing raised comes out -/
theorem PoE.none {α β : Type} {R : Hp → Hp → α → β → L2.St → EnvD → Prop} {X : Cx} {G : Hp} {io : Option Addr} {F : Hp} {σ : L2.St} {Q : α → Hp → Prop} {r : Res (β × EnvD)} {k : β × EnvD → Prop}
    (h : ∀ p, r = .ok p → ∀ v F' H', Fx G F F' → EnvOk X.K G io F' σ H' p.2 → R F' H' v p.1 σ p.2 → Q v H') (ne : ∃ p, r = .ok p) : PoE R X (fun _ _ _ _ => False) G io F σ Q r := by
  obtain ⟨p, rfl⟩ := ne
  exact h p rfl
section
variable {X : Cx} {W : WX}
theorem subG {G H : Hp} {D : Addr} {o : HO} (g : Sub G H) (h : H D = some o) : Sub (upd G D o) H := fun b u e => by
  by_cases hb : b = D
  · subst hb; rw [upd_same] at e; cases e; exact h
  · rw [upd_ne hb] at e; exact g b u e
theorem fxG {G F F' : Hp} {D : Addr} {o : HO} (fx : Fx (upd G D o) F F') : Fx G F F' := ⟨fx.sub, fun b u e => (fx.new b u e).elim .inl fun z => .inr (by
  by_cases hb : b = D
  · subst hb; rw [upd_same] at z; cases z
  · rwa [upd_ne hb] at z)⟩
/-- the same with the list at D kept within G, or no longer -/
theorem EnvOk.inG {K : Frag} {G : Hp} {io : Option Addr} {F H : Hp} {σ : L2.St} {ρ : EnvD} {D : Addr} {o : HO} (ok : EnvOk K G io F σ H ρ) (h : H D = some o) (hio : some D ≠ io)
    (hs : ∀ (i : Nat) t, ρ[i]? = some (some t) → t.own = true → σ[i]? ≠ some (some (.ref D))) : EnvOk K (upd G D o) io F σ H ρ := by
  refine ⟨subG ok.g h, ok.f, ok.len, fun i s e => ?_, ok.apart, ok.iok⟩
  obtain ⟨v, h1, r⟩ := ok.at_ i s e
  refine ⟨v, h1, ?_⟩
  cases r with
  | fr q => exact .fr q
  | ow a b c d q => exact .ow a b (by rw [upd_ne (fun z => hs i _ e rfl (by rw [h1, z]))]; exact c) d q
  | lk => exact .lk
  | io a b c d q => exact .io a b (by rw [upd_ne (fun z => hs i _ e rfl (by rw [h1, z]))]; exact c) d q
theorem EnvOk.outG {K : Frag} {G : Hp} {io : Option Addr} {F H : Hp} {σ : L2.St} {ρ : EnvD} {D : Addr} {o : HO} (ok : EnvOk K (upd G D o) io F σ H ρ) (hg : G D = none) :
    EnvOk K G io F σ H ρ ∧ ∀ (i : Nat) t, ρ[i]? = some (some t) → t.own = true → σ[i]? ≠ some (some (.ref D)) := by
  have gs : ∀ b, upd G D o b = none → G b = none ∧ b ≠ D := fun b e => by
    by_cases hb : b = D
    · subst hb; rw [upd_same] at e; cases e
    · rw [upd_ne hb] at e; exact ⟨e, hb⟩
  refine ⟨⟨fun b u e => ok.g b u (by rw [upd_ne (fun z => by rw [z, hg] at e; cases e)]; exact e), ok.f, ok.len, fun i s e => ?_, ok.apart, ok.iok⟩, fun i t e ho q => ?_⟩
  · obtain ⟨v, h1, r⟩ := ok.at_ i s e
    refine ⟨v, h1, ?_⟩
    cases r with
    | fr q => exact .fr q
    | ow a b c d q => exact .ow a b (gs _ c).1 d q
    | lk => exact .lk
    | io a b c d q => exact .io a b (gs _ c).1 d q
  · obtain ⟨v, h1, r⟩ := ok.at_ i t e
    rw [h1] at q; cases q
    cases r with
    | fr q => cases ho
    | ow a b c d q => exact (gs _ c).2 rfl
    | lk => cases ho
    | io a b c d q => exact (gs _ c).2 rfl
/-- the list at D is written anew -/
theorem EnvOk.app {K : Frag} {G : Hp} {io : Option Addr} {F H : Hp} {σ : L2.St} {ρ : EnvD} {D : Addr} {o o' : HO} (ok : EnvOk K (upd G D o) io F σ H ρ) (hf : F D = none) (hg : G D = none) : EnvOk K (upd G D o') io F σ (upd H D o') ρ := by
  have gs : ∀ b, upd G D o b = none → b ≠ D := fun b e z => by subst z; rw [upd_same] at e; cases e
  refine ⟨fun b u e => ?_, fun b u e => ?_, ok.len, fun i s e => ?_, ok.apart, fun b e => ?_⟩
  · by_cases hb : b = D
    · subst hb; rw [upd_same] at e ⊢; exact e
    · rw [upd_ne hb] at e ⊢; exact ok.g b u (by rw [upd_ne hb]; exact e)
  · rw [upd_ne (fun z => by rw [z, hf] at e; cases e)]; exact ok.f b u e
  · obtain ⟨v, h1, r⟩ := ok.at_ i s e
    refine ⟨v, h1, ?_⟩
    cases r with
    | fr q => exact .fr q
    | ow a b c d q => exact .ow (by rw [upd_ne (gs _ c)]; exact a) b (by have := gs _ c; rw [upd_ne this] at c ⊢; exact c) d q
    | lk => exact .lk
    | io a b c d q => exact .io (by rw [upd_ne (gs _ c)]; exact a) b (by have := gs _ c; rw [upd_ne this] at c ⊢; exact c) d q
  · by_cases hb : b = D
    · subst hb; rw [upd_same]; exact fun z => nomatch z
    · rw [upd_ne hb]; exact ok.iok b e
theorem EnvOk.unwipe {K : Frag} {G : Hp} {io : Option Addr} {F H : Hp} {σ : L2.St} {ρ : EnvD} {vs : List Nat} (ok : EnvOk K G io F (L2.wipe σ vs) H ρ) : EnvOk K G io F σ H ρ := by
  have key : ∀ (i : Nat) s v, ρ[i]? = some (some s) → σ[i]? = some (some v) → (L2.wipe σ vs)[i]? = some (some v) := fun i s v e h => by
    obtain ⟨v', h1, _⟩ := ok.at_ i s e
    have := (L2.wipe_some h1).1
    rw [h] at this; cases this
    exact h1
  exact ⟨ok.g, ok.f, by rw [ok.len, L2.wipe_length], fun i s e => by
    obtain ⟨v, h1, r⟩ := ok.at_ i s e
    exact ⟨v, (L2.wipe_some h1).1, r⟩, fun i j s t v e1 e2 o1 o2 q1 q2 => ok.apart i j s t v e1 e2 o1 o2 (key i s v e1 q1) (key j t v e2 q2), ok.iok⟩
theorem backD_own {ρ0 ρ : EnvD} {i : Nat} {t : S} (h : t.own = true) : ∀ {vs : List Nat}, (backD ρ0 ρ vs)[i]? = some (some t) → ρ[i]? = some (some t)
  | [], e => e
  | v :: vs, e => by
    unfold backD at e
    split at e
    · by_cases hi : v = i
      · subst hi
        by_cases hv : v < (backD ρ0 ρ vs).length
        · rw [List.getElem?_set_self hv] at e; cases e; cases h
        · rw [List.getElem?_eq_none (by simpa using hv)] at e; cases e
      · rw [List.getElem?_set_ne hi] at e
        exact backD_own h e
    · exact backD_own h e
theorem wipe_ag {vs is : List Nat} {σ σ' : L2.St} (hs : ∀ i ∈ is, i ∈ vs) (a : Ag is (L2.wipe σ vs) σ') : L2.wipe σ' vs = L2.wipe σ vs := by
  apply List.ext_getElem?
  intro j
  have hl : σ'.length = σ.length := by rw [a.1, L2.wipe_length]
  by_cases hj : j ∈ vs
  · have n1 : ∀ (τ : L2.St), (L2.wipe τ vs)[j]? = none ∨ (L2.wipe τ vs)[j]? = some none := fun τ => by
      cases z : (L2.wipe τ vs)[j]? with
      | none => exact .inl rfl
      | some o =>
        cases o with
        | none => exact .inr rfl
        | some v => exact absurd hj (L2.wipe_some z).2
    rcases n1 σ' with z1 | z1 <;> rcases n1 σ with z2 | z2
    · rw [z1, z2]
    · have a1 := List.getElem?_eq_none_iff.mp z1
      obtain ⟨b, _⟩ := List.getElem?_eq_some_iff.mp z2
      rw [L2.wipe_length] at a1 b
      omega
    · have a1 := List.getElem?_eq_none_iff.mp z2
      obtain ⟨b, _⟩ := List.getElem?_eq_some_iff.mp z1
      rw [L2.wipe_length] at a1 b
      omega
    · rw [z1, z2]
  · rw [L2.wipe_out hj, a.2 j (fun z => hj (hs j z))]
theorem comp_run {J : It} {ds : List D} {vs is : List Nat} {set : D → EnvD → Option EnvD} {c : M Bool} {e : M D} {g : TG} {tt : TT} {te : TE} {G : Hp} {io : Option Addr} {F : Hp} {σ : L2.St} {H : Hp} {ρ : EnvD} {Q : VK} {ys : List D} {ρ2 : EnvD} (wk : Wk X.K G F J ds) (his : ∀ i ∈ is, i ∈ vs)
    (lg : ∀ G io F σ H ρ v d ρ' Q, EnvOk X.K G io F σ H ρ → Rp X.K F v d → set d ρ = some ρ' → (∀ σ', EnvOk X.K G io F σ' H ρ' → Ag is σ σ' → Q σ' H) → g v σ H Q)
    (lt : ∀ G io F σ H ρ Q, EnvOk X.K G io F σ H ρ → PoE rT X (fun _ _ _ _ => False) G io F σ Q (c ρ) → tt σ H Q)
    (le : ∀ G io F σ H ρ Q, EnvOk X.K G io F σ H ρ → PoE (rE X) X (fun _ _ _ _ => False) G io F σ Q (e ρ) → te σ H Q)
    (ok : EnvOk X.K G io F σ H ρ) (run : lcD vs set c e ds [] (wipeD ρ vs) = .ok (ys, ρ2))
    (q : ∀ v F' H', Fx G F F' → EnvOk X.K G io F' σ H' (backD ρ ρ2 vs) → RS X.K G io F' H' v (.ow (.list ys)) ∧ Sep σ (backD ρ ρ2 vs) v (.ow (.list ys)) → Q v H')
    (D : Addr) (hD : H D = none) :
    ∃ Wv : Nat → Nat → Hp → Prop, (∃ m, Wv 0 m (upd H D (.lst []))) ∧ ∀ i m H, Wv i m H →
      (J.stop i H ∧ Q (.ref D) H) ∨ (J.go i H ∧ ∃ Nx : Hp → Prop, (∀ H', Nx H' → ∃ m', m' < m ∧ Wv (i + 1) m' H') ∧ ∀ x H', J.yld i H x H' → g x (L2.wipe σ vs) H' fun σ2 H2 => L2.wipe σ2 vs = L2.wipe σ vs ∧ tt σ2 H2 fun b H3 =>
        if b = true then te σ2 H3 fun y H4 => ∃ acc, H4 D = some (.lst acc) ∧ acc.length < sizeLine ∧ Nx (upd H4 D (.lst (acc ++ [y]))) else Nx H3) := by
  have hF : F D = none := ok.f.none hD
  have hG : G D = none := by
    cases z : G D with
    | none => rfl
    | some u => have := ok.g _ _ z; rw [hD] at this; cases this
  have hio : some D ≠ io := fun z => ok.iok D z.symm hD
  have g0 : ∀ {H1 : Hp} {o : HO}, Sub (upd G D o) H1 → Sub G H1 := fun {H1 o} s b u e => s b u (by rw [upd_ne (fun z => by rw [z, hG] at e; cases e)]; exact e)
  have ok0 : EnvOk X.K (upd G D (.lst [])) io F (L2.wipe σ vs) (upd H D (.lst [])) (wipeD ρ vs) := by
    obtain ⟨a, b, s⟩ := ok.laidOw (p := D) (o := .lst []) (d := .list []) hD .nil
    refine (a.inG upd_same hio fun i t e ho => ?_).wipe (L2.wipe_length σ vs) fun i hi => L2.wipe_out hi
    exact s rfl i t e ho
  refine ⟨fun i m H' => ∃ F' ρ' acc ds', m = ds.length - i ∧ i ≤ ds.length ∧ Fx G F F' ∧ F' D = none ∧ EnvOk X.K (upd G D (.lst acc)) io F' (L2.wipe σ vs) H' ρ' ∧ RpL X.K F' acc ds' ∧ lcD vs set c e (ds.drop i) ds' ρ' = .ok (ys, ρ2),
    ⟨ds.length, F, wipeD ρ vs, [], [], by simp, Nat.zero_le _, Fx.refl G F, hF, ok0, .nil, by simpa using run⟩, ?_⟩
  rintro i m H1 ⟨F1, ρ1, acc, ds1, rfl, hi, fx, hF1, ok1, racc, run1⟩
  obtain ⟨go, stop⟩ := wk.step F1 H1 i fx.sub (g0 ok1.g) ok1.f
  by_cases hlt : i < ds.length
  · refine .inr ⟨go hlt, fun H' => ∃ F' ρ' acc ds', Fx G F F' ∧ F' D = none ∧ EnvOk X.K (upd G D (.lst acc)) io F' (L2.wipe σ vs) H' ρ' ∧ RpL X.K F' acc ds' ∧ lcD vs set c e (ds.drop (i + 1)) ds' ρ' = .ok (ys, ρ2),
      fun H' ⟨F', ρ', acc', ds', a1, a2, a3, a4, a5⟩ => ⟨ds.length - (i + 1), by omega, F', ρ', acc', ds', rfl, hlt, a1, a2, a3, a4, a5⟩, fun x H' y => ?_⟩
    have noD : ∀ {F1 F'' : Hp}, F1 D = none → Fx (upd G D (.lst acc)) F1 F'' → F'' D = none := fun {F1 F''} h fx => by
      cases z : F'' D with
      | none => rfl
      | some u =>
        rcases fx.new _ _ z with q | q
        · rw [h] at q; cases q
        · rw [upd_same] at q; cases q
    obtain ⟨F2, fx2, ok2, rx⟩ := yld_ok ok1 (wk.yld F1 H1 i ds[i] x H' fx.sub (g0 ok1.g) ok1.f (by simp [hlt]) y)
    have hF2 := noD hF1 fx2
    rw [List.drop_eq_getElem_cons hlt] at run1
    unfold lcD at run1
    cases e1 : set ds[i] ρ1 with
    | none => simp only [e1] at run1; cases run1
    | some ρ3 =>
      simp only [e1] at run1
      refine lg _ io F2 _ H' ρ1 x ds[i] ρ3 _ ok2 rx e1 fun σ3 ok3 ag => ⟨wipe_ag his ag, ?_⟩
      have hw : L2.wipe σ3 vs = L2.wipe σ vs := wipe_ag his ag
      have back : ∀ {G' : Hp} {F4 H4 : Hp} {ρ4 : EnvD}, EnvOk X.K G' io F4 σ3 H4 ρ4 → EnvOk X.K G' io F4 (L2.wipe σ vs) H4 (wipeD ρ4 vs) := fun {G' F4 H4 ρ4} ok4 => by
        rw [← hw]
        exact ok4.wipe (L2.wipe_length _ _) fun i hi => L2.wipe_out hi
      cases e2 : c ρ3 with
      | ok p =>
        obtain ⟨b, ρ4⟩ := p
        refine lt _ io F2 σ3 H' ρ3 _ ok3 ?_
        rw [e2]
        intro b' F4 H4 fx4 ok4 hb
        rw [show b' = b from hb]
        have hF4 := noD hF2 fx4
        simp only [e2] at run1
        cases b with
        | false =>
          rw [if_neg (by decide)]
          exact ⟨F4, wipeD ρ4 vs, acc, ds1, (fx.trans (fxG fx2)).trans (fxG fx4), hF4, back ok4, racc.mono (fx2.sub.trans fx4.sub), run1⟩
        | true =>
          rw [if_pos rfl]
          simp only at run1
          cases e3 : e ρ4 with
          | ok p =>
            obtain ⟨d, ρ5⟩ := p
            refine le _ io F4 σ3 H4 ρ4 _ ok4 ?_
            rw [e3]
            intro v F5 H5 fx5 ok5 rv
            have hF5 := noD hF4 fx5
            simp only [e3] at run1
            split at run1
            · rename_i hl
              have rl := racc.length
              refine ⟨acc, ok5.g _ _ upd_same, by have := ltM_ok hl; omega, F5, wipeD ρ5 vs, acc ++ [v], ds1 ++ [d], ((fx.trans (fxG fx2)).trans (fxG fx4)).trans (fxG fx5), hF5, (back ok5).app hF5 hG, ?_, run1⟩
              exact (racc.mono ((fx2.sub.trans fx4.sub).trans fx5.sub)).append (.cons rv .nil)
            · cases run1
          | exc c => simp only [e3] at run1; cases run1
          | bad => simp only [e3] at run1; cases run1
      | exc c => simp only [e2] at run1; cases run1
      | bad => simp only [e2] at run1; cases run1
  · have e : i = ds.length := by omega
    subst e
    refine .inl ⟨stop (Nat.le_refl _), ?_⟩
    rw [List.drop_length] at run1
    unfold lcD at run1
    cases run1
    have hH1 : H1 D = some (.lst acc) := ok1.g _ _ upd_same
    obtain ⟨ok3, sep⟩ := ok1.outG hG
    have ok4 : EnvOk X.K G io F1 σ H1 (backD ρ ρ2 vs) := EnvOk.back ok fx.sub ok3.unwipe vs
    refine q (.ref D) F1 H1 fx ok4 ⟨.ow hH1 hF1 hG hio racc, fun _ i t e ho hq => ?_⟩
    have e' := backD_own ho e
    obtain ⟨v, h1, _⟩ := ok3.at_ i t e'
    have h2 := (L2.wipe_some h1).1
    rw [h2] at hq
    cases hq
    exact sep i t e' ho h1
def cN : WX := fun _ _ _ _ => False
theorem lf_comp {elt tg iter : Expr} {ifs : List Expr} {scope : Scope} {own : List (Str × Nat)} {is : List Nat} {pos : Pos} {m : M (List D)} {set : D → EnvD → Option EnvD} {c : M Bool} {e : M D} (hc : X.calm = true) (hN : X.N.Nodup) (hi : LI X W tg iter m) (hk : blkC X.N X.env.scope scope own = true) (his : ∀ i ∈ is, i ∈ own.map (·.2))
    (hg : ∀ (s : Shared) (H : Hp) (C : Addr) (cl : List (Str × Addr)) (fp : List Addr), LG (X.blk s H scope (compEnvC scope cl C X.env) fp) tg is set)
    (ht : ∀ (s : Shared) (H : Hp) (C : Addr) (cl : List (Str × Addr)) (fp : List Addr), LTs (X.blk s H scope (compEnvC scope cl C X.env) fp) ifs c)
    (he : ∀ (s : Shared) (H : Hp) (C : Addr) (cl : List (Str × Addr)) (fp : List Addr), LE (X.blk s H scope (compEnvC scope cl C X.env) fp) cN elt e)
    (hs : ∀ x, foldedSetIterable iter X.env x = pure x := by intro _; rfl) : LF X W (.ListComp elt [⟨tg, iter, ifs, 0⟩] scope pos) (compM m (own.map (·.2)) set c e) := by
  obtain ⟨wi, hi, li⟩ := hi.ex
  have pg : ∀ (s : Shared) (H : Hp) (C : Addr) (cl : List (Str × Addr)) (fp : List Addr), PG (X.blk s H scope (compEnvC scope cl C X.env) fp) tg (gM X.K is set) := fun s H C cl fp => (hg s H C cl fp).pg
  have pt : ∀ (s : Shared) (H : Hp) (C : Addr) (cl : List (Str × Addr)) (fp : List Addr), PTs (X.blk s H scope (compEnvC scope cl C X.env) fp) ifs (tM X c) := fun s H C cl fp => (ht s H C cl fp).pts
  have pe : ∀ (s : Shared) (H : Hp) (C : Addr) (cl : List (Str × Addr)) (fp : List Addr), PE (X.blk s H scope (compEnvC scope cl C X.env) fp) elt (eM X e) := fun s H C cl fp => (he s H C cl fp).pe
  refine ⟨_, pe_lc hc hN hi (blkOk_by hk) pg pt pe hs, fun G io F σ H ρ Q ok q => li G io F σ H ρ _ ok ?_⟩
  unfold compM at q
  cases e1 : m ρ with
  | ok p =>
    obtain ⟨ds, ρ1⟩ := p
    simp only [e1] at q
    intro J F1 H1 fx ok1 wk D hD
    cases e2 : lcD (own.map (·.2)) set c e ds [] (wipeD ρ1 (own.map (·.2))) with
    | ok p =>
      obtain ⟨ys, ρ2⟩ := p
      simp only [e2] at q
      exact comp_run (wk _) his (fun G io F σ H ρ v d ρ' Q a b c d => ⟨G, io, F, ρ, _, _, a, b, c, d⟩) (fun G io F σ H ρ Q a b => ⟨G, io, F, ρ, a, b⟩) (fun G io F σ H ρ Q a b => ⟨G, io, F, ρ, a, b⟩) ok1 e2
        (fun v F' H' fx' ok' r => q v F' H' (fx.trans fx') ok' r) D hD
    | exc c => simp only [e2] at q; exact q.elim
    | bad => simp only [e2] at q; exact q.elim
  | exc c => simp only [e1] at q; exact q
  | bad => simp only [e1] at q; exact q
end
end Lf

/-! LJ: assignments, writes, calls of defs, a def's promise. -/
namespace Lf
open PySem PySem.Spec PyProof.Rows L2
/-! ### name = e -/
def putS (i : Nat) (s : S) (ρ : EnvD) : Out := if i < ρ.length then .nx (ρ.set i (some s)) else .bad
def setM (i : Nat) (m : M S) : EnvD → Out := fun ρ => outM (fun s ρ' => putS i s ρ') (m ρ)
section
variable {X : Cx} {W : WX} {e : Expr} {m : M S} {pos pos' : Pos} {i : Nat} {x : Str}
theorem put_run {G io F σ H ρ} {E : Ends} {v : V} {s : S} (ok : EnvOk X.K G io F σ H ρ) (r : rF X G io F H v s σ ρ) (q : PoS X W G io F E (putS i s ρ)) : E.nx (σ.set i (some v)) H := by
  unfold putS at q
  split at q
  · rename_i hl
    exact q _ F H (Fx.refl G F) (ok.setRS r.1 r.2 hl)
  · exact q.elim
theorem ls_set (hN : X.N.Nodup) (hi : X.N[i]? = some x) (hx : Loc X.env.scope x) (he : LF X W e m) (hs : swapsWith e (some (.Name x pos')) pos.line X.env = pure false := by rfl) (hf : X.fn x = true ∨ X.env.scope.names.lookup x = some .local := by first | exact .inl rfl | exact .inr rfl | assumption) :
    LS X W (.Assign [.Name x pos'] e pos) (setM i m) := by
  obtain ⟨t, ht, l⟩ := he.ex
  exact ⟨_, ps_set hN hi hx ht hs hf, fun G io F σ H ρ E ok q => l G io F σ H ρ _ ok (q.outE fun v s ρ1 F1 H1 fx ok1 r q1 => put_run ok1 r q1)⟩
/-- name = [..] on one line, the name a local -/
theorem ls_setLc {elt tg iter : Expr} {ifs : List Expr} {scope : Scope} {own : List (Str × Nat)} {is : List Nat} {spos : Pos} {m : M (List D)} {set : D → EnvD → Option EnvD} {c : M Bool} {e : M D} (hc : X.calm = true) (hN : X.N.Nodup) (hy : X.N[i]? = some x) (hyl : X.env.scope.names.lookup x = some .local)
    (hsw : swapsWith (.ListComp elt [⟨tg, iter, ifs, 0⟩] scope pos) (some (.Name x pos')) spos.line X.env = pure true) (hi : LI X W tg iter m) (hk : blkC X.N X.env.scope scope own = true) (his : ∀ i ∈ is, i ∈ own.map (·.2))
    (hg : ∀ (s : Shared) (H : Hp) (C : Addr) (cl : List (Str × Addr)) (fp : List Addr), LG (X.blk s H scope (compEnvC scope cl C X.env) fp) tg is set)
    (ht : ∀ (s : Shared) (H : Hp) (C : Addr) (cl : List (Str × Addr)) (fp : List Addr), LTs (X.blk s H scope (compEnvC scope cl C X.env) fp) ifs c)
    (he : ∀ (s : Shared) (H : Hp) (C : Addr) (cl : List (Str × Addr)) (fp : List Addr), LE (X.blk s H scope (compEnvC scope cl C X.env) fp) cN elt e)
    (hs : ∀ x, foldedSetIterable iter X.env x = pure x := by intro _; rfl) : LS X W (.Assign [.Name x pos'] (.ListComp elt [⟨tg, iter, ifs, 0⟩] scope pos) spos) (setM i (compM m (own.map (·.2)) set c e)) := by
  obtain ⟨wi, hi, li⟩ := hi.ex
  have pg : ∀ (s : Shared) (H : Hp) (C : Addr) (cl : List (Str × Addr)) (fp : List Addr), PG (X.blk s H scope (compEnvC scope cl C X.env) fp) tg (gM X.K is set) := fun s H C cl fp => (hg s H C cl fp).pg
  have pt : ∀ (s : Shared) (H : Hp) (C : Addr) (cl : List (Str × Addr)) (fp : List Addr), PTs (X.blk s H scope (compEnvC scope cl C X.env) fp) ifs (tM X c) := fun s H C cl fp => (ht s H C cl fp).pts
  have pe : ∀ (s : Shared) (H : Hp) (C : Addr) (cl : List (Str × Addr)) (fp : List Addr), PE (X.blk s H scope (compEnvC scope cl C X.env) fp) elt (eM X e) := fun s H C cl fp => (he s H C cl fp).pe
  refine ⟨_, ps_setLc hc hN hy hyl hsw hi (blkOk_by hk) pg pt pe hs, fun G io F σ H ρ E ok q => ?_⟩
  have q : PoE (rF X G io) X W G io F σ (fun v H1 => E.nx (σ.set i (some v)) H1) (compM m (own.map (·.2)) set c e ρ) := PoS.outE q fun v s ρ1 F1 H1 fx ok1 r q1 => put_run ok1 r q1
  refine li G io F σ H ρ _ ok ?_
  unfold compM at q
  cases e1 : m ρ with
  | ok p =>
    obtain ⟨ds, ρ1⟩ := p
    simp only [e1] at q
    intro J F1 H1 fx ok1 wk D hD
    cases e2 : lcD (own.map (·.2)) set c e ds [] (wipeD ρ1 (own.map (·.2))) with
    | ok p =>
      obtain ⟨ys, ρ2⟩ := p
      simp only [e2] at q
      exact comp_run (wk _) his (fun G io F σ H ρ v d ρ' Q a b c d => ⟨G, io, F, ρ, _, _, a, b, c, d⟩) (fun G io F σ H ρ Q a b => ⟨G, io, F, ρ, a, b⟩) (fun G io F σ H ρ Q a b => ⟨G, io, F, ρ, a, b⟩) ok1 e2
        (fun v F' H' fx' ok' r => q v F' H' (fx.trans fx') ok' r) D hD
    | exc c => simp only [e2] at q; exact q.elim
    | bad => simp only [e2] at q; exact q.elim
  | exc c => simp only [e1] at q; exact q
  | bad => simp only [e1] at q; exact q
/-- target = e, any target, a frozen value -/
def asgM (set : D → EnvD → Option EnvD) (m : M D) : EnvD → Out := fun ρ => outM (fun d ρ' => match set d ρ' with | some ρ2 => .nx ρ2 | none => .bad) (m ρ)
theorem ls_asg {tg : Expr} {is : List Nat} {set : D → EnvD → Option EnvD} {m : M D} (he : LE X W e m) (hg : LG X tg is set) (hs : swapsWithSole [tg] e pos.line X.env = pure false := by rfl) (hw : swappedStores [tg] e X.env = pure none := by rfl)
    (h1 : (assignEach [tg] X.env).map (·.2) = [assign tg X.env] := by rfl) : LS X W (.Assign [tg] e pos) (asgM set m) := by
  obtain ⟨t, ht, l⟩ := he.ex
  obtain ⟨g, hg, lg⟩ := hg.ex
  refine ⟨_, ps_asg ht hg hs hw h1, fun G io F σ H ρ E ok q => l G io F σ H ρ _ ok (q.outE fun v d ρ1 F1 H1 fx ok1 r q1 => ?_)⟩
  cases e1 : set d ρ1 with
  | none => simp only [e1] at q1; exact q1.elim
  | some ρ2 =>
    simp only [e1] at q1
    exact lg G io F1 σ H1 ρ1 v d ρ2 _ ok1 r e1 fun σ' ok' _ => q1 σ' F1 H1 (Fx.refl G F1) ok'
end

/-! ### several fresh values -/
/-- owned things at different places -/
inductive Aps : List V → List S → Prop
  | nil : Aps [] []
  | cons {v : V} {s : S} {vs : List V} {ss : List S} : (s.own = true → ∀ (j : Nat) w t, vs[j]? = some w → ss[j]? = some t → t.own = true → w ≠ v) → Aps vs ss → Aps (v :: vs) (s :: ss)
inductive RSs (K : Frag) (G : Hp) (io : Option Addr) (F H : Hp) (σ : L2.St) (ρ : EnvD) : List V → List S → Prop
  | nil : RSs K G io F H σ ρ [] []
  | cons {v : V} {s : S} {vs : List V} {ss : List S} : RS K G io F H v s → Sep σ ρ v s → RSs K G io F H σ ρ vs ss → RSs K G io F H σ ρ (v :: vs) (s :: ss)
abbrev rAF (X : Cx) (G : Hp) (io : Option Addr) : Hp → Hp → List V → List S → L2.St → EnvD → Prop := fun F H vs ss σ ρ => RSs X.K G io F H σ ρ vs ss ∧ Aps vs ss
structure LAF (X : Cx) (W : WX) (es : List Expr) (m : M (List S)) : Prop where
  ex : ∃ t, PA X es t ∧ ∀ G io F σ H ρ Q, EnvOk X.K G io F σ H ρ → PoE (rAF X G io) X W G io F σ Q (m ρ) → t σ H Q
def S.plain : S → Option S
  | .fr d => some (.fr d)
  | .ow d => some (.ow d)
  | _ => none
def consF (m : M S) (ms : M (List S)) : M (List S) := m.bind fun s => (M.opt s.plain).bind fun s => ms.bind fun ss => M.pure (s :: ss)
section
variable {X : Cx} {W : WX} {e : Expr} {es : List Expr}
theorem laf_nil : LAF X W [] (M.pure []) := ⟨_, pa_nil, fun G io F σ H ρ Q ok q => q [] F H (Fx.refl G F) ok ⟨.nil, .nil⟩⟩
theorem RS.outG {K : Frag} {G : Hp} {io : Option Addr} {F H : Hp} {D : Addr} {o : HO} {v : V} {s : S} (hg : G D = none) (r : RS K (upd G D o) io F H v s) : RS K G io F H v s ∧ (s.own = true → v ≠ .ref D) := by
  have gs : ∀ b, upd G D o b = none → G b = none ∧ b ≠ D := fun b e => by
    by_cases hb : b = D
    · subst hb; rw [upd_same] at e; cases e
    · rw [upd_ne hb] at e; exact ⟨e, hb⟩
  cases r with
  | fr q => exact ⟨.fr q, fun z => nomatch z⟩
  | ow a b c d q => exact ⟨.ow a b (gs _ c).1 d q, fun _ z => (gs _ c).2 (V.ref.inj z)⟩
  | lk => exact ⟨.lk, fun z => nomatch z⟩
  | io a b c d q => exact ⟨.io a b (gs _ c).1 d q, fun _ z => (gs _ c).2 (V.ref.inj z)⟩
theorem RSs.outG {K : Frag} {G : Hp} {io : Option Addr} {F H : Hp} {σ : L2.St} {ρ : EnvD} {D : Addr} {o : HO} (hg : G D = none) : ∀ {vs : List V} {ss : List S}, RSs K (upd G D o) io F H σ ρ vs ss → RSs K G io F H σ ρ vs ss ∧ ∀ (j : Nat) w t, vs[j]? = some w → ss[j]? = some t → t.own = true → w ≠ .ref D
  | _, _, .nil => ⟨.nil, fun j w t e => by simp at e⟩
  | _, _, .cons a b c => by
    obtain ⟨a1, a2⟩ := a.outG hg
    obtain ⟨c1, c2⟩ := RSs.outG hg c
    refine ⟨.cons a1 b c1, fun j w t e1 e2 ho => ?_⟩
    cases j with
    | zero => simp at e1 e2; subst e1 e2; exact a2 ho
    | succ j => exact c2 j w t (by simpa using e1) (by simpa using e2) ho
theorem laf_cons {m : M S} {ms : M (List S)} (h : LF X W e m) (hs : LAF X W es ms) (he : starEach (e :: es) X.env = (false, eval e X.env) :: starEach es X.env := by rfl) : LAF X W (e :: es) (consF m ms) := by
  obtain ⟨t, ht, l⟩ := h.ex
  obtain ⟨u, hu, l2⟩ := hs.ex
  refine ⟨_, pa_cons ht hu he, fun G io F σ H ρ Q ok q => l G io F σ H ρ _ ok (PoE.bind q fun v s ρ1 F1 H1 fx ok1 r q1 => ?_)⟩
  obtain ⟨rs, sp⟩ := r
  -- a frozen value goes on as it is; an owned one stays within G meanwhile
  have fin : ∀ (hv : s.own = false) (d : D), s = .fr d → u σ H1 fun xs H2 => Q (v :: xs) H2 := fun _ d hd => by
    subst hd
    refine l2 G io F1 σ H1 ρ1 _ ok1 (PoE.bind q1 fun vs ss ρ2 F2 H2 fx2 ok2 r2 q2 => ?_)
    cases rs with
    | fr rs => exact q2 (v :: vs) F2 H2 (Fx.refl G F2) ok2 ⟨.cons (.fr (rs.mono fx2.sub)) (fun z => nomatch z) r2.1, .cons (fun z => nomatch z) r2.2⟩
  have own : ∀ (a : Addr) (o : HO) (d : D), v = .ref a → H1 a = some o → F1 a = none → G a = none → some a ≠ io → RO X.K F1 o d → s = .ow d → u σ H1 fun xs H2 => Q (v :: xs) H2 := fun a0 o d hv ha hf hg hio ro hs => by
    subst hv hs
    refine l2 (upd G a0 o) io F1 σ H1 ρ1 _ (ok1.inG ha hio (sp rfl)) ?_
    refine PoE.bind (R' := rAF X (upd G a0 o) io) (Q := fun xs H2 => Q (.ref a0 :: xs) H2) (f := fun ss => M.pure ss) (m := ms) ?_ fun vs ss ρ2 F2 H2 fx2 ok2 r2 q2 => q2 vs F2 H2 (Fx.refl _ F2) ok2 r2
    have q1 : PoE (rAF X G io) X W G io F1 σ Q ((ms.bind fun ss => M.pure (.ow d :: ss)) ρ1) := q1
    unfold M.bind at q1 ⊢
    cases e1 : ms ρ1 with
    | ok p =>
      obtain ⟨ss, ρ2⟩ := p
      simp only [e1] at q1
      simp only
      intro vs F2 H2 fx2 ok2 ⟨r2, ap⟩
      obtain ⟨ok3, s3⟩ := ok2.outG hg
      obtain ⟨r3, n3⟩ := r2.outG hg
      have h2 : H2 a0 = some o := ok2.g _ _ upd_same
      have f2 : F2 a0 = none := by
        cases z : F2 a0 with
        | none => rfl
        | some w =>
          rcases fx2.new _ _ z with q | q
          · rw [hf] at q; cases q
          · rw [upd_same] at q; cases q
      exact q1 (.ref a0 :: vs) F2 H2 (fxG fx2) ok3 ⟨.cons (.ow h2 f2 hg hio (ro.mono fx2.sub)) (fun _ => s3) r3, .cons (fun _ => n3) ap⟩
    | exc c =>
      simp only [e1] at q1
      exact fun C H' a b => q1 C H' a (fun b' u e => b b' u (by rw [upd_ne (fun z => by rw [z, hg] at e; cases e)]; exact e))
    | bad => simp only [e1] at q1; exact q1.elim
  cases s with
  | fr d => exact fin rfl d rfl
  | ow d => cases rs with | ow a b c d' q => exact own _ _ _ rfl a b c d' q rfl
  | lk d => exact q1.elim
  | io d => exact q1.elim
/-! ### a, b = x, y -/
def putSs : List Nat → List S → EnvD → Option EnvD
  | [], [], ρ => some ρ
  | i :: is, s :: ss, ρ => if i < ρ.length then putSs is ss (ρ.set i (some s)) else none
  | _, _, _ => none
def parM (is : List Nat) (ms : M (List S)) : EnvD → Out := fun ρ => outM (fun ss ρ' => match putSs is ss ρ' with | some ρ2 => .nx ρ2 | none => .bad) (ms ρ)
def setVs : List Nat → List V → L2.St → L2.St
  | i :: is, v :: vs, σ => setVs is vs (σ.set i (some v))
  | _, _, σ => σ
theorem putSs_run {K : Frag} {G : Hp} {io : Option Addr} {F H : Hp} : ∀ {is : List Nat} {vs : List V} {ss : List S} {σ : L2.St} {ρ ρ' : EnvD}, EnvOk K G io F σ H ρ → RSs K G io F H σ ρ vs ss → Aps vs ss → putSs is ss ρ = some ρ' → EnvOk K G io F (setVs is vs σ) H ρ'
  | [], _, _, _, _, _, ok, .nil, _, e => by cases e; exact ok
  | [], _, _, _, _, _, _, .cons _ _ _, _, e => by cases e
  | i :: is, _, _, _, _, _, _, .nil, _, e => by cases e
  | i :: is, v :: vs, s :: ss, σ, ρ, ρ', ok, .cons a b c, .cons n ap, e => by
    unfold putSs at e
    split at e
    · rename_i hl
      refine putSs_run (is := is) (ok.setRS a b hl) ?_ ap e
      -- the rest stands apart from the slot just set too
      have go : ∀ {vs : List V} {ss : List S}, RSs K G io F H σ ρ vs ss → (s.own = true → ∀ (j : Nat) w t, vs[j]? = some w → ss[j]? = some t → t.own = true → w ≠ v) → RSs K G io F H (σ.set i (some v)) (ρ.set i (some s)) vs ss := by
        intro vs ss r
        induction r with
        | nil => exact fun _ => .nil
        | @cons w t vs ss a b c ih =>
          intro n
          refine .cons a (fun ht j u ej hu hq => ?_) (ih fun hs j w t e1 e2 => n hs (j + 1) w t (by simpa using e1) (by simpa using e2))
          by_cases hj : j = i
          · subst hj
            rw [List.getElem?_set_self hl] at ej
            rw [List.getElem?_set_self (by rw [← ok.len]; exact hl)] at hq
            cases ej; cases hq
            exact n hu 0 _ t rfl rfl ht rfl
          · rw [List.getElem?_set_ne (Ne.symm hj)] at ej hq
            exact b ht j u ej hu hq
      exact go c n
    · cases e
theorem ls_par {i j : Nat} {x y : Str} {a b : Expr} {ms : M (List S)} {px py pt pos : Pos} {kt k2 pt2} (hc : X.calm = true) (hN : X.N.Nodup) (hi : X.N[i]? = some x) (hj : X.N[j]? = some y) (hij : i ≠ j)
    (hx : X.env.scope.names.lookup x = some .local) (hy : X.env.scope.names.lookup y = some .local) (ha : LAF X W [a, b] ms)
    (hw : swappedStores [.Tuple [.Name x px, .Name y py] kt pt] (.Tuple [a, b] k2 pt2) X.env = pure (some [x, y]))
    (hs : swapsWithSole [.Tuple [.Name x px, .Name y py] kt pt] (.Tuple [a, b] k2 pt2) pos.line X.env = pure false := by rfl) :
    LS X W (.Assign [.Tuple [.Name x px, .Name y py] kt pt] (.Tuple [a, b] k2 pt2) pos) (parM [i, j] ms) := by
  obtain ⟨t, ht, l⟩ := ha.ex
  refine ⟨_, ps_par hc hN hi hj hij hx hy ht hw hs, fun G io F σ H ρ E ok q => l G io F σ H ρ _ ok (q.outE fun vs ss ρ1 F1 H1 fx ok1 r q1 => ?_)⟩
  obtain ⟨r, ap⟩ := r
  cases e1 : putSs [i, j] ss ρ1 with
  | none => simp only [e1] at q1; exact q1.elim
  | some ρ2 =>
    simp only [e1] at q1
    have k := q1 _ F1 H1 (Fx.refl G F1) (putSs_run ok1 r ap e1)
    cases r with
    | nil => cases e1
    | cons _ _ r =>
      cases r with
      | nil => unfold putSs at e1; split at e1 <;> cases e1
      | cons _ _ r =>
        cases r with
        | nil => exact ⟨_, _, rfl, k⟩
        | cons _ _ _ => unfold putSs at e1; split at e1; (unfold putSs at e1; split at e1 <;> cases e1); cases e1
theorem ls_par3 {i j k : Nat} {x y z : Str} {a b c : Expr} {ms : M (List S)} {px py pz pt pos : Pos} {kt k2 pt2} (hc : X.calm = true) (hN : X.N.Nodup) (hi : X.N[i]? = some x) (hj : X.N[j]? = some y) (hk : X.N[k]? = some z) (hij : i ≠ j) (hik : i ≠ k) (hjk : j ≠ k)
    (hx : X.env.scope.names.lookup x = some .local) (hy : X.env.scope.names.lookup y = some .local) (hz : X.env.scope.names.lookup z = some .local) (ha : LAF X W [a, b, c] ms)
    (hw : swappedStores [.Tuple [.Name x px, .Name y py, .Name z pz] kt pt] (.Tuple [a, b, c] k2 pt2) X.env = pure (some [x, y, z]))
    (hs : swapsWithSole [.Tuple [.Name x px, .Name y py, .Name z pz] kt pt] (.Tuple [a, b, c] k2 pt2) pos.line X.env = pure false := by rfl) :
    LS X W (.Assign [.Tuple [.Name x px, .Name y py, .Name z pz] kt pt] (.Tuple [a, b, c] k2 pt2) pos) (parM [i, j, k] ms) := by
  obtain ⟨t, ht, l⟩ := ha.ex
  refine ⟨_, ps_par3 hc hN hi hj hk hij hik hjk hx hy hz ht hw hs, fun G io F σ H ρ E ok q => l G io F σ H ρ _ ok (q.outE fun vs ss ρ1 F1 H1 fx ok1 r q1 => ?_)⟩
  obtain ⟨r, ap⟩ := r
  cases e1 : putSs [i, j, k] ss ρ1 with
  | none => simp only [e1] at q1; exact q1.elim
  | some ρ2 =>
    simp only [e1] at q1
    have k := q1 _ F1 H1 (Fx.refl G F1) (putSs_run ok1 r ap e1)
    cases r with
    | nil => cases e1
    | cons _ _ r =>
      cases r with
      | nil => unfold putSs at e1; split at e1 <;> cases e1
      | cons _ _ r =>
        cases r with
        | nil => unfold putSs at e1; split at e1; (unfold putSs at e1; split at e1 <;> cases e1); cases e1
        | cons _ _ r =>
          cases r with
          | nil => exact ⟨_, _, _, rfl, k⟩
          | cons _ _ _ => unfold putSs at e1; split at e1; (unfold putSs at e1; split at e1; (unfold putSs at e1; split at e1 <;> cases e1); cases e1); cases e1
end
end Lf

/-! LK: a, b = x, y where a name is a cell; writes to owned things; calls. -/
namespace Lf
open PySem PySem.Spec PyProof.Rows L2
def gNs : List Nat → TGs
  | [] => gNil
  | i :: is => gCons (gName i) (gNs is)
theorem gNs_run {Q : L2.St → Hp → Prop} {H : Hp} : ∀ {is : List Nat} {vs : List V} {σ : L2.St}, is.length = vs.length → Q (setVs is vs σ) H → gNs is vs σ H Q
  | [], [], _, _, q => ⟨rfl, q⟩
  | [], _ :: _, _, e, _ => by cases e
  | _ :: _, [], _, e, _ => by cases e
  | i :: is, v :: vs, σ, e, q => ⟨v, vs, rfl, gNs_run (by simpa using e) q⟩
section
variable {K : Frag} {G : Hp} {io : Option Addr} {F H : Hp} {σ : L2.St} {ρ : EnvD}
theorem EnvOk.junk {p : Addr} {o : HO} (ok : EnvOk K G io F σ H ρ) (hn : H p = none) : EnvOk K G io F σ (upd H p o) ρ := by
  refine ⟨fun b u e => ?_, fun b u e => ?_, ok.len, fun i s e => ?_, ok.apart, fun b e => by by_cases hb : b = p; (rw [hb, upd_same]; exact fun z => nomatch z); (rw [upd_ne hb]; exact ok.iok b e)⟩
  · rw [upd_ne (ne_of_none (ok.g _ _ e) hn)]; exact ok.g _ _ e
  · rcases ok.f b u e with z | ⟨z, od, w⟩
    · left; rw [upd_ne (ne_of_none z hn)]; exact z
    · right; refine ⟨z, od, ?_⟩; rw [upd_ne (ne_of_none w hn)]; exact w
  · obtain ⟨v, h1, r⟩ := ok.at_ i s e
    refine ⟨v, h1, ?_⟩
    cases r with
    | fr q => exact .fr q
    | ow x y z w q => exact .ow (by rw [upd_ne (ne_of_none x hn)]; exact x) y z w q
    | lk => exact .lk
    | io x y z w q => exact .io (by rw [upd_ne (ne_of_none x hn)]; exact x) y z w q
theorem RS.junk {p : Addr} {o : HO} {v : V} {s : S} (hn : H p = none) (r : RS K G io F H v s) : RS K G io F (upd H p o) v s := by
  cases r with
  | fr q => exact .fr q
  | ow x y z w q => exact .ow (by rw [upd_ne (ne_of_none x hn)]; exact x) y z w q
  | lk => exact .lk
  | io x y z w q => exact .io (by rw [upd_ne (ne_of_none x hn)]; exact x) y z w q
theorem RSs.junk {p : Addr} {o : HO} (hn : H p = none) : ∀ {vs : List V} {ss : List S}, RSs K G io F H σ ρ vs ss → RSs K G io F (upd H p o) σ ρ vs ss
  | _, _, .nil => .nil
  | _, _, .cons a b c => .cons (a.junk hn) b (RSs.junk hn c)
theorem RSs.length : ∀ {vs : List V} {ss : List S}, RSs K G io F H σ ρ vs ss → vs.length = ss.length
  | _, _, .nil => rfl
  | _, _, .cons _ _ c => congrArg (· + 1) c.length
theorem putSs_len : ∀ {is : List Nat} {ss : List S} {ρ ρ' : EnvD}, putSs is ss ρ = some ρ' → is.length = ss.length
  | [], [], _, _, _ => rfl
  | [], _ :: _, _, _, e => by cases e
  | _ :: _, [], _, _, e => by cases e
  | i :: is, s :: ss, ρ, ρ', e => by
    unfold putSs at e
    split at e
    · exact congrArg (· + 1) (putSs_len e)
    · cases e
end
section
variable {X : Cx} {W : WX} {e : Expr} {es tgs : List Expr} {pos : Pos}
theorem ls_tupF {is : List Nat} {ms : M (List S)} {kt k2 pt pt2} (hc : X.calm = true) (ha : LAF X W es ms) (hg : PGs X tgs (gNs is)) (hz : is.length ≤ 1000 := by decide)
    (hn : (assignEach tgs X.env).length = is.length := by rfl) (hst : (assignEach tgs X.env).findIdx? (·.1) = none := by rfl) (hs : swapsWithSole [.Tuple tgs kt pt] (.Tuple es k2 pt2) pos.line X.env = pure false := by rfl) (hw : swappedStores [.Tuple tgs kt pt] (.Tuple es k2 pt2) X.env = pure none := by rfl)
    (h1 : (assignEach [.Tuple tgs kt pt] X.env).map (·.2) = [assign (.Tuple tgs kt pt) X.env] := by rfl) : LS X W (.Assign [.Tuple tgs kt pt] (.Tuple es k2 pt2) pos) (parM is ms) := by
  obtain ⟨t, ht, l⟩ := ha.ex
  refine ⟨_, ps_asg (pe_tup ht) (pg_tup hc hg hn hst) hs hw h1, fun G io F σ H ρ E ok q => l G io F σ H ρ _ ok (q.outE fun vs ss ρ1 F1 H1 fx ok1 r q1 => ?_)⟩
  obtain ⟨r, ap⟩ := r
  cases e1 : putSs is ss ρ1 with
  | none => simp only [e1] at q1; exact q1.elim
  | some ρ2 =>
    simp only [e1] at q1
    have hlen := putSs_len e1
    have hrl := r.length
    refine ⟨by rw [hrl, ← hlen, sizeLine_eq]; omega, fun p hp => ⟨p, vs, rfl, SqT.of upd_same, by rw [hrl, hlen], gNs_run (by rw [hrl, hlen]) ?_⟩⟩
    exact q1 _ F1 _ (Fx.refl G F1) (putSs_run (ok1.junk hp) (r.junk hp) ap e1)
end

/-! ### an owned thing is written -/
def S.put : S → D → Option S
  | .ow _, d => some (.ow d)
  | .io _, d => some (.io d)
  | _, _ => none
section
variable {K : Frag} {G : Hp} {io : Option Addr} {F H : Hp} {σ : L2.St} {ρ : EnvD}
theorem EnvOk.write {i : Nat} {s s' : S} {d' : D} {o' : HO} {v : V} (ok : EnvOk K G io F σ H ρ) (e : ρ[i]? = some (some s)) (hs : s.put d' = some s') (hv : σ[i]? = some (some v)) (ro : RO K F o' d') :
    ∃ a o, v = .ref a ∧ H a = some o ∧ F a = none ∧ RO K F o s.d ∧ EnvOk K G io F σ (upd H a o') (ρ.set i (some s')) := by
  obtain ⟨v', h1, r⟩ := ok.at_ i s e
  rw [hv] at h1
  cases h1
  have ho : s.own = true := by cases s <;> first | rfl | cases hs
  have hi : i < ρ.length := by
    rcases Nat.lt_or_ge i ρ.length with h | h
    · exact h
    · rw [List.getElem?_eq_none h] at e; cases e
  have main : ∀ {a : Addr} {o : HO}, v = .ref a → H a = some o → F a = none → G a = none → (RS K G io F (upd H a o') (.ref a) s') → RO K F o s.d → ∃ a o, v = .ref a ∧ H a = some o ∧ F a = none ∧ RO K F o s.d ∧ EnvOk K G io F σ (upd H a o') (ρ.set i (some s')) := by
    intro a o hva ha hf hg r' ro1
    refine ⟨a, o, hva, ha, hf, ro1, fun b u q => ?_, fun b u q => ?_, by simp [ok.len], fun j t ej => ?_, fun j k t u v1 e1 e2 o1 o2 q1 q2 => ?_, fun b q => ?_⟩
    · rw [upd_ne (fun z => by rw [z, hg] at q; cases q)]; exact ok.g b u q
    · rw [upd_ne (fun z => by rw [z, hf] at q; cases q)]; exact ok.f b u q
    · by_cases hj : j = i
      · subst hj
        rw [List.getElem?_set_self hi] at ej
        cases ej
        exact ⟨.ref a, by rw [hv, hva], r'⟩
      · rw [List.getElem?_set_ne (Ne.symm hj)] at ej
        obtain ⟨w, hw, rw'⟩ := ok.at_ j t ej
        refine ⟨w, hw, ?_⟩
        have ne : ∀ b, w = .ref b → t.own = true → b ≠ a := fun b hb ht z => hj (ok.apart j i t s v ej e ht ho (by rw [hw, hb, z, hva]) hv)
        cases rw' with
        | fr q => exact .fr q
        | ow x y z w q => exact .ow (by rw [upd_ne (ne _ rfl rfl)]; exact x) y z w q
        | lk => exact .lk
        | io x y z w q => exact .io (by rw [upd_ne (ne _ rfl rfl)]; exact x) y z w q
    · have g : ∀ {m : Nat} {x : S}, (ρ.set i (some s'))[m]? = some (some x) → x.own = true → ∃ y : S, ρ[m]? = some (some y) ∧ y.own = true := fun {m x} h hx => by
        by_cases hm : m = i
        · subst hm; exact ⟨s, e, ho⟩
        · rw [List.getElem?_set_ne (Ne.symm hm)] at h; exact ⟨x, h, hx⟩
      obtain ⟨y1, a1, b1⟩ := g e1 o1
      obtain ⟨y2, a2, b2⟩ := g e2 o2
      exact ok.apart j k y1 y2 v1 a1 a2 b1 b2 q1 q2
    · by_cases hb : b = a
      · subst hb; rw [upd_same]; exact fun z => nomatch z
      · rw [upd_ne hb]; exact ok.iok b q
  cases r with
  | fr q => cases hs
  | ow x y z w q => cases hs; exact main rfl x y z (.ow upd_same y z w ro) q
  | lk => cases hs
  | io x y z w q => cases hs; exact main rfl x y z (.io upd_same y z w ro) q
end
end Lf

/-! LL: append, pop, stores, calls of defs, promises. -/
namespace Lf
open PySem PySem.Spec PyProof.Rows L2
section
variable {X : Cx} {W : WX} {e : Expr} {es : List Expr} {me : M D}
/-- x.append(e), x an owned list at slot i -/
def wrM (i : Nat) (f : D → Option D) : M Unit := fun ρ => match ρ[i]? with
  | some (some s) => match f s.d with
    | some d' => match s.put d' with
      | some s' => .ok ((), ρ.set i (some s'))
      | none => .bad
    | none => .bad
  | _ => .bad
def appD (d : D) : D → Option D
  | .list ds => if ltM (ds.length + 1) = true then some (.list (ds ++ [d])) else none
  | _ => none
def appM (i : Nat) (me : M D) : M S := (slotM i).bind fun l => (M.opt (match l with | .list _ => some () | _ => none)).bind fun _ => me.bind fun d => (wrM i (appD d)).bind fun _ => M.pure (.fr .none)
theorem wr_run {α β : Type} {R : Hp → Hp → α → β → L2.St → EnvD → Prop} {i : Nat} {f : D → Option D} {G io F σ H ρ} {k : Unit → M β} {Q : α → Hp → Prop} (ok : EnvOk X.K G io F σ H ρ) (q : PoE R X W G io F σ Q ((wrM i f).bind k ρ)) :
    ∃ v s d' s', σ[i]? = some (some v) ∧ ρ[i]? = some (some s) ∧ f s.d = some d' ∧ s.put d' = some s' ∧ PoE R X W G io F σ Q (k () (ρ.set i (some s'))) := by
  unfold wrM M.bind at q
  cases e1 : ρ[i]? with
  | none => simp only [e1] at q; exact q.elim
  | some o =>
    cases o with
    | none => simp only [e1] at q; exact q.elim
    | some s =>
      simp only [e1] at q
      cases e2 : f s.d with
      | none => simp only [e2] at q; exact q.elim
      | some d' =>
        simp only [e2] at q
        cases e3 : s.put d' with
        | none => simp only [e3] at q; exact q.elim
        | some s' =>
          simp only [e3] at q
          obtain ⟨v, h1, _⟩ := ok.at_ i s e1
          exact ⟨v, s, d', s', h1, rfl, e2, e3, q⟩
theorem opt_run {α β γ : Type} {R : Hp → Hp → α → β → L2.St → EnvD → Prop} {o : Option γ} {G io F σ ρ} {k : γ → M β} {Q : α → Hp → Prop} (q : PoE R X W G io F σ Q ((M.opt o).bind k ρ)) : ∃ a, o = some a ∧ PoE R X W G io F σ Q (k a ρ) := by
  cases o with
  | none => exact q.elim
  | some a => exact ⟨a, rfl, q⟩
theorem topL {K : Frag} {F H : Hp} {a : Addr} {o : HO} {ds : List D} (r : RO K F o (.list ds)) : ∃ xs, o = .lst xs ∧ RpL K F xs ds := by
  cases o <;> first | exact ⟨_, rfl, r⟩ | exact r.elim
theorem RS.ownD {K : Frag} {G : Hp} {io : Option Addr} {F H : Hp} {v : V} {s : S} (r : RS K G io F H v s) (h : s.own = true) : ∃ a o, v = .ref a ∧ H a = some o ∧ RO K F o s.d := by
  cases r with
  | fr q => cases h
  | ow a b c d e => exact ⟨_, _, rfl, a, e⟩
  | lk => cases h
  | io a b c d e => exact ⟨_, _, rfl, a, e⟩
theorem S.put_own {s s' : S} {d : D} (h : s.put d = some s') : s.own = true := by cases s <;> first | rfl | cases h
/-- an owned list at slot i, and its write -/
theorem ownL {K : Frag} {G : Hp} {io : Option Addr} {F H : Hp} {σ : L2.St} {ρ : EnvD} {i : Nat} {s s' : S} {d' : D} {v : V} {ds : List D} (ok : EnvOk K G io F σ H ρ) (e : ρ[i]? = some (some s)) (hs : s.put d' = some s') (hv : σ[i]? = some (some v)) (hd : s.d = .list ds) :
    ∃ a xs, v = .ref a ∧ H a = some (.lst xs) ∧ RpL K F xs ds ∧ ∀ o', RO K F o' d' → EnvOk K G io F σ (upd H a o') (ρ.set i (some s')) := by
  obtain ⟨v', hv', rs⟩ := ok.at_ i s e
  rw [hv] at hv'; cases hv'
  obtain ⟨a, o, rfl, ha, ro⟩ := rs.ownD (S.put_own hs)
  rw [hd] at ro
  obtain ⟨xs, rfl, rl⟩ := topL (H := H) (a := a) ro
  refine ⟨a, xs, rfl, ha, rl, fun o' ro' => ?_⟩
  obtain ⟨a', _, ea, _, _, _, ok2⟩ := ok.write e hs hv ro'
  cases ea
  exact ok2
theorem slotL {i : Nat} {α β : Type} {R : Hp → Hp → α → β → L2.St → EnvD → Prop} {G io F σ H ρ} {k : M β} {Q : α → Hp → Prop} (ok : EnvOk X.K G io F σ H ρ)
    (q : PoE R X W G io F σ Q (((slotM i).bind fun l => (M.opt (match l with | .list _ => some () | _ => none)).bind fun _ => k) ρ)) : ∃ v, σ[i]? = some (some v) ∧ tyV X.K "list" v H ∧ PoE R X W G io F σ Q (k ρ) := by
  obtain ⟨v, s, h1, e1, rs, q1⟩ := slot_run ok q
  cases hd : s.d with
  | list ds =>
    rw [hd] at q1
    have rt := rs.top
    rw [hd] at rt
    obtain ⟨a, xs, rfl, sl, _⟩ := Top.lst ok.f rt
    exact ⟨_, h1, .inl ⟨rfl, _, sl⟩, q1⟩
  | _ => rw [hd] at q1; exact q1.elim
theorem lf_append {i : Nat} {x : Str} {p2 apos cpos : Pos} (he : LE X W e me) (hN : X.N[i]? = some x := by rfl) (hv : Vis X.env.scope x := by first | exact Or.inl rfl | exact Or.inr (Or.inl rfl) | exact Or.inr (Or.inr rfl)) (hd : (x == ("__debug__" : Str)) = false := by decide) (hcd : (x == ("__classdict__" : Str)) = false := by decide)
    (hbase : attributeBase (.Name x p2) "append" X.env (eval (.Name x p2) X.env) = eval (.Name x p2) X.env := by rfl)
    (hfew : ((backTo cpos (starEach [e] X.env)).all (fun x => !x.1) && (backToKw cpos (keywordEach [] X.env)).all (fun x => x.1.isSome)
      && decide ([e].length + ([] : List Keyword).length + (if ([] : List Keyword).isEmpty then 0 else 1) < 30)) = true := by rfl)
    (hline : (apos.endLine == cpos.line) = true := by rfl) (hs : starEach [e] X.env = (false, eval e X.env) :: starEach [] X.env := by rfl) (hplain : (backTo cpos (starEach [] X.env)).any (·.1) = false := by rfl) :
    LF X W (.Call (.Attribute (.Name x p2) "append" apos) [e] [] cpos) (appM i me) := by
  obtain ⟨t, ht, l⟩ := he.ex
  refine ⟨_, pe_bm PySem.F.plainAttrs_list PySem.F.slot_list_append PySem.F.type_list_append mt_append (pe_var hN hv hd hcd) (pa_cons ht pa_nil hs) hbase hfew hline hs hplain, fun G io F σ H ρ Q ok q => ?_⟩
  obtain ⟨v, h1, ty, q1⟩ := slotL ok q
  refine ⟨v, h1, ty, l G io F σ H ρ _ ok (PoE.bind q1 fun y d ρ1 F1 H1 fx ok1 r q2 => ?_)⟩
  obtain ⟨v2, s, d', s', h2, e1, e2, e3, q3⟩ := wr_run ok1 q2
  rw [h1] at h2; cases h2
  unfold appD at e2
  cases hds : s.d with
  | list ds =>
    rw [hds] at e2
    simp only at e2
    split at e2
    · rename_i hl
      cases e2
      obtain ⟨a, xs, rfl, ha, rl, wr⟩ := ownL ok1 e1 e3 h1 hds
      exact ⟨a, xs, y, rfl, rfl, ha, by have := ltM_ok hl; have := rl.length; omega, q3 .non F1 _ (Fx.refl G F1) (wr (.lst (xs ++ [y])) (rl.append (.cons r .nil))) ⟨.fr .non, fun z => nomatch z⟩⟩
    · cases e2
  | _ => rw [hds] at e2; cases e2
/-- x.pop() -/
def popD : D → Option D
  | .list ds => ds[ds.length - 1]?
  | _ => none
def cutL : D → Option D
  | .list ds => some (.list ds.dropLast)
  | _ => none
def popM (i : Nat) : M S := (slotM i).bind fun l => (M.opt (match l with | .list _ => some () | _ => none)).bind fun _ => (slotM i).bind fun l => (M.opt (popD l)).bind fun d => (wrM i cutL).bind fun _ => M.pure (.fr d)
theorem lf_pop {i : Nat} {x : Str} {p2 apos cpos : Pos} (hN : X.N[i]? = some x := by rfl) (hv : Vis X.env.scope x := by first | exact Or.inl rfl | exact Or.inr (Or.inl rfl) | exact Or.inr (Or.inr rfl)) (hd : (x == ("__debug__" : Str)) = false := by decide) (hcd : (x == ("__classdict__" : Str)) = false := by decide)
    (hbase : attributeBase (.Name x p2) "pop" X.env (eval (.Name x p2) X.env) = eval (.Name x p2) X.env := by rfl) (hline : (apos.endLine == cpos.line) = true := by rfl) :
    LF X W (.Call (.Attribute (.Name x p2) "pop" apos) [] [] cpos) (popM i) := by
  refine ⟨_, pe_bm0 PySem.F.plainAttrs_list PySem.F.slot_list_pop PySem.F.type_list_pop mt_pop (pe_var hN hv hd hcd) hbase hline, fun G io F σ H ρ Q ok q => ?_⟩
  obtain ⟨v, h1, ty, q1⟩ := slotL ok q
  refine ⟨v, h1, ty, ?_⟩
  obtain ⟨v2, s2, h2, e2, rs2, q2⟩ := slot_run ok q1
  rw [h1] at h2; cases h2
  obtain ⟨d, e3, q2⟩ := opt_run q2
  obtain ⟨v3, s, d', s', h3, e4, e5, e6, q3⟩ := wr_run ok q2
  rw [h1] at h3; cases h3
  rw [e2] at e4; cases e4
  cases hds : s2.d with
  | list ds =>
    rw [hds] at e3 e5
    cases e5
    obtain ⟨a, xs, rfl, ha, rl, wr⟩ := ownL ok e2 e6 h1 hds
    obtain ⟨y, hy, ry⟩ := rl.get (show ds[ds.length - 1]? = some d from e3)
    exact ⟨a, xs, y, rfl, rfl, ha, by rw [rl.length]; exact hy, q3 y F _ (Fx.refl G F) (wr (.lst xs.dropLast) rl.dropLast) ⟨.fr ry, fun z => nomatch z⟩⟩
  | _ => rw [hds] at e5; cases e5
/-- x.pop(e) -/
def popAtD (d e : D) : Option (D × D) := match d, e with
  | .list ds, .int i => if -(2 ^ 63) ≤ i ∧ i < 2 ^ 63 then (ixN ds.length i).bind fun k => (ds[k]?).map fun y => (y, .list (ds.eraseIdx k)) else none
  | _, _ => none
def popAtM (i : Nat) (me : M D) : M S := (slotM i).bind fun l => (M.opt (match l with | .list _ => some () | _ => none)).bind fun _ => me.bind fun e => (slotM i).bind fun l => (M.opt (popAtD l e)).bind fun p => (wrM i fun _ => some p.2).bind fun _ => M.pure (.fr p.1)
theorem lf_popAt {i : Nat} {x : Str} {p2 apos cpos : Pos} (he : LE X W e me) (hN : X.N[i]? = some x := by rfl) (hv : Vis X.env.scope x := by first | exact Or.inl rfl | exact Or.inr (Or.inl rfl) | exact Or.inr (Or.inr rfl)) (hd : (x == ("__debug__" : Str)) = false := by decide) (hcd : (x == ("__classdict__" : Str)) = false := by decide)
    (hbase : attributeBase (.Name x p2) "pop" X.env (eval (.Name x p2) X.env) = eval (.Name x p2) X.env := by rfl)
    (hfew : ((backTo cpos (starEach [e] X.env)).all (fun x => !x.1) && (backToKw cpos (keywordEach [] X.env)).all (fun x => x.1.isSome)
      && decide ([e].length + ([] : List Keyword).length + (if ([] : List Keyword).isEmpty then 0 else 1) < 30)) = true := by rfl)
    (hline : (apos.endLine == cpos.line) = true := by rfl) (hs : starEach [e] X.env = (false, eval e X.env) :: starEach [] X.env := by rfl) (hplain : (backTo cpos (starEach [] X.env)).any (·.1) = false := by rfl) :
    LF X W (.Call (.Attribute (.Name x p2) "pop" apos) [e] [] cpos) (popAtM i me) := by
  obtain ⟨t, ht, l⟩ := he.ex
  refine ⟨_, pe_bm PySem.F.plainAttrs_list PySem.F.slot_list_pop PySem.F.type_list_pop mt_popAt (pe_var hN hv hd hcd) (pa_cons ht pa_nil hs) hbase hfew hline hs hplain, fun G io F σ H ρ Q ok q => ?_⟩
  obtain ⟨v, h1, ty, q1⟩ := slotL ok q
  refine ⟨v, h1, ty, l G io F σ H ρ _ ok (PoE.bind q1 fun y d ρ1 F1 H1 fx ok1 r q2 => ?_)⟩
  obtain ⟨v2, s2, h2, e2, rs2, q3⟩ := slot_run ok1 q2
  rw [h1] at h2; cases h2
  obtain ⟨p, e3, q3⟩ := opt_run q3
  obtain ⟨v3, s, d', s', h3, e4, e5, e6, q4⟩ := wr_run ok1 q3
  rw [h1] at h3; cases h3
  rw [e2] at e4; cases e4
  cases e5
  cases hds : s2.d with
  | list ds =>
    rw [hds] at e3
    cases d with
    | int j =>
      simp only [popAtD] at e3
      split at e3
      · rename_i hb
        obtain ⟨k, hk, e7⟩ := Option.bind_eq_some_iff.mp e3
        obtain ⟨z, hz, e8⟩ := Option.map_eq_some_iff.mp e7
        subst e8
        cases r
        obtain ⟨a, xs, rfl, ha, rl, wr⟩ := ownL ok1 e2 e6 h1 hds
        obtain ⟨w, hw, rw'⟩ := rl.get hz
        exact ⟨a, xs, j, k, w, rfl, rfl, ha, hb.1, hb.2, by rw [rl.length]; exact (ixN_seq hk).1, hw, q4 w F1 _ (Fx.refl G F1) (wr (.lst (xs.eraseIdx k)) (rl.eraseIdx k)) ⟨.fr rw', fun z => nomatch z⟩⟩
      · cases e3
    | _ => cases e3
  | _ => rw [hds] at e3; cases e3
/-! ### x[i] = e -/
def stD (i d : D) : D → Option D
  | .list ds => match i with
    | .int k => (ixN ds.length k).map fun j => .list (ds.set j d)
    | _ => none
  | _ => none
def stM (i : Nat) (me mi : M D) : EnvD → Out := fun ρ => outM (fun _ ρ' => .nx ρ') ((me.bind fun d => (slotM i).bind fun _ => mi.bind fun k => wrM i (stD k d)) ρ)
theorem bind_pure {α : Type} (m : M α) : m.bind (fun a => M.pure a) = m := by
  funext ρ
  unfold M.bind M.pure
  cases m ρ <;> rfl
theorem ls_setItem {i : Nat} {x : Str} {ix : Expr} {mi : M D} {p2 p3 pos : Pos} (he : LE X W e me) (hi : LE X W ix mi) (hN : X.N[i]? = some x := by rfl) (hv : Vis X.env.scope x := by first | exact Or.inl rfl | exact Or.inr (Or.inl rfl) | exact Or.inr (Or.inr rfl)) (hd : (x == ("__debug__" : Str)) = false := by decide) (hcd : (x == ("__classdict__" : Str)) = false := by decide)
    (ha : ∀ v, assign (.Subscript (.Name x p2) ix p3) X.env v = (do
      let ov ← holding [v] (eval (.Name x p2) X.env)
      let iv ← holding [v, ov] (eval ix X.env)
      standAt p3
      holding [v, ov, iv] (setItem ov iv v)
      release [v, ov, iv] []) := by intro _; rfl)
    (hs : swapsWithSole [.Subscript (.Name x p2) ix p3] e pos.line X.env = pure false := by rfl) (hw : swappedStores [.Subscript (.Name x p2) ix p3] e X.env = pure none := by rfl)
    (h1 : (assignEach [.Subscript (.Name x p2) ix p3] X.env).map (·.2) = [assign (.Subscript (.Name x p2) ix p3) X.env] := by rfl) :
    LS X W (.Assign [.Subscript (.Name x p2) ix p3] e pos) (stM i me mi) := by
  obtain ⟨t, ht, l⟩ := he.ex
  obtain ⟨u, hu, lu⟩ := hi.ex
  refine ⟨_, ps_asg ht (pg_sub (pe_var hN hv hd hcd) hu set_list ha) hs hw h1, fun G io F σ H ρ E ok q => ?_⟩
  have q : PoE (fun (_ _ : Hp) (_ : Unit) (_ : Unit) (_ : L2.St) (_ : EnvD) => True) X W G io F σ (fun _ H' => E.nx σ H') ((me.bind fun d => (slotM i).bind fun _ => mi.bind fun k => wrM i (stD k d)) ρ) := PoS.outE q fun v d ρ1 F1 H1 fx ok1 _ q1 => q1 σ F1 H1 (Fx.refl G F1) ok1
  refine l G io F σ H ρ _ ok (PoE.bind q fun y d ρ1 F1 H1 fx ok1 r q1 => ?_)
  obtain ⟨v, s, hσ, e1, rs, q2⟩ := slot_run ok1 q1
  refine ⟨v, hσ, lu G io F1 σ H1 ρ1 _ ok1 (PoE.bind q2 fun z k ρ2 F2 H2 fx2 ok2 r2 q3 => ?_)⟩
  rw [← bind_pure (wrM i (stD k d))] at q3
  obtain ⟨v2, s2, d', s', h2, e2, e3, e4, q4⟩ := wr_run ok2 q3
  rw [hσ] at h2; cases h2
  cases hds : s2.d with
  | list ds =>
    rw [hds] at e3
    unfold stD at e3
    cases k with
    | int k =>
      simp only at e3
      obtain ⟨j, hj, rfl⟩ := Option.map_eq_some_iff.mp e3
      cases r2
      obtain ⟨a, xs, rfl, ha, rl, wr⟩ := ownL ok2 e2 e4 hσ hds
      exact ⟨a, xs, k, j, rfl, rfl, ha, by rw [rl.length]; exact hj, q4 () F2 _ (Fx.refl G F2) (wr (.lst (xs.set j y)) (rl.set (r.mono fx2.sub) j)) trivial⟩
    | _ => cases e3
  | _ => rw [hds] at e3; cases e3
end
end Lf

/-! LM: stores into dicts, calls of defs, a def's promise. -/
namespace Lf
open PySem PySem.Spec PyProof.Rows L2
/-! ### d[k] = v -/
def putKD (es : List (D × D)) (k : L2.Key) (d : D) : List (D × D) :=
  if (getK es k).isSome = true then es.map fun e => if keyOf e.1 = some k then (e.1, d) else e else es ++ [(keyD k, d)]
theorem RpK.append {K : Frag} {F : Hp} : ∀ {a b : List (L2.Key × V)} {c d : List (D × D)}, RpK K F a c → RpK K F b d → RpK K F (a ++ b) (c ++ d)
  | _, _, _, _, .nil, h => h
  | _, _, _, _, .cons x y, h => .cons x (RpK.append y h)
theorem RpK.length {K : Frag} {F : Hp} : ∀ {a : List (L2.Key × V)} {c : List (D × D)}, RpK K F a c → a.length = c.length
  | _, _, .nil => rfl
  | _, _, .cons _ y => congrArg (· + 1) (RpK.length y)
theorem RpK.map {K : Frag} {F : Hp} {k : L2.Key} {v : V} {d : D} (r : Rp K F v d) : ∀ {a : List (L2.Key × V)} {c : List (D × D)}, RpK K F a c →
    RpK K F (a.map fun kv => if kv.1 = k then (kv.1, v) else kv) (c.map fun e => if keyOf e.1 = some k then (e.1, d) else e)
  | _, _, .nil => .nil
  | _, _, @RpK.cons _ _ k' w vs d' ds x y => by
    rw [List.map_cons, List.map_cons]
    simp only [keyOf_keyD, Option.some.injEq]
    by_cases e : k' = k
    · rw [if_pos e, if_pos e]; exact .cons r (RpK.map r y)
    · rw [if_neg e, if_neg e]; exact .cons x (RpK.map r y)
theorem putK_def {κ : Type} [DecidableEq κ] (kvs : List (κ × V)) (k : κ) (v : V) : putK kvs k v = if (valV kvs k).isSome = true then kvs.map (fun kv => if kv.1 = k then (kv.1, v) else kv) else kvs ++ [(k, v)] := by
  unfold putK
  rw [valV_any]
theorem RpK.put {K : Frag} {F : Hp} {k : L2.Key} {v : V} {d : D} (r : Rp K F v d) {a : List (L2.Key × V)} {c : List (D × D)} (h : RpK K F a c) : RpK K F (putK a k v) (putKD c k d) := by
  rw [putK_def]
  unfold putKD
  have e : (valV a k).isSome = (getK c k).isSome := by
    rcases h.get k with ⟨v, d, e1, e2, _⟩ | ⟨e1, e2⟩ <;> rw [e1, e2] <;> rfl
  rw [e]
  split
  · exact h.map r
  · exact h.append (.cons r .nil)
def dstD (k d : D) : D → Option D
  | .dict es => match keyOf k with
    | some k => if isTd es = true then none else if ltM (es.length + 1) = true then some (.dict (putKD es k d)) else none
    | none => none
  | _ => none
def dstM (i : Nat) (me mi : M D) : EnvD → Out := fun ρ => outM (fun _ ρ' => .nx ρ') ((me.bind fun d => (slotM i).bind fun _ => mi.bind fun k => wrM i (dstD k d)) ρ)
theorem ownDK {K : Frag} {G : Hp} {io : Option Addr} {F H : Hp} {σ : L2.St} {ρ : EnvD} {i : Nat} {s s' : S} {d' : D} {v : V} {es : List (D × D)} (ok : EnvOk K G io F σ H ρ) (e : ρ[i]? = some (some s)) (hs : s.put d' = some s') (hv : σ[i]? = some (some v)) (hd : s.d = .dict es) (ht : ¬ isTd es = true) :
    ∃ a kvs, v = .ref a ∧ H a = some (.dK kvs) ∧ RpK K F kvs es ∧ ∀ o', RO K F o' d' → EnvOk K G io F σ (upd H a o') (ρ.set i (some s')) := by
  obtain ⟨v', hv', rs⟩ := ok.at_ i s e
  rw [hv] at hv'; cases hv'
  obtain ⟨a, o, rfl, ha, ro⟩ := rs.ownD (S.put_own hs)
  rw [hd] at ro
  have : ∃ kvs, o = .dK kvs ∧ RpK K F kvs es := by
    unfold RO at ro
    split at ro
    · rename_i q; cases q
    · rename_i q; cases q; exact ⟨_, rfl, ro⟩
    · rename_i q; cases q; exact absurd rfl ht
    · exact ro.elim
  obtain ⟨kvs, rfl, rl⟩ := this
  refine ⟨a, kvs, rfl, ha, rl, fun o' ro' => ?_⟩
  obtain ⟨a', _, ea, _, _, _, ok2⟩ := ok.write e hs hv ro'
  cases ea
  exact ok2
section
variable {X : Cx} {W : WX} {e : Expr} {es : List Expr} {me : M D}
theorem ls_setDict {i : Nat} {x : Str} {ix : Expr} {mi : M D} {p2 p3 pos : Pos} (hu : X.A.units + 1 < cLine) (he : LE X W e me) (hi : LE X W ix mi) (hN : X.N[i]? = some x := by rfl) (hv : Vis X.env.scope x := by first | exact Or.inl rfl | exact Or.inr (Or.inl rfl) | exact Or.inr (Or.inr rfl)) (hd : (x == ("__debug__" : Str)) = false := by decide) (hcd : (x == ("__classdict__" : Str)) = false := by decide)
    (ha : ∀ v, assign (.Subscript (.Name x p2) ix p3) X.env v = (do
      let ov ← holding [v] (eval (.Name x p2) X.env)
      let iv ← holding [v, ov] (eval ix X.env)
      standAt p3
      holding [v, ov, iv] (setItem ov iv v)
      release [v, ov, iv] []) := by intro _; rfl)
    (hs : swapsWithSole [.Subscript (.Name x p2) ix p3] e pos.line X.env = pure false := by rfl) (hw : swappedStores [.Subscript (.Name x p2) ix p3] e X.env = pure none := by rfl)
    (h1 : (assignEach [.Subscript (.Name x p2) ix p3] X.env).map (·.2) = [assign (.Subscript (.Name x p2) ix p3) X.env] := by rfl) :
    LS X W (.Assign [.Subscript (.Name x p2) ix p3] e pos) (dstM i me mi) := by
  obtain ⟨t, ht, l⟩ := he.ex
  obtain ⟨u, hu', lu⟩ := hi.ex
  refine ⟨_, ps_asg ht (pg_sub (pe_var hN hv hd hcd) hu' (set_dict hu) ha) hs hw h1, fun G io F σ H ρ E ok q => ?_⟩
  have q : PoE (fun (_ _ : Hp) (_ : Unit) (_ : Unit) (_ : L2.St) (_ : EnvD) => True) X W G io F σ (fun _ H' => E.nx σ H') ((me.bind fun d => (slotM i).bind fun _ => mi.bind fun k => wrM i (dstD k d)) ρ) := PoS.outE q fun v d ρ1 F1 H1 fx ok1 _ q1 => q1 σ F1 H1 (Fx.refl G F1) ok1
  refine l G io F σ H ρ _ ok (PoE.bind q fun y d ρ1 F1 H1 fx ok1 r q1 => ?_)
  obtain ⟨v, s, hσ, e1, rs, q2⟩ := slot_run ok1 q1
  refine ⟨v, hσ, lu G io F1 σ H1 ρ1 _ ok1 (PoE.bind q2 fun z k ρ2 F2 H2 fx2 ok2 r2 q3 => ?_)⟩
  rw [← bind_pure (wrM i (dstD k d))] at q3
  obtain ⟨v2, s2, d', s', h2, e2, e3, e4, q4⟩ := wr_run ok2 q3
  rw [hσ] at h2; cases h2
  cases hds : s2.d with
  | dict es =>
    rw [hds] at e3
    unfold dstD at e3
    simp only at e3
    split at e3
    · rename_i k' hk
      split at e3
      · cases e3
      · rename_i ht
        split at e3
        · rename_i hl
          cases e3
          obtain ⟨a, kvs, rfl, ha, rl, wr⟩ := ownDK ok2 e2 e4 hσ hds ht
          exact ⟨a, _, rfl, .inl ⟨kvs, k', ha, keyOf_rp r2 hk, by have := ltM_ok hl; have := rl.length; omega, rfl⟩, q4 () F2 _ (Fx.refl G F2) (wr (.dK (putK kvs k' y)) (rl.put (r.mono fx2.sub))) trivial⟩
        · cases e3
    · cases e3
  | _ => rw [hds] at e3; cases e3
end

/-! ### the calls of defs -/
/-- a pure def's promise: f of the data -/
def spP (K : Frag) (mg : Str → Option Value) (f : List D → Res S) : Sp := fun vs H Q E => ∃ F ds, FH F H ∧ RpL K F vs ds ∧ match f ds with
  | .ok s => ∀ v F' H', Sub H H' → Fx H F F' → FH F' H' → RS K H none F' H' v s → Q v H'
  | .exc c => ∀ C H', mg c = some (.ref C) → Sub H H' → E (.ref C) none H'
  | .bad => False
/-- the heap but a -/
def but (H : Hp) (a : Addr) : Hp := fun b => if b = a then none else H b
theorem but_ne {H : Hp} {a b : Addr} (h : b ≠ a) : but H a b = H b := if_neg h
theorem but_same {H : Hp} {a : Addr} : but H a a = none := if_pos rfl
/-- a def that works upon its first argument -/
def spIO (K : Frag) (mg : Str → Option Value) (f : D → List D → Res (S × D)) : Sp := fun vs H Q E => ∃ a rest F o d0 ds, vs = .ref a :: rest ∧ H a = some o ∧ F a = none ∧ FH F H ∧ RO K F o d0 ∧ RpL K F rest ds ∧ match f d0 ds with
  | .ok (s, d') => ∀ v F' H' o', Sub (but H a) H' → Fx (but H a) F F' → FH F' H' → F' a = none → H' a = some o' → RO K F' o' d' → RS K (but H a) (some a) F' H' v s → Q v H'
  | .exc c => ∀ C H', mg c = some (.ref C) → Sub (but H a) H' → E (.ref C) none H'
  | .bad => False
structure Callee (P : Program) (w : World) (K : Frag) (mg : Str → Option Value) (base : Heap) (x : Str) (k : Nat) (sp : Sp) : Prop where
  ex : ∃ f fd ps, mg x = some (.ref f) ∧ PySem.W.keepIn K (.ref f) = true ∧ Binds K fd ps [] ∧ FnOk P w K mg base (L2.CX P w) k f fd ps sp
section
variable {K : Frag} {G : Hp} {io : Option Addr} {F F' H H' : Hp} {σ : L2.St} {ρ : EnvD}
/-- what a callee hands back, in the caller's eyes -/
theorem RS.back {v : V} {s : S} (ok : EnvOk K G io F σ H ρ) (rs : RS K H none F' H' v s) : RS K G io F' H' v s := by
  have g : ∀ a, H a = none → G a = none := fun a h => by
    cases y : G a with
    | none => rfl
    | some w => have := ok.g _ _ y; rw [h] at this; cases this
  cases rs with
  | fr q => exact .fr q
  | ow a b c d q => exact .ow a b (g _ c) (fun z => ok.iok _ z.symm c) q
  | lk => exact .lk
  | io a b c d q => cases d
theorem RS.sep {v : V} {s : S} (ok : EnvOk K G io F σ H ρ) (rs : RS K H none F' H' v s) : Sep σ ρ v s := by
  intro ho i t ei ht hq
  obtain ⟨w, hw, rw'⟩ := ok.at_ i t ei
  rw [hw] at hq
  cases hq
  obtain ⟨a, o, rfl, ha, _⟩ := rw'.ownD ht
  cases rs with
  | fr q => cases ho
  | ow x b c d q => rw [ha] at c; cases c
  | lk => cases ho
  | io x b c d q => cases d
end
def callM (f : List D → Res S) (ms : M (List D)) : M S := ms.bind fun ds => M.lift (f ds)
section
variable {X : Cx} {W : WX} {e : Expr} {es : List Expr}
theorem lf_call {x : Str} {k : Nat} {f : List D → Res S} {ms : M (List D)} {p pos : Pos} (C : Callee X.prog X.w X.K X.mg X.base x k (spP X.K X.mg f)) (tk : Takes X W) (hr : Room k X.A) (ha : LA X W (e :: es) ms) (hg : Gl X x := by rfl) (hdb : (x == ("__debug__" : Str)) = false := by decide) (he : starEach (e :: es) X.env = (false, eval e X.env) :: starEach es X.env := by rfl) (hpl : (backTo pos (starEach es X.env)).any (·.1) = false := by rfl) :
    LF X W (.Call (.Name x p) (e :: es) [] pos) (callM f ms) := by
  obtain ⟨fa, fd, ps, h1, h2, h3, h4⟩ := C.ex
  obtain ⟨t, ht, l⟩ := ha.ex
  refine ⟨_, pe_callS h4 hr hg h1 h2 h3 (E := WE W) (fun σ => passAt tk σ) ht hdb he hpl, fun G io F σ H ρ Q ok q => l G io F σ H ρ _ ok ?_⟩
  unfold callM M.bind at q
  cases e1 : ms ρ with
  | exc c => simp only [e1] at q; exact q
  | bad => simp only [e1] at q; exact q
  | ok p =>
    obtain ⟨ds, ρ1⟩ := p
    simp only [e1] at q
    intro vs F1 H1 fx ok1 r
    refine ⟨F1, ds, ok1.f, r, ?_⟩
    unfold M.lift at q
    cases e2 : f ds with
    | bad => simp only [e2] at q; exact q
    | exc c => simp only [e2] at q; exact fun C H' hc hs => q C H' hc (ok1.g.trans hs)
    | ok s =>
      simp only [e2] at q
      intro v F2 H2 hs fx2 fh2 rs
      have fx3 : Fx G F1 F2 := ⟨fx2.sub, fun b u hb => (fx2.new b u hb).elim .inl fun z => .inr (by
        cases y : G b with
        | none => rfl
        | some w => have := ok1.g _ _ y; rw [z] at this; cases this)⟩
      have fn : ∀ b u, H1 b = some u → F1 b = none → F2 b = none := fun b u hb hf => by
        cases y : F2 b with
        | none => rfl
        | some w =>
          rcases fx2.new _ _ y with z | z
          · rw [hf] at z; cases z
          · rw [hb] at z; cases z
      have ok2 : EnvOk X.K G io F2 σ H2 ρ1 := by
        refine ⟨ok1.g.trans hs, fh2, ok1.len, fun i t ei => ?_, ok1.apart, fun b hb z => ?_⟩
        · obtain ⟨w, hw, rw'⟩ := ok1.at_ i t ei
          refine ⟨w, hw, ?_⟩
          cases rw' with
          | fr q => exact .fr (q.mono fx2.sub)
          | ow a b c d q => exact .ow (hs _ _ a) (fn _ _ a b) c d (q.mono fx2.sub)
          | lk => exact .lk
          | io a b c d q => exact .io (hs _ _ a) (fn _ _ a b) c d (q.mono fx2.sub)
        · cases y : H1 b with
          | none => exact ok1.iok b hb y
          | some u => rw [hs _ _ y] at z; cases z
      exact q v F2 H2 (fx.trans fx3) ok2 ⟨rs.back ok1, rs.sep ok1⟩
/-- an in-out call: f(x, e, ..), x an owned list -/
def callIO (i : Nat) (f : D → List D → Res (S × D)) (ms : M (List D)) : M S := (slotM i).bind fun _ => ms.bind fun ds => fun ρ => match ρ[i]? with
  | some (some s) => match f s.d ds with
    | .ok (r, d') => match s.put d' with
      | some s' => match r.plain with
        | some r => .ok (r, ρ.set i (some s'))
        | none => .bad
      | none => .bad
    | _ => .bad
  | _ => .bad
theorem ownA {K : Frag} {G : Hp} {io : Option Addr} {F H : Hp} {σ : L2.St} {ρ : EnvD} {i : Nat} {s s' : S} {d' : D} {v : V} (ok : EnvOk K G io F σ H ρ) (e : ρ[i]? = some (some s)) (hs : s.put d' = some s') (hv : σ[i]? = some (some v)) :
    ∃ a o, v = .ref a ∧ H a = some o ∧ F a = none ∧ G a = none ∧ RO K F o s.d := by
  obtain ⟨v', hv', rs⟩ := ok.at_ i s e
  rw [hv] at hv'; cases hv'
  cases rs with
  | fr q => cases hs
  | ow a b c d q => exact ⟨_, _, rfl, a, b, c, q⟩
  | lk => cases hs
  | io a b c d q => exact ⟨_, _, rfl, a, b, c, q⟩
theorem lf_callIO {x y : Str} {k i : Nat} {f : D → List D → Res (S × D)} {ms : M (List D)} {p p2 pos : Pos} (C : Callee X.prog X.w X.K X.mg X.base x k (spIO X.K X.mg f)) (tk : Takes X W) (hr : Room k X.A) (ha : LA X W es ms) (hg : Gl X x := by rfl) (hN : X.N[i]? = some y := by rfl) (hv : Vis X.env.scope y := by first | exact Or.inl rfl | exact Or.inr (Or.inl rfl) | exact Or.inr (Or.inr rfl)) (hd : (y == ("__debug__" : Str)) = false := by decide) (hcd : (y == ("__classdict__" : Str)) = false := by decide) (hdb : (x == ("__debug__" : Str)) = false := by decide)
    (he : starEach (.Name y p2 :: es) X.env = (false, eval (.Name y p2) X.env) :: starEach es X.env := by rfl) (hpl : (backTo pos (starEach es X.env)).any (·.1) = false := by rfl) :
    LF X W (.Call (.Name x p) (.Name y p2 :: es) [] pos) (callIO i f ms) := by
  obtain ⟨fa, fd, ps, h1, h2, h3, h4⟩ := C.ex
  obtain ⟨t, ht, l⟩ := ha.ex
  refine ⟨_, pe_callS h4 hr hg h1 h2 h3 (E := WE W) (fun σ => passAt tk σ) (pa_cons (pe_var hN hv hd hcd) ht he) hdb he hpl, fun G io F σ H ρ Q ok q => ?_⟩
  obtain ⟨v0, s0, hσ, _, _, q⟩ := slot_run ok q
  refine ⟨v0, hσ, l G io F σ H ρ _ ok (PoE.bind q fun vs ds ρ1 F1 H1 fx ok1 r q => ?_)⟩
  cases e1 : ρ1[i]? with
  | none => simp only [e1] at q; exact q.elim
  | some o =>
    cases o with
    | none => simp only [e1] at q; exact q.elim
    | some s =>
      simp only [e1] at q
      -- the thing handed in is owned: else nothing comes back
      cases e2 : f s.d ds with
      | bad => simp only [e2] at q; exact q.elim
      | exc c => simp only [e2] at q; exact q.elim
      | ok p =>
        obtain ⟨rs0, d'⟩ := p
        simp only [e2] at q
        cases e3 : s.put d' with
        | none => simp only [e3] at q; exact q.elim
        | some s' =>
          simp only [e3] at q
          have hrp : ∃ r1, rs0.plain = some r1 ∧ r1 = rs0 := by
            cases rs0 with
            | fr d => exact ⟨_, rfl, rfl⟩
            | ow d => exact ⟨_, rfl, rfl⟩
            | lk d => exact q.elim
            | io d => exact q.elim
          obtain ⟨r1, hr1, er1⟩ := hrp
          rw [hr1, er1] at q
          simp only at q
          rw [er1] at hr1
          obtain ⟨a, o, rfl, ha, hf, hga, ro⟩ := ownA ok1 e1 e3 hσ
          refine ⟨a, vs, F1, o, s.d, ds, rfl, ha, hf, ok1.f, ro, r, ?_⟩
          rw [e2]
          intro v F2 H2 o' hs fx2 fh2 hf2 ha2 ro2 rs
          have bg : ∀ b, G b ≠ none → b ≠ a := fun b hb z => by subst z; exact hb hga
          have hk : ∀ b u, b ≠ a → H1 b = some u → H2 b = some u := fun b u hb e => hs b u (by rw [but_ne hb]; exact e)
          have fx3 : Fx G F1 F2 := ⟨fx2.sub, fun b u hb => (fx2.new b u hb).elim .inl fun z => .inr (by
            cases y : G b with
            | none => rfl
            | some w =>
              have h1 := ok1.g _ _ y
              have h2 := bg b (by rw [y]; exact fun z => nomatch z)
              rw [but_ne h2] at z
              rw [z] at h1; cases h1)⟩
          have fn : ∀ b u, b ≠ a → H1 b = some u → F1 b = none → F2 b = none := fun b u hb he hf => by
            cases y : F2 b with
            | none => rfl
            | some w =>
              rcases fx2.new _ _ y with z | z
              · rw [hf] at z; cases z
              · rw [but_ne hb, he] at z; cases z
          have ok2 : EnvOk X.K G io F2 σ H2 (ρ1.set i (some s')) := by
            have ho : s.own = true := S.put_own e3
            have hi : i < ρ1.length := by
              rcases Nat.lt_or_ge i ρ1.length with h | h
              · exact h
              · rw [List.getElem?_eq_none h] at e1; cases e1
            have old : ∀ {m : Nat} {x : S}, (ρ1.set i (some s'))[m]? = some (some x) → x.own = true → ∃ y : S, ρ1[m]? = some (some y) ∧ y.own = true := fun {m x} h hx => by
              by_cases hm : m = i
              · subst hm; exact ⟨s, e1, ho⟩
              · rw [List.getElem?_set_ne (Ne.symm hm)] at h; exact ⟨x, h, hx⟩
            refine ⟨fun b u hb => hk b u (bg b (by rw [hb]; exact fun z => nomatch z)) (ok1.g _ _ hb), fh2, by simp [ok1.len], fun j t ej => ?_, fun j k t u v1 e1' e2' o1 o2 q1 q2 => ?_, fun b hb z => ?_⟩
            · by_cases hj : j = i
              · subst hj
                rw [List.getElem?_set_self hi] at ej
                cases ej
                refine ⟨.ref a, hσ, ?_⟩
                obtain ⟨v', hv', rs'⟩ := ok1.at_ j s e1
                rw [hσ] at hv'; cases hv'
                cases rs' with
                | fr q => cases e3
                | ow x y z w q => cases e3; exact .ow ha2 hf2 hga w ro2
                | lk => cases e3
                | io x y z w q => cases e3; exact .io ha2 hf2 hga w ro2
              · rw [List.getElem?_set_ne (Ne.symm hj)] at ej
                obtain ⟨w, hw, rw'⟩ := ok1.at_ j t ej
                refine ⟨w, hw, ?_⟩
                have ne : ∀ b, w = .ref b → t.own = true → b ≠ a := fun b hb ht z => hj (ok1.apart j i t s (.ref a) ej e1 ht ho (by rw [hw, hb, z]) hσ)
                cases rw' with
                | fr q => exact .fr (q.mono fx2.sub)
                | ow x y z w q => exact .ow (hk _ _ (ne _ rfl rfl) x) (fn _ _ (ne _ rfl rfl) x y) z w (q.mono fx2.sub)
                | lk => exact .lk
                | io x y z w q => exact .io (hk _ _ (ne _ rfl rfl) x) (fn _ _ (ne _ rfl rfl) x y) z w (q.mono fx2.sub)
            · obtain ⟨y1, a1, b1⟩ := old e1' o1
              obtain ⟨y2, a2, b2⟩ := old e2' o2
              exact ok1.apart j k y1 y2 v1 a1 a2 b1 b2 q1 q2
            · by_cases hba : b = a
              · subst hba; rw [ha2] at z; cases z
              · cases y : H1 b with
                | none => exact ok1.iok b hb y
                | some u => rw [hk _ _ hba y] at z; cases z
          have gn : ∀ b, but H1 a b = none → some b ≠ some a → H1 b = none ∧ G b = none := fun b h hne => by
            have hba : b ≠ a := fun z => hne (congrArg some z)
            rw [but_ne hba] at h
            refine ⟨h, ?_⟩
            cases y : G b with
            | none => rfl
            | some w => have := ok1.g _ _ y; rw [h] at this; cases this
          refine q v F2 H2 fx3 ok2 ⟨?_, ?_⟩
          · cases rs with
            | fr q' => exact .fr q'
            | ow x y z w q' => exact .ow x y (gn _ z w).2 (fun e => ok1.iok _ e.symm (gn _ z w).1) q'
            | lk => cases hr1
            | io x y z w q' => cases hr1
          · intro hown j t ej ht hq
            obtain ⟨w0, hw0, rw0⟩ := ok2.at_ j t ej
            rw [hw0] at hq; cases hq
            have old : ∃ y : S, ρ1[j]? = some (some y) ∧ y.own = true := by
              by_cases hm : j = i
              · subst hm; exact ⟨s, e1, S.put_own e3⟩
              · rw [List.getElem?_set_ne (Ne.symm hm)] at ej; exact ⟨t, ej, ht⟩
            obtain ⟨y, hy, hyo⟩ := old
            obtain ⟨w1, hw1, rw1⟩ := ok1.at_ j y hy
            rw [hw0] at hw1; cases hw1
            obtain ⟨b, u, rfl, hb, _⟩ := rw1.ownD hyo
            cases rs with
            | fr q => cases hown
            | ow x y z w q => rw [(gn _ z w).1] at hb; cases hb
            | lk => cases hr1
            | io x y z w q => cases hr1
end

/-! ### a def keeps its promise -/
def defD (n m : Nat) (body : EnvD → Out) (args : List D) : Res S := if args.length = n then (match body (args.map (fun d => some (S.fr d)) ++ List.replicate (m - n) none) with
  | .rt s _ => .ok s
  | .nx _ => .ok (.fr .none)
  | .exc c => .exc c
  | _ => .bad) else .bad
def defIO (n m : Nat) (body : EnvD → Out) (d0 : D) (args : List D) : Res (S × D) := if args.length + 1 = n then (match body (some (S.io d0) :: (args.map (fun d => some (S.fr d)) ++ List.replicate (m - n) none)) with
  | .rt s ρ => (match (ρ[0]? : Option (Option S)) with | some (some (S.io d)) => .ok (s, d) | _ => .bad)
  | .nx ρ => (match (ρ[0]? : Option (Option S)) with | some (some (S.io d)) => .ok (.fr .none, d) | _ => .bad)
  | _ => .bad) else .bad
section
variable {P : Program} {w : World} {K : Frag} {mg : Str → Option Value} {base : Heap}
theorem start_at {N : List Str} {vs : List V} {i : Nat} {v : V} (h : vs[i]? = some v) : (L2.start N vs)[i]? = some (some v) := by
  unfold L2.start
  have hi : i < vs.length := (List.getElem?_eq_some_iff.mp h).1
  rw [List.getElem?_append_left (by simpa using hi), List.getElem?_map, h]
  rfl
theorem rep_none {k j : Nat} {s : S} (h : (List.replicate k (none : Option S))[j]? = some (some s)) : False := by
  rw [List.getElem?_replicate] at h
  split at h <;> cases h
theorem def_pure {x qual : Str} {st : Stmt} {f : Addr} {fd : FuncData} {N ps : List Str} {k : Nat} {body : EnvD → Out} (F : Fun K x qual st f fd) (Sc : FnScope N ps (defScope st))
    (hb : ∀ (cdv : Value) (A : Around) (outer : List Env) (s : Shared) (H : Hp) (E : XK), Room k (A.deeper (envOfC qual (defScope st) s.heap.objs.size f cdv)) → LSs (cxOf (L2.CX P w) P w K mg base N qual (defScope st) f cdv A outer s H E) (fun cls d _ H => E cls d H) (defBody st) body) :
    FnOk P w K mg base (L2.CX P w) (k + 1) f fd ps (spP K mg (defD ps.length N.length body)) := by
  have hps : ps.length ≤ N.length := by have := congrArg List.length Sc.pre; rw [List.length_take] at this; omega
  have len : ∀ vs H Q E, spP K mg (defD ps.length N.length body) vs H Q E → vs.length = ps.length := by
    rintro vs H Q E ⟨F, ds, fh, r, h⟩
    unfold defD at h
    by_cases hl : ds.length = ps.length
    · rw [r.length, hl]
    · rw [if_neg hl] at h; exact h.elim
  refine F.okX Sc len fun cdv A outer s H vs Q E hr h => ?_
  have hlen := len vs H Q E h
  obtain ⟨t, ht, l⟩ := (hb cdv A outer s H E hr).ex
  refine ⟨t, ht, ?_⟩
  obtain ⟨F, ds, fh, r, h⟩ := h
  have hl : ds.length = ps.length := by rw [← r.length]; exact hlen
  have ok : EnvOk K H none F (L2.start N vs) H (ds.map (fun d => some (S.fr d)) ++ List.replicate (N.length - ps.length) none) := by
    refine ⟨Sub.refl H, fh, ?_, fun i s e => ?_, fun i j s t v e1 e2 o1 o2 => ?_, fun a z => nomatch z⟩
    · unfold L2.start
      simp only [List.length_append, List.length_map, List.length_replicate]
      omega
    · rcases Nat.lt_or_ge i ds.length with hi | hi
      · rw [List.getElem?_append_left (by simpa using hi), List.getElem?_map] at e
        cases q : ds[i]? with
        | none => rw [q] at e; cases e
        | some d =>
          rw [q] at e
          cases e
          obtain ⟨v, hv, rv⟩ := r.get q
          exact ⟨v, start_at hv, .fr rv⟩
      · rw [List.getElem?_append_right (by simpa using hi)] at e
        exact (rep_none e).elim
    · rcases Nat.lt_or_ge i ds.length with hi | hi
      · rw [List.getElem?_append_left (by simpa using hi), List.getElem?_map] at e1
        cases q : ds[i]? with
        | none => rw [q] at e1; cases e1
        | some d => rw [q] at e1; cases e1; cases o1
      · rw [List.getElem?_append_right (by simpa using hi)] at e1
        exact (rep_none e1).elim
  refine l H none F (L2.start N vs) H _ _ ok ?_
  unfold defD at h
  rw [if_pos hl] at h
  cases e : body (ds.map (fun d => some (S.fr d)) ++ List.replicate (N.length - ps.length) none) with
  | nx ρ' => rw [e] at h; exact fun σ' F' H' fx ok' => h .non F' H' ok'.g fx ok'.f (.fr .non)
  | rt s ρ' => rw [e] at h; exact fun v σ' F' H' fx ok' rs => h v F' H' ok'.g fx ok'.f rs
  | bk ρ' => rw [e] at h; exact h.elim
  | ct ρ' => rw [e] at h; exact h.elim
  | exc c => rw [e] at h; exact fun C σ' H' hc hs => h C H' hc hs
  | bad => rw [e] at h; exact h.elim
theorem def_io {x qual : Str} {st : Stmt} {f : Addr} {fd : FuncData} {N ps : List Str} {k : Nat} {body : EnvD → Out} (F : Fun K x qual st f fd) (Sc : FnScope N ps (defScope st))
    (hb : ∀ (cdv : Value) (A : Around) (outer : List Env) (s : Shared) (H : Hp) (E : XK), Room k (A.deeper (envOfC qual (defScope st) s.heap.objs.size f cdv)) → LSs (cxOf (L2.CX P w) P w K mg base N qual (defScope st) f cdv A outer s H E) (fun cls d _ H => E cls d H) (defBody st) body) :
    FnOk P w K mg base (L2.CX P w) (k + 1) f fd ps (spIO K mg (defIO ps.length N.length body)) := by
  have hps : ps.length ≤ N.length := by have := congrArg List.length Sc.pre; rw [List.length_take] at this; omega
  have len : ∀ vs H Q E, spIO K mg (defIO ps.length N.length body) vs H Q E → vs.length = ps.length := by
    rintro vs H Q E ⟨a, rest, F, o, d0, ds, rfl, ha, hf, fh, ro, r, h⟩
    unfold defIO at h
    by_cases hl : ds.length + 1 = ps.length
    · rw [List.length_cons, r.length, hl]
    · rw [if_neg hl] at h; exact h.elim
  refine F.okX Sc len fun cdv A outer s H vs Q E hr h => ?_
  have hlen := len vs H Q E h
  obtain ⟨t, ht, l⟩ := (hb cdv A outer s H E hr).ex
  refine ⟨t, ht, ?_⟩
  obtain ⟨a, rest, F, o, d0, ds, rfl, ha, hf, fh, ro, r, h⟩ := h
  have hl : ds.length + 1 = ps.length := by rw [← r.length]; simpa using hlen
  have own0 : ∀ (i : Nat) s, (some (S.io d0) :: (ds.map (fun d => some (S.fr d)) ++ List.replicate (N.length - ps.length) none))[i]? = some (some s) → (i = 0 ∧ s = .io d0) ∨ (i ≠ 0 ∧ ∃ d, s = .fr d ∧ ds[i - 1]? = some d) := fun i s e => by
    cases i with
    | zero => simp at e; exact .inl ⟨rfl, e.symm⟩
    | succ i =>
      rw [List.getElem?_cons_succ] at e
      rcases Nat.lt_or_ge i ds.length with hi | hi
      · rw [List.getElem?_append_left (by simpa using hi), List.getElem?_map] at e
        cases q : ds[i]? with
        | none => rw [q] at e; cases e
        | some d => rw [q] at e; cases e; exact .inr ⟨by omega, d, rfl, q⟩
      · rw [List.getElem?_append_right (by simpa using hi)] at e
        exact (rep_none e).elim
  have ok : EnvOk K (but H a) (some a) F (L2.start N (.ref a :: rest)) H (some (S.io d0) :: (ds.map (fun d => some (S.fr d)) ++ List.replicate (N.length - ps.length) none)) := by
    refine ⟨fun b u e => ?_, fh, ?_, fun i s e => ?_, fun i j s t v e1 e2 o1 o2 _ _ => ?_, fun b z => ?_⟩
    · by_cases hb : b = a
      · subst hb; rw [but_same] at e; cases e
      · rw [but_ne hb] at e; exact e
    · unfold L2.start
      have := r.length
      simp only [List.length_append, List.length_map, List.length_replicate, List.length_cons]
      omega
    · rcases own0 i s e with ⟨rfl, rfl⟩ | ⟨hi, d, rfl, hd⟩
      · exact ⟨.ref a, rfl, .io ha hf but_same rfl ro⟩
      · obtain ⟨v, hv, rv⟩ := r.get hd
        refine ⟨v, start_at ?_, .fr rv⟩
        obtain ⟨j, rfl⟩ : ∃ j, i = j + 1 := ⟨i - 1, by omega⟩
        simpa using hv
    · rcases own0 i s e1 with ⟨rfl, rfl⟩ | ⟨_, d, rfl, _⟩
      · rcases own0 j t e2 with ⟨rfl, rfl⟩ | ⟨_, d, rfl, _⟩
        · rfl
        · cases o2
      · cases o1
    · cases z; rw [ha]; exact fun z => nomatch z
  refine l (but H a) (some a) F _ H _ _ ok ?_
  unfold defIO at h
  rw [if_pos hl] at h
  -- what stands at the end in the first slot
  have fin : ∀ {ρ' : EnvD} {σ' : L2.St} {F' H' : Hp} {d : D}, EnvOk K (but H a) (some a) F' σ' H' ρ' → ρ'[0]? = some (some (.io d)) → ∃ o', F' a = none ∧ H' a = some o' ∧ RO K F' o' d := fun {ρ' σ' F' H' d} ok' e => by
    obtain ⟨v, _, rs⟩ := ok'.at_ 0 _ e
    cases rs with
    | io x y z w q => cases w; exact ⟨_, y, x, q⟩
  cases e : body (some (S.io d0) :: (ds.map (fun d => some (S.fr d)) ++ List.replicate (N.length - ps.length) none)) with
  | nx ρ' =>
    rw [e] at h
    simp only at h
    cases e2 : ρ'[0]? with
    | none => rw [e2] at h; exact h.elim
    | some o2 =>
      cases o2 with
      | none => rw [e2] at h; exact h.elim
      | some s2 =>
        cases s2 with
        | io d =>
          rw [e2] at h
          intro σ' F' H' fx ok'
          obtain ⟨o', h1, h2, h3⟩ := fin ok' e2
          exact h .non F' H' o' ok'.g fx ok'.f h1 h2 h3 (.fr .non)
        | _ => rw [e2] at h; exact h.elim
  | rt s ρ' =>
    rw [e] at h
    simp only at h
    cases e2 : ρ'[0]? with
    | none => rw [e2] at h; exact h.elim
    | some o2 =>
      cases o2 with
      | none => rw [e2] at h; exact h.elim
      | some s2 =>
        cases s2 with
        | io d =>
          rw [e2] at h
          intro v σ' F' H' fx ok' rs
          obtain ⟨o', h1, h2, h3⟩ := fin ok' e2
          exact h v F' H' o' ok'.g fx ok'.f h1 h2 h3 rs
        | _ => rw [e2] at h; exact h.elim
  | bk ρ' => rw [e] at h; exact h.elim
  | ct ρ' => rw [e] at h; exact h.elim
  | exc c => rw [e] at h; exact h.elim
  | bad => rw [e] at h; exact h.elim
end
end Lf

/-! LN: calls of builtins. -/
namespace Lf
open PySem PySem.Spec PyProof.Rows L2
def bltM (g : List D → Option S) (ms : M (List D)) : M S := ms.bind fun ds => M.opt (g ds)
def bltV (i : Nat) (g : List D → Option S) : M S := (slotM i).bind fun d => M.opt (g [d])
def OpCF (K : Frag) (r : List V → Hp → VK → Prop) (g : List D → Option S) : Prop :=
  ∀ (F H : Hp) (vs : List V) (ds : List D) (s : S), FH F H → RpL K F vs ds → g ds = some s → Yld K F H s (r vs H)
def OpCT (K : Frag) (r : List V → Hp → VK → Prop) (g : List D → Option S) : Prop :=
  ∀ (F H : Hp) (v : V) (d : D) (s : S), FH F H → Top K F H v d → g [d] = some s → Yld K F H s (r [v] H)
/-- a rule for one argument serves any number -/
theorem OpCT.of {K : Frag} {r : List V → Hp → VK → Prop} {g : List D → Option S} (h : OpCT K r g) (h1 : ∀ ds s, g ds = some s → ∃ d, ds = [d]) : OpCF K r g := by
  intro F H vs ds s fh rl e
  obtain ⟨d, rfl⟩ := h1 ds s e
  cases rl with
  | cons a b => cases b; exact h F H _ d s fh (.inl a) e
section
variable {X : Cx} {W : WX} {x id T y : String} {r : List V → Hp → VK → Prop} {g : List D → Option S} {e : Expr} {es : List Expr} {ms : M (List D)} {p p2 pos : Pos} {i : Nat} {n : Str}
theorem blt_run {t : TA} (hg : OpCF X.K r g) (l : ∀ G io F σ H ρ Q, EnvOk X.K G io F σ H ρ → PoE (rA X) X W G io F σ Q (ms ρ) → t σ H Q) {G io F σ H ρ} {Q : VK} (ok : EnvOk X.K G io F σ H ρ) (q : PoE (rF X G io) X W G io F σ Q (bltM g ms ρ)) : tCB r t σ H Q :=
  l G io F σ H ρ _ ok (PoE.bind q fun vs ds ρ1 F1 H1 fx ok1 r1 q1 => Yld.runM ok1 (fun s hs => hg F1 H1 vs ds s ok1.f r1 hs) q1)
theorem bltV_run (hg : OpCT X.K r g) {G io F σ H ρ} {Q : VK} (ok : EnvOk X.K G io F σ H ρ) (q : PoE (rF X G io) X W G io F σ Q (bltV i g ρ)) : tCB r (tCons (tVar i) tNil) σ H Q := by
  obtain ⟨v, s, h1, _, rs, q1⟩ := slot_run ok q
  exact ⟨v, h1, Yld.runM ok (fun s' hs => hg F H v _ s' ok.f rs.top hs) q1⟩
theorem lf_callB {x : Str} (hc : CallR X (.builtin id) r) (hg : OpCF X.K r g) (hm : X.mg x = none) (hv : bootBuiltins x = some (.builtin id)) (ha : LA X W (e :: es) ms) (hgl : Gl X x := by rfl) (hn : x ≠ "__name__" := by decide) (hdb : (x == ("__debug__" : Str)) = false := by decide)
    (he : starEach (e :: es) X.env = (false, eval e X.env) :: starEach es X.env := by rfl) (hpl : (backTo pos (starEach es X.env)).any (·.1) = false := by rfl) : LF X W (.Call (.Name x p) (e :: es) [] pos) (bltM g ms) := by
  obtain ⟨t, ht, l⟩ := ha.ex
  exact ⟨_, pe_callB hc hgl hm hv ht hn hdb he hpl, fun G io F σ H ρ Q ok q => blt_run hg l ok q⟩
theorem lf_callTy {x : Str} (hc : CallR X (.type T) r) (hg : OpCF X.K r g) (hm : X.mg x = none) (hv : bootBuiltins x = some (.type T)) (ha : LA X W (e :: es) ms) (hgl : Gl X x := by rfl) (hn : x ≠ "__name__" := by decide) (hdb : (x == ("__debug__" : Str)) = false := by decide)
    (he : starEach (e :: es) X.env = (false, eval e X.env) :: starEach es X.env := by rfl) (hpl : (backTo pos (starEach es X.env)).any (·.1) = false := by rfl) : LF X W (.Call (.Name x p) (e :: es) [] pos) (bltM g ms) := by
  obtain ⟨t, ht, l⟩ := ha.ex
  exact ⟨_, pe_callTy hc hgl hm hv ht hn hdb he hpl, fun G io F σ H ρ Q ok q => blt_run hg l ok q⟩
theorem lf_callBV {x : Str} (hc : CallR X (.builtin id) r) (hg : OpCT X.K r g) (hm : X.mg x = none) (hv : bootBuiltins x = some (.builtin id)) (hgl : Gl X x := by rfl) (hn : x ≠ "__name__" := by decide) (hdb : (x == ("__debug__" : Str)) = false := by decide)
    (hN : X.N[i]? = some n := by rfl) (hvi : Vis X.env.scope n := by first | exact Or.inl rfl | exact Or.inr (Or.inl rfl) | exact Or.inr (Or.inr rfl)) (hd : (n == ("__debug__" : Str)) = false := by decide) (hcd : (n == ("__classdict__" : Str)) = false := by decide)
    (he : starEach [.Name n p2] X.env = (false, eval (.Name n p2) X.env) :: starEach [] X.env := by rfl) (hpl : (backTo pos (starEach [] X.env)).any (·.1) = false := by rfl) : LF X W (.Call (.Name x p) [.Name n p2] [] pos) (bltV i g) :=
  ⟨_, pe_callB hc hgl hm hv (pa_cons (pe_var hN hvi hd hcd) pa_nil he) hn hdb he hpl, fun G io F σ H ρ Q ok q => bltV_run hg ok q⟩
theorem lf_callTyV {x : Str} (hc : CallR X (.type T) r) (hg : OpCT X.K r g) (hm : X.mg x = none) (hv : bootBuiltins x = some (.type T)) (hgl : Gl X x := by rfl) (hn : x ≠ "__name__" := by decide) (hdb : (x == ("__debug__" : Str)) = false := by decide)
    (hN : X.N[i]? = some n := by rfl) (hvi : Vis X.env.scope n := by first | exact Or.inl rfl | exact Or.inr (Or.inl rfl) | exact Or.inr (Or.inr rfl)) (hd : (n == ("__debug__" : Str)) = false := by decide) (hcd : (n == ("__classdict__" : Str)) = false := by decide)
    (he : starEach [.Name n p2] X.env = (false, eval (.Name n p2) X.env) :: starEach [] X.env := by rfl) (hpl : (backTo pos (starEach [] X.env)).any (·.1) = false := by rfl) : LF X W (.Call (.Name x p) [.Name n p2] [] pos) (bltV i g) :=
  ⟨_, pe_callTy hc hgl hm hv (pa_cons (pe_var hN hvi hd hcd) pa_nil he) hn hdb he hpl, fun G io F σ H ρ Q ok q => bltV_run hg ok q⟩
theorem CallR.or {f : Value} {r r' : List V → Hp → VK → Prop} (h : CallR X f r) (h' : CallR X f r') : CallR X f (fun vs H Q => r vs H Q ∨ r' vs H Q) := fun pins s σ H xs us Q I rv q => q.elim (h pins s σ H xs us Q I rv) (h' pins s σ H xs us Q I rv)
end
/-! ### the data rules -/
section
variable {K : Frag} {X : Cx}
/-- len -/
def lenS : List D → Option S
  | [.list ds] => some (.fr (.int ds.length))
  | [.tuple ds] => some (.fr (.int ds.length))
  | [.str x] => if ltM x.length = true then some (.fr (.int x.length)) else none
  | [.dict es] => if isTd es = true then none else some (.fr (.int es.length))
  | _ => none
def rLen (K : Frag) : List V → Hp → VK → Prop := fun xs H Q => (∃ x n, xs = [x] ∧ LenV K x H n ∧ Q (.int n) H) ∨ ∃ a kvs, xs = [.ref a] ∧ Rd H a (.dK kvs) ∧ Q (.int kvs.length) H
theorem cr_len : CallR X (.builtin "len") (rLen X.K) := by
  refine CallR.or call_len ?_
  intro pins s σ H xs us Q I r h
  obtain ⟨a, kvs, rfl, hr, q⟩ := h
  rw [Vals.ref1 r]
  exact d_len I hr fun t s' I' => ⟨.int kvs.length, H, I', ⟨t, rfl⟩, q⟩
theorem oc_len : OpCT K (rLen K) lenS := by
  intro F H v d s fh t e
  unfold lenS at e
  split at e
  · rename_i ds q
    cases q; cases e
    obtain ⟨a, xs, rfl, sl, rl⟩ := t.lst fh
    exact .flat (.int _) fun Q q => .inl ⟨_, _, rfl, .inl ⟨xs, sl, rl.length.symm⟩, q⟩
  · rename_i ds q
    cases q; cases e
    obtain ⟨a, xs, rfl, sl, rl, _⟩ := t.tup fh
    exact .flat (.int _) fun Q q => .inl ⟨_, _, rfl, .inr ⟨xs, sl, rl.length.symm⟩, q⟩
  · rename_i x q
    cases q
    split at e
    · rename_i hl
      cases e
      cases t.flat (fun _ z => nomatch z) (fun _ z => nomatch z)
      exact .flat (.int _) fun Q q => .inl ⟨_, _, rfl, ⟨ltM_ok hl, rfl⟩, q⟩
    · cases e
  · rename_i es q
    cases q
    split at e
    · cases e
    · rename_i ht
      cases e
      obtain ⟨a, kvs, rfl, hr, rl⟩ := t.dk fh ht
      exact .flat (.int _) fun Q q => .inr ⟨a, kvs, rfl, hr, by rw [rl.length]; exact q⟩
  · cases e
theorem len1 : ∀ ds s, lenS ds = some s → ∃ d, ds = [d] := by
  intro ds s h
  match ds, h with
  | [], h => cases h
  | [d], _ => exact ⟨d, rfl⟩
  | _ :: _ :: _, h => simp [lenS] at h
/-- abs, max, min of two -/
def absS : List D → Option S
  | [.int i] => some (.fr (.int (if i < 0 then -i else i)))
  | _ => none
theorem oc_abs : OpCF K (fun xs H Q => ∃ i, xs = [.int i] ∧ Q (.int (if i < 0 then -i else i)) H) absS := by
  intro F H vs ds s fh r e
  unfold absS at e
  split at e
  · cases e
    exact .flat (.int _) fun Q q => ⟨_, rp1 r, q⟩
  · cases e
def max2S : List D → Option S
  | [.int i, .int j] => some (.fr (.int (if j > i then j else i)))
  | _ => none
theorem oc_max2 : OpCF K (fun xs H Q => ∃ i j, xs = [.int i, .int j] ∧ Q (.int (if j > i then j else i)) H) max2S := by
  intro F H vs ds s fh r e
  unfold max2S at e
  split at e
  · cases e
    exact .flat (.int _) fun Q q => ⟨_, _, rp2 r, q⟩
  · cases e
def min2S : List D → Option S
  | [.int i, .int j] => some (.fr (.int (if j < i then j else i)))
  | _ => none
theorem oc_min2 : OpCF K (fun xs H Q => ∃ i j, xs = [.int i, .int j] ∧ Q (.int (if j < i then j else i)) H) min2S := by
  intro F H vs ds s fh r e
  unfold min2S at e
  split at e
  · cases e
    exact .flat (.int _) fun Q q => ⟨_, _, rp2 r, q⟩
  · cases e
/-- sum, max, min of a list of ints -/
def sumS : List D → Option S
  | [.list ds] => (intsD ds).map fun ns => .fr (.int ns.sum)
  | _ => none
theorem Top.ints {F H : Hp} (fh : FH F H) {v : V} {ds : List D} {ns : List Int} (t : Top K F H v (.list ds)) (e : intsD ds = some ns) : ∃ a, v = .ref a ∧ SqL K H a (ns.map V.int) := by
  obtain ⟨a, xs, rfl, sl, rl⟩ := t.lst fh
  rw [intsD_eq e] at rl
  rw [RpL.ints_of rl] at sl
  exact ⟨a, rfl, sl⟩
theorem Top.intsT {F H : Hp} (fh : FH F H) {v : V} {ds : List D} {ns : List Int} (t : Top K F H v (.tuple ds)) (e : intsD ds = some ns) : ∃ a, v = .ref a ∧ SqT K H a (ns.map V.int) := by
  obtain ⟨a, xs, rfl, sl, rl, _⟩ := t.tup fh
  rw [intsD_eq e] at rl
  rw [RpL.ints_of rl] at sl
  exact ⟨a, rfl, sl⟩
theorem oc_sum : OpCT K (rSum K) sumS := by
  intro F H v d s fh t e
  unfold sumS at e
  split at e
  · rename_i ds q
    cases q
    obtain ⟨ns, h1, rfl⟩ := Option.map_eq_some_iff.mp e
    obtain ⟨a, rfl, sl⟩ := t.ints fh h1
    exact .flat (.int _) fun Q q => ⟨a, ns, rfl, sl, q⟩
  · cases e
def maxI : List Int → Int
  | [] => 0
  | [a] => a
  | a :: r => if maxI r > a then maxI r else a
def minI : List Int → Int
  | [] => 0
  | [a] => a
  | a :: r => if minI r < a then minI r else a
theorem maxI_spec : ∀ {ns : List Int}, ns ≠ [] → maxI ns ∈ ns ∧ ∀ y ∈ ns, y ≤ maxI ns
  | [], h => absurd rfl h
  | [a], _ => ⟨by simp [maxI], by simp [maxI]⟩
  | a :: b :: r, _ => by
    have ih := maxI_spec (ns := b :: r) (by simp)
    unfold maxI
    split
    · refine ⟨List.mem_cons_of_mem _ ih.1, fun y hy => ?_⟩
      rcases List.mem_cons.mp hy with rfl | hy
      · omega
      · exact ih.2 y hy
    · refine ⟨List.mem_cons_self, fun y hy => ?_⟩
      rcases List.mem_cons.mp hy with rfl | hy
      · omega
      · have := ih.2 y hy; omega
theorem minI_spec : ∀ {ns : List Int}, ns ≠ [] → minI ns ∈ ns ∧ ∀ y ∈ ns, minI ns ≤ y
  | [], h => absurd rfl h
  | [a], _ => ⟨by simp [minI], by simp [minI]⟩
  | a :: b :: r, _ => by
    have ih := minI_spec (ns := b :: r) (by simp)
    unfold minI
    split
    · refine ⟨List.mem_cons_of_mem _ ih.1, fun y hy => ?_⟩
      rcases List.mem_cons.mp hy with rfl | hy
      · omega
      · exact ih.2 y hy
    · refine ⟨List.mem_cons_self, fun y hy => ?_⟩
      rcases List.mem_cons.mp hy with rfl | hy
      · omega
      · have := ih.2 y hy; omega
def maxLS : List D → Option S
  | [.list ds] => (intsD ds).bind fun ns => if ns = [] then none else some (.fr (.int (maxI ns)))
  | _ => none
def minLS : List D → Option S
  | [.list ds] => (intsD ds).bind fun ns => if ns = [] then none else some (.fr (.int (minI ns)))
  | _ => none
theorem oc_maxL : OpCT K (rMax K) maxLS := by
  intro F H v d s fh t e
  unfold maxLS at e
  split at e
  · rename_i ds q
    cases q
    obtain ⟨ns, h1, h2⟩ := Option.bind_eq_some_iff.mp e
    split at h2
    · cases h2
    · rename_i hne
      cases h2
      obtain ⟨a, rfl, sl⟩ := t.ints fh h1
      refine .flat (.int _) fun Q q => ⟨a, ns, rfl, sl, List.length_pos_iff.mpr hne, fun m hm hy => ?_⟩
      obtain ⟨z1, z2⟩ := maxI_spec hne
      have : m = maxI ns := Int.le_antisymm (z2 m hm) (hy _ z1)
      rw [this]; exact q
  · cases e
theorem oc_minL : OpCT K (rMin K) minLS := by
  intro F H v d s fh t e
  unfold minLS at e
  split at e
  · rename_i ds q
    cases q
    obtain ⟨ns, h1, h2⟩ := Option.bind_eq_some_iff.mp e
    split at h2
    · cases h2
    · rename_i hne
      cases h2
      obtain ⟨a, rfl, sl⟩ := t.ints fh h1
      refine .flat (.int _) fun Q q => ⟨a, ns, rfl, sl, List.length_pos_iff.mpr hne, fun m hm hy => ?_⟩
      obtain ⟨z1, z2⟩ := minI_spec hne
      have : m = minI ns := Int.le_antisymm (hy _ z1) (z2 m hm)
      rw [this]; exact q
  · cases e
/-- all, any of a list of bools -/
def boolsD : List D → Option (List Bool)
  | [] => some []
  | .bool b :: r => (boolsD r).map (b :: ·)
  | _ :: _ => none
theorem boolsD_eq : ∀ {ds : List D} {bs : List Bool}, boolsD ds = some bs → ds = bs.map PyData.bool
  | [], _, h => by cases h; rfl
  | .bool i :: r, ns, h => by
    simp only [boolsD, Option.map_eq_some_iff] at h
    obtain ⟨ms, e, rfl⟩ := h
    rw [boolsD_eq e]; rfl
  | .none :: _, _, h => by cases h
  | .int _ :: _, _, h => by cases h
  | .str _ :: _, _, h => by cases h
  | .list _ :: _, _, h => by cases h
  | .tuple _ :: _, _, h => by cases h
  | .dict _ :: _, _, h => by cases h
theorem boolsD_map : ∀ bs : List Bool, boolsD (bs.map PyData.bool) = some bs
  | [] => rfl
  | n :: r => by simp [boolsD, boolsD_map r]
theorem RpL.bools_of {F : Hp} : ∀ {bs : List Bool} {vs : List V}, RpL K F vs (bs.map PyData.bool) → vs = bs.map V.bl
  | [], _, .nil => rfl
  | _ :: _, _, .cons (.bl _) b => by rw [RpL.bools_of b]; rfl
def allS : List D → Option S
  | [.list ds] => (boolsD ds).map fun bs => .fr (.bool (bs.all _root_.id))
  | _ => none
def anyS : List D → Option S
  | [.list ds] => (boolsD ds).map fun bs => .fr (.bool (bs.any _root_.id))
  | _ => none
theorem oc_all : OpCT K (rAll K) allS := by
  intro F H v d s fh t e
  unfold allS at e
  split at e
  · rename_i ds q
    cases q
    obtain ⟨bs, h1, rfl⟩ := Option.map_eq_some_iff.mp e
    obtain ⟨a, xs, rfl, sl, rl⟩ := t.lst fh
    rw [boolsD_eq h1] at rl
    rw [RpL.bools_of rl] at sl
    exact .flat (.bl _) fun Q q => ⟨a, bs, rfl, sl, q⟩
  · cases e
theorem oc_any : OpCT K (rAny K) anyS := by
  intro F H v d s fh t e
  unfold anyS at e
  split at e
  · rename_i ds q
    cases q
    obtain ⟨bs, h1, rfl⟩ := Option.map_eq_some_iff.mp e
    obtain ⟨a, xs, rfl, sl, rl⟩ := t.lst fh
    rw [boolsD_eq h1] at rl
    rw [RpL.bools_of rl] at sl
    exact .flat (.bl _) fun Q q => ⟨a, bs, rfl, sl, q⟩
  · cases e
/-- list(x), tuple(x), int(x), str(i) -/
def listS : List D → Option S
  | [.list ds] => some (.ow (.list ds))
  | [.tuple ds] => some (.ow (.list ds))
  | _ => none
theorem oc_list : OpCT K (fun xs H Q => ∃ p ys, xs = [.ref p] ∧ (SqL K H p ys ∨ SqT K H p ys) ∧ ∀ l, H l = none → Q (.ref l) (upd H l (.lst ys))) listS := by
  intro F H v d s fh t e
  unfold listS at e
  split at e
  · rename_i ds q
    cases q; cases e
    obtain ⟨a, xs, rfl, sl, rl⟩ := t.lst fh
    exact .ow (o := .lst xs) (show RO K F (.lst xs) (.list ds) from rl) fun Q k => ⟨a, xs, rfl, .inl sl, k⟩
  · rename_i ds q
    cases q; cases e
    obtain ⟨a, xs, rfl, sl, rl, _⟩ := t.tup fh
    exact .ow (o := .lst xs) (show RO K F (.lst xs) (.list ds) from rl) fun Q k => ⟨a, xs, rfl, .inr sl, k⟩
  · cases e
def tupleS : List D → Option S
  | [.list ds] => some (.fr (.tuple ds))
  | [.tuple ds] => some (.fr (.tuple ds))
  | _ => none
theorem oc_tuple : OpCT K (fun xs H Q => ∃ p ys, xs = [.ref p] ∧ ((SqL K H p ys ∧ ∀ l, H l = none → Q (.ref l) (upd H l (.tup ys))) ∨ (SqT K H p ys ∧ Q (.ref p) H))) tupleS := by
  intro F H v d s fh t e
  unfold tupleS at e
  split at e
  · rename_i ds q
    cases q; cases e
    obtain ⟨a, xs, rfl, sl, rl⟩ := t.lst fh
    exact .tup rl fun Q k => ⟨a, xs, rfl, .inl ⟨sl, k⟩⟩
  · rename_i ds q
    cases q; cases e
    obtain ⟨a, xs, rfl, sl, rl, rp⟩ := t.tup fh
    exact .flat rp fun Q q => ⟨a, xs, rfl, .inr ⟨sl, q⟩⟩
  · cases e
def intS : List D → Option S
  | [.int i] => some (.fr (.int i))
  | [.bool b] => some (.fr (.int (if b then 1 else 0)))
  | _ => none
theorem oc_int : OpCF K (fun xs H Q => (∃ i, xs = [.int i] ∧ Q (.int i) H) ∨ ∃ k, xs = [.bl k] ∧ Q (.int (if k then 1 else 0)) H) intS := by
  intro F H vs ds s fh r e
  unfold intS at e
  split at e
  · cases e
    exact .flat (.int _) fun Q q => .inl ⟨_, rp1 r, q⟩
  · cases e
    cases r with
    | cons a b => cases a; cases b; exact .flat (.int _) fun Q q => .inr ⟨_, rfl, q⟩
  · cases e
theorem str_of_bool {prog : Program} {w : World} {A : Around} {E : Value → Shared → Prop} {s : Shared} {b : Bool} {Q : Value → Shared → Prop} (h : Q (.str (if b then "True" else "False") s.toks) { s with toks := s.toks + 1 }) : wpAny (model prog w) A (call (.type "str") [.bool b]) Q E s :=
  callType_new F.called_str (by decide) (F.typeCall_str_1 _) (F.newCall_str_1 _) (fun obj => F.args_object_init_2 obj _) F.entry_str_new
    (meets_str_new (S := fun _ R s => R (.ok (.ret (.str (if b then "True" else "False") s.toks))) { s with toks := s.toks + 1 }) fun _ _ _ _ s hq => wpAny_strOf_gives rfl (PySem.typeIs_bool s b) F.slot_bool_str F.slot_bool_repr F.entry_bool_repr (F.args_bool_repr_1 _) (gives_bool_repr b) hq (hsz := by cases b <;> decide)) ⟨typeIs_str _ _ _, h⟩
theorem call_str_bool : CallR X (.type "str") (fun xs H Q => ∃ b, xs = [.bl b] ∧ Q (.str (if b then "True" else "False")) H) := by
  intro pins s σ H xs us Q I r h
  obtain ⟨b, rfl, q⟩ := h
  obtain ⟨u, rfl, r1⟩ := vals1 r
  cases r1
  exact str_of_bool ⟨.str _, H, I.tok _, ⟨_, by cases b <;> rfl⟩, q⟩
def strS : List D → Option S
  | [.int i] => if i.natAbs.log2 < 1920 then some (.fr (.str (toString i))) else none
  | [.bool b] => some (.fr (.str (if b then "True" else "False")))
  | _ => none
theorem oc_str : OpCF K (fun xs H Q => (∃ i, xs = [.int i] ∧ i.natAbs.log2 < 1920 ∧ Q (.str (toString i)) H) ∨ ∃ b, xs = [.bl b] ∧ Q (.str (if b then "True" else "False")) H) strS := by
  intro F H vs ds s fh r e
  unfold strS at e
  split at e
  · split at e
    · rename_i hl
      cases e
      exact .flat (.str _) fun Q q => .inl ⟨_, rp1 r, hl, q⟩
    · cases e
  · cases e
    cases r with
    | cons a b => cases a; cases b; exact .flat (.str _) fun Q q => .inr ⟨_, rfl, q⟩
  · cases e
end
section
theorem sum1 : ∀ ds s, sumS ds = some s → ∃ d, ds = [d] := by
  intro ds s h
  match ds, h with
  | [], h => cases h
  | [d], _ => exact ⟨d, rfl⟩
  | _ :: _ :: _, h => simp [sumS] at h
theorem maxL1 : ∀ ds s, maxLS ds = some s → ∃ d, ds = [d] := by
  intro ds s h
  match ds, h with
  | [], h => cases h
  | [d], _ => exact ⟨d, rfl⟩
  | _ :: _ :: _, h => simp [maxLS] at h
theorem minL1 : ∀ ds s, minLS ds = some s → ∃ d, ds = [d] := by
  intro ds s h
  match ds, h with
  | [], h => cases h
  | [d], _ => exact ⟨d, rfl⟩
  | _ :: _ :: _, h => simp [minLS] at h
theorem all1 : ∀ ds s, allS ds = some s → ∃ d, ds = [d] := by
  intro ds s h
  match ds, h with
  | [], h => cases h
  | [d], _ => exact ⟨d, rfl⟩
  | _ :: _ :: _, h => simp [allS] at h
theorem any1 : ∀ ds s, anyS ds = some s → ∃ d, ds = [d] := by
  intro ds s h
  match ds, h with
  | [], h => cases h
  | [d], _ => exact ⟨d, rfl⟩
  | _ :: _ :: _, h => simp [anyS] at h
theorem list1 : ∀ ds s, listS ds = some s → ∃ d, ds = [d] := by
  intro ds s h
  match ds, h with
  | [], h => cases h
  | [d], _ => exact ⟨d, rfl⟩
  | _ :: _ :: _, h => simp [listS] at h
theorem tuple1 : ∀ ds s, tupleS ds = some s → ∃ d, ds = [d] := by
  intro ds s h
  match ds, h with
  | [], h => cases h
  | [d], _ => exact ⟨d, rfl⟩
  | _ :: _ :: _, h => simp [tupleS] at h
end
/-! ### list(range(..)) -/
section
variable {X : Cx} {W : WX} {a b : Expr} {ms : M (List D)} {p p2 pos pos2 : Pos}
theorem rgV_rp {K : Frag} {F : Hp} (i j : Int) : RpL K F (rgV i j) (rangeD i (j - i).toNat) := by
  unfold rgV rangeD
  generalize (List.range (j - i).toNat) = l
  induction l with
  | nil => exact .nil
  | cons x r ih => exact .cons (.int _) ih
def lrg1 : List D → Option S
  | [.int j] => if rgB j = true ∧ j ≤ 16777216 then some (.ow (.list (rangeD 0 j.toNat))) else none
  | _ => none
def lrg2 : List D → Option S
  | [.int i, .int j] => if -16777216 ≤ i ∧ i ≤ 16777216 ∧ -16777216 ≤ j ∧ j ≤ 16777216 ∧ j - i ≤ 16777216 then some (.ow (.list (rangeD i (j - i).toNat))) else none
  | _ => none
theorem lf_listRg1 {m : M D} (hc : X.calm = true) (h1 : X.mg "list" = none) (h2 : X.mg "range" = none) (ha : LE X W a m) (g1 : Gl X "list" := by rfl) (g2 : Gl X "range" := by rfl) (na : starEach [a] X.env = (false, eval a X.env) :: starEach [] X.env := by rfl)
    (nb : starEach [.Call (.Name "range" p2) [a] [] pos2] X.env = (false, eval (.Call (.Name "range" p2) [a] [] pos2) X.env) :: starEach [] X.env := by rfl) : LF X W (.Call (.Name "list" p) [.Call (.Name "range" p2) [a] [] pos2] [] pos) (m.bind fun d => M.opt (lrg1 [d])) := by
  obtain ⟨t, ht, l⟩ := ha.ex
  refine ⟨_, pe_listRg hc g1 h1 (prg_1 g2 h2 ht na) nb, fun G io F σ H ρ Q ok q => l G io F σ H ρ _ ok (PoE.bind q fun v d ρ1 F1 H1 fx ok1 r q1 => ?_)⟩
  unfold lrg1 at q1
  cases d with
  | int j =>
    cases r
    refine ⟨j, rfl, ?_⟩
    simp only at q1
    split at q1
    · rename_i hc
      refine ⟨⟨by decide, by decide, (rgB_ok hc.1).1, (rgB_ok hc.1).2, by omega⟩, ?_⟩
      have e : rangeD 0 j.toNat = rangeD 0 (j - 0).toNat := by rw [Int.sub_zero]
      exact (Yld.ow (K := X.K) (F := F1) (H := H1) (o := .lst (rgV 0 j)) (z := .list (rangeD 0 j.toNat)) (r := fun Q => ∀ p, H1 p = none → Q (.ref p) (upd H1 p (.lst (rgV 0 j)))) (show RO X.K F1 (.lst _) (.list _) by rw [e]; exact rgV_rp 0 j) fun Q k => k).run ok1 fun v F' H' fx ok' rs => q1 v F' H' fx ok' rs
    · exact q1.elim
  | _ => exact q1.elim
theorem lf_listRg2 {ma mb : M D} (hc : X.calm = true) (h1 : X.mg "list" = none) (h2 : X.mg "range" = none) (ha : LE X W a ma) (hb : LE X W b mb) (g1 : Gl X "list" := by rfl) (g2 : Gl X "range" := by rfl) (na : starEach [a, b] X.env = (false, eval a X.env) :: starEach [b] X.env := by rfl)
    (nb : starEach [b] X.env = (false, eval b X.env) :: starEach [] X.env := by rfl) (hp : (backTo pos2 (starEach [b] X.env)).any (·.1) = false := by rfl)
    (nc : starEach [.Call (.Name "range" p2) [a, b] [] pos2] X.env = (false, eval (.Call (.Name "range" p2) [a, b] [] pos2) X.env) :: starEach [] X.env := by rfl) : LF X W (.Call (.Name "list" p) [.Call (.Name "range" p2) [a, b] [] pos2] [] pos) (ma.bind fun d => mb.bind fun e => M.opt (lrg2 [d, e])) := by
  obtain ⟨t, ht, l⟩ := ha.ex
  obtain ⟨u, hu, l2⟩ := hb.ex
  refine ⟨_, pe_listRg hc g1 h1 (prg_2 g2 h2 ht hu na nb hp) nc, fun G io F σ H ρ Q ok q => l G io F σ H ρ _ ok (PoE.bind q fun v d ρ1 F1 H1 fx ok1 r q1 => l2 G io F1 σ H1 ρ1 _ ok1 (PoE.bind q1 fun v2 e ρ2 F2 H2 fx2 ok2 r2 q2 => ?_))⟩
  unfold lrg2 at q2
  cases d <;> first | exact q2.elim | skip
  cases e <;> first | exact q2.elim | skip
  rename_i i j
  cases r; cases r2
  refine ⟨i, j, rfl, rfl, ?_⟩
  simp only at q2
  split at q2
  · rename_i hc
    refine ⟨⟨by omega, by omega, by omega, by omega, by omega⟩, ?_⟩
    exact (Yld.ow (K := X.K) (F := F2) (H := H2) (o := .lst (rgV i j)) (z := .list (rangeD i (j - i).toNat)) (r := fun Q => ∀ p, H2 p = none → Q (.ref p) (upd H2 p (.lst (rgV i j)))) (show RO X.K F2 (.lst _) (.list _) from rgV_rp i j) fun Q k => k).run ok2 fun v F' H' fx ok' rs => q2 v F' H' fx ok' rs
  · exact q2.elim
/-- -e -/
def negD (m : M D) : M D := m.bind fun d => M.opt (match d with | .int i => some (.int (-i)) | _ => none)
theorem le_neg {m : M D} (h : LE X W a m) : LE X W (.UnaryOp .USub a pos) (negD m) := by
  obtain ⟨t, ht, l⟩ := h.ex
  refine ⟨_, pe_un un_neg ht, fun G io F σ H ρ Q ok q => l G io F σ H ρ _ ok (PoE.bind q fun v d ρ1 F1 H1 fx ok1 r q1 => ?_)⟩
  cases d with
  | int j => cases r; exact ⟨j, rfl, q1 _ F1 H1 (Fx.refl G F1) ok1 (.int _)⟩
  | _ => exact q1.elim
end
end Lf

/-! LO: isinstance, slices, reversed copies, zip, enumerate, dict walks. -/
namespace Lf
open PySem PySem.Spec PyProof.Rows L2
def tyN : D → String
  | .none => "NoneType"
  | .bool _ => "bool"
  | .int _ => "int"
  | .str _ => "str"
  | .list _ => "list"
  | .tuple _ => "tuple"
  | .dict _ => "dict"
def nDct : D → Bool
  | .dict _ => false
  | _ => true
theorem Top.ty {K : Frag} {F H : Hp} (fh : FH F H) {v : V} {d : D} (t : Top K F H v d) (hd : nDct d = true) : TyX K H v (.type (tyN d)) := by
  cases d with
  | none => cases t.flat (fun _ z => nomatch z) (fun _ z => nomatch z); exact .base .non
  | bool b => cases t.flat (fun _ z => nomatch z) (fun _ z => nomatch z); exact .base (.bl b)
  | int b => cases t.flat (fun _ z => nomatch z) (fun _ z => nomatch z); exact .base (.int b)
  | str b => cases t.flat (fun _ z => nomatch z) (fun _ z => nomatch z); exact .base (.str b)
  | list ds =>
    obtain ⟨a, xs, rfl, (h | ⟨o, h⟩) | ⟨o, _, _, h, c, _⟩, _⟩ := t.lst fh
    · exact .base (.lst h)
    · exact .base (.frz h)
    · exact .kList h c
  | tuple ds =>
    obtain ⟨a, xs, rfl, (h | ⟨o, h⟩) | ⟨o, _, _, h, c, _⟩, _, _⟩ := t.tup fh
    · exact .base (.tup h)
    · exact .fTuple h
    · exact .kTuple h c
  | dict es => cases hd
def isInt : D → Bool
  | .int _ => true
  | .bool _ => true
  | _ => false
def isBool : D → Bool
  | .bool _ => true
  | _ => false
def isStr : D → Bool
  | .str _ => true
  | _ => false
def isLst : D → Bool
  | .list _ => true
  | _ => false
def isTup : D → Bool
  | .tuple _ => true
  | _ => false
structure Isi (T : String) (f : D → Bool) : Prop where
  ok : ∀ d, kitB (tyN d) T = some (f d)
  bt : bootBuiltins (Str.ofString T) = some (.type T)
  nm : (Str.ofString T) ≠ "__name__"
  nd : ((Str.ofString T) == ("__debug__" : Str)) = false
theorem isi_int : Isi "int" isInt := ⟨by intro d; cases d <;> (dsimp only [tyN, isInt, isBool, isStr, isLst, isTup]; decide +kernel), by decide +kernel, by decide +kernel, by decide +kernel⟩
theorem isi_bool : Isi "bool" isBool := ⟨by intro d; cases d <;> (dsimp only [tyN, isInt, isBool, isStr, isLst, isTup]; decide +kernel), by decide +kernel, by decide +kernel, by decide +kernel⟩
theorem isi_str : Isi "str" isStr := ⟨by intro d; cases d <;> (dsimp only [tyN, isInt, isBool, isStr, isLst, isTup]; decide +kernel), by decide +kernel, by decide +kernel, by decide +kernel⟩
theorem isi_list : Isi "list" isLst := ⟨by intro d; cases d <;> (dsimp only [tyN, isInt, isBool, isStr, isLst, isTup]; decide +kernel), by decide +kernel, by decide +kernel, by decide +kernel⟩
theorem isi_tuple : Isi "tuple" isTup := ⟨by intro d; cases d <;> (dsimp only [tyN, isInt, isBool, isStr, isLst, isTup]; decide +kernel), by decide +kernel, by decide +kernel, by decide +kernel⟩
def isiD (f : D → Bool) (d : D) : Option D := if nDct d = true then some (.bool (f d)) else none
section
variable {X : Cx} {W : WX} {e : Expr} {p p2 p3 pos tpos : Pos} {T T2 : String} {f g : D → Bool} {m : M D} {i : Nat} {n : Str}
theorem isi_run {G io F σ H ρ} {Q : VK} {v : V} {d : D} (hT : Isi T f) (ok : EnvOk X.K G io F σ H ρ) (t : Top X.K F H v d) (q : PoE (rE X) X W G io F σ Q (M.opt (isiD f d) ρ)) : rIsi X.K [v, .ty T] H Q := by
  unfold isiD at q
  split at q
  · rename_i hd
    exact ⟨v, .ty T, _, _, f d, rfl, .ty T, t.ty ok.f hd, kit_ty (hT.ok d), q _ F H (Fx.refl G F) ok (.bl _)⟩
  · exact q.elim
theorem le_isi (hT : Isi T f) (hm : X.mg "isinstance" = none) (hm2 : X.mg (Str.ofString T) = none) (he : LE X W e m) (hg : Gl X "isinstance" := by rfl) (hg2 : Gl X (Str.ofString T) := by rfl)
    (hs : starEach [e, .Name (Str.ofString T) p2] X.env = (false, eval e X.env) :: starEach [.Name (Str.ofString T) p2] X.env := by rfl) (hs2 : starEach [.Name (Str.ofString T) p2] X.env = (false, eval (.Name (Str.ofString T) p2) X.env) :: starEach [] X.env := by rfl)
    (hpl : (backTo pos (starEach [.Name (Str.ofString T) p2] X.env)).any (·.1) = false := by rfl) : LE X W (.Call (.Name "isinstance" p) [e, .Name (Str.ofString T) p2] [] pos) (m.bind fun d => M.opt (isiD f d)) := by
  obtain ⟨t, ht, l⟩ := he.ex
  refine ⟨_, pe_callB call_isi hg hm boot_isinstance (pa_cons ht (pa_cons (pe_bltn (v := .ty T) hg2 hm2 hT.bt rfl hT.nm hT.nd) pa_nil hs2) hs) (by decide) (by decide) hs hpl, fun G io F σ H ρ Q ok q => l G io F σ H ρ _ ok (PoE.bind q fun v d ρ1 F1 H1 fx ok1 r q1 => ?_)⟩
  exact isi_run hT ok1 (.inl r) q1
theorem le_isiV (hT : Isi T f) (hm : X.mg "isinstance" = none) (hm2 : X.mg (Str.ofString T) = none) (hg : Gl X "isinstance" := by rfl) (hg2 : Gl X (Str.ofString T) := by rfl)
    (hN : X.N[i]? = some n := by rfl) (hvi : Vis X.env.scope n := by first | exact Or.inl rfl | exact Or.inr (Or.inl rfl) | exact Or.inr (Or.inr rfl)) (hd : (n == ("__debug__" : Str)) = false := by decide) (hcd : (n == ("__classdict__" : Str)) = false := by decide)
    (hs : starEach [.Name n p3, .Name (Str.ofString T) p2] X.env = (false, eval (.Name n p3) X.env) :: starEach [.Name (Str.ofString T) p2] X.env := by rfl) (hs2 : starEach [.Name (Str.ofString T) p2] X.env = (false, eval (.Name (Str.ofString T) p2) X.env) :: starEach [] X.env := by rfl)
    (hpl : (backTo pos (starEach [.Name (Str.ofString T) p2] X.env)).any (·.1) = false := by rfl) : LE X W (.Call (.Name "isinstance" p) [.Name n p3, .Name (Str.ofString T) p2] [] pos) ((slotM i).bind fun d => M.opt (isiD f d)) := by
  refine ⟨_, pe_callB call_isi hg hm boot_isinstance (pa_cons (pe_var hN hvi hd hcd) (pa_cons (pe_bltn (v := .ty T) hg2 hm2 hT.bt rfl hT.nm hT.nd) pa_nil hs2) hs) (by decide) (by decide) hs hpl, fun G io F σ H ρ Q ok q => ?_⟩
  obtain ⟨v, s, h1, _, rs, q1⟩ := slot_run ok q
  exact ⟨v, h1, isi_run hT ok rs.top q1⟩
def orF (f g : D → Bool) (d : D) : Bool := f d || g d
theorem le_isi2 {k : Nat} (hT : Isi T f) (hT2 : Isi T2 g) (hm : X.mg "isinstance" = none) (hm2 : X.mg (Str.ofString T) = none) (hm3 : X.mg (Str.ofString T2) = none) (he : LE X W e m) (hg : Gl X "isinstance" := by rfl) (hg2 : Gl X (Str.ofString T) := by rfl) (hg3 : Gl X (Str.ofString T2) := by rfl)
    (hs : starEach [e, .Tuple [.Name (Str.ofString T) p2, .Name (Str.ofString T2) p3] k tpos] X.env = (false, eval e X.env) :: starEach [.Tuple [.Name (Str.ofString T) p2, .Name (Str.ofString T2) p3] k tpos] X.env := by rfl)
    (hs2 : starEach [.Tuple [.Name (Str.ofString T) p2, .Name (Str.ofString T2) p3] k tpos] X.env = (false, eval (.Tuple [.Name (Str.ofString T) p2, .Name (Str.ofString T2) p3] k tpos) X.env) :: starEach [] X.env := by rfl)
    (hs3 : starEach [.Name (Str.ofString T) p2, .Name (Str.ofString T2) p3] X.env = (false, eval (.Name (Str.ofString T) p2) X.env) :: starEach [.Name (Str.ofString T2) p3] X.env := by rfl) (hs4 : starEach [.Name (Str.ofString T2) p3] X.env = (false, eval (.Name (Str.ofString T2) p3) X.env) :: starEach [] X.env := by rfl)
    (hpl : (backTo pos (starEach [.Tuple [.Name (Str.ofString T) p2, .Name (Str.ofString T2) p3] k tpos] X.env)).any (·.1) = false := by rfl) : LE X W (.Call (.Name "isinstance" p) [e, .Tuple [.Name (Str.ofString T) p2, .Name (Str.ofString T2) p3] k tpos] [] pos) (m.bind fun d => M.opt (isiD (orF f g) d)) := by
  obtain ⟨t, ht, l⟩ := he.ex
  refine ⟨_, pe_callB call_isiT hg hm boot_isinstance (pa_cons ht (pa_cons (pe_tup (pa_cons (pe_bltn (v := .ty T) hg2 hm2 hT.bt rfl hT.nm hT.nd) (pa_cons (pe_bltn (v := .ty T2) hg3 hm3 hT2.bt rfl hT2.nm hT2.nd) pa_nil hs4) hs3)) pa_nil hs2) hs) (by decide) (by decide) hs hpl, fun G io F σ H ρ Q ok q => l G io F σ H ρ _ ok (PoE.bind q fun v d ρ1 F1 H1 fx ok1 r q1 => ?_)⟩
  refine ⟨by show 2 ≤ sizeLine; rw [sizeLine_eq]; omega, fun T0 hT0 => ?_⟩
  have ok2 : EnvOk X.K G io F1 σ (upd H1 T0 (.tup [.ty T, .ty T2])) ρ1 := ok1.junk hT0
  unfold isiD at q1
  split at q1
  · rename_i hd
    refine ⟨v, T0, [.ty T, .ty T2], _, [.type T, .type T2], orF f g d, rfl, upd_same, .cons (.ty T) (.cons (.ty T2) .nil), Top.ty ok2.f (.inl r) hd, ?_, q1 _ F1 _ (Fx.refl G F1) ok2 (.bl _)⟩
    refine kitAny_cons (b := f d) (kit_ty (hT.ok d)) (fun e1 => ?_) (fun e1 => by unfold orF; rw [e1]; rfl)
    refine kitAny_cons (b := g d) (kit_ty (hT2.ok d)) (fun e2 => ?_) (fun e2 => by unfold orF; rw [e2, Bool.or_true])
    unfold orF
    rw [e1, e2]; rfl
  · exact q1.elim
end
/-! ### slices -/
def intO : D → Option Int
  | .int i => some i
  | _ => none
structure LO (X : Cx) (W : WX) (e : Option Expr) (m : M (Option Int)) : Prop where
  ex : ∃ t, PO X e t ∧ ∀ G io F σ H ρ Q, EnvOk X.K G io F σ H ρ → PoE (fun _ _ (a b : Option Int) _ _ => a = b) X W G io F σ Q (m ρ) → t σ H Q
def cutD (ds : List D) (lo hi : Option Int) : List D := (ds.drop (HT.sIx ds.length 0 lo)).take (HT.sIx ds.length ds.length hi - HT.sIx ds.length 0 lo)
theorem RpL.cut {K : Frag} {F : Hp} {xs : List V} {ds : List D} (r : RpL K F xs ds) (lo hi : Option Int) : RpL K F (cutV xs lo hi) (cutD ds lo hi) := by
  unfold cutV cutD
  rw [r.length]
  exact (r.drop _).take _
def sliceS (d : D) (lo hi : Option Int) : Option S := match d with
  | .list ds => some (.ow (.list (cutD ds lo hi)))
  | .tuple ds => some (.fr (.tuple (cutD ds lo hi)))
  | _ => none
theorem cut_all {ds : List D} {lo hi : Option Int} (h : HT.sIx ds.length 0 lo = 0 ∧ HT.sIx ds.length ds.length hi = ds.length) : cutD ds lo hi = ds := by
  unfold cutD
  rw [h.1, h.2]; simp
section
variable {X : Cx} {W : WX} {e : Expr} {lo hi : Option Expr} {p p2 pos : Pos} {m : M D} {ml mh : M (Option Int)} {i : Nat} {n : Str}
theorem lo_none : LO X W none (M.pure none) := ⟨_, po_none, fun G io F σ H ρ Q ok q => q none F H (Fx.refl G F) ok rfl⟩
theorem lo_some (h : LE X W e m) : LO X W (some e) (m.bind fun d => M.opt ((intO d).map some)) := by
  obtain ⟨t, ht, l⟩ := h.ex
  refine ⟨_, po_some ht, fun G io F σ H ρ Q ok q => l G io F σ H ρ _ ok (PoE.bind q fun v d ρ1 F1 H1 fx ok1 r q1 => ?_)⟩
  cases d with
  | int j => cases r; exact ⟨j, rfl, q1 _ F1 H1 (Fx.refl G F1) ok1 rfl⟩
  | _ => exact q1.elim
abbrev rSlLA (K : Frag) : V → Option Int → Option Int → Hp → VK → Prop := fun x lo hi H Q => rSlL K x lo hi H Q ∨ rSlA K x lo hi H Q
theorem sl_run {G io F σ H ρ} {Q : VK} {v : V} {d : D} {l h : Option Int} (ok : EnvOk X.K G io F σ H ρ) (t : Top X.K F H v d) (q : PoE (rF X G io) X W G io F σ Q (M.opt (sliceS d l h) ρ)) : rSlLA X.K v l h H Q := by
  unfold sliceS at q
  split at q
  · rename_i ds
    obtain ⟨a, xs, rfl, sl, rl⟩ := t.lst ok.f
    refine .inl ⟨a, xs, rfl, sl, ?_⟩
    exact (Yld.ow (K := X.K) (F := F) (H := H) (o := .lst (cutV xs l h)) (z := .list (cutD ds l h)) (r := fun Q => ∀ p, H p = none → Q (.ref p) (upd H p (.lst (cutV xs l h)))) (show RO X.K F (.lst _) (.list _) from rl.cut l h) fun Q k => k).run ok fun v F' H' fx ok' rs => q v F' H' fx ok' rs
  · rename_i ds
    obtain ⟨a, xs, rfl, sl, rl, rp⟩ := t.tup ok.f
    refine .inr ⟨a, xs, rfl, sl, fun hw => ?_, fun hw => ?_⟩
    · rw [rl.length] at hw
      exact q (.ref a) F H (Fx.refl G F) ok ⟨.fr (by rw [cut_all hw]; exact rp), fun z => nomatch z⟩
    · exact (Yld.tup (K := X.K) (F := F) (H := H) (r := fun Q => ∀ p, H p = none → Q (.ref p) (upd H p (.tup (cutV xs l h)))) (rl.cut l h) fun Q k => k).run ok fun v F' H' fx ok' rs => q v F' H' fx ok' rs
  · exact q.elim
def sliceM (m : M D) (ml mh : M (Option Int)) : M S := m.bind fun d => ml.bind fun l => mh.bind fun h => M.opt (sliceS d l h)
theorem lf_slice (he : LE X W e m) (hl : LO X W lo ml) (hh : LO X W hi mh) : LF X W (.Subscript e (.Slice lo hi none p2) pos) (sliceM m ml mh) := by
  obtain ⟨t, ht, l⟩ := he.ex
  obtain ⟨tl, hl, ll⟩ := hl.ex
  obtain ⟨th, hh, lh⟩ := hh.ex
  refine ⟨_, pe_slice (sl_list.or sl_tupA) ht hl hh, fun G io F σ H ρ Q ok q => l G io F σ H ρ _ ok (PoE.bind q fun v d ρ1 F1 H1 fx ok1 r q1 => ?_)⟩
  refine ll G io F1 σ H1 ρ1 _ ok1 (PoE.bind q1 fun a b ρ2 F2 H2 fx2 ok2 r2 q2 => ?_)
  refine lh G io F2 σ H2 ρ2 _ ok2 (PoE.bind q2 fun a' b' ρ3 F3 H3 fx3 ok3 r3 q3 => ?_)
  have r2 : a = b := r2
  have r3 : a' = b' := r3
  subst r2 r3
  exact sl_run ok3 (.inl (r.mono (fx2.sub.trans fx3.sub))) q3
def sliceV (i : Nat) (ml mh : M (Option Int)) : M S := (slotM i).bind fun _ => ml.bind fun l => mh.bind fun h => (slotM i).bind fun d => M.opt (sliceS d l h)
theorem lf_sliceV (hl : LO X W lo ml) (hh : LO X W hi mh) (hN : X.N[i]? = some n := by rfl) (hvi : Vis X.env.scope n := by first | exact Or.inl rfl | exact Or.inr (Or.inl rfl) | exact Or.inr (Or.inr rfl)) (hd : (n == ("__debug__" : Str)) = false := by decide) (hcd : (n == ("__classdict__" : Str)) = false := by decide) :
    LF X W (.Subscript (.Name n p) (.Slice lo hi none p2) pos) (sliceV i ml mh) := by
  obtain ⟨tl, hl, ll⟩ := hl.ex
  obtain ⟨th, hh, lh⟩ := hh.ex
  refine ⟨_, pe_slice (sl_list.or sl_tupA) (pe_var hN hvi hd hcd) hl hh, fun G io F σ H ρ Q ok q => ?_⟩
  obtain ⟨v, s, h1, _, rs, q1⟩ := slot_run ok q
  refine ⟨v, h1, ll G io F σ H ρ _ ok (PoE.bind q1 fun a b ρ2 F2 H2 fx2 ok2 r2 q2 => ?_)⟩
  refine lh G io F2 σ H2 ρ2 _ ok2 (PoE.bind q2 fun a' b' ρ3 F3 H3 fx3 ok3 r3 q3 => ?_)
  have r2 : a = b := r2
  have r3 : a' = b' := r3
  subst r2 r3
  obtain ⟨v2, s2, h2, _, rs2, q4⟩ := slot_run ok3 q3
  rw [h1] at h2; cases h2
  exact sl_run ok3 rs2.top q4
end
end Lf

/-! LP: reversed copies, zip, enumerate. -/
namespace Lf
open PySem PySem.Spec PyProof.Rows L2
section
variable {prog : Program} {w : World} {A : Around} {E : Value → Shared → Prop} {s : Shared}
theorem adj_rev (n : Nat) : Builtin.Slice.sliceAdjust none none (-1) (n : Int) = ((n : Int) - 1, -1) := by
  unfold Builtin.Slice.sliceAdjust
  rfl
theorem places_rev (n : Nat) : Builtin.Slice.slicePlaces ((n : Int) - 1) (-1) (-1) = n := by
  unfold Builtin.Slice.slicePlaces
  have h1 : ¬ ((-1 : Int) > 0) := by decide
  simp only [h1, if_false]
  by_cases h : (n : Int) - 1 > -1
  · rw [if_pos h, show (- -1 : Int) = 1 from rfl, Int.ediv_one]
    omega
  · rw [if_neg h]
    omega
theorem applied_rev {sl : Addr} {vl vu vs : Value} {n : Nat} {Q : Int × Int × Nat → Shared → Prop} (hs : s.heap.IsSliceOf sl vl vu vs) (pl : IsPart vl none) (pu : IsPart vu none) (ps : IsPart vs (some (-1)))
    (h : Q ((n : Int) - 1, -1, n) s) : wpAny (model prog w) A (Builtin.Slice.sliceApplied (.ref sl) (pure (n : Int))) Q E s := by
  obtain ⟨os, hos, hcs, hds⟩ := id hs
  unfold Builtin.Slice.sliceApplied Builtin.Slice.sliceFields
  refine wpAny_bind (wpAny_bind (wpAny_field hos hds (x := vl) rfl (wpAny_bind (wpAny_field hos hds (x := vu) rfl (wpAny_bind (wpAny_field hos hds (x := vs) rfl (wpAny_pure ?_)))))))
  refine wpAny_bind (HT.slicePart_ ps ?_)
  show wpAny _ _ (if ((-1 : Int) == 0) = true then _ else _) _ _ s
  rw [if_neg (by decide)]
  refine wpAny_bind (HT.slicePart_ pl (wpAny_bind (HT.slicePart_ pu (wpAny_bind (wpAny_pure ?_)))))
  show wpAny _ _ (match Builtin.Slice.sliceAdjust none none (-1) (n : Int) with | (lo, hi) => pure (lo, (-1 : Int), Builtin.Slice.slicePlaces lo hi (-1))) _ _ s
  rw [adj_rev n]
  show wpAny _ _ (pure ((n : Int) - 1, (-1 : Int), Builtin.Slice.slicePlaces ((n : Int) - 1) (-1) (-1))) _ _ s
  rw [places_rev]
  exact wpAny_pure h
theorem fm_congr {α β : Type} {f g : α → Option β} : ∀ {l : List α}, (∀ a ∈ l, f a = g a) → l.filterMap f = l.filterMap g
  | [], _ => rfl
  | a :: l, h => by
    rw [List.filterMap_cons, List.filterMap_cons, h a List.mem_cons_self, fm_congr fun b hb => h b (List.mem_cons_of_mem _ hb)]
theorem pick_rev (xs : Array Value) : ((List.range xs.size).filterMap fun (m : Nat) => xs[((xs.size : Int) - 1 + (m : Int) * (-1)).toNat]?).toArray = xs.toList.reverse.toArray := by
  have h0 := PySem.W.krv_all xs
  have e : (List.range xs.size).filterMap (fun (m : Nat) => xs[((xs.size : Int) - 1 + (m : Int) * (-1)).toNat]?) = ((List.range xs.size).map fun k => xs.size - 1 - k).filterMap (xs[·]?) := by
    rw [List.filterMap_map]
    refine fm_congr fun m hm => ?_
    have hlt : m < xs.size := List.mem_range.mp hm
    have e2 : ((xs.size : Int) - 1 + (m : Int) * (-1)).toNat = xs.size - 1 - m := by omega
    show xs[((xs.size : Int) - 1 + (m : Int) * (-1)).toNat]? = xs[xs.size - 1 - m]?
    rw [e2]
  rw [e, PySem.W.krv_range, List.filterMap_reverse, h0]
theorem getItem_tuple_rev {t sl : Addr} {items : Array Value} {vl vu vs : Value} {Q : Value → Shared → Prop} (ht : IsTup s.heap t items) (hs : s.heap.IsSliceOf sl vl vu vs) (pl : IsPart vl none) (pu : IsPart vu none) (ps : IsPart vs (some (-1)))
    (h : Q (.ref s.heap.objs.size) { s with heap := s.heap.push { cls := .type "tuple", data := .seq items.toList.reverse.toArray } }) (hsz : items.size ≤ sizeLine) : wpAny (model prog w) A (getItem (.ref t) (.ref sl)) Q E s := by
  have hok : sizeOk (.seq items.toList.reverse.toArray) := by
    show items.toList.reverse.toArray.size ≤ sizeLine
    rw [List.size_toArray, List.length_reverse, Array.length_toList]
    exact hsz
  obtain ⟨os, hos, hcs, hds⟩ := id hs
  have hTs : s.TypeIs (.ref sl) "slice" := ⟨os, hos, hcs⟩
  unfold getItem
  try with_reducible refine wpAny_holding ?_
  first | refine wpAny_bind (wpAny_pure ?_) | skip
  refine wpAny_bind (wpAny_sequenceKey ht.typeIs (by decide) ?_)
  refine wpAny_bind (wpAny_callSpecial?_slot (name := Str.ofString "__getitem__") ht.typeIs slot_tuple_getitem (wpAny_call_entry slot_tuple_getitem ht.typeIs entry_tuple_getitem ?_ (args_tuple_getitem _ _)))
  show wpAny _ _ (Builtin.Tuple.tupleItemsOf (.ref t) >>= _) _ _ s
  refine wpAny_bind (tupleItemsOf_ ht (wpAny_bind (wpAny_typeOf hTs ?_)))
  rw [if_pos (by decide)]
  refine wpAny_bind (applied_rev hs pl pu ps ?_)
  have hno : ¬ (((items.size : Int) - 1 == 0 && (-1 : Int) == 1 && items.size == items.size) = true) := by simp
  show wpAny _ _ (if ((items.size : Int) - 1 == 0 && (-1 : Int) == 1 && items.size == items.size) = true then _ else _) _ _ s
  rw [if_neg hno, pick_rev]
  first
    | exact wpAny_bind (m := Builtin.Tuple.tupleExact _) (wpAny_newObj_type (wpAny_pure ⟨_, rfl, wpAny_pure h⟩) hok)
    | exact wpAny_bind (m := Builtin.Tuple.tupleExact _) (wpAny_newObj_type (wpAny_bind (wpAny_pure (wpAny_pure ⟨_, rfl, wpAny_pure h⟩))) hok)
    | exact wpAny_bind (wpAny_bind (m := Builtin.Tuple.tupleExact _) (wpAny_newObj_type (wpAny_pure (wpAny_pure ⟨_, rfl, wpAny_pure h⟩)) hok))
    | exact wpAny_bind (wpAny_bind (m := Builtin.Tuple.tupleExact _) (wpAny_newObj_type (wpAny_pure ⟨_, rfl, wpAny_pure h⟩) hok))
end
/-- e[::-1], a list or a tuple -/
def tRevA (K : Frag) (te : TE) : TE := fun σ H Q => te σ H fun x H1 => ∃ a xs, x = .ref a ∧ ((SqL K H1 a xs ∧ ∀ p, H1 p = none → Q (.ref p) (upd H1 p (.lst xs.reverse))) ∨ (SqT K H1 a xs ∧ ∀ p, H1 p = none → Q (.ref p) (upd H1 p (.tup xs.reverse))))
theorem pe_revA {X : Cx} {e : Expr} {te : TE} {k : Nat} {p1 p2 p3 pos : Pos} (he : PE X e te) : PE X (.Subscript e (.Slice none none (some (.UnaryOp .USub (.Constant (.int 1) k p1) p2)) p3) pos) (tRevA X.K te) := by
  refine ⟨fun pins s σ H Q I h => Subscript_ (thn (he.run pins s σ H _ I h) fun v s1 ⟨x, H1, I1, r1, q1⟩ => ?_)⟩
  obtain ⟨a, xs, ex, hx⟩ := q1
  subst ex
  cases r1
  have hst : PO X (some (.UnaryOp .USub (.Constant (.int 1) k p1) p2)) (tPart (tUn (rU fun i => .int (-i)) (tC (.int 1)))) := po_some (pe_un un_neg pe_int)
  refine wpAny_Slice (thn (po_none.run pins s1 σ H1 (fun o H2 => o = none ∧ H2 = H1) I1 ⟨rfl, rfl⟩) fun vl s2 ⟨l, H2, I2, pl, el, e2⟩ => ?_)
  subst el e2
  refine thn (po_none.run pins s2 σ H2 (fun o H3 => o = none ∧ H3 = H2) I2 ⟨rfl, rfl⟩) fun vu s3 ⟨u, H3, I3, pu, eu, e3⟩ => ?_
  subst eu e3
  refine thn (hst.run pins s3 σ H3 (fun o H4 => o = some (-1) ∧ H4 = H3) I3 ⟨1, rfl, -1, rfl, rfl, rfl⟩) fun vs s4 ⟨o, H4, I4, ps, eo, e4⟩ => ?_
  subst eo e4
  have I5 : Inv X pins σ H4 { s4 with heap := s4.heap.push { cls := .type "slice", data := .fields #[vl, vu, vs] } } := I4.kept (t' := s4.toks) fun b ob q => Heap.get?_push_of_some _ q
  show wpAny (model X.prog X.w) X.A (subscriptTail e (.Slice none none (some (.UnaryOp .USub (.Constant (.int 1) k p1) p2)) p3) (.ref a) (.ref s4.heap.objs.size)) (EP X pins σ Q) X.xe { s4 with heap := s4.heap.push { cls := .type "slice", data := .fields #[vl, vu, vs] } }
  rcases hx with ⟨hx, q⟩ | ⟨hx, q⟩
  · obtain ⟨its, r, ht, hz⟩ := I5.list hx
    have hlen := r.length
    refine tail_any (ops := [.ref a, .ref s4.heap.objs.size]) ht.isList.typeIs (PySem.slot_list_getitem.lookup) ?_ (by with_unfolding_all rfl)
    refine wpAny_getItem_list_slice ht.isList (Heap.IsSliceOf.new _ vl vu vs) pl pu ps (by decide) ?_ (by rw [List.size_toArray]; omega)
    rw [PySem.W.krv_pick]
    exact ⟨.ref _, _, I5.laid (t' := s4.toks) (o := .lst xs.reverse) (fun b ob q => Heap.get?_push_of_some _ q) (Nat.le_refl _) ⟨by rw [List.length_reverse]; exact hz, _, 0, r.reverse, Heap.get?_push_size _ rfl⟩, rfl, q _ (I5.hok.fresh (Nat.le_refl _))⟩
  · obtain ⟨its, r, ht, hz⟩ := I5.tuple hx
    have hlen := r.length
    refine tail_any (ops := [.ref a, .ref s4.heap.objs.size]) ht.typeIs (PyProof.Rows.slot_tuple_getitem.lookup) ?_ (by with_unfolding_all rfl)
    refine getItem_tuple_rev ht (Heap.IsSliceOf.new _ vl vu vs) pl pu ps ?_ (by rw [List.size_toArray]; omega)
    exact ⟨.ref _, _, I5.laid (t' := s4.toks) (o := .tup xs.reverse) (fun b ob q => Heap.get?_push_of_some _ q) (Nat.le_refl _) ⟨by rw [List.length_reverse]; exact hz, _, r.reverse, IsTup.new _ _⟩, rfl, q _ (I5.hok.fresh (Nat.le_refl _))⟩
def revS : D → Option S
  | .list ds => some (.ow (.list ds.reverse))
  | .tuple ds => some (.fr (.tuple ds.reverse))
  | _ => none
section
variable {X : Cx} {W : WX} {e e2 : Expr} {m : M D} {pos : Pos} {i : Nat} {n : Str}
theorem rev_run {G io F σ H ρ} {Q : VK} {v : V} {d : D} (ok : EnvOk X.K G io F σ H ρ) (t : Top X.K F H v d) (q : PoE (rF X G io) X W G io F σ Q (M.opt (revS d) ρ)) :
    ∃ a xs, v = .ref a ∧ ((SqL X.K H a xs ∧ ∀ p, H p = none → Q (.ref p) (upd H p (.lst xs.reverse))) ∨ (SqT X.K H a xs ∧ ∀ p, H p = none → Q (.ref p) (upd H p (.tup xs.reverse)))) := by
  unfold revS at q
  split at q
  · rename_i ds
    obtain ⟨a, xs, rfl, sl, rl⟩ := t.lst ok.f
    exact ⟨a, xs, rfl, .inl ⟨sl, (Yld.ow (K := X.K) (F := F) (H := H) (o := .lst xs.reverse) (z := .list ds.reverse) (r := fun Q => ∀ p, H p = none → Q (.ref p) (upd H p (.lst xs.reverse))) (show RO X.K F (.lst _) (.list _) from rl.reverse) fun Q k => k).run ok fun v F' H' fx ok' rs => q v F' H' fx ok' rs⟩⟩
  · rename_i ds
    obtain ⟨a, xs, rfl, sl, rl, _⟩ := t.tup ok.f
    exact ⟨a, xs, rfl, .inr ⟨sl, (Yld.tup (K := X.K) (F := F) (H := H) (r := fun Q => ∀ p, H p = none → Q (.ref p) (upd H p (.tup xs.reverse))) rl.reverse fun Q k => k).run ok fun v F' H' fx ok' rs => q v F' H' fx ok' rs⟩⟩
  · exact q.elim
theorem lf_rev {k : Nat} {p1 p2 p3 : Pos} (h : LE X W e m) : LF X W (.Subscript e (.Slice none none (some (.UnaryOp .USub (.Constant (.int 1) k p1) p2)) p3) pos) (m.bind fun d => M.opt (revS d)) := by
  obtain ⟨t, ht, l⟩ := h.ex
  exact ⟨_, pe_revA ht, fun G io F σ H ρ Q ok q => l G io F σ H ρ _ ok (PoE.bind q fun v d ρ1 F1 H1 fx ok1 r q1 => rev_run ok1 (.inl r) q1)⟩
/-! ### zip -/
def zipD : List D → List D → List D
  | a :: x, b :: y => .tuple [a, b] :: zipD x y
  | _, _ => []
theorem zipD_len : ∀ (a b : List D), (zipD a b).length = min a.length b.length
  | [], [] => rfl
  | [], _ :: _ => by simp [zipD]
  | _ :: _, [] => by simp [zipD]
  | _ :: a, _ :: b => by simp only [zipD, List.length_cons, zipD_len a b]; omega
theorem zipD_get : ∀ {a b : List D} {i : Nat} {d : D}, (zipD a b)[i]? = some d → ∃ x y, a[i]? = some x ∧ b[i]? = some y ∧ d = .tuple [x, y]
  | [], [], i, d, h => by simp [zipD] at h
  | [], _ :: _, i, d, h => by simp [zipD] at h
  | _ :: _, [], i, d, h => by simp [zipD] at h
  | x :: a, y :: b, 0, d, h => ⟨x, y, rfl, rfl, by simpa [zipD] using h.symm⟩
  | x :: a, y :: b, i + 1, d, h => by
    obtain ⟨u, v, h1, h2, h3⟩ := zipD_get (a := a) (b := b) (i := i) (by simpa [zipD] using h)
    exact ⟨u, v, by simpa using h1, by simpa using h2, h3⟩
theorem wk_zip {K : Frag} {G F : Hp} {a b : Addr} {xs ys : List V} {ds es : List D} (s1 : SqL K F a xs) (s2 : SqL K F b ys) (l1 : RpL K F xs ds) (l2 : RpL K F ys es) : Wk K G F (Itz K a b) (zipD ds es) where
  step := fun F' H' i hs _ fh => ⟨fun hi => by
    rw [zipD_len, Nat.lt_min] at hi
    exact ⟨xs, ys, xs[i]'(by rw [l1.length]; exact hi.1), ys[i]'(by rw [l2.length]; exact hi.2), sqL_H fh (sqL_mono hs s1), sqL_H fh (sqL_mono hs s2), by simp, by simp⟩, fun hi => by
    rw [zipD_len] at hi
    have hi : ds.length ≤ i ∨ es.length ≤ i := by omega
    exact ⟨xs, ys, sqL_H fh (sqL_mono hs s1), sqL_H fh (sqL_mono hs s2), by rw [l1.length, l2.length]; exact hi⟩⟩
  yld := fun F' H' i d x H'' hs _ fh e y => by
    obtain ⟨T, u, v, rfl, hT, rfl, y1, y2⟩ := y
    obtain ⟨c, d, e1, e2, rfl⟩ := zipD_get e
    obtain ⟨u', h1, r1⟩ := l1.get e1
    obtain ⟨v', h2, r2⟩ := l2.get e2
    have z1 := y1 xs (sqL_H fh (sqL_mono hs s1))
    have z2 := y2 ys (sqL_H fh (sqL_mono hs s2))
    rw [h1] at z1; cases z1
    rw [h2] at z2; cases z2
    exact .inr ⟨T, [u, v], [c, d], rfl, hT, rfl, rfl, .cons (r1.mono hs) (.cons (r2.mono hs) .nil)⟩
theorem wk_zipT {K : Frag} {G F : Hp} {a b : Addr} {xs ys : List V} {ds es : List D} (s1 : SqT K F a xs) (s2 : SqT K F b ys) (l1 : RpL K F xs ds) (l2 : RpL K F ys es) : Wk K G F (RZ.ItzT K a b) (zipD ds es) where
  step := fun F' H' i hs _ fh => ⟨fun hi => by
    rw [zipD_len, Nat.lt_min] at hi
    exact ⟨xs, ys, xs[i]'(by rw [l1.length]; exact hi.1), ys[i]'(by rw [l2.length]; exact hi.2), sqT_H fh (sqT_mono hs s1), sqT_H fh (sqT_mono hs s2), by simp, by simp⟩, fun hi => by
    rw [zipD_len] at hi
    have hi : ds.length ≤ i ∨ es.length ≤ i := by omega
    exact ⟨xs, ys, sqT_H fh (sqT_mono hs s1), sqT_H fh (sqT_mono hs s2), by rw [l1.length, l2.length]; exact hi⟩⟩
  yld := fun F' H' i d x H'' hs _ fh e y => by
    obtain ⟨T, u, v, rfl, hT, rfl, y1, y2⟩ := y
    obtain ⟨c, d, e1, e2, rfl⟩ := zipD_get e
    obtain ⟨u', h1, r1⟩ := l1.get e1
    obtain ⟨v', h2, r2⟩ := l2.get e2
    have z1 := y1 xs (sqT_H fh (sqT_mono hs s1))
    have z2 := y2 ys (sqT_H fh (sqT_mono hs s2))
    rw [h1] at z1; cases z1
    rw [h2] at z2; cases z2
    exact .inr ⟨T, [u, v], [c, d], rfl, hT, rfl, rfl, .cons (r1.mono hs) (.cons (r2.mono hs) .nil)⟩
def zipO : List D → Option (List D)
  | [.list ds, .list es] => some (zipD ds es)
  | [.tuple ds, .tuple es] => some (zipD ds es)
  | _ => none
theorem li_zip {elts : List Expr} {kk : Nat} {tpos p : Pos} {ms : M (List D)} (hm : X.mg "zip" = none) (ha : LA X W [e, e2] ms) (hg : Gl X "zip" := by rfl) (hs : starEach [e, e2] X.env = (false, eval e X.env) :: starEach [e2] X.env := by rfl) (hpl : (backTo pos (starEach [e2] X.env)).any (·.1) = false := by rfl) :
    LI X W (.Tuple elts kk tpos) (.Call (.Name "zip" p) [e, e2] [] pos) (rgM zipO ms) := by
  obtain ⟨t, ht, l⟩ := ha.ex
  refine ⟨_, RZ.pi_zipA hg hm ht hs hpl, fun G io F σ H ρ R ok q => l G io F σ H ρ _ ok (PoI.bind q fun vs ds ρ1 F1 H1 fx ok1 r q1 => ?_)⟩
  unfold zipO at q1
  split at q1
  · cases r with
    | cons a b =>
      cases b with
      | cons b c =>
        cases c
        cases a with
        | lst s1 l1 =>
          cases b with
          | lst s2 l2 => exact ⟨_, _, _, _, rfl, .inl ⟨sqL_H ok1.f s1, sqL_H ok1.f s2, q1 _ F1 H1 (Fx.refl G F1) ok1 (fun _ => wk_zip s1 s2 l1 l2)⟩⟩
  · cases r with
    | cons a b =>
      cases b with
      | cons b c =>
        cases c
        cases a with
        | tup s1 l1 =>
          cases b with
          | tup s2 l2 => exact ⟨_, _, _, _, rfl, .inr ⟨sqT_H ok1.f s1, sqT_H ok1.f s2, q1 _ F1 H1 (Fx.refl G F1) ok1 (fun _ => wk_zipT s1 s2 l1 l2)⟩⟩
  · exact q1.elim
end
end Lf

/-! LQ: enumerate of lists and tuples; walks over dicts. -/
namespace Lf
open PySem PySem.Spec PyProof.Rows L2
set_option maxHeartbeats 1000000 in
theorem enum_new1 {v : Value} {o : Obj} {P : Heap → Prop} (B : PySem.Begins v o P) :
    Meets (Builtin.«enumerate.__new__» ⟨[.type "enumerate", v], []⟩) (fun _ R s => P s.heap ∧
      R (.ok (.ret (.ref (s.heap.push o).objs.size))) { s with heap := (s.heap.push o).push { cls := .type "enumerate", data := .fields #[.none, .bool false, .ref s.heap.objs.size, rawInt 0, .none, .none] } }) :=
  .of_wp fun prog w A R s h => by
    obtain ⟨hp, g, d, tk, os⟩ := s; obtain ⟨h1, h⟩ := h
    have hsub := sub_enumerate
    have q1 : ∀ {A' : Around} {E : Value → Shared → Prop} {Q : Value → Shared → Prop}, Q (.ref hp.objs.size) ⟨hp.push o, g, d, tk, os⟩ → wpAny (model prog w) A' (pyIter v) Q E ⟨hp, g, d, tk, os⟩ :=
      fun q => B.iter prog w _ _ ⟨hp, g, d, tk, os⟩ _ h1 q
    wp_walk using q1
    refine wpAny_stack_any fun st => wpAny_pure ?_
    split
    · rename_i c _ _ _ _ _
      cases (c == Value.type "enumerate")
      · wp_walk using q1
        exact ⟨_, rfl, h⟩
      · wp_walk using q1
        exact ⟨_, rfl, h⟩
    · wp_walk using q1
      exact ⟨_, rfl, h⟩
section
variable {prog : Program} {w : World} {A : Around} {E : Value → Shared → Prop} {s : Shared}
theorem call_enum1 {v : Value} {o : Obj} {P : Heap → Prop} {Q : Value → Shared → Prop} (B : PySem.Begins v o P) (h1 : P s.heap)
    (h : ∀ h', IsEnum h' (s.heap.objs.size + 1) s.heap.objs.size 0 .none → h'.get? s.heap.objs.size = some o → (∀ b o, s.heap.get? b = some o → h'.get? b = some o) → Q (.ref (s.heap.objs.size + 1)) { s with heap := h' }) :
    wpAny (model prog w) A (call (.type "enumerate") [v]) Q E s := by
  refine callType_new F.called_enumerate (by decide) (F.typeCall_enumerate_1 _) (F.newCall_enumerate_1 _) (fun obj => F.args_object_init_2 obj _) F.entry_enumerate_new (enum_new1 B) ⟨h1, ?_⟩
  have hz : (s.heap.push o).objs.size = s.heap.objs.size + 1 := Heap.size_push ..
  show _ ∧ _
  rw [hz]
  have he : IsEnum ((s.heap.push o).push { cls := .type "enumerate", data := .fields #[.none, .bool false, .ref s.heap.objs.size, rawInt 0, .none, .none] }) (s.heap.objs.size + 1) s.heap.objs.size 0 .none := by
    have q := Heap.get?_push_size (s.heap.push o) (o := { cls := .type "enumerate", data := .fields #[.none, .bool false, .ref s.heap.objs.size, rawInt 0, .none, .none] }) rfl
    rw [hz] at q; exact q
  exact ⟨⟨_, he, rfl⟩, h _ he (Heap.get?_push_of_some _ (Heap.get?_push_size _ B.free)) fun b o x => Heap.get?_push_of_some _ (Heap.get?_push_of_some _ x)⟩
end
/-- the iterator stands at or behind the end -/
theorem Draws.over_end {prog : Program} {w : World} {A : Around} (hh : A.handled = none) (it t : Addr) (hne : t ≠ it) (items : Array Value) (i : Nat) (hi : items.size ≤ i) :
    PySem.Draws prog w A it [it, t] i (fun _ _ => False) (fun j h => j = i ∧ h.IsTupleIter it t i ∧ h.IsTuple t items) where
  live := fun _ _ st => let ⟨o, ho, _⟩ := st.2.1; ⟨o, ho⟩
  frame := fun _ _ _ st hk => ⟨st.1, st.2.1.at fun o e => hk it (by simp) o e, st.2.2.at fun o e => hk t (by simp) o e⟩
  item := fun j s Q E hj st hQ => absurd st.1 (Nat.ne_of_lt hj)
  done := fun s Q E st hE => wpAny_nextOf_tuple_end hh st.2.1 st.2.2 (by simp [hi]) hE
/-- the tuple at a, each item in a new pair -/
def IteT (K : Frag) (a : Addr) : It :=
  ⟨fun i H => ∃ (xs : List V) (x : V), SqT K H a xs ∧ xs[i]? = some x, fun i H v H' => ∃ T x, v = .ref T ∧ H T = none ∧ H' = upd H T (.tup [.int (i : Nat), x]) ∧ ∀ xs, SqT K H a xs → xs[i]? = some x, fun i H => ∃ xs : List V, SqT K H a xs ∧ xs.length ≤ i⟩
theorem turn_enumT {P : Program} {w : World} {K : Frag} {elts : List Expr} {kk : Nat} {tpos : Pos} (a e it : Addr) :
    Turn P w K (.Tuple elts kk tpos) (IteT K a) [e, it] e (fun i h => (∃ old, IsEnum h e it ((i : Nat) : Int) old) ∧ h.IsTupleIter it a i ∧ e ≠ it ∧ e ≠ a ∧ a ≠ it) where
  mem := by simp
  obj := fun i h st b hb => by
    obtain ⟨⟨old, he⟩, ⟨o, ho, hc, hd⟩, _⟩ := st
    have e' : b = e ∨ b = it := by simpa using hb
    rcases e' with z | z
    · rw [z]; exact ⟨_, he, fun v q => nomatch q⟩
    · rw [z]; exact ⟨o, ho, fun v q => by rw [hd] at q; cases q⟩
  keep := fun i h h' st k => let ⟨⟨old, he⟩, hi, hne⟩ := st; ⟨⟨old, k e (by simp) _ he⟩, hi.at fun o q => k it (by simp) o q, hne⟩
  item := by
    intro X hP hw hK hc i pins s σ H E I hf st hg
    subst hP hw hK
    obtain ⟨⟨old, he⟩, hit, hne, hea, hai⟩ := st
    obtain ⟨xs, x, hq, hx⟩ := hg
    obtain ⟨its, rv, p, hz⟩ := I.tuple hq
    obtain ⟨u, hu, ru⟩ := rv.get hx
    have hel : e < s.heap.objs.size := Heap.lt_size he
    have hil : it < s.heap.objs.size := by obtain ⟨_, q, _⟩ := hit; exact Heap.lt_size q
    have hlt : i < its.toArray.size := by rw [List.size_toArray]; exact (List.getElem?_eq_some_iff.mp hu).1
    have dr := Draws.tuple (prog := X.prog) (w := X.w) (A := X.A.in1) (I.ok.hd hc) it a hai its.toArray
    refine wpAny_pyNext_enum_itemD dr he ⟨hit, p⟩ hlt hne (by simp [hne, hea]) fun y h' tk hy ho hst hT hsz hk => ?_
    obtain ⟨hit', p'⟩ := hst
    have ey : y = u := by
      have q : its[i]? = some y := by simpa using hy
      rw [hu] at q; cases q; rfl
    subst ey
    refine ⟨_, rfl, wpAny_letOwnedTupleGo_enum (s := { s with heap := h', toks := tk + 1 }) ho fun h'' he' sb => ?_⟩
    have hT2 : h''.get? s.heap.objs.size = some { cls := .type "tuple", data := .seq #[.int i tk, y] } := (sb.2 _ (Nat.ne_of_gt hel)).trans hT
    have new : ObjOk X.prog X.w (upd H s.heap.objs.size (.tup [.int (i : Nat), x])) h'' s.heap.objs.size (.tup [.int (i : Nat), x]) :=
      ⟨by show 2 ≤ sizeLine; decide, [.int i tk, y], .cons ⟨_, rfl⟩ (.cons ru .nil), ⟨_, hT2, rfl, _, rfl⟩⟩
    have I1 : Inv X pins σ (upd H s.heap.objs.size (.tup [.int (i : Nat), x])) { s with heap := h'', toks := tk + 1 } :=
      I.turnedNew (ch := [e, it]) (fun b ob hb q => (sb.2 b (fun z => hb (by simp [z]))).trans (hk b ob (fun z => hb (by simp [z])) (fun z => hb (by simp [z])) q)) hf (Nat.le_refl _) new
    refine ⟨.ref s.heap.objs.size, _, I1, rfl, ⟨_, x, rfl, I.hok.fresh (Nat.le_refl _), rfl, fun ys hy => by rw [I.tuple_inj hy hq]; exact hx⟩, ⟨⟨y, ?_⟩, hit'.at fun o q => (sb.2 it (Ne.symm hne)).trans q, hne, hea, hai⟩, fun b hb => ?_⟩
    · have e1 : ((i + 1 : Nat) : Int) = (i : Int) + 1 := by omega
      rw [e1]; exact he'
    · have hb' : b < s.heap.objs.size := by
        have e' : b = e ∨ b = it := by simpa using hb
        rcases e' with z | z <;> rw [z] <;> assumption
      rw [upd_ne (Nat.ne_of_lt hb')]
      exact (hf b hb).1
  done := by
    intro X hP hw hK hc i pins s σ H E I hf st hg
    subst hP hw hK
    obtain ⟨⟨old, he⟩, hit, hne, hea, hai⟩ := st
    obtain ⟨xs, hq, hx⟩ := hg
    obtain ⟨its, rv, p, hz⟩ := I.tuple hq
    obtain ⟨f0, f1, f2, f3, f4, f5⟩ := hf it (by simp)
    have hl := rv.length
    have dr := Draws.over_end (prog := X.prog) (w := X.w) (A := X.A.in1) (I.ok.hd hc) it a hai its.toArray
    exact wpAny_pyNext_enum_endD (dr i (by simp; omega)) he ⟨rfl, hit, p⟩ fun h' eb => ⟨rfl, I.turned (t' := s.toks) (fun b o hb q => eb b o hb q) f0 f1 f3 f4 f5⟩
  self := fun A i s Q E st h => let ⟨⟨_, he⟩, _⟩ := st; wpAny_pyIter_enum he h

def iEnumA (K : Frag) (ta : TA) : TI := fun σ H R => ta σ H fun vs H1 => ∃ a xs, vs = [.ref a] ∧ ((SqL K H1 a xs ∧ R (Ite K a) H1) ∨ (SqT K H1 a xs ∧ R (IteT K a) H1))
theorem pi_enumA {X : Cx} {e : Expr} {ta : TA} {p pos tpos : Pos} {elts : List Expr} {kk : Nat} (hg : Gl X "enumerate") (hm : X.mg "enumerate" = none) (ha : PA X [e] ta) (hs : starEach [e] X.env = [(false, eval e X.env)] := by rfl) :
    PI X (.Tuple elts kk tpos) (.Call (.Name "enumerate" p) [e] [] pos) (iEnumA X.K ta) := by
  refine ⟨fun pins s σ H R I h => ?_⟩
  refine Call_ (ld_blt I hg hm boot_enumerate (PyProof.Rows.callWith_type1 (thn (ha.run pos pins s σ H _ I h) fun us s1 ⟨vs, H1, I1, r1, q1⟩ => ?_) hs rfl))
  obtain ⟨a, xs, ex, q⟩ := q1
  subst ex
  rw [Vals.ref1 r1]
  have fpl : ∀ b ∈ [s1.heap.objs.size + 1, s1.heap.objs.size], s1.heap.objs.size ≤ b := fun b hb => by
    have e' : b = s1.heap.objs.size + 1 ∨ b = s1.heap.objs.size := by simpa using hb
    omega
  rcases q with ⟨hq, q⟩ | ⟨hq, q⟩
  · obtain ⟨its, rv, p', hz⟩ := I1.list hq
    refine call_enumerate_list p'.isList fun h' he hit hsz hk => wpAny_pyIter_enum he ?_
    have I2 : Inv X pins σ H1 { s1 with heap := h' } := I1.kept (t' := s1.toks) hk
    exact ⟨s1.heap.objs.size + 1, [s1.heap.objs.size + 1, s1.heap.objs.size], _, _, H1, rfl, I2, turn_enum a (s1.heap.objs.size + 1) s1.heap.objs.size, ⟨⟨.none, he⟩, hit, Nat.succ_ne_self _⟩, fun b hb => I1.fpOk (fpl b hb) (I1.hok.fresh (fpl b hb)), q⟩
  · obtain ⟨its, rv, p', hz⟩ := I1.tuple hq
    obtain ⟨o, ho, _⟩ := id p'
    have hal : a < s1.heap.objs.size := Heap.lt_size ho
    refine call_enum1 (PySem.begins_tuple a its.toArray) p' fun h' he hit hk => wpAny_pyIter_enum he ?_
    have I2 : Inv X pins σ H1 { s1 with heap := h' } := I1.kept (t' := s1.toks) hk
    exact ⟨s1.heap.objs.size + 1, [s1.heap.objs.size + 1, s1.heap.objs.size], _, _, H1, rfl, I2, turn_enumT a (s1.heap.objs.size + 1) s1.heap.objs.size, ⟨⟨.none, he⟩, ⟨_, hit, rfl, rfl⟩, Nat.succ_ne_self _, Nat.ne_of_gt (Nat.lt_succ_of_lt hal), Nat.ne_of_lt hal⟩, fun b hb => I1.fpOk (fpl b hb) (I1.hok.fresh (fpl b hb)), q⟩
def enumFrom (i : Nat) : List D → List D
  | [] => []
  | d :: ds => .tuple [.int (i : Nat), d] :: enumFrom (i + 1) ds
theorem enumFrom_len : ∀ (i : Nat) (ds : List D), (enumFrom i ds).length = ds.length
  | _, [] => rfl
  | i, _ :: ds => by simp only [enumFrom, List.length_cons, enumFrom_len (i + 1) ds]
theorem enumFrom_get : ∀ {k : Nat} {ds : List D} {i : Nat} {d : D}, (enumFrom k ds)[i]? = some d → ∃ x, ds[i]? = some x ∧ d = .tuple [.int ((k + i : Nat) : Int), x]
  | k, [], i, d, h => by simp [enumFrom] at h
  | k, x :: ds, 0, d, h => ⟨x, rfl, by simpa [enumFrom] using h.symm⟩
  | k, x :: ds, i + 1, d, h => by
    obtain ⟨y, h1, h2⟩ := enumFrom_get (k := k + 1) (ds := ds) (i := i) (by simpa [enumFrom] using h)
    exact ⟨y, by simpa using h1, by rw [h2, show k + 1 + i = k + (i + 1) by omega]⟩
section
variable {K : Frag} {G F : Hp} {a : Addr} {xs : List V} {ds : List D}
theorem wk_enum (s1 : SqL K F a xs) (l1 : RpL K F xs ds) : Wk K G F (Ite K a) (enumFrom 0 ds) where
  step := fun F' H' i hs _ fh => ⟨fun hi => by
    rw [enumFrom_len] at hi
    exact ⟨xs, xs[i]'(by rw [l1.length]; exact hi), sqL_H fh (sqL_mono hs s1), by simp⟩, fun hi => by
    rw [enumFrom_len] at hi
    exact ⟨xs, sqL_H fh (sqL_mono hs s1), by rw [l1.length]; exact hi⟩⟩
  yld := fun F' H' i d x H'' hs _ fh e y => by
    obtain ⟨T, u, rfl, hT, rfl, y1⟩ := y
    obtain ⟨c, e1, rfl⟩ := enumFrom_get e
    obtain ⟨u', h1, r1⟩ := l1.get e1
    have z1 := y1 xs (sqL_H fh (sqL_mono hs s1))
    rw [h1] at z1; cases z1
    exact .inr ⟨T, [.int (i : Nat), u], [.int ((0 + i : Nat) : Int), c], rfl, hT, rfl, rfl, .cons (by rw [Nat.zero_add]; exact .int _) (.cons (r1.mono hs) .nil)⟩
theorem wk_enumT (s1 : SqT K F a xs) (l1 : RpL K F xs ds) : Wk K G F (IteT K a) (enumFrom 0 ds) where
  step := fun F' H' i hs _ fh => ⟨fun hi => by
    rw [enumFrom_len] at hi
    exact ⟨xs, xs[i]'(by rw [l1.length]; exact hi), sqT_H fh (sqT_mono hs s1), by simp⟩, fun hi => by
    rw [enumFrom_len] at hi
    exact ⟨xs, sqT_H fh (sqT_mono hs s1), by rw [l1.length]; exact hi⟩⟩
  yld := fun F' H' i d x H'' hs _ fh e y => by
    obtain ⟨T, u, rfl, hT, rfl, y1⟩ := y
    obtain ⟨c, e1, rfl⟩ := enumFrom_get e
    obtain ⟨u', h1, r1⟩ := l1.get e1
    have z1 := y1 xs (sqT_H fh (sqT_mono hs s1))
    rw [h1] at z1; cases z1
    exact .inr ⟨T, [.int (i : Nat), u], [.int ((0 + i : Nat) : Int), c], rfl, hT, rfl, rfl, .cons (by rw [Nat.zero_add]; exact .int _) (.cons (r1.mono hs) .nil)⟩
theorem kv_rp {K : Frag} {F : Hp} (k : L2.Key) : Rp K F (kV k) (keyD k) := by
  cases k with
  | inl i => exact .int i
  | inr x => exact .str x
theorem keys_get {F' : Hp} {k : L2.Key} {v : V} {dd : D} : ∀ {kvs : List (L2.Key × V)} {es : List (D × D)} {i : Nat}, RpK K F kvs es → kvs[i]? = some (k, v) → (es.map (·.1))[i]? = some dd → Rp K F' (kV k) dd
  | _, _, _, .nil, h, _ => by simp at h
  | _, _, 0, .cons a b, h1, h2 => by
    simp at h1 h2
    obtain ⟨rfl, rfl⟩ := h1
    subst h2
    exact kv_rp _
  | _, _, i + 1, .cons a b, h1, h2 => keys_get b (by simpa using h1) (by simpa using h2)
/-- the keys of a locked dict -/
theorem wk_keys {d : Addr} {od : Obj} {kvs : List (L2.Key × V)} {es : List (D × D)} (hg : G d = some (.frz od (.dK kvs))) (l : RpK K F kvs es) : Wk K G F (Itk d od kvs) (es.map (·.1)) where
  step := fun F' H' i hs gs fh => ⟨fun hi => ⟨gs _ _ hg, by rw [l.length]; simpa using hi⟩, fun hi => ⟨gs _ _ hg, by rw [l.length]; simpa using hi⟩⟩
  yld := fun F' H' i dd x H'' hs gs fh e y => by
    obtain ⟨rfl, k, v, hk, rfl⟩ := y
    refine .inl ⟨rfl, ?_⟩
    exact (keys_get l hk e)
end
section
variable {X : Cx} {W : WX} {e : Expr} {p pos : Pos}
def enumO : List D → Option (List D)
  | [.list ds] => some (enumFrom 0 ds)
  | [.tuple ds] => some (enumFrom 0 ds)
  | _ => none
theorem li_enum {elts : List Expr} {kk : Nat} {tpos : Pos} {ms : M (List D)} (hm : X.mg "enumerate" = none) (ha : LA X W [e] ms) (hg : Gl X "enumerate" := by rfl) (hs : starEach [e] X.env = [(false, eval e X.env)] := by rfl) :
    LI X W (.Tuple elts kk tpos) (.Call (.Name "enumerate" p) [e] [] pos) (rgM enumO ms) := by
  obtain ⟨t, ht, l⟩ := ha.ex
  refine ⟨_, pi_enumA hg hm ht hs, fun G io F σ H ρ R ok q => l G io F σ H ρ _ ok (PoI.bind q fun vs ds ρ1 F1 H1 fx ok1 r q1 => ?_)⟩
  unfold enumO at q1
  split at q1
  · cases r with
    | cons a b =>
      cases b
      cases a with
      | lst s1 l1 => exact ⟨_, _, rfl, .inl ⟨sqL_H ok1.f s1, q1 _ F1 H1 (Fx.refl G F1) ok1 (fun _ => wk_enum s1 l1)⟩⟩
  · cases r with
    | cons a b =>
      cases b
      cases a with
      | tup s1 l1 => exact ⟨_, _, rfl, .inr ⟨sqT_H ok1.f s1, q1 _ F1 H1 (Fx.refl G F1) ok1 (fun _ => wk_enumT s1 l1)⟩⟩
  · exact q1.elim
end
end Lf

/-! LR: a list of lists whose inner lists are written. -/
namespace Lf
open PySem PySem.Spec PyProof.Rows L2
/-- the list at A0 holds the lists at bs, all within G' and behind G; what the inner ones hold is dss -/
structure Deep (K : Frag) (G G' F : Hp) (A0 : Addr) (bs : List Addr) (dss : List (List D)) : Prop where
  sub : Sub G G'
  gD : G A0 = none
  fD : F A0 = none
  top : G' A0 = some (.lst (bs.map V.ref))
  nd : bs.Nodup
  nD : A0 ∉ bs
  len : bs.length = dss.length
  cell : ∀ (j : Nat) b ds, bs[j]? = some b → dss[j]? = some ds → ∃ xs, G' b = some (.lst xs) ∧ RpL K F xs ds ∧ F b = none ∧ G b = none
section
variable {K : Frag} {G G' F F' H : Hp} {A0 : Addr} {bs : List Addr} {dss : List (List D)} {io : Option Addr} {σ : L2.St} {ρ : EnvD}
theorem Fx.none_of {a : Addr} (fx : Fx G F F') (h : F a = none) (hg : ∃ o, G a = some o) : F' a = none := by
  cases z : F' a with
  | none => rfl
  | some w =>
    obtain ⟨o, hg⟩ := hg
    rcases fx.new _ _ z with q | q
    · rw [h] at q; cases q
    · rw [hg] at q; cases q
theorem Fx.up (s : Sub G G') (fx : Fx G' F F') : Fx G F F' := ⟨fx.sub, fun a o h => (fx.new a o h).imp id fun z => by
  cases y : G a with
  | none => rfl
  | some w => have := s _ _ y; rw [z] at this; cases this⟩
theorem Deep.mono (d : Deep K G G' F A0 bs dss) (fx : Fx G' F F') : Deep K G G' F' A0 bs dss :=
  ⟨d.sub, d.gD, fx.none_of d.fD ⟨_, d.top⟩, d.top, d.nd, d.nD, d.len, fun j b ds h1 h2 => by
    obtain ⟨xs, a1, a2, a3, a4⟩ := d.cell j b ds h1 h2
    exact ⟨xs, a1, a2.mono fx.sub, fx.none_of a3 ⟨_, a1⟩, a4⟩⟩
theorem idx_inj {bs : List Addr} (nd : bs.Nodup) {i j : Nat} {b : Addr} (h1 : bs[i]? = some b) (h2 : bs[j]? = some b) : i = j := by
  obtain ⟨l1, e1⟩ := List.getElem?_eq_some_iff.mp h1
  obtain ⟨l2, e2⟩ := List.getElem?_eq_some_iff.mp h2
  have key := List.pairwise_iff_getElem.mp nd
  rcases Nat.lt_trichotomy i j with h | h | h
  · exact absurd (e1.trans e2.symm) (key i j l1 l2 h)
  · exact h
  · exact absurd (e2.trans e1.symm) (key j i l2 l1 h)
/-- an inner list written -/
theorem Deep.put (d : Deep K G G' F A0 bs dss) {j : Nat} {b : Addr} {xs : List V} {ds : List D} (hb : bs[j]? = some b) (r : RpL K F xs ds) : Deep K G (upd G' b (.lst xs)) F A0 bs (dss.set j ds) := by
  have hj : j < dss.length := by rw [← d.len]; exact (List.getElem?_eq_some_iff.mp hb).1
  obtain ⟨ys, c1, _, c3, c4⟩ := d.cell j b (dss[j]) hb (by simp [hj])
  have nb : A0 ≠ b := fun z => d.nD (z ▸ List.mem_of_getElem? hb)
  refine ⟨fun a o h => ?_, d.gD, d.fD, by rw [upd_ne nb]; exact d.top, d.nd, d.nD, by rw [List.length_set]; exact d.len, fun i c es h1 h2 => ?_⟩
  · rw [upd_ne (fun z => by rw [z, c4] at h; cases h)]; exact d.sub _ _ h
  · by_cases hi : i = j
    · subst hi
      rw [hb] at h1; cases h1
      rw [List.getElem?_set_self hj] at h2; cases h2
      exact ⟨xs, upd_same, r, c3, c4⟩
    · rw [List.getElem?_set_ne (Ne.symm hi)] at h2
      obtain ⟨zs, e1, e2, e3, e4⟩ := d.cell i c es h1 h2
      have nc : c ≠ b := fun z => by subst z; exact hi (idx_inj d.nd h1 hb)
      exact ⟨zs, by rw [upd_ne nc]; exact e1, e2, e3, e4⟩
/-- a cell of G' is written -/
theorem EnvOk.appG {b : Addr} {o o' : HO} (ok : EnvOk K G' io F σ H ρ) (hg : G' b = some o) (hf : F b = none) : EnvOk K (upd G' b o') io F σ (upd H b o') ρ := by
  have e : upd (but G' b) b o = G' := by
    funext a
    by_cases h : a = b
    · subst h; rw [upd_same]; exact hg.symm
    · rw [upd_ne h, but_ne h]
  have e' : upd (but G' b) b o' = upd G' b o' := by
    funext a
    by_cases h : a = b
    · subst h; rw [upd_same, upd_same]
    · rw [upd_ne h, upd_ne h, but_ne h]
  rw [← e] at ok
  rw [← e']
  exact ok.app hf but_same
/-- all frozen -/
theorem Deep.ret (d : Deep K G G' F A0 bs dss) (ok : EnvOk K G' none F σ H ρ) : ∃ F', Fx G F F' ∧ EnvOk K G none F' σ H ρ ∧ RS K G none F' H (.ref A0) (.ow (.list (dss.map .list))) := by
  let F' : Hp := fun a => if a ∈ bs then G' a else F a
  have inb : ∀ {b}, b ∈ bs → ∃ xs, G' b = some (.lst xs) ∧ F b = none ∧ G b = none ∧ F' b = some (.lst xs) := fun {b} hb => by
    obtain ⟨j, hj⟩ := List.getElem?_of_mem hb
    have hl : j < dss.length := by rw [← d.len]; exact (List.getElem?_eq_some_iff.mp hj).1
    obtain ⟨xs, a1, a2, a3, a4⟩ := d.cell j b (dss[j]) hj (by simp [hl])
    exact ⟨xs, a1, a3, a4, by show (if b ∈ bs then G' b else F b) = _; rw [if_pos hb]; exact a1⟩
  have out : ∀ {b}, b ∉ bs → F' b = F b := fun {b} hb => if_neg hb
  have sub : Sub F F' := fun a o h => by
    by_cases hb : a ∈ bs
    · obtain ⟨_, _, h3, _⟩ := inb hb; rw [h3] at h; cases h
    · rw [out hb]; exact h
  have fx : Fx G F F' := ⟨sub, fun a o h => by
    by_cases hb : a ∈ bs
    · obtain ⟨_, _, _, h4, _⟩ := inb hb; exact .inr h4
    · rw [out hb] at h; exact .inl h⟩
  have gn : ∀ a, G' a = none → G a = none := fun a h => by
    cases y : G a with
    | none => rfl
    | some w => have := d.sub _ _ y; rw [h] at this; cases this
  have nb : ∀ a, G' a = none → a ∉ bs := fun a h hb => by obtain ⟨_, h1, _⟩ := inb hb; rw [h] at h1; cases h1
  refine ⟨F', fx, ⟨fun a o h => ok.g _ _ (d.sub _ _ h), fun a o h => ?_, ok.len, fun i s e => ?_, ok.apart, fun a z => nomatch z⟩, .ow (ok.g _ _ d.top) (by rw [out d.nD]; exact d.fD) d.gD (fun z => nomatch z) ?_⟩
  · by_cases hb : a ∈ bs
    · obtain ⟨xs, h1, _, _, h5⟩ := inb hb
      rw [h5] at h; cases h
      exact .inl (ok.g _ _ h1)
    · rw [out hb] at h; exact ok.f _ _ h
  · obtain ⟨v, h1, r⟩ := ok.at_ i s e
    refine ⟨v, h1, ?_⟩
    cases r with
    | fr q => exact .fr (q.mono sub)
    | ow x y z w q => exact .ow x (by rw [out (nb _ z)]; exact y) (gn _ z) w (q.mono sub)
    | lk => exact .lk
    | io x y z w q => cases w
  · show RpL K F' (bs.map V.ref) (dss.map .list)
    have go : ∀ (l : List Addr) (es : List (List D)), l.length = es.length → (∀ (j : Nat) b ds, l[j]? = some b → es[j]? = some ds → ∃ xs, F' b = some (.lst xs) ∧ RpL K F' xs ds) → RpL K F' (l.map V.ref) (es.map .list) := by
      intro l
      induction l with
      | nil => intro es hl _; cases es with
        | nil => exact .nil
        | cons _ _ => cases hl
      | cons b l ih =>
        intro es hl h
        cases es with
        | nil => cases hl
        | cons ds es =>
          obtain ⟨xs, h1, h2⟩ := h 0 b ds rfl rfl
          exact .cons (.lst (SqL.of h1) h2) (ih es (by simpa using hl) fun j b ds a c => h (j + 1) b ds (by simpa using a) (by simpa using c))
    refine go bs dss d.len fun j b ds h1 h2 => ?_
    obtain ⟨xs, a1, a2, _, _⟩ := d.cell j b ds h1 h2
    exact ⟨xs, by show (if b ∈ bs then G' b else F b) = _; rw [if_pos (List.mem_of_getElem? h1)]; exact a1, a2.mono sub⟩
end
/-- the environment with the deep list at slot i -/
def DeepEnv (K : Frag) (G F : Hp) (σ : L2.St) (H : Hp) (i : Nat) (ρ : EnvD) (dss : List (List D)) : Prop :=
  ∃ (G' : Hp) (A0 : Addr) (bs : List Addr), EnvOk K G' none F σ H ρ ∧ Deep K G G' F A0 bs dss ∧ ρ[i]? = some (some (.lk (.int (A0 : Nat))))
inductive OutD where
  | nx (ρ : EnvD) (dss : List (List D)) | rt (s : S) (ρ : EnvD) | bk (ρ : EnvD) (dss : List (List D)) | ct (ρ : EnvD) (dss : List (List D)) | bad
abbrev FnD := EnvD → List (List D) → OutD
def PoD (X : Cx) (G F : Hp) (i : Nat) (E : Ends) : OutD → Prop
  | .nx ρ' dss => ∀ σ' F' H', Fx G F F' → DeepEnv X.K G F' σ' H' i ρ' dss → E.nx σ' H'
  | .rt s ρ' => ∀ v σ' F' H', Fx G F F' → EnvOk X.K G none F' σ' H' ρ' → RS X.K G none F' H' v s → E.rt v H'
  | .bk ρ' dss => ∀ σ' F' H', Fx G F F' → DeepEnv X.K G F' σ' H' i ρ' dss → E.bk σ' H'
  | .ct ρ' dss => ∀ σ' F' H', Fx G F F' → DeepEnv X.K G F' σ' H' i ρ' dss → E.ct σ' H'
  | .bad => False
theorem PoD.mono {X : Cx} {G F F1 : Hp} {i : Nat} {E : Ends} (x : Fx G F F1) : ∀ {r : OutD}, PoD X G F i E r → PoD X G F1 i E r
  | .nx _ _, h => fun σ' F' H' y => h σ' F' H' (x.trans y)
  | .rt _ _, h => fun v σ' F' H' y => h v σ' F' H' (x.trans y)
  | .bk _ _, h => fun σ' F' H' y => h σ' F' H' (x.trans y)
  | .ct _ _, h => fun σ' F' H' y => h σ' F' H' (x.trans y)
  | .bad, h => h
structure LD (X : Cx) (i : Nat) (st : Stmt) (f : FnD) : Prop where
  ex : ∃ t, PS X st t ∧ ∀ G F σ H ρ dss E, DeepEnv X.K G F σ H i ρ dss → PoD X G F i E (f ρ dss) → t E σ H
structure LDs (X : Cx) (i : Nat) (sts : List Stmt) (f : FnD) : Prop where
  ex : ∃ t, PSs X sts t ∧ ∀ G F σ H ρ dss E, DeepEnv X.K G F σ H i ρ dss → PoD X G F i E (f ρ dss) → t E σ H
section
variable {X : Cx} {i : Nat} {st : Stmt} {rest : List Stmt} {f g : FnD}
def seqD2 (f g : FnD) : FnD := fun ρ dss => match f ρ dss with
  | .nx ρ' dss' => g ρ' dss'
  | o => o
theorem lds_one (h : LD X i st f) : LDs X i [st] f := by
  obtain ⟨t, ht, l⟩ := h.ex
  exact ⟨_, pss_one ht, l⟩
theorem lds_cons (h : LD X i st f) (hs : LDs X i rest g) : LDs X i (st :: rest) (seqD2 f g) := by
  obtain ⟨t, ht, l⟩ := h.ex
  obtain ⟨u, hu, l2⟩ := hs.ex
  refine ⟨_, pss_cons ht hu, fun G F σ H ρ dss E ok q => l G F σ H ρ dss _ ok ?_⟩
  unfold seqD2 at q
  cases e : f ρ dss with
  | nx ρ' dss' => rw [e] at q; exact fun σ' F' H' fx ok' => l2 G F' σ' H' ρ' dss' E ok' (q.mono fx)
  | rt s ρ' => rw [e] at q; exact q
  | bk ρ' dss' => rw [e] at q; exact q
  | ct ρ' dss' => rw [e] at q; exact q
  | bad => rw [e] at q; exact q
/-- return x, x the deep list -/
def retD (i : Nat) : FnD := fun ρ dss => match ρ[i]? with
  | some (some (.lk _)) => .rt (.ow (.list (dss.map .list))) ρ
  | _ => .bad
theorem ld_ret {x : Str} {pos p2 : Pos} (hN : X.N[i]? = some x := by rfl) (hv : Vis X.env.scope x := by first | exact Or.inl rfl | exact Or.inr (Or.inl rfl) | exact Or.inr (Or.inr rfl)) (hd : (x == ("__debug__" : Str)) = false := by decide)
    (hcd : (x == ("__classdict__" : Str)) = false := by decide) : LD X i (.Return (some (.Name x p2)) pos) (retD i) := by
  refine ⟨_, ps_ret (pe_var hN hv hd hcd), fun G F σ H ρ dss E ok q => ?_⟩
  obtain ⟨G', A0, bs, ok, d, e⟩ := ok
  unfold retD at q
  rw [e] at q
  obtain ⟨v, h1, r⟩ := ok.at_ i _ e
  cases r
  obtain ⟨F', fx, ok', rs⟩ := d.ret ok
  exact ⟨_, h1, q _ _ F' H fx ok' rs⟩
/-- x[e].append(e2) -/
def napM (i : Nat) (m m2 : M D) : FnD := fun ρ dss => match m ρ with
  | .ok (.int k, ρ1) => match ixN dss.length k with
    | some j => match m2 ρ1 with
      | .ok (d, ρ2) => match dss[j]?, (ρ2[i]? : Option (Option S)), (ρ[i]? : Option (Option S)) with
        | some ds, some (some (.lk (.int a))), some (some (.lk (.int b))) => if a = b ∧ ltM (ds.length + 1) = true then .nx ρ2 (dss.set j (ds ++ [d])) else .bad
        | _, _, _ => .bad
      | _ => .bad
    | none => .bad
  | _ => .bad
theorem atI_of {α : Type} {xs : List α} {k : Int} {j : Nat} (h : ixN xs.length k = some j) : atI xs k = xs[j]? := by
  unfold atI
  rw [h]; rfl
theorem ld_nap {W : WX} {x : Str} {e e2 : Expr} {m m2 : M D} {p2 p3 apos cpos pos : Pos} (he : LE X W e m) (he2 : LE X W e2 m2) (hsl : PlainIx e := by exact fun _ _ => rfl) (hN : X.N[i]? = some x := by rfl) (hv : Vis X.env.scope x := by first | exact Or.inl rfl | exact Or.inr (Or.inl rfl) | exact Or.inr (Or.inr rfl)) (hd : (x == ("__debug__" : Str)) = false := by decide) (hcd : (x == ("__classdict__" : Str)) = false := by decide)
    (hbase : attributeBase (.Subscript (.Name x p2) e p3) "append" X.env (eval (.Subscript (.Name x p2) e p3) X.env) = eval (.Subscript (.Name x p2) e p3) X.env := by rfl)
    (hfew : ((backTo cpos (starEach [e2] X.env)).all (fun x => !x.1) && (backToKw cpos (keywordEach [] X.env)).all (fun x => x.1.isSome)
      && decide ([e2].length + ([] : List Keyword).length + (if ([] : List Keyword).isEmpty then 0 else 1) < 30)) = true := by rfl)
    (hline : (apos.endLine == cpos.line) = true := by rfl) (hs : starEach [e2] X.env = (false, eval e2 X.env) :: starEach [] X.env := by rfl) (hplain : (backTo cpos (starEach [] X.env)).any (·.1) = false := by rfl)
    (hsw : swapsWith (.Call (.Attribute (.Subscript (.Name x p2) e p3) "append" apos) [e2] [] cpos) none pos.line X.env = pure false := by rfl) :
    LD X i (.Expr (.Call (.Attribute (.Subscript (.Name x p2) e p3) "append" apos) [e2] [] cpos) pos) (napM i m m2) := by
  obtain ⟨t, ht, l⟩ := he.ex
  obtain ⟨t2, ht2, l2⟩ := he2.ex
  refine ⟨_, ps_expr (pe_bm PySem.F.plainAttrs_list PySem.F.slot_list_append PySem.F.type_list_append mt_append (pe_ix ix_seq (pe_var hN hv hd hcd) ht hsl) (pa_cons ht2 pa_nil hs) hbase hfew hline hs hplain) hsw, fun G F σ H ρ dss E ok q => ?_⟩
  obtain ⟨G', A0, bs, ok, d, e1⟩ := ok
  obtain ⟨v, h1, r⟩ := ok.at_ i _ e1
  cases r
  refine ⟨_, h1, l G' none F σ H ρ _ ok ?_⟩
  unfold napM at q
  cases em : m ρ with
  | ok p =>
    obtain ⟨dk, ρ1⟩ := p
    rw [em] at q
    cases dk with
    | int k =>
      simp only at q
      cases ek : ixN dss.length k with
      | none => rw [ek] at q; exact q.elim
      | some j =>
        rw [ek] at q
        simp only at q
        intro y F1 H1 fx1 ok1 r1
        cases r1
        have d1 := d.mono fx1
        have hj : j < bs.length := by
          rw [← d.len] at ek
          exact (ixN_seq ek).2.1
        have hjd : j < dss.length := by rw [← d.len]; exact hj
        have hbj : bs[j]? = some bs[j] := by simp [hj]
        obtain ⟨xs, c1, c2, c3, c4⟩ := d1.cell j _ (dss[j]) hbj (by simp [hjd])
        have at1 : atI (bs.map V.ref) k = some (.ref bs[j]) := by
          rw [atI_of (j := j) (by rw [List.length_map, d.len]; exact ek), List.getElem?_map, hbj]; rfl
        refine .inl ⟨A0, bs.map V.ref, k, .ref bs[j], rfl, rfl, SqL.of (ok1.g _ _ d1.top), at1, .inl ⟨rfl, xs, SqL.of (ok1.g _ _ c1)⟩, ?_⟩
        refine l2 G' none F1 σ H1 ρ1 _ ok1 ?_
        cases em2 : m2 ρ1 with
        | ok p =>
          obtain ⟨dd, ρ2⟩ := p
          rw [em2] at q
          simp only at q
          intro y2 F2 H2 fx2 ok2 r2
          have d2 := d1.mono fx2
          obtain ⟨xs2, a1, a2, a3, a4⟩ := d2.cell j _ (dss[j]) hbj (by simp [hjd])
          rw [c1] at a1; cases a1
          rw [show dss[j]? = some dss[j] by simp [hjd], e1] at q
          cases e3 : ρ2[i]? with
          | none => simp only [e3] at q; exact q.elim
          | some o =>
            cases o with
            | none => simp only [e3] at q; exact q.elim
            | some s =>
              cases s with
              | lk dq =>
                cases dq with
                | int a =>
                  simp only [e3] at q
                  split at q
                  · rename_i hc
                    have ea := hc.1
                    subst ea
                    have rl := a2.length
                    have hz := ltM_ok hc.2
                    refine ⟨bs[j], xs, y2, rfl, rfl, ok2.g _ _ c1, by omega, ?_⟩
                    exact q σ F2 _ (fx1.trans fx2 |>.up d.sub) ⟨upd G' bs[j] (.lst (xs ++ [y2])), A0, bs, ok2.appG c1 a3, d2.put hbj (a2.append (.cons r2 .nil)), e3⟩
                  · exact q.elim
                | _ => simp only [e3] at q; exact q.elim
              | _ => simp only [e3] at q; exact q.elim
        | exc c => rw [em2] at q; exact q.elim
        | bad => rw [em2] at q; exact q.elim
    | _ => exact q.elim
  | exc c => rw [em] at q; exact q.elim
  | bad => rw [em] at q; exact q.elim
end
end Lf

/-! LS: loops over and about a deep list; making one. -/
namespace Lf
open PySem PySem.Spec PyProof.Rows L2
def pinEq (ρ ρ1 : EnvD) (i : Nat) : Bool := match (ρ[i]? : Option (Option S)), (ρ1[i]? : Option (Option S)) with
  | some (some (.lk (.int a))), some (some (.lk (.int b))) => decide (a = b)
  | _, _ => false
theorem pinEq_of {ρ ρ1 : EnvD} {i : Nat} {a : Int} (h : pinEq ρ ρ1 i = true) (e : ρ[i]? = some (some (.lk (.int a)))) : ρ1[i]? = some (some (.lk (.int a))) := by
  unfold pinEq at h
  rw [e] at h
  split at h
  · rename_i x y u v h1 h2
    rw [Option.some.injEq, Option.some.injEq] at h1
    cases h1
    rw [of_decide_eq_true h]
    exact h2
  · cases h
def forDD (i : Nat) (set : D → EnvD → Option EnvD) (body : FnD) : List D → FnD
  | [], ρ, dss => .nx ρ dss
  | d :: ds, ρ, dss => match set d ρ with
    | none => .bad
    | some ρ1 => if pinEq ρ ρ1 i = true then (match body ρ1 dss with
      | .nx ρ2 dss2 => forDD i set body ds ρ2 dss2
      | .ct ρ2 dss2 => forDD i set body ds ρ2 dss2
      | .bk ρ2 dss2 => .nx ρ2 dss2
      | .rt s ρ2 => .rt s ρ2
      | .bad => .bad) else .bad
def forDM (i : Nat) (m : M (List D)) (set : D → EnvD → Option EnvD) (body : FnD) : FnD := fun ρ dss => match m ρ with
  | .ok (ds, ρ1) => if pinEq ρ ρ1 i = true then forDD i set body ds ρ1 dss else .bad
  | _ => .bad
section
variable {X : Cx} {W : WX}
theorem forDD_run {i : Nat} {is : List Nat} {J : It} {ds : List D} {set : D → EnvD → Option EnvD} {body : FnD} {g : TG} {tb : TS} {G F : Hp} {σ : L2.St} {H : Hp} {ρ : EnvD} {dss : List (List D)} {E : Ends} (wk : ∀ G0, Wk X.K G0 F J ds)
    (lg : ∀ G io F σ H ρ v d ρ' Q, EnvOk X.K G io F σ H ρ → Rp X.K F v d → set d ρ = some ρ' → (∀ σ', EnvOk X.K G io F σ' H ρ' → Ag is σ σ' → Q σ' H) → g v σ H Q)
    (lb : ∀ G F σ H ρ dss E, DeepEnv X.K G F σ H i ρ dss → PoD X G F i E (body ρ dss) → tb E σ H)
    (ok : DeepEnv X.K G F σ H i ρ dss) (q : PoD X G F i E (forDD i set body ds ρ dss)) :
    ∃ Wv : Nat → Nat → L2.St → Hp → Prop, (∃ m, Wv 0 m σ H) ∧ ∀ i m σ H, Wv i m σ H →
      (J.stop i H ∧ E.nx σ H) ∨ (J.go i H ∧ ∃ N : L2.St → Hp → Prop, (∀ σ' H', N σ' H' → ∃ m', m' < m ∧ Wv (i + 1) m' σ' H') ∧ ∀ x H', J.yld i H x H' → g x σ H' fun σ2 H2 => tb { E with nx := N, ct := N, bk := E.nx } σ2 H2) := by
  refine ⟨fun k m σ' H' => ∃ F' ρ' dss', m = ds.length - k ∧ k ≤ ds.length ∧ Fx G F F' ∧ DeepEnv X.K G F' σ' H' i ρ' dss' ∧ PoD X G F' i E (forDD i set body (ds.drop k) ρ' dss'), ⟨ds.length, F, ρ, dss, by simp, Nat.zero_le _, Fx.refl G F, ok, by simpa using q⟩, ?_⟩
  rintro k m σ1 H1 ⟨F1, ρ1, ds1, rfl, hk, fx, ⟨G', A0, bs, ok1, dp, e1⟩, q1⟩
  obtain ⟨go, stop⟩ := (wk G').step F1 H1 k fx.sub ok1.g ok1.f
  by_cases hlt : k < ds.length
  · refine .inr ⟨go hlt, fun σ' H' => ∃ F' ρ' dss', Fx G F F' ∧ DeepEnv X.K G F' σ' H' i ρ' dss' ∧ PoD X G F' i E (forDD i set body (ds.drop (k + 1)) ρ' dss'), fun σ' H' ⟨F', ρ', dss', a, b, c⟩ => ⟨ds.length - (k + 1), by omega, F', ρ', dss', rfl, hlt, a, b, c⟩, fun x H' y => ?_⟩
    obtain ⟨F2, fx2, ok2, rx⟩ := yld_ok ok1 ((wk G').yld F1 H1 k ds[k] x H' fx.sub ok1.g ok1.f (by simp [hlt]) y)
    have fx2' : Fx G F1 F2 := fx2.up dp.sub
    rw [List.drop_eq_getElem_cons hlt] at q1
    unfold forDD at q1
    cases es : set ds[k] ρ1 with
    | none => simp only [es] at q1; exact q1.elim
    | some ρ2 =>
      simp only [es] at q1
      split at q1
      · rename_i hp
        refine lg G' none F2 σ1 H' ρ1 x ds[k] ρ2 _ ok2 rx es fun σ3 ok3 _ => ?_
        refine lb G F2 σ3 H' ρ2 ds1 _ ⟨G', A0, bs, ok3, dp.mono fx2, pinEq_of hp e1⟩ ?_
        cases e2 : body ρ2 ds1 with
        | nx ρ3 ds3 => simp only [e2] at q1; exact fun σ4 F4 H4 fx4 ok4 => ⟨F4, ρ3, ds3, (fx.trans fx2').trans fx4, ok4, q1.mono (fx2'.trans fx4)⟩
        | ct ρ3 ds3 => simp only [e2] at q1; exact fun σ4 F4 H4 fx4 ok4 => ⟨F4, ρ3, ds3, (fx.trans fx2').trans fx4, ok4, q1.mono (fx2'.trans fx4)⟩
        | bk ρ3 ds3 => simp only [e2] at q1; exact fun σ4 F4 H4 fx4 ok4 => q1 σ4 F4 H4 (fx2'.trans fx4) ok4
        | rt s ρ3 => simp only [e2] at q1; exact fun v σ4 F4 H4 fx4 ok4 => q1 v σ4 F4 H4 (fx2'.trans fx4) ok4
        | bad => simp only [e2] at q1; exact q1.elim
      · exact q1.elim
  · have e : k = ds.length := by omega
    subst e
    refine .inl ⟨stop (Nat.le_refl _), ?_⟩
    rw [List.drop_length] at q1
    exact q1 σ1 F1 H1 (Fx.refl G F1) ⟨G', A0, bs, ok1, dp, e1⟩
theorem ld_for {i : Nat} {tg iter : Expr} {is : List Nat} {body : List Stmt} {pos : Pos} {m : M (List D)} {set : D → EnvD → Option EnvD} {f : FnD} (hp : PassesOwn (model X.prog X.w) X.A X.env X.xe) (hc : X.calm = true) (hi : LI X W tg iter m) (hg : LG X tg is set) (hb : LDs X i body f)
    (hs : ∀ x, foldedSetIterable iter X.env x = pure x := by intro _; rfl) : LD X i (.For tg iter body [] pos) (forDM i m set f) := by
  obtain ⟨wi, hi, li⟩ := hi.ex
  obtain ⟨g, hg, lg⟩ := hg.ex
  obtain ⟨tb, hb, lb⟩ := hb.ex
  refine ⟨_, ps_for hp hc hi hg hb hs, fun G F σ H ρ dss E ok q => ?_⟩
  obtain ⟨G', A0, bs, ok1, dp, e1⟩ := ok
  refine li G' none F σ H ρ _ ok1 ?_
  unfold forDM at q
  cases e : m ρ with
  | ok p =>
    obtain ⟨ds, ρ'⟩ := p
    simp only [e] at q
    split at q
    · rename_i hp
      exact fun J F' H' fx ok' wk => forDD_run wk lg lb ⟨G', A0, bs, ok', dp.mono fx, pinEq_of hp e1⟩ (PoD.mono (fx.up dp.sub) q)
    · exact q.elim
  | exc c => simp only [e] at q; exact q.elim
  | bad => simp only [e] at q; exact q.elim
/-! ### for row in x, x the deep list: the body works upon row -/
def forRow (i r : Nat) (body : EnvD → Out) : List (List D) → List (List D) → EnvD → Option (EnvD × List (List D))
  | done, [], ρ => some (ρ, done)
  | done, ds :: rest, ρ => if r < ρ.length ∧ i ≠ r then (match body (ρ.set r (some (.io (.list ds)))) with
    | .nx ρ2 => if pinEq ρ ρ2 i = true then (match (ρ2[r]? : Option (Option S)) with
      | some (some (.io (.list ds'))) => forRow i r body (done ++ [ds']) rest (ρ2.set r none)
      | _ => none) else none
    | _ => none) else none
def forRowM (i r : Nat) (body : EnvD → Out) : FnD := fun ρ dss => match forRow i r body [] dss ρ with
  | some (ρ', dss') => .nx ρ' dss'
  | none => .bad
theorem forRow_len {i r : Nat} {body : EnvD → Out} : ∀ {rest done : List (List D)} {ρ ρ' : EnvD} {dss' : List (List D)}, forRow i r body done rest ρ = some (ρ', dss') → dss'.length = done.length + rest.length
  | [], done, ρ, ρ', dss', h => by cases h; simp
  | ds :: rest, done, ρ, ρ', dss', h => by
    unfold forRow at h
    split at h
    · split at h
      · split at h
        · split at h
          · have := forRow_len h; rw [this, List.length_append]; simp; omega
          · cases h
        · cases h
      · cases h
    · cases h
theorem EnvOk.noneIo {K : Frag} {G : Hp} {F H : Hp} {σ : L2.St} {ρ : EnvD} {b : Addr} {r : Nat} {ds : List D} {xs : List V} (ok : EnvOk K G none F σ H ρ) (hb : G b = some (.lst xs)) (hf : F b = none) (rl : RpL K F xs ds) (hr : r < ρ.length) :
    EnvOk K (but G b) (some b) F (σ.set r (some (.ref b))) H (ρ.set r (some (.io (.list ds)))) := by
  have hrσ : r < σ.length := by rw [← ok.len]; exact hr
  have old : ∀ {j : Nat} {s : S} {v : V}, RS K G none F H v s → RS K (but G b) (some b) F H v s := fun {j s v} q => by
    cases q with
    | fr q => exact .fr q
    | ow x y z w q => exact .ow x y (by show (if _ = b then none else G _) = none; split; (· rfl); exact z) (fun e => by cases e; rw [hb] at z; cases z) q
    | lk => exact .lk
    | io x y z w q => cases w
  have sep : ∀ (j : Nat) s v, ρ[j]? = some (some s) → s.own = true → σ[j]? = some (some v) → v ≠ .ref b := fun j s v e ho hv hz => by
    obtain ⟨v', h1, q⟩ := ok.at_ j s e
    rw [hv] at h1; cases h1
    subst hz
    cases q with
    | fr q => cases ho
    | ow x y z w q => rw [hb] at z; cases z
    | lk => cases ho
    | io x y z w q => cases w
  refine ⟨fun a o h => ?_, ok.f, by simp [ok.len], fun j s e => ?_, fun j k s t v e1 e2 o1 o2 q1 q2 => ?_, fun a z => ?_⟩
  · by_cases ha : a = b
    · subst ha; rw [but_same] at h; cases h
    · rw [but_ne ha] at h; exact ok.g _ _ h
  · by_cases hj : j = r
    · subst hj
      rw [List.getElem?_set_self hr] at e
      cases e
      exact ⟨.ref b, by rw [List.getElem?_set_self hrσ], .io (ok.g _ _ hb) hf but_same rfl rl⟩
    · rw [List.getElem?_set_ne (Ne.symm hj)] at e ⊢
      obtain ⟨v, h1, q⟩ := ok.at_ j s e
      exact ⟨v, h1, old (j := j) q⟩
  · by_cases hj : j = r
    · by_cases hk : k = r
      · rw [hj, hk]
      · subst hj
        rw [List.getElem?_set_self hrσ] at q1
        rw [List.getElem?_set_ne (Ne.symm hk)] at e2 q2
        cases q1
        exact absurd rfl (sep k t _ e2 o2 q2)
    · by_cases hk : k = r
      · subst hk
        rw [List.getElem?_set_self hrσ] at q2
        rw [List.getElem?_set_ne (Ne.symm hj)] at e1 q1
        cases q2
        exact absurd rfl (sep j s _ e1 o1 q1)
      · rw [List.getElem?_set_ne (Ne.symm hj)] at e1 q1
        rw [List.getElem?_set_ne (Ne.symm hk)] at e2 q2
        exact ok.apart j k s t v e1 e2 o1 o2 q1 q2
  · cases z
    rw [ok.g _ _ hb]
    exact fun z => nomatch z
/-- the in-out row goes back into G -/
theorem EnvOk.backIo {K : Frag} {G : Hp} {F H : Hp} {σ : L2.St} {ρ : EnvD} {b : Addr} {r : Nat} {ds : List D} (ok : EnvOk K (but G b) (some b) F σ H ρ) (e : ρ[r]? = some (some (.io (.list ds)))) :
    ∃ xs, RpL K F xs ds ∧ F b = none ∧ EnvOk K (upd G b (.lst xs)) none F σ H (ρ.set r none) := by
  obtain ⟨v, h1, q⟩ := ok.at_ r _ e
  cases q with
  | @io a o d x y z w q =>
    cases w
    obtain ⟨xs, rfl, rl⟩ := topL (H := H) (a := b) q
    refine ⟨xs, rl, y, ?_⟩
    have hr : r < ρ.length := (List.getElem?_eq_some_iff.mp e).1
    have same : ∀ (j : Nat) s, (ρ.set r none)[j]? = some (some s) → ρ[j]? = some (some s) ∧ j ≠ r := fun j s ej => by
      by_cases hj : j = r
      · subst hj; rw [List.getElem?_set_self hr] at ej; cases ej
      · rw [List.getElem?_set_ne (Ne.symm hj)] at ej; exact ⟨ej, hj⟩
    refine ⟨fun a o h => ?_, ok.f, by simp [ok.len], fun j s ej => ?_, fun j k s t u e1 e2 => ok.apart j k s t u (same j s e1).1 (same k t e2).1, fun a z => nomatch z⟩
    · by_cases ha : a = b
      · subst ha; rw [upd_same] at h; cases h; exact x
      · rw [upd_ne ha] at h; exact ok.g _ _ (by rw [but_ne ha]; exact h)
    · obtain ⟨ej, hj⟩ := same j s ej
      obtain ⟨u, h2, q2⟩ := ok.at_ j s ej
      refine ⟨u, h2, ?_⟩
      cases q2 with
      | fr q => exact .fr q
      | @ow a o d x2 y2 z2 w2 q =>
        have ha : a ≠ b := fun z => w2 (by rw [z])
        exact .ow x2 y2 (by rw [upd_ne ha]; rw [but_ne ha] at z2; exact z2) (fun z => nomatch z) q
      | lk => exact .lk
      | io x2 y2 z2 w2 q =>
        cases w2
        exact absurd (ok.apart j r _ _ (.ref b) ej e rfl rfl h2 h1) hj
theorem drop_left {α : Type} {a b : List α} {k : Nat} (h : a.length = k) : (a ++ b).drop k = b := by subst h; simp
theorem take_left {α : Type} {a b : List α} {k : Nat} (h : a.length = k) : (a ++ b).take k = a := by subst h; simp
theorem set_drop {α : Type} {l : List α} {k : Nat} {a : α} {d2 : List α} {x : α} {r : List α} (h : l.drop k = x :: r) (hl : l.take k = d2) : l.set k a = (d2 ++ [a]) ++ r := by
  have hk : k < l.length := by
    rcases Nat.lt_or_ge k l.length with q | q
    · exact q
    · rw [List.drop_eq_nil_of_le q] at h; cases h
  rw [List.set_eq_take_append_cons_drop, if_pos hk, hl]
  have : l.drop (k + 1) = r := by have q := congrArg List.tail h; rwa [List.tail_drop] at q
  rw [this]; simp
theorem ld_forRow {i r : Nat} {x y : Str} {body : List Stmt} {p p2 pos : Pos} {f : EnvD → Out} (hp : PassesOwn (model X.prog X.w) X.A X.env X.xe) (hc : X.calm = true) (hNd : X.N.Nodup) (hr : X.N[r]? = some y) (hb : LSs X W body f)
    (hy : Loc X.env.scope y := by first | exact Or.inl rfl | exact Or.inr rfl) (hN : X.N[i]? = some x := by rfl) (hv : Vis X.env.scope x := by first | exact Or.inl rfl | exact Or.inr (Or.inl rfl) | exact Or.inr (Or.inr rfl)) (hd : (x == ("__debug__" : Str)) = false := by decide) (hcd : (x == ("__classdict__" : Str)) = false := by decide)
    (hf : X.fn y = true ∨ X.env.scope.names.lookup y = some .local := by first | exact .inl rfl | exact .inr rfl | assumption)
    (hs : ∀ z, foldedSetIterable (.Name x p2) X.env z = pure z := by intro _; rfl) : LD X i (.For (.Name y p) (.Name x p2) body [] pos) (forRowM i r f) := by
  obtain ⟨tb, hb, lb⟩ := hb.ex
  refine ⟨_, ps_for hp hc (pi_list (pe_var hN hv hd hcd)) (pg_name hNd hr hy hf) hb hs, fun G F σ H ρ dss E ok q => ?_⟩
  obtain ⟨G0, A0, bs, ok0, dp0, e0⟩ := ok
  obtain ⟨v, h1, rs⟩ := ok0.at_ i _ e0
  cases rs
  refine ⟨_, h1, A0, rfl, ⟨_, SqL.of (ok0.g _ _ dp0.top)⟩, ?_⟩
  unfold forRowM at q
  cases e : forRow i r f [] dss ρ with
  | none => rw [e] at q; exact q.elim
  | some p =>
    obtain ⟨ρF, dssF⟩ := p
    rw [e] at q
    simp only at q
    refine ⟨fun k m σ' H' => ∃ G' F' ρ' done, m = dss.length - k ∧ k ≤ dss.length ∧ done.length = k ∧ Fx G F F' ∧ EnvOk X.K G' none F' σ' H' ρ' ∧ Deep X.K G G' F' A0 bs (done ++ dss.drop k) ∧ ρ'[i]? = some (some (.lk (.int (A0 : Nat)))) ∧ forRow i r f done (dss.drop k) ρ' = some (ρF, dssF),
      ⟨dss.length, G0, F, ρ, [], by simp, Nat.zero_le _, rfl, Fx.refl G F, ok0, by simpa using dp0, e0, by simpa using e⟩, ?_⟩
    rintro k m σ1 H1 ⟨G', F1, ρ1, done, rfl, hk, hdone, fx, ok1, dp, e1, run⟩
    have top1 : SqL X.K H1 A0 (bs.map V.ref) := SqL.of (ok1.g _ _ dp.top)
    have lenb : bs.length = dss.length := by rw [dp.len, List.length_append, List.length_drop, hdone]; omega
    by_cases hlt : k < dss.length
    · have hkb : k < bs.length := by rw [lenb]; exact hlt
      have hbk : bs[k]? = some bs[k] := by simp [hkb]
      have getk : (bs.map V.ref)[k]? = some (.ref bs[k]) := by rw [List.getElem?_map, hbk]; rfl
      refine .inr ⟨⟨_, _, top1, getk⟩, fun σ' H' => ∃ G' F' ρ' done, done.length = k + 1 ∧ Fx G F F' ∧ EnvOk X.K G' none F' σ' H' ρ' ∧ Deep X.K G G' F' A0 bs (done ++ dss.drop (k + 1)) ∧ ρ'[i]? = some (some (.lk (.int (A0 : Nat)))) ∧ forRow i r f done (dss.drop (k + 1)) ρ' = some (ρF, dssF),
        fun σ' H' ⟨G', F', ρ', dn, a1, a2, a3, a4, a5, a6⟩ => ⟨dss.length - (k + 1), by omega, G', F', ρ', dn, rfl, hlt, a1, a2, a3, a4, a5, a6⟩, fun z H' hy => ?_⟩
      obtain ⟨rfl, hy⟩ := hy
      have ez := hy _ top1
      rw [getk] at ez; cases ez
      have hdk : (done ++ dss.drop k)[k]? = some dss[k] := by
        rw [List.getElem?_append_right (by omega), hdone, Nat.sub_self, List.getElem?_drop]; simp [hlt]
      obtain ⟨xs, c1, c2, c3, c4⟩ := dp.cell k _ _ hbk hdk
      rw [List.drop_eq_getElem_cons hlt] at run
      unfold forRow at run
      split at run
      · rename_i hrl
        refine lb (but G' bs[k]) (some bs[k]) F1 _ H' _ _ (ok1.noneIo (r := r) c1 c3 c2 hrl.1) ?_
        cases e2 : f (ρ1.set r (some (.io (.list dss[k])))) with
        | nx ρ2 =>
          rw [e2] at run
          simp only at run
          split at run
          · rename_i hpin
            split at run
            · rename_i ds' e3
              intro σ4 F4 H4 fx4 ok4
              obtain ⟨xs', r', f', ok5⟩ := ok4.backIo e3
              have fx5 : Fx G' F1 F4 := ⟨fx4.sub, fun a o h => (fx4.new a o h).imp id fun z => by
                have ha : a ≠ bs[k] := fun w => by rw [w, f'] at h; cases h
                rw [but_ne ha] at z; exact z⟩
              have dp5 := (dp.mono fx5).put hbk r'
              refine ⟨_, F4, _, done ++ [ds'], by simp [hdone], fx.trans (fx5.up dp.sub), ok5, ?_, ?_, run⟩
              · have es : (done ++ dss.drop k).set k ds' = (done ++ [ds']) ++ dss.drop (k + 1) := by
                  refine set_drop (x := dss[k]) ?_ ?_
                  · rw [drop_left hdone, List.drop_eq_getElem_cons hlt]
                  · rw [take_left hdone]
                rw [es] at dp5
                exact dp5
              · rw [List.getElem?_set_ne (Ne.symm hrl.2)]
                exact pinEq_of hpin e1
            · cases run
          · cases run
        | _ => rw [e2] at run; cases run
      · cases run
    · have ek : k = dss.length := by omega
      subst ek
      refine .inl ⟨⟨_, top1, by rw [List.length_map, lenb]; exact Nat.le_refl _⟩, ?_⟩
      rw [List.drop_length] at run dp
      unfold forRow at run
      cases run
      rw [List.append_nil] at dp
      exact q σ1 F1 H1 fx ⟨G', A0, bs, ok1, dp, e1⟩
end
end Lf

/-! LU: x = [..] of new lists, then the rest with the deep list. -/
namespace Lf
open PySem PySem.Spec PyProof.Rows L2
def noIo (ρ : EnvD) : Bool := ρ.all fun o => match o with
  | some (.io _) => false
  | _ => true
theorem noIo_of {ρ : EnvD} (h : noIo ρ = true) {i : Nat} {d : D} (e : ρ[i]? = some (some (.io d))) : False := by
  unfold noIo at h
  have := List.all_eq_true.mp h _ (List.mem_of_getElem? e)
  cases this
section
variable {K : Frag} {G F H : Hp} {io : Option Addr} {σ : L2.St} {ρ : EnvD}
structure IoG (G G1 : Hp) (io : Option Addr) : Prop where
  sub : Sub G G1
  ne : ∀ a, G1 a = none → some a ≠ io
theorem IoG.gn {G1 : Hp} (h : IoG G G1 io) {a : Addr} (e : G1 a = none) : G a = none := by
  cases y : G a with
  | none => rfl
  | some w => have := h.sub _ _ y; rw [e] at this; cases this
theorem RS.io_in {G1 : Hp} {v : V} {s : S} (r : RS K G io F H v s) (hs : ∀ d, s ≠ .io d) (h : ∀ a, G a = none → some a ≠ io → G1 a = none) : RS K G1 none F H v s := by
  cases r with
  | fr q => exact .fr q
  | ow x y z w q => exact .ow x y (h _ z w) (fun z => nomatch z) q
  | lk => exact .lk
  | io x y z w q => exact absurd rfl (hs _)
theorem RS.io_out {G1 : Hp} {v : V} {s : S} (h : IoG G G1 io) (r : RS K G1 none F H v s) : RS K G io F H v s := by
  cases r with
  | fr q => exact .fr q
  | ow x y z w q => exact .ow x y (h.gn z) (h.ne _ z) q
  | lk => exact .lk
  | io x y z w q => cases w
theorem EnvOk.io_in (ok : EnvOk K G io F σ H ρ) (hn : noIo ρ = true) : ∃ G1, IoG G G1 io ∧ EnvOk K G1 none F σ H ρ := by
  cases io with
  | none => exact ⟨G, ⟨Sub.refl G, fun _ _ z => nomatch z⟩, ok⟩
  | some a =>
    obtain ⟨o, ho⟩ : ∃ o, H a = some o := by
      cases z : H a with
      | none => exact absurd z (ok.iok a rfl)
      | some o => exact ⟨o, rfl⟩
    refine ⟨upd G a o, ⟨fun b u e => ?_, fun b e z => ?_⟩, ⟨fun b u e => ?_, ok.f, ok.len, fun i s e => ?_, ok.apart, fun b z => nomatch z⟩⟩
    · by_cases hb : b = a
      · subst hb; have := ok.g _ _ e; rw [ho] at this; cases this; exact upd_same
      · rw [upd_ne hb]; exact e
    · cases z; rw [upd_same] at e; cases e
    · by_cases hb : b = a
      · subst hb; rw [upd_same] at e; cases e; exact ho
      · rw [upd_ne hb] at e; exact ok.g _ _ e
    · obtain ⟨v, h1, r⟩ := ok.at_ i s e
      refine ⟨v, h1, r.io_in (fun d z => noIo_of hn (z ▸ e)) fun b h2 h3 => ?_⟩
      rw [upd_ne (fun z => h3 (by rw [z]))]; exact h2
theorem EnvOk.io_out {G1 F' H' : Hp} {σ' : L2.St} {ρ' : EnvD} (h : IoG G G1 io) (ok : EnvOk K G1 none F' σ' H' ρ') : EnvOk K G io F' σ' H' ρ' := by
  refine ⟨fun a o e => ok.g _ _ (h.sub _ _ e), ok.f, ok.len, fun i s e => ?_, ok.apart, fun a e z => ?_⟩
  · obtain ⟨v, h1, r⟩ := ok.at_ i s e
    exact ⟨v, h1, r.io_out h⟩
  · cases y : G1 a with
    | none => exact h.ne _ y e.symm
    | some w => have := ok.g _ _ y; rw [z] at this; cases this
end
def eMF (X : Cx) (m : M S) : TE := fun σ H Q => ∃ G io F ρ, EnvOk X.K G io F σ H ρ ∧ PoE (rF X G io) X (fun _ _ _ _ => False) G io F σ Q (m ρ)
theorem LF.pe {X : Cx} {e : Expr} {m : M S} (h : LF X (fun _ _ _ _ => False) e m) : PE X e (eMF X m) := by
  obtain ⟨t, ht, l⟩ := h.ex
  exact ⟨fun pins s σ H Q I ⟨G, io, F, ρ, ok, q⟩ => ht.run pins s σ H Q I (l G io F σ H ρ Q ok q)⟩
def lcDp (vs : List Nat) (set : D → EnvD → Option EnvD) (e : M S) : List D → List (List D) → EnvD → Option (List (List D) × EnvD)
  | [], acc, ρ => some (acc, ρ)
  | d :: ds, acc, ρ => match set d ρ with
    | none => none
    | some ρ1 => match e ρ1 with
      | .ok (.ow (.list xs), ρ3) => if ltM (acc.length + 1) = true then lcDp vs set e ds (acc ++ [xs]) (wipeD ρ3 vs) else none
      | _ => none
/-- what comes of f, whatever the address is -/
def RtAll (f : Int → OutD) (s : S) : Prop := ∀ a, ∃ ρ, f a = .rt s ρ
theorem RtAll.uniq {f : Int → OutD} {s t : S} (h : RtAll f s) (k : RtAll f t) : s = t := by
  obtain ⟨_, h⟩ := h 0
  obtain ⟨_, k⟩ := k 0
  rw [h] at k
  cases k; rfl
open Classical in
noncomputable def ddM (f : Int → OutD) (n : Nat) : Out := if h : ∃ s, RtAll f s then .rt (Classical.choose h) (List.replicate n none) else .bad
theorem ddM_eq {f : Int → OutD} {n : Nat} {s : S} (h : RtAll f s) : ddM f n = .rt s (List.replicate n none) := by
  unfold ddM
  rw [dif_pos ⟨s, h⟩, (Classical.choose_spec (⟨s, h⟩ : ∃ s, RtAll f s)).uniq h]
noncomputable def deepM (i : Nat) (m : M (List D)) (vs : List Nat) (set : D → EnvD → Option EnvD) (e : M S) (g : FnD) : EnvD → Out := fun ρ => if noIo ρ = true then (match m ρ with
  | .ok (ds, ρ1) => match lcDp vs set e ds [] (wipeD ρ1 vs) with
    | some (dss, ρ2) => if i < ρ.length then ddM (fun a => g ((backD ρ1 ρ2 vs).set i (some (.lk (.int a)))) dss) ρ.length else .bad
    | none => .bad
  | _ => .bad) else .bad
section
variable {X : Cx} {W : WX}
theorem Deep.more {K : Frag} {G G' F : Hp} {A0 b : Addr} {bs : List Addr} {dss : List (List D)} {xs : List V} {ds : List D} (d : Deep K G G' F A0 bs dss) (hf : F b = none) (hg : G' b = none) (r : RpL K F xs ds) :
    Deep K G (upd (upd G' b (.lst xs)) A0 (.lst ((bs ++ [b]).map V.ref))) F A0 (bs ++ [b]) (dss ++ [ds]) := by
  have nb : b ≠ A0 := fun z => by rw [z, d.top] at hg; cases hg
  have gb : G b = none := by
    cases y : G b with
    | none => rfl
    | some w => have := d.sub _ _ y; rw [hg] at this; cases this
  have inb : ∀ {c : Addr}, c ∈ bs → c ≠ b := fun {c} hc z => by
    subst z
    obtain ⟨j, hj⟩ := List.getElem?_of_mem hc
    have hl : j < dss.length := by rw [← d.len]; exact (List.getElem?_eq_some_iff.mp hj).1
    obtain ⟨ys, a1, _⟩ := d.cell j c (dss[j]) hj (by simp [hl])
    rw [hg] at a1; cases a1
  refine ⟨fun a o h => ?_, d.gD, d.fD, upd_same, ?_, ?_, by simp [d.len], fun j c es h1 h2 => ?_⟩
  · rw [upd_ne (fun z => by rw [z, d.gD] at h; cases h), upd_ne (fun z => by rw [z, gb] at h; cases h)]; exact d.sub _ _ h
  · rw [List.nodup_append]
    exact ⟨d.nd, by simp, fun a ha c hc => by rw [List.mem_singleton.mp hc]; exact inb ha⟩
  · rw [List.mem_append]
    rintro (h | h)
    · exact d.nD h
    · exact nb (List.mem_singleton.mp h).symm
  · rcases Nat.lt_or_ge j bs.length with hj | hj
    · rw [List.getElem?_append_left hj] at h1
      rw [List.getElem?_append_left (by rw [← d.len]; exact hj)] at h2
      obtain ⟨ys, a1, a2, a3, a4⟩ := d.cell j c es h1 h2
      have hc := List.mem_of_getElem? h1
      exact ⟨ys, by rw [upd_ne (show c ≠ A0 from fun z => d.nD (z ▸ hc)), upd_ne (inb hc)]; exact a1, a2, a3, a4⟩
    · rw [List.getElem?_append_right hj] at h1
      rw [List.getElem?_append_right (by rw [← d.len]; exact hj), ← d.len] at h2
      have hj0 : j - bs.length = 0 := by
        rcases Nat.eq_zero_or_pos (j - bs.length) with q | q
        · exact q
        · rw [List.getElem?_eq_none (by simp only [List.length_singleton]; omega)] at h1; cases h1
      rw [hj0] at h1 h2
      simp at h1 h2
      subst h1 h2
      exact ⟨xs, by rw [upd_ne nb, upd_same], r, hf, gb⟩
/-- a new cell comes into G -/
theorem EnvOk.inDeep {K : Frag} {G F H : Hp} {σ : L2.St} {ρ : EnvD} {A0 b : Addr} {xs : List V} {o o' : HO} (ok : EnvOk K G none F σ H ρ) (hb : H b = some (.lst xs)) (h0 : G A0 = some o) (hf0 : F A0 = none) (nb : G b = none)
    (sep : ∀ (i : Nat) t, ρ[i]? = some (some t) → t.own = true → σ[i]? ≠ some (some (.ref b))) : EnvOk K (upd (upd G b (.lst xs)) A0 o') none F σ (upd H A0 o') ρ := by
  have ok1 : EnvOk K (upd G b (.lst xs)) none F σ H ρ := ok.inG hb (fun z => nomatch z) sep
  have ne : A0 ≠ b := fun z => by rw [z, nb] at h0; cases h0
  exact ok1.appG (by rw [upd_ne ne]; exact h0) hf0
theorem compD_run {J : It} {ds : List D} {vs is : List Nat} {set : D → EnvD → Option EnvD} {e : M S} {g : TG} {tt : TT} {te : TE} {G F : Hp} {σ : L2.St} {H : Hp} {ρ : EnvD} {Q : VK} {dss : List (List D)} {ρ2 : EnvD} (wk : ∀ G0, Wk X.K G0 F J ds) (his : ∀ i ∈ is, i ∈ vs)
    (lg : ∀ G io F σ H ρ v d ρ' Q, EnvOk X.K G io F σ H ρ → Rp X.K F v d → set d ρ = some ρ' → (∀ σ', EnvOk X.K G io F σ' H ρ' → Ag is σ σ' → Q σ' H) → g v σ H Q)
    (lt : ∀ G io F σ H ρ Q, EnvOk X.K G io F σ H ρ → PoE rT X (fun _ _ _ _ => False) G io F σ Q (yesM ρ) → tt σ H Q)
    (le : ∀ G io F σ H ρ Q, EnvOk X.K G io F σ H ρ → PoE (rF X G io) X (fun _ _ _ _ => False) G io F σ Q (e ρ) → te σ H Q)
    (ok : EnvOk X.K G none F σ H ρ) (run : lcDp vs set e ds [] (wipeD ρ vs) = some (dss, ρ2))
    (q : ∀ A0 bs G' F' H', Fx G F F' → EnvOk X.K G' none F' σ H' (backD ρ ρ2 vs) → Deep X.K G G' F' A0 bs dss → Q (.ref A0) H')
    (A0 : Addr) (hA : H A0 = none) :
    ∃ Wv : Nat → Nat → Hp → Prop, (∃ m, Wv 0 m (upd H A0 (.lst []))) ∧ ∀ i m H, Wv i m H →
      (J.stop i H ∧ Q (.ref A0) H) ∨ (J.go i H ∧ ∃ Nx : Hp → Prop, (∀ H', Nx H' → ∃ m', m' < m ∧ Wv (i + 1) m' H') ∧ ∀ x H', J.yld i H x H' → g x (L2.wipe σ vs) H' fun σ2 H2 => L2.wipe σ2 vs = L2.wipe σ vs ∧ tt σ2 H2 fun b H3 =>
        if b = true then te σ2 H3 fun y H4 => ∃ acc, H4 A0 = some (.lst acc) ∧ acc.length < sizeLine ∧ Nx (upd H4 A0 (.lst (acc ++ [y]))) else Nx H3) := by
  have hF : F A0 = none := ok.f.none hA
  have hG : G A0 = none := by
    cases z : G A0 with
    | none => rfl
    | some u => have := ok.g _ _ z; rw [hA] at this; cases this
  have d0 : Deep X.K G (upd G A0 (.lst [])) F A0 [] [] := ⟨fun a o h => by rw [upd_ne (fun z => by rw [z, hG] at h; cases h)]; exact h, hG, hF, upd_same, .nil, by simp, rfl, fun j b es h => by simp at h⟩
  have ok0 : EnvOk X.K (upd G A0 (.lst [])) none F (L2.wipe σ vs) (upd H A0 (.lst [])) (wipeD ρ vs) := by
    obtain ⟨a, b, s⟩ := ok.laidOw (p := A0) (o := .lst []) (d := .list []) hA .nil
    exact (a.inG upd_same (fun z => nomatch z) fun i t e ho => s rfl i t e ho).wipe (L2.wipe_length σ vs) fun i hi => L2.wipe_out hi
  refine ⟨fun i m H' => ∃ G' F' ρ' bs ds', m = ds.length - i ∧ i ≤ ds.length ∧ Fx G F F' ∧ EnvOk X.K G' none F' (L2.wipe σ vs) H' ρ' ∧ Deep X.K G G' F' A0 bs ds' ∧ lcDp vs set e (ds.drop i) ds' ρ' = some (dss, ρ2),
    ⟨ds.length, _, F, wipeD ρ vs, [], [], by simp, Nat.zero_le _, Fx.refl G F, ok0, d0, by simpa using run⟩, ?_⟩
  rintro i m H1 ⟨G', F1, ρ1, bs, ds1, rfl, hi, fx, ok1, dp, run1⟩
  obtain ⟨go, stop⟩ := (wk G').step F1 H1 i fx.sub ok1.g ok1.f
  by_cases hlt : i < ds.length
  · refine .inr ⟨go hlt, fun H' => ∃ G' F' ρ' bs ds', Fx G F F' ∧ EnvOk X.K G' none F' (L2.wipe σ vs) H' ρ' ∧ Deep X.K G G' F' A0 bs ds' ∧ lcDp vs set e (ds.drop (i + 1)) ds' ρ' = some (dss, ρ2),
      fun H' ⟨G', F', ρ', bs, ds', a1, a2, a3, a4⟩ => ⟨ds.length - (i + 1), by omega, G', F', ρ', bs, ds', rfl, hlt, a1, a2, a3, a4⟩, fun x H' y => ?_⟩
    obtain ⟨F2, fx2, ok2, rx⟩ := yld_ok ok1 ((wk G').yld F1 H1 i ds[i] x H' fx.sub ok1.g ok1.f (by simp [hlt]) y)
    rw [List.drop_eq_getElem_cons hlt] at run1
    unfold lcDp at run1
    cases e1 : set ds[i] ρ1 with
    | none => simp only [e1] at run1; cases run1
    | some ρ3 =>
      simp only [e1] at run1
      refine lg G' none F2 _ H' ρ1 x ds[i] ρ3 _ ok2 rx e1 fun σ3 ok3 ag => ⟨wipe_ag his ag, ?_⟩
      have hw : L2.wipe σ3 vs = L2.wipe σ vs := wipe_ag his ag
      refine lt G' none F2 σ3 H' ρ3 _ ok3 ?_
      intro b' F4 H4 fx4 ok4 hb
      rw [show b' = true from hb, if_pos rfl]
      cases e3 : e ρ3 with
      | ok p =>
        obtain ⟨s, ρ5⟩ := p
        refine le G' none F4 σ3 H4 ρ3 _ ok4 ?_
        rw [e3]
        intro v F5 H5 fx5 ok5 ⟨rv, sp⟩
        simp only [e3] at run1
        cases s with
        | ow dd =>
          cases dd with
          | list xs =>
            simp only at run1
            split at run1
            · rename_i hl
              cases rv with
              | @ow b o d x1 x2 x3 x4 x5 =>
                obtain ⟨ys, rfl, rl⟩ := topL (H := H5) (a := b) x5
                have dp5 := ((dp.mono fx2).mono fx4).mono fx5
                have hz := ltM_ok hl
                have hlen := dp5.len
                refine ⟨bs.map V.ref, ok5.g _ _ dp5.top, by rw [List.length_map]; omega, upd (upd G' b (.lst ys)) A0 (.lst ((bs ++ [b]).map V.ref)), F5, wipeD ρ5 vs, bs ++ [b], ds1 ++ [xs], ((fx.trans (fx2.up dp.sub)).trans (fx4.up dp.sub)).trans (fx5.up dp.sub), ?_, dp5.more x2 x3 rl, run1⟩
                have ok6 := ok5.inDeep (o' := .lst ((bs ++ [b]).map V.ref)) x1 dp5.top dp5.fD x3 (sp rfl)
                rw [← hw]
                have em : (bs ++ [b]).map V.ref = bs.map V.ref ++ [.ref b] := by simp
                rw [em] at ok6 ⊢
                exact ok6.wipe (L2.wipe_length _ _) fun i hi => L2.wipe_out hi
            · cases run1
          | _ => cases run1
        | _ => cases run1
      | exc c => simp only [e3] at run1; cases run1
      | bad => simp only [e3] at run1; cases run1
  · have e : i = ds.length := by omega
    subst e
    refine .inl ⟨stop (Nat.le_refl _), ?_⟩
    rw [List.drop_length] at run1
    unfold lcDp at run1
    cases run1
    exact q A0 bs G' F1 H1 fx (EnvOk.back ok fx.sub ok1.unwipe vs) dp
theorem EnvOk.blank {K : Frag} {G F H : Hp} {io : Option Addr} {σ : L2.St} {ρ : EnvD} (ok : EnvOk K G io F σ H ρ) : EnvOk K G io F σ H (List.replicate ρ.length none) :=
  ⟨ok.g, ok.f, by rw [List.length_replicate]; exact ok.len, fun i s e => (rep_none e).elim, fun i j s t v e => (rep_none e).elim, ok.iok⟩
theorem EnvOk.pin {K : Frag} {G F H : Hp} {io : Option Addr} {σ : L2.St} {ρ : EnvD} {i : Nat} {a : Addr} (ok : EnvOk K G io F σ H ρ) (hi : i < ρ.length) : EnvOk K G io F (σ.set i (some (.ref a))) H (ρ.set i (some (.lk (.int (a : Nat))))) :=
  ok.setRS (s := .lk (.int (a : Nat))) .lk (fun z => nomatch z) hi
theorem lss_deep {i : Nat} {x : Str} {elt tg iter : Expr} {scope : Scope} {own : List (Str × Nat)} {is : List Nat} {pos pos' spos : Pos} {m : M (List D)} {set : D → EnvD → Option EnvD} {e : M S} {rest : List Stmt} {g : FnD} (hc : X.calm = true) (hN : X.N.Nodup) (hy : X.N[i]? = some x) (hyl : X.env.scope.names.lookup x = some .local)
    (hsw : swapsWith (.ListComp elt [⟨tg, iter, [], 0⟩] scope pos) (some (.Name x pos')) spos.line X.env = pure true) (hi : LI X W tg iter m) (hk : blkC X.N X.env.scope scope own = true) (his : ∀ i ∈ is, i ∈ own.map (·.2))
    (hg : ∀ (s : Shared) (H : Hp) (C : Addr) (cl : List (Str × Addr)) (fp : List Addr), LG (X.blk s H scope (compEnvC scope cl C X.env) fp) tg is set)
    (he : ∀ (s : Shared) (H : Hp) (C : Addr) (cl : List (Str × Addr)) (fp : List Addr), LF (X.blk s H scope (compEnvC scope cl C X.env) fp) cN elt e)
    (hr : LDs X i rest g) (hs : ∀ x, foldedSetIterable iter X.env x = pure x := by intro _; rfl) : LSs X W (.Assign [.Name x pos'] (.ListComp elt [⟨tg, iter, [], 0⟩] scope pos) spos :: rest) (deepM i m (own.map (·.2)) set e g) := by
  obtain ⟨wi, hi, li⟩ := hi.ex
  obtain ⟨u, hu, lu⟩ := hr.ex
  have pg : ∀ (s : Shared) (H : Hp) (C : Addr) (cl : List (Str × Addr)) (fp : List Addr), PG (X.blk s H scope (compEnvC scope cl C X.env) fp) tg (gM X.K is set) := fun s H C cl fp => (hg s H C cl fp).pg
  have pt : ∀ (s : Shared) (H : Hp) (C : Addr) (cl : List (Str × Addr)) (fp : List Addr), PTs (X.blk s H scope (compEnvC scope cl C X.env) fp) [] (tM X yesM) := fun s H C cl fp => (lts_nil (X := X.blk s H scope (compEnvC scope cl C X.env) fp)).pts
  have pe : ∀ (s : Shared) (H : Hp) (C : Addr) (cl : List (Str × Addr)) (fp : List Addr), PE (X.blk s H scope (compEnvC scope cl C X.env) fp) elt (eMF X e) := fun s H C cl fp => (he s H C cl fp).pe
  refine ⟨_, pss_cons (ps_setLc hc hN hy hyl hsw hi (blkOk_by hk) pg pt pe hs) hu, fun G io F σ H ρ E ok q => ?_⟩
  unfold deepM at q
  split at q
  · rename_i hno
    obtain ⟨G1, ig, ok1⟩ := ok.io_in hno
    refine li G1 none F σ H ρ _ ok1 ?_
    cases e1 : m ρ with
    | ok p =>
      obtain ⟨ds, ρ1⟩ := p
      rw [e1] at q
      simp only at q
      intro J F1 H1 fx1 ok2 wk A0 hA
      cases e2 : lcDp (own.map (·.2)) set e ds [] (wipeD ρ1 (own.map (·.2))) with
      | none => rw [e2] at q; exact q.elim
      | some p =>
        obtain ⟨dss, ρ2⟩ := p
        rw [e2] at q
        simp only at q
        split at q
        · rename_i hl
          have hl2 : i < (backD ρ1 ρ2 (own.map (·.2))).length ∨ True := .inr trivial
          refine compD_run (g := gM X.K is set) (tt := tM X yesM) (te := eMF X e) (Q := fun v H1 => u E (σ.set i (some v)) H1) wk his (fun G io F σ H ρ v d ρ' Q a b c d => ⟨G, io, F, ρ, _, _, a, b, c, d⟩) (fun G io F σ H ρ Q a b => ⟨G, io, F, ρ, a, b⟩) (fun G io F σ H ρ Q a b => ⟨G, io, F, ρ, a, b⟩) ok2 e2 (fun A0 bs G' F2 H2 fx2 ok3 dp => ?_) A0 hA
          have hlen : i < (backD ρ1 ρ2 (own.map (·.2))).length := by rw [ok3.len, ← ok.len]; exact hl
          by_cases hRt : ∃ s, RtAll (fun a => g ((backD ρ1 ρ2 (own.map (·.2))).set i (some (.lk (.int a)))) dss) s
          · obtain ⟨s, hRt⟩ := hRt
            rw [ddM_eq hRt] at q
            obtain ⟨ρ3, e3⟩ := hRt (A0 : Nat)
            refine lu G1 F2 _ H2 _ dss E ⟨G', A0, bs, ok3.pin hlen, dp, List.getElem?_set_self hlen⟩ ?_
            simp only at e3
            rw [e3]
            intro v σ' F3 H3 fx3 ok4 rs
            have hρ : ρ.length = ρ3.length ∨ True := .inr trivial
            have ok5 := (ok4.io_out ig).blank
            have fxs : Fx G F F3 := ((fx1.trans fx2).trans fx3).up ig.sub
            by_cases hlen3 : ρ3.length = ρ.length
            · rw [hlen3] at ok5
              exact q v σ' F3 H3 fxs ok5 (rs.io_out ig)
            · exact q v σ F3 H3 fxs ⟨ok5.g, ok5.f, by rw [List.length_replicate]; exact ok.len, fun i s e => (rep_none e).elim, fun i j s t v e => (rep_none e).elim, ok5.iok⟩ (rs.io_out ig)
          · unfold ddM at q
            rw [dif_neg hRt] at q
            exact q.elim
        · exact q.elim
    | exc c => rw [e1] at q; exact q.elim
    | bad => rw [e1] at q; exact q.elim
  · exact q.elim
end
end Lf

/-! LV: chains of three, a dict display, walks over dicts. -/
namespace Lf
open PySem PySem.Spec PyProof.Rows L2
section
variable {X : Cx} {W : WX}
/-! ### walks over dicts -/
theorem ps_or {st : Stmt} {t u : TS} (h : PS X st t) (k : PS X st u) : PS X st (fun E σ H => t E σ H ∨ u E σ H) :=
  ⟨fun pins s σ H D I q => q.elim (h.run pins s σ H D I) (k.run pins s σ H D I)⟩
theorem pe_or' {e : Expr} {t u : TE} (h : PE X e t) (k : PE X e u) : PE X e (fun σ H Q => t σ H Q ∨ u σ H Q) :=
  ⟨fun pins s σ H Q I q => q.elim (h.run pins s σ H Q I) (k.run pins s σ H Q I)⟩
section
variable {K : Frag} {G F H : Hp} {io : Option Addr} {σ : L2.St} {ρ : EnvD} {d : Addr} {u o : HO}
theorem EnvOk.lock (ok : EnvOk K G io F σ H ρ) (hf : F d = some u) (hu : isDct u = true) {od : Obj} : EnvOk K (upd G d (.frz od u)) io F σ (upd H d (.frz od u)) ρ := by
  have ne : ∀ {a : Addr}, F a = none → a ≠ d := fun {a} h z => by rw [z, hf] at h; cases h
  refine ⟨fun a w h => ?_, fun a w h => ?_, ok.len, fun i s e => ?_, ok.apart, fun a h => ?_⟩
  · by_cases ha : a = d
    · subst ha; rw [upd_same] at h ⊢; exact h
    · rw [upd_ne ha] at h ⊢; exact ok.g _ _ h
  · by_cases ha : a = d
    · subst ha; rw [hf] at h; cases h; exact .inr ⟨hu, od, upd_same⟩
    · rw [upd_ne ha]; exact ok.f _ _ h
  · obtain ⟨v, h1, r⟩ := ok.at_ i s e
    refine ⟨v, h1, ?_⟩
    cases r with
    | fr q => exact .fr q
    | ow x y z w q => exact .ow (by rw [upd_ne (ne y)]; exact x) y (by rw [upd_ne (ne y)]; exact z) w q
    | lk => exact .lk
    | io x y z w q => exact .io (by rw [upd_ne (ne y)]; exact x) y (by rw [upd_ne (ne y)]; exact z) w q
  · by_cases ha : a = d
    · subst ha; rw [upd_same]; exact fun z => nomatch z
    · rw [upd_ne ha]; exact ok.iok a h
theorem gn_of_upd {a : Addr} (h : upd G d o a = none) : a ≠ d ∧ G a = none := by
  by_cases ha : a = d
  · subst ha; rw [upd_same] at h; cases h
  · rw [upd_ne ha] at h; exact ⟨ha, h⟩
theorem RS.unlock {v : V} {s : S} (r : RS K (upd G d o) io F H v s) : RS K G io F (upd H d u) v s := by
  cases r with
  | fr q => exact .fr q
  | ow x y z w q => exact .ow (by rw [upd_ne (gn_of_upd z).1]; exact x) y (gn_of_upd z).2 w q
  | lk => exact .lk
  | io x y z w q => exact .io (by rw [upd_ne (gn_of_upd z).1]; exact x) y (gn_of_upd z).2 w q
theorem EnvOk.unlock (ok : EnvOk K (upd G d o) io F σ H ρ) (hf : F d = some u) (hg : ∀ w, G d = some w → w = u) : EnvOk K G io F σ (upd H d u) ρ := by
  refine ⟨fun a w h => ?_, fun a w h => ?_, ok.len, fun i s e => ?_, ok.apart, fun a h => ?_⟩
  · by_cases ha : a = d
    · subst ha; rw [hg _ h]; exact upd_same
    · rw [upd_ne ha]; exact ok.g _ _ (by rw [upd_ne ha]; exact h)
  · by_cases ha : a = d
    · subst ha; rw [hf] at h; cases h; exact .inl upd_same
    · rw [upd_ne ha]; exact ok.f _ _ h
  · obtain ⟨v, h1, r⟩ := ok.at_ i s e
    exact ⟨v, h1, r.unlock⟩
  · by_cases ha : a = d
    · subst ha; rw [upd_same]; exact fun z => nomatch z
    · rw [upd_ne ha]; exact ok.iok a h
theorem upd_self (h : H d = some u) : upd H d u = H := by
  funext a
  by_cases ha : a = d
  · subst ha; rw [upd_same]; exact h.symm
  · rw [upd_ne ha]
/-- the same, the lock stays -/
theorem EnvOk.relock (ok : EnvOk K G io F σ H ρ) (hh : H d = some o) (hf : F d = some u) : EnvOk K (upd G d o) io F σ H ρ := by
  refine ⟨fun a w h => ?_, ok.f, ok.len, fun i s e => ?_, ok.apart, ok.iok⟩
  · by_cases ha : a = d
    · subst ha; rw [upd_same] at h; cases h; exact hh
    · rw [upd_ne ha] at h; exact ok.g _ _ h
  · have ne : ∀ {a : Addr}, F a = none → a ≠ d := fun {a} h z => by rw [z, hf] at h; cases h
    obtain ⟨v, h1, r⟩ := ok.at_ i s e
    refine ⟨v, h1, ?_⟩
    cases r with
    | fr q => exact .fr q
    | ow x y z w q => exact .ow x y (by rw [upd_ne (ne y)]; exact z) w q
    | lk => exact .lk
    | io x y z w q => exact .io x y (by rw [upd_ne (ne y)]; exact z) w q
theorem RS.relock {v : V} {s : S} (r : RS K (upd G d o) io F H v s) : RS K G io F H v s := by
  cases r with
  | fr q => exact .fr q
  | ow x y z w q => exact .ow x y (gn_of_upd z).2 w q
  | lk => exact .lk
  | io x y z w q => exact .io x y (gn_of_upd z).2 w q
theorem EnvOk.unrelock (ok : EnvOk K (upd G d o) io F σ H ρ) (hg : ∀ w, G d = some w → w = o) : EnvOk K G io F σ H ρ := by
  refine ⟨fun a w h => ok.g _ _ ?_, ok.f, ok.len, fun i s e => ?_, ok.apart, ok.iok⟩
  · by_cases ha : a = d
    · subst ha; rw [hg _ h]; exact upd_same
    · rw [upd_ne ha]; exact h
  · obtain ⟨v, h1, r⟩ := ok.at_ i s e
    exact ⟨v, h1, r.relock⟩
end
theorem Fx.offG {G F F' : Hp} {d : Addr} {o : HO} (fx : Fx (upd G d o) F F') : Fx G F F' := fxG fx
/-- what a dict slot gives: frozen, its dict in F -/
theorem dk_slot {i : Nat} {G : Hp} {io : Option Addr} {F : Hp} {σ : L2.St} {H : Hp} {ρ ρ1 : EnvD} {es : List (D × D)} (ok : EnvOk X.K G io F σ H ρ) (e : varM i ρ = .ok (.dict es, ρ1)) (ht : ¬ isTd es = true) :
    ∃ F1 d kvs, Fx G F F1 ∧ EnvOk X.K G io F1 σ H ρ1 ∧ σ[i]? = some (some (.ref d)) ∧ F1 d = some (.dK kvs) ∧ RpK X.K F1 kvs es := by
  have key : ∃ F1 v, Fx G F F1 ∧ EnvOk X.K G io F1 σ H ρ1 ∧ σ[i]? = some (some v) ∧ Rp X.K F1 v (.dict es) := by
    unfold varM at e
    split at e
    · rename_i d e1
      cases e
      obtain ⟨v, h1, r⟩ := ok.at_ i _ e1
      cases r with
      | fr r => exact ⟨F, v, Fx.refl G F, ok, h1, r⟩
    · rename_i d e1
      cases e
      obtain ⟨F', v, fx, ok', h1, r⟩ := ok.freezeSlot e1
      exact ⟨F', v, fx, ok', h1, r⟩
    · cases e
  obtain ⟨F1, v, fx, ok1, h1, r⟩ := key
  cases r with
  | dK h l => exact ⟨F1, _, _, fx, ok1, h1, h, l⟩
  | dT h l => exact absurd rfl ht
def noExc : Out → Out
  | .exc _ => .bad
  | o => o
def forKM (i : Nat) (set : D → EnvD → Option EnvD) (f : EnvD → Out) : EnvD → Out := fun ρ => match varM i ρ with
  | .ok (.dict es, ρ1) => if isTd es = true then .bad else noExc (forD set f (es.map (·.1)) ρ1)
  | _ => .bad
theorem ls_forK {i : Nat} {n : Str} {p : Pos} {tg : Expr} {is : List Nat} {body : List Stmt} {pos : Pos} {set : D → EnvD → Option EnvD} {f : EnvD → Out} (hp : PassesOwn (model X.prog X.w) X.A X.env X.xe) (hc : X.calm = true) (hg : LG X tg is set) (hb : LSs X W body f)
    (hN : X.N[i]? = some n := by rfl) (hv : Vis X.env.scope n := by first | exact Or.inl rfl | exact Or.inr (Or.inl rfl) | exact Or.inr (Or.inr rfl)) (hd : (n == ("__debug__" : Str)) = false := by decide) (hcd : (n == ("__classdict__" : Str)) = false := by decide)
    (hs : ∀ x, foldedSetIterable (.Name n p) X.env x = pure x := by intro _; rfl) : LS X W (.For tg (.Name n p) body [] pos) (forKM i set f) := by
  obtain ⟨g, hg, lg⟩ := hg.ex
  obtain ⟨tb, hb, lb⟩ := hb.ex
  have base := ps_for hp hc (pi_keys (tg := tg) (pe_var (pos := p) hN hv hd hcd)) hg hb hs (pos := pos)
  refine ⟨_, ps_or (ps_lock base) base, fun G io F σ H ρ E ok q => ?_⟩
  unfold forKM at q
  split at q
  · rename_i es ρ1 e1
    split at q
    · exact q.elim
    · rename_i ht
      obtain ⟨F1, d, kvs, fx, ok1, h1, hF, l⟩ := dk_slot ok e1 ht
      have q := q.mono fx
      rcases ok1.f _ _ hF with hh | ⟨_, od, hh⟩
      · refine .inl ⟨d, .dK kvs, hh, trivial, fun od => ?_⟩
        have ok2 : EnvOk X.K (upd G d (.frz od (.dK kvs))) io F1 σ (upd H d (.frz od (.dK kvs))) ρ1 := ok1.lock hF rfl
        have hgd : ∀ w, G d = some w → w = .dK kvs := fun w e => by have := ok1.g _ _ e; rw [hh] at this; cases this; rfl
        refine ⟨_, h1, d, od, rfl, .inl ⟨kvs, upd_same, ?_⟩⟩
        refine for_run (mgc := X.mg) rfl (wk_keys (G := upd G d (.frz od (.dK kvs))) upd_same l) lg lb ok2 ?_
        cases e2 : forD set f (es.map (·.1)) ρ1 with
        | nx ρ' => rw [e2] at q; exact fun σ' F' H' fx' ok' => ⟨ok'.g _ _ upd_same, q σ' F' _ fx'.offG (ok'.unlock (fx'.sub _ _ hF) hgd)⟩
        | rt s ρ' => rw [e2] at q; exact fun v σ' F' H' fx' ok' rs => ⟨ok'.g _ _ upd_same, q v σ' F' _ fx'.offG (ok'.unlock (fx'.sub _ _ hF) hgd) rs.unlock⟩
        | bk ρ' => rw [e2] at q; exact fun σ' F' H' fx' ok' => ⟨ok'.g _ _ upd_same, q σ' F' _ fx'.offG (ok'.unlock (fx'.sub _ _ hF) hgd)⟩
        | ct ρ' => rw [e2] at q; exact fun σ' F' H' fx' ok' => ⟨ok'.g _ _ upd_same, q σ' F' _ fx'.offG (ok'.unlock (fx'.sub _ _ hF) hgd)⟩
        | exc c => rw [e2] at q; exact q.elim
        | bad => rw [e2] at q; exact q.elim
      · refine .inr ?_
        have ok2 : EnvOk X.K (upd G d (.frz od (.dK kvs))) io F1 σ H ρ1 := ok1.relock hh hF
        have hgd : ∀ w, G d = some w → w = .frz od (.dK kvs) := fun w e => by have := ok1.g _ _ e; rw [hh] at this; cases this; rfl
        refine ⟨_, h1, d, od, rfl, .inl ⟨kvs, hh, ?_⟩⟩
        refine for_run (mgc := X.mg) rfl (wk_keys (G := upd G d (.frz od (.dK kvs))) upd_same l) lg lb ok2 ?_
        cases e2 : forD set f (es.map (·.1)) ρ1 with
        | nx ρ' => rw [e2] at q; exact fun σ' F' H' fx' ok' => q σ' F' _ fx'.offG (ok'.unrelock hgd)
        | rt s ρ' => rw [e2] at q; exact fun v σ' F' H' fx' ok' rs => q v σ' F' _ fx'.offG (ok'.unrelock hgd) rs.relock
        | bk ρ' => rw [e2] at q; exact fun σ' F' H' fx' ok' => q σ' F' _ fx'.offG (ok'.unrelock hgd)
        | ct ρ' => rw [e2] at q; exact fun σ' F' H' fx' ok' => q σ' F' _ fx'.offG (ok'.unrelock hgd)
        | exc c => rw [e2] at q; exact q.elim
        | bad => rw [e2] at q; exact q.elim
  · exact q.elim
def compKM (i : Nat) (vs : List Nat) (set : D → EnvD → Option EnvD) (c : M Bool) (e : M D) : M S := fun ρ => match varM i ρ with
  | .ok (.dict es, ρ1) => if isTd es = true then .bad else (match lcD vs set c e (es.map (·.1)) [] (wipeD ρ1 vs) with
    | .ok (ys, ρ2) => .ok (.ow (.list ys), backD ρ1 ρ2 vs)
    | _ => .bad)
  | _ => .bad
theorem Sep.same {σ : L2.St} {ρ : EnvD} {v : V} {s : S} (h : Sep σ ρ v s) : Sep σ ρ v s := h
theorem lf_compK {i : Nat} {n : Str} {p : Pos} {elt tg : Expr} {ifs : List Expr} {scope : Scope} {own : List (Str × Nat)} {is : List Nat} {pos : Pos} {set : D → EnvD → Option EnvD} {c : M Bool} {e : M D} (hc : X.calm = true) (hNd : X.N.Nodup) (hk : blkC X.N X.env.scope scope own = true) (his : ∀ i ∈ is, i ∈ own.map (·.2))
    (hg : ∀ (s : Shared) (H : Hp) (C : Addr) (cl : List (Str × Addr)) (fp : List Addr), LG (X.blk s H scope (compEnvC scope cl C X.env) fp) tg is set)
    (ht : ∀ (s : Shared) (H : Hp) (C : Addr) (cl : List (Str × Addr)) (fp : List Addr), LTs (X.blk s H scope (compEnvC scope cl C X.env) fp) ifs c)
    (he : ∀ (s : Shared) (H : Hp) (C : Addr) (cl : List (Str × Addr)) (fp : List Addr), LE (X.blk s H scope (compEnvC scope cl C X.env) fp) cN elt e)
    (hN : X.N[i]? = some n := by rfl) (hv : Vis X.env.scope n := by first | exact Or.inl rfl | exact Or.inr (Or.inl rfl) | exact Or.inr (Or.inr rfl)) (hd : (n == ("__debug__" : Str)) = false := by decide) (hcd : (n == ("__classdict__" : Str)) = false := by decide)
    (hs : ∀ x, foldedSetIterable (.Name n p) X.env x = pure x := by intro _; rfl) : LF X W (.ListComp elt [⟨tg, .Name n p, ifs, 0⟩] scope pos) (compKM i (own.map (·.2)) set c e) := by
  have pg : ∀ (s : Shared) (H : Hp) (C : Addr) (cl : List (Str × Addr)) (fp : List Addr), PG (X.blk s H scope (compEnvC scope cl C X.env) fp) tg (gM X.K is set) := fun s H C cl fp => (hg s H C cl fp).pg
  have pt : ∀ (s : Shared) (H : Hp) (C : Addr) (cl : List (Str × Addr)) (fp : List Addr), PTs (X.blk s H scope (compEnvC scope cl C X.env) fp) ifs (tM X c) := fun s H C cl fp => (ht s H C cl fp).pts
  have pe : ∀ (s : Shared) (H : Hp) (C : Addr) (cl : List (Str × Addr)) (fp : List Addr), PE (X.blk s H scope (compEnvC scope cl C X.env) fp) elt (eM X e) := fun s H C cl fp => (he s H C cl fp).pe
  have base := pe_lc hc hNd (pi_keys (tg := tg) (pe_var (pos := p) hN hv hd hcd)) (blkOk_by hk) pg pt pe hs (pos := pos)
  refine ⟨_, pe_or' (pe_lock base) base, fun G io F σ H ρ Q ok q => ?_⟩
  unfold compKM at q
  split at q
  · rename_i es ρ1 e1
    split at q
    · exact q.elim
    · rename_i ht
      obtain ⟨F1, d, kvs, fx, ok1, h1, hF, l⟩ := dk_slot ok e1 ht
      cases e2 : lcD (own.map (·.2)) set c e (es.map (·.1)) [] (wipeD ρ1 (own.map (·.2))) with
      | ok p =>
        obtain ⟨ys, ρ2⟩ := p
        simp only [e2] at q
        rcases ok1.f _ _ hF with hh | ⟨_, od, hh⟩
        · refine .inl ⟨d, .dK kvs, hh, trivial, fun od => ?_⟩
          have ok2 : EnvOk X.K (upd G d (.frz od (.dK kvs))) io F1 σ (upd H d (.frz od (.dK kvs))) ρ1 := ok1.lock hF rfl
          have hgd : ∀ w, G d = some w → w = .dK kvs := fun w e => by have := ok1.g _ _ e; rw [hh] at this; cases this; rfl
          refine ⟨_, h1, d, od, rfl, .inl ⟨kvs, upd_same, ?_⟩⟩
          intro A0 hA
          refine comp_run (Q := fun v H' => H' d = some (.frz od (.dK kvs)) ∧ Q v (upd H' d (.dK kvs))) (wk_keys (G := upd G d (.frz od (.dK kvs))) upd_same l) his (fun G io F σ H ρ v d ρ' Q a b c d => ⟨G, io, F, ρ, _, _, a, b, c, d⟩) (fun G io F σ H ρ Q a b => ⟨G, io, F, ρ, a, b⟩) (fun G io F σ H ρ Q a b => ⟨G, io, F, ρ, a, b⟩) ok2 e2
            (fun v F' H' fx' ok' r => ⟨ok'.g _ _ upd_same, q v F' _ (fx.trans fx'.offG) (ok'.unlock (fx'.sub _ _ hF) hgd) ⟨r.1.unlock, r.2⟩⟩) A0 hA
        · refine .inr ?_
          have ok2 : EnvOk X.K (upd G d (.frz od (.dK kvs))) io F1 σ H ρ1 := ok1.relock hh hF
          have hgd : ∀ w, G d = some w → w = .frz od (.dK kvs) := fun w e => by have := ok1.g _ _ e; rw [hh] at this; cases this; rfl
          refine ⟨_, h1, d, od, rfl, .inl ⟨kvs, hh, ?_⟩⟩
          intro A0 hA
          exact comp_run (wk_keys (G := upd G d (.frz od (.dK kvs))) upd_same l) his (fun G io F σ H ρ v d ρ' Q a b c d => ⟨G, io, F, ρ, _, _, a, b, c, d⟩) (fun G io F σ H ρ Q a b => ⟨G, io, F, ρ, a, b⟩) (fun G io F σ H ρ Q a b => ⟨G, io, F, ρ, a, b⟩) ok2 e2
            (fun v F' H' fx' ok' r => q v F' _ (fx.trans fx'.offG) (ok'.unrelock hgd) ⟨r.1.relock, r.2⟩) A0 hA
      | exc c => simp only [e2] at q; exact q.elim
      | bad => simp only [e2] at q; exact q.elim
  · exact q.elim
/-! ### a op1 b op2 c op3 d -/
theorem pt_chain3 {a b c d : Expr} {o1 o2 o3 : CmpOp} {ta tb tc td : TE} {r1 r2 r3 : R2} {pos : Pos} (h1 : OpR X (compareOp o1) r1) (h2 : OpR X (compareOp o2) r2) (h3 : OpR X (compareOp o3) r3) (ha : PE X a ta) (hb : PE X b tb) (hc : PE X c tc) (hd : PE X d td)
    (hm : lastMarks [o1, o2, o3] [b, c, d] = false := by with_unfolding_all rfl) : PT X (.Compare a [o1, o2, o3] [b, c, d] pos) (fun σ H Q => ta σ H fun x H1 => tb σ H1 fun y H2 => r1 x y H2 fun z H3 => ∃ k, z = .bl k ∧
      (if k = true then tc σ H3 fun w H4 => r2 y w H4 fun z2 H5 => ∃ k2, z2 = .bl k2 ∧ (if k2 = true then td σ H5 fun u H6 => r3 w u H6 fun z3 H7 => ∃ k3, z3 = .bl k3 ∧ Q k3 H7 else Q false H5) else Q false H3)) := by
  refine ⟨fun pins s σ H Q I h => ?_⟩
  refine isTrue_chain (thn (ha.run pins s σ H _ I h) fun v s1 ⟨x, H1, I1, r1', q1⟩ => test_link (thn (hb.run pins s1 σ H1 _ I1 q1) fun u s2 ⟨y, H2, I2, r2', q2⟩ =>
    thn (h1 pins s2 σ H2 x y v u _ I2 r1' r2' q2) fun d s3 ⟨z, H3, I3, r3', k, e, q3⟩ => ?_)) hm
  subst e
  cases r3'
  refine wpAny_truthy_bool ?_
  cases k with
  | false => exact ite_ff ⟨H3, I3, q3⟩
  | true =>
    refine ite_tt (test_link (thn (hc.run pins s3 σ H3 _ I3 q3) fun w s4 ⟨z4, H4, I4, r4, q4⟩ => thn (h2 pins s4 σ H4 y z4 u w _ I4 r2' r4 q4) fun d5 s5 ⟨z5, H5, I5, r5, k2, e5, q5⟩ => ?_))
    subst e5
    cases r5
    refine wpAny_truthy_bool ?_
    cases k2 with
    | false => exact ite_ff ⟨H5, I5, q5⟩
    | true =>
      refine ite_tt (test_last (thn (hd.run pins s5 σ H5 _ I5 q5) fun w6 s6 ⟨z6, H6, I6, r6, q6⟩ => thn (h3 pins s6 σ H6 z4 z6 w w6 _ I6 r4 r6 q6) fun d7 s7 ⟨z7, H7, I7, r7, k3, e7, q7⟩ => ?_))
      subst e7
      cases r7
      exact wpAny_truthy_bool ⟨H7, I7, q7⟩
def asB (m : M D) : M Bool := tst m
def chain3M (g1 g2 g3 : D → D → Option D) (a b c d : M D) : M Bool := a.bind fun x => b.bind fun y => (M.opt ((g1 x y).bind boolO)).bind fun k => if k = true then (c.bind fun w => (M.opt ((g2 y w).bind boolO)).bind fun k2 => if k2 = true then (d.bind fun u => M.opt ((g3 w u).bind boolO)) else M.pure false) else M.pure false
theorem optB {G io F σ H ρ} {β : Type} {R : Hp → Hp → Bool → β → L2.St → EnvD → Prop} {Q : Bool → Hp → Prop} {g : D → D → Option D} {r : R2} {x y : V} {d e : D} {k : Bool → M β} {P : VK} (hg : Op2 X.K r g) (ok : EnvOk X.K G io F σ H ρ) (r1 : Rp X.K F x d) (r2 : Rp X.K F y e)
    (q : PoE R X W G io F σ Q ((M.opt ((g d e).bind boolO)).bind k ρ)) (h : ∀ b, PoE R X W G io F σ Q (k b ρ) → P (.bl b) H) : r x y H P := by
  cases e1 : g d e with
  | none => rw [e1] at q; exact q.elim
  | some z =>
    obtain ⟨v, rv, kk⟩ := hg F H x y d e z ok.f r1 r2 e1
    rw [e1] at q
    cases z with
    | bool b => cases rv; exact kk P (h b q)
    | _ => exact q.elim
theorem lt_chain3 {a b c d : Expr} {o1 o2 o3 : CmpOp} {r1 r2 r3 : R2} {pos : Pos} {ma mb mc md : M D} {g1 g2 g3 : D → D → Option D} (h1 : OpR X (compareOp o1) r1) (h2 : OpR X (compareOp o2) r2) (h3 : OpR X (compareOp o3) r3) (k1 : Op2 X.K r1 g1) (k2 : Op2 X.K r2 g2) (k3 : Op2 X.K r3 g3)
    (ha : LE X W a ma) (hb : LE X W b mb) (hc : LE X W c mc) (hd : LE X W d md) (hm : lastMarks [o1, o2, o3] [b, c, d] = false := by with_unfolding_all rfl) : LT X W (.Compare a [o1, o2, o3] [b, c, d] pos) (chain3M g1 g2 g3 ma mb mc md) := by
  obtain ⟨ta, ha, la⟩ := ha.ex
  obtain ⟨tb, hb, lb⟩ := hb.ex
  obtain ⟨tc, hc, lc⟩ := hc.ex
  obtain ⟨td, hd, ld⟩ := hd.ex
  refine ⟨_, pt_chain3 h1 h2 h3 ha hb hc hd hm, fun G io F σ H ρ Q ok q => ?_⟩
  refine la G io F σ H ρ _ ok (PoE.bind q fun x d ρ1 F1 H1 fx ok1 s1 q1 => ?_)
  refine lb G io F1 σ H1 ρ1 _ ok1 (PoE.bind q1 fun y e ρ2 F2 H2 fx2 ok2 s2 q2 => ?_)
  refine optB k1 ok2 (s1.mono fx2.sub) s2 q2 fun b q3 => ⟨b, rfl, ?_⟩
  cases b with
  | false => exact q3 false F2 H2 (Fx.refl G F2) ok2 rfl
  | true =>
    rw [if_pos rfl]
    rw [if_pos rfl] at q3
    refine lc G io F2 σ H2 ρ2 _ ok2 (PoE.bind q3 fun w f ρ3 F3 H3 fx3 ok3 s3 q4 => ?_)
    refine optB k2 ok3 (s2.mono fx3.sub) s3 q4 fun b q5 => ⟨b, rfl, ?_⟩
    cases b with
    | false => exact q5 false F3 H3 (Fx.refl G F3) ok3 rfl
    | true =>
      rw [if_pos rfl]
      rw [if_pos rfl] at q5
      refine ld G io F3 σ H3 ρ3 _ ok3 (PoE.bind q5 fun u h ρ4 F4 H4 fx4 ok4 s4 q6 => ?_)
      rw [← bind_pure (M.opt _)] at q6
      exact optB k3 ok4 (s3.mono fx4.sub) s4 q6 fun b q7 => ⟨b, rfl, q7 b F4 H4 (Fx.refl G F4) ok4 rfl⟩
/-! ### {k: v} -/
def disp1M (mk mv : M D) : M S := mk.bind fun k => mv.bind fun d => M.opt ((keyOf k).map fun k => .ow (.dict [(keyD k, d)]))
theorem lf_dict1 {ek ev : Expr} {pos : Pos} {mk mv : M D} (hk : LE X W ek mk) (hv : LE X W ev mv) : LF X W (.Dict [some ek] [ev] pos) (disp1M mk mv) := by
  obtain ⟨tk, hk, lk⟩ := hk.ex
  obtain ⟨tv, hv, lv⟩ := hv.ex
  refine ⟨_, pe_disp (pps_cons hk hv pps_nil) rfl rfl (by simp) (by show 1 ≤ 15; decide), fun G io F σ H ρ Q ok q => fun p hp => ?_⟩
  have hf : F p = none := ok.f.none hp
  have hg : G p = none := by
    cases z : G p with
    | none => rfl
    | some u => have := ok.g _ _ z; rw [hp] at this; cases this
  have hio : some p ≠ io := fun z => ok.iok p z.symm hp
  have ok1 : EnvOk X.K (upd G p (.dK [])) io F σ (upd H p (.dK [])) ρ := by
    obtain ⟨a, b, s⟩ := ok.laidOw (p := p) (o := .dK []) (d := .dict []) hp .nil
    exact a.inG upd_same hio fun i t e ho => s rfl i t e ho
  unfold disp1M M.bind at q
  cases e1 : mk ρ with
  | ok pp =>
    obtain ⟨dk, ρ1⟩ := pp
    simp only [e1] at q
    refine lk _ io F σ _ ρ _ ok1 ?_
    rw [e1]
    intro x F1 H1 fx1 ok2 rk
    cases e2 : mv ρ1 with
    | ok pp =>
      obtain ⟨dv, ρ2⟩ := pp
      simp only [e2] at q
      refine lv _ io F1 σ H1 ρ1 _ ok2 ?_
      rw [e2]
      intro y F2 H2 fx2 ok3 rv
      refine ⟨ok3.g _ _ upd_same, ?_⟩
      cases e3 : keyOf dk with
      | none => rw [e3] at q; exact q.elim
      | some k =>
        rw [e3] at q
        refine ⟨[(k, y)], by rw [keyOf_rp rk e3]; rfl, by show 1 ≤ 15; decide, ?_⟩
        have f2 : F2 p = none := (fx1.trans fx2).none_of hf ⟨_, upd_same⟩
        have ok4 : EnvOk X.K (upd (upd G p (.dK [])) p (.dK [(k, y)])) io F2 σ (upd H2 p (.dK [(k, y)])) ρ2 := ok3.appG upd_same f2
        have eG : upd (upd G p (.dK [])) p (.dK [(k, y)]) = upd G p (.dK [(k, y)]) := by
          funext a
          by_cases ha : a = p
          · subst ha; rw [upd_same, upd_same]
          · rw [upd_ne ha, upd_ne ha, upd_ne ha]
        rw [eG] at ok4
        obtain ⟨ok5, sp⟩ := ok4.outG hg
        have em : mergeK [] [(k, y)] = [(k, y)] := rfl
        rw [em]
        exact q (.ref p) F2 _ (fxG (fx1.trans fx2)) ok5 ⟨.ow upd_same f2 hg hio (show RpK X.K F2 [(k, y)] [(keyD k, dv)] from .cons rv .nil), fun _ => sp⟩
    | exc c =>
      simp only [e2] at q
      refine lv _ io F1 σ H1 ρ1 _ ok2 ?_
      rw [e2]
      exact fun C H' a b => q C H' a (fun b' u e => b b' u (by rw [upd_ne (fun z => by rw [z, hg] at e; cases e)]; exact e))
    | bad => simp only [e2] at q; exact q.elim
  | exc c =>
    simp only [e1] at q
    refine lk _ io F σ _ ρ _ ok1 ?_
    rw [e1]
    exact fun C H' a b => q C H' a (fun b' u e => b b' u (by rw [upd_ne (fun z => by rw [z, hg] at e; cases e)]; exact e))
  | bad => simp only [e1] at q; exact q.elim
theorem takes_no {X : Cx} : Takes X cN := fun u s' ⟨_, _, _, _, _, _, _, _, _, _, _, _, _, _, _, _, w⟩ => w.elim
end
end Lf

/-! LW: sorted(..) of ints and of tuples of ints. -/
namespace Lf
open PySem PySem.Spec PyProof.Rows L2
def IsTi (h : Heap) (v : Value) (ns : List Int) : Prop := ∃ a o xs n, v = .ref a ∧ h.get? a = some o ∧ o.cls = .type "tuple" ∧ o.data = .seq xs n ∧ IntsAre xs.toList ns
theorem IsTi.keeps {h h' : Heap} {v : Value} {ns : List Int} (x : IsTi h v ns) (k : ∀ b o, h.get? b = some o → o.cls = .type "tuple" → h'.get? b = some o) : IsTi h' v ns := by
  obtain ⟨a, o, xs, n, e, g, c, d, i⟩ := x
  exact ⟨a, o, xs, n, e, k _ _ g c, c, d, i⟩
section
variable {prog : Program} {w : World} {A : Around} {E : Value → Shared → Prop} {s : Shared}
theorem katlex_ints {b : Bool} {sx sy : Nat} {r : Bool} : ∀ {xs ys : List Value} {ns ms : List Int} (i : Nat), IntsAre xs ns → IntsAre ys ms → r = HT.lexLt ns ms → xs.length + sy = ys.length + sx →
    PySem.W.KatLex prog w A b (decide (sx < sy)) (fun c s' => s' = s ∧ c = r) (xs.zip ys) i s := by
  intro xs
  induction xs with
  | nil =>
    intro ys ns ms i h1 h2 e z
    cases h1
    refine PySem.W.kat_nil ⟨rfl, ?_⟩
    rw [e]
    cases h2 with
    | nil => rw [HT.lexLt_nil_nil]; exact decide_eq_false (by simp at z; omega)
    | cons c u h2 => rw [HT.lexLt_nil_cons]; exact decide_eq_true (by simp at z; omega)
  | cons x xs ih =>
    intro ys ns ms i h1 h2 e z
    cases h1 with
    | cons a t h1 =>
      cases h2 with
      | nil =>
        refine PySem.W.kat_nil ⟨rfl, ?_⟩
        rw [e, HT.lexLt_cons_nil]
        exact decide_eq_false (by simp at z; omega)
      | cons c u h2 =>
        refine PySem.W.kat_cons (SeqAt.EqAt.int_int a t c u prog w _ _ ?_)
        rw [HT.lexLt_cons] at e
        refine PySem.W.kat_go (fun e1 => ?_) (fun e1 => ?_)
        · have ex : a = c := by simpa using e1
          rw [if_pos ex] at e
          exact PySem.W.kat_yes (ih (i + 1) h1 h2 e (by simp at z; omega))
        · have ex : ¬ a = c := by simpa using e1
          rw [if_neg ex] at e
          refine PySem.W.kat_no ?_
          cases b && i == 0 with
          | true => exact oneLt_int ⟨rfl, e.symm⟩
          | false => exact PySem.W.kat_one _ _ (PyProof.Rows.lt_int (show s = s ∧ decide (a < c) = r from ⟨rfl, e.symm⟩))
theorem tup_cmp {vs : List Value} {k : Value → List Int} (hp : ∀ v ∈ vs, IsTi s.heap v (k v)) : SrtO.Cmp prog w A s (tuples' true) (fun p => p.1 ∈ vs) (SrtO.lt2 fun v u => HT.lexLt (k v) (k u)) := by
  intro p q hm hm'
  have h1 := hp _ hm
  have h2 := hp _ hm'
  show wpAny (model prog w) A (keyLt' (tuples' true) p.1 q.1) (fun r s' => s' = s ∧ r = HT.lexLt (k p.1) (k q.1)) (fun _ _ => False) s
  generalize k p.1 = ns at h1 ⊢
  generalize k q.1 = ms at h2 ⊢
  obtain ⟨a, o, xs, n, e, ho, hc, hd, hi⟩ := h1
  obtain ⟨a', o', ys, n', e', ho', hc', hd', hi'⟩ := h2
  rw [e, e']
  exact PySem.W.kat_lt ho hd ho' hd' (katlex_ints 0 hi hi' rfl (by rw [Array.length_toList, Array.length_toList]; omega))
theorem firsts_ti {h : Heap} : ∀ {vs : List Value}, (∀ v ∈ vs, ∃ ns, ns ≠ [] ∧ IsTi h v ns) → ∃ fs : List Value, PySem.W.KatTups h vs fs ∧ fs.length = vs.length ∧ ∀ f ∈ fs, ∃ x t, f = Value.int x t
  | [], _ => ⟨[], PySem.W.KatTups.nil, rfl, fun _ hm => by simp at hm⟩
  | v :: vs, hv => by
    obtain ⟨ns, hne, a, o, xs, n, rfl, ho, hc, hd, hi⟩ := hv v List.mem_cons_self
    obtain ⟨fs, h1, h2, h3⟩ := firsts_ti fun u hu => hv u (List.mem_cons_of_mem _ hu)
    generalize hx : xs.toList = l at hi
    cases hi with
    | nil => exact absurd rfl hne
    | cons x t hi =>
      refine ⟨.int x t :: fs, PySem.W.KatTups.cons ho hc hd (by rw [← Array.getElem?_toList, hx]; rfl) h1, by simp [h2], fun f hf => ?_⟩
      rcases List.mem_cons.mp hf with rfl | hf
      · exact ⟨x, t, rfl⟩
      · exact h3 f hf
theorem tups_sortable {a : Addr} {vs : List Value} {k : Value → List Int} (h0 : 0 < vs.length) (hp : ∀ v ∈ vs, IsTi s.heap v (k v)) (hn : ∀ v ∈ vs, k v ≠ []) (ha : ∀ o, s.heap.get? a = some o → o.cls ≠ .type "tuple") : SrtO.SortableO prog w A s a vs fun v u => HT.lexLt (k v) (k u) := by
  intro h' keep
  have hp' : ∀ v ∈ vs, IsTi h' v (k v) := fun v hm => (hp v hm).keeps fun b o e c => keep b o (fun z => by subst z; exact ha o e c) e
  obtain ⟨fs, h1, h2, h3⟩ := firsts_ti fun v hm => ⟨_, hn v hm, hp' v hm⟩
  refine ⟨tuples' true, fun Q E hq => ?_, tup_cmp hp'⟩
  refine PySem.W.kat_kind (T := .type "int") h1 (by omega) (fun f hm => ?_) (by rfl) ?_
  · obtain ⟨x, t, rfl⟩ := h3 f hm
    exact PySem.W.Looks.now
  · have e : (Value.type "int" != Value.type "tuple") = true := by first | decide +kernel | rfl | decide
    rw [e]; exact hq
theorem collect_tup {l : Addr} {vs : List Value} {Q : List Value → Shared → Prop} (hl : IsTup s.heap l vs.toArray)
    (h : Q vs { s with heap := (s.heap.push (seqObj "list" #[] 0)).update s.heap.objs.size (Obj.mapSeq (· ++ vs.toArray)) }) (hsz : vs.length ≤ sizeLine) : wpAny (model prog w) A (collect (.ref l)) Q E s := by
  obtain ⟨o, ho, hc, n, hd⟩ := id hl
  unfold collect
  refine wpAny_bind (wpAny_runValue (codeAny_builtin entry_proto_collect' ?_))
  show wpAny _ _ (do again (.builtin "list.__iadd__" ⟨[← newList [], .ref l], []⟩)) _ _ s
  refine wpAny_bind (wpAny_newList (wpAny_pure ⟨Code.quiet_builtin _ (by decide +kernel), codeAny_builtin entry_list_iadd' ?_⟩))
  show wpAny _ _ (Builtin.List.listExtendWith (.ref s.heap.objs.size) (.ref l) (.ref s.heap.objs.size)) _ _ { s with heap := s.heap.push (seqObj "list" #[] 0) }
  unfold Builtin.List.listExtendWith
  have ho' : (s.heap.push (seqObj "list" #[] 0)).get? l = some o := Heap.get?_push_of_some _ ho
  refine wpAny_bind (wpAny_typeOf (T := "tuple") ⟨o, ho', hc⟩ ?_)
  have ht : (Value.type "tuple" == Value.type "tuple") = true := by rfl
  rw [if_pos (by rw [ht]; simp)]
  refine wpAny_bind (listItems_at ho' hd (wpAny_bind (listItems_at (xs := #[]) (n := 0) (Heap.get?_push_size _ rfl) rfl ?_)))
  rw [if_neg (by simp)]
  refine wpAny_bind (listUpdate_at (xs := #[]) (n := 0) (Heap.get?_push_size _ rfl) rfl ?_ (Nat.zero_le _) (by show (#[] ++ vs.toArray).size ≤ sizeLine + 1; simp only [Array.size_append, List.size_toArray, List.length_nil]; omega))
  refine wpAny_pure ?_
  show wpAny (model prog w) A (do
      let o ← load s.heap.objs.size
      match o.data with
      | .seq xs _ => pure xs.toList
      | _ => unsupported "internal:collect") Q E { s with heap := (s.heap.push (seqObj "list" #[] 0)).update s.heap.objs.size (Obj.mapSeq (· ++ vs.toArray)) }
  refine wpAny_bind (wpAny_load (get?_update_seq (Heap.get?_push_size _ rfl) _) ?_)
  show wpAny _ _ (pure ((#[] : Array Value) ++ vs.toArray).toList) Q E _
  rw [show ((#[] : Array Value) ++ vs.toArray).toList = vs by simp]
  exact wpAny_pure h
/-- sorted(x), x a list or a tuple -/
theorem sorted_any {l : Addr} {vs : List Value} {ltv : Value → Value → Bool} {Q : Value → Shared → Prop} (O : SrtO.Swo ltv) (hl : s.heap.IsList l vs.toArray ∨ IsTup s.heap l vs.toArray) (hz : vs.length ≤ sizeLine)
    (hS : 2 ≤ vs.length → ∀ (h₁ : Heap) (a : Addr), h₁.get? a = some (seqObj "list" vs.toArray 0) → (∀ b o, s.heap.get? b = some o → b ≠ a ∧ h₁.get? b = some o) → SrtO.SortableO prog w A.in1.in1 { s with heap := h₁ } a vs ltv)
    (h : ∀ out : List Value, SrtO.Srtd ltv out → SrtO.Stb ltv out vs → Q (.ref (s.heap.objs.size + 1)) { s with heap := sortedAll s.heap vs out.toArray }) :
    wpAny (model prog w) A (call (.builtin "sorted") [.ref l]) Q E s := by
  rcases hl with hl | hl
  · exact SrtO.sorted_ord O hl hz hS h
  refine Calls.call_function_entry kind_sorted plain_sorted entry_sorted (args_sorted1 _) ?_
  unfold Builtin.«sorted»
  refine wpAny_bind (m := checkCount "sorted" 1 1 _) (wpAny_pure ?_)
  refine wpAny_bind (collect_tup hl (wpAny_bind (wpAny_newList ?_ hz)) hz)
  have hsz : ((s.heap.push (seqObj "list" #[] 0)).update s.heap.objs.size (Obj.mapSeq (· ++ vs.toArray))).objs.size = s.heap.objs.size + 1 := by rw [Heap.size_update, size_push']
  have hoL : (((s.heap.push (seqObj "list" #[] 0)).update s.heap.objs.size (Obj.mapSeq (· ++ vs.toArray))).push (seqObj "list" vs.toArray 0)).get? (s.heap.objs.size + 1) = some (seqObj "list" vs.toArray 0) := by rw [← hsz]; exact Heap.get?_push_size _ rfl
  have keep : ∀ b o, s.heap.get? b = some o → b ≠ s.heap.objs.size + 1 ∧ (((s.heap.push (seqObj "list" #[] 0)).update s.heap.objs.size (Obj.mapSeq (· ++ vs.toArray))).push (seqObj "list" vs.toArray 0)).get? b = some o := fun b o q => by
    have hlt : b < s.heap.objs.size := Heap.lt_size q
    refine ⟨Nat.ne_of_lt (Nat.lt_succ_of_lt hlt), Heap.get?_push_of_some _ ?_⟩
    rw [Heap.get?_update_ne _ _ _ _ (Nat.ne_of_lt hlt)]; exact Heap.get?_push_of_some _ q
  show wpAny _ _ _ _ _ { s with heap := ((s.heap.push (seqObj "list" #[] 0)).update s.heap.objs.size (Obj.mapSeq (· ++ vs.toArray))).push (seqObj "list" vs.toArray 0) }
  rw [hsz]
  refine wpAny_bind (wpAny_holding (wpAny_call_entry slot_list_sort ⟨_, hoL, rfl⟩ entry_list_sort (SrtO.list_sort_ord O hoL hz (fun h2 => hS h2 _ _ hoL keep) fun out hs hb => ⟨_, rfl, ?_⟩) (args_list_sort _)))
  exact wpAny_pure ⟨_, rfl, h out hs hb⟩
end

/-! ### the sorting of data -/
section
variable {α : Type}
def insB (lt : α → α → Bool) (a : α) : List α → List α
  | [] => [a]
  | b :: r => if lt b a = true then b :: insB lt a r else a :: b :: r
def isortB (lt : α → α → Bool) : List α → List α
  | [] => []
  | a :: r => insB lt a (isortB lt r)
theorem insB_perm (lt : α → α → Bool) (a : α) : ∀ l : List α, (insB lt a l).Perm (a :: l)
  | [] => .refl _
  | b :: r => by
    unfold insB
    split
    · exact ((insB_perm lt a r).cons b).trans (.swap a b r)
    · exact .refl _
theorem isortB_perm (lt : α → α → Bool) : ∀ l : List α, (isortB lt l).Perm l
  | [] => .refl _
  | a :: r => (insB_perm lt a _).trans ((isortB_perm lt r).cons a)
theorem insB_srt {lt : α → α → Bool} (O : SrtO.Swo lt) (a : α) : ∀ {l : List α}, l.Pairwise (fun x y => lt y x = false) → (insB lt a l).Pairwise (fun x y => lt y x = false)
  | [], _ => List.pairwise_singleton _ _
  | b :: r, h => by
    obtain ⟨h1, h2⟩ := List.pairwise_cons.mp h
    unfold insB
    split
    · rename_i hb
      refine List.pairwise_cons.mpr ⟨fun y hy => ?_, insB_srt O a h2⟩
      rcases List.mem_cons.mp ((insB_perm lt a r).mem_iff.mp hy) with rfl | hy
      · exact O.asym _ _ hb
      · exact h1 y hy
    · rename_i hb
      have hb : lt b a = false := by cases q : lt b a with
        | true => exact absurd q hb
        | false => rfl
      refine List.pairwise_cons.mpr ⟨fun y hy => ?_, h⟩
      rcases List.mem_cons.mp hy with rfl | hy
      · exact hb
      · exact O.tr _ _ _ hb (h1 y hy)
theorem isortB_srt {lt : α → α → Bool} (O : SrtO.Swo lt) : ∀ l : List α, (isortB lt l).Pairwise (fun x y => lt y x = false)
  | [] => .nil
  | a :: r => insB_srt O a (isortB_srt O r)
theorem isortB_uniq {lt : α → α → Bool} (O : SrtO.Swo lt) (anti : ∀ x y, lt x y = false → lt y x = false → x = y) {l m : List α} (hp : m.Perm l) (hs : m.Pairwise (fun x y => lt y x = false)) : m = isortB lt l :=
  (hp.trans (isortB_perm lt l).symm).eq_of_pairwise (fun x y _ _ h1 h2 => anti x y h2 h1) hs (isortB_srt O l)
end
def ltZ (a b : Int) : Bool := decide (a < b)
theorem swoZ : SrtO.Swo ltZ := ⟨fun x y h => decide_eq_false (by have := of_decide_eq_true h; omega), fun x y z h1 h2 => decide_eq_false (by have := of_decide_eq_false h1; have := of_decide_eq_false h2; omega)⟩
theorem antiZ (x y : Int) (h1 : ltZ x y = false) (h2 : ltZ y x = false) : x = y := by have := of_decide_eq_false h1; have := of_decide_eq_false h2; omega
theorem swoL : SrtO.Swo HT.lexLt := ⟨NtL.lex_asym, NtL.lex_tr⟩
theorem antiL : ∀ (x y : List Int), HT.lexLt x y = false → HT.lexLt y x = false → x = y
  | [], [], _, _ => rfl
  | [], _ :: _, h, _ => by rw [HT.lexLt_nil_cons] at h; cases h
  | _ :: _, [], _, h => by rw [HT.lexLt_nil_cons] at h; cases h
  | x :: xs, y :: ys, h1, h2 => by
    rw [HT.lexLt_cons] at h1 h2
    by_cases e : x = y
    · rw [if_pos e] at h1
      rw [if_pos e.symm] at h2
      rw [e, antiL xs ys h1 h2]
    · rw [if_neg e] at h1
      rw [if_neg (Ne.symm e)] at h2
      have := of_decide_eq_false h1
      have := of_decide_eq_false h2
      omega
def tupI (ns : List Int) : D := .tuple (ns.map .int)
def tupsD : List D → Option (List (List Int))
  | [] => some []
  | .tuple ds :: r => (intsD ds).bind fun ns => (tupsD r).map (ns :: ·)
  | _ :: _ => none
theorem tupsD_eq : ∀ {ds : List D} {nss : List (List Int)}, tupsD ds = some nss → ds = nss.map tupI
  | [], _, h => by cases h; rfl
  | .tuple es :: r, _, h => by
    simp only [tupsD] at h
    obtain ⟨ns, h1, h2⟩ := Option.bind_eq_some_iff.mp h
    obtain ⟨ms, h3, rfl⟩ := Option.map_eq_some_iff.mp h2
    rw [tupsD_eq h3, intsD_eq h1]; rfl
  | .none :: _, _, h => by cases h
  | .int _ :: _, _, h => by cases h
  | .bool _ :: _, _, h => by cases h
  | .str _ :: _, _, h => by cases h
  | .list _ :: _, _, h => by cases h
  | .dict _ :: _, _, h => by cases h
theorem tupsD_map : ∀ nss : List (List Int), tupsD (nss.map tupI) = some nss
  | [] => rfl
  | n :: r => by simp [tupsD, tupI, intsD_map]; exact tupsD_map r
/-! ### the calls -/
def rSortZ (K : Frag) : List V → Hp → VK → Prop := fun vs H Q => ∃ (a : Addr) (ns : List Int), vs = [V.ref a] ∧ (SqL K H a (ns.map V.int) ∨ SqT K H a (ns.map V.int)) ∧
  ∀ p, H p = none → Q (.ref p) (upd H p (.lst ((isortB ltZ ns).map V.int)))
def rSortL (K : Frag) : List V → Hp → VK → Prop := fun vs H Q => ∃ (a : Addr) (xs : List V) (nss : List (List Int)), vs = [V.ref a] ∧ (SqL K H a xs ∨ SqT K H a xs) ∧ Paired (fun x ns => ∃ t, x = V.ref t ∧ SqT K H t (ns.map V.int)) xs nss ∧ (2 ≤ nss.length → ∀ ns ∈ nss, ns ≠ []) ∧
  ∀ (ps : List (V × List Int)) p, ps.Perm (xs.zip nss) → ps.map (·.2) = isortB HT.lexLt nss → H p = none → Q (.ref p) (upd H p (.lst (ps.map (·.1))))
section
variable {X : Cx}
theorem seq_any {pins : List (Addr × Obj)} {σ : L2.St} {H : Hp} {s : Shared} {a : Addr} {xs : List V} (I : Inv X pins σ H s) (h : SqL X.K H a xs ∨ SqT X.K H a xs) : ∃ its, Vals xs its ∧ (s.heap.IsList a its.toArray ∨ IsTup s.heap a its.toArray) ∧ xs.length ≤ sizeLine := by
  rcases h with h | h
  · obtain ⟨its, rv, hl, hz⟩ := I.list h
    exact ⟨its, rv, .inl hl.isList, hz⟩
  · obtain ⟨its, rv, hl, hz⟩ := I.tuple h
    exact ⟨its, rv, .inr hl, hz⟩
theorem iv_vals : ∀ {ns : List Int} {its : List Value}, IntsAre its ns → its.map SrtO.iv = ns := fun h => SrtO.iv_ints h
theorem cr_sortZ : CallR X (.builtin "sorted") (rSortZ X.K) := by
  intro pins s σ H vs us Q I r h
  obtain ⟨a, ns, rfl, hs, q⟩ := h
  obtain ⟨its, rv, hl, hz⟩ := seq_any I hs
  rw [Vals.ref1 r]
  have hi := rv.ints
  refine sorted_any SrtO.swo_int hl (by rw [← rv.length]; exact hz) (fun h2 h₁ a' _ _ => SrtO.ints_sortable hi h2) fun out h1 h2 => ?_
  obtain ⟨k1, k2, k3⟩ := SrtO.ints_out hi h1 h2
  obtain ⟨ep, he'⟩ := PyProof.Rows.sortedAll_at s.heap its out.toArray
  have hlen : ((out.map SrtO.iv).map V.int).length ≤ sizeLine := by
    rw [List.length_map, k2.length_eq]; rw [List.length_map] at hz; exact hz
  have eq : out.map SrtO.iv = isortB ltZ ns := isortB_uniq swoZ antiZ k2 (k3.imp fun {x y} h => decide_eq_false (by omega))
  refine ⟨.ref _, upd H (s.heap.objs.size + 1) (.lst ((out.map SrtO.iv).map V.int)), I.laid (t' := s.toks) (fun _ _ => PyProof.Rows.sortedAll_old) (Nat.le_succ _) ⟨hlen, out, ep, vals_of_ints k1, he'⟩, rfl, ?_⟩
  rw [eq]
  exact q _ (I.hok.fresh (Nat.le_succ _))
open Classical in
noncomputable def kTi (h : Heap) (u : Value) : List Int := if q : ∃ ns, IsTi h u ns then Classical.choose q else []
theorem ints_uniq : ∀ {us : List Value} {ns ms : List Int}, IntsAre us ns → IntsAre us ms → ns = ms
  | _, _, _, .nil, .nil => rfl
  | _, _, _, .cons a t h, k => by
    cases k with
    | cons b u k => rw [ints_uniq h k]
theorem IsTi.uniq {h : Heap} {u : Value} {ns ms : List Int} (a : IsTi h u ns) (b : IsTi h u ms) : ns = ms := by
  obtain ⟨x, o, xs, n, rfl, g, c, d, i⟩ := a
  obtain ⟨y, o2, ys, n2, e, g2, c2, d2, i2⟩ := b
  cases e
  rw [g] at g2; cases g2
  rw [d] at d2; cases d2
  exact ints_uniq i i2
theorem kTi_eq {h : Heap} {u : Value} {ns : List Int} (a : IsTi h u ns) : kTi h u = ns := by
  unfold kTi
  rw [dif_pos ⟨ns, a⟩]
  exact (Classical.choose_spec (⟨ns, a⟩ : ∃ ns, IsTi h u ns)).uniq a
theorem ti_all {pins : List (Addr × Obj)} {σ : L2.St} {H : Hp} {s : Shared} (I : Inv X pins σ H s) : ∀ {xs : List V} {us : List Value} {nss : List (List Int)}, Vals xs us → Paired (fun x ns => ∃ t, x = V.ref t ∧ SqT X.K H t (ns.map V.int)) xs nss →
    us.map (fun u => (backV u, kTi s.heap u)) = xs.zip nss ∧ us.map (kTi s.heap) = nss ∧ (∀ u ∈ us, IsTi s.heap u (kTi s.heap u)) ∧ ∀ u ∈ us, ∃ a, u = Value.ref a
  | _, _, _, .nil, .nil => ⟨rfl, rfl, by simp, by simp⟩
  | _, _, _, .cons r t, .cons h k => by
    obtain ⟨tt, rfl, hq⟩ := h
    cases r
    obtain ⟨its, rv, ⟨o, ho, hc, n, hd⟩, _⟩ := I.tuple hq
    have ti : IsTi s.heap (.ref tt) _ := ⟨tt, o, its.toArray, n, rfl, ho, hc, hd, by simpa using rv.ints⟩
    obtain ⟨h1, h2, h3, h4⟩ := ti_all I t k
    refine ⟨by rw [List.map_cons, h1, kTi_eq ti]; rfl, by rw [List.map_cons, h2, kTi_eq ti], fun u hu => ?_, fun u hu => ?_⟩
    · rcases List.mem_cons.mp hu with rfl | hu
      · rw [kTi_eq ti]; exact ti
      · exact h3 u hu
    · rcases List.mem_cons.mp hu with rfl | hu
      · exact ⟨_, rfl⟩
      · exact h4 u hu
theorem cr_sortL : CallR X (.builtin "sorted") (rSortL X.K) := by
  intro pins s σ H vs us Q I r h
  obtain ⟨a, xs, nss, rfl, hs, hp, hne, q⟩ := h
  obtain ⟨its, rv, hl, hz⟩ := seq_any I hs
  rw [Vals.ref1 r]
  obtain ⟨z1, z2, z3, z4⟩ := ti_all I rv hp
  have hlen : nss.length = its.length := by rw [← z2, List.length_map]
  refine sorted_any (ltv := fun v u => HT.lexLt (kTi s.heap v) (kTi s.heap u)) (NtL.swo_lexL (kTi s.heap)) hl (by rw [← rv.length]; exact hz) (fun h2 h₁ a' ha kk => ?_) fun out h1 h2 => ?_
  · refine tups_sortable (s := { s with heap := h₁ }) (by omega) (fun v hv => (z3 v hv).keeps fun b o e _ => (kk b o e).2) (fun v hv => hne (by omega) _ (by rw [← z2]; exact List.mem_map_of_mem hv)) fun o e => ?_
    have e' : some o = some (seqObj "list" its.toArray 0) := e.symm.trans ha
    cases e'
    intro c
    exact absurd (Value.type.inj c) (by decide)
  · obtain ⟨ep, he'⟩ := PyProof.Rows.sortedAll_at s.heap its out.toArray
    have h3 : ∀ u ∈ out, ∃ a, u = Value.ref a := fun u hu => z4 u (h2.perm.mem_iff.mp hu)
    have hz2 : (out.map backV).length ≤ sizeLine := by rw [List.length_map, h2.len, ← rv.length]; exact hz
    have ep2 : (out.map fun u => (backV u, kTi s.heap u)).map (·.1) = out.map backV := by rw [List.map_map]; rfl
    have es : (out.map fun u => (backV u, kTi s.heap u)).map (·.2) = isortB HT.lexLt nss := by
      rw [List.map_map]
      refine isortB_uniq swoL antiL ?_ (List.pairwise_map.mpr (h1.imp fun {x y} h => h))
      rw [← z2]
      exact h2.perm.map _
    have := q (out.map fun u => (backV u, kTi s.heap u)) (s.heap.objs.size + 1) (by rw [← z1]; exact h2.perm.map _) es (I.hok.fresh (Nat.le_succ _))
    rw [ep2] at this
    exact ⟨.ref _, upd H (s.heap.objs.size + 1) (.lst (out.map backV)), I.laid (t' := s.toks) (fun _ _ => PyProof.Rows.sortedAll_old) (Nat.le_succ _) ⟨hz2, out, ep, vals_back h3, he'⟩, rfl, this⟩
def sortD (ds : List D) : Option (List D) := match intsD ds with
  | some ns => some ((isortB ltZ ns).map .int)
  | none => match tupsD ds with
    | some nss => if nss.length < 2 ∨ nss.all (fun ns => !ns.isEmpty) = true then some ((isortB HT.lexLt nss).map tupI) else none
    | none => none
def sortS : List D → Option S
  | [.list ds] => (sortD ds).map fun es => .ow (.list es)
  | [.tuple ds] => (sortD ds).map fun es => .ow (.list es)
  | _ => none
theorem sort1 : ∀ ds s, sortS ds = some s → ∃ d, ds = [d] := by
  intro ds s h
  match ds, h with
  | [], h => cases h
  | [d], _ => exact ⟨d, rfl⟩
  | _ :: _ :: _, h => simp [sortS] at h
theorem rp_zip {K : Frag} {F : Hp} : ∀ {xs : List V} {nss : List (List Int)}, RpL K F xs (nss.map tupI) → ∀ p ∈ xs.zip nss, Rp K F p.1 (tupI p.2)
  | _, [], .nil, p, h => by simp at h
  | _, _ :: _, .cons a b, p, h => by
    rcases List.mem_cons.mp h with rfl | h
    · exact a
    · exact rp_zip b p h
theorem rp_of_zip {K : Frag} {F : Hp} : ∀ {ps : List (V × List Int)}, (∀ p ∈ ps, Rp K F p.1 (tupI p.2)) → RpL K F (ps.map (·.1)) ((ps.map (·.2)).map tupI)
  | [], _ => .nil
  | p :: ps, h => .cons (h p List.mem_cons_self) (rp_of_zip fun q hq => h q (List.mem_cons_of_mem _ hq))
theorem tup_paired {K : Frag} {F H : Hp} (fh : FH F H) : ∀ {xs : List V} {nss : List (List Int)}, RpL K F xs (nss.map tupI) → Paired (fun x ns => ∃ t, x = V.ref t ∧ SqT K H t (ns.map V.int)) xs nss
  | _, [], .nil => .nil
  | _, ns :: _, .cons a b => by
    refine .cons ?_ (tup_paired fh b)
    unfold tupI at a
    cases a with
    | tup s l => rw [RpL.ints_of l] at s; exact ⟨_, rfl, sqT_H fh s⟩
theorem oc_sort {K : Frag} : OpCT K (fun vs H Q => rSortZ K vs H Q ∨ rSortL K vs H Q) sortS := by
  have main : ∀ (F H : Hp) (v : V) (ds es : List D) (a : Addr) (xs : List V), FH F H → v = .ref a → (SqL K H a xs ∨ SqT K H a xs) → RpL K F xs ds → sortD ds = some es → Yld K F H (.ow (.list es)) (fun Q => rSortZ K [v] H Q ∨ rSortL K [v] H Q) := by
    rintro F H v ds es a xs fh rfl hs rl e
    unfold sortD at e
    split at e
    · rename_i ns h1
      cases e
      rw [intsD_eq h1] at rl
      rw [RpL.ints_of rl] at hs
      exact .ow (o := .lst ((isortB ltZ ns).map V.int)) (show RO K F (.lst _) (.list _) from RpL.ints _) fun Q k => .inl ⟨a, ns, rfl, hs, k⟩
    · split at e
      · rename_i nss h1
        split at e
        · rename_i hc
          cases e
          rw [tupsD_eq h1] at rl
          have pr := tup_paired fh rl
          have hne : 2 ≤ nss.length → ∀ ns ∈ nss, ns ≠ [] := fun h2 ns hn z => by
            rcases hc with hc | hc
            · omega
            · have := List.all_eq_true.mp hc ns hn
              rw [z] at this; cases this
          have hP : ∀ (ps : List (V × List Int)), ps.Perm (xs.zip nss) → ps.map (·.2) = isortB HT.lexLt nss → RpL K F (ps.map (·.1)) ((isortB HT.lexLt nss).map tupI) := fun ps hp hk => by
            rw [← hk]
            exact rp_of_zip fun p hpm => rp_zip rl p (hp.mem_iff.mp hpm)
          exact .ows (P := fun o => ∃ ps : List (V × List Int), ps.Perm (xs.zip nss) ∧ ps.map (·.2) = isortB HT.lexLt nss ∧ o = .lst (ps.map (·.1))) (fun o ⟨ps, p1, p2, e⟩ => by rw [e]; exact (show RO K F (.lst _) (.list _) from hP ps p1 p2)) fun Q k => .inr ⟨a, xs, nss, rfl, hs, pr, hne, fun ps p p1 p2 hp => k p _ ⟨ps, p1, p2, rfl⟩ hp⟩
        · cases e
      · cases e
  intro F H v d s fh t e
  unfold sortS at e
  split at e
  · rename_i ds q
    cases q
    obtain ⟨es, h1, rfl⟩ := Option.map_eq_some_iff.mp e
    obtain ⟨a, xs, rfl, sl, rl⟩ := t.lst fh
    exact main F H _ ds es a xs fh rfl (.inl sl) rl h1
  · rename_i ds q
    cases q
    obtain ⟨es, h1, rfl⟩ := Option.map_eq_some_iff.mp e
    obtain ⟨a, xs, rfl, sl, rl, _⟩ := t.tup fh
    exact main F H _ ds es a xs fh rfl (.inr sl) rl h1
  · cases e
end
end Lf

/-! LX: comparisons with an owned thing, the callees' bookkeeping. -/
namespace Lf
open PySem PySem.Spec PyProof.Rows L2
section
variable {K : Frag} {X : Cx}
theorem Top.dp {F H : Hp} (fh : FH F H) {v : V} {d : D} (t : Top K F H v d) (h : d.canLay0 = true) : Dp K H v d := by
  rcases t with r | ⟨a, o, rfl, ha, r⟩
  · exact r.dp fh h
  · cases d with
    | list ds =>
      obtain ⟨xs, rfl, rl⟩ := topL (H := H) (a := a) r
      exact .lst (SqL.of ha) (RpL.dp fh rl (by simpa [PyData.canLay0] using h))
    | dict es => simp [PyData.canLay0] at h
    | _ => cases o <;> exact r.elim
def eqS (d e : D) : Option S := (eqD d e).map .fr
def neS (d e : D) : Option S := (neD d e).map .fr
theorem o2_eqS : Op2FT K (rEqD K) eqS := by
  intro F H x y d e s fh r1 r2 h
  unfold eqS eqD at h
  split at h
  · rename_i c
    cases h
    exact .flat (.bl _) fun Q q => ⟨d, e, r1.dp fh (SeqAt.canLay_of_shaped c.1), r2.dp fh (SeqAt.canLay_of_shaped c.2), c.1, c.2, q⟩
  · cases h
theorem o2_neS : Op2FT K (rNeD K) neS := by
  intro F H x y d e s fh r1 r2 h
  unfold neS neD at h
  split at h
  · rename_i c
    cases h
    exact .flat (.bl _) fun Q q => ⟨d, e, r1.dp fh (SeqAt.canLay_of_shaped c.1), r2.dp fh (SeqAt.canLay_of_shaped c.2), c.1, c.2, q⟩
  · cases h
def inSS (d e : D) : Option S := (inD d e).map .fr
def notInSS (d e : D) : Option S := (notInD d e).map .fr
theorem o2_inS : Op2TF K (rInS' K false) inSS := by
  intro F H x y d e s fh r1 r2 h
  unfold inSS inD at h
  split at h
  · rename_i ds hs
    split at h
    · rename_i c
      cases h
      exact .flat (.bl _) fun Q q => ⟨d, e, ds, r1.dp fh (SeqAt.canLay_of_shaped c.1), r2.dp fh (SeqAt.canLay_of_shaped c.2), hs, c.1, c.2, q⟩
    · cases h
  · cases h
theorem o2_notInS : Op2TF K (rInS' K true) notInSS := by
  intro F H x y d e s fh r1 r2 h
  unfold notInSS notInD at h
  split at h
  · rename_i ds hs
    split at h
    · rename_i c
      cases h
      exact .flat (.bl _) fun Q q => ⟨d, e, ds, r1.dp fh (SeqAt.canLay_of_shaped c.1), r2.dp fh (SeqAt.canLay_of_shaped c.2), hs, c.1, c.2, q⟩
    · cases h
  · cases h
end
theorem hu65 {A : Around} {k : Nat} (hr : Room k A) : A.units + 65 < cLine := by have := hr.un; omega
/-- a def stands as a global -/
structure Def (K : Frag) (mg : Str → Option Value) (x : Str) (st : Stmt) (ps : List Str) : Prop where
  ex : ∃ f fd, mg x = some (.ref f) ∧ PySem.W.keepIn K (.ref f) = true ∧ Fun K x x st f fd ∧ Binds K fd ps []
section
variable {P : Program} {w : World} {K : Frag} {mg : Str → Option Value} {base : Heap} {x : Str} {st : Stmt} {ps N : List Str} {k : Nat}
theorem callee_pure {body : EnvD → Out} {f : List D → Res S} (d : Def K mg x st ps) (Sc : FnScope N ps (defScope st)) (hf : f = defD ps.length N.length body)
    (hb : ∀ (fa : Addr) (cdv : Value) (A : Around) (outer : List Env) (s : Shared) (H : Hp) (E : XK), Room k (A.deeper (envOfC x (defScope st) s.heap.objs.size fa cdv)) → LSs (cxOf (L2.CX P w) P w K mg base N x (defScope st) fa cdv A outer s H E) (fun cls d _ H => E cls d H) (defBody st) body) :
    Callee P w K mg base x (k + 1) (spP K mg f) := by
  obtain ⟨fa, fd, h1, h2, h3, h4⟩ := d.ex
  exact ⟨fa, fd, ps, h1, h2, h4, by rw [hf]; exact def_pure h3 Sc fun cdv A outer s H E hr => hb fa cdv A outer s H E hr⟩
theorem callee_io {body : EnvD → Out} {f : D → List D → Res (S × D)} (d : Def K mg x st ps) (Sc : FnScope N ps (defScope st)) (hf : f = defIO ps.length N.length body)
    (hb : ∀ (fa : Addr) (cdv : Value) (A : Around) (outer : List Env) (s : Shared) (H : Hp) (E : XK), Room k (A.deeper (envOfC x (defScope st) s.heap.objs.size fa cdv)) → LSs (cxOf (L2.CX P w) P w K mg base N x (defScope st) fa cdv A outer s H E) (fun cls d _ H => E cls d H) (defBody st) body) :
    Callee P w K mg base x (k + 1) (spIO K mg f) := by
  obtain ⟨fa, fd, h1, h2, h3, h4⟩ := d.ex
  exact ⟨fa, fd, ps, h1, h2, h4, by rw [hf]; exact def_io h3 Sc fun cdv A outer s H E hr => hb fa cdv A outer s H E hr⟩
theorem callee_never (d : Def K mg x st ps) : Callee P w K mg base x k (spP K mg fun _ => .bad) := by
  obtain ⟨fa, fd, h1, h2, h3, h4⟩ := d.ex
  have no : ∀ vs H Q E, ¬ spP K mg (fun _ => .bad) vs H Q E := fun vs H Q E ⟨_, _, _, _, z⟩ => z
  exact ⟨fa, fd, ps, h1, h2, h4, ⟨fun vs H Q E q => (no vs H Q E q).elim, fun A outer s H args us vs Q E _ _ _ _ q => (no vs H Q E q).elim⟩⟩
theorem callee_neverIO (d : Def K mg x st ps) : Callee P w K mg base x k (spIO K mg fun _ _ => .bad) := by
  obtain ⟨fa, fd, h1, h2, h3, h4⟩ := d.ex
  have no : ∀ vs H Q E, ¬ spIO K mg (fun _ _ => .bad) vs H Q E := fun vs H Q E ⟨_, _, _, _, _, _, _, _, _, _, _, _, z⟩ => z
  exact ⟨fa, fd, ps, h1, h2, h4, ⟨fun vs H Q E q => (no vs H Q E q).elim, fun A outer s H args us vs Q E _ _ _ _ q => (no vs H Q E q).elim⟩⟩
theorem Callee.mono {sp : Sp} {j : Nat} (c : Callee P w K mg base x j sp) (h : j ≤ k) : Callee P w K mg base x k sp := by
  obtain ⟨fa, fd, ps, h1, h2, h3, h4⟩ := c.ex
  exact ⟨fa, fd, ps, h1, h2, h3, h4.mono h⟩
def spLaw (K : Frag) : Sp := fun vs H Q _ => ∃ (a : Addr) (ns : List Int), vs = [.ref a] ∧ ns.length ≤ 63 ∧ SqL K H a (ns.map V.int) ∧ ∀ H', Q (.bl true) H'
theorem law_end {CX : CXT} {fa : Addr} {fd : FuncData} {f : List D → Res S} (h : ∀ ns : List Int, ns.length ≤ 63 → f [.list (ns.map .int)] = .ok (.fr (.bool true))) (F : FnOk P w K mg base CX k fa fd ps (spP K mg f)) : FnOk P w K mg base CX k fa fd ps (spLaw K) := by
  refine F.imp fun vs H Q E ⟨a, ns, e, hl, hS, q⟩ => ?_
  subst e
  refine ⟨H, [.list (ns.map .int)], fun b o e => .inl e, .cons (.lst hS (RpL.ints ns)) .nil, ?_⟩
  rw [h ns hl]
  intro v F' H' _ _ _ rs
  cases rs with
  | fr r => cases r; exact q H'
theorem def_of {od an : Option Addr} {sl : Array (Option Value)} {oc kV dc pm cd ct : Value} {f : Addr} {h : Heap} (X : K.In h) (G : h.Ns mainGlobals mg) (a : PySem.W.nsIn K mainGlobals x = some (some (.ref f)))
    (l : K.lookup f = some ⟨oc, od, .func (PySem.W.fnOf x x (defArgs st) (defBody st) (defScope st) .none kV dc pm an cd ct), sl⟩) (c : PySem.W.codeIn K cd x = true) (k : PySem.W.keepIn K (.ref f) = true) (b : ∀ {fd : FuncData}, Fun K x x st f fd → Binds K fd ps []) : Def K mg x st ps :=
  ⟨f, _, PySem.W.mg_of X G a, k, fun_mk l c k, b (fun_mk l c k)⟩
end
end Lf

/-! EV: the lifted functions, run: every combinator, applied, is a frame about its first part. -/
namespace Lf
open PySem PySem.Spec PyProof.Rows L2
section
variable {α β γ : Type}
theorem bnd_def (m : M α) (f : α → M β) (ρ : EnvD) : M.bind m f ρ = (match m ρ with | .ok (a, ρ') => f a ρ' | .exc c => .exc c | .bad => .bad) := by unfold M.bind; cases m ρ <;> rfl
@[simp] theorem pure_ev (a : α) (ρ : EnvD) : M.pure a ρ = .ok (a, ρ) := (Eq.refl _).trans (Eq.refl _)
@[simp] theorem opt_some (a : α) (ρ : EnvD) : M.opt (some a) ρ = .ok (a, ρ) := (Eq.refl _).trans (Eq.refl _)
@[simp] theorem opt_none (ρ : EnvD) : M.opt (none : Option α) ρ = .bad := (Eq.refl _).trans (Eq.refl _)
@[simp] theorem opt_ite (c : Prop) [Decidable c] (a b : Option α) (ρ : EnvD) : M.opt (if c then a else b) ρ = if c then M.opt a ρ else M.opt b ρ := by split <;> rfl
@[simp] theorem lift_ok (a : α) (ρ : EnvD) : M.lift (.ok a) ρ = .ok (a, ρ) := (Eq.refl _).trans (Eq.refl _)
@[simp] theorem lift_exc (c : Str) (ρ : EnvD) : M.lift (.exc c : Res α) ρ = .exc c := (Eq.refl _).trans (Eq.refl _)
@[simp] theorem lift_bad (ρ : EnvD) : M.lift (.bad : Res α) ρ = .bad := (Eq.refl _).trans (Eq.refl _)
@[simp] theorem lift_ite (c : Prop) [Decidable c] (a b : Res α) (ρ : EnvD) : M.lift (if c then a else b) ρ = if c then M.lift a ρ else M.lift b ρ := by split <;> rfl
def Res.k1 (r : Res (D × EnvD)) (g : D → Option α) : Res (α × EnvD) := match r with
  | .ok (d, ρ) => M.opt (g d) ρ
  | .exc c => Res.exc c
  | .bad => Res.bad
@[simp] theorem k1_ok (d : D) (ρ : EnvD) (g : D → Option α) : Res.k1 (.ok (d, ρ)) g = M.opt (g d) ρ := (Eq.refl _).trans (Eq.refl _)
@[simp] theorem k1_exc (c : Str) (g : D → Option α) : Res.k1 (.exc c : Res (D × EnvD)) g = Res.exc c := (Eq.refl _).trans (Eq.refl _)
@[simp] theorem k1_bad (g : D → Option α) : Res.k1 (.bad : Res (D × EnvD)) g = Res.bad := (Eq.refl _).trans (Eq.refl _)
@[simp] theorem k1_ite (c : Prop) [Decidable c] (r s : Res (D × EnvD)) (g : D → Option α) : Res.k1 (if c then r else s) g = if c then r.k1 g else s.k1 g := by split <;> rfl
def Res.o2b (r : Res (D × EnvD)) (g : D → D → Option α) (x : D) : Res (α × EnvD) := match r with
  | .ok (y, ρ) => M.opt (g x y) ρ
  | .exc c => Res.exc c
  | .bad => Res.bad
@[simp] theorem o2b_ok (y : D) (ρ : EnvD) (g : D → D → Option α) (x : D) : Res.o2b (.ok (y, ρ)) g x = M.opt (g x y) ρ := (Eq.refl _).trans (Eq.refl _)
@[simp] theorem o2b_exc (c : Str) (g : D → D → Option α) (x : D) : Res.o2b (.exc c : Res (D × EnvD)) g x = Res.exc c := (Eq.refl _).trans (Eq.refl _)
@[simp] theorem o2b_bad (g : D → D → Option α) (x : D) : Res.o2b (.bad : Res (D × EnvD)) g x = Res.bad := (Eq.refl _).trans (Eq.refl _)
@[simp] theorem o2b_ite (c : Prop) [Decidable c] (r s : Res (D × EnvD)) (g : D → D → Option α) (x : D) : Res.o2b (if c then r else s) g x = if c then r.o2b g x else s.o2b g x := by split <;> rfl
def Res.o2a (r : Res (D × EnvD)) (g : D → D → Option α) (b : M D) : Res (α × EnvD) := match r with
  | .ok (x, ρ) => (b ρ).o2b g x
  | .exc c => Res.exc c
  | .bad => Res.bad
@[simp] theorem o2a_ok (x : D) (ρ : EnvD) (g : D → D → Option α) (b : M D) : Res.o2a (.ok (x, ρ)) g b = (b ρ).o2b g x := (Eq.refl _).trans (Eq.refl _)
@[simp] theorem o2a_exc (c : Str) (g : D → D → Option α) (b : M D) : Res.o2a (.exc c : Res (D × EnvD)) g b = Res.exc c := (Eq.refl _).trans (Eq.refl _)
@[simp] theorem o2a_bad (g : D → D → Option α) (b : M D) : Res.o2a (.bad : Res (D × EnvD)) g b = Res.bad := (Eq.refl _).trans (Eq.refl _)
@[simp] theorem o2a_ite (c : Prop) [Decidable c] (r s : Res (D × EnvD)) (g : D → D → Option α) (b : M D) : Res.o2a (if c then r else s) g b = if c then r.o2a g b else s.o2a g b := by split <;> rfl
def Res.vx (r : Res (D × EnvD)) (g : D → D → Option S) (y : D) : Res (S × EnvD) := match r with
  | .ok (x, ρ) => M.opt (g x y) ρ
  | .exc c => Res.exc c
  | .bad => Res.bad
@[simp] theorem vx_ok (x : D) (ρ : EnvD) (g : D → D → Option S) (y : D) : Res.vx (.ok (x, ρ)) g y = M.opt (g x y) ρ := (Eq.refl _).trans (Eq.refl _)
@[simp] theorem vx_exc (c : Str) (g : D → D → Option S) (y : D) : Res.vx (.exc c : Res (D × EnvD)) g y = Res.exc c := (Eq.refl _).trans (Eq.refl _)
@[simp] theorem vx_bad (g : D → D → Option S) (y : D) : Res.vx (.bad : Res (D × EnvD)) g y = Res.bad := (Eq.refl _).trans (Eq.refl _)
@[simp] theorem vx_ite (c : Prop) [Decidable c] (r s : Res (D × EnvD)) (g : D → D → Option S) (y : D) : Res.vx (if c then r else s) g y = if c then r.vx g y else s.vx g y := by split <;> rfl
def Res.v2b (r : Res (D × EnvD)) (i : Nat) (g : D → D → Option S) : Res (S × EnvD) := match r with
  | .ok (y, ρ) => (slotM i ρ).vx g y
  | .exc c => Res.exc c
  | .bad => Res.bad
@[simp] theorem v2b_ok (y : D) (ρ : EnvD) (i : Nat) (g : D → D → Option S) : Res.v2b (.ok (y, ρ)) i g = (slotM i ρ).vx g y := (Eq.refl _).trans (Eq.refl _)
@[simp] theorem v2b_exc (c : Str) (i : Nat) (g : D → D → Option S) : Res.v2b (.exc c : Res (D × EnvD)) i g = Res.exc c := (Eq.refl _).trans (Eq.refl _)
@[simp] theorem v2b_bad (i : Nat) (g : D → D → Option S) : Res.v2b (.bad : Res (D × EnvD)) i g = Res.bad := (Eq.refl _).trans (Eq.refl _)
@[simp] theorem v2b_ite (c : Prop) [Decidable c] (r s : Res (D × EnvD)) (i : Nat) (g : D → D → Option S) : Res.v2b (if c then r else s) i g = if c then r.v2b i g else s.v2b i g := by split <;> rfl
def Res.v2a (r : Res (D × EnvD)) (i : Nat) (g : D → D → Option S) (b : M D) : Res (S × EnvD) := match r with
  | .ok (x, ρ) => (b ρ).v2b i g
  | .exc c => Res.exc c
  | .bad => Res.bad
@[simp] theorem v2a_ok (x : D) (ρ : EnvD) (i : Nat) (g : D → D → Option S) (b : M D) : Res.v2a (.ok (x, ρ)) i g b = (b ρ).v2b i g := (Eq.refl _).trans (Eq.refl _)
@[simp] theorem v2a_exc (c : Str) (i : Nat) (g : D → D → Option S) (b : M D) : Res.v2a (.exc c : Res (D × EnvD)) i g b = Res.exc c := (Eq.refl _).trans (Eq.refl _)
@[simp] theorem v2a_bad (i : Nat) (g : D → D → Option S) (b : M D) : Res.v2a (.bad : Res (D × EnvD)) i g b = Res.bad := (Eq.refl _).trans (Eq.refl _)
@[simp] theorem v2a_ite (c : Prop) [Decidable c] (r s : Res (D × EnvD)) (i : Nat) (g : D → D → Option S) (b : M D) : Res.v2a (if c then r else s) i g b = if c then r.v2a i g b else s.v2a i g b := by split <;> rfl
def Res.wx (r : Res (D × EnvD)) (g : D → D → Option S) (x : D) : Res (S × EnvD) := match r with
  | .ok (y, ρ) => M.opt (g x y) ρ
  | .exc c => Res.exc c
  | .bad => Res.bad
@[simp] theorem wx_ok (y : D) (ρ : EnvD) (g : D → D → Option S) (x : D) : Res.wx (.ok (y, ρ)) g x = M.opt (g x y) ρ := (Eq.refl _).trans (Eq.refl _)
@[simp] theorem wx_exc (c : Str) (g : D → D → Option S) (x : D) : Res.wx (.exc c : Res (D × EnvD)) g x = Res.exc c := (Eq.refl _).trans (Eq.refl _)
@[simp] theorem wx_bad (g : D → D → Option S) (x : D) : Res.wx (.bad : Res (D × EnvD)) g x = Res.bad := (Eq.refl _).trans (Eq.refl _)
@[simp] theorem wx_ite (c : Prop) [Decidable c] (r s : Res (D × EnvD)) (g : D → D → Option S) (x : D) : Res.wx (if c then r else s) g x = if c then r.wx g x else s.wx g x := by split <;> rfl
def Res.w2 (r : Res (D × EnvD)) (i : Nat) (g : D → D → Option S) : Res (S × EnvD) := match r with
  | .ok (x, ρ) => (slotM i ρ).wx g x
  | .exc c => Res.exc c
  | .bad => Res.bad
@[simp] theorem w2_ok (x : D) (ρ : EnvD) (i : Nat) (g : D → D → Option S) : Res.w2 (.ok (x, ρ)) i g = (slotM i ρ).wx g x := (Eq.refl _).trans (Eq.refl _)
@[simp] theorem w2_exc (c : Str) (i : Nat) (g : D → D → Option S) : Res.w2 (.exc c : Res (D × EnvD)) i g = Res.exc c := (Eq.refl _).trans (Eq.refl _)
@[simp] theorem w2_bad (i : Nat) (g : D → D → Option S) : Res.w2 (.bad : Res (D × EnvD)) i g = Res.bad := (Eq.refl _).trans (Eq.refl _)
@[simp] theorem w2_ite (c : Prop) [Decidable c] (r s : Res (D × EnvD)) (i : Nat) (g : D → D → Option S) : Res.w2 (if c then r else s) i g = if c then r.w2 i g else s.w2 i g := by split <;> rfl
def Res.cs2 (r : Res (List D × EnvD)) (d : D) : Res (List D × EnvD) := match r with
  | .ok (ds, ρ) => .ok (d :: ds, ρ)
  | .exc c => Res.exc c
  | .bad => Res.bad
@[simp] theorem cs2_ok (ds : List D) (ρ : EnvD) (d : D) : Res.cs2 (.ok (ds, ρ)) d = .ok (d :: ds, ρ) := (Eq.refl _).trans (Eq.refl _)
@[simp] theorem cs2_exc (c : Str) (d : D) : Res.cs2 (.exc c : Res (List D × EnvD)) d = Res.exc c := (Eq.refl _).trans (Eq.refl _)
@[simp] theorem cs2_bad (d : D) : Res.cs2 (.bad : Res (List D × EnvD)) d = Res.bad := (Eq.refl _).trans (Eq.refl _)
@[simp] theorem cs2_ite (c : Prop) [Decidable c] (r s : Res (List D × EnvD)) (d : D) : Res.cs2 (if c then r else s) d = if c then r.cs2 d else s.cs2 d := by split <;> rfl
def Res.cs (r : Res (D × EnvD)) (ms : M (List D)) : Res (List D × EnvD) := match r with
  | .ok (d, ρ) => (ms ρ).cs2 d
  | .exc c => Res.exc c
  | .bad => Res.bad
@[simp] theorem cs_ok (d : D) (ρ : EnvD) (ms : M (List D)) : Res.cs (.ok (d, ρ)) ms = (ms ρ).cs2 d := (Eq.refl _).trans (Eq.refl _)
@[simp] theorem cs_exc (c : Str) (ms : M (List D)) : Res.cs (.exc c : Res (D × EnvD)) ms = Res.exc c := (Eq.refl _).trans (Eq.refl _)
@[simp] theorem cs_bad (ms : M (List D)) : Res.cs (.bad : Res (D × EnvD)) ms = Res.bad := (Eq.refl _).trans (Eq.refl _)
@[simp] theorem cs_ite (c : Prop) [Decidable c] (r s : Res (D × EnvD)) (ms : M (List D)) : Res.cs (if c then r else s) ms = if c then r.cs ms else s.cs ms := by split <;> rfl
def Res.cf2 (r : Res (List S × EnvD)) (d : S) : Res (List S × EnvD) := match r with
  | .ok (ds, ρ) => .ok (d :: ds, ρ)
  | .exc c => Res.exc c
  | .bad => Res.bad
@[simp] theorem cf2_ok (ds : List S) (ρ : EnvD) (d : S) : Res.cf2 (.ok (ds, ρ)) d = .ok (d :: ds, ρ) := (Eq.refl _).trans (Eq.refl _)
@[simp] theorem cf2_exc (c : Str) (d : S) : Res.cf2 (.exc c : Res (List S × EnvD)) d = Res.exc c := (Eq.refl _).trans (Eq.refl _)
@[simp] theorem cf2_bad (d : S) : Res.cf2 (.bad : Res (List S × EnvD)) d = Res.bad := (Eq.refl _).trans (Eq.refl _)
@[simp] theorem cf2_ite (c : Prop) [Decidable c] (r s : Res (List S × EnvD)) (d : S) : Res.cf2 (if c then r else s) d = if c then r.cf2 d else s.cf2 d := by split <;> rfl
def Res.cf (r : Res (S × EnvD)) (ms : M (List S)) : Res (List S × EnvD) := match r with
  | .ok (.fr d, ρ) => (ms ρ).cf2 (.fr d)
  | .ok (.ow d, ρ) => (ms ρ).cf2 (.ow d)
  | .ok _ => .bad
  | .exc c => .exc c
  | .bad => .bad
@[simp] theorem cf_fr (d : D) (ρ : EnvD) (ms : M (List S)) : Res.cf (.ok (.fr d, ρ)) ms = (ms ρ).cf2 (.fr d) := (Eq.refl _).trans (Eq.refl _)
@[simp] theorem cf_ow (d : D) (ρ : EnvD) (ms : M (List S)) : Res.cf (.ok (.ow d, ρ)) ms = (ms ρ).cf2 (.ow d) := (Eq.refl _).trans (Eq.refl _)
@[simp] theorem cf_exc (c : Str) (ms : M (List S)) : Res.cf (.exc c) ms = .exc c := (Eq.refl _).trans (Eq.refl _)
@[simp] theorem cf_bad (ms : M (List S)) : Res.cf .bad ms = .bad := (Eq.refl _).trans (Eq.refl _)
@[simp] theorem cf_ite (c : Prop) [Decidable c] (a b : Res (S × EnvD)) (ms : M (List S)) : Res.cf (if c then a else b) ms = if c then a.cf ms else b.cf ms := by split <;> rfl
def Res.kl (r : Res (List D × EnvD)) (g : List D → Option α) : Res (α × EnvD) := match r with
  | .ok (ds, ρ) => M.opt (g ds) ρ
  | .exc c => Res.exc c
  | .bad => Res.bad
@[simp] theorem kl_ok (ds : List D) (ρ : EnvD) (g : List D → Option α) : Res.kl (.ok (ds, ρ)) g = M.opt (g ds) ρ := (Eq.refl _).trans (Eq.refl _)
@[simp] theorem kl_exc (c : Str) (g : List D → Option α) : Res.kl (.exc c : Res (List D × EnvD)) g = Res.exc c := (Eq.refl _).trans (Eq.refl _)
@[simp] theorem kl_bad (g : List D → Option α) : Res.kl (.bad : Res (List D × EnvD)) g = Res.bad := (Eq.refl _).trans (Eq.refl _)
@[simp] theorem kl_ite (c : Prop) [Decidable c] (r s : Res (List D × EnvD)) (g : List D → Option α) : Res.kl (if c then r else s) g = if c then r.kl g else s.kl g := by split <;> rfl
def Res.kc (r : Res (List D × EnvD)) (f : List D → Res S) : Res (S × EnvD) := match r with
  | .ok (ds, ρ) => M.lift (f ds) ρ
  | .exc c => Res.exc c
  | .bad => Res.bad
@[simp] theorem kc_ok (ds : List D) (ρ : EnvD) (f : List D → Res S) : Res.kc (.ok (ds, ρ)) f = M.lift (f ds) ρ := (Eq.refl _).trans (Eq.refl _)
@[simp] theorem kc_exc (c : Str) (f : List D → Res S) : Res.kc (.exc c : Res (List D × EnvD)) f = Res.exc c := (Eq.refl _).trans (Eq.refl _)
@[simp] theorem kc_bad (f : List D → Res S) : Res.kc (.bad : Res (List D × EnvD)) f = Res.bad := (Eq.refl _).trans (Eq.refl _)
@[simp] theorem kc_ite (c : Prop) [Decidable c] (r s : Res (List D × EnvD)) (f : List D → Res S) : Res.kc (if c then r else s) f = if c then r.kc f else s.kc f := by split <;> rfl
/-- the writing back of an in-out call -/
def ioW (i : Nat) (f : D → List D → Res (S × D)) (ds : List D) (ρ : EnvD) : Res (S × EnvD) := match (ρ[i]? : Option (Option S)) with
  | some (some s) => match f s.d ds with
    | .ok (r, d') => match s.put d' with
      | some s' => match r.plain with
        | some r => .ok (r, ρ.set i (some s'))
        | none => .bad
      | none => .bad
    | _ => .bad
  | _ => .bad
def Res.kio (r : Res (List D × EnvD)) (i : Nat) (f : D → List D → Res (S × D)) : Res (S × EnvD) := match r with
  | .ok (ds, ρ) => ioW i f ds ρ
  | .exc c => Res.exc c
  | .bad => Res.bad
@[simp] theorem kio_ok (ds : List D) (ρ : EnvD) (i : Nat) (f : D → List D → Res (S × D)) : Res.kio (.ok (ds, ρ)) i f = ioW i f ds ρ := (Eq.refl _).trans (Eq.refl _)
@[simp] theorem kio_exc (c : Str) (i : Nat) (f : D → List D → Res (S × D)) : Res.kio (.exc c : Res (List D × EnvD)) i f = Res.exc c := (Eq.refl _).trans (Eq.refl _)
@[simp] theorem kio_bad (i : Nat) (f : D → List D → Res (S × D)) : Res.kio (.bad : Res (List D × EnvD)) i f = Res.bad := (Eq.refl _).trans (Eq.refl _)
@[simp] theorem kio_ite (c : Prop) [Decidable c] (r s : Res (List D × EnvD)) (i : Nat) (f : D → List D → Res (S × D)) : Res.kio (if c then r else s) i f = if c then r.kio i f else s.kio i f := by split <;> rfl
def Res.kio0 (r : Res (D × EnvD)) (i : Nat) (f : D → List D → Res (S × D)) (ms : M (List D)) : Res (S × EnvD) := match r with
  | .ok (d, ρ) => (ms ρ).kio i f
  | .exc c => Res.exc c
  | .bad => Res.bad
@[simp] theorem kio0_ok (d : D) (ρ : EnvD) (i : Nat) (f : D → List D → Res (S × D)) (ms : M (List D)) : Res.kio0 (.ok (d, ρ)) i f ms = (ms ρ).kio i f := (Eq.refl _).trans (Eq.refl _)
@[simp] theorem kio0_exc (c : Str) (i : Nat) (f : D → List D → Res (S × D)) (ms : M (List D)) : Res.kio0 (.exc c : Res (D × EnvD)) i f ms = Res.exc c := (Eq.refl _).trans (Eq.refl _)
@[simp] theorem kio0_bad (i : Nat) (f : D → List D → Res (S × D)) (ms : M (List D)) : Res.kio0 (.bad : Res (D × EnvD)) i f ms = Res.bad := (Eq.refl _).trans (Eq.refl _)
@[simp] theorem kio0_ite (c : Prop) [Decidable c] (r s : Res (D × EnvD)) (i : Nat) (f : D → List D → Res (S × D)) (ms : M (List D)) : Res.kio0 (if c then r else s) i f ms = if c then r.kio0 i f ms else s.kio0 i f ms := by split <;> rfl
def Res.kand (r : Res (Bool × EnvD)) (n : M Bool) : Res (Bool × EnvD) := match r with
  | .ok (b, ρ) => (if b = true then n ρ else .ok (false, ρ))
  | .exc c => Res.exc c
  | .bad => Res.bad
@[simp] theorem kand_ok (b : Bool) (ρ : EnvD) (n : M Bool) : Res.kand (.ok (b, ρ)) n = (if b = true then n ρ else .ok (false, ρ)) := (Eq.refl _).trans (Eq.refl _)
@[simp] theorem kand_exc (c : Str) (n : M Bool) : Res.kand (.exc c : Res (Bool × EnvD)) n = Res.exc c := (Eq.refl _).trans (Eq.refl _)
@[simp] theorem kand_bad (n : M Bool) : Res.kand (.bad : Res (Bool × EnvD)) n = Res.bad := (Eq.refl _).trans (Eq.refl _)
@[simp] theorem kand_ite (c : Prop) [Decidable c] (r s : Res (Bool × EnvD)) (n : M Bool) : Res.kand (if c then r else s) n = if c then r.kand n else s.kand n := by split <;> rfl
def Res.kor (r : Res (Bool × EnvD)) (n : M Bool) : Res (Bool × EnvD) := match r with
  | .ok (b, ρ) => (if b = true then .ok (true, ρ) else n ρ)
  | .exc c => Res.exc c
  | .bad => Res.bad
@[simp] theorem kor_ok (b : Bool) (ρ : EnvD) (n : M Bool) : Res.kor (.ok (b, ρ)) n = (if b = true then .ok (true, ρ) else n ρ) := (Eq.refl _).trans (Eq.refl _)
@[simp] theorem kor_exc (c : Str) (n : M Bool) : Res.kor (.exc c : Res (Bool × EnvD)) n = Res.exc c := (Eq.refl _).trans (Eq.refl _)
@[simp] theorem kor_bad (n : M Bool) : Res.kor (.bad : Res (Bool × EnvD)) n = Res.bad := (Eq.refl _).trans (Eq.refl _)
@[simp] theorem kor_ite (c : Prop) [Decidable c] (r s : Res (Bool × EnvD)) (n : M Bool) : Res.kor (if c then r else s) n = if c then r.kor n else s.kor n := by split <;> rfl
def Res.knot (r : Res (Bool × EnvD))  : Res (Bool × EnvD) := match r with
  | .ok (b, ρ) => .ok (!b, ρ)
  | .exc c => Res.exc c
  | .bad => Res.bad
@[simp] theorem knot_ok (b : Bool) (ρ : EnvD)  : Res.knot (.ok (b, ρ))  = .ok (!b, ρ) := (Eq.refl _).trans (Eq.refl _)
@[simp] theorem knot_exc (c : Str)  : Res.knot (.exc c : Res (Bool × EnvD))  = Res.exc c := (Eq.refl _).trans (Eq.refl _)
@[simp] theorem knot_bad  : Res.knot (.bad : Res (Bool × EnvD))  = Res.bad := (Eq.refl _).trans (Eq.refl _)
@[simp] theorem knot_ite (c : Prop) [Decidable c] (r s : Res (Bool × EnvD))  : Res.knot (if c then r else s)  = if c then r.knot  else s.knot  := by split <;> rfl
def Res.kif (r : Res (Bool × EnvD)) (m n : M α) : Res (α × EnvD) := match r with
  | .ok (b, ρ) => (if b = true then m ρ else n ρ)
  | .exc c => Res.exc c
  | .bad => Res.bad
@[simp] theorem kif_ok (b : Bool) (ρ : EnvD) (m n : M α) : Res.kif (.ok (b, ρ)) m n = (if b = true then m ρ else n ρ) := (Eq.refl _).trans (Eq.refl _)
@[simp] theorem kif_exc (c : Str) (m n : M α) : Res.kif (.exc c : Res (Bool × EnvD)) m n = Res.exc c := (Eq.refl _).trans (Eq.refl _)
@[simp] theorem kif_bad (m n : M α) : Res.kif (.bad : Res (Bool × EnvD)) m n = Res.bad := (Eq.refl _).trans (Eq.refl _)
@[simp] theorem kif_ite (c : Prop) [Decidable c] (r s : Res (Bool × EnvD)) (m n : M α) : Res.kif (if c then r else s) m n = if c then r.kif m n else s.kif m n := by split <;> rfl
def Res.kifO (r : Res (Bool × EnvD)) (f g : EnvD → Out) : Out := match r with
  | .ok (b, ρ) => (if b = true then f ρ else g ρ)
  | .exc c => Out.exc c
  | .bad => Out.bad
@[simp] theorem kifO_ok (b : Bool) (ρ : EnvD) (f g : EnvD → Out) : Res.kifO (.ok (b, ρ)) f g = (if b = true then f ρ else g ρ) := (Eq.refl _).trans (Eq.refl _)
@[simp] theorem kifO_exc (c : Str) (f g : EnvD → Out) : Res.kifO (.exc c : Res (Bool × EnvD)) f g = Out.exc c := (Eq.refl _).trans (Eq.refl _)
@[simp] theorem kifO_bad (f g : EnvD → Out) : Res.kifO (.bad : Res (Bool × EnvD)) f g = Out.bad := (Eq.refl _).trans (Eq.refl _)
@[simp] theorem kifO_ite (c : Prop) [Decidable c] (r s : Res (Bool × EnvD)) (f g : EnvD → Out) : Res.kifO (if c then r else s) f g = if c then r.kifO f g else s.kifO f g := by split <;> rfl
def Res.kandV2 (r : Res (Bool × EnvD)) (n : M D) : Res (D × EnvD) := match r with
  | .ok (b, ρ) => (if b = true then n ρ else .ok (.bool false, ρ))
  | .exc c => Res.exc c
  | .bad => Res.bad
@[simp] theorem kandV2_ok (b : Bool) (ρ : EnvD) (n : M D) : Res.kandV2 (.ok (b, ρ)) n = (if b = true then n ρ else .ok (.bool false, ρ)) := (Eq.refl _).trans (Eq.refl _)
@[simp] theorem kandV2_exc (c : Str) (n : M D) : Res.kandV2 (.exc c : Res (Bool × EnvD)) n = Res.exc c := (Eq.refl _).trans (Eq.refl _)
@[simp] theorem kandV2_bad (n : M D) : Res.kandV2 (.bad : Res (Bool × EnvD)) n = Res.bad := (Eq.refl _).trans (Eq.refl _)
@[simp] theorem kandV2_ite (c : Prop) [Decidable c] (r s : Res (Bool × EnvD)) (n : M D) : Res.kandV2 (if c then r else s) n = if c then r.kandV2 n else s.kandV2 n := by split <;> rfl
def Res.korV2 (r : Res (Bool × EnvD)) (n : M D) : Res (D × EnvD) := match r with
  | .ok (b, ρ) => (if b = true then .ok (.bool true, ρ) else n ρ)
  | .exc c => Res.exc c
  | .bad => Res.bad
@[simp] theorem korV2_ok (b : Bool) (ρ : EnvD) (n : M D) : Res.korV2 (.ok (b, ρ)) n = (if b = true then .ok (.bool true, ρ) else n ρ) := (Eq.refl _).trans (Eq.refl _)
@[simp] theorem korV2_exc (c : Str) (n : M D) : Res.korV2 (.exc c : Res (Bool × EnvD)) n = Res.exc c := (Eq.refl _).trans (Eq.refl _)
@[simp] theorem korV2_bad (n : M D) : Res.korV2 (.bad : Res (Bool × EnvD)) n = Res.bad := (Eq.refl _).trans (Eq.refl _)
@[simp] theorem korV2_ite (c : Prop) [Decidable c] (r s : Res (Bool × EnvD)) (n : M D) : Res.korV2 (if c then r else s) n = if c then r.korV2 n else s.korV2 n := by split <;> rfl
def Res.knotV2 (r : Res (Bool × EnvD))  : Res (D × EnvD) := match r with
  | .ok (b, ρ) => .ok (.bool (!b), ρ)
  | .exc c => Res.exc c
  | .bad => Res.bad
@[simp] theorem knotV2_ok (b : Bool) (ρ : EnvD)  : Res.knotV2 (.ok (b, ρ))  = .ok (.bool (!b), ρ) := (Eq.refl _).trans (Eq.refl _)
@[simp] theorem knotV2_exc (c : Str)  : Res.knotV2 (.exc c : Res (Bool × EnvD))  = Res.exc c := (Eq.refl _).trans (Eq.refl _)
@[simp] theorem knotV2_bad  : Res.knotV2 (.bad : Res (Bool × EnvD))  = Res.bad := (Eq.refl _).trans (Eq.refl _)
@[simp] theorem knotV2_ite (c : Prop) [Decidable c] (r s : Res (Bool × EnvD))  : Res.knotV2 (if c then r else s)  = if c then r.knotV2  else s.knotV2  := by split <;> rfl
def Res.ch4 (r : Res (D × EnvD)) (g' : D → D → Option D) (y : D) : Res (D × EnvD) := match r with
  | .ok (w, ρ) => M.opt (g' y w) ρ
  | .exc c => Res.exc c
  | .bad => Res.bad
@[simp] theorem ch4_ok (w : D) (ρ : EnvD) (g' : D → D → Option D) (y : D) : Res.ch4 (.ok (w, ρ)) g' y = M.opt (g' y w) ρ := (Eq.refl _).trans (Eq.refl _)
@[simp] theorem ch4_exc (c : Str) (g' : D → D → Option D) (y : D) : Res.ch4 (.exc c : Res (D × EnvD)) g' y = Res.exc c := (Eq.refl _).trans (Eq.refl _)
@[simp] theorem ch4_bad (g' : D → D → Option D) (y : D) : Res.ch4 (.bad : Res (D × EnvD)) g' y = Res.bad := (Eq.refl _).trans (Eq.refl _)
@[simp] theorem ch4_ite (c : Prop) [Decidable c] (r s : Res (D × EnvD)) (g' : D → D → Option D) (y : D) : Res.ch4 (if c then r else s) g' y = if c then r.ch4 g' y else s.ch4 g' y := by split <;> rfl
def Res.ch3 (r : Res (Bool × EnvD)) (g' : D → D → Option D) (c0 : M D) (y : D) : Res (D × EnvD) := match r with
  | .ok (k, ρ) => (if k = true then (c0 ρ).ch4 g' y else .ok (.bool false, ρ))
  | .exc c => Res.exc c
  | .bad => Res.bad
@[simp] theorem ch3_ok (k : Bool) (ρ : EnvD) (g' : D → D → Option D) (c0 : M D) (y : D) : Res.ch3 (.ok (k, ρ)) g' c0 y = (if k = true then (c0 ρ).ch4 g' y else .ok (.bool false, ρ)) := (Eq.refl _).trans (Eq.refl _)
@[simp] theorem ch3_exc (c : Str) (g' : D → D → Option D) (c0 : M D) (y : D) : Res.ch3 (.exc c : Res (Bool × EnvD)) g' c0 y = Res.exc c := (Eq.refl _).trans (Eq.refl _)
@[simp] theorem ch3_bad (g' : D → D → Option D) (c0 : M D) (y : D) : Res.ch3 (.bad : Res (Bool × EnvD)) g' c0 y = Res.bad := (Eq.refl _).trans (Eq.refl _)
@[simp] theorem ch3_ite (c : Prop) [Decidable c] (r s : Res (Bool × EnvD)) (g' : D → D → Option D) (c0 : M D) (y : D) : Res.ch3 (if c then r else s) g' c0 y = if c then r.ch3 g' c0 y else s.ch3 g' c0 y := by split <;> rfl
def Res.ch2 (r : Res (D × EnvD)) (g g' : D → D → Option D) (c0 : M D) (x : D) : Res (D × EnvD) := match r with
  | .ok (y, ρ) => (((M.opt (g x y) ρ).k1 boolO).ch3 g' c0 y)
  | .exc c => Res.exc c
  | .bad => Res.bad
@[simp] theorem ch2_ok (y : D) (ρ : EnvD) (g g' : D → D → Option D) (c0 : M D) (x : D) : Res.ch2 (.ok (y, ρ)) g g' c0 x = (((M.opt (g x y) ρ).k1 boolO).ch3 g' c0 y) := (Eq.refl _).trans (Eq.refl _)
@[simp] theorem ch2_exc (c : Str) (g g' : D → D → Option D) (c0 : M D) (x : D) : Res.ch2 (.exc c : Res (D × EnvD)) g g' c0 x = Res.exc c := (Eq.refl _).trans (Eq.refl _)
@[simp] theorem ch2_bad (g g' : D → D → Option D) (c0 : M D) (x : D) : Res.ch2 (.bad : Res (D × EnvD)) g g' c0 x = Res.bad := (Eq.refl _).trans (Eq.refl _)
@[simp] theorem ch2_ite (c : Prop) [Decidable c] (r s : Res (D × EnvD)) (g g' : D → D → Option D) (c0 : M D) (x : D) : Res.ch2 (if c then r else s) g g' c0 x = if c then r.ch2 g g' c0 x else s.ch2 g g' c0 x := by split <;> rfl
def Res.ch1 (r : Res (D × EnvD)) (g g' : D → D → Option D) (b c0 : M D) : Res (D × EnvD) := match r with
  | .ok (x, ρ) => (b ρ).ch2 g g' c0 x
  | .exc c => Res.exc c
  | .bad => Res.bad
@[simp] theorem ch1_ok (x : D) (ρ : EnvD) (g g' : D → D → Option D) (b c0 : M D) : Res.ch1 (.ok (x, ρ)) g g' b c0 = (b ρ).ch2 g g' c0 x := (Eq.refl _).trans (Eq.refl _)
@[simp] theorem ch1_exc (c : Str) (g g' : D → D → Option D) (b c0 : M D) : Res.ch1 (.exc c : Res (D × EnvD)) g g' b c0 = Res.exc c := (Eq.refl _).trans (Eq.refl _)
@[simp] theorem ch1_bad (g g' : D → D → Option D) (b c0 : M D) : Res.ch1 (.bad : Res (D × EnvD)) g g' b c0 = Res.bad := (Eq.refl _).trans (Eq.refl _)
@[simp] theorem ch1_ite (c : Prop) [Decidable c] (r s : Res (D × EnvD)) (g g' : D → D → Option D) (b c0 : M D) : Res.ch1 (if c then r else s) g g' b c0 = if c then r.ch1 g g' b c0 else s.ch1 g g' b c0 := by split <;> rfl
def Res.ret (r : Res (S × EnvD))  : Out := match r with
  | .ok (s, ρ) => .rt s ρ
  | .exc c => Out.exc c
  | .bad => Out.bad
@[simp] theorem ret_ok (s : S) (ρ : EnvD)  : Res.ret (.ok (s, ρ))  = .rt s ρ := (Eq.refl _).trans (Eq.refl _)
@[simp] theorem ret_exc (c : Str)  : Res.ret (.exc c : Res (S × EnvD))  = Out.exc c := (Eq.refl _).trans (Eq.refl _)
@[simp] theorem ret_bad  : Res.ret (.bad : Res (S × EnvD))  = Out.bad := (Eq.refl _).trans (Eq.refl _)
@[simp] theorem ret_ite (c : Prop) [Decidable c] (r s : Res (S × EnvD))  : Res.ret (if c then r else s)  = if c then r.ret  else s.ret  := by split <;> rfl
def Res.expr (r : Res (α × EnvD))  : Out := match r with
  | .ok (s, ρ) => .nx ρ
  | .exc c => Out.exc c
  | .bad => Out.bad
@[simp] theorem expr_ok (s : α) (ρ : EnvD)  : Res.expr (.ok (s, ρ))  = .nx ρ := (Eq.refl _).trans (Eq.refl _)
@[simp] theorem expr_exc (c : Str)  : Res.expr (.exc c : Res (α × EnvD))  = Out.exc c := (Eq.refl _).trans (Eq.refl _)
@[simp] theorem expr_bad  : Res.expr (.bad : Res (α × EnvD))  = Out.bad := (Eq.refl _).trans (Eq.refl _)
@[simp] theorem expr_ite (c : Prop) [Decidable c] (r s : Res (α × EnvD))  : Res.expr (if c then r else s)  = if c then r.expr  else s.expr  := by split <;> rfl
def Res.set (r : Res (S × EnvD)) (i : Nat) : Out := match r with
  | .ok (s, ρ) => putS i s ρ
  | .exc c => Out.exc c
  | .bad => Out.bad
@[simp] theorem set_ok (s : S) (ρ : EnvD) (i : Nat) : Res.set (.ok (s, ρ)) i = putS i s ρ := (Eq.refl _).trans (Eq.refl _)
@[simp] theorem set_exc (c : Str) (i : Nat) : Res.set (.exc c : Res (S × EnvD)) i = Out.exc c := (Eq.refl _).trans (Eq.refl _)
@[simp] theorem set_bad (i : Nat) : Res.set (.bad : Res (S × EnvD)) i = Out.bad := (Eq.refl _).trans (Eq.refl _)
@[simp] theorem set_ite (c : Prop) [Decidable c] (r s : Res (S × EnvD)) (i : Nat) : Res.set (if c then r else s) i = if c then r.set i else s.set i := by split <;> rfl
def asgO (set : D → EnvD → Option EnvD) (d : D) (ρ : EnvD) : Out := match set d ρ with | some ρ2 => .nx ρ2 | none => .bad
theorem asgO_ok {set : D → EnvD → Option EnvD} {d : D} {ρ ρ2 : EnvD} (h : set d ρ = some ρ2) : asgO set d ρ = .nx ρ2 := by unfold asgO; rw [h]
@[simp] theorem asgO_some (set : D → EnvD → Option EnvD) (d : D) (ρ : EnvD) : asgO set d ρ = (match set d ρ with | some ρ2 => .nx ρ2 | none => .bad) := by unfold asgO; rfl
def parO (is : List Nat) (ss : List S) (ρ : EnvD) : Out := match putSs is ss ρ with | some ρ2 => .nx ρ2 | none => .bad
@[simp] theorem parO_ev (is : List Nat) (ss : List S) (ρ : EnvD) : parO is ss ρ = (match putSs is ss ρ with | some ρ2 => .nx ρ2 | none => .bad) := by unfold parO; rfl
def Res.asg (r : Res (D × EnvD)) (set : D → EnvD → Option EnvD) : Out := match r with
  | .ok (d, ρ) => asgO set d ρ
  | .exc c => Out.exc c
  | .bad => Out.bad
@[simp] theorem asg_ok (d : D) (ρ : EnvD) (set : D → EnvD → Option EnvD) : Res.asg (.ok (d, ρ)) set = asgO set d ρ := (Eq.refl _).trans (Eq.refl _)
@[simp] theorem asg_exc (c : Str) (set : D → EnvD → Option EnvD) : Res.asg (.exc c : Res (D × EnvD)) set = Out.exc c := (Eq.refl _).trans (Eq.refl _)
@[simp] theorem asg_bad (set : D → EnvD → Option EnvD) : Res.asg (.bad : Res (D × EnvD)) set = Out.bad := (Eq.refl _).trans (Eq.refl _)
@[simp] theorem asg_ite (c : Prop) [Decidable c] (r s : Res (D × EnvD)) (set : D → EnvD → Option EnvD) : Res.asg (if c then r else s) set = if c then r.asg set else s.asg set := by split <;> rfl
def Res.par (r : Res (List S × EnvD)) (is : List Nat) : Out := match r with
  | .ok (ss, ρ) => parO is ss ρ
  | .exc c => Out.exc c
  | .bad => Out.bad
@[simp] theorem par_ok (ss : List S) (ρ : EnvD) (is : List Nat) : Res.par (.ok (ss, ρ)) is = parO is ss ρ := (Eq.refl _).trans (Eq.refl _)
@[simp] theorem par_exc (c : Str) (is : List Nat) : Res.par (.exc c : Res (List S × EnvD)) is = Out.exc c := (Eq.refl _).trans (Eq.refl _)
@[simp] theorem par_bad (is : List Nat) : Res.par (.bad : Res (List S × EnvD)) is = Out.bad := (Eq.refl _).trans (Eq.refl _)
@[simp] theorem par_ite (c : Prop) [Decidable c] (r s : Res (List S × EnvD)) (is : List Nat) : Res.par (if c then r else s) is = if c then r.par is else s.par is := by split <;> rfl
/-- a write as a statement -/
def wrO (i : Nat) (f : D → Option D) (ρ : EnvD) : Out := match (ρ[i]? : Option (Option S)) with
  | some (some s) => match f s.d with
    | some d' => match s.put d' with
      | some s' => .nx (ρ.set i (some s'))
      | none => .bad
    | none => .bad
  | _ => .bad
def Res.st3 (r : Res (D × EnvD)) (i : Nat) (d : D) (f : D → D → D → Option D) : Out := match r with
  | .ok (k, ρ) => wrO i (f k d) ρ
  | .exc c => Out.exc c
  | .bad => Out.bad
@[simp] theorem st3_ok (k : D) (ρ : EnvD) (i : Nat) (d : D) (f : D → D → D → Option D) : Res.st3 (.ok (k, ρ)) i d f = wrO i (f k d) ρ := (Eq.refl _).trans (Eq.refl _)
@[simp] theorem st3_exc (c : Str) (i : Nat) (d : D) (f : D → D → D → Option D) : Res.st3 (.exc c : Res (D × EnvD)) i d f = Out.exc c := (Eq.refl _).trans (Eq.refl _)
@[simp] theorem st3_bad (i : Nat) (d : D) (f : D → D → D → Option D) : Res.st3 (.bad : Res (D × EnvD)) i d f = Out.bad := (Eq.refl _).trans (Eq.refl _)
@[simp] theorem st3_ite (c : Prop) [Decidable c] (r s : Res (D × EnvD)) (i : Nat) (d : D) (f : D → D → D → Option D) : Res.st3 (if c then r else s) i d f = if c then r.st3 i d f else s.st3 i d f := by split <;> rfl
def Res.st2 (r : Res (D × EnvD)) (i : Nat) (mi : M D) (d : D) (f : D → D → D → Option D) : Out := match r with
  | .ok (l, ρ) => (mi ρ).st3 i d f
  | .exc c => Out.exc c
  | .bad => Out.bad
@[simp] theorem st2_ok (l : D) (ρ : EnvD) (i : Nat) (mi : M D) (d : D) (f : D → D → D → Option D) : Res.st2 (.ok (l, ρ)) i mi d f = (mi ρ).st3 i d f := (Eq.refl _).trans (Eq.refl _)
@[simp] theorem st2_exc (c : Str) (i : Nat) (mi : M D) (d : D) (f : D → D → D → Option D) : Res.st2 (.exc c : Res (D × EnvD)) i mi d f = Out.exc c := (Eq.refl _).trans (Eq.refl _)
@[simp] theorem st2_bad (i : Nat) (mi : M D) (d : D) (f : D → D → D → Option D) : Res.st2 (.bad : Res (D × EnvD)) i mi d f = Out.bad := (Eq.refl _).trans (Eq.refl _)
@[simp] theorem st2_ite (c : Prop) [Decidable c] (r s : Res (D × EnvD)) (i : Nat) (mi : M D) (d : D) (f : D → D → D → Option D) : Res.st2 (if c then r else s) i mi d f = if c then r.st2 i mi d f else s.st2 i mi d f := by split <;> rfl
def Res.st1 (r : Res (D × EnvD)) (i : Nat) (mi : M D) (f : D → D → D → Option D) : Out := match r with
  | .ok (d, ρ) => (slotM i ρ).st2 i mi d f
  | .exc c => Out.exc c
  | .bad => Out.bad
@[simp] theorem st1_ok (d : D) (ρ : EnvD) (i : Nat) (mi : M D) (f : D → D → D → Option D) : Res.st1 (.ok (d, ρ)) i mi f = (slotM i ρ).st2 i mi d f := (Eq.refl _).trans (Eq.refl _)
@[simp] theorem st1_exc (c : Str) (i : Nat) (mi : M D) (f : D → D → D → Option D) : Res.st1 (.exc c : Res (D × EnvD)) i mi f = Out.exc c := (Eq.refl _).trans (Eq.refl _)
@[simp] theorem st1_bad (i : Nat) (mi : M D) (f : D → D → D → Option D) : Res.st1 (.bad : Res (D × EnvD)) i mi f = Out.bad := (Eq.refl _).trans (Eq.refl _)
@[simp] theorem st1_ite (c : Prop) [Decidable c] (r s : Res (D × EnvD)) (i : Nat) (mi : M D) (f : D → D → D → Option D) : Res.st1 (if c then r else s) i mi f = if c then r.st1 i mi f else s.st1 i mi f := by split <;> rfl
/-- a write as an expression, with its result -/
def wrE (i : Nat) (f : D → Option (S × D)) (ρ : EnvD) : Res (S × EnvD) := match (ρ[i]? : Option (Option S)) with
  | some (some s) => match f s.d with
    | some (r, d') => match s.put d' with
      | some s' => .ok (r, ρ.set i (some s'))
      | none => .bad
    | none => .bad
  | _ => .bad
def isLO : D → Option Unit
  | .list _ => some ()
  | _ => none
def Res.ap2 (r : Res (D × EnvD)) (i : Nat) : Res (S × EnvD) := match r with
  | .ok (d, ρ) => wrE i (fun l => (appD d l).map fun l => (.fr .none, l)) ρ
  | .exc c => Res.exc c
  | .bad => Res.bad
@[simp] theorem ap2_ok (d : D) (ρ : EnvD) (i : Nat) : Res.ap2 (.ok (d, ρ)) i = wrE i (fun l => (appD d l).map fun l => (.fr .none, l)) ρ := (Eq.refl _).trans (Eq.refl _)
@[simp] theorem ap2_exc (c : Str) (i : Nat) : Res.ap2 (.exc c : Res (D × EnvD)) i = Res.exc c := (Eq.refl _).trans (Eq.refl _)
@[simp] theorem ap2_bad (i : Nat) : Res.ap2 (.bad : Res (D × EnvD)) i = Res.bad := (Eq.refl _).trans (Eq.refl _)
@[simp] theorem ap2_ite (c : Prop) [Decidable c] (r s : Res (D × EnvD)) (i : Nat) : Res.ap2 (if c then r else s) i = if c then r.ap2 i else s.ap2 i := by split <;> rfl
def Res.ap1 (r : Res (Unit × EnvD)) (i : Nat) (me : M D) : Res (S × EnvD) := match r with
  | .ok (u, ρ) => (me ρ).ap2 i
  | .exc c => Res.exc c
  | .bad => Res.bad
@[simp] theorem ap1_ok (u : Unit) (ρ : EnvD) (i : Nat) (me : M D) : Res.ap1 (.ok (u, ρ)) i me = (me ρ).ap2 i := (Eq.refl _).trans (Eq.refl _)
@[simp] theorem ap1_exc (c : Str) (i : Nat) (me : M D) : Res.ap1 (.exc c : Res (Unit × EnvD)) i me = Res.exc c := (Eq.refl _).trans (Eq.refl _)
@[simp] theorem ap1_bad (i : Nat) (me : M D) : Res.ap1 (.bad : Res (Unit × EnvD)) i me = Res.bad := (Eq.refl _).trans (Eq.refl _)
@[simp] theorem ap1_ite (c : Prop) [Decidable c] (r s : Res (Unit × EnvD)) (i : Nat) (me : M D) : Res.ap1 (if c then r else s) i me = if c then r.ap1 i me else s.ap1 i me := by split <;> rfl
def popAtS (e l : D) : Option (S × D) := (popAtD l e).map fun p => (.fr p.1, p.2)
def Res.pp2 (r : Res (D × EnvD)) (i : Nat) : Res (S × EnvD) := match r with
  | .ok (e, ρ) => wrE i (popAtS e) ρ
  | .exc c => Res.exc c
  | .bad => Res.bad
@[simp] theorem pp2_ok (e : D) (ρ : EnvD) (i : Nat) : Res.pp2 (.ok (e, ρ)) i = wrE i (popAtS e) ρ := (Eq.refl _).trans (Eq.refl _)
@[simp] theorem pp2_exc (c : Str) (i : Nat) : Res.pp2 (.exc c : Res (D × EnvD)) i = Res.exc c := (Eq.refl _).trans (Eq.refl _)
@[simp] theorem pp2_bad (i : Nat) : Res.pp2 (.bad : Res (D × EnvD)) i = Res.bad := (Eq.refl _).trans (Eq.refl _)
@[simp] theorem pp2_ite (c : Prop) [Decidable c] (r s : Res (D × EnvD)) (i : Nat) : Res.pp2 (if c then r else s) i = if c then r.pp2 i else s.pp2 i := by split <;> rfl
def Res.pp1 (r : Res (Unit × EnvD)) (i : Nat) (me : M D) : Res (S × EnvD) := match r with
  | .ok (u, ρ) => (me ρ).pp2 i
  | .exc c => Res.exc c
  | .bad => Res.bad
@[simp] theorem pp1_ok (u : Unit) (ρ : EnvD) (i : Nat) (me : M D) : Res.pp1 (.ok (u, ρ)) i me = (me ρ).pp2 i := (Eq.refl _).trans (Eq.refl _)
@[simp] theorem pp1_exc (c : Str) (i : Nat) (me : M D) : Res.pp1 (.exc c : Res (Unit × EnvD)) i me = Res.exc c := (Eq.refl _).trans (Eq.refl _)
@[simp] theorem pp1_bad (i : Nat) (me : M D) : Res.pp1 (.bad : Res (Unit × EnvD)) i me = Res.bad := (Eq.refl _).trans (Eq.refl _)
@[simp] theorem pp1_ite (c : Prop) [Decidable c] (r s : Res (Unit × EnvD)) (i : Nat) (me : M D) : Res.pp1 (if c then r else s) i me = if c then r.pp1 i me else s.pp1 i me := by split <;> rfl
def Res.sl3 (r : Res (Option Int × EnvD)) (ml : Option Int) (d : D) : Res (S × EnvD) := match r with
  | .ok (h, ρ) => M.opt (sliceS d ml h) ρ
  | .exc c => Res.exc c
  | .bad => Res.bad
@[simp] theorem sl3_ok (h : Option Int) (ρ : EnvD) (ml : Option Int) (d : D) : Res.sl3 (.ok (h, ρ)) ml d = M.opt (sliceS d ml h) ρ := (Eq.refl _).trans (Eq.refl _)
@[simp] theorem sl3_exc (c : Str) (ml : Option Int) (d : D) : Res.sl3 (.exc c : Res (Option Int × EnvD)) ml d = Res.exc c := (Eq.refl _).trans (Eq.refl _)
@[simp] theorem sl3_bad (ml : Option Int) (d : D) : Res.sl3 (.bad : Res (Option Int × EnvD)) ml d = Res.bad := (Eq.refl _).trans (Eq.refl _)
@[simp] theorem sl3_ite (c : Prop) [Decidable c] (r s : Res (Option Int × EnvD)) (ml : Option Int) (d : D) : Res.sl3 (if c then r else s) ml d = if c then r.sl3 ml d else s.sl3 ml d := by split <;> rfl
def Res.sl2 (r : Res (Option Int × EnvD)) (mh : M (Option Int)) (d : D) : Res (S × EnvD) := match r with
  | .ok (l, ρ) => (mh ρ).sl3 l d
  | .exc c => Res.exc c
  | .bad => Res.bad
@[simp] theorem sl2_ok (l : Option Int) (ρ : EnvD) (mh : M (Option Int)) (d : D) : Res.sl2 (.ok (l, ρ)) mh d = (mh ρ).sl3 l d := (Eq.refl _).trans (Eq.refl _)
@[simp] theorem sl2_exc (c : Str) (mh : M (Option Int)) (d : D) : Res.sl2 (.exc c : Res (Option Int × EnvD)) mh d = Res.exc c := (Eq.refl _).trans (Eq.refl _)
@[simp] theorem sl2_bad (mh : M (Option Int)) (d : D) : Res.sl2 (.bad : Res (Option Int × EnvD)) mh d = Res.bad := (Eq.refl _).trans (Eq.refl _)
@[simp] theorem sl2_ite (c : Prop) [Decidable c] (r s : Res (Option Int × EnvD)) (mh : M (Option Int)) (d : D) : Res.sl2 (if c then r else s) mh d = if c then r.sl2 mh d else s.sl2 mh d := by split <;> rfl
def Res.sl1 (r : Res (D × EnvD)) (ml mh : M (Option Int)) : Res (S × EnvD) := match r with
  | .ok (d, ρ) => (ml ρ).sl2 mh d
  | .exc c => Res.exc c
  | .bad => Res.bad
@[simp] theorem sl1_ok (d : D) (ρ : EnvD) (ml mh : M (Option Int)) : Res.sl1 (.ok (d, ρ)) ml mh = (ml ρ).sl2 mh d := (Eq.refl _).trans (Eq.refl _)
@[simp] theorem sl1_exc (c : Str) (ml mh : M (Option Int)) : Res.sl1 (.exc c : Res (D × EnvD)) ml mh = Res.exc c := (Eq.refl _).trans (Eq.refl _)
@[simp] theorem sl1_bad (ml mh : M (Option Int)) : Res.sl1 (.bad : Res (D × EnvD)) ml mh = Res.bad := (Eq.refl _).trans (Eq.refl _)
@[simp] theorem sl1_ite (c : Prop) [Decidable c] (r s : Res (D × EnvD)) (ml mh : M (Option Int)) : Res.sl1 (if c then r else s) ml mh = if c then r.sl1 ml mh else s.sl1 ml mh := by split <;> rfl
def Res.sv4 (r : Res (D × EnvD)) (l h : Option Int) : Res (S × EnvD) := match r with
  | .ok (d, ρ) => M.opt (sliceS d l h) ρ
  | .exc c => Res.exc c
  | .bad => Res.bad
@[simp] theorem sv4_ok (d : D) (ρ : EnvD) (l h : Option Int) : Res.sv4 (.ok (d, ρ)) l h = M.opt (sliceS d l h) ρ := (Eq.refl _).trans (Eq.refl _)
@[simp] theorem sv4_exc (c : Str) (l h : Option Int) : Res.sv4 (.exc c : Res (D × EnvD)) l h = Res.exc c := (Eq.refl _).trans (Eq.refl _)
@[simp] theorem sv4_bad (l h : Option Int) : Res.sv4 (.bad : Res (D × EnvD)) l h = Res.bad := (Eq.refl _).trans (Eq.refl _)
@[simp] theorem sv4_ite (c : Prop) [Decidable c] (r s : Res (D × EnvD)) (l h : Option Int) : Res.sv4 (if c then r else s) l h = if c then r.sv4 l h else s.sv4 l h := by split <;> rfl
def Res.sv3 (r : Res (Option Int × EnvD)) (i : Nat) (l : Option Int) : Res (S × EnvD) := match r with
  | .ok (h, ρ) => (slotM i ρ).sv4 l h
  | .exc c => Res.exc c
  | .bad => Res.bad
@[simp] theorem sv3_ok (h : Option Int) (ρ : EnvD) (i : Nat) (l : Option Int) : Res.sv3 (.ok (h, ρ)) i l = (slotM i ρ).sv4 l h := (Eq.refl _).trans (Eq.refl _)
@[simp] theorem sv3_exc (c : Str) (i : Nat) (l : Option Int) : Res.sv3 (.exc c : Res (Option Int × EnvD)) i l = Res.exc c := (Eq.refl _).trans (Eq.refl _)
@[simp] theorem sv3_bad (i : Nat) (l : Option Int) : Res.sv3 (.bad : Res (Option Int × EnvD)) i l = Res.bad := (Eq.refl _).trans (Eq.refl _)
@[simp] theorem sv3_ite (c : Prop) [Decidable c] (r s : Res (Option Int × EnvD)) (i : Nat) (l : Option Int) : Res.sv3 (if c then r else s) i l = if c then r.sv3 i l else s.sv3 i l := by split <;> rfl
def Res.sv2 (r : Res (Option Int × EnvD)) (i : Nat) (mh : M (Option Int)) : Res (S × EnvD) := match r with
  | .ok (l, ρ) => (mh ρ).sv3 i l
  | .exc c => Res.exc c
  | .bad => Res.bad
@[simp] theorem sv2_ok (l : Option Int) (ρ : EnvD) (i : Nat) (mh : M (Option Int)) : Res.sv2 (.ok (l, ρ)) i mh = (mh ρ).sv3 i l := (Eq.refl _).trans (Eq.refl _)
@[simp] theorem sv2_exc (c : Str) (i : Nat) (mh : M (Option Int)) : Res.sv2 (.exc c : Res (Option Int × EnvD)) i mh = Res.exc c := (Eq.refl _).trans (Eq.refl _)
@[simp] theorem sv2_bad (i : Nat) (mh : M (Option Int)) : Res.sv2 (.bad : Res (Option Int × EnvD)) i mh = Res.bad := (Eq.refl _).trans (Eq.refl _)
@[simp] theorem sv2_ite (c : Prop) [Decidable c] (r s : Res (Option Int × EnvD)) (i : Nat) (mh : M (Option Int)) : Res.sv2 (if c then r else s) i mh = if c then r.sv2 i mh else s.sv2 i mh := by split <;> rfl
def Res.sv1 (r : Res (D × EnvD)) (i : Nat) (ml mh : M (Option Int)) : Res (S × EnvD) := match r with
  | .ok (d, ρ) => (ml ρ).sv2 i mh
  | .exc c => Res.exc c
  | .bad => Res.bad
@[simp] theorem sv1_ok (d : D) (ρ : EnvD) (i : Nat) (ml mh : M (Option Int)) : Res.sv1 (.ok (d, ρ)) i ml mh = (ml ρ).sv2 i mh := (Eq.refl _).trans (Eq.refl _)
@[simp] theorem sv1_exc (c : Str) (i : Nat) (ml mh : M (Option Int)) : Res.sv1 (.exc c : Res (D × EnvD)) i ml mh = Res.exc c := (Eq.refl _).trans (Eq.refl _)
@[simp] theorem sv1_bad (i : Nat) (ml mh : M (Option Int)) : Res.sv1 (.bad : Res (D × EnvD)) i ml mh = Res.bad := (Eq.refl _).trans (Eq.refl _)
@[simp] theorem sv1_ite (c : Prop) [Decidable c] (r s : Res (D × EnvD)) (i : Nat) (ml mh : M (Option Int)) : Res.sv1 (if c then r else s) i ml mh = if c then r.sv1 i ml mh else s.sv1 i ml mh := by split <;> rfl
def Res.c35 (r : Res (D × EnvD)) (g3 : D → D → Option D) (w : D) : Res (Bool × EnvD) := match r with
  | .ok (u, ρ) => M.opt ((g3 w u).bind boolO) ρ
  | .exc c => Res.exc c
  | .bad => Res.bad
@[simp] theorem c35_ok (u : D) (ρ : EnvD) (g3 : D → D → Option D) (w : D) : Res.c35 (.ok (u, ρ)) g3 w = M.opt ((g3 w u).bind boolO) ρ := (Eq.refl _).trans (Eq.refl _)
@[simp] theorem c35_exc (c : Str) (g3 : D → D → Option D) (w : D) : Res.c35 (.exc c : Res (D × EnvD)) g3 w = Res.exc c := (Eq.refl _).trans (Eq.refl _)
@[simp] theorem c35_bad (g3 : D → D → Option D) (w : D) : Res.c35 (.bad : Res (D × EnvD)) g3 w = Res.bad := (Eq.refl _).trans (Eq.refl _)
@[simp] theorem c35_ite (c : Prop) [Decidable c] (r s : Res (D × EnvD)) (g3 : D → D → Option D) (w : D) : Res.c35 (if c then r else s) g3 w = if c then r.c35 g3 w else s.c35 g3 w := by split <;> rfl
def Res.c34 (r : Res (Bool × EnvD)) (g3 : D → D → Option D) (w : D) (d : M D) : Res (Bool × EnvD) := match r with
  | .ok (k, ρ) => (if k = true then (d ρ).c35 g3 w else .ok (false, ρ))
  | .exc c => Res.exc c
  | .bad => Res.bad
@[simp] theorem c34_ok (k : Bool) (ρ : EnvD) (g3 : D → D → Option D) (w : D) (d : M D) : Res.c34 (.ok (k, ρ)) g3 w d = (if k = true then (d ρ).c35 g3 w else .ok (false, ρ)) := (Eq.refl _).trans (Eq.refl _)
@[simp] theorem c34_exc (c : Str) (g3 : D → D → Option D) (w : D) (d : M D) : Res.c34 (.exc c : Res (Bool × EnvD)) g3 w d = Res.exc c := (Eq.refl _).trans (Eq.refl _)
@[simp] theorem c34_bad (g3 : D → D → Option D) (w : D) (d : M D) : Res.c34 (.bad : Res (Bool × EnvD)) g3 w d = Res.bad := (Eq.refl _).trans (Eq.refl _)
@[simp] theorem c34_ite (c : Prop) [Decidable c] (r s : Res (Bool × EnvD)) (g3 : D → D → Option D) (w : D) (d : M D) : Res.c34 (if c then r else s) g3 w d = if c then r.c34 g3 w d else s.c34 g3 w d := by split <;> rfl
def Res.c33 (r : Res (D × EnvD)) (g2 g3 : D → D → Option D) (y : D) (d : M D) : Res (Bool × EnvD) := match r with
  | .ok (w, ρ) => (M.opt ((g2 y w).bind boolO) ρ).c34 g3 w d
  | .exc c => Res.exc c
  | .bad => Res.bad
@[simp] theorem c33_ok (w : D) (ρ : EnvD) (g2 g3 : D → D → Option D) (y : D) (d : M D) : Res.c33 (.ok (w, ρ)) g2 g3 y d = (M.opt ((g2 y w).bind boolO) ρ).c34 g3 w d := (Eq.refl _).trans (Eq.refl _)
@[simp] theorem c33_exc (c : Str) (g2 g3 : D → D → Option D) (y : D) (d : M D) : Res.c33 (.exc c : Res (D × EnvD)) g2 g3 y d = Res.exc c := (Eq.refl _).trans (Eq.refl _)
@[simp] theorem c33_bad (g2 g3 : D → D → Option D) (y : D) (d : M D) : Res.c33 (.bad : Res (D × EnvD)) g2 g3 y d = Res.bad := (Eq.refl _).trans (Eq.refl _)
@[simp] theorem c33_ite (c : Prop) [Decidable c] (r s : Res (D × EnvD)) (g2 g3 : D → D → Option D) (y : D) (d : M D) : Res.c33 (if c then r else s) g2 g3 y d = if c then r.c33 g2 g3 y d else s.c33 g2 g3 y d := by split <;> rfl
def Res.c32b (r : Res (Bool × EnvD)) (g2 g3 : D → D → Option D) (y : D) (c0 d : M D) : Res (Bool × EnvD) := match r with
  | .ok (k, ρ) => (if k = true then (c0 ρ).c33 g2 g3 y d else .ok (false, ρ))
  | .exc c => Res.exc c
  | .bad => Res.bad
@[simp] theorem c32b_ok (k : Bool) (ρ : EnvD) (g2 g3 : D → D → Option D) (y : D) (c0 d : M D) : Res.c32b (.ok (k, ρ)) g2 g3 y c0 d = (if k = true then (c0 ρ).c33 g2 g3 y d else .ok (false, ρ)) := (Eq.refl _).trans (Eq.refl _)
@[simp] theorem c32b_exc (c : Str) (g2 g3 : D → D → Option D) (y : D) (c0 d : M D) : Res.c32b (.exc c : Res (Bool × EnvD)) g2 g3 y c0 d = Res.exc c := (Eq.refl _).trans (Eq.refl _)
@[simp] theorem c32b_bad (g2 g3 : D → D → Option D) (y : D) (c0 d : M D) : Res.c32b (.bad : Res (Bool × EnvD)) g2 g3 y c0 d = Res.bad := (Eq.refl _).trans (Eq.refl _)
@[simp] theorem c32b_ite (c : Prop) [Decidable c] (r s : Res (Bool × EnvD)) (g2 g3 : D → D → Option D) (y : D) (c0 d : M D) : Res.c32b (if c then r else s) g2 g3 y c0 d = if c then r.c32b g2 g3 y c0 d else s.c32b g2 g3 y c0 d := by split <;> rfl
def Res.c32 (r : Res (D × EnvD)) (g1 g2 g3 : D → D → Option D) (c0 d : M D) (x : D) : Res (Bool × EnvD) := match r with
  | .ok (y, ρ) => (M.opt ((g1 x y).bind boolO) ρ).c32b g2 g3 y c0 d
  | .exc c => Res.exc c
  | .bad => Res.bad
@[simp] theorem c32_ok (y : D) (ρ : EnvD) (g1 g2 g3 : D → D → Option D) (c0 d : M D) (x : D) : Res.c32 (.ok (y, ρ)) g1 g2 g3 c0 d x = (M.opt ((g1 x y).bind boolO) ρ).c32b g2 g3 y c0 d := (Eq.refl _).trans (Eq.refl _)
@[simp] theorem c32_exc (c : Str) (g1 g2 g3 : D → D → Option D) (c0 d : M D) (x : D) : Res.c32 (.exc c : Res (D × EnvD)) g1 g2 g3 c0 d x = Res.exc c := (Eq.refl _).trans (Eq.refl _)
@[simp] theorem c32_bad (g1 g2 g3 : D → D → Option D) (c0 d : M D) (x : D) : Res.c32 (.bad : Res (D × EnvD)) g1 g2 g3 c0 d x = Res.bad := (Eq.refl _).trans (Eq.refl _)
@[simp] theorem c32_ite (c : Prop) [Decidable c] (r s : Res (D × EnvD)) (g1 g2 g3 : D → D → Option D) (c0 d : M D) (x : D) : Res.c32 (if c then r else s) g1 g2 g3 c0 d x = if c then r.c32 g1 g2 g3 c0 d x else s.c32 g1 g2 g3 c0 d x := by split <;> rfl
def Res.c31 (r : Res (D × EnvD)) (g1 g2 g3 : D → D → Option D) (b c0 d : M D) : Res (Bool × EnvD) := match r with
  | .ok (x, ρ) => (b ρ).c32 g1 g2 g3 c0 d x
  | .exc c => Res.exc c
  | .bad => Res.bad
@[simp] theorem c31_ok (x : D) (ρ : EnvD) (g1 g2 g3 : D → D → Option D) (b c0 d : M D) : Res.c31 (.ok (x, ρ)) g1 g2 g3 b c0 d = (b ρ).c32 g1 g2 g3 c0 d x := (Eq.refl _).trans (Eq.refl _)
@[simp] theorem c31_exc (c : Str) (g1 g2 g3 : D → D → Option D) (b c0 d : M D) : Res.c31 (.exc c : Res (D × EnvD)) g1 g2 g3 b c0 d = Res.exc c := (Eq.refl _).trans (Eq.refl _)
@[simp] theorem c31_bad (g1 g2 g3 : D → D → Option D) (b c0 d : M D) : Res.c31 (.bad : Res (D × EnvD)) g1 g2 g3 b c0 d = Res.bad := (Eq.refl _).trans (Eq.refl _)
@[simp] theorem c31_ite (c : Prop) [Decidable c] (r s : Res (D × EnvD)) (g1 g2 g3 : D → D → Option D) (b c0 d : M D) : Res.c31 (if c then r else s) g1 g2 g3 b c0 d = if c then r.c31 g1 g2 g3 b c0 d else s.c31 g1 g2 g3 b c0 d := by split <;> rfl
def Res.d1b (r : Res (D × EnvD)) (k : D) : Res (S × EnvD) := match r with
  | .ok (d, ρ) => M.opt ((keyOf k).map fun k => .ow (.dict [(keyD k, d)])) ρ
  | .exc c => Res.exc c
  | .bad => Res.bad
@[simp] theorem d1b_ok (d : D) (ρ : EnvD) (k : D) : Res.d1b (.ok (d, ρ)) k = M.opt ((keyOf k).map fun k => .ow (.dict [(keyD k, d)])) ρ := (Eq.refl _).trans (Eq.refl _)
@[simp] theorem d1b_exc (c : Str) (k : D) : Res.d1b (.exc c : Res (D × EnvD)) k = Res.exc c := (Eq.refl _).trans (Eq.refl _)
@[simp] theorem d1b_bad (k : D) : Res.d1b (.bad : Res (D × EnvD)) k = Res.bad := (Eq.refl _).trans (Eq.refl _)
@[simp] theorem d1b_ite (c : Prop) [Decidable c] (r s : Res (D × EnvD)) (k : D) : Res.d1b (if c then r else s) k = if c then r.d1b k else s.d1b k := by split <;> rfl
def Res.d1a (r : Res (D × EnvD)) (mv : M D) : Res (S × EnvD) := match r with
  | .ok (k, ρ) => (mv ρ).d1b k
  | .exc c => Res.exc c
  | .bad => Res.bad
@[simp] theorem d1a_ok (k : D) (ρ : EnvD) (mv : M D) : Res.d1a (.ok (k, ρ)) mv = (mv ρ).d1b k := (Eq.refl _).trans (Eq.refl _)
@[simp] theorem d1a_exc (c : Str) (mv : M D) : Res.d1a (.exc c : Res (D × EnvD)) mv = Res.exc c := (Eq.refl _).trans (Eq.refl _)
@[simp] theorem d1a_bad (mv : M D) : Res.d1a (.bad : Res (D × EnvD)) mv = Res.bad := (Eq.refl _).trans (Eq.refl _)
@[simp] theorem d1a_ite (c : Prop) [Decidable c] (r s : Res (D × EnvD)) (mv : M D) : Res.d1a (if c then r else s) mv = if c then r.d1a mv else s.d1a mv := by split <;> rfl
def Res.lr2b (r : Res (D × EnvD)) (g : List D → Option S) (x : D) : Res (S × EnvD) := match r with
  | .ok (y, ρ) => M.opt (g [x, y]) ρ
  | .exc c => Res.exc c
  | .bad => Res.bad
@[simp] theorem lr2b_ok (y : D) (ρ : EnvD) (g : List D → Option S) (x : D) : Res.lr2b (.ok (y, ρ)) g x = M.opt (g [x, y]) ρ := (Eq.refl _).trans (Eq.refl _)
@[simp] theorem lr2b_exc (c : Str) (g : List D → Option S) (x : D) : Res.lr2b (.exc c : Res (D × EnvD)) g x = Res.exc c := (Eq.refl _).trans (Eq.refl _)
@[simp] theorem lr2b_bad (g : List D → Option S) (x : D) : Res.lr2b (.bad : Res (D × EnvD)) g x = Res.bad := (Eq.refl _).trans (Eq.refl _)
@[simp] theorem lr2b_ite (c : Prop) [Decidable c] (r s : Res (D × EnvD)) (g : List D → Option S) (x : D) : Res.lr2b (if c then r else s) g x = if c then r.lr2b g x else s.lr2b g x := by split <;> rfl
def Res.lr2a (r : Res (D × EnvD)) (g : List D → Option S) (b : M D) : Res (S × EnvD) := match r with
  | .ok (x, ρ) => (b ρ).lr2b g x
  | .exc c => Res.exc c
  | .bad => Res.bad
@[simp] theorem lr2a_ok (x : D) (ρ : EnvD) (g : List D → Option S) (b : M D) : Res.lr2a (.ok (x, ρ)) g b = (b ρ).lr2b g x := (Eq.refl _).trans (Eq.refl _)
@[simp] theorem lr2a_exc (c : Str) (g : List D → Option S) (b : M D) : Res.lr2a (.exc c : Res (D × EnvD)) g b = Res.exc c := (Eq.refl _).trans (Eq.refl _)
@[simp] theorem lr2a_bad (g : List D → Option S) (b : M D) : Res.lr2a (.bad : Res (D × EnvD)) g b = Res.bad := (Eq.refl _).trans (Eq.refl _)
@[simp] theorem lr2a_ite (c : Prop) [Decidable c] (r s : Res (D × EnvD)) (g : List D → Option S) (b : M D) : Res.lr2a (if c then r else s) g b = if c then r.lr2a g b else s.lr2a g b := by split <;> rfl
def tupS (ds : List D) : Option S := if ds.length ≤ 16777216 then some (.fr (.tuple ds)) else none
def lstS (ds : List D) : Option S := if ds.length ≤ 16777216 then some (.ow (.list ds)) else none
def negO : D → Option D | .int i => some (.int (-i)) | _ => none
def isiM (f : D → Bool) (m : M D) : M D := m.bind fun d => M.opt (isiD f d)
def isiV (f : D → Bool) (i : Nat) : M D := (slotM i).bind fun d => M.opt (isiD f d)
def revM (m : M D) : M S := m.bind fun d => M.opt (revS d)
def loM (m : M D) : M (Option Int) := m.bind fun d => M.opt ((intO d).map some)
def lrg1M (m : M D) : M S := m.bind fun d => M.opt (lrg1 [d])
def lrg2M (m n : M D) : M S := m.bind fun d => n.bind fun e => M.opt (lrg2 [d, e])
@[simp] theorem tupM_ev (ms : M (List D)) (ρ : EnvD) : tupM ms ρ = (ms ρ).kl tupS := by
  unfold tupM Res.kl tupS
  simp only [bnd_def]
  cases ms ρ <;> rfl
@[simp] theorem lstM_ev (ms : M (List D)) (ρ : EnvD) : lstM ms ρ = (ms ρ).kl lstS := by
  unfold lstM Res.kl lstS
  simp only [bnd_def]
  cases ms ρ <;> rfl
@[simp] theorem op2_ev (g : D → D → Option D) (a b : M D) (ρ : EnvD) : op2 g a b ρ = (a ρ).o2a g b := by
  unfold op2 Res.o2a Res.o2b
  simp only [bnd_def]
  repeat (first | rfl | split)
  all_goals simp_all [bnd_def, M.pure, M.opt, M.lift]
  all_goals (repeat (first | rfl | split))
  all_goals simp_all [bnd_def, M.pure, M.opt, M.lift]
@[simp] theorem op2F_ev (g : D → D → Option S) (a b : M D) (ρ : EnvD) : op2F g a b ρ = (a ρ).o2a g b := by
  unfold op2F Res.o2a Res.o2b
  simp only [bnd_def]
  repeat (first | rfl | split)
  all_goals simp_all [bnd_def, M.pure, M.opt, M.lift]
  all_goals (repeat (first | rfl | split))
  all_goals simp_all [bnd_def, M.pure, M.opt, M.lift]
@[simp] theorem op2V_ev (i : Nat) (g : D → D → Option S) (b : M D) (ρ : EnvD) : op2V i g b ρ = (slotM i ρ).v2a i g b := by
  unfold op2V Res.v2a Res.v2b Res.vx
  simp only [bnd_def]
  repeat (first | rfl | split)
  all_goals simp_all [bnd_def, M.pure, M.opt, M.lift]
  all_goals (repeat (first | rfl | split))
  all_goals simp_all [bnd_def, M.pure, M.opt, M.lift]
@[simp] theorem op2W_ev (i : Nat) (g : D → D → Option S) (a : M D) (ρ : EnvD) : op2W i g a ρ = (a ρ).w2 i g := by
  unfold op2W Res.w2 Res.wx
  simp only [bnd_def]
  repeat (first | rfl | split)
  all_goals simp_all [bnd_def, M.pure, M.opt, M.lift]
  all_goals (repeat (first | rfl | split))
  all_goals simp_all [bnd_def, M.pure, M.opt, M.lift]
@[simp] theorem consM_ev (m : M D) (ms : M (List D)) (ρ : EnvD) : consM m ms ρ = (m ρ).cs ms := by
  unfold consM Res.cs Res.cs2
  simp only [bnd_def]
  repeat (first | rfl | split)
  all_goals simp_all [bnd_def, M.pure, M.opt, M.lift]
  all_goals (repeat (first | rfl | split))
  all_goals simp_all [bnd_def, M.pure, M.opt, M.lift]
@[simp] theorem tst_ev (m : M D) (ρ : EnvD) : tst m ρ = (m ρ).k1 boolO := by
  unfold tst Res.k1
  simp only [bnd_def]
  repeat (first | rfl | split)
  all_goals simp_all [bnd_def, M.pure, M.opt, M.lift]
  all_goals (repeat (first | rfl | split))
  all_goals simp_all [bnd_def, M.pure, M.opt, M.lift]
@[simp] theorem bltM_ev (g : List D → Option S) (ms : M (List D)) (ρ : EnvD) : bltM g ms ρ = (ms ρ).kl g := by
  unfold bltM Res.kl
  simp only [bnd_def]
  repeat (first | rfl | split)
  all_goals simp_all [bnd_def, M.pure, M.opt, M.lift]
  all_goals (repeat (first | rfl | split))
  all_goals simp_all [bnd_def, M.pure, M.opt, M.lift]
@[simp] theorem bltV_ev (i : Nat) (g : List D → Option S) (ρ : EnvD) : bltV i g ρ = (slotM i ρ).k1 (fun d => g [d]) := by
  unfold bltV Res.k1
  simp only [bnd_def]
  repeat (first | rfl | split)
  all_goals simp_all [bnd_def, M.pure, M.opt, M.lift]
  all_goals (repeat (first | rfl | split))
  all_goals simp_all [bnd_def, M.pure, M.opt, M.lift]
@[simp] theorem callM_ev (f : List D → Res S) (ms : M (List D)) (ρ : EnvD) : callM f ms ρ = (ms ρ).kc f := by
  unfold callM Res.kc
  simp only [bnd_def]
  repeat (first | rfl | split)
  all_goals simp_all [bnd_def, M.pure, M.opt, M.lift]
  all_goals (repeat (first | rfl | split))
  all_goals simp_all [bnd_def, M.pure, M.opt, M.lift]
@[simp] theorem andT_ev (m n : M Bool) (ρ : EnvD) : andT m n ρ = (m ρ).kand n := by
  unfold andT Res.kand
  simp only [bnd_def]
  repeat (first | rfl | split)
  all_goals simp_all [bnd_def, M.pure, M.opt, M.lift]
  all_goals (repeat (first | rfl | split))
  all_goals simp_all [bnd_def, M.pure, M.opt, M.lift]
@[simp] theorem orT_ev (m n : M Bool) (ρ : EnvD) : orT m n ρ = (m ρ).kor n := by
  unfold orT Res.kor
  simp only [bnd_def]
  repeat (first | rfl | split)
  all_goals simp_all [bnd_def, M.pure, M.opt, M.lift]
  all_goals (repeat (first | rfl | split))
  all_goals simp_all [bnd_def, M.pure, M.opt, M.lift]
@[simp] theorem notT_ev (m : M Bool) (ρ : EnvD) : notT m ρ = (m ρ).knot := by
  unfold notT Res.knot
  simp only [bnd_def]
  repeat (first | rfl | split)
  all_goals simp_all [bnd_def, M.pure, M.opt, M.lift]
  all_goals (repeat (first | rfl | split))
  all_goals simp_all [bnd_def, M.pure, M.opt, M.lift]
@[simp] theorem ifV_ev (c : M Bool) (m n : M α) (ρ : EnvD) : ifV c m n ρ = (c ρ).kif m n := by
  unfold ifV Res.kif
  simp only [bnd_def]
  repeat (first | rfl | split)
  all_goals simp_all [bnd_def, M.pure, M.opt, M.lift]
  all_goals (repeat (first | rfl | split))
  all_goals simp_all [bnd_def, M.pure, M.opt, M.lift]
@[simp] theorem andV_ev (m n : M D) (ρ : EnvD) : andV m n ρ = ((m ρ).k1 boolO).kandV2 n := by
  unfold andV Res.k1 Res.kandV2
  simp only [bnd_def]
  repeat (first | rfl | split)
  all_goals simp_all [bnd_def, M.pure, M.opt, M.lift]
  all_goals (repeat (first | rfl | split))
  all_goals simp_all [bnd_def, M.pure, M.opt, M.lift]
@[simp] theorem orV_ev (m n : M D) (ρ : EnvD) : orV m n ρ = ((m ρ).k1 boolO).korV2 n := by
  unfold orV Res.k1 Res.korV2
  simp only [bnd_def]
  repeat (first | rfl | split)
  all_goals simp_all [bnd_def, M.pure, M.opt, M.lift]
  all_goals (repeat (first | rfl | split))
  all_goals simp_all [bnd_def, M.pure, M.opt, M.lift]
@[simp] theorem notV_ev (m : M D) (ρ : EnvD) : notV m ρ = ((m ρ).k1 boolO).knotV2 := by
  unfold notV Res.k1 Res.knotV2
  simp only [bnd_def]
  repeat (first | rfl | split)
  all_goals simp_all [bnd_def, M.pure, M.opt, M.lift]
  all_goals (repeat (first | rfl | split))
  all_goals simp_all [bnd_def, M.pure, M.opt, M.lift]
@[simp] theorem chainM_ev (g g' : D → D → Option D) (a b c0 : M D) (ρ : EnvD) : chainM g g' a b c0 ρ = (a ρ).ch1 g g' b c0 := by
  unfold chainM Res.ch1 Res.ch2 Res.ch3 Res.ch4 Res.k1
  simp only [bnd_def]
  repeat (first | rfl | split)
  all_goals simp_all [bnd_def, M.pure, M.opt, M.lift]
  all_goals (repeat (first | rfl | split))
  all_goals simp_all [bnd_def, M.pure, M.opt, M.lift]
@[simp] theorem chain3M_ev (g1 g2 g3 : D → D → Option D) (a b c0 d : M D) (ρ : EnvD) : chain3M g1 g2 g3 a b c0 d ρ = (a ρ).c31 g1 g2 g3 b c0 d := by
  unfold chain3M Res.c31 Res.c32 Res.c32b Res.c33 Res.c34 Res.c35
  simp only [bnd_def]
  repeat (first | rfl | split)
  all_goals simp_all [bnd_def, M.pure, M.opt, M.lift]
  all_goals (repeat (first | rfl | split))
  all_goals simp_all [bnd_def, M.pure, M.opt, M.lift]
@[simp] theorem disp1M_ev (mk mv : M D) (ρ : EnvD) : disp1M mk mv ρ = (mk ρ).d1a mv := by
  unfold disp1M Res.d1a Res.d1b
  simp only [bnd_def]
  repeat (first | rfl | split)
  all_goals simp_all [bnd_def, M.pure, M.opt, M.lift]
  all_goals (repeat (first | rfl | split))
  all_goals simp_all [bnd_def, M.pure, M.opt, M.lift]
@[simp] theorem sliceM_ev (m : M D) (ml mh : M (Option Int)) (ρ : EnvD) : sliceM m ml mh ρ = (m ρ).sl1 ml mh := by
  unfold sliceM Res.sl1 Res.sl2 Res.sl3
  simp only [bnd_def]
  repeat (first | rfl | split)
  all_goals simp_all [bnd_def, M.pure, M.opt, M.lift]
  all_goals (repeat (first | rfl | split))
  all_goals simp_all [bnd_def, M.pure, M.opt, M.lift]
@[simp] theorem sliceV_ev (i : Nat) (ml mh : M (Option Int)) (ρ : EnvD) : sliceV i ml mh ρ = (slotM i ρ).sv1 i ml mh := by
  unfold sliceV Res.sv1 Res.sv2 Res.sv3 Res.sv4
  simp only [bnd_def]
  repeat (first | rfl | split)
  all_goals simp_all [bnd_def, M.pure, M.opt, M.lift]
  all_goals (repeat (first | rfl | split))
  all_goals simp_all [bnd_def, M.pure, M.opt, M.lift]
@[simp] theorem negD_ev (m : M D) (ρ : EnvD) : negD m ρ = (m ρ).k1 negO := by
  unfold negD Res.k1 negO
  simp only [bnd_def]
  repeat (first | rfl | split)
  all_goals simp_all [bnd_def, M.pure, M.opt, M.lift]
  all_goals (repeat (first | rfl | split))
  all_goals simp_all [bnd_def, M.pure, M.opt, M.lift]
@[simp] theorem isiM_ev (f : D → Bool) (m : M D) (ρ : EnvD) : isiM f m ρ = (m ρ).k1 (isiD f) := by
  unfold isiM Res.k1
  simp only [bnd_def]
  repeat (first | rfl | split)
  all_goals simp_all [bnd_def, M.pure, M.opt, M.lift]
  all_goals (repeat (first | rfl | split))
  all_goals simp_all [bnd_def, M.pure, M.opt, M.lift]
@[simp] theorem isiV_ev (f : D → Bool) (i : Nat) (ρ : EnvD) : isiV f i ρ = (slotM i ρ).k1 (isiD f) := by
  unfold isiV Res.k1
  simp only [bnd_def]
  repeat (first | rfl | split)
  all_goals simp_all [bnd_def, M.pure, M.opt, M.lift]
  all_goals (repeat (first | rfl | split))
  all_goals simp_all [bnd_def, M.pure, M.opt, M.lift]
@[simp] theorem revM_ev (m : M D) (ρ : EnvD) : revM m ρ = (m ρ).k1 revS := by
  unfold revM Res.k1
  simp only [bnd_def]
  repeat (first | rfl | split)
  all_goals simp_all [bnd_def, M.pure, M.opt, M.lift]
  all_goals (repeat (first | rfl | split))
  all_goals simp_all [bnd_def, M.pure, M.opt, M.lift]
@[simp] theorem loM_ev (m : M D) (ρ : EnvD) : loM m ρ = (m ρ).k1 (fun d => (intO d).map some) := by
  unfold loM Res.k1
  simp only [bnd_def]
  repeat (first | rfl | split)
  all_goals simp_all [bnd_def, M.pure, M.opt, M.lift]
  all_goals (repeat (first | rfl | split))
  all_goals simp_all [bnd_def, M.pure, M.opt, M.lift]
@[simp] theorem lrg1M_ev (m : M D) (ρ : EnvD) : lrg1M m ρ = (m ρ).k1 (fun d => lrg1 [d]) := by
  unfold lrg1M Res.k1
  simp only [bnd_def]
  repeat (first | rfl | split)
  all_goals simp_all [bnd_def, M.pure, M.opt, M.lift]
  all_goals (repeat (first | rfl | split))
  all_goals simp_all [bnd_def, M.pure, M.opt, M.lift]
@[simp] theorem lrg2M_ev (m n : M D) (ρ : EnvD) : lrg2M m n ρ = (m ρ).lr2a lrg2 n := by
  unfold lrg2M Res.lr2a Res.lr2b
  simp only [bnd_def]
  repeat (first | rfl | split)
  all_goals simp_all [bnd_def, M.pure, M.opt, M.lift]
  all_goals (repeat (first | rfl | split))
  all_goals simp_all [bnd_def, M.pure, M.opt, M.lift]
@[simp] theorem rgM_ev (f : List D → Option (List D)) (ms : M (List D)) (ρ : EnvD) : rgM f ms ρ = (ms ρ).kl f := by
  unfold rgM Res.kl
  simp only [bnd_def]
  repeat (first | rfl | split)
  all_goals simp_all [bnd_def, M.pure, M.opt, M.lift]
  all_goals (repeat (first | rfl | split))
  all_goals simp_all [bnd_def, M.pure, M.opt, M.lift]
@[simp] theorem seqMp_ev (m : M D) (ρ : EnvD) : seqM' m ρ = (m ρ).k1 seqD := by
  unfold seqM' Res.k1
  simp only [bnd_def]
  repeat (first | rfl | split)
  all_goals simp_all [bnd_def, M.pure, M.opt, M.lift]
  all_goals (repeat (first | rfl | split))
  all_goals simp_all [bnd_def, M.pure, M.opt, M.lift]
@[simp] theorem consF_ev (m : M S) (ms : M (List S)) (ρ : EnvD) : consF m ms ρ = (m ρ).cf ms := by
  unfold consF Res.cf Res.cf2
  simp only [bnd_def]
  cases e : m ρ with
  | ok p => obtain ⟨s, ρ1⟩ := p; cases s <;> simp [S.plain, M.opt, M.pure] <;> cases ms ρ1 <;> rfl
  | exc c => rfl
  | bad => rfl
@[simp] theorem callIO_ev (i : Nat) (f : D → List D → Res (S × D)) (ms : M (List D)) (ρ : EnvD) : callIO i f ms ρ = (slotM i ρ).kio0 i f ms := by
  unfold callIO Res.kio0 Res.kio ioW
  simp only [bnd_def]
  cases slotM i ρ with
  | ok p => obtain ⟨d, ρ1⟩ := p; simp only; cases ms ρ1 <;> rfl
  | exc c => rfl
  | bad => rfl
@[simp] theorem ifM_ev (c : M Bool) (f g : EnvD → Out) (ρ : EnvD) : ifM c f g ρ = (c ρ).kifO f g := by unfold ifM Res.kifO outM; cases c ρ <;> rfl
@[simp] theorem retM_ev (m : M S) (ρ : EnvD) : retM m ρ = (m ρ).ret := by unfold retM Res.ret outM; cases m ρ <;> rfl
@[simp] theorem exprM_ev (m : M α) (ρ : EnvD) : exprM m ρ = (m ρ).expr := by unfold exprM Res.expr outM; cases m ρ <;> rfl
@[simp] theorem setM_ev (i : Nat) (m : M S) (ρ : EnvD) : setM i m ρ = (m ρ).set i := by unfold setM Res.set outM; cases m ρ <;> rfl
@[simp] theorem asgM_ev (set : D → EnvD → Option EnvD) (m : M D) (ρ : EnvD) : asgM set m ρ = (m ρ).asg set := by unfold asgM Res.asg asgO outM; cases m ρ <;> rfl
@[simp] theorem parM_ev (is : List Nat) (ms : M (List S)) (ρ : EnvD) : parM is ms ρ = (ms ρ).par is := by unfold parM Res.par parO outM; cases ms ρ <;> rfl
@[simp] theorem stM_ev (i : Nat) (me mi : M D) (ρ : EnvD) : stM i me mi ρ = (me ρ).st1 i mi stD := by
  unfold stM Res.st1 Res.st2 Res.st3 wrO outM wrM
  simp only [bnd_def]
  cases me ρ with
  | ok p =>
    obtain ⟨d, ρ1⟩ := p
    simp only
    cases slotM i ρ1 with
    | ok p =>
      obtain ⟨l, ρ2⟩ := p
      simp only
      cases mi ρ2 with
      | ok p => obtain ⟨k, ρ3⟩ := p; simp only; cases ρ3[i]? with
        | none => rfl
        | some o => cases o with
          | none => rfl
          | some s => simp only; cases stD k d s.d with
            | none => rfl
            | some d' => simp only; cases s.put d' <;> rfl
      | exc c => rfl
      | bad => rfl
    | exc c => rfl
    | bad => rfl
  | exc c => rfl
  | bad => rfl
@[simp] theorem dstM_ev (i : Nat) (me mi : M D) (ρ : EnvD) : dstM i me mi ρ = (me ρ).st1 i mi dstD := by
  unfold dstM Res.st1 Res.st2 Res.st3 wrO outM wrM
  simp only [bnd_def]
  cases me ρ with
  | ok p =>
    obtain ⟨d, ρ1⟩ := p
    simp only
    cases slotM i ρ1 with
    | ok p =>
      obtain ⟨l, ρ2⟩ := p
      simp only
      cases mi ρ2 with
      | ok p => obtain ⟨k, ρ3⟩ := p; simp only; cases ρ3[i]? with
        | none => rfl
        | some o => cases o with
          | none => rfl
          | some s => simp only; cases dstD k d s.d with
            | none => rfl
            | some d' => simp only; cases s.put d' <;> rfl
      | exc c => rfl
      | bad => rfl
    | exc c => rfl
    | bad => rfl
  | exc c => rfl
  | bad => rfl
@[simp] theorem appM_ev (i : Nat) (me : M D) (ρ : EnvD) : appM i me ρ = ((slotM i ρ).k1 isLO).ap1 i me := by
  unfold appM Res.k1 Res.ap1 Res.ap2 wrE isLO wrM
  simp only [bnd_def]
  cases slotM i ρ with
  | ok p =>
    obtain ⟨l, ρ1⟩ := p
    cases l <;> first | rfl | skip
    simp only [M.opt]
    cases me ρ1 with
    | ok p => obtain ⟨d, ρ2⟩ := p; simp only; cases ρ2[i]? with
      | none => rfl
      | some o => cases o with
        | none => rfl
        | some s => simp only; cases appD d s.d with
          | none => rfl
          | some d' => simp only [Option.map_some]; cases s.put d' <;> rfl
    | exc c => rfl
    | bad => rfl
  | exc c => rfl
  | bad => rfl
@[simp] theorem popAtM_ev (i : Nat) (me : M D) (ρ : EnvD) : popAtM i me ρ = ((slotM i ρ).k1 isLO).pp1 i me := by
  unfold popAtM Res.k1 Res.pp1 Res.pp2 wrE isLO wrM popAtS slotM
  simp only [bnd_def]
  cases e0 : ρ[i]? with
  | none => rfl
  | some o => cases o with
    | none => rfl
    | some s =>
      simp only
      cases s.pin with
      | true => rfl
      | false =>
        simp only [Bool.false_eq_true, if_false]
        cases s.d <;> first | rfl | skip
        simp only [M.opt]
        cases me ρ with
        | ok p =>
          obtain ⟨e, ρ2⟩ := p
          simp only
          cases e2 : ρ2[i]? with
          | none => rfl
          | some o => cases o with
            | none => rfl
            | some t =>
              simp only
              cases hp : t.pin with
              | true =>
                simp only [if_true]
                cases t <;> first | cases hp | skip
                simp only [S.put, S.d]
                cases popAtD _ e <;> rfl
              | false =>
                simp only [Bool.false_eq_true, if_false]
                cases popAtD t.d e with
                | none => rfl
                | some p => simp only [Option.map_some, e2]; cases t.put p.2 <;> rfl
        | exc c => rfl
        | bad => rfl
@[simp] theorem iteM (c : Prop) [Decidable c] (m n : M α) (ρ : EnvD) : (if c then m else n : M α) ρ = if c then m ρ else n ρ := by split <;> rfl
@[simp] theorem iteF (c : Prop) [Decidable c] (m n : EnvD → Out) (ρ : EnvD) : (if c then m else n : EnvD → Out) ρ = if c then m ρ else n ρ := by split <;> rfl
def Res.frz : Res (S × EnvD) → Res (D × EnvD)
  | .ok (.fr d, ρ') => .ok (d, ρ')
  | .ok (.ow d, ρ') => .ok (d, ρ')
  | .ok _ => .bad
  | .exc c => .exc c
  | .bad => .bad
@[simp] theorem frz_ev (m : M S) (ρ : EnvD) : Lf.frz m ρ = (m ρ).frz := by unfold Lf.frz Res.frz; rfl
@[simp] theorem frz_fr (d : D) (ρ : EnvD) : Res.frz (.ok (.fr d, ρ)) = .ok (d, ρ) := (Eq.refl _).trans (Eq.refl _)
@[simp] theorem frz_ow (d : D) (ρ : EnvD) : Res.frz (.ok (.ow d, ρ)) = .ok (d, ρ) := (Eq.refl _).trans (Eq.refl _)
@[simp] theorem frz_exc (c : Str) : Res.frz (.exc c) = .exc c := (Eq.refl _).trans (Eq.refl _)
@[simp] theorem frz_bad : Res.frz .bad = .bad := (Eq.refl _).trans (Eq.refl _)
@[simp] theorem frz_ite (c : Prop) [Decidable c] (a b : Res (S × EnvD)) : Res.frz (if c then a else b) = if c then a.frz else b.frz := by split <;> rfl
def Res.fre : Res (D × EnvD) → Res (S × EnvD)
  | .ok (d, ρ') => .ok (.fr d, ρ')
  | .exc c => .exc c
  | .bad => .bad
@[simp] theorem fre_ev (m : M D) (ρ : EnvD) : Lf.fre m ρ = (m ρ).fre := by unfold Lf.fre Res.fre; rfl
@[simp] theorem fre_ok (d : D) (ρ : EnvD) : Res.fre (.ok (d, ρ)) = .ok (.fr d, ρ) := (Eq.refl _).trans (Eq.refl _)
@[simp] theorem fre_exc (c : Str) : Res.fre (.exc c) = .exc c := (Eq.refl _).trans (Eq.refl _)
@[simp] theorem fre_bad : Res.fre .bad = .bad := (Eq.refl _).trans (Eq.refl _)
@[simp] theorem fre_ite (c : Prop) [Decidable c] (a b : Res (D × EnvD)) : Res.fre (if c then a else b) = if c then a.fre else b.fre := by split <;> rfl
def Out.thn (o : Out) (g : EnvD → Out) : Out := match o with
  | .nx ρ => g ρ
  | o => o
@[simp] theorem seq_ev (f g : EnvD → Out) (ρ : EnvD) : seqM f g ρ = (f ρ).thn g := by unfold seqM Out.thn; rfl
@[simp] theorem thn_nx (ρ : EnvD) (g : EnvD → Out) : Out.thn (.nx ρ) g = g ρ := (Eq.refl _).trans (Eq.refl _)
@[simp] theorem thn_rt (s : S) (ρ : EnvD) (g : EnvD → Out) : Out.thn (.rt s ρ) g = .rt s ρ := (Eq.refl _).trans (Eq.refl _)
@[simp] theorem thn_bk (ρ : EnvD) (g : EnvD → Out) : Out.thn (.bk ρ) g = .bk ρ := (Eq.refl _).trans (Eq.refl _)
@[simp] theorem thn_ct (ρ : EnvD) (g : EnvD → Out) : Out.thn (.ct ρ) g = .ct ρ := (Eq.refl _).trans (Eq.refl _)
@[simp] theorem thn_exc (c : Str) (g : EnvD → Out) : Out.thn (.exc c) g = .exc c := (Eq.refl _).trans (Eq.refl _)
@[simp] theorem thn_bad (g : EnvD → Out) : Out.thn .bad g = .bad := (Eq.refl _).trans (Eq.refl _)
@[simp] theorem thn_ite (c : Prop) [Decidable c] (a b : Out) (g : EnvD → Out) : Out.thn (if c then a else b) g = if c then a.thn g else b.thn g := by split <;> rfl
/-- the end of a def -/
def Out.fin : Out → Res S
  | .rt s _ => .ok s
  | .nx _ => .ok (.fr .none)
  | .exc c => .exc c
  | _ => .bad
@[simp] theorem fin_rt (s : S) (ρ : EnvD) : Out.fin (.rt s ρ) = .ok s := (Eq.refl _).trans (Eq.refl _)
@[simp] theorem fin_nx (ρ : EnvD) : Out.fin (.nx ρ) = .ok (.fr .none) := (Eq.refl _).trans (Eq.refl _)
@[simp] theorem fin_exc (c : Str) : Out.fin (.exc c) = .exc c := (Eq.refl _).trans (Eq.refl _)
@[simp] theorem fin_bad : Out.fin .bad = .bad := (Eq.refl _).trans (Eq.refl _)
@[simp] theorem fin_ite (c : Prop) [Decidable c] (a b : Out) : Out.fin (if c then a else b) = if c then a.fin else b.fin := by split <;> rfl
theorem defD_ev (n m : Nat) (body : EnvD → Out) (args : List D) (h : args.length = n) : defD n m body args = (body (args.map (fun d => some (S.fr d)) ++ List.replicate (m - n) none)).fin := by
  unfold defD
  rw [if_pos h]
  cases body _ <;> rfl
def Out.finIO : Out → Res (S × D)
  | .rt s ρ => (match (ρ[0]? : Option (Option S)) with | some (some (S.io d)) => .ok (s, d) | _ => .bad)
  | .nx ρ => (match (ρ[0]? : Option (Option S)) with | some (some (S.io d)) => .ok (.fr .none, d) | _ => .bad)
  | _ => .bad
@[simp] theorem finIO_rt (s : S) (d : D) (ρ : EnvD) : Out.finIO (.rt s (some (.io d) :: ρ)) = .ok (s, d) := (Eq.refl _).trans (Eq.refl _)
@[simp] theorem finIO_nx (d : D) (ρ : EnvD) : Out.finIO (.nx (some (.io d) :: ρ)) = .ok (.fr .none, d) := (Eq.refl _).trans (Eq.refl _)
@[simp] theorem finIO_exc (c : Str) : Out.finIO (.exc c) = .bad := (Eq.refl _).trans (Eq.refl _)
@[simp] theorem finIO_bad : Out.finIO .bad = .bad := (Eq.refl _).trans (Eq.refl _)
@[simp] theorem finIO_ite (c : Prop) [Decidable c] (a b : Out) : Out.finIO (if c then a else b) = if c then a.finIO else b.finIO := by split <;> rfl
theorem defIO_ev (n m : Nat) (body : EnvD → Out) (d0 : D) (args : List D) (h : args.length + 1 = n) : defIO n m body d0 args = (body (some (S.io d0) :: (args.map (fun d => some (S.fr d)) ++ List.replicate (m - n) none))).finIO := by
  unfold defIO
  rw [if_pos h]
  cases body _ <;> rfl
end
section
variable (m : Nat) (body : EnvD → Out)
@[simp] theorem dD0 : defD 0 m body [] = (body (List.replicate (m - 0) none)).fin := defD_ev 0 m body [] rfl
@[simp] theorem dD1 (a0 : D) : defD 1 m body [a0] = (body (some (.fr a0) :: List.replicate (m - 1) none)).fin := defD_ev 1 m body [a0] rfl
@[simp] theorem dIO1 (d0 : D) : defIO 1 m body d0 [] = (body (some (.io d0) :: List.replicate (m - 1) none)).finIO := defIO_ev 1 m body d0 [] rfl
@[simp] theorem dD2 (a0 a1 : D) : defD 2 m body [a0, a1] = (body (some (.fr a0) :: some (.fr a1) :: List.replicate (m - 2) none)).fin := defD_ev 2 m body [a0, a1] rfl
@[simp] theorem dIO2 (d0 : D) (a0 : D) : defIO 2 m body d0 [a0] = (body (some (.io d0) :: some (.fr a0) :: List.replicate (m - 2) none)).finIO := defIO_ev 2 m body d0 [a0] rfl
@[simp] theorem dD3 (a0 a1 a2 : D) : defD 3 m body [a0, a1, a2] = (body (some (.fr a0) :: some (.fr a1) :: some (.fr a2) :: List.replicate (m - 3) none)).fin := defD_ev 3 m body [a0, a1, a2] rfl
@[simp] theorem dIO3 (d0 : D) (a0 a1 : D) : defIO 3 m body d0 [a0, a1] = (body (some (.io d0) :: some (.fr a0) :: some (.fr a1) :: List.replicate (m - 3) none)).finIO := defIO_ev 3 m body d0 [a0, a1] rfl
@[simp] theorem dD4 (a0 a1 a2 a3 : D) : defD 4 m body [a0, a1, a2, a3] = (body (some (.fr a0) :: some (.fr a1) :: some (.fr a2) :: some (.fr a3) :: List.replicate (m - 4) none)).fin := defD_ev 4 m body [a0, a1, a2, a3] rfl
@[simp] theorem dIO4 (d0 : D) (a0 a1 a2 : D) : defIO 4 m body d0 [a0, a1, a2] = (body (some (.io d0) :: some (.fr a0) :: some (.fr a1) :: some (.fr a2) :: List.replicate (m - 4) none)).finIO := defIO_ev 4 m body d0 [a0, a1, a2] rfl
@[simp] theorem dD5 (a0 a1 a2 a3 a4 : D) : defD 5 m body [a0, a1, a2, a3, a4] = (body (some (.fr a0) :: some (.fr a1) :: some (.fr a2) :: some (.fr a3) :: some (.fr a4) :: List.replicate (m - 5) none)).fin := defD_ev 5 m body [a0, a1, a2, a3, a4] rfl
@[simp] theorem dIO5 (d0 : D) (a0 a1 a2 a3 : D) : defIO 5 m body d0 [a0, a1, a2, a3] = (body (some (.io d0) :: some (.fr a0) :: some (.fr a1) :: some (.fr a2) :: some (.fr a3) :: List.replicate (m - 5) none)).finIO := defIO_ev 5 m body d0 [a0, a1, a2, a3] rfl
@[simp] theorem dD6 (a0 a1 a2 a3 a4 a5 : D) : defD 6 m body [a0, a1, a2, a3, a4, a5] = (body (some (.fr a0) :: some (.fr a1) :: some (.fr a2) :: some (.fr a3) :: some (.fr a4) :: some (.fr a5) :: List.replicate (m - 6) none)).fin := defD_ev 6 m body [a0, a1, a2, a3, a4, a5] rfl
@[simp] theorem dIO6 (d0 : D) (a0 a1 a2 a3 a4 : D) : defIO 6 m body d0 [a0, a1, a2, a3, a4] = (body (some (.io d0) :: some (.fr a0) :: some (.fr a1) :: some (.fr a2) :: some (.fr a3) :: some (.fr a4) :: List.replicate (m - 6) none)).finIO := defIO_ev 6 m body d0 [a0, a1, a2, a3, a4] rfl
@[simp] theorem dD7 (a0 a1 a2 a3 a4 a5 a6 : D) : defD 7 m body [a0, a1, a2, a3, a4, a5, a6] = (body (some (.fr a0) :: some (.fr a1) :: some (.fr a2) :: some (.fr a3) :: some (.fr a4) :: some (.fr a5) :: some (.fr a6) :: List.replicate (m - 7) none)).fin := defD_ev 7 m body [a0, a1, a2, a3, a4, a5, a6] rfl
@[simp] theorem dIO7 (d0 : D) (a0 a1 a2 a3 a4 a5 : D) : defIO 7 m body d0 [a0, a1, a2, a3, a4, a5] = (body (some (.io d0) :: some (.fr a0) :: some (.fr a1) :: some (.fr a2) :: some (.fr a3) :: some (.fr a4) :: some (.fr a5) :: List.replicate (m - 7) none)).finIO := defIO_ev 7 m body d0 [a0, a1, a2, a3, a4, a5] rfl
end

section
variable (i j : Int) (a b : Bool) (x y : Str) (ds es : List D)
@[simp] theorem boolO_b : boolO (.bool a) = some a := (Eq.refl _).trans (Eq.refl _)
@[simp] theorem intO_i : intO (.int i) = some i := (Eq.refl _).trans (Eq.refl _)
@[simp] theorem negO_i : negO (.int i) = some (.int (-i)) := (Eq.refl _).trans (Eq.refl _)
@[simp] theorem ltI_i : ltI (.int i) (.int j) = some (.bool (decide (i < j))) := (Eq.refl _).trans (Eq.refl _)
@[simp] theorem leI_i : leI (.int i) (.int j) = some (.bool (decide (i ≤ j))) := (Eq.refl _).trans (Eq.refl _)
@[simp] theorem gtI_i : gtI (.int i) (.int j) = some (.bool (decide (j < i))) := (Eq.refl _).trans (Eq.refl _)
@[simp] theorem geI_i : geI (.int i) (.int j) = some (.bool (decide (j ≤ i))) := (Eq.refl _).trans (Eq.refl _)
@[simp] theorem ltD_i : ltD (.int i) (.int j) = some (.bool (decide (i < j))) := (Eq.refl _).trans (Eq.refl _)
@[simp] theorem subD_i : subD (.int i) (.int j) = some (.int (i - j)) := (Eq.refl _).trans (Eq.refl _)
@[simp] theorem subD_b : subD (.bool a) (.int j) = some (.int ((if a = true then (1 : Int) else 0) - j)) := (Eq.refl _).trans (Eq.refl _)
@[simp] theorem addS_b : addS (.bool a) (.int j) = some (.fr (.int ((if a = true then (1 : Int) else 0) + j))) := (Eq.refl _).trans (Eq.refl _)
@[simp] theorem strS_b : strS [.bool a] = some (.fr (.str (if a then "True" else "False"))) := (Eq.refl _).trans (Eq.refl _)
@[simp] theorem modI_i : modI (.int i) (.int j) = if cMod i j = true then some (.int (i % j)) else none := by unfold modI intC; rfl
@[simp] theorem fdivI_i : fdivI (.int i) (.int j) = if cDiv i j = true then some (.int (i / j)) else none := by unfold fdivI intC; rfl
@[simp] theorem powI_i : powI (.int i) (.int j) = if cPow i j = true then some (.int (i ^ j.toNat)) else none := by unfold powI intC; rfl
@[simp] theorem mulS_i : mulS (.int i) (.int j) = if cMul i j = true then some (.fr (.int (i * j))) else none := by unfold mulS; rfl
@[simp] theorem addS_i : addS (.int i) (.int j) = some (.fr (.int (i + j))) := (Eq.refl _).trans (Eq.refl _)
@[simp] theorem addS_s : addS (.str x) (.str y) = if ltM (x.length + y.length) = true then some (.fr (.str (x ++ y))) else none := by unfold addS; rfl
@[simp] theorem addS_l : addS (.list ds) (.list es) = if ltM (ds.length + es.length) = true then some (.ow (.list (ds ++ es))) else none := by unfold addS; rfl
@[simp] theorem addS_t : addS (.tuple ds) (.tuple es) = if ltM (ds.length + es.length) = true then some (.fr (.tuple (ds ++ es))) else none := by unfold addS; rfl
@[simp] theorem seqD_l : seqD (.list ds) = some ds := (Eq.refl _).trans (Eq.refl _)
@[simp] theorem seqD_t : seqD (.tuple ds) = some ds := (Eq.refl _).trans (Eq.refl _)
@[simp] theorem lenS_l : lenS [.list ds] = some (.fr (.int ds.length)) := (Eq.refl _).trans (Eq.refl _)
@[simp] theorem lenS_t : lenS [.tuple ds] = some (.fr (.int ds.length)) := (Eq.refl _).trans (Eq.refl _)
@[simp] theorem lenS_s : lenS [.str x] = if ltM x.length = true then some (.fr (.int x.length)) else none := by unfold lenS; rfl
@[simp] theorem lenS_d (e : List (D × D)) : lenS [.dict e] = if isTd e = true then none else some (.fr (.int e.length)) := by unfold lenS; rfl
@[simp] theorem absS_i : absS [.int i] = some (.fr (.int (if i < 0 then -i else i))) := (Eq.refl _).trans (Eq.refl _)
@[simp] theorem max2S_i : max2S [.int i, .int j] = some (.fr (.int (if j > i then j else i))) := (Eq.refl _).trans (Eq.refl _)
@[simp] theorem min2S_i : min2S [.int i, .int j] = some (.fr (.int (if j < i then j else i))) := (Eq.refl _).trans (Eq.refl _)
@[simp] theorem intS_i : intS [.int i] = some (.fr (.int i)) := (Eq.refl _).trans (Eq.refl _)
@[simp] theorem intS_b : intS [.bool a] = some (.fr (.int (if a then 1 else 0))) := (Eq.refl _).trans (Eq.refl _)
@[simp] theorem listS_l : listS [.list ds] = some (.ow (.list ds)) := (Eq.refl _).trans (Eq.refl _)
@[simp] theorem listS_t : listS [.tuple ds] = some (.ow (.list ds)) := (Eq.refl _).trans (Eq.refl _)
@[simp] theorem tupleS_l : tupleS [.list ds] = some (.fr (.tuple ds)) := (Eq.refl _).trans (Eq.refl _)
@[simp] theorem tupleS_t : tupleS [.tuple ds] = some (.fr (.tuple ds)) := (Eq.refl _).trans (Eq.refl _)
@[simp] theorem revS_l : revS (.list ds) = some (.ow (.list ds.reverse)) := (Eq.refl _).trans (Eq.refl _)
@[simp] theorem revS_t : revS (.tuple ds) = some (.fr (.tuple ds.reverse)) := (Eq.refl _).trans (Eq.refl _)
@[simp] theorem strS_i : strS [.int i] = if i.natAbs.log2 < 1920 then some (.fr (.str (toString i))) else none := by unfold strS; rfl
@[simp] theorem itemS_l (k : Int) : itemS (.list ds) (.int k) = (atI ds k).map .fr := by unfold itemS itemD; rfl
@[simp] theorem itemS_t (k : Int) : itemS (.tuple ds) (.int k) = (atI ds k).map .fr := by unfold itemS itemD; rfl
@[simp] theorem sliceS_l (l h : Option Int) : sliceS (.list ds) l h = some (.ow (.list (cutD ds l h))) := (Eq.refl _).trans (Eq.refl _)
@[simp] theorem sliceS_t (l h : Option Int) : sliceS (.tuple ds) l h = some (.fr (.tuple (cutD ds l h))) := (Eq.refl _).trans (Eq.refl _)
@[simp] theorem zipO_l : zipO [.list ds, .list es] = some (zipD ds es) := (Eq.refl _).trans (Eq.refl _)
@[simp] theorem zipO_t : zipO [.tuple ds, .tuple es] = some (zipD ds es) := (Eq.refl _).trans (Eq.refl _)
@[simp] theorem enumO_l : enumO [.list ds] = some (enumFrom 0 ds) := (Eq.refl _).trans (Eq.refl _)
@[simp] theorem enumO_t : enumO [.tuple ds] = some (enumFrom 0 ds) := (Eq.refl _).trans (Eq.refl _)
@[simp] theorem isLO_l : isLO (.list ds) = some () := (Eq.refl _).trans (Eq.refl _)
@[simp] theorem nil_t : tupS [] = some (.fr (.tuple [])) := (Eq.refl _).trans (Eq.refl _)
@[simp] theorem nil_l : lstS [] = some (.ow (.list [])) := (Eq.refl _).trans (Eq.refl _)
@[simp] theorem tupS_c (d : D) : tupS (d :: ds) = if ds.length + 1 ≤ 16777216 then some (.fr (.tuple (d :: ds))) else none := by unfold tupS; rfl
@[simp] theorem lstS_c (d : D) : lstS (d :: ds) = if ds.length + 1 ≤ 16777216 then some (.ow (.list (d :: ds))) else none := by unfold lstS; rfl
@[simp] theorem eqD_ev (d e : D) : eqD d e = if SeqAt.shaped d = true ∧ SeqAt.shaped e = true then some (.bool (PyData.eqv d e)) else none := by unfold eqD; rfl
@[simp] theorem neD_ev (d e : D) : neD d e = if SeqAt.shaped d = true ∧ SeqAt.shaped e = true then some (.bool (!PyData.eqv d e)) else none := by unfold neD; rfl
@[simp] theorem eqS_ev (d e : D) : eqS d e = if SeqAt.shaped d = true ∧ SeqAt.shaped e = true then some (.fr (.bool (PyData.eqv d e))) else none := by unfold eqS; rw [eqD_ev]; split <;> rfl
@[simp] theorem neS_ev (d e : D) : neS d e = if SeqAt.shaped d = true ∧ SeqAt.shaped e = true then some (.fr (.bool (!PyData.eqv d e))) else none := by unfold neS; rw [neD_ev]; split <;> rfl
@[simp] theorem isN_none (t : Bool) : isN t .none .none = some (.bool t) := (Eq.refl _).trans (Eq.refl _)
@[simp] theorem isN_bool (t : Bool) : isN t (.bool a) .none = some (.bool (!t)) := (Eq.refl _).trans (Eq.refl _)
@[simp] theorem isN_int (t : Bool) : isN t (.int i) .none = some (.bool (!t)) := (Eq.refl _).trans (Eq.refl _)
@[simp] theorem isN_str (t : Bool) : isN t (.str x) .none = some (.bool (!t)) := (Eq.refl _).trans (Eq.refl _)
@[simp] theorem isN_list (t : Bool) : isN t (.list ds) .none = some (.bool (!t)) := (Eq.refl _).trans (Eq.refl _)
@[simp] theorem isN_tuple (t : Bool) : isN t (.tuple ds) .none = some (.bool (!t)) := (Eq.refl _).trans (Eq.refl _)
@[simp] theorem isB_b : isB (.bool a) (.bool b) = some (.bool (decide (a = b))) := (Eq.refl _).trans (Eq.refl _)
@[simp] theorem isNotB_b : isNotB (.bool a) (.bool b) = some (.bool (!decide (a = b))) := (Eq.refl _).trans (Eq.refl _)
@[simp] theorem isiD_none (f : D → Bool) : isiD f .none = some (.bool (f .none)) := (Eq.refl _).trans (Eq.refl _)
@[simp] theorem isInt_none : isInt .none = false := (Eq.refl _).trans (Eq.refl _)
@[simp] theorem isBool_none : isBool .none = false := (Eq.refl _).trans (Eq.refl _)
@[simp] theorem isStr_none : isStr .none = false := (Eq.refl _).trans (Eq.refl _)
@[simp] theorem isLst_none : isLst .none = false := (Eq.refl _).trans (Eq.refl _)
@[simp] theorem isTup_none : isTup .none = false := (Eq.refl _).trans (Eq.refl _)
@[simp] theorem isiD_bool (f : D → Bool) : isiD f (.bool a) = some (.bool (f (.bool a))) := (Eq.refl _).trans (Eq.refl _)
@[simp] theorem isInt_bool : isInt (.bool a) = true := (Eq.refl _).trans (Eq.refl _)
@[simp] theorem isBool_bool : isBool (.bool a) = true := (Eq.refl _).trans (Eq.refl _)
@[simp] theorem isStr_bool : isStr (.bool a) = false := (Eq.refl _).trans (Eq.refl _)
@[simp] theorem isLst_bool : isLst (.bool a) = false := (Eq.refl _).trans (Eq.refl _)
@[simp] theorem isTup_bool : isTup (.bool a) = false := (Eq.refl _).trans (Eq.refl _)
@[simp] theorem isiD_int (f : D → Bool) : isiD f (.int i) = some (.bool (f (.int i))) := (Eq.refl _).trans (Eq.refl _)
@[simp] theorem isInt_int : isInt (.int i) = true := (Eq.refl _).trans (Eq.refl _)
@[simp] theorem isBool_int : isBool (.int i) = false := (Eq.refl _).trans (Eq.refl _)
@[simp] theorem isStr_int : isStr (.int i) = false := (Eq.refl _).trans (Eq.refl _)
@[simp] theorem isLst_int : isLst (.int i) = false := (Eq.refl _).trans (Eq.refl _)
@[simp] theorem isTup_int : isTup (.int i) = false := (Eq.refl _).trans (Eq.refl _)
@[simp] theorem isiD_str (f : D → Bool) : isiD f (.str x) = some (.bool (f (.str x))) := (Eq.refl _).trans (Eq.refl _)
@[simp] theorem isInt_str : isInt (.str x) = false := (Eq.refl _).trans (Eq.refl _)
@[simp] theorem isBool_str : isBool (.str x) = false := (Eq.refl _).trans (Eq.refl _)
@[simp] theorem isStr_str : isStr (.str x) = true := (Eq.refl _).trans (Eq.refl _)
@[simp] theorem isLst_str : isLst (.str x) = false := (Eq.refl _).trans (Eq.refl _)
@[simp] theorem isTup_str : isTup (.str x) = false := (Eq.refl _).trans (Eq.refl _)
@[simp] theorem isiD_list (f : D → Bool) : isiD f (.list ds) = some (.bool (f (.list ds))) := (Eq.refl _).trans (Eq.refl _)
@[simp] theorem isInt_list : isInt (.list ds) = false := (Eq.refl _).trans (Eq.refl _)
@[simp] theorem isBool_list : isBool (.list ds) = false := (Eq.refl _).trans (Eq.refl _)
@[simp] theorem isStr_list : isStr (.list ds) = false := (Eq.refl _).trans (Eq.refl _)
@[simp] theorem isLst_list : isLst (.list ds) = true := (Eq.refl _).trans (Eq.refl _)
@[simp] theorem isTup_list : isTup (.list ds) = false := (Eq.refl _).trans (Eq.refl _)
@[simp] theorem isiD_tuple (f : D → Bool) : isiD f (.tuple ds) = some (.bool (f (.tuple ds))) := (Eq.refl _).trans (Eq.refl _)
@[simp] theorem isInt_tuple : isInt (.tuple ds) = false := (Eq.refl _).trans (Eq.refl _)
@[simp] theorem isBool_tuple : isBool (.tuple ds) = false := (Eq.refl _).trans (Eq.refl _)
@[simp] theorem isStr_tuple : isStr (.tuple ds) = false := (Eq.refl _).trans (Eq.refl _)
@[simp] theorem isLst_tuple : isLst (.tuple ds) = false := (Eq.refl _).trans (Eq.refl _)
@[simp] theorem isTup_tuple : isTup (.tuple ds) = true := (Eq.refl _).trans (Eq.refl _)
@[simp] theorem orF_ev (f g : D → Bool) (d : D) : orF f g d = (f d || g d) := (Eq.refl _).trans (Eq.refl _)
@[simp] theorem stD_l (k : Int) (d : D) : stD (.int k) d (.list ds) = (ixN ds.length k).map fun j => .list (ds.set j d) := (Eq.refl _).trans (Eq.refl _)
@[simp] theorem appD_l (d : D) : appD d (.list ds) = if ltM (ds.length + 1) = true then some (.list (ds ++ [d])) else none := by unfold appD; rfl
end
section
variable (i : Nat) (ρ : EnvD) (d : D) (s : S)
@[simp] theorem varM_ev : varM i ρ = (match (ρ[i]? : Option (Option S)) with | some (some (.fr d)) => .ok (d, ρ) | some (some (.ow d)) => .ok (d, ρ.set i (some (.fr d))) | _ => .bad) := by unfold varM; rfl
@[simp] theorem movM_ev : movM i ρ = (match (ρ[i]? : Option (Option S)) with | some (some (.fr d)) => .ok (.fr d, ρ) | some (some (.ow d)) => .ok (.ow d, ρ.set i none) | _ => .bad) := by unfold movM; rfl
@[simp] theorem slotM_ev : slotM i ρ = (match (ρ[i]? : Option (Option S)) with | some (some s) => if s.pin = true then .bad else .ok (s.d, ρ) | _ => .bad) := by unfold slotM; rfl
@[simp] theorem putS_ev : putS i s ρ = if i < ρ.length then .nx (ρ.set i (some s)) else .bad := by unfold putS; rfl
@[simp] theorem setFr_ev : setFr i d ρ = if i < ρ.length then some (ρ.set i (some (.fr d))) else none := by unfold setFr; rfl
/-- an in-out call's result written back -/
def ioA (r : Res (S × D)) (s : S) (i : Nat) (ρ : EnvD) : Res (S × EnvD) := match r with
  | .ok (r, d') => match s.put d' with
    | some s' => match r.plain with
      | some r => .ok (r, ρ.set i (some s'))
      | none => .bad
    | none => .bad
  | _ => .bad
@[simp] theorem ioW_ev (f : D → List D → Res (S × D)) (ds : List D) : ioW i f ds ρ = (match (ρ[i]? : Option (Option S)) with
  | some (some s) => ioA (f s.d ds) s i ρ
  | _ => .bad) := by unfold ioW ioA; rfl
@[simp] theorem ioA_fw (x d' d0 : D) : ioA (.ok (.fr x, d')) (.ow d0) i ρ = .ok (.fr x, ρ.set i (some (.ow d'))) := (Eq.refl _).trans (Eq.refl _)
@[simp] theorem ioA_ww (x d' d0 : D) : ioA (.ok (.ow x, d')) (.ow d0) i ρ = .ok (.ow x, ρ.set i (some (.ow d'))) := (Eq.refl _).trans (Eq.refl _)
@[simp] theorem ioA_fi (x d' d0 : D) : ioA (.ok (.fr x, d')) (.io d0) i ρ = .ok (.fr x, ρ.set i (some (.io d'))) := (Eq.refl _).trans (Eq.refl _)
@[simp] theorem ioA_wi (x d' d0 : D) : ioA (.ok (.ow x, d')) (.io d0) i ρ = .ok (.ow x, ρ.set i (some (.io d'))) := (Eq.refl _).trans (Eq.refl _)
@[simp] theorem wrO_ev (f : D → Option D) : wrO i f ρ = (match (ρ[i]? : Option (Option S)) with
  | some (some s) => match f s.d with
    | some d' => match s.put d' with
      | some s' => .nx (ρ.set i (some s'))
      | none => .bad
    | none => .bad
  | _ => .bad) := by unfold wrO; rfl
@[simp] theorem wrE_ev (f : D → Option (S × D)) : wrE i f ρ = (match (ρ[i]? : Option (Option S)) with
  | some (some s) => match f s.d with
    | some (r, d') => match s.put d' with
      | some s' => .ok (r, ρ.set i (some s'))
      | none => .bad
    | none => .bad
  | _ => .bad) := by unfold wrE; rfl
@[simp] theorem Sd_fr : (S.fr d).d = d := (Eq.refl _).trans (Eq.refl _)
@[simp] theorem Sd_ow : (S.ow d).d = d := (Eq.refl _).trans (Eq.refl _)
@[simp] theorem Sd_io : (S.io d).d = d := (Eq.refl _).trans (Eq.refl _)
@[simp] theorem Sp_fr : (S.fr d).pin = false := (Eq.refl _).trans (Eq.refl _)
@[simp] theorem Sp_ow : (S.ow d).pin = false := (Eq.refl _).trans (Eq.refl _)
@[simp] theorem Sp_io : (S.io d).pin = false := (Eq.refl _).trans (Eq.refl _)
@[simp] theorem Sp_lk : (S.lk d).pin = true := (Eq.refl _).trans (Eq.refl _)
@[simp] theorem Spl_fr : (S.fr d).plain = some (.fr d) := (Eq.refl _).trans (Eq.refl _)
@[simp] theorem Spl_ow : (S.ow d).plain = some (.ow d) := (Eq.refl _).trans (Eq.refl _)
@[simp] theorem Sput_ow (e : D) : (S.ow d).put e = some (.ow e) := (Eq.refl _).trans (Eq.refl _)
@[simp] theorem Sput_io (e : D) : (S.io d).put e = some (.io e) := (Eq.refl _).trans (Eq.refl _)
@[simp] theorem gsNil_ev : gsNil [] ρ = some ρ := (Eq.refl _).trans (Eq.refl _)
@[simp] theorem gsCons_ev (f : D → EnvD → Option EnvD) (g : List D → EnvD → Option EnvD) (ds : List D) : gsCons f g (d :: ds) ρ = (match f d ρ with | some ρ1 => g ds ρ1 | none => none) := by show (f d ρ).bind (g ds) = _; cases f d ρ <;> rfl
@[simp] theorem gTupD_ev (n : Nat) (g : List D → EnvD → Option EnvD) (ds : List D) : gTupD n g (.tuple ds) ρ = if ds.length = n then g ds ρ else none := by unfold gTupD; rfl
@[simp] theorem putSs_nil : putSs [] [] ρ = some ρ := (Eq.refl _).trans (Eq.refl _)
@[simp] theorem putSs_cons (is : List Nat) (ss : List S) : putSs (i :: is) (s :: ss) ρ = if i < ρ.length then putSs is ss (ρ.set i (some s)) else none := by rw [putSs]
end
end Lf

/-! LY: raise, ranges downwards. -/
namespace Lf
open PySem PySem.Spec PyProof.Rows L2
/-- an error class of the program over ValueError -/
structure ExcT (K : Frag) (mg : Str → Option Value) (x : Str) : Prop where
  ex : ∃ C, mg x = some (.ref C) ∧ PySem.W.excIn K C [.type "ValueError", .type "Exception", .type "BaseException", .type "object"] "ValueError.__new__" = true ∧ PySem.W.keepIn K (.ref C) = true ∧ PySem.W.subIn K (.ref C) (.type "BaseException") = some true ∧ PySem.W.typeIn K (.ref C) = some (.type "type")
def raiseM (c : Str) : EnvD → Out := fun _ => .exc c
section
variable {X : Cx} {W : WX}
theorem ls_raise {x m : Str} {j : Nat} {p p2 pos pos2 : Pos} (hc : X.calm = true) (tk : Takes X W) (e : ExcT X.K X.mg x) (hg : Gl X x := by rfl) (hdb : (x == ("__debug__" : Str)) = false := by decide) :
    LS X W (.Raise (some (.Call (.Name x p) [.Constant (.str m) j p2] [] pos)) none pos2) (raiseM x) := by
  obtain ⟨C, gC, q, kC, b, t⟩ := e.ex
  exact ⟨_, ps_raise hc tk (pmk_own PySem.F.excBase_ValueError q gC kC (raises_own b t) hg hdb), fun G io F σ H ρ E ok z => z C σ H gC ok.g⟩
/-! ### ranges downwards -/
def downD (hi : Int) (n : Nat) : List D := (List.range n).map fun i => .int (hi - (i : Nat))
theorem downD_get {hi : Int} {n i : Nat} {d : D} (e : (downD hi n)[i]? = some d) : d = .int (hi - (i : Nat)) := by
  unfold downD at e
  rw [List.getElem?_map] at e
  cases q : (List.range n)[i]? with
  | none => rw [q] at e; cases e
  | some j =>
    rw [q] at e
    have : j = i := by
      obtain ⟨h, e2⟩ := List.getElem?_eq_some_iff.mp q
      simpa using e2.symm
    subst this
    exact (Option.some.inj e).symm
theorem wk_down {K : Frag} {G F : Hp} {hi : Int} {n : Nat} : Wk K G F (Itc hi (-1) n) (downD hi n) where
  step := fun F' H' i _ _ _ => ⟨fun h => by show i < n; simpa [downD] using h, fun h => by show n ≤ i; simpa [downD] using h⟩
  yld := fun F' H' i d x H'' _ _ _ e y => by
    obtain ⟨rfl, rfl⟩ := y
    rw [downD_get e]
    have : hi - (i : Nat) = hi + (i : Nat) * (-1 : Int) := by omega
    rw [this]
    exact .inl ⟨rfl, .int _⟩
def rg3 : List D → Option (List D)
  | [.int i, .int j, .int k] => if k = -1 ∧ rgB i = true ∧ rgB j = true then some (downD i (i - j).toNat) else none
  | _ => none
theorem li_range3 {tg a b c : Expr} {ms : M (List D)} {p pos : Pos} (hm : X.mg "range" = none) (ha : LA X W [a, b, c] ms) (hg : Gl X "range" := by rfl) (hs : starEach [a, b, c] X.env = (false, eval a X.env) :: starEach [b, c] X.env := by rfl) (hpl : (backTo pos (starEach [b, c] X.env)).any (·.1) = false := by rfl) :
    LI X W tg (.Call (.Name "range" p) [a, b, c] [] pos) (rgM rg3 ms) := by
  obtain ⟨t, ht, lf⟩ := ha.ex
  refine ⟨_, pi_range3 hg hm ht hs hpl, fun G io F σ H ρ R ok q => lf G io F σ H ρ _ ok (PoI.bind q fun vs ds ρ1 F1 H1 fx ok1 r q1 => ?_)⟩
  unfold rg3 at q1
  split at q1
  · rename_i i j k
    split at q1
    · rename_i hc
      obtain ⟨rfl, hi, hj⟩ := hc
      exact ⟨i, j, -1, _, rp3 r, RgC.neg (rgB_ok hi).1 (rgB_ok hi).2 (rgB_ok hj).1 (rgB_ok hj).2, q1 _ F1 H1 (Fx.refl G F1) ok1 (fun _ => wk_down)⟩
    · exact q1.elim
  · exact q1.elim
end
end Lf

/-! LZ: a call that only reads an owned thing and hands back a plain value. -/
namespace Lf
open PySem PySem.Spec PyProof.Rows L2
abbrev rAB (X : Cx) : Hp → Hp → List V → List D → L2.St → EnvD → Prop := fun F H vs ds _ _ => ∃ F', Sub F F' ∧ FH F' H ∧ RpL X.K F' vs ds
structure LAB (X : Cx) (W : WX) (es : List Expr) (m : M (List D)) : Prop where
  ex : ∃ t, PA X es t ∧ ∀ G io F σ H ρ Q, EnvOk X.K G io F σ H ρ → PoE (rAB X) X W G io F σ Q (m ρ) → t σ H Q
/-- an argument that is a name, its thing read where it stands -/
def consB (i : Nat) (ms : M (List D)) : M (List D) := (slotM i).bind fun _ => ms.bind fun ds => (slotM i).bind fun d => M.pure (d :: ds)
section
variable {X : Cx} {W : WX} {e : Expr} {es : List Expr} {m : M D} {ms : M (List D)} {i : Nat} {x : Str} {p : Pos}
theorem lab_nil : LAB X W [] (M.pure []) :=
  ⟨_, pa_nil, fun G io F σ H ρ Q ok q => q [] F H (Fx.refl G F) ok ⟨F, Sub.refl F, ok.f, .nil⟩⟩
theorem lab_cons (he : LE X W e m) (h : LAB X W es ms) (hs : starEach (e :: es) X.env = (false, eval e X.env) :: starEach es X.env := by rfl) : LAB X W (e :: es) (consM m ms) := by
  obtain ⟨te, he, le⟩ := he.ex
  obtain ⟨t, ht, l⟩ := h.ex
  refine ⟨_, pa_cons he ht hs, fun G io F σ H ρ Q ok q => le G io F σ H ρ _ ok (PoE.bind q fun v d ρ1 F1 H1 fx ok1 r1 q1 => ?_)⟩
  refine l G io F1 σ H1 ρ1 _ ok1 (PoE.bind q1 fun vs ds ρ2 F2 H2 fx2 ok2 r2 q2 => ?_)
  obtain ⟨F', s1, fh, rl⟩ := r2
  exact q2 (v :: vs) F2 H2 (Fx.refl G F2) ok2 ⟨F', s1, fh, .cons (r1.mono (fx2.sub.trans s1)) rl⟩
theorem lab_peek (h : LAB X W es ms) (hN : X.N[i]? = some x := by rfl) (hv : Vis X.env.scope x := by first | exact Or.inl rfl | exact Or.inr (Or.inl rfl) | exact Or.inr (Or.inr rfl)) (hd : (x == ("__debug__" : Str)) = false := by decide) (hcd : (x == ("__classdict__" : Str)) = false := by decide)
    (hs : starEach (.Name x p :: es) X.env = (false, eval (.Name x p) X.env) :: starEach es X.env := by rfl) : LAB X W (.Name x p :: es) (consB i ms) := by
  obtain ⟨t, ht, l⟩ := h.ex
  refine ⟨_, pa_cons (pe_var hN hv hd hcd) ht hs, fun G io F σ H ρ Q ok q => ?_⟩
  obtain ⟨v, s, h1, _, _, q⟩ := slot_run ok q
  refine ⟨v, h1, l G io F σ H ρ _ ok (PoE.bind q fun vs ds ρ2 F2 H2 fx2 ok2 r2 q2 => ?_)⟩
  obtain ⟨v2, s2, h2, _, rs, q3⟩ := slot_run ok2 q2
  rw [h1] at h2
  cases h2
  obtain ⟨F', s1, fh, rl⟩ := r2
  rcases rs.top with r | ⟨a, o, rfl, ha, ro⟩
  · exact q3 (v :: vs) F2 H2 (Fx.refl G F2) ok2 ⟨F', s1, fh, .cons (r.mono s1) rl⟩
  · have hnf : ∀ o', F' a = some o' → o' = o := fun o' z => by
      rcases fh _ _ z with w | ⟨hd, od, w⟩
      · rw [ha] at w; cases w; rfl
      · rw [ha] at w; cases w; cases hq : s2.d <;> rw [hq] at ro <;> exact ro.elim
    have hs' : Sub F' (upd F' a o) := fun b u hb => by
      by_cases c : b = a
      · subst c; rw [hnf _ hb, upd_same]
      · rw [upd_ne c]; exact hb
    refine q3 (V.ref a :: vs) F2 H2 (Fx.refl G F2) ok2 ⟨upd F' a o, s1.trans hs', fun b u hb => ?_, .cons ((RO.mono (s1.trans hs') ro).rp upd_same) (RpL.mono hs' rl)⟩
    by_cases c : b = a
    · subst c
      rw [upd_same] at hb
      cases hb
      exact .inl ha
    · rw [upd_ne c] at hb; exact fh b u hb
def flatD : D → Bool
  | .none => true
  | .bool _ => true
  | .int _ => true
  | .str _ => true
  | _ => false
def flatR : Res S → Res S
  | .ok (.fr d) => if flatD d = true then .ok (.fr d) else .bad
  | .exc c => .exc c
  | _ => .bad
theorem flat_rp {K : Frag} {F F' : Hp} {v : V} {d : D} (h : flatD d = true) (r : Rp K F v d) : Rp K F' v d := by
  cases d with
  | none => cases r; exact .non
  | bool b => cases r; exact .bl _
  | int b => cases r; exact .int _
  | str b => cases r; exact .str _
  | _ => cases h
def callRd (f : List D → Res S) (ms : M (List D)) : M S := ms.bind fun ds => M.lift (flatR (f ds))
theorem lf_callRd {x : Str} {k : Nat} {f : List D → Res S} {ms : M (List D)} {p pos : Pos} (C : Callee X.prog X.w X.K X.mg X.base x k (spP X.K X.mg f)) (tk : Takes X W) (hr : Room k X.A) (ha : LAB X W (e :: es) ms) (hg : Gl X x := by rfl) (hdb : (x == ("__debug__" : Str)) = false := by decide) (he : starEach (e :: es) X.env = (false, eval e X.env) :: starEach es X.env := by rfl) (hpl : (backTo pos (starEach es X.env)).any (·.1) = false := by rfl) :
    LF X W (.Call (.Name x p) (e :: es) [] pos) (callRd f ms) := by
  obtain ⟨fa, fd, ps, h1, h2, h3, h4⟩ := C.ex
  obtain ⟨t, ht, l⟩ := ha.ex
  refine ⟨_, pe_callS h4 hr hg h1 h2 h3 (E := WE W) (fun σ => passAt tk σ) ht hdb he hpl, fun G io F σ H ρ Q ok q => l G io F σ H ρ _ ok ?_⟩
  unfold callRd M.bind at q
  cases e1 : ms ρ with
  | exc c => simp only [e1] at q; exact q
  | bad => simp only [e1] at q; exact q
  | ok p =>
    obtain ⟨ds, ρ1⟩ := p
    simp only [e1] at q
    intro vs F1 H1 fx ok1 r
    obtain ⟨F', s1, fh', rl⟩ := r
    refine ⟨F', ds, fh', rl, ?_⟩
    unfold M.lift at q
    cases e2 : f ds with
    | bad => simp only [e2, flatR] at q; exact q
    | exc c => simp only [e2, flatR] at q; exact fun C H' hc hs => q C H' hc (ok1.g.trans hs)
    | ok s =>
      cases s with
      | fr d =>
        simp only [e2, flatR] at q
        by_cases hfl : flatD d = true
        · rw [if_pos hfl] at q
          intro v F2 H2 hs fx2 fh2 rs
          have ok2 : EnvOk X.K G io F1 σ H2 ρ1 := by
            refine ⟨ok1.g.trans hs, fun b u hb => fh2 b u (fx2.sub _ _ (s1 _ _ hb)), ok1.len, fun i t ei => ?_, ok1.apart, fun b hb z => ?_⟩
            · obtain ⟨w, hw, rw'⟩ := ok1.at_ i t ei
              refine ⟨w, hw, ?_⟩
              cases rw' with
              | fr q => exact .fr q
              | ow a b c d q => exact .ow (hs _ _ a) b c d q
              | lk => exact .lk
              | io a b c d q => exact .io (hs _ _ a) b c d q
            · cases y : H1 b with
              | none => exact ok1.iok b hb y
              | some u => rw [hs _ _ y] at z; cases z
          cases rs with
          | fr rv => exact q v F1 H2 fx ok2 ⟨.fr (flat_rp hfl rv), fun z => nomatch z⟩
        · rw [if_neg hfl] at q; exact q.elim
      | ow d => simp only [e2, flatR] at q; exact q.elim
      | lk d => simp only [e2, flatR] at q; exact q.elim
      | io d => simp only [e2, flatR] at q; exact q.elim
/-- a name set to a new thing that is frozen at once -/
theorem ls_fz {st : Stmt} {m : M S} (h : LS X W st (setM i m)) : LS X W st (setM i (fre (frz m))) := by
  obtain ⟨t, ht, l⟩ := h.ex
  refine ⟨t, ht, fun G io F σ H ρ E ok q => l G io F σ H ρ E ok ?_⟩
  unfold setM fre frz at q
  unfold setM
  cases e : m ρ with
  | exc c => simp only [e] at q ⊢; exact q
  | bad => simp only [e] at q; exact q
  | ok p =>
    obtain ⟨s, ρ1⟩ := p
    simp only [e] at q ⊢
    cases s with
    | fr d => exact q
    | lk d => exact q.elim
    | io d => exact q.elim
    | ow d =>
      simp only [outM] at q ⊢
      unfold putS at q ⊢
      by_cases hl : i < ρ1.length
      · rw [if_pos hl] at q ⊢
        intro σ' F' H' fx ok'
        obtain ⟨F2, v, fx2, ok2, _, _⟩ := ok'.freezeSlot (i := i) (d := d) (by rw [List.getElem?_set_self hl])
        rw [List.set_set] at ok2
        exact q σ' F2 H' (fx.trans fx2) ok2
      · rw [if_neg hl] at q; exact q.elim
end
end Lf

set_option maxHeartbeats 4000000
/-! F: the lifted functions of all laws (printed by gen2.py). -/
namespace Lf
open PySem PySem.Spec PyProof.Rows L2
def fuel : Nat := 1000
noncomputable def b__law_source : EnvD → Out := (seqM (ifM (tst (op2 geI (varM 0) (op2 powI (M.pure (.int 10)) (M.pure (.int 18))))) (retM (lstM (consM (op2 subD (varM 0) (op2 powI (M.pure (.int 10)) (M.pure (.int 18)))) (consM (op2 modI (varM 0) (M.pure (.int 2147483579))) (consM (varM 1) (M.pure [])))))) Out.nx) (retM (lstM (consM (M.pure (.int 0)) (consM (op2 modI (varM 0) (M.pure (.int 2147483579))) (consM (varM 1) (M.pure [])))))))
noncomputable def f__law_source : List D → Res S := defD 2 2 b__law_source
noncomputable def b__law_draw : EnvD → Out := (seqM (ifM (tst (op2 gtI (frz (op2V 0 itemS (M.pure (.int 0)))) (M.pure (.int 1)))) (seqM (setM 2 (fre (op2 modI (frz (op2V 0 itemS (M.pure (.int 0)))) (varM 1)))) (seqM (stM 0 (op2 fdivI (frz (op2V 0 itemS (M.pure (.int 0)))) (varM 1)) (M.pure (.int 0))) (retM (fre (varM 2))))) Out.nx) (seqM (stM 0 (frz (op2F addS (frz (op2V 0 itemS (M.pure (.int 2)))) (M.pure (.int 1)))) (M.pure (.int 2))) (seqM (setM 3 (fre (op2 modI (op2 powI (frz (op2F addS (frz (op2V 0 itemS (M.pure (.int 1)))) (frz (op2F mulS (M.pure (.int 15485867)) (frz (op2V 0 itemS (M.pure (.int 2)))))))) (M.pure (.int 5))) (M.pure (.int 2147483647))))) (seqM (setM 2 (fre (op2 fdivI (op2 modI (op2 powI (frz (op2F addS (varM 3) (frz (op2F mulS (M.pure (.int 7919)) (frz (op2V 0 itemS (M.pure (.int 2)))))))) (M.pure (.int 3))) (M.pure (.int 2147483629))) (M.pure (.int 32))))) (retM (fre (op2 modI (varM 2) (varM 1))))))))
noncomputable def f__law_draw : D → List D → Res (S × D) := defIO 2 4 b__law_draw
noncomputable def b__law_mixed : EnvD → Out := (seqM (parM [2, 3] (consF (bltM listS (consM (varM 1) (M.pure []))) (consF (lstM (M.pure [])) (M.pure [])))) (seqM (whD (tst (frz (op2V 2 neS (frz (lstM (M.pure [])))))) (exprM (appM 3 (frz (popAtM 2 (frz (callIO 0 f__law_draw (consM (frz (bltV 2 lenS)) (M.pure [])))))))) fuel) (retM (movM 3))))
noncomputable def f__law_mixed : D → List D → Res (S × D) := defIO 2 4 b__law_mixed
noncomputable def b__law_tree : EnvD → Out := (seqM (parM [2, 3] (consF (callIO 0 f__law_draw (consM (frz (op2F addS (varM 1) (M.pure (.int 1)))) (M.pure []))) (consF (callIO 0 f__law_draw (consM (M.pure (.int 4)) (M.pure []))) (M.pure [])))) (seqM (setM 4 (callIO 0 f__law_mixed (consM (frz (lrg1M (frz (op2F addS (varM 2) (M.pure (.int 1)))))) (M.pure [])))) (seqM (setM 5 (lstM (M.pure []))) (seqM (forM (rgM rg2 (consM (M.pure (.int 1)) (consM (frz (op2F addS (varM 2) (M.pure (.int 1)))) (M.pure [])))) (setFr 6) (seqM (setM 7 (ifV (tst (op2 eqD (varM 3) (M.pure (.int 0)))) (fre (op2 subD (varM 6) (M.pure (.int 1)))) (fre (M.pure (.int 0))))) (seqM (ifM (tst (op2 gtI (varM 3) (M.pure (.int 1)))) (setM 7 (callIO 0 f__law_draw (consM (varM 6) (M.pure [])))) Out.nx) (seqM (parM [8, 9] (consF (op2F itemS (varM 4) (varM 6)) (consF (op2F itemS (varM 4) (varM 7)) (M.pure [])))) (exprM (appM 5 (frz (tupM (consM (frz (bltM min2S (consM (varM 8) (consM (varM 9) (M.pure []))))) (consM (frz (bltM max2S (consM (varM 8) (consM (varM 9) (M.pure []))))) (M.pure []))))))))))) (retM (bltM tupleS (consM (frz (bltV 5 sortS)) (M.pure []))))))))
noncomputable def f__law_tree : D → List D → Res (S × D) := defIO 2 10 b__law_tree
noncomputable def b__law_corrupt (g : D → List D → Res (S × D)) : EnvD → Out := (seqM (ifM (andT (tst (isiM (orF isTup isLst) (varM 1))) (andT (tst (op2 gtI (frz (bltM lenS (consM (varM 1) (M.pure [])))) (M.pure (.int 0)))) (tst (op2 gtI (frz (callIO 0 f__law_draw (consM (M.pure (.int 5)) (M.pure [])))) (M.pure (.int 0)))))) (seqM (setM 2 (bltM listS (consM (varM 1) (M.pure [])))) (seqM (setM 3 (callIO 0 f__law_draw (consM (frz (bltV 2 lenS)) (M.pure [])))) (seqM (stM 2 (frz (callIO 0 g (consM (frz (op2V 2 itemS (varM 3))) (M.pure [])))) (varM 3)) (retM (ifV (tst (isiM isTup (varM 1))) (bltV 2 tupleS) (movM 2)))))) Out.nx) (seqM (ifM (tst (isiM (orF isTup isLst) (varM 1))) (seqM (setM 4 (ifV (tst (isiM isTup (varM 1))) (bltM listS (consM (varM 1) (M.pure []))) (bltM tupleS (consM (varM 1) (M.pure []))))) (retM (op2F itemS (frz (lstM (consM (varM 4) (consM (frz (op2F addS (varM 1) (frz (sliceM (varM 1) (M.pure none) (loM (M.pure (.int 1))))))) (consM (frz (sliceM (varM 1) (loM (M.pure (.int 1))) (M.pure none))) (consM (frz (revM (varM 1))) (consM (M.pure .none) (M.pure [])))))))) (frz (callIO 0 f__law_draw (consM (M.pure (.int 5)) (M.pure []))))))) Out.nx) (seqM (ifM (tst (isiM isInt (varM 1))) (retM (op2F itemS (frz (lstM (consM (frz (op2F addS (varM 1) (M.pure (.int 1)))) (consM (op2 subD (varM 1) (M.pure (.int 1))) (consM (M.pure (.bool true)) (consM (M.pure .none) (consM (M.pure (.int 0)) (consM (M.pure (.int 101)) (consM (frz (bltM strS (consM (varM 1) (M.pure [])))) (M.pure [])))))))))) (frz (callIO 0 f__law_draw (consM (M.pure (.int 7)) (M.pure [])))))) Out.nx) (retM (op2F itemS (frz (lstM (consM (M.pure .none) (consM (M.pure (.int 7)) (consM (M.pure (.str "a")) (consM (M.pure (.str "b")) (consM (M.pure (.str "x")) (consM (M.pure (.str "y")) (consM (M.pure (.str "z")) (consM (M.pure (.str "")) (M.pure []))))))))))) (frz (callIO 0 f__law_draw (consM (M.pure (.int 8)) (M.pure [])))))))))
noncomputable def f__law_corrupt : Nat → D → List D → Res (S × D)
  | 0 => (fun _ _ => .bad)
  | n + 1 => defIO 2 5 (b__law_corrupt (f__law_corrupt n))
noncomputable def b__law_choice : EnvD → Out := (retM (op2F itemS (varM 1) (frz (callIO 0 f__law_draw (consM (frz (bltM lenS (consM (varM 1) (M.pure [])))) (M.pure []))))))
noncomputable def f__law_choice : D → List D → Res (S × D) := defIO 2 2 b__law_choice
noncomputable def b__law_any_value : EnvD → Out := (seqM (setM 1 (lstM (consM (M.pure .none) (consM (M.pure (.bool true)) (consM (M.pure (.str "")) (consM (M.pure (.str "x")) (consM (frz (tupM (M.pure []))) (consM (frz (lstM (M.pure []))) (consM (frz (tupM (consM (frz (tupM (M.pure []))) (M.pure [])))) (consM (M.pure (.int 7)) (consM (negD (M.pure (.int 1))) (consM (op2 powI (M.pure (.int 10)) (M.pure (.int 30))) (consM (frz (tupM (consM (M.pure (.int 1)) (consM (M.pure (.int 2)) (M.pure []))))) (consM (frz (tupM (consM (frz (tupM (consM (M.pure (.int 0)) (consM (M.pure (.int 0)) (consM (M.pure (.int 0)) (M.pure [])))))) (M.pure [])))) (consM (frz (tupM (consM (frz (tupM (consM (M.pure (.int 0)) (consM (M.pure (.int 1)) (M.pure []))))) (M.pure [])))) (consM (frz (tupM (consM (M.pure (.int 0)) (consM (M.pure (.int 1)) (M.pure []))))) (M.pure []))))))))))))))))) (retM (callIO 0 f__law_choice (consM (varM 1) (M.pure [])))))
noncomputable def f__law_any_value : D → List D → Res (S × D) := defIO 1 2 b__law_any_value
noncomputable def b__law_kind : EnvD → Out := (seqM (ifM (tst (isiM isBool (varM 0))) (retM (fre (M.pure (.int 1)))) Out.nx) (seqM (ifM (tst (isiM isInt (varM 0))) (retM (fre (M.pure (.int 2)))) Out.nx) (seqM (ifM (tst (isiM isStr (varM 0))) (retM (fre (M.pure (.int 3)))) Out.nx) (seqM (ifM (tst (isiM isLst (varM 0))) (retM (fre (M.pure (.int 4)))) Out.nx) (retM (ifV (tst (isiM isTup (varM 0))) (fre (M.pure (.int 5))) (fre (M.pure (.int 6)))))))))
noncomputable def f__law_kind : List D → Res S := defD 1 1 b__law_kind
noncomputable def b__law_equal (g : List D → Res S) : EnvD → Out := (seqM (ifM (tst (op2 neD (frz (callM f__law_kind (consM (varM 0) (M.pure [])))) (frz (callM f__law_kind (consM (varM 1) (M.pure [])))))) (retM (fre (M.pure (.bool false)))) Out.nx) (seqM (ifM (andT (tst (op2 gtI (frz (callM f__law_kind (consM (varM 0) (M.pure [])))) (M.pure (.int 3)))) (tst (op2 ltD (frz (callM f__law_kind (consM (varM 0) (M.pure [])))) (M.pure (.int 6))))) (seqM (ifM (tst (op2 neD (frz (bltM lenS (consM (varM 0) (M.pure [])))) (frz (bltM lenS (consM (varM 1) (M.pure [])))))) (retM (fre (M.pure (.bool false)))) Out.nx) (retM (fre (op2 eqD (frz (compM (rgM enumO (consM (varM 0) (M.pure []))) [2, 3] (gTupD 2 (gsCons (setFr 2) (gsCons (setFr 3) gsNil))) (notT (tst (frz (callM g (consM (varM 3) (consM (frz (op2F itemS (varM 1) (varM 2))) (M.pure []))))))) (varM 2))) (frz (lstM (M.pure []))))))) Out.nx) (retM (fre (op2 eqD (varM 0) (varM 1))))))
noncomputable def f__law_equal : Nat → List D → Res S
  | 0 => (fun _ => .bad)
  | n + 1 => defD 2 4 (b__law_equal (f__law_equal n))
noncomputable def b_neighbours : EnvD → Out := (deepM 1 (rgM rg1 (consM (frz (op2F addS (frz (bltM lenS (consM (varM 0) (M.pure [])))) (M.pure (.int 1)))) (M.pure []))) [4] (setFr 4) (lstM (M.pure [])) (seqD2 (forDM 1 (seqM' (varM 0)) (gTupD 2 (gsCons (setFr 2) (gsCons (setFr 3) gsNil))) (seqD2 (napM 1 (varM 2) (varM 3)) (napM 1 (varM 3) (varM 2)))) (retD 1)))
noncomputable def f_neighbours : List D → Res S := defD 1 5 b_neighbours
noncomputable def b_parents_from : EnvD → Out := (seqM (parM [2, 3, 4] (consF (callM f_neighbours (consM (varM 0) (M.pure []))) (consF (disp1M (varM 1) (M.pure .none)) (consF (lstM (consM (varM 1) (M.pure []))) (M.pure []))))) (seqM (whD (tst (frz (op2V 4 neS (frz (lstM (M.pure [])))))) (seqM (setM 5 (popAtM 4 (M.pure (.int 0)))) (forM (seqM' (frz (op2F itemS (varM 2) (varM 5)))) (setFr 6) (ifM (tst (frz (op2W 3 (dinS false) (varM 6)))) (seqM (dstM 3 (varM 5) (varM 6)) (exprM (appM 4 (varM 6)))) Out.nx))) fuel) (retM (movM 3))))
noncomputable def f_parents_from : List D → Res S := defD 2 7 b_parents_from
noncomputable def b_is_between : EnvD → Out := (retM (fre (andV (isiM isInt (varM 0)) (andV (notV (isiM isBool (varM 0))) (chainM leI leI (varM 1) (varM 0) (varM 2))))))
noncomputable def f_is_between : List D → Res S := defD 3 3 b_is_between
noncomputable def b_is_edge : EnvD → Out := (seqM (ifM (orT (notT (tst (isiM isTup (varM 0)))) (tst (op2 neD (frz (bltM lenS (consM (varM 0) (M.pure [])))) (M.pure (.int 2))))) (retM (fre (M.pure (.bool false)))) Out.nx) (retM (fre (andV (frz (callM f_is_between (consM (frz (op2F itemS (varM 0) (M.pure (.int 0)))) (consM (M.pure (.int 0)) (consM (varM 1) (M.pure [])))))) (frz (callM f_is_between (consM (frz (op2F itemS (varM 0) (M.pure (.int 1)))) (consM (frz (op2F addS (frz (op2F itemS (varM 0) (M.pure (.int 0)))) (M.pure (.int 1)))) (consM (varM 1) (M.pure []))))))))))
noncomputable def f_is_edge : List D → Res S := defD 2 2 b_is_edge
noncomputable def b_is_network : EnvD → Out := (seqM (ifM (orT (notT (tst (isiM isTup (varM 0)))) (tst (op2 gtI (frz (bltM lenS (consM (varM 0) (M.pure [])))) (M.pure (.int 24))))) (retM (fre (M.pure (.bool false)))) Out.nx) (seqM (ifM (notT (tst (frz (bltM allS (consM (frz (compM (seqM' (varM 0)) [1] (setFr 1) yesM (frz (callM f_is_edge (consM (varM 1) (consM (frz (bltM lenS (consM (varM 0) (M.pure [])))) (M.pure []))))))) (M.pure [])))))) (retM (fre (M.pure (.bool false)))) Out.nx) (seqM (ifM (notT (tst (frz (bltM allS (consM (frz (compM (rgM zipO (consM (varM 0) (consM (frz (sliceM (varM 0) (loM (M.pure (.int 1))) (M.pure none))) (M.pure [])))) [2, 3] (gTupD 2 (gsCons (setFr 2) (gsCons (setFr 3) gsNil))) yesM (op2 ltD (varM 2) (varM 3)))) (M.pure [])))))) (retM (fre (M.pure (.bool false)))) Out.nx) (retM (fre (op2 eqD (frz (bltM lenS (consM (frz (callM f_parents_from (consM (varM 0) (consM (M.pure (.int 0)) (M.pure []))))) (M.pure [])))) (frz (op2F addS (frz (bltM lenS (consM (varM 0) (M.pure [])))) (M.pure (.int 1))))))))))
noncomputable def f_is_network : List D → Res S := defD 1 4 b_is_network
noncomputable def b__law_is_int : EnvD → Out := (retM (fre (andV (isiM isInt (varM 0)) (notV (isiM isBool (varM 0))))))
noncomputable def f__law_is_int : List D → Res S := defD 1 1 b__law_is_int
noncomputable def b__law_is_tree : EnvD → Out := (seqM (ifM (orT (notT (tst (isiM isTup (varM 0)))) (tst (op2 gtI (frz (bltM lenS (consM (varM 0) (M.pure [])))) (M.pure (.int 24))))) (retM (fre (M.pure (.bool false)))) Out.nx) (seqM (setM 1 (lrg1M (frz (op2F addS (frz (bltM lenS (consM (varM 0) (M.pure [])))) (M.pure (.int 1)))))) (seqM (forM (seqM' (varM 0)) (setFr 2) (seqM (ifM (orT (notT (tst (isiM isTup (varM 2)))) (orT (tst (op2 neD (frz (bltM lenS (consM (varM 2) (M.pure [])))) (M.pure (.int 2)))) (orT (notT (tst (frz (callM f__law_is_int (consM (frz (op2F itemS (varM 2) (M.pure (.int 0)))) (M.pure [])))))) (notT (tst (frz (callM f__law_is_int (consM (frz (op2F itemS (varM 2) (M.pure (.int 1)))) (M.pure []))))))))) (retM (fre (M.pure (.bool false)))) Out.nx) (seqM (asgM (gTupD 2 (gsCons (setFr 3) (gsCons (setFr 4) gsNil))) (varM 2)) (seqM (ifM (orT (notT (chain3M leI ltD leI (M.pure (.int 0)) (varM 3) (varM 4) (frz (bltM lenS (consM (varM 0) (M.pure [])))))) (tst (op2 eqD (frz (op2F itemS (varM 1) (varM 3))) (frz (op2F itemS (varM 1) (varM 4)))))) (retM (fre (M.pure (.bool false)))) Out.nx) (seqM (setM 5 (op2F itemS (varM 1) (varM 4))) (setM 1 (compM (seqM' (varM 1)) [6] (setFr 6) yesM (frz (ifV (tst (op2 eqD (varM 6) (varM 5))) (op2F itemS (varM 1) (varM 3)) (fre (varM 6))))))))))) (retM (fre (op2 eqD (frz (bltM listS (consM (varM 0) (M.pure [])))) (frz (bltM sortS (consM (varM 0) (M.pure []))))))))))
noncomputable def f__law_is_tree : List D → Res S := defD 1 7 b__law_is_tree
noncomputable def _law_far_e1 : M D := (frz (ifV (tst (op2 eqD (varM 5) (varM 6))) (fre (M.pure (.int 0))) (fre (M.pure .none))))
noncomputable def _law_far_b1 : EnvD → Out := (ifM (andT (tst (op2 (isN false) (frz (op2V 3 itemS (varM 7))) (M.pure .none))) (tst (op2 (isN true) (frz (op2V 3 itemS (varM 8))) (M.pure .none)))) (seqM (stM 3 (frz (op2F addS (frz (op2V 3 itemS (varM 7))) (M.pure (.int 1)))) (varM 8)) (setM 4 (fre (M.pure (.bool true))))) Out.nx)
noncomputable def _law_far_b2 : EnvD → Out := (forM (seqM' (frz (tupM (consM (frz (tupM (consM (varM 5) (consM (varM 6) (M.pure []))))) (consM (frz (tupM (consM (varM 6) (consM (varM 5) (M.pure []))))) (M.pure [])))))) (gTupD 2 (gsCons (setFr 7) (gsCons (setFr 8) gsNil))) _law_far_b1)
noncomputable def _law_far_b3 : EnvD → Out := (seqM (setM 4 (fre (M.pure (.bool false)))) (forM (seqM' (varM 0)) (gTupD 2 (gsCons (setFr 5) (gsCons (setFr 6) gsNil))) _law_far_b2))
noncomputable def _law_far_b4 : EnvD → Out := (seqM (setM 4 (fre (M.pure (.bool true)))) (whD (tst (varM 4)) _law_far_b3 fuel))
noncomputable def b__law_far : EnvD → Out := (seqM (setM 1 (fre (frz (op2F addS (frz (bltM lenS (consM (varM 0) (M.pure [])))) (M.pure (.int 1)))))) (deepM 2 (rgM rg1 (consM (varM 1) (M.pure []))) [5] (setFr 5) (compM (rgM rg1 (consM (varM 1) (M.pure []))) [6] (setFr 6) yesM _law_far_e1) (seqD2 (forRowM 2 3 _law_far_b4) (retD 2))))
noncomputable def f__law_far : List D → Res S := defD 1 9 b__law_far
noncomputable def b_check_network : EnvD → Out := (ifM (notT (tst (frz (callM f_is_network (consM (varM 0) (M.pure [])))))) (raiseM "InvalidNetwork") Out.nx)
noncomputable def f_check_network : List D → Res S := defD 1 1 b_check_network
noncomputable def b_check_place : EnvD → Out := (ifM (notT (tst (frz (callM f_is_between (consM (varM 1) (consM (M.pure (.int 0)) (consM (frz (bltM lenS (consM (varM 0) (M.pure [])))) (M.pure [])))))))) (raiseM "InvalidPlace") Out.nx)
noncomputable def f_check_place : List D → Res S := defD 2 2 b_check_place
noncomputable def path_c1 : M Bool := (tst (op2 neD (frz (op2V 4 itemS (negD (M.pure (.int 1))))) (varM 2)))
noncomputable def path_b1 : EnvD → Out := (exprM (appM 4 (frz (op2V 3 dgetS (frz (op2V 4 itemS (negD (M.pure (.int 1)))))))))
noncomputable def b_path : EnvD → Out := (seqM (exprM (callM f_check_network (consM (varM 0) (M.pure [])))) (seqM (exprM (callM f_check_place (consM (varM 0) (consM (varM 1) (M.pure []))))) (seqM (exprM (callM f_check_place (consM (varM 0) (consM (varM 2) (M.pure []))))) (seqM (parM [3, 4] (consF (callM f_parents_from (consM (varM 0) (consM (varM 2) (M.pure [])))) (consF (lstM (consM (varM 1) (M.pure []))) (M.pure [])))) (seqM (whD path_c1 path_b1 fuel) (retM (movM 4)))))))
noncomputable def f_path : List D → Res S := defD 3 5 b_path
noncomputable def distances_from_b1 : EnvD → Out := (dstM 2 (frz (ifV (tst (op2 (isN true) (frz (op2V 3 dgetS (varM 4))) (M.pure .none))) (fre (M.pure (.int 0))) (op2F addS (frz (op2V 2 dgetS (frz (op2V 3 dgetS (varM 4))))) (M.pure (.int 1))))) (varM 4))
noncomputable def b_distances_from : EnvD → Out := (seqM (setM 2 (M.pure (.ow (.dict [])))) (seqM (setM 3 (callM f_parents_from (consM (varM 0) (consM (varM 1) (M.pure []))))) (seqM (forKM 3 (setFr 4) distances_from_b1) (retM (compM (rgM rg1 (consM (frz (op2F addS (frz (bltM lenS (consM (varM 0) (M.pure [])))) (M.pure (.int 1)))) (M.pure []))) [4] (setFr 4) yesM (frz (op2V 2 dgetS (varM 4))))))))
noncomputable def f_distances_from : List D → Res S := defD 2 5 b_distances_from
noncomputable def b_ball : EnvD → Out := (seqM (exprM (callM f_check_network (consM (varM 0) (M.pure [])))) (seqM (exprM (callM f_check_place (consM (varM 0) (consM (varM 1) (M.pure []))))) (seqM (ifM (notT (tst (frz (callM f_is_between (consM (varM 2) (consM (M.pure (.int 0)) (consM (M.pure (.int 100)) (M.pure [])))))))) (raiseM "InvalidRadius") Out.nx) (retM (compM (rgM enumO (consM (frz (callM f_distances_from (consM (varM 0) (consM (varM 1) (M.pure []))))) (M.pure []))) [3, 4] (gTupD 2 (gsCons (setFr 3) (gsCons (setFr 4) gsNil))) (tst (op2 leI (varM 4) (varM 2))) (varM 3))))))
noncomputable def f_ball : List D → Res S := defD 3 5 b_ball
noncomputable def b_distance : EnvD → Out := (seqM (exprM (callM f_check_network (consM (varM 0) (M.pure [])))) (seqM (exprM (callM f_check_place (consM (varM 0) (consM (varM 1) (M.pure []))))) (seqM (exprM (callM f_check_place (consM (varM 0) (consM (varM 2) (M.pure []))))) (retM (op2F itemS (frz (callM f_distances_from (consM (varM 0) (consM (varM 1) (M.pure []))))) (varM 2))))))
noncomputable def f_distance : List D → Res S := defD 3 3 b_distance
noncomputable def _law_sighted_c1 : M Bool := (tst (op2 leI (frz (op2F itemS (frz (op2F itemS (varM 5) (varM 7))) (varM 16))) (frz (op2F mulS (varM 2) (varM 11)))))
noncomputable def _law_sighted_c2 : M Bool := (tst (op2 leI (frz (op2F itemS (frz (op2F itemS (varM 5) (varM 7))) (varM 16))) (varM 13)))
noncomputable def _law_sighted_b1 : EnvD → Out := (seqM (setM 11 (fre (frz (callIO 0 f__law_draw (consM (M.pure (.int 4)) (M.pure [])))))) (seqM (setM 8 (fre (frz (op2F addS (varM 8) (varM 11))))) (seqM (setM 12 (fre (frz (compM (rgM rg1 (consM (varM 6) (M.pure []))) [16] (setFr 16) _law_sighted_c1 (varM 16))))) (seqM (setM 7 (fre (frz (callIO 0 f__law_choice (consM (varM 12) (M.pure [])))))) (seqM (setM 13 (fre (frz (callIO 0 f__law_choice (consM (frz (lstM (consM (M.pure (.int 0)) (consM (M.pure (.int 0)) (consM (frz (callIO 0 f__law_draw (consM (M.pure (.int 4)) (M.pure [])))) (M.pure [])))))) (M.pure [])))))) (seqM (setM 14 (fre (frz (compM (rgM rg1 (consM (varM 6) (M.pure []))) [16] (setFr 16) _law_sighted_c2 (varM 16))))) (seqM (setM 15 (fre (frz (callIO 0 f__law_choice (consM (varM 14) (M.pure [])))))) (seqM (ifM (tst (op2 eqD (frz (callIO 0 f__law_draw (consM (M.pure (.int 7)) (M.pure [])))) (M.pure (.int 0)))) (setM 15 (fre (frz (callIO 0 f__law_draw (consM (varM 6) (M.pure [])))))) Out.nx) (exprM (appM 9 (frz (tupM (consM (varM 8) (consM (varM 15) (consM (varM 13) (M.pure []))))))))))))))))
noncomputable def b__law_sighted : EnvD → Out := (seqM (parM [5, 6] (consF (fre (frz (callM f__law_far (consM (varM 1) (M.pure []))))) (consF (fre (frz (op2F addS (frz (bltM lenS (consM (varM 1) (M.pure [])))) (M.pure (.int 1))))) (M.pure [])))) (seqM (parM [7, 8, 9] (consF (fre (frz (callIO 0 f__law_draw (consM (varM 6) (M.pure []))))) (consF (fre (frz (callIO 0 f__law_draw (consM (varM 4) (M.pure []))))) (consF (lstM (M.pure [])) (M.pure []))))) (seqM (forM (rgM rg1 (consM (frz (callIO 0 f__law_draw (consM (frz (op2F addS (varM 3) (M.pure (.int 1)))) (M.pure [])))) (M.pure []))) (setFr 10) _law_sighted_b1) (retM (bltM tupleS (consM (frz (callIO 0 f__law_mixed (consM (varM 9) (M.pure [])))) (M.pure [])))))))
noncomputable def f__law_sighted : D → List D → Res (S × D) := defIO 5 17 b__law_sighted
noncomputable def b_is_sighting : EnvD → Out := (seqM (ifM (orT (notT (tst (isiM isTup (varM 1)))) (orT (tst (op2 neD (frz (bltM lenS (consM (varM 1) (M.pure [])))) (M.pure (.int 3)))) (notT (tst (frz (callM f_is_between (consM (frz (op2F itemS (varM 1) (M.pure (.int 0)))) (consM (M.pure (.int 0)) (consM (M.pure (.int 1000000000)) (M.pure [])))))))))) (retM (fre (M.pure (.bool false)))) Out.nx) (retM (fre (andV (frz (callM f_is_between (consM (frz (op2F itemS (varM 1) (M.pure (.int 1)))) (consM (M.pure (.int 0)) (consM (frz (bltM lenS (consM (varM 0) (M.pure [])))) (M.pure [])))))) (frz (callM f_is_between (consM (frz (op2F itemS (varM 1) (M.pure (.int 2)))) (consM (M.pure (.int 0)) (consM (M.pure (.int 100)) (M.pure []))))))))))
noncomputable def f_is_sighting : List D → Res S := defD 2 2 b_is_sighting
noncomputable def are_sightings_e1 : M D := (frz (callM f_is_sighting (consM (varM 0) (consM (varM 2) (M.pure [])))))
noncomputable def b_are_sightings : EnvD → Out := (seqM (ifM (orT (notT (tst (isiM isTup (varM 1)))) (tst (op2 gtI (frz (bltM lenS (consM (varM 1) (M.pure [])))) (M.pure (.int 12))))) (retM (fre (M.pure (.bool false)))) Out.nx) (retM (bltM allS (consM (frz (compM (seqM' (varM 1)) [2] (setFr 2) yesM are_sightings_e1)) (M.pure [])))))
noncomputable def f_are_sightings : List D → Res S := defD 2 3 b_are_sightings
noncomputable def b_is_sightings : EnvD → Out := (seqM (exprM (callM f_check_network (consM (varM 0) (M.pure [])))) (retM (callM f_are_sightings (consM (varM 0) (consM (varM 1) (M.pure []))))))
noncomputable def f_is_sightings : List D → Res S := defD 2 2 b_is_sightings
noncomputable def _law_are_sightings_c1 : M Bool := (orT (notT (tst (frz (callM f__law_is_int (consM (varM 3) (M.pure [])))))) (tst (op2 ltD (varM 3) (M.pure (.int 0)))))
noncomputable def _law_are_sightings_b1 : EnvD → Out := (seqM (ifM (orT (notT (tst (isiM isTup (varM 2)))) (tst (op2 neD (frz (bltM lenS (consM (varM 2) (M.pure [])))) (M.pure (.int 3))))) (retM (fre (M.pure (.bool false)))) Out.nx) (seqM (ifM (tst (op2 neD (frz (compM (seqM' (varM 2)) [3] (setFr 3) _law_are_sightings_c1 (varM 3))) (frz (lstM (M.pure []))))) (retM (fre (M.pure (.bool false)))) Out.nx) (ifM (orT (tst (op2 gtI (frz (op2F itemS (varM 2) (M.pure (.int 0)))) (op2 powI (M.pure (.int 10)) (M.pure (.int 9))))) (orT (tst (op2 gtI (frz (op2F itemS (varM 2) (M.pure (.int 1)))) (frz (bltM lenS (consM (varM 0) (M.pure [])))))) (tst (op2 gtI (frz (op2F itemS (varM 2) (M.pure (.int 2)))) (M.pure (.int 100)))))) (retM (fre (M.pure (.bool false)))) Out.nx)))
noncomputable def b__law_are_sightings : EnvD → Out := (seqM (ifM (orT (notT (tst (isiM isTup (varM 1)))) (tst (op2 gtI (frz (bltM lenS (consM (varM 1) (M.pure [])))) (M.pure (.int 12))))) (retM (fre (M.pure (.bool false)))) Out.nx) (seqM (forM (seqM' (varM 1)) (setFr 2) _law_are_sightings_b1) (retM (fre (M.pure (.bool true))))))
noncomputable def f__law_are_sightings : List D → Res S := defD 2 4 b__law_are_sightings
end Lf

/-! P1: draws. -/
namespace Lf
open PySem PySem.Spec PyProof.Rows L2
/-- a source of draws, its turn at most n -/
def Src (n : Int) (d : D) : Prop := ∃ a b t : Int, d = .list [.int a, .int b, .int t] ∧ 0 ≤ a ∧ 0 ≤ b ∧ b < 2147483579 ∧ 0 ≤ t ∧ t ≤ n
theorem Src.mono {n m : Int} {d : D} (h : Src n d) (k : n ≤ m) : Src m d := by
  obtain ⟨a, b, t, e, h1, h2, h3, h4, h5⟩ := h
  exact ⟨a, b, t, e, h1, h2, h3, h4, Int.le_trans h5 k⟩
@[simp] theorem getI0 {α : Type} (a b c : α) : atI [a, b, c] 0 = some a := rfl
@[simp] theorem getI1 {α : Type} (a b c : α) : atI [a, b, c] 1 = some b := rfl
@[simp] theorem getI2 {α : Type} (a b c : α) : atI [a, b, c] 2 = some c := rfl
@[simp] theorem ixN30 : ixN 3 0 = some 0 := rfl
@[simp] theorem ixN31 : ixN 3 1 = some 1 := rfl
@[simp] theorem ixN32 : ixN 3 2 = some 2 := rfl
theorem draw_eq {n : Int} {d : D} {s : Int} (h : Src n d) (hn : n ≤ 1000000000) (h0 : 0 < s) (h1 : s < 1073741824) : ∃ r d', f__law_draw d [.int s] = .ok (.fr (.int r), d') ∧ 0 ≤ r ∧ r < s ∧ Src (n + 1) d' := by
  obtain ⟨a, b, t, rfl, ha, hb, hb2, ht, ht2⟩ := h
  unfold f__law_draw b__law_draw
  by_cases h2 : 1 < a
  · refine ⟨a % s, .list [.int (a / s), .int b, .int t], ?_, Int.emod_nonneg _ (by omega), Int.emod_lt_of_pos _ h0, a / s, b, t, rfl, Int.ediv_nonneg ha (by omega), hb, hb2, ht, by omega⟩
    simp [h2, cMod, cDiv, h0, h1]
  · have e1 : cMul 15485867 (t + 1) = true := by simp [cMul]
    have hx : 0 ≤ b + 15485867 * (t + 1) := by omega
    have hx2 : (b + 15485867 * (t + 1)).natAbs < 2 ^ 64 := by omega
    have e2 : cPow (b + 15485867 * (t + 1)) 5 = true := by simp [cPow]; omega
    have hm0 : 0 ≤ (b + 15485867 * (t + 1)) ^ 5 % 2147483647 := Int.emod_nonneg _ (by omega)
    have hm1 : (b + 15485867 * (t + 1)) ^ 5 % 2147483647 < 2147483647 := Int.emod_lt_of_pos _ (by omega)
    have e3 : cMul 7919 (t + 1) = true := by simp [cMul]
    have e4 : cPow ((b + 15485867 * (t + 1)) ^ 5 % 2147483647 + 7919 * (t + 1)) 3 = true := by
      generalize (b + 15485867 * (t + 1)) ^ 5 % 2147483647 = q at hm0 hm1
      simp [cPow]; omega
    refine ⟨(((b + 15485867 * (t + 1)) ^ 5 % 2147483647 + 7919 * (t + 1)) ^ 3 % 2147483629 / 32) % s, .list [.int a, .int b, .int (t + 1)], ?_, Int.emod_nonneg _ (by omega), Int.emod_lt_of_pos _ h0, a, b, t + 1, rfl, ha, hb, hb2, by omega, by omega⟩
    simp [h2, cMod, cDiv, h0, h1, mulS, e1, e2, e3, e4]
theorem source_src (c t : Int) (ht : 0 ≤ t) : ∃ d, f__law_source [.int c, .int t] = .ok (.ow d) ∧ Src t d := by
  refine ⟨.list [.int (if 10 ^ 18 ≤ c then c - 10 ^ 18 else 0), .int (c % 2147483579), .int t], ?_, _, _, _, rfl, by split <;> omega, Int.emod_nonneg _ (by omega), Int.emod_lt_of_pos _ (by omega), ht, Int.le_refl _⟩
  unfold f__law_source b__law_source
  simp [cPow, cMod]
  split <;> simp
end Lf

/-! EW: loops and comprehensions, run. -/
namespace Lf
open PySem PySem.Spec PyProof.Rows L2
section
variable {set : D → EnvD → Option EnvD} {body : EnvD → Out} {ds : List D} {ρ : EnvD}
/-- a for loop that runs through -/
theorem forD_inv (I : Nat → EnvD → Prop) : ∀ {ds : List D} {ρ : EnvD} {k : Nat}, (∀ (i : Nat) d ρ, ds[i]? = some d → I (k + i) ρ → ∃ ρ1 ρ2, set d ρ = some ρ1 ∧ (body ρ1 = .nx ρ2 ∨ body ρ1 = .ct ρ2) ∧ I (k + i + 1) ρ2) → I k ρ →
    ∃ ρ', forD set body ds ρ = .nx ρ' ∧ I (k + ds.length) ρ'
  | [], ρ, k, _, h0 => ⟨ρ, rfl, h0⟩
  | d :: ds, ρ, k, h, h0 => by
    obtain ⟨ρ1, ρ2, e1, e2, h2⟩ := h 0 d ρ rfl h0
    obtain ⟨ρ', e3, h3⟩ := forD_inv I (ds := ds) (ρ := ρ2) (k := k + 1) (fun i d' ρ' hi hI => by
      have := h (i + 1) d' ρ' (by simpa using hi) (by rw [show k + (i + 1) = k + 1 + i by omega]; exact hI)
      rwa [show k + (i + 1) + 1 = k + 1 + i + 1 by omega] at this) h2
    refine ⟨ρ', ?_, by rw [List.length_cons, show k + (ds.length + 1) = k + 1 + ds.length by omega]; exact h3⟩
    unfold forD
    rw [e1]
    rcases e2 with e2 | e2 <;> simp only [e2] <;> exact e3
/-- a for loop that may return -/
theorem forD_ret (I : Nat → EnvD → Prop) (R : Out → Prop) : ∀ {ds : List D} {ρ : EnvD} {k : Nat}, (∀ (i : Nat) d ρ, ds[i]? = some d → I (k + i) ρ → ∃ ρ1, set d ρ = some ρ1 ∧ ((∃ ρ2, (body ρ1 = .nx ρ2 ∨ body ρ1 = .ct ρ2) ∧ I (k + i + 1) ρ2) ∨ (∃ ρ2, body ρ1 = .bk ρ2 ∧ R (.nx ρ2)) ∨ ∃ s ρ2, body ρ1 = .rt s ρ2 ∧ R (.rt s ρ2))) → I k ρ →
    (∃ ρ', forD set body ds ρ = .nx ρ' ∧ I (k + ds.length) ρ') ∨ R (forD set body ds ρ)
  | [], ρ, k, _, h0 => .inl ⟨ρ, rfl, h0⟩
  | d :: ds, ρ, k, h, h0 => by
    obtain ⟨ρ1, e1, h1⟩ := h 0 d ρ rfl h0
    unfold forD
    rw [e1]
    rcases h1 with ⟨ρ2, e2, h2⟩ | ⟨ρ2, e2, h2⟩ | ⟨s, ρ2, e2, h2⟩
    · have ih := forD_ret I R (ds := ds) (ρ := ρ2) (k := k + 1) (fun i d' ρ' hi hI => by
        have := h (i + 1) d' ρ' (by simpa using hi) (by rw [show k + (i + 1) = k + 1 + i by omega]; exact hI)
        rwa [show k + (i + 1) + 1 = k + 1 + i + 1 by omega] at this) h2
      rw [List.length_cons, show k + (ds.length + 1) = k + 1 + ds.length by omega]
      rcases e2 with e2 | e2 <;> simp only [e2] <;> exact ih
    · right; simp only [e2]; exact h2
    · right; simp only [e2]; exact h2
/-- a while loop: n turns at most -/
theorem whD_inv {c : M Bool} (I : Nat → EnvD → Prop) (Z : EnvD → Prop) (h : ∀ n ρ, I n ρ → (∃ ρ1, c ρ = .ok (false, ρ1) ∧ Z ρ1) ∨ (∃ ρ1 ρ2 m, c ρ = .ok (true, ρ1) ∧ (body ρ1 = .nx ρ2 ∨ body ρ1 = .ct ρ2) ∧ m < n ∧ I m ρ2)) :
    ∀ (n k : Nat) (ρ : EnvD), I n ρ → n < k → ∃ ρ', whD c body k ρ = .nx ρ' ∧ Z ρ' := by
  intro n
  induction n using Nat.strongRecOn with
  | _ n ih =>
    intro k ρ hI hk
    obtain ⟨k, rfl⟩ : ∃ j, k = j + 1 := ⟨k - 1, by omega⟩
    unfold whD
    rcases h n ρ hI with ⟨ρ1, e1, hz⟩ | ⟨ρ1, ρ2, m, e1, e2, hm, h2⟩
    · simp only [e1]; exact ⟨ρ1, rfl, hz⟩
    · obtain ⟨ρ', e3, z⟩ := ih m hm k ρ2 h2 (by omega)
      simp only [e1]
      rcases e2 with e2 | e2 <;> simp only [e2] <;> exact ⟨ρ', e3, z⟩
end
section
variable {vs : List Nat} {set : D → EnvD → Option EnvD} {c : M Bool} {e : M D}
/-- a comprehension that leaves the environment as it is -/
theorem lcD_pure {ρw : EnvD} {g : D → Option D} : ∀ {ds acc : List D}, (∀ d ∈ ds, ∃ ρ1 ρ2, set d ρw = some ρ1 ∧ ((c ρ1 = .ok (false, ρ2) ∧ wipeD ρ2 vs = ρw ∧ g d = none) ∨ (c ρ1 = .ok (true, ρ2) ∧ ∃ x ρ3, e ρ2 = .ok (x, ρ3) ∧ wipeD ρ3 vs = ρw ∧ g d = some x))) →
    ds.length + acc.length ≤ 16777216 → lcD vs set c e ds acc ρw = .ok (acc ++ ds.filterMap g, ρw)
  | [], acc, _, _ => by simp [lcD]
  | d :: ds, acc, h, hl => by
    obtain ⟨ρ1, ρ2, e1, h1⟩ := h d List.mem_cons_self
    rw [List.length_cons] at hl
    unfold lcD
    rw [e1]
    rcases h1 with ⟨e2, hw, hg⟩ | ⟨e2, x, ρ3, e3, hw, hg⟩
    · simp only [e2, hw]
      rw [lcD_pure (fun d' hd => h d' (List.mem_cons_of_mem _ hd)) (by omega), List.filterMap_cons, hg]
    · have hz : ltM (acc.length + 1) = true := by unfold ltM; exact decide_eq_true (by omega)
      simp only [e2, e3, hz, if_true, hw]
      rw [lcD_pure (fun d' hd => h d' (List.mem_cons_of_mem _ hd)) (by simp; omega), List.filterMap_cons, hg]
      simp
theorem lcD_map {ρw : EnvD} {g : D → D} {ds acc : List D} (h : ∀ d ∈ ds, ∃ ρ1 ρ2, set d ρw = some ρ1 ∧ c ρ1 = .ok (true, ρ2) ∧ ∃ ρ3, e ρ2 = .ok (g d, ρ3) ∧ wipeD ρ3 vs = ρw) (hl : ds.length + acc.length ≤ 16777216) : lcD vs set c e ds acc ρw = .ok (acc ++ ds.map g, ρw) := by
  rw [lcD_pure (g := fun d => some (g d)) (fun d hd => by
    obtain ⟨ρ1, ρ2, e1, e2, ρ3, e3, hw⟩ := h d hd
    exact ⟨ρ1, ρ2, e1, .inr ⟨e2, g d, ρ3, e3, hw, rfl⟩⟩) hl]
  simp
/-- a comprehension that works upon the environment -/
theorem lcD_inv (I : Nat → List D → EnvD → Prop) : ∀ {ds acc : List D} {ρ : EnvD} {k : Nat}, (∀ (i : Nat) d acc ρ, ds[i]? = some d → I (k + i) acc ρ → ∃ ρ1 ρ2, set d ρ = some ρ1 ∧ ((c ρ1 = .ok (false, ρ2) ∧ I (k + i + 1) acc (wipeD ρ2 vs)) ∨ (c ρ1 = .ok (true, ρ2) ∧ ∃ x ρ3, e ρ2 = .ok (x, ρ3) ∧ I (k + i + 1) (acc ++ [x]) (wipeD ρ3 vs)))) →
    I k acc ρ → ds.length + acc.length ≤ 16777216 → ∃ ys ρ', lcD vs set c e ds acc ρ = .ok (ys, ρ') ∧ I (k + ds.length) ys ρ'
  | [], acc, ρ, k, _, h0, _ => ⟨acc, ρ, rfl, h0⟩
  | d :: ds, acc, ρ, k, h, h0, hl => by
    obtain ⟨ρ1, ρ2, e1, h1⟩ := h 0 d acc ρ rfl h0
    rw [List.length_cons] at hl
    have nxt : ∀ (i : Nat) d' acc' ρ', ds[i]? = some d' → I (k + 1 + i) acc' ρ' → ∃ ρ1 ρ2, set d' ρ' = some ρ1 ∧ ((c ρ1 = .ok (false, ρ2) ∧ I (k + 1 + i + 1) acc' (wipeD ρ2 vs)) ∨ (c ρ1 = .ok (true, ρ2) ∧ ∃ x ρ3, e ρ2 = .ok (x, ρ3) ∧ I (k + 1 + i + 1) (acc' ++ [x]) (wipeD ρ3 vs))) := fun i d' acc' ρ' hi hI => by
      have := h (i + 1) d' acc' ρ' (by simpa using hi) (by rw [show k + (i + 1) = k + 1 + i by omega]; exact hI)
      rwa [show k + (i + 1) + 1 = k + 1 + i + 1 by omega] at this
    unfold lcD
    rw [e1]
    rw [List.length_cons, show k + (ds.length + 1) = k + 1 + ds.length by omega]
    rcases h1 with ⟨e2, h2⟩ | ⟨e2, x, ρ3, e3, h2⟩
    · simp only [e2]
      exact lcD_inv I nxt h2 (by omega)
    · have hz : ltM (acc.length + 1) = true := by unfold ltM; exact decide_eq_true (by omega)
      simp only [e2, e3, hz, if_true]
      exact lcD_inv I nxt h2 (by simp; omega)
def Res.cmp (r : Res (List D × EnvD)) (vs : List Nat) (set : D → EnvD → Option EnvD) (c : M Bool) (e : M D) : Res (S × EnvD) := match r with
  | .ok (ds, ρ1) => match lcD vs set c e ds [] (wipeD ρ1 vs) with
    | .ok (ys, ρ2) => .ok (.ow (.list ys), backD ρ1 ρ2 vs)
    | _ => .bad
  | .exc c => .exc c
  | .bad => .bad
@[simp] theorem comp_ev (m : M (List D)) (ρ : EnvD) : compM m vs set c e ρ = (m ρ).cmp vs set c e := by
  unfold compM Res.cmp; rfl
theorem cmp_ok {ds ys : List D} {ρ1 ρ2 : EnvD} (h : lcD vs set c e ds [] (wipeD ρ1 vs) = .ok (ys, ρ2)) : Res.cmp (.ok (ds, ρ1)) vs set c e = .ok (.ow (.list ys), backD ρ1 ρ2 vs) := by
  unfold Res.cmp; simp only [h]
def Res.fr (r : Res (List D × EnvD)) (set : D → EnvD → Option EnvD) (body : EnvD → Out) : Out := outM (fun ds ρ' => forD set body ds ρ') r
@[simp] theorem for_ev (m : M (List D)) (set : D → EnvD → Option EnvD) (body : EnvD → Out) (ρ : EnvD) : forM m set body ρ = (m ρ).fr set body := (Eq.refl _).trans (Eq.refl _)
@[simp] theorem fr_ok (ds : List D) (ρ : EnvD) (set : D → EnvD → Option EnvD) (body : EnvD → Out) : Res.fr (.ok (ds, ρ)) set body = forD set body ds ρ := (Eq.refl _).trans (Eq.refl _)
@[simp] theorem fr_bad (set : D → EnvD → Option EnvD) (body : EnvD → Out) : Res.fr .bad set body = .bad := (Eq.refl _).trans (Eq.refl _)
end
theorem rgB_of {j : Int} (h0 : -1000000000000 ≤ j) (h1 : j ≤ 1000000000000) : rgB j = true := by
  unfold rgB
  rw [Bool.and_eq_true, decide_eq_true_eq, decide_eq_true_eq]
  omega
theorem rgM_1 {ms : M (List D)} {ρ ρ' : EnvD} {j : Int} (h : ms ρ = .ok ([.int j], ρ')) (h0 : -1000000000000 ≤ j) (h1 : j ≤ 1000000000000) : rgM rg1 ms ρ = .ok (rangeD 0 j.toNat, ρ') := by
  rw [rgM_ev, h, kl_ok]
  unfold rg1
  dsimp only
  rw [if_pos (rgB_of h0 h1)]
  rfl
theorem rgM_2 {ms : M (List D)} {ρ ρ' : EnvD} {i j : Int} (h : ms ρ = .ok ([.int i, .int j], ρ')) (h0 : -1000000000000 ≤ j) (h1 : j ≤ 1000000000000) (h2 : -1000000000000 ≤ i) (h3 : i ≤ 1000000000000) : rgM rg2 ms ρ = .ok (rangeD i (j - i).toNat, ρ') := by
  rw [rgM_ev, h, kl_ok]
  unfold rg2
  dsimp only
  rw [if_pos ⟨rgB_of h2 h3, rgB_of h0 h1⟩]
  rfl
@[simp] theorem wipe_nil (ρ : EnvD) : wipeD ρ [] = ρ := (Eq.refl _).trans (Eq.refl _)
@[simp] theorem wipe_cons (ρ : EnvD) (v : Nat) (vs : List Nat) : wipeD ρ (v :: vs) = (wipeD ρ vs).set v none := (Eq.refl _).trans (Eq.refl _)
@[simp] theorem back_nil (ρ0 ρ : EnvD) : backD ρ0 ρ [] = ρ := (Eq.refl _).trans (Eq.refl _)
@[simp] theorem back_cons (ρ0 ρ : EnvD) (v : Nat) (vs : List Nat) : backD ρ0 ρ (v :: vs) = (match (ρ0[v]? : Option (Option S)) with | some (some (.fr d)) => (backD ρ0 ρ vs).set v (some (.fr d)) | _ => backD ρ0 ρ vs) := by rw [backD] <;> rfl
@[simp] theorem yes_ev (ρ : EnvD) : yesM ρ = .ok (true, ρ) := (Eq.refl _).trans (Eq.refl _)
end Lf

/-! T1: tree metrics. -/
namespace Lf
/-- a tree metric upon the places V -/
structure TM (V : Int → Prop) (d : Int → Int → Int) : Prop where
  nn : ∀ {a b}, V a → V b → 0 ≤ d a b
  z : ∀ {a b}, V a → V b → (d a b = 0 ↔ a = b)
  sy : ∀ {a b}, V a → V b → d a b = d b a
  tri : ∀ {a b c}, V a → V b → V c → d a c ≤ d a b + d b c
  st : ∀ {a b}, V a → V b → a ≠ b → ∃ c, V c ∧ d a c = 1 ∧ d c b = d a b - 1
  ed : ∀ {x y p}, V x → V y → V p → d x y = 1 → d x p = d y p + 1 ∨ d y p = d x p + 1
  cut : ∀ {x y p q}, V x → V y → V p → V q → d x y = 1 → d y p = d x p + 1 → d x q = d y q + 1 → d p q = d p x + 1 + d y q
/-- the metric with one more leaf -/
def leafD (d : Int → Int → Int) (w u : Int) (a b : Int) : Int :=
  if a = w then (if b = w then 0 else d u b + 1) else if b = w then d a u + 1 else d a b
theorem leafD_ww {d : Int → Int → Int} {w u : Int} : leafD d w u w w = 0 := by simp [leafD]
theorem leafD_wx {d : Int → Int → Int} {w u b : Int} (h : b ≠ w) : leafD d w u w b = d u b + 1 := by simp [leafD, h]
theorem leafD_xw {d : Int → Int → Int} {w u a : Int} (h : a ≠ w) : leafD d w u a w = d a u + 1 := by simp [leafD, h]
theorem leafD_xx {d : Int → Int → Int} {w u a b : Int} (h : a ≠ w) (h2 : b ≠ w) : leafD d w u a b = d a b := by simp [leafD, h, h2]
theorem tm_one (a : Int) : TM (fun x => x = a) (fun _ _ => 0) where
  nn := fun _ _ => Int.le_refl _
  z := fun h1 h2 => by simp [h1, h2]
  sy := fun _ _ => rfl
  tri := fun _ _ _ => by omega
  st := fun h1 h2 h => (h (h1.trans h2.symm)).elim
  ed := fun _ _ _ h => by omega
  cut := fun _ _ _ _ h => by omega
theorem tm_leaf {V : Int → Prop} {d : Int → Int → Int} (T : TM V d) {w u : Int} (hu : V u) (hw : ¬ V w) : TM (fun x => V x ∨ x = w) (leafD d w u) := by
  have ne : ∀ {a}, V a → a ≠ w := fun h e => hw (e ▸ h)
  have hu0 : d u u = 0 := (T.z hu hu).mpr rfl
  constructor
  · rintro a b (ha | rfl) (hb | rfl)
    · rw [leafD_xx (ne ha) (ne hb)]; exact T.nn ha hb
    · rw [leafD_xw (ne ha)]; have := T.nn ha hu; omega
    · rw [leafD_wx (ne hb)]; have := T.nn hu hb; omega
    · rw [leafD_ww]; omega
  · rintro a b (ha | rfl) (hb | rfl)
    · rw [leafD_xx (ne ha) (ne hb)]; exact T.z ha hb
    · rw [leafD_xw (ne ha)]; have := T.nn ha hu
      constructor
      · intro h; omega
      · intro h; exact (ne ha h).elim
    · rw [leafD_wx (ne hb)]; have := T.nn hu hb
      constructor
      · intro h; omega
      · intro h; exact (ne hb h.symm).elim
    · rw [leafD_ww]; simp
  · rintro a b (ha | rfl) (hb | rfl)
    · rw [leafD_xx (ne ha) (ne hb), leafD_xx (ne hb) (ne ha)]; exact T.sy ha hb
    · rw [leafD_xw (ne ha), leafD_wx (ne ha), T.sy ha hu]
    · rw [leafD_wx (ne hb), leafD_xw (ne hb), T.sy hu hb]
    · rfl
  · rintro a b c (ha | rfl) (hb | rfl) (hc | rfl)
    · rw [leafD_xx (ne ha) (ne hb), leafD_xx (ne hb) (ne hc), leafD_xx (ne ha) (ne hc)]; exact T.tri ha hb hc
    · rw [leafD_xx (ne ha) (ne hb), leafD_xw (ne ha), leafD_xw (ne hb)]; have := T.tri ha hb hu; omega
    · rw [leafD_xx (ne ha) (ne hc), leafD_xw (ne ha), leafD_wx (ne hc)]; have := T.tri ha hu hc; omega
    · rw [leafD_xw (ne ha), leafD_ww]; omega
    · rw [leafD_wx (ne hb), leafD_wx (ne hc), leafD_xx (ne hb) (ne hc)]; have := T.tri hu hb hc; omega
    · rw [leafD_wx (ne hb), leafD_ww, leafD_xw (ne hb)]; have := T.nn hu hb; have := T.nn hb hu; omega
    · rw [leafD_ww, leafD_wx (ne hc)]; omega
    · rw [leafD_ww]; omega
  · rintro a b (ha | rfl) (hb | rfl) h
    · obtain ⟨c, hc, h1, h2⟩ := T.st ha hb h
      exact ⟨c, .inl hc, by rw [leafD_xx (ne ha) (ne hc)]; exact h1, by rw [leafD_xx (ne ha) (ne hb), leafD_xx (ne hc) (ne hb)]; exact h2⟩
    · by_cases e : a = u
      · subst e
        exact ⟨b, .inr rfl, by rw [leafD_xw (ne ha)]; omega, by rw [leafD_ww, leafD_xw (ne ha)]; omega⟩
      · obtain ⟨c, hc, h1, h2⟩ := T.st ha hu e
        exact ⟨c, .inl hc, by rw [leafD_xx (ne ha) (ne hc)]; exact h1, by rw [leafD_xw (ne ha), leafD_xw (ne hc)]; omega⟩
    · exact ⟨u, .inl hu, by rw [leafD_wx (ne hu)]; omega, by rw [leafD_wx (ne hb), leafD_xx (ne hu) (ne hb)]; omega⟩
    · exact (h rfl).elim
  · rintro x y p (hx | rfl) (hy | rfl) (hp | rfl) h
    · rw [leafD_xx (ne hx) (ne hy)] at h; rw [leafD_xx (ne hx) (ne hp), leafD_xx (ne hy) (ne hp)]; exact T.ed hx hy hp h
    · rw [leafD_xx (ne hx) (ne hy)] at h; rw [leafD_xw (ne hx), leafD_xw (ne hy)]; have := T.ed hx hy hu h; omega
    · rw [leafD_xw (ne hx)] at h; have e := (T.z hx hu).mp (by have := T.nn hx hu; omega); subst e
      rw [leafD_xx (ne hx) (ne hp), leafD_wx (ne hp)]; omega
    · rw [leafD_xw (ne hx)] at h ⊢; rw [leafD_ww]; omega
    · rw [leafD_wx (ne hy)] at h; have e := (T.z hu hy).mp (by have := T.nn hu hy; omega); subst e
      rw [leafD_xx (ne hu) (ne hp), leafD_wx (ne hp)]; omega
    · rw [leafD_wx (ne hy)] at h; rw [leafD_ww, leafD_xw (ne hy), T.sy hy hu]; omega
    · rw [leafD_ww] at h; omega
    · rw [leafD_ww] at h; omega
  · rintro x y p q hx hy hp hq h h1 h2
    rcases hx with hx | rfl
    · rcases hy with hy | rfl
      · rw [leafD_xx (ne hx) (ne hy)] at h
        rcases hp with hp | rfl
        · rw [leafD_xx (ne hy) (ne hp), leafD_xx (ne hx) (ne hp)] at h1
          rcases hq with hq | rfl
          · rw [leafD_xx (ne hy) (ne hq), leafD_xx (ne hx) (ne hq)] at h2
            rw [leafD_xx (ne hp) (ne hq), leafD_xx (ne hp) (ne hx), leafD_xx (ne hy) (ne hq)]
            exact T.cut hx hy hp hq h h1 h2
          · rw [leafD_xw (ne hy), leafD_xw (ne hx)] at h2
            rw [leafD_xw (ne hp), leafD_xx (ne hp) (ne hx), leafD_xw (ne hy)]
            have := T.cut hx hy hp hu h h1 (by omega); omega
        · rw [leafD_xw (ne hy), leafD_xw (ne hx)] at h1
          rcases hq with hq | rfl
          · rw [leafD_xx (ne hy) (ne hq), leafD_xx (ne hx) (ne hq)] at h2
            rw [leafD_wx (ne hq), leafD_wx (ne hx), leafD_xx (ne hy) (ne hq)]
            have := T.cut hx hy hu hq h (by omega) h2; omega
          · rw [leafD_xw (ne hy), leafD_xw (ne hx)] at h2; omega
      · rw [leafD_xw (ne hx)] at h
        have e := (T.z hx hu).mp (by have := T.nn hx hu; omega); subst e
        rcases hq with hq | rfl
        · rw [leafD_xx (ne hx) (ne hq), leafD_wx (ne hq)] at h2; omega
        · rcases hp with hp | rfl
          · rw [leafD_xw (ne hp), leafD_xx (ne hp) (ne hx), leafD_ww]; omega
          · rw [leafD_ww, leafD_xw (ne hx)] at h1; omega
    · rcases hy with hy | rfl
      · rw [leafD_wx (ne hy)] at h
        have e := (T.z hu hy).mp (by have := T.nn hu hy; omega); subst e
        rcases hp with hp | rfl
        · rw [leafD_xx (ne hu) (ne hp), leafD_wx (ne hp)] at h1; omega
        · rcases hq with hq | rfl
          · rw [leafD_wx (ne hq), leafD_ww, leafD_xx (ne hu) (ne hq)]; omega
          · rw [leafD_ww, leafD_xw (ne hu)] at h2; omega
      · rw [leafD_ww] at h; omega
section
variable {V : Int → Prop} {d : Int → Int → Int} (T : TM V d)
include T
theorem TM.self {a : Int} (h : V a) : d a a = 0 := (T.z h h).mpr rfl
/-- a place on the way -/
theorem TM.way : ∀ (k : Nat) {a b : Int}, V a → V b → (k : Int) ≤ d a b → ∃ c, V c ∧ d a c = k ∧ d c b = d a b - k
  | 0, a, b, ha, hb, h => ⟨a, ha, by rw [T.self ha]; rfl, by simp⟩
  | k + 1, a, b, ha, hb, h => by
    have ne : a ≠ b := fun e => by rw [e, T.self hb] at h; omega
    obtain ⟨c, hc, h1, h2⟩ := T.st ha hb ne
    obtain ⟨e, he, h3, h4⟩ := TM.way k hc hb (by omega)
    refine ⟨e, he, ?_, by omega⟩
    have t1 := T.tri ha hc he
    have t2 := T.tri ha he hb
    omega
/-- balls of a tree: each two meet, all meet -/
theorem TM.helly {v0 : Int} (h0 : V v0) : ∀ (l : List (Int × Int)), (∀ b ∈ l, V b.1) → (∀ b ∈ l, ∀ c ∈ l, d b.1 c.1 ≤ b.2 + c.2) → ∃ x, V x ∧ ∀ b ∈ l, d x b.1 ≤ b.2
  | [], _, _ => ⟨v0, h0, fun b hb => by cases hb⟩
  | (p, r) :: l, hv, hd => by
    obtain ⟨x, hx, hl⟩ := TM.helly h0 l (fun b hb => hv b (List.mem_cons_of_mem _ hb)) fun b hb c hc => hd b (List.mem_cons_of_mem _ hb) c (List.mem_cons_of_mem _ hc)
    have hp : V p := hv _ List.mem_cons_self
    have hr : 0 ≤ r := by have := hd (p, r) List.mem_cons_self (p, r) List.mem_cons_self; rw [T.self hp] at this; dsimp only at this; omega
    -- towards p, as long as the others hold
    have go : ∀ (k : Nat) (x : Int), V x → (∀ b ∈ l, d x b.1 ≤ b.2) → d x p ≤ r + k → ∃ y, V y ∧ (∀ b ∈ l, d y b.1 ≤ b.2) ∧ d y p ≤ r := by
      intro k
      induction k with
      | zero => intro x hx hl h; exact ⟨x, hx, hl, by simpa using h⟩
      | succ k ih =>
        intro x hx hl h
        by_cases hle : d x p ≤ r
        · exact ⟨x, hx, hl, hle⟩
        · have ne : x ≠ p := fun e => by rw [e, T.self hp] at hle; omega
          obtain ⟨y, hy, h1, h2⟩ := T.st hx hp ne
          refine ih y hy (fun b hb => ?_) (by omega)
          have hbv := hv b (List.mem_cons_of_mem _ hb)
          rcases T.ed hx hy hbv h1 with e | e
          · have := hl b hb; omega
          · by_cases hlt : d x b.1 < b.2
            · omega
            · have hc := T.cut hx hy hbv hp h1 e (by omega)
              have hq := hd b (List.mem_cons_of_mem _ hb) (p, r) List.mem_cons_self
              have hs := T.sy hbv hx
              have := hl b hb
              dsimp only at hq
              omega
    obtain ⟨y, hy, h1, h2⟩ := go (d x p).toNat x hx hl (by have := T.nn hx hp; omega)
    refine ⟨y, hy, fun b hb => ?_⟩
    rcases List.mem_cons.mp hb with rfl | hb
    · exact h2
    · exact h1 b hb
/-- the one before is one alone -/
theorem TM.par_one {o h h' r : Int} (ho : V o) (hh : V h) (hh' : V h') (hr : V r) (a : d o h = 1) (a' : d o h' = 1) (e : d h r = d o r - 1) (e' : d h' r = d o r - 1) : h = h' := by
  apply Classical.byContradiction
  intro ne
  have hs := T.sy ho hh'
  rcases T.ed ho hh hh' a with q | q
  · have := (T.z hh hh').mp (by omega)
    exact ne this
  · have hh2 := T.cut ho hh hh' hr a q (by omega)
    omega
end
end Lf

/-! T2: sightings upon a tree, runs step by step. -/
namespace Lf
abbrev Sg := Int × Int × Int
def abI (i : Int) : Int := if i < 0 then -i else i
theorem abI_nn (i : Int) : 0 ≤ abI i := by unfold abI; split <;> omega
theorem abI_sy (a b : Int) : abI (a - b) = abI (b - a) := by unfold abI; split <;> split <;> omega
theorem abI_tri (a b c : Int) : abI (a - c) ≤ abI (a - b) + abI (b - c) := by unfold abI; split <;> split <;> split <;> omega
theorem abI_self (a : Int) : abI (a - a) = 0 := by unfold abI; split <;> omega
theorem mulAb_nn {v : Int} (h : 0 ≤ v) (i : Int) : 0 ≤ v * abI i := Int.mul_nonneg h (abI_nn i)
theorem mulAb_tri {v : Int} (h : 0 ≤ v) (a b c : Int) : v * abI (a - c) ≤ v * abI (a - b) + v * abI (b - c) := by
  rw [← Int.mul_add]; exact Int.mul_le_mul_of_nonneg_left (abI_tri a b c) h
theorem mulAb_self (v a : Int) : v * abI (a - a) = 0 := by rw [abI_self, Int.mul_zero]
theorem mulAb_one (v a : Int) : v * abI (a + 1 - a) = v := by
  have : abI (a + 1 - a) = 1 := by unfold abI; split <;> omega
  rw [this, Int.mul_one]
theorem mulAb_sy (v a b : Int) : v * abI (a - b) = v * abI (b - a) := by rw [abI_sy]
/-- two sightings contradict each other -/
def clash (d : Int → Int → Int) (v : Int) (a b : Sg) : Bool := decide (a.2.2 + b.2.2 + v * abI (a.1 - b.1) < d a.2.1 b.2.1)
/-- a sighting does not rule out x at t -/
def fitB (d : Int → Int → Int) (v : Int) (s : Sg) (t x : Int) : Bool := decide (d s.2.1 x ≤ s.2.2 + v * abI (t - s.1))
/-- x is ruled out by none -/
def okAt (d : Int → Int → Int) (v : Int) (S : List Sg) (t x : Int) : Bool := S.all fun s => fitB d v s t x
def sgOk (V : Int → Prop) (s : Sg) : Prop := V s.2.1 ∧ 0 ≤ s.2.2
/-- none contradicts another -/
def compat (d : Int → Int → Int) (v : Int) : List Sg → Bool
  | [] => true
  | a :: S => (S.all fun b => !clash d v a b) && compat d v S
section
variable {V : Int → Prop} {d : Int → Int → Int} (T : TM V d) {v : Int} (v0 : 0 ≤ v)
include T
theorem clash_sy {a b : Sg} (ha : V a.2.1) (hb : V b.2.1) : clash d v a b = clash d v b a := by
  unfold clash
  rw [T.sy ha hb, mulAb_sy, Int.add_comm a.2.2]
include v0
theorem clash_self {a : Sg} (ha : sgOk V a) : clash d v a a = false := by
  unfold clash
  rw [T.self ha.1, mulAb_self]
  exact decide_eq_false (by have := ha.2; omega)
theorem compat_all : ∀ {S : List Sg}, (∀ s ∈ S, sgOk V s) → (compat d v S = true ↔ ∀ a ∈ S, ∀ b ∈ S, clash d v a b = false)
  | [], _ => by simp [compat]
  | s :: S, h => by
    have hs := h s List.mem_cons_self
    have ih := compat_all (S := S) fun x hx => h x (List.mem_cons_of_mem _ hx)
    unfold compat
    rw [Bool.and_eq_true, ih, List.all_eq_true]
    constructor
    · rintro ⟨h1, h2⟩ a ha b hb
      rcases List.mem_cons.mp ha with e1 | a1
      · rcases List.mem_cons.mp hb with e2 | b1
        · rw [e1, e2]; exact clash_self T v0 hs
        · rw [e1]; simpa using h1 b b1
      · rcases List.mem_cons.mp hb with e2 | b1
        · rw [e2, clash_sy T (h a (List.mem_cons_of_mem _ a1)).1 hs.1]; simpa using h1 a a1
        · exact h2 a a1 b b1
    · intro H
      exact ⟨fun b hb => by rw [H s List.mem_cons_self b (List.mem_cons_of_mem _ hb)]; rfl, fun a ha b hb => H a (List.mem_cons_of_mem _ ha) b (List.mem_cons_of_mem _ hb)⟩
/-- places near one place that fit: there is one -/
theorem fit_near {S : List Sg} (hS : ∀ s ∈ S, sgOk V s) (hc : ∀ a ∈ S, ∀ b ∈ S, clash d v a b = false) (L : List (Int × Int)) (hL : ∀ b ∈ L, V b.1) (t : Int)
    (h1 : ∀ b ∈ L, ∀ c ∈ L, d b.1 c.1 ≤ b.2 + c.2) (h2 : ∀ b ∈ L, ∀ s ∈ S, d b.1 s.2.1 ≤ b.2 + (s.2.2 + v * abI (t - s.1))) {w : Int} (hw : V w) :
    ∃ y, V y ∧ okAt d v S t y = true ∧ ∀ b ∈ L, d y b.1 ≤ b.2 := by
  obtain ⟨y, hy, h⟩ := T.helly hw (L ++ S.map fun s => (s.2.1, s.2.2 + v * abI (t - s.1)))
    (fun b hb => by
      rcases List.mem_append.mp hb with hb | hb
      · exact hL b hb
      · obtain ⟨s, hs, rfl⟩ := List.mem_map.mp hb; exact (hS s hs).1)
    (fun b hb c hc' => by
      rcases List.mem_append.mp hb with hb | hb
      · rcases List.mem_append.mp hc' with hc' | hc'
        · exact h1 b hb c hc'
        · obtain ⟨s, hs, rfl⟩ := List.mem_map.mp hc'; exact h2 b hb s hs
      · obtain ⟨s, hs, rfl⟩ := List.mem_map.mp hb
        rcases List.mem_append.mp hc' with hc' | hc'
        · have := h2 c hc' s hs
          rw [T.sy (hL c hc') (hS s hs).1] at this
          dsimp only; omega
        · obtain ⟨u, hu, rfl⟩ := List.mem_map.mp hc'
          have q := hc s hs u hu
          unfold clash at q
          have q := of_decide_eq_false q
          have t1 := mulAb_tri v0 s.1 t u.1
          have t2 := mulAb_sy v s.1 t
          dsimp only; omega)
  refine ⟨y, hy, ?_, fun b hb => h b (List.mem_append_left _ hb)⟩
  unfold okAt
  rw [List.all_eq_true]
  intro s hs
  have := h _ (List.mem_append_right _ (List.mem_map.mpr ⟨s, hs, rfl⟩))
  dsimp only at this
  unfold fitB
  rw [T.sy (hS s hs).1 hy]
  exact decide_eq_true this
theorem okAt_some {S : List Sg} (hS : ∀ s ∈ S, sgOk V s) (hc : ∀ a ∈ S, ∀ b ∈ S, clash d v a b = false) (t : Int) {w : Int} (hw : V w) : ∃ y, V y ∧ okAt d v S t y = true := by
  obtain ⟨y, h1, h2, _⟩ := fit_near T v0 hS hc [] (fun b hb => by cases hb) t (fun b hb => by cases hb) (fun b hb => by cases hb) hw
  exact ⟨y, h1, h2⟩
/-- from a place that fits at t to one that fits at t', in reach -/
theorem okAt_go {S : List Sg} (hS : ∀ s ∈ S, sgOk V s) (hc : ∀ a ∈ S, ∀ b ∈ S, clash d v a b = false) {t t' x : Int} (hx : V x) (h : okAt d v S t x = true) : ∃ y, V y ∧ okAt d v S t' y = true ∧ d y x ≤ v * abI (t - t') := by
  obtain ⟨y, h1, h2, h3⟩ := fit_near T v0 hS hc [(x, v * abI (t - t'))] (fun b hb => by rw [List.mem_singleton.mp hb]; exact hx) t'
    (fun b hb c hc => by rw [List.mem_singleton.mp hb, List.mem_singleton.mp hc, T.self hx]; have := mulAb_nn v0 (t - t'); dsimp only; omega)
    (fun b hb s hs => by
      rw [List.mem_singleton.mp hb]
      unfold okAt at h
      have q := List.all_eq_true.mp h s hs
      unfold fitB at q
      have q := of_decide_eq_true q
      rw [T.sy (hS s hs).1 hx] at q
      have := mulAb_tri v0 t t' s.1
      dsimp only; omega) hx
  exact ⟨y, h1, h2, h3 _ List.mem_cons_self⟩
/-- who is in reach of a place that fits, fits -/
theorem okAt_reach {S : List Sg} (hS : ∀ s ∈ S, sgOk V s) {t t' x y : Int} (hx : V x) (hy : V y) (h : ∀ s ∈ S, s.1 = t → d s.2.1 x ≤ s.2.2) (hd : d x y ≤ v * abI (t' - t)) : ∀ s ∈ S, s.1 = t → fitB d v s t' y = true := by
  intro s hs e
  have := h s hs e
  have := T.tri (hS s hs).1 hx hy
  unfold fitB
  rw [e]
  exact decide_eq_true (by omega)
end
/-! ### step by step -/
section
variable (V : Int → Prop) (d : Int → Int → Int) (v : Int)
def fwP (A : Nat → Int → Prop) : Nat → Int → Prop
  | 0, x => A 0 x
  | i + 1, x => A (i + 1) x ∧ ∃ y, V y ∧ fwP A i y ∧ d y x ≤ v
def bwP (G : Nat → Int → Prop) (N : Nat) : Nat → Int → Prop
  | 0, x => G N x
  | j + 1, x => G (N - (j + 1)) x ∧ ∃ y, V y ∧ bwP G N j y ∧ d x y ≤ v
variable {V d v} {A P : Nat → Int → Prop} {N : Nat}
theorem fw_full (h0 : ∀ i x, i ≤ N → V x → P i x → A i x) (h1 : ∀ i x, i < N → V x → P (i + 1) x → ∃ y, V y ∧ P i y ∧ d y x ≤ v) : ∀ i x, i ≤ N → V x → P i x → fwP V d v A i x
  | 0, x, hi, hx, h => h0 0 x hi hx h
  | i + 1, x, hi, hx, h => by
    obtain ⟨y, hy, p, q⟩ := h1 i x (by omega) hx h
    exact ⟨h0 _ x hi hx h, y, hy, fw_full h0 h1 i y (by omega) hy p, q⟩
theorem bw_full {G : Nat → Int → Prop} (h0 : ∀ i x, i ≤ N → V x → P i x → G i x) (h1 : ∀ i x, i < N → V x → P i x → ∃ y, V y ∧ P (i + 1) y ∧ d x y ≤ v) : ∀ j x, j ≤ N → V x → P (N - j) x → bwP V d v G N j x
  | 0, x, hi, hx, h => h0 N x (Nat.le_refl _) hx h
  | j + 1, x, hi, hx, h => by
    obtain ⟨y, hy, p, q⟩ := h1 (N - (j + 1)) x (by omega) hx h
    have e : N - (j + 1) + 1 = N - j := by omega
    rw [e] at p
    exact ⟨h0 _ x (by omega) hx h, y, hy, bw_full h0 h1 j y (by omega) hy p, q⟩
theorem fw_walk : ∀ i x, fwP V d v A i x → V x → ∃ f : Nat → Int, f i = x ∧ (∀ j, j ≤ i → V (f j) ∧ A j (f j)) ∧ ∀ j, j < i → d (f j) (f (j + 1)) ≤ v
  | 0, x, h, hx => ⟨fun _ => x, rfl, fun j hj => (Nat.le_zero.mp hj) ▸ ⟨hx, h⟩, fun j hj => (Nat.not_lt_zero _ hj).elim⟩
  | i + 1, x, ⟨h1, y, hy, h2, h3⟩, hx => by
    obtain ⟨f, e, g1, g2⟩ := fw_walk i y h2 hy
    refine ⟨fun j => if j ≤ i then f j else x, if_neg (by omega), fun j hj => ?_, fun j hj => ?_⟩
    · by_cases c : j ≤ i
      · simp only [c, if_true]; exact g1 j c
      · have : j = i + 1 := by omega
        subst this
        simp only [c, if_false]; exact ⟨hx, h1⟩
    · by_cases c : j + 1 ≤ i
      · have c' : j ≤ i := by omega
        simp only [c, c', if_true]; exact g2 j (by omega)
      · have : j = i := by omega
        subst this
        simp only [Nat.le_refl, if_true, c, if_false]; rw [e]; exact h3
theorem bw_walk {G : Nat → Int → Prop} : ∀ j x, j ≤ N → bwP V d v G N j x → V x → G (N - j) x ∧ ∃ f : Nat → Int, f (N - j) = x ∧ (∀ k, N - j ≤ k → k ≤ N → V (f k) ∧ G k (f k)) ∧ ∀ k, N - j ≤ k → k < N → d (f k) (f (k + 1)) ≤ v
  | 0, x, _, h, hx => ⟨h, fun _ => x, rfl, fun k h1 h2 => (Nat.le_antisymm h1 h2 : N = k) ▸ ⟨hx, h⟩, fun k h1 h2 => by omega⟩
  | j + 1, x, hj, ⟨h1, y, hy, h2, h3⟩, hx => by
    obtain ⟨_, f, e, g1, g2⟩ := bw_walk j y (by omega) h2 hy
    refine ⟨h1, fun k => if k ≤ N - (j + 1) then x else f k, by simp, fun k k1 k2 => ?_, fun k k1 k2 => ?_⟩
    · by_cases c : k ≤ N - (j + 1)
      · have : k = N - (j + 1) := by omega
        subst this
        simp only [c, if_true]; exact ⟨hx, h1⟩
      · simp only [c, if_false]; exact g1 k (by omega) k2
    · by_cases c : k ≤ N - (j + 1)
      · have c2 : ¬ k + 1 ≤ N - (j + 1) := by omega
        have e2 : k + 1 = N - j := by omega
        simp only [c, if_true, c2, if_false]; rw [e2, e]; exact h3
      · have c2 : ¬ k + 1 ≤ N - (j + 1) := by omega
        simp only [c, if_false, c2]; exact g2 k (by omega) k2
/-- a place that is left both ways lies on a walk -/
theorem both_walk {i : Nat} {x : Int} (hi : i ≤ N) (hx : V x) (h : bwP V d v (fwP V d v A) N (N - i) x) : ∃ f : Nat → Int, f i = x ∧ (∀ j, j ≤ N → V (f j) ∧ A j (f j)) ∧ ∀ j, j < N → d (f j) (f (j + 1)) ≤ v := by
  obtain ⟨h1, f, e, g1, g2⟩ := bw_walk (N - i) x (by omega) h hx
  have ei : N - (N - i) = i := by omega
  rw [ei] at h1 e g1 g2
  obtain ⟨g, e', k1, k2⟩ := fw_walk i x h1 hx
  have fA : ∀ j, i ≤ j → j ≤ N → V (f j) ∧ A j (f j) := fun j a b => by
    obtain ⟨q1, q2⟩ := g1 j a b
    cases j with
    | zero => exact ⟨q1, q2⟩
    | succ j => exact ⟨q1, q2.1⟩
  refine ⟨fun j => if j ≤ i then g j else f j, by simp [e'], fun j hj => ?_, fun j hj => ?_⟩
  · by_cases c : j ≤ i
    · simp only [c, if_true]; exact k1 j c
    · simp only [c, if_false]; exact fA j (by omega) hj
  · by_cases c : j + 1 ≤ i
    · have c' : j ≤ i := by omega
      simp only [c, c', if_true]; exact k2 j (by omega)
    · by_cases c' : j ≤ i
      · have : j = i := by omega
        subst this
        simp only [Nat.le_refl, if_true, c, if_false]; rw [e', ← e]; exact g2 j (Nat.le_refl _) hj
      · simp only [c, c', if_false]; exact g2 j (by omega) hj
end
/-! ### walks and sightings -/
section
variable {V : Int → Prop} {d : Int → Int → Int} (T : TM V d) {v : Int} (v0 : 0 ≤ v)
include T v0
theorem walk_far {f : Nat → Int} {N : Nat} (hV : ∀ j, j ≤ N → V (f j)) (hd : ∀ j, j < N → d (f j) (f (j + 1)) ≤ v) : ∀ (k i : Nat), i + k ≤ N → d (f i) (f (i + k)) ≤ v * k
  | 0, i, h => by have := T.self (hV i (by omega)); simp only [Nat.add_zero]; omega
  | k + 1, i, h => by
    have h1 := walk_far hV hd k i (by omega)
    have h2 := hd (i + k) (by omega)
    have h3 := T.tri (hV i (by omega)) (hV (i + k) (by omega)) (hV (i + k + 1) (by omega))
    have e : v * ((k + 1 : Nat) : Int) = v * k + v := by push_cast; rw [Int.mul_add, Int.mul_one]
    have : i + (k + 1) = i + k + 1 := by omega
    rw [this, e]; omega
theorem walk_dist {f : Nat → Int} {N : Nat} (hV : ∀ j, j ≤ N → V (f j)) (hd : ∀ j, j < N → d (f j) (f (j + 1)) ≤ v) {i j : Nat} (hi : i ≤ N) (hj : j ≤ N) : d (f i) (f j) ≤ v * abI ((j : Int) - i) := by
  by_cases c : i ≤ j
  · have := walk_far T v0 hV hd (j - i) i (by omega)
    have e : i + (j - i) = j := by omega
    rw [e] at this
    have e2 : abI ((j : Int) - i) = ((j - i : Nat) : Int) := by unfold abI; split <;> omega
    rw [e2]; exact this
  · have := walk_far T v0 hV hd (i - j) j (by omega)
    have e : j + (i - j) = i := by omega
    rw [e] at this
    have e2 : abI ((j : Int) - i) = ((i - j : Nat) : Int) := by unfold abI; split <;> omega
    rw [e2, T.sy (hV i hi) (hV j hj)]; exact this
/-- what a walk that fits tells -/
theorem walk_fits {S : List Sg} (hS : ∀ s ∈ S, sgOk V s) {f : Nat → Int} {N : Nat} {t0 : Int} (hV : ∀ j, j ≤ N → V (f j)) (hd : ∀ j, j < N → d (f j) (f (j + 1)) ≤ v) (hr : ∀ s ∈ S, t0 ≤ s.1 ∧ s.1 ≤ t0 + N)
    (hA : ∀ j, j ≤ N → ∀ s ∈ S, s.1 = t0 + j → d s.2.1 (f j) ≤ s.2.2) : (∀ i, i ≤ N → okAt d v S (t0 + i) (f i) = true) ∧ ∀ a ∈ S, ∀ b ∈ S, clash d v a b = false := by
  have idx : ∀ s ∈ S, ∃ j, j ≤ N ∧ s.1 = t0 + (j : Nat) := fun s hs => ⟨(s.1 - t0).toNat, by have := hr s hs; omega, by have := hr s hs; omega⟩
  constructor
  · intro i hi
    unfold okAt
    rw [List.all_eq_true]
    intro s hs
    obtain ⟨j, hj, e⟩ := idx s hs
    have h1 := hA j hj s hs e
    have h2 := T.tri (hS s hs).1 (hV j hj) (hV i hi)
    have h3 := walk_dist T v0 hV hd hj hi
    have e2 : t0 + (i : Int) - s.1 = (i : Int) - j := by omega
    unfold fitB
    rw [e2]
    exact decide_eq_true (by omega)
  · intro a ha b hb
    obtain ⟨i, hi, ei⟩ := idx a ha
    obtain ⟨j, hj, ej⟩ := idx b hb
    have h1 := hA i hi a ha ei
    have h2 := hA j hj b hb ej
    have h3 := walk_dist T v0 hV hd hi hj
    have h4 := T.tri (hS a ha).1 (hV i hi) (hS b hb).1
    have h5 := T.tri (hV i hi) (hV j hj) (hS b hb).1
    have h6 := T.sy (hV j hj) (hS b hb).1
    have e2 : abI (a.1 - b.1) = abI ((j : Int) - i) := by rw [abI_sy]; congr 1; omega
    unfold clash
    rw [e2]
    exact decide_eq_false (by omega)
end
end Lf

/-! T3: networks that grow leaf by leaf. -/
namespace Lf
abbrev Ed := Int × Int
/-- the edge of two places -/
def mkE (a b : Int) : Ed := (if b < a then b else a, if a < b then b else a)
theorem mkE_sy (a b : Int) : mkE a b = mkE b a := by
  unfold mkE
  refine Prod.ext ?_ ?_ <;> dsimp only <;> split <;> split <;> omega
theorem mkE_lt {a b : Int} (h : a < b) : mkE a b = (a, b) := by
  unfold mkE
  refine Prod.ext ?_ ?_ <;> dsimp only <;> split <;> omega
theorem mkE_mem {a b : Int} {es : List Ed} (hne : a ≠ b) (h : ∀ e ∈ es, e.1 < e.2) : mkE a b ∈ es ↔ (a, b) ∈ es ∨ (b, a) ∈ es := by
  rcases Int.lt_or_gt_of_ne hne with c | c
  · rw [mkE_lt c]
    exact ⟨.inl, fun z => z.elim id fun z => by have := h _ z; dsimp only at this; omega⟩
  · rw [mkE_sy, mkE_lt c]
    exact ⟨.inr, fun z => z.elim (fun z => by have := h _ z; dsimp only at this; omega) id⟩
theorem mkE_inj {a b x y : Int} (hne : a ≠ b) (h : mkE a b = mkE x y) : (a = x ∧ b = y) ∨ (a = y ∧ b = x) := by
  unfold mkE at h
  have h1 := congrArg Prod.fst h
  have h2 := congrArg Prod.snd h
  dsimp only at h1 h2
  split at h1 <;> split at h2 <;> split at h1 <;> split at h2 <;> omega
inductive Grow : List Int → List Ed → (Int → Int → Int) → Prop
  | one (a : Int) : Grow [a] [] (fun _ _ => 0)
  | leaf {vs es d} (w u : Int) : Grow vs es d → w ∉ vs → u ∈ vs → Grow (vs ++ [w]) (es ++ [mkE w u]) (leafD d w u)
theorem Grow.nodup {vs es d} (g : Grow vs es d) : vs.Nodup := by
  induction g with
  | one a => simp
  | leaf w u g h1 h2 ih => rw [List.nodup_append]; exact ⟨ih, by simp, fun a ha b hb e => h1 (by rw [List.mem_singleton.mp hb] at e; exact e ▸ ha)⟩
theorem Grow.len {vs es d} (g : Grow vs es d) : es.length + 1 = vs.length := by
  induction g with
  | one a => rfl
  | leaf w u g h1 h2 ih => simp [← ih]
theorem Grow.tm {vs es d} (g : Grow vs es d) : TM (fun x => x ∈ vs) d := by
  induction g with
  | one a => have := tm_one a; simpa using this
  | leaf w u g h1 h2 ih =>
    have := tm_leaf ih h2 h1
    simpa using this
theorem Grow.ends {vs es d} (g : Grow vs es d) : ∀ e ∈ es, e.1 ∈ vs ∧ e.2 ∈ vs ∧ e.1 < e.2 := by
  induction g with
  | one a => intro e he; cases he
  | leaf w u g h1 h2 ih =>
    intro e he
    rcases List.mem_append.mp he with he | he
    · obtain ⟨a, b, c⟩ := ih e he
      exact ⟨List.mem_append_left _ a, List.mem_append_left _ b, c⟩
    · rw [List.mem_singleton.mp he]
      have hne : w ≠ u := fun e => h1 (e ▸ h2)
      rcases Int.lt_or_gt_of_ne hne with c | c
      · rw [mkE_lt c]; exact ⟨List.mem_append_right _ List.mem_cons_self, List.mem_append_left _ h2, c⟩
      · rw [mkE_sy, mkE_lt c]; exact ⟨List.mem_append_left _ h2, List.mem_append_right _ List.mem_cons_self, c⟩
theorem Grow.adj {vs es d} (g : Grow vs es d) : ∀ a b, a ∈ vs → b ∈ vs → (d a b = 1 ↔ a ≠ b ∧ mkE a b ∈ es) := by
  induction g with
  | one a =>
    intro x y hx hy
    rw [List.mem_singleton] at hx hy
    subst hx; subst hy
    simp
  | leaf w u g h1 h2 ih =>
    intro a b ha hb
    have T := g.tm
    have nm : ∀ {a b : Int}, a ∈ _ → b ∈ _ → mkE a b ≠ mkE w u ∨ a = b := fun {a b} ha hb => by
      by_cases c : a = b
      · exact .inr c
      · left
        intro e
        rcases mkE_inj c e with ⟨e1, _⟩ | ⟨_, e1⟩
        · exact h1 (e1 ▸ ha)
        · exact h1 (e1 ▸ hb)
    have nw : ∀ a, mkE w a ∉ _ := fun a z => by
      obtain ⟨q1, q2, _⟩ := g.ends _ z
      unfold mkE at q1 q2
      dsimp only at q1 q2
      by_cases c : w < a
      · rw [if_neg (by omega)] at q1; exact h1 q1
      · rw [if_neg c] at q2; exact h1 q2
    rcases List.mem_append.mp ha with a1 | a1
    · rcases List.mem_append.mp hb with b1 | b1
      · have na : a ≠ w := fun e => h1 (e ▸ a1)
        have nb : b ≠ w := fun e => h1 (e ▸ b1)
        rw [leafD_xx na nb, ih a b a1 b1]
        constructor
        · rintro ⟨q1, q2⟩; exact ⟨q1, List.mem_append_left _ q2⟩
        · rintro ⟨q1, q2⟩
          rcases List.mem_append.mp q2 with q2 | q2
          · exact ⟨q1, q2⟩
          · rcases nm a1 b1 with q | q
            · exact (q (List.mem_singleton.mp q2)).elim
            · exact (q1 q).elim
      · have eb := List.mem_singleton.mp b1
        subst eb
        have na : a ≠ b := fun e => h1 (e ▸ a1)
        rw [leafD_xw na]
        constructor
        · intro h
          have e := (T.z a1 h2).mp (by omega)
          subst e
          exact ⟨na, List.mem_append_right _ (by rw [mkE_sy]; exact List.mem_cons_self)⟩
        · rintro ⟨_, q⟩
          rcases List.mem_append.mp q with q | q
          · rw [mkE_sy] at q; exact (nw _ q).elim
          · rcases mkE_inj na (List.mem_singleton.mp q) with ⟨e, _⟩ | ⟨e, _⟩
            · exact (na e).elim
            · rw [e, T.self h2]; omega
    · have ea := List.mem_singleton.mp a1
      subst ea
      rcases List.mem_append.mp hb with b1 | b1
      · have nb : b ≠ a := fun e => h1 (e ▸ b1)
        rw [leafD_wx nb]
        constructor
        · intro h
          have e := (T.z h2 b1).mp (by omega)
          subst e
          exact ⟨fun e => nb e.symm, List.mem_append_right _ List.mem_cons_self⟩
        · rintro ⟨_, q⟩
          rcases List.mem_append.mp q with q | q
          · exact (nw _ q).elim
          · rcases mkE_inj (fun e => nb e.symm) (List.mem_singleton.mp q) with ⟨_, e⟩ | ⟨_, e⟩
            · rw [e, T.self h2]; omega
            · exact (nb e).elim
      · rw [List.mem_singleton.mp b1, leafD_ww]
        simp
theorem Grow.nodupE {vs es d} (g : Grow vs es d) : es.Nodup := by
  induction g with
  | one a => simp
  | leaf w u g h1 h2 ih =>
    rw [List.nodup_append]
    refine ⟨ih, by simp, fun a ha b hb e => ?_⟩
    rw [List.mem_singleton.mp hb] at e
    subst e
    obtain ⟨q1, q2, _⟩ := g.ends _ ha
    unfold mkE at q1 q2
    dsimp only at q1 q2
    by_cases c : w < u
    · rw [if_neg (by omega)] at q1; exact h1 q1
    · rw [if_neg c] at q2; exact h1 q2
/-- places from 0 on, below n -/
def Vn (n : Nat) (a : Int) : Prop := 0 ≤ a ∧ a < n
instance (n : Nat) (a : Int) : Decidable (Vn n a) := inferInstanceAs (Decidable (_ ∧ _))
/-- a network: its edges in any order, its distances -/
structure Tr (n : Nat) (es : List Ed) (d : Int → Int → Int) : Prop where
  tm : TM (Vn n) d
  ends : ∀ e ∈ es, 0 ≤ e.1 ∧ e.1 < e.2 ∧ e.2 < n
  adj : ∀ {a b}, Vn n a → Vn n b → (d a b = 1 ↔ (a, b) ∈ es ∨ (b, a) ∈ es)
  len : es.length + 1 = n
  nd : es.Nodup
theorem Tr.perm {n : Nat} {es es' : List Ed} {d : Int → Int → Int} (t : Tr n es d) (p : es'.Perm es) : Tr n es' d where
  tm := t.tm
  ends := fun e he => t.ends e (p.mem_iff.mp he)
  adj := fun ha hb => by rw [p.mem_iff, p.mem_iff]; exact t.adj ha hb
  len := by rw [p.length_eq]; exact t.len
  nd := p.nodup_iff.mpr t.nd
theorem Grow.tr {vs es d} {n : Nat} (g : Grow vs es d) (h : ∀ x, x ∈ vs ↔ Vn n x) (hn : vs.length = n) : Tr n es d where
  tm := by have e : (fun x => x ∈ vs) = Vn n := funext fun x => propext (h x)
           rw [← e]; exact g.tm
  ends := fun e he => by
    obtain ⟨h1, h2, h3⟩ := g.ends e he
    exact ⟨((h _).mp h1).1, h3, ((h _).mp h2).2⟩
  adj := fun {a b} ha hb => by
    rw [g.adj a b ((h a).mpr ha) ((h b).mpr hb)]
    by_cases c : a = b
    · subst c
      constructor
      · intro z; exact (z.1 rfl).elim
      · intro z
        have := fun e he => (g.ends e he).2.2
        rcases z with z | z <;> (have := this _ z; dsimp only at this; omega)
    · rw [mkE_mem c fun e he => (g.ends e he).2.2]
      exact ⟨fun z => z.2, fun z => ⟨c, z⟩⟩
  len := by rw [g.len, hn]
  nd := g.nodupE
/-- a network that grows by given pairs -/
def growV (a : Int) (l : List (Int × Int)) : List Int := a :: l.map (·.1)
def growE (l : List (Int × Int)) : List Ed := l.map fun p => mkE p.1 p.2
def growD (l : List (Int × Int)) : Int → Int → Int := l.foldl (fun d p => leafD d p.1 p.2) fun _ _ => 0
def growOk (vs : List Int) : List (Int × Int) → Bool
  | [] => true
  | p :: l => !vs.contains p.1 && vs.contains p.2 && growOk (vs ++ [p.1]) l
theorem grow_of' : ∀ (l : List (Int × Int)) {vs es d}, Grow vs es d → growOk vs l = true → Grow (vs ++ l.map (·.1)) (es ++ growE l) (l.foldl (fun d p => leafD d p.1 p.2) d)
  | [], vs, es, d, g, _ => by simpa [growE] using g
  | p :: l, vs, es, d, g, h => by
    unfold growOk at h
    simp only [Bool.and_eq_true, Bool.not_eq_true', List.contains_eq_mem, decide_eq_true_eq, decide_eq_false_iff_not] at h
    have := grow_of' l (Grow.leaf p.1 p.2 g h.1.1 h.1.2) h.2
    simpa [growE] using this
theorem grow_of (a : Int) (l : List (Int × Int)) (h : growOk [a] l = true) : Grow (growV a l) (growE l) (growD l) := by
  have := grow_of' l (Grow.one a) h
  exact this
end Lf

/-! P2: networks as data, neighbours. -/
namespace Lf
open PySem PySem.Spec PyProof.Rows L2

def edD (e : Ed) : D := .tuple [.int e.1, .int e.2]
def netD (es : List Ed) : D := .tuple (es.map edD)
def lstI (l : List Int) : D := .list (l.map .int)
def app1 (g : List (List Int)) (i x : Int) : List (List Int) := g.set i.toNat (g.getD i.toNat [] ++ [x])
def nbStep (g : List (List Int)) (e : Ed) : List (List Int) := app1 (app1 g e.1 e.2) e.2 e.1
def nbs (n : Nat) (es : List Ed) : List (List Int) := es.foldl nbStep (List.replicate n [])
theorem app1_len (g : List (List Int)) (i x : Int) : (app1 g i x).length = g.length := by simp [app1]
theorem nbStep_len (g : List (List Int)) (e : Ed) : (nbStep g e).length = g.length := by simp [nbStep, app1_len]
theorem ixN_of {n : Nat} {i : Int} (h0 : 0 ≤ i) (h1 : i < n) : ixN n i = some i.toNat := by
  unfold ixN
  rw [if_pos h0, if_pos h1]
@[simp] theorem len_map {α β : Type} (f : α → β) (l : List α) : (List.map f l).length = l.length := List.length_map ..
/-- one append to an inner list -/
theorem nap_ev {i : Nat} {m m2 : M D} {ρ : EnvD} {g : List (List Int)} {k x a : Int} (h1 : m ρ = .ok (.int k, ρ)) (h2 : m2 ρ = .ok (.int x, ρ)) (hp : ρ[i]? = some (some (.lk (.int a)))) (h0 : 0 ≤ k) (hk : k < g.length) (hz : (g.getD k.toNat []).length < 1000000) :
    napM i m m2 ρ (g.map (fun l => l.map PyData.int)) = .nx ρ ((app1 g k x).map (fun l => l.map PyData.int)) := by
  have hkn : k.toNat < g.length := by omega
  have eg : g.getD k.toNat [] = g[k.toNat] := by simp [List.getD, hkn]
  unfold napM
  rw [h1]
  simp only [len_map, ixN_of h0 hk, h2, hp]
  rw [List.getElem?_map, List.getElem?_eq_getElem hkn]
  simp only [Option.map_some]
  have hl : ltM ((List.map PyData.int g[k.toNat]).length + 1) = true := by
    unfold ltM; rw [← eg]; exact decide_eq_true (by simp at hz ⊢; omega)
  rw [if_pos (by first | exact ⟨rfl, hl⟩ | exact ⟨trivial, hl⟩)]
  unfold app1
  rw [eg, List.map_set, List.map_append]
  rfl
def inN (n : Int) (e : Ed) : Prop := 0 ≤ e.1 ∧ e.1 < n ∧ 0 ≤ e.2 ∧ e.2 < n
/-- no inner list is longer than what was appended -/
def maxL (g : List (List Int)) (b : Nat) : Prop := ∀ l ∈ g, l.length ≤ b
theorem maxL_app {g : List (List Int)} {b : Nat} (h : maxL g b) (i x : Int) : maxL (app1 g i x) (b + 1) := by
  intro l hl
  unfold app1 at hl
  rcases List.mem_or_eq_of_mem_set hl with h1 | h1
  · have := h l h1; omega
  · subst h1
    by_cases hi : i.toNat < g.length
    · have e : g.getD i.toNat [] = g[i.toNat] := by simp [List.getD, hi]
      have := h _ (List.getElem_mem hi)
      rw [e]; simp; omega
    · have e : g.getD i.toNat [] = [] := by simp [List.getD, List.getElem?_eq_none (Nat.le_of_not_lt hi)]
      rw [e]; simp
theorem maxL_get {g : List (List Int)} {b : Nat} (h : maxL g b) (i : Nat) : (g.getD i []).length ≤ b := by
  by_cases hi : i < g.length
  · have e : g.getD i [] = g[i] := by simp [List.getD, hi]
    rw [e]; exact h _ (List.getElem_mem hi)
  · have e : g.getD i [] = [] := by simp [List.getD, List.getElem?_eq_none (Nat.le_of_not_lt hi)]
    rw [e]; simp
theorem seqD2_nx {f g : FnD} {ρ ρ' : EnvD} {dss dss' : List (List D)} (h : f ρ dss = .nx ρ' dss') : seqD2 f g ρ dss = g ρ' dss' := by unfold seqD2; rw [h]
theorem forDM_ok {i : Nat} {m : M (List D)} {set : D → EnvD → Option EnvD} {body : FnD} {ρ ρ1 : EnvD} {ds : List D} {dss : List (List D)} (h : m ρ = .ok (ds, ρ1)) (hp : pinEq ρ ρ1 i = true) : forDM i m set body ρ dss = forDD i set body ds ρ1 dss := by
  unfold forDM; rw [h]; simp only [hp, if_true]
theorem nb_gen (es : List Ed) (a : Int) : ∀ (l : List Ed) (g : List (List Int)) (b : Nat) (v2 v3 : Option S), (∀ e ∈ l, inN (es.length + 1 : Nat) e) → g.length = es.length + 1 → maxL g b → b + 2 * l.length ≤ 5000 →
      ∃ ρ', forDD 1 (gTupD 2 (gsCons (setFr 2) (gsCons (setFr 3) gsNil))) (seqD2 (napM 1 (varM 2) (varM 3)) (napM 1 (varM 3) (varM 2))) (l.map edD) [some (.fr (netD es)), some (.lk (.int a)), v2, v3, none] (g.map fun l => l.map PyData.int) = .nx ρ' ((l.foldl nbStep g).map fun l => l.map PyData.int) ∧ ρ'[1]? = some (some (.lk (.int a))) := by
    intro l
    induction l with
    | nil => intro g b v2 v3 _ _ _ _; exact ⟨_, rfl, rfl⟩
    | cons e l ih =>
      intro g b v2 v3 hv hg hm hb
      obtain ⟨h1, h2, h3, h4⟩ := hv e List.mem_cons_self
      rw [List.length_cons] at hb
      have m1 := maxL_app hm e.1 e.2
      obtain ⟨ρ', e1, e2⟩ := ih (nbStep g e) (b + 1 + 1) (some (.fr (.int e.1))) (some (.fr (.int e.2))) (fun e' he => hv e' (List.mem_cons_of_mem _ he)) (by rw [nbStep_len]; exact hg) (maxL_app m1 e.2 e.1) (by omega)
      refine ⟨ρ', ?_, e2⟩
      rw [List.map_cons]
      unfold forDD
      have hset : gTupD 2 (gsCons (setFr 2) (gsCons (setFr 3) gsNil)) (edD e) [some (.fr (netD es)), some (.lk (.int a)), v2, v3, none] = some [some (.fr (netD es)), some (.lk (.int a)), some (.fr (.int e.1)), some (.fr (.int e.2)), none] := by simp [edD]
      rw [hset]
      have hp : pinEq [some (.fr (netD es)), some (.lk (.int a)), v2, v3, none] [some (.fr (netD es)), some (.lk (.int a)), some (.fr (.int e.1)), some (.fr (.int e.2)), none] 1 = true := by simp [pinEq]
      simp only [hp, if_true]
      have b1 : seqD2 (napM 1 (varM 2) (varM 3)) (napM 1 (varM 3) (varM 2)) [some (.fr (netD es)), some (.lk (.int a)), some (.fr (.int e.1)), some (.fr (.int e.2)), none] (g.map fun l => l.map PyData.int) = .nx [some (.fr (netD es)), some (.lk (.int a)), some (.fr (.int e.1)), some (.fr (.int e.2)), none] ((nbStep g e).map fun l => l.map PyData.int) := by
        unfold seqD2
        rw [nap_ev (k := e.1) (x := e.2) (a := a) (by simp) (by simp) (by simp) h1 (by rw [hg]; exact h2) (by have := maxL_get hm e.1.toNat; omega)]
        simp only
        rw [nap_ev (k := e.2) (x := e.1) (a := a) (by simp) (by simp) (by simp) h3 (by rw [app1_len, hg]; exact h4) (by have := maxL_get m1 e.2.toNat; omega)]
        rfl
      rw [b1]
      exact e1
theorem nb_comp (es : List Ed) : ∀ (l : List D) (acc : List (List D)), acc.length + l.length ≤ 2000 → lcDp [4] (setFr 4) (lstM (M.pure [])) l acc [some (.fr (netD es)), none, none, none, none] = some (acc ++ List.replicate l.length [], [some (.fr (netD es)), none, none, none, none]) := by
  intro l
  induction l with
  | nil => intro acc _; simp [lcDp]
  | cons d l ih =>
    intro acc ha
    rw [List.length_cons] at ha
    have hz : ltM (acc.length + 1) = true := by unfold ltM; exact decide_eq_true (by omega)
    unfold lcDp
    have e1 : setFr 4 d [some (.fr (netD es)), none, none, none, none] = some [some (.fr (netD es)), none, none, none, some (.fr d)] := by simp
    rw [e1]
    have e2 : lstM (M.pure []) [some (.fr (netD es)), none, none, none, some (.fr d)] = .ok (.ow (.list []), [some (.fr (netD es)), none, none, none, some (.fr d)]) := by simp
    simp only [e2, hz, if_true]
    have e3 : wipeD [some (.fr (netD es)), none, none, none, some (.fr d)] [4] = [some (.fr (netD es)), none, none, none, none] := by simp
    rw [e3, ih _ (by simp; omega)]
    simp [List.replicate_succ]
theorem nb_range (es : List Ed) (hl : es.length ≤ 1000) : (rgM rg1 (consM (frz (op2F addS (frz (bltM lenS (consM (varM 0) (M.pure [])))) (M.pure (.int 1)))) (M.pure []))) [some (.fr (netD es)), none, none, none, none] = .ok (rangeD 0 (es.length + 1), [some (.fr (netD es)), none, none, none, none]) := by
  have h := rgM_1 (ms := consM (frz (op2F addS (frz (bltM lenS (consM (varM 0) (M.pure [])))) (M.pure (.int 1)))) (M.pure [])) (ρ := [some (.fr (netD es)), none, none, none, none]) (j := (es.length : Int) + 1) (by simp [netD]; rfl) (by omega) (by omega)
  rw [h]
  rfl
theorem neighbours_eq (es : List Ed) (hn : ∀ e ∈ es, inN (es.length + 1 : Nat) e) (hl : es.length ≤ 1000) : f_neighbours [netD es] = .ok (.ow (.list ((nbs (es.length + 1) es).map lstI))) := by
  unfold f_neighbours b_neighbours
  rw [dD1]
  have key : ∀ a : Int, ∃ ρ', forDD 1 (gTupD 2 (gsCons (setFr 2) (gsCons (setFr 3) gsNil))) (seqD2 (napM 1 (varM 2) (varM 3)) (napM 1 (varM 3) (varM 2))) (es.map edD) [some (.fr (netD es)), some (.lk (.int a)), none, none, none] ((List.replicate (es.length + 1) ([] : List Int)).map fun l => l.map PyData.int) = .nx ρ' ((nbs (es.length + 1) es).map fun l => l.map PyData.int) ∧ ρ'[1]? = some (some (.lk (.int a))) := by
    intro a
    exact nb_gen es a es (List.replicate (es.length + 1) []) 0 none none hn (by simp) (fun l hl => by rw [List.eq_of_mem_replicate hl]; exact Nat.le_refl _) (by omega)
  unfold deepM
  have hno : noIo [some (.fr (netD es)), none, none, none, none] = true := by simp [noIo]
  have hρ : (some (S.fr (netD es)) :: List.replicate (5 - 1) none) = [some (.fr (netD es)), none, none, none, none] := rfl
  rw [hρ, if_pos hno, nb_range es hl]
  simp only
  have e3 : wipeD [some (.fr (netD es)), none, none, none, none] [4] = [some (.fr (netD es)), none, none, none, none] := by simp
  have hrl : (rangeD 0 (es.length + 1)).length = es.length + 1 := by simp [rangeD]
  rw [e3, nb_comp es _ _ (by rw [hrl]; simp; omega), hrl]
  simp only [List.nil_append, List.length_cons, List.length_nil]
  rw [if_pos (by omega)]
  have e4 : backD [some (.fr (netD es)), none, none, none, none] [some (.fr (netD es)), none, none, none, none] [4] = [some (.fr (netD es)), none, none, none, none] := by simp
  rw [e4]
  rw [ddM_eq (s := .ow (.list ((nbs (es.length + 1) es).map lstI)))]
  · rfl
  · intro a
    obtain ⟨ρ', e1, e2⟩ := key a
    refine ⟨ρ', ?_⟩
    simp only [List.set_cons_succ, List.set_cons_zero]
    have e5 : seqM' (varM 0) [some (.fr (netD es)), some (.lk (.int a)), none, none, none] = .ok (es.map edD, [some (.fr (netD es)), some (.lk (.int a)), none, none, none]) := by simp [netD]
    have hp : pinEq [some (.fr (netD es)), some (.lk (.int a)), none, none, none] [some (.fr (netD es)), some (.lk (.int a)), none, none, none] 1 = true := by simp [pinEq]
    have er : (List.replicate (es.length + 1) ([] : List Int)).map (fun l => l.map PyData.int) = List.replicate (es.length + 1) [] := by simp
    rw [er] at e1
    rw [seqD2_nx ((forDM_ok e5 hp).trans e1)]
    simp only [retD, e2, List.map_map]
    rfl
end Lf

/-! EX: shapes of data, equality. -/
namespace Lf
open PySem PySem.Spec PyProof.Rows L2
def Shp (n : Nat) (d : D) : Prop := d.canLay0 = true ∧ d.depth ≤ n
theorem Shp.mono {n m : Nat} {d : D} (h : Shp n d) (k : n ≤ m) : Shp m d := ⟨h.1, Nat.le_trans h.2 k⟩
theorem Shp.shaped {n : Nat} {d : D} (h : Shp n d) (k : n ≤ 64 := by decide) : SeqAt.shaped d = true := by
  unfold SeqAt.shaped
  rw [h.1]
  simp only [Bool.true_and]
  exact decide_eq_true (Nat.le_trans h.2 k)
theorem shpAll {n : Nat} : ∀ {ds : List D}, (∀ d ∈ ds, Shp n d) → PyData.canLayAll0 ds = true ∧ PyData.depthAll ds ≤ n
  | [], _ => ⟨rfl, Nat.zero_le _⟩
  | d :: ds, h => by
    obtain ⟨h1, h2⟩ := h d List.mem_cons_self
    obtain ⟨h3, h4⟩ := shpAll fun e he => h e (List.mem_cons_of_mem _ he)
    constructor
    · simp [PyData.canLayAll0, h1, h3]
    · simp only [PyData.depthAll]; omega
theorem Shp.list {n : Nat} {ds : List D} (h : ∀ d ∈ ds, Shp n d) : Shp (n + 1) (.list ds) := by
  obtain ⟨h1, h2⟩ := shpAll h
  exact ⟨by simpa [PyData.canLay0] using h1, by simp only [PyData.depth]; omega⟩
theorem Shp.tup {n : Nat} {ds : List D} (h : ∀ d ∈ ds, Shp n d) : Shp (n + 1) (.tuple ds) := by
  obtain ⟨h1, h2⟩ := shpAll h
  exact ⟨by simpa [PyData.canLay0] using h1, by simp only [PyData.depth]; omega⟩
theorem Shp.int (n : Nat) (i : Int) : Shp n (.int i) := ⟨rfl, by simp [PyData.depth]⟩
theorem Shp.bool (n : Nat) (i : Bool) : Shp n (.bool i) := ⟨rfl, by simp [PyData.depth]⟩
theorem Shp.none (n : Nat) : Shp n .none := ⟨rfl, by simp [PyData.depth]⟩
theorem Shp.ints (ns : List Int) : Shp 1 (.list (ns.map .int)) := Shp.list fun d hd => by
  obtain ⟨i, _, rfl⟩ := List.mem_map.mp hd
  exact Shp.int 0 i
theorem Shp.intsT (ns : List Int) : Shp 1 (.tuple (ns.map .int)) := Shp.tup fun d hd => by
  obtain ⟨i, _, rfl⟩ := List.mem_map.mp hd
  exact Shp.int 0 i
theorem Shp.inv {n : Nat} {ds : List D} : (Shp n (.list ds) ∨ Shp n (.tuple ds)) → ∀ d ∈ ds, Shp (n - 1) d := by
  have go : ∀ {ds : List D} {m : Nat}, PyData.canLayAll0 ds = true → PyData.depthAll ds ≤ m → ∀ d ∈ ds, Shp m d := by
    intro ds
    induction ds with
    | nil => intro m _ _ d hd; cases hd
    | cons e ds ih =>
      intro m h1 h2 d hd
      simp only [PyData.canLayAll0, Bool.and_eq_true] at h1
      simp only [PyData.depthAll] at h2
      rcases List.mem_cons.mp hd with rfl | hd
      · exact ⟨h1.1, by omega⟩
      · exact ih h1.2 (by omega) d hd
  rintro (h | h) d hd
  · obtain ⟨h1, h2⟩ := h
    simp only [PyData.canLay0] at h1
    simp only [PyData.depth] at h2
    exact go h1 (by omega) d hd
  · obtain ⟨h1, h2⟩ := h
    simp only [PyData.canLay0] at h1
    simp only [PyData.depth] at h2
    exact go h1 (by omega) d hd
@[simp] theorem shaped_int (i : Int) : SeqAt.shaped (.int i) = true := (Shp.int 0 i).shaped
@[simp] theorem shaped_bool (i : Bool) : SeqAt.shaped (.bool i) = true := (Shp.bool 0 i).shaped
@[simp] theorem shaped_none : SeqAt.shaped .none = true := (Shp.none 0).shaped
@[simp] theorem shaped_ints (ns : List Int) : SeqAt.shaped (.list (ns.map .int)) = true := (Shp.ints ns).shaped
@[simp] theorem shaped_intsT (ns : List Int) : SeqAt.shaped (.tuple (ns.map .int)) = true := (Shp.intsT ns).shaped
@[simp] theorem shaped_nil : SeqAt.shaped (.list []) = true := shaped_ints []
@[simp] theorem shaped_nilT : SeqAt.shaped (.tuple []) = true := shaped_intsT []
section
@[simp] theorem eqv_none_none   : PyData.eqv (PyData.none) (PyData.none) = true := (Eq.refl _).trans (Eq.refl _)
@[simp] theorem eqv_none_bool  (b : Bool) : PyData.eqv (PyData.none) (PyData.bool b) = false := (Eq.refl _).trans (Eq.refl _)
@[simp] theorem eqv_none_int  (b : Int) : PyData.eqv (PyData.none) (PyData.int b) = false := (Eq.refl _).trans (Eq.refl _)
@[simp] theorem eqv_none_str  (b : Str) : PyData.eqv (PyData.none) (PyData.str b) = false := (Eq.refl _).trans (Eq.refl _)
@[simp] theorem eqv_none_list  (b : List D) : PyData.eqv (PyData.none) (PyData.list b) = false := (Eq.refl _).trans (Eq.refl _)
@[simp] theorem eqv_none_tuple  (b : List D) : PyData.eqv (PyData.none) (PyData.tuple b) = false := (Eq.refl _).trans (Eq.refl _)
@[simp] theorem eqv_bool_none (a : Bool)  : PyData.eqv (PyData.bool a) (PyData.none) = false := (Eq.refl _).trans (Eq.refl _)
@[simp] theorem eqv_bool_bool (a : Bool) (b : Bool) : PyData.eqv (PyData.bool a) (PyData.bool b) = (a == b) := (Eq.refl _).trans (Eq.refl _)
@[simp] theorem eqv_bool_int (a : Bool) (b : Int) : PyData.eqv (PyData.bool a) (PyData.int b) = ((if a then 1 else 0) == b) := (Eq.refl _).trans (Eq.refl _)
@[simp] theorem eqv_bool_str (a : Bool) (b : Str) : PyData.eqv (PyData.bool a) (PyData.str b) = false := (Eq.refl _).trans (Eq.refl _)
@[simp] theorem eqv_bool_list (a : Bool) (b : List D) : PyData.eqv (PyData.bool a) (PyData.list b) = false := (Eq.refl _).trans (Eq.refl _)
@[simp] theorem eqv_bool_tuple (a : Bool) (b : List D) : PyData.eqv (PyData.bool a) (PyData.tuple b) = false := (Eq.refl _).trans (Eq.refl _)
@[simp] theorem eqv_int_none (a : Int)  : PyData.eqv (PyData.int a) (PyData.none) = false := (Eq.refl _).trans (Eq.refl _)
@[simp] theorem eqv_int_bool (a : Int) (b : Bool) : PyData.eqv (PyData.int a) (PyData.bool b) = (a == (if b then 1 else 0)) := (Eq.refl _).trans (Eq.refl _)
@[simp] theorem eqv_int_int (a : Int) (b : Int) : PyData.eqv (PyData.int a) (PyData.int b) = (a == b) := (Eq.refl _).trans (Eq.refl _)
@[simp] theorem eqv_int_str (a : Int) (b : Str) : PyData.eqv (PyData.int a) (PyData.str b) = false := (Eq.refl _).trans (Eq.refl _)
@[simp] theorem eqv_int_list (a : Int) (b : List D) : PyData.eqv (PyData.int a) (PyData.list b) = false := (Eq.refl _).trans (Eq.refl _)
@[simp] theorem eqv_int_tuple (a : Int) (b : List D) : PyData.eqv (PyData.int a) (PyData.tuple b) = false := (Eq.refl _).trans (Eq.refl _)
@[simp] theorem eqv_str_none (a : Str)  : PyData.eqv (PyData.str a) (PyData.none) = false := (Eq.refl _).trans (Eq.refl _)
@[simp] theorem eqv_str_bool (a : Str) (b : Bool) : PyData.eqv (PyData.str a) (PyData.bool b) = false := (Eq.refl _).trans (Eq.refl _)
@[simp] theorem eqv_str_int (a : Str) (b : Int) : PyData.eqv (PyData.str a) (PyData.int b) = false := (Eq.refl _).trans (Eq.refl _)
@[simp] theorem eqv_str_str (a : Str) (b : Str) : PyData.eqv (PyData.str a) (PyData.str b) = (a == b) := (Eq.refl _).trans (Eq.refl _)
@[simp] theorem eqv_str_list (a : Str) (b : List D) : PyData.eqv (PyData.str a) (PyData.list b) = false := (Eq.refl _).trans (Eq.refl _)
@[simp] theorem eqv_str_tuple (a : Str) (b : List D) : PyData.eqv (PyData.str a) (PyData.tuple b) = false := (Eq.refl _).trans (Eq.refl _)
@[simp] theorem eqv_list_none (a : List D)  : PyData.eqv (PyData.list a) (PyData.none) = false := (Eq.refl _).trans (Eq.refl _)
@[simp] theorem eqv_list_bool (a : List D) (b : Bool) : PyData.eqv (PyData.list a) (PyData.bool b) = false := (Eq.refl _).trans (Eq.refl _)
@[simp] theorem eqv_list_int (a : List D) (b : Int) : PyData.eqv (PyData.list a) (PyData.int b) = false := (Eq.refl _).trans (Eq.refl _)
@[simp] theorem eqv_list_str (a : List D) (b : Str) : PyData.eqv (PyData.list a) (PyData.str b) = false := (Eq.refl _).trans (Eq.refl _)
@[simp] theorem eqv_list_list (a : List D) (b : List D) : PyData.eqv (PyData.list a) (PyData.list b) = PyData.eqvAll a b := (Eq.refl _).trans (Eq.refl _)
@[simp] theorem eqv_list_tuple (a : List D) (b : List D) : PyData.eqv (PyData.list a) (PyData.tuple b) = false := (Eq.refl _).trans (Eq.refl _)
@[simp] theorem eqv_tuple_none (a : List D)  : PyData.eqv (PyData.tuple a) (PyData.none) = false := (Eq.refl _).trans (Eq.refl _)
@[simp] theorem eqv_tuple_bool (a : List D) (b : Bool) : PyData.eqv (PyData.tuple a) (PyData.bool b) = false := (Eq.refl _).trans (Eq.refl _)
@[simp] theorem eqv_tuple_int (a : List D) (b : Int) : PyData.eqv (PyData.tuple a) (PyData.int b) = false := (Eq.refl _).trans (Eq.refl _)
@[simp] theorem eqv_tuple_str (a : List D) (b : Str) : PyData.eqv (PyData.tuple a) (PyData.str b) = false := (Eq.refl _).trans (Eq.refl _)
@[simp] theorem eqv_tuple_list (a : List D) (b : List D) : PyData.eqv (PyData.tuple a) (PyData.list b) = false := (Eq.refl _).trans (Eq.refl _)
@[simp] theorem eqv_tuple_tuple (a : List D) (b : List D) : PyData.eqv (PyData.tuple a) (PyData.tuple b) = PyData.eqvAll a b := (Eq.refl _).trans (Eq.refl _)
@[simp] theorem eqvA_nil : PyData.eqvAll [] [] = true := (Eq.refl _).trans (Eq.refl _)
@[simp] theorem eqvA_cons (a b : D) (x y : List D) : PyData.eqvAll (a :: x) (b :: y) = (PyData.eqv a b && PyData.eqvAll x y) := (Eq.refl _).trans (Eq.refl _)
@[simp] theorem eqvA_nc (b : D) (y : List D) : PyData.eqvAll [] (b :: y) = false := (Eq.refl _).trans (Eq.refl _)
@[simp] theorem eqvA_cn (b : D) (y : List D) : PyData.eqvAll (b :: y) [] = false := (Eq.refl _).trans (Eq.refl _)
end
theorem eqvAll_ints : ∀ ns ms : List Int, PyData.eqvAll (ns.map .int) (ms.map .int) = decide (ns = ms)
  | [], [] => by simp
  | [], _ :: _ => by simp
  | _ :: _, [] => by simp
  | n :: ns, m :: ms => by
    simp only [List.map_cons, eqvA_cons, eqv_int_int, eqvAll_ints ns ms, List.cons.injEq, Bool.decide_and]
    rfl
end Lf

/-! P3: parents_from. -/
namespace Lf
open PySem PySem.Spec PyProof.Rows L2
abbrev Fnd := List (Int × Option Int)
def parD : Option Int → D
  | none => .none
  | some p => .int p
def fD (e : Int × Option Int) : D × D := (.int e.1, parD e.2)
def dctF (F : Fnd) : D := .dict (F.map fD)
def vis (h : Int) (st : Fnd × List Int) (o : Int) : Fnd × List Int := if o ∈ st.1.map (·.1) then st else (st.1 ++ [(o, some h)], st.2 ++ [o])
def bfs (adj : List (List Int)) : Nat → Fnd → List Int → Option Fnd
  | 0, _, _ => none
  | _ + 1, F, [] => some F
  | k + 1, F, h :: W => bfs adj k ((adj.getD h.toNat []).foldl (vis h) (F, W)).1 ((adj.getD h.toNat []).foldl (vis h) (F, W)).2
theorem isTd_F (F : Fnd) : isTd (F.map fD) = false := by
  cases F with
  | nil => rfl
  | cons e F => rfl
theorem getK_F (F : Fnd) (o : Int) : (getK (F.map fD) (.inl o)).isSome = decide (o ∈ F.map (·.1)) := by
  unfold getK
  induction F with
  | nil => rfl
  | cons e F ih =>
    rw [List.map_cons, List.find?_cons]
    by_cases he : e.1 = o
    · have : decide (keyOf (fD e).1 = some (Sum.inl o)) = true := by simp [fD, keyOf, he]
      rw [this]
      simp [he]
    · have : decide (keyOf (fD e).1 = some (Sum.inl o)) = false := by simp [fD, keyOf, he]
      rw [this]
      simp only [ih, List.map_cons, List.mem_cons]
      have : ¬ o = e.1 := fun z => he z.symm
      simp [this]
/-- the environment within parents_from -/
abbrev envP (net pl : D) (near : Option S) (F : Fnd) (W : List Int) (h o : Option S) : EnvD := [some (.fr net), some (.fr pl), near, some (.ow (dctF F)), some (.ow (lstI W)), h, o]
theorem ltM_of {n : Nat} (h : n ≤ 16777216) : ltM n = true := by unfold ltM; exact decide_eq_true h
theorem vis_body {net pl : D} {near : Option S} {F : Fnd} {W : List Int} {h o : Int} (hF : F.length ≤ 10000000) (hW : W.length ≤ 10000000) :
    ifM (tst (frz (op2W 3 (dinS false) (varM 6)))) (seqM (dstM 3 (varM 5) (varM 6)) (exprM (appM 4 (varM 6)))) Out.nx (envP net pl near F W (some (.fr (.int h))) (some (.fr (.int o)))) = .nx (envP net pl near (vis h (F, W) o).1 (vis h (F, W) o).2 (some (.fr (.int h))) (some (.fr (.int o)))) := by
  have e1 : tst (frz (op2W 3 (dinS false) (varM 6))) (envP net pl near F W (some (.fr (.int h))) (some (.fr (.int o)))) = .ok (!decide (o ∈ F.map (·.1)), envP net pl near F W (some (.fr (.int h))) (some (.fr (.int o)))) := by
    have := getK_F F o
    simp [dinS, dctF, keyOf, isTd_F]
    rw [← Option.not_isSome, this]
  have e2 : dstM 3 (varM 5) (varM 6) (envP net pl near F W (some (.fr (.int h))) (some (.fr (.int o)))) = if o ∈ F.map (·.1) then dstM 3 (varM 5) (varM 6) (envP net pl near F W (some (.fr (.int h))) (some (.fr (.int o)))) else .nx (envP net pl near (F ++ [(o, some h)]) W (some (.fr (.int h))) (some (.fr (.int o)))) := by
    split
    · rfl
    · rename_i hn
      have hg : (getK (F.map fD) (.inl o)).isSome = false := by rw [getK_F]; exact decide_eq_false hn
      have hd : dstD (.int o) (.int h) (dctF F) = some (dctF (F ++ [(o, some h)])) := by
        unfold dstD dctF
        simp only [keyOf, isTd_F]
        rw [if_neg (by decide), if_pos (ltM_of (by simp; omega))]
        unfold putKD
        rw [if_neg (by rw [hg]; decide)]
        simp [fD, parD, keyD]
      simp [hd]
  rw [ifM_ev, e1, kifO_ok]
  by_cases hm : o ∈ F.map (·.1)
  · simp [vis, hm]
  · rw [if_neg hm] at e2
    rw [decide_eq_false hm, show (!false) = true from rfl, if_pos rfl, seq_ev, e2, thn_nx]
    have hz : ltM (W.length + 1) = true := ltM_of (by omega)
    simp [vis, hm, lstI, hz]
theorem vis_loop {net pl : D} {near : Option S} {h : Int} : ∀ (l : List Int) (F : Fnd) (W : List Int) (o : Option S), F.length + l.length ≤ 10000000 → W.length + l.length ≤ 10000000 → ∃ o', forD (setFr 6) (ifM (tst (frz (op2W 3 (dinS false) (varM 6)))) (seqM (dstM 3 (varM 5) (varM 6)) (exprM (appM 4 (varM 6)))) Out.nx) (l.map .int) (envP net pl near F W (some (.fr (.int h))) o) = .nx (envP net pl near (l.foldl (vis h) (F, W)).1 (l.foldl (vis h) (F, W)).2 (some (.fr (.int h))) o')
  | [], F, W, o, _, _ => ⟨o, rfl⟩
  | x :: l, F, W, o, hF, hW => by
    rw [List.length_cons] at hF hW
    have hv : (vis h (F, W) x).1.length ≤ F.length + 1 ∧ (vis h (F, W) x).2.length ≤ W.length + 1 := by unfold vis; split <;> simp
    obtain ⟨o', e⟩ := vis_loop (net := net) (pl := pl) (near := near) (h := h) l (vis h (F, W) x).1 (vis h (F, W) x).2 (some (.fr (.int x))) (by omega) (by omega)
    refine ⟨o', ?_⟩
    rw [List.map_cons]
    unfold forD
    have hs : setFr 6 (.int x) (envP net pl near F W (some (.fr (.int h))) o) = some (envP net pl near F W (some (.fr (.int h))) (some (.fr (.int x)))) := by simp
    rw [hs]
    simp only [vis_body (net := net) (pl := pl) (near := near) (h := h) (o := x) (F := F) (W := W) (by omega) (by omega)]
    exact e
theorem fold_vis_len (h : Int) : ∀ (l : List Int) (st : Fnd × List Int), (l.foldl (vis h) st).1.length ≤ st.1.length + l.length ∧ (l.foldl (vis h) st).2.length ≤ st.2.length + l.length
  | [], st => ⟨Nat.le_refl _, Nat.le_refl _⟩
  | x :: l, st => by
    have hv : (vis h st x).1.length ≤ st.1.length + 1 ∧ (vis h st x).2.length ≤ st.2.length + 1 := by unfold vis; split <;> simp
    have := fold_vis_len h l (vis h st x)
    rw [List.length_cons, List.foldl_cons]
    omega
theorem fold_vis_mem (h : Int) {P : Int → Prop} : ∀ (l : List Int) (st : Fnd × List Int), (∀ x ∈ l, P x) → (∀ x ∈ st.2, P x) → ∀ x ∈ (l.foldl (vis h) st).2, P x
  | [], st, _, h2 => h2
  | y :: l, st, h1, h2 => by
    rw [List.foldl_cons]
    refine fold_vis_mem h l _ (fun x hx => h1 x (List.mem_cons_of_mem _ hx)) ?_
    unfold vis
    split
    · exact h2
    · intro x hx
      rcases List.mem_append.mp hx with hx | hx
      · exact h2 x hx
      · rw [List.mem_singleton.mp hx]; exact h1 y List.mem_cons_self
theorem parents_loop {net pl : D} {adj : List (List Int)} {B : Nat} (hB : maxL adj B) (hr : ∀ l ∈ adj, ∀ x ∈ l, 0 ≤ x ∧ x < adj.length) : ∀ (k : Nat) (nr : Option S) (F F' : Fnd) (W : List Int) (h o : Option S), (nr = some (.fr (.list (adj.map lstI))) ∨ nr = some (.ow (.list (adj.map lstI)))) → (∀ x ∈ W, 0 ≤ x ∧ x < adj.length) → F.length + k * B ≤ 5000000 → W.length + k * B ≤ 5000000 → bfs adj k F W = some F' →
    ∃ nr' h' o' W', whD (tst (frz (op2V 4 neS (frz (lstM (M.pure [])))))) (seqM (setM 5 (popAtM 4 (M.pure (.int 0)))) (forM (seqM' (frz (op2F itemS (varM 2) (varM 5)))) (setFr 6) (ifM (tst (frz (op2W 3 (dinS false) (varM 6)))) (seqM (dstM 3 (varM 5) (varM 6)) (exprM (appM 4 (varM 6)))) Out.nx))) k (envP net pl nr F W h o) = .nx (envP net pl nr' F' W' h' o') := by
  intro k
  induction k with
  | zero => intro nr F F' W h o _ _ _ _ e; cases e
  | succ k ih =>
    intro nr F F' W h o hnr hw hF hW e
    rw [Nat.succ_mul] at hF hW
    unfold whD
    cases W with
    | nil =>
      cases e
      have e1 : tst (frz (op2V 4 neS (frz (lstM (M.pure []))))) (envP net pl nr F [] h o) = .ok (false, envP net pl nr F [] h o) := by
        simp [lstI]
      rw [e1]
      exact ⟨nr, h, o, [], rfl⟩
    | cons x W =>
      have e1 : tst (frz (op2V 4 neS (frz (lstM (M.pure []))))) (envP net pl nr F (x :: W) h o) = .ok (true, envP net pl nr F (x :: W) h o) := by
        have := shaped_ints (x :: W)
        rw [List.map_cons] at this
        simp [lstI, this]
      rw [e1]
      simp only
      obtain ⟨hx0, hx1⟩ := hw x List.mem_cons_self
      have hxn : x.toNat < adj.length := by omega
      have hA : adj.getD x.toNat [] = adj[x.toNat] := by simp [List.getD, hxn]
      have hAl : (adj.getD x.toNat []).length ≤ B := maxL_get hB _
      have e2 : setM 5 (popAtM 4 (M.pure (.int 0))) (envP net pl nr F (x :: W) h o) = .nx (envP net pl nr F W (some (.fr (.int x))) o) := by
        simp [popAtS, lstI, popAtD, ixN]
      have e3 : seqM' (frz (op2F itemS (varM 2) (varM 5))) (envP net pl nr F W (some (.fr (.int x))) o) = .ok ((adj.getD x.toNat []).map .int, envP net pl (some (.fr (.list (adj.map lstI)))) F W (some (.fr (.int x))) o) := by
        have : atI (adj.map lstI) x = some (lstI (adj.getD x.toNat [])) := by
          rw [atI_of (j := x.toNat) (by rw [List.length_map]; exact ixN_of hx0 hx1), List.getElem?_map, List.getElem?_eq_getElem hxn, hA]; rfl
        rcases hnr with rfl | rfl <;> simp [this, lstI]
      rw [seq_ev, e2, thn_nx, for_ev, e3, fr_ok]
      rw [List.length_cons] at hW
      obtain ⟨o', e4⟩ := vis_loop (net := net) (pl := pl) (near := some (.fr (.list (adj.map lstI)))) (h := x) (adj.getD x.toNat []) F W o (by omega) (by omega)
      rw [e4]
      simp only
      have hl := fold_vis_len x (adj.getD x.toNat []) (F, W)
      simp only at hl
      refine ih _ _ F' _ _ _ (.inl rfl) ?_ (by omega) (by omega) e
      refine fold_vis_mem x _ _ (fun y hy => ?_) fun y hy => hw y (List.mem_cons_of_mem _ hy)
      rw [hA] at hy
      exact hr _ (List.getElem_mem hxn) y hy
theorem nbs_len (n : Nat) (es : List Ed) : (nbs n es).length = n := by
  unfold nbs
  have : ∀ (l : List Ed) (g : List (List Int)), (l.foldl nbStep g).length = g.length := by
    intro l
    induction l with
    | nil => intro g; rfl
    | cons e l ih => intro g; rw [List.foldl_cons, ih, nbStep_len]
  rw [this]; simp
theorem nbs_maxL (n : Nat) (es : List Ed) : maxL (nbs n es) (2 * es.length) := by
  unfold nbs
  have : ∀ (l : List Ed) (g : List (List Int)) (b : Nat), maxL g b → maxL (l.foldl nbStep g) (b + 2 * l.length) := by
    intro l
    induction l with
    | nil => intro g b h; exact h
    | cons e l ih =>
      intro g b h
      have := ih (nbStep g e) (b + 1 + 1) (maxL_app (maxL_app h e.1 e.2) e.2 e.1)
      rw [List.foldl_cons, List.length_cons]
      intro x hx
      have := this x hx
      omega
  have h := this es (List.replicate n []) 0 (fun l hl => by rw [List.eq_of_mem_replicate hl]; exact Nat.le_refl _)
  rwa [Nat.zero_add] at h
theorem app1_mem {g : List (List Int)} {i x : Int} {P : Int → Prop} (h : ∀ l ∈ g, ∀ y ∈ l, P y) (hx : P x) : ∀ l ∈ app1 g i x, ∀ y ∈ l, P y := by
  intro l hl y hy
  unfold app1 at hl
  rcases List.mem_or_eq_of_mem_set hl with h1 | h1
  · exact h l h1 y hy
  · subst h1
    rcases List.mem_append.mp hy with hy | hy
    · by_cases hi : i.toNat < g.length
      · have e : g.getD i.toNat [] = g[i.toNat] := by simp [List.getD, hi]
        rw [e] at hy
        exact h _ (List.getElem_mem hi) y hy
      · have e : g.getD i.toNat [] = [] := by simp [List.getD, List.getElem?_eq_none (Nat.le_of_not_lt hi)]
        rw [e] at hy; cases hy
    · rw [List.mem_singleton.mp hy]; exact hx
theorem nbs_mem {n : Nat} {es : List Ed} (hn : ∀ e ∈ es, inN (n : Nat) e) : ∀ l ∈ nbs n es, ∀ y ∈ l, 0 ≤ y ∧ y < (n : Int) := by
  unfold nbs
  have : ∀ (l : List Ed) (g : List (List Int)), (∀ e ∈ l, inN (n : Nat) e) → (∀ l ∈ g, ∀ y ∈ l, 0 ≤ y ∧ y < (n : Int)) → ∀ k ∈ l.foldl nbStep g, ∀ y ∈ k, 0 ≤ y ∧ y < (n : Int) := by
    intro l
    induction l with
    | nil => intro g _ h; exact h
    | cons e l ih =>
      intro g hl h
      obtain ⟨h1, h2, h3, h4⟩ := hl e List.mem_cons_self
      rw [List.foldl_cons]
      exact ih _ (fun e' he => hl e' (List.mem_cons_of_mem _ he)) (app1_mem (app1_mem h ⟨h3, h4⟩) ⟨h1, h2⟩)
  exact this es _ hn fun l hl y hy => by rw [List.eq_of_mem_replicate hl] at hy; cases hy
/-- what parents_from gives -/
theorem parents_eq {es : List Ed} {p : Int} {F : Fnd} (hn : ∀ e ∈ es, inN (es.length + 1 : Nat) e) (hl : es.length ≤ 100) (hp0 : 0 ≤ p) (hp1 : p < es.length + 1) (hb : bfs (nbs (es.length + 1) es) 1000 [(p, none)] [p] = some F) :
    f_parents_from [netD es, .int p] = .ok (.ow (dctF F)) := by
  unfold f_parents_from b_parents_from
  rw [dD2]
  have e1 : parM [2, 3, 4] (consF (callM f_neighbours (consM (varM 0) (M.pure []))) (consF (disp1M (varM 1) (M.pure .none)) (consF (lstM (consM (varM 1) (M.pure []))) (M.pure [])))) (some (.fr (netD es)) :: some (.fr (.int p)) :: List.replicate (7 - 2) none) = .nx [some (.fr (netD es)), some (.fr (.int p)), some (.ow (.list ((nbs (es.length + 1) es).map lstI))), some (.ow (dctF [(p, none)])), some (.ow (lstI [p])), none, none] := by
    simp [neighbours_eq es hn (by omega), keyOf, keyD, dctF, fD, parD, lstI, List.replicate_succ]
  have hr : ∀ l ∈ nbs (es.length + 1) es, ∀ x ∈ l, 0 ≤ x ∧ x < (nbs (es.length + 1) es).length := by rw [nbs_len]; exact nbs_mem hn
  have hm := nbs_maxL (es.length + 1) es
  obtain ⟨nr', h', o', W', e2⟩ := parents_loop (net := netD es) (pl := .int p) hm hr 1000 (some (.ow (.list ((nbs (es.length + 1) es).map lstI)))) [(p, none)] F [p] none none (.inr rfl) (fun x hx => by rw [List.mem_singleton.mp hx, nbs_len]; exact ⟨hp0, by omega⟩) (by simp; omega) (by simp; omega) hb
  rw [seq_ev, e1, thn_nx, seq_ev, fuel, e2]
  simp
end Lf

/-! P4: joining places edge by edge; the places that a search reaches. -/
namespace Lf
open PySem PySem.Spec PyProof.Rows L2
def gl (g : List Int) (i : Int) : Int := g.getD i.toNat 0
def joinL (g : List Int) (e : Ed) : List Int := g.map fun x => if x = gl g e.2 then gl g e.1 else x
def lab (n : Nat) (es : List Ed) : List Int := es.foldl joinL ((List.range n).map fun (i : Nat) => (i : Int))
def uf : List Ed → List Int → Option (List Int)
  | [], g => some g
  | e :: r, g => if gl g e.1 = gl g e.2 then none else uf r (joinL g e)
theorem joinL_len (g : List Int) (e : Ed) : (joinL g e).length = g.length := by simp [joinL]
theorem gl_in {g : List Int} {i : Int} (h0 : 0 ≤ i) (h1 : i < g.length) : gl g i ∈ g := by
  unfold gl
  have h : i.toNat < g.length := by omega
  have e : g.getD i.toNat 0 = g[i.toNat] := by simp [List.getD, h]
  rw [e]; exact List.getElem_mem h
theorem gl_join {g : List Int} {e : Ed} {i : Int} (h0 : 0 ≤ i) (h1 : i < g.length) : gl (joinL g e) i = if gl g i = gl g e.2 then gl g e.1 else gl g i := by
  have h : i.toNat < g.length := by omega
  have e1 : gl (joinL g e) i = (joinL g e)[i.toNat]'(by rw [joinL_len]; exact h) := by unfold gl; simp [List.getD, joinL_len, h]
  have e2 : gl g i = g[i.toNat] := by unfold gl; simp [List.getD, h]
  rw [e1, e2]
  simp [joinL]
/-- a function that is alike at the ends of each edge is alike where the labels are -/
theorem lab_alike {n : Nat} {χ : Int → Prop} : ∀ (es : List Ed) (g : List Int), g.length = n → (∀ e ∈ es, inN n e) → (∀ e ∈ es, (χ e.1 ↔ χ e.2)) → (∀ u v : Int, 0 ≤ u → u < n → 0 ≤ v → v < n → gl g u = gl g v → (χ u ↔ χ v)) →
    ∀ u v : Int, 0 ≤ u → u < n → 0 ≤ v → v < n → gl (es.foldl joinL g) u = gl (es.foldl joinL g) v → (χ u ↔ χ v)
  | [], g, _, _, _, h => h
  | e :: es, g, hg, hn, he, h => by
    obtain ⟨a1, a2, a3, a4⟩ := hn e List.mem_cons_self
    have hx := he e List.mem_cons_self
    refine lab_alike es (joinL g e) (by rw [joinL_len]; exact hg) (fun e' h' => hn e' (List.mem_cons_of_mem _ h')) (fun e' h' => he e' (List.mem_cons_of_mem _ h')) fun u v hu hu2 hv hv2 q => ?_
    rw [gl_join hu (by omega), gl_join hv (by omega)] at q
    split at q
    · rename_i hu3
      have c1 := h u e.2 hu hu2 a3 a4 hu3
      split at q
      · rename_i hv3
        have c2 := h v e.2 hv hv2 a3 a4 hv3
        exact c1.trans c2.symm
      · have c2 := h e.1 v a1 a2 hv hv2 q
        exact (c1.trans hx.symm).trans c2
    · split at q
      · rename_i hv3
        have c2 := h v e.2 hv hv2 a3 a4 hv3
        have c1 := h u e.1 hu hu2 a1 a2 q
        exact (c1.trans hx).trans c2.symm
      · exact h u v hu hu2 hv hv2 q
/-- the labels are alike at the ends of each edge -/
theorem lab_edge {n : Nat} : ∀ (es : List Ed) (g : List Int), g.length = n → (∀ e ∈ es, inN n e) → (∀ u v : Int, 0 ≤ u → u < n → 0 ≤ v → v < n → gl g u = gl g v → gl (es.foldl joinL g) u = gl (es.foldl joinL g) v) ∧ ∀ e ∈ es, gl (es.foldl joinL g) e.1 = gl (es.foldl joinL g) e.2
  | [], g, _, _ => ⟨fun u v _ _ _ _ h => h, fun e he => nomatch he⟩
  | e :: es, g, hg, hn => by
    obtain ⟨a1, a2, a3, a4⟩ := hn e List.mem_cons_self
    obtain ⟨i1, i2⟩ := lab_edge es (joinL g e) (by rw [joinL_len]; exact hg) fun e' h' => hn e' (List.mem_cons_of_mem _ h')
    refine ⟨fun u v hu hu2 hv hv2 q => i1 u v hu hu2 hv hv2 ?_, fun e' he' => ?_⟩
    · rw [gl_join hu (by omega), gl_join hv (by omega), q]
    · rcases List.mem_cons.mp he' with rfl | he'
      · refine i1 _ _ a1 a2 a3 a4 ?_
        rw [gl_join a1 (by omega), gl_join a3 (by omega), if_pos rfl]
        split <;> rfl
      · exact i2 e' he'
/-- how many labels there are -/
def cnt (n : Nat) (g : List Int) : Nat := ((List.range n).filter fun (l : Nat) => decide ((l : Int) ∈ g)).length
theorem filter_one {p q : Nat → Bool} {a : Nat} : ∀ {l : List Nat}, l.Nodup → a ∈ l → p a = true → q a = false → (∀ b ∈ l, b ≠ a → p b = q b) → (l.filter p).length = (l.filter q).length + 1
  | [], _, h, _, _, _ => nomatch h
  | b :: l, nd, h, hp, hq, hs => by
    obtain ⟨n1, n2⟩ := List.nodup_cons.mp nd
    rcases List.mem_cons.mp h with rfl | h
    · have : l.filter p = l.filter q := List.filter_congr fun c hc => hs c (List.mem_cons_of_mem _ hc) fun z => n1 (z ▸ hc)
      rw [List.filter_cons, List.filter_cons, hp, hq, this]
      simp
    · have hb : b ≠ a := fun z => n1 (z ▸ h)
      have ih := filter_one n2 h hp hq fun c hc => hs c (List.mem_cons_of_mem _ hc)
      rw [List.filter_cons, List.filter_cons, hs b List.mem_cons_self hb]
      split
      · rw [List.length_cons, List.length_cons, ih]
      · exact ih
def inR (n : Nat) (g : List Int) : Prop := ∀ x ∈ g, 0 ≤ x ∧ x < n
theorem join_inR {n : Nat} {g : List Int} {e : Ed} (h : inR n g) (hg : g.length = n) (he : inN n e) : inR n (joinL g e) := by
  intro x hx
  unfold joinL at hx
  obtain ⟨y, hy, rfl⟩ := List.mem_map.mp hx
  split
  · exact h _ (gl_in he.1 (by rw [hg]; exact he.2.1))
  · exact h y hy
theorem join_mem {g : List Int} {e : Ed} {x : Int} (h1 : gl g e.1 ∈ g) (h2 : gl g e.2 ∈ g) (hne : gl g e.1 ≠ gl g e.2) : x ∈ joinL g e ↔ x ∈ g ∧ x ≠ gl g e.2 := by
  unfold joinL
  rw [List.mem_map]
  constructor
  · rintro ⟨y, hy, rfl⟩
    split
    · exact ⟨h1, hne⟩
    · rename_i h; exact ⟨hy, h⟩
  · rintro ⟨hx, hn⟩
    exact ⟨x, hx, if_neg hn⟩
theorem cnt_join {n : Nat} {g : List Int} {e : Ed} (hR : inR n g) (hg : g.length = n) (he : inN n e) (hne : gl g e.1 ≠ gl g e.2) : cnt n g = cnt n (joinL g e) + 1 := by
  have h1 := gl_in he.1 (by rw [hg]; exact he.2.1)
  have h2 := gl_in he.2.2.1 (by rw [hg]; exact he.2.2.2)
  obtain ⟨r1, r2⟩ := hR _ h2
  unfold cnt
  refine filter_one (a := (gl g e.2).toNat) List.nodup_range (by rw [List.mem_range]; omega) ?_ ?_ ?_
  · rw [Int.toNat_of_nonneg r1]; exact decide_eq_true h2
  · rw [Int.toNat_of_nonneg r1]
    exact decide_eq_false fun h => ((join_mem h1 h2 hne).mp h).2 rfl
  · intro b _ hb
    have : (b : Int) ≠ gl g e.2 := fun z => hb (by omega)
    simp only [join_mem h1 h2 hne]
    simp [this]
theorem join_same {g : List Int} {e : Ed} (h : gl g e.1 = gl g e.2) : joinL g e = g := by
  unfold joinL
  rw [h]
  have : (fun x => if x = gl g e.2 then gl g e.2 else x) = id := by
    funext x
    split
    · rename_i q; rw [q]; rfl
    · rfl
  rw [this, List.map_id]
theorem uf_some {n : Nat} : ∀ (es : List Ed) (g g' : List Int), g.length = n → inR n g → (∀ e ∈ es, inN n e) → uf es g = some g' → g' = es.foldl joinL g ∧ cnt n g = cnt n g' + es.length
  | [], g, g', _, _, _, h => by cases h; exact ⟨rfl, rfl⟩
  | e :: es, g, g', hg, hR, hn, h => by
    unfold uf at h
    split at h
    · cases h
    · rename_i hne
      have he := hn e List.mem_cons_self
      obtain ⟨i1, i2⟩ := uf_some es (joinL g e) g' (by rw [joinL_len]; exact hg) (join_inR hR hg he) (fun e' h' => hn e' (List.mem_cons_of_mem _ h')) h
      refine ⟨i1, ?_⟩
      rw [cnt_join hR hg he hne, i2, List.length_cons]
      omega
theorem fold_cnt {n : Nat} : ∀ (es : List Ed) (g : List Int), g.length = n → inR n g → (∀ e ∈ es, inN n e) → cnt n g ≤ cnt n (es.foldl joinL g) + es.length
  | [], g, _, _, _ => Nat.le_refl _
  | e :: es, g, hg, hR, hn => by
    have he := hn e List.mem_cons_self
    have ih := fold_cnt es (joinL g e) (by rw [joinL_len]; exact hg) (join_inR hR hg he) (fun e' h' => hn e' (List.mem_cons_of_mem _ h'))
    rw [List.foldl_cons, List.length_cons]
    by_cases hne : gl g e.1 = gl g e.2
    · rw [join_same hne] at ih ⊢; omega
    · have := cnt_join hR hg he hne; omega
theorem uf_none {n : Nat} : ∀ (es : List Ed) (g : List Int), g.length = n → inR n g → (∀ e ∈ es, inN n e) → uf es g = none → cnt n g + 1 ≤ cnt n (es.foldl joinL g) + es.length
  | [], g, _, _, _, h => by cases h
  | e :: es, g, hg, hR, hn, h => by
    unfold uf at h
    have he := hn e List.mem_cons_self
    split at h
    · rename_i hne
      have ih := fold_cnt es (joinL g e) (by rw [joinL_len]; exact hg) (join_inR hR hg he) (fun e' h' => hn e' (List.mem_cons_of_mem _ h'))
      rw [List.foldl_cons, List.length_cons]
      rw [join_same hne] at ih ⊢; omega
    · rename_i hne
      have ih := uf_none es (joinL g e) (by rw [joinL_len]; exact hg) (join_inR hR hg he) (fun e' h' => hn e' (List.mem_cons_of_mem _ h')) h
      rw [List.foldl_cons, List.length_cons]
      have := cnt_join hR hg he hne; omega
theorem start_inR (n : Nat) : inR n ((List.range n).map fun (i : Nat) => (i : Int)) := by
  intro x hx
  obtain ⟨i, hi, rfl⟩ := List.mem_map.mp hx
  rw [List.mem_range] at hi
  omega
theorem start_cnt (n : Nat) : cnt n ((List.range n).map fun (i : Nat) => (i : Int)) = n := by
  unfold cnt
  have : (List.range n).filter (fun (l : Nat) => decide ((l : Int) ∈ (List.range n).map fun (i : Nat) => (i : Int))) = List.range n := by
    rw [List.filter_eq_self]
    intro a ha
    exact decide_eq_true (List.mem_map.mpr ⟨a, ha, rfl⟩)
  rw [this, List.length_range]
/-- one label: all the same -/
theorem cnt_one {n : Nat} {g : List Int} (hR : inR n g) (h : cnt n g ≤ 1) {x y : Int} (hx : x ∈ g) (hy : y ∈ g) : x = y := by
  unfold cnt at h
  have mx : x.toNat ∈ (List.range n).filter fun (l : Nat) => decide ((l : Int) ∈ g) := by
    obtain ⟨a, b⟩ := hR x hx
    rw [List.mem_filter, List.mem_range]
    exact ⟨by omega, decide_eq_true (by rw [Int.toNat_of_nonneg a]; exact hx)⟩
  have my : y.toNat ∈ (List.range n).filter fun (l : Nat) => decide ((l : Int) ∈ g) := by
    obtain ⟨a, b⟩ := hR y hy
    rw [List.mem_filter, List.mem_range]
    exact ⟨by omega, decide_eq_true (by rw [Int.toNat_of_nonneg a]; exact hy)⟩
  generalize ((List.range n).filter fun (l : Nat) => decide ((l : Int) ∈ g)) = l at h mx my
  have e : x.toNat = y.toNat := by
    match l, h, mx, my with
    | [a], _, mx, my => rw [List.mem_singleton.mp mx, List.mem_singleton.mp my]
    | [], _, mx, _ => cases mx
  have := (hR x hx).1
  have := (hR y hy).1
  omega
theorem cnt_all {n : Nat} {g : List Int} {a : Int} (h : ∀ x ∈ g, x = a) : cnt n g ≤ 1 := by
  unfold cnt
  have sub : ∀ b ∈ (List.range n).filter (fun (l : Nat) => decide ((l : Int) ∈ g)), b = a.toNat := fun b hb => by
    have := h b (of_decide_eq_true (List.mem_filter.mp hb).2)
    omega
  have nd : ((List.range n).filter (fun (l : Nat) => decide ((l : Int) ∈ g))).Nodup := List.nodup_range.filter _
  generalize ((List.range n).filter fun (l : Nat) => decide ((l : Int) ∈ g)) = l at sub nd
  match l, sub, nd with
  | [], _, _ => simp
  | [_], _, _ => simp
  | b :: c :: r, sub, nd =>
    have h1 := sub b (by simp)
    have h2 := sub c (by simp)
    rw [h1, h2] at nd
    simp at nd
/-- joined without a loop: exactly if one label is left -/
theorem uf_iff {n : Nat} {es : List Ed} (hl : es.length + 1 = n) (hn : ∀ e ∈ es, inN n e) : (uf es ((List.range n).map fun (i : Nat) => (i : Int))).isSome = true ↔ ∀ u : Int, 0 ≤ u → u < n → gl (lab n es) u = gl (lab n es) 0 := by
  have hg : ((List.range n).map fun (i : Nat) => (i : Int)).length = n := by simp
  have hlen : (lab n es).length = n := by
    unfold lab
    have : ∀ (l : List Ed) (g : List Int), (l.foldl joinL g).length = g.length := by
      intro l
      induction l with
      | nil => intro g; rfl
      | cons e l ih => intro g; rw [List.foldl_cons, ih, joinL_len]
    rw [this, hg]
  have hR : inR n (lab n es) := by
    unfold lab
    have : ∀ (l : List Ed) (g : List Int), g.length = n → inR n g → (∀ e ∈ l, inN n e) → inR n (l.foldl joinL g) := by
      intro l
      induction l with
      | nil => intro g _ h _; exact h
      | cons e l ih => intro g hg h hn; exact ih _ (by rw [joinL_len]; exact hg) (join_inR h hg (hn e List.mem_cons_self)) fun e' h' => hn e' (List.mem_cons_of_mem _ h')
    exact this es _ hg (start_inR n) hn
  constructor
  · intro h u hu hu2
    obtain ⟨g', hg'⟩ := Option.isSome_iff_exists.mp h
    obtain ⟨e1, e2⟩ := uf_some es _ g' hg (start_inR n) hn hg'
    rw [start_cnt] at e2
    have e1 : g' = lab n es := e1
    rw [e1] at e2
    exact cnt_one hR (by omega) (gl_in hu (by rw [hlen]; exact hu2)) (gl_in (Int.le_refl 0) (by rw [hlen]; omega))
  · intro h
    cases q : uf es ((List.range n).map fun (i : Nat) => (i : Int)) with
    | some _ => rfl
    | none =>
      have e := uf_none es _ hg (start_inR n) hn q
      rw [start_cnt] at e
      have : cnt n (lab n es) ≤ 1 := cnt_all (a := gl (lab n es) 0) fun x hx => by
        obtain ⟨i, hi, rfl⟩ := List.getElem_of_mem hx
        have := h (i : Int) (by omega) (by rw [← hlen]; omega)
        rw [← this]
        unfold gl
        simp [List.getD, hi]
      have e' : n + 1 ≤ cnt n (lab n es) + es.length := e
      omega
end Lf

/-! P5: what the search finds. -/
namespace Lf
open PySem PySem.Spec PyProof.Rows L2
def adjOf (g : List (List Int)) (h : Int) : List Int := g.getD h.toNat []
theorem adj_app {g : List (List Int)} {i x h : Int} (h0 : 0 ≤ h) (h1 : h < g.length) (i0 : 0 ≤ i) : adjOf (app1 g i x) h = if h = i then adjOf g h ++ [x] else adjOf g h := by
  unfold adjOf app1
  have hn : h.toNat < g.length := by omega
  by_cases e : h = i
  · subst e
    rw [if_pos rfl]
    simp [List.getD, hn]
  · have hne : i.toNat ≠ h.toNat := by omega
    rw [if_neg e]
    simp [List.getD, hne]
theorem nbs_edge {n : Nat} {es : List Ed} (hn : ∀ e ∈ es, inN n e) {h o : Int} (h0 : 0 ≤ h) (h1 : h < n) : o ∈ adjOf (nbs n es) h ↔ (h, o) ∈ es ∨ (o, h) ∈ es := by
  have gen : ∀ (l : List Ed) (g : List (List Int)), g.length = n → (∀ e ∈ l, inN n e) → (o ∈ adjOf (l.foldl nbStep g) h ↔ o ∈ adjOf g h ∨ (h, o) ∈ l ∨ (o, h) ∈ l) := by
    intro l
    induction l with
    | nil => intro g _ _; simp
    | cons e l ih =>
      intro g hg hl
      obtain ⟨a1, a2, a3, a4⟩ := hl e List.mem_cons_self
      rw [List.foldl_cons, ih (nbStep g e) (by rw [nbStep_len]; exact hg) fun e' h' => hl e' (List.mem_cons_of_mem _ h')]
      have : o ∈ adjOf (nbStep g e) h ↔ o ∈ adjOf g h ∨ (h, o) = e ∨ (o, h) = e := by
        unfold nbStep
        rw [adj_app h0 (by rw [app1_len, hg]; exact h1) a3, adj_app h0 (by rw [hg]; exact h1) a1]
        obtain ⟨x, y⟩ := e
        simp only [Prod.mk.injEq]
        by_cases c1 : h = y
        · by_cases c2 : h = x
          · rw [if_pos c1, if_pos c2]; simp [List.mem_append]; constructor
            · rintro (q | q | q)
              · exact .inl q
              · exact .inr (.inl ⟨c2, q⟩)
              · exact .inr (.inr ⟨q, c1⟩)
            · rintro (q | ⟨_, q⟩ | ⟨q, _⟩)
              · exact .inl q
              · exact .inr (.inl q)
              · exact .inr (.inr q)
          · rw [if_pos c1, if_neg c2]
            have c3 : ¬ y = x := fun z => c2 (c1.trans z)
            simp [List.mem_append, c1, c3]
        · by_cases c2 : h = x
          · rw [if_neg c1, if_pos c2]
            have c3 : ¬ x = y := fun z => c1 (c2.trans z)
            simp [List.mem_append, c2, c3]
          · rw [if_neg c1, if_neg c2]; simp [c1, c2]
      rw [this, List.mem_cons, List.mem_cons]
      constructor
      · rintro ((q | q | q) | q | q)
        · exact .inl q
        · exact .inr (.inl (.inl q))
        · exact .inr (.inr (.inl q))
        · exact .inr (.inl (.inr q))
        · exact .inr (.inr (.inr q))
      · rintro (q | (q | q) | q | q)
        · exact .inl (.inl q)
        · exact .inl (.inr (.inl q))
        · exact .inr (.inl q)
        · exact .inl (.inr (.inr q))
        · exact .inr (.inr q)
  unfold nbs
  rw [gen es _ (by simp) hn]
  have : adjOf (List.replicate n ([] : List Int)) h = [] := by
    unfold adjOf
    have : h.toNat < n := by omega
    simp [List.getD, this]
  rw [this]; simp
theorem len_cnt {n : Nat} : ∀ {l : List Int}, l.Nodup → inR n l → l.length = cnt n l
  | [], _, _ => by unfold cnt; rw [List.filter_eq_nil_iff.mpr (by intro a _; simp)]; rfl
  | a :: l, nd, hR => by
    obtain ⟨n1, n2⟩ := List.nodup_cons.mp nd
    obtain ⟨r1, r2⟩ := hR a List.mem_cons_self
    rw [List.length_cons, len_cnt n2 fun x hx => hR x (List.mem_cons_of_mem _ hx)]
    unfold cnt
    refine (filter_one (a := a.toNat) List.nodup_range (by rw [List.mem_range]; omega) ?_ ?_ ?_).symm
    · rw [Int.toNat_of_nonneg r1]; exact decide_eq_true List.mem_cons_self
    · rw [Int.toNat_of_nonneg r1]; exact decide_eq_false n1
    · intro b _ hb
      have : (b : Int) ≠ a := fun z => hb (by omega)
      simp [this]
theorem cnt_le (n : Nat) (l : List Int) : cnt n l ≤ n := by
  unfold cnt
  have := List.length_filter_le (fun (x : Nat) => decide ((x : Int) ∈ l)) (List.range n)
  rwa [List.length_range] at this
theorem cnt_full {n : Nat} {l : List Int} : cnt n l = n ↔ ∀ u : Int, 0 ≤ u → u < n → u ∈ l := by
  unfold cnt
  have h := List.length_filter_eq_length_iff (p := fun (x : Nat) => decide ((x : Int) ∈ l)) (l := List.range n)
  rw [List.length_range] at h
  rw [h]
  constructor
  · intro q u h0 h1
    have := of_decide_eq_true (q u.toNat (by rw [List.mem_range]; omega))
    rwa [Int.toNat_of_nonneg h0] at this
  · intro q a ha
    rw [List.mem_range] at ha
    exact decide_eq_true (q a (by omega) (by omega))
abbrev keysF (F : Fnd) : List Int := F.map (·.1)
/-- the state of the search -/
structure BInv (n : Nat) (adj : List (List Int)) (C : Int → Prop) (F : Fnd) (W : List Int) : Prop where
  nd : (keysF F).Nodup
  rg : inR n (keysF F)
  sub : ∀ x ∈ W, x ∈ keysF F
  c : ∀ x ∈ keysF F, C x
  done : ∀ h ∈ keysF F, h ∈ W ∨ ∀ o ∈ adjOf adj h, o ∈ keysF F
theorem vis_keys (h : Int) (st : Fnd × List Int) (o x : Int) : x ∈ keysF (vis h st o).1 ↔ x ∈ keysF st.1 ∨ x = o := by
  unfold vis
  split
  · rename_i ho
    constructor
    · exact .inl
    · rintro (q | rfl)
      · exact q
      · exact ho
  · simp [keysF, List.map_append]
theorem fold_vis {n : Nat} {C : Int → Prop} (h : Int) : ∀ (l : List Int) (st : Fnd × List Int), (keysF st.1).Nodup → inR n (keysF st.1) → (∀ x ∈ st.2, x ∈ keysF st.1) → (∀ x ∈ keysF st.1, C x) → (∀ o ∈ l, 0 ≤ o ∧ o < n ∧ C o) →
    (keysF (l.foldl (vis h) st).1).Nodup ∧ inR n (keysF (l.foldl (vis h) st).1) ∧ (∀ x ∈ (l.foldl (vis h) st).2, x ∈ keysF (l.foldl (vis h) st).1) ∧ (∀ x ∈ keysF (l.foldl (vis h) st).1, C x) ∧ (∀ o ∈ l, o ∈ keysF (l.foldl (vis h) st).1) ∧ (∀ x ∈ keysF st.1, x ∈ keysF (l.foldl (vis h) st).1) ∧
      (∀ x ∈ keysF (l.foldl (vis h) st).1, x ∈ keysF st.1 ∨ x ∈ (l.foldl (vis h) st).2) ∧ (∀ x ∈ st.2, x ∈ (l.foldl (vis h) st).2) ∧ (l.foldl (vis h) st).1.length + st.2.length = st.1.length + (l.foldl (vis h) st).2.length
  | [], st, h1, h2, h3, h4, _ => ⟨h1, h2, h3, h4, fun _ z => (nomatch z), fun _ z => z, fun _ z => .inl z, fun _ z => z, rfl⟩
  | o :: l, st, h1, h2, h3, h4, h5 => by
    obtain ⟨o1, o2, o3⟩ := h5 o List.mem_cons_self
    have v1 : (keysF (vis h st o).1).Nodup := by
      unfold vis
      split
      · exact h1
      · rename_i ho
        rw [keysF, List.map_append, List.nodup_append]
        exact ⟨h1, by simp, fun a ha b hb => by rw [List.mem_singleton.mp (show b ∈ [o] from hb)]; exact fun z => ho (z ▸ ha)⟩
    have v2 : inR n (keysF (vis h st o).1) := fun x hx => by
      rcases (vis_keys h st o x).mp hx with q | rfl
      · exact h2 x q
      · exact ⟨o1, o2⟩
    have v3 : ∀ x ∈ (vis h st o).2, x ∈ keysF (vis h st o).1 := fun x hx => by
      rw [vis_keys]
      unfold vis at hx
      split at hx
      · exact .inl (h3 x hx)
      · rcases List.mem_append.mp hx with q | q
        · exact .inl (h3 x q)
        · exact .inr (List.mem_singleton.mp q)
    have v4 : ∀ x ∈ keysF (vis h st o).1, C x := fun x hx => by
      rcases (vis_keys h st o x).mp hx with q | rfl
      · exact h4 x q
      · exact o3
    have v7 : ∀ x ∈ keysF (vis h st o).1, x ∈ keysF st.1 ∨ x ∈ (vis h st o).2 := fun x hx => by
      rcases (vis_keys h st o x).mp hx with q | rfl
      · exact .inl q
      · unfold vis
        split
        · rename_i ho; exact .inl ho
        · exact .inr (by simp)
    have v8 : ∀ x ∈ st.2, x ∈ (vis h st o).2 := fun x hx => by
      unfold vis
      split
      · exact hx
      · exact List.mem_append_left _ hx
    have v9 : (vis h st o).1.length + st.2.length = st.1.length + (vis h st o).2.length := by
      unfold vis
      split
      · rfl
      · simp; omega
    obtain ⟨i1, i2, i3, i4, i5, i6, i7, i8, i9⟩ := fold_vis h l (vis h st o) v1 v2 v3 v4 fun x hx => h5 x (List.mem_cons_of_mem _ hx)
    rw [List.foldl_cons]
    refine ⟨i1, i2, i3, i4, fun x hx => ?_, fun x hx => i6 x ((vis_keys h st o x).mpr (.inl hx)), fun x hx => ?_, fun x hx => i8 x (v8 x hx), by omega⟩
    · rcases List.mem_cons.mp hx with rfl | hx
      · exact i6 _ ((vis_keys h st x x).mpr (.inr rfl))
      · exact i5 x hx
    · rcases i7 x hx with q | q
      · rcases v7 x q with q | q
        · exact .inl q
        · exact .inr (i8 x q)
      · exact .inr q
theorem bfs_ok {n : Nat} {adj : List (List Int)} {C : Int → Prop} (hA : ∀ h : Int, 0 ≤ h → h < n → C h → ∀ o ∈ adjOf adj h, 0 ≤ o ∧ o < n ∧ C o) : ∀ (k : Nat) (F : Fnd) (W : List Int), BInv n adj C F W → 2 * (n - F.length) + W.length < k → ∃ F', bfs adj k F W = some F' ∧ BInv n adj C F' [] ∧ ∃ T, F' = F ++ T
  | 0, _, _, _, h => absurd h (Nat.not_lt_zero _)
  | k + 1, F, [], b, _ => ⟨F, rfl, b, [], by simp⟩
  | k + 1, F, h :: W, b, hk => by
    have hm := b.sub h List.mem_cons_self
    obtain ⟨r1, r2⟩ := b.rg h hm
    obtain ⟨i1, i2, i3, i4, i5, i6, i7, i8, i9⟩ := fold_vis (n := n) (C := C) h (adjOf adj h) (F, W) b.nd b.rg (fun x hx => b.sub x (List.mem_cons_of_mem _ hx)) b.c (hA h r1 r2 (b.c h hm))
    have b' : BInv n adj C ((adjOf adj h).foldl (vis h) (F, W)).1 ((adjOf adj h).foldl (vis h) (F, W)).2 := by
      refine ⟨i1, i2, i3, i4, fun x hx => ?_⟩
      rcases i7 x hx with q | q
      · rcases b.done x q with w | w
        · rcases List.mem_cons.mp w with rfl | w
          · exact .inr i5
          · exact .inl (i8 x w)
        · exact .inr fun o ho => i6 o (w o ho)
      · exact .inl q
    have l1 : ((adjOf adj h).foldl (vis h) (F, W)).1.length ≤ n := by
      have := len_cnt i1 i2
      have h2 := cnt_le n (keysF ((adjOf adj h).foldl (vis h) (F, W)).1)
      rw [← this] at h2
      simpa using h2
    have l2 : F.length ≤ ((adjOf adj h).foldl (vis h) (F, W)).1.length := by
      have : ∀ (l : List Int) (st : Fnd × List Int), st.1.length ≤ (l.foldl (vis h) st).1.length := by
        intro l
        induction l with
        | nil => intro st; exact Nat.le_refl _
        | cons o l ih => intro st; rw [List.foldl_cons]; exact Nat.le_trans (by unfold vis; split <;> simp) (ih _)
      exact this _ (F, W)
    simp only at i9
    rw [List.length_cons] at hk
    obtain ⟨F', e, b2, T, hT⟩ := bfs_ok hA k _ _ b' (by omega)
    have pre : ∀ (l : List Int) (st : Fnd × List Int), ∃ T, (l.foldl (vis h) st).1 = st.1 ++ T := by
      intro l
      induction l with
      | nil => intro st; exact ⟨[], by simp⟩
      | cons o l ih =>
        intro st
        obtain ⟨T, hT⟩ := ih (vis h st o)
        rw [List.foldl_cons, hT]
        unfold vis
        split
        · exact ⟨T, rfl⟩
        · exact ⟨_, List.append_assoc ..⟩
    obtain ⟨T2, hT2⟩ := pre (adjOf adj h) (F, W)
    exact ⟨F', e, b2, T2 ++ T, by rw [hT, hT2, List.append_assoc]⟩
/-- the search from p finds the places with p's label -/
theorem bfs_lab {n : Nat} {es : List Ed} (hn : ∀ e ∈ es, inN n e) (hl : n ≤ 300) {p : Int} (p0 : 0 ≤ p) (p1 : p < n) :
    ∃ F, bfs (nbs n es) 1000 [(p, none)] [p] = some F ∧ (keysF F).Nodup ∧ inR n (keysF F) ∧ (∀ u : Int, 0 ≤ u → u < n → (u ∈ keysF F ↔ gl (lab n es) u = gl (lab n es) p)) ∧ ∃ T, F = (p, none) :: T := by
  have hg : ((List.range n).map fun (i : Nat) => (i : Int)).length = n := by simp
  obtain ⟨l1, l2⟩ := lab_edge es _ hg hn
  have eL : ∀ e ∈ es, gl (lab n es) e.1 = gl (lab n es) e.2 := l2
  obtain ⟨F, e, b, T, hT⟩ := bfs_ok (n := n) (adj := nbs n es) (C := fun u => gl (lab n es) u = gl (lab n es) p) (fun h h0 h1 hc o ho => by
    rcases (nbs_edge hn h0 h1).mp ho with q | q
    · obtain ⟨_, _, a3, a4⟩ := hn _ q
      exact ⟨a3, a4, (eL _ q).symm.trans hc⟩
    · obtain ⟨a1, a2, _, _⟩ := hn _ q
      exact ⟨a1, a2, (eL _ q).trans hc⟩) 1000 [(p, none)] [p] ⟨by simp [keysF], fun x hx => by rw [List.mem_singleton.mp (show x ∈ [p] from hx)]; exact ⟨p0, p1⟩, fun x hx => hx, fun x hx => by rw [List.mem_singleton.mp (show x ∈ [p] from hx)], fun h hh => .inl hh⟩ (by simp; omega)
  refine ⟨F, e, b.nd, b.rg, fun u u0 u1 => ⟨b.c u, fun hc => ?_⟩, T, hT⟩
  have pk : p ∈ keysF F := by rw [hT]; simp [keysF]
  have alike := lab_alike (χ := fun u => u ∈ keysF F) es _ hg hn (fun e' he => by
    obtain ⟨a1, a2, a3, a4⟩ := hn e' he
    constructor
    · intro q
      rcases b.done _ q with w | w
      · cases w
      · exact w _ ((nbs_edge hn a1 a2).mpr (.inl he))
    · intro q
      rcases b.done _ q with w | w
      · cases w
      · exact w _ ((nbs_edge hn a3 a4).mpr (.inr he))) (fun u v u0 u1 v0 v1 q => by
    have e1 : gl ((List.range n).map fun (i : Nat) => (i : Int)) u = u := by
      unfold gl
      have : u.toNat < n := by omega
      simp [List.getD, this]; omega
    have e2 : gl ((List.range n).map fun (i : Nat) => (i : Int)) v = v := by
      unfold gl
      have : v.toNat < n := by omega
      simp [List.getD, this]; omega
    rw [e1, e2] at q
    rw [q])
  exact (alike u p u0 u1 p0 p1 hc).mpr pk
theorem bfs_len {n : Nat} {es : List Ed} (hl : es.length + 1 = n) (hn : ∀ e ∈ es, inN n e) (h3 : n ≤ 300) :
    ∃ F, bfs (nbs n es) 1000 [(0, none)] [0] = some F ∧ (F.length = n ↔ (uf es ((List.range n).map fun (i : Nat) => (i : Int))).isSome = true) := by
  obtain ⟨F, e, nd, rg, hk, _⟩ := bfs_lab hn h3 (Int.le_refl 0) (by omega)
  refine ⟨F, e, ?_⟩
  have hlen : F.length = cnt n (keysF F) := by rw [← len_cnt nd rg]; simp
  rw [hlen, cnt_full, uf_iff hl hn]
  exact ⟨fun q u u0 u1 => (hk u u0 u1).mp (q u u0 u1), fun q u u0 u1 => (hk u u0 u1).mpr (q u u0 u1)⟩
end Lf

/-! P6: is_network. -/
namespace Lf
open PySem PySem.Spec PyProof.Rows L2
def isZ (lo hi : Int) : D → Bool
  | .int i => decide (lo ≤ i) && decide (i ≤ hi)
  | _ => false
theorem is_between_eq {d : D} (lo hi : Int) (h : nDct d = true) : f_is_between [d, .int lo, .int hi] = .ok (.fr (.bool (isZ lo hi d))) := by
  unfold f_is_between b_is_between
  cases d <;> first | (cases h; done) | skip
  all_goals simp [isZ]
  split
  · rename_i h1; simp [h1]
  · rename_i h1; simp; intro h2; omega
def isI : D → Bool
  | .int _ => true
  | _ => false
theorem law_is_int_eq {d : D} (h : nDct d = true) : f__law_is_int [d] = .ok (.fr (.bool (isI d))) := by
  unfold f__law_is_int b__law_is_int
  cases d <;> first | (cases h; done) | skip
  all_goals simp [isI]
theorem Shp.nd {n : Nat} {d : D} (h : Shp n d) : nDct d = true := by
  cases d with
  | dict es => simp [Shp, PyData.canLay0] at h
  | _ => rfl
/-- an edge, by its data -/
def edO : D → Option Ed
  | .tuple [.int a, .int b] => some (a, b)
  | _ => none
def okE (n : Int) (e : Ed) : Bool := decide (0 ≤ e.1) && decide (e.1 < e.2) && decide (e.2 ≤ n)
def edV (n : Int) (d : D) : Bool := match edO d with
  | some e => okE n e
  | none => false
theorem is_edge_eq {d : D} {n : Nat} (h : Shp 5 d) : f_is_edge [d, .int n] = .ok (.fr (.bool (edV n d))) := by
  unfold f_is_edge b_is_edge
  cases d with
  | tuple ds =>
    have hs := Shp.inv (.inr h)
    match ds, hs with
    | [], _ => simp [edV, edO]
    | [x], _ => simp [edV, edO]
    | [x, y], hs =>
      have hx := (hs x (by simp)).nd
      have hy := (hs y (by simp)).nd
      have i0 : atI [x, y] 0 = some x := rfl
      have i1 : atI [x, y] 1 = some y := rfl
      have bx := is_between_eq 0 n hx
      simp [i0, i1, bx]
      cases x <;> simp [isZ, edV, edO]
      rename_i a
      have by_ := is_between_eq (a + 1) n hy
      simp [by_]
      cases y <;> simp [isZ, okE]
      rename_i b
      by_cases c1 : 0 ≤ a <;> by_cases c2 : a ≤ n <;> by_cases c3 : a + 1 ≤ b <;> by_cases c4 : b ≤ n <;> simp [c1, c2, c3, c4] <;> omega
    | x :: y :: z :: r, _ =>
      have : ¬ ((r.length : Int) + 1 + 1 + 1 = 2) := by omega
      simp [edV, edO, this]
  | dict es => exact nomatch h.nd
  | none => simp [edV, edO]
  | bool b => simp [edV, edO]
  | int b => simp [edV, edO]
  | str b => simp [edV, edO]
  | list b => simp [edV, edO]
end Lf

/-! P7: is_network, the law's own check. -/
namespace Lf
open PySem PySem.Spec PyProof.Rows L2
def edsO (n : Int) : List D → Option (List Ed)
  | [] => some []
  | d :: ds => match edO d with
    | some e => if okE n e = true then (edsO n ds).map (e :: ·) else none
    | none => none
theorem edsO_eq {n : Int} : ∀ {ds : List D} {es : List Ed}, edsO n ds = some es → ds = es.map edD ∧ ∀ e ∈ es, okE n e = true
  | [], _, h => by cases h; exact ⟨rfl, fun _ z => nomatch z⟩
  | d :: ds, es, h => by
    unfold edsO at h
    split at h
    · rename_i e he
      split at h
      · rename_i hk
        obtain ⟨r, hr, rfl⟩ := Option.map_eq_some_iff.mp h
        obtain ⟨h1, h2⟩ := edsO_eq hr
        refine ⟨?_, fun x hx => ?_⟩
        · rw [List.map_cons, ← h1]
          congr 1
          unfold edO at he
          split at he
          · cases he; rfl
          · cases he
        · rcases List.mem_cons.mp hx with rfl | hx
          · exact hk
          · exact h2 x hx
      · cases h
    · cases h
theorem edsO_all {n : Int} : ∀ (ds : List D), (ds.all fun d => edV n d) = (edsO n ds).isSome
  | [] => rfl
  | d :: ds => by
    rw [List.all_cons, edsO_all ds]
    cases he : edO d with
    | none => simp [edsO, edV, he]
    | some e => by_cases hk : okE n e = true <;> simp [edsO, edV, he, hk]
theorem zipD_mem : ∀ {a b : List D} {d : D}, d ∈ zipD a b → ∃ x ∈ a, ∃ y ∈ b, d = .tuple [x, y] := by
  intro a b d h
  obtain ⟨i, hi⟩ := List.getElem?_of_mem h
  obtain ⟨x, y, h1, h2, h3⟩ := zipD_get hi
  exact ⟨x, List.mem_of_getElem? h1, y, List.mem_of_getElem? h2, h3⟩
def edL (e : Ed) : List Int := [e.1, e.2]
theorem edD_tup (e : Ed) : edD e = tupI (edL e) := rfl
/-- neighbours in the list stand in the order of tuples -/
def strict : List Ed → Bool
  | [] => true
  | [_] => true
  | a :: b :: r => HT.lexLt (edL a) (edL b) && strict (b :: r)
theorem zip_strict : ∀ es : List Ed, (zipD (es.map edD) (es.map edD).tail).all (fun d => match d with | .tuple [.tuple [.int a, .int b], .tuple [.int x, .int y]] => HT.lexLt [a, b] [x, y] | _ => false) = strict es
  | [] => rfl
  | [_] => rfl
  | a :: b :: r => by
    have ih := zip_strict (b :: r)
    unfold strict
    rw [← ih]
    rfl
theorem cutD_1 (ds : List D) : cutD ds (some 1) none = ds.tail := by
  unfold cutD HT.sIx
  cases ds with
  | nil => rfl
  | cons d ds => simp
theorem okE_inN {n : Nat} {e : Ed} (h : okE n e = true) : inN (n + 1 : Nat) e := by
  unfold okE at h
  simp only [Bool.and_eq_true, decide_eq_true_eq] at h
  refine ⟨?_, ?_, ?_, ?_⟩ <;> omega
/-- is it a network -/
def netB (d : D) : Bool := match d with
  | .tuple ds => decide (ds.length ≤ 24) && (match edsO ds.length ds with
    | some es => strict es && (uf es ((List.range (ds.length + 1)).map fun (i : Nat) => (i : Int))).isSome
    | none => false)
  | _ => false
theorem lcD_w1 (v : D) (x y z : Option S) : wipeD [some (.fr v), x, y, z] [1] = [some (.fr v), none, y, z] := by simp
theorem is_network_eq {d : D} (h : Shp 6 d) : f_is_network [d] = .ok (.fr (.bool (netB d))) := by
  unfold f_is_network b_is_network
  cases d with
  | dict es => exact nomatch h.nd
  | none => simp [netB]
  | bool b => simp [netB]
  | int b => simp [netB]
  | str b => simp [netB]
  | list b => simp [netB]
  | tuple ds =>
    have hs := Shp.inv (.inr h)
    rw [dD1]
    have hρ : (some (S.fr (.tuple ds)) :: List.replicate (4 - 1) none) = [some (.fr (.tuple ds)), none, none, none] := rfl
    rw [hρ]
    by_cases hl : ds.length ≤ 24
    · -- the edges
      have e1 : Res.cmp (.ok (ds, [some (.fr (.tuple ds)), none, none, none])) [1] (setFr 1) yesM (frz (callM f_is_edge (consM (varM 1) (consM (frz (bltM lenS (consM (varM 0) (M.pure [])))) (M.pure []))))) = .ok (.ow (.list (ds.map fun d => .bool (edV ds.length d))), [some (.fr (.tuple ds)), none, none, none]) := by
        rw [cmp_ok (ys := ds.map fun d => .bool (edV ds.length d)) (ρ2 := [some (.fr (.tuple ds)), none, none, none])]
        · simp
        · rw [lcD_w1]
          have := lcD_map (vs := [1]) (set := setFr 1) (c := yesM) (e := frz (callM f_is_edge (consM (varM 1) (consM (frz (bltM lenS (consM (varM 0) (M.pure [])))) (M.pure []))))) (ρw := [some (.fr (.tuple ds)), none, none, none]) (g := fun d => .bool (edV ds.length d)) (ds := ds) (acc := []) (fun d hd => by
            have he := is_edge_eq (n := ds.length) (hs d hd)
            refine ⟨[some (.fr (.tuple ds)), some (.fr d), none, none], [some (.fr (.tuple ds)), some (.fr d), none, none], by simp, by simp, [some (.fr (.tuple ds)), some (.fr d), none, none], by simp [he], by simp⟩) (by simp; omega)
          rw [this]; simp
      have hall : boolsD (ds.map fun d => .bool (edV ds.length d)) = some (ds.map fun d => edV ds.length d) := by
        have := boolsD_map (ds.map fun d => edV ds.length d)
        rwa [List.map_map] at this
      have ha2 : (ds.map fun d => edV ds.length d).all _root_.id = (edsO ds.length ds).isSome := by
        rw [List.all_map]; exact edsO_all ds
      have c1 : ¬ ((24 : Int) < ds.length) := by omega
      cases he : edsO ds.length ds with
      | none =>
        rw [he] at ha2
        have ha3 : (ds.map fun d => edV ds.length d).all _root_.id = false := ha2
        simp [c1, e1, allS, hall, ha3, netB, he]
      | some es =>
        rw [he] at ha2
        have ha3 : (ds.map fun d => edV ds.length d).all _root_.id = true := ha2
        obtain ⟨h1, h2⟩ := edsO_eq he
        have hlen : es.length = ds.length := by rw [h1]; simp
        -- neighbours in the list
        have e2 : Res.cmp (.ok (zipD ds ds.tail, [some (.fr (.tuple ds)), none, none, none])) [2, 3] (gTupD 2 (gsCons (setFr 2) (gsCons (setFr 3) gsNil))) yesM (op2 ltD (varM 2) (varM 3)) = .ok (.ow (.list ((zipD ds ds.tail).map fun d => .bool (match d with | .tuple [.tuple [.int a, .int b], .tuple [.int x, .int y]] => HT.lexLt [a, b] [x, y] | _ => false))), [some (.fr (.tuple ds)), none, none, none]) := by
          rw [cmp_ok (ys := (zipD ds ds.tail).map fun d => .bool (match d with | .tuple [.tuple [.int a, .int b], .tuple [.int x, .int y]] => HT.lexLt [a, b] [x, y] | _ => false)) (ρ2 := [some (.fr (.tuple ds)), none, none, none])]
          · simp
          · have hw : wipeD [some (.fr (.tuple ds)), none, none, none] [2, 3] = [some (.fr (.tuple ds)), none, none, none] := by simp
            rw [hw]
            have := lcD_map (vs := [2, 3]) (set := gTupD 2 (gsCons (setFr 2) (gsCons (setFr 3) gsNil))) (c := yesM) (e := op2 ltD (varM 2) (varM 3)) (ρw := [some (.fr (.tuple ds)), none, none, none]) (g := fun d => .bool (match d with | .tuple [.tuple [.int a, .int b], .tuple [.int x, .int y]] => HT.lexLt [a, b] [x, y] | _ => false)) (ds := zipD ds ds.tail) (acc := []) (fun d hd => by
              obtain ⟨x, hx, y, hy, rfl⟩ := zipD_mem hd
              rw [h1] at hx hy
              obtain ⟨a, _, rfl⟩ := List.mem_map.mp hx
              obtain ⟨b, _, rfl⟩ := List.mem_map.mp (List.mem_of_mem_tail hy)
              have hlt : ltD (.tuple [.int a.1, .int a.2]) (.tuple [.int b.1, .int b.2]) = some (.bool (HT.lexLt [a.1, a.2] [b.1, b.2])) := by simp [ltD, intsD]
              refine ⟨[some (.fr (.tuple ds)), none, some (.fr (edD a)), some (.fr (edD b))], [some (.fr (.tuple ds)), none, some (.fr (edD a)), some (.fr (edD b))], by simp, by simp, [some (.fr (.tuple ds)), none, some (.fr (edD a)), some (.fr (edD b))], by simp [hlt, edD], by simp⟩) (by simp [zipD_len]; omega)
            rw [this]; simp
        have hall2 : boolsD ((zipD ds ds.tail).map fun d => .bool (match d with | .tuple [.tuple [.int a, .int b], .tuple [.int x, .int y]] => HT.lexLt [a, b] [x, y] | _ => false)) = some ((zipD ds ds.tail).map fun d => (match d with | .tuple [.tuple [.int a, .int b], .tuple [.int x, .int y]] => HT.lexLt [a, b] [x, y] | _ => false)) := by
          have := boolsD_map ((zipD ds ds.tail).map fun d => (match d with | .tuple [.tuple [.int a, .int b], .tuple [.int x, .int y]] => HT.lexLt [a, b] [x, y] | _ => false))
          rwa [List.map_map] at this
        have hst : ((zipD ds ds.tail).map fun d => (match d with | .tuple [.tuple [.int a, .int b], .tuple [.int x, .int y]] => HT.lexLt [a, b] [x, y] | _ => false)).all _root_.id = strict es := by
          rw [List.all_map, h1]; exact zip_strict es
        -- the search
        have hn : ∀ e ∈ es, inN (es.length + 1 : Nat) e := fun e h => by rw [hlen]; exact okE_inN (h2 e h)
        obtain ⟨F, hF, hk⟩ := bfs_len (n := es.length + 1) rfl hn (by omega)
        have hp := parents_eq hn (by omega) (Int.le_refl 0) (by omega) hF
        have hnet : netD es = .tuple ds := by rw [h1]; rfl
        rw [hnet] at hp
        have hfl : (decide ((F.length : Int) = (ds.length : Int) + 1)) = (uf es ((List.range (ds.length + 1)).map fun (i : Nat) => (i : Int))).isSome := by
          rw [hlen] at hk
          rw [Bool.eq_iff_iff, ← hk, decide_eq_true_eq]
          omega
        by_cases hs2 : strict es = true
        · have hst2 := hst
          rw [hs2] at hst2
          simp [c1, e1, e2, allS, hall, ha3, hall2, hst2, netB, he, hl, hs2, hp, dctF, isTd_F, cutD_1]
          rw [← hfl, Bool.eq_iff_iff, beq_iff_eq, decide_eq_true_eq]
        · have hs3 : strict es = false := by cases q : strict es with
            | true => exact absurd q hs2
            | false => rfl
          have hst2 := hst
          rw [hs3] at hst2
          simp [c1, e1, e2, allS, hall, ha3, hall2, hst2, netB, he, hl, hs3, cutD_1]
    · have : ¬ ((ds.length : Int) ≤ 24) := by omega
      have h2 : (24 : Int) < ds.length := by omega
      simp [netB, hl, h2]
end Lf

/-! P8: the law's own check of a network. -/
namespace Lf
open PySem PySem.Spec PyProof.Rows L2
abbrev envT (v : D) (g : Option S) (a b c d : Option S) : EnvD := [some (.fr v), g, a, b, c, d, none]
def grS (gr : Option S) (g : List Int) : Prop := gr = some (.fr (lstI g)) ∨ gr = some (.ow (lstI g))
theorem at_gl {g : List Int} {i : Int} (h0 : 0 ≤ i) (h1 : i < g.length) : atI (g.map PyData.int) i = some (.int (gl g i)) := by
  have hn : i.toNat < g.length := by omega
  rw [atI_of (j := i.toNat) (by rw [List.length_map]; exact ixN_of h0 h1), List.getElem?_map, List.getElem?_eq_getElem hn]
  unfold gl
  simp [List.getD, hn]
noncomputable abbrev bodyT : EnvD → Out := (seqM (ifM (orT (notT (tst (isiM isTup (varM 2)))) (orT (tst (op2 neD (frz (bltM lenS (consM (varM 2) (M.pure [])))) (M.pure (.int 2)))) (orT (notT (tst (frz (callM f__law_is_int (consM (frz (op2F itemS (varM 2) (M.pure (.int 0)))) (M.pure [])))))) (notT (tst (frz (callM f__law_is_int (consM (frz (op2F itemS (varM 2) (M.pure (.int 1)))) (M.pure []))))))))) (retM (fre (M.pure (.bool false)))) Out.nx) (seqM (asgM (gTupD 2 (gsCons (setFr 3) (gsCons (setFr 4) gsNil))) (varM 2)) (seqM (ifM (orT (notT (chain3M leI ltD leI (M.pure (.int 0)) (varM 3) (varM 4) (frz (bltM lenS (consM (varM 0) (M.pure [])))))) (tst (op2 eqD (frz (op2F itemS (varM 1) (varM 3))) (frz (op2F itemS (varM 1) (varM 4)))))) (retM (fre (M.pure (.bool false)))) Out.nx) (seqM (setM 5 (op2F itemS (varM 1) (varM 4))) (setM 1 (compM (seqM' (varM 1)) [6] (setFr 6) yesM (frz (ifV (tst (op2 eqD (varM 6) (varM 5))) (op2F itemS (varM 1) (varM 3)) (fre (varM 6))))))))))
theorem edO_shape {d : D} {e : Ed} (h : edO d = some e) : d = edD e := by
  unfold edO at h
  split at h
  · cases h; rfl
  · cases h
theorem body_bad {v : List D} {d : D} {gr a b c : Option S} (hd : Shp 5 d) (h : edO d = none) : ∃ ρ', bodyT (envT (.tuple v) gr (some (.fr d)) a b c) = .rt (.fr (.bool false)) ρ' := by
  cases d with
  | dict es => exact nomatch hd.nd
  | none => exact ⟨_, by simp; rfl⟩
  | bool _ => exact ⟨_, by simp; rfl⟩
  | int _ => exact ⟨_, by simp; rfl⟩
  | str _ => exact ⟨_, by simp; rfl⟩
  | list _ => exact ⟨_, by simp; rfl⟩
  | tuple ds =>
    have hs := Shp.inv (.inr hd)
    match ds, hs, h with
    | [], _, _ => exact ⟨_, by simp; rfl⟩
    | [x], _, _ => exact ⟨_, by simp; rfl⟩
    | x :: y :: z :: r, _, _ =>
      have : ¬ ((r.length : Int) + 1 + 1 + 1 = 2) := by omega
      exact ⟨_, by simp [this]; rfl⟩
    | [x, y], hs, h =>
      have hx := law_is_int_eq (hs x (by simp)).nd
      have hy := law_is_int_eq (hs y (by simp)).nd
      have i0 : atI [x, y] 0 = some x := rfl
      have i1 : atI [x, y] 1 = some y := rfl
      by_cases q1 : isI x = true
      · by_cases q2 : isI y = true
        · cases x <;> cases y <;> first | (cases q1; done) | (cases q2; done) | (cases h; done)
        · exact ⟨_, by simp [i0, i1, hx, hy, q1, q2]; rfl⟩
      · exact ⟨_, by simp [i0, i1, hx, hy, q1]; rfl⟩
theorem ltD_i2 (i j : Int) : ltD (.int i) (.int j) = some (.bool (decide (i < j))) := ltD_i i j
theorem body_no {v : List D} {x y : Int} {gr a b c : Option S} {g : List Int} (hg : grS gr g) (hl : g.length = v.length + 1) (h : okE v.length (x, y) = false ∨ gl g x = gl g y) : ∃ ρ', bodyT (envT (.tuple v) gr (some (.fr (edD (x, y)))) a b c) = .rt (.fr (.bool false)) ρ' := by
  have i0 : atI [PyData.int x, PyData.int y] 0 = some (.int x) := rfl
  have i1 : atI [PyData.int x, PyData.int y] 1 = some (.int y) := rfl
  have fx := law_is_int_eq (d := .int x) rfl
  have fy := law_is_int_eq (d := .int y) rfl
  by_cases c1 : 0 ≤ x
  · by_cases c2 : x < y
    · by_cases c3 : y ≤ v.length
      · have hx := at_gl (g := g) c1 (by omega)
        have hy := at_gl (g := g) (i := y) (by omega) (by omega)
        have hgl : gl g x = gl g y := by
          rcases h with h | h
          · simp [okE, c1, c2, c3] at h
          · exact h
        rcases hg with rfl | rfl <;> exact ⟨_, by simp [edD, i0, i1, fx, fy, isI, c1, c2, c3, lstI, hx, hy, hgl]; rfl⟩
      · exact ⟨_, by simp [edD, i0, i1, fx, fy, isI, c1, c2, c3]; rfl⟩
    · exact ⟨_, by simp [edD, i0, i1, fx, fy, isI, c1, c2]; rfl⟩
  · exact ⟨_, by simp [edD, i0, i1, fx, fy, isI, c1]; rfl⟩
theorem body_go {v : List D} {x y : Int} {gr a b c : Option S} {g : List Int} (hg : grS gr g) (hl : g.length = v.length + 1) (hv : v.length ≤ 1000) (h : okE v.length (x, y) = true) (hne : ¬ gl g x = gl g y) :
    ∃ gr' a' b' c' e', bodyT (envT (.tuple v) gr (some (.fr (edD (x, y)))) a b c) = .nx (envT (.tuple v) gr' a' b' c' e') ∧ grS gr' (joinL g (x, y)) := by
  have i0 : atI [PyData.int x, PyData.int y] 0 = some (.int x) := rfl
  have i1 : atI [PyData.int x, PyData.int y] 1 = some (.int y) := rfl
  have fx := law_is_int_eq (d := .int x) rfl
  have fy := law_is_int_eq (d := .int y) rfl
  unfold okE at h
  simp only [Bool.and_eq_true, decide_eq_true_eq] at h
  obtain ⟨⟨c1, c2⟩, c3⟩ := h
  have hx := at_gl (g := g) c1 (by omega)
  have hy := at_gl (g := g) (i := y) (by omega) (by omega)
  have hc : Res.cmp (.ok (g.map PyData.int, envT (.tuple v) (some (.fr (lstI g))) (some (.fr (edD (x, y)))) (some (.fr (.int x))) (some (.fr (.int y))) (some (.fr (.int (gl g y)))))) [6] (setFr 6) yesM (frz (ifV (tst (op2 eqD (varM 6) (varM 5))) (op2F itemS (varM 1) (varM 3)) (fre (varM 6)))) = .ok (.ow (lstI (joinL g (x, y))), envT (.tuple v) (some (.fr (lstI g))) (some (.fr (edD (x, y)))) (some (.fr (.int x))) (some (.fr (.int y))) (some (.fr (.int (gl g y))))) := by
    rw [cmp_ok (ys := (joinL g (x, y)).map .int) (ρ2 := envT (.tuple v) (some (.fr (lstI g))) (some (.fr (edD (x, y)))) (some (.fr (.int x))) (some (.fr (.int y))) (some (.fr (.int (gl g y)))))]
    · simp [lstI]
    · have hw : wipeD (envT (.tuple v) (some (.fr (lstI g))) (some (.fr (edD (x, y)))) (some (.fr (.int x))) (some (.fr (.int y))) (some (.fr (.int (gl g y))))) [6] = envT (.tuple v) (some (.fr (lstI g))) (some (.fr (edD (x, y)))) (some (.fr (.int x))) (some (.fr (.int y))) (some (.fr (.int (gl g y)))) := by simp
      rw [hw, lcD_map (g := fun d => match d with | .int z => .int (if z = gl g y then gl g x else z) | d => d) (fun d hd => by
        obtain ⟨z, _, rfl⟩ := List.mem_map.mp hd
        refine ⟨[some (.fr (.tuple v)), some (.fr (lstI g)), some (.fr (edD (x, y))), some (.fr (.int x)), some (.fr (.int y)), some (.fr (.int (gl g y))), some (.fr (.int z))], [some (.fr (.tuple v)), some (.fr (lstI g)), some (.fr (edD (x, y))), some (.fr (.int x)), some (.fr (.int y)), some (.fr (.int (gl g y))), some (.fr (.int z))], by simp, by simp, [some (.fr (.tuple v)), some (.fr (lstI g)), some (.fr (edD (x, y))), some (.fr (.int x)), some (.fr (.int y)), some (.fr (.int (gl g y))), some (.fr (.int z))], ?_, by simp⟩
        by_cases q : z = gl g y
        · simp [q, lstI, hx]
        · simp [q, lstI]) (by simp; omega)]
      unfold joinL
      simp [List.map_map]
  refine ⟨some (.ow (lstI (joinL g (x, y)))), some (.fr (edD (x, y))), some (.fr (.int x)), some (.fr (.int y)), some (.fr (.int (gl g y))), ?_, .inr rfl⟩
  simp only [edD, lstI] at hc ⊢
  rcases hg with rfl | rfl <;> simp [i0, i1, fx, fy, isI, c1, c2, c3, lstI, hx, hy, hne, hc]
theorem tree_loop {v : List D} (hv : v.length ≤ 1000) : ∀ (ds : List D) (g : List Int) (gr a b c e : Option S), (∀ d ∈ ds, Shp 5 d) → grS gr g → g.length = v.length + 1 →
    (match (edsO v.length ds).bind fun es => uf es g with
      | some _ => ∃ gr' a' b' c' e', forD (setFr 2) bodyT ds (envT (.tuple v) gr a b c e) = .nx (envT (.tuple v) gr' a' b' c' e')
      | none => ∃ ρ', forD (setFr 2) bodyT ds (envT (.tuple v) gr a b c e) = .rt (.fr (.bool false)) ρ')
  | [], g, gr, a, b, c, e, _, _, _ => ⟨gr, a, b, c, e, rfl⟩
  | d :: ds, g, gr, a, b, c, e, hs, hg, hl => by
    have hset : setFr 2 d (envT (.tuple v) gr a b c e) = some (envT (.tuple v) gr (some (.fr d)) b c e) := by simp
    have stop : (∃ ρ', bodyT (envT (.tuple v) gr (some (.fr d)) b c e) = .rt (.fr (.bool false)) ρ') → ∃ ρ', forD (setFr 2) bodyT (d :: ds) (envT (.tuple v) gr a b c e) = .rt (.fr (.bool false)) ρ' := fun ⟨ρ', q⟩ => by
      refine ⟨ρ', ?_⟩
      unfold forD
      rw [hset]
      simp only [q]
    cases he : edO d with
    | none =>
      have : edsO v.length (d :: ds) = none := by simp [edsO, he]
      rw [this]
      exact stop (body_bad (hs d List.mem_cons_self) he)
    | some p =>
      obtain ⟨x, y⟩ := p
      have hd := edO_shape he
      subst hd
      cases hk : okE v.length (x, y) with
      | false =>
        have : edsO v.length (edD (x, y) :: ds) = none := by simp [edsO, he, hk]
        rw [this]
        exact stop (body_no hg hl (.inl hk))
      | true =>
        by_cases hq : gl g x = gl g y
        · have : ((edsO v.length (edD (x, y) :: ds)).bind fun es => uf es g) = none := by
            cases hr : edsO v.length ds <;> simp [edsO, he, hk, hr, uf, hq]
          rw [this]
          exact stop (body_no hg hl (.inr hq))
        · obtain ⟨gr', a', b', c', e', q1, q2⟩ := body_go (a := b) (b := c) (c := e) hg hl hv hk hq
          have ih := tree_loop hv ds (joinL g (x, y)) gr' a' b' c' e' (fun d' h' => hs d' (List.mem_cons_of_mem _ h')) q2 (by rw [joinL_len]; exact hl)
          have ee : ((edsO v.length (edD (x, y) :: ds)).bind fun es => uf es g) = ((edsO v.length ds).bind fun es => uf es (joinL g (x, y))) := by
            cases hr : edsO v.length ds <;> simp [edsO, he, hk, hr, uf, hq]
          rw [ee]
          have ef : forD (setFr 2) bodyT (edD (x, y) :: ds) (envT (.tuple v) gr a b c e) = forD (setFr 2) bodyT ds (envT (.tuple v) gr' a' b' c' e') := by
            rw [forD, hset]
            simp only [q1]
          rw [ef]
          exact ih
end Lf

/-! P9: both checks are one. -/
namespace Lf
open PySem PySem.Spec PyProof.Rows L2
theorem uf_ne {n : Nat} : ∀ (es : List Ed) (g : List Int), g.length = n → (∀ e ∈ es, inN n e) → (uf es g).isSome = true → ∀ e ∈ es, gl g e.1 ≠ gl g e.2
  | [], _, _, _, _, e, he => nomatch he
  | e :: es, g, hg, hn, h, e', he => by
    unfold uf at h
    split at h
    · cases h
    · rename_i hne
      rcases List.mem_cons.mp he with rfl | he
      · exact hne
      · intro q
        obtain ⟨a1, a2, a3, a4⟩ := hn e' (List.mem_cons_of_mem _ he)
        refine uf_ne es (joinL g e) (by rw [joinL_len]; exact hg) (fun x hx => hn x (List.mem_cons_of_mem _ hx)) h e' he ?_
        rw [gl_join a1 (by omega), gl_join a3 (by omega), q]
theorem uf_nodup {n : Nat} : ∀ (es : List Ed) (g : List Int), g.length = n → (∀ e ∈ es, inN n e) → (uf es g).isSome = true → es.Nodup
  | [], _, _, _, _ => .nil
  | e :: es, g, hg, hn, h => by
    unfold uf at h
    split at h
    · cases h
    · have hn2 : ∀ x ∈ es, inN n x := fun x hx => hn x (List.mem_cons_of_mem _ hx)
      have hl : (joinL g e).length = n := by rw [joinL_len]; exact hg
      obtain ⟨a1, a2, a3, a4⟩ := hn e List.mem_cons_self
      refine List.nodup_cons.mpr ⟨fun hm => ?_, uf_nodup es (joinL g e) hl hn2 h⟩
      refine uf_ne es (joinL g e) hl hn2 h e hm ?_
      rw [gl_join a1 (by omega), gl_join a3 (by omega), if_pos rfl]
      split <;> rfl
theorem lex_trans : ∀ x y z : List Int, HT.lexLt x y = true → HT.lexLt y z = true → HT.lexLt x z = true := fun x y z h1 h2 => by
  cases q : HT.lexLt x z with
  | true => rfl
  | false =>
    have a1 := swoL.asym x y h1
    have a2 := swoL.asym y z h2
    have a3 := swoL.tr x y z a1 a2
    have e := antiL x z q a3
    subst e
    rw [a1] at h2; cases h2
theorem edL_inj {a b : Ed} (h : edL a = edL b) : a = b := by
  obtain ⟨x, y⟩ := a
  obtain ⟨u, v⟩ := b
  simp [edL] at h
  rw [h.1, h.2]
theorem strict_pair : ∀ {es : List Ed}, strict es = true → es.Pairwise fun a b => HT.lexLt (edL a) (edL b) = true
  | [], _ => .nil
  | [a], _ => List.pairwise_singleton _ _
  | a :: b :: r, h => by
    unfold strict at h
    rw [Bool.and_eq_true] at h
    have ih := strict_pair h.2
    refine List.pairwise_cons.mpr ⟨fun c hc => ?_, ih⟩
    rcases List.mem_cons.mp hc with rfl | hc
    · exact h.1
    · exact lex_trans _ _ _ h.1 ((List.pairwise_cons.mp ih).1 c hc)
theorem pair_strict : ∀ {es : List Ed}, (es.Pairwise fun a b => HT.lexLt (edL a) (edL b) = true) → strict es = true
  | [], _ => rfl
  | [a], _ => rfl
  | a :: b :: r, h => by
    obtain ⟨h1, h2⟩ := List.pairwise_cons.mp h
    unfold strict
    rw [h1 b List.mem_cons_self, pair_strict h2]
    rfl
theorem sorted_strict {es : List Ed} (nd : es.Nodup) : decide (es.map edL = isortB HT.lexLt (es.map edL)) = strict es := by
  rw [Bool.eq_iff_iff, decide_eq_true_eq]
  constructor
  · intro h
    have hs := isortB_srt swoL (es.map edL)
    rw [← h, List.pairwise_map] at hs
    refine pair_strict ((hs.and nd).imp fun {a b} q => ?_)
    obtain ⟨q1, q2⟩ := q
    cases q3 : HT.lexLt (edL a) (edL b) with
    | true => rfl
    | false => exact absurd (edL_inj (antiL _ _ q3 q1)) q2
  · intro h
    exact isortB_uniq swoL antiL (.refl _) (List.pairwise_map.mpr ((strict_pair h).imp fun {a b} q => swoL.asym _ _ q))
theorem eqvAll_tups : ∀ ns ms : List (List Int), PyData.eqvAll (ns.map tupI) (ms.map tupI) = decide (ns = ms)
  | [], [] => by simp
  | [], _ :: _ => by simp
  | _ :: _, [] => by simp
  | n :: ns, m :: ms => by
    simp only [List.map_cons, eqvA_cons, eqvAll_tups ns ms, tupI, eqv_tuple_tuple, eqvAll_ints, List.cons.injEq, Bool.decide_and]
theorem shp_tups (nss : List (List Int)) : Shp 2 (.list (nss.map tupI)) := Shp.list fun d hd => by
  obtain ⟨ns, _, rfl⟩ := List.mem_map.mp hd
  exact Shp.intsT ns
theorem shp_tupsT (nss : List (List Int)) : Shp 2 (.tuple (nss.map tupI)) := Shp.tup fun d hd => by
  obtain ⟨ns, _, rfl⟩ := List.mem_map.mp hd
  exact Shp.intsT ns
theorem eds_tups (es : List Ed) : es.map edD = (es.map edL).map tupI := by rw [List.map_map]; rfl
theorem sortD_eds (es : List Ed) : sortD (es.map edD) = some ((isortB HT.lexLt (es.map edL)).map tupI) := by
  cases es with
  | nil => rfl
  | cons e es =>
    have h1 : intsD ((e :: es).map edD) = none := rfl
    unfold sortD
    rw [h1, eds_tups, tupsD_map]
    simp only
    rw [if_pos (.inr (List.all_eq_true.mpr fun ns hn => by
      obtain ⟨x, _, rfl⟩ := List.mem_map.mp hn
      rfl))]
theorem start_lst (n : Nat) : PyData.list (rangeD 0 n) = lstI ((List.range n).map fun (i : Nat) => (i : Int)) := by
  unfold rangeD lstI
  rw [List.map_map]
  congr 1
  refine List.map_congr_left fun i _ => ?_
  simp
theorem law_is_tree_eq {d : D} (h : Shp 6 d) : f__law_is_tree [d] = .ok (.fr (.bool (netB d))) := by
  unfold f__law_is_tree b__law_is_tree
  cases d with
  | dict es => exact nomatch h.nd
  | none => simp [netB]
  | bool b => simp [netB]
  | int b => simp [netB]
  | str b => simp [netB]
  | list b => simp [netB]
  | tuple ds =>
    have hs := Shp.inv (.inr h)
    rw [dD1]
    have hρ : (some (S.fr (.tuple ds)) :: List.replicate (7 - 1) none) = [some (.fr (.tuple ds)), none, none, none, none, none, none] := rfl
    rw [hρ]
    by_cases hl : ds.length ≤ 24
    · have c1 : ¬ ((24 : Int) < ds.length) := by omega
      have hb : rgB ((ds.length : Int) + 1) = true := rgB_of (by omega) (by omega)
      have hrg : lrg1 [.int ((ds.length : Int) + 1)] = some (.ow (lstI ((List.range (ds.length + 1)).map fun (i : Nat) => (i : Int)))) := by
        unfold lrg1
        dsimp only
        rw [if_pos ⟨hb, by omega⟩, ← start_lst]
        rfl
      have lp := tree_loop (v := ds) (by omega) ds ((List.range (ds.length + 1)).map fun (i : Nat) => (i : Int)) (some (.ow (lstI ((List.range (ds.length + 1)).map fun (i : Nat) => (i : Int))))) none none none none hs (.inr rfl) (by simp)
      have t1 : seqM (ifM (orT (notT (tst (isiM isTup (varM 0)))) (tst (op2 gtI (frz (bltM lenS (consM (varM 0) (M.pure [])))) (M.pure (.int 24))))) (retM (fre (M.pure (.bool false)))) Out.nx) (setM 1 (lrg1M (frz (op2F addS (frz (bltM lenS (consM (varM 0) (M.pure [])))) (M.pure (.int 1)))))) [some (.fr (.tuple ds)), none, none, none, none, none, none] = .nx (envT (.tuple ds) (some (.ow (lstI ((List.range (ds.length + 1)).map fun (i : Nat) => (i : Int))))) none none none none) := by
        simp [c1, hrg]
      cases he : edsO ds.length ds with
      | none =>
        rw [he] at lp
        obtain ⟨ρ', lp⟩ := lp
        simp [c1, hrg, lp, netB, he]
      | some es =>
        rw [he] at lp
        obtain ⟨h1, h2⟩ := edsO_eq he
        have hlen : es.length = ds.length := by rw [h1]; simp
        cases hu : uf es ((List.range (ds.length + 1)).map fun (i : Nat) => (i : Int)) with
        | none =>
          simp only [Option.bind_some, hu] at lp
          obtain ⟨ρ', lp⟩ := lp
          simp [c1, hrg, lp, netB, he, hu]
        | some g' =>
          simp only [Option.bind_some, hu] at lp
          obtain ⟨gr', a', b', c', e', lp⟩ := lp
          have nd : es.Nodup := uf_nodup (n := ds.length + 1) es ((List.range (ds.length + 1)).map fun (i : Nat) => (i : Int)) (by simp) (fun e he => okE_inN (h2 e he)) (by rw [hu]; rfl)
          have hst := sorted_strict nd
          have hso : sortS [.tuple ds] = some (.ow (.list ((isortB HT.lexLt (es.map edL)).map tupI))) := by
            unfold sortS
            dsimp only
            rw [h1, sortD_eds]; rfl
          have s1 : SeqAt.shaped (.list ds) = true := by rw [h1, eds_tups]; exact (shp_tups _).shaped
          have s2 : SeqAt.shaped (.list ((isortB HT.lexLt (es.map edL)).map tupI)) = true := (shp_tups _).shaped
          have hev : PyData.eqvAll ds ((isortB HT.lexLt (es.map edL)).map tupI) = strict es := by rw [h1, eds_tups, eqvAll_tups, hst]
          simp [c1, hrg, lp, netB, he, hu, hl, hso, s1, s2, hev]
    · have h2 : (24 : Int) < ds.length := by omega
      simp [netB, hl, h2]
end Lf

/-! P10: values drawn, values changed at one place. -/
namespace Lf
open PySem PySem.Spec PyProof.Rows L2
theorem strOk_of (s : String) : PyData.strOk (Str.ofString s) = true := by
  rw [Str.ofString_eq_toList]
  unfold PyData.strOk
  rw [Array.all_eq_true']
  intro c hc
  rw [List.mem_toArray, List.mem_map] at hc
  obtain ⟨ch, _, rfl⟩ := hc
  refine decide_eq_true ?_
  have h := ch.valid
  rcases h with h | ⟨_, h⟩
  · exact Nat.lt_of_lt_of_le h (by decide)
  · exact h
/-- data of bounded size: ints up to B, lists up to L long, n deep -/
inductive Gd (B L : Nat) : Nat → D → Prop
  | none {n : Nat} : Gd B L n .none
  | bool {n : Nat} (b : Bool) : Gd B L n (.bool b)
  | int {n : Nat} {i : Int} : i.natAbs ≤ B → Gd B L n (.int i)
  | str {n : Nat} {x : Str} : PyData.strOk x = true → Gd B L n (.str x)
  | list {n : Nat} {ds : List D} : ds.length ≤ L → (∀ d ∈ ds, Gd B L n d) → Gd B L (n + 1) (.list ds)
  | tup {n : Nat} {ds : List D} : ds.length ≤ L → (∀ d ∈ ds, Gd B L n d) → Gd B L (n + 1) (.tuple ds)
theorem Gd.mono {B B' L L' : Nat} (hB : B ≤ B') (hL : L ≤ L') : ∀ {n : Nat} {d : D}, Gd B L n d → Gd B' L' n d := by
  intro n d h
  induction h with
  | none => exact .none
  | bool b => exact .bool b
  | int h => exact .int (Nat.le_trans h hB)
  | str h => exact .str h
  | list h _ ih => exact .list (Nat.le_trans h hL) ih
  | tup h _ ih => exact .tup (Nat.le_trans h hL) ih
theorem Gd.deep {B L : Nat} : ∀ {n m : Nat} {d : D}, Gd B L n d → n ≤ m → Gd B L m d := by
  intro n m d h
  induction h generalizing m with
  | none => exact fun _ => .none
  | bool b => exact fun _ => .bool b
  | int h => exact fun _ => .int h
  | str h => exact fun _ => .str h
  | list h _ ih => intro hm; obtain ⟨k, rfl⟩ : ∃ k, m = k + 1 := ⟨m - 1, by omega⟩; exact .list h fun d hd => ih d hd (by omega)
  | tup h _ ih => intro hm; obtain ⟨k, rfl⟩ : ∃ k, m = k + 1 := ⟨m - 1, by omega⟩; exact .tup h fun d hd => ih d hd (by omega)
theorem Gd.shp {B L : Nat} : ∀ {n : Nat} {d : D}, Gd B L n d → Shp n d := by
  intro n d h
  induction h with
  | none => exact Shp.none _
  | bool b => exact Shp.bool _ b
  | int h => exact Shp.int _ _
  | str h => exact ⟨h, by simp [PyData.depth]⟩
  | list h _ ih => exact Shp.list ih
  | tup h _ ih => exact Shp.tup ih
theorem at_mem {ds : List D} {r : Int} (h0 : 0 ≤ r) (h1 : r < ds.length) : ∃ x, atI ds r = some x ∧ x ∈ ds := by
  have hn : r.toNat < ds.length := by omega
  refine ⟨ds[r.toNat], ?_, List.getElem_mem hn⟩
  rw [atI_of (ixN_of h0 h1), List.getElem?_eq_getElem hn]
theorem choice_eq {n : Int} {s : D} {ds : List D} (h : Src n s) (hn : n ≤ 1000000000) (h0 : ds ≠ []) (h1 : ds.length < 1000000) : ∃ x s', f__law_choice s [.list ds] = .ok (.fr x, s') ∧ x ∈ ds ∧ Src (n + 1) s' := by
  have hl := List.length_pos_iff.mpr h0
  obtain ⟨r, s', e, r0, r1, hs⟩ := draw_eq (s := ds.length) h hn (by omega) (by omega)
  obtain ⟨x, hx, hm⟩ := at_mem r0 r1
  refine ⟨x, s', ?_, hm, hs⟩
  unfold f__law_choice b__law_choice
  simp [e, hx]
theorem log2_of {i : Int} (h : i.natAbs ≤ 10 ^ 40) : i.natAbs.log2 < 1920 := by
  by_cases h0 : i.natAbs = 0
  · rw [h0]; decide
  · exact (Nat.log2_lt h0).mpr (Nat.lt_of_le_of_lt h (by decide +kernel))
theorem any_value_eq {n : Int} {s : D} (h : Src n s) (hn : n ≤ 1000000000) : ∃ x s', f__law_any_value s [] = .ok (.fr x, s') ∧ Gd (10 ^ 31) 3 3 x ∧ Src (n + 1) s' := by
  obtain ⟨x, s', e, hm, hs⟩ := choice_eq (ds := [.none, .bool true, .str "", .str "x", .tuple [], .list [], .tuple [.tuple []], .int 7, .int (-1), .int (10 ^ 30), .tuple [.int 1, .int 2], .tuple [.tuple [.int 0, .int 0, .int 0]], .tuple [.tuple [.int 0, .int 1]], .tuple [.int 0, .int 1]]) h hn (by simp) (by simp)
  refine ⟨x, s', ?_, ?_, hs⟩
  · unfold f__law_any_value b__law_any_value
    have hp : cPow 10 30 = true := by decide +kernel
    simp at e
    simp [hp, e]
  · have st : ∀ t : String, PyData.strOk (Str.ofString t) = true := strOk_of
    simp only [List.mem_cons, List.not_mem_nil, or_false] at hm
    rcases hm with rfl | rfl | rfl | rfl | rfl | rfl | rfl | rfl | rfl | rfl | rfl | rfl | rfl | rfl
    · exact .none
    · exact .bool _
    · exact .str (st _)
    · exact .str (st _)
    · exact .tup (by simp) (by simp)
    · exact .list (by simp) (by simp)
    · exact .tup (by simp) (fun d hd => by rw [List.mem_singleton.mp hd]; exact .tup (by simp) (by simp))
    · exact .int (by decide +kernel)
    · exact .int (by decide +kernel)
    · exact .int (by decide +kernel)
    · exact .tup (by simp) (fun d hd => by simp at hd; rcases hd with rfl | rfl <;> exact .int (by decide +kernel))
    · exact .tup (by simp) (fun d hd => by rw [List.mem_singleton.mp hd]; exact .tup (by simp) (fun d hd => by simp at hd; subst hd; exact .int (by decide +kernel)))
    · exact .tup (by simp) (fun d hd => by rw [List.mem_singleton.mp hd]; exact .tup (by simp) (fun d hd => by simp at hd; rcases hd with rfl | rfl <;> exact .int (by decide +kernel)))
    · exact .tup (by simp) (fun d hd => by simp at hd; rcases hd with rfl | rfl <;> exact .int (by decide +kernel))
end Lf

/-! P11: a value changed at one place. -/
namespace Lf
open PySem PySem.Spec PyProof.Rows L2
theorem cutD_len (ds : List D) (lo hi : Option Int) : (cutD ds lo hi).length ≤ ds.length := by unfold cutD; simp; omega
theorem cutD_mem {ds : List D} {lo hi : Option Int} {d : D} (h : d ∈ cutD ds lo hi) : d ∈ ds := by unfold cutD at h; exact List.mem_of_mem_drop (List.mem_of_mem_take h)
theorem cut1_len (ds : List D) : (cutD ds none (some 1)).length ≤ 1 := by
  unfold cutD HT.sIx
  simp; omega
theorem pick_eq {n B L : Nat} {k : Int} {s : D} (hs : Src k s) (hk : k ≤ 1000000000) (ds : List D) (c : Int) (hc : (ds.length : Int) = c) (h0 : 0 < c) (h1 : c < 100) (hg : ∀ x ∈ ds, Gd B L n x) :
    ∃ x s' r, f__law_draw s [.int c] = .ok (.fr (.int r), s') ∧ atI ds r = some x ∧ Gd B L n x ∧ Src (k + 1) s' := by
  obtain ⟨r, s', e, r0, r1, hs'⟩ := draw_eq (s := c) hs (by omega) h0 (by omega)
  obtain ⟨x, hx, hxm⟩ := at_mem (ds := ds) r0 (by omega)
  exact ⟨x, s', r, e, hx, hg x hxm, hs'⟩
def isSeq : D → Bool
  | .list _ => true
  | .tuple _ => true
  | _ => false
/-- what is no list and no tuple -/
theorem corrupt_leaf {n m B L : Nat} {k : Int} {s d : D} (hd : Gd B L n d) (hq : isSeq d = false) (hs : Src k s) (hk : k ≤ 1000000000) (h1 : 1000 ≤ B) (h2 : B + 1 ≤ 10 ^ 40) :
    ∃ d' s', f__law_corrupt (m + 1) s [d] = .ok (.fr d', s') ∧ Gd (B + 1) (L + 1) n d' ∧ Src (k + 1) s' := by
  have st : ∀ t : String, PyData.strOk (Str.ofString t) = true := strOk_of
  have i7 : ∀ i : Int, i.natAbs ≤ 1000 → Gd (B + 1) (L + 1) n (.int i) := fun i h => .int (by omega)
  obtain ⟨x8, s8, r8, e8, a8, g8, q8⟩ := pick_eq (n := n) (B := B + 1) (L := L + 1) hs hk [.none, .int 7, .str "a", .str "b", .str "x", .str "y", .str "z", .str ""] 8 rfl (by decide) (by decide) (fun x hx => by
    simp only [List.mem_cons, List.not_mem_nil, or_false] at hx
    rcases hx with rfl | rfl | rfl | rfl | rfl | rfl | rfl | rfl <;> first | exact .none | exact .str (st _) | exact i7 _ (by decide))
  cases hd with
  | list _ _ => cases hq
  | tup _ _ => cases hq
  | none => exact ⟨x8, s8, by unfold f__law_corrupt b__law_corrupt; simp [e8, a8], g8, q8⟩
  | @str _ x hx => exact ⟨x8, s8, by unfold f__law_corrupt b__law_corrupt; simp [e8, a8], g8, q8⟩
  | @int _ i hi =>
    obtain ⟨x, s', r, e, a, g, q⟩ := pick_eq (n := n) (B := B + 1) (L := L + 1) hs hk [.int (i + 1), .int (i - 1), .bool true, .none, .int 0, .int 101, .str (Str.ofString i.repr)] 7 rfl (by decide) (by decide) (fun x hx => by
      simp only [List.mem_cons, List.not_mem_nil, or_false] at hx
      rcases hx with rfl | rfl | rfl | rfl | rfl | rfl | rfl <;> first | exact .none | exact .bool _ | exact .str (st _) | exact .int (by omega))
    have hz : i.natAbs.log2 < 1920 := log2_of (by omega)
    exact ⟨x, s', by unfold f__law_corrupt b__law_corrupt; simp [e, a, hz], g, q⟩
  | bool b =>
    obtain ⟨x, s', r, e, a, g, q⟩ := pick_eq (n := n) (B := B + 1) (L := L + 1) hs hk [.int ((if b = true then (1 : Int) else 0) + 1), .int ((if b = true then (1 : Int) else 0) - 1), .bool true, .none, .int 0, .int 101, .str (if b then "True" else "False")] 7 rfl (by decide) (by decide) (fun x hx => by
      simp only [List.mem_cons, List.not_mem_nil, or_false] at hx
      rcases hx with rfl | rfl | rfl | rfl | rfl | rfl | rfl <;> first | exact .none | exact .bool _ | exact (.str (by cases b <;> exact st _)) | exact .int (by cases b <;> simp <;> omega))
    exact ⟨x, s', by unfold f__law_corrupt b__law_corrupt; cases b <;> simp at a ⊢ <;> simp [e, a], g, q⟩
theorem corrupt_eq : ∀ (n m : Nat) (k : Int) (s d : D) (B L : Nat), Gd B L n d → n < m → Src k s → 0 ≤ k → k + 3 * (n + 1) ≤ 1000000000 → 1000 ≤ B → B + 1 ≤ 10 ^ 40 → L + 1 ≤ 100000 →
    ∃ r d' s', f__law_corrupt m s [d] = .ok (r, s') ∧ (r = .fr d' ∨ r = .ow d') ∧ Gd (B + 1) (L + 1) n d' ∧ Src (k + 3 * (n + 1)) s' := by
  intro n
  induction n with
  | zero =>
    intro m k s d B L hd hm hs hk0 hk h1 hB hL
    obtain ⟨m, rfl⟩ : ∃ j, m = j + 1 := ⟨m - 1, by omega⟩
    obtain ⟨d', s', e, g, q⟩ := corrupt_leaf (m := m) (L := L) hd (by cases hd <;> rfl) hs (by omega) h1 hB
    exact ⟨_, d', s', e, .inl rfl, g, q.mono (by omega)⟩
  | succ n ih =>
    intro m k s d B L hd hm hs hk0 hk h1 hB hL
    obtain ⟨m, rfl⟩ : ∃ j, m = j + 1 := ⟨m - 1, by omega⟩
    have leaf : isSeq d = false → ∃ r d' s', f__law_corrupt (m + 1) s [d] = .ok (r, s') ∧ (r = .fr d' ∨ r = .ow d') ∧ Gd (B + 1) (L + 1) (n + 1) d' ∧ Src (k + 3 * ((n + 1 : Nat) + 1)) s' := fun hq => by
      obtain ⟨d', s', e, g, q⟩ := corrupt_leaf (m := m) (L := L) hd hq hs (by omega) h1 hB
      exact ⟨_, d', s', e, .inl rfl, g, q.mono (by omega)⟩
    cases hd with
    | none => exact leaf rfl
    | bool _ => exact leaf rfl
    | int _ => exact leaf rfl
    | str _ => exact leaf rfl
    | @list _ ds hl hx =>
      have five : ∀ x ∈ [PyData.tuple ds, .list (ds ++ cutD ds none (some 1)), .list (cutD ds (some 1) none), .list ds.reverse, .none], Gd (B + 1) (L + 1) (n + 1) x := fun x hm => by
        have up : ∀ x ∈ ds, Gd (B + 1) (L + 1) n x := fun x h => (hx x h).mono (Nat.le_succ _) (Nat.le_succ _)
        have c1 := cut1_len ds
        have c2 := cutD_len ds (some 1) none
        simp only [List.mem_cons, List.not_mem_nil, or_false] at hm
        rcases hm with rfl | rfl | rfl | rfl | rfl
        · exact .tup (by omega) up
        · refine .list (by simp; omega) fun y hy => ?_
          rcases List.mem_append.mp hy with h | h
          · exact up y h
          · exact up y (cutD_mem h)
        · exact .list (by omega) fun y hy => up y (cutD_mem hy)
        · exact .list (by simp; omega) fun y hy => up y (List.mem_reverse.mp hy)
        · exact .none
      have hz : ltM (ds.length + (cutD ds none (some 1)).length) = true := ltM_of (by have := cut1_len ds; omega)
      cases hds : ds with
      | nil =>
        obtain ⟨x, s', r, e, a, g, q⟩ := pick_eq (n := n + 1) (B := B + 1) (L := L + 1) hs (by omega) _ 5 rfl (by decide) (by decide) five
        subst hds
        refine ⟨_, x, s', ?_, .inl rfl, g, q.mono (by omega)⟩
        unfold f__law_corrupt b__law_corrupt
        have hz' : ltM (cutD ([] : List D) none (some 1)).length = true := by simpa using hz
        simp at a
        simp [e, a, hz']
      | cons y0 ys =>
        rw [← hds]
        have hlen : 0 < ds.length := by rw [hds]; simp
        have hne : ds ≠ [] := by rw [hds]; simp
        have h0 : (0 : Int) < ds.length := by omega
        obtain ⟨r1, s1, e1, p0, p1, q1⟩ := draw_eq (s := 5) hs (by omega) (by decide) (by decide)
        by_cases hr : 0 < r1
        · obtain ⟨r2, s2, e2, t0, t1, q2⟩ := draw_eq (s := ds.length) q1 (by omega) h0 (by omega)
          obtain ⟨x, ha, hm2⟩ := at_mem t0 t1
          obtain ⟨rr, x', s3, e3, hrr, g3, q3⟩ := ih m (k + 1 + 1) s2 x B L (hx x hm2) (by omega) q2 (by omega) (by omega) h1 hB hL
          have hi := ixN_of t0 t1
          refine ⟨.ow (.list (ds.set r2.toNat x')), (.list (ds.set r2.toNat x')), s3, ?_, .inr rfl, .list (by simp; omega) fun y hy => ?_, q3.mono (by omega)⟩
          · unfold f__law_corrupt b__law_corrupt
            rcases hrr with rfl | rfl <;> simp [h0, e1, hr, e2, ha, e3, hi, hne]
          · rcases List.mem_or_eq_of_mem_set hy with h | h
            · exact (hx y h).mono (Nat.le_succ _) (Nat.le_succ _)
            · rw [h]; exact g3
        · obtain ⟨x, s', r, e, a, g, q⟩ := pick_eq (n := n + 1) (B := B + 1) (L := L + 1) q1 (by omega) _ 5 rfl (by decide) (by decide) five
          refine ⟨_, x, s', ?_, .inl rfl, g, q.mono (by omega)⟩
          unfold f__law_corrupt b__law_corrupt
          simp [h0, e1, hr, e, a, hz, hne]
    | @tup _ ds hl hx =>
      have five : ∀ x ∈ [PyData.list ds, .tuple (ds ++ cutD ds none (some 1)), .tuple (cutD ds (some 1) none), .tuple ds.reverse, .none], Gd (B + 1) (L + 1) (n + 1) x := fun x hm => by
        have up : ∀ x ∈ ds, Gd (B + 1) (L + 1) n x := fun x h => (hx x h).mono (Nat.le_succ _) (Nat.le_succ _)
        have c1 := cut1_len ds
        have c2 := cutD_len ds (some 1) none
        simp only [List.mem_cons, List.not_mem_nil, or_false] at hm
        rcases hm with rfl | rfl | rfl | rfl | rfl
        · exact .list (by omega) up
        · refine .tup (by simp; omega) fun y hy => ?_
          rcases List.mem_append.mp hy with h | h
          · exact up y h
          · exact up y (cutD_mem h)
        · exact .tup (by omega) fun y hy => up y (cutD_mem hy)
        · exact .tup (by simp; omega) fun y hy => up y (List.mem_reverse.mp hy)
        · exact .none
      have hz : ltM (ds.length + (cutD ds none (some 1)).length) = true := ltM_of (by have := cut1_len ds; omega)
      cases hds : ds with
      | nil =>
        obtain ⟨x, s', r, e, a, g, q⟩ := pick_eq (n := n + 1) (B := B + 1) (L := L + 1) hs (by omega) _ 5 rfl (by decide) (by decide) five
        subst hds
        refine ⟨_, x, s', ?_, .inl rfl, g, q.mono (by omega)⟩
        unfold f__law_corrupt b__law_corrupt
        have hz' : ltM (cutD ([] : List D) none (some 1)).length = true := by simpa using hz
        simp at a
        simp [e, a, hz']
      | cons y0 ys =>
        rw [← hds]
        have hlen : 0 < ds.length := by rw [hds]; simp
        have hne : ds ≠ [] := by rw [hds]; simp
        have h0 : (0 : Int) < ds.length := by omega
        obtain ⟨r1, s1, e1, p0, p1, q1⟩ := draw_eq (s := 5) hs (by omega) (by decide) (by decide)
        by_cases hr : 0 < r1
        · obtain ⟨r2, s2, e2, t0, t1, q2⟩ := draw_eq (s := ds.length) q1 (by omega) h0 (by omega)
          obtain ⟨x, ha, hm2⟩ := at_mem t0 t1
          obtain ⟨rr, x', s3, e3, hrr, g3, q3⟩ := ih m (k + 1 + 1) s2 x B L (hx x hm2) (by omega) q2 (by omega) (by omega) h1 hB hL
          have hi := ixN_of t0 t1
          refine ⟨.fr (.tuple (ds.set r2.toNat x')), (.tuple (ds.set r2.toNat x')), s3, ?_, .inl rfl, .tup (by simp; omega) fun y hy => ?_, q3.mono (by omega)⟩
          · unfold f__law_corrupt b__law_corrupt
            rcases hrr with rfl | rfl <;> simp [h0, e1, hr, e2, ha, e3, hi, hne]
          · rcases List.mem_or_eq_of_mem_set hy with h | h
            · exact (hx y h).mono (Nat.le_succ _) (Nat.le_succ _)
            · rw [h]; exact g3
        · obtain ⟨x, s', r, e, a, g, q⟩ := pick_eq (n := n + 1) (B := B + 1) (L := L + 1) q1 (by omega) _ 5 rfl (by decide) (by decide) five
          refine ⟨_, x, s', ?_, .inl rfl, g, q.mono (by omega)⟩
          unfold f__law_corrupt b__law_corrupt
          simp [h0, e1, hr, e, a, hz, hne]

end Lf

/-! P12: _law_mixed. -/
namespace Lf
open PySem PySem.Spec PyProof.Rows L2
theorem erase_perm {α : Type} : ∀ {l : List α} {i : Nat} {x : α}, l[i]? = some x → (l.eraseIdx i ++ [x]).Perm l
  | [], _, _, h => by simp at h
  | a :: l, 0, x, h => by
    simp at h
    subst h
    simp
  | a :: l, i + 1, x, h => by
    simp at h
    simp
    exact erase_perm h
theorem mixed_eq {k : Int} {s : D} {ds : List D} (hs : Src k s) (hk : k + ds.length ≤ 1000000000) (hl : ds.length ≤ 900) (hd : ∀ d ∈ ds, Shp 5 d) :
    ∃ ys s', f__law_mixed s [.list ds] = .ok (.ow (.list ys), s') ∧ ys.Perm ds ∧ Src (k + ds.length) s' := by
  obtain ⟨ρ', e, rest, found, s', rfl, hr, hp, hq⟩ := whD_inv (c := tst (frz (op2V 2 neS (frz (lstM (M.pure [])))))) (body := exprM (appM 3 (frz (popAtM 2 (frz (callIO 0 f__law_draw (consM (frz (bltV 2 lenS)) (M.pure []))))))))
    (fun n ρ => ∃ rest found s', ρ = [some (.io s'), some (.fr (.list ds)), some (.ow (.list rest)), some (.ow (.list found))] ∧ rest.length = n ∧ (found ++ rest).Perm ds ∧ Src (k + (ds.length - n : Int)) s')
    (fun ρ => ∃ rest found s', ρ = [some (.io s'), some (.fr (.list ds)), some (.ow (.list rest)), some (.ow (.list found))] ∧ rest = [] ∧ (found ++ rest).Perm ds ∧ Src (k + ds.length) s')
    (by
      rintro n ρ ⟨rest, found, s', rfl, hr, hp, hq⟩
      have hle : rest.length ≤ ds.length := by have := hp.length_eq; simp at this; omega
      have hfl : found.length ≤ ds.length := by have := hp.length_eq; simp at this; omega
      have hsh : SeqAt.shaped (.list rest) = true := (Shp.list fun d hm => hd d (hp.mem_iff.mp (List.mem_append_right _ hm))).shaped
      cases hrest : rest with
      | nil =>
        left
        refine ⟨_, ?_, [], found, s', rfl, rfl, by rw [← hrest]; exact hp, ?_⟩
        · simp
        · subst hrest; simp at hr; subst hr; simpa using hq
      | cons y ys =>
        right
        rw [← hrest]
        have hne : rest ≠ [] := by rw [hrest]; simp
        have hlen : 0 < rest.length := by rw [hrest]; simp
        obtain ⟨r, s2, e2, r0, r1, q2⟩ := draw_eq (s := rest.length) hq (by omega) (by omega) (by omega)
        have hi := ixN_of r0 r1
        obtain ⟨x, hx, hxm⟩ := at_mem r0 r1
        have hx2 : rest[r.toNat]? = some x := by
          unfold atI at hx; rw [hi] at hx; simpa using hx
        have hlt : r.toNat < rest.length := by omega
        refine ⟨[some (.io s'), some (.fr (.list ds)), some (.ow (.list rest)), some (.ow (.list found))], _, n - 1, ?_, .inl ?_, by omega, rest.eraseIdx r.toNat, found ++ [x], s2, rfl, ?_, ?_, ?_⟩
        · subst hrest; simp [hsh]
        · have hf : ltM (found.length + 1) = true := ltM_of (by omega)
          have hpop : popAtS (.int r) (.list rest) = some (.fr x, .list (rest.eraseIdx r.toNat)) := by unfold popAtS popAtD; simp [hi, hx2]; omega
          simp [e2, hpop, hf]
        · rw [List.length_eraseIdx]; simp [hlt]; omega
        · refine List.Perm.trans ?_ hp
          rw [List.append_assoc]
          refine List.Perm.append_left _ ?_
          exact List.perm_append_comm.trans (erase_perm hx2)
        · have : k + ((ds.length : Int) - (n - 1 : Nat)) = k + (ds.length - n : Int) + 1 := by omega
          rw [this]; exact q2)
    ds.length 1000 [some (.io s), some (.fr (.list ds)), some (.ow (.list ds)), some (.ow (.list []))] ⟨ds, [], s, rfl, rfl, by simp, by simpa using hs⟩ (by omega)
  subst hr
  refine ⟨found, s', ?_, by simpa using hp, hq⟩
  unfold f__law_mixed b__law_mixed fuel
  simp [e]
end Lf

/-! P13: _law_tree, as bounded data. -/
namespace Lf
open PySem PySem.Spec PyProof.Rows L2
/-- each edge joins a later name with an earlier one -/
def TE (ys : List D) (es : List Ed) : Prop := ∀ (j : Nat) (e : Ed), es[j]? = some e → ∃ o a b : Int, 0 ≤ o ∧ o ≤ j ∧ atI ys (1 + (j : Int)) = some (.int a) ∧ atI ys o = some (.int b) ∧ e = (if b < a then b else a, if a < b then b else a)
theorem tree_raw {k : Int} {s : D} {most : Int} (hs : Src k s) (h0 : 0 ≤ most) (h1 : most ≤ 100) (hk : 0 ≤ k) (hk2 : k ≤ 900000000) :
    ∃ (es : List Ed) (ys : List D) (cnt : Int) (s' : D), f__law_tree s [.int most] = .ok (.fr (.tuple ((isortB HT.lexLt (es.map edL)).map tupI)), s') ∧ 0 ≤ cnt ∧ cnt ≤ most ∧ (es.length : Int) = cnt ∧ (∀ e ∈ es, 0 ≤ e.1 ∧ 0 ≤ e.2 ∧ e.1 ≤ most ∧ e.2 ≤ most) ∧ ys.Perm (rangeD 0 (cnt + 1).toNat) ∧ TE ys es ∧ Src (k + 300) s' := by
  obtain ⟨cnt, s1, e1, c0, c1, q1⟩ := draw_eq (s := most + 1) hs (by omega) (by omega) (by omega)
  obtain ⟨way, s2, e2, w0, w1, q2⟩ := draw_eq (s := 4) q1 (by omega) (by decide) (by decide)
  have hrl : (rangeD 0 (cnt + 1).toNat).length = (cnt + 1).toNat := by simp [rangeD]
  obtain ⟨ys, s3, e3, hp, q3⟩ := mixed_eq (ds := rangeD 0 (cnt + 1).toNat) q2 (by rw [hrl]; omega) (by rw [hrl]; omega) (fun d hd => by
    unfold rangeD at hd
    obtain ⟨i, _, rfl⟩ := List.mem_map.mp hd
    exact Shp.int _ _)
  have hyl : (ys.length : Int) = cnt + 1 := by rw [hp.length_eq, hrl]; omega
  have hym : ∀ y ∈ ys, ∃ v : Int, y = .int v ∧ 0 ≤ v ∧ v ≤ most := fun y hy => by
    have := hp.mem_iff.mp hy
    unfold rangeD at this
    obtain ⟨i, hi, rfl⟩ := List.mem_map.mp this
    rw [List.mem_range] at hi
    exact ⟨_, rfl, by omega, by omega⟩
  have loop := forD_inv (set := setFr 6) (body := (seqM (setM 7 (ifV (tst (op2 eqD (varM 3) (M.pure (.int 0)))) (fre (op2 subD (varM 6) (M.pure (.int 1)))) (fre (M.pure (.int 0))))) (seqM (ifM (tst (op2 gtI (varM 3) (M.pure (.int 1)))) (setM 7 (callIO 0 f__law_draw (consM (varM 6) (M.pure [])))) Out.nx) (seqM (parM [8, 9] (consF (op2F itemS (varM 4) (varM 6)) (consF (op2F itemS (varM 4) (varM 7)) (M.pure [])))) (exprM (appM 5 (frz (tupM (consM (frz (bltM min2S (consM (varM 8) (consM (varM 9) (M.pure []))))) (consM (frz (bltM max2S (consM (varM 8) (consM (varM 9) (M.pure []))))) (M.pure [])))))))))))
    (fun i ρ => ∃ (es : List Ed) (s' : D) (n4 a b c e : Option S), (n4 = some (.ow (.list ys)) ∨ n4 = some (.fr (.list ys))) ∧ ρ = [some (.io s'), some (.fr (.int most)), some (.fr (.int cnt)), some (.fr (.int way)), n4, some (.ow (.list (es.map edD))), a, b, c, e] ∧ es.length = i ∧ (∀ e ∈ es, 0 ≤ e.1 ∧ 0 ≤ e.2 ∧ e.1 ≤ most ∧ e.2 ≤ most) ∧ TE ys es ∧ Src (k + 150 + (i : Nat)) s')
    (ds := rangeD 1 (cnt + 1 - 1).toNat) (k := 0) (ρ := [some (.io s3), some (.fr (.int most)), some (.fr (.int cnt)), some (.fr (.int way)), some (.ow (.list ys)), some (.ow (.list [])), none, none, none, none])
    (by
      rintro i d ρ hd ⟨es, s', n4, a, b, c, e, hn4, rfl, hl, hm, hte, hq⟩
      have hi : i < cnt := by
        have := (List.getElem?_eq_some_iff.mp hd).1
        simp [rangeD] at this; omega
      have := rangeD_get hd
      subst this
      obtain ⟨y1, a1, m1⟩ := at_mem (ds := ys) (r := 1 + (i : Int)) (by omega) (by omega)
      obtain ⟨v1, rfl, u0, u1⟩ := hym _ m1
      have hf : ltM (es.length + 1) = true := ltM_of (by omega)
      have fin : ∀ (o : Int), 0 ≤ o → o ≤ cnt → ∃ v2 : Int, atI ys o = some (.int v2) ∧ 0 ≤ v2 ∧ v2 ≤ most := fun o o0 o1 => by
        obtain ⟨y2, a2, m2⟩ := at_mem (ds := ys) (r := o) (by omega) (by omega)
        obtain ⟨v2, rfl, x0, x1⟩ := hym _ m2
        exact ⟨v2, a2, x0, x1⟩
      have go : ∀ (o v2 : Int) (s'' : D), 0 ≤ o → o ≤ i → atI ys o = some (.int v2) → 0 ≤ v2 → v2 ≤ most → Src (k + 150 + (i + 1 : Nat)) s'' → ∃ (es2 : List Ed) (t : D) (n4 a b c e : Option S), (n4 = some (.ow (.list ys)) ∨ n4 = some (.fr (.list ys))) ∧ [some (.io s''), some (.fr (.int most)), some (.fr (.int cnt)), some (.fr (.int way)), some (.fr (.list ys)), some (.ow (.list (es.map edD ++ [.tuple [.int (if v2 < v1 then v2 else v1), .int (if v1 < v2 then v2 else v1)]]))), some (.fr (.int (1 + (i : Int)))), some (.fr (.int o)), some (.fr (.int v1)), some (.fr (.int v2))] = [some (.io t), some (.fr (.int most)), some (.fr (.int cnt)), some (.fr (.int way)), n4, some (.ow (.list (es2.map edD))), a, b, c, e] ∧ es2.length = 0 + i + 1 ∧ (∀ e ∈ es2, 0 ≤ e.1 ∧ 0 ≤ e.2 ∧ e.1 ≤ most ∧ e.2 ≤ most) ∧ TE ys es2 ∧ Src (k + 150 + (0 + i + 1 : Nat)) t := fun o v2 s'' o0 o1 a2 x0 x1 hq => by
        refine ⟨es ++ [(if v2 < v1 then v2 else v1, if v1 < v2 then v2 else v1)], s'', some (.fr (.list ys)), some (.fr (.int (1 + (i : Int)))), some (.fr (.int o)), some (.fr (.int v1)), some (.fr (.int v2)), .inr rfl, by simp [edD], by simp [hl], fun e he => ?_, fun j e he => ?_, by rw [Nat.zero_add]; exact hq⟩
        · rcases List.mem_append.mp he with he | he
          · exact hm e he
          · rw [List.mem_singleton.mp he]
            dsimp only
            refine ⟨?_, ?_, ?_, ?_⟩ <;> split <;> omega
        · by_cases hj : j < es.length
          · rw [List.getElem?_append_left hj] at he
            exact hte j e he
          · have hj2 : j = i := by
              have := (List.getElem?_eq_some_iff.mp he).1
              simp at this; omega
            subst hj2
            rw [List.getElem?_append_right (by omega)] at he
            have h0 : j - es.length = 0 := by omega
            rw [h0] at he
            cases he
            exact ⟨o, v1, v2, o0, o1, a1, a2, rfl⟩
      have hq1 : 1 + (i : Int) - 1 = i := by omega
      by_cases hw0 : way = 0
      · obtain ⟨v2, a2, x0, x1⟩ := fin (i : Int) (by omega) (by omega)
        refine ⟨_, _, by simp; rfl, .inl ?_, go (i : Int) v2 s' (by omega) (by omega) a2 x0 x1 (hq.mono (by omega))⟩
        subst hw0
        rcases hn4 with rfl | rfl <;> simp [a1, hq1, a2, hf]
      · by_cases hw1 : 1 < way
        · obtain ⟨o, s'', e4, o0, o1, q4⟩ := draw_eq (s := 1 + (i : Int)) hq (by omega) (by omega) (by omega)
          obtain ⟨v2, a2, x0, x1⟩ := fin o (by omega) (by omega)
          refine ⟨_, _, by simp; rfl, .inl ?_, go o v2 s'' (by omega) (by omega) a2 x0 x1 (q4.mono (by omega))⟩
          rcases hn4 with rfl | rfl <;> simp [a1, a2, hf, hw0, hw1, e4]
        · obtain ⟨v2, a2, x0, x1⟩ := fin 0 (by omega) (by omega)
          refine ⟨_, _, by simp; rfl, .inl ?_, go 0 v2 s' (by omega) (by omega) a2 x0 x1 (hq.mono (by omega))⟩
          rcases hn4 with rfl | rfl <;> simp [a1, a2, hf, hw0, hw1])
    ⟨[], s3, _, none, none, none, none, .inl rfl, rfl, rfl, by simp, (fun j e he => by simp at he), q3.mono (by rw [hrl]; omega)⟩
  obtain ⟨ρ', el, es, s4, n4, a, b, c, e, hn4, rfl, hl, hm, hte, hq⟩ := loop
  have hl2 : (es.length : Int) = cnt := by rw [hl]; simp [rangeD]; omega
  have hpm := isortB_perm HT.lexLt (es.map edL)
  refine ⟨es, ys, cnt, s4, ?_, c0, by omega, hl2, hm, hp, hte, hq.mono (by rw [← hl]; omega)⟩
  · have hso : sortS [.list (es.map edD)] = some (.ow (.list ((isortB HT.lexLt (es.map edL)).map tupI))) := by
      unfold sortS
      dsimp only
      rw [sortD_eds]; rfl
    have hr1 : rgB (cnt + 1) = true := rgB_of (by omega) (by omega)
    have hr2 : cnt + 1 ≤ 16777216 := by omega
    unfold f__law_tree b__law_tree
    have hrg : rg2 [.int 1, .int (cnt + 1)] = some (rangeD 1 (cnt + 1 - 1).toNat) := by
      unfold rg2
      dsimp only
      rw [if_pos ⟨rgB_of (by omega) (by omega), rgB_of (by omega) (by omega)⟩]
    rw [show cnt + 1 - 1 = cnt by omega] at el hrg
    simp [e1, e2, e3, lrg1, hr1, hr2, hrg, el, hso]
theorem tree_eq {k : Int} {s : D} {most : Int} (hs : Src k s) (h0 : 0 ≤ most) (h1 : most ≤ 100) (hk : 0 ≤ k) (hk2 : k ≤ 900000000) :
    ∃ (es : List (List Int)) (s' : D), f__law_tree s [.int most] = .ok (.fr (.tuple (es.map tupI)), s') ∧ es.length ≤ most ∧ (∀ e ∈ es, ∃ a b : Int, e = [a, b] ∧ 0 ≤ a ∧ 0 ≤ b ∧ a ≤ most ∧ b ≤ most) ∧ Src (k + 300) s' := by
  obtain ⟨es, ys, cnt, s', e, c0, c1, hl, hm, _, _, hq⟩ := tree_raw hs h0 h1 hk hk2
  have hpm := isortB_perm HT.lexLt (es.map edL)
  refine ⟨_, s', e, ?_, ?_, hq⟩
  · rw [hpm.length_eq, List.length_map]; omega
  · intro x hx
    obtain ⟨ed, he, rfl⟩ := List.mem_map.mp (hpm.mem_iff.mp hx)
    obtain ⟨y0, y1, y2, y3⟩ := hm ed he
    exact ⟨_, _, rfl, y0, y1, y2, y3⟩
end Lf

/-! P14: the tree of _law_tree is a network. -/
namespace Lf
open PySem PySem.Spec PyProof.Rows L2
theorem insB_map {α β : Type} (lt : β → β → Bool) (f : α → β) (a : α) : ∀ l : List α, (insB (fun x y => lt (f x) (f y)) a l).map f = insB lt (f a) (l.map f)
  | [] => rfl
  | b :: r => by
    unfold insB
    rw [List.map_cons]
    dsimp only
    split
    · rw [List.map_cons, insB_map lt f a r]
    · rfl
theorem isortB_map {α β : Type} (lt : β → β → Bool) (f : α → β) : ∀ l : List α, (isortB (fun x y => lt (f x) (f y)) l).map f = isortB lt (l.map f)
  | [] => rfl
  | a :: r => by
    rw [isortB, insB_map, isortB_map lt f r]; rfl
/-- the sorted edges -/
def srtE (es : List Ed) : List Ed := isortB (fun x y => HT.lexLt (edL x) (edL y)) es
theorem srtE_perm (es : List Ed) : (srtE es).Perm es := isortB_perm _ _
theorem srtE_edL (es : List Ed) : (srtE es).map edL = isortB HT.lexLt (es.map edL) := isortB_map _ _ _
theorem srtE_map (es : List Ed) : (isortB HT.lexLt (es.map edL)).map tupI = (srtE es).map edD := by
  rw [← srtE_edL, List.map_map]; rfl
theorem srtE_strict {es : List Ed} (nd : es.Nodup) : strict (srtE es) = true := by
  have h := sorted_strict ((srtE_perm es).nodup_iff.mpr nd)
  rw [← h, decide_eq_true_eq]
  refine isortB_uniq swoL antiL (.refl _) ?_
  rw [srtE_edL]
  exact isortB_srt swoL _
theorem edsO_map {n : Int} : ∀ {es : List Ed}, (∀ e ∈ es, okE n e = true) → edsO n (es.map edD) = some es
  | [], _ => rfl
  | e :: es, h => by
    have h1 : edO (edD e) = some e := rfl
    rw [List.map_cons]
    unfold edsO
    rw [h1]
    simp only [h e List.mem_cons_self, if_true]
    rw [edsO_map fun x hx => h x (List.mem_cons_of_mem _ hx)]
    rfl
theorem Tr.inN {n : Nat} {es : List Ed} {d : Int → Int → Int} (t : Tr n es d) : ∀ e ∈ es, inN n e := fun e he => by
  obtain ⟨h1, h2, h3⟩ := t.ends e he
  exact ⟨h1, by omega, by omega, h3⟩
theorem gl_start {n : Nat} {u : Int} (u0 : 0 ≤ u) (u1 : u < n) : gl ((List.range n).map fun (i : Nat) => (i : Int)) u = u := by
  unfold gl
  have : u.toNat < n := by omega
  simp [List.getD, this]; omega
/-- a network is one for the program -/
theorem Tr.net {n : Nat} {es : List Ed} {d : Int → Int → Int} (t : Tr n es d) (hs : strict es = true) (hl : es.length ≤ 24) : netB (netD es) = true := by
  unfold netB netD
  simp only [List.length_map]
  rw [edsO_map fun e he => by
    obtain ⟨h1, h2, h3⟩ := t.ends e he
    have := t.len
    unfold okE
    simp only [Bool.and_eq_true, decide_eq_true_eq]
    omega]
  simp only [hs, Bool.and_eq_true, decide_eq_true_eq, Bool.true_and]
  refine ⟨hl, ?_⟩
  have hn := t.inN
  rw [← t.len] at hn
  rw [uf_iff rfl hn]
  have hg : ((List.range (es.length + 1)).map fun (i : Nat) => (i : Int)).length = es.length + 1 := by simp
  obtain ⟨l1, l2⟩ := lab_edge es _ hg hn
  have go : ∀ (k : Nat) (u : Int), Vn n u → d u 0 ≤ k → gl (lab (es.length + 1) es) u = gl (lab (es.length + 1) es) 0 := by
    have z0 : Vn n 0 := ⟨Int.le_refl 0, by have := t.len; omega⟩
    intro k
    induction k with
    | zero =>
      intro u hu h
      have : u = 0 := (t.tm.z hu z0).mp (by have := t.tm.nn hu z0; omega)
      rw [this]
    | succ k ih =>
      intro u hu h
      by_cases e : u = 0
      · rw [e]
      · obtain ⟨c, hc, h1, h2⟩ := t.tm.st hu z0 e
        rw [← ih c hc (by omega)]
        rcases (t.adj hu hc).mp h1 with q | q
        · exact l2 _ q
        · exact (l2 _ q).symm
  intro u u0 u1
  have hu : Vn n u := ⟨u0, by have := t.len; omega⟩
  exact go (d u 0).toNat u hu (by have := t.tm.nn hu ⟨Int.le_refl 0, by have := t.len; omega⟩; omega)
theorem ints_of : ∀ {ys : List D}, (∀ y ∈ ys, ∃ v : Int, y = .int v) → ∃ zs : List Int, ys = zs.map .int
  | [], _ => ⟨[], rfl⟩
  | y :: ys, h => by
    obtain ⟨v, rfl⟩ := h y List.mem_cons_self
    obtain ⟨zs, rfl⟩ := ints_of fun y hy => h y (List.mem_cons_of_mem _ hy)
    exact ⟨v :: zs, rfl⟩
theorem atI_int {zs : List Int} {i a : Int} (h0 : 0 ≤ i) (h : atI (zs.map PyData.int) i = some (.int a)) : zs[i.toNat]? = some a ∧ i.toNat < zs.length := by
  unfold atI at h
  cases q : ixN (zs.map PyData.int).length i with
  | none => rw [q] at h; cases h
  | some j =>
    rw [q] at h
    have hj : j = i.toNat := by
      unfold ixN at q
      rw [if_pos h0] at q
      split at q
      · exact (Option.some.inj q).symm
      · cases q
    subst hj
    simp only [List.getElem?_map, Option.bind_eq_bind, Option.bind_some] at h
    cases q2 : zs[i.toNat]? with
    | none => rw [q2] at h; cases h
    | some b =>
      rw [q2] at h
      have e : b = a := by simpa using h
      exact ⟨by rw [e], (List.getElem?_eq_some_iff.mp q2).1⟩
theorem mem_mapI {α β : Type} {f : α → β} (inj : ∀ a b, f a = f b → a = b) {a : α} {l : List α} : f a ∈ l.map f ↔ a ∈ l :=
  ⟨fun h => by obtain ⟨b, hb, e⟩ := List.mem_map.mp h; rw [← inj _ _ e]; exact hb, fun h => List.mem_map.mpr ⟨a, h, rfl⟩⟩
theorem nodup_mapI {α β : Type} {f : α → β} (inj : ∀ a b, f a = f b → a = b) {l : List α} : (l.map f).Nodup ↔ l.Nodup := by
  unfold List.Nodup
  rw [List.pairwise_map]
  exact ⟨fun h => h.imp fun q e => q (by rw [e]), fun h => h.imp fun q e => q (inj _ _ e)⟩
theorem nodup_get {α : Type} {l : List α} (nd : l.Nodup) {i j : Nat} (hi : i < l.length) (hj : j < l.length) (h : l[i] = l[j]) : i = j := by
  have := List.pairwise_iff_getElem.mp nd
  rcases Nat.lt_trichotomy i j with c | c | c
  · exact (this i j hi hj c h).elim
  · exact c
  · exact (this j i hj hi c h.symm).elim
theorem TE_grow {zs : List Int} {es : List Ed} (nd : zs.Nodup) (hl : es.length + 1 = zs.length) (h : TE (zs.map .int) es) : ∃ d, Grow zs es d := by
  have go : ∀ j, j ≤ es.length → ∃ d, Grow (zs.take (j + 1)) (es.take j) d := by
    intro j
    induction j with
    | zero =>
      intro _
      cases zs with
      | nil => simp at hl
      | cons a zs => exact ⟨_, by simpa using Grow.one a⟩
    | succ j ih =>
      intro hj
      obtain ⟨d, g⟩ := ih (by omega)
      obtain ⟨e, he⟩ : ∃ e, es[j]? = some e := ⟨es[j], by simp⟩
      obtain ⟨o, a, b, o0, o1, ha, hb, rfl⟩ := h j e he
      obtain ⟨h1, h2⟩ := atI_int (by omega) ha
      obtain ⟨h3, h4⟩ := atI_int o0 hb
      have e1 : (1 + (j : Int)).toNat = j + 1 := by omega
      rw [e1] at h1 h2
      have et : zs.take (j + 1 + 1) = zs.take (j + 1) ++ [a] := by rw [List.take_succ, h1]; rfl
      have ee : es.take (j + 1) = es.take j ++ [mkE a b] := by rw [List.take_succ, he]; rfl
      rw [et, ee]
      refine ⟨_, Grow.leaf a b g (fun z => ?_) ?_⟩
      · obtain ⟨i, hi, q⟩ := List.mem_iff_getElem.mp z
        rw [List.getElem_take] at q
        have hi2 : i < j + 1 := by simp at hi; omega
        have q1 : zs[j + 1] = a := (List.getElem?_eq_some_iff.mp h1).2
        have := nodup_get nd (by omega) h2 (q.trans q1.symm)
        omega
      · refine List.mem_iff_getElem.mpr ⟨o.toNat, by simp; omega, ?_⟩
        rw [List.getElem_take]
        exact (List.getElem?_eq_some_iff.mp h3).2
  obtain ⟨d, g⟩ := go es.length (Nat.le_refl _)
  rw [hl, List.take_length, List.take_length] at g
  exact ⟨d, g⟩
theorem rangeD_map (n : Nat) : rangeD 0 n = ((List.range n).map fun (i : Nat) => (i : Int)).map .int := by
  unfold rangeD
  rw [List.map_map]
  refine List.map_congr_left fun i _ => ?_
  simp
/-- the drawn network -/
theorem tree_net {k : Int} {s : D} {most : Int} (hs : Src k s) (h0 : 0 ≤ most) (h1 : most ≤ 100) (hk : 0 ≤ k) (hk2 : k ≤ 900000000) :
    ∃ (n : Nat) (es : List Ed) (d : Int → Int → Int) (s' : D), f__law_tree s [.int most] = .ok (.fr (netD es), s') ∧ Tr n es d ∧ strict es = true ∧ (n : Int) ≤ most + 1 ∧ Src (k + 300) s' := by
  obtain ⟨es, ys, cnt, s', e, c0, c1, hl, hm, hp, hte, hq⟩ := tree_raw hs h0 h1 hk hk2
  rw [rangeD_map] at hp
  obtain ⟨zs, rfl⟩ := ints_of (ys := ys) fun y hy => by
    obtain ⟨v, _, rfl⟩ := List.mem_map.mp (hp.mem_iff.mp hy)
    exact ⟨v, rfl⟩
  have inj : ∀ a b : Int, PyData.int a = PyData.int b → a = b := fun a b h => by cases h; rfl
  have mem : ∀ x : Int, x ∈ zs ↔ Vn (cnt + 1).toNat x := fun x => by
    have := hp.mem_iff (a := PyData.int x)
    rw [mem_mapI inj, mem_mapI inj] at this
    rw [this, List.mem_map]
    constructor
    · rintro ⟨i, hi, rfl⟩; rw [List.mem_range] at hi; exact ⟨by omega, by omega⟩
    · rintro ⟨x0, x1⟩; exact ⟨x.toNat, List.mem_range.mpr (by omega), by omega⟩
  have hzl : zs.length = (cnt + 1).toNat := by have := hp.length_eq; simpa using this
  have nd : zs.Nodup := by
    have h2 : (zs.map PyData.int).Nodup := hp.nodup_iff.mpr (by
      rw [nodup_mapI inj, nodup_mapI fun a b h => by omega]
      exact List.nodup_range)
    exact (nodup_mapI inj).mp h2
  obtain ⟨d, g⟩ := TE_grow nd (by rw [hzl]; omega) hte
  have t := g.tr mem hzl
  refine ⟨_, srtE es, d, s', ?_, t.perm (srtE_perm es), srtE_strict t.nd, by omega, hq⟩
  rw [e, srtE_map]; rfl
end Lf

/-! EY: the new combinators, run; typed dicts; comprehensions over typed lists. -/
namespace Lf
open PySem PySem.Spec PyProof.Rows L2
@[simp] theorem raiseM_ev (c : Str) (ρ : EnvD) : raiseM c ρ = .exc c := (Eq.refl _).trans (Eq.refl _)
def Res.cb1 (r : Res (List D × EnvD)) (i : Nat) : Res (List D × EnvD) := match r with
  | .ok (ds, ρ) => (match slotM i ρ with
    | .ok (d, ρ) => .ok (d :: ds, ρ)
    | .exc c => .exc c
    | .bad => .bad)
  | .exc c => .exc c
  | .bad => .bad
def Res.cb0 (r : Res (D × EnvD)) (i : Nat) (ms : M (List D)) : Res (List D × EnvD) := match r with
  | .ok (_, ρ) => (ms ρ).cb1 i
  | .exc c => .exc c
  | .bad => .bad
@[simp] theorem cb0_ok (d : D) (ρ : EnvD) (i : Nat) (ms : M (List D)) : Res.cb0 (.ok (d, ρ)) i ms = (ms ρ).cb1 i := (Eq.refl _).trans (Eq.refl _)
@[simp] theorem cb1_ok (ds : List D) (ρ : EnvD) (i : Nat) : Res.cb1 (.ok (ds, ρ)) i = (slotM i ρ).cs (M.pure ds) := by
  unfold Res.cb1 Res.cs
  dsimp only
  generalize slotM i ρ = r
  cases r <;> rfl
@[simp] theorem consB_ev (i : Nat) (ms : M (List D)) (ρ : EnvD) : consB i ms ρ = (slotM i ρ).cb0 i ms := by
  unfold consB M.bind Res.cb0
  cases slotM i ρ with
  | ok p =>
    obtain ⟨d, ρ1⟩ := p
    simp only
    unfold Res.cb1
    cases ms ρ1 with
    | ok p =>
      obtain ⟨ds, ρ2⟩ := p
      simp only
      cases slotM i ρ2 <;> rfl
    | exc c => rfl
    | bad => rfl
  | exc c => rfl
  | bad => rfl
@[simp] theorem callRd_ev (f : List D → Res S) (ms : M (List D)) (ρ : EnvD) : callRd f ms ρ = (ms ρ).kc (fun ds => flatR (f ds)) := by
  unfold callRd M.bind Res.kc
  cases ms ρ <;> rfl
@[simp] theorem flatR_b (b : Bool) : flatR (.ok (.fr (.bool b))) = .ok (.fr (.bool b)) := (Eq.refl _).trans (Eq.refl _)
@[simp] theorem flatR_i (b : Int) : flatR (.ok (.fr (.int b))) = .ok (.fr (.int b)) := (Eq.refl _).trans (Eq.refl _)
@[simp] theorem flatR_n : flatR (.ok (.fr .none)) = .ok (.fr .none) := (Eq.refl _).trans (Eq.refl _)
/-! ### typed dicts -/
/-- a dict with int keys -/
def dI (l : List (Int × D)) : D := .dict (l.map fun kv => (.int kv.1, kv.2))
theorem isTd_I (l : List (Int × D)) : isTd (l.map fun kv => (PyData.int kv.1, kv.2)) = false := by cases l <;> rfl
def getI (l : List (Int × D)) (k : Int) : Option D := (l.find? fun kv => decide (kv.1 = k)).map (·.2)
theorem getK_I (l : List (Int × D)) (k : Int) : getK (l.map fun kv => (PyData.int kv.1, kv.2)) (.inl k) = getI l k := by
  unfold getK getI
  induction l with
  | nil => rfl
  | cons e l ih =>
    rw [List.map_cons, List.find?_cons, List.find?_cons]
    by_cases he : e.1 = k
    · subst he
      have : decide (keyOf (PyData.int e.1) = some (Sum.inl e.1)) = true := by simp [keyOf]
      simp only [this, decide_true, Option.map_some]
    · have : decide (keyOf (PyData.int e.1) = some (Sum.inl k)) = false := by simp [keyOf, he]
      simp only [this, he, decide_false]
      exact ih
theorem getI_mem {l : List (Int × D)} {k : Int} : (getI l k).isSome = decide (k ∈ l.map (·.1)) := by
  unfold getI
  induction l with
  | nil => rfl
  | cons e l ih =>
    rw [List.find?_cons]
    by_cases he : e.1 = k
    · simp [he]
    · have h2 : ¬ k = e.1 := fun z => he z.symm
      simp only [he, decide_false, List.map_cons, List.mem_cons, h2, false_or]
      exact ih
theorem dgetS_I {l : List (Int × D)} {k : Int} : dgetS (dI l) (.int k) = (getI l k).map .fr := by
  unfold dgetS dI keyOf
  simp only [isTd_I, getK_I]
  rfl
theorem dinS_I {b : Bool} {l : List (Int × D)} {k : Int} : dinS b (.int k) (dI l) = some (.fr (.bool (if b = true then decide (k ∈ l.map (·.1)) else !decide (k ∈ l.map (·.1))))) := by
  unfold dinS dI keyOf
  simp only [isTd_I, getK_I, getI_mem]
  rfl
/-- a key put: at its place, or at the end -/
def putI (l : List (Int × D)) (k : Int) (v : D) : List (Int × D) := if k ∈ l.map (·.1) then l.map fun kv => if kv.1 = k then (kv.1, v) else kv else l ++ [(k, v)]
theorem dstD_I {l : List (Int × D)} {k : Int} {v : D} (h : l.length < 1000000) : dstD (.int k) v (dI l) = some (dI (putI l k v)) := by
  unfold dstD dI keyOf
  simp only [isTd_I]
  have hl : ltM ((l.map fun kv => (PyData.int kv.1, kv.2)).length + 1) = true := by unfold ltM; exact decide_eq_true (by simp; omega)
  rw [if_neg (by decide), if_pos hl]
  unfold putKD putI
  rw [getK_I, getI_mem]
  by_cases hk : k ∈ l.map (·.1)
  · rw [if_pos (decide_eq_true hk), if_pos hk, List.map_map, List.map_map]
    congr 2
    refine List.map_congr_left fun kv _ => ?_
    simp only [Function.comp]
    by_cases he : kv.1 = k
    · rw [if_pos (by rw [he]; rfl), if_pos he]
    · rw [if_neg (by intro z; injection z with z; injection z with z; exact he z), if_neg he]
  · rw [if_neg (by simpa using hk), if_neg hk, List.map_append]
    rfl
theorem putI_new {l : List (Int × D)} {k : Int} {v : D} (h : k ∉ l.map (·.1)) : putI l k v = l ++ [(k, v)] := if_neg h
theorem getI_new {l : List (Int × D)} {k j : Int} {v : D} (h : k ∉ l.map (·.1)) : getI (l ++ [(k, v)]) j = if j = k then some v else getI l j := by
  unfold getI
  rw [List.find?_append]
  by_cases e : j = k
  · subst e
    rw [if_pos rfl]
    have : (l.find? fun kv => decide (kv.1 = j)) = none := List.find?_eq_none.mpr fun x hx => by
      simp only [decide_eq_true_eq]
      intro z; exact h (List.mem_map.mpr ⟨x, hx, z⟩)
    rw [this]
    simp
  · rw [if_neg e]
    have : ¬ k = j := fun z => e z.symm
    simp [this]
theorem getI_of {l : List (Int × D)} (nd : (l.map (·.1)).Nodup) {k : Int} {v : D} (h : (k, v) ∈ l) : getI l k = some v := by
  unfold getI
  induction l with
  | nil => cases h
  | cons e l ih =>
    rw [List.map_cons, List.nodup_cons] at nd
    rw [List.find?_cons]
    rcases List.mem_cons.mp h with q | q
    · subst q; simp
    · have : ¬ e.1 = k := fun z => nd.1 (List.mem_map.mpr ⟨(k, v), q, z.symm⟩)
      simp only [this, decide_false]
      exact ih nd.2 q
theorem lenS_I (l : List (Int × D)) : lenS [dI l] = some (.fr (.int l.length)) := by
  unfold dI lenS
  simp only [isTd_I, List.length_map]
  rfl
/-! ### comprehensions over typed lists -/
theorem lcD_fm {α : Type} {enc : α → D} {p : α → Bool} {g : α → D} {vs : List Nat} {set : D → EnvD → Option EnvD} {c : M Bool} {e : M D} {ρw : EnvD} {l : List α} {acc : List D}
    (h : ∀ a ∈ l, ∃ ρ1 ρ2, set (enc a) ρw = some ρ1 ∧ c ρ1 = .ok (p a, ρ2) ∧ (p a = false → wipeD ρ2 vs = ρw) ∧ (p a = true → ∃ ρ3, e ρ2 = .ok (g a, ρ3) ∧ wipeD ρ3 vs = ρw)) (hl : l.length + acc.length ≤ 16777216) :
    lcD vs set c e (l.map enc) acc ρw = .ok (acc ++ (l.filter p).map g, ρw) := by
  induction l generalizing acc with
  | nil => simp [lcD]
  | cons a l ih =>
    obtain ⟨ρ1, ρ2, e1, e2, h1, h2⟩ := h a List.mem_cons_self
    rw [List.length_cons] at hl
    rw [List.map_cons]
    unfold lcD
    rw [e1]
    simp only [e2]
    cases hp : p a with
    | false =>
      simp only [h1 hp]
      rw [ih (fun b hb => h b (List.mem_cons_of_mem _ hb)) (by omega), List.filter_cons_of_neg (by simp [hp])]
    | true =>
      obtain ⟨ρ3, e3, h3⟩ := h2 hp
      have hz : ltM (acc.length + 1) = true := by unfold ltM; exact decide_eq_true (by omega)
      simp only [e3, hz, if_true, h3]
      rw [ih (fun b hb => h b (List.mem_cons_of_mem _ hb)) (by simp; omega), List.filter_cons_of_pos (by simp [hp])]
      simp
/-- a comprehension, from its iterable's data -/
theorem cmp_fm {α : Type} {enc : α → D} {p : α → Bool} {g : α → D} {vs : List Nat} {set : D → EnvD → Option EnvD} {c : M Bool} {e : M D} {ρ1 ρw : EnvD} {l : List α} (hw : wipeD ρ1 vs = ρw)
    (h : ∀ a ∈ l, ∃ ρ1 ρ2, set (enc a) ρw = some ρ1 ∧ c ρ1 = .ok (p a, ρ2) ∧ (p a = false → wipeD ρ2 vs = ρw) ∧ (p a = true → ∃ ρ3, e ρ2 = .ok (g a, ρ3) ∧ wipeD ρ3 vs = ρw)) (hl : l.length ≤ 16777216) :
    Res.cmp (.ok (l.map enc, ρ1)) vs set c e = .ok (.ow (.list ((l.filter p).map g)), backD ρ1 ρw vs) := by
  have := lcD_fm (acc := []) h (by simpa using hl)
  rw [List.nil_append] at this
  rw [cmp_ok (by rw [hw]; exact this)]
theorem cmp_mp {α : Type} {enc : α → D} {g : α → D} {vs : List Nat} {set : D → EnvD → Option EnvD} {e : M D} {ρ1 ρw : EnvD} {l : List α} (hw : wipeD ρ1 vs = ρw)
    (h : ∀ a ∈ l, ∃ ρ1, set (enc a) ρw = some ρ1 ∧ ∃ ρ3, e ρ1 = .ok (g a, ρ3) ∧ wipeD ρ3 vs = ρw) (hl : l.length ≤ 16777216) :
    Res.cmp (.ok (l.map enc, ρ1)) vs set yesM e = .ok (.ow (.list (l.map g)), backD ρ1 ρw vs) := by
  have := cmp_fm (p := fun _ => true) (g := g) (c := yesM) (e := e) hw (fun a ha => by
    obtain ⟨ρ2, e1, ρ3, e2, e3⟩ := h a ha
    exact ⟨ρ2, ρ2, e1, by simp, fun z => Bool.noConfusion z, fun _ => ⟨ρ3, e2, e3⟩⟩) hl
  rw [this, List.filter_eq_self.mpr fun _ _ => rfl]
/-- the ints from 0 on -/
def rng (n : Nat) : List Int := (List.range n).map fun (i : Nat) => (i : Int)
theorem rng_mem {n : Nat} {a : Int} : a ∈ rng n ↔ 0 ≤ a ∧ a < n := by
  unfold rng
  rw [List.mem_map]
  constructor
  · rintro ⟨i, hi, rfl⟩; rw [List.mem_range] at hi; omega
  · rintro ⟨h0, h1⟩; exact ⟨a.toNat, List.mem_range.mpr (by omega), by omega⟩
@[simp] theorem rng_len (n : Nat) : (rng n).length = n := by simp [rng]
theorem rangeD_rng (n : Nat) : rangeD 0 n = (rng n).map .int := by
  unfold rangeD rng
  rw [List.map_map]
  refine List.map_congr_left fun i _ => ?_
  simp
theorem rng_get {n : Nat} {i : Nat} (h : i < n) : (rng n)[i]? = some (i : Int) := by simp [rng, h]
theorem rng_nodup (n : Nat) : (rng n).Nodup := by
  unfold rng List.Nodup
  rw [List.pairwise_map]
  exact List.nodup_range.imp fun h e => h (by omega)
end Lf

/-! P15: the search in a network, distances_from. -/
namespace Lf
open PySem PySem.Spec PyProof.Rows L2
/-- each place found stands behind the one before it -/
def ordF (n : Nat) (d : Int → Int → Int) (p : Int) (F : Fnd) : Prop := ∀ (i : Nat) o q, F[i]? = some (o, q) → (q = none ∧ o = p) ∨ ∃ h, q = some h ∧ o ≠ p ∧ Vn n h ∧ d o h = 1 ∧ d h p = d o p - 1 ∧ h ∈ keysF (F.take i)
section
variable {n : Nat} {es : List Ed} {d : Int → Int → Int} (t : Tr n es d) {p : Int} (hp : Vn n p)
include t hp
theorem vis_ord {h o : Int} {st : Fnd × List Int} (hV : ∀ x ∈ keysF st.1, Vn n x) (hh : h ∈ keysF st.1) (ho : Vn n o) (ha : d h o = 1) (hF : ordF n d p st.1) (hpk : p ∈ keysF st.1) : ordF n d p (vis h st o).1 := by
  unfold vis
  split
  · exact hF
  · rename_i hn
    have hn : o ∉ keysF st.1 := hn
    intro i x q e
    by_cases hi : i < st.1.length
    · rw [List.getElem?_append_left hi] at e
      have := hF i x q e
      rw [List.take_append_of_le_length (by omega)]
      exact this
    · have hi2 : i = st.1.length := by
        have := (List.getElem?_eq_some_iff.mp e).1
        simp at this; omega
      subst hi2
      rw [List.getElem?_append_right (Nat.le_refl _), Nat.sub_self] at e
      have e2 : (o, some h) = (x, q) := Option.some.inj e
      cases e2
      right
      have hVh := hV h hh
      have op : o ≠ p := fun z => hn (z ▸ hpk)
      refine ⟨h, rfl, op, hVh, by rw [t.tm.sy ho hVh]; exact ha, ?_, by rw [List.take_append_of_le_length (Nat.le_refl _), List.take_length]; exact hh⟩
      rcases t.tm.ed hVh ho hp ha with c | c
      · -- o would be the one before h
        exfalso
        obtain ⟨⟨x, q⟩, hx, hx2⟩ := List.mem_map.mp hh
        dsimp only at hx2
        subst hx2
        obtain ⟨i, hi⟩ := List.getElem?_of_mem hx
        rcases hF i x q hi with ⟨_, e1⟩ | ⟨h', e1, _, v', a', c', m'⟩
        · subst e1
          rw [t.tm.self hp] at c
          have := t.tm.nn ho hp
          omega
        · have := t.tm.par_one hVh ho v' hp ha a' (by omega) c'
          subst this
          obtain ⟨y, hy, ey⟩ := List.mem_map.mp m'
          exact hn (List.mem_map.mpr ⟨y, List.mem_of_mem_take hy, ey⟩)
      · omega
theorem fold_ord {h : Int} : ∀ (l : List Int) (st : Fnd × List Int), (∀ x ∈ keysF st.1, Vn n x) → h ∈ keysF st.1 → p ∈ keysF st.1 → (∀ o ∈ l, Vn n o ∧ d h o = 1) → ordF n d p st.1 → ordF n d p (l.foldl (vis h) st).1
  | [], st, _, _, _, _, hF => hF
  | o :: l, st, hV, hh, hpk, hl, hF => by
    obtain ⟨ho, ha⟩ := hl o List.mem_cons_self
    rw [List.foldl_cons]
    refine fold_ord l _ (fun x hx => ?_) ((vis_keys h st o h).mpr (.inl hh)) ((vis_keys h st o p).mpr (.inl hpk)) (fun x hx => hl x (List.mem_cons_of_mem _ hx)) (vis_ord t hp hV hh ho ha hF hpk)
    rcases (vis_keys h st o x).mp hx with q | q
    · exact hV x q
    · rw [q]; exact ho
theorem bfs_ord : ∀ (k : Nat) (F F' : Fnd) (W : List Int), bfs (nbs n es) k F W = some F' → (∀ x ∈ keysF F, Vn n x) → (∀ x ∈ W, x ∈ keysF F) → p ∈ keysF F → ordF n d p F → ordF n d p F'
  | 0, _, _, _, h, _, _, _, _ => by cases h
  | k + 1, F, F', [], h, _, _, _, hF => by cases h; exact hF
  | k + 1, F, F', h :: W, e, hV, hW, hpk, hF => by
    have hk := hW h List.mem_cons_self
    have hVh := hV h hk
    have hl : ∀ o ∈ adjOf (nbs n es) h, Vn n o ∧ d h o = 1 := fun o ho => by
      have hm := (nbs_edge t.inN hVh.1 hVh.2).mp ho
      have ho2 : Vn n o := by
        rcases hm with q | q
        · have := t.inN _ q; exact ⟨this.2.2.1, this.2.2.2⟩
        · have := t.inN _ q; exact ⟨this.1, this.2.1⟩
      exact ⟨ho2, (t.adj hVh ho2).mpr hm⟩
    have hkeys : ∀ (l : List Int) (st : Fnd × List Int), (∀ o ∈ l, Vn n o) → (∀ x ∈ keysF st.1, Vn n x) → (∀ x ∈ st.2, x ∈ keysF st.1) → (∀ x ∈ keysF (l.foldl (vis h) st).1, Vn n x) ∧ (∀ x ∈ (l.foldl (vis h) st).2, x ∈ keysF (l.foldl (vis h) st).1) ∧ ∀ x ∈ keysF st.1, x ∈ keysF (l.foldl (vis h) st).1 := by
      intro l
      induction l with
      | nil => intro st _ a b; exact ⟨a, b, fun _ z => z⟩
      | cons o l ih =>
        intro st a b c
        obtain ⟨r1, r2, r3⟩ := ih (vis h st o) (fun x hx => a x (List.mem_cons_of_mem _ hx)) (fun x hx => by
          rcases (vis_keys h st o x).mp hx with q | q
          · exact b x q
          · rw [q]; exact a o List.mem_cons_self) (fun x hx => by
          rw [vis_keys]
          unfold vis at hx
          split at hx
          · exact .inl (c x hx)
          · rcases List.mem_append.mp hx with q | q
            · exact .inl (c x q)
            · exact .inr (List.mem_singleton.mp q))
        exact ⟨r1, r2, fun x hx => r3 x ((vis_keys h st o x).mpr (.inl hx))⟩
    obtain ⟨r1, r2, r3⟩ := hkeys (adjOf (nbs n es) h) (F, W) (fun o ho => (hl o ho).1) hV (fun x hx => hW x (List.mem_cons_of_mem _ hx))
    exact bfs_ord k _ F' _ e r1 r2 (r3 p hpk) (fold_ord t hp _ (F, W) hV hk hpk hl hF)
/-- the whole search -/
theorem Tr.search (hn : n ≤ 300) : ∃ F, bfs (nbs n es) 1000 [(p, none)] [p] = some F ∧ ordF n d p F ∧ (keysF F).Nodup ∧ ∀ u, u ∈ keysF F ↔ Vn n u := by
  obtain ⟨F, e, nd, rg, hk, _⟩ := bfs_lab t.inN hn hp.1 hp.2
  have hg : ((List.range n).map fun (i : Nat) => (i : Int)).length = n := by simp
  obtain ⟨l1, l2⟩ := lab_edge es _ hg t.inN
  have go : ∀ (k : Nat) (u : Int), Vn n u → d u p ≤ k → gl (lab n es) u = gl (lab n es) p := by
    intro k
    induction k with
    | zero =>
      intro u hu h
      have : u = p := (t.tm.z hu hp).mp (by have := t.tm.nn hu hp; omega)
      rw [this]
    | succ k ih =>
      intro u hu h
      by_cases e : u = p
      · rw [e]
      · obtain ⟨c, hc, h1, h2⟩ := t.tm.st hu hp e
        rw [← ih c hc (by omega)]
        rcases (t.adj hu hc).mp h1 with q | q
        · exact l2 _ q
        · exact (l2 _ q).symm
  refine ⟨F, e, ?_, nd, fun u => ⟨fun hu => rg u hu, fun hu => (hk u hu.1 hu.2).mpr (go (d u p).toNat u hu (by have := t.tm.nn hu hp; omega))⟩⟩
  refine bfs_ord t hp 1000 _ F _ e (fun x hx => ?_) (fun x hx => hx) List.mem_cons_self (fun i o q hi => ?_)
  · rw [List.mem_singleton.mp (show x ∈ [p] from hx)]; exact hp
  · cases i with
    | zero => cases hi; exact .inl ⟨rfl, rfl⟩
    | succ i => simp at hi
end
def parI (F : Fnd) : List (Int × D) := F.map fun e => (e.1, parD e.2)
theorem dctF_I (F : Fnd) : dctF F = dI (parI F) := by
  unfold dctF dI parI
  rw [List.map_map]; rfl
theorem parI_keys (F : Fnd) : (parI F).map (·.1) = keysF F := by unfold parI; rw [List.map_map]; rfl
section
variable {n : Nat} {es : List Ed} {d : Int → Int → Int}
theorem Tr.parents (t : Tr n es d) (hn : n ≤ 101) {p : Int} (hp : Vn n p) : ∃ F, f_parents_from [netD es, .int p] = .ok (.ow (dctF F)) ∧ ordF n d p F ∧ (keysF F).Nodup ∧ ∀ u, u ∈ keysF F ↔ Vn n u := by
  obtain ⟨F, e, h⟩ := t.search hp (by omega)
  have hl := t.len
  subst hl
  exact ⟨F, parents_eq t.inN (by omega) hp.1 (by have := hp.2; omega) e, h⟩
/-- the distances from a place -/
def rowI (n : Nat) (d : Int → Int → Int) (p : Int) : List Int := (rng n).map fun x => d p x
@[simp] theorem lenS_net (es : List Ed) : lenS [netD es] = some (.fr (.int es.length)) := by simp [netD]
@[simp] theorem seqD_net (es : List Ed) : seqD (netD es) = some (es.map edD) := by simp [netD]
@[simp] theorem lenS_lstI (l : List Int) : lenS [lstI l] = some (.fr (.int l.length)) := by simp [lstI]
@[simp] theorem seqD_lstI (l : List Int) : seqD (lstI l) = some (l.map .int) := by simp [lstI]
def disI (d : Int → Int → Int) (p : Int) (F : Fnd) : List (Int × D) := F.map fun e => (e.1, .int (d e.1 p))
theorem disI_len {d : Int → Int → Int} {p : Int} {F : Fnd} : (disI d p F).length = F.length := by simp [disI]
theorem disI_keys {d : Int → Int → Int} {p : Int} {F : Fnd} (i : Nat) : ((disI d p F).take i).map (·.1) = keysF (F.take i) := by
  unfold disI; rw [← List.map_take, List.map_map]; rfl
theorem rg1_n {n : Nat} {es : List Ed} (hl : es.length + 1 = n) (hn : n ≤ 1000000) : rg1 [.int ((es.length : Int) + 1)] = some ((rng n).map .int) := by
  unfold rg1
  dsimp only
  rw [if_pos (rgB_of (by omega) (by omega)), ← rangeD_rng]
  have : ((es.length : Int) + 1).toNat = n := by omega
  rw [this]
theorem Tr.dists (t : Tr n es d) (hn : n ≤ 101) {p : Int} (hp : Vn n p) : f_distances_from [netD es, .int p] = .ok (.ow (lstI (rowI n d p))) := by
  obtain ⟨F, e, ord, nd, mem⟩ := t.parents hn hp
  rw [dctF_I] at e
  have lenF : F.length ≤ n := by
    have h1 := len_cnt nd (fun x hx => (mem x).mp hx)
    have h2 := cnt_le n (keysF F)
    rw [← h1] at h2
    simpa using h2
  obtain ⟨ρ', e2, o4, rfl⟩ := forD_inv (set := setFr 4) (body := distances_from_b1) (fun i ρ => ∃ o4, ρ = [some (.fr (netD es)), some (.fr (.int p)), some (.ow (dI ((disI d p F).take i))), some (.fr (dI (parI F))), o4])
    (ds := (parI F).map fun e => .int e.1) (k := 0) (ρ := [some (.fr (netD es)), some (.fr (.int p)), some (.ow (dI [])), some (.fr (dI (parI F))), none])
    (by
      rintro i dd ρ hd ⟨o4, rfl⟩
      rw [Nat.zero_add]
      have hi : i < F.length := by have := (List.getElem?_eq_some_iff.mp hd).1; simpa [parI] using this
      obtain ⟨⟨o, q⟩, hoq⟩ : ∃ x, F[i]? = some x := ⟨F[i], by simp [hi]⟩
      have hdd : dd = .int o := by
        unfold parI at hd
        rw [List.map_map, List.getElem?_map, hoq] at hd
        exact (Option.some.inj hd).symm
      subst hdd
      have hg : getI (parI F) o = some (parD q) := getI_of (by rw [parI_keys]; exact nd) (List.mem_map.mpr ⟨(o, q), List.mem_of_getElem? hoq, rfl⟩)
      have hno : o ∉ ((disI d p F).take i).map (·.1) := by
        rw [disI_keys]
        intro z
        obtain ⟨j, hj, ej⟩ := List.mem_iff_getElem.mp z
        unfold keysF at ej hj
        rw [List.length_map, List.length_take] at hj
        rw [List.getElem_map, List.getElem_take] at ej
        have e3 : (keysF F)[j]'(by unfold keysF; rw [List.length_map]; omega) = (keysF F)[i]'(by unfold keysF; rw [List.length_map]; omega) := by
          unfold keysF
          rw [List.getElem_map, List.getElem_map, ej]
          have := (List.getElem?_eq_some_iff.mp hoq).2
          rw [this]
        have := nodup_get nd _ _ e3
        omega
      have hsz : ((disI d p F).take i).length < 1000000 := by rw [List.length_take, disI_len]; omega
      have key : ∀ v : Int, v = d o p → dstD (.int o) (.int v) (dI ((disI d p F).take i)) = some (dI ((disI d p F).take (i + 1))) := fun v hv => by
        have h1 : (disI d p F)[i]? = some (o, .int (d o p)) := by unfold disI; rw [List.getElem?_map, hoq]; rfl
        rw [dstD_I hsz, putI_new hno, List.take_succ, h1, hv]
        rfl
      refine ⟨[some (.fr (netD es)), some (.fr (.int p)), some (.ow (dI ((disI d p F).take i))), some (.fr (dI (parI F))), some (.fr (.int o))], _, by simp, .inl ?_, some (.fr (.int o)), rfl⟩
      unfold distances_from_b1
      rcases ord i o q hoq with ⟨rfl, rfl⟩ | ⟨h, rfl, hne, hVh, ha, hd1, hm⟩
      · have := key 0 (t.tm.self hp).symm
        simp [dgetS_I, hg, parD, this]
      · have hgh : getI ((disI d p F).take i) h = some (.int (d h p)) := by
          refine getI_of ?_ ?_
          · rw [disI_keys]; exact (List.Sublist.map _ (List.take_sublist _ _)).nodup nd
          · obtain ⟨x, hx, ex⟩ := List.mem_map.mp hm
            unfold disI
            rw [← List.map_take]
            exact List.mem_map.mpr ⟨x, hx, by rw [ex]⟩
        have := key (d h p + 1) (by omega)
        simp [dgetS_I, hg, parD, hgh, this])
    ⟨none, rfl⟩
  have hfull : (disI d p F).take (0 + ((parI F).map fun e => PyData.int e.1).length) = disI d p F := by
    rw [Nat.zero_add, List.length_map]
    have : (parI F).length = (disI d p F).length := by simp [parI, disI]
    rw [this, List.take_length]
  rw [hfull] at e2
  have hgl : ∀ x ∈ rng n, getI (disI d p F) x = some (.int (d p x)) := fun x hx => by
    have hx := rng_mem.mp hx
    have hxv : Vn n x := hx
    obtain ⟨y, hy, ey⟩ := List.mem_map.mp ((mem x).mpr hxv)
    refine getI_of ?_ (List.mem_map.mpr ⟨y, hy, by rw [ey, t.tm.sy hxv hp]⟩)
    unfold disI
    rw [List.map_map]; exact nd
  have hl := t.len
  have hrg := rg1_n hl (by omega)
  have hc := cmp_mp (enc := PyData.int) (g := fun x => .int (d p x)) (vs := [4]) (set := setFr 4) (e := frz (op2V 2 dgetS (varM 4))) (ρ1 := [some (.fr (netD es)), some (.fr (.int p)), some (.ow (dI (disI d p F))), some (.fr (dI (parI F))), o4]) (ρw := [some (.fr (netD es)), some (.fr (.int p)), some (.ow (dI (disI d p F))), some (.fr (dI (parI F))), none]) (l := rng n) (by simp) (fun x hx => ⟨[some (.fr (netD es)), some (.fr (.int p)), some (.ow (dI (disI d p F))), some (.fr (dI (parI F))), some (.fr (.int x))], by simp, [some (.fr (netD es)), some (.fr (.int p)), some (.ow (dI (disI d p F))), some (.fr (dI (parI F))), some (.fr (.int x))], by simp [dgetS_I, hgl x hx], by simp⟩) (by simp; omega)
  have hfk : forKM 3 (setFr 4) distances_from_b1 [some (.fr (netD es)), some (.fr (.int p)), some (.ow (dI [])), some (.ow (dI (parI F))), none] = .nx [some (.fr (netD es)), some (.fr (.int p)), some (.ow (dI (disI d p F))), some (.fr (dI (parI F))), o4] := by
    unfold forKM
    have e3 : varM 3 [some (.fr (netD es)), some (.fr (.int p)), some (.ow (dI [])), some (.ow (dI (parI F))), none] = .ok (dI (parI F), [some (.fr (netD es)), some (.fr (.int p)), some (.ow (dI [])), some (.fr (dI (parI F))), none]) := by simp
    rw [e3]
    have e4 : ((parI F).map fun kv => (PyData.int kv.1, kv.2)).map (·.1) = (parI F).map fun e => PyData.int e.1 := by rw [List.map_map]; rfl
    unfold dI at e2 ⊢
    simp only [isTd_I, e4]
    rw [e2]
    rfl
  unfold f_distances_from b_distances_from
  have hd0 : (PyData.dict [] : D) = dI [] := rfl
  simp [e, hd0, hfk, hrg, hc]
  unfold lstI rowI
  rw [List.map_map]; rfl
end
end Lf

/-! P16: the checks of networks, distance, path, ball. -/
namespace Lf
open PySem PySem.Spec PyProof.Rows L2
/-- a network as the program has it -/
structure Nw (n : Nat) (es : List Ed) (d : Int → Int → Int) : Prop where
  tr : Tr n es d
  st : strict es = true
  sz : n ≤ 25
theorem Shp.net (k : Nat) (es : List Ed) : Shp (k + 2) (netD es) := Shp.tup fun x hx => by
  obtain ⟨e, _, rfl⟩ := List.mem_map.mp hx
  exact Shp.tup fun y hy => by
    simp at hy
    rcases hy with rfl | rfl <;> exact Shp.int _ _
theorem check_network_eq {v : D} (h : Shp 6 v) : f_check_network [v] = if netB v = true then .ok (.fr .none) else .exc "InvalidNetwork" := by
  unfold f_check_network b_check_network
  have := is_network_eq h
  cases hb : netB v <;> simp [this, hb]
theorem Nw.chk {n : Nat} {es : List Ed} {d : Int → Int → Int} (w : Nw n es d) : f_check_network [netD es] = .ok (.fr .none) := by
  rw [check_network_eq (Shp.net 4 es), if_pos (w.tr.net w.st (by have := w.tr.len; have := w.sz; omega))]
theorem check_place_eq {es : List Ed} {v : D} (h : nDct v = true) : f_check_place [netD es, v] = if isZ 0 es.length v = true then .ok (.fr .none) else .exc "InvalidPlace" := by
  unfold f_check_place b_check_place
  have := is_between_eq 0 es.length h
  cases hb : isZ 0 es.length v <;> simp [this, hb]
theorem isZ_i (lo hi i : Int) : isZ lo hi (.int i) = (decide (lo ≤ i) && decide (i ≤ hi)) := rfl
theorem Nw.pl {n : Nat} {es : List Ed} {d : Int → Int → Int} (w : Nw n es d) {p : Int} (hp : Vn n p) : f_check_place [netD es, .int p] = .ok (.fr .none) := by
  rw [check_place_eq rfl, isZ_i, if_pos]
  have := w.tr.len
  obtain ⟨h0, h1⟩ := hp
  simp only [Bool.and_eq_true, decide_eq_true_eq]
  omega
theorem atI_lst {l : List Int} {i : Int} (h0 : 0 ≤ i) (h1 : i < l.length) : atI (l.map PyData.int) i = some (.int (l.getD i.toNat 0)) := by
  have hn : i.toNat < l.length := by omega
  rw [atI_of (j := i.toNat) (by rw [List.length_map]; exact ixN_of h0 h1), List.getElem?_map, List.getElem?_eq_getElem hn]
  simp [List.getD, hn]
theorem row_at {n : Nat} {f : Int → D} {x : Int} (hx : Vn n x) : atI ((rng n).map f) x = some (f x) := by
  have hn : x.toNat < n := by have := hx.1; have := hx.2; omega
  rw [atI_of (j := x.toNat) (by rw [List.length_map, rng_len]; exact ixN_of hx.1 hx.2), List.getElem?_map, rng_get hn]
  simp only [Option.map_some]
  congr 2
  have := hx.1; omega
theorem rowI_map (n : Nat) (d : Int → Int → Int) (p : Int) : (rowI n d p).map PyData.int = (rng n).map fun x => .int (d p x) := by unfold rowI; rw [List.map_map]; rfl
@[simp] theorem itemS_row {n : Nat} {d : Int → Int → Int} {p x : Int} (hx : Vn n x) : itemS (lstI (rowI n d p)) (.int x) = some (.fr (.int (d p x))) := by
  simp [lstI, rowI_map, row_at hx]
theorem Tr.dlt {n : Nat} {es : List Ed} {d : Int → Int → Int} (t : Tr n es d) {a b : Int} (ha : Vn n a) (hb : Vn n b) : d a b < n := by
  have T := t.tm
  have : ∀ (k : Nat) (x : Int) (L : List Int), Vn n x → L.Nodup → (∀ y ∈ L, Vn n y ∧ d x b < d y b) → (k : Int) ≤ d x b → L.length + k < n := by
    intro k
    induction k with
    | zero =>
      intro x L hx nd hL _
      have h1 : (x :: L).Nodup := List.nodup_cons.mpr ⟨fun z => by have := (hL x z).2; omega, nd⟩
      have h2 := len_cnt (n := n) h1 (fun y hy => by
        rcases List.mem_cons.mp hy with rfl | hy
        · exact hx
        · exact (hL y hy).1)
      have := cnt_le n (x :: L)
      rw [← h2] at this
      simp at this; omega
    | succ k ih =>
      intro x L hx nd hL hk
      have hne : x ≠ b := fun z => by rw [z, T.self hb] at hk; omega
      obtain ⟨c, hc, h1, h2⟩ := T.st hx hb hne
      have := ih c (x :: L) hc (List.nodup_cons.mpr ⟨fun z => by have := (hL x z).2; omega, nd⟩) (fun y hy => by
        rcases List.mem_cons.mp hy with rfl | hy
        · exact ⟨hx, by omega⟩
        · exact ⟨(hL y hy).1, by have := (hL y hy).2; omega⟩) (by omega)
      simp at this; omega
  have := this (d a b).toNat a [] ha .nil (fun y hy => by cases hy) (by have := T.nn ha hb; omega)
  simp at this; omega
@[simp] theorem isLO_lstI (l : List Int) : isLO (lstI l) = some () := rfl
theorem appD_lstI {l : List Int} {x : Int} (h : l.length < 16777216) : appD (.int x) (lstI l) = some (lstI (l ++ [x])) := by
  have hz : ltM ((l.map PyData.int).length + 1) = true := ltM_of (by rw [List.length_map]; omega)
  unfold appD lstI
  simp only [hz, if_true, List.map_append]
  rfl
@[simp] theorem itemS_last (l : List Int) (x : Int) : itemS (lstI (l ++ [x])) (.int (-1)) = some (.fr (.int x)) := by
  have : atI ((l ++ [x]).map PyData.int) (-1) = some (.int x) := by
    rw [atI_of (j := l.length) (by
      unfold ixN
      rw [if_neg (by omega), if_pos (by simp; omega)]
      congr 1
      simp; omega)]
    simp
  unfold lstI
  rw [itemS_l, this]; rfl
section
variable {n : Nat} {es : List Ed} {d : Int → Int → Int} (w : Nw n es d)
include w
theorem Nw.dists {p : Int} (hp : Vn n p) : f_distances_from [netD es, .int p] = .ok (.ow (lstI (rowI n d p))) := w.tr.dists (by have := w.sz; omega) hp
theorem Nw.distance {a b : Int} (ha : Vn n a) (hb : Vn n b) : f_distance [netD es, .int a, .int b] = .ok (.fr (.int (d a b))) := by
  unfold f_distance b_distance
  simp [w.chk, w.pl ha, w.pl hb, w.dists ha, itemS_row hb]
theorem enum_row {p : Int} : enumFrom 0 ((rng n).map fun x => PyData.int (d p x)) = (rng n).map fun x => .tuple [.int x, .int (d p x)] := by
  have : ∀ (l : List Nat) (k : Nat), (∀ i (h : i < l.length), l[i] = k + i) → enumFrom k ((l.map fun (i : Nat) => (i : Int)).map fun x => PyData.int (d p x)) = (l.map fun (i : Nat) => (i : Int)).map fun x => .tuple [.int x, .int (d p x)] := by
    intro l
    induction l with
    | nil => intro k _; rfl
    | cons a l ih =>
      intro k h
      have h0 := h 0 (by simp)
      simp only [List.getElem_cons_zero, Nat.add_zero] at h0
      rw [List.map_cons, List.map_cons, List.map_cons]
      unfold enumFrom
      rw [ih (k + 1) fun i hi => by
        have := h (i + 1) (by simpa using hi)
        simp only [List.getElem_cons_succ] at this
        omega]
      rw [h0]
  exact this (List.range n) 0 fun i hi => by simp
theorem Nw.ball {p r : Int} (hp : Vn n p) (h0 : 0 ≤ r) (h1 : r ≤ 100) : f_ball [netD es, .int p, .int r] = .ok (.ow (lstI ((rng n).filter fun x => decide (d p x ≤ r)))) := by
  have hz : isZ 0 100 (.int r) = true := by rw [isZ_i]; simp [h0, h1]
  have hb := is_between_eq (d := .int r) 0 100 rfl
  have hsz := w.sz
  have hc := cmp_fm (enc := fun x => PyData.tuple [.int x, .int (d p x)]) (p := fun x => decide (d p x ≤ r)) (g := fun x => .int x) (vs := [3, 4]) (set := gTupD 2 (gsCons (setFr 3) (gsCons (setFr 4) gsNil))) (c := tst (op2 leI (varM 4) (varM 2))) (e := varM 3) (ρ1 := [some (.fr (netD es)), some (.fr (.int p)), some (.fr (.int r)), none, none]) (ρw := [some (.fr (netD es)), some (.fr (.int p)), some (.fr (.int r)), none, none]) (l := rng n) (by simp)
    (fun x hx => ⟨[some (.fr (netD es)), some (.fr (.int p)), some (.fr (.int r)), some (.fr (.int x)), some (.fr (.int (d p x)))], [some (.fr (netD es)), some (.fr (.int p)), some (.fr (.int r)), some (.fr (.int x)), some (.fr (.int (d p x)))], by simp, by simp, fun _ => by simp, fun _ => ⟨[some (.fr (netD es)), some (.fr (.int p)), some (.fr (.int r)), some (.fr (.int x)), some (.fr (.int (d p x)))], by simp, by simp⟩⟩) (by simp; omega)
  unfold f_ball b_ball
  have he : enumO [lstI (rowI n d p)] = some ((rng n).map fun x => .tuple [.int x, .int (d p x)]) := by
    show enumO [.list ((rowI n d p).map .int)] = _
    rw [rowI_map]
    show some (enumFrom 0 _) = _
    rw [enum_row w]
  simp [w.chk, w.pl hp, hb, hz, w.dists hp, he, hc]
  rfl
/-- a path: its ends, its length, its steps -/
structure IsPath (n : Nat) (d : Int → Int → Int) (a b : Int) (l : List Int) : Prop where
  hd : l[0]? = some a
  lt : l.getLast? = some b
  len : (l.length : Int) = d a b + 1
  vs : ∀ x ∈ l, Vn n x
  st : ∀ (i : Nat) x y, l[i]? = some x → l[i + 1]? = some y → d x y = 1
theorem Nw.path {a b : Int} (ha : Vn n a) (hb : Vn n b) : ∃ l, f_path [netD es, .int a, .int b] = .ok (.ow (lstI l)) ∧ IsPath n d a b l := by
  have hsz := w.sz
  obtain ⟨F, e, ord, nd, mem⟩ := w.tr.parents (by omega) hb
  rw [dctF_I] at e
  have T := w.tr.tm
  have dab : d a b < n := w.tr.dlt ha hb
  have hpar : ∀ x, Vn n x → x ≠ b → ∃ h, getI (parI F) x = some (.int h) ∧ Vn n h ∧ d x h = 1 ∧ d h b = d x b - 1 := fun x hx hne => by
    obtain ⟨⟨o, q⟩, hm, ex⟩ := List.mem_map.mp ((mem x).mpr hx)
    dsimp only at ex
    subst ex
    obtain ⟨i, hi⟩ := List.getElem?_of_mem hm
    rcases ord i o q hi with ⟨_, e1⟩ | ⟨h, rfl, _, v, a1, c1, _⟩
    · exact (hne e1).elim
    · exact ⟨h, getI_of (by rw [parI_keys]; exact nd) (List.mem_map.mpr ⟨_, hm, rfl⟩), v, a1, c1⟩
  obtain ⟨ρ', e2, l, x, rfl, hl, hx, hlen, hV, hst⟩ := whD_inv (c := path_c1) (body := path_b1)
    (fun k ρ => ∃ l x, ρ = [some (.fr (netD es)), some (.fr (.int a)), some (.fr (.int b)), some (.ow (dI (parI F))), some (.ow (lstI (l ++ [x])))] ∧ d x b = k ∧ (l ++ [x])[0]? = some a ∧ ((l ++ [x]).length : Int) + k = d a b + 1 ∧ (∀ y ∈ l ++ [x], Vn n y) ∧ ∀ (i : Nat) y z, (l ++ [x])[i]? = some y → (l ++ [x])[i + 1]? = some z → d y z = 1)
    (fun ρ => ∃ l x, ρ = [some (.fr (netD es)), some (.fr (.int a)), some (.fr (.int b)), some (.ow (dI (parI F))), some (.ow (lstI (l ++ [x])))] ∧ (l ++ [x])[0]? = some a ∧ x = b ∧ ((l ++ [x]).length : Int) = d a b + 1 ∧ (∀ y ∈ l ++ [x], Vn n y) ∧ ∀ (i : Nat) y z, (l ++ [x])[i]? = some y → (l ++ [x])[i + 1]? = some z → d y z = 1)
    (by
      rintro k ρ ⟨l, x, rfl, hk, h0, hlen, hV, hst⟩
      have hx := hV x (by simp)
      have n1 := itemS_last l x
      by_cases hxb : x = b
      · left
        have hk0 : (k : Int) = 0 := by rw [← hk, hxb, T.self hb]
        refine ⟨_, ?_, l, x, rfl, h0, hxb, by omega, hV, hst⟩
        unfold path_c1
        simp [n1, hxb]
      · right
        obtain ⟨h, g1, g2, g3, g4⟩ := hpar x hx hxb
        have hz := appD_lstI (l := l ++ [x]) (x := h) (by omega)
        have hk0 : (k : Int) ≠ 0 := fun z => hxb ((T.z hx hb).mp (by omega))
        refine ⟨[some (.fr (netD es)), some (.fr (.int a)), some (.fr (.int b)), some (.ow (dI (parI F))), some (.ow (lstI (l ++ [x])))], _, k - 1, ?_, .inl ?_, ?_, l ++ [x], h, rfl, by omega, ?_, by rw [List.length_append]; simp at hlen ⊢; omega, ?_, ?_⟩
        · unfold path_c1
          simp [n1, hxb]
        · unfold path_b1
          simp [n1, dgetS_I, g1]
          simp only [List.append_assoc] at hz
          simp [hz]
        · omega
        · rw [List.getElem?_append_left (by simp)]; exact h0
        · intro y hy
          rcases List.mem_append.mp hy with hy | hy
          · exact hV y hy
          · rw [List.mem_singleton.mp hy]; exact g2
        · intro i y z hy hz
          by_cases hi : i + 1 < (l ++ [x]).length
          · rw [List.getElem?_append_left (by omega)] at hy
            rw [List.getElem?_append_left hi] at hz
            exact hst i y z hy hz
          · have hi2 : i + 1 = (l ++ [x]).length := by
              have := (List.getElem?_eq_some_iff.mp hz).1
              simp at this hi ⊢; omega
            rw [List.getElem?_append_right (by omega), hi2, Nat.sub_self] at hz
            rw [List.getElem?_append_left (by omega)] at hy
            have hi3 : i = l.length := by simp at hi2; omega
            rw [hi3, List.getElem?_append_right (Nat.le_refl _), Nat.sub_self] at hy
            have ey : x = y := Option.some.inj hy
            have ez : h = z := Option.some.inj hz
            rw [← ey, ← ez]; exact g3)
    (d a b).toNat 1000 [some (.fr (netD es)), some (.fr (.int a)), some (.fr (.int b)), some (.ow (dI (parI F))), some (.ow (lstI [a]))]
    ⟨[], a, rfl, by have := T.nn ha hb; omega, rfl, by have := T.nn ha hb; simp; omega, fun y hy => by rw [List.mem_singleton.mp (show y ∈ [a] from hy)]; exact ha, fun i y z hy hz => by simp at hz⟩ (by omega)
  subst hx
  refine ⟨l ++ [x], ?_, hl, by simp, hlen, hV, hst⟩
  unfold f_path b_path fuel
  have hd1 : (PyData.list [.int a] : D) = lstI [a] := rfl
  simp [w.chk, w.pl ha, w.pl hb, e, hd1, e2]
end
end Lf

/-! P17: _law_far. -/
namespace Lf
open PySem PySem.Spec PyProof.Rows L2
/-- a row of which the places kn are known -/
def rowK (n : Nat) (d : Int → Int → Int) (a : Int) (kn : Int → Bool) : D := .list ((rng n).map fun x => if kn x = true then .int (d a x) else .none)
def farD (n : Nat) (d : Int → Int → Int) : D := .list ((rng n).map fun a => lstI (rowI n d a))
theorem itemS_rowK {n : Nat} {d : Int → Int → Int} {a x : Int} {kn : Int → Bool} (hx : Vn n x) : itemS (rowK n d a kn) (.int x) = some (.fr (if kn x = true then .int (d a x) else .none)) := by
  unfold rowK
  rw [itemS_l, row_at hx]; rfl
theorem itemS_farD {n : Nat} {d : Int → Int → Int} {a : Int} (ha : Vn n a) : itemS (farD n d) (.int a) = some (.fr (lstI (rowI n d a))) := by
  unfold farD
  rw [itemS_l, row_at ha]; rfl
theorem stD_rowK {n : Nat} {d : Int → Int → Int} {a x v : Int} {kn : Int → Bool} (hx : Vn n x) (hv : v = d a x) : stD (.int x) (.int v) (rowK n d a kn) = some (rowK n d a fun y => kn y || decide (y = x)) := by
  unfold rowK stD
  simp only [List.length_map, rng_len, ixN_of hx.1 hx.2, Option.map_some]
  congr 2
  apply List.ext_getElem?
  intro i
  by_cases hi : i < n
  · have hx2 := hx.2
    by_cases e : i = x.toNat
    · subst e
      rw [List.getElem?_set_self (by simpa using hi), List.getElem?_map, rng_get hi]
      have : ((x.toNat : Nat) : Int) = x := by have := hx.1; omega
      simp [this, hv]
    · rw [List.getElem?_set_ne (fun z => e z.symm), List.getElem?_map, List.getElem?_map, rng_get hi]
      have : ¬ ((i : Int) = x) := by omega
      simp [this]
  · rw [List.getElem?_eq_none (by simpa using hi), List.getElem?_eq_none (by simpa using hi)]
/-- what is known reaches back to a -/
structure KnOk (n : Nat) (d : Int → Int → Int) (a : Int) (kn : Int → Bool) : Prop where
  at_ : kn a = true
  back : ∀ x y, Vn n x → Vn n y → kn x = true → d x y = 1 → d y a = d x a - 1 → kn y = true
def unk (n : Nat) (kn : Int → Bool) : Nat := ((rng n).filter fun x => !kn x).length
theorem filter_lt {α : Type} {p q : α → Bool} {l : List α} (h : ∀ x ∈ l, q x = true → p x = true) {a : α} (ha : a ∈ l) (h1 : p a = true) (h2 : q a = false) : (l.filter q).length < (l.filter p).length := by
  have le : ∀ {l : List α}, (∀ x ∈ l, q x = true → p x = true) → (l.filter q).length ≤ (l.filter p).length := by
    intro l
    induction l with
    | nil => intro _; exact Nat.le_refl _
    | cons b l ih =>
      intro h
      have := ih fun x hx => h x (List.mem_cons_of_mem _ hx)
      rw [List.filter_cons, List.filter_cons]
      have hb := h b List.mem_cons_self
      cases q1 : q b <;> cases p1 : p b
      · simpa using this
      · simp; omega
      · rw [hb q1] at p1; cases p1
      · simpa using this
  induction l with
  | nil => cases ha
  | cons b l ih =>
    have hl := le fun x hx => h x (List.mem_cons_of_mem _ hx)
    rw [List.filter_cons, List.filter_cons]
    rcases List.mem_cons.mp ha with e | e
    · subst e
      rw [h1, h2]
      simp; omega
    · have := ih (fun x hx => h x (List.mem_cons_of_mem _ hx)) e
      have hb := h b List.mem_cons_self
      cases q1 : q b <;> cases p1 : p b
      · simpa using this
      · simp; omega
      · rw [hb q1] at p1; cases p1
      · simpa using this
section
variable {n : Nat} {es : List Ed} {d : Int → Int → Int} (t : Tr n es d) {a : Int} (ha : Vn n a)
include t ha
theorem KnOk.add {kn : Int → Bool} (k : KnOk n d a kn) {h o : Int} (hh : Vn n h) (ho : Vn n o) (h1 : kn h = true) (h2 : kn o = false) (hd : d h o = 1) : d a o = d a h + 1 ∧ KnOk n d a (fun y => kn y || decide (y = o)) ∧ unk n (fun y => kn y || decide (y = o)) < unk n kn := by
  have T := t.tm
  have e : d o a = d h a + 1 := by
    rcases T.ed hh ho ha hd with c | c
    · exfalso
      have := k.back h o hh ho h1 hd (by omega)
      rw [h2] at this; cases this
    · exact c
  refine ⟨by rw [T.sy ha ho, T.sy ha hh]; exact e, ⟨by simp [k.at_], fun x y hx hy kx dx dy => ?_⟩, ?_⟩
  · simp only [Bool.or_eq_true, decide_eq_true_eq] at kx ⊢
    rcases kx with kx | rfl
    · exact .inl (k.back x y hx hy kx dx dy)
    · left
      have := T.par_one hx hh hy ha (by rw [T.sy hx hh]; exact hd) dx (by omega) dy
      rw [← this]; exact h1
  · exact filter_lt (fun x _ hx => by
      simp only [Bool.not_eq_true', Bool.or_eq_false_iff] at hx ⊢
      exact hx.1) (rng_mem.mpr ho) (by simp [h2]) (by simp)
theorem KnOk.all {kn : Int → Bool} (k : KnOk n d a kn) (hc : ∀ e ∈ es, kn e.1 = kn e.2) : ∀ x, Vn n x → kn x = true := by
  have T := t.tm
  have : ∀ (m : Nat) (x : Int), Vn n x → d x a ≤ m → kn x = true := by
    intro m
    induction m with
    | zero =>
      intro x hx h
      have : x = a := (T.z hx ha).mp (by have := T.nn hx ha; omega)
      rw [this]; exact k.at_
    | succ m ih =>
      intro x hx h
      by_cases e : x = a
      · rw [e]; exact k.at_
      · obtain ⟨c, hc', h1, h2⟩ := T.st hx ha e
        have := ih c hc' (by omega)
        rcases (t.adj hx hc').mp h1 with q | q
        · rw [hc _ q]; exact this
        · rw [← hc _ q]; exact this
  exact fun x hx => this (d x a).toNat x hx (by have := T.nn hx ha; omega)
/-- the environment within a row -/
def envF (net : D) (n : Nat) (lk : Option S) (row : D) (ch : Bool) (e5 e6 e7 e8 : Option S) : EnvD := [some (.fr net), some (.fr (.int n)), lk, some (.io row), some (.fr (.bool ch)), e5, e6, e7, e8]
omit t ha in
theorem far_b1 {net : D} {lk e5 e6 : Option S} {a h o : Int} {kn : Int → Bool} {ch : Bool} (hh : Vn n h) (ho : Vn n o) (hs : kn h = true → kn o = false → d a o = d a h + 1) :
    _law_far_b1 (envF net n lk (rowK n d a kn) ch e5 e6 (some (.fr (.int h))) (some (.fr (.int o)))) = .nx (if kn h = true ∧ kn o = false then envF net n lk (rowK n d a fun y => kn y || decide (y = o)) true e5 e6 (some (.fr (.int h))) (some (.fr (.int o))) else envF net n lk (rowK n d a kn) ch e5 e6 (some (.fr (.int h))) (some (.fr (.int o)))) := by
  unfold _law_far_b1 envF
  cases k1 : kn h
  · simp [itemS_rowK hh, k1]
  · cases k2 : kn o
    · have := stD_rowK (n := n) (d := d) (a := a) (kn := kn) ho (hs k1 k2).symm
      simp [itemS_rowK hh, itemS_rowK ho, k1, k2, this]
    · simp [itemS_rowK hh, itemS_rowK ho, k1, k2]
/-- what a pass over edges keeps -/
def PassI (n : Nat) (d : Int → Int → Int) (a : Int) (kn0 : Int → Bool) (es : List Ed) (kn : Int → Bool) (ch : Bool) : Prop :=
  KnOk n d a kn ∧ (ch = false → kn = kn0 ∧ ∀ e ∈ es, kn e.1 = kn e.2) ∧ (ch = true → unk n kn < unk n kn0)
theorem far_pass {net : D} {lk : Option S} (kn0 : Int → Bool) : ∀ (l es1 : List Ed) (kn : Int → Bool) (ch : Bool) (e5 e6 e7 e8 : Option S), (∀ e ∈ l, e ∈ es) → PassI n d a kn0 es1 kn ch →
    ∃ kn' ch' e5' e6' e7' e8', forD (gTupD 2 (gsCons (setFr 5) (gsCons (setFr 6) gsNil))) _law_far_b2 (l.map edD) (envF net n lk (rowK n d a kn) ch e5 e6 e7 e8) = .nx (envF net n lk (rowK n d a kn') ch' e5' e6' e7' e8') ∧ PassI n d a kn0 (es1 ++ l) kn' ch'
  | [], es1, kn, ch, e5, e6, e7, e8, _, h => ⟨kn, ch, e5, e6, e7, e8, rfl, by simpa using h⟩
  | e :: l, es1, kn, ch, e5, e6, e7, e8, hl, ⟨h1, h2, h3⟩ => by
    have he := hl e List.mem_cons_self
    have hin := t.inN e he
    have v1 : Vn n e.1 := ⟨hin.1, hin.2.1⟩
    have v2 : Vn n e.2 := ⟨hin.2.2.1, hin.2.2.2⟩
    have d1 : d e.1 e.2 = 1 := (t.adj v1 v2).mpr (.inl he)
    have d2 : d e.2 e.1 = 1 := by rw [t.tm.sy v2 v1]; exact d1
    -- one direction
    have one : ∀ (h o : Int) (kn : Int → Bool) (ch : Bool), Vn n h → Vn n o → d h o = 1 → KnOk n d a kn → (ch = true → unk n kn < unk n kn0) → (ch = false → kn = kn0) → ∃ kn' ch', (∀ e5 e6, _law_far_b1 (envF net n lk (rowK n d a kn) ch e5 e6 (some (.fr (.int h))) (some (.fr (.int o)))) = .nx (envF net n lk (rowK n d a kn') ch' e5 e6 (some (.fr (.int h))) (some (.fr (.int o))))) ∧ KnOk n d a kn' ∧ (ch' = true → unk n kn' < unk n kn0) ∧ (ch' = false → kn' = kn ∧ ch = false ∧ (kn h = true → kn o = true)) := by
      intro h o kn ch vh vo hd k c1 c0
      by_cases hc : kn h = true ∧ kn o = false
      · obtain ⟨q1, q2, q3⟩ := k.add t ha vh vo hc.1 hc.2 hd
        refine ⟨_, true, fun e5 e6 => by rw [far_b1 vh vo fun _ _ => q1, if_pos hc], q2, fun _ => ?_, fun z => Bool.noConfusion z⟩
        cases ch with
        | true => have := c1 rfl; omega
        | false => rw [c0 rfl] at q3 ⊢; exact q3
      · refine ⟨kn, ch, fun e5 e6 => by rw [far_b1 vh vo fun x y => (hc ⟨x, y⟩).elim, if_neg hc], k, c1, fun z => ⟨rfl, z, fun x => ?_⟩⟩
        cases y : kn o with
        | true => rfl
        | false => exact (hc ⟨x, y⟩).elim
    obtain ⟨k1, c1, f1, a1, a2, a3⟩ := one e.1 e.2 kn ch v1 v2 d1 h1 h3 fun z => (h2 z).1
    obtain ⟨k2, c2, f2, b1, b2, b3⟩ := one e.2 e.1 k1 c1 v2 v1 d2 a1 a2 fun z => by
      obtain ⟨q1, q2, _⟩ := a3 z
      rw [q1]; exact (h2 q2).1
    obtain ⟨kn', ch', e5', e6', e7', e8', g, hI⟩ := far_pass kn0 l (es1 ++ [e]) k2 c2 (some (.fr (.int e.1))) (some (.fr (.int e.2))) (some (.fr (.int e.2))) (some (.fr (.int e.1))) (fun x hx => hl x (List.mem_cons_of_mem _ hx)) ⟨b1, fun z => by
      obtain ⟨q1, q2, q3⟩ := b3 z
      obtain ⟨r1, r2, r3⟩ := a3 q2
      obtain ⟨s1, s2⟩ := h2 r2
      refine ⟨by rw [q1, r1, s1], fun x hx => ?_⟩
      rw [q1, r1]
      rcases List.mem_append.mp hx with hx | hx
      · exact s2 x hx
      · rw [List.mem_singleton.mp hx]
        rw [r1] at q3
        cases y1 : kn e.1 <;> cases y2 : kn e.2
        · rfl
        · rw [q3 y2] at y1; cases y1
        · rw [r3 y1] at y2; cases y2
        · rfl, b2⟩
    refine ⟨kn', ch', e5', e6', e7', e8', ?_, by simpa using hI⟩
    rw [List.map_cons]
    unfold forD
    have hset : gTupD 2 (gsCons (setFr 5) (gsCons (setFr 6) gsNil)) (edD e) (envF net n lk (rowK n d a kn) ch e5 e6 e7 e8) = some (envF net n lk (rowK n d a kn) ch (some (.fr (.int e.1))) (some (.fr (.int e.2))) e7 e8) := by simp [edD, envF]
    rw [hset]
    have hb : _law_far_b2 (envF net n lk (rowK n d a kn) ch (some (.fr (.int e.1))) (some (.fr (.int e.2))) e7 e8) = .nx (envF net n lk (rowK n d a k2) c2 (some (.fr (.int e.1))) (some (.fr (.int e.2))) (some (.fr (.int e.2))) (some (.fr (.int e.1)))) := by
      have hl : seqM' (frz (tupM (consM (frz (tupM (consM (varM 5) (consM (varM 6) (M.pure []))))) (consM (frz (tupM (consM (varM 6) (consM (varM 5) (M.pure []))))) (M.pure []))))) (envF net n lk (rowK n d a kn) ch (some (.fr (.int e.1))) (some (.fr (.int e.2))) e7 e8) = .ok ([edD (e.1, e.2), edD (e.2, e.1)], envF net n lk (rowK n d a kn) ch (some (.fr (.int e.1))) (some (.fr (.int e.2))) e7 e8) := by simp [envF, edD]
      unfold _law_far_b2
      rw [for_ev, hl, fr_ok]
      have s1 : gTupD 2 (gsCons (setFr 7) (gsCons (setFr 8) gsNil)) (edD (e.1, e.2)) (envF net n lk (rowK n d a kn) ch (some (.fr (.int e.1))) (some (.fr (.int e.2))) e7 e8) = some (envF net n lk (rowK n d a kn) ch (some (.fr (.int e.1))) (some (.fr (.int e.2))) (some (.fr (.int e.1))) (some (.fr (.int e.2)))) := by simp [envF, edD]
      have s2 : gTupD 2 (gsCons (setFr 7) (gsCons (setFr 8) gsNil)) (edD (e.2, e.1)) (envF net n lk (rowK n d a k1) c1 (some (.fr (.int e.1))) (some (.fr (.int e.2))) (some (.fr (.int e.1))) (some (.fr (.int e.2)))) = some (envF net n lk (rowK n d a k1) c1 (some (.fr (.int e.1))) (some (.fr (.int e.2))) (some (.fr (.int e.2))) (some (.fr (.int e.1)))) := by simp [envF, edD]
      simp only [forD, s1, f1, s2, f2]
    simp only [hb]
    exact g
omit t ha in
theorem rowK_full {kn : Int → Bool} (h : ∀ x, Vn n x → kn x = true) : rowK n d a kn = lstI (rowI n d a) := by
  unfold rowK lstI
  rw [rowI_map]
  congr 1
  refine List.map_congr_left fun x hx => ?_
  rw [h x (rng_mem.mp hx), if_pos rfl]
theorem far_turn {lk : Option S} {m k : Nat} {kn : Int → Bool} {e5 e6 e7 e8 : Option S} (hk : KnOk n d a kn) (hu : unk n kn ≤ m) (hm : m + 1 < k)
    (more : ∀ (kn' : Int → Bool) (e5 e6 e7 e8 : Option S), KnOk n d a kn' → unk n kn' < unk n kn → ∃ e5' e6' e7' e8', whD (tst (varM 4)) _law_far_b3 (k - 1) (envF (netD es) n lk (rowK n d a kn') true e5 e6 e7 e8) = .nx (envF (netD es) n lk (lstI (rowI n d a)) false e5' e6' e7' e8')) :
    ∃ e5' e6' e7' e8', whD (tst (varM 4)) _law_far_b3 k (envF (netD es) n lk (rowK n d a kn) true e5 e6 e7 e8) = .nx (envF (netD es) n lk (lstI (rowI n d a)) false e5' e6' e7' e8') := by
  obtain ⟨k, rfl⟩ : ∃ j, k = j + 2 := ⟨k - 2, by omega⟩
  obtain ⟨kn', ch', f5, f6, f7, f8, e, hI⟩ := far_pass t ha (net := netD es) (lk := lk) kn es [] kn false e5 e6 e7 e8 (fun _ z => z) ⟨hk, fun _ => ⟨rfl, fun _ z => nomatch z⟩, fun z => Bool.noConfusion z⟩
  have hb : _law_far_b3 (envF (netD es) n lk (rowK n d a kn) true e5 e6 e7 e8) = .nx (envF (netD es) n lk (rowK n d a kn') ch' f5 f6 f7 f8) := by
    have h1 : setM 4 (fre (M.pure (.bool false))) (envF (netD es) n lk (rowK n d a kn) true e5 e6 e7 e8) = .nx (envF (netD es) n lk (rowK n d a kn) false e5 e6 e7 e8) := by simp [envF]
    have h2 : seqM' (varM 0) (envF (netD es) n lk (rowK n d a kn) false e5 e6 e7 e8) = .ok (es.map edD, envF (netD es) n lk (rowK n d a kn) false e5 e6 e7 e8) := by simp [envF]
    unfold _law_far_b3
    rw [seq_ev, h1, thn_nx, for_ev, h2, fr_ok, e]
  have ht : ∀ (row : D) (ch : Bool) (e5 e6 e7 e8 : Option S), tst (varM 4) (envF (netD es) n lk row ch e5 e6 e7 e8) = .ok (ch, envF (netD es) n lk row ch e5 e6 e7 e8) := fun row ch e5 e6 e7 e8 => by simp [envF]
  unfold whD
  rw [ht]
  simp only [hb]
  cases ch' with
  | true =>
    obtain ⟨q1, _, q3⟩ := hI
    exact more kn' f5 f6 f7 f8 q1 (q3 rfl)
  | false =>
    obtain ⟨q1, q2, _⟩ := hI
    have hall := q1.all t ha (by simpa using (q2 rfl).2)
    refine ⟨f5, f6, f7, f8, ?_⟩
    unfold whD
    rw [ht]
    simp only
    rw [rowK_full hall]
/-- the passes of a row -/
theorem far_row {lk : Option S} (hn : n ≤ 900) : ∀ (m k : Nat) (kn : Int → Bool) (e5 e6 e7 e8 : Option S), KnOk n d a kn → unk n kn ≤ m → m + 1 < k →
    ∃ e5' e6' e7' e8', whD (tst (varM 4)) _law_far_b3 k (envF (netD es) n lk (rowK n d a kn) true e5 e6 e7 e8) = .nx (envF (netD es) n lk (lstI (rowI n d a)) false e5' e6' e7' e8') := by
  intro m
  induction m with
  | zero =>
    intro k kn e5 e6 e7 e8 hk hu hm
    exact far_turn t ha hk hu hm fun _ _ _ _ _ _ z => absurd z (by omega)
  | succ m ih =>
    intro k kn e5 e6 e7 e8 hk hu hm
    exact far_turn t ha hk hu hm fun kn' e5 e6 e7 e8 h z => ih (k - 1) kn' e5 e6 e7 e8 h (by omega) (by omega)
end
/-- what _law_far gives -/
theorem Tr.far {n : Nat} {es : List Ed} {d : Int → Int → Int} (t : Tr n es d) (hn : n ≤ 900) : f__law_far [netD es] = .ok (.ow (farD n d)) := by
  have hl := t.len
  -- the rows at the start
  have start : ∀ (a : Int), Vn n a → compM (rgM rg1 (consM (varM 1) (M.pure []))) [6] (setFr 6) yesM _law_far_e1 [some (.fr (netD es)), some (.fr (.int n)), none, none, none, some (.fr (.int a)), none, none, none] = .ok (.ow (rowK n d a fun x => decide (x = a)), [some (.fr (netD es)), some (.fr (.int n)), none, none, none, some (.fr (.int a)), none, none, none]) := fun a ha => by
    have hrg : rg1 [.int (n : Int)] = some ((rng n).map .int) := by
      unfold rg1
      dsimp only
      rw [if_pos (rgB_of (by omega) (by omega)), ← rangeD_rng]
      rfl
    have hc := cmp_mp (enc := PyData.int) (g := fun x => if decide (x = a) = true then .int (d a x) else .none) (vs := [6]) (set := setFr 6) (e := _law_far_e1) (ρ1 := [some (.fr (netD es)), some (.fr (.int n)), none, none, none, some (.fr (.int a)), none, none, none]) (ρw := [some (.fr (netD es)), some (.fr (.int n)), none, none, none, some (.fr (.int a)), none, none, none]) (l := rng n) (by simp)
      (fun x hx => ⟨[some (.fr (netD es)), some (.fr (.int n)), none, none, none, some (.fr (.int a)), some (.fr (.int x)), none, none], by simp, [some (.fr (netD es)), some (.fr (.int n)), none, none, none, some (.fr (.int a)), some (.fr (.int x)), none, none], by
        unfold _law_far_e1
        by_cases c : x = a
        · subst c; simp [t.tm.self ha]
        · have c' : ¬ a = x := fun z => c z.symm
          simp [c, c'], by simp⟩) (by simp; omega)
    rw [comp_ev, rgM_ev]
    simp [hrg, hc]
    unfold rowK
    congr 1
    refine List.map_congr_left fun x _ => ?_
    simp
  have row0 : ∀ a, Vn n a → KnOk n d a (fun x => decide (x = a)) := fun a ha => ⟨by simp, fun x y hx hy kx dx dy => by
    have : x = a := by simpa using kx
    subst this
    rw [t.tm.self hx] at dy
    have := t.tm.nn hy hx
    omega⟩
  have env0 : ∀ lk, ([some (.fr (netD es)), some (.fr (.int n)), lk, none, none, none, none, none, none] : EnvD) = [some (.fr (netD es)), some (.fr (.int n)), lk, none, none, none, none, none, none] := fun _ => rfl
  have lists : lcDp [5] (setFr 5) (compM (rgM rg1 (consM (varM 1) (M.pure []))) [6] (setFr 6) yesM _law_far_e1) ((rng n).map .int) [] [some (.fr (netD es)), some (.fr (.int n)), none, none, none, none, none, none, none] = some ((rng n).map (fun a => (rng n).map fun x => if decide (x = a) = true then .int (d a x) else .none), [some (.fr (netD es)), some (.fr (.int n)), none, none, none, none, none, none, none]) := by
    have go : ∀ (l : List Int) (acc : List (List D)), (∀ a ∈ l, Vn n a) → acc.length + l.length ≤ 2000 → lcDp [5] (setFr 5) (compM (rgM rg1 (consM (varM 1) (M.pure []))) [6] (setFr 6) yesM _law_far_e1) (l.map .int) acc [some (.fr (netD es)), some (.fr (.int n)), none, none, none, none, none, none, none] = some (acc ++ l.map (fun a => (rng n).map fun x => if decide (x = a) = true then .int (d a x) else .none), [some (.fr (netD es)), some (.fr (.int n)), none, none, none, none, none, none, none]) := by
      intro l
      induction l with
      | nil => intro acc _ _; simp [lcDp]
      | cons a l ih =>
        intro acc hv hz
        rw [List.length_cons] at hz
        rw [List.map_cons]
        unfold lcDp
        have h1 : setFr 5 (.int a) [some (.fr (netD es)), some (.fr (.int n)), none, none, none, none, none, none, none] = some [some (.fr (netD es)), some (.fr (.int n)), none, none, none, some (.fr (.int a)), none, none, none] := by simp
        have h2 := start a (hv a List.mem_cons_self)
        have h3 : ltM (acc.length + 1) = true := ltM_of (by omega)
        have h4 : wipeD [some (.fr (netD es)), some (.fr (.int n)), none, none, none, some (.fr (.int a)), none, none, none] [5] = [some (.fr (netD es)), some (.fr (.int n)), none, none, none, none, none, none, none] := by simp
        unfold rowK at h2
        simp only [h1, h2, h3, if_true, h4]
        rw [ih _ (fun x hx => hv x (List.mem_cons_of_mem _ hx)) (by simp; omega)]
        simp
    have := go (rng n) [] (fun a ha => rng_mem.mp ha) (by simp; omega)
    simpa using this
  -- the rows, one by one
  have rows : ∀ (lk : Int) (l : List Int) (done : List (List D)) (e4 e5 e6 e7 e8 : Option S), (∀ a ∈ l, Vn n a) → ∃ e4' e5' e6' e7' e8', forRow 2 3 _law_far_b4 done (l.map fun a => (rng n).map fun x => if decide (x = a) = true then .int (d a x) else .none) [some (.fr (netD es)), some (.fr (.int n)), some (.lk (.int lk)), none, e4, e5, e6, e7, e8] = some ([some (.fr (netD es)), some (.fr (.int n)), some (.lk (.int lk)), none, e4', e5', e6', e7', e8'], done ++ l.map fun a => (rowI n d a).map .int) := by
    intro lk l
    induction l with
    | nil => intro done e4 e5 e6 e7 e8 _; exact ⟨e4, e5, e6, e7, e8, by simp [forRow]⟩
    | cons a l ih =>
      intro done e4 e5 e6 e7 e8 hv
      have ha := hv a List.mem_cons_self
      obtain ⟨f5, f6, f7, f8, g⟩ := far_row t ha (lk := some (.lk (.int lk))) hn n 1000 _ e5 e6 e7 e8 (row0 a ha) (by unfold unk; have := List.length_filter_le (fun x => !decide (x = a)) (rng n); rw [rng_len] at this; exact this) (by omega)
      obtain ⟨e4', e5', e6', e7', e8', h⟩ := ih (done ++ [(rowI n d a).map .int]) (some (.fr (.bool false))) f5 f6 f7 f8 fun x hx => hv x (List.mem_cons_of_mem _ hx)
      refine ⟨e4', e5', e6', e7', e8', ?_⟩
      rw [List.map_cons]
      unfold forRow
      have hb : _law_far_b4 ([some (.fr (netD es)), some (.fr (.int n)), some (.lk (.int lk)), none, e4, e5, e6, e7, e8].set 3 (some (.io (.list ((rng n).map fun x => if decide (x = a) = true then .int (d a x) else .none))))) = .nx (envF (netD es) n (some (.lk (.int lk))) (lstI (rowI n d a)) false f5 f6 f7 f8) := by
        have h1 : setM 4 (fre (M.pure (.bool true))) ([some (.fr (netD es)), some (.fr (.int n)), some (.lk (.int lk)), none, e4, e5, e6, e7, e8].set 3 (some (.io (.list ((rng n).map fun x => if decide (x = a) = true then .int (d a x) else .none))))) = .nx (envF (netD es) n (some (.lk (.int lk))) (rowK n d a fun x => decide (x = a)) true e5 e6 e7 e8) := by simp [envF, rowK]
        unfold _law_far_b4
        rw [seq_ev, h1, thn_nx, fuel, g]
      rw [hb]
      have hp : pinEq [some (.fr (netD es)), some (.fr (.int n)), some (.lk (.int lk)), none, e4, e5, e6, e7, e8] (envF (netD es) n (some (.lk (.int lk))) (lstI (rowI n d a)) false f5 f6 f7 f8) 2 = true := by simp [pinEq, envF]
      simp only [hp, if_true]
      simp only [envF, lstI, List.length_cons, List.length_nil]
      have := h
      simp only [List.append_assoc, List.singleton_append, List.map_cons] at this ⊢
      exact this
  unfold f__law_far b__law_far
  rw [dD1]
  have s0 : setM 1 (fre (frz (op2F addS (frz (bltM lenS (consM (varM 0) (M.pure [])))) (M.pure (.int 1))))) (some (.fr (netD es)) :: List.replicate (9 - 1) none) = .nx [some (.fr (netD es)), some (.fr (.int n)), none, none, none, none, none, none, none] := by
    have : (es.length : Int) + 1 = n := by omega
    simp [this, List.replicate_succ]
  rw [seq_ev, s0, thn_nx]
  unfold deepM
  have hno : noIo [some (.fr (netD es)), some (.fr (.int n)), none, none, none, none, none, none, none] = true := by simp [noIo]
  have hr : rgM rg1 (consM (varM 1) (M.pure [])) [some (.fr (netD es)), some (.fr (.int n)), none, none, none, none, none, none, none] = .ok ((rng n).map .int, [some (.fr (netD es)), some (.fr (.int n)), none, none, none, none, none, none, none]) := by
    have hrg : rg1 [.int (n : Int)] = some ((rng n).map .int) := by
      unfold rg1
      dsimp only
      rw [if_pos (rgB_of (by omega) (by omega)), ← rangeD_rng]
      rfl
    simp [hrg]
  have hw : wipeD [some (.fr (netD es)), some (.fr (.int n)), none, none, none, none, none, none, none] [5] = [some (.fr (netD es)), some (.fr (.int n)), none, none, none, none, none, none, none] := by simp
  rw [if_pos hno, hr]
  simp only [hw, lists]
  simp only [List.length_cons, List.length_nil]
  rw [if_pos (by omega), ddM_eq (s := .ow (farD n d))]
  · rfl
  · intro lk
    obtain ⟨e4', e5', e6', e7', e8', h⟩ := rows lk (rng n) [] none none none none none fun a ha => rng_mem.mp ha
    refine ⟨[some (.fr (netD es)), some (.fr (.int n)), some (.lk (.int lk)), none, e4', e5', e6', e7', e8'], ?_⟩
    have hb : backD [some (.fr (netD es)), some (.fr (.int n)), none, none, none, none, none, none, none] [some (.fr (netD es)), some (.fr (.int n)), none, none, none, none, none, none, none] [5] = [some (.fr (netD es)), some (.fr (.int n)), none, none, none, none, none, none, none] := by simp
    rw [hb]
    simp only [List.set_cons_succ, List.set_cons_zero]
    unfold seqD2 forRowM
    rw [h]
    simp only [retD, List.nil_append, List.getElem?_cons_succ, List.getElem?_cons_zero, List.map_map]
    rfl
end Lf

/-! P18: equality and membership of typed data, _law_equal of equals. -/
namespace Lf
open PySem PySem.Spec PyProof.Rows L2
@[simp] theorem shaped_lstI (l : List Int) : SeqAt.shaped (lstI l) = true := shaped_ints l
@[simp] theorem shaped_edD (e : Ed) : SeqAt.shaped (edD e) = true := shaped_intsT [e.1, e.2]
@[simp] theorem shaped_net (es : List Ed) : SeqAt.shaped (netD es) = true := (Shp.net 2 es).shaped
@[simp] theorem eqv_lstI (a b : List Int) : PyData.eqv (lstI a) (lstI b) = decide (a = b) := by
  unfold lstI
  rw [eqv_list_list, eqvAll_ints]
@[simp] theorem eqD_lstI (a b : List Int) : eqD (lstI a) (lstI b) = some (.bool (decide (a = b))) := by simp [eqv_lstI]
@[simp] theorem neD_lstI (a b : List Int) : neD (lstI a) (lstI b) = some (.bool (!decide (a = b))) := by simp [eqv_lstI]
theorem any_ints (l : List Int) (x : Int) : (l.map PyData.int).any (fun z => PyData.eqv z (.int x)) = decide (x ∈ l) := by
  induction l with
  | nil => rfl
  | cons a l ih =>
    rw [List.map_cons, List.any_cons, ih, eqv_int_int]
    by_cases h : a = x
    · subst h; simp
    · have : ¬ x = a := fun z => h z.symm
      simp [h, this]
@[simp] theorem inD_lstI (l : List Int) (x : Int) : inD (.int x) (lstI l) = some (.bool (decide (x ∈ l))) := by
  unfold inD
  simp only [seqD_lstI]
  rw [if_pos ⟨shaped_int x, shaped_lstI l⟩, any_ints]
@[simp] theorem notInD_lstI (l : List Int) (x : Int) : notInD (.int x) (lstI l) = some (.bool (!decide (x ∈ l))) := by
  unfold notInD
  simp only [seqD_lstI]
  rw [if_pos ⟨shaped_int x, shaped_lstI l⟩, any_ints]
theorem any_eds (es : List Ed) (e : Ed) : (es.map edD).any (fun z => PyData.eqv z (edD e)) = decide (e ∈ es) := by
  induction es with
  | nil => rfl
  | cons a l ih =>
    have h1 : PyData.eqv (edD a) (edD e) = decide (a = e) := by
      unfold edD
      rw [eqv_tuple_tuple]
      have := eqvAll_ints [a.1, a.2] [e.1, e.2]
      simp only [List.map_cons, List.map_nil] at this
      rw [this]
      have h2 : ([a.1, a.2] = [e.1, e.2]) ↔ a = e := by simp [Prod.ext_iff]
      simp [h2]
    rw [List.map_cons, List.any_cons, ih, h1]
    by_cases h : a = e
    · subst h; simp
    · have : ¬ e = a := fun z => h z.symm
      simp [h, this]
theorem notInD_net (es : List Ed) (e : Ed) : notInD (edD e) (netD es) = some (.bool (!decide (e ∈ es))) := by
  unfold notInD
  simp only [seqD_net]
  rw [if_pos ⟨shaped_edD e, shaped_net es⟩, any_eds]
theorem inD_net (es : List Ed) (e : Ed) : inD (edD e) (netD es) = some (.bool (decide (e ∈ es))) := by
  unfold inD
  simp only [seqD_net]
  rw [if_pos ⟨shaped_edD e, shaped_net es⟩, any_eds]
theorem eqv_refl : ∀ {n : Nat} {d : D}, Shp n d → PyData.eqv d d = true := by
  intro n
  induction n with
  | zero =>
    intro d h
    cases d with
    | dict es => exact nomatch h.nd
    | list ds => exact absurd h.2 (by simp [PyData.depth])
    | tuple ds => exact absurd h.2 (by simp [PyData.depth])
    | none => simp
    | bool b => simp
    | int b => simp
    | str b => simp [PyData.eqv]
  | succ n ih =>
    intro d h
    have all : ∀ ds : List D, (∀ d ∈ ds, Shp n d) → PyData.eqvAll ds ds = true := by
      intro ds
      induction ds with
      | nil => intro _; simp
      | cons a ds ih2 =>
        intro h
        rw [eqvA_cons, ih (h a List.mem_cons_self), ih2 fun x hx => h x (List.mem_cons_of_mem _ hx)]; rfl
    cases d with
    | dict es => exact nomatch h.nd
    | list ds => rw [eqv_list_list]; exact all ds (by simpa using Shp.inv (.inl h))
    | tuple ds => rw [eqv_tuple_tuple]; exact all ds (by simpa using Shp.inv (.inr h))
    | none => simp
    | bool b => simp
    | int b => simp
    | str b => simp [PyData.eqv]
/-- plain data of a bounded size -/
inductive Sm : Nat → D → Prop
  | none {n} : Sm n .none
  | bool {n} (b : Bool) : Sm n (.bool b)
  | int {n} (i : Int) : Sm n (.int i)
  | str {n} {x : Str} (h : ∀ n, Shp n (.str x)) : Sm n (.str x)
  | list {n} {ds : List D} (h : ds.length ≤ 1000000) (k : ∀ d ∈ ds, Sm n d) : Sm (n + 1) (.list ds)
  | tup {n} {ds : List D} (h : ds.length ≤ 1000000) (k : ∀ d ∈ ds, Sm n d) : Sm (n + 1) (.tuple ds)
theorem Sm.shp : ∀ {n : Nat} {d : D}, Sm n d → Shp n d
  | _, _, .none => Shp.none _
  | _, _, .bool b => Shp.bool _ b
  | _, _, .int i => Shp.int _ i
  | _, _, .str h => h _
  | _, _, .list _ k => Shp.list fun d hd => (k d hd).shp
  | _, _, .tup _ k => Shp.tup fun d hd => (k d hd).shp
def kindZ : D → Int
  | .bool _ => 1
  | .int _ => 2
  | .str _ => 3
  | .list _ => 4
  | .tuple _ => 5
  | _ => 6
theorem law_kind_eq {n : Nat} {d : D} (h : Shp n d) : f__law_kind [d] = .ok (.fr (.int (kindZ d))) := by
  unfold f__law_kind b__law_kind
  cases d with
  | dict es => exact nomatch h.nd
  | _ => simp [kindZ]
theorem enum_mem : ∀ {ds : List D} {k : Nat} {x : D}, x ∈ enumFrom k ds → ∃ (i : Nat) (d : D), x = .tuple [.int ((k + i : Nat) : Int), d] ∧ ds[i]? = some d
  | [], _, _, h => nomatch h
  | d :: ds, k, x, h => by
    unfold enumFrom at h
    rcases List.mem_cons.mp h with e | h
    · exact ⟨0, d, e, rfl⟩
    · obtain ⟨i, y, e, h2⟩ := enum_mem h
      exact ⟨i + 1, y, by rw [e]; congr 4; omega, h2⟩
theorem enum_len : ∀ (ds : List D) (k : Nat), (enumFrom k ds).length = ds.length
  | [], _ => rfl
  | _ :: ds, k => by unfold enumFrom; simp [enum_len ds]
theorem law_equal_refl : ∀ (n m : Nat) (d : D), Sm n d → n < m → f__law_equal m [d, d] = .ok (.fr (.bool true)) := by
  intro n
  induction n with
  | zero =>
    intro m d h hm
    obtain ⟨m, rfl⟩ : ∃ j, m = j + 1 := ⟨m - 1, by omega⟩
    have hk := law_kind_eq h.shp
    have he := eqv_refl h.shp
    have hs := h.shp.shaped
    unfold f__law_equal b__law_equal
    cases h with
    | none => simp [hk, kindZ]
    | bool b => simp [hk, kindZ]
    | int b => simp [hk, kindZ]
    | str h => simp [hk, kindZ, he, hs]
  | succ n ih =>
    intro m d h hm
    obtain ⟨m, rfl⟩ : ∃ j, m = j + 1 := ⟨m - 1, by omega⟩
    have hk := law_kind_eq h.shp
    have he := eqv_refl h.shp
    have seq : ∀ (d : D) (ds : List D), (d = .list ds ∨ d = .tuple ds) → ds.length ≤ 1000000 → (∀ x ∈ ds, Sm n x) → Res.cmp (.ok (enumFrom 0 ds, [some (.fr d), some (.fr d), none, none])) [2, 3] (gTupD 2 (gsCons (setFr 2) (gsCons (setFr 3) gsNil))) (notT (tst (frz (callM (f__law_equal m) (consM (varM 3) (consM (frz (op2F itemS (varM 1) (varM 2))) (M.pure []))))))) (varM 2) = .ok (.ow (.list []), [some (.fr d), some (.fr d), none, none]) := fun d ds hd hl hx => by
      have := lcD_pure (vs := [2, 3]) (set := gTupD 2 (gsCons (setFr 2) (gsCons (setFr 3) gsNil))) (c := notT (tst (frz (callM (f__law_equal m) (consM (varM 3) (consM (frz (op2F itemS (varM 1) (varM 2))) (M.pure []))))))) (e := varM 2) (ρw := [some (.fr d), some (.fr d), none, none]) (g := fun _ => none) (ds := enumFrom 0 ds) (acc := []) (fun x hx2 => by
        obtain ⟨i, y, rfl, hi⟩ := enum_mem hx2
        have hy := hx y (List.mem_of_getElem? hi)
        have hat : atI ds ((0 + i : Nat) : Int) = some y := by
          have hlt := (List.getElem?_eq_some_iff.mp hi).1
          rw [atI_of (j := i) (by rw [ixN_of (by omega) (by omega)]; congr 1; omega), hi]
        have hit : itemS d (.int ((0 + i : Nat) : Int)) = some (.fr y) := by rcases hd with rfl | rfl <;> simp only [itemS_l, itemS_t, hat] <;> rfl
        have hr := ih m y hy (by omega)
        refine ⟨[some (.fr d), some (.fr d), some (.fr (.int ((0 + i : Nat) : Int))), some (.fr y)], [some (.fr d), some (.fr d), some (.fr (.int ((0 + i : Nat) : Int))), some (.fr y)], by simp, .inl ⟨?_, by simp, rfl⟩⟩
        simp only [Nat.zero_add] at hit ⊢
        simp [hit, hr]) (by rw [enum_len]; simp; omega)
      rw [cmp_ok (ys := []) (ρ2 := [some (.fr d), some (.fr d), none, none])]
      · simp
      · have hw : wipeD [some (.fr d), some (.fr d), none, none] [2, 3] = [some (.fr d), some (.fr d), none, none] := by simp
        rw [hw, this]; simp
    unfold f__law_equal b__law_equal
    cases h with
    | none => simp [hk, kindZ]
    | bool b => simp [hk, kindZ]
    | int b => simp [hk, kindZ]
    | str h => have hs := (h 0).shaped; simp [hk, kindZ, he, hs]
    | list hl hx => simp [hk, kindZ, seq _ _ (.inl rfl) hl hx]
    | tup hl hx => simp [hk, kindZ, seq _ _ (.inr rfl) hl hx]
theorem Sm.lstI {l : List Int} (h : l.length ≤ 1000000) (n : Nat) : Sm (n + 1) (lstI l) := .list (by rw [List.length_map]; exact h) fun d hd => by
  obtain ⟨i, _, rfl⟩ := List.mem_map.mp hd
  exact .int i
end Lf

/-! P19: the cells of a law, draws without their value. -/
namespace Lf
open PySem PySem.Spec PyProof.Rows L2
theorem cells_loop {body : EnvD → Out} {ns : List Int} {k : Int} {i : Nat} (I : EnvD → Prop) (h : ∀ (c : Int) ρ, I ρ → ∃ ρ1 ρ2, setFr i (.int c) ρ = some ρ1 ∧ body ρ1 = .nx ρ2 ∧ I ρ2) {ρ0 : EnvD} (h0 : I ρ0) :
    ∃ ρ', forD (setFr i) body (cutD (.int 0 :: ns.map .int) none (some k)) ρ0 = .nx ρ' ∧ I ρ' := by
  obtain ⟨ρ', e, h⟩ := forD_inv (set := setFr i) (body := body) (fun _ ρ => I ρ) (ds := cutD (.int 0 :: ns.map .int) none (some k)) (k := 0) (ρ := ρ0) (fun i d ρ hd hI => by
    have hm := cutD_mem (List.mem_of_getElem? hd)
    obtain ⟨c, rfl⟩ : ∃ c : Int, d = .int c := by
      rcases List.mem_cons.mp hm with rfl | hm
      · exact ⟨0, rfl⟩
      · obtain ⟨c, _, rfl⟩ := List.mem_map.mp hm; exact ⟨c, rfl⟩
    obtain ⟨ρ1, ρ2, e1, e2, h2⟩ := h c ρ hI
    exact ⟨ρ1, ρ2, e1, .inl e2, h2⟩) h0
  exact ⟨ρ', e, h⟩
theorem rng_rg1 {n : Nat} (hn : n ≤ 1000000) : rg1 [.int (n : Int)] = some ((rng n).map .int) := by
  unfold rg1
  dsimp only
  rw [if_pos (rgB_of (by omega) (by omega)), ← rangeD_rng]
  rfl
theorem Nw.of {n : Nat} {es : List Ed} {d : Int → Int → Int} (t : Tr n es d) (h : strict es = true) (hn : (n : Int) ≤ 25) : Nw n es d := ⟨t, h, by omega⟩
theorem Nw.pos {n : Nat} {es : List Ed} {d : Int → Int → Int} (w : Nw n es d) : 1 ≤ n := by have := w.tr.len; omega
/-- the network of one place -/
theorem nw_one : Nw 1 [] (fun _ _ => 0) := ⟨(Grow.one 0).tr (fun x => by simp [Vn]; omega) rfl, rfl, by omega⟩
/-- a network given by how it grows -/
theorem nw_grow {es : List Ed} (l : List (Int × Int)) (n : Nat) (h1 : growOk [0] l = true) (h2 : (growV 0 l).all (fun x => decide (0 ≤ x) && decide (x < n)) = true) (h3 : (growV 0 l).length = n) (h4 : srtE (growE l) = es) (h5 : n ≤ 25) : Nw n es (growD l) := by
  have g := grow_of 0 l h1
  have hin : ∀ x ∈ growV 0 l, Vn n x := fun x hx => by
    have := List.all_eq_true.mp h2 x hx
    simp only [Bool.and_eq_true, decide_eq_true_eq] at this
    exact this
  have t := g.tr (n := n) (fun x => ⟨hin x, fun hx => by
    have h6 := len_cnt (n := n) g.nodup hin
    rw [h3] at h6
    exact cnt_full.mp h6.symm x hx.1 hx.2⟩) h3
  subst h4
  exact ⟨t.perm (srtE_perm _), srtE_strict t.nd, h5⟩
end Lf

/-! P20: comprehensions with their environment; _law_sighted. -/
namespace Lf
open PySem PySem.Spec PyProof.Rows L2
theorem cmp_E {α : Type} {enc : α → D} {p : α → Bool} {g : α → D} {vs : List Nat} {set : D → EnvD → Option EnvD} {c : M Bool} {e : M D} {ρ ρw ρb : EnvD} {l : List α} (E : α → EnvD) (h1 : wipeD ρ vs = ρw) (h2 : backD ρ ρw vs = ρb) (hs : ∀ a ∈ l, set (enc a) ρw = some (E a)) (hw : ∀ a ∈ l, wipeD (E a) vs = ρw)
    (hc : ∀ a ∈ l, c (E a) = .ok (p a, E a)) (he : ∀ a ∈ l, p a = true → e (E a) = .ok (g a, E a)) (hl : l.length ≤ 16777216) : Res.cmp (.ok (l.map enc, ρ)) vs set c e = .ok (.ow (.list ((l.filter p).map g)), ρb) := by
  rw [cmp_fm (p := p) (g := g) h1 (fun a ha => ⟨E a, E a, hs a ha, hc a ha, fun _ => hw a ha, fun hp => ⟨E a, he a ha hp, hw a ha⟩⟩) hl, h2]
theorem cmp_Em {α : Type} {enc : α → D} {g : α → D} {vs : List Nat} {set : D → EnvD → Option EnvD} {e : M D} {ρ ρw ρb : EnvD} {l : List α} (E : α → EnvD) (h1 : wipeD ρ vs = ρw) (h2 : backD ρ ρw vs = ρb) (hs : ∀ a ∈ l, set (enc a) ρw = some (E a)) (hw : ∀ a ∈ l, wipeD (E a) vs = ρw)
    (he : ∀ a ∈ l, e (E a) = .ok (g a, E a)) (hl : l.length ≤ 16777216) : Res.cmp (.ok (l.map enc, ρ)) vs set yesM e = .ok (.ow (.list (l.map g)), ρb) := by
  rw [cmp_E (p := fun _ => true) (g := g) E h1 h2 hs hw (fun a _ => by simp) (fun a ha _ => he a ha) hl, List.filter_eq_self.mpr fun _ _ => rfl]
theorem wipe1 {ρ : EnvD} {i : Nat} (h : ρ[i]? = some none) : wipeD ρ [i] = ρ := by
  rw [wipe_cons, wipe_nil]
  apply List.ext_getElem?
  intro j
  by_cases e : j = i
  · subst e
    rw [List.getElem?_set_self (List.getElem?_eq_some_iff.mp h).1, h]
  · rw [List.getElem?_set_ne (fun z => e z.symm)]
theorem back1 {ρ : EnvD} {i : Nat} (h : ρ[i]? = some none) : backD ρ ρ [i] = ρ := by rw [back_cons, h, back_nil]
/-- [x for x in ints if ..] -/
theorem cmp_filter {l : List Int} {p : Int → Bool} {i : Nat} {c : M Bool} {ρ : EnvD} (hi : ρ[i]? = some none) (hc : ∀ x ∈ l, c (ρ.set i (some (.fr (.int x)))) = .ok (p x, ρ.set i (some (.fr (.int x))))) (hl : l.length ≤ 16777216) :
    Res.cmp (.ok (l.map .int, ρ)) [i] (setFr i) c (varM i) = .ok (.ow (lstI (l.filter p)), ρ) := by
  have hlt := (List.getElem?_eq_some_iff.mp hi).1
  have hw : ∀ x : Int, wipeD (ρ.set i (some (.fr (.int x)))) [i] = ρ := fun x => by
    rw [wipe_cons, wipe_nil, List.set_set, ← wipe1 hi, wipe_cons, wipe_nil, List.set_set]
  have := cmp_E (enc := PyData.int) (p := p) (g := PyData.int) (fun x => ρ.set i (some (.fr (.int x)))) (wipe1 hi) (back1 hi) (set := setFr i) (c := c) (e := varM i) (l := l) (fun x _ => by unfold setFr; rw [if_pos hlt]) (fun x _ => hw x) hc (fun x _ _ => by
    unfold varM
    rw [List.getElem?_set_self hlt]) hl
  rw [this]; rfl
theorem cmp_mapI {α : Type} {enc : α → D} {l : List α} {g : α → D} {i : Nat} {e : M D} {ρ : EnvD} (hi : ρ[i]? = some none) (he : ∀ x ∈ l, e (ρ.set i (some (.fr (enc x)))) = .ok (g x, ρ.set i (some (.fr (enc x))))) (hl : l.length ≤ 16777216) :
    Res.cmp (.ok (l.map enc, ρ)) [i] (setFr i) yesM e = .ok (.ow (.list (l.map g)), ρ) := by
  have hlt := (List.getElem?_eq_some_iff.mp hi).1
  have hw : ∀ x : D, wipeD (ρ.set i (some (.fr x))) [i] = ρ := fun x => by
    rw [wipe_cons, wipe_nil, List.set_set, ← wipe1 hi, wipe_cons, wipe_nil, List.set_set]
  exact cmp_Em (g := g) (fun x => ρ.set i (some (.fr (enc x)))) (wipe1 hi) (back1 hi) (set := setFr i) (e := e) (l := l) (fun x _ => by unfold setFr; rw [if_pos hlt]) (fun x _ => hw _) he hl
theorem cmp_fmI {α : Type} {enc : α → D} {l : List α} {p : α → Bool} {g : α → D} {i : Nat} {c : M Bool} {e : M D} {ρ : EnvD} (hi : ρ[i]? = some none) (hc : ∀ x ∈ l, c (ρ.set i (some (.fr (enc x)))) = .ok (p x, ρ.set i (some (.fr (enc x))))) (he : ∀ x ∈ l, p x = true → e (ρ.set i (some (.fr (enc x)))) = .ok (g x, ρ.set i (some (.fr (enc x))))) (hl : l.length ≤ 16777216) :
    Res.cmp (.ok (l.map enc, ρ)) [i] (setFr i) c e = .ok (.ow (.list ((l.filter p).map g)), ρ) := by
  have hlt := (List.getElem?_eq_some_iff.mp hi).1
  have hw : ∀ x : D, wipeD (ρ.set i (some (.fr x))) [i] = ρ := fun x => by
    rw [wipe_cons, wipe_nil, List.set_set, ← wipe1 hi, wipe_cons, wipe_nil, List.set_set]
  exact cmp_E (p := p) (g := g) (fun x => ρ.set i (some (.fr (enc x)))) (wipe1 hi) (back1 hi) (set := setFr i) (c := c) (e := e) (l := l) (fun x _ => by unfold setFr; rw [if_pos hlt]) (fun x _ => hw _) hc he hl
/-- a sighting as data -/
def sgD (s : Sg) : D := .tuple [.int s.1, .int s.2.1, .int s.2.2]
def unSg : D → Sg
  | .tuple [.int a, .int b, .int c] => (a, b, c)
  | _ => (0, 0, 0)
def sgsD (Z : List Sg) : D := .tuple (Z.map sgD)
def sgL (Z : List Sg) : D := .list (Z.map sgD)
@[simp] theorem isLO_sgL (Z : List Sg) : isLO (sgL Z) = some () := (Eq.refl _).trans (Eq.refl _)
theorem appD_sgL {Z : List Sg} {t p r : Int} (h : Z.length < 16777216) : appD (.tuple [.int t, .int p, .int r]) (sgL Z) = some (sgL (Z ++ [(t, p, r)])) := by
  have hz : ltM ((Z.map sgD).length + 1) = true := ltM_of (by rw [List.length_map]; omega)
  unfold appD sgL
  simp only [hz, if_true, List.map_append]
  rfl
/-- a sighting upon a network of n places -/
structure SgB (n : Nat) (T R : Int) (s : Sg) : Prop where
  t0 : 0 ≤ s.1
  t1 : s.1 ≤ T
  p : Vn n s.2.1
  r0 : 0 ≤ s.2.2
  r1 : s.2.2 ≤ R
theorem choice_int {n : Int} {s : D} {l : List Int} (h : Src n s) (hn : n ≤ 1000000000) (h0 : l ≠ []) (h1 : l.length < 1000000) : ∃ x s', f__law_choice s [lstI l] = .ok (.fr (.int x), s') ∧ x ∈ l ∧ Src (n + 1) s' := by
  obtain ⟨x, s', e, hm, hs⟩ := choice_eq (ds := l.map .int) h hn (by simpa using h0) (by simpa using h1)
  obtain ⟨y, hy, rfl⟩ := List.mem_map.mp hm
  exact ⟨y, s', e, hy, hs⟩
section
variable {n : Nat} {es : List Ed} {d : Int → Int → Int} (w : Nw n es d)
include w
/-- one turn of _law_sighted -/
theorem sighted_b1 {k v m wd : Int} {s : D} (hs : Src k s) (hk : 0 ≤ k) (hk2 : k ≤ 900000000) (v0 : 0 ≤ v) (v1 : v ≤ 100) {pl tm : Int} (hp : Vn n pl) (t0 : 0 ≤ tm) {Z : List Sg} (hZ : Z.length ≤ 1000) {j10 j11 j12 j13 j14 j15 : Option S} :
    ∃ (s' : D) (st pl' r c : Int) (j12' j14' : Option S), _law_sighted_b1 [some (.io s), some (.fr (netD es)), some (.fr (.int v)), some (.fr (.int m)), some (.fr (.int wd)), some (.fr (farD n d)), some (.fr (.int n)), some (.fr (.int pl)), some (.fr (.int tm)), some (.ow (sgL Z)), j10, j11, j12, j13, j14, j15, none] =
      .nx [some (.io s'), some (.fr (netD es)), some (.fr (.int v)), some (.fr (.int m)), some (.fr (.int wd)), some (.fr (farD n d)), some (.fr (.int n)), some (.fr (.int pl')), some (.fr (.int (tm + st))), some (.ow (sgL (Z ++ [(tm + st, c, r)]))), j10, some (.fr (.int st)), j12', some (.fr (.int r)), j14', some (.fr (.int c)), none] ∧
      Src (k + 7) s' ∧ 0 ≤ st ∧ st ≤ 3 ∧ Vn n pl' ∧ 0 ≤ r ∧ r ≤ 3 ∧ Vn n c := by
  have hsz := w.sz
  have hpos := w.pos
  have T := w.tr.tm
  obtain ⟨st, s1, e1, st0, st1, q1⟩ := draw_eq (s := 4) hs (by omega) (by decide) (by decide)
  have hm : cMul v st = true := by simp [cMul]; omega
  have hvs : 0 ≤ v * st := Int.mul_nonneg v0 st0
  have near : pl ∈ (rng n).filter fun x => decide (d pl x ≤ v * st) := List.mem_filter.mpr ⟨rng_mem.mpr hp, decide_eq_true (by rw [T.self hp]; exact hvs)⟩
  have fl : ∀ p : Int → Bool, ((rng n).filter p).length < 1000000 := fun p => by have := List.length_filter_le p (rng n); rw [rng_len] at this; omega
  obtain ⟨pl', s2, e2, hpl', q2⟩ := choice_int q1 (by omega) (List.ne_nil_of_mem near) (fl _)
  have hpV : Vn n pl' := rng_mem.mp (List.mem_filter.mp hpl').1
  obtain ⟨r4, s3, e3, r40, r41, q3⟩ := draw_eq (s := 4) q2 (by omega) (by decide) (by decide)
  obtain ⟨r, s4, e4, hr, q4⟩ := choice_int (l := [0, 0, r4]) q3 (by omega) (by simp) (by simp)
  have hr0 : 0 ≤ r ∧ r ≤ 3 := by simp at hr; rcases hr with rfl | rfl <;> omega
  have around : pl' ∈ (rng n).filter fun x => decide (d pl' x ≤ r) := List.mem_filter.mpr ⟨rng_mem.mpr hpV, decide_eq_true (by rw [T.self hpV]; exact hr0.1)⟩
  obtain ⟨c, s5, e5, hc, q5⟩ := choice_int q4 (by omega) (List.ne_nil_of_mem around) (fl _)
  have hcV : Vn n c := rng_mem.mp (List.mem_filter.mp hc).1
  obtain ⟨x7, s6, e6, _, _, q6⟩ := draw_eq (s := 7) q5 (by omega) (by decide) (by decide)
  obtain ⟨c2, s7, e7, c20, c21, q7⟩ := draw_eq (s := n) q6 (by omega) (by omega) (by omega)
  have hrg := rng_rg1 (n := n) (by omega)
  have c1 := cmp_filter (l := rng n) (p := fun x => decide (d pl x ≤ v * st)) (i := 16) (c := _law_sighted_c1) (ρ := [some (.io s1), some (.fr (netD es)), some (.fr (.int v)), some (.fr (.int m)), some (.fr (.int wd)), some (.fr (farD n d)), some (.fr (.int n)), some (.fr (.int pl)), some (.fr (.int (tm + st))), some (.ow (sgL Z)), j10, some (.fr (.int st)), j12, j13, j14, j15, none]) rfl (fun x hx => by
    have hx : Vn n x := rng_mem.mp hx
    unfold _law_sighted_c1
    simp [itemS_farD hp, itemS_row hx, hm]) (by simp; omega)
  have c2' := cmp_filter (l := rng n) (p := fun x => decide (d pl' x ≤ r)) (i := 16) (c := _law_sighted_c2) (ρ := [some (.io s4), some (.fr (netD es)), some (.fr (.int v)), some (.fr (.int m)), some (.fr (.int wd)), some (.fr (farD n d)), some (.fr (.int n)), some (.fr (.int pl')), some (.fr (.int (tm + st))), some (.ow (sgL Z)), j10, some (.fr (.int st)), some (.fr (lstI ((rng n).filter fun x => decide (d pl x ≤ v * st)))), some (.fr (.int r)), j14, j15, none]) rfl (fun x hx => by
    have hx : Vn n x := rng_mem.mp hx
    unfold _law_sighted_c2
    simp [itemS_farD hpV, itemS_row hx]) (by simp; omega)
  have e4' : f__law_choice s3 [.list [.int 0, .int 0, .int r4]] = .ok (.fr (.int r), s4) := e4
  have app : ∀ c : Int, appD (.tuple [.int (tm + st), .int c, .int r]) (sgL Z) = some (sgL (Z ++ [(tm + st, c, r)])) := fun c => appD_sgL (by omega)
  by_cases h7 : x7 = 0
  · refine ⟨s7, st, pl', r, c2, some (.fr (lstI ((rng n).filter fun x => decide (d pl x ≤ v * st)))), some (.fr (lstI ((rng n).filter fun x => decide (d pl' x ≤ r)))), ?_, q7.mono (by omega), st0, by omega, hpV, hr0.1, hr0.2, c20, c21⟩
    have app := app c2
    unfold _law_sighted_b1
    simp [e1, hrg, c1, e2, e3, e4', c2', e5, e6, h7, e7, app]
  · refine ⟨s6, st, pl', r, c, some (.fr (lstI ((rng n).filter fun x => decide (d pl x ≤ v * st)))), some (.fr (lstI ((rng n).filter fun x => decide (d pl' x ≤ r)))), ?_, q6.mono (by omega), st0, by omega, hpV, hr0.1, hr0.2, hcV⟩
    have app := app c
    unfold _law_sighted_b1
    simp [e1, hrg, c1, e2, e3, e4', c2', e5, e6, h7, app]
/-- the drawn sightings -/
theorem sighted_eq {k v m wd : Int} {s : D} (hs : Src k s) (hk : 0 ≤ k) (hk2 : k ≤ 800000000) (v0 : 0 ≤ v) (v1 : v ≤ 100) (m0 : 0 ≤ m) (m1 : m ≤ 100) (w0 : 1 ≤ wd) (w1 : wd ≤ 1000000) :
    ∃ (Z : List Sg) (s' : D), f__law_sighted s [netD es, .int v, .int m, .int wd] = .ok (.fr (sgsD Z), s') ∧ (Z.length : Int) ≤ m ∧ (∀ z ∈ Z, SgB n (wd + 3 * m) 3 z) ∧ Src (k + 900) s' := by
  have hsz := w.sz
  have hpos := w.pos
  have hes : (es.length : Int) + 1 = n := by have := w.tr.len; omega
  have hfar := w.tr.far (by omega)
  obtain ⟨pl, s1, e1, p0, p1, q1⟩ := draw_eq (s := n) hs (by omega) (by omega) (by omega)
  obtain ⟨tm, s2, e2, t0, t1, q2⟩ := draw_eq (s := wd) q1 (by omega) (by omega) (by omega)
  obtain ⟨cnt, s3, e3, c0, c1, q3⟩ := draw_eq (s := m + 1) q2 (by omega) (by omega) (by omega)
  have hrl : (rangeD 0 cnt.toNat).length = cnt.toNat := by simp [rangeD]
  obtain ⟨ρ', e4, s4, pl', tm', Z, j10, j11, j12, j13, j14, j15, rfl, hZl, hZ, hpl, ht0, ht1, q4⟩ := forD_inv (set := setFr 10) (body := _law_sighted_b1) (fun i ρ => ∃ (s : D) (pl tm : Int) (Z : List Sg) (j10 j11 j12 j13 j14 j15 : Option S), ρ = [some (.io s), some (.fr (netD es)), some (.fr (.int v)), some (.fr (.int m)), some (.fr (.int wd)), some (.fr (farD n d)), some (.fr (.int n)), some (.fr (.int pl)), some (.fr (.int tm)), some (.ow (sgL Z)), j10, j11, j12, j13, j14, j15, none] ∧
      Z.length = i ∧ (∀ z ∈ Z, SgB n (wd + 3 * m) 3 z) ∧ Vn n pl ∧ 0 ≤ tm ∧ tm ≤ wd + 3 * (i : Int) ∧ Src (k + 3 + 7 * (i : Int)) s)
    (ds := rangeD 0 cnt.toNat) (k := 0) (ρ := [some (.io s3), some (.fr (netD es)), some (.fr (.int v)), some (.fr (.int m)), some (.fr (.int wd)), some (.fr (farD n d)), some (.fr (.int n)), some (.fr (.int pl)), some (.fr (.int tm)), some (.ow (sgL [])), none, none, none, none, none, none, none])
    (by
      rintro i dd ρ hd ⟨s, pl, tm, Z, j10, j11, j12, j13, j14, j15, rfl, hZl, hZ, hpl, ht0, ht1, hq⟩
      have hi : i < cnt.toNat := by have := (List.getElem?_eq_some_iff.mp hd).1; rwa [hrl] at this
      obtain ⟨s', st, pl', r, c, j12', j14', e, hq', a0, a1, a2, a3, a4, a5⟩ := sighted_b1 w (k := k + 3 + 7 * ((0 + i : Nat) : Int)) hq (m := m) (wd := wd) (by omega) (by omega) v0 v1 hpl ht0 (Z := Z) (by omega) (j10 := some (.fr dd)) (j11 := j11) (j12 := j12) (j13 := j13) (j14 := j14) (j15 := j15)
      refine ⟨_, _, by simp, .inl e, s', pl', tm + st, Z ++ [(tm + st, c, r)], _, _, _, _, _, _, rfl, by simp; omega, fun z hz => ?_, a2, by omega, by omega, hq'.mono (by omega)⟩
      rcases List.mem_append.mp hz with hz | hz
      · exact hZ z hz
      · rw [List.mem_singleton.mp hz]
        exact ⟨by dsimp only; omega, by dsimp only; omega, a5, a3, a4⟩)
    (by
      refine ⟨s3, pl, tm, [], none, none, none, none, none, none, rfl, rfl, ?_, ⟨p0, p1⟩, t0, by omega, q3.mono (by omega)⟩
      intro z hz
      cases hz)
  rw [hrl] at hZl q4
  obtain ⟨ys, s5, e5, hp, q5⟩ := mixed_eq (ds := Z.map sgD) q4 (by simp; omega) (by simp; omega) (fun x hx => by
    obtain ⟨z, _, rfl⟩ := List.mem_map.mp hx
    exact Shp.mono (n := 1) (Shp.tup fun y hy => by
      simp at hy
      rcases hy with rfl | rfl | rfl <;> exact Shp.int _ _) (by omega))
  obtain ⟨Z', rfl, hp'⟩ : ∃ Z' : List Sg, ys = Z'.map sgD ∧ Z'.Perm Z := by
    have : ∀ ys : List D, (∀ y ∈ ys, ∃ z, y = sgD z) → ∃ Z' : List Sg, ys = Z'.map sgD := by
      intro ys
      induction ys with
      | nil => intro _; exact ⟨[], rfl⟩
      | cons y ys ih =>
        intro h
        obtain ⟨z, rfl⟩ := h y List.mem_cons_self
        obtain ⟨Z', rfl⟩ := ih fun y hy => h y (List.mem_cons_of_mem _ hy)
        exact ⟨z :: Z', rfl⟩
    obtain ⟨Z', rfl⟩ := this ys fun y hy => by
      obtain ⟨z, _, rfl⟩ := List.mem_map.mp (hp.mem_iff.mp hy)
      exact ⟨z, rfl⟩
    refine ⟨Z', rfl, ?_⟩
    have := hp.map unSg
    rw [List.map_map, List.map_map] at this
    have e : unSg ∘ sgD = _root_.id := rfl
    rwa [e, List.map_id, List.map_id] at this
  refine ⟨Z', s5, ?_, ?_, fun z hz => hZ z (hp'.mem_iff.mp hz), q5.mono (by simp at hZl; simp; omega)⟩
  · have hrg : rg1 [.int cnt] = some (rangeD 0 cnt.toNat) := by
      unfold rg1; dsimp only; rw [if_pos (rgB_of (by omega) (by omega))]
    have e5' : f__law_mixed s4 [sgL Z] = .ok (.ow (.list (Z'.map sgD)), s5) := e5
    have h0 : (PyData.list [] : D) = sgL [] := rfl
    unfold f__law_sighted b__law_sighted
    simp [hfar, hes, e1, e2, h0, e3, hrg, e4, e5', sgsD]
  · have := hp'.length_eq
    omega
end
end Lf

/-! P21: sightings judged. -/
namespace Lf
open PySem PySem.Spec PyProof.Rows L2
def sgV (last : Int) : D → Bool
  | .tuple [a, b, c] => isZ 0 1000000000 a && isZ 0 last b && isZ 0 100 c
  | _ => false
def sgsV (last : Int) : D → Bool
  | .tuple ds => decide (ds.length ≤ 12) && ds.all (sgV last)
  | _ => false
theorem is_sighting_eq {es : List Ed} {v : D} (h : Shp 5 v) : f_is_sighting [netD es, v] = .ok (.fr (.bool (sgV es.length v))) := by
  unfold f_is_sighting b_is_sighting
  cases v with
  | dict es => exact nomatch h.nd
  | none => simp [sgV]
  | bool b => simp [sgV]
  | int b => simp [sgV]
  | str b => simp [sgV]
  | list b => simp [sgV]
  | tuple ds =>
    have hs := Shp.inv (.inr h)
    match ds, hs with
    | [], _ => simp [sgV]
    | [a], _ => simp [sgV]
    | [a, b], _ => simp [sgV]
    | [a, b, c], hs =>
      have h1 := is_between_eq 0 1000000000 (hs a (by simp)).nd
      have h2 := is_between_eq 0 es.length (hs b (by simp)).nd
      have h3 := is_between_eq 0 100 (hs c (by simp)).nd
      cases q1 : isZ 0 1000000000 a
      · simp [sgV, h1, q1]
      · cases q2 : isZ 0 es.length b
        · simp [sgV, h1, q1, h2, q2]
        · simp [sgV, h1, q1, h2, q2, h3]
    | a :: b :: c :: e :: r, _ =>
      have : ¬ ((r.length : Int) + 1 + 1 + 1 + 1 = 3) := by omega
      simp [sgV, this]
theorem are_sightings_eq {es : List Ed} {v : D} (h : Shp 6 v) : f_are_sightings [netD es, v] = .ok (.fr (.bool (sgsV es.length v))) := by
  unfold f_are_sightings b_are_sightings
  cases v with
  | dict es => exact nomatch h.nd
  | none => simp [sgsV]
  | bool b => simp [sgsV]
  | int b => simp [sgsV]
  | str b => simp [sgsV]
  | list b => simp [sgsV]
  | tuple ds =>
    have hs := Shp.inv (.inr h)
    by_cases hl : ds.length ≤ 12
    · have c1 : ¬ ((12 : Int) < ds.length) := by omega
      have hc := cmp_mapI (enc := fun d => d) (l := ds) (g := fun d => .bool (sgV es.length d)) (i := 2) (e := are_sightings_e1) (ρ := [some (.fr (netD es)), some (.fr (.tuple ds)), none]) rfl (fun x hx => by
        unfold are_sightings_e1
        simp [is_sighting_eq (es := es) (hs x hx)]) (by omega)
      rw [List.map_id'] at hc
      have hb : boolsD (ds.map fun d => .bool (sgV es.length d)) = some (ds.map (sgV es.length)) := by
        have := boolsD_map (ds.map (sgV es.length))
        rwa [List.map_map] at this
      have ha : (ds.map (sgV es.length)).all _root_.id = ds.all (sgV es.length) := by rw [List.all_map]; rfl
      simp [c1, hc, allS, hb, ha, sgsV, hl]
    · have c1 : (12 : Int) < ds.length := by omega
      simp [c1, sgsV, hl]
theorem is_sightings_eq {n : Nat} {es : List Ed} {d : Int → Int → Int} (w : Nw n es d) {v : D} (h : Shp 6 v) : f_is_sightings [netD es, v] = .ok (.fr (.bool (sgsV es.length v))) := by
  unfold f_is_sightings b_is_sightings
  simp [w.chk, are_sightings_eq h]
/-- a whole number from 0 on -/
def isN0 : D → Bool
  | .int i => decide (0 ≤ i)
  | _ => false
theorem sgV_of {last : Int} {a b c : D} : sgV last (.tuple [a, b, c]) = (isN0 a && isN0 b && isN0 c && (match a, b, c with | .int x, .int y, .int z => decide (x ≤ 1000000000) && decide (y ≤ last) && decide (z ≤ 100) | _, _, _ => false)) := by
  unfold sgV
  cases a <;> cases b <;> cases c <;> simp [isZ, isN0]
  rename_i x y z
  by_cases h1 : 0 ≤ x <;> by_cases h2 : 0 ≤ y <;> by_cases h3 : 0 ≤ z <;> by_cases h4 : x ≤ 1000000000 <;> by_cases h5 : y ≤ last <;> by_cases h6 : z ≤ 100 <;> simp [h1, h2, h3, h4, h5, h6]
theorem law_sg_b1 {es : List Ed} {v d : D} (h : Shp 5 d) : _law_are_sightings_b1 [some (.fr (netD es)), some (.fr v), some (.fr d), none] = if sgV es.length d = true then .nx [some (.fr (netD es)), some (.fr v), some (.fr d), none] else .rt (.fr (.bool false)) [some (.fr (netD es)), some (.fr v), some (.fr d), none] := by
  unfold _law_are_sightings_b1
  cases d with
  | dict es => exact nomatch h.nd
  | none => simp [sgV]
  | bool b => simp [sgV]
  | int b => simp [sgV]
  | str b => simp [sgV]
  | list b => simp [sgV]
  | tuple ds =>
    have hs := Shp.inv (.inr h)
    match ds, hs with
    | [], _ => simp [sgV]
    | [a], _ => simp [sgV]
    | [a, b], _ => simp [sgV]
    | a :: b :: c :: e :: r, _ =>
      have : ¬ ((r.length : Int) + 1 + 1 + 1 + 1 = 3) := by omega
      simp [sgV, this]
    | [a, b, c], hs =>
      have hsa := hs a (by simp)
      have hsb := hs b (by simp)
      have hsc := hs c (by simp)
      have hc := cmp_fmI (enc := fun d => d) (l := [a, b, c]) (p := fun d => !isN0 d) (g := fun d => d) (i := 3) (c := _law_are_sightings_c1) (e := varM 3) (ρ := [some (.fr (netD es)), some (.fr v), some (.fr (.tuple [a, b, c])), none]) rfl (fun x hx => by
        have hx := law_is_int_eq (hs x hx).nd
        unfold _law_are_sightings_c1
        cases x <;> simp [hx, isI, isN0]
        rename_i i _
        by_cases c : i < 0
        · simp [c, show ¬ (0 ≤ i) by omega]
        · simp [c, show 0 ≤ i by omega]) (fun x _ _ => by simp) (by simp)
      rw [List.map_id', List.map_id'] at hc
      have hsh : SeqAt.shaped (.list ([a, b, c].filter fun d => !isN0 d)) = true := (Shp.list fun x hx => hs x (List.mem_filter.mp hx).1 : Shp 5 _).shaped
      have he : PyData.eqv (.list ([a, b, c].filter fun d => !isN0 d)) (.list []) = (isN0 a && isN0 b && isN0 c) := by
        rw [eqv_list_list]
        cases ha : isN0 a <;> cases hb : isN0 b <;> cases hc : isN0 c <;> simp [ha, hb, hc]
      rw [sgV_of]
      cases hall : (isN0 a && isN0 b && isN0 c) with
      | false =>
        rw [hall] at he
        simp only [Bool.false_and]
        simp [hc, hsh, he]
      | true =>
        rw [hall] at he
        have : ∃ x y z, a = .int x ∧ b = .int y ∧ c = .int z := by
          cases a <;> cases b <;> cases c <;> simp [isN0] at hall ⊢
        obtain ⟨x, y, z, rfl, rfl, rfl⟩ := this
        by_cases h1 : x ≤ 1000000000
        · by_cases h2 : y ≤ es.length
          · by_cases h3 : z ≤ 100
            · simp [hc, hsh, he, cPow, h1, h2, h3, show ¬ (1000000000 < x) by omega, show ¬ ((es.length : Int) < y) by omega, show ¬ (100 < z) by omega]
            · simp [hc, hsh, he, cPow, h1, h2, h3, show ¬ (1000000000 < x) by omega, show ¬ ((es.length : Int) < y) by omega, show (100 < z) by omega]
          · simp [hc, hsh, he, cPow, h1, h2, show ¬ (1000000000 < x) by omega, show ((es.length : Int) < y) by omega]
        · simp [hc, hsh, he, cPow, h1, show (1000000000 < x) by omega]
theorem law_are_sightings_eq {es : List Ed} {v : D} (h : Shp 6 v) : f__law_are_sightings [netD es, v] = .ok (.fr (.bool (sgsV es.length v))) := by
  unfold f__law_are_sightings b__law_are_sightings
  cases v with
  | dict es => exact nomatch h.nd
  | none => simp [sgsV]
  | bool b => simp [sgsV]
  | int b => simp [sgsV]
  | str b => simp [sgsV]
  | list b => simp [sgsV]
  | tuple ds =>
    have hs := Shp.inv (.inr h)
    by_cases hl : ds.length ≤ 12
    · have c1 : ¬ ((12 : Int) < ds.length) := by omega
      have go : ∀ (l : List D) (j : Option S), (∀ x ∈ l, Shp 5 x) → ∃ ρ', forD (setFr 2) _law_are_sightings_b1 l [some (.fr (netD es)), some (.fr (.tuple ds)), j, none] = if l.all (sgV es.length) = true then .nx ρ' else .rt (.fr (.bool false)) ρ' := by
        intro l
        induction l with
        | nil => intro j _; exact ⟨_, by simp [forD]; rfl⟩
        | cons x l ih =>
          intro j hx
          have e1 := law_sg_b1 (es := es) (v := .tuple ds) (hx x List.mem_cons_self)
          obtain ⟨ρ', e2⟩ := ih (some (.fr x)) fun y hy => hx y (List.mem_cons_of_mem _ hy)
          have e0 : setFr 2 x [some (.fr (netD es)), some (.fr (.tuple ds)), j, none] = some [some (.fr (netD es)), some (.fr (.tuple ds)), some (.fr x), none] := by simp
          unfold forD
          rw [e0]
          simp only [e1]
          cases q : sgV es.length x with
          | true => exact ⟨ρ', by simp [q, e2]⟩
          | false => exact ⟨_, by simp [q]; rfl⟩
      obtain ⟨ρ', e⟩ := go ds none hs
      cases q : ds.all (sgV es.length) with
      | true => rw [q, if_pos rfl] at e; simp [c1, e, sgsV, hl, q]
      | false => rw [q, if_neg (by decide)] at e; simp [c1, e, sgsV, hl, q]
    · have c1 : (12 : Int) < ds.length := by omega
      simp [c1, sgsV, hl]
end Lf

/-! F: the lifted functions of all laws (printed by gen2.py). -/
namespace Lf
open PySem PySem.Spec PyProof.Rows L2
noncomputable def b_check_speed : EnvD → Out := (seqM (exprM (callM f_check_network (consM (varM 0) (M.pure [])))) (ifM (notT (tst (frz (callM f_is_between (consM (varM 1) (consM (M.pure (.int 1)) (consM (M.pure (.int 10)) (M.pure [])))))))) (raiseM "InvalidSpeed") Out.nx))
noncomputable def f_check_speed : List D → Res S := defD 2 2 b_check_speed
noncomputable def b_check_sightings : EnvD → Out := (ifM (notT (tst (frz (callM f_are_sightings (consM (varM 0) (consM (varM 1) (M.pure []))))))) (raiseM "InvalidSightings") Out.nx)
noncomputable def f_check_sightings : List D → Res S := defD 2 2 b_check_sightings
noncomputable def b_check_all : EnvD → Out := (seqM (exprM (callM f_check_speed (consM (varM 0) (consM (varM 1) (M.pure []))))) (exprM (callM f_check_sightings (consM (varM 0) (consM (varM 2) (M.pure []))))))
noncomputable def f_check_all : List D → Res S := defD 3 3 b_check_all
noncomputable def contradict_s1 : M S := (fre (frz (op2F itemS (frz (callM f_distances_from (consM (varM 0) (consM (frz (op2F itemS (varM 2) (M.pure (.int 1)))) (M.pure []))))) (frz (op2F itemS (varM 3) (M.pure (.int 1)))))))
noncomputable def contradict_s2 : M S := (fre (op2 gtI (varM 4) (frz (op2F addS (frz (op2F addS (frz (op2F itemS (varM 2) (M.pure (.int 2)))) (frz (op2F itemS (varM 3) (M.pure (.int 2)))))) (frz (op2F mulS (varM 1) (frz (bltM absS (consM (op2 subD (frz (op2F itemS (varM 2) (M.pure (.int 0)))) (frz (op2F itemS (varM 3) (M.pure (.int 0))))) (M.pure []))))))))))
noncomputable def b_contradict : EnvD → Out := (seqM (setM 4 contradict_s1) (retM contradict_s2))
noncomputable def f_contradict : List D → Res S := defD 4 5 b_contradict
noncomputable def all_contradictions_b1 : EnvD → Out := (ifM (tst (frz (callM f_contradict (consM (varM 0) (consM (varM 1) (consM (varM 5) (consM (frz (op2F itemS (varM 2) (varM 6))) (M.pure [])))))))) (exprM (appM 3 (frz (tupM (consM (varM 4) (consM (varM 6) (M.pure []))))))) Out.nx)
noncomputable def all_contradictions_b2 : EnvD → Out := (forM (rgM rg2 (consM (frz (op2F addS (varM 4) (M.pure (.int 1)))) (consM (frz (bltM lenS (consM (varM 2) (M.pure [])))) (M.pure [])))) (setFr 6) all_contradictions_b1)
noncomputable def b_all_contradictions : EnvD → Out := (seqM (setM 3 (lstM (M.pure []))) (seqM (forM (rgM enumO (consM (varM 2) (M.pure []))) (gTupD 2 (gsCons (setFr 4) (gsCons (setFr 5) gsNil))) all_contradictions_b2) (retM (movM 3))))
noncomputable def f_all_contradictions : List D → Res S := defD 3 7 b_all_contradictions
noncomputable def b_contradictions : EnvD → Out := (seqM (exprM (callM f_check_all (consM (varM 0) (consM (varM 1) (consM (varM 2) (M.pure [])))))) (retM (callM f_all_contradictions (consM (varM 0) (consM (varM 1) (consM (varM 2) (M.pure [])))))))
noncomputable def f_contradictions : List D → Res S := defD 3 3 b_contradictions
noncomputable def _law_clash_s1 : M S := (fre (frz (op2F mulS (varM 1) (frz (bltM absS (consM (op2 subD (frz (op2F itemS (varM 2) (M.pure (.int 0)))) (frz (op2F itemS (varM 3) (M.pure (.int 0))))) (M.pure [])))))))
noncomputable def _law_clash_s2 : M S := (fre (op2 gtI (frz (op2F itemS (frz (op2F itemS (varM 0) (frz (op2F itemS (varM 2) (M.pure (.int 1)))))) (frz (op2F itemS (varM 3) (M.pure (.int 1)))))) (frz (op2F addS (frz (op2F addS (frz (op2F itemS (varM 2) (M.pure (.int 2)))) (frz (op2F itemS (varM 3) (M.pure (.int 2)))))) (varM 4)))))
noncomputable def b__law_clash : EnvD → Out := (seqM (setM 4 _law_clash_s1) (retM _law_clash_s2))
noncomputable def f__law_clash : List D → Res S := defD 4 5 b__law_clash
noncomputable def _law_pairs_t1 : M Bool := (tst (frz (callM f__law_clash (consM (varM 0) (consM (varM 1) (consM (frz (op2F itemS (varM 2) (varM 4))) (consM (frz (op2F itemS (varM 2) (varM 5))) (M.pure []))))))))
noncomputable def _law_pairs_b1 : EnvD → Out := (ifM _law_pairs_t1 (exprM (appM 3 (frz (tupM (consM (varM 4) (consM (varM 5) (M.pure []))))))) Out.nx)
noncomputable def _law_pairs_b2 : EnvD → Out := (forM (rgM rg2 (consM (frz (op2F addS (varM 4) (M.pure (.int 1)))) (consM (frz (bltM lenS (consM (varM 2) (M.pure [])))) (M.pure [])))) (setFr 5) _law_pairs_b1)
noncomputable def b__law_pairs : EnvD → Out := (seqM (setM 3 (lstM (M.pure []))) (seqM (forM (rgM rg1 (consM (frz (bltM lenS (consM (varM 2) (M.pure [])))) (M.pure []))) (setFr 4) _law_pairs_b2) (retM (movM 3))))
noncomputable def f__law_pairs : List D → Res S := defD 3 6 b__law_pairs
noncomputable def b_are_of_one : EnvD → Out := (retM (fre (op2 eqD (frz (callM f_all_contradictions (consM (varM 0) (consM (varM 1) (consM (varM 2) (M.pure [])))))) (frz (lstM (M.pure []))))))
noncomputable def f_are_of_one : List D → Res S := defD 3 3 b_are_of_one
noncomputable def b_of_one : EnvD → Out := (seqM (exprM (callM f_check_all (consM (varM 0) (consM (varM 1) (consM (varM 2) (M.pure [])))))) (retM (callM f_are_of_one (consM (varM 0) (consM (varM 1) (consM (varM 2) (M.pure [])))))))
noncomputable def f_of_one : List D → Res S := defD 3 3 b_of_one
noncomputable def b_check_time : EnvD → Out := (ifM (notT (tst (frz (callM f_is_between (consM (varM 0) (consM (M.pure (.int 0)) (consM (M.pure (.int 1000000000)) (M.pure [])))))))) (raiseM "InvalidTime") Out.nx)
noncomputable def f_check_time : List D → Res S := defD 1 1 b_check_time
noncomputable def b_check_span : EnvD → Out := (seqM (exprM (callM f_check_time (consM (varM 0) (M.pure [])))) (ifM (notT (tst (frz (callM f_is_between (consM (varM 1) (consM (varM 0) (consM (M.pure (.int 1000000000)) (M.pure [])))))))) (raiseM "InvalidSpan") Out.nx))
noncomputable def f_check_span : List D → Res S := defD 2 2 b_check_span
noncomputable def check_index_t1 : M Bool := (notT (tst (frz (callM f_is_between (consM (varM 1) (consM (M.pure (.int 0)) (consM (op2 subD (frz (bltM lenS (consM (varM 0) (M.pure [])))) (M.pure (.int 1))) (M.pure []))))))))
noncomputable def b_check_index : EnvD → Out := (ifM check_index_t1 (raiseM "InvalidIndex") Out.nx)
noncomputable def f_check_index : List D → Res S := defD 2 2 b_check_index
end Lf

/-! P22: loops by steps; contradictions. -/
namespace Lf
open PySem PySem.Spec PyProof.Rows L2
/-- a loop, by its state and what is left over in other slots -/
theorem loop_fold {α σ J : Type} {enc : α → D} {set : D → EnvD → Option EnvD} {body : EnvD → Out} (E : σ → J → EnvD) (step : σ → α → σ) (I : σ → Prop) : ∀ (l : List α), (∀ a ∈ l, ∀ st j, I st → ∃ ρ1 j', set (enc a) (E st j) = some ρ1 ∧ (body ρ1 = .nx (E (step st a) j') ∨ body ρ1 = .ct (E (step st a) j')) ∧ I (step st a)) → ∀ st j, I st → ∃ j', forD set body (l.map enc) (E st j) = .nx (E (l.foldl step st) j') ∧ I (l.foldl step st)
  | [], _, st, j, hI => ⟨j, rfl, hI⟩
  | a :: l, h, st, j, hI => by
    obtain ⟨ρ1, j1, e1, e2, h2⟩ := h a List.mem_cons_self st j hI
    obtain ⟨j', e3, h3⟩ := loop_fold E step I l (fun b hb => h b (List.mem_cons_of_mem _ hb)) _ j1 h2
    refine ⟨j', ?_, h3⟩
    rw [List.map_cons]
    unfold forD
    rw [e1]
    rcases e2 with e2 | e2 <;> simp only [e2] <;> exact e3
theorem foldl_app {α β : Type} (p : α → Bool) (g : α → β) : ∀ (l : List α) (F : List β), l.foldl (fun F a => if p a = true then F ++ [g a] else F) F = F ++ (l.filter p).map g
  | [], F => by simp
  | a :: l, F => by
    rw [List.foldl_cons, foldl_app p g l]
    cases hp : p a
    · simp [hp]
    · simp [hp]
/-- a loop that appends what fits -/
theorem loop_app {α β J : Type} {enc : α → D} {set : D → EnvD → Option EnvD} {body : EnvD → Out} (E : List β → J → EnvD) (p : α → Bool) (g : α → β) {N : Nat} {l : List α} (h : ∀ a ∈ l, ∀ F j, F.length < N → ∃ ρ1 j', set (enc a) (E F j) = some ρ1 ∧ body ρ1 = .nx (E (if p a = true then F ++ [g a] else F) j')) {F : List β} {j : J} (hN : F.length + l.length ≤ N) :
    ∃ j', forD set body (l.map enc) (E F j) = .nx (E (F ++ (l.filter p).map g) j') := by
  induction l generalizing F j with
  | nil => exact ⟨j, by simp [forD]⟩
  | cons a l ih =>
    rw [List.length_cons] at hN
    obtain ⟨ρ1, j1, e1, e2⟩ := h a List.mem_cons_self F j (by omega)
    have hl : (if p a = true then F ++ [g a] else F).length ≤ F.length + 1 := by split <;> simp
    obtain ⟨j', e3⟩ := ih (fun b hb => h b (List.mem_cons_of_mem _ hb)) (F := if p a = true then F ++ [g a] else F) (j := j1) (by omega)
    refine ⟨j', ?_⟩
    rw [List.map_cons]
    unfold forD
    rw [e1]
    simp only [e2]
    rw [e3]
    cases hp : p a <;> simp [hp]
/-- ints from lo on -/
def rngF (lo : Int) (n : Nat) : List Int := (List.range n).map fun (i : Nat) => lo + i
theorem rangeD_rngF (lo : Int) (n : Nat) : rangeD lo n = (rngF lo n).map .int := by
  unfold rangeD rngF
  rw [List.map_map]; rfl
theorem rngF_mem {lo : Int} {n : Nat} {a : Int} : a ∈ rngF lo n ↔ lo ≤ a ∧ a < lo + n := by
  unfold rngF
  rw [List.mem_map]
  constructor
  · rintro ⟨i, hi, rfl⟩; rw [List.mem_range] at hi; omega
  · rintro ⟨h0, h1⟩; exact ⟨(a - lo).toNat, List.mem_range.mpr (by omega), by omega⟩
@[simp] theorem rngF_len (lo : Int) (n : Nat) : (rngF lo n).length = n := by simp [rngF]
/-- a list of pairs as data -/
def edsL (es : List Ed) : D := .list (es.map edD)
@[simp] theorem isLO_edsL (es : List Ed) : isLO (edsL es) = some () := (Eq.refl _).trans (Eq.refl _)
theorem appD_edsL {es : List Ed} {a b : Int} (h : es.length < 16777216) : appD (.tuple [.int a, .int b]) (edsL es) = some (edsL (es ++ [(a, b)])) := by
  have hz : ltM ((es.map edD).length + 1) = true := ltM_of (by rw [List.length_map]; omega)
  unfold appD edsL
  simp only [hz, if_true, List.map_append]
  rfl
theorem eqvAll_eds : ∀ a b : List Ed, PyData.eqvAll (a.map edD) (b.map edD) = decide (a = b)
  | [], [] => by simp
  | [], _ :: _ => by simp
  | _ :: _, [] => by simp
  | x :: a, y :: b => by
    have h1 : PyData.eqv (edD x) (edD y) = decide (x = y) := by
      unfold edD
      rw [eqv_tuple_tuple]
      have := eqvAll_ints [x.1, x.2] [y.1, y.2]
      simp only [List.map_cons, List.map_nil] at this
      rw [this]
      have h2 : ([x.1, x.2] = [y.1, y.2]) ↔ x = y := by simp [Prod.ext_iff]
      simp [h2]
    simp only [List.map_cons, eqvA_cons, h1, eqvAll_eds a b, List.cons.injEq, Bool.decide_and]
@[simp] theorem shaped_edsL (es : List Ed) : SeqAt.shaped (edsL es) = true := (Shp.list (n := 1) fun d hd => by
  obtain ⟨e, _, rfl⟩ := List.mem_map.mp hd
  exact Shp.tup fun y hy => by
    simp at hy
    rcases hy with rfl | rfl <;> exact Shp.int _ _ : Shp 2 (edsL es)).shaped
@[simp] theorem eqv_edsL (a b : List Ed) : PyData.eqv (edsL a) (edsL b) = decide (a = b) := by
  unfold edsL
  rw [eqv_list_list, eqvAll_eds]
@[simp] theorem eqv_edsL_nil (a : List Ed) : PyData.eqv (edsL a) (.list []) = decide (a = []) := eqv_edsL a []
theorem Sm.edsL {l : List Ed} (h : l.length ≤ 1000000) (n : Nat) : Sm (n + 2) (edsL l) := .list (by rw [List.length_map]; exact h) fun d hd => by
  obtain ⟨e, _, rfl⟩ := List.mem_map.mp hd
  exact .tup (by simp) fun y hy => by
    simp at hy
    rcases hy with rfl | rfl <;> exact .int _
/-! ### sightings, one by one -/
@[simp] theorem lenS_sgs (Z : List Sg) : lenS [sgsD Z] = some (.fr (.int Z.length)) := by simp [sgsD]
@[simp] theorem seqD_sgs (Z : List Sg) : seqD (sgsD Z) = some (Z.map sgD) := by simp [sgsD]
@[simp] theorem itemS_sg0 (s : Sg) : itemS (sgD s) (.int 0) = some (.fr (.int s.1)) := (Eq.refl _).trans (Eq.refl _)
@[simp] theorem itemS_sg1 (s : Sg) : itemS (sgD s) (.int 1) = some (.fr (.int s.2.1)) := (Eq.refl _).trans (Eq.refl _)
@[simp] theorem itemS_sg2 (s : Sg) : itemS (sgD s) (.int 2) = some (.fr (.int s.2.2)) := (Eq.refl _).trans (Eq.refl _)
def sg0 : Sg := (0, 0, 0)
def sAt (Z : List Sg) (i : Int) : Sg := Z.getD i.toNat sg0
theorem itemS_sgs {Z : List Sg} {i : Int} (h0 : 0 ≤ i) (h1 : i < Z.length) : itemS (sgsD Z) (.int i) = some (.fr (sgD (sAt Z i))) := by
  have hn : i.toNat < Z.length := by omega
  unfold sgsD
  rw [itemS_t, atI_of (j := i.toNat) (by rw [List.length_map]; exact ixN_of h0 h1), List.getElem?_map, List.getElem?_eq_getElem hn]
  simp [sAt, List.getD, hn]
theorem absS_ab (i : Int) : absS [.int i] = some (.fr (.int (abI i))) := absS_i i
theorem cMul_small {v : Int} (h0 : 0 ≤ v) (h1 : v ≤ 1000000000) (i : Int) : cMul v i = true := by simp [cMul]; omega
section
variable {n : Nat} {es : List Ed} {d : Int → Int → Int} (w : Nw n es d) {v : Int} (v0 : 0 ≤ v) (v1 : v ≤ 1000000000)
include w v0 v1
theorem contradict_eq {a b : Sg} (ha : Vn n a.2.1) (hb : Vn n b.2.1) : f_contradict [netD es, .int v, sgD a, sgD b] = .ok (.fr (.bool (clash d v a b))) := by
  have hm := cMul_small v0 v1
  unfold f_contradict b_contradict contradict_s1 contradict_s2
  simp [w.dists ha, itemS_row hb, absS_ab, hm, clash, -absS_i]
omit w in
theorem law_clash_eq {a b : Sg} (ha : Vn n a.2.1) (hb : Vn n b.2.1) : f__law_clash [farD n d, .int v, sgD a, sgD b] = .ok (.fr (.bool (clash d v a b))) := by
  have hm := cMul_small v0 v1
  unfold f__law_clash b__law_clash _law_clash_s1 _law_clash_s2
  simp [itemS_farD ha, itemS_row hb, absS_ab, hm, clash, -absS_i]
end
/-- the pairs that begin with index i -/
def prAt (cl : Sg → Sg → Bool) (Z : List Sg) (i : Int) : List Ed := ((rngF (i + 1) (Z.length - (i + 1) : Int).toNat).filter fun j => cl (sAt Z i) (sAt Z j)).map fun j => (i, j)
/-- all pairs that clash -/
def allP (cl : Sg → Sg → Bool) (Z : List Sg) : List Ed := (rng Z.length).flatMap (prAt cl Z)
theorem prAt_len (cl : Sg → Sg → Bool) (Z : List Sg) (i : Int) (h : 0 ≤ i) : (prAt cl Z i).length ≤ Z.length := by
  unfold prAt
  rw [List.length_map]
  have := List.length_filter_le (fun j : Int => cl (sAt Z i) (sAt Z j)) (rngF (i + 1) (Z.length - (i + 1) : Int).toNat)
  rw [rngF_len] at this
  omega
theorem flat_take {α : Type} {f : Int → List α} {n i : Nat} (h : i < n) : ((rng n).take (i + 1)).flatMap f = ((rng n).take i).flatMap f ++ f i := by
  rw [List.take_succ, rng_get h, List.flatMap_append]
  simp
theorem flat_len {α : Type} {f : Int → List α} {b : Nat} : ∀ (l : List Int), (∀ x ∈ l, (f x).length ≤ b) → (l.flatMap f).length ≤ l.length * b
  | [], _ => by simp
  | a :: l, h => by
    have h1 := h a List.mem_cons_self
    have h2 := flat_len l fun x hx => h x (List.mem_cons_of_mem _ hx)
    rw [List.flatMap_cons, List.length_append, List.length_cons, Nat.succ_mul]
    omega
theorem allP_len (cl : Sg → Sg → Bool) (Z : List Sg) : (allP cl Z).length ≤ Z.length * Z.length := by
  have := flat_len (f := prAt cl Z) (b := Z.length) (rng Z.length) fun x hx => prAt_len cl Z x (rng_mem.mp hx).1
  rw [rng_len] at this
  exact this
theorem allP_part (cl : Sg → Sg → Bool) {Z : List Sg} {i : Nat} (h : i ≤ Z.length) : (((rng Z.length).take i).flatMap (prAt cl Z)).length ≤ Z.length * Z.length := by
  have := flat_len (f := prAt cl Z) (b := Z.length) ((rng Z.length).take i) fun x hx => prAt_len cl Z x (rng_mem.mp (List.mem_of_mem_take hx)).1
  rw [List.length_take, rng_len] at this
  exact Nat.le_trans this (Nat.mul_le_mul_right _ (by omega))
theorem allP_nil {cl : Sg → Sg → Bool} {Z : List Sg} : allP cl Z = [] ↔ Z.Pairwise fun a b => cl a b = false := by
  unfold allP
  rw [List.flatMap_eq_nil_iff, List.pairwise_iff_getElem]
  constructor
  · intro h i j hi hj hij
    have := h (i : Int) (rng_mem.mpr ⟨by omega, by omega⟩)
    unfold prAt at this
    rw [List.map_eq_nil_iff, List.filter_eq_nil_iff] at this
    have := this (j : Int) (rngF_mem.mpr ⟨by omega, by omega⟩)
    simp [sAt, List.getD, hi, hj] at this
    simpa using this
  · intro h x hx
    have hx := rng_mem.mp hx
    unfold prAt
    rw [List.map_eq_nil_iff, List.filter_eq_nil_iff]
    intro y hy
    have hy := rngF_mem.mp hy
    have hi : x.toNat < Z.length := by omega
    have hj : y.toNat < Z.length := by omega
    have := h x.toNat y.toNat hi hj (by omega)
    simp [sAt, List.getD, hi, hj, this]
theorem compat_pw {d : Int → Int → Int} {v : Int} : ∀ {Z : List Sg}, compat d v Z = true ↔ Z.Pairwise fun a b => clash d v a b = false
  | [] => by simp [compat]
  | a :: Z => by
    unfold compat
    rw [Bool.and_eq_true, compat_pw, List.pairwise_cons, List.all_eq_true]
    simp
theorem allP_compat {d : Int → Int → Int} {v : Int} {Z : List Sg} : decide (allP (clash d v) Z = []) = compat d v Z := by
  rw [Bool.eq_iff_iff, decide_eq_true_eq, allP_nil, compat_pw]
theorem enum_typed {α : Type} (enc : α → D) (df : α) (l : List α) : enumFrom 0 (l.map enc) = (rng l.length).map fun i => .tuple [.int i, enc (l.getD i.toNat df)] := by
  have : ∀ (l : List α) (k : Nat), enumFrom k (l.map enc) = ((List.range l.length).map fun (i : Nat) => PyData.tuple [.int ((k + i : Nat) : Int), enc (l.getD i df)]) := by
    intro l
    induction l with
    | nil => intro k; rfl
    | cons a l ih =>
      intro k
      rw [List.map_cons]
      unfold enumFrom
      rw [ih (k + 1), List.length_cons, List.range_succ_eq_map, List.map_cons, List.map_map]
      congr 1
      refine List.map_congr_left fun i _ => ?_
      simp only [Function.comp]
      congr 3
      omega
  rw [this l 0]
  unfold rng
  rw [List.map_map]
  refine List.map_congr_left fun i _ => ?_
  simp
theorem rg2_of {i j : Int} {m : Nat} (h : (j - i).toNat = m) (h0 : -1000000000000 ≤ i) (h1 : i ≤ 1000000000000) (h2 : -1000000000000 ≤ j) (h3 : j ≤ 1000000000000) : rg2 [.int i, .int j] = some ((rngF i m).map .int) := by
  unfold rg2
  dsimp only
  rw [if_pos ⟨rgB_of h0 h1, rgB_of h2 h3⟩, rangeD_rngF, h]
/-- sightings upon places, not too many -/
structure SgL (n : Nat) (Z : List Sg) : Prop where
  p : ∀ z ∈ Z, Vn n z.2.1
  l : Z.length ≤ 1000
theorem SgL.at_ {n : Nat} {Z : List Sg} (h : SgL n Z) {i : Int} (h0 : 0 ≤ i) (h1 : i < Z.length) : Vn n (sAt Z i).2.1 := by
  have hn : i.toNat < Z.length := by omega
  have : sAt Z i = Z[i.toNat] := by simp [sAt, List.getD, hn]
  rw [this]; exact h.p _ (List.getElem_mem hn)
section
variable {n : Nat} {es : List Ed} {d : Int → Int → Int} (w : Nw n es d) {v : Int} (v0 : 0 ≤ v) (v1 : v ≤ 1000000000) {Z : List Sg} (hZ : SgL n Z)
include v0 v1 hZ
theorem law_pairs_eq : f__law_pairs [farD n d, .int v, sgsD Z] = .ok (.ow (edsL (allP (clash d v) Z))) := by
  have hl := hZ.l
  have sq : Z.length * Z.length ≤ 1000000 := Nat.mul_le_mul hl hl
  have inner : ∀ (i : Int) (F : List Ed) (j : Option S), 0 ≤ i → i < Z.length → F.length ≤ 1000000 → ∃ j', _law_pairs_b2 [some (.fr (farD n d)), some (.fr (.int v)), some (.fr (sgsD Z)), some (.ow (edsL F)), some (.fr (.int i)), j] = .nx [some (.fr (farD n d)), some (.fr (.int v)), some (.fr (sgsD Z)), some (.ow (edsL (F ++ prAt (clash d v) Z i))), some (.fr (.int i)), j'] := fun i F j i0 i1 hF => by
    obtain ⟨j', e⟩ := loop_app (enc := PyData.int) (set := setFr 5) (body := _law_pairs_b1) (fun F (j : Option S) => [some (.fr (farD n d)), some (.fr (.int v)), some (.fr (sgsD Z)), some (.ow (edsL F)), some (.fr (.int i)), j]) (fun x => clash d v (sAt Z i) (sAt Z x)) (fun x => (i, x)) (N := 2000000) (l := rngF (i + 1) (Z.length - (i + 1) : Int).toNat) (fun x hx F j hN => by
      have hx := rngF_mem.mp hx
      have hc := law_clash_eq (d := d) v0 v1 (hZ.at_ i0 i1) (hZ.at_ (i := x) (by omega) (by omega))
      have ha := appD_edsL (es := F) (a := i) (b := x) (by omega)
      refine ⟨[some (.fr (farD n d)), some (.fr (.int v)), some (.fr (sgsD Z)), some (.ow (edsL F)), some (.fr (.int i)), some (.fr (.int x))], some (.fr (.int x)), by simp, ?_⟩
      unfold _law_pairs_b1 _law_pairs_t1
      cases q : clash d v (sAt Z i) (sAt Z x)
      · rw [q] at hc
        simp [itemS_sgs i0 i1, itemS_sgs (show 0 ≤ x by omega) (show x < Z.length by omega), hc]
      · rw [q] at hc
        simp [itemS_sgs i0 i1, itemS_sgs (show 0 ≤ x by omega) (show x < Z.length by omega), hc, ha]) (F := F) (j := j) (by rw [rngF_len]; omega)
    refine ⟨j', ?_⟩
    have hrg := rg2_of (i := i + 1) (j := Z.length) (m := (Z.length - (i + 1) : Int).toNat) rfl (by omega) (by omega) (by omega) (by omega)
    unfold _law_pairs_b2
    simp [hrg, e, prAt]
  obtain ⟨ρ', e, j4, j5, rfl⟩ := forD_inv (set := setFr 4) (body := _law_pairs_b2) (fun i ρ => ∃ j4 j5, ρ = [some (.fr (farD n d)), some (.fr (.int v)), some (.fr (sgsD Z)), some (.ow (edsL (((rng Z.length).take i).flatMap (prAt (clash d v) Z)))), j4, j5]) (ds := (rng Z.length).map .int) (k := 0) (ρ := [some (.fr (farD n d)), some (.fr (.int v)), some (.fr (sgsD Z)), some (.ow (edsL [])), none, none]) (by
    rintro i dd ρ hd ⟨j4, j5, rfl⟩
    rw [Nat.zero_add]
    have hi : i < Z.length := by have := (List.getElem?_eq_some_iff.mp hd).1; simpa using this
    rw [List.getElem?_map, rng_get hi] at hd
    obtain rfl := Option.some.inj hd
    obtain ⟨j', e⟩ := inner i _ j5 (by omega) (by omega) (Nat.le_trans (allP_part (clash d v) (i := i) (by omega)) sq)
    rw [← flat_take hi] at e
    exact ⟨_, _, by simp, .inl e, _, _, rfl⟩) ⟨none, none, rfl⟩
  rw [List.length_map, rng_len, Nat.zero_add, List.take_of_length_le (by simp)] at e
  have hrg := rng_rg1 (n := Z.length) (by omega)
  have h0 : (PyData.list [] : D) = edsL [] := rfl
  unfold f__law_pairs b__law_pairs
  simp [hrg, h0, e, allP]
include w
theorem all_contradictions_eq : f_all_contradictions [netD es, .int v, sgsD Z] = .ok (.ow (edsL (allP (clash d v) Z))) := by
  have hl := hZ.l
  have sq : Z.length * Z.length ≤ 1000000 := Nat.mul_le_mul hl hl
  have inner : ∀ (i : Int) (F : List Ed) (j : Option S), 0 ≤ i → i < Z.length → F.length ≤ 1000000 → ∃ j', all_contradictions_b2 [some (.fr (netD es)), some (.fr (.int v)), some (.fr (sgsD Z)), some (.ow (edsL F)), some (.fr (.int i)), some (.fr (sgD (sAt Z i))), j] = .nx [some (.fr (netD es)), some (.fr (.int v)), some (.fr (sgsD Z)), some (.ow (edsL (F ++ prAt (clash d v) Z i))), some (.fr (.int i)), some (.fr (sgD (sAt Z i))), j'] := fun i F j i0 i1 hF => by
    obtain ⟨j', e⟩ := loop_app (enc := PyData.int) (set := setFr 6) (body := all_contradictions_b1) (fun F (j : Option S) => [some (.fr (netD es)), some (.fr (.int v)), some (.fr (sgsD Z)), some (.ow (edsL F)), some (.fr (.int i)), some (.fr (sgD (sAt Z i))), j]) (fun x => clash d v (sAt Z i) (sAt Z x)) (fun x => (i, x)) (N := 2000000) (l := rngF (i + 1) (Z.length - (i + 1) : Int).toNat) (fun x hx F j hN => by
      have hx := rngF_mem.mp hx
      have hc := contradict_eq w v0 v1 (hZ.at_ i0 i1) (hZ.at_ (i := x) (by omega) (by omega))
      have ha := appD_edsL (es := F) (a := i) (b := x) (by omega)
      refine ⟨[some (.fr (netD es)), some (.fr (.int v)), some (.fr (sgsD Z)), some (.ow (edsL F)), some (.fr (.int i)), some (.fr (sgD (sAt Z i))), some (.fr (.int x))], some (.fr (.int x)), by simp, ?_⟩
      unfold all_contradictions_b1
      cases q : clash d v (sAt Z i) (sAt Z x)
      · rw [q] at hc
        simp [itemS_sgs (show 0 ≤ x by omega) (show x < Z.length by omega), hc]
      · rw [q] at hc
        simp [itemS_sgs (show 0 ≤ x by omega) (show x < Z.length by omega), hc, ha]) (F := F) (j := j) (by rw [rngF_len]; omega)
    refine ⟨j', ?_⟩
    have hrg := rg2_of (i := i + 1) (j := Z.length) (m := (Z.length - (i + 1) : Int).toNat) rfl (by omega) (by omega) (by omega) (by omega)
    unfold all_contradictions_b2
    simp [hrg, e, prAt]
  obtain ⟨ρ', e, j4, j5, j6, rfl⟩ := forD_inv (set := gTupD 2 (gsCons (setFr 4) (gsCons (setFr 5) gsNil))) (body := all_contradictions_b2) (fun i ρ => ∃ j4 j5 j6, ρ = [some (.fr (netD es)), some (.fr (.int v)), some (.fr (sgsD Z)), some (.ow (edsL (((rng Z.length).take i).flatMap (prAt (clash d v) Z)))), j4, j5, j6]) (ds := (rng Z.length).map fun i => .tuple [.int i, sgD (sAt Z i)]) (k := 0) (ρ := [some (.fr (netD es)), some (.fr (.int v)), some (.fr (sgsD Z)), some (.ow (edsL [])), none, none, none]) (by
    rintro i dd ρ hd ⟨j4, j5, j6, rfl⟩
    rw [Nat.zero_add]
    have hi : i < Z.length := by have := (List.getElem?_eq_some_iff.mp hd).1; simpa using this
    rw [List.getElem?_map, rng_get hi] at hd
    obtain rfl := Option.some.inj hd
    obtain ⟨j', e⟩ := inner i _ j6 (by omega) (by omega) (Nat.le_trans (allP_part (clash d v) (i := i) (by omega)) sq)
    rw [← flat_take hi] at e
    exact ⟨_, _, by simp, .inl e, _, _, _, rfl⟩) ⟨none, none, none, rfl⟩
  rw [List.length_map, rng_len, Nat.zero_add, List.take_of_length_le (by simp)] at e
  have hen : enumO [sgsD Z] = some ((rng Z.length).map fun i => .tuple [.int i, sgD (sAt Z i)]) := by
    show some (enumFrom 0 (Z.map sgD)) = _
    rw [enum_typed sgD sg0]; rfl
  have h0 : (PyData.list [] : D) = edsL [] := rfl
  unfold f_all_contradictions b_all_contradictions
  simp [hen, h0, e, allP]
theorem are_of_one_eq : f_are_of_one [netD es, .int v, sgsD Z] = .ok (.fr (.bool (compat d v Z))) := by
  have h := all_contradictions_eq w v0 v1 hZ
  unfold f_are_of_one b_are_of_one
  simp [h, allP_compat]
end
end Lf

/-! P23: the checks; contradictions, of_one. -/
namespace Lf
open PySem PySem.Spec PyProof.Rows L2
/-- sightings as the program has them -/
structure SgOk (n : Nat) (Z : List Sg) : Prop where
  b : ∀ z ∈ Z, SgB n 1000000000 100 z
  l : Z.length ≤ 12
theorem SgOk.L {n : Nat} {Z : List Sg} (h : SgOk n Z) : SgL n Z := ⟨fun z hz => (h.b z hz).p, by have := h.l; omega⟩
theorem SgOk.ok {n : Nat} {Z : List Sg} (h : SgOk n Z) : ∀ z ∈ Z, sgOk (Vn n) z := fun z hz => ⟨(h.b z hz).p, (h.b z hz).r0⟩
theorem Shp.sgs (k : Nat) (Z : List Sg) : Shp (k + 2) (sgsD Z) := Shp.tup fun x hx => by
  obtain ⟨e, _, rfl⟩ := List.mem_map.mp hx
  exact Shp.tup fun y hy => by
    simp at hy
    rcases hy with rfl | rfl | rfl <;> exact Shp.int _ _
theorem sgsV_ok {n : Nat} {Z : List Sg} (h : SgOk n Z) {last : Int} (hl : last + 1 = n) : sgsV last (sgsD Z) = true := by
  unfold sgsV sgsD
  simp only [List.length_map, Bool.and_eq_true, decide_eq_true_eq, List.all_map, List.all_eq_true, Function.comp]
  refine ⟨h.l, fun z hz => ?_⟩
  obtain ⟨h1, h2, h3, h4, h5⟩ := h.b z hz
  have := h3.1
  have := h3.2
  unfold sgD sgV
  simp only [isZ_i, Bool.and_eq_true, decide_eq_true_eq]
  omega
theorem check_sightings_eq {es : List Ed} {v : D} (h : Shp 6 v) : f_check_sightings [netD es, v] = if sgsV es.length v = true then .ok (.fr .none) else .exc "InvalidSightings" := by
  have := are_sightings_eq (es := es) h
  unfold f_check_sightings b_check_sightings
  cases q : sgsV es.length v <;> simp [this, q]
theorem check_time_eq {v : D} (h : nDct v = true) : f_check_time [v] = if isZ 0 1000000000 v = true then .ok (.fr .none) else .exc "InvalidTime" := by
  have := is_between_eq 0 1000000000 h
  unfold f_check_time b_check_time
  cases q : isZ 0 1000000000 v <;> simp [this, q]
theorem check_time_ok {t : Int} (h0 : 0 ≤ t) (h1 : t ≤ 1000000000) : f_check_time [.int t] = .ok (.fr .none) := by
  rw [check_time_eq rfl, isZ_i, if_pos (by simp; omega)]
theorem check_span_eq {t : Int} (h0 : 0 ≤ t) (h1 : t ≤ 1000000000) {v : D} (h : nDct v = true) : f_check_span [.int t, v] = if isZ t 1000000000 v = true then .ok (.fr .none) else .exc "InvalidSpan" := by
  have := is_between_eq t 1000000000 h
  unfold f_check_span b_check_span
  cases q : isZ t 1000000000 v <;> simp [check_time_ok h0 h1, this, q]
theorem check_span_ok {t u : Int} (h0 : 0 ≤ t) (h1 : t ≤ u) (h2 : u ≤ 1000000000) : f_check_span [.int t, .int u] = .ok (.fr .none) := by
  rw [check_span_eq h0 (by omega) rfl, isZ_i, if_pos (by simp; omega)]
theorem check_index_eq {Z : List Sg} {v : D} (h : nDct v = true) : f_check_index [sgsD Z, v] = if isZ 0 ((Z.length : Int) - 1) v = true then .ok (.fr .none) else .exc "InvalidIndex" := by
  have := is_between_eq 0 ((Z.length : Int) - 1) h
  unfold f_check_index b_check_index check_index_t1
  cases q : isZ 0 ((Z.length : Int) - 1) v <;> simp [this, q]
theorem check_index_ok {Z : List Sg} {i : Int} (h0 : 0 ≤ i) (h1 : i < Z.length) : f_check_index [sgsD Z, .int i] = .ok (.fr .none) := by
  rw [check_index_eq rfl, isZ_i, if_pos (by simp; omega)]
section
variable {n : Nat} {es : List Ed} {d : Int → Int → Int} (w : Nw n es d)
include w
theorem Nw.esl : (es.length : Int) + 1 = n := by have := w.tr.len; omega
theorem check_speed_eq {v : D} (h : nDct v = true) : f_check_speed [netD es, v] = if isZ 1 10 v = true then .ok (.fr .none) else .exc "InvalidSpeed" := by
  have := is_between_eq 1 10 h
  unfold f_check_speed b_check_speed
  cases q : isZ 1 10 v <;> simp [w.chk, this, q]
theorem check_speed_ok {v : Int} (v0 : 1 ≤ v) (v1 : v ≤ 10) : f_check_speed [netD es, .int v] = .ok (.fr .none) := by
  rw [check_speed_eq w rfl, isZ_i, if_pos (by simp; omega)]
theorem check_sightings_ok {Z : List Sg} (hZ : SgOk n Z) : f_check_sightings [netD es, sgsD Z] = .ok (.fr .none) := by
  rw [check_sightings_eq (Shp.sgs 4 Z), if_pos (sgsV_ok hZ w.esl)]
variable {v : Int} (v0 : 1 ≤ v) (v1 : v ≤ 10) {Z : List Sg} (hZ : SgOk n Z)
include v0 v1 hZ
theorem check_all_ok : f_check_all [netD es, .int v, sgsD Z] = .ok (.fr .none) := by
  unfold f_check_all b_check_all
  simp [check_speed_ok w v0 v1, check_sightings_ok w hZ]
theorem contradictions_eq : f_contradictions [netD es, .int v, sgsD Z] = .ok (.ow (edsL (allP (clash d v) Z))) := by
  have := all_contradictions_eq w (v := v) (by omega) (by omega) hZ.L
  unfold f_contradictions b_contradictions
  simp [check_all_ok w v0 v1 hZ, this]
theorem of_one_eq : f_of_one [netD es, .int v, sgsD Z] = .ok (.fr (.bool (compat d v Z))) := by
  have := are_of_one_eq w (v := v) (by omega) (by omega) hZ.L
  unfold f_of_one b_of_one
  simp [check_all_ok w v0 v1 hZ, this]
end
end Lf

/-! F: the lifted functions of all laws (printed by gen2.py). -/
namespace Lf
open PySem PySem.Spec PyProof.Rows L2
noncomputable def _law_layers_s1 : M S := (fre (frz (op2F addS (frz (compM (seqM' (varM 2)) [18] (setFr 18) yesM (frz (op2F itemS (varM 18) (M.pure (.int 0)))))) (frz (lstM (consM (varM 3) (consM (varM 4) (M.pure []))))))))
noncomputable def _law_layers_c1 : M Bool := (tst (op2 leI (frz (op2F itemS (frz (op2F itemS (varM 0) (varM 13))) (varM 18))) (varM 14)))
noncomputable def _law_layers_b1 : EnvD → Out := (ifM (tst (op2 eqD (varM 12) (varM 10))) (setM 11 (fre (frz (compM (seqM' (varM 11)) [18] (setFr 18) _law_layers_c1 (varM 18))))) Out.nx)
noncomputable def _law_layers_b2 : EnvD → Out := (seqM (setM 11 (fre (frz (lrg1M (varM 8))))) (seqM (forM (seqM' (varM 2)) (gTupD 3 (gsCons (setFr 12) (gsCons (setFr 13) (gsCons (setFr 14) gsNil)))) _law_layers_b1) (exprM (appM 9 (varM 11)))))
noncomputable def _law_layers_c2 : M Bool := (tst (op2 leI (frz (op2F itemS (frz (op2F itemS (varM 0) (varM 19))) (varM 18))) (varM 1)))
noncomputable def _law_layers_c3 : M Bool := (tst (op2 neD (frz (compM (seqM' (varM 16)) [19] (setFr 19) _law_layers_c2 (M.pure (.int 1)))) (frz (lstM (M.pure [])))))
noncomputable def _law_layers_b3 : EnvD → Out := (seqM (setM 16 (fre (frz (op2V 9 itemS (op2 subD (varM 15) (M.pure (.int 1))))))) (stM 9 (frz (compM (seqM' (frz (op2V 9 itemS (varM 15)))) [18] (setFr 18) _law_layers_c3 (varM 18))) (varM 15)))
noncomputable def _law_layers_c4 : M Bool := (tst (op2 leI (frz (op2F itemS (frz (op2F itemS (varM 0) (varM 18))) (varM 19))) (varM 1)))
noncomputable def _law_layers_c5 : M Bool := (tst (op2 neD (frz (compM (seqM' (varM 17)) [19] (setFr 19) _law_layers_c4 (M.pure (.int 1)))) (frz (lstM (M.pure [])))))
noncomputable def _law_layers_b4 : EnvD → Out := (seqM (setM 17 (fre (frz (op2V 9 itemS (frz (op2F addS (varM 15) (M.pure (.int 1)))))))) (stM 9 (frz (compM (seqM' (frz (op2V 9 itemS (varM 15)))) [18] (setFr 18) _law_layers_c5 (varM 18))) (varM 15)))
noncomputable def b__law_layers : EnvD → Out := (seqM (setM 5 _law_layers_s1) (seqM (parM [6, 7, 8] (consF (fre (frz (bltM minLS (consM (varM 5) (M.pure []))))) (consF (fre (frz (bltM maxLS (consM (varM 5) (M.pure []))))) (consF (fre (frz (bltM lenS (consM (varM 0) (M.pure []))))) (M.pure []))))) (seqM (setM 9 (lstM (M.pure []))) (seqM (forM (rgM rg2 (consM (varM 6) (consM (frz (op2F addS (varM 7) (M.pure (.int 1)))) (M.pure [])))) (setFr 10) _law_layers_b2) (seqM (forM (rgM rg2 (consM (M.pure (.int 1)) (consM (frz (bltV 9 lenS)) (M.pure [])))) (setFr 15) _law_layers_b3) (seqM (forM (rgM rg3 (consM (op2 subD (frz (bltV 9 lenS)) (M.pure (.int 2))) (consM (negD (M.pure (.int 1))) (consM (negD (M.pure (.int 1))) (M.pure []))))) (setFr 15) _law_layers_b4) (retM (sliceV 9 (loM (op2 subD (varM 3) (varM 6))) (loM (frz (op2F addS (op2 subD (varM 4) (varM 6)) (M.pure (.int 1)))))))))))))
noncomputable def f__law_layers : List D → Res S := defD 5 20 b__law_layers
noncomputable def places_by_c1 : M Bool := (tst (op2 leI (frz (op2F itemS (varM 7) (varM 8))) (frz (op2F addS (varM 6) (frz (op2F mulS (varM 1) (frz (bltM absS (consM (op2 subD (varM 3) (varM 5)) (M.pure []))))))))))
noncomputable def places_by_b1 : EnvD → Out := (setM 4 (compM (seqM' (varM 4)) [8] (setFr 8) places_by_c1 (varM 8)))
noncomputable def b_places_by : EnvD → Out := (seqM (ifM (tst (op2 (isN true) (varM 2) (M.pure .none))) (retM (lstM (M.pure []))) Out.nx) (seqM (setM 4 (lrg1M (frz (op2F addS (frz (bltM lenS (consM (varM 0) (M.pure [])))) (M.pure (.int 1)))))) (seqM (forM (seqM' (varM 2)) (gTupD 3 (gsCons (setFr 5) (gsCons (setFr 6) (gsCons (setFr 7) gsNil)))) places_by_b1) (retM (movM 4)))))
noncomputable def f_places_by : List D → Res S := defD 4 9 b_places_by
noncomputable def rows_for_e1 : M D := (frz (tupM (consM (varM 3) (consM (varM 5) (consM (frz (callM f_distances_from (consM (varM 0) (consM (varM 4) (M.pure []))))) (M.pure []))))))
noncomputable def b_rows_for : EnvD → Out := (seqM (ifM (notT (tst (frz (callM f_are_of_one (consM (varM 0) (consM (varM 1) (consM (varM 2) (M.pure [])))))))) (retM (fre (M.pure .none))) Out.nx) (retM (compM (seqM' (varM 2)) [3, 4, 5] (gTupD 3 (gsCons (setFr 3) (gsCons (setFr 4) (gsCons (setFr 5) gsNil)))) yesM rows_for_e1)))
noncomputable def f_rows_for : List D → Res S := defD 3 6 b_rows_for
noncomputable def places_of_s1 : M S := (callM f_places_by (consM (varM 0) (consM (varM 1) (consM (frz (callM f_rows_for (consM (varM 0) (consM (varM 1) (consM (varM 2) (M.pure [])))))) (consM (varM 3) (M.pure []))))))
noncomputable def b_places_of : EnvD → Out := (retM places_of_s1)
noncomputable def f_places_of : List D → Res S := defD 4 4 b_places_of
noncomputable def b_places_at : EnvD → Out := (seqM (exprM (callM f_check_all (consM (varM 0) (consM (varM 1) (consM (varM 2) (M.pure [])))))) (seqM (exprM (callM f_check_time (consM (varM 3) (M.pure [])))) (retM (callM f_places_of (consM (varM 0) (consM (varM 1) (consM (varM 2) (consM (varM 3) (M.pure [])))))))))
noncomputable def f_places_at : List D → Res S := defD 4 4 b_places_at
noncomputable def _law_connected_c1 : M Bool := (andT (tst (op2 inD (frz (op2F itemS (varM 3) (M.pure (.int 0)))) (varM 1))) (tst (op2 inD (frz (op2F itemS (varM 3) (M.pure (.int 1)))) (varM 1))))
noncomputable def _law_connected_s1 : M S := (fre (orV (op2 eqD (varM 1) (frz (lstM (M.pure [])))) (op2 eqD (frz (bltM lenS (consM (varM 2) (M.pure [])))) (op2 subD (frz (bltM lenS (consM (varM 1) (M.pure [])))) (M.pure (.int 1))))))
noncomputable def b__law_connected : EnvD → Out := (seqM (setM 2 (fre (frz (compM (seqM' (varM 0)) [3] (setFr 3) _law_connected_c1 (varM 3))))) (retM _law_connected_s1))
noncomputable def f__law_connected : List D → Res S := defD 2 4 b__law_connected
noncomputable def all_distances_e1 : M D := (frz (callM f_distances_from (consM (varM 0) (consM (varM 1) (M.pure [])))))
noncomputable def b_all_distances : EnvD → Out := (retM (compM (rgM rg1 (consM (frz (op2F addS (frz (bltM lenS (consM (varM 0) (M.pure [])))) (M.pure (.int 1)))) (M.pure []))) [1] (setFr 1) yesM all_distances_e1))
noncomputable def f_all_distances : List D → Res S := defD 1 2 b_all_distances
noncomputable def layers_e1 : M D := (frz (callM f_places_by (consM (varM 0) (consM (varM 1) (consM (varM 5) (consM (frz (op2F addS (varM 3) (varM 6))) (M.pure [])))))))
noncomputable def b_layers : EnvD → Out := (seqM (setM 5 (fre (frz (callM f_rows_for (consM (varM 0) (consM (varM 1) (consM (varM 2) (M.pure [])))))))) (retM (compM (rgM rg1 (consM (varM 4) (M.pure []))) [6] (setFr 6) yesM layers_e1)))
noncomputable def f_layers : List D → Res S := defD 5 7 b_layers
end Lf

/-! P24: lists of lists of places; _law_layers. -/
namespace Lf
open PySem PySem.Spec PyProof.Rows L2
/-- the places that fit P -/
def plc (n : Nat) (P : Int → Bool) : List Int := (rng n).filter P
theorem plc_len (n : Nat) (P : Int → Bool) : (plc n P).length ≤ n := by
  have := List.length_filter_le P (rng n)
  rwa [rng_len] at this
theorem plc_mem {n : Nat} {P : Int → Bool} {x : Int} : x ∈ plc n P ↔ Vn n x ∧ P x = true := by
  unfold plc
  rw [List.mem_filter, rng_mem]
  rfl
theorem plc_filter (n : Nat) (P Q : Int → Bool) : (plc n P).filter Q = plc n fun x => P x && Q x := by
  unfold plc
  rw [List.filter_filter]
  congr 1
  funext x
  exact Bool.and_comm _ _
theorem plc_congr {n : Nat} {P Q : Int → Bool} (h : ∀ x, Vn n x → P x = Q x) : plc n P = plc n Q := by
  unfold plc
  refine List.filter_congr fun x hx => h x (rng_mem.mp hx)
theorem plc_true (n : Nat) : plc n (fun _ => true) = rng n := List.filter_eq_self.mpr fun _ _ => rfl
/-- a list of lists of places -/
def lvD (n M : Nat) (P : Int → Int → Bool) : D := .list ((rng M).map fun i => lstI (plc n (P i)))
theorem itemS_lv {n M : Nat} {P : Int → Int → Bool} {i : Int} (hi : Vn M i) : itemS (lvD n M P) (.int i) = some (.fr (lstI (plc n (P i)))) := by
  unfold lvD
  rw [itemS_l, row_at hi]; rfl
@[simp] theorem lenS_lv (n M : Nat) (P : Int → Int → Bool) : lenS [lvD n M P] = some (.fr (.int M)) := by simp [lvD]
theorem lv_congr {n M : Nat} {P Q : Int → Int → Bool} (h : ∀ i x, Vn M i → Vn n x → P i x = Q i x) : lvD n M P = lvD n M Q := by
  unfold lvD
  congr 1
  refine List.map_congr_left fun i hi => ?_
  rw [plc_congr fun x hx => h i x (rng_mem.mp hi) hx]
theorem stD_lv {n M : Nat} {P : Int → Int → Bool} {Q : Int → Bool} {i : Int} (hi : Vn M i) : stD (.int i) (lstI (plc n Q)) (lvD n M P) = some (lvD n M fun j => if j = i then Q else P j) := by
  unfold lvD stD
  simp only [List.length_map, rng_len, ixN_of hi.1 hi.2, Option.map_some]
  congr 2
  apply List.ext_getElem?
  intro k
  by_cases hk : k < M
  · have h2 := hi.2
    by_cases e : k = i.toNat
    · subst e
      rw [List.getElem?_set_self (by simpa using hk), List.getElem?_map, rng_get hk]
      have : ((i.toNat : Nat) : Int) = i := by have := hi.1; omega
      simp [this]
    · rw [List.getElem?_set_ne (fun z => e z.symm), List.getElem?_map, List.getElem?_map, rng_get hk]
      have : ¬ ((k : Int) = i) := by omega
      simp [this]
  · rw [List.getElem?_eq_none (by simpa using hk), List.getElem?_eq_none (by simpa using hk)]
theorem rng_succ (n : Nat) : rng (n + 1) = rng n ++ [(n : Int)] := by
  unfold rng
  rw [List.range_succ, List.map_append]; rfl
@[simp] theorem isLO_lv (n M : Nat) (P : Int → Int → Bool) : isLO (lvD n M P) = some () := (Eq.refl _).trans (Eq.refl _)
theorem appD_lv {n M : Nat} {P : Int → Int → Bool} (h : M < 16777216) : appD (lstI (plc n (P M))) (lvD n M P) = some (lvD n (M + 1) P) := by
  unfold lvD appD
  have hz : ltM (((rng M).map fun i => lstI (plc n (P i))).length + 1) = true := ltM_of (by simp; omega)
  simp only [hz, if_true, rng_succ, List.map_append]
  rfl
theorem lv_zero (n : Nat) (P : Int → Int → Bool) : (PyData.list [] : D) = lvD n 0 P := rfl
theorem slice_lv {n M : Nat} {P : Int → Int → Bool} {a b : Nat} (h1 : a ≤ b) (h2 : b ≤ M) : sliceS (lvD n M P) (some (a : Int)) (some (b : Int)) = some (.ow (lvD n (b - a) fun i => P (i + a))) := by
  unfold lvD
  rw [sliceS_l]
  unfold cutD
  simp only [HT.sIx_nat, List.length_map, rng_len]
  simp only [Nat.min_eq_left (show a ≤ M by omega), Nat.min_eq_left h2]
  congr 3
  apply List.ext_getElem?
  intro k
  by_cases hk : k < b - a
  · rw [List.getElem?_take_of_lt hk, List.getElem?_drop, List.getElem?_map, List.getElem?_map, rng_get (by omega), rng_get hk]
    simp only [Option.map_some]
    have : ((a + k : Nat) : Int) = (k : Int) + (a : Int) := by omega
    rw [this]
  · rw [List.getElem?_eq_none (by simp; omega), List.getElem?_eq_none (by simp; omega)]
theorem rangeD_plc (n : Nat) : (PyData.list (rangeD 0 n) : D) = lstI (plc n fun _ => true) := by
  rw [plc_true, rangeD_rng]; rfl
/-- places that fit the sightings of this very time -/
def alw (d : Int → Int → Int) (Z : List Sg) (t x : Int) : Bool := Z.all fun z => !decide (z.1 = t) || decide (d z.2.1 x ≤ z.2.2)
section
variable {n : Nat} {d : Int → Int → Int} {v : Int} {Z : List Sg} (hZ : SgL n Z)
/-- the environment within _law_layers -/
abbrev enY (n : Nat) (d : Int → Int → Int) (v : Int) (Z : List Sg) (a b c e f g al : D) (j10 j11 j12 j13 j14 j15 j16 j17 : Option S) : EnvD :=
  [some (.fr (farD n d)), some (.fr (.int v)), some (.fr (sgsD Z)), some (.fr a), some (.fr b), some (.fr c), some (.fr e), some (.fr f), some (.fr g), some (.ow al), j10, j11, j12, j13, j14, j15, j16, j17, none, none]
include hZ
theorem layers_b2 (hn : n ≤ 1000) {a b c e f : D} {t : Int} {M : Nat} {P : Int → Int → Bool} (hM : M < 1000000) (hP : ∀ x, P M x = alw d Z t x) {j11 j12 j13 j14 j15 j16 j17 : Option S} :
    ∃ j11' j12' j13' j14', _law_layers_b2 (enY n d v Z a b c e f (.int n) (lvD n M P) (some (.fr (.int t))) j11 j12 j13 j14 j15 j16 j17) = .nx (enY n d v Z a b c e f (.int n) (lvD n (M + 1) P) (some (.fr (.int t))) j11' j12' j13' j14' j15 j16 j17) := by
  have hr : lrg1 [.int (n : Int)] = some (.ow (lstI (plc n fun _ => true))) := by
    unfold lrg1
    simp only
    rw [if_pos ⟨rgB_of (by omega) (by omega), by omega⟩, ← rangeD_plc]
    simp
  obtain ⟨⟨k12, k13, k14⟩, e1, _⟩ := loop_fold (enc := sgD) (set := gTupD 3 (gsCons (setFr 12) (gsCons (setFr 13) (gsCons (setFr 14) gsNil)))) (body := _law_layers_b1)
    (fun (P0 : Int → Bool) (j : Option S × Option S × Option S) => enY n d v Z a b c e f (.int n) (lvD n M P) (some (.fr (.int t))) (some (.fr (lstI (plc n P0)))) j.1 j.2.1 j.2.2 j15 j16 j17)
    (fun P0 z => if z.1 = t then (fun x => P0 x && decide (d z.2.1 x ≤ z.2.2)) else P0) (fun _ => True) Z (fun z hz P0 j _ => by
      have hp := hZ.p z hz
      refine ⟨enY n d v Z a b c e f (.int n) (lvD n M P) (some (.fr (.int t))) (some (.fr (lstI (plc n P0)))) (some (.fr (.int z.1))) (some (.fr (.int z.2.1))) (some (.fr (.int z.2.2))) j15 j16 j17, (some (.fr (.int z.1)), some (.fr (.int z.2.1)), some (.fr (.int z.2.2))), by simp [sgD], .inl ?_, trivial⟩
      unfold _law_layers_b1
      by_cases ht : z.1 = t
      · have hc := cmp_filter (l := plc n P0) (p := fun x => decide (d z.2.1 x ≤ z.2.2)) (i := 18) (c := _law_layers_c1) (ρ := enY n d v Z a b c e f (.int n) (lvD n M P) (some (.fr (.int t))) (some (.fr (lstI (plc n P0)))) (some (.fr (.int z.1))) (some (.fr (.int z.2.1))) (some (.fr (.int z.2.2))) j15 j16 j17) rfl (fun x hx => by
          have hx := (plc_mem.mp hx).1
          unfold _law_layers_c1
          simp [itemS_farD hp, itemS_row hx]) (by have := plc_len n P0; omega)
        rw [ht] at hc
        simp [ht, hc, plc_filter]
      · simp [ht]) (fun _ => true) (j12, j13, j14) trivial
  have hfold : ∀ (l : List Sg) (P0 : Int → Bool) (x : Int), (l.foldl (fun P0 z => if z.1 = t then (fun x => P0 x && decide (d z.2.1 x ≤ z.2.2)) else P0) P0) x = (P0 x && alw d l t x) := by
    intro l
    induction l with
    | nil => intro P0 x; simp [alw]
    | cons z l ih =>
      intro P0 x
      rw [List.foldl_cons, ih]
      unfold alw
      rw [List.all_cons]
      by_cases ht : z.1 = t
      · simp [ht, Bool.and_assoc]
      · simp [ht]
  have hpl : plc n (Z.foldl (fun P0 z => if z.1 = t then (fun x => P0 x && decide (d z.2.1 x ≤ z.2.2)) else P0) fun _ => true) = plc n (P M) := plc_congr fun x _ => by rw [hfold, hP, Bool.true_and]
  rw [hpl] at e1
  have ha := appD_lv (n := n) (P := P) (M := M) (by omega)
  refine ⟨some (.fr (lstI (plc n (P M)))), k12, k13, k14, ?_⟩
  unfold _law_layers_b2
  simp at e1
  simp [hr, e1, ha]
end
def fwB (n : Nat) (d : Int → Int → Int) (v : Int) (A : Int → Int → Bool) : Nat → Int → Bool
  | 0 => A 0
  | i + 1 => fun x => A (i + 1 : Nat) x && (plc n (fwB n d v A i)).any fun y => decide (d y x ≤ v)
def bwB (n : Nat) (d : Int → Int → Int) (v : Int) (G : Int → Int → Bool) (N : Nat) : Nat → Int → Bool
  | 0 => G N
  | j + 1 => fun x => G (N - (j + 1) : Nat) x && (plc n (bwB n d v G N j)).any fun y => decide (d x y ≤ v)
theorem ne_any {l : List Int} {p : Int → Bool} (h : l.length ≤ 1000000) : neD (.list ((l.filter p).map fun _ => .int 1)) (.list []) = some (.bool (l.any p)) := by
  have hs : SeqAt.shaped (.list ((l.filter p).map fun _ => PyData.int 1)) = true := (Shp.list (n := 0) fun x hx => by
    obtain ⟨_, _, rfl⟩ := List.mem_map.mp hx
    exact Shp.int _ _ : Shp 1 _).shaped
  have he : PyData.eqv (.list ((l.filter p).map fun _ => .int 1)) (.list []) = !l.any p := by
    rw [eqv_list_list]
    cases q : l.filter p with
    | nil =>
      rw [List.filter_eq_nil_iff] at q
      have : l.any p = false := by rw [List.any_eq_false]; exact q
      simp [this]
    | cons a r =>
      have hm : a ∈ l.filter p := by rw [q]; exact List.mem_cons_self
      have : l.any p = true := List.any_eq_true.mpr ⟨a, (List.mem_filter.mp hm).1, (List.mem_filter.mp hm).2⟩
      simp [this]
  rw [neD_ev, if_pos ⟨hs, shaped_nil⟩, he, Bool.not_not]
section
variable {n : Nat} {d : Int → Int → Int} {v : Int} {Z : List Sg}
theorem layers_b3 (hn : n ≤ 1000) {a b c e f g : D} {M : Nat} {P : Int → Int → Bool} {i : Int} (h0 : 1 ≤ i) (h1 : i < M) {j10 j11 j12 j13 j14 j16 j17 : Option S} :
    ∃ j16', _law_layers_b3 (enY n d v Z a b c e f g (lvD n M P) j10 j11 j12 j13 j14 (some (.fr (.int i))) j16 j17) = .nx (enY n d v Z a b c e f g (lvD n M fun j => if j = i then (fun x => P i x && (plc n (P (i - 1))).any fun y => decide (d y x ≤ v)) else P j) j10 j11 j12 j13 j14 (some (.fr (.int i))) j16' j17) := by
  have hi : Vn M i := ⟨by omega, h1⟩
  have hi1 : Vn M (i - 1) := ⟨by omega, by omega⟩
  refine ⟨some (.fr (lstI (plc n (P (i - 1))))), ?_⟩
  have hc := cmp_filter (l := plc n (P i)) (p := fun x => (plc n (P (i - 1))).any fun y => decide (d y x ≤ v)) (i := 18) (c := _law_layers_c3) (ρ := enY n d v Z a b c e f g (lvD n M P) j10 j11 j12 j13 j14 (some (.fr (.int i))) (some (.fr (lstI (plc n (P (i - 1)))))) j17) rfl (fun x hx => by
    have hx := (plc_mem.mp hx).1
    have hc2 := cmp_fmI (enc := PyData.int) (l := plc n (P (i - 1))) (p := fun y => decide (d y x ≤ v)) (g := fun _ => .int 1) (i := 19) (c := _law_layers_c2) (e := Lf.M.pure (.int 1)) (ρ := (enY n d v Z a b c e f g (lvD n M P) j10 j11 j12 j13 j14 (some (.fr (.int i))) (some (.fr (lstI (plc n (P (i - 1)))))) j17).set 18 (some (.fr (.int x)))) rfl (fun y hy => by
      have hy := (plc_mem.mp hy).1
      unfold _law_layers_c2
      simp [itemS_farD hy, itemS_row hx]) (fun y _ _ => by simp) (by have := plc_len n (P (i - 1)); omega)
    have hne := ne_any (l := plc n (P (i - 1))) (p := fun y => decide (d y x ≤ v)) (by have := plc_len n (P (i - 1)); omega)
    unfold _law_layers_c3
    simp [-neD_ev] at hc2 ⊢
    simp [-neD_ev, hc2, hne]) (by have := plc_len n (P i); omega)
  have hs := stD_lv (n := n) (M := M) (P := P) (Q := fun x => P i x && (plc n (P (i - 1))).any fun y => decide (d y x ≤ v)) hi
  rw [plc_filter] at hc
  unfold _law_layers_b3
  simp [itemS_lv hi1, itemS_lv hi, hc, hs]
theorem layers_b4 (hn : n ≤ 1000) {a b c e f g : D} {M : Nat} {P : Int → Int → Bool} {i : Int} (h0 : 0 ≤ i) (h1 : i + 1 < M) {j10 j11 j12 j13 j14 j16 j17 : Option S} :
    ∃ j17', _law_layers_b4 (enY n d v Z a b c e f g (lvD n M P) j10 j11 j12 j13 j14 (some (.fr (.int i))) j16 j17) = .nx (enY n d v Z a b c e f g (lvD n M fun j => if j = i then (fun x => P i x && (plc n (P (i + 1))).any fun y => decide (d x y ≤ v)) else P j) j10 j11 j12 j13 j14 (some (.fr (.int i))) j16 j17') := by
  have hi : Vn M i := ⟨by omega, by omega⟩
  have hi1 : Vn M (i + 1) := ⟨by omega, by omega⟩
  refine ⟨some (.fr (lstI (plc n (P (i + 1))))), ?_⟩
  have hc := cmp_filter (l := plc n (P i)) (p := fun x => (plc n (P (i + 1))).any fun y => decide (d x y ≤ v)) (i := 18) (c := _law_layers_c5) (ρ := enY n d v Z a b c e f g (lvD n M P) j10 j11 j12 j13 j14 (some (.fr (.int i))) j16 (some (.fr (lstI (plc n (P (i + 1))))))) rfl (fun x hx => by
    have hx := (plc_mem.mp hx).1
    have hc2 := cmp_fmI (enc := PyData.int) (l := plc n (P (i + 1))) (p := fun y => decide (d x y ≤ v)) (g := fun _ => .int 1) (i := 19) (c := _law_layers_c4) (e := Lf.M.pure (.int 1)) (ρ := (enY n d v Z a b c e f g (lvD n M P) j10 j11 j12 j13 j14 (some (.fr (.int i))) j16 (some (.fr (lstI (plc n (P (i + 1))))))).set 18 (some (.fr (.int x)))) rfl (fun y hy => by
      have hy := (plc_mem.mp hy).1
      unfold _law_layers_c4
      simp [itemS_farD hx, itemS_row hy]) (fun y _ _ => by simp) (by have := plc_len n (P (i + 1)); omega)
    have hne := ne_any (l := plc n (P (i + 1))) (p := fun y => decide (d x y ≤ v)) (by have := plc_len n (P (i + 1)); omega)
    unfold _law_layers_c5
    simp [-neD_ev] at hc2 ⊢
    simp [-neD_ev, hc2, hne]) (by have := plc_len n (P i); omega)
  have hs := stD_lv (n := n) (M := M) (P := P) (Q := fun x => P i x && (plc n (P (i + 1))).any fun y => decide (d x y ≤ v)) hi
  rw [plc_filter] at hc
  unfold _law_layers_b4
  simp [itemS_lv hi1, itemS_lv hi, hc, hs]
end
end Lf

/-! P25: _law_layers, whole. -/
namespace Lf
open PySem PySem.Spec PyProof.Rows L2
def tmL (Z : List Sg) (st en : Int) : List Int := Z.map (fun z => z.1) ++ [st, en]
def tm0 (Z : List Sg) (st en : Int) : Int := minI (tmL Z st en)
def tm1 (Z : List Sg) (st en : Int) : Int := maxI (tmL Z st en)
theorem tm0_le {Z : List Sg} {st en : Int} : tm0 Z st en ≤ st ∧ tm0 Z st en ≤ en ∧ ∀ z ∈ Z, tm0 Z st en ≤ z.1 := by
  have h := (minI_spec (ns := tmL Z st en) (by simp [tmL])).2
  exact ⟨h _ (by simp [tmL]), h _ (by simp [tmL]), fun z hz => h _ (List.mem_append_left _ (List.mem_map.mpr ⟨z, hz, rfl⟩))⟩
theorem tm1_ge {Z : List Sg} {st en : Int} : st ≤ tm1 Z st en ∧ en ≤ tm1 Z st en ∧ ∀ z ∈ Z, z.1 ≤ tm1 Z st en := by
  have h := (maxI_spec (ns := tmL Z st en) (by simp [tmL])).2
  exact ⟨h _ (by simp [tmL]), h _ (by simp [tmL]), fun z hz => h _ (List.mem_append_left _ (List.mem_map.mpr ⟨z, hz, rfl⟩))⟩
theorem tm_in {Z : List Sg} {st en lo hi : Int} (h1 : lo ≤ st ∧ st ≤ hi) (h2 : lo ≤ en ∧ en ≤ hi) (h3 : ∀ z ∈ Z, lo ≤ z.1 ∧ z.1 ≤ hi) : lo ≤ tm0 Z st en ∧ tm1 Z st en ≤ hi := by
  have hall : ∀ x ∈ tmL Z st en, lo ≤ x ∧ x ≤ hi := fun x hx => by
    rcases List.mem_append.mp hx with hx | hx
    · obtain ⟨z, hz, rfl⟩ := List.mem_map.mp hx; exact h3 z hz
    · simp at hx
      rcases hx with rfl | rfl
      · exact h1
      · exact h2
  exact ⟨(hall _ (minI_spec (ns := tmL Z st en) (by simp [tmL])).1).1, (hall _ (maxI_spec (ns := tmL Z st en) (by simp [tmL])).1).2⟩
/-- the layers, from their first time on -/
def lyF (n : Nat) (d : Int → Int → Int) (v : Int) (Z : List Sg) (t0 : Int) : Int → Int → Bool := fun j => fwB n d v (fun i => alw d Z (t0 + i)) j.toNat
def lyB (n : Nat) (d : Int → Int → Int) (v : Int) (Z : List Sg) (t0 : Int) (M : Nat) : Int → Int → Bool := fun j => bwB n d v (lyF n d v Z t0) (M - 1) (M - 1 - j.toNat)
section
variable {n : Nat} {d : Int → Int → Int} {v : Int} {Z : List Sg} (hZ : SgL n Z)
include hZ
theorem layers_raw (hn : n ≤ 1000) {st en : Int} (hse : st ≤ en) {m : Nat} (hM : tm1 Z st en - tm0 Z st en + 1 = m) (hM2 : m ≤ 100000) (hb0 : -100000000000 ≤ tm0 Z st en) (hb1 : tm1 Z st en ≤ 100000000000) :
    f__law_layers [farD n d, .int v, sgsD Z, .int st, .int en] = .ok (.ow (lvD n (en - st + 1).toNat fun i => lyB n d v Z (tm0 Z st en) m (i + (st - tm0 Z st en)))) := by
  obtain ⟨t0, ht0⟩ : ∃ t, t = tm0 Z st en := ⟨_, rfl⟩
  obtain ⟨t1, ht1⟩ : ∃ t, t = tm1 Z st en := ⟨_, rfl⟩
  have hle := tm0_le (Z := Z) (st := st) (en := en)
  have hge := tm1_ge (Z := Z) (st := st) (en := en)
  rw [← ht0] at hM hb0 hle ⊢
  rw [← ht1] at hM hb1 hge
  have hl := hZ.l
  have hm1 : 1 ≤ m := by omega
  -- the times
  have hc := cmp_mapI (enc := sgD) (l := Z) (g := fun z => .int z.1) (i := 18) (e := frz (op2F itemS (varM 18) (M.pure (.int 0)))) (ρ := [some (.fr (farD n d)), some (.fr (.int v)), some (.fr (sgsD Z)), some (.fr (.int st)), some (.fr (.int en)), none, none, none, none, none, none, none, none, none, none, none, none, none, none, none]) rfl (fun z hz => by simp) (by omega)
  have hz : ltM ((Z.map fun z => PyData.int z.1).length + 2) = true := ltM_of (by simp; omega)
  have hs1 : _law_layers_s1 [some (.fr (farD n d)), some (.fr (.int v)), some (.fr (sgsD Z)), some (.fr (.int st)), some (.fr (.int en)), none, none, none, none, none, none, none, none, none, none, none, none, none, none, none] = .ok (.fr (lstI (tmL Z st en)), [some (.fr (farD n d)), some (.fr (.int v)), some (.fr (sgsD Z)), some (.fr (.int st)), some (.fr (.int en)), none, none, none, none, none, none, none, none, none, none, none, none, none, none, none]) := by
    have hz' : ltM (Z.length + 2) = true := by simpa using hz
    unfold _law_layers_s1
    simp [hc, hz', lstI, tmL]
  have hmin : minLS [lstI (tmL Z st en)] = some (.fr (.int t0)) := by
    unfold minLS lstI
    have hi : intsD ((tmL Z st en).map .int) = some (tmL Z st en) := intsD_map _
    simp only [hi, Option.bind_some]
    rw [if_neg (by simp [tmL]), ht0]; rfl
  have hmax : maxLS [lstI (tmL Z st en)] = some (.fr (.int t1)) := by
    unfold maxLS lstI
    have hi : intsD ((tmL Z st en).map .int) = some (tmL Z st en) := intsD_map _
    simp only [hi, Option.bind_some]
    rw [if_neg (by simp [tmL]), ht1]; rfl
  have hfl : lenS [farD n d] = some (.fr (.int n)) := by simp [farD]
  -- the first pass makes the layers
  obtain ⟨ρ1, e1, j10, j11, j12, j13, j14, j15, j16, j17, rfl⟩ := forD_inv (set := setFr 10) (body := _law_layers_b2) (fun i ρ => ∃ j10 j11 j12 j13 j14 j15 j16 j17, ρ = enY n d v Z (.int st) (.int en) (lstI (tmL Z st en)) (.int t0) (.int t1) (.int n) (lvD n i fun j => alw d Z (t0 + j)) j10 j11 j12 j13 j14 j15 j16 j17) (ds := (rngF t0 m).map .int) (k := 0) (ρ := enY n d v Z (.int st) (.int en) (lstI (tmL Z st en)) (.int t0) (.int t1) (.int n) (lvD n 0 fun j => alw d Z (t0 + j)) none none none none none none none none) (by
    rintro i dd ρ hd ⟨j10, j11, j12, j13, j14, j15, j16, j17, rfl⟩
    rw [Nat.zero_add]
    have hi : i < m := by have := (List.getElem?_eq_some_iff.mp hd).1; simpa using this
    have hdd : dd = .int (t0 + (i : Nat)) := by
      rw [← rangeD_rngF] at hd; exact rangeD_get hd
    subst hdd
    obtain ⟨k11, k12, k13, k14, e⟩ := layers_b2 (d := d) (v := v) hZ hn (a := .int st) (b := .int en) (c := lstI (tmL Z st en)) (e := .int t0) (f := .int t1) (t := t0 + (i : Nat)) (M := i) (P := fun j => alw d Z (t0 + j)) (by omega) (fun x => rfl) (j11 := j11) (j12 := j12) (j13 := j13) (j14 := j14) (j15 := j15) (j16 := j16) (j17 := j17)
    exact ⟨_, _, by simp, .inl e, _, _, _, _, _, _, _, _, rfl⟩) ⟨_, _, _, _, _, _, _, _, rfl⟩
  rw [List.length_map, rngF_len, Nat.zero_add] at e1
  -- forward
  obtain ⟨ρ2, e2, k10, k11, k12, k13, k14, k15, k16, k17, rfl⟩ := forD_inv (set := setFr 15) (body := _law_layers_b3) (fun i ρ => ∃ j10 j11 j12 j13 j14 j15 j16 j17, ρ = enY n d v Z (.int st) (.int en) (lstI (tmL Z st en)) (.int t0) (.int t1) (.int n) (lvD n m fun j => if j ≤ (i : Nat) then lyF n d v Z t0 j else alw d Z (t0 + j)) j10 j11 j12 j13 j14 j15 j16 j17) (ds := (rngF 1 (m - 1)).map .int) (k := 0) (ρ := enY n d v Z (.int st) (.int en) (lstI (tmL Z st en)) (.int t0) (.int t1) (.int n) (lvD n m fun j => alw d Z (t0 + j)) j10 j11 j12 j13 j14 j15 j16 j17) (by
    rintro i dd ρ hd ⟨j10, j11, j12, j13, j14, j15, j16, j17, rfl⟩
    rw [Nat.zero_add]
    have hi : i < m - 1 := by have := (List.getElem?_eq_some_iff.mp hd).1; simpa using this
    have hdd : dd = .int (1 + (i : Nat)) := by
      rw [← rangeD_rngF] at hd; exact rangeD_get hd
    subst hdd
    obtain ⟨k16, e⟩ := layers_b3 (n := n) (d := d) (v := v) (Z := Z) hn (a := .int st) (b := .int en) (c := lstI (tmL Z st en)) (e := .int t0) (f := .int t1) (g := .int n) (M := m) (P := fun j => if j ≤ (i : Nat) then lyF n d v Z t0 j else alw d Z (t0 + j)) (i := 1 + (i : Nat)) (by omega) (by omega) (j10 := j10) (j11 := j11) (j12 := j12) (j13 := j13) (j14 := j14) (j16 := j16) (j17 := j17)
    refine ⟨_, _, by simp, .inl e, j10, j11, j12, j13, j14, some (.fr (.int (1 + (i : Nat)))), k16, j17, ?_⟩
    refine congrArg (fun al => enY n d v Z (.int st) (.int en) (lstI (tmL Z st en)) (.int t0) (.int t1) (.int n) al _ _ _ _ _ _ _ _) (lv_congr fun j x hj hx => ?_)
    by_cases c : j = 1 + (i : Nat)
    · subst c
      have e1 : (1 + (i : Nat) : Int) - 1 = (i : Nat) := by omega
      have e2 : ¬ (1 + (i : Nat) : Int) ≤ (i : Nat) := by omega
      have e3 : (1 + (i : Nat) : Int) ≤ ((i + 1 : Nat) : Int) := by omega
      rw [if_pos rfl, if_pos e3]
      simp only [e1, e2, if_false, Int.le_refl, if_true]
      unfold lyF
      have t1 : (1 + (i : Nat) : Int).toNat = i + 1 := by omega
      have t2 : ((i : Nat) : Int).toNat = i := by omega
      rw [t1, t2]
      have : (1 + (i : Nat) : Int) = ((i + 1 : Nat) : Int) := by omega
      rw [this]; rfl
    · rw [if_neg c]
      by_cases c2 : j ≤ (i : Nat)
      · rw [if_pos c2, if_pos (by omega)]
      · rw [if_neg c2, if_neg (by omega)]) (by
    refine ⟨j10, j11, j12, j13, j14, j15, j16, j17, ?_⟩
    refine congrArg (fun al => enY n d v Z (.int st) (.int en) (lstI (tmL Z st en)) (.int t0) (.int t1) (.int n) al _ _ _ _ _ _ _ _) (lv_congr fun j x hj hx => ?_)
    by_cases c : j ≤ ((0 : Nat) : Int)
    · have : j = 0 := by have := hj.1; omega
      subst this
      rw [if_pos c]; rfl
    · rw [if_neg c])
  rw [List.length_map, rngF_len, Nat.zero_add] at e2
  have hlvF : lvD n m (fun j => if j ≤ ((m - 1 : Nat) : Int) then lyF n d v Z t0 j else alw d Z (t0 + j)) = lvD n m (lyF n d v Z t0) := lv_congr fun j x hj hx => by rw [if_pos (by have := hj.2; omega)]
  rw [hlvF] at e2
  -- backward
  obtain ⟨ρ3, e3, l10, l11, l12, l13, l14, l15, l16, l17, rfl⟩ := forD_inv (set := setFr 15) (body := _law_layers_b4) (fun i ρ => ∃ j10 j11 j12 j13 j14 j15 j16 j17, ρ = enY n d v Z (.int st) (.int en) (lstI (tmL Z st en)) (.int t0) (.int t1) (.int n) (lvD n m fun j => if (m : Int) - 1 - (i : Nat) ≤ j then lyB n d v Z t0 m j else lyF n d v Z t0 j) j10 j11 j12 j13 j14 j15 j16 j17) (ds := downD ((m : Int) - 2) (m - 1)) (k := 0) (ρ := enY n d v Z (.int st) (.int en) (lstI (tmL Z st en)) (.int t0) (.int t1) (.int n) (lvD n m (lyF n d v Z t0)) k10 k11 k12 k13 k14 k15 k16 k17) (by
    rintro i dd ρ hd ⟨j10, j11, j12, j13, j14, j15, j16, j17, rfl⟩
    rw [Nat.zero_add]
    have hi : i < m - 1 := by have := (List.getElem?_eq_some_iff.mp hd).1; simpa [downD] using this
    have hdd := downD_get hd
    subst hdd
    obtain ⟨k17, e⟩ := layers_b4 (n := n) (d := d) (v := v) (Z := Z) hn (a := .int st) (b := .int en) (c := lstI (tmL Z st en)) (e := .int t0) (f := .int t1) (g := .int n) (M := m) (P := fun j => if (m : Int) - 1 - (i : Nat) ≤ j then lyB n d v Z t0 m j else lyF n d v Z t0 j) (i := (m : Int) - 2 - (i : Nat)) (by omega) (by omega) (j10 := j10) (j11 := j11) (j12 := j12) (j13 := j13) (j14 := j14) (j16 := j16) (j17 := j17)
    refine ⟨_, _, by simp, .inl e, j10, j11, j12, j13, j14, some (.fr (.int ((m : Int) - 2 - (i : Nat)))), j16, k17, ?_⟩
    refine congrArg (fun al => enY n d v Z (.int st) (.int en) (lstI (tmL Z st en)) (.int t0) (.int t1) (.int n) al _ _ _ _ _ _ _ _) (lv_congr fun j x hj hx => ?_)
    by_cases c : j = (m : Int) - 2 - (i : Nat)
    · subst c
      have e1 : (m : Int) - 2 - (i : Nat) + 1 = (m : Int) - 1 - (i : Nat) := by omega
      have e2 : ¬ (m : Int) - 1 - (i : Nat) ≤ (m : Int) - 2 - (i : Nat) := by omega
      have e3 : (m : Int) - 1 - ((i + 1 : Nat) : Int) ≤ (m : Int) - 2 - (i : Nat) := by omega
      rw [if_pos rfl, if_pos e3]
      simp only [e1, e2, if_false, Int.le_refl, if_true]
      unfold lyB
      have t1 : m - 1 - ((m : Int) - 2 - (i : Nat)).toNat = i + 1 := by omega
      have t2 : m - 1 - ((m : Int) - 1 - (i : Nat)).toNat = i := by omega
      rw [t1, t2]
      show _ = bwB n d v (lyF n d v Z t0) (m - 1) (i + 1) x
      rw [bwB]
      have : ((m - 1 - (i + 1) : Nat) : Int) = (m : Int) - 2 - (i : Nat) := by omega
      rw [this]
    · rw [if_neg c]
      by_cases c2 : (m : Int) - 1 - (i : Nat) ≤ j
      · rw [if_pos c2, if_pos (by omega)]
      · rw [if_neg c2, if_neg (by omega)]) (by
    refine ⟨k10, k11, k12, k13, k14, k15, k16, k17, ?_⟩
    refine congrArg (fun al => enY n d v Z (.int st) (.int en) (lstI (tmL Z st en)) (.int t0) (.int t1) (.int n) al _ _ _ _ _ _ _ _) (lv_congr fun j x hj hx => ?_)
    by_cases c : (m : Int) - 1 - ((0 : Nat) : Int) ≤ j
    · have hj2 := hj.2
      have : j = ((m - 1 : Nat) : Int) := by omega
      rw [if_pos c]
      unfold lyB
      have t1 : m - 1 - j.toNat = 0 := by omega
      rw [t1, bwB, this]
    · rw [if_neg c])
  have hdl : (downD ((m : Int) - 2) (m - 1)).length = m - 1 := by simp [downD]
  rw [hdl, Nat.zero_add] at e3
  have hlvB : lvD n m (fun j => if (m : Int) - 1 - ((m - 1 : Nat) : Int) ≤ j then lyB n d v Z t0 m j else lyF n d v Z t0 j) = lvD n m (lyB n d v Z t0 m) := lv_congr fun j x hj hx => by rw [if_pos (by have := hj.1; omega)]
  rw [hlvB] at e3
  have hsl := slice_lv (n := n) (M := m) (P := lyB n d v Z t0 m) (a := (st - t0).toNat) (b := (en - t0 + 1).toNat) (by omega) (by omega)
  have ha : (((st - t0).toNat : Nat) : Int) = st - t0 := by omega
  have hb : (((en - t0 + 1).toNat : Nat) : Int) = en - t0 + 1 := by omega
  have hab : (en - t0 + 1).toNat - (st - t0).toNat = (en - st + 1).toNat := by omega
  rw [ha, hb, hab] at hsl
  have r1 := rg2_of (i := t0) (j := t1 + 1) (m := m) (by omega) (by omega) (by omega) (by omega) (by omega)
  have r2 := rg2_of (i := 1) (j := (m : Int)) (m := m - 1) (by omega) (by omega) (by omega) (by omega) (by omega)
  have r3 : rg3 [.int ((m : Int) - 2), .int (-1), .int (-1)] = some (downD ((m : Int) - 2) (m - 1)) := by
    unfold rg3
    dsimp only
    rw [if_pos ⟨rfl, rgB_of (by omega) (by omega), rgB_of (by omega) (by omega)⟩]
    have : ((m : Int) - 2 - -1).toNat = m - 1 := by omega
    rw [this]
  have h0 := lv_zero n fun j => alw d Z (t0 + j)
  unfold f__law_layers b__law_layers
  have h1 : seqM (setM 5 _law_layers_s1) = seqM (setM 5 _law_layers_s1) := rfl
  simp [List.replicate_succ, hs1, hmin, hmax, hfl, h0, r1, e1, r2, e2, r3, e3, hsl]
end
end Lf

/-! P26: what _law_layers tells. -/
namespace Lf
open PySem PySem.Spec PyProof.Rows L2
theorem any_plc {n : Nat} {P Q : Int → Bool} : (plc n P).any Q = true ↔ ∃ y, Vn n y ∧ P y = true ∧ Q y = true := by
  rw [List.any_eq_true]
  constructor
  · rintro ⟨y, hy, hq⟩; exact ⟨y, (plc_mem.mp hy).1, (plc_mem.mp hy).2, hq⟩
  · rintro ⟨y, h1, h2, h3⟩; exact ⟨y, plc_mem.mpr ⟨h1, h2⟩, h3⟩
theorem fwB_P {n : Nat} {d : Int → Int → Int} {v : Int} {A : Int → Int → Bool} : ∀ (i : Nat) (x : Int), fwB n d v A i x = true ↔ fwP (Vn n) d v (fun i x => A (i : Nat) x = true) i x
  | 0, x => Iff.rfl
  | i + 1, x => by
    unfold fwB fwP
    rw [Bool.and_eq_true, any_plc]
    constructor
    · rintro ⟨h1, y, h2, h3, h4⟩; exact ⟨h1, y, h2, (fwB_P i y).mp h3, of_decide_eq_true h4⟩
    · rintro ⟨h1, y, h2, h3, h4⟩; exact ⟨h1, y, h2, (fwB_P i y).mpr h3, decide_eq_true h4⟩
theorem bwB_P {n : Nat} {d : Int → Int → Int} {v : Int} {G : Int → Int → Bool} {N : Nat} : ∀ (j : Nat) (x : Int), bwB n d v G N j x = true ↔ bwP (Vn n) d v (fun i x => G (i : Nat) x = true) N j x
  | 0, x => Iff.rfl
  | j + 1, x => by
    unfold bwB bwP
    rw [Bool.and_eq_true, any_plc]
    constructor
    · rintro ⟨h1, y, h2, h3, h4⟩; exact ⟨h1, y, h2, (bwB_P j y).mp h3, of_decide_eq_true h4⟩
    · rintro ⟨h1, y, h2, h3, h4⟩; exact ⟨h1, y, h2, (bwB_P j y).mpr h3, decide_eq_true h4⟩
theorem bwP_congr {V : Int → Prop} {d : Int → Int → Int} {v : Int} {G H : Nat → Int → Prop} {N : Nat} (h : ∀ i x, G i x ↔ H i x) : ∀ j x, bwP V d v G N j x ↔ bwP V d v H N j x
  | 0, x => h N x
  | j + 1, x => by
    unfold bwP
    rw [h]
    constructor
    · rintro ⟨h1, y, h2, h3, h4⟩; exact ⟨h1, y, h2, (bwP_congr h j y).mp h3, h4⟩
    · rintro ⟨h1, y, h2, h3, h4⟩; exact ⟨h1, y, h2, (bwP_congr h j y).mpr h3, h4⟩
theorem alw_iff {d : Int → Int → Int} {Z : List Sg} {t x : Int} : alw d Z t x = true ↔ ∀ z ∈ Z, z.1 = t → d z.2.1 x ≤ z.2.2 := by
  unfold alw
  rw [List.all_eq_true]
  constructor
  · intro h z hz e
    have := h z hz
    simpa [e] using this
  · intro h z hz
    by_cases e : z.1 = t
    · simp [e, h z hz e]
    · simp [e]
section
variable {n : Nat} {d : Int → Int → Int} (T : TM (Vn n) d) {v : Int} (v0 : 0 ≤ v) {Z : List Sg} (hZ : ∀ z ∈ Z, sgOk (Vn n) z)
include T v0 hZ
theorem ly_eq {t0 : Int} {m : Nat} (hm : 1 ≤ m) (hr : ∀ z ∈ Z, t0 ≤ z.1 ∧ z.1 ≤ t0 + (m - 1 : Nat)) {i : Int} (i0 : 0 ≤ i) (i1 : i < m) {x : Int} (hx : Vn n x) : lyB n d v Z t0 m i x = (compat d v Z && okAt d v Z (t0 + i) x) := by
  have hi : i.toNat ≤ m - 1 := by omega
  have hii : ((i.toNat : Nat) : Int) = i := by omega
  rw [Bool.eq_iff_iff]
  unfold lyB
  rw [bwB_P, bwP_congr (H := fwP (Vn n) d v fun i x => alw d Z (t0 + (i : Nat)) x = true) (fun j y => by
    unfold lyF
    rw [show ((j : Nat) : Int).toNat = j by omega]
    exact fwB_P j y)]
  rw [Bool.and_eq_true, compat_all T v0 hZ]
  constructor
  · intro h
    obtain ⟨f, e, g1, g2⟩ := both_walk (N := m - 1) (i := i.toNat) hi hx h
    obtain ⟨h1, h2⟩ := walk_fits T v0 hZ (f := f) (N := m - 1) (t0 := t0) (fun j hj => (g1 j hj).1) g2 hr (fun j hj z hz e => alw_iff.mp (g1 j hj).2 z hz e)
    have := h1 i.toNat hi
    rw [e, hii] at this
    exact ⟨h2, this⟩
  · rintro ⟨hc, ho⟩
    have base : ∀ (j : Nat) (y : Int), okAt d v Z (t0 + (j : Nat)) y = true → alw d Z (t0 + (j : Nat)) y = true := fun j y h => by
      rw [alw_iff]
      intro z hz e
      have := List.all_eq_true.mp h z hz
      unfold fitB at this
      rw [e, mulAb_self] at this
      have := of_decide_eq_true this
      omega
    have g1 : ∀ i x, i ≤ m - 1 → Vn n x → okAt d v Z (t0 + (i : Nat)) x = true → fwP (Vn n) d v (fun i x => alw d Z (t0 + (i : Nat)) x = true) i x := fw_full (N := m - 1) (P := fun i x => okAt d v Z (t0 + (i : Nat)) x = true) (fun i x _ _ h => base i x h) (fun i x _ hx h => by
      obtain ⟨y, q1, q2, q3⟩ := okAt_go T v0 hZ hc (t := t0 + ((i + 1 : Nat) : Int)) (t' := t0 + (i : Nat)) hx h
      have e : t0 + ((i + 1 : Nat) : Int) - (t0 + (i : Nat)) = (t0 + (i : Nat)) + 1 - (t0 + (i : Nat)) := by omega
      rw [e, mulAb_one] at q3
      exact ⟨y, q1, q2, q3⟩)
    refine bw_full (N := m - 1) (P := fun i x => okAt d v Z (t0 + (i : Nat)) x = true) (fun i x a b c => g1 i x a b c) (fun i x _ hx h => ?_) (m - 1 - i.toNat) x (by omega) hx ?_
    · obtain ⟨y, q1, q2, q3⟩ := okAt_go T v0 hZ hc (t := t0 + (i : Nat)) (t' := t0 + ((i + 1 : Nat) : Int)) hx h
      have e : v * abI (t0 + (i : Nat) - (t0 + ((i + 1 : Nat) : Int))) = v := by
        rw [mulAb_sy]
        have : t0 + ((i + 1 : Nat) : Int) - (t0 + (i : Nat)) = (t0 + (i : Nat)) + 1 - (t0 + (i : Nat)) := by omega
        rw [this, mulAb_one]
      rw [e, T.sy q1 hx] at q3
      exact ⟨y, q1, q2, q3⟩
    · have : m - 1 - (m - 1 - i.toNat) = i.toNat := by omega
      rw [this, hii]; exact ho
end
/-- the places at a time: none, if the sightings are not of one train -/
def plB (d : Int → Int → Int) (v : Int) (Z : List Sg) (t x : Int) : Bool := compat d v Z && okAt d v Z t x
theorem layers_eq {n : Nat} {d : Int → Int → Int} (T : TM (Vn n) d) {v : Int} (v0 : 0 ≤ v) {Z : List Sg} (hZ : ∀ z ∈ Z, sgOk (Vn n) z) (hl : Z.length ≤ 1000) (hn : n ≤ 1000) {st en lo hi : Int} (hse : st ≤ en) (h1 : lo ≤ st) (h2 : en ≤ hi) (h3 : ∀ z ∈ Z, lo ≤ z.1 ∧ z.1 ≤ hi) (h4 : hi - lo ≤ 90000) (h5 : -10000000000 ≤ lo) (h6 : hi ≤ 10000000000) :
    f__law_layers [farD n d, .int v, sgsD Z, .int st, .int en] = .ok (.ow (lvD n (en - st + 1).toNat fun i => plB d v Z (st + i))) := by
  obtain ⟨b1, b2⟩ := tm_in (Z := Z) (st := st) (en := en) (lo := lo) (hi := hi) ⟨h1, by omega⟩ ⟨by omega, h2⟩ h3
  have hle := tm0_le (Z := Z) (st := st) (en := en)
  have hge := tm1_ge (Z := Z) (st := st) (en := en)
  obtain ⟨m, hm⟩ : ∃ m : Nat, tm1 Z st en - tm0 Z st en + 1 = m := ⟨(tm1 Z st en - tm0 Z st en + 1).toNat, by omega⟩
  rw [layers_raw (d := d) (v := v) ⟨fun z hz => (hZ z hz).1, hl⟩ hn hse hm (by omega) (by omega) (by omega)]
  congr 2
  refine lv_congr fun i x hi hx => ?_
  have h0 := hi.1
  have h1 := hi.2
  rw [ly_eq T v0 hZ (by omega) (fun z hz => ⟨hle.2.2 z hz, by have := hge.2.2 z hz; omega⟩) (by omega) (by omega) hx]
  unfold plB
  congr 2
  omega
end Lf

/-! P27: what the laws draw: a network and a speed; slices of sightings; the layers asked. -/
namespace Lf
open PySem PySem.Spec PyProof.Rows L2
theorem callIO_ow {i : Nat} {f : D → List D → Res (S × D)} {ms : M (List D)} {ρ ρ1 : EnvD} {s0 s : D} {ds : List D} {r d' : D} (h0 : ρ[i]? = some (some (.ow s0))) (h1 : ms ρ = .ok (ds, ρ1)) (h2 : ρ1[i]? = some (some (.ow s))) (h3 : f s ds = .ok (.fr r, d')) : callIO i f ms ρ = .ok (.fr r, ρ1.set i (some (.ow d'))) := by
  have e0 : slotM i ρ = .ok (s0, ρ) := by simp [h0, S.pin]
  rw [callIO_ev, e0]
  simp [h1, h2]
  rw [h3]
  simp
theorem set_get {ρ : EnvD} {i : Nat} {x y : Option S} (h : ρ[i]? = some x) : (ρ.set i y)[i]? = some y := List.getElem?_set_self (List.getElem?_eq_some_iff.mp h).1
/-- a network and a speed of one more than a drawn number -/
theorem net_speed {i : Nat} {ρ : EnvD} {k most : Int} {s : D} {a b : Int} (hi : ρ[i]? = some (some (.ow s))) (hs : Src k s) (hk : 0 ≤ k) (hk2 : k ≤ 800000000) (m0 : 0 ≤ most) (m1 : most ≤ 24) (a0 : 1 ≤ a) (b0 : 1 ≤ b) (a1 : a ≤ 10) (b1 : b ≤ 10) :
    ∃ (n : Nat) (es : List Ed) (d : Int → Int → Int) (v : Int) (s' : D), consF (fre (frz (callIO i f__law_tree (consM (M.pure (.int most)) (M.pure []))))) (consF (fre (frz (op2F addS (M.pure (.int 1)) (frz (callIO i f__law_draw (consM (frz (callIO i f__law_choice (consM (frz (lstM (consM (M.pure (.int a)) (consM (M.pure (.int b)) (M.pure []))))) (M.pure [])))) (M.pure []))))))) (M.pure [])) ρ = .ok ([.fr (netD es), .fr (.int v)], ρ.set i (some (.ow s'))) ∧
      Nw n es d ∧ (n : Int) ≤ most + 1 ∧ 1 ≤ v ∧ (v ≤ a ∨ v ≤ b) ∧ v ≤ 10 ∧ Src (k + 302) s' := by
  obtain ⟨n, es, d, s1, e1, t, hst, hn, q1⟩ := tree_net (most := most) hs m0 (by omega) hk (by omega)
  have w := Nw.of t hst (by omega)
  obtain ⟨c, s2, e2, hc, q2⟩ := choice_int (l := [a, b]) q1 (by omega) (by simp) (by simp)
  have hcc : (c = a ∨ c = b) := by simpa using hc
  obtain ⟨v, s3, e3, v0, v1, q3⟩ := draw_eq (s := c) q2 (by omega) (by omega) (by omega)
  refine ⟨n, es, d, 1 + v, s3, ?_, w, hn, by omega, by rcases hcc with rfl | rfl <;> omega, by omega, q3.mono (by omega)⟩
  have c1 := callIO_ow (f := f__law_tree) (ms := consM (M.pure (.int most)) (M.pure [])) (ds := [.int most]) (ρ1 := ρ) hi (by simp) hi e1
  have h1 := set_get (y := some (.ow s1)) hi
  have c2 := callIO_ow (f := f__law_choice) (ms := consM (frz (lstM (consM (M.pure (.int a)) (consM (M.pure (.int b)) (M.pure []))))) (M.pure [])) (ds := [lstI [a, b]]) (ρ1 := ρ.set i (some (.ow s1))) h1 (by simp [lstI]) h1 e2
  have h2 := set_get (y := some (.ow s2)) h1
  have c3 := callIO_ow (f := f__law_draw) (ms := consM (frz (callIO i f__law_choice (consM (frz (lstM (consM (M.pure (.int a)) (consM (M.pure (.int b)) (M.pure []))))) (M.pure [])))) (M.pure [])) (ds := [.int c]) (ρ1 := (ρ.set i (some (.ow s1))).set i (some (.ow s2))) h1 (by rw [consM_ev, frz_ev, c2]; simp) h2 e3
  rw [consF_ev, fre_ev, frz_ev, c1]
  simp only [frz_fr, fre_ok, cf_fr]
  rw [consF_ev, fre_ev, frz_ev, op2F_ev, pure_ev, o2a_ok, frz_ev, c3]
  simp [List.set_set]
theorem cut_to {α : Type} {f : α → D} {l : List α} {k : Int} (h0 : 0 ≤ k) : cutD (l.map f) none (some k) = (l.take k.toNat).map f := by
  obtain ⟨m, rfl⟩ : ∃ m : Nat, k = m := ⟨k.toNat, by omega⟩
  unfold cutD
  simp only [HT.sIx_nat, HT.sIx_none, List.length_map, List.drop_zero, Nat.sub_zero]
  rw [← List.map_take]
  congr 1
  simp only [Int.toNat_natCast]
  rw [List.take_eq_take_iff]
  omega
theorem cut_from {α : Type} {f : α → D} {l : List α} {k : Int} (h0 : 0 ≤ k) : cutD (l.map f) (some k) none = (l.drop k.toNat).map f := by
  obtain ⟨m, rfl⟩ : ∃ m : Nat, k = m := ⟨k.toNat, by omega⟩
  unfold cutD
  simp only [HT.sIx_nat, HT.sIx_none, List.length_map]
  rw [← List.map_drop, ← List.map_take]
  congr 1
  simp only [Int.toNat_natCast]
  by_cases h : m ≤ l.length
  · rw [Nat.min_eq_left h, List.take_of_length_le (by simp)]
  · rw [Nat.min_eq_right (by omega), List.drop_eq_nil_of_le (Nat.le_refl _), List.drop_eq_nil_of_le (by omega)]
    simp
theorem slice_sgs_to {Z : List Sg} {k : Int} (h0 : 0 ≤ k) : sliceS (sgsD Z) none (some k) = some (.fr (sgsD (Z.take k.toNat))) := by
  unfold sgsD
  rw [sliceS_t, cut_to h0]
theorem slice_sgs_from {Z : List Sg} {k : Int} (h0 : 0 ≤ k) : sliceS (sgsD Z) (some k) none = some (.fr (sgsD (Z.drop k.toNat))) := by
  unfold sgsD
  rw [sliceS_t, cut_from h0]
theorem addS_sgs {A B : List Sg} (h : A.length + B.length ≤ 1000000) : addS (sgsD A) (sgsD B) = some (.fr (sgsD (A ++ B))) := by
  unfold sgsD
  have hz : ltM ((A.map sgD).length + (B.map sgD).length) = true := ltM_of (by simp; omega)
  show (if ltM ((A.map sgD).length + (B.map sgD).length) = true then some (S.fr (.tuple (A.map sgD ++ B.map sgD))) else none) = _
  rw [if_pos hz, List.map_append]
theorem sgsD_one (t p r : Int) : (PyData.tuple [.tuple [.int t, .int p, .int r]] : D) = sgsD [(t, p, r)] := rfl
theorem sgsD_nil : (PyData.tuple [] : D) = sgsD [] := rfl
@[simp] theorem shaped_sgs (Z : List Sg) : SeqAt.shaped (sgsD Z) = true := (Shp.sgs 1 Z).shaped
theorem eqv_sgs_nil (Z : List Sg) : PyData.eqv (sgsD Z) (.tuple []) = decide (Z = []) := by
  unfold sgsD
  rw [eqv_tuple_tuple]
  cases Z <;> simp
theorem shp_lv (n m : Nat) (P : Int → Int → Bool) : Shp 2 (lvD n m P) := Shp.list fun x hx => by
  obtain ⟨i, _, rfl⟩ := List.mem_map.mp hx
  exact Shp.ints _
/-- no layer is empty -/
theorem noempty_lv {n m : Nat} {P : Int → Int → Bool} : notInD (.list []) (lvD n m P) = some (.bool (!(rng m).any fun i => decide (plc n (P i) = []))) := by
  unfold notInD
  have h1 : seqD (lvD n m P) = some ((rng m).map fun i => lstI (plc n (P i))) := rfl
  simp only [h1]
  rw [if_pos ⟨shaped_nil, (shp_lv n m P).shaped⟩, List.any_map]
  congr 4
  funext i
  have := eqv_lstI (plc n (P i)) []
  exact this
theorem plc_compat {n : Nat} {d : Int → Int → Int} (T : TM (Vn n) d) (hn : 1 ≤ n) {v : Int} (v0 : 0 ≤ v) {Z : List Sg} (hZ : ∀ z ∈ Z, sgOk (Vn n) z) (t : Int) : plc n (plB d v Z t) ≠ [] ↔ compat d v Z = true := by
  constructor
  · intro h
    obtain ⟨x, hx⟩ := List.exists_mem_of_ne_nil _ h
    have := (plc_mem.mp hx).2
    unfold plB at this
    rw [Bool.and_eq_true] at this
    exact this.1
  · intro h
    obtain ⟨y, h1, h2⟩ := okAt_some T v0 hZ ((compat_all T v0 hZ).mp h) t (w := 0) ⟨Int.le_refl 0, by omega⟩
    exact List.ne_nil_of_mem (plc_mem.mpr ⟨h1, by unfold plB; rw [h, h2]; rfl⟩)
/-- a run exists, step by step -/
theorem layers_some {n : Nat} {d : Int → Int → Int} (T : TM (Vn n) d) (hn1 : 1 ≤ n) {v : Int} (v0 : 0 ≤ v) {Z : List Sg} (hZ : ∀ z ∈ Z, sgOk (Vn n) z) (hl : Z.length ≤ 1000) (hn : n ≤ 1000) {st en lo hi : Int} (hse : st ≤ en) (h1 : lo ≤ st) (h2 : en ≤ hi) (h3 : ∀ z ∈ Z, lo ≤ z.1 ∧ z.1 ≤ hi) (h4 : hi - lo ≤ 90000) (h5 : -10000000000 ≤ lo) (h6 : hi ≤ 10000000000) :
    ∃ L, f__law_layers [farD n d, .int v, sgsD Z, .int st, .int en] = .ok (.ow L) ∧ notInD (.list []) L = some (.bool (compat d v Z)) := by
  refine ⟨_, layers_eq T v0 hZ hl hn hse h1 h2 h3 h4 h5 h6, ?_⟩
  rw [noempty_lv]
  congr 2
  rw [Bool.eq_iff_iff, Bool.not_eq_true', List.any_eq_false]
  constructor
  · intro h
    have := h 0 (rng_mem.mpr ⟨by omega, by omega⟩)
    rw [decide_eq_true_eq] at this
    exact (plc_compat T hn1 v0 hZ _).mp this
  · intro h i hi
    rw [decide_eq_true_eq]
    exact (plc_compat T hn1 v0 hZ _).mpr h
end Lf

/-! F: the lifted functions of all laws (printed by gen2.py). -/
namespace Lf
open PySem PySem.Spec PyProof.Rows L2
noncomputable def without_gaps_b1 : EnvD → Out := (ifM (andT (tst (op2 leI (varM 5) (varM 1))) (tst (op2 geI (varM 6) (varM 4)))) (seqM (ifM (tst (op2 gtI (varM 5) (varM 4))) (exprM (appM 3 (frz (tupM (consM (varM 4) (consM (op2 subD (varM 5) (M.pure (.int 1))) (M.pure []))))))) Out.nx) (setM 4 (fre (frz (op2F addS (varM 6) (M.pure (.int 1))))))) Out.nx)
noncomputable def b_without_gaps : EnvD → Out := (seqM (parM [3, 4] (consF (lstM (M.pure [])) (consF (fre (varM 0)) (M.pure [])))) (seqM (forM (seqM' (frz (bltM sortS (consM (varM 2) (M.pure []))))) (gTupD 2 (gsCons (setFr 5) (gsCons (setFr 6) gsNil))) without_gaps_b1) (seqM (ifM (tst (op2 leI (varM 4) (varM 1))) (exprM (appM 3 (frz (tupM (consM (varM 4) (consM (varM 1) (M.pure []))))))) Out.nx) (retM (movM 3)))))
noncomputable def f_without_gaps : List D → Res S := defD 3 7 b_without_gaps
noncomputable def gaps_for_b1 : EnvD → Out := (ifM (tst (op2 gtI (varM 4) (M.pure (.int 0)))) (seqM (setM 5 (fre (op2 fdivI (op2 subD (frz (op2F addS (varM 4) (varM 0))) (M.pure (.int 1))) (varM 0)))) (exprM (appM 2 (frz (tupM (consM (frz (op2F addS (op2 subD (varM 3) (varM 5)) (M.pure (.int 1)))) (consM (op2 subD (frz (op2F addS (varM 3) (varM 5))) (M.pure (.int 1))) (M.pure [])))))))) Out.nx)
noncomputable def b_gaps_for : EnvD → Out := (seqM (setM 2 (lstM (M.pure []))) (seqM (forM (seqM' (varM 1)) (gTupD 2 (gsCons (setFr 3) (gsCons (setFr 4) gsNil))) gaps_for_b1) (retM (movM 2))))
noncomputable def f_gaps_for : List D → Res S := defD 2 6 b_gaps_for
noncomputable def times_at_e1 : M D := (frz (tupM (consM (frz (op2F itemS (varM 7) (M.pure (.int 0)))) (consM (op2 subD (frz (op2F itemS (varM 6) (frz (op2F itemS (varM 7) (M.pure (.int 1)))))) (frz (op2F itemS (varM 7) (M.pure (.int 2))))) (M.pure [])))))
noncomputable def times_at_s1 : M S := (callM f_without_gaps (consM (varM 4) (consM (varM 5) (consM (frz (callM f_gaps_for (consM (varM 1) (consM (frz (compM (seqM' (varM 2)) [7] (setFr 7) yesM times_at_e1)) (M.pure []))))) (M.pure [])))))
noncomputable def b_times_at : EnvD → Out := (seqM (exprM (callM f_check_all (consM (varM 0) (consM (varM 1) (consM (varM 2) (M.pure [])))))) (seqM (exprM (callM f_check_place (consM (varM 0) (consM (varM 3) (M.pure []))))) (seqM (exprM (callM f_check_span (consM (varM 4) (consM (varM 5) (M.pure []))))) (seqM (ifM (notT (tst (frz (callM f_are_of_one (consM (varM 0) (consM (varM 1) (consM (varM 2) (M.pure [])))))))) (retM (lstM (M.pure []))) Out.nx) (seqM (setM 6 (fre (frz (callM f_distances_from (consM (varM 0) (consM (varM 3) (M.pure []))))))) (retM times_at_s1))))))
noncomputable def f_times_at : List D → Res S := defD 6 8 b_times_at
noncomputable def _law_far_right_s1 : M S := (fre (frz (callM f_times_at (consM (varM 0) (consM (varM 1) (consM (varM 2) (consM (varM 3) (consM (M.pure (.int 0)) (consM (op2 powI (M.pure (.int 10)) (M.pure (.int 9))) (M.pure []))))))))))
noncomputable def _law_far_right_b1 : EnvD → Out := (ifM (tst (op2 ltD (frz (op2F itemS (varM 6) (M.pure (.int 0)))) (frz (op2F addS (frz (op2F itemS (varM 5) (M.pure (.int 1)))) (M.pure (.int 2)))))) (retM (fre (M.pure (.bool false)))) Out.nx)
noncomputable def _law_far_right_t1 : M Bool := (andT (tst (chainM leI leI (M.pure (.int 0)) (varM 9) (op2 powI (M.pure (.int 10)) (M.pure (.int 9))))) (tst (op2 neD (op2 inD (varM 3) (frz (callM f_places_at (consM (varM 0) (consM (varM 1) (consM (varM 2) (consM (varM 9) (M.pure [])))))))) (varM 10))))
noncomputable def _law_far_right_b2 : EnvD → Out := (ifM _law_far_right_t1 (retM (fre (M.pure (.bool false)))) Out.nx)
noncomputable def _law_far_right_i1 : M (List D) := (seqM' (frz (lstM (consM (frz (tupM (consM (varM 7) (consM (M.pure (.bool true)) (M.pure []))))) (consM (frz (tupM (consM (varM 8) (consM (M.pure (.bool true)) (M.pure []))))) (consM (frz (tupM (consM (op2 subD (varM 7) (M.pure (.int 1))) (consM (M.pure (.bool false)) (M.pure []))))) (consM (frz (tupM (consM (frz (op2F addS (varM 8) (M.pure (.int 1)))) (consM (M.pure (.bool false)) (M.pure []))))) (M.pure []))))))))
noncomputable def _law_far_right_b3 : EnvD → Out := (seqM (ifM (tst (op2 gtI (varM 7) (varM 8))) (retM (fre (M.pure (.bool false)))) Out.nx) (forM _law_far_right_i1 (gTupD 2 (gsCons (setFr 9) (gsCons (setFr 10) gsNil))) _law_far_right_b2))
noncomputable def b__law_far_right : EnvD → Out := (seqM (setM 4 _law_far_right_s1) (seqM (forM (rgM zipO (consM (varM 4) (consM (frz (sliceM (varM 4) (loM (M.pure (.int 1))) (M.pure none))) (M.pure [])))) (gTupD 2 (gsCons (setFr 5) (gsCons (setFr 6) gsNil))) _law_far_right_b1) (seqM (forM (seqM' (varM 4)) (gTupD 2 (gsCons (setFr 7) (gsCons (setFr 8) gsNil))) _law_far_right_b3) (retM (fre (M.pure (.bool true)))))))
noncomputable def f__law_far_right : List D → Res S := defD 4 11 b__law_far_right
noncomputable def _law_ranges_t1 : M Bool := (andT (tst (frz (op2V 1 neS (frz (lstM (M.pure [])))))) (tst (op2 eqD (frz (op2F itemS (frz (op2V 1 itemS (negD (M.pure (.int 1))))) (M.pure (.int 1)))) (op2 subD (varM 2) (M.pure (.int 1))))))
noncomputable def _law_ranges_b1 : EnvD → Out := (ifM _law_ranges_t1 (stM 1 (frz (tupM (consM (frz (op2F itemS (frz (op2V 1 itemS (negD (M.pure (.int 1))))) (M.pure (.int 0)))) (consM (varM 2) (M.pure []))))) (negD (M.pure (.int 1)))) (exprM (appM 1 (frz (tupM (consM (varM 2) (consM (varM 2) (M.pure []))))))))
noncomputable def b__law_ranges : EnvD → Out := (seqM (setM 1 (lstM (M.pure []))) (seqM (forM (seqM' (varM 0)) (setFr 2) _law_ranges_b1) (retM (movM 1))))
noncomputable def f__law_ranges : List D → Res S := defD 1 3 b__law_ranges
noncomputable def b_check_one : EnvD → Out := (seqM (exprM (callM f_check_all (consM (varM 0) (consM (varM 1) (consM (varM 2) (M.pure [])))))) (exprM (callM f_check_index (consM (varM 2) (consM (varM 3) (M.pure []))))))
noncomputable def f_check_one : List D → Res S := defD 4 4 b_check_one
noncomputable def b_others_of : EnvD → Out := (retM (op2F addS (frz (sliceM (varM 0) (M.pure none) (loM (varM 1)))) (frz (sliceM (varM 0) (loM (frz (op2F addS (varM 1) (M.pure (.int 1))))) (M.pure none)))))
noncomputable def f_others_of : List D → Res S := defD 2 2 b_others_of
noncomputable def least_radius_e1 : M D := (op2 subD (op2 subD (frz (op2F itemS (varM 8) (frz (op2F itemS (varM 9) (M.pure (.int 1)))))) (frz (op2F itemS (varM 9) (M.pure (.int 2))))) (frz (op2F mulS (varM 1) (frz (bltM absS (consM (op2 subD (varM 5) (frz (op2F itemS (varM 9) (M.pure (.int 0))))) (M.pure [])))))))
noncomputable def least_radius_s1 : M S := (bltM maxLS (consM (frz (op2F addS (frz (lstM (consM (M.pure (.int 0)) (M.pure [])))) (frz (compM (seqM' (varM 4)) [9] (setFr 9) yesM least_radius_e1)))) (M.pure [])))
noncomputable def b_least_radius : EnvD → Out := (seqM (exprM (callM f_check_one (consM (varM 0) (consM (varM 1) (consM (varM 2) (consM (varM 3) (M.pure []))))))) (seqM (setM 4 (fre (frz (callM f_others_of (consM (varM 2) (consM (varM 3) (M.pure []))))))) (seqM (ifM (notT (tst (frz (callM f_are_of_one (consM (varM 0) (consM (varM 1) (consM (varM 4) (M.pure [])))))))) (retM (fre (M.pure .none))) Out.nx) (seqM (asgM (gTupD 3 (gsCons (setFr 5) (gsCons (setFr 6) (gsCons (setFr 7) gsNil)))) (frz (op2F itemS (varM 2) (varM 3)))) (seqM (setM 8 (fre (frz (callM f_distances_from (consM (varM 0) (consM (varM 6) (M.pure []))))))) (retM least_radius_s1))))))
noncomputable def f_least_radius : List D → Res S := defD 4 10 b_least_radius
noncomputable def possible_places_t1 : M Bool := (tst (frz (callM f_are_of_one (consM (varM 0) (consM (varM 1) (consM (frz (op2F addS (frz (op2F addS (frz (sliceM (varM 2) (M.pure none) (loM (varM 3)))) (frz (tupM (consM (frz (tupM (consM (varM 4) (consM (varM 8) (consM (varM 6) (M.pure [])))))) (M.pure [])))))) (frz (sliceM (varM 2) (loM (frz (op2F addS (varM 3) (M.pure (.int 1))))) (M.pure none))))) (M.pure [])))))))
noncomputable def possible_places_b1 : EnvD → Out := (ifM possible_places_t1 (exprM (appM 7 (varM 8))) Out.nx)
noncomputable def b_possible_places : EnvD → Out := (seqM (exprM (callM f_check_one (consM (varM 0) (consM (varM 1) (consM (varM 2) (consM (varM 3) (M.pure []))))))) (seqM (asgM (gTupD 3 (gsCons (setFr 4) (gsCons (setFr 5) (gsCons (setFr 6) gsNil)))) (frz (op2F itemS (varM 2) (varM 3)))) (seqM (setM 7 (lstM (M.pure []))) (seqM (forM (rgM rg1 (consM (frz (op2F addS (frz (bltM lenS (consM (varM 0) (M.pure [])))) (M.pure (.int 1)))) (M.pure []))) (setFr 8) possible_places_b1) (retM (movM 7))))))
noncomputable def f_possible_places : List D → Res S := defD 4 9 b_possible_places
noncomputable def _law_fits_s1 : M S := (fre (op2 notInD (frz (lstM (M.pure []))) (frz (callM f__law_layers (consM (varM 0) (consM (varM 1) (consM (varM 2) (consM (M.pure (.int 0)) (consM (M.pure (.int 0)) (M.pure []))))))))))
noncomputable def b__law_fits : EnvD → Out := (retM _law_fits_s1)
noncomputable def f__law_fits : List D → Res S := defD 3 3 b__law_fits
noncomputable def possible_times_e1 : M D := (frz (tupM (consM (frz (op2F itemS (varM 12) (M.pure (.int 0)))) (consM (op2 subD (op2 subD (frz (op2F itemS (varM 10) (frz (op2F itemS (varM 12) (M.pure (.int 1)))))) (frz (op2F itemS (varM 12) (M.pure (.int 2))))) (varM 9)) (M.pure [])))))
noncomputable def b_possible_times : EnvD → Out := (seqM (exprM (callM f_check_one (consM (varM 0) (consM (varM 1) (consM (varM 2) (consM (varM 3) (M.pure []))))))) (seqM (exprM (callM f_check_span (consM (varM 4) (consM (varM 5) (M.pure []))))) (seqM (setM 6 (fre (frz (callM f_others_of (consM (varM 2) (consM (varM 3) (M.pure []))))))) (seqM (ifM (notT (tst (frz (callM f_are_of_one (consM (varM 0) (consM (varM 1) (consM (varM 6) (M.pure [])))))))) (retM (lstM (M.pure []))) Out.nx) (seqM (asgM (gTupD 3 (gsCons (setFr 7) (gsCons (setFr 8) (gsCons (setFr 9) gsNil)))) (frz (op2F itemS (varM 2) (varM 3)))) (seqM (setM 10 (fre (frz (callM f_distances_from (consM (varM 0) (consM (varM 8) (M.pure []))))))) (seqM (setM 11 (fre (frz (compM (seqM' (varM 6)) [12] (setFr 12) yesM possible_times_e1)))) (retM (callM f_without_gaps (consM (varM 4) (consM (varM 5) (consM (frz (callM f_gaps_for (consM (varM 1) (consM (varM 11) (M.pure []))))) (M.pure [])))))))))))))
noncomputable def f_possible_times : List D → Res S := defD 6 13 b_possible_times
noncomputable def _law_good_s1 : M S := (fre (frz (op2F addS (frz (sliceM (varM 2) (M.pure none) (loM (varM 3)))) (frz (sliceM (varM 2) (loM (frz (op2F addS (varM 3) (M.pure (.int 1))))) (M.pure none))))))
noncomputable def _law_good_s2 : M S := (fre (op2 eqD (frz (callM f__law_pairs (consM (varM 0) (consM (varM 1) (consM (frz (op2F addS (varM 6) (frz (tupM (consM (varM 5) (M.pure [])))))) (M.pure [])))))) (frz (lstM (M.pure [])))))
noncomputable def b__law_good : EnvD → Out := (seqM (setM 5 (fre (frz (op2F addS (frz (tupM (consM (varM 4) (M.pure [])))) (frz (sliceM (frz (op2F itemS (varM 2) (varM 3))) (loM (M.pure (.int 1))) (M.pure none))))))) (seqM (setM 6 _law_good_s1) (retM _law_good_s2)))
noncomputable def f__law_good : List D → Res S := defD 5 7 b__law_good
noncomputable def false_sightings_c1 : M Bool := (tst (frz (callM f_are_of_one (consM (varM 0) (consM (varM 1) (consM (frz (callM f_others_of (consM (varM 2) (consM (varM 3) (M.pure []))))) (M.pure [])))))))
noncomputable def b_false_sightings : EnvD → Out := (seqM (exprM (callM f_check_all (consM (varM 0) (consM (varM 1) (consM (varM 2) (M.pure [])))))) (seqM (ifM (tst (frz (callM f_are_of_one (consM (varM 0) (consM (varM 1) (consM (varM 2) (M.pure []))))))) (retM (lstM (M.pure []))) Out.nx) (retM (compM (rgM rg1 (consM (frz (bltM lenS (consM (varM 2) (M.pure [])))) (M.pure []))) [3] (setFr 3) false_sightings_c1 (varM 3)))))
noncomputable def f_false_sightings : List D → Res S := defD 3 4 b_false_sightings
noncomputable def least_speed_b1 : EnvD → Out := (seqM (parM [7, 8] (consF (fre (op2 subD (op2 subD (frz (op2F itemS (varM 5) (frz (op2F itemS (varM 6) (M.pure (.int 1)))))) (frz (op2F itemS (varM 4) (M.pure (.int 2))))) (frz (op2F itemS (varM 6) (M.pure (.int 2)))))) (consF (fre (frz (bltM absS (consM (op2 subD (frz (op2F itemS (varM 4) (M.pure (.int 0)))) (frz (op2F itemS (varM 6) (M.pure (.int 0))))) (M.pure []))))) (M.pure [])))) (ifM (tst (op2 gtI (varM 7) (M.pure (.int 0)))) (seqM (ifM (tst (op2 eqD (varM 8) (M.pure (.int 0)))) (retM (fre (M.pure .none))) Out.nx) (setM 2 (bltM max2S (consM (varM 2) (consM (op2 fdivI (op2 subD (frz (op2F addS (varM 7) (varM 8))) (M.pure (.int 1))) (varM 8)) (M.pure [])))))) Out.nx))
noncomputable def least_speed_b2 : EnvD → Out := (seqM (setM 5 (fre (frz (callM f_distances_from (consM (varM 0) (consM (frz (op2F itemS (varM 4) (M.pure (.int 1)))) (M.pure []))))))) (forM (seqM' (frz (sliceM (varM 1) (M.pure none) (loM (varM 3))))) (setFr 6) least_speed_b1))
noncomputable def b_least_speed : EnvD → Out := (seqM (exprM (callM f_check_network (consM (varM 0) (M.pure [])))) (seqM (exprM (callM f_check_sightings (consM (varM 0) (consM (varM 1) (M.pure []))))) (seqM (setM 2 (fre (M.pure (.int 1)))) (seqM (forM (rgM enumO (consM (varM 1) (M.pure []))) (gTupD 2 (gsCons (setFr 3) (gsCons (setFr 4) gsNil))) least_speed_b2) (retM (movM 2))))))
noncomputable def f_least_speed : List D → Res S := defD 2 9 b_least_speed
end Lf

/-! F: the lifted functions of all laws (printed by gen2.py). -/
namespace Lf
open PySem PySem.Spec PyProof.Rows L2
noncomputable def _law_walk_c1 : M Bool := (orT (tst (frz (op2V 4 eqS (frz (lstM (M.pure [])))))) (tst (op2 leI (frz (op2F itemS (frz (op2F itemS (varM 1) (frz (op2V 4 itemS (negD (M.pure (.int 1))))))) (varM 7))) (varM 2))))
noncomputable def _law_walk_b1 : EnvD → Out := (seqM (setM 6 (fre (frz (compM (seqM' (varM 5)) [7] (setFr 7) _law_walk_c1 (varM 7))))) (seqM (ifM (orT (tst (op2 eqD (varM 6) (frz (lstM (M.pure []))))) (tst (op2 eqD (frz (callIO 0 f__law_draw (consM (M.pure (.int 12)) (M.pure [])))) (M.pure (.int 0))))) (setM 6 (fre (frz (lrg1M (frz (bltM lenS (consM (varM 1) (M.pure [])))))))) Out.nx) (exprM (appM 4 (frz (callIO 0 f__law_choice (consM (varM 6) (M.pure []))))))))
noncomputable def b__law_walk : EnvD → Out := (seqM (setM 4 (lstM (M.pure []))) (seqM (forM (seqM' (varM 3)) (setFr 5) _law_walk_b1) (retM (movM 4))))
noncomputable def f__law_walk : D → List D → Res (S × D) := defIO 4 8 b__law_walk
noncomputable def _law_is_part_c1 : M Bool := (orT (notT (tst (frz (callM f__law_is_int (consM (varM 7) (M.pure [])))))) (notT (tst (chainM leI leI (M.pure (.int 0)) (varM 7) (frz (bltM lenS (consM (varM 0) (M.pure []))))))))
noncomputable def _law_is_part_e1 : M D := (frz (tupM (consM (frz (op2F addS (varM 4) (varM 8))) (consM (varM 7) (consM (M.pure (.int 0)) (M.pure []))))))
noncomputable def _law_is_part_s1 : M S := (fre (frz (bltM tupleS (consM (frz (compM (rgM enumO (consM (varM 5) (M.pure []))) [8, 7] (gTupD 2 (gsCons (setFr 8) (gsCons (setFr 7) gsNil))) yesM _law_is_part_e1)) (M.pure [])))))
noncomputable def _law_is_part_s2 : M S := (fre (op2 notInD (frz (lstM (M.pure []))) (frz (callM f__law_layers (consM (varM 1) (consM (varM 2) (consM (frz (op2F addS (varM 3) (varM 6))) (consM (varM 4) (consM (varM 4) (M.pure []))))))))))
noncomputable def b__law_is_part : EnvD → Out := (seqM (ifM (orT (notT (tst (isiM isLst (varM 5)))) (notT (tst (chainM leI leI (M.pure (.int 1)) (frz (bltM lenS (consM (varM 5) (M.pure [])))) (M.pure (.int 200)))))) (retM (fre (M.pure (.bool false)))) Out.nx) (seqM (ifM (tst (op2 neD (frz (compM (seqM' (varM 5)) [7] (setFr 7) _law_is_part_c1 (varM 7))) (frz (lstM (M.pure []))))) (retM (fre (M.pure (.bool false)))) Out.nx) (seqM (setM 6 _law_is_part_s1) (retM _law_is_part_s2))))
noncomputable def f__law_is_part : List D → Res S := defD 6 9 b__law_is_part
noncomputable def is_part_e1 : M D := (frz (callM f_is_between (consM (varM 7) (consM (M.pure (.int 0)) (consM (frz (bltM lenS (consM (varM 0) (M.pure [])))) (M.pure []))))))
noncomputable def is_part_e2 : M D := (op2 leI (frz (op2F itemS (frz (op2F itemS (varM 5) (varM 8))) (varM 9))) (varM 1))
noncomputable def is_part_t1 : M Bool := (notT (tst (frz (bltM allS (consM (frz (compM (rgM zipO (consM (varM 4) (consM (frz (sliceM (varM 4) (loM (M.pure (.int 1))) (M.pure none))) (M.pure [])))) [8, 9] (gTupD 2 (gsCons (setFr 8) (gsCons (setFr 9) gsNil))) yesM is_part_e2)) (M.pure []))))))
noncomputable def is_part_s1 : M S := (fre (frz (callM f_layers (consM (varM 0) (consM (varM 1) (consM (varM 2) (consM (varM 3) (consM (frz (bltM lenS (consM (varM 4) (M.pure [])))) (M.pure [])))))))))
noncomputable def is_part_s2 : M S := (bltM allS (consM (frz (compM (rgM zipO (consM (varM 4) (consM (varM 6) (M.pure [])))) [7, 10] (gTupD 2 (gsCons (setFr 7) (gsCons (setFr 10) gsNil))) yesM (op2 inD (varM 7) (varM 10)))) (M.pure [])))
noncomputable def b_is_part : EnvD → Out := (seqM (exprM (callM f_check_all (consM (varM 0) (consM (varM 1) (consM (varM 2) (M.pure [])))))) (seqM (exprM (callM f_check_time (consM (varM 3) (M.pure [])))) (seqM (ifM (orT (notT (tst (isiM isLst (varM 4)))) (notT (tst (chainM leI leI (M.pure (.int 1)) (frz (bltM lenS (consM (varM 4) (M.pure [])))) (M.pure (.int 200)))))) (retM (fre (M.pure (.bool false)))) Out.nx) (seqM (ifM (notT (tst (frz (bltM allS (consM (frz (compM (seqM' (varM 4)) [7] (setFr 7) yesM is_part_e1)) (M.pure [])))))) (retM (fre (M.pure (.bool false)))) Out.nx) (seqM (setM 5 (fre (frz (callM f_all_distances (consM (varM 0) (M.pure [])))))) (seqM (ifM is_part_t1 (retM (fre (M.pure (.bool false)))) Out.nx) (seqM (setM 6 is_part_s1) (retM is_part_s2))))))))
noncomputable def f_is_part : List D → Res S := defD 5 11 b_is_part
noncomputable def b_check_part : EnvD → Out := (seqM (exprM (callM f_check_all (consM (varM 0) (consM (varM 1) (consM (varM 2) (M.pure [])))))) (seqM (exprM (callM f_check_time (consM (varM 3) (M.pure [])))) (ifM (notT (tst (frz (callM f_is_between (consM (varM 4) (consM (M.pure (.int 1)) (consM (varM 5) (M.pure [])))))))) (raiseM "InvalidCount") Out.nx)))
noncomputable def f_check_part : List D → Res S := defD 6 6 b_check_part
noncomputable def part_c1 : M Bool := (tst (op2 leI (frz (op2F itemS (frz (op2F itemS (varM 6) (frz (op2V 7 itemS (negD (M.pure (.int 1))))))) (varM 9))) (varM 1)))
noncomputable def part_b1 : EnvD → Out := (exprM (appM 7 (frz (op2F itemS (frz (compM (seqM' (varM 8)) [9] (setFr 9) part_c1 (varM 9))) (M.pure (.int 0))))))
noncomputable def b_part : EnvD → Out := (seqM (exprM (callM f_check_part (consM (varM 0) (consM (varM 1) (consM (varM 2) (consM (varM 3) (consM (varM 4) (consM (M.pure (.int 200)) (M.pure []))))))))) (seqM (setM 5 (fre (frz (callM f_layers (consM (varM 0) (consM (varM 1) (consM (varM 2) (consM (varM 3) (consM (varM 4) (M.pure [])))))))))) (seqM (ifM (tst (op2 eqD (frz (op2F itemS (varM 5) (M.pure (.int 0)))) (frz (lstM (M.pure []))))) (retM (fre (M.pure .none))) Out.nx) (seqM (setM 6 (fre (frz (callM f_all_distances (consM (varM 0) (M.pure [])))))) (seqM (setM 7 (lstM (consM (frz (op2F itemS (frz (op2F itemS (varM 5) (M.pure (.int 0)))) (M.pure (.int 0)))) (M.pure [])))) (seqM (forM (seqM' (frz (sliceM (varM 5) (loM (M.pure (.int 1))) (M.pure none)))) (setFr 8) part_b1) (retM (movM 7))))))))
noncomputable def f_part : List D → Res S := defD 5 10 b_part
noncomputable def _law_all_parts_c1 : M Bool := (tst (op2 leI (frz (op2F itemS (frz (op2F itemS (varM 0) (frz (op2F itemS (varM 6) (negD (M.pure (.int 1))))))) (varM 7))) (varM 1)))
noncomputable def _law_all_parts_s1 : M S := (fre (frz (op2F addS (varM 5) (frz (compM (seqM' (varM 4)) [7] (setFr 7) _law_all_parts_c1 (frz (op2F addS (varM 6) (frz (lstM (consM (varM 7) (M.pure [])))))))))))
noncomputable def _law_all_parts_b1 : EnvD → Out := (setM 5 _law_all_parts_s1)
noncomputable def _law_all_parts_b2 : EnvD → Out := (seqM (setM 5 (fre (frz (lstM (M.pure []))))) (seqM (forM (seqM' (varM 3)) (setFr 6) _law_all_parts_b1) (setM 3 (fre (varM 5)))))
noncomputable def b__law_all_parts : EnvD → Out := (seqM (setM 3 (compM (seqM' (frz (op2F itemS (varM 2) (M.pure (.int 0))))) [7] (setFr 7) yesM (frz (lstM (consM (varM 7) (M.pure [])))))) (seqM (forM (seqM' (frz (sliceM (varM 2) (loM (M.pure (.int 1))) (M.pure none)))) (setFr 4) _law_all_parts_b2) (retM (movM 3))))
noncomputable def f__law_all_parts : List D → Res S := defD 3 8 b__law_all_parts
noncomputable def side_of_c1 : M Bool := (tst (op2 ltD (frz (op2F itemS (varM 3) (varM 5))) (frz (op2F itemS (varM 4) (varM 5)))))
noncomputable def b_side_of : EnvD → Out := (seqM (parM [3, 4] (consF (fre (frz (callM f_distances_from (consM (varM 0) (consM (varM 2) (M.pure [])))))) (consF (fre (frz (callM f_distances_from (consM (varM 0) (consM (varM 1) (M.pure [])))))) (M.pure [])))) (retM (compM (rgM rg1 (consM (frz (op2F addS (frz (bltM lenS (consM (varM 0) (M.pure [])))) (M.pure (.int 1)))) (M.pure []))) [5] (setFr 5) side_of_c1 (varM 5))))
noncomputable def f_side_of : List D → Res S := defD 3 6 b_side_of
noncomputable def moved_into_s1 : M S := (fre (frz (bltM max2S (consM (frz (op2F itemS (varM 0) (M.pure (.int 0)))) (consM (frz (bltM min2S (consM (frz (op2F itemS (varM 0) (M.pure (.int 1)))) (consM (varM 3) (M.pure []))))) (M.pure []))))))
noncomputable def moved_into_s2 : M S := (tupM (consM (varM 6) (consM (varM 4) (consM (frz (op2F addS (varM 5) (frz (op2F mulS (varM 1) (frz (bltM absS (consM (op2 subD (varM 3) (varM 6)) (M.pure [])))))))) (M.pure [])))))
noncomputable def b_moved_into : EnvD → Out := (seqM (asgM (gTupD 3 (gsCons (setFr 3) (gsCons (setFr 4) (gsCons (setFr 5) gsNil)))) (varM 2)) (seqM (setM 6 moved_into_s1) (retM moved_into_s2)))
noncomputable def f_moved_into : List D → Res S := defD 3 7 b_moved_into
noncomputable def _law_stays_s1 : M S := (fre (frz (op2F addS (frz (compM (seqM' (varM 2)) [13] (setFr 13) yesM (frz (op2F itemS (varM 13) (M.pure (.int 0)))))) (frz (lstM (consM (varM 4) (consM (varM 5) (M.pure []))))))))
noncomputable def _law_stays_c1 : M Bool := (tst (op2 leI (frz (op2F itemS (frz (op2F itemS (varM 0) (varM 11))) (varM 13))) (varM 12)))
noncomputable def _law_stays_b1 : EnvD → Out := (ifM (tst (op2 eqD (varM 10) (varM 8))) (setM 9 (fre (frz (compM (seqM' (varM 9)) [13] (setFr 13) _law_stays_c1 (varM 13))))) Out.nx)
noncomputable def _law_stays_c2 : M Bool := (tst (op2 leI (frz (op2F itemS (frz (op2F itemS (varM 0) (varM 14))) (varM 13))) (varM 1)))
noncomputable def _law_stays_c3 : M Bool := (tst (op2 neD (frz (compM (seqM' (varM 7)) [14] (setFr 14) _law_stays_c2 (M.pure (.int 1)))) (frz (lstM (M.pure [])))))
noncomputable def _law_stays_b2 : EnvD → Out := (seqM (setM 9 (fre (frz (ifV (tst (chainM leI leI (varM 4) (varM 8) (varM 5))) (fre (varM 3)) (lrg1M (frz (bltM lenS (consM (varM 0) (M.pure []))))))))) (seqM (forM (seqM' (varM 2)) (gTupD 3 (gsCons (setFr 10) (gsCons (setFr 11) (gsCons (setFr 12) gsNil)))) _law_stays_b1) (seqM (ifM (tst (op2 gtI (varM 8) (frz (bltM minLS (consM (varM 6) (M.pure [])))))) (setM 9 (fre (frz (compM (seqM' (varM 9)) [13] (setFr 13) _law_stays_c3 (varM 13))))) Out.nx) (setM 7 (fre (varM 9))))))
noncomputable def _law_stays_i1 : M (List D) := (rgM rg2 (consM (frz (bltM minLS (consM (varM 6) (M.pure [])))) (consM (frz (op2F addS (frz (bltM maxLS (consM (varM 6) (M.pure [])))) (M.pure (.int 1)))) (M.pure []))))
noncomputable def b__law_stays : EnvD → Out := (seqM (setM 6 _law_stays_s1) (seqM (setM 7 (fre (frz (lstM (M.pure []))))) (seqM (forM _law_stays_i1 (setFr 8) _law_stays_b2) (retM (fre (op2 neD (varM 7) (frz (lstM (M.pure [])))))))))
noncomputable def f__law_stays : List D → Res S := defD 6 15 b__law_stays
noncomputable def _law_several_s1 : M S := (fre (frz (op2F addS (varM 3) (frz (callIO 0 f__law_sighted (consM (varM 1) (consM (varM 2) (consM (M.pure (.int 4)) (consM (M.pure (.int 4)) (M.pure []))))))))))
noncomputable def _law_several_b1 : EnvD → Out := (setM 3 _law_several_s1)
noncomputable def b__law_several : EnvD → Out := (seqM (setM 3 (fre (frz (tupM (M.pure []))))) (seqM (forM (rgM rg1 (consM (frz (op2F addS (M.pure (.int 1)) (frz (callIO 0 f__law_draw (consM (M.pure (.int 3)) (M.pure [])))))) (M.pure []))) (setFr 4) _law_several_b1) (retM (sliceM (varM 3) (M.pure none) (loM (M.pure (.int 8)))))))
noncomputable def f__law_several : D → List D → Res (S × D) := defIO 3 5 b__law_several
noncomputable def line_up_c1 : M Bool := (tst (op2 (isN false) (frz (op2F itemS (varM 0) (frz (op2V 2 itemS (negD (M.pure (.int 1))))))) (M.pure .none)))
noncomputable def line_up_b1 : EnvD → Out := (exprM (appM 2 (frz (op2F itemS (varM 0) (frz (op2V 2 itemS (negD (M.pure (.int 1)))))))))
noncomputable def b_line_up : EnvD → Out := (seqM (setM 2 (lstM (consM (varM 1) (M.pure [])))) (seqM (whD line_up_c1 line_up_b1 fuel) (retM (movM 2))))
noncomputable def f_line_up : List D → Res S := defD 2 3 b_line_up
noncomputable def rivals_d1 : FnD := (seqD2 (napM 3 (varM 4) (varM 5)) (napM 3 (varM 5) (varM 4)))
noncomputable def b_rivals : EnvD → Out := (deepM 3 (seqM' (varM 2)) [6] (setFr 6) (lstM (M.pure [])) (seqD2 (forDM 3 (seqM' (frz (callM f_all_contradictions (consM (varM 0) (consM (varM 1) (consM (varM 2) (M.pure []))))))) (gTupD 2 (gsCons (setFr 4) (gsCons (setFr 5) gsNil))) rivals_d1) (retD 3)))
noncomputable def f_rivals : List D → Res S := defD 3 7 b_rivals
noncomputable def _law_power_b1 : EnvD → Out := (setM 1 (op2F mulS (varM 1) (M.pure (.int 2))))
noncomputable def b__law_power : EnvD → Out := (seqM (setM 1 (fre (M.pure (.int 1)))) (seqM (forM (rgM rg1 (consM (varM 0) (M.pure []))) (setFr 2) _law_power_b1) (retM (movM 1))))
noncomputable def f__law_power : List D → Res S := defD 1 3 b__law_power
noncomputable def _law_two_fit_e1 : M D := (op2 modI (op2 fdivI (varM 2) (frz (callM f__law_power (consM (varM 4) (M.pure []))))) (M.pure (.int 2)))
noncomputable def _law_two_fit_c1 : M Bool := (tst (op2 eqD (frz (op2F itemS (varM 3) (varM 5))) (frz (op2F itemS (varM 3) (varM 6)))))
noncomputable def _law_two_fit_t1 : M Bool := (tst (op2 eqD (frz (compM (seqM' (varM 0)) [5, 6] (gTupD 2 (gsCons (setFr 5) (gsCons (setFr 6) gsNil))) _law_two_fit_c1 (M.pure (.int 1)))) (frz (lstM (M.pure [])))))
noncomputable def _law_two_fit_b1 : EnvD → Out := (seqM (setM 3 (fre (frz (compM (rgM rg1 (consM (varM 1) (M.pure []))) [4] (setFr 4) yesM _law_two_fit_e1)))) (ifM _law_two_fit_t1 (retM (fre (M.pure (.bool true)))) Out.nx))
noncomputable def b__law_two_fit : EnvD → Out := (seqM (forM (rgM rg1 (consM (frz (callM f__law_power (consM (varM 1) (M.pure [])))) (M.pure []))) (setFr 2) _law_two_fit_b1) (retM (fre (M.pure (.bool false)))))
noncomputable def f__law_two_fit : List D → Res S := defD 2 7 b__law_two_fit
noncomputable def _law_split_right_t1 : M Bool := (orT (notT (tst (isiM isTup (varM 2)))) (orT (tst (op2 neD (frz (bltM lenS (consM (varM 2) (M.pure [])))) (M.pure (.int 2)))) (notT (tst (isiM isTup (frz (op2F itemS (varM 2) (M.pure (.int 0)))))))))
noncomputable def _law_split_right_t2 : M Bool := (orT (notT (tst (isiM isTup (frz (op2F itemS (varM 2) (M.pure (.int 1))))))) (tst (op2 neD (frz (bltM sortS (consM (frz (op2F addS (frz (op2F itemS (varM 2) (M.pure (.int 0)))) (frz (op2F itemS (varM 2) (M.pure (.int 1)))))) (M.pure [])))) (frz (lrg1M (varM 1))))))
noncomputable def _law_split_right_c1 : M Bool := (andT (tst (op2 inD (varM 4) (varM 3))) (tst (op2 inD (varM 5) (varM 3))))
noncomputable def _law_split_right_t3 : M Bool := (tst (op2 neD (frz (compM (seqM' (varM 0)) [4, 5] (gTupD 2 (gsCons (setFr 4) (gsCons (setFr 5) gsNil))) _law_split_right_c1 (M.pure (.int 1)))) (frz (lstM (M.pure [])))))
noncomputable def _law_split_right_b1 : EnvD → Out := (seqM (ifM (tst (op2 neD (frz (bltM listS (consM (varM 3) (M.pure [])))) (frz (bltM sortS (consM (varM 3) (M.pure [])))))) (retM (fre (M.pure (.bool false)))) Out.nx) (ifM _law_split_right_t3 (retM (fre (M.pure (.bool false)))) Out.nx))
noncomputable def b__law_split_right : EnvD → Out := (seqM (ifM _law_split_right_t1 (retM (fre (M.pure (.bool false)))) Out.nx) (seqM (ifM _law_split_right_t2 (retM (fre (M.pure (.bool false)))) Out.nx) (seqM (forM (seqM' (varM 2)) (setFr 3) _law_split_right_b1) (retM (fre (M.pure (.bool true)))))))
noncomputable def f__law_split_right : List D → Res S := defD 3 6 b__law_split_right
noncomputable def _law_splits_e1 : M D := (op2 modI (op2 fdivI (varM 3) (frz (callM f__law_power (consM (varM 5) (M.pure []))))) (M.pure (.int 2)))
noncomputable def _law_splits_c1 : M Bool := (tst (op2 eqD (frz (op2F itemS (varM 4) (varM 6))) (frz (op2F itemS (varM 4) (varM 7)))))
noncomputable def _law_splits_t1 : M Bool := (tst (op2 eqD (frz (compM (seqM' (varM 0)) [6, 7] (gTupD 2 (gsCons (setFr 6) (gsCons (setFr 7) gsNil))) _law_splits_c1 (M.pure (.int 1)))) (frz (lstM (M.pure [])))))
noncomputable def _law_splits_b1 : EnvD → Out := (seqM (setM 4 (fre (frz (compM (rgM rg1 (consM (varM 1) (M.pure []))) [5] (setFr 5) yesM _law_splits_e1)))) (ifM _law_splits_t1 (exprM (appM 2 (varM 4))) Out.nx))
noncomputable def b__law_splits : EnvD → Out := (seqM (setM 2 (lstM (M.pure []))) (seqM (forM (rgM rg1 (consM (frz (callM f__law_power (consM (varM 1) (M.pure [])))) (M.pure []))) (setFr 3) _law_splits_b1) (retM (movM 2))))
noncomputable def f__law_splits : List D → Res S := defD 2 8 b__law_splits
noncomputable def can_be_t1 (g : List D → Res S) : M Bool := (tst (frz (callM g (consM (varM 0) (consM (frz (op2F addS (frz (op2F addS (frz (sliceM (varM 1) (M.pure none) (loM (varM 3)))) (frz (lstM (consM (frz (op2F addS (varM 4) (frz (lstM (consM (varM 2) (M.pure [])))))) (M.pure [])))))) (frz (sliceM (varM 1) (loM (frz (op2F addS (varM 3) (M.pure (.int 1))))) (M.pure none))))) (consM (frz (op2F addS (varM 2) (M.pure (.int 1)))) (M.pure [])))))))
noncomputable def can_be_b1 (g : List D → Res S) : EnvD → Out := (seqM (ifM (notT (tst (frz (bltM anyS (consM (frz (compM (seqM' (varM 4)) [5] (setFr 5) yesM (op2 inD (varM 5) (frz (op2F itemS (varM 0) (varM 2)))))) (M.pure [])))))) (ifM (can_be_t1 g) (retM (fre (M.pure (.bool true)))) Out.nx) Out.nx) (ifM (tst (op2 eqD (varM 4) (frz (lstM (M.pure []))))) (retM (fre (M.pure (.bool false)))) Out.nx))
noncomputable def b_can_be (g : List D → Res S) : EnvD → Out := (seqM (ifM (tst (op2 eqD (varM 2) (frz (bltM lenS (consM (varM 0) (M.pure [])))))) (retM (fre (M.pure (.bool true)))) Out.nx) (seqM (forM (rgM enumO (consM (varM 1) (M.pure []))) (gTupD 2 (gsCons (setFr 3) (gsCons (setFr 4) gsNil))) (can_be_b1 g)) (retM (fre (M.pure (.bool false))))))
noncomputable def f_can_be : Nat → List D → Res S
  | 0 => (fun _ => .bad)
  | n + 1 => defD 3 6 (b_can_be (f_can_be n))
noncomputable def _law_largest_c1 : M Bool := (tst (op2 notInD (frz (tupM (consM (varM 6) (consM (varM 3) (M.pure []))))) (varM 0)))
noncomputable def _law_largest_c2 : M Bool := (tst (op2 eqD (frz (compM (seqM' (varM 5)) [6] (setFr 6) _law_largest_c1 (M.pure (.int 1)))) (frz (lstM (M.pure [])))))
noncomputable def _law_largest_b1 : EnvD → Out := (seqM (setM 4 (fre (frz (compM (seqM' (varM 2)) [5] (setFr 5) _law_largest_c2 (varM 5))))) (setM 2 (fre (frz (op2F addS (varM 2) (frz (compM (seqM' (varM 4)) [5] (setFr 5) yesM (frz (op2F addS (varM 5) (frz (tupM (consM (varM 3) (M.pure [])))))))))))))
noncomputable def b__law_largest : EnvD → Out := (seqM (setM 2 (fre (frz (lstM (consM (frz (tupM (M.pure []))) (M.pure [])))))) (seqM (forM (rgM rg1 (consM (varM 1) (M.pure []))) (setFr 3) _law_largest_b1) (retM (bltM maxLS (consM (frz (compM (seqM' (varM 2)) [5] (setFr 5) yesM (frz (bltM lenS (consM (varM 5) (M.pure [])))))) (M.pure []))))))
noncomputable def f__law_largest : List D → Res S := defD 2 7 b__law_largest
noncomputable def _law_divisions_b1 : EnvD → Out := (exprM (appM 3 (frz (op2F addS (frz (op2F addS (frz (sliceM (varM 4) (M.pure none) (loM (varM 5)))) (frz (tupM (consM (frz (op2F addS (frz (op2F itemS (varM 4) (varM 5))) (frz (tupM (consM (varM 2) (M.pure [])))))) (M.pure [])))))) (frz (sliceM (varM 4) (loM (frz (op2F addS (varM 5) (M.pure (.int 1))))) (M.pure none)))))))
noncomputable def _law_divisions_b2 : EnvD → Out := (seqM (exprM (appM 3 (frz (op2F addS (varM 4) (frz (tupM (consM (frz (tupM (consM (varM 2) (M.pure [])))) (M.pure [])))))))) (forM (rgM rg1 (consM (frz (bltM lenS (consM (varM 4) (M.pure [])))) (M.pure []))) (setFr 5) _law_divisions_b1))
noncomputable def _law_divisions_b3 : EnvD → Out := (seqM (setM 3 (lstM (M.pure []))) (seqM (forM (seqM' (varM 1)) (setFr 4) _law_divisions_b2) (setM 1 (movM 3))))
noncomputable def b__law_divisions : EnvD → Out := (seqM (setM 1 (lstM (consM (frz (tupM (M.pure []))) (M.pure [])))) (seqM (forM (rgM rg1 (consM (varM 0) (M.pure []))) (setFr 2) _law_divisions_b3) (retM (movM 1))))
noncomputable def f__law_divisions : List D → Res S := defD 1 6 b__law_divisions
noncomputable def _law_fewest_c1 : M Bool := (andT (tst (op2 inD (varM 6) (varM 5))) (tst (op2 inD (varM 7) (varM 5))))
noncomputable def _law_fewest_b1 : EnvD → Out := (setM 4 (fre (frz (op2F addS (varM 4) (frz (compM (seqM' (varM 0)) [6, 7] (gTupD 2 (gsCons (setFr 6) (gsCons (setFr 7) gsNil))) _law_fewest_c1 (M.pure (.int 1))))))))
noncomputable def _law_fewest_b2 : EnvD → Out := (ifM (tst (op2 ltD (frz (bltM lenS (consM (varM 3) (M.pure [])))) (varM 2))) (seqM (setM 4 (fre (frz (lstM (M.pure []))))) (seqM (forM (seqM' (varM 3)) (setFr 5) _law_fewest_b1) (ifM (tst (op2 eqD (varM 4) (frz (lstM (M.pure []))))) (setM 2 (bltM lenS (consM (varM 3) (M.pure [])))) Out.nx))) Out.nx)
noncomputable def b__law_fewest : EnvD → Out := (seqM (setM 2 (fre (varM 1))) (seqM (forM (seqM' (frz (callM f__law_divisions (consM (varM 1) (M.pure []))))) (setFr 3) _law_fewest_b2) (retM (movM 2))))
noncomputable def f__law_fewest : List D → Res S := defD 2 8 b__law_fewest
noncomputable def common_s1 : M S := (compM (seqM' (frz (callM f_places_by (consM (varM 0) (consM (varM 1) (consM (varM 2) (consM (varM 4) (M.pure [])))))))) [6] (setFr 6) (tst (op2 inD (varM 6) (varM 5))) (varM 6))
noncomputable def b_common : EnvD → Out := (seqM (setM 5 (fre (frz (callM f_places_by (consM (varM 0) (consM (varM 1) (consM (varM 3) (consM (varM 4) (M.pure []))))))))) (retM common_s1))
noncomputable def f_common : List D → Res S := defD 5 7 b_common
noncomputable def first_meeting_t1 : M Bool := (tst (op2 neD (frz (callM f_common (consM (varM 0) (consM (varM 1) (consM (varM 6) (consM (varM 7) (consM (varM 8) (M.pure [])))))))) (frz (lstM (M.pure [])))))
noncomputable def first_meeting_b1 : EnvD → Out := (ifM first_meeting_t1 (retM (movM 8)) Out.nx)
noncomputable def b_first_meeting : EnvD → Out := (seqM (exprM (callM f_check_all (consM (varM 0) (consM (varM 1) (consM (varM 2) (M.pure [])))))) (seqM (exprM (callM f_check_sightings (consM (varM 0) (consM (varM 3) (M.pure []))))) (seqM (exprM (callM f_check_span (consM (varM 4) (consM (varM 5) (M.pure []))))) (seqM (ifM (tst (op2 gtI (op2 subD (varM 5) (varM 4)) (M.pure (.int 1000)))) (raiseM "InvalidSpan") Out.nx) (seqM (parM [6, 7] (consF (fre (frz (callM f_rows_for (consM (varM 0) (consM (varM 1) (consM (varM 2) (M.pure []))))))) (consF (fre (frz (callM f_rows_for (consM (varM 0) (consM (varM 1) (consM (varM 3) (M.pure []))))))) (M.pure [])))) (seqM (forM (rgM rg2 (consM (varM 4) (consM (frz (op2F addS (varM 5) (M.pure (.int 1)))) (M.pure [])))) (setFr 8) first_meeting_b1) (retM (fre (M.pure .none)))))))))
noncomputable def f_first_meeting : List D → Res S := defD 6 9 b_first_meeting
noncomputable def b_meeting_places : EnvD → Out := (seqM (exprM (callM f_check_all (consM (varM 0) (consM (varM 1) (consM (varM 2) (M.pure [])))))) (seqM (exprM (callM f_check_sightings (consM (varM 0) (consM (varM 3) (M.pure []))))) (seqM (exprM (callM f_check_time (consM (varM 4) (M.pure [])))) (seqM (parM [5, 6] (consF (fre (frz (callM f_rows_for (consM (varM 0) (consM (varM 1) (consM (varM 2) (M.pure []))))))) (consF (fre (frz (callM f_rows_for (consM (varM 0) (consM (varM 1) (consM (varM 3) (M.pure []))))))) (M.pure [])))) (retM (callM f_common (consM (varM 0) (consM (varM 1) (consM (varM 5) (consM (varM 6) (consM (varM 4) (M.pure []))))))))))))
noncomputable def f_meeting_places : List D → Res S := defD 5 7 b_meeting_places
noncomputable def _law_call_s1 : M S := (fre (frz (callIO 0 f__law_choice (consM (frz (lstM (consM (M.pure (.str "add")) (consM (M.pure (.str "add")) (consM (M.pure (.str "add")) (consM (M.pure (.str "remove")) (consM (M.pure (.str "undo")) (M.pure [])))))))) (M.pure [])))))
noncomputable def _law_call_s2 : M S := (fre (frz (callIO 0 f__law_choice (consM (frz (lstM (consM (M.pure .none) (consM (M.pure (.bool true)) (consM (negD (M.pure (.int 1))) (consM (frz (op2F addS (op2 powI (M.pure (.int 10)) (M.pure (.int 9))) (M.pure (.int 1)))) (consM (M.pure (.str "1")) (consM (frz (op2F addS (frz (bltM lenS (consM (varM 1) (M.pure [])))) (M.pure (.int 101)))) (M.pure []))))))))) (M.pure [])))))
noncomputable def _law_call_s3 : M S := (lstM (consM (frz (callIO 0 f__law_draw (consM (M.pure (.int 20)) (M.pure [])))) (consM (frz (callIO 0 f__law_draw (consM (frz (op2F addS (frz (bltM lenS (consM (varM 1) (M.pure [])))) (M.pure (.int 1)))) (M.pure [])))) (consM (frz (callIO 0 f__law_draw (consM (M.pure (.int 3)) (M.pure [])))) (M.pure [])))))
noncomputable def _law_call_s4 : M S := (tupM (consM (varM 3) (consM (frz (ifV (tst (op2 eqD (frz (callIO 0 f__law_draw (consM (M.pure (.int 5)) (M.pure [])))) (M.pure (.int 0)))) (fre (varM 4)) (callIO 0 f__law_draw (consM (frz (op2F addS (frz (bltM lenS (consM (varM 2) (M.pure [])))) (M.pure (.int 1)))) (M.pure []))))) (M.pure []))))
noncomputable def b__law_call : EnvD → Out := (seqM (setM 3 _law_call_s1) (seqM (setM 4 _law_call_s2) (seqM (ifM (tst (op2 eqD (varM 3) (M.pure (.str "add")))) (seqM (setM 5 _law_call_s3) (seqM (ifM (tst (op2 eqD (frz (callIO 0 f__law_draw (consM (M.pure (.int 6)) (M.pure [])))) (M.pure (.int 0)))) (stM 5 (varM 4) (frz (callIO 0 f__law_draw (consM (M.pure (.int 3)) (M.pure []))))) Out.nx) (retM (tupM (consM (varM 3) (consM (frz (bltV 5 tupleS)) (M.pure []))))))) Out.nx) (retM _law_call_s4))))
noncomputable def f__law_call : D → List D → Res (S × D) := defIO 3 6 b__law_call
noncomputable def _law_error_s1 : M S := (ifV (andT (tst (frz (callM f__law_is_int (consM (varM 4) (M.pure []))))) (tst (chainM leI ltD (M.pure (.int 0)) (varM 4) (frz (bltM lenS (consM (frz (op2F itemS (varM 1) (negD (M.pure (.int 1))))) (M.pure []))))))) (fre (M.pure (.str ""))) (fre (M.pure (.str "InvalidIndex+"))))
noncomputable def _law_error_t1 : M Bool := (orT (notT (tst (frz (callM f__law_is_int (consM (varM 5) (M.pure [])))))) (notT (tst (chainM leI leI (M.pure (.int 0)) (varM 5) (op2 powI (M.pure (.int 10)) (M.pure (.int 9)))))))
noncomputable def _law_error_t2 : M Bool := (orT (notT (tst (frz (callM f__law_is_int (consM (varM 6) (M.pure [])))))) (notT (tst (chainM leI leI (M.pure (.int 0)) (varM 6) (frz (bltM lenS (consM (varM 0) (M.pure []))))))))
noncomputable def _law_error_s2 : M S := (ifV (tst (op2 eqD (frz (bltM lenS (consM (frz (op2F itemS (varM 1) (negD (M.pure (.int 1))))) (M.pure [])))) (M.pure (.int 12)))) (fre (M.pure (.str "TooMany+"))) (fre (M.pure (.str ""))))
noncomputable def b__law_error : EnvD → Out := (seqM (asgM (gTupD 2 (gsCons (setFr 3) (gsCons (setFr 4) gsNil))) (varM 2)) (seqM (ifM (tst (op2 eqD (varM 3) (M.pure (.str "undo")))) (retM (ifV (tst (op2 eqD (frz (bltM lenS (consM (varM 1) (M.pure [])))) (M.pure (.int 1)))) (fre (M.pure (.str "NothingToUndo+"))) (fre (M.pure (.str ""))))) Out.nx) (seqM (ifM (tst (op2 eqD (varM 3) (M.pure (.str "remove")))) (retM _law_error_s1) Out.nx) (seqM (asgM (gTupD 3 (gsCons (setFr 5) (gsCons (setFr 6) (gsCons (setFr 7) gsNil)))) (varM 4)) (seqM (ifM _law_error_t1 (retM (fre (M.pure (.str "InvalidTime+")))) Out.nx) (seqM (ifM _law_error_t2 (retM (fre (M.pure (.str "InvalidPlace+")))) Out.nx) (seqM (ifM (orT (notT (tst (frz (callM f__law_is_int (consM (varM 7) (M.pure [])))))) (notT (tst (chainM leI leI (M.pure (.int 0)) (varM 7) (M.pure (.int 100)))))) (retM (fre (M.pure (.str "InvalidRadius+")))) Out.nx) (retM _law_error_s2))))))))
noncomputable def f__law_error : List D → Res S := defD 3 8 b__law_error
noncomputable def _law_next_s1 : M S := (tupM (consM (frz (op2F addS (varM 2) (frz (lstM (consM (frz (op2F addS (frz (sliceM (varM 6) (M.pure none) (loM (varM 5)))) (frz (sliceM (varM 6) (loM (frz (op2F addS (varM 5) (M.pure (.int 1))))) (M.pure none))))) (M.pure [])))))) (consM (frz (op2F itemS (varM 6) (varM 5))) (M.pure []))))
noncomputable def _law_next_c1 : M Bool := (tst (frz (callM f__law_clash (consM (varM 0) (consM (varM 1) (consM (varM 9) (consM (varM 5) (M.pure []))))))))
noncomputable def _law_next_s2 : M S := (tupM (consM (frz (op2F addS (varM 2) (frz (lstM (consM (frz (op2F addS (varM 6) (frz (tupM (consM (varM 5) (M.pure [])))))) (M.pure [])))))) (consM (varM 7) (M.pure []))))
noncomputable def b__law_next : EnvD → Out := (seqM (asgM (gTupD 2 (gsCons (setFr 4) (gsCons (setFr 5) gsNil))) (varM 3)) (seqM (setM 6 (fre (frz (op2F itemS (varM 2) (negD (M.pure (.int 1))))))) (seqM (ifM (tst (op2 eqD (varM 4) (M.pure (.str "undo")))) (retM (tupM (consM (frz (sliceM (varM 2) (M.pure none) (loM (negD (M.pure (.int 1)))))) (consM (M.pure .none) (M.pure []))))) Out.nx) (seqM (ifM (tst (op2 eqD (varM 4) (M.pure (.str "remove")))) (retM _law_next_s1) Out.nx) (seqM (setM 7 (fre (frz (compM (rgM enumO (consM (varM 6) (M.pure []))) [8, 9] (gTupD 2 (gsCons (setFr 8) (gsCons (setFr 9) gsNil))) _law_next_c1 (varM 8))))) (retM _law_next_s2))))))
noncomputable def f__law_next : List D → Res S := defD 4 10 b__law_next
noncomputable def _law_places_c1 : M Bool := (tst (op2 leI (frz (op2F itemS (frz (op2F itemS (varM 0) (varM 6))) (varM 8))) (frz (op2F addS (varM 7) (frz (op2F mulS (varM 1) (frz (bltM absS (consM (op2 subD (varM 3) (varM 5)) (M.pure []))))))))))
noncomputable def _law_places_b1 : EnvD → Out := (setM 4 (compM (seqM' (varM 4)) [8] (setFr 8) _law_places_c1 (varM 8)))
noncomputable def b__law_places : EnvD → Out := (seqM (ifM (tst (op2 neD (frz (callM f__law_pairs (consM (varM 0) (consM (varM 1) (consM (varM 2) (M.pure [])))))) (frz (lstM (M.pure []))))) (retM (lstM (M.pure []))) Out.nx) (seqM (setM 4 (lrg1M (frz (bltM lenS (consM (varM 0) (M.pure [])))))) (seqM (forM (seqM' (varM 2)) (gTupD 3 (gsCons (setFr 5) (gsCons (setFr 6) (gsCons (setFr 7) gsNil)))) _law_places_b1) (retM (movM 4)))))
noncomputable def f__law_places : List D → Res S := defD 4 9 b__law_places
noncomputable def b__law_source_v2 : EnvD → Out := (seqM (ifM (tst (op2 geI (varM 0) (op2 powI (M.pure (.int 10)) (M.pure (.int 18))))) (retM (lstM (consM (op2 subD (varM 0) (op2 powI (M.pure (.int 10)) (M.pure (.int 18)))) (consM (op2 modI (frz (bltM intS (consM (varM 0) (M.pure [])))) (M.pure (.int 2147483579))) (consM (varM 1) (M.pure [])))))) Out.nx) (retM (lstM (consM (M.pure (.int 0)) (consM (op2 modI (frz (bltM intS (consM (varM 0) (M.pure [])))) (M.pure (.int 2147483579))) (consM (varM 1) (M.pure [])))))))
noncomputable def f__law_source_v2 : List D → Res S := defD 2 2 b__law_source_v2
noncomputable def b__law_draw_v2 : EnvD → Out := (seqM (ifM (tst (op2 gtI (frz (op2V 0 itemS (M.pure (.int 0)))) (M.pure (.int 1)))) (seqM (setM 2 (fre (op2 modI (frz (bltM intS (consM (frz (op2V 0 itemS (M.pure (.int 0)))) (M.pure [])))) (varM 1)))) (seqM (stM 0 (op2 fdivI (frz (op2V 0 itemS (M.pure (.int 0)))) (varM 1)) (M.pure (.int 0))) (retM (fre (varM 2))))) Out.nx) (seqM (stM 0 (frz (op2F addS (frz (op2V 0 itemS (M.pure (.int 2)))) (M.pure (.int 1)))) (M.pure (.int 2))) (seqM (setM 3 (fre (op2 modI (frz (bltM intS (consM (op2 powI (frz (op2F addS (frz (op2V 0 itemS (M.pure (.int 1)))) (frz (op2F mulS (M.pure (.int 15485867)) (frz (op2V 0 itemS (M.pure (.int 2)))))))) (M.pure (.int 5))) (M.pure [])))) (M.pure (.int 2147483647))))) (seqM (setM 2 (fre (op2 fdivI (op2 modI (frz (bltM intS (consM (op2 powI (frz (op2F addS (varM 3) (frz (op2F mulS (M.pure (.int 7919)) (frz (op2V 0 itemS (M.pure (.int 2)))))))) (M.pure (.int 3))) (M.pure [])))) (M.pure (.int 2147483629))) (M.pure (.int 32))))) (retM (fre (op2 modI (frz (bltM intS (consM (varM 2) (M.pure [])))) (varM 1))))))))
noncomputable def f__law_draw_v2 : D → List D → Res (S × D) := defIO 2 4 b__law_draw_v2
noncomputable def b__law_choice_v2 : EnvD → Out := (retM (op2F itemS (varM 1) (frz (callIO 0 f__law_draw_v2 (consM (frz (bltM lenS (consM (varM 1) (M.pure [])))) (M.pure []))))))
noncomputable def f__law_choice_v2 : D → List D → Res (S × D) := defIO 2 2 b__law_choice_v2
noncomputable def b__law_mixed_v2 : EnvD → Out := (seqM (parM [2, 3] (consF (bltM listS (consM (varM 1) (M.pure []))) (consF (lstM (M.pure [])) (M.pure [])))) (seqM (whD (tst (frz (op2V 2 neS (frz (lstM (M.pure [])))))) (exprM (appM 3 (frz (popAtM 2 (frz (callIO 0 f__law_draw_v2 (consM (frz (bltV 2 lenS)) (M.pure [])))))))) fuel) (retM (movM 3))))
noncomputable def f__law_mixed_v2 : D → List D → Res (S × D) := defIO 2 4 b__law_mixed_v2
noncomputable def _law_sighted_v2_c1 : M Bool := (tst (op2 leI (frz (op2F itemS (frz (op2F itemS (varM 5) (varM 7))) (varM 16))) (frz (op2F mulS (varM 2) (varM 11)))))
noncomputable def _law_sighted_v2_c2 : M Bool := (tst (op2 leI (frz (op2F itemS (frz (op2F itemS (varM 5) (varM 7))) (varM 16))) (varM 13)))
noncomputable def _law_sighted_v2_b1 : EnvD → Out := (seqM (setM 11 (fre (frz (callIO 0 f__law_draw_v2 (consM (M.pure (.int 4)) (M.pure [])))))) (seqM (setM 8 (fre (frz (op2F addS (varM 8) (varM 11))))) (seqM (setM 12 (fre (frz (compM (rgM rg1 (consM (varM 6) (M.pure []))) [16] (setFr 16) _law_sighted_v2_c1 (varM 16))))) (seqM (setM 7 (fre (frz (callIO 0 f__law_choice_v2 (consM (varM 12) (M.pure [])))))) (seqM (setM 13 (fre (frz (callIO 0 f__law_choice_v2 (consM (frz (lstM (consM (M.pure (.int 0)) (consM (M.pure (.int 0)) (consM (frz (callIO 0 f__law_draw_v2 (consM (M.pure (.int 4)) (M.pure [])))) (M.pure [])))))) (M.pure [])))))) (seqM (setM 14 (fre (frz (compM (rgM rg1 (consM (varM 6) (M.pure []))) [16] (setFr 16) _law_sighted_v2_c2 (varM 16))))) (seqM (setM 15 (fre (frz (callIO 0 f__law_choice_v2 (consM (varM 14) (M.pure [])))))) (seqM (ifM (tst (op2 eqD (frz (callIO 0 f__law_draw_v2 (consM (M.pure (.int 7)) (M.pure [])))) (M.pure (.int 0)))) (setM 15 (fre (frz (callIO 0 f__law_draw_v2 (consM (varM 6) (M.pure [])))))) Out.nx) (exprM (appM 9 (frz (tupM (consM (varM 8) (consM (varM 15) (consM (varM 13) (M.pure []))))))))))))))))
noncomputable def b__law_sighted_v2 : EnvD → Out := (seqM (parM [5, 6] (consF (fre (frz (callM f__law_far (consM (varM 1) (M.pure []))))) (consF (fre (frz (op2F addS (frz (bltM lenS (consM (varM 1) (M.pure [])))) (M.pure (.int 1))))) (M.pure [])))) (seqM (parM [7, 8, 9] (consF (fre (frz (callIO 0 f__law_draw_v2 (consM (varM 6) (M.pure []))))) (consF (fre (frz (callIO 0 f__law_draw_v2 (consM (varM 4) (M.pure []))))) (consF (lstM (M.pure [])) (M.pure []))))) (seqM (forM (rgM rg1 (consM (frz (callIO 0 f__law_draw_v2 (consM (frz (op2F addS (varM 3) (M.pure (.int 1)))) (M.pure [])))) (M.pure []))) (setFr 10) _law_sighted_v2_b1) (retM (bltM tupleS (consM (frz (callIO 0 f__law_mixed_v2 (consM (varM 9) (M.pure [])))) (M.pure [])))))))
noncomputable def f__law_sighted_v2 : D → List D → Res (S × D) := defIO 5 17 b__law_sighted_v2
noncomputable def _law_several_v2_s1 : M S := (fre (frz (op2F addS (varM 3) (frz (callIO 0 f__law_sighted_v2 (consM (varM 1) (consM (varM 2) (consM (M.pure (.int 4)) (consM (M.pure (.int 4)) (M.pure []))))))))))
noncomputable def _law_several_v2_b1 : EnvD → Out := (setM 3 _law_several_v2_s1)
noncomputable def b__law_several_v2 : EnvD → Out := (seqM (setM 3 (fre (frz (tupM (M.pure []))))) (seqM (forM (rgM rg1 (consM (frz (op2F addS (M.pure (.int 1)) (frz (callIO 0 f__law_draw_v2 (consM (M.pure (.int 3)) (M.pure [])))))) (M.pure []))) (setFr 4) _law_several_v2_b1) (retM (sliceM (varM 3) (M.pure none) (loM (M.pure (.int 8)))))))
noncomputable def f__law_several_v2 : D → List D → Res (S × D) := defIO 3 5 b__law_several_v2
noncomputable def _law_best_sets_c1 : M Bool := (tst (op2 inD (frz (tupM (consM (varM 7) (consM (varM 3) (M.pure []))))) (varM 0)))
noncomputable def _law_best_sets_c2 : M Bool := (tst (op2 eqD (frz (compM (seqM' (varM 6)) [7] (setFr 7) _law_best_sets_c1 (M.pure (.int 1)))) (frz (lstM (M.pure [])))))
noncomputable def _law_best_sets_b1 : EnvD → Out := (seqM (setM 4 (fre (frz (compM (seqM' (varM 2)) [6] (setFr 6) _law_best_sets_c2 (varM 6))))) (setM 2 (fre (frz (op2F addS (varM 2) (frz (compM (seqM' (varM 4)) [6] (setFr 6) yesM (frz (op2F addS (varM 6) (frz (tupM (consM (varM 3) (M.pure [])))))))))))))
noncomputable def _law_best_sets_c3 : M Bool := (tst (op2 eqD (frz (bltM lenS (consM (varM 6) (M.pure [])))) (varM 5)))
noncomputable def b__law_best_sets : EnvD → Out := (seqM (setM 2 (fre (frz (lstM (consM (frz (tupM (M.pure []))) (M.pure [])))))) (seqM (forM (rgM rg1 (consM (varM 1) (M.pure []))) (setFr 3) _law_best_sets_b1) (seqM (setM 5 (fre (frz (bltM maxLS (consM (frz (compM (seqM' (varM 2)) [6] (setFr 6) yesM (frz (bltM lenS (consM (varM 6) (M.pure [])))))) (M.pure [])))))) (retM (bltM sortS (consM (frz (compM (seqM' (varM 2)) [6] (setFr 6) _law_best_sets_c3 (varM 6))) (M.pure [])))))))
noncomputable def f__law_best_sets : List D → Res S := defD 2 8 b__law_best_sets
noncomputable def b__law_tree_v2 : EnvD → Out := (seqM (parM [2, 3] (consF (callIO 0 f__law_draw_v2 (consM (frz (op2F addS (varM 1) (M.pure (.int 1)))) (M.pure []))) (consF (callIO 0 f__law_draw_v2 (consM (M.pure (.int 4)) (M.pure []))) (M.pure [])))) (seqM (setM 4 (callIO 0 f__law_mixed_v2 (consM (frz (lrg1M (frz (op2F addS (varM 2) (M.pure (.int 1)))))) (M.pure [])))) (seqM (setM 5 (lstM (M.pure []))) (seqM (forM (rgM rg2 (consM (M.pure (.int 1)) (consM (frz (op2F addS (varM 2) (M.pure (.int 1)))) (M.pure [])))) (setFr 6) (seqM (setM 7 (ifV (tst (op2 eqD (varM 3) (M.pure (.int 0)))) (fre (op2 subD (varM 6) (M.pure (.int 1)))) (fre (M.pure (.int 0))))) (seqM (ifM (tst (op2 gtI (varM 3) (M.pure (.int 1)))) (setM 7 (callIO 0 f__law_draw_v2 (consM (varM 6) (M.pure [])))) Out.nx) (seqM (parM [8, 9] (consF (op2F itemS (varM 4) (varM 6)) (consF (op2F itemS (varM 4) (varM 7)) (M.pure [])))) (exprM (appM 5 (frz (tupM (consM (frz (bltM min2S (consM (varM 8) (consM (varM 9) (M.pure []))))) (consM (frz (bltM max2S (consM (varM 8) (consM (varM 9) (M.pure []))))) (M.pure []))))))))))) (retM (bltM tupleS (consM (frz (bltV 5 sortS)) (M.pure []))))))))
noncomputable def f__law_tree_v2 : D → List D → Res (S × D) := defIO 2 10 b__law_tree_v2
noncomputable def _law_right_ones_s1 : M S := (fre (frz (op2F addS (varM 5) (frz (compM (rgM rg1 (consM (varM 2) (M.pure []))) [8] (setFr 8) yesM (frz (op2F addS (varM 6) (frz (tupM (consM (varM 8) (M.pure [])))))))))))
noncomputable def _law_right_ones_b1 : EnvD → Out := (setM 5 _law_right_ones_s1)
noncomputable def _law_right_ones_c1 : M Bool := (tst (op2 eqD (frz (op2F itemS (varM 6) (varM 9))) (frz (op2F itemS (varM 6) (varM 4)))))
noncomputable def _law_right_ones_c2 : M Bool := (tst (op2 eqD (frz (compM (seqM' (varM 7)) [9] (setFr 9) _law_right_ones_c1 (M.pure (.int 1)))) (frz (lstM (M.pure [])))))
noncomputable def _law_right_ones_b2 : EnvD → Out := (seqM (setM 5 (fre (frz (lstM (M.pure []))))) (seqM (forM (seqM' (varM 3)) (setFr 6) _law_right_ones_b1) (seqM (setM 7 (fre (frz (compM (seqM' (varM 0)) [9, 10] (gTupD 2 (gsCons (setFr 9) (gsCons (setFr 10) gsNil))) (tst (op2 eqD (varM 10) (varM 4))) (varM 9))))) (setM 3 (compM (seqM' (varM 5)) [6] (setFr 6) _law_right_ones_c2 (varM 6))))))
noncomputable def b__law_right_ones : EnvD → Out := (seqM (setM 3 (lstM (consM (frz (tupM (M.pure []))) (M.pure [])))) (seqM (forM (rgM rg1 (consM (varM 1) (M.pure []))) (setFr 4) _law_right_ones_b2) (retM (movM 3))))
noncomputable def f__law_right_ones : List D → Res S := defD 3 11 b__law_right_ones
noncomputable def b_check_trains : EnvD → Out := (seqM (exprM (callM f_check_all (consM (varM 0) (consM (varM 1) (consM (varM 2) (M.pure [])))))) (seqM (ifM (notT (tst (frz (callM f_is_between (consM (varM 3) (consM (M.pure (.int 1)) (consM (M.pure (.int 6)) (M.pure [])))))))) (raiseM "InvalidCount") Out.nx) (ifM (tst (op2 gtI (frz (bltM lenS (consM (varM 2) (M.pure [])))) (M.pure (.int 8)))) (raiseM "TooMany") Out.nx)))
noncomputable def f_check_trains : List D → Res S := defD 4 4 b_check_trains
noncomputable def patterns_t1 : M Bool := (notT (tst (frz (bltM anyS (consM (frz (compM (seqM' (frz (op2F itemS (varM 0) (varM 3)))) [7] (setFr 7) (tst (op2 ltD (varM 7) (varM 3))) (op2 eqD (frz (op2F itemS (varM 5) (varM 7))) (varM 6)))) (M.pure []))))))
noncomputable def patterns_b1 : EnvD → Out := (ifM patterns_t1 (exprM (appM 4 (frz (op2F addS (varM 5) (frz (tupM (consM (varM 6) (M.pure [])))))))) Out.nx)
noncomputable def patterns_i1 : M (List D) := (rgM rg1 (consM (frz (bltM min2S (consM (varM 1) (consM (frz (op2F addS (frz (bltM maxLS (consM (frz (op2F addS (frz (tupM (consM (negD (M.pure (.int 1))) (M.pure [])))) (varM 5))) (M.pure [])))) (M.pure (.int 2)))) (M.pure []))))) (M.pure [])))
noncomputable def patterns_b2 : EnvD → Out := (forM patterns_i1 (setFr 6) patterns_b1)
noncomputable def patterns_b3 : EnvD → Out := (seqM (setM 4 (lstM (M.pure []))) (seqM (forM (seqM' (varM 2)) (setFr 5) patterns_b2) (setM 2 (movM 4))))
noncomputable def b_patterns : EnvD → Out := (seqM (setM 2 (lstM (consM (frz (tupM (M.pure []))) (M.pure [])))) (seqM (forM (rgM rg1 (consM (frz (bltM lenS (consM (varM 0) (M.pure [])))) (M.pure []))) (setFr 3) patterns_b3) (retM (movM 2))))
noncomputable def f_patterns : List D → Res S := defD 2 8 b_patterns
noncomputable def b_first_division : EnvD → Out := (seqM (exprM (callM f_check_trains (consM (varM 0) (consM (varM 1) (consM (varM 2) (consM (varM 3) (M.pure []))))))) (seqM (setM 4 (fre (frz (callM f_patterns (consM (frz (callM f_rivals (consM (varM 0) (consM (varM 1) (consM (varM 2) (M.pure [])))))) (consM (varM 3) (M.pure []))))))) (retM (ifV (tst (op2 neD (varM 4) (frz (lstM (M.pure []))))) (bltM minLS (consM (varM 4) (M.pure []))) (fre (M.pure .none))))))
noncomputable def f_first_division : List D → Res S := defD 4 5 b_first_division
noncomputable def check_groups_e1 : M D := (frz (callM f_are_sightings (consM (varM 0) (consM (varM 4) (M.pure [])))))
noncomputable def b_check_groups : EnvD → Out := (seqM (exprM (callM f_check_speed (consM (varM 0) (consM (varM 1) (M.pure []))))) (seqM (setM 3 (fre (andV (isiM isTup (varM 2)) (chainM leI leI (M.pure (.int 1)) (frz (bltM lenS (consM (varM 2) (M.pure [])))) (M.pure (.int 6)))))) (ifM (orT (notT (tst (varM 3))) (notT (tst (frz (bltM allS (consM (frz (compM (seqM' (varM 2)) [4] (setFr 4) yesM check_groups_e1)) (M.pure []))))))) (raiseM "InvalidGroups") Out.nx)))
noncomputable def f_check_groups : List D → Res S := defD 3 5 b_check_groups
noncomputable def together_e1 : M D := (frz (callM f_places_by (consM (varM 0) (consM (varM 1) (consM (varM 5) (consM (varM 3) (M.pure [])))))))
noncomputable def together_c1 : M Bool := (tst (frz (bltM allS (consM (frz (compM (seqM' (varM 4)) [7] (setFr 7) yesM (op2 inD (varM 6) (varM 7)))) (M.pure [])))))
noncomputable def b_together : EnvD → Out := (seqM (setM 4 (fre (frz (compM (seqM' (varM 2)) [5] (setFr 5) yesM together_e1)))) (retM (compM (seqM' (frz (op2F itemS (varM 4) (M.pure (.int 0))))) [6] (setFr 6) together_c1 (varM 6))))
noncomputable def f_together : List D → Res S := defD 4 8 b_together
noncomputable def gathering_places_e1 : M D := (frz (callM f_rows_for (consM (varM 0) (consM (varM 1) (consM (varM 4) (M.pure []))))))
noncomputable def b_gathering_places : EnvD → Out := (seqM (exprM (callM f_check_groups (consM (varM 0) (consM (varM 1) (consM (varM 2) (M.pure [])))))) (seqM (exprM (callM f_check_time (consM (varM 3) (M.pure [])))) (retM (callM f_together (consM (varM 0) (consM (varM 1) (consM (frz (compM (seqM' (varM 2)) [4] (setFr 4) yesM gathering_places_e1)) (consM (varM 3) (M.pure [])))))))))
noncomputable def f_gathering_places : List D → Res S := defD 4 5 b_gathering_places
noncomputable def gathering_times_e1 : M D := (frz (callM f_rows_for (consM (varM 0) (consM (varM 1) (consM (varM 8) (M.pure []))))))
noncomputable def gathering_times_t1 : M Bool := (andT (tst (frz (op2V 6 neS (frz (lstM (M.pure [])))))) (tst (op2 eqD (frz (op2F itemS (frz (op2V 6 itemS (negD (M.pure (.int 1))))) (M.pure (.int 1)))) (op2 subD (varM 7) (M.pure (.int 1))))))
noncomputable def gathering_times_b1 : EnvD → Out := (ifM (tst (op2 neD (frz (callM f_together (consM (varM 0) (consM (varM 1) (consM (varM 5) (consM (varM 7) (M.pure []))))))) (frz (lstM (M.pure []))))) (ifM gathering_times_t1 (stM 6 (frz (tupM (consM (frz (op2F itemS (frz (op2V 6 itemS (negD (M.pure (.int 1))))) (M.pure (.int 0)))) (consM (varM 7) (M.pure []))))) (negD (M.pure (.int 1)))) (exprM (appM 6 (frz (tupM (consM (varM 7) (consM (varM 7) (M.pure [])))))))) Out.nx)
noncomputable def b_gathering_times : EnvD → Out := (seqM (exprM (callM f_check_groups (consM (varM 0) (consM (varM 1) (consM (varM 2) (M.pure [])))))) (seqM (exprM (callM f_check_span (consM (varM 3) (consM (varM 4) (M.pure []))))) (seqM (ifM (tst (op2 gtI (op2 subD (varM 4) (varM 3)) (M.pure (.int 1000)))) (raiseM "InvalidSpan") Out.nx) (seqM (parM [5, 6] (consF (fre (frz (compM (seqM' (varM 2)) [8] (setFr 8) yesM gathering_times_e1))) (consF (lstM (M.pure [])) (M.pure [])))) (seqM (forM (rgM rg2 (consM (varM 3) (consM (frz (op2F addS (varM 4) (M.pure (.int 1)))) (M.pure [])))) (setFr 7) gathering_times_b1) (retM (movM 6)))))))
noncomputable def f_gathering_times : List D → Res S := defD 5 9 b_gathering_times
noncomputable def next_pairs_t1 : M Bool := (andT (tst (op2 inD (varM 7) (varM 2))) (andT (tst (op2 inD (varM 8) (varM 3))) (andT (tst (op2 neD (varM 7) (varM 8))) (tst (op2 neD (frz (tupM (consM (varM 7) (consM (varM 8) (M.pure []))))) (frz (tupM (consM (varM 6) (consM (varM 5) (M.pure []))))))))))
noncomputable def next_pairs_b1 : EnvD → Out := (ifM next_pairs_t1 (dstM 4 (M.pure (.bool true)) (frz (tupM (consM (varM 7) (consM (varM 8) (M.pure [])))))) Out.nx)
noncomputable def next_pairs_b2 : EnvD → Out := (forM (seqM' (frz (op2F addS (frz (lstM (consM (varM 6) (M.pure [])))) (frz (op2F itemS (varM 0) (varM 6)))))) (setFr 8) next_pairs_b1)
noncomputable def next_pairs_b3 : EnvD → Out := (forM (seqM' (frz (op2F addS (frz (lstM (consM (varM 5) (M.pure [])))) (frz (op2F itemS (varM 0) (varM 5)))))) (setFr 7) next_pairs_b2)
noncomputable def b_next_pairs : EnvD → Out := (seqM (setM 4 (M.pure (.ow (.dict [])))) (seqM (forM (seqM' (varM 1)) (gTupD 2 (gsCons (setFr 5) (gsCons (setFr 6) gsNil))) next_pairs_b3) (retM (bltV 4 sortS))))
noncomputable def f_next_pairs : List D → Res S := defD 4 9 b_next_pairs
noncomputable def _law_parts_of_c1 : M Bool := (tst (op2 leI (frz (op2F itemS (frz (op2F itemS (varM 0) (frz (op2F itemS (varM 6) (negD (M.pure (.int 1))))))) (varM 7))) (varM 1)))
noncomputable def _law_parts_of_s1 : M S := (fre (frz (op2F addS (varM 5) (frz (compM (seqM' (varM 4)) [7] (setFr 7) _law_parts_of_c1 (frz (op2F addS (varM 6) (frz (lstM (consM (varM 7) (M.pure [])))))))))))
noncomputable def _law_parts_of_b1 : EnvD → Out := (setM 5 _law_parts_of_s1)
noncomputable def _law_parts_of_b2 : EnvD → Out := (seqM (setM 5 (fre (frz (lstM (M.pure []))))) (seqM (forM (seqM' (varM 3)) (setFr 6) _law_parts_of_b1) (setM 3 (fre (varM 5)))))
noncomputable def b__law_parts_of : EnvD → Out := (seqM (setM 3 (compM (seqM' (frz (op2F itemS (varM 2) (M.pure (.int 0))))) [7] (setFr 7) yesM (frz (lstM (consM (varM 7) (M.pure [])))))) (seqM (forM (seqM' (frz (sliceM (varM 2) (loM (M.pure (.int 1))) (M.pure none)))) (setFr 4) _law_parts_of_b2) (retM (movM 3))))
noncomputable def f__law_parts_of : List D → Res S := defD 3 8 b__law_parts_of
noncomputable def _law_collision_t1 : M Bool := (andT (tst (op2 gtI (varM 2) (M.pure (.int 0)))) (andT (tst (op2 eqD (frz (op2F itemS (varM 0) (varM 2))) (frz (op2F itemS (varM 1) (op2 subD (varM 2) (M.pure (.int 1))))))) (tst (op2 eqD (frz (op2F itemS (varM 0) (op2 subD (varM 2) (M.pure (.int 1))))) (frz (op2F itemS (varM 1) (varM 2)))))))
noncomputable def _law_collision_b1 : EnvD → Out := (seqM (ifM (tst (op2 eqD (frz (op2F itemS (varM 0) (varM 2))) (frz (op2F itemS (varM 1) (varM 2))))) (retM (movM 2)) Out.nx) (ifM _law_collision_t1 (retM (movM 2)) Out.nx))
noncomputable def b__law_collision : EnvD → Out := (seqM (forM (rgM rg1 (consM (frz (bltM lenS (consM (varM 0) (M.pure [])))) (M.pure []))) (setFr 2) _law_collision_b1) (retM (fre (M.pure .none))))
noncomputable def f__law_collision : List D → Res S := defD 2 3 b__law_collision
noncomputable def _law_latest_s1 : M S := (fre (frz (callM f__law_parts_of (consM (varM 0) (consM (M.pure (.int 1)) (consM (frz (callM f__law_layers (consM (varM 0) (consM (M.pure (.int 1)) (consM (varM 1) (consM (varM 3) (consM (varM 4) (M.pure [])))))))) (M.pure [])))))))
noncomputable def _law_latest_s2 : M S := (fre (frz (callM f__law_parts_of (consM (varM 0) (consM (M.pure (.int 1)) (consM (frz (callM f__law_layers (consM (varM 0) (consM (M.pure (.int 1)) (consM (varM 2) (consM (varM 3) (consM (varM 4) (M.pure [])))))))) (M.pure [])))))))
noncomputable def _law_latest_b1 : EnvD → Out := (seqM (setM 10 (fre (frz (callM f__law_collision (consM (varM 8) (consM (varM 9) (M.pure []))))))) (seqM (ifM (tst (op2 (isN true) (varM 10) (M.pure .none))) (retM (fre (M.pure .none))) Out.nx) (setM 7 (fre (frz (bltM max2S (consM (varM 7) (consM (varM 10) (M.pure [])))))))))
noncomputable def _law_latest_b2 : EnvD → Out := (forM (seqM' (varM 6)) (setFr 9) _law_latest_b1)
noncomputable def b__law_latest : EnvD → Out := (seqM (setM 5 _law_latest_s1) (seqM (setM 6 _law_latest_s2) (seqM (setM 7 (fre (M.pure (.int 0)))) (seqM (forM (seqM' (varM 5)) (setFr 8) _law_latest_b2) (retM (op2F addS (varM 3) (varM 7)))))))
noncomputable def f__law_latest : List D → Res S := defD 5 11 b__law_latest
noncomputable def _law_other_network_b1 : EnvD → Out := (seqM (parM [5, 6] (consF (fre (frz (op2F itemS (varM 1) (varM 3)))) (consF (fre (frz (op2F itemS (varM 1) (varM 4)))) (M.pure [])))) (exprM (appM 2 (frz (tupM (consM (frz (bltM min2S (consM (varM 5) (consM (varM 6) (M.pure []))))) (consM (frz (bltM max2S (consM (varM 5) (consM (varM 6) (M.pure []))))) (M.pure []))))))))
noncomputable def b__law_other_network : EnvD → Out := (seqM (setM 2 (lstM (M.pure []))) (seqM (forM (seqM' (varM 0)) (gTupD 2 (gsCons (setFr 3) (gsCons (setFr 4) gsNil))) _law_other_network_b1) (retM (bltM tupleS (consM (frz (bltV 2 sortS)) (M.pure []))))))
noncomputable def f__law_other_network : List D → Res S := defD 2 7 b__law_other_network
noncomputable def _law_moved_to_e1 : M D := (frz (tupM (consM (frz (op2F addS (varM 3) (varM 2))) (consM (frz (op2F itemS (varM 1) (varM 4))) (consM (varM 5) (M.pure []))))))
noncomputable def _law_moved_to_s1 : M S := (bltM tupleS (consM (frz (compM (seqM' (varM 0)) [3, 4, 5] (gTupD 3 (gsCons (setFr 3) (gsCons (setFr 4) (gsCons (setFr 5) gsNil)))) yesM _law_moved_to_e1)) (M.pure [])))
noncomputable def b__law_moved_to : EnvD → Out := (retM _law_moved_to_s1)
noncomputable def f__law_moved_to : List D → Res S := defD 3 6 b__law_moved_to
end Lf

namespace Lf
open PySem PySem.Spec PyProof.Rows L2
noncomputable def law_t1 : M Bool := (notT (tst (frz (callM (f__law_equal 8) (consM (frz (callM f_of_one (consM (varM 3) (consM (varM 4) (consM (varM 7) (M.pure [])))))) (consM (op2 eqD (varM 8) (frz (lstM (M.pure [])))) (M.pure [])))))))
noncomputable def law_b1 : EnvD → Out := (seqM (setM 7 (fre (frz (callIO 2 f__law_sighted (consM (varM 3) (consM (varM 4) (consM (M.pure (.int 12)) (consM (varM 6) (M.pure []))))))))) (seqM (ifM (tst (op2 eqD (frz (callIO 2 f__law_draw (consM (M.pure (.int 3)) (M.pure [])))) (M.pure (.int 0)))) (setM 7 (fre (frz (sliceM (frz (op2F addS (varM 7) (frz (sliceM (varM 7) (M.pure none) (loM (M.pure (.int 2))))))) (M.pure none) (loM (M.pure (.int 12))))))) Out.nx) (seqM (setM 8 (fre (frz (callM f__law_pairs (consM (varM 5) (consM (varM 4) (consM (varM 7) (M.pure [])))))))) (seqM (setM 9 (callM f_contradictions (consM (varM 3) (consM (varM 4) (consM (varM 7) (M.pure [])))))) (seqM (ifM (notT (tst (frz (callRd (f__law_equal 8) (consB 9 (consM (varM 8) (M.pure []))))))) (retM (fre (M.pure (.bool false)))) Out.nx) (seqM (ifM law_t1 (retM (fre (M.pure (.bool false)))) Out.nx) (seqM (ifM (tst (op2 neD (frz (callM f_of_one (consM (varM 3) (consM (varM 4) (consM (frz (revM (varM 7))) (M.pure [])))))) (op2 eqD (varM 8) (frz (lstM (M.pure [])))))) (retM (fre (M.pure (.bool false)))) Out.nx) (seqM (exprM (appM 9 (M.pure (.int 0)))) (ifM (tst (op2 neD (frz (callM f_contradictions (consM (varM 3) (consM (varM 4) (consM (varM 7) (M.pure [])))))) (varM 8))) (retM (fre (M.pure (.bool false)))) Out.nx)))))))))
noncomputable def law_b2 : EnvD → Out := (seqM (setM 2 (callM f__law_source (consM (varM 1) (consM (M.pure (.int 4)) (M.pure []))))) (seqM (parM [3, 4] (consF (fre (frz (callIO 2 f__law_tree (consM (M.pure (.int 24)) (M.pure []))))) (consF (fre (frz (op2F addS (M.pure (.int 1)) (frz (callIO 2 f__law_draw (consM (frz (callIO 2 f__law_choice (consM (frz (lstM (consM (M.pure (.int 2)) (consM (M.pure (.int 10)) (M.pure []))))) (M.pure [])))) (M.pure []))))))) (M.pure [])))) (seqM (setM 5 (fre (frz (callM f__law_far (consM (varM 3) (M.pure [])))))) (forM (seqM' (frz (tupM (consM (M.pure (.int 5)) (consM (M.pure (.int 1000)) (M.pure [])))))) (setFr 6) law_b1))))
noncomputable def law_s1 : M S := (fre (op2 eqD (frz (callM f_contradictions (consM (frz (tupM (consM (frz (tupM (consM (M.pure (.int 0)) (consM (M.pure (.int 1)) (M.pure []))))) (consM (frz (tupM (consM (M.pure (.int 1)) (consM (M.pure (.int 2)) (M.pure []))))) (M.pure []))))) (consM (M.pure (.int 1)) (consM (frz (tupM (consM (frz (tupM (consM (M.pure (.int 0)) (consM (M.pure (.int 0)) (consM (M.pure (.int 0)) (M.pure [])))))) (consM (frz (tupM (consM (M.pure (.int 1)) (consM (M.pure (.int 2)) (consM (M.pure (.int 1)) (M.pure [])))))) (consM (frz (tupM (consM (M.pure (.int 1)) (consM (M.pure (.int 2)) (consM (M.pure (.int 0)) (M.pure [])))))) (M.pure [])))))) (M.pure [])))))) (frz (lstM (consM (frz (tupM (consM (M.pure (.int 0)) (consM (M.pure (.int 2)) (M.pure []))))) (M.pure []))))))
noncomputable def b_law : EnvD → Out := (seqM (forM (seqM' (frz (sliceM (frz (op2F addS (frz (lstM (consM (M.pure (.int 0)) (M.pure [])))) (varM 0))) (M.pure none) (loM (M.pure (.int 10)))))) (setFr 1) law_b2) (retM law_s1))
noncomputable def f_law : List D → Res S := defD 1 10 b_law
end Lf

/-! W04: law k04. -/
namespace Lf
open PySem PySem.Spec PyProof.Rows L2
theorem compat_rev {n : Nat} {d : Int → Int → Int} (T : TM (Vn n) d) {v : Int} {Z : List Sg} (h : ∀ z ∈ Z, Vn n z.2.1) : compat d v Z.reverse = compat d v Z := by
  rw [Bool.eq_iff_iff, compat_pw, compat_pw, List.pairwise_reverse]
  refine ⟨fun q => q.imp_of_mem fun {a b} ha hb c => ?_, fun q => q.imp_of_mem fun {a b} ha hb c => ?_⟩ <;>
  · unfold clash at c ⊢
    rw [← c, decide_eq_decide, T.sy (h _ ha) (h _ hb), show abI (a.1 - b.1) = abI (b.1 - a.1) by unfold abI; split <;> split <;> omega]
    omega
theorem app_eds (F : List Ed) (hl : F.length ≤ 1000000) : ∃ j, appD (.int 0) (edsL F) = some j := by
  have z : ltM (F.length + 1) = true := ltM_of (by omega)
  exact ⟨.list (F.map edD ++ [.int 0]), by unfold edsL; simp [z]⟩
theorem eqD_eds_nil (F : List Ed) : eqD (edsL F) (.list []) = some (.bool (decide (F = []))) := by simp
theorem eqD_eds (F G : List Ed) : eqD (edsL F) (edsL G) = some (.bool (decide (F = G))) := by simp
theorem revS_sgs (Z : List Sg) : revS (sgsD Z) = some (.fr (sgsD Z.reverse)) := by
  unfold sgsD
  simp
theorem forD_one {set : D → EnvD → Option EnvD} {body : EnvD → Out} {x : D} {ds : List D} {ρ ρ1 ρ2 : EnvD} (h0 : set x ρ = some ρ1) (h1 : body ρ1 = .nx ρ2) : forD set body (x :: ds) ρ = forD set body ds ρ2 := by
  rw [forD, h0]
  simp only [h1]
theorem forD_end {set : D → EnvD → Option EnvD} {body : EnvD → Out} {ρ : EnvD} : forD set body [] ρ = .nx ρ := rfl
theorem k04_b1 {sc cc : D} {n : Nat} {es : List Ed} {d : Int → Int → Int} (w : Nw n es d) {v : Int} (v0 : 1 ≤ v) (v1 : v ≤ 10) {k : Int} {s : D} (hs : Src k s) (hk : 0 ≤ k) (hk2 : k ≤ 700000000) {wd : Int} (w0 : 1 ≤ wd) (w1 : wd ≤ 1000) {j7 j8 j9 : Option S} : ∃ s' j7' j8' j9', law_b1 [some (.fr sc), some (.fr cc), some (.ow s), some (.fr (netD es)), some (.fr (.int v)), some (.fr (farD n d)), some (.fr (.int wd)), j7, j8, j9] = .nx [some (.fr sc), some (.fr cc), some (.ow s'), some (.fr (netD es)), some (.fr (.int v)), some (.fr (farD n d)), some (.fr (.int wd)), j7', j8', j9'] ∧ Src (k + 1000) s' := by
  have hsz := w.sz
  have hpos := w.pos
  have T := w.tr.tm
  obtain ⟨Z, s2, e2, hZl, hZ, q2⟩ := sighted_eq w hs (v := v) (m := 12) (wd := wd) (by omega) (by omega) (by omega) (by omega) (by omega) (by omega) (by omega) (by omega)
  obtain ⟨r, s3, e3, r0, r1, q3⟩ := draw_eq (s := 3) q2 (by omega) (by decide) (by decide)
  -- what follows the doubling
  have fin : ∀ (Z : List Sg) (s' : D) (j8 j9 : Option S), (Z.length : Int) ≤ 12 → (∀ z ∈ Z, SgB n (wd + 3 * 12) 3 z) → ∃ j8' j9', (seqM (setM 8 (fre (frz (callM f__law_pairs (consM (varM 5) (consM (varM 4) (consM (varM 7) (M.pure [])))))))) (seqM (setM 9 (callM f_contradictions (consM (varM 3) (consM (varM 4) (consM (varM 7) (M.pure [])))))) (seqM (ifM (notT (tst (frz (callRd (f__law_equal 8) (consB 9 (consM (varM 8) (M.pure []))))))) (retM (fre (M.pure (.bool false)))) Out.nx) (seqM (ifM law_t1 (retM (fre (M.pure (.bool false)))) Out.nx) (seqM (ifM (tst (op2 neD (frz (callM f_of_one (consM (varM 3) (consM (varM 4) (consM (frz (revM (varM 7))) (M.pure [])))))) (op2 eqD (varM 8) (frz (lstM (M.pure [])))))) (retM (fre (M.pure (.bool false)))) Out.nx) (seqM (exprM (appM 9 (M.pure (.int 0)))) (ifM (tst (op2 neD (frz (callM f_contradictions (consM (varM 3) (consM (varM 4) (consM (varM 7) (M.pure [])))))) (varM 8))) (retM (fre (M.pure (.bool false)))) Out.nx))))))) [some (.fr sc), some (.fr cc), some (.ow s'), some (.fr (netD es)), some (.fr (.int v)), some (.fr (farD n d)), some (.fr (.int wd)), some (.fr (sgsD Z)), j8, j9] = .nx [some (.fr sc), some (.fr cc), some (.ow s'), some (.fr (netD es)), some (.fr (.int v)), some (.fr (farD n d)), some (.fr (.int wd)), some (.fr (sgsD Z)), j8', j9'] := by
    intro Z s' j8 j9 hl hZ
    have ok : SgOk n Z := ⟨fun z hz => by
      obtain ⟨a, b, c, e, f⟩ := hZ z hz
      exact ⟨a, by omega, c, e, by omega⟩, by omega⟩
    have okr : SgOk n Z.reverse := ⟨fun z hz => ok.b z (List.mem_reverse.mp hz), by rw [List.length_reverse]; exact ok.l⟩
    have e4 := law_pairs_eq (n := n) (d := d) (v := v) (by omega) (by omega) ok.L
    have e5 := contradictions_eq w v0 v1 ok
    have e6 := of_one_eq w v0 v1 ok
    have e7 := of_one_eq w v0 v1 okr
    rw [compat_rev T fun z hz => (ok.b z hz).p] at e7
    have hlen : (allP (clash d v) Z).length ≤ 1000 := by
      have h1 := allP_len (clash d v) Z
      have h2 : Z.length * Z.length ≤ 12 * 12 := Nat.mul_le_mul (by omega) (by omega)
      omega
    have l1 := law_equal_refl 2 8 (edsL (allP (clash d v) Z)) (Sm.edsL (by omega) 0) (by omega)
    have l2 := law_equal_refl 0 8 (.bool (compat d v Z)) (.bool _) (by omega)
    obtain ⟨j, ha⟩ := app_eds (allP (clash d v) Z) (by omega)
    have hc : decide (allP (clash d v) Z = []) = compat d v Z := allP_compat
    have hr := revS_sgs Z
    have h1 := eqD_eds_nil (allP (clash d v) Z)
    rw [hc] at h1
    generalize allP (clash d v) Z = F at *
    refine ⟨some (.fr (edsL F)), some (.ow j), ?_⟩
    unfold law_t1
    simp [-eqD_ev, e4, e5, e6, e7, l1, l2, ha, hr, h1]
  have st7 : setM 7 (fre (frz (callIO 2 f__law_sighted (consM (varM 3) (consM (varM 4) (consM (M.pure (.int 12)) (consM (varM 6) (M.pure [])))))))) [some (.fr sc), some (.fr cc), some (.ow s), some (.fr (netD es)), some (.fr (.int v)), some (.fr (farD n d)), some (.fr (.int wd)), j7, j8, j9] = .nx [some (.fr sc), some (.fr cc), some (.ow s2), some (.fr (netD es)), some (.fr (.int v)), some (.fr (farD n d)), some (.fr (.int wd)), some (.fr (sgsD Z)), j8, j9] := by simp [e2]
  unfold law_b1
  rw [seq_ev, st7, thn_nx, seq_ev]
  by_cases hr : r = 0
  · subst hr
    obtain ⟨Z', hZ'⟩ : ∃ Z', Z' = (Z ++ Z.take 2).take 12 := ⟨_, rfl⟩
    obtain ⟨j8', j9', e⟩ := fin Z' s3 j8 j9 (by rw [hZ', List.length_take]; omega) (fun z hz => by
      rw [hZ'] at hz
      rcases List.mem_append.mp (List.mem_of_mem_take hz) with h | h
      · exact hZ z h
      · exact hZ z (List.mem_of_mem_take h))
    have c1 := slice_sgs_to (Z := Z) (k := 2) (by decide)
    have c2 := addS_sgs (A := Z) (B := Z.take 2) (by rw [List.length_take]; omega)
    have c3 := slice_sgs_to (Z := Z ++ Z.take 2) (k := 12) (by decide)
    rw [show ((12 : Int).toNat) = 12 from rfl, ← hZ'] at c3
    rw [show ((2 : Int).toNat) = 2 from rfl] at c1
    refine ⟨s3, some (.fr (sgsD Z')), j8', j9', ?_, q3.mono (by omega)⟩
    have h : ifM (tst (op2 eqD (frz (callIO 2 f__law_draw (consM (M.pure (.int 3)) (M.pure [])))) (M.pure (.int 0)))) (setM 7 (fre (frz (sliceM (frz (op2F addS (varM 7) (frz (sliceM (varM 7) (M.pure none) (loM (M.pure (.int 2))))))) (M.pure none) (loM (M.pure (.int 12))))))) Out.nx [some (.fr sc), some (.fr cc), some (.ow s2), some (.fr (netD es)), some (.fr (.int v)), some (.fr (farD n d)), some (.fr (.int wd)), some (.fr (sgsD Z)), j8, j9] = .nx [some (.fr sc), some (.fr cc), some (.ow s3), some (.fr (netD es)), some (.fr (.int v)), some (.fr (farD n d)), some (.fr (.int wd)), some (.fr (sgsD Z')), j8, j9] := by
      simp [e3, c1, c2, c3]
    rw [h, thn_nx]
    exact e
  · obtain ⟨j8', j9', e⟩ := fin Z s3 j8 j9 hZl hZ
    refine ⟨s3, some (.fr (sgsD Z)), j8', j9', ?_, q3.mono (by omega)⟩
    have h : ∀ f, ifM (tst (op2 eqD (frz (callIO 2 f__law_draw (consM (M.pure (.int 3)) (M.pure [])))) (M.pure (.int 0)))) f Out.nx [some (.fr sc), some (.fr cc), some (.ow s2), some (.fr (netD es)), some (.fr (.int v)), some (.fr (farD n d)), some (.fr (.int wd)), some (.fr (sgsD Z)), j8, j9] = .nx [some (.fr sc), some (.fr cc), some (.ow s3), some (.fr (netD es)), some (.fr (.int v)), some (.fr (farD n d)), some (.fr (.int wd)), some (.fr (sgsD Z)), j8, j9] := fun f => by
      simp [e3, hr]
    rw [h, thn_nx]
    exact e
theorem k04_b2 {sc : D} {c : Int} {j2 j3 j4 j5 j6 j7 j8 j9 : Option S} : ∃ j2' j3' j4' j5' j6' j7' j8' j9', law_b2 [some (.fr sc), some (.fr (.int c)), j2, j3, j4, j5, j6, j7, j8, j9] = .nx [some (.fr sc), some (.fr (.int c)), j2', j3', j4', j5', j6', j7', j8', j9'] := by
  obtain ⟨s, e1, q1⟩ := source_src c 4 (by omega)
  obtain ⟨n, es, d, v, s1, e2, w, hn, v0, v3, v10, q2⟩ := net_speed (i := 2) (ρ := [some (.fr sc), some (.fr (.int c)), some (.ow s), j3, j4, j5, j6, j7, j8, j9]) (most := 24) (a := 2) (b := 10) rfl q1 (by omega) (by omega) (by omega) (by omega) (by omega) (by omega) (by omega) (by omega)
  have hsz := w.sz
  have hfar := w.tr.far (by omega)
  obtain ⟨s2, a7, a8, a9, e3, q3⟩ := k04_b1 (sc := sc) (cc := .int c) w v0 v10 q2 (by omega) (by omega) (wd := 5) (by omega) (by omega) (j7 := j7) (j8 := j8) (j9 := j9)
  obtain ⟨s3, b7, b8, b9, e4, q4⟩ := k04_b1 (sc := sc) (cc := .int c) w v0 v10 q3 (by omega) (by omega) (wd := 1000) (by omega) (by omega) (j7 := a7) (j8 := a8) (j9 := a9)
  have st4 : ∀ g, seqM (parM [3, 4] (consF (fre (frz (callIO 2 f__law_tree (consM (M.pure (.int 24)) (M.pure []))))) (consF (fre (frz (op2F addS (M.pure (.int 1)) (frz (callIO 2 f__law_draw (consM (frz (callIO 2 f__law_choice (consM (frz (lstM (consM (M.pure (.int 2)) (consM (M.pure (.int 10)) (M.pure []))))) (M.pure [])))) (M.pure []))))))) (M.pure [])))) g [some (.fr sc), some (.fr (.int c)), some (.ow s), j3, j4, j5, j6, j7, j8, j9] = g [some (.fr sc), some (.fr (.int c)), some (.ow s1), some (.fr (netD es)), some (.fr (.int v)), j5, j6, j7, j8, j9] := fun g => by
    rw [seq_ev, parM_ev, e2]
    simp
  have st2 : setM 2 (callM f__law_source (consM (varM 1) (consM (M.pure (.int 4)) (M.pure [])))) [some (.fr sc), some (.fr (.int c)), j2, j3, j4, j5, j6, j7, j8, j9] = .nx [some (.fr sc), some (.fr (.int c)), some (.ow s), j3, j4, j5, j6, j7, j8, j9] := by simp [e1]
  have st5 : setM 5 (fre (frz (callM f__law_far (consM (varM 3) (M.pure []))))) [some (.fr sc), some (.fr (.int c)), some (.ow s1), some (.fr (netD es)), some (.fr (.int v)), j5, j6, j7, j8, j9] = .nx [some (.fr sc), some (.fr (.int c)), some (.ow s1), some (.fr (netD es)), some (.fr (.int v)), some (.fr (farD n d)), j6, j7, j8, j9] := by simp [hfar]
  refine ⟨some (.ow s3), some (.fr (netD es)), some (.fr (.int v)), some (.fr (farD n d)), some (.fr (.int 1000)), b7, b8, b9, ?_⟩
  unfold law_b2
  rw [seq_ev, st2, thn_nx, st4, seq_ev, st5, thn_nx]
  have hi : seqM' (frz (tupM (consM (M.pure (.int 5)) (consM (M.pure (.int 1000)) (M.pure []))))) [some (.fr sc), some (.fr (.int c)), some (.ow s1), some (.fr (netD es)), some (.fr (.int v)), some (.fr (farD n d)), j6, j7, j8, j9] = .ok ([.int 5, .int 1000], [some (.fr sc), some (.fr (.int c)), some (.ow s1), some (.fr (netD es)), some (.fr (.int v)), some (.fr (farD n d)), j6, j7, j8, j9]) := by simp
  rw [for_ev, hi, fr_ok, forD_one (by simp) e3, forD_one (by simp) e4, forD_end]
theorem law_eq (ns : List Int) (hl : ns.length ≤ 63) : f_law [.list (ns.map .int)] = .ok (.fr (.bool true)) := by
  obtain ⟨ρ', e, j1, j2, j3, j4, j5, j6, j7, j8, j9, rfl⟩ := cells_loop (i := 1) (k := 10) (ns := ns) (body := law_b2) (fun ρ => ∃ j1 j2 j3 j4 j5 j6 j7 j8 j9, ρ = [some (.fr (.list (ns.map .int))), j1, j2, j3, j4, j5, j6, j7, j8, j9]) (by
    rintro c ρ ⟨j1, j2, j3, j4, j5, j6, j7, j8, j9, rfl⟩
    obtain ⟨j2', j3', j4', j5', j6', j7', j8', j9', e⟩ := k04_b2 (sc := .list (ns.map .int)) (c := c) (j2 := j2) (j3 := j3) (j4 := j4) (j5 := j5) (j6 := j6) (j7 := j7) (j8 := j8) (j9 := j9)
    exact ⟨_, _, by simp, e, _, _, _, _, _, _, _, _, _, rfl⟩) (ρ0 := [some (.fr (.list (ns.map .int))), none, none, none, none, none, none, none, none, none]) ⟨_, _, _, _, _, _, _, _, _, rfl⟩
  have w : Nw 3 [(0, 1), (1, 2)] (growD [(1, 0), (2, 1)]) := nw_grow [(1, 0), (2, 1)] 3 (by decide) (by decide) (by decide) (by decide) (by decide)
  have ok : SgOk 3 [(0, 0, 0), (1, 2, 1), (1, 2, 0)] := ⟨fun z hz => by
    simp at hz
    rcases hz with rfl | rfl | rfl <;> exact ⟨by decide, by decide, ⟨by decide, by decide⟩, by decide, by decide⟩, by simp⟩
  have ho := contradictions_eq w (v := 1) (by omega) (by omega) ok
  have hp : allP (clash (growD [(1, 0), (2, 1)]) 1) [(0, 0, 0), (1, 2, 1), (1, 2, 0)] = [(0, 2)] := by decide
  rw [hp] at ho
  have z3 : ltM (1 + ns.length) = true := ltM_of (by omega)
  have hn : (PyData.tuple [.tuple [.int 0, .int 1], .tuple [.int 1, .int 2]] : D) = netD [(0, 1), (1, 2)] := rfl
  have hz : (PyData.tuple [.tuple [.int 0, .int 0, .int 0], .tuple [.int 1, .int 2, .int 1], .tuple [.int 1, .int 2, .int 0]] : D) = sgsD [(0, 0, 0), (1, 2, 1), (1, 2, 0)] := rfl
  have he : (PyData.list [.tuple [.int 0, .int 2]] : D) = edsL [(0, 2)] := rfl
  unfold f_law b_law law_s1
  simp [-eqD_ev, z3, e, hn, hz, he, ho, eqD_eds]
end Lf

namespace Lf
open PySem PySem.Spec PyProof.Rows L2
def top (i : Nat) : Stmt := PySem.Challenge.pw_treetrail_k04_contradictions.main.body.getD i (.Pass ⟨0, 0, 0, 0⟩)
theorem bb_abs : bootBuiltins "abs" = some (.builtin "abs") := by decide +kernel
theorem bb_all : bootBuiltins "all" = some (.builtin "all") := by decide +kernel
theorem bb_bool : bootBuiltins "bool" = some (.type "bool") := by decide +kernel
theorem bb_enumerate : bootBuiltins "enumerate" = some (.type "enumerate") := by decide +kernel
theorem bb_int : bootBuiltins "int" = some (.type "int") := by decide +kernel
theorem bb_isinstance : bootBuiltins "isinstance" = some (.builtin "isinstance") := by decide +kernel
theorem bb_len : bootBuiltins "len" = some (.builtin "len") := by decide +kernel
theorem bb_list : bootBuiltins "list" = some (.type "list") := by decide +kernel
theorem bb_max : bootBuiltins "max" = some (.builtin "max") := by decide +kernel
theorem bb_min : bootBuiltins "min" = some (.builtin "min") := by decide +kernel
theorem bb_range : bootBuiltins "range" = some (.type "range") := by decide +kernel
theorem bb_sorted : bootBuiltins "sorted" = some (.builtin "sorted") := by decide +kernel
theorem bb_str : bootBuiltins "str" = some (.type "str") := by decide +kernel
theorem bb_tuple : bootBuiltins "tuple" = some (.type "tuple") := by decide +kernel
theorem bb_zip : bootBuiltins "zip" = some (.type "zip") := by decide +kernel
structure Txt (K : Frag) (mg : Str → Option Value) : Prop where
  b_abs : mg "abs" = none
  b_all : mg "all" = none
  b_bool : mg "bool" = none
  b_enumerate : mg "enumerate" = none
  b_int : mg "int" = none
  b_isinstance : mg "isinstance" = none
  b_len : mg "len" = none
  b_list : mg "list" = none
  b_max : mg "max" = none
  b_min : mg "min" = none
  b_range : mg "range" = none
  b_sorted : mg "sorted" = none
  b_str : mg "str" = none
  b_tuple : mg "tuple" = none
  b_zip : mg "zip" = none
  g_MAX_EDGES : ∃ t, mg "MAX_EDGES" = some (.int 24 t)
  g_MAX_RADIUS : ∃ t, mg "MAX_RADIUS" = some (.int 100 t)
  g_MAX_SIGHTINGS : ∃ t, mg "MAX_SIGHTINGS" = some (.int 12 t)
  g_MAX_SPEED : ∃ t, mg "MAX_SPEED" = some (.int 10 t)
  g_MAX_TIME : ∃ t, mg "MAX_TIME" = some (.int 1000000000 t)
  x_InvalidNetwork : ExcT K mg "InvalidNetwork"
  x_InvalidSightings : ExcT K mg "InvalidSightings"
  x_InvalidSpeed : ExcT K mg "InvalidSpeed"
abbrev st__law_source : Stmt := top 30
abbrev N__law_source : List Str := ["cell", "turn"]
theorem sc__law_source : FnScope N__law_source ["cell", "turn"] (defScope st__law_source) := ⟨rfl, rfl, rfl, by decide +kernel, rfl, by decide +kernel, by decide +kernel⟩
theorem c__law_source {P : Program} {w : World} {K : Frag} {mg : Str → Option Value} {base : Heap} (T : Txt K mg) (d : Def K mg "_law_source" st__law_source ["cell", "turn"]) : Callee P w K mg base "_law_source" 1 (spP K mg f__law_source) := by
  refine callee_pure (k := 0) d sc__law_source rfl fun fa cdv A outer s H E hr => ?_
  exact (lss_cons (ls_if (lt_cmp op_ge (o2_B _) (le_var 0) (le_bin op_pow (o2_C _ cPow_ok) le_int le_int) (nomark _)) (lss_one (ls_ret (lf_lst (la_cons (le_bin (op_sub.or op_subB) o2_subD (le_var 0) (le_bin op_pow (o2_C _ cPow_ok) le_int le_int)) (la_cons (le_bin op_mod (o2_C _ cMod_ok) (le_var 0) le_int) (la_cons (le_var 1) la_nil)))))) lss_nil) (lss_one (ls_ret (lf_lst (la_cons le_int (la_cons (le_bin op_mod (o2_C _ cMod_ok) (le_var 0) le_int) (la_cons (le_var 1) la_nil)))))))
abbrev st__law_far : Stmt := top 37
abbrev N__law_far : List Str := ["network", "size", "far", "row", "changed", "one", "other", "here", "there"]
theorem sc__law_far : FnScope N__law_far ["network"] (defScope st__law_far) := ⟨rfl, rfl, rfl, by decide +kernel, rfl, by decide +kernel, by decide +kernel⟩
theorem c__law_far {P : Program} {w : World} {K : Frag} {mg : Str → Option Value} {base : Heap} (T : Txt K mg) (d : Def K mg "_law_far" st__law_far ["network"]) : Callee P w K mg base "_law_far" 1 (spP K mg f__law_far) := by
  refine callee_pure (k := 0) d sc__law_far rfl fun fa cdv A outer s H E hr => ?_
  exact (lss_cons (ls_set (i := 1) sc__law_far.nd rfl (Or.inr rfl) (lf_of (le_of (lf_bin op_addA o2_add.of (le_of (lf_callB cr_len (oc_len.of len1) T.b_len bb_len (la_cons (le_var 0) la_nil))) le_int)))) (lss_deep (i := 2) (own := [("one", 5)]) (is := [5]) rfl sc__law_far.nd rfl rfl (sw_true rfl rfl rfl (by decide +kernel)) (li_range1 T.b_range (la_cons (le_var 1) la_nil)) (by kernel_rfl) (by decide) (fun _ _ _ _ _ => (lg_name (i := 5) sc__law_far.nd rfl (Or.inr rfl))) (fun _ _ _ _ _ => (lf_comp (own := [("other", 6)]) (is := [6]) rfl sc__law_far.nd (li_range1 T.b_range (la_cons (le_var 1) la_nil)) (by kernel_rfl) (by decide) (fun _ _ _ _ _ => (lg_name (i := 6) sc__law_far.nd rfl (Or.inl rfl))) (fun _ _ _ _ _ => lts_nil) (fun _ _ _ _ _ => (le_of (lf_ifExp (lt_cmp (op_eqD hr.units) o2_eqD (le_var 5) (le_var 6) (nomark _)) (lf_of le_int) (lf_of le_non)))))) (lds_cons (ld_forRow (W := fun _ _ _ _ => False) (i := 2) (r := 3) (passes_of rfl) rfl sc__law_far.nd rfl (lss_cons (ls_set (i := 4) sc__law_far.nd rfl (Or.inl rfl) (lf_of le_bl)) (lss_one (ls_while fuel (passes_of rfl) (lt_val (le_var 4)) (lss_cons (ls_set (i := 4) sc__law_far.nd rfl (Or.inl rfl) (lf_of le_bl)) (lss_one (ls_for (passes_of rfl) rfl (li_seq (le_var 0)) (lg_tup rfl (lgs_cons (lg_name (i := 5) sc__law_far.nd rfl (Or.inl rfl)) (lgs_cons (lg_name (i := 6) sc__law_far.nd rfl (Or.inl rfl)) lgs_nil))) (lss_one (ls_for (passes_of rfl) rfl (li_seq (le_of (lf_tup (la_cons (le_of (lf_tup (la_cons (le_var 5) (la_cons (le_var 6) la_nil)))) (la_cons (le_of (lf_tup (la_cons (le_var 6) (la_cons (le_var 5) la_nil)))) la_nil))))) (lg_tup rfl (lgs_cons (lg_name (i := 7) sc__law_far.nd rfl (Or.inl rfl)) (lgs_cons (lg_name (i := 8) sc__law_far.nd rfl (Or.inl rfl)) lgs_nil))) (lss_one (ls_if (lt_lw (lw_and (lt_cmp op_notN o2_notN (le_of (lf_itemV (i := 3) (le_var 7))) le_non (nomark _)) (lw_and1 (lt_cmp op_isN o2_isN (le_of (lf_itemV (i := 3) (le_var 8))) le_non (nomark _))))) (lss_cons (ls_setItem (i := 3) (le_of (lf_bin op_addA o2_add.of (le_of (lf_itemV (i := 3) (le_var 7))) le_int)) (le_var 8)) (lss_one (ls_set (i := 4) sc__law_far.nd rfl (Or.inl rfl) (lf_of le_bl)))) lss_nil))))))))))) (lds_one (ld_ret (i := 2))))))
abbrev st_neighbours : Stmt := top 10
abbrev N_neighbours : List Str := ["network", "found", "one", "other", "place"]
theorem sc_neighbours : FnScope N_neighbours ["network"] (defScope st_neighbours) := ⟨rfl, rfl, rfl, by decide +kernel, rfl, by decide +kernel, by decide +kernel⟩
theorem c_neighbours {P : Program} {w : World} {K : Frag} {mg : Str → Option Value} {base : Heap} (T : Txt K mg) (d : Def K mg "neighbours" st_neighbours ["network"]) : Callee P w K mg base "neighbours" 1 (spP K mg f_neighbours) := by
  refine callee_pure (k := 0) d sc_neighbours rfl fun fa cdv A outer s H E hr => ?_
  exact (lss_deep (i := 1) (own := [("place", 4)]) (is := [4]) rfl sc_neighbours.nd rfl rfl (sw_true rfl rfl rfl (by decide +kernel)) (li_range1 T.b_range (la_cons (le_of (lf_bin op_addA o2_add.of (le_of (lf_callB cr_len (oc_len.of len1) T.b_len bb_len (la_cons (le_var 0) la_nil))) le_int)) la_nil)) (by kernel_rfl) (by decide) (fun _ _ _ _ _ => (lg_name (i := 4) sc_neighbours.nd rfl (Or.inl rfl))) (fun _ _ _ _ _ => (lf_lst la_nil)) (lds_cons (ld_for (i := 1) (W := cN) (passes_of rfl) rfl (li_seq (le_var 0)) (lg_tup rfl (lgs_cons (lg_name (i := 2) sc_neighbours.nd rfl (Or.inl rfl)) (lgs_cons (lg_name (i := 3) sc_neighbours.nd rfl (Or.inl rfl)) lgs_nil))) (lds_cons (ld_nap (i := 1) (W := cN) (le_var 2) (le_var 3)) (lds_one (ld_nap (i := 1) (W := cN) (le_var 3) (le_var 2))))) (lds_one (ld_ret (i := 1)))))
abbrev st_parents_from : Stmt := top 11
abbrev N_parents_from : List Str := ["network", "place", "near", "found", "waiting", "here", "other"]
theorem sc_parents_from : FnScope N_parents_from ["network", "place"] (defScope st_parents_from) := ⟨rfl, rfl, rfl, by decide +kernel, rfl, by decide +kernel, by decide +kernel⟩
theorem c_parents_from {P : Program} {w : World} {K : Frag} {mg : Str → Option Value} {base : Heap} (T : Txt K mg) (d : Def K mg "parents_from" st_parents_from ["network", "place"]) (C_neighbours : Callee P w K mg base "neighbours" 1 (spP K mg f_neighbours)) : Callee P w K mg base "parents_from" 2 (spP K mg f_parents_from) := by
  refine callee_pure (k := 1) d sc_parents_from rfl fun fa cdv A outer s H E hr => ?_
  exact (lss_cons (ls_par3 (i := 2) (j := 3) (k := 4) rfl sc_parents_from.nd rfl rfl rfl (by decide) (by decide) (by decide) rfl rfl rfl (laf_cons (lf_call C_neighbours (takes_of rfl rfl rfl rfl) (hr.mono (by omega)) (la_cons (le_var 0) la_nil)) (laf_cons (lf_dict1 (le_var 1) le_non) (laf_cons (lf_lst (la_cons (le_var 1) la_nil)) laf_nil))) (by rfl)) (lss_cons (ls_while fuel (passes_of rfl) (lt_cmpV (i := 4) (op_neD hr.units) o2_neS (le_of (lf_lst la_nil)) (nomark _)) (lss_cons (ls_set (i := 5) sc_parents_from.nd rfl (Or.inl rfl) (lf_popAt (i := 4) le_int)) (lss_one (ls_for (passes_of rfl) rfl (li_seq (le_of (lf_item (le_var 2) (le_var 5)))) (lg_name (i := 6) sc_parents_from.nd rfl (Or.inl rfl)) (lss_one (ls_if (lt_dnotinV (i := 3) (hu_of hr) (le_var 6)) (lss_cons (ls_setDict (i := 3) (hu_of hr) (le_var 5) (le_var 6)) (lss_one (ls_expr (lf_append (i := 4) (le_var 6))))) lss_nil)))))) (lss_one (ls_ret (lf_mov 3)))))
abbrev st_is_between : Stmt := top 8
abbrev N_is_between : List Str := ["value", "low", "high"]
theorem sc_is_between : FnScope N_is_between ["value", "low", "high"] (defScope st_is_between) := ⟨rfl, rfl, rfl, by decide +kernel, rfl, by decide +kernel, by decide +kernel⟩
theorem c_is_between {P : Program} {w : World} {K : Frag} {mg : Str → Option Value} {base : Heap} (T : Txt K mg) (d : Def K mg "is_between" st_is_between ["value", "low", "high"]) : Callee P w K mg base "is_between" 1 (spP K mg f_is_between) := by
  refine callee_pure (k := 0) d sc_is_between rfl fun fa cdv A outer s H E hr => ?_
  exact (lss_one (ls_ret (lf_of (le_and (le_isi (T := "int") isi_int T.b_isinstance T.b_int (le_var 0)) (le_and (le_not (le_isi (T := "bool") isi_bool T.b_isinstance T.b_bool (le_var 0))) (le_one (le_chain op_le op_le (o2_B _) (o2_B _) (le_var 1) (le_var 0) (le_var 2))))))))
abbrev st_is_edge : Stmt := top 9
abbrev N_is_edge : List Str := ["value", "last"]
theorem sc_is_edge : FnScope N_is_edge ["value", "last"] (defScope st_is_edge) := ⟨rfl, rfl, rfl, by decide +kernel, rfl, by decide +kernel, by decide +kernel⟩
theorem c_is_edge {P : Program} {w : World} {K : Frag} {mg : Str → Option Value} {base : Heap} (T : Txt K mg) (d : Def K mg "is_edge" st_is_edge ["value", "last"]) (C_is_between : Callee P w K mg base "is_between" 1 (spP K mg f_is_between)) : Callee P w K mg base "is_edge" 2 (spP K mg f_is_edge) := by
  refine callee_pure (k := 1) d sc_is_edge rfl fun fa cdv A outer s H E hr => ?_
  exact (lss_cons (ls_if (lt_lw (lw_or (lt_not (lt_val (le_isi (T := "tuple") isi_tuple T.b_isinstance T.b_tuple (le_var 0)))) (lw_or1 (lt_cmp (op_neD hr.units) o2_neD (le_of (lf_callB cr_len (oc_len.of len1) T.b_len bb_len (la_cons (le_var 0) la_nil))) le_int (nomark _))))) (lss_one (ls_ret (lf_of le_bl))) lss_nil) (lss_one (ls_ret (lf_of (le_and (le_of (lf_call C_is_between (takes_of rfl rfl rfl rfl) (hr.mono (by omega)) (la_cons (le_of (lf_item (le_var 0) le_int)) (la_cons le_int (la_cons (le_var 1) la_nil))))) (le_one (le_of (lf_call C_is_between (takes_of rfl rfl rfl rfl) (hr.mono (by omega)) (la_cons (le_of (lf_item (le_var 0) le_int)) (la_cons (le_of (lf_bin op_addA o2_add.of (le_of (lf_item (le_var 0) le_int)) le_int)) (la_cons (le_var 1) la_nil)))))))))))
abbrev st_is_network : Stmt := top 12
abbrev N_is_network : List Str := ["value", "edge", "first", "second"]
theorem sc_is_network : FnScope N_is_network ["value"] (defScope st_is_network) := ⟨rfl, rfl, rfl, by decide +kernel, rfl, by decide +kernel, by decide +kernel⟩
theorem c_is_network {P : Program} {w : World} {K : Frag} {mg : Str → Option Value} {base : Heap} (T : Txt K mg) (d : Def K mg "is_network" st_is_network ["value"]) (C_parents_from : Callee P w K mg base "parents_from" 2 (spP K mg f_parents_from)) (C_is_edge : Callee P w K mg base "is_edge" 2 (spP K mg f_is_edge)) : Callee P w K mg base "is_network" 3 (spP K mg f_is_network) := by
  refine callee_pure (k := 2) d sc_is_network rfl fun fa cdv A outer s H E hr => ?_
  exact (lss_cons (ls_if (lt_lw (lw_or (lt_not (lt_val (le_isi (T := "tuple") isi_tuple T.b_isinstance T.b_tuple (le_var 0)))) (lw_or1 (lt_cmp op_gt (o2_B _) (le_of (lf_callB cr_len (oc_len.of len1) T.b_len bb_len (la_cons (le_var 0) la_nil))) (le_globI T.g_MAX_EDGES) (nomark _))))) (lss_one (ls_ret (lf_of le_bl))) lss_nil) (lss_cons (ls_if (lt_not (lt_val (le_of (lf_callB (cr_all rfl) (oc_all.of all1) T.b_all bb_all (la_cons (le_of (lf_comp (own := [("edge", 1)]) (is := [1]) rfl sc_is_network.nd (li_seq (le_var 0)) (by kernel_rfl) (by decide) (fun _ _ _ _ _ => (lg_name (i := 1) sc_is_network.nd rfl (Or.inl rfl))) (fun _ _ _ _ _ => lts_nil) (fun _ _ _ _ _ => (le_of (lf_call C_is_edge takes_no (hr.mono (by omega)) (la_cons (le_var 1) (la_cons (le_of (lf_callB cr_len (oc_len.of len1) T.b_len bb_len (la_cons (le_var 0) la_nil))) la_nil))))))) la_nil))))) (lss_one (ls_ret (lf_of le_bl))) lss_nil) (lss_cons (ls_if (lt_not (lt_val (le_of (lf_callB (cr_all rfl) (oc_all.of all1) T.b_all bb_all (la_cons (le_of (lf_comp (own := [("first", 2), ("second", 3)]) (is := [2, 3]) rfl sc_is_network.nd (li_zip T.b_zip (la_cons (le_var 0) (la_cons (le_of (lf_slice (le_var 0) (lo_some le_int) lo_none)) la_nil))) (by kernel_rfl) (by decide) (fun _ _ _ _ _ => (lg_tup rfl (lgs_cons (lg_name (i := 2) sc_is_network.nd rfl (Or.inl rfl)) (lgs_cons (lg_name (i := 3) sc_is_network.nd rfl (Or.inl rfl)) lgs_nil)))) (fun _ _ _ _ _ => lts_nil) (fun _ _ _ _ _ => (le_cmp (op_lt.or (op_ltT hr.units0)) o2_ltD (le_var 2) (le_var 3) (nomark _))))) la_nil))))) (lss_one (ls_ret (lf_of le_bl))) lss_nil) (lss_one (ls_ret (lf_of (le_cmp (op_eqD hr.units) o2_eqD (le_of (lf_callB cr_len (oc_len.of len1) T.b_len bb_len (la_cons (le_of (lf_call C_parents_from (takes_of rfl rfl rfl rfl) (hr.mono (by omega)) (la_cons (le_var 0) (la_cons le_int la_nil)))) la_nil))) (le_of (lf_bin op_addA o2_add.of (le_of (lf_callB cr_len (oc_len.of len1) T.b_len bb_len (la_cons (le_var 0) la_nil))) le_int)) (nomark _))))))))
abbrev st_check_network : Stmt := top 13
abbrev N_check_network : List Str := ["network"]
theorem sc_check_network : FnScope N_check_network ["network"] (defScope st_check_network) := ⟨rfl, rfl, rfl, by decide +kernel, rfl, by decide +kernel, by decide +kernel⟩
theorem c_check_network {P : Program} {w : World} {K : Frag} {mg : Str → Option Value} {base : Heap} (T : Txt K mg) (d : Def K mg "check_network" st_check_network ["network"]) (C_is_network : Callee P w K mg base "is_network" 3 (spP K mg f_is_network)) : Callee P w K mg base "check_network" 4 (spP K mg f_check_network) := by
  refine callee_pure (k := 3) d sc_check_network rfl fun fa cdv A outer s H E hr => ?_
  exact (lss_one (ls_if (lt_not (lt_val (le_of (lf_call C_is_network (takes_of rfl rfl rfl rfl) (hr.mono (by omega)) (la_cons (le_var 0) la_nil))))) (lss_one (ls_raise rfl (takes_of rfl rfl rfl rfl) T.x_InvalidNetwork)) lss_nil))
abbrev st_check_speed : Stmt := top 21
abbrev N_check_speed : List Str := ["network", "speed"]
theorem sc_check_speed : FnScope N_check_speed ["network", "speed"] (defScope st_check_speed) := ⟨rfl, rfl, rfl, by decide +kernel, rfl, by decide +kernel, by decide +kernel⟩
theorem c_check_speed {P : Program} {w : World} {K : Frag} {mg : Str → Option Value} {base : Heap} (T : Txt K mg) (d : Def K mg "check_speed" st_check_speed ["network", "speed"]) (C_check_network : Callee P w K mg base "check_network" 4 (spP K mg f_check_network)) (C_is_between : Callee P w K mg base "is_between" 1 (spP K mg f_is_between)) : Callee P w K mg base "check_speed" 5 (spP K mg f_check_speed) := by
  refine callee_pure (k := 4) d sc_check_speed rfl fun fa cdv A outer s H E hr => ?_
  exact (lss_cons (ls_expr (lf_call C_check_network (takes_of rfl rfl rfl rfl) (hr.mono (by omega)) (la_cons (le_var 0) la_nil))) (lss_one (ls_if (lt_not (lt_val (le_of (lf_call C_is_between (takes_of rfl rfl rfl rfl) (hr.mono (by omega)) (la_cons (le_var 1) (la_cons le_int (la_cons (le_globI T.g_MAX_SPEED) la_nil))))))) (lss_one (ls_raise rfl (takes_of rfl rfl rfl rfl) T.x_InvalidSpeed)) lss_nil)))
abbrev st_is_sighting : Stmt := top 19
abbrev N_is_sighting : List Str := ["network", "value"]
theorem sc_is_sighting : FnScope N_is_sighting ["network", "value"] (defScope st_is_sighting) := ⟨rfl, rfl, rfl, by decide +kernel, rfl, by decide +kernel, by decide +kernel⟩
theorem c_is_sighting {P : Program} {w : World} {K : Frag} {mg : Str → Option Value} {base : Heap} (T : Txt K mg) (d : Def K mg "is_sighting" st_is_sighting ["network", "value"]) (C_is_between : Callee P w K mg base "is_between" 1 (spP K mg f_is_between)) : Callee P w K mg base "is_sighting" 2 (spP K mg f_is_sighting) := by
  refine callee_pure (k := 1) d sc_is_sighting rfl fun fa cdv A outer s H E hr => ?_
  exact (lss_cons (ls_if (lt_lw (lw_or (lt_not (lt_val (le_isi (T := "tuple") isi_tuple T.b_isinstance T.b_tuple (le_var 1)))) (lw_or (lt_cmp (op_neD hr.units) o2_neD (le_of (lf_callB cr_len (oc_len.of len1) T.b_len bb_len (la_cons (le_var 1) la_nil))) le_int (nomark _)) (lw_or1 (lt_not (lt_val (le_of (lf_call C_is_between (takes_of rfl rfl rfl rfl) (hr.mono (by omega)) (la_cons (le_of (lf_item (le_var 1) le_int)) (la_cons le_int (la_cons (le_globI T.g_MAX_TIME) la_nil))))))))))) (lss_one (ls_ret (lf_of le_bl))) lss_nil) (lss_one (ls_ret (lf_of (le_and (le_of (lf_call C_is_between (takes_of rfl rfl rfl rfl) (hr.mono (by omega)) (la_cons (le_of (lf_item (le_var 1) le_int)) (la_cons le_int (la_cons (le_of (lf_callB cr_len (oc_len.of len1) T.b_len bb_len (la_cons (le_var 0) la_nil))) la_nil))))) (le_one (le_of (lf_call C_is_between (takes_of rfl rfl rfl rfl) (hr.mono (by omega)) (la_cons (le_of (lf_item (le_var 1) le_int)) (la_cons le_int (la_cons (le_globI T.g_MAX_RADIUS) la_nil)))))))))))
abbrev st_are_sightings : Stmt := top 20
abbrev N_are_sightings : List Str := ["network", "value", "sighting"]
theorem sc_are_sightings : FnScope N_are_sightings ["network", "value"] (defScope st_are_sightings) := ⟨rfl, rfl, rfl, by decide +kernel, rfl, by decide +kernel, by decide +kernel⟩
theorem c_are_sightings {P : Program} {w : World} {K : Frag} {mg : Str → Option Value} {base : Heap} (T : Txt K mg) (d : Def K mg "are_sightings" st_are_sightings ["network", "value"]) (C_is_sighting : Callee P w K mg base "is_sighting" 2 (spP K mg f_is_sighting)) : Callee P w K mg base "are_sightings" 3 (spP K mg f_are_sightings) := by
  refine callee_pure (k := 2) d sc_are_sightings rfl fun fa cdv A outer s H E hr => ?_
  exact (lss_cons (ls_if (lt_lw (lw_or (lt_not (lt_val (le_isi (T := "tuple") isi_tuple T.b_isinstance T.b_tuple (le_var 1)))) (lw_or1 (lt_cmp op_gt (o2_B _) (le_of (lf_callB cr_len (oc_len.of len1) T.b_len bb_len (la_cons (le_var 1) la_nil))) (le_globI T.g_MAX_SIGHTINGS) (nomark _))))) (lss_one (ls_ret (lf_of le_bl))) lss_nil) (lss_one (ls_ret (lf_callB (cr_all rfl) (oc_all.of all1) T.b_all bb_all (la_cons (le_of (lf_comp (own := [("sighting", 2)]) (is := [2]) rfl sc_are_sightings.nd (li_seq (le_var 1)) (by kernel_rfl) (by decide) (fun _ _ _ _ _ => (lg_name (i := 2) sc_are_sightings.nd rfl (Or.inl rfl))) (fun _ _ _ _ _ => lts_nil) (fun _ _ _ _ _ => (le_of (lf_call C_is_sighting takes_no (hr.mono (by omega)) (la_cons (le_var 0) (la_cons (le_var 2) la_nil))))))) la_nil)))))
abbrev st_check_sightings : Stmt := top 22
abbrev N_check_sightings : List Str := ["network", "sightings"]
theorem sc_check_sightings : FnScope N_check_sightings ["network", "sightings"] (defScope st_check_sightings) := ⟨rfl, rfl, rfl, by decide +kernel, rfl, by decide +kernel, by decide +kernel⟩
theorem c_check_sightings {P : Program} {w : World} {K : Frag} {mg : Str → Option Value} {base : Heap} (T : Txt K mg) (d : Def K mg "check_sightings" st_check_sightings ["network", "sightings"]) (C_are_sightings : Callee P w K mg base "are_sightings" 3 (spP K mg f_are_sightings)) : Callee P w K mg base "check_sightings" 4 (spP K mg f_check_sightings) := by
  refine callee_pure (k := 3) d sc_check_sightings rfl fun fa cdv A outer s H E hr => ?_
  exact (lss_one (ls_if (lt_not (lt_val (le_of (lf_call C_are_sightings (takes_of rfl rfl rfl rfl) (hr.mono (by omega)) (la_cons (le_var 0) (la_cons (le_var 1) la_nil)))))) (lss_one (ls_raise rfl (takes_of rfl rfl rfl rfl) T.x_InvalidSightings)) lss_nil))
abbrev st_check_all : Stmt := top 23
abbrev N_check_all : List Str := ["network", "speed", "sightings"]
theorem sc_check_all : FnScope N_check_all ["network", "speed", "sightings"] (defScope st_check_all) := ⟨rfl, rfl, rfl, by decide +kernel, rfl, by decide +kernel, by decide +kernel⟩
theorem c_check_all {P : Program} {w : World} {K : Frag} {mg : Str → Option Value} {base : Heap} (T : Txt K mg) (d : Def K mg "check_all" st_check_all ["network", "speed", "sightings"]) (C_check_speed : Callee P w K mg base "check_speed" 5 (spP K mg f_check_speed)) (C_check_sightings : Callee P w K mg base "check_sightings" 4 (spP K mg f_check_sightings)) : Callee P w K mg base "check_all" 6 (spP K mg f_check_all) := by
  refine callee_pure (k := 5) d sc_check_all rfl fun fa cdv A outer s H E hr => ?_
  exact (lss_cons (ls_expr (lf_call C_check_speed (takes_of rfl rfl rfl rfl) (hr.mono (by omega)) (la_cons (le_var 0) (la_cons (le_var 1) la_nil)))) (lss_one (ls_expr (lf_call C_check_sightings (takes_of rfl rfl rfl rfl) (hr.mono (by omega)) (la_cons (le_var 0) (la_cons (le_var 2) la_nil))))))
abbrev st_distances_from : Stmt := top 14
abbrev N_distances_from : List Str := ["network", "place", "found", "parents", "other"]
theorem sc_distances_from : FnScope N_distances_from ["network", "place"] (defScope st_distances_from) := ⟨rfl, rfl, rfl, by decide +kernel, rfl, by decide +kernel, by decide +kernel⟩
theorem c_distances_from {P : Program} {w : World} {K : Frag} {mg : Str → Option Value} {base : Heap} (T : Txt K mg) (d : Def K mg "distances_from" st_distances_from ["network", "place"]) (C_parents_from : Callee P w K mg base "parents_from" 2 (spP K mg f_parents_from)) : Callee P w K mg base "distances_from" 3 (spP K mg f_distances_from) := by
  refine callee_pure (k := 2) d sc_distances_from rfl fun fa cdv A outer s H E hr => ?_
  exact (lss_cons (ls_set (i := 2) sc_distances_from.nd rfl (Or.inr rfl) lf_dictK) (lss_cons (ls_set (i := 3) sc_distances_from.nd rfl (Or.inl rfl) (lf_call C_parents_from (takes_of rfl rfl rfl rfl) (hr.mono (by omega)) (la_cons (le_var 0) (la_cons (le_var 1) la_nil)))) (lss_cons (ls_forK (i := 3) (passes_of rfl) rfl (lg_name (i := 4) sc_distances_from.nd rfl (Or.inl rfl)) (lss_one (ls_setDict (i := 2) (hu_of hr) (le_of (lf_ifExp (lt_cmp op_isN o2_isN (le_of (lf_dgetV (i := 3) (hu_of hr) (le_var 4))) le_non (nomark _)) (lf_of le_int) (lf_bin op_addA o2_add.of (le_of (lf_dgetV (i := 2) (hu_of hr) (le_of (lf_dgetV (i := 3) (hu_of hr) (le_var 4))))) le_int))) (le_var 4)))) (lss_one (ls_ret (lf_comp (own := [("other", 4)]) (is := [4]) rfl sc_distances_from.nd (li_range1 T.b_range (la_cons (le_of (lf_bin op_addA o2_add.of (le_of (lf_callB cr_len (oc_len.of len1) T.b_len bb_len (la_cons (le_var 0) la_nil))) le_int)) la_nil)) (by kernel_rfl) (by decide) (fun _ _ _ _ _ => (lg_name (i := 4) sc_distances_from.nd rfl (Or.inl rfl))) (fun _ _ _ _ _ => lts_nil) (fun _ _ _ _ _ => (le_of (lf_dgetV (i := 2) (hu_of hr) (le_var 4))))))))))
abbrev st_contradict : Stmt := top 24
abbrev N_contradict : List Str := ["network", "speed", "first", "second", "far"]
theorem sc_contradict : FnScope N_contradict ["network", "speed", "first", "second"] (defScope st_contradict) := ⟨rfl, rfl, rfl, by decide +kernel, rfl, by decide +kernel, by decide +kernel⟩
theorem c_contradict {P : Program} {w : World} {K : Frag} {mg : Str → Option Value} {base : Heap} (T : Txt K mg) (d : Def K mg "contradict" st_contradict ["network", "speed", "first", "second"]) (C_distances_from : Callee P w K mg base "distances_from" 3 (spP K mg f_distances_from)) : Callee P w K mg base "contradict" 4 (spP K mg f_contradict) := by
  refine callee_pure (k := 3) d sc_contradict rfl fun fa cdv A outer s H E hr => ?_
  exact (lss_cons (ls_set (i := 4) sc_contradict.nd rfl (Or.inl rfl) (lf_of (le_of (lf_item (le_of (lf_call C_distances_from (takes_of rfl rfl rfl rfl) (hr.mono (by omega)) (la_cons (le_var 0) (la_cons (le_of (lf_item (le_var 2) le_int)) la_nil)))) (le_of (lf_item (le_var 3) le_int)))))) (lss_one (ls_ret (lf_of (le_cmp op_gt (o2_B _) (le_var 4) (le_of (lf_bin op_addA o2_add.of (le_of (lf_bin op_addA o2_add.of (le_of (lf_item (le_var 2) le_int)) (le_of (lf_item (le_var 3) le_int)))) (le_of (lf_bin op_mulA o2_mul (le_var 1) (le_of (lf_callB call_abs oc_abs T.b_abs bb_abs (la_cons (le_bin (op_sub.or op_subB) o2_subD (le_of (lf_item (le_var 2) le_int)) (le_of (lf_item (le_var 3) le_int))) la_nil))))))) (nomark _))))))
abbrev st_all_contradictions : Stmt := top 25
abbrev N_all_contradictions : List Str := ["network", "speed", "sightings", "found", "at", "first", "other"]
theorem sc_all_contradictions : FnScope N_all_contradictions ["network", "speed", "sightings"] (defScope st_all_contradictions) := ⟨rfl, rfl, rfl, by decide +kernel, rfl, by decide +kernel, by decide +kernel⟩
theorem c_all_contradictions {P : Program} {w : World} {K : Frag} {mg : Str → Option Value} {base : Heap} (T : Txt K mg) (d : Def K mg "all_contradictions" st_all_contradictions ["network", "speed", "sightings"]) (C_contradict : Callee P w K mg base "contradict" 4 (spP K mg f_contradict)) : Callee P w K mg base "all_contradictions" 5 (spP K mg f_all_contradictions) := by
  refine callee_pure (k := 4) d sc_all_contradictions rfl fun fa cdv A outer s H E hr => ?_
  exact (lss_cons (ls_set (i := 3) sc_all_contradictions.nd rfl (Or.inl rfl) (lf_lst la_nil)) (lss_cons (ls_for (passes_of rfl) rfl (li_enum T.b_enumerate (la_cons (le_var 2) la_nil)) (lg_tup rfl (lgs_cons (lg_name (i := 4) sc_all_contradictions.nd rfl (Or.inl rfl)) (lgs_cons (lg_name (i := 5) sc_all_contradictions.nd rfl (Or.inl rfl)) lgs_nil))) (lss_one (ls_for (passes_of rfl) rfl (li_range2 T.b_range (la_cons (le_of (lf_bin op_addA o2_add.of (le_var 4) le_int)) (la_cons (le_of (lf_callB cr_len (oc_len.of len1) T.b_len bb_len (la_cons (le_var 2) la_nil))) la_nil))) (lg_name (i := 6) sc_all_contradictions.nd rfl (Or.inl rfl)) (lss_one (ls_if (lt_val (le_of (lf_call C_contradict (takes_of rfl rfl rfl rfl) (hr.mono (by omega)) (la_cons (le_var 0) (la_cons (le_var 1) (la_cons (le_var 5) (la_cons (le_of (lf_item (le_var 2) (le_var 6))) la_nil))))))) (lss_one (ls_expr (lf_append (i := 3) (le_of (lf_tup (la_cons (le_var 4) (la_cons (le_var 6) la_nil))))))) lss_nil))))) (lss_one (ls_ret (lf_mov 3)))))
abbrev st_contradictions : Stmt := top 26
abbrev N_contradictions : List Str := ["network", "speed", "sightings"]
theorem sc_contradictions : FnScope N_contradictions ["network", "speed", "sightings"] (defScope st_contradictions) := ⟨rfl, rfl, rfl, by decide +kernel, rfl, by decide +kernel, by decide +kernel⟩
theorem c_contradictions {P : Program} {w : World} {K : Frag} {mg : Str → Option Value} {base : Heap} (T : Txt K mg) (d : Def K mg "contradictions" st_contradictions ["network", "speed", "sightings"]) (C_check_all : Callee P w K mg base "check_all" 6 (spP K mg f_check_all)) (C_all_contradictions : Callee P w K mg base "all_contradictions" 5 (spP K mg f_all_contradictions)) : Callee P w K mg base "contradictions" 7 (spP K mg f_contradictions) := by
  refine callee_pure (k := 6) d sc_contradictions rfl fun fa cdv A outer s H E hr => ?_
  exact (lss_cons (ls_expr (lf_call C_check_all (takes_of rfl rfl rfl rfl) (hr.mono (by omega)) (la_cons (le_var 0) (la_cons (le_var 1) (la_cons (le_var 2) la_nil))))) (lss_one (ls_ret (lf_call C_all_contradictions (takes_of rfl rfl rfl rfl) (hr.mono (by omega)) (la_cons (le_var 0) (la_cons (le_var 1) (la_cons (le_var 2) la_nil)))))))
abbrev st__law_draw : Stmt := top 31
abbrev N__law_draw : List Str := ["source", "size", "drawn", "number"]
theorem sc__law_draw : FnScope N__law_draw ["source", "size"] (defScope st__law_draw) := ⟨rfl, rfl, rfl, by decide +kernel, rfl, by decide +kernel, by decide +kernel⟩
theorem c__law_draw {P : Program} {w : World} {K : Frag} {mg : Str → Option Value} {base : Heap} (T : Txt K mg) (d : Def K mg "_law_draw" st__law_draw ["source", "size"]) : Callee P w K mg base "_law_draw" 1 (spIO K mg f__law_draw) := by
  refine callee_io (k := 0) d sc__law_draw rfl fun fa cdv A outer s H E hr => ?_
  exact (lss_cons (ls_if (lt_cmp op_gt (o2_B _) (le_of (lf_itemV (i := 0) le_int)) le_int (nomark _)) (lss_cons (ls_set (i := 2) sc__law_draw.nd rfl (Or.inl rfl) (lf_of (le_bin op_mod (o2_C _ cMod_ok) (le_of (lf_itemV (i := 0) le_int)) (le_var 1)))) (lss_cons (ls_setItem (i := 0) (le_bin op_fdiv (o2_C _ cDiv_ok) (le_of (lf_itemV (i := 0) le_int)) (le_var 1)) le_int) (lss_one (ls_ret (lf_of (le_var 2)))))) lss_nil) (lss_cons (ls_setItem (i := 0) (le_of (lf_bin op_addA o2_add.of (le_of (lf_itemV (i := 0) le_int)) le_int)) le_int) (lss_cons (ls_set (i := 3) sc__law_draw.nd rfl (Or.inl rfl) (lf_of (le_bin op_mod (o2_C _ cMod_ok) (le_bin op_pow (o2_C _ cPow_ok) (le_of (lf_bin op_addA o2_add.of (le_of (lf_itemV (i := 0) le_int)) (le_of (lf_bin op_mulA o2_mul le_int (le_of (lf_itemV (i := 0) le_int)))))) le_int) le_int))) (lss_cons (ls_set (i := 2) sc__law_draw.nd rfl (Or.inl rfl) (lf_of (le_bin op_fdiv (o2_C _ cDiv_ok) (le_bin op_mod (o2_C _ cMod_ok) (le_bin op_pow (o2_C _ cPow_ok) (le_of (lf_bin op_addA o2_add.of (le_var 3) (le_of (lf_bin op_mulA o2_mul le_int (le_of (lf_itemV (i := 0) le_int)))))) le_int) le_int) le_int))) (lss_one (ls_ret (lf_of (le_bin op_mod (o2_C _ cMod_ok) (le_var 2) (le_var 1)))))))))
abbrev st__law_mixed : Stmt := top 36
abbrev N__law_mixed : List Str := ["source", "values", "rest", "found"]
theorem sc__law_mixed : FnScope N__law_mixed ["source", "values"] (defScope st__law_mixed) := ⟨rfl, rfl, rfl, by decide +kernel, rfl, by decide +kernel, by decide +kernel⟩
theorem c__law_mixed {P : Program} {w : World} {K : Frag} {mg : Str → Option Value} {base : Heap} (T : Txt K mg) (d : Def K mg "_law_mixed" st__law_mixed ["source", "values"]) (C__law_draw : Callee P w K mg base "_law_draw" 1 (spIO K mg f__law_draw)) : Callee P w K mg base "_law_mixed" 2 (spIO K mg f__law_mixed) := by
  refine callee_io (k := 1) d sc__law_mixed rfl fun fa cdv A outer s H E hr => ?_
  exact (lss_cons (ls_par (i := 2) (j := 3) rfl sc__law_mixed.nd rfl rfl (by decide) rfl rfl (laf_cons (lf_callTy call_list_of (oc_list.of list1) T.b_list bb_list (la_cons (le_var 1) la_nil)) (laf_cons (lf_lst la_nil) laf_nil)) (by rfl)) (lss_cons (ls_while fuel (passes_of rfl) (lt_cmpV (i := 2) (op_neD hr.units) o2_neS (le_of (lf_lst la_nil)) (nomark _)) (lss_one (ls_expr (lf_append (i := 3) (le_of (lf_popAt (i := 2) (le_of (lf_callIO (i := 0) C__law_draw (takes_of rfl rfl rfl rfl) (hr.mono (by omega)) (la_cons (le_of (lf_callBV (i := 2) cr_len oc_len T.b_len bb_len)) la_nil))))))))) (lss_one (ls_ret (lf_mov 3)))))
abbrev st__law_tree : Stmt := top 35
abbrev N__law_tree : List Str := ["source", "most", "count", "way", "names", "edges", "place", "other", "one", "two"]
theorem sc__law_tree : FnScope N__law_tree ["source", "most"] (defScope st__law_tree) := ⟨rfl, rfl, rfl, by decide +kernel, rfl, by decide +kernel, by decide +kernel⟩
theorem c__law_tree {P : Program} {w : World} {K : Frag} {mg : Str → Option Value} {base : Heap} (T : Txt K mg) (d : Def K mg "_law_tree" st__law_tree ["source", "most"]) (C__law_mixed : Callee P w K mg base "_law_mixed" 2 (spIO K mg f__law_mixed)) (C__law_draw : Callee P w K mg base "_law_draw" 1 (spIO K mg f__law_draw)) : Callee P w K mg base "_law_tree" 3 (spIO K mg f__law_tree) := by
  refine callee_io (k := 2) d sc__law_tree rfl fun fa cdv A outer s H E hr => ?_
  exact (lss_cons (ls_par (i := 2) (j := 3) rfl sc__law_tree.nd rfl rfl (by decide) rfl rfl (laf_cons (lf_callIO (i := 0) C__law_draw (takes_of rfl rfl rfl rfl) (hr.mono (by omega)) (la_cons (le_of (lf_bin op_addA o2_add.of (le_var 1) le_int)) la_nil)) (laf_cons (lf_callIO (i := 0) C__law_draw (takes_of rfl rfl rfl rfl) (hr.mono (by omega)) (la_cons le_int la_nil)) laf_nil)) (by rfl)) (lss_cons (ls_set (i := 4) sc__law_tree.nd rfl (Or.inl rfl) (lf_callIO (i := 0) C__law_mixed (takes_of rfl rfl rfl rfl) (hr.mono (by omega)) (la_cons (le_of (lf_listRg1 rfl T.b_list T.b_range (le_of (lf_bin op_addA o2_add.of (le_var 2) le_int)))) la_nil))) (lss_cons (ls_set (i := 5) sc__law_tree.nd rfl (Or.inl rfl) (lf_lst la_nil)) (lss_cons (ls_for (passes_of rfl) rfl (li_range2 T.b_range (la_cons le_int (la_cons (le_of (lf_bin op_addA o2_add.of (le_var 2) le_int)) la_nil))) (lg_name (i := 6) sc__law_tree.nd rfl (Or.inl rfl)) (lss_cons (ls_set (i := 7) sc__law_tree.nd rfl (Or.inl rfl) (lf_ifExp (lt_cmp (op_eqD hr.units) o2_eqD (le_var 3) le_int (nomark _)) (lf_of (le_bin (op_sub.or op_subB) o2_subD (le_var 6) le_int)) (lf_of le_int))) (lss_cons (ls_if (lt_cmp op_gt (o2_B _) (le_var 3) le_int (nomark _)) (lss_one (ls_set (i := 7) sc__law_tree.nd rfl (Or.inl rfl) (lf_callIO (i := 0) C__law_draw (takes_of rfl rfl rfl rfl) (hr.mono (by omega)) (la_cons (le_var 6) la_nil)))) lss_nil) (lss_cons (ls_par (i := 8) (j := 9) rfl sc__law_tree.nd rfl rfl (by decide) rfl rfl (laf_cons (lf_item (le_var 4) (le_var 6)) (laf_cons (lf_item (le_var 4) (le_var 7)) laf_nil)) (by rfl)) (lss_one (ls_expr (lf_append (i := 5) (le_of (lf_tup (la_cons (le_of (lf_callB (call_min2 rfl) oc_min2 T.b_min bb_min (la_cons (le_var 8) (la_cons (le_var 9) la_nil)))) (la_cons (le_of (lf_callB (call_max2 rfl) oc_max2 T.b_max bb_max (la_cons (le_var 8) (la_cons (le_var 9) la_nil)))) la_nil))))))))))) (lss_one (ls_ret (lf_callTy call_tuple_of (oc_tuple.of tuple1) T.b_tuple bb_tuple (la_cons (le_of (lf_callBV (i := 5) (CallR.or cr_sortZ cr_sortL) oc_sort T.b_sorted bb_sorted)) la_nil))))))))
abbrev st__law_choice : Stmt := top 32
abbrev N__law_choice : List Str := ["source", "items"]
theorem sc__law_choice : FnScope N__law_choice ["source", "items"] (defScope st__law_choice) := ⟨rfl, rfl, rfl, by decide +kernel, rfl, by decide +kernel, by decide +kernel⟩
theorem c__law_choice {P : Program} {w : World} {K : Frag} {mg : Str → Option Value} {base : Heap} (T : Txt K mg) (d : Def K mg "_law_choice" st__law_choice ["source", "items"]) (C__law_draw : Callee P w K mg base "_law_draw" 1 (spIO K mg f__law_draw)) : Callee P w K mg base "_law_choice" 2 (spIO K mg f__law_choice) := by
  refine callee_io (k := 1) d sc__law_choice rfl fun fa cdv A outer s H E hr => ?_
  exact (lss_one (ls_ret (lf_item (le_var 1) (le_of (lf_callIO (i := 0) C__law_draw (takes_of rfl rfl rfl rfl) (hr.mono (by omega)) (la_cons (le_of (lf_callB cr_len (oc_len.of len1) T.b_len bb_len (la_cons (le_var 1) la_nil))) la_nil))))))
abbrev st__law_sighted : Stmt := top 38
abbrev N__law_sighted : List Str := ["source", "network", "speed", "many", "wide", "far", "size", "place", "time", "found", "turn", "step", "near", "radius", "around", "centre", "other"]
theorem sc__law_sighted : FnScope N__law_sighted ["source", "network", "speed", "many", "wide"] (defScope st__law_sighted) := ⟨rfl, rfl, rfl, by decide +kernel, rfl, by decide +kernel, by decide +kernel⟩
theorem c__law_sighted {P : Program} {w : World} {K : Frag} {mg : Str → Option Value} {base : Heap} (T : Txt K mg) (d : Def K mg "_law_sighted" st__law_sighted ["source", "network", "speed", "many", "wide"]) (C__law_far : Callee P w K mg base "_law_far" 1 (spP K mg f__law_far)) (C__law_draw : Callee P w K mg base "_law_draw" 1 (spIO K mg f__law_draw)) (C__law_choice : Callee P w K mg base "_law_choice" 2 (spIO K mg f__law_choice)) (C__law_mixed : Callee P w K mg base "_law_mixed" 2 (spIO K mg f__law_mixed)) : Callee P w K mg base "_law_sighted" 3 (spIO K mg f__law_sighted) := by
  refine callee_io (k := 2) d sc__law_sighted rfl fun fa cdv A outer s H E hr => ?_
  exact (lss_cons (ls_tupF (is := [5, 6]) rfl (laf_cons (lf_of (le_of (lf_call C__law_far (takes_of rfl rfl rfl rfl) (hr.mono (by omega)) (la_cons (le_var 1) la_nil)))) (laf_cons (lf_of (le_of (lf_bin op_addA o2_add.of (le_of (lf_callB cr_len (oc_len.of len1) T.b_len bb_len (la_cons (le_var 1) la_nil))) le_int))) laf_nil)) (pgs_cons (pg_name (i := 5) sc__law_sighted.nd rfl (Or.inr rfl)) (pgs_cons (pg_name (i := 6) sc__law_sighted.nd rfl (Or.inl rfl)) pgs_nil))) (lss_cons (ls_tupF (is := [7, 8, 9]) rfl (laf_cons (lf_of (le_of (lf_callIO (i := 0) C__law_draw (takes_of rfl rfl rfl rfl) (hr.mono (by omega)) (la_cons (le_var 6) la_nil)))) (laf_cons (lf_of (le_of (lf_callIO (i := 0) C__law_draw (takes_of rfl rfl rfl rfl) (hr.mono (by omega)) (la_cons (le_var 4) la_nil)))) (laf_cons (lf_lst la_nil) laf_nil))) (pgs_cons (pg_name (i := 7) sc__law_sighted.nd rfl (Or.inr rfl)) (pgs_cons (pg_name (i := 8) sc__law_sighted.nd rfl (Or.inl rfl)) (pgs_cons (pg_name (i := 9) sc__law_sighted.nd rfl (Or.inl rfl)) pgs_nil)))) (lss_cons (ls_for (passes_of rfl) rfl (li_range1 T.b_range (la_cons (le_of (lf_callIO (i := 0) C__law_draw (takes_of rfl rfl rfl rfl) (hr.mono (by omega)) (la_cons (le_of (lf_bin op_addA o2_add.of (le_var 3) le_int)) la_nil))) la_nil)) (lg_name (i := 10) sc__law_sighted.nd rfl (Or.inl rfl)) (lss_cons (ls_set (i := 11) sc__law_sighted.nd rfl (Or.inr rfl) (lf_of (le_of (lf_callIO (i := 0) C__law_draw (takes_of rfl rfl rfl rfl) (hr.mono (by omega)) (la_cons le_int la_nil))))) (lss_cons (ls_set (i := 8) sc__law_sighted.nd rfl (Or.inl rfl) (lf_of (le_of (lf_bin op_addA o2_add.of (le_var 8) (le_var 11))))) (lss_cons (ls_fz (ls_setLc (i := 12) (own := [("other", 16)]) (is := [16]) rfl sc__law_sighted.nd rfl rfl (sw_true rfl rfl rfl (by decide +kernel)) (li_range1 T.b_range (la_cons (le_var 6) la_nil)) (by kernel_rfl) (by decide) (fun _ _ _ _ _ => (lg_name (i := 16) sc__law_sighted.nd rfl (Or.inl rfl))) (fun _ _ _ _ _ => (lts_one (lt_cmp op_le (o2_B _) (le_of (lf_item (le_of (lf_item (le_var 5) (le_var 7))) (le_var 16))) (le_of (lf_bin op_mulA o2_mul (le_var 2) (le_var 11))) (nomark _)))) (fun _ _ _ _ _ => (le_var 16)))) (lss_cons (ls_set (i := 7) sc__law_sighted.nd rfl (Or.inr rfl) (lf_of (le_of (lf_callIO (i := 0) C__law_choice (takes_of rfl rfl rfl rfl) (hr.mono (by omega)) (la_cons (le_var 12) la_nil))))) (lss_cons (ls_set (i := 13) sc__law_sighted.nd rfl (Or.inr rfl) (lf_of (le_of (lf_callIO (i := 0) C__law_choice (takes_of rfl rfl rfl rfl) (hr.mono (by omega)) (la_cons (le_of (lf_lst (la_cons le_int (la_cons le_int (la_cons (le_of (lf_callIO (i := 0) C__law_draw (takes_of rfl rfl rfl rfl) (hr.mono (by omega)) (la_cons le_int la_nil))) la_nil))))) la_nil))))) (lss_cons (ls_fz (ls_setLc (i := 14) (own := [("other", 16)]) (is := [16]) rfl sc__law_sighted.nd rfl rfl (sw_true rfl rfl rfl (by decide +kernel)) (li_range1 T.b_range (la_cons (le_var 6) la_nil)) (by kernel_rfl) (by decide) (fun _ _ _ _ _ => (lg_name (i := 16) sc__law_sighted.nd rfl (Or.inl rfl))) (fun _ _ _ _ _ => (lts_one (lt_cmp op_le (o2_B _) (le_of (lf_item (le_of (lf_item (le_var 5) (le_var 7))) (le_var 16))) (le_var 13) (nomark _)))) (fun _ _ _ _ _ => (le_var 16)))) (lss_cons (ls_set (i := 15) sc__law_sighted.nd rfl (Or.inl rfl) (lf_of (le_of (lf_callIO (i := 0) C__law_choice (takes_of rfl rfl rfl rfl) (hr.mono (by omega)) (la_cons (le_var 14) la_nil))))) (lss_cons (ls_if (lt_cmp (op_eqD hr.units) o2_eqD (le_of (lf_callIO (i := 0) C__law_draw (takes_of rfl rfl rfl rfl) (hr.mono (by omega)) (la_cons le_int la_nil))) le_int (nomark _)) (lss_one (ls_set (i := 15) sc__law_sighted.nd rfl (Or.inl rfl) (lf_of (le_of (lf_callIO (i := 0) C__law_draw (takes_of rfl rfl rfl rfl) (hr.mono (by omega)) (la_cons (le_var 6) la_nil)))))) lss_nil) (lss_one (ls_expr (lf_append (i := 9) (le_of (lf_tup (la_cons (le_var 8) (la_cons (le_var 15) (la_cons (le_var 13) la_nil))))))))))))))))) (lss_one (ls_ret (lf_callTy call_tuple_of (oc_tuple.of tuple1) T.b_tuple bb_tuple (la_cons (le_of (lf_callIO (i := 0) C__law_mixed (takes_of rfl rfl rfl rfl) (hr.mono (by omega)) (la_cons (le_var 9) la_nil))) la_nil)))))))
abbrev st__law_clash : Stmt := top 39
abbrev N__law_clash : List Str := ["far", "speed", "one", "other", "reach"]
theorem sc__law_clash : FnScope N__law_clash ["far", "speed", "one", "other"] (defScope st__law_clash) := ⟨rfl, rfl, rfl, by decide +kernel, rfl, by decide +kernel, by decide +kernel⟩
theorem c__law_clash {P : Program} {w : World} {K : Frag} {mg : Str → Option Value} {base : Heap} (T : Txt K mg) (d : Def K mg "_law_clash" st__law_clash ["far", "speed", "one", "other"]) : Callee P w K mg base "_law_clash" 1 (spP K mg f__law_clash) := by
  refine callee_pure (k := 0) d sc__law_clash rfl fun fa cdv A outer s H E hr => ?_
  exact (lss_cons (ls_set (i := 4) sc__law_clash.nd rfl (Or.inl rfl) (lf_of (le_of (lf_bin op_mulA o2_mul (le_var 1) (le_of (lf_callB call_abs oc_abs T.b_abs bb_abs (la_cons (le_bin (op_sub.or op_subB) o2_subD (le_of (lf_item (le_var 2) le_int)) (le_of (lf_item (le_var 3) le_int))) la_nil))))))) (lss_one (ls_ret (lf_of (le_cmp op_gt (o2_B _) (le_of (lf_item (le_of (lf_item (le_var 0) (le_of (lf_item (le_var 2) le_int)))) (le_of (lf_item (le_var 3) le_int)))) (le_of (lf_bin op_addA o2_add.of (le_of (lf_bin op_addA o2_add.of (le_of (lf_item (le_var 2) le_int)) (le_of (lf_item (le_var 3) le_int)))) (le_var 4))) (nomark _))))))
abbrev st__law_pairs : Stmt := top 40
abbrev N__law_pairs : List Str := ["far", "speed", "sightings", "found", "at", "later"]
theorem sc__law_pairs : FnScope N__law_pairs ["far", "speed", "sightings"] (defScope st__law_pairs) := ⟨rfl, rfl, rfl, by decide +kernel, rfl, by decide +kernel, by decide +kernel⟩
theorem c__law_pairs {P : Program} {w : World} {K : Frag} {mg : Str → Option Value} {base : Heap} (T : Txt K mg) (d : Def K mg "_law_pairs" st__law_pairs ["far", "speed", "sightings"]) (C__law_clash : Callee P w K mg base "_law_clash" 1 (spP K mg f__law_clash)) : Callee P w K mg base "_law_pairs" 2 (spP K mg f__law_pairs) := by
  refine callee_pure (k := 1) d sc__law_pairs rfl fun fa cdv A outer s H E hr => ?_
  exact (lss_cons (ls_set (i := 3) sc__law_pairs.nd rfl (Or.inl rfl) (lf_lst la_nil)) (lss_cons (ls_for (passes_of rfl) rfl (li_range1 T.b_range (la_cons (le_of (lf_callB cr_len (oc_len.of len1) T.b_len bb_len (la_cons (le_var 2) la_nil))) la_nil)) (lg_name (i := 4) sc__law_pairs.nd rfl (Or.inl rfl)) (lss_one (ls_for (passes_of rfl) rfl (li_range2 T.b_range (la_cons (le_of (lf_bin op_addA o2_add.of (le_var 4) le_int)) (la_cons (le_of (lf_callB cr_len (oc_len.of len1) T.b_len bb_len (la_cons (le_var 2) la_nil))) la_nil))) (lg_name (i := 5) sc__law_pairs.nd rfl (Or.inl rfl)) (lss_one (ls_if (lt_val (le_of (lf_call C__law_clash (takes_of rfl rfl rfl rfl) (hr.mono (by omega)) (la_cons (le_var 0) (la_cons (le_var 1) (la_cons (le_of (lf_item (le_var 2) (le_var 4))) (la_cons (le_of (lf_item (le_var 2) (le_var 5))) la_nil))))))) (lss_one (ls_expr (lf_append (i := 3) (le_of (lf_tup (la_cons (le_var 4) (la_cons (le_var 5) la_nil))))))) lss_nil))))) (lss_one (ls_ret (lf_mov 3)))))
abbrev st__law_kind : Stmt := top 33
abbrev N__law_kind : List Str := ["value"]
theorem sc__law_kind : FnScope N__law_kind ["value"] (defScope st__law_kind) := ⟨rfl, rfl, rfl, by decide +kernel, rfl, by decide +kernel, by decide +kernel⟩
theorem c__law_kind {P : Program} {w : World} {K : Frag} {mg : Str → Option Value} {base : Heap} (T : Txt K mg) (d : Def K mg "_law_kind" st__law_kind ["value"]) : Callee P w K mg base "_law_kind" 1 (spP K mg f__law_kind) := by
  refine callee_pure (k := 0) d sc__law_kind rfl fun fa cdv A outer s H E hr => ?_
  exact (lss_cons (ls_if (lt_val (le_isi (T := "bool") isi_bool T.b_isinstance T.b_bool (le_var 0))) (lss_one (ls_ret (lf_of le_int))) lss_nil) (lss_cons (ls_if (lt_val (le_isi (T := "int") isi_int T.b_isinstance T.b_int (le_var 0))) (lss_one (ls_ret (lf_of le_int))) lss_nil) (lss_cons (ls_if (lt_val (le_isi (T := "str") isi_str T.b_isinstance T.b_str (le_var 0))) (lss_one (ls_ret (lf_of le_int))) lss_nil) (lss_cons (ls_if (lt_val (le_isi (T := "list") isi_list T.b_isinstance T.b_list (le_var 0))) (lss_one (ls_ret (lf_of le_int))) lss_nil) (lss_one (ls_ret (lf_ifExp (lt_val (le_isi (T := "tuple") isi_tuple T.b_isinstance T.b_tuple (le_var 0))) (lf_of le_int) (lf_of le_int))))))))
abbrev st__law_equal : Stmt := top 34
abbrev N__law_equal : List Str := ["value", "expected", "k", "piece"]
theorem sc__law_equal : FnScope N__law_equal ["value", "expected"] (defScope st__law_equal) := ⟨rfl, rfl, rfl, by decide +kernel, rfl, by decide +kernel, by decide +kernel⟩
theorem c__law_equal {P : Program} {w : World} {K : Frag} {mg : Str → Option Value} {base : Heap} (T : Txt K mg) (d : Def K mg "_law_equal" st__law_equal ["value", "expected"]) (C__law_kind : Callee P w K mg base "_law_kind" 1 (spP K mg f__law_kind)) : ∀ n, Callee P w K mg base "_law_equal" (2 + n) (spP K mg (f__law_equal n)) := by
  intro n
  induction n with
  | zero => exact callee_never d
  | succ n ih =>
    have C__law_equal := ih
    refine callee_pure (k := 2 + n) d sc__law_equal rfl fun fa cdv A outer s H E hr => ?_
    exact (lss_cons (ls_if (lt_cmp (op_neD hr.units) o2_neD (le_of (lf_call C__law_kind (takes_of rfl rfl rfl rfl) (hr.mono (by omega)) (la_cons (le_var 0) la_nil))) (le_of (lf_call C__law_kind (takes_of rfl rfl rfl rfl) (hr.mono (by omega)) (la_cons (le_var 1) la_nil))) (nomark _)) (lss_one (ls_ret (lf_of le_bl))) lss_nil) (lss_cons (ls_if (lt_lw (lw_and (lt_cmp op_gt (o2_B _) (le_of (lf_call C__law_kind (takes_of rfl rfl rfl rfl) (hr.mono (by omega)) (la_cons (le_var 0) la_nil))) le_int (nomark _)) (lw_and1 (lt_cmp (op_lt.or (op_ltT hr.units0)) o2_ltD (le_of (lf_call C__law_kind (takes_of rfl rfl rfl rfl) (hr.mono (by omega)) (la_cons (le_var 0) la_nil))) le_int (nomark _))))) (lss_cons (ls_if (lt_cmp (op_neD hr.units) o2_neD (le_of (lf_callB cr_len (oc_len.of len1) T.b_len bb_len (la_cons (le_var 0) la_nil))) (le_of (lf_callB cr_len (oc_len.of len1) T.b_len bb_len (la_cons (le_var 1) la_nil))) (nomark _)) (lss_one (ls_ret (lf_of le_bl))) lss_nil) (lss_one (ls_ret (lf_of (le_cmp (op_eqD hr.units) o2_eqD (le_of (lf_comp (own := [("k", 2), ("piece", 3)]) (is := [2, 3]) rfl sc__law_equal.nd (li_enum T.b_enumerate (la_cons (le_var 0) la_nil)) (by kernel_rfl) (by decide) (fun _ _ _ _ _ => (lg_tup rfl (lgs_cons (lg_name (i := 2) sc__law_equal.nd rfl (Or.inl rfl)) (lgs_cons (lg_name (i := 3) sc__law_equal.nd rfl (Or.inl rfl)) lgs_nil)))) (fun _ _ _ _ _ => (lts_one (lt_not (lt_val (le_of (lf_call C__law_equal takes_no (hr.mono (by omega)) (la_cons (le_var 3) (la_cons (le_of (lf_item (le_var 1) (le_var 2))) la_nil)))))))) (fun _ _ _ _ _ => (le_var 2)))) (le_of (lf_lst la_nil)) (nomark _)))))) lss_nil) (lss_one (ls_ret (lf_of (le_cmp (op_eqD hr.units) o2_eqD (le_var 0) (le_var 1) (nomark _)))))))
abbrev st_are_of_one : Stmt := top 27
abbrev N_are_of_one : List Str := ["network", "speed", "sightings"]
theorem sc_are_of_one : FnScope N_are_of_one ["network", "speed", "sightings"] (defScope st_are_of_one) := ⟨rfl, rfl, rfl, by decide +kernel, rfl, by decide +kernel, by decide +kernel⟩
theorem c_are_of_one {P : Program} {w : World} {K : Frag} {mg : Str → Option Value} {base : Heap} (T : Txt K mg) (d : Def K mg "are_of_one" st_are_of_one ["network", "speed", "sightings"]) (C_all_contradictions : Callee P w K mg base "all_contradictions" 5 (spP K mg f_all_contradictions)) : Callee P w K mg base "are_of_one" 6 (spP K mg f_are_of_one) := by
  refine callee_pure (k := 5) d sc_are_of_one rfl fun fa cdv A outer s H E hr => ?_
  exact (lss_one (ls_ret (lf_of (le_cmp (op_eqD hr.units) o2_eqD (le_of (lf_call C_all_contradictions (takes_of rfl rfl rfl rfl) (hr.mono (by omega)) (la_cons (le_var 0) (la_cons (le_var 1) (la_cons (le_var 2) la_nil))))) (le_of (lf_lst la_nil)) (nomark _)))))
abbrev st_of_one : Stmt := top 28
abbrev N_of_one : List Str := ["network", "speed", "sightings"]
theorem sc_of_one : FnScope N_of_one ["network", "speed", "sightings"] (defScope st_of_one) := ⟨rfl, rfl, rfl, by decide +kernel, rfl, by decide +kernel, by decide +kernel⟩
theorem c_of_one {P : Program} {w : World} {K : Frag} {mg : Str → Option Value} {base : Heap} (T : Txt K mg) (d : Def K mg "of_one" st_of_one ["network", "speed", "sightings"]) (C_check_all : Callee P w K mg base "check_all" 6 (spP K mg f_check_all)) (C_are_of_one : Callee P w K mg base "are_of_one" 6 (spP K mg f_are_of_one)) : Callee P w K mg base "of_one" 7 (spP K mg f_of_one) := by
  refine callee_pure (k := 6) d sc_of_one rfl fun fa cdv A outer s H E hr => ?_
  exact (lss_cons (ls_expr (lf_call C_check_all (takes_of rfl rfl rfl rfl) (hr.mono (by omega)) (la_cons (le_var 0) (la_cons (le_var 1) (la_cons (le_var 2) la_nil))))) (lss_one (ls_ret (lf_call C_are_of_one (takes_of rfl rfl rfl rfl) (hr.mono (by omega)) (la_cons (le_var 0) (la_cons (le_var 1) (la_cons (le_var 2) la_nil)))))))
abbrev st_law : Stmt := top 41
abbrev N_law : List Str := ["script", "cell", "source", "network", "speed", "far", "wide", "sightings", "expected", "result"]
theorem sc_law : FnScope N_law ["script"] (defScope st_law) := ⟨rfl, rfl, rfl, by decide +kernel, rfl, by decide +kernel, by decide +kernel⟩
theorem c_law {P : Program} {w : World} {K : Frag} {mg : Str → Option Value} {base : Heap} (T : Txt K mg) (d : Def K mg "law" st_law ["script"]) (C__law_source : Callee P w K mg base "_law_source" 1 (spP K mg f__law_source)) (C__law_far : Callee P w K mg base "_law_far" 1 (spP K mg f__law_far)) (C_contradictions : Callee P w K mg base "contradictions" 7 (spP K mg f_contradictions)) (C__law_tree : Callee P w K mg base "_law_tree" 3 (spIO K mg f__law_tree)) (C__law_sighted : Callee P w K mg base "_law_sighted" 3 (spIO K mg f__law_sighted)) (C__law_pairs : Callee P w K mg base "_law_pairs" 2 (spP K mg f__law_pairs)) (C__law_draw : Callee P w K mg base "_law_draw" 1 (spIO K mg f__law_draw)) (C__law_equal : Callee P w K mg base "_law_equal" 10 (spP K mg (f__law_equal 8))) (C_of_one : Callee P w K mg base "of_one" 7 (spP K mg f_of_one)) (C__law_choice : Callee P w K mg base "_law_choice" 2 (spIO K mg f__law_choice)) : Callee P w K mg base "law" 11 (spP K mg f_law) := by
  refine callee_pure (k := 10) d sc_law rfl fun fa cdv A outer s H E hr => ?_
  exact (lss_cons (ls_for (passes_of rfl) rfl (li_seq (le_of (lf_slice (le_of (lf_bin op_addA o2_add.of (le_of (lf_lst (la_cons le_int la_nil))) (le_var 0))) lo_none (lo_some le_int)))) (lg_name (i := 1) sc_law.nd rfl (Or.inl rfl)) (lss_cons (ls_set (i := 2) sc_law.nd rfl (Or.inl rfl) (lf_call C__law_source (takes_of rfl rfl rfl rfl) (hr.mono (by omega)) (la_cons (le_var 1) (la_cons le_int la_nil)))) (lss_cons (ls_par (i := 3) (j := 4) rfl sc_law.nd rfl rfl (by decide) rfl rfl (laf_cons (lf_of (le_of (lf_callIO (i := 2) C__law_tree (takes_of rfl rfl rfl rfl) (hr.mono (by omega)) (la_cons le_int la_nil)))) (laf_cons (lf_of (le_of (lf_bin op_addA o2_add.of le_int (le_of (lf_callIO (i := 2) C__law_draw (takes_of rfl rfl rfl rfl) (hr.mono (by omega)) (la_cons (le_of (lf_callIO (i := 2) C__law_choice (takes_of rfl rfl rfl rfl) (hr.mono (by omega)) (la_cons (le_of (lf_lst (la_cons le_int (la_cons le_int la_nil)))) la_nil))) la_nil)))))) laf_nil)) (by rfl)) (lss_cons (ls_set (i := 5) sc_law.nd rfl (Or.inl rfl) (lf_of (le_of (lf_call C__law_far (takes_of rfl rfl rfl rfl) (hr.mono (by omega)) (la_cons (le_var 3) la_nil))))) (lss_one (ls_for (passes_of rfl) rfl (li_seq (le_of (lf_tup (la_cons le_int (la_cons le_int la_nil))))) (lg_name (i := 6) sc_law.nd rfl (Or.inl rfl)) (lss_cons (ls_set (i := 7) sc_law.nd rfl (Or.inl rfl) (lf_of (le_of (lf_callIO (i := 2) C__law_sighted (takes_of rfl rfl rfl rfl) (hr.mono (by omega)) (la_cons (le_var 3) (la_cons (le_var 4) (la_cons le_int (la_cons (le_var 6) la_nil)))))))) (lss_cons (ls_if (lt_cmp (op_eqD hr.units) o2_eqD (le_of (lf_callIO (i := 2) C__law_draw (takes_of rfl rfl rfl rfl) (hr.mono (by omega)) (la_cons le_int la_nil))) le_int (nomark _)) (lss_one (ls_set (i := 7) sc_law.nd rfl (Or.inl rfl) (lf_of (le_of (lf_slice (le_of (lf_bin op_addA o2_add.of (le_var 7) (le_of (lf_slice (le_var 7) lo_none (lo_some le_int))))) lo_none (lo_some le_int)))))) lss_nil) (lss_cons (ls_set (i := 8) sc_law.nd rfl (Or.inl rfl) (lf_of (le_of (lf_call C__law_pairs (takes_of rfl rfl rfl rfl) (hr.mono (by omega)) (la_cons (le_var 5) (la_cons (le_var 4) (la_cons (le_var 7) la_nil))))))) (lss_cons (ls_set (i := 9) sc_law.nd rfl (Or.inl rfl) (lf_call C_contradictions (takes_of rfl rfl rfl rfl) (hr.mono (by omega)) (la_cons (le_var 3) (la_cons (le_var 4) (la_cons (le_var 7) la_nil))))) (lss_cons (ls_if (lt_not (lt_val (le_of (lf_callRd C__law_equal (takes_of rfl rfl rfl rfl) (hr.mono (by omega)) (lab_peek (i := 9) (lab_cons (le_var 8) lab_nil)))))) (lss_one (ls_ret (lf_of le_bl))) lss_nil) (lss_cons (ls_if (lt_not (lt_val (le_of (lf_call C__law_equal (takes_of rfl rfl rfl rfl) (hr.mono (by omega)) (la_cons (le_of (lf_call C_of_one (takes_of rfl rfl rfl rfl) (hr.mono (by omega)) (la_cons (le_var 3) (la_cons (le_var 4) (la_cons (le_var 7) la_nil))))) (la_cons (le_cmp (op_eqD hr.units) o2_eqD (le_var 8) (le_of (lf_lst la_nil)) (nomark _)) la_nil)))))) (lss_one (ls_ret (lf_of le_bl))) lss_nil) (lss_cons (ls_if (lt_cmp (op_neD hr.units) o2_neD (le_of (lf_call C_of_one (takes_of rfl rfl rfl rfl) (hr.mono (by omega)) (la_cons (le_var 3) (la_cons (le_var 4) (la_cons (le_of (lf_rev (le_var 7))) la_nil))))) (le_cmp (op_eqD hr.units) o2_eqD (le_var 8) (le_of (lf_lst la_nil)) (nomark _)) (nomark _)) (lss_one (ls_ret (lf_of le_bl))) lss_nil) (lss_cons (ls_expr (lf_append (i := 9) le_int)) (lss_one (ls_if (lt_cmp (op_neD hr.units) o2_neD (le_of (lf_call C_contradictions (takes_of rfl rfl rfl rfl) (hr.mono (by omega)) (la_cons (le_var 3) (la_cons (le_var 4) (la_cons (le_var 7) la_nil))))) (le_var 8) (nomark _)) (lss_one (ls_ret (lf_of le_bl))) lss_nil)))))))))))))))) (lss_one (ls_ret (lf_of (le_cmp (op_eqD hr.units) o2_eqD (le_of (lf_call C_contradictions (takes_of rfl rfl rfl rfl) (hr.mono (by omega)) (la_cons (le_of (lf_tup (la_cons (le_of (lf_tup (la_cons le_int (la_cons le_int la_nil)))) (la_cons (le_of (lf_tup (la_cons le_int (la_cons le_int la_nil)))) la_nil)))) (la_cons le_int (la_cons (le_of (lf_tup (la_cons (le_of (lf_tup (la_cons le_int (la_cons le_int (la_cons le_int la_nil))))) (la_cons (le_of (lf_tup (la_cons le_int (la_cons le_int (la_cons le_int la_nil))))) (la_cons (le_of (lf_tup (la_cons le_int (la_cons le_int (la_cons le_int la_nil))))) la_nil))))) la_nil))))) (le_of (lf_lst (la_cons (le_of (lf_tup (la_cons le_int (la_cons le_int la_nil)))) la_nil))) (nomark _))))))
end Lf

namespace Lf
open PySem PySem.Spec PyProof.Rows L2
theorem ok_law {P : Program} {w : World} {K : Frag} {mg : Str → Option Value} {base : Heap} (T : Txt K mg) {fa : Addr} {fd : FuncData} (d : Fun K "law" "law" st_law fa fd) (C__law_source : Callee P w K mg base "_law_source" 1 (spP K mg f__law_source)) (C__law_far : Callee P w K mg base "_law_far" 1 (spP K mg f__law_far)) (C_contradictions : Callee P w K mg base "contradictions" 7 (spP K mg f_contradictions)) (C__law_tree : Callee P w K mg base "_law_tree" 3 (spIO K mg f__law_tree)) (C__law_sighted : Callee P w K mg base "_law_sighted" 3 (spIO K mg f__law_sighted)) (C__law_pairs : Callee P w K mg base "_law_pairs" 2 (spP K mg f__law_pairs)) (C__law_draw : Callee P w K mg base "_law_draw" 1 (spIO K mg f__law_draw)) (C__law_equal : Callee P w K mg base "_law_equal" 10 (spP K mg (f__law_equal 8))) (C_of_one : Callee P w K mg base "of_one" 7 (spP K mg f_of_one)) (C__law_choice : Callee P w K mg base "_law_choice" 2 (spIO K mg f__law_choice)) : FnOk P w K mg base (L2.CX P w) 11 fa fd ["script"] (spP K mg f_law) := by
  refine def_pure (k := 10) d sc_law fun cdv A outer s H E hr => ?_
  exact (lss_cons (ls_for (passes_of rfl) rfl (li_seq (le_of (lf_slice (le_of (lf_bin op_addA o2_add.of (le_of (lf_lst (la_cons le_int la_nil))) (le_var 0))) lo_none (lo_some le_int)))) (lg_name (i := 1) sc_law.nd rfl (Or.inl rfl)) (lss_cons (ls_set (i := 2) sc_law.nd rfl (Or.inl rfl) (lf_call C__law_source (takes_of rfl rfl rfl rfl) (hr.mono (by omega)) (la_cons (le_var 1) (la_cons le_int la_nil)))) (lss_cons (ls_par (i := 3) (j := 4) rfl sc_law.nd rfl rfl (by decide) rfl rfl (laf_cons (lf_of (le_of (lf_callIO (i := 2) C__law_tree (takes_of rfl rfl rfl rfl) (hr.mono (by omega)) (la_cons le_int la_nil)))) (laf_cons (lf_of (le_of (lf_bin op_addA o2_add.of le_int (le_of (lf_callIO (i := 2) C__law_draw (takes_of rfl rfl rfl rfl) (hr.mono (by omega)) (la_cons (le_of (lf_callIO (i := 2) C__law_choice (takes_of rfl rfl rfl rfl) (hr.mono (by omega)) (la_cons (le_of (lf_lst (la_cons le_int (la_cons le_int la_nil)))) la_nil))) la_nil)))))) laf_nil)) (by rfl)) (lss_cons (ls_set (i := 5) sc_law.nd rfl (Or.inl rfl) (lf_of (le_of (lf_call C__law_far (takes_of rfl rfl rfl rfl) (hr.mono (by omega)) (la_cons (le_var 3) la_nil))))) (lss_one (ls_for (passes_of rfl) rfl (li_seq (le_of (lf_tup (la_cons le_int (la_cons le_int la_nil))))) (lg_name (i := 6) sc_law.nd rfl (Or.inl rfl)) (lss_cons (ls_set (i := 7) sc_law.nd rfl (Or.inl rfl) (lf_of (le_of (lf_callIO (i := 2) C__law_sighted (takes_of rfl rfl rfl rfl) (hr.mono (by omega)) (la_cons (le_var 3) (la_cons (le_var 4) (la_cons le_int (la_cons (le_var 6) la_nil)))))))) (lss_cons (ls_if (lt_cmp (op_eqD hr.units) o2_eqD (le_of (lf_callIO (i := 2) C__law_draw (takes_of rfl rfl rfl rfl) (hr.mono (by omega)) (la_cons le_int la_nil))) le_int (nomark _)) (lss_one (ls_set (i := 7) sc_law.nd rfl (Or.inl rfl) (lf_of (le_of (lf_slice (le_of (lf_bin op_addA o2_add.of (le_var 7) (le_of (lf_slice (le_var 7) lo_none (lo_some le_int))))) lo_none (lo_some le_int)))))) lss_nil) (lss_cons (ls_set (i := 8) sc_law.nd rfl (Or.inl rfl) (lf_of (le_of (lf_call C__law_pairs (takes_of rfl rfl rfl rfl) (hr.mono (by omega)) (la_cons (le_var 5) (la_cons (le_var 4) (la_cons (le_var 7) la_nil))))))) (lss_cons (ls_set (i := 9) sc_law.nd rfl (Or.inl rfl) (lf_call C_contradictions (takes_of rfl rfl rfl rfl) (hr.mono (by omega)) (la_cons (le_var 3) (la_cons (le_var 4) (la_cons (le_var 7) la_nil))))) (lss_cons (ls_if (lt_not (lt_val (le_of (lf_callRd C__law_equal (takes_of rfl rfl rfl rfl) (hr.mono (by omega)) (lab_peek (i := 9) (lab_cons (le_var 8) lab_nil)))))) (lss_one (ls_ret (lf_of le_bl))) lss_nil) (lss_cons (ls_if (lt_not (lt_val (le_of (lf_call C__law_equal (takes_of rfl rfl rfl rfl) (hr.mono (by omega)) (la_cons (le_of (lf_call C_of_one (takes_of rfl rfl rfl rfl) (hr.mono (by omega)) (la_cons (le_var 3) (la_cons (le_var 4) (la_cons (le_var 7) la_nil))))) (la_cons (le_cmp (op_eqD hr.units) o2_eqD (le_var 8) (le_of (lf_lst la_nil)) (nomark _)) la_nil)))))) (lss_one (ls_ret (lf_of le_bl))) lss_nil) (lss_cons (ls_if (lt_cmp (op_neD hr.units) o2_neD (le_of (lf_call C_of_one (takes_of rfl rfl rfl rfl) (hr.mono (by omega)) (la_cons (le_var 3) (la_cons (le_var 4) (la_cons (le_of (lf_rev (le_var 7))) la_nil))))) (le_cmp (op_eqD hr.units) o2_eqD (le_var 8) (le_of (lf_lst la_nil)) (nomark _)) (nomark _)) (lss_one (ls_ret (lf_of le_bl))) lss_nil) (lss_cons (ls_expr (lf_append (i := 9) le_int)) (lss_one (ls_if (lt_cmp (op_neD hr.units) o2_neD (le_of (lf_call C_contradictions (takes_of rfl rfl rfl rfl) (hr.mono (by omega)) (la_cons (le_var 3) (la_cons (le_var 4) (la_cons (le_var 7) la_nil))))) (le_var 8) (nomark _)) (lss_one (ls_ret (lf_of le_bl))) lss_nil)))))))))))))))) (lss_one (ls_ret (lf_of (le_cmp (op_eqD hr.units) o2_eqD (le_of (lf_call C_contradictions (takes_of rfl rfl rfl rfl) (hr.mono (by omega)) (la_cons (le_of (lf_tup (la_cons (le_of (lf_tup (la_cons le_int (la_cons le_int la_nil)))) (la_cons (le_of (lf_tup (la_cons le_int (la_cons le_int la_nil)))) la_nil)))) (la_cons le_int (la_cons (le_of (lf_tup (la_cons (le_of (lf_tup (la_cons le_int (la_cons le_int (la_cons le_int la_nil))))) (la_cons (le_of (lf_tup (la_cons le_int (la_cons le_int (la_cons le_int la_nil))))) (la_cons (le_of (lf_tup (la_cons le_int (la_cons le_int (la_cons le_int la_nil))))) la_nil))))) la_nil))))) (le_of (lf_lst (la_cons (le_of (lf_tup (la_cons le_int (la_cons le_int la_nil)))) la_nil))) (nomark _))))))
theorem all_mk {l : PySem.W.OpenLaw} {w : World} {K : PySem.W.Frag} {h : Heap} {mg : Str → Option Value} {fa : Addr} (X : K.In h) (G : h.Ns mainGlobals mg) (hfa : mg "law" = some (.ref fa))
    {od1 an1 : Option Addr} {sl1 : Array (Option Value)} {oc1 kV1 dc1 pm1 cd1 ct1 : Value} {f1 : Addr}
    (a1 : PySem.W.nsIn K mainGlobals "_law_source" = some (some (.ref f1)))
    (l1 : K.lookup f1 = some ⟨oc1, od1, .func (PySem.W.fnOf "_law_source" "_law_source" (defArgs st__law_source) (defBody st__law_source) (defScope st__law_source) .none kV1 dc1 pm1 an1 cd1 ct1), sl1⟩)
    (c1 : PySem.W.codeIn K cd1 "_law_source" = true) (k1 : PySem.W.keepIn K (.ref f1) = true)
    {od2 an2 : Option Addr} {sl2 : Array (Option Value)} {oc2 kV2 dc2 pm2 cd2 ct2 : Value} {f2 : Addr}
    (a2 : PySem.W.nsIn K mainGlobals "_law_far" = some (some (.ref f2)))
    (l2 : K.lookup f2 = some ⟨oc2, od2, .func (PySem.W.fnOf "_law_far" "_law_far" (defArgs st__law_far) (defBody st__law_far) (defScope st__law_far) .none kV2 dc2 pm2 an2 cd2 ct2), sl2⟩)
    (c2 : PySem.W.codeIn K cd2 "_law_far" = true) (k2 : PySem.W.keepIn K (.ref f2) = true)
    {od3 an3 : Option Addr} {sl3 : Array (Option Value)} {oc3 kV3 dc3 pm3 cd3 ct3 : Value} {f3 : Addr}
    (a3 : PySem.W.nsIn K mainGlobals "neighbours" = some (some (.ref f3)))
    (l3 : K.lookup f3 = some ⟨oc3, od3, .func (PySem.W.fnOf "neighbours" "neighbours" (defArgs st_neighbours) (defBody st_neighbours) (defScope st_neighbours) .none kV3 dc3 pm3 an3 cd3 ct3), sl3⟩)
    (c3 : PySem.W.codeIn K cd3 "neighbours" = true) (k3 : PySem.W.keepIn K (.ref f3) = true)
    {od4 an4 : Option Addr} {sl4 : Array (Option Value)} {oc4 kV4 dc4 pm4 cd4 ct4 : Value} {f4 : Addr}
    (a4 : PySem.W.nsIn K mainGlobals "parents_from" = some (some (.ref f4)))
    (l4 : K.lookup f4 = some ⟨oc4, od4, .func (PySem.W.fnOf "parents_from" "parents_from" (defArgs st_parents_from) (defBody st_parents_from) (defScope st_parents_from) .none kV4 dc4 pm4 an4 cd4 ct4), sl4⟩)
    (c4 : PySem.W.codeIn K cd4 "parents_from" = true) (k4 : PySem.W.keepIn K (.ref f4) = true)
    {od5 an5 : Option Addr} {sl5 : Array (Option Value)} {oc5 kV5 dc5 pm5 cd5 ct5 : Value} {f5 : Addr}
    (a5 : PySem.W.nsIn K mainGlobals "is_between" = some (some (.ref f5)))
    (l5 : K.lookup f5 = some ⟨oc5, od5, .func (PySem.W.fnOf "is_between" "is_between" (defArgs st_is_between) (defBody st_is_between) (defScope st_is_between) .none kV5 dc5 pm5 an5 cd5 ct5), sl5⟩)
    (c5 : PySem.W.codeIn K cd5 "is_between" = true) (k5 : PySem.W.keepIn K (.ref f5) = true)
    {od6 an6 : Option Addr} {sl6 : Array (Option Value)} {oc6 kV6 dc6 pm6 cd6 ct6 : Value} {f6 : Addr}
    (a6 : PySem.W.nsIn K mainGlobals "is_edge" = some (some (.ref f6)))
    (l6 : K.lookup f6 = some ⟨oc6, od6, .func (PySem.W.fnOf "is_edge" "is_edge" (defArgs st_is_edge) (defBody st_is_edge) (defScope st_is_edge) .none kV6 dc6 pm6 an6 cd6 ct6), sl6⟩)
    (c6 : PySem.W.codeIn K cd6 "is_edge" = true) (k6 : PySem.W.keepIn K (.ref f6) = true)
    {od7 an7 : Option Addr} {sl7 : Array (Option Value)} {oc7 kV7 dc7 pm7 cd7 ct7 : Value} {f7 : Addr}
    (a7 : PySem.W.nsIn K mainGlobals "is_network" = some (some (.ref f7)))
    (l7 : K.lookup f7 = some ⟨oc7, od7, .func (PySem.W.fnOf "is_network" "is_network" (defArgs st_is_network) (defBody st_is_network) (defScope st_is_network) .none kV7 dc7 pm7 an7 cd7 ct7), sl7⟩)
    (c7 : PySem.W.codeIn K cd7 "is_network" = true) (k7 : PySem.W.keepIn K (.ref f7) = true)
    {od8 an8 : Option Addr} {sl8 : Array (Option Value)} {oc8 kV8 dc8 pm8 cd8 ct8 : Value} {f8 : Addr}
    (a8 : PySem.W.nsIn K mainGlobals "check_network" = some (some (.ref f8)))
    (l8 : K.lookup f8 = some ⟨oc8, od8, .func (PySem.W.fnOf "check_network" "check_network" (defArgs st_check_network) (defBody st_check_network) (defScope st_check_network) .none kV8 dc8 pm8 an8 cd8 ct8), sl8⟩)
    (c8 : PySem.W.codeIn K cd8 "check_network" = true) (k8 : PySem.W.keepIn K (.ref f8) = true)
    {od9 an9 : Option Addr} {sl9 : Array (Option Value)} {oc9 kV9 dc9 pm9 cd9 ct9 : Value} {f9 : Addr}
    (a9 : PySem.W.nsIn K mainGlobals "check_speed" = some (some (.ref f9)))
    (l9 : K.lookup f9 = some ⟨oc9, od9, .func (PySem.W.fnOf "check_speed" "check_speed" (defArgs st_check_speed) (defBody st_check_speed) (defScope st_check_speed) .none kV9 dc9 pm9 an9 cd9 ct9), sl9⟩)
    (c9 : PySem.W.codeIn K cd9 "check_speed" = true) (k9 : PySem.W.keepIn K (.ref f9) = true)
    {od10 an10 : Option Addr} {sl10 : Array (Option Value)} {oc10 kV10 dc10 pm10 cd10 ct10 : Value} {f10 : Addr}
    (a10 : PySem.W.nsIn K mainGlobals "is_sighting" = some (some (.ref f10)))
    (l10 : K.lookup f10 = some ⟨oc10, od10, .func (PySem.W.fnOf "is_sighting" "is_sighting" (defArgs st_is_sighting) (defBody st_is_sighting) (defScope st_is_sighting) .none kV10 dc10 pm10 an10 cd10 ct10), sl10⟩)
    (c10 : PySem.W.codeIn K cd10 "is_sighting" = true) (k10 : PySem.W.keepIn K (.ref f10) = true)
    {od11 an11 : Option Addr} {sl11 : Array (Option Value)} {oc11 kV11 dc11 pm11 cd11 ct11 : Value} {f11 : Addr}
    (a11 : PySem.W.nsIn K mainGlobals "are_sightings" = some (some (.ref f11)))
    (l11 : K.lookup f11 = some ⟨oc11, od11, .func (PySem.W.fnOf "are_sightings" "are_sightings" (defArgs st_are_sightings) (defBody st_are_sightings) (defScope st_are_sightings) .none kV11 dc11 pm11 an11 cd11 ct11), sl11⟩)
    (c11 : PySem.W.codeIn K cd11 "are_sightings" = true) (k11 : PySem.W.keepIn K (.ref f11) = true)
    {od12 an12 : Option Addr} {sl12 : Array (Option Value)} {oc12 kV12 dc12 pm12 cd12 ct12 : Value} {f12 : Addr}
    (a12 : PySem.W.nsIn K mainGlobals "check_sightings" = some (some (.ref f12)))
    (l12 : K.lookup f12 = some ⟨oc12, od12, .func (PySem.W.fnOf "check_sightings" "check_sightings" (defArgs st_check_sightings) (defBody st_check_sightings) (defScope st_check_sightings) .none kV12 dc12 pm12 an12 cd12 ct12), sl12⟩)
    (c12 : PySem.W.codeIn K cd12 "check_sightings" = true) (k12 : PySem.W.keepIn K (.ref f12) = true)
    {od13 an13 : Option Addr} {sl13 : Array (Option Value)} {oc13 kV13 dc13 pm13 cd13 ct13 : Value} {f13 : Addr}
    (a13 : PySem.W.nsIn K mainGlobals "check_all" = some (some (.ref f13)))
    (l13 : K.lookup f13 = some ⟨oc13, od13, .func (PySem.W.fnOf "check_all" "check_all" (defArgs st_check_all) (defBody st_check_all) (defScope st_check_all) .none kV13 dc13 pm13 an13 cd13 ct13), sl13⟩)
    (c13 : PySem.W.codeIn K cd13 "check_all" = true) (k13 : PySem.W.keepIn K (.ref f13) = true)
    {od14 an14 : Option Addr} {sl14 : Array (Option Value)} {oc14 kV14 dc14 pm14 cd14 ct14 : Value} {f14 : Addr}
    (a14 : PySem.W.nsIn K mainGlobals "distances_from" = some (some (.ref f14)))
    (l14 : K.lookup f14 = some ⟨oc14, od14, .func (PySem.W.fnOf "distances_from" "distances_from" (defArgs st_distances_from) (defBody st_distances_from) (defScope st_distances_from) .none kV14 dc14 pm14 an14 cd14 ct14), sl14⟩)
    (c14 : PySem.W.codeIn K cd14 "distances_from" = true) (k14 : PySem.W.keepIn K (.ref f14) = true)
    {od15 an15 : Option Addr} {sl15 : Array (Option Value)} {oc15 kV15 dc15 pm15 cd15 ct15 : Value} {f15 : Addr}
    (a15 : PySem.W.nsIn K mainGlobals "contradict" = some (some (.ref f15)))
    (l15 : K.lookup f15 = some ⟨oc15, od15, .func (PySem.W.fnOf "contradict" "contradict" (defArgs st_contradict) (defBody st_contradict) (defScope st_contradict) .none kV15 dc15 pm15 an15 cd15 ct15), sl15⟩)
    (c15 : PySem.W.codeIn K cd15 "contradict" = true) (k15 : PySem.W.keepIn K (.ref f15) = true)
    {od16 an16 : Option Addr} {sl16 : Array (Option Value)} {oc16 kV16 dc16 pm16 cd16 ct16 : Value} {f16 : Addr}
    (a16 : PySem.W.nsIn K mainGlobals "all_contradictions" = some (some (.ref f16)))
    (l16 : K.lookup f16 = some ⟨oc16, od16, .func (PySem.W.fnOf "all_contradictions" "all_contradictions" (defArgs st_all_contradictions) (defBody st_all_contradictions) (defScope st_all_contradictions) .none kV16 dc16 pm16 an16 cd16 ct16), sl16⟩)
    (c16 : PySem.W.codeIn K cd16 "all_contradictions" = true) (k16 : PySem.W.keepIn K (.ref f16) = true)
    {od17 an17 : Option Addr} {sl17 : Array (Option Value)} {oc17 kV17 dc17 pm17 cd17 ct17 : Value} {f17 : Addr}
    (a17 : PySem.W.nsIn K mainGlobals "contradictions" = some (some (.ref f17)))
    (l17 : K.lookup f17 = some ⟨oc17, od17, .func (PySem.W.fnOf "contradictions" "contradictions" (defArgs st_contradictions) (defBody st_contradictions) (defScope st_contradictions) .none kV17 dc17 pm17 an17 cd17 ct17), sl17⟩)
    (c17 : PySem.W.codeIn K cd17 "contradictions" = true) (k17 : PySem.W.keepIn K (.ref f17) = true)
    {od18 an18 : Option Addr} {sl18 : Array (Option Value)} {oc18 kV18 dc18 pm18 cd18 ct18 : Value} {f18 : Addr}
    (a18 : PySem.W.nsIn K mainGlobals "_law_draw" = some (some (.ref f18)))
    (l18 : K.lookup f18 = some ⟨oc18, od18, .func (PySem.W.fnOf "_law_draw" "_law_draw" (defArgs st__law_draw) (defBody st__law_draw) (defScope st__law_draw) .none kV18 dc18 pm18 an18 cd18 ct18), sl18⟩)
    (c18 : PySem.W.codeIn K cd18 "_law_draw" = true) (k18 : PySem.W.keepIn K (.ref f18) = true)
    {od19 an19 : Option Addr} {sl19 : Array (Option Value)} {oc19 kV19 dc19 pm19 cd19 ct19 : Value} {f19 : Addr}
    (a19 : PySem.W.nsIn K mainGlobals "_law_mixed" = some (some (.ref f19)))
    (l19 : K.lookup f19 = some ⟨oc19, od19, .func (PySem.W.fnOf "_law_mixed" "_law_mixed" (defArgs st__law_mixed) (defBody st__law_mixed) (defScope st__law_mixed) .none kV19 dc19 pm19 an19 cd19 ct19), sl19⟩)
    (c19 : PySem.W.codeIn K cd19 "_law_mixed" = true) (k19 : PySem.W.keepIn K (.ref f19) = true)
    {od20 an20 : Option Addr} {sl20 : Array (Option Value)} {oc20 kV20 dc20 pm20 cd20 ct20 : Value} {f20 : Addr}
    (a20 : PySem.W.nsIn K mainGlobals "_law_tree" = some (some (.ref f20)))
    (l20 : K.lookup f20 = some ⟨oc20, od20, .func (PySem.W.fnOf "_law_tree" "_law_tree" (defArgs st__law_tree) (defBody st__law_tree) (defScope st__law_tree) .none kV20 dc20 pm20 an20 cd20 ct20), sl20⟩)
    (c20 : PySem.W.codeIn K cd20 "_law_tree" = true) (k20 : PySem.W.keepIn K (.ref f20) = true)
    {od21 an21 : Option Addr} {sl21 : Array (Option Value)} {oc21 kV21 dc21 pm21 cd21 ct21 : Value} {f21 : Addr}
    (a21 : PySem.W.nsIn K mainGlobals "_law_choice" = some (some (.ref f21)))
    (l21 : K.lookup f21 = some ⟨oc21, od21, .func (PySem.W.fnOf "_law_choice" "_law_choice" (defArgs st__law_choice) (defBody st__law_choice) (defScope st__law_choice) .none kV21 dc21 pm21 an21 cd21 ct21), sl21⟩)
    (c21 : PySem.W.codeIn K cd21 "_law_choice" = true) (k21 : PySem.W.keepIn K (.ref f21) = true)
    {od22 an22 : Option Addr} {sl22 : Array (Option Value)} {oc22 kV22 dc22 pm22 cd22 ct22 : Value} {f22 : Addr}
    (a22 : PySem.W.nsIn K mainGlobals "_law_sighted" = some (some (.ref f22)))
    (l22 : K.lookup f22 = some ⟨oc22, od22, .func (PySem.W.fnOf "_law_sighted" "_law_sighted" (defArgs st__law_sighted) (defBody st__law_sighted) (defScope st__law_sighted) .none kV22 dc22 pm22 an22 cd22 ct22), sl22⟩)
    (c22 : PySem.W.codeIn K cd22 "_law_sighted" = true) (k22 : PySem.W.keepIn K (.ref f22) = true)
    {od23 an23 : Option Addr} {sl23 : Array (Option Value)} {oc23 kV23 dc23 pm23 cd23 ct23 : Value} {f23 : Addr}
    (a23 : PySem.W.nsIn K mainGlobals "_law_clash" = some (some (.ref f23)))
    (l23 : K.lookup f23 = some ⟨oc23, od23, .func (PySem.W.fnOf "_law_clash" "_law_clash" (defArgs st__law_clash) (defBody st__law_clash) (defScope st__law_clash) .none kV23 dc23 pm23 an23 cd23 ct23), sl23⟩)
    (c23 : PySem.W.codeIn K cd23 "_law_clash" = true) (k23 : PySem.W.keepIn K (.ref f23) = true)
    {od24 an24 : Option Addr} {sl24 : Array (Option Value)} {oc24 kV24 dc24 pm24 cd24 ct24 : Value} {f24 : Addr}
    (a24 : PySem.W.nsIn K mainGlobals "_law_pairs" = some (some (.ref f24)))
    (l24 : K.lookup f24 = some ⟨oc24, od24, .func (PySem.W.fnOf "_law_pairs" "_law_pairs" (defArgs st__law_pairs) (defBody st__law_pairs) (defScope st__law_pairs) .none kV24 dc24 pm24 an24 cd24 ct24), sl24⟩)
    (c24 : PySem.W.codeIn K cd24 "_law_pairs" = true) (k24 : PySem.W.keepIn K (.ref f24) = true)
    {od25 an25 : Option Addr} {sl25 : Array (Option Value)} {oc25 kV25 dc25 pm25 cd25 ct25 : Value} {f25 : Addr}
    (a25 : PySem.W.nsIn K mainGlobals "_law_kind" = some (some (.ref f25)))
    (l25 : K.lookup f25 = some ⟨oc25, od25, .func (PySem.W.fnOf "_law_kind" "_law_kind" (defArgs st__law_kind) (defBody st__law_kind) (defScope st__law_kind) .none kV25 dc25 pm25 an25 cd25 ct25), sl25⟩)
    (c25 : PySem.W.codeIn K cd25 "_law_kind" = true) (k25 : PySem.W.keepIn K (.ref f25) = true)
    {od26 an26 : Option Addr} {sl26 : Array (Option Value)} {oc26 kV26 dc26 pm26 cd26 ct26 : Value} {f26 : Addr}
    (a26 : PySem.W.nsIn K mainGlobals "_law_equal" = some (some (.ref f26)))
    (l26 : K.lookup f26 = some ⟨oc26, od26, .func (PySem.W.fnOf "_law_equal" "_law_equal" (defArgs st__law_equal) (defBody st__law_equal) (defScope st__law_equal) .none kV26 dc26 pm26 an26 cd26 ct26), sl26⟩)
    (c26 : PySem.W.codeIn K cd26 "_law_equal" = true) (k26 : PySem.W.keepIn K (.ref f26) = true)
    {od27 an27 : Option Addr} {sl27 : Array (Option Value)} {oc27 kV27 dc27 pm27 cd27 ct27 : Value} {f27 : Addr}
    (a27 : PySem.W.nsIn K mainGlobals "are_of_one" = some (some (.ref f27)))
    (l27 : K.lookup f27 = some ⟨oc27, od27, .func (PySem.W.fnOf "are_of_one" "are_of_one" (defArgs st_are_of_one) (defBody st_are_of_one) (defScope st_are_of_one) .none kV27 dc27 pm27 an27 cd27 ct27), sl27⟩)
    (c27 : PySem.W.codeIn K cd27 "are_of_one" = true) (k27 : PySem.W.keepIn K (.ref f27) = true)
    {od28 an28 : Option Addr} {sl28 : Array (Option Value)} {oc28 kV28 dc28 pm28 cd28 ct28 : Value} {f28 : Addr}
    (a28 : PySem.W.nsIn K mainGlobals "of_one" = some (some (.ref f28)))
    (l28 : K.lookup f28 = some ⟨oc28, od28, .func (PySem.W.fnOf "of_one" "of_one" (defArgs st_of_one) (defBody st_of_one) (defScope st_of_one) .none kV28 dc28 pm28 an28 cd28 ct28), sl28⟩)
    (c28 : PySem.W.codeIn K cd28 "of_one" = true) (k28 : PySem.W.keepIn K (.ref f28) = true)
    {od29 an29 : Option Addr} {sl29 : Array (Option Value)} {oc29 kV29 dc29 pm29 cd29 ct29 : Value} {f29 : Addr}
    (a29 : PySem.W.nsIn K mainGlobals "law" = some (some (.ref f29)))
    (l29 : K.lookup f29 = some ⟨oc29, od29, .func (PySem.W.fnOf "law" "law" (defArgs st_law) (defBody st_law) (defScope st_law) .none kV29 dc29 pm29 an29 cd29 ct29), sl29⟩)
    (c29 : PySem.W.codeIn K cd29 "law" = true) (k29 : PySem.W.keepIn K (.ref f29) = true)
    (z_abs : PySem.W.nsIn K mainGlobals "abs" = some none)
    (z_all : PySem.W.nsIn K mainGlobals "all" = some none)
    (z_bool : PySem.W.nsIn K mainGlobals "bool" = some none)
    (z_enumerate : PySem.W.nsIn K mainGlobals "enumerate" = some none)
    (z_int : PySem.W.nsIn K mainGlobals "int" = some none)
    (z_isinstance : PySem.W.nsIn K mainGlobals "isinstance" = some none)
    (z_len : PySem.W.nsIn K mainGlobals "len" = some none)
    (z_list : PySem.W.nsIn K mainGlobals "list" = some none)
    (z_max : PySem.W.nsIn K mainGlobals "max" = some none)
    (z_min : PySem.W.nsIn K mainGlobals "min" = some none)
    (z_range : PySem.W.nsIn K mainGlobals "range" = some none)
    (z_sorted : PySem.W.nsIn K mainGlobals "sorted" = some none)
    (z_str : PySem.W.nsIn K mainGlobals "str" = some none)
    (z_tuple : PySem.W.nsIn K mainGlobals "tuple" = some none)
    (z_zip : PySem.W.nsIn K mainGlobals "zip" = some none)
    {t_MAX_EDGES : Tok} (g_MAX_EDGES : PySem.W.nsIn K mainGlobals "MAX_EDGES" = some (some (.int 24 t_MAX_EDGES)))
    {t_MAX_RADIUS : Tok} (g_MAX_RADIUS : PySem.W.nsIn K mainGlobals "MAX_RADIUS" = some (some (.int 100 t_MAX_RADIUS)))
    {t_MAX_SIGHTINGS : Tok} (g_MAX_SIGHTINGS : PySem.W.nsIn K mainGlobals "MAX_SIGHTINGS" = some (some (.int 12 t_MAX_SIGHTINGS)))
    {t_MAX_SPEED : Tok} (g_MAX_SPEED : PySem.W.nsIn K mainGlobals "MAX_SPEED" = some (some (.int 10 t_MAX_SPEED)))
    {t_MAX_TIME : Tok} (g_MAX_TIME : PySem.W.nsIn K mainGlobals "MAX_TIME" = some (some (.int 1000000000 t_MAX_TIME)))
    {C_InvalidNetwork : Addr} (gx_InvalidNetwork : PySem.W.nsIn K mainGlobals "InvalidNetwork" = some (some (.ref C_InvalidNetwork))) (qx_InvalidNetwork : PySem.W.excIn K C_InvalidNetwork [.type "ValueError", .type "Exception", .type "BaseException", .type "object"] "ValueError.__new__" = true) (kx_InvalidNetwork : PySem.W.keepIn K (.ref C_InvalidNetwork) = true) (bx_InvalidNetwork : PySem.W.subIn K (.ref C_InvalidNetwork) (.type "BaseException") = some true) (tx_InvalidNetwork : PySem.W.typeIn K (.ref C_InvalidNetwork) = some (.type "type"))
    {C_InvalidSightings : Addr} (gx_InvalidSightings : PySem.W.nsIn K mainGlobals "InvalidSightings" = some (some (.ref C_InvalidSightings))) (qx_InvalidSightings : PySem.W.excIn K C_InvalidSightings [.type "ValueError", .type "Exception", .type "BaseException", .type "object"] "ValueError.__new__" = true) (kx_InvalidSightings : PySem.W.keepIn K (.ref C_InvalidSightings) = true) (bx_InvalidSightings : PySem.W.subIn K (.ref C_InvalidSightings) (.type "BaseException") = some true) (tx_InvalidSightings : PySem.W.typeIn K (.ref C_InvalidSightings) = some (.type "type"))
    {C_InvalidSpeed : Addr} (gx_InvalidSpeed : PySem.W.nsIn K mainGlobals "InvalidSpeed" = some (some (.ref C_InvalidSpeed))) (qx_InvalidSpeed : PySem.W.excIn K C_InvalidSpeed [.type "ValueError", .type "Exception", .type "BaseException", .type "object"] "ValueError.__new__" = true) (kx_InvalidSpeed : PySem.W.keepIn K (.ref C_InvalidSpeed) = true) (bx_InvalidSpeed : PySem.W.subIn K (.ref C_InvalidSpeed) (.type "BaseException") = some true) (tx_InvalidSpeed : PySem.W.typeIn K (.ref C_InvalidSpeed) = some (.type "type"))
    : ∃ fd : FuncData, (∀ (s : Shared) (v : Value), BindsTo s fd ⟨[v], []⟩ [("script", v)]) ∧ ∀ base : Heap, K.In base → base.Ns mainGlobals mg → FnOk l.prog w K mg base (L2.CX l.prog w) 11 fa fd ["script"] (spLaw K) := by
  have e := hfa.symm.trans (PySem.W.mg_of X G a29)
  cases e
  have T : Txt K mg := ⟨PySem.W.mg_none_of X G z_abs, PySem.W.mg_none_of X G z_all, PySem.W.mg_none_of X G z_bool, PySem.W.mg_none_of X G z_enumerate, PySem.W.mg_none_of X G z_int, PySem.W.mg_none_of X G z_isinstance, PySem.W.mg_none_of X G z_len, PySem.W.mg_none_of X G z_list, PySem.W.mg_none_of X G z_max, PySem.W.mg_none_of X G z_min, PySem.W.mg_none_of X G z_range, PySem.W.mg_none_of X G z_sorted, PySem.W.mg_none_of X G z_str, PySem.W.mg_none_of X G z_tuple, PySem.W.mg_none_of X G z_zip, ⟨_, PySem.W.mg_of X G g_MAX_EDGES⟩, ⟨_, PySem.W.mg_of X G g_MAX_RADIUS⟩, ⟨_, PySem.W.mg_of X G g_MAX_SIGHTINGS⟩, ⟨_, PySem.W.mg_of X G g_MAX_SPEED⟩, ⟨_, PySem.W.mg_of X G g_MAX_TIME⟩, ⟨_, PySem.W.mg_of X G gx_InvalidNetwork, qx_InvalidNetwork, kx_InvalidNetwork, bx_InvalidNetwork, tx_InvalidNetwork⟩, ⟨_, PySem.W.mg_of X G gx_InvalidSightings, qx_InvalidSightings, kx_InvalidSightings, bx_InvalidSightings, tx_InvalidSightings⟩, ⟨_, PySem.W.mg_of X G gx_InvalidSpeed, qx_InvalidSpeed, kx_InvalidSpeed, bx_InvalidSpeed, tx_InvalidSpeed⟩⟩
  have d1 : Def K mg "_law_source" st__law_source ["cell", "turn"] := def_of X G a1 l1 c1 k1 fun F => F.binds (ps := ["cell", "turn"]) fun _ _ _ _ _ _ us hl => match us, hl with | [_, _], _ => rfl
  have d2 : Def K mg "_law_far" st__law_far ["network"] := def_of X G a2 l2 c2 k2 fun F => F.binds (ps := ["network"]) fun _ _ _ _ _ _ us hl => match us, hl with | [_], _ => rfl
  have d3 : Def K mg "neighbours" st_neighbours ["network"] := def_of X G a3 l3 c3 k3 fun F => F.binds (ps := ["network"]) fun _ _ _ _ _ _ us hl => match us, hl with | [_], _ => rfl
  have d4 : Def K mg "parents_from" st_parents_from ["network", "place"] := def_of X G a4 l4 c4 k4 fun F => F.binds (ps := ["network", "place"]) fun _ _ _ _ _ _ us hl => match us, hl with | [_, _], _ => rfl
  have d5 : Def K mg "is_between" st_is_between ["value", "low", "high"] := def_of X G a5 l5 c5 k5 fun F => F.binds (ps := ["value", "low", "high"]) fun _ _ _ _ _ _ us hl => match us, hl with | [_, _, _], _ => rfl
  have d6 : Def K mg "is_edge" st_is_edge ["value", "last"] := def_of X G a6 l6 c6 k6 fun F => F.binds (ps := ["value", "last"]) fun _ _ _ _ _ _ us hl => match us, hl with | [_, _], _ => rfl
  have d7 : Def K mg "is_network" st_is_network ["value"] := def_of X G a7 l7 c7 k7 fun F => F.binds (ps := ["value"]) fun _ _ _ _ _ _ us hl => match us, hl with | [_], _ => rfl
  have d8 : Def K mg "check_network" st_check_network ["network"] := def_of X G a8 l8 c8 k8 fun F => F.binds (ps := ["network"]) fun _ _ _ _ _ _ us hl => match us, hl with | [_], _ => rfl
  have d9 : Def K mg "check_speed" st_check_speed ["network", "speed"] := def_of X G a9 l9 c9 k9 fun F => F.binds (ps := ["network", "speed"]) fun _ _ _ _ _ _ us hl => match us, hl with | [_, _], _ => rfl
  have d10 : Def K mg "is_sighting" st_is_sighting ["network", "value"] := def_of X G a10 l10 c10 k10 fun F => F.binds (ps := ["network", "value"]) fun _ _ _ _ _ _ us hl => match us, hl with | [_, _], _ => rfl
  have d11 : Def K mg "are_sightings" st_are_sightings ["network", "value"] := def_of X G a11 l11 c11 k11 fun F => F.binds (ps := ["network", "value"]) fun _ _ _ _ _ _ us hl => match us, hl with | [_, _], _ => rfl
  have d12 : Def K mg "check_sightings" st_check_sightings ["network", "sightings"] := def_of X G a12 l12 c12 k12 fun F => F.binds (ps := ["network", "sightings"]) fun _ _ _ _ _ _ us hl => match us, hl with | [_, _], _ => rfl
  have d13 : Def K mg "check_all" st_check_all ["network", "speed", "sightings"] := def_of X G a13 l13 c13 k13 fun F => F.binds (ps := ["network", "speed", "sightings"]) fun _ _ _ _ _ _ us hl => match us, hl with | [_, _, _], _ => rfl
  have d14 : Def K mg "distances_from" st_distances_from ["network", "place"] := def_of X G a14 l14 c14 k14 fun F => F.binds (ps := ["network", "place"]) fun _ _ _ _ _ _ us hl => match us, hl with | [_, _], _ => rfl
  have d15 : Def K mg "contradict" st_contradict ["network", "speed", "first", "second"] := def_of X G a15 l15 c15 k15 fun F => F.binds (ps := ["network", "speed", "first", "second"]) fun _ _ _ _ _ _ us hl => match us, hl with | [_, _, _, _], _ => rfl
  have d16 : Def K mg "all_contradictions" st_all_contradictions ["network", "speed", "sightings"] := def_of X G a16 l16 c16 k16 fun F => F.binds (ps := ["network", "speed", "sightings"]) fun _ _ _ _ _ _ us hl => match us, hl with | [_, _, _], _ => rfl
  have d17 : Def K mg "contradictions" st_contradictions ["network", "speed", "sightings"] := def_of X G a17 l17 c17 k17 fun F => F.binds (ps := ["network", "speed", "sightings"]) fun _ _ _ _ _ _ us hl => match us, hl with | [_, _, _], _ => rfl
  have d18 : Def K mg "_law_draw" st__law_draw ["source", "size"] := def_of X G a18 l18 c18 k18 fun F => F.binds (ps := ["source", "size"]) fun _ _ _ _ _ _ us hl => match us, hl with | [_, _], _ => rfl
  have d19 : Def K mg "_law_mixed" st__law_mixed ["source", "values"] := def_of X G a19 l19 c19 k19 fun F => F.binds (ps := ["source", "values"]) fun _ _ _ _ _ _ us hl => match us, hl with | [_, _], _ => rfl
  have d20 : Def K mg "_law_tree" st__law_tree ["source", "most"] := def_of X G a20 l20 c20 k20 fun F => F.binds (ps := ["source", "most"]) fun _ _ _ _ _ _ us hl => match us, hl with | [_, _], _ => rfl
  have d21 : Def K mg "_law_choice" st__law_choice ["source", "items"] := def_of X G a21 l21 c21 k21 fun F => F.binds (ps := ["source", "items"]) fun _ _ _ _ _ _ us hl => match us, hl with | [_, _], _ => rfl
  have d22 : Def K mg "_law_sighted" st__law_sighted ["source", "network", "speed", "many", "wide"] := def_of X G a22 l22 c22 k22 fun F => F.binds (ps := ["source", "network", "speed", "many", "wide"]) fun _ _ _ _ _ _ us hl => match us, hl with | [_, _, _, _, _], _ => rfl
  have d23 : Def K mg "_law_clash" st__law_clash ["far", "speed", "one", "other"] := def_of X G a23 l23 c23 k23 fun F => F.binds (ps := ["far", "speed", "one", "other"]) fun _ _ _ _ _ _ us hl => match us, hl with | [_, _, _, _], _ => rfl
  have d24 : Def K mg "_law_pairs" st__law_pairs ["far", "speed", "sightings"] := def_of X G a24 l24 c24 k24 fun F => F.binds (ps := ["far", "speed", "sightings"]) fun _ _ _ _ _ _ us hl => match us, hl with | [_, _, _], _ => rfl
  have d25 : Def K mg "_law_kind" st__law_kind ["value"] := def_of X G a25 l25 c25 k25 fun F => F.binds (ps := ["value"]) fun _ _ _ _ _ _ us hl => match us, hl with | [_], _ => rfl
  have d26 : Def K mg "_law_equal" st__law_equal ["value", "expected"] := def_of X G a26 l26 c26 k26 fun F => F.binds (ps := ["value", "expected"]) fun _ _ _ _ _ _ us hl => match us, hl with | [_, _], _ => rfl
  have d27 : Def K mg "are_of_one" st_are_of_one ["network", "speed", "sightings"] := def_of X G a27 l27 c27 k27 fun F => F.binds (ps := ["network", "speed", "sightings"]) fun _ _ _ _ _ _ us hl => match us, hl with | [_, _, _], _ => rfl
  have d28 : Def K mg "of_one" st_of_one ["network", "speed", "sightings"] := def_of X G a28 l28 c28 k28 fun F => F.binds (ps := ["network", "speed", "sightings"]) fun _ _ _ _ _ _ us hl => match us, hl with | [_, _, _], _ => rfl
  refine ⟨PySem.W.fnOf "law" "law" (defArgs st_law) (defBody st_law) (defScope st_law) .none kV29 dc29 pm29 an29 cd29 ct29, fun s v => .of_eq rfl, fun base _ _ => ?_⟩
  have C__law_source := c__law_source (P := l.prog) (w := w) (base := base) T d1 
  have C__law_far := c__law_far (P := l.prog) (w := w) (base := base) T d2 
  have C_neighbours := c_neighbours (P := l.prog) (w := w) (base := base) T d3 
  have C_parents_from := c_parents_from (P := l.prog) (w := w) (base := base) T d4 C_neighbours
  have C_is_between := c_is_between (P := l.prog) (w := w) (base := base) T d5 
  have C_is_edge := c_is_edge (P := l.prog) (w := w) (base := base) T d6 C_is_between
  have C_is_network := c_is_network (P := l.prog) (w := w) (base := base) T d7 C_parents_from C_is_edge
  have C_check_network := c_check_network (P := l.prog) (w := w) (base := base) T d8 C_is_network
  have C_check_speed := c_check_speed (P := l.prog) (w := w) (base := base) T d9 C_check_network C_is_between
  have C_is_sighting := c_is_sighting (P := l.prog) (w := w) (base := base) T d10 C_is_between
  have C_are_sightings := c_are_sightings (P := l.prog) (w := w) (base := base) T d11 C_is_sighting
  have C_check_sightings := c_check_sightings (P := l.prog) (w := w) (base := base) T d12 C_are_sightings
  have C_check_all := c_check_all (P := l.prog) (w := w) (base := base) T d13 C_check_speed C_check_sightings
  have C_distances_from := c_distances_from (P := l.prog) (w := w) (base := base) T d14 C_parents_from
  have C_contradict := c_contradict (P := l.prog) (w := w) (base := base) T d15 C_distances_from
  have C_all_contradictions := c_all_contradictions (P := l.prog) (w := w) (base := base) T d16 C_contradict
  have C_contradictions := c_contradictions (P := l.prog) (w := w) (base := base) T d17 C_check_all C_all_contradictions
  have C__law_draw := c__law_draw (P := l.prog) (w := w) (base := base) T d18 
  have C__law_mixed := c__law_mixed (P := l.prog) (w := w) (base := base) T d19 C__law_draw
  have C__law_tree := c__law_tree (P := l.prog) (w := w) (base := base) T d20 C__law_mixed C__law_draw
  have C__law_choice := c__law_choice (P := l.prog) (w := w) (base := base) T d21 C__law_draw
  have C__law_sighted := c__law_sighted (P := l.prog) (w := w) (base := base) T d22 C__law_far C__law_draw C__law_choice C__law_mixed
  have C__law_clash := c__law_clash (P := l.prog) (w := w) (base := base) T d23 
  have C__law_pairs := c__law_pairs (P := l.prog) (w := w) (base := base) T d24 C__law_clash
  have C__law_kind := c__law_kind (P := l.prog) (w := w) (base := base) T d25 
  have C__law_equal := c__law_equal (P := l.prog) (w := w) (base := base) T d26 C__law_kind 8
  have C_are_of_one := c_are_of_one (P := l.prog) (w := w) (base := base) T d27 C_all_contradictions
  have C_of_one := c_of_one (P := l.prog) (w := w) (base := base) T d28 C_check_all C_are_of_one
  exact law_end law_eq (ok_law T (fun_mk (st := st_law) l29 c29 k29) C__law_source C__law_far C_contradictions C__law_tree C__law_sighted C__law_pairs C__law_draw C__law_equal C_of_one C__law_choice)
theorem walk {l : PySem.W.OpenLaw} {q : Program} {loose : List Str} {XP : (Str → Option Value) → Heap → Prop} {YP : World → Heap → Prop} {d : DefRec} {K : Params → PySem.W.Frag} (hn : l.most = some 63) (hdf : d.params.defaults = [])
    (hY : ∀ (w : World) (h : Heap), YP w h → (K w.params).In h)
    (F : ∀ (w : World) (mg : Str → Option Value) (fa : Addr) (h : Heap), (K w.params).In h → h.Ns mainGlobals mg → mg d.name = some (.ref fa) →
      ∃ fd : FuncData, (∀ (s : Shared) (u : Value), BindsTo s fd ⟨[u], []⟩ [("script", u)]) ∧ ∀ base : Heap, (K w.params).In base → base.Ns mainGlobals mg → FnOk l.prog w (K w.params) mg base (L2.CX l.prog w) 11 fa fd ["script"] (spLaw (K w.params))) :
    PySem.W.WalkO q loose XP YP l.row.toRowW d [] (fun f vs => PySem.call f vs) :=
  L2.walk_of (n := 63) (k := 11) (x := "script") (CX := fun w => L2.CX l.prog w) (sp := fun w => spLaw (K w.params)) hn (by decide) hdf ⟨rfl, by decide, by decide⟩ hY F (fun _ _ a ns hl _ hS => ⟨a, ns, rfl, hl, hS, fun _ => rfl⟩) fun _ _ _ _ _ z => by
    obtain ⟨_, _, _, _, _, _, _, _, _, _, _, _, z⟩ := z
    exact z
end Lf

open PySem PySem.W PyProof.Rows in
set_option maxRecDepth 100000 in
set_option maxHeartbeats 0 in
theorem PySem.Challenge.cw_treetrail_k04_contradictions_holds : PySem.Challenge.rw_treetrail_k04_contradictions.Holds := by
  w_on; o_law; k_head; (case hw => w_witness2)
  k_fill
  refine Lf.walk (l := PySem.Challenge.rw_treetrail_k04_contradictions) rfl rfl (fun w h Y => PySem.W.kIn_of Y) ?F
  case F =>
    intro w mg fa h KX G hmg
    refine' Lf.all_mk KX G hmg ?a1 ?l1 ?c1 ?k1 ?a2 ?l2 ?c2 ?k2 ?a3 ?l3 ?c3 ?k3 ?a4 ?l4 ?c4 ?k4 ?a5 ?l5 ?c5 ?k5 ?a6 ?l6 ?c6 ?k6 ?a7 ?l7 ?c7 ?k7 ?a8 ?l8 ?c8 ?k8 ?a9 ?l9 ?c9 ?k9 ?a10 ?l10 ?c10 ?k10 ?a11 ?l11 ?c11 ?k11 ?a12 ?l12 ?c12 ?k12 ?a13 ?l13 ?c13 ?k13 ?a14 ?l14 ?c14 ?k14 ?a15 ?l15 ?c15 ?k15 ?a16 ?l16 ?c16 ?k16 ?a17 ?l17 ?c17 ?k17 ?a18 ?l18 ?c18 ?k18 ?a19 ?l19 ?c19 ?k19 ?a20 ?l20 ?c20 ?k20 ?a21 ?l21 ?c21 ?k21 ?a22 ?l22 ?c22 ?k22 ?a23 ?l23 ?c23 ?k23 ?a24 ?l24 ?c24 ?k24 ?a25 ?l25 ?c25 ?k25 ?a26 ?l26 ?c26 ?k26 ?a27 ?l27 ?c27 ?k27 ?a28 ?l28 ?c28 ?k28 ?a29 ?l29 ?c29 ?k29 ?z_abs ?z_all ?z_bool ?z_enumerate ?z_int ?z_isinstance ?z_len ?z_list ?z_max ?z_min ?z_range ?z_sorted ?z_str ?z_tuple ?z_zip ?g_MAX_EDGES ?g_MAX_RADIUS ?g_MAX_SIGHTINGS ?g_MAX_SPEED ?g_MAX_TIME ?gx_InvalidNetwork ?qx_InvalidNetwork ?kx_InvalidNetwork ?bx_InvalidNetwork ?tx_InvalidNetwork ?gx_InvalidSightings ?qx_InvalidSightings ?kx_InvalidSightings ?bx_InvalidSightings ?tx_InvalidSightings ?gx_InvalidSpeed ?qx_InvalidSpeed ?kx_InvalidSpeed ?bx_InvalidSpeed ?tx_InvalidSpeed
    (case a1 => k_is)
    (case l1 => k_is)
    (case c1 => k_is)
    (case k1 => k_is)
    (case a2 => k_is)
    (case l2 => k_is)
    (case c2 => k_is)
    (case k2 => k_is)
    (case a3 => k_is)
    (case l3 => k_is)
    (case c3 => k_is)
    (case k3 => k_is)
    (case a4 => k_is)
    (case l4 => k_is)
    (case c4 => k_is)
    (case k4 => k_is)
    (case a5 => k_is)
    (case l5 => k_is)
    (case c5 => k_is)
    (case k5 => k_is)
    (case a6 => k_is)
    (case l6 => k_is)
    (case c6 => k_is)
    (case k6 => k_is)
    (case a7 => k_is)
    (case l7 => k_is)
    (case c7 => k_is)
    (case k7 => k_is)
    (case a8 => k_is)
    (case l8 => k_is)
    (case c8 => k_is)
    (case k8 => k_is)
    (case a9 => k_is)
    (case l9 => k_is)
    (case c9 => k_is)
    (case k9 => k_is)
    (case a10 => k_is)
    (case l10 => k_is)
    (case c10 => k_is)
    (case k10 => k_is)
    (case a11 => k_is)
    (case l11 => k_is)
    (case c11 => k_is)
    (case k11 => k_is)
    (case a12 => k_is)
    (case l12 => k_is)
    (case c12 => k_is)
    (case k12 => k_is)
    (case a13 => k_is)
    (case l13 => k_is)
    (case c13 => k_is)
    (case k13 => k_is)
    (case a14 => k_is)
    (case l14 => k_is)
    (case c14 => k_is)
    (case k14 => k_is)
    (case a15 => k_is)
    (case l15 => k_is)
    (case c15 => k_is)
    (case k15 => k_is)
    (case a16 => k_is)
    (case l16 => k_is)
    (case c16 => k_is)
    (case k16 => k_is)
    (case a17 => k_is)
    (case l17 => k_is)
    (case c17 => k_is)
    (case k17 => k_is)
    (case a18 => k_is)
    (case l18 => k_is)
    (case c18 => k_is)
    (case k18 => k_is)
    (case a19 => k_is)
    (case l19 => k_is)
    (case c19 => k_is)
    (case k19 => k_is)
    (case a20 => k_is)
    (case l20 => k_is)
    (case c20 => k_is)
    (case k20 => k_is)
    (case a21 => k_is)
    (case l21 => k_is)
    (case c21 => k_is)
    (case k21 => k_is)
    (case a22 => k_is)
    (case l22 => k_is)
    (case c22 => k_is)
    (case k22 => k_is)
    (case a23 => k_is)
    (case l23 => k_is)
    (case c23 => k_is)
    (case k23 => k_is)
    (case a24 => k_is)
    (case l24 => k_is)
    (case c24 => k_is)
    (case k24 => k_is)
    (case a25 => k_is)
    (case l25 => k_is)
    (case c25 => k_is)
    (case k25 => k_is)
    (case a26 => k_is)
    (case l26 => k_is)
    (case c26 => k_is)
    (case k26 => k_is)
    (case a27 => k_is)
    (case l27 => k_is)
    (case c27 => k_is)
    (case k27 => k_is)
    (case a28 => k_is)
    (case l28 => k_is)
    (case c28 => k_is)
    (case k28 => k_is)
    (case a29 => k_is)
    (case l29 => k_is)
    (case c29 => k_is)
    (case k29 => k_is)
    (case z_abs => k_is)
    (case z_all => k_is)
    (case z_bool => k_is)
    (case z_enumerate => k_is)
    (case z_int => k_is)
    (case z_isinstance => k_is)
    (case z_len => k_is)
    (case z_list => k_is)
    (case z_max => k_is)
    (case z_min => k_is)
    (case z_range => k_is)
    (case z_sorted => k_is)
    (case z_str => k_is)
    (case z_tuple => k_is)
    (case z_zip => k_is)
    (case g_MAX_EDGES => k_is)
    (case g_MAX_RADIUS => k_is)
    (case g_MAX_SIGHTINGS => k_is)
    (case g_MAX_SPEED => k_is)
    (case g_MAX_TIME => k_is)
    (case gx_InvalidNetwork => k_is)
    (case qx_InvalidNetwork => k_exc)
    (case kx_InvalidNetwork => k_is)
    (case bx_InvalidNetwork => k_is)
    (case tx_InvalidNetwork => k_is)
    (case gx_InvalidSightings => k_is)
    (case qx_InvalidSightings => k_exc)
    (case kx_InvalidSightings => k_is)
    (case bx_InvalidSightings => k_is)
    (case tx_InvalidSightings => k_is)
    (case gx_InvalidSpeed => k_is)
    (case qx_InvalidSpeed => k_exc)
    (case kx_InvalidSpeed => k_is)
    (case bx_InvalidSpeed => k_is)
    (case tx_InvalidSpeed => k_is)
