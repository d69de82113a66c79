import PyProof.Rows.All
import Wide.All
import OpenK.AllK
import Wide.FinOn
import HandS.ForMost
import HandS.ForExc
import HandS.FStr
import HandS.IsInst
import KE.KeyNested
import HandS.Lambda
import HandS.Defaults
import HandS.MakeKw
import HandS.RaiseMore
import HandS.Text
import HandS.ClsMeth
import HandS.TupAny
import HandS.Star
import KE.KExcSuper
import HandS.ExcInit
import HandS.ExcField
import HandS.ExcIs
import HandS.TryOnly
import KE.KExcIs
import PyProof.Rows.SeqMore
import HandS.Style
import HandS.SetFor
import KE.KDictWalk
import KE.KPairComp
import KE.LtData
import HandS.Deep
import KE.KDictList
import HandS.TupMul
import PyProof.EqKinds
import PyProof.StrOps2
import HandS.OwnEq
import PyProof.NeKinds
import HandS.EndBits
import HandS.Exc
import HandS.ExcValue
import HandS.Zip
import PySem.Challenge.RW_nightmark_k01_errors_and_what_they_keep
set_option Elab.async false
set_option linter.all false
set_option maxRecDepth 100000
set_option maxHeartbeats 4000000
namespace NM
open PySem L2

/-- data: immutable things are trees, mutable ones are numbers -/
inductive Dt where
  | non | bl (b : Bool) | int (i : Int) | str (x : Str) | ty (n : String) | ref (a : Addr) | own (n : Nat)
  | tup (ds : List Dt) | lst (ds : List Dt) | obj (C : Addr) (ns : List Str) (ds : List Dt) | dic (pr : Program) (w : World) (ks vs : List Dt)
/-- the key that a thing is, if it is one -/
def nkO : Dt → Option NestedKey
  | .non => some .none
  | .bl b => some (.num (if b = true then 1 else 0))
  | .int i => some (.num i)
  | .str x => some (.text x)
  | .tup ds => (nkL ds).map .tup
  | _ => none
where nkL : List Dt → Option (List NestedKey)
  | [] => some []
  | d :: ds => match nkO d, nkL ds with
    | some k, some ks => some (k :: ks)
    | _, _ => none
/-- a dict whose keys are tuples -/
def DN (pr : Program) (w : World) (a : Addr) (ks : List (NestedKey × Addr)) (vs : List V) : HO := .ext fun h => ∃ us o es ep, Vals vs us ∧ h.get? a = some o ∧ o.ExactDict ∧ o.data = .dict es ep ∧ es.toList = (ks.zip us).map (fun x => entryOfKey (nestedKind pr w) (x.1.1, x.1.2, x.2)) ∧ ks.length = vs.length ∧ (ks.map (·.1)).Nodup ∧ (a == sysModules) = false ∧ (∀ k ∈ ks, k.1.depth ≤ 8) ∧ ks.length ≤ sizeLine
/-- what a mutable thing holds -/
inductive Ow where
  | dead | lst (ds : List Dt) | ins (C : Addr) (ns : List Str) (ds : List Dt) | dct (kvs : List (Key × Dt)) | lkd (o : Obj) (kus : List (Key × V)) (kvs : List (Key × Dt)) | xd (d : Addr) (fs : List (Str × Dt)) | dkn (pr : Program) (w : World) (ks vs : List Dt) | lkn (pr : Program) (w : World) (o : Obj) (ns : List (NestedKey × Addr)) (us : List V) (ks vs : List Dt) | tbl (Pa : Addr) (q : Str) | lam (f : Addr) (ob : Obj) (c : Addr) (q : Str) (σ : L2.St) (ρ : List (Option Dt)) | any (o : Addr → HO)
abbrev Om := List Ow
abbrev Rho := List (Option Dt)

abbrev Fg := PySem.W.Frag
mutual
inductive At (K : Fg) (P : Hp) (as : List Addr) : V → Dt → Prop
  | non : At K P as .non .non
  | bl (b : Bool) : At K P as (.bl b) (.bl b)
  | int (i : Int) : At K P as (.int i) (.int i)
  | str (x : Str) : At K P as (.str x) (.str x)
  | ty (n : String) : At K P as (.ty n) (.ty n)
  | ref (a : Addr) : At K P as (.ref a) (.ref a)
  | own {n : Nat} {a : Addr} (h : as[n]? = some a) : At K P as (.ref a) (.own n)
  | tup {a : Addr} {vs : List V} {ds : List Dt} (h : SqT K P a vs) (r : AtL K P as vs ds) : At K P as (.ref a) (.tup ds)
  | lst {a : Addr} {vs : List V} {ds : List Dt} (h : SqL K P a vs) (r : AtL K P as vs ds) : At K P as (.ref a) (.lst ds)
  | obj {a C dx : Addr} {fs : List (Str × V)} {ns : List Str} {ds : List Dt} (h : P a = some (.ins C dx fs)) (e : fs.map (·.1) = ns) (r : AtL K P as (fs.map (·.2)) ds) : At K P as (.ref a) (.obj C ns ds)
  | dic {a : Addr} {pr : Program} {w : World} {ks : List (NestedKey × Addr)} {vs : List V} {kds vds : List Dt} (h : P a = some (DN pr w a ks vs)) (n : kds.map nkO = ks.map fun k => some k.1) (rk : AtL K P as (ks.map fun k => V.ref k.2) kds) (rv : AtL K P as vs vds) : At K P as (.ref a) (.dic pr w kds vds)
inductive AtL (K : Fg) (P : Hp) (as : List Addr) : List V → List Dt → Prop
  | nil : AtL K P as [] []
  | cons {v : V} {d : Dt} {vs : List V} {ds : List Dt} (h : At K P as v d) (r : AtL K P as vs ds) : AtL K P as (v :: vs) (d :: ds)
end

theorem same_rd {H H' : Hp} {a : Addr} {u : HO} (e : Same H H') (h : Rd H a u) : Rd H' a u := by
  rcases h with h | ⟨o, h⟩
  · exact .inl (e _ _ h)
  · exact .inr ⟨o, e _ _ h⟩
theorem same_t {K : Fg} {H H' : Hp} {a : Addr} {xs : List V} (e : Same H H') (h : SqT K H a xs) : SqT K H' a xs := h.imp (same_rd e) id
theorem same_l {K : Fg} {H H' : Hp} {a : Addr} {xs : List V} (e : Same H H') (h : SqL K H a xs) : SqL K H' a xs := h.imp (same_rd e) id

section
variable {K : Fg} {P P' : Hp} {as as' : List Addr}
mutual
theorem At.mono (e : Same P P') (p : as <+: as') : ∀ {v : V} {d : Dt}, At K P as v d → At K P' as' v d
  | _, _, .non => .non
  | _, _, .bl b => .bl b
  | _, _, .int b => .int b
  | _, _, .str b => .str b
  | _, _, .ty b => .ty b
  | _, _, .ref b => .ref b
  | _, _, .own h => .own (by
      obtain ⟨t, rfl⟩ := p
      rw [List.getElem?_append_left (List.getElem?_eq_some_iff.mp h).1]
      exact h)
  | _, _, .tup h r => .tup (same_t e h) (AtL.mono e p r)
  | _, _, .lst h r => .lst (same_l e h) (AtL.mono e p r)
  | _, _, .obj h q r => .obj (e _ _ h) q (AtL.mono e p r)
  | _, _, .dic h n rk rv => .dic (e _ _ h) n (AtL.mono e p rk) (AtL.mono e p rv)
theorem AtL.mono (e : Same P P') (p : as <+: as') : ∀ {vs : List V} {ds : List Dt}, AtL K P as vs ds → AtL K P' as' vs ds
  | _, _, .nil => .nil
  | _, _, .cons h r => .cons (At.mono e p h) (AtL.mono e p r)
end
theorem AtL.length : ∀ {vs : List V} {ds : List Dt}, AtL K P as vs ds → vs.length = ds.length
  | _, _, .nil => rfl
  | _, _, .cons _ r => by rw [List.length_cons, List.length_cons, r.length]
theorem AtL.get : ∀ {vs : List V} {ds : List Dt} {i : Nat} {d : Dt}, AtL K P as vs ds → ds[i]? = some d → ∃ v, vs[i]? = some v ∧ At K P as v d
  | _, _, _, _, .nil, e => by simp at e
  | _, _, 0, _, .cons h _, e => by simp at e; subst e; exact ⟨_, rfl, h⟩
  | _, _, i + 1, d, .cons _ r, e => by
    obtain ⟨v, h1, h2⟩ := AtL.get (i := i) (d := d) r (by simpa using e)
    exact ⟨v, by simpa using h1, h2⟩
theorem AtL.getV : ∀ {vs : List V} {ds : List Dt} {i : Nat} {v : V}, AtL K P as vs ds → vs[i]? = some v → ∃ d, ds[i]? = some d ∧ At K P as v d
  | _, _, _, _, .nil, e => by simp at e
  | _, _, 0, _, .cons h _, e => by simp at e; subst e; exact ⟨_, rfl, h⟩
  | _, _, i + 1, v, .cons _ r, e => by
    obtain ⟨d, h1, h2⟩ := AtL.getV (i := i) (v := v) r (by simpa using e)
    exact ⟨d, by simpa using h1, h2⟩
theorem AtL.append : ∀ {vs ws : List V} {ds es : List Dt}, AtL K P as vs ds → AtL K P as ws es → AtL K P as (vs ++ ws) (ds ++ es)
  | _, _, _, _, .nil, s => s
  | _, _, _, _, .cons h r, s => .cons h (AtL.append r s)
theorem AtL.snoc {vs : List V} {ds : List Dt} {v : V} {d : Dt} (r : AtL K P as vs ds) (h : At K P as v d) : AtL K P as (vs ++ [v]) (ds ++ [d]) := r.append (.cons h .nil)
theorem AtL.set : ∀ {vs : List V} {ds : List Dt} (i : Nat) {v : V} {d : Dt}, AtL K P as vs ds → At K P as v d → AtL K P as (vs.set i v) (ds.set i d)
  | _, _, _, _, _, .nil, _ => .nil
  | _, _, 0, _, _, .cons _ r, h => .cons h r
  | _, _, i + 1, _, _, .cons q r, h => .cons q (AtL.set i r h)
theorem AtL.drop : ∀ {vs : List V} {ds : List Dt} (i : Nat), AtL K P as vs ds → AtL K P as (vs.drop i) (ds.drop i)
  | _, _, 0, r => r
  | _, _, _ + 1, .nil => .nil
  | _, _, i + 1, .cons _ r => AtL.drop i r
theorem AtL.take : ∀ {vs : List V} {ds : List Dt} (i : Nat), AtL K P as vs ds → AtL K P as (vs.take i) (ds.take i)
  | _, _, 0, _ => .nil
  | _, _, _ + 1, .nil => .nil
  | _, _, i + 1, .cons h r => .cons h (AtL.take i r)
end

/-- the names' values -/
structure Env (K : Fg) (P : Hp) (as : List Addr) (σ : St) (ρ : Rho) : Prop where
  len : σ.length = ρ.length
  get : ∀ (i : Nat) d, ρ[i]? = some (some d) → ∃ v, σ[i]? = some (some v) ∧ At K P as v d
theorem Env.mono {K : Fg} {P P' : Hp} {as as' : List Addr} {σ : St} {ρ : Rho} (x : Env K P as σ ρ) (e : Same P P') (p : as <+: as') : Env K P' as' σ ρ :=
  ⟨x.len, fun i d h => let ⟨v, h1, h2⟩ := x.get i d h; ⟨v, h1, h2.mono e p⟩⟩
theorem Env.set {K : Fg} {P : Hp} {as : List Addr} {σ : St} {ρ : Rho} {v : V} {d : Dt} (x : Env K P as σ ρ) (i : Nat) (h : At K P as v d) : Env K P as (σ.set i (some v)) (ρ.set i (some d)) := by
  refine ⟨by rw [List.length_set, List.length_set, x.len], fun j d' hj => ?_⟩
  by_cases e : i = j
  · subst e
    by_cases hl : i < ρ.length
    · rw [List.getElem?_set_self hl] at hj
      cases hj
      exact ⟨v, List.getElem?_set_self (by rw [x.len]; exact hl), h⟩
    · rw [List.getElem?_eq_none (by simpa using hl)] at hj; cases hj
  · rw [List.getElem?_set_ne e] at hj
    obtain ⟨u, h1, h2⟩ := x.get j d' hj
    exact ⟨u, by rw [List.getElem?_set_ne e]; exact h1, h2⟩
theorem Env.unset {K : Fg} {P : Hp} {as : List Addr} {σ : St} {ρ : Rho} (x : Env K P as σ ρ) (i : Nat) : Env K P as (σ.set i none) (ρ.set i none) := by
  refine ⟨by rw [List.length_set, List.length_set, x.len], fun j d' hj => ?_⟩
  by_cases e : i = j
  · subst e
    by_cases hl : i < ρ.length
    · rw [List.getElem?_set_self hl] at hj; cases hj
    · rw [List.getElem?_eq_none (by simpa using hl)] at hj; cases hj
  · rw [List.getElem?_set_ne e] at hj
    obtain ⟨u, h1, h2⟩ := x.get j d' hj
    exact ⟨u, by rw [List.getElem?_set_ne e]; exact h1, h2⟩

/-- a function's object as it stands -/
def LamO (f : Addr) (ob : Obj) : HO := .ext fun h => h.get? f = some ob
/-- a mutable thing as it stands -/
def OwAt (K : Fg) (P H : Hp) (as : List Addr) (a : Addr) : Ow → Prop
  | .dead => ∃ o, H a = some o
  | .lst ds => P a = none ∧ ∃ vs, H a = some (.lst vs) ∧ AtL K P as vs ds
  | .ins C ns ds => P a = none ∧ ∃ dx fs, H a = some (.ins C dx fs) ∧ fs.map (·.1) = ns ∧ AtL K P as (fs.map (·.2)) ds
  | .dct kvs => P a = none ∧ ∃ kus, H a = some (.dK kus) ∧ kus.map (·.1) = kvs.map (·.1) ∧ AtL K P as (kus.map (·.2)) (kvs.map (·.2))
  | .lkd o kus kvs => P a = none ∧ H a = some (.frz o (.dK kus)) ∧ kus.map (·.1) = kvs.map (·.1) ∧ AtL K P as (kus.map (·.2)) (kvs.map (·.2))
  | .xd d fs => a = d ∧ P a = none ∧ ∃ fvs, H a = some (.xd fvs) ∧ fvs.map (·.1) = fs.map (·.1) ∧ AtL K P as (fvs.map (·.2)) (fs.map (·.2))
  | .dkn pr w kds vds => P a = none ∧ ∃ ks vs, H a = some (DN pr w a ks vs) ∧ kds.map nkO = (ks.map fun k => some k.1) ∧ AtL K P as (ks.map fun k => V.ref k.2) kds ∧ AtL K P as vs vds
  | .lkn pr w o ks vs kds vds => P a = none ∧ H a = some (.frz o (DN pr w a ks vs)) ∧ kds.map nkO = (ks.map fun k => some k.1) ∧ AtL K P as (ks.map fun k => V.ref k.2) kds ∧ AtL K P as vs vds
  | .tbl Pa q => a = Pa ∧ P a = none ∧ ∃ ps : Array Value, H a = some (.tbl ps) ∧ TriplesOk ps.toList ∧ ∀ (pos : Pos) (cv : Value), codeAmong pos ps.toList = some cv → ∃ c, cv = .ref c ∧ P c = some (LamX.CodeO c q)
  | .lam f ob c q σ ρ => a = f ∧ P a = none ∧ H a = some (LamO f ob) ∧ P c = some (LamX.CodeO c q) ∧ Env K P as σ ρ
  | .any o => P a = none ∧ H a = some (o a)

/-- the state, its mutable things -/
structure Ws (K : Fg) (ω : Om) (P H : Hp) (as : List Addr) : Prop where
  sub : Same P H
  nd : as.Nodup
  len : as.length = ω.length
  own : ∀ (i : Nat) o a, ω[i]? = some o → as[i]? = some a → OwAt K P H as a o
/-- from one state to a later one -/
structure Gr (P H : Hp) (as : List Addr) (P' H' : Hp) (as' : List Addr) : Prop where
  p : Same P P'
  a : as <+: as'
  h : ∀ b o, H b = some o → b ∉ as → H' b = some o
  n : ∀ b o, H b = some o → P b = none → b ∉ as → P' b = none
  na : ∀ b ∈ as', b ∉ as → H b = none
theorem Gr.refl {P H : Hp} {as : List Addr} : Gr P H as P H as := ⟨Same.refl _, List.prefix_refl _, fun _ _ e _ => e, fun _ _ _ e _ => e, fun _ h n => absurd h n⟩
theorem Gr.trans {P H P1 H1 P2 H2 : Hp} {as as1 as2 : List Addr} (x : Gr P H as P1 H1 as1) (y : Gr P1 H1 as1 P2 H2 as2) : Gr P H as P2 H2 as2 := by
  have nn : ∀ b o, H b = some o → b ∉ as → b ∉ as1 := fun b o e hn h1 => by
    rw [x.na b h1 hn] at e; cases e
  refine ⟨x.p.trans y.p, x.a.trans y.a, fun b o e hn => ?_, fun b o e hp hn => ?_, fun b hb hn => ?_⟩
  · exact y.h b o (x.h b o e hn) (nn b o e hn)
  · exact y.n b o (x.h b o e hn) (x.n b o e hp hn) (nn b o e hn)
  · by_cases h1 : b ∈ as1
    · exact x.na b h1 hn
    · cases q : H b with
      | none => rfl
      | some o =>
        have e := x.h b o q hn
        rw [y.na b hb h1] at e; cases e

/-- an exception: its class, the fields of its dict -/
structure Ec where
  cls : Value
  fs : Option (List (Str × Dt))
def EcAt (K : Fg) (H0 P H : Hp) (as : List Addr) (cls : Value) (dx : Option Addr) (x : Ec) : Prop :=
  cls = x.cls ∧ match x.fs with
  | none => dx = none
  | some fs => ∃ d fvs, dx = some d ∧ H d = some (.xd fvs) ∧ fvs.map (·.1) = fs.map (·.1) ∧ AtL K P as (fvs.map (·.2)) (fs.map (·.2)) ∧ d ∉ as ∧ P d = none ∧ H0 d = none
theorem EcAt.back {K : Fg} {P H P1 H1 P' H' : Hp} {as as1 as' : List Addr} {cls : Value} {dx : Option Addr} {x : Ec} (g : Gr P H as P1 H1 as1) (p : as1 <+: as') (h : EcAt K H1 P' H' as' cls dx x) : EcAt K H P' H' as' cls dx x := by
  obtain ⟨e, h⟩ := h
  refine ⟨e, ?_⟩
  cases q : x.fs with
  | none => rw [q] at h; exact h
  | some fs =>
    rw [q] at h
    obtain ⟨d, fvs, h1, h2, h3, h4, h5, h6, h7⟩ := h
    refine ⟨d, fvs, h1, h2, h3, h4, h5, h6, ?_⟩
    cases z : H d with
    | none => rfl
    | some o =>
      rw [g.h d o z fun m => h5 ((g.a.trans p).subset m)] at h7
      cases h7

structure sE (X : Cx) (e : Expr) (σ : L2.St) (H : Hp) (Q : VK) : Prop where
  run : ∀ pins s, Inv X pins σ H s → wpAny (model X.prog X.w) X.A (eval e X.env) (EP X pins σ Q) X.xe s
theorem pE {X : Cx} {e : Expr} : PE X e (sE X e) := ⟨fun pins s _ _ _ I h => h.run pins s I⟩
theorem sE_of {X : Cx} {e : Expr} {t : TE} (h : PE X e t) {σ : St} {H : Hp} {Q : VK} (q : t σ H Q) : sE X e σ H Q := ⟨fun pins s I => h.run pins s σ H Q I q⟩
structure sT (X : Cx) (e : Expr) (σ : L2.St) (H : Hp) (Q : Bool → Hp → Prop) : Prop where
  run : ∀ pins s, Inv X pins σ H s → wpAny (model X.prog X.w) X.A (isTrue e X.env (eval e X.env)) (TP X pins σ Q) X.xe s
theorem pT {X : Cx} {e : Expr} : PT X e (sT X e) := ⟨fun pins s _ _ _ I h => h.run pins s I⟩
theorem sT_of {X : Cx} {e : Expr} {t : TT} (h : PT X e t) {σ : St} {H : Hp} {Q : Bool → Hp → Prop} (q : t σ H Q) : sT X e σ H Q := ⟨fun pins s I => h.run pins s σ H Q I q⟩
structure sW (X : Cx) (e : Expr) (σ : L2.St) (H : Hp) (Q : Bool → Hp → Prop) : Prop where
  run : ∀ whole pins s, Inv X pins σ H s → wpAny (model X.prog X.w) X.A (isTrue e X.env whole) (TP X pins σ Q) X.xe s
theorem pW {X : Cx} {e : Expr} : PW X e (sW X e) := ⟨fun whole pins s _ _ _ I h => h.run whole pins s I⟩
theorem sW_of {X : Cx} {e : Expr} {t : TT} (h : PW X e t) {σ : St} {H : Hp} {Q : Bool → Hp → Prop} (q : t σ H Q) : sW X e σ H Q := ⟨fun whole pins s I => h.run whole pins s σ H Q I q⟩
structure sA (X : Cx) (es : List Expr) (σ : L2.St) (H : Hp) (Q : List V → Hp → Prop) : Prop where
  run : ∀ pos pins s, Inv X pins σ H s → wpAny (model X.prog X.w) X.A (spliced (backTo pos (starEach es X.env))) (AP X pins σ Q) X.xe s
theorem pA {X : Cx} {es : List Expr} : PA X es (sA X es) := ⟨fun pos pins s _ _ _ I h => h.run pos pins s I⟩
theorem sA_of {X : Cx} {es : List Expr} {t : TA} (h : PA X es t) {σ : St} {H : Hp} {Q : List V → Hp → Prop} (q : t σ H Q) : sA X es σ H Q := ⟨fun pos pins s I => h.run pos pins s σ H Q I q⟩
structure sS (X : Cx) (st : Stmt) (D : Ends) (σ : L2.St) (H : Hp) : Prop where
  run : ∀ pins s, Inv X pins σ H s → wpAny (model X.prog X.w) X.A (exec st X.env) (SP X pins D) X.xe s
theorem pS {X : Cx} {st : Stmt} : PS X st (sS X st) := ⟨fun pins s _ _ _ I h => h.run pins s I⟩
theorem sS_of {X : Cx} {st : Stmt} {t : TS} (h : PS X st t) {D : Ends} {σ : St} {H : Hp} (q : t D σ H) : sS X st D σ H := ⟨fun pins s I => h.run pins s σ H D I q⟩
structure sSs (X : Cx) (st : List Stmt) (D : Ends) (σ : L2.St) (H : Hp) : Prop where
  run : ∀ pins s, Inv X pins σ H s → wpAny (model X.prog X.w) X.A (execs st X.env) (SP X pins D) X.xe s
theorem pSs {X : Cx} {st : List Stmt} : PSs X st (sSs X st) := ⟨fun pins s _ _ _ I h => h.run pins s I⟩
theorem sSs_of {X : Cx} {st : List Stmt} {t : TS} (h : PSs X st t) {D : Ends} {σ : St} {H : Hp} (q : t D σ H) : sSs X st D σ H := ⟨fun pins s I => h.run pins s σ H D I q⟩

abbrev PsiE := Dt → Om → Prop
abbrev PsiX := Ec → Om → Prop
/-- what is known of the exceptions that leave -/
def Xk (X : Cx) (ω : Om) (P H : Hp) (as : List Addr) (σ : St) (ε : PsiX) : Prop :=
  ∃ W : WX, Takes X W ∧ ∀ cls dx x ω' P' H' as', Ws X.K ω' P' H' as' → Gr P H as P' H' as' → EcAt X.K H P' H' as' cls dx x → ε x ω' → W cls dx σ H'
def EV (X : Cx) (ρ : Rho) (ω : Om) (e : Expr) (Ψ : PsiE) (ε : PsiX) : Prop :=
  ∀ σ P H as Q, Ws X.K ω P H as → Env X.K P as σ ρ → Xk X ω P H as σ ε →
    (∀ v d ω' P' H' as', Ws X.K ω' P' H' as' → Gr P H as P' H' as' → At X.K P' as' v d → Ψ d ω' → Q v H') → sE X e σ H Q
def ET (X : Cx) (ρ : Rho) (ω : Om) (e : Expr) (Ψ : Bool → Om → Prop) (ε : PsiX) : Prop :=
  ∀ σ P H as Q, Ws X.K ω P H as → Env X.K P as σ ρ → Xk X ω P H as σ ε →
    (∀ b ω' P' H' as', Ws X.K ω' P' H' as' → Gr P H as P' H' as' → Ψ b ω' → Q b H') → sT X e σ H Q
def EW (X : Cx) (ρ : Rho) (ω : Om) (e : Expr) (Ψ : Bool → Om → Prop) (ε : PsiX) : Prop :=
  ∀ σ P H as Q, Ws X.K ω P H as → Env X.K P as σ ρ → Xk X ω P H as σ ε →
    (∀ b ω' P' H' as', Ws X.K ω' P' H' as' → Gr P H as P' H' as' → Ψ b ω' → Q b H') → sW X e σ H Q
def EA (X : Cx) (ρ : Rho) (ω : Om) (es : List Expr) (Ψ : List Dt → Om → Prop) (ε : PsiX) : Prop :=
  ∀ σ P H as Q, Ws X.K ω P H as → Env X.K P as σ ρ → Xk X ω P H as σ ε →
    (∀ vs ds ω' P' H' as', Ws X.K ω' P' H' as' → Gr P H as P' H' as' → AtL X.K P' as' vs ds → Ψ ds ω' → Q vs H') → sA X es σ H Q
theorem Xk.later {X : Cx} {ω ω1 : Om} {P H P1 H1 : Hp} {as as1 : List Addr} {σ : St} {ε : PsiX} (x : Xk X ω P H as σ ε) (g : Gr P H as P1 H1 as1) : Xk X ω1 P1 H1 as1 σ ε := by
  obtain ⟨W, t, h⟩ := x
  exact ⟨W, t, fun cls dx x ω' P' H' as' w g' a e => h cls dx x ω' P' H' as' w (g.trans g') (a.back g g'.a) e⟩
/-- what is wanted behind a statement -/
structure Post where
  nx : Rho → Om → Prop
  rt : PsiE
  xc : Ec → Rho → Om → Prop := fun _ _ _ => False
  bk : Rho → Om → Prop := fun _ _ => False
  ct : Rho → Om → Prop := fun _ _ => False
/-- the ends of a statement, as the layer below has them -/
structure EndsOk (X : Cx) (P H : Hp) (as : List Addr) (Φ : Post) (D : Ends) : Prop where
  nx : ∀ σ' ρ' ω' P' H' as', Ws X.K ω' P' H' as' → Gr P H as P' H' as' → Env X.K P' as' σ' ρ' → Φ.nx ρ' ω' → D.nx σ' H'
  rt : ∀ v d ω' P' H' as', Ws X.K ω' P' H' as' → Gr P H as P' H' as' → At X.K P' as' v d → Φ.rt d ω' → D.rt v H'
  bk : ∀ σ' ρ' ω' P' H' as', Ws X.K ω' P' H' as' → Gr P H as P' H' as' → Env X.K P' as' σ' ρ' → Φ.bk ρ' ω' → D.bk σ' H'
  ct : ∀ σ' ρ' ω' P' H' as', Ws X.K ω' P' H' as' → Gr P H as P' H' as' → Env X.K P' as' σ' ρ' → Φ.ct ρ' ω' → D.ct σ' H'
  xc : ∃ W : WX, Takes X W ∧ ∀ cls dx x σ' ρ' ω' P' H' as', Ws X.K ω' P' H' as' → Gr P H as P' H' as' → Env X.K P' as' σ' ρ' → EcAt X.K H P' H' as' cls dx x → Φ.xc x ρ' ω' → W cls dx σ' H'
theorem EndsOk.later {X : Cx} {P H P1 H1 : Hp} {as as1 : List Addr} {Φ : Post} {D : Ends} (x : EndsOk X P H as Φ D) (g : Gr P H as P1 H1 as1) : EndsOk X P1 H1 as1 Φ D := by
  obtain ⟨n, r, b, c, W, t, h⟩ := x
  exact ⟨fun _ _ _ _ _ _ w g' e => n _ _ _ _ _ _ w (g.trans g') e, fun _ _ _ _ _ _ w g' e => r _ _ _ _ _ _ w (g.trans g') e, fun _ _ _ _ _ _ w g' e => b _ _ _ _ _ _ w (g.trans g') e,
    fun _ _ _ _ _ _ w g' e => c _ _ _ _ _ _ w (g.trans g') e, W, t, fun _ _ _ _ _ _ _ _ _ w g' e a => h _ _ _ _ _ _ _ _ _ w (g.trans g') e (a.back g g'.a)⟩
theorem EndsOk.xk {X : Cx} {ω : Om} {P H : Hp} {as : List Addr} {Φ : Post} {D : Ends} {σ : St} {ρ : Rho} (x : EndsOk X P H as Φ D) (e : Env X.K P as σ ρ) : Xk X ω P H as σ (fun y ω' => Φ.xc y ρ ω') := by
  obtain ⟨_, _, _, _, W, t, h⟩ := x
  exact ⟨W, t, fun cls dx y ω' P' H' as' w g a q => h cls dx y σ ρ ω' P' H' as' w g (e.mono g.p g.a) a q⟩
def ES (X : Cx) (ρ : Rho) (ω : Om) (st : Stmt) (Φ : Post) : Prop :=
  ∀ σ P H as D, Ws X.K ω P H as → Env X.K P as σ ρ → EndsOk X P H as Φ D → sS X st D σ H
def ESs (X : Cx) (ρ : Rho) (ω : Om) (st : List Stmt) (Φ : Post) : Prop :=
  ∀ σ P H as D, Ws X.K ω P H as → Env X.K P as σ ρ → EndsOk X P H as Φ D → sSs X st D σ H
end NM
namespace NM
open PySem L2 PySem.Spec PyProof.Rows

section
variable {K : Fg} {ω : Om} {P H : Hp} {as : List Addr}
theorem Ws.there (w : Ws K ω P H as) {a : Addr} (h : a ∈ as) : ∃ o, H a = some o := by
  obtain ⟨i, hi⟩ := List.getElem?_of_mem h
  have hl : i < ω.length := by rw [← w.len]; exact (List.getElem?_eq_some_iff.mp hi).1
  have q := w.own i ω[i] a (List.getElem?_eq_getElem hl) hi
  cases e : ω[i] with
  | dead => rw [e] at q; exact q
  | lst ds => rw [e] at q; obtain ⟨_, vs, q, _⟩ := q; exact ⟨_, q⟩
  | ins C ns ds => rw [e] at q; obtain ⟨_, dx, fs, q, _⟩ := q; exact ⟨_, q⟩
  | dct kvs => rw [e] at q; obtain ⟨_, vs, q, _⟩ := q; exact ⟨_, q⟩
  | lkd o kus kvs => rw [e] at q; obtain ⟨_, q, _⟩ := q; exact ⟨_, q⟩
  | xd d fs => rw [e] at q; obtain ⟨_, _, vs, q, _⟩ := q; exact ⟨_, q⟩
  | dkn pr w kds vds => rw [e] at q; obtain ⟨_, ks, vs, q, _⟩ := q; exact ⟨_, q⟩
  | lkn pr w ob ks vs kds vds => rw [e] at q; obtain ⟨_, q, _⟩ := q; exact ⟨_, q⟩
  | tbl Pa qn => rw [e] at q; obtain ⟨_, _, ps, q, _⟩ := q; exact ⟨_, q⟩
  | lam f ob cc qn σ ρ => rw [e] at q; obtain ⟨_, _, q, _⟩ := q; exact ⟨_, q⟩
  | any o => rw [e] at q; exact ⟨_, q.2⟩
theorem Ws.fresh (w : Ws K ω P H as) {p : Addr} (h : H p = none) : p ∉ as ∧ P p = none := by
  constructor
  · intro hm
    obtain ⟨o, e⟩ := w.there hm
    rw [h] at e; cases e
  · cases e : P p with
    | none => rfl
    | some o => rw [w.sub p o e] at h; cases h
theorem same_upd {H : Hp} {p : Addr} {o : HO} (h : H p = none) : Same H (upd H p o) := fun b u e => by rw [upd_ne (ne_of_none e h)]; exact e
theorem OwAt.mono {P' H' : Hp} {as' : List Addr} {a : Addr} {o : Ow} (x : OwAt K P H as a o) (e : Same P P') (p : as <+: as') (hp : P a = none → P' a = none) (hh : ∀ u, H a = some u → H' a = some u) : OwAt K P' H' as' a o := by
  cases o with
  | dead => obtain ⟨u, q⟩ := x; exact ⟨u, hh u q⟩
  | lst ds => obtain ⟨n, vs, q, r⟩ := x; exact ⟨hp n, vs, hh _ q, r.mono e p⟩
  | ins C ns ds => obtain ⟨n, dx, fs, q, q2, r⟩ := x; exact ⟨hp n, dx, fs, hh _ q, q2, r.mono e p⟩
  | dct kvs => obtain ⟨n, vs, q, q2, r⟩ := x; exact ⟨hp n, vs, hh _ q, q2, r.mono e p⟩
  | lkd o kus kvs => obtain ⟨n, q, q2, r⟩ := x; exact ⟨hp n, hh _ q, q2, r.mono e p⟩
  | xd d fs => obtain ⟨n0, n, vs, q, q2, r⟩ := x; exact ⟨n0, hp n, vs, hh _ q, q2, r.mono e p⟩
  | dkn pr w kds vds => obtain ⟨n, ks, vs, q, q2, rk, rv⟩ := x; exact ⟨hp n, ks, vs, hh _ q, q2, rk.mono e p, rv.mono e p⟩
  | lkn pr w ob ks vs kds vds => obtain ⟨n, q, q2, rk, rv⟩ := x; exact ⟨hp n, hh _ q, q2, rk.mono e p, rv.mono e p⟩
  | tbl Pa qn => obtain ⟨n0, n, ps, q, t, r⟩ := x; exact ⟨n0, hp n, ps, hh _ q, t, fun pos cv hc => let ⟨c, e1, e2⟩ := r pos cv hc; ⟨c, e1, e _ _ e2⟩⟩
  | lam f ob cc qn σ ρ => obtain ⟨n0, n, q, k, r⟩ := x; exact ⟨n0, hp n, hh _ q, e _ _ k, r.mono e p⟩
  | any o => obtain ⟨n, q⟩ := x; exact ⟨hp n, hh _ q⟩
/-- a new immutable thing -/
theorem Ws.newP (w : Ws K ω P H as) {p : Addr} {o : HO} (h : H p = none) : Ws K ω (upd P p o) (upd H p o) as ∧ Gr P H as (upd P p o) (upd H p o) as := by
  obtain ⟨hn, hp⟩ := w.fresh h
  refine ⟨⟨fun b u e => ?_, w.nd, w.len, fun i u a h1 h2 => ?_⟩, ⟨same_upd hp, List.prefix_refl _, fun b u e _ => same_upd h b u e, fun b u e q _ => ?_, fun b hb hb' => absurd hb hb'⟩⟩
  · by_cases e1 : b = p
    · subst e1; rw [upd_same] at e ⊢; exact e
    · rw [upd_ne e1] at e ⊢; exact w.sub b u e
  · have ne : a ≠ p := fun z => hn (z ▸ List.mem_of_getElem? h2)
    exact (w.own i u a h1 h2).mono (same_upd hp) (List.prefix_refl _) (fun q => by rw [upd_ne ne]; exact q) (fun v q => by rw [upd_ne ne]; exact q)
  · rw [upd_ne (ne_of_none e h)]; exact q
/-- an old object that nobody owns is turned: nothing of ours leans on it -/
theorem Ws.newH (w : Ws K ω P H as) {p : Addr} {o : HO} (h : H p = none) : Ws K ω P (upd H p o) as ∧ Gr P H as P (upd H p o) as := by
  obtain ⟨hn, hp⟩ := w.fresh h
  refine ⟨⟨fun b u e => same_upd h b u (w.sub b u e), w.nd, w.len, fun i u a h1 h2 => ?_⟩, ⟨Same.refl _, List.prefix_refl _, fun b u e _ => same_upd h b u e, fun b u e q _ => q, fun b hb hb' => absurd hb hb'⟩⟩
  exact (w.own i u a h1 h2).mono (Same.refl _) (List.prefix_refl _) id (fun v q => same_upd h _ _ q)
/-- a new mutable thing -/
theorem Ws.newO (w : Ws K ω P H as) {p : Addr} {o : HO} {u : Ow} (h : H p = none) (hu : OwAt K P (upd H p o) (as ++ [p]) p u) : Ws K (ω ++ [u]) P (upd H p o) (as ++ [p]) ∧ Gr P H as P (upd H p o) (as ++ [p]) := by
  obtain ⟨hn, hp⟩ := w.fresh h
  refine ⟨⟨fun b u e => same_upd h b u (w.sub b u e), ?_, by rw [List.length_append, List.length_append, w.len]; rfl, fun i v a h1 h2 => ?_⟩, ⟨Same.refl _, List.prefix_append _ _, fun b u e _ => same_upd h b u e, fun b u e q _ => q, fun b hb hb' => ?_⟩⟩
  · rw [List.nodup_append]
    exact ⟨w.nd, by simp, fun a ha b hb => by
      have e : b = p := by simpa using hb
      subst e
      intro z; subst z; exact hn ha⟩
  · by_cases hi : i < as.length
    · rw [List.getElem?_append_left hi] at h2
      rw [List.getElem?_append_left (by rw [← w.len]; exact hi)] at h1
      exact (w.own i v a h1 h2).mono (Same.refl _) (List.prefix_append _ _) id (fun v q => same_upd h _ _ q)
    · rw [List.getElem?_append_right (by omega)] at h2
      rw [List.getElem?_append_right (by rw [← w.len]; omega)] at h1
      rw [← w.len] at h1
      cases hj : i - as.length with
      | zero =>
        rw [hj] at h1 h2
        simp at h1 h2
        subst h1; subst h2
        exact hu
      | succ j => rw [hj] at h2; simp at h2
  · rcases List.mem_append.mp hb with z | z
    · exact absurd z hb'
    · have e : b = p := by simpa using z
      subst e; exact h
/-- a mutable thing turns -/
theorem Ws.turn (w : Ws K ω P H as) {i : Nat} {a : Addr} {o u : Ow} {ho : HO} (hi : ω[i]? = some o) (ha : as[i]? = some a) (hp : P a = none) (hu : OwAt K P (upd H a ho) as a u) : Ws K (ω.set i u) P (upd H a ho) as ∧ Gr P H as P (upd H a ho) as := by
  have ham : a ∈ as := List.mem_of_getElem? ha
  refine ⟨⟨fun b v e => ?_, w.nd, by rw [List.length_set]; exact w.len, fun j v b h1 h2 => ?_⟩, ⟨Same.refl _, List.prefix_refl _, fun b v e hn => ?_, fun b u e q _ => q, fun b hb hb' => absurd hb hb'⟩⟩
  · have ne : b ≠ a := fun z => by subst z; rw [hp] at e; cases e
    rw [upd_ne ne]; exact w.sub b v e
  · by_cases e : i = j
    · subst e
      rw [List.getElem?_set_self (List.getElem?_eq_some_iff.mp hi).1] at h1
      cases h1
      rw [ha] at h2; cases h2
      exact hu
    · rw [List.getElem?_set_ne e] at h1
      have ne : b ≠ a := fun z => by
        subst z
        have l1 := (List.getElem?_eq_some_iff.mp ha)
        have l2 := (List.getElem?_eq_some_iff.mp h2)
        obtain ⟨p1, e1⟩ := l1
        obtain ⟨p2, e2⟩ := l2
        exact e ((List.getElem_inj w.nd).mp (e1.trans e2.symm))
      exact (w.own j v b h1 h2).mono (Same.refl _) (List.prefix_refl _) id (fun v q => by rw [upd_ne ne]; exact q)
  · have ne : b ≠ a := fun z => hn (z ▸ ham)
    rw [upd_ne ne]; exact e
end

section
variable {X : Cx} {ρ : Rho} {ω : Om} {Ψ Ψ' : PsiE} {ε ε' : PsiX} {e a b c : Expr} {pos : Pos}
theorem EV.imp (h : EV X ρ ω e Ψ ε) (hp : ∀ d ω', Ψ d ω' → Ψ' d ω') : EV X ρ ω e Ψ' ε := fun σ P H as Q w en x q =>
  h σ P H as Q w en x fun v d ω' P' H' as' w' g' a p => q v d ω' P' H' as' w' g' a (hp d ω' p)
theorem ev_var (i : Nat) {x : Str} {d : Dt} (hr : ρ[i]? = some (some d)) (h : Ψ d ω) (hN : X.N[i]? = some x := by rfl) (hv : Vis X.env.scope x := by first | exact Or.inl rfl | exact Or.inr (Or.inl rfl) | exact Or.inr (Or.inr rfl))
    (hd : (x == ("__debug__" : Str)) = false := by decide) (hcd : (x == ("__classdict__" : Str)) = false := by decide) : EV X ρ ω (.Name x pos) Ψ ε := fun σ P H as Q w en _ q => by
  obtain ⟨v, h1, h2⟩ := en.get i d hr
  exact sE_of (pe_var hN hv hd hcd) ⟨v, h1, q v d ω P H as w .refl h2 h⟩
theorem ev_int {i : Int} {j : Nat} (h : Ψ (.int i) ω) : EV X ρ ω (.Constant (.int i) j pos) Ψ ε := fun σ P H as Q w en _ q => sE_of pe_int (q _ _ ω P H as w .refl (.int i) h)
theorem ev_bl {i : Bool} {j : Nat} (h : Ψ (.bl i) ω) : EV X ρ ω (.Constant (.bool i) j pos) Ψ ε := fun σ P H as Q w en _ q => sE_of pe_bl (q _ _ ω P H as w .refl (.bl i) h)
theorem ev_non {j : Nat} (h : Ψ .non ω) : EV X ρ ω (.Constant .none j pos) Ψ ε := fun σ P H as Q w en _ q => sE_of pe_non (q _ _ ω P H as w .refl .non h)
theorem ev_str {i : Str} {j : Nat} (h : Ψ (.str i) ω) : EV X ρ ω (.Constant (.str i) j pos) Ψ ε := fun σ P H as Q w en _ q => sE_of pe_str (q _ _ ω P H as w .refl (.str i) h)
/-- a module's constant -/
def GlD (K : Fg) (mg : Str → Option Value) (x : Str) (d : Dt) : Prop := ∃ u v, mg x = some u ∧ RelV v u ∧ ∀ P as, At K P as v d
theorem ev_glob {x : Str} {d : Dt} (G : GlD X.K X.mg x d) (h : Ψ d ω) (hg : Gl X x := by rfl) (hd : (x == ("__debug__" : Str)) = false := by decide) : EV X ρ ω (.Name x pos) Ψ ε := fun σ P H as Q w en _ q => by
  obtain ⟨u, v, hm, r, at_⟩ := G
  exact sE_of (pe_glob hg hm r hd) (q v d ω P H as w .refl (at_ P as) h)
/-- a built-in type or function as a value -/
theorem ev_bltn {x : Str} {n : String} (hm : X.mg x = none) (h : Ψ (.ty n) ω) (hg : Gl X x := by rfl) (hv : bootBuiltins x = some (.type n) := by decide +kernel) (hn : x ≠ "__name__" := by decide) (hd : (x == ("__debug__" : Str)) = false := by decide) : EV X ρ ω (.Name x pos) Ψ ε := fun σ P H as Q w en _ q => by
  exact sE_of (pe_bltn (v := .ty n) hg hm hv rfl hn hd) (q (.ty n) _ ω P H as w .refl (.ty n) h)

structure sOp (X : Cx) (f : Value → Value → Sem Value) (σ : L2.St) (x y : V) (H : Hp) (Q : VK) : Prop where
  run : ∀ pins s v u, Inv X pins σ H s → RelV x v → RelV y u → wpAny (model X.prog X.w) X.A (f v u) (EP X pins σ Q) X.xe s
theorem sOp_of {f : Value → Value → Sem Value} {r : R2} (h : OpR X f r) {σ : L2.St} {x y : V} {H : Hp} {Q : VK} (q : r x y H Q) : sOp X f σ x y H Q := ⟨fun pins s v u I rx ry => h pins s σ H x y v u Q I rx ry q⟩
/-- an operation on two data -/
def OD (X : Cx) (f : Value → Value → Sem Value) (x y : Dt) (ω : Om) (Ψ : PsiE) (ε : PsiX) : Prop :=
  ∀ σ vx vy P H as Q, Ws X.K ω P H as → At X.K P as vx x → At X.K P as vy y → Xk X ω P H as σ ε →
    (∀ v d ω' P' H' as', Ws X.K ω' P' H' as' → Gr P H as P' H' as' → At X.K P' as' v d → Ψ d ω' → Q v H') → sOp X f σ vx vy H Q
theorem two_then {f : V → V → L2.St → Hp → Prop} {Θ : Dt → Dt → Om → Prop} (h : EV X ρ ω a (fun x ω1 => EV X ρ ω1 b (fun y ω2 => Θ x y ω2) ε) ε)
    {σ : L2.St} {P H : Hp} {as : List Addr} (w : Ws X.K ω P H as) (en : Env X.K P as σ ρ) (xk : Xk X ω P H as σ ε)
    (k : ∀ vx vy x y ω' P' H' as', Ws X.K ω' P' H' as' → Gr P H as P' H' as' → At X.K P' as' vx x → At X.K P' as' vy y → Xk X ω' P' H' as' σ ε → Θ x y ω' → f vx vy σ H') :
    sE X a σ H fun x H1 => sE X b σ H1 fun y H2 => f x y σ H2 := by
  refine h σ P H as _ w en xk fun v d ω1 P1 H1 as1 w1 g1 a1 hb => ?_
  refine hb σ P1 H1 as1 _ w1 (en.mono g1.p g1.a) (xk.later g1) fun v2 d2 ω2 P2 H2 as2 w2 g2 a2 ht => ?_
  exact k v v2 d d2 ω2 P2 H2 as2 w2 (g1.trans g2) (a1.mono g2.p g2.a) a2 (xk.later (g1.trans g2)) ht
theorem ev_bin {op : Operator} (h : EV X ρ ω a (fun x ω1 => EV X ρ ω1 b (fun y ω2 => OD X (binaryOp op) x y ω2 Ψ ε) ε) ε) : EV X ρ ω (.BinOp a op b pos) Ψ ε := fun σ P H as Q w en xk q => by
  have z : sE X a σ H fun x H1 => sE X b σ H1 fun y H2 => sOp X (binaryOp op) σ x y H2 Q :=
    two_then (f := fun x y σ H2 => sOp X (binaryOp op) σ x y H2 Q) h w en xk fun vx vy x y ω' P' H' as' w' g' ax ay xk' o =>
      o σ vx vy P' H' as' Q w' ax ay xk' fun v d ω2 P2 H2 as2 w2 g2 a2 p => q v d ω2 P2 H2 as2 w2 (g'.trans g2) a2 p
  exact .mk fun pins s I => wpAny_BinOp (binT pE pE I z fun v u s2 x y H2 I2 rx ry q => q.run pins s2 v u I2 rx ry)
theorem ev_cmp {op : CmpOp} (h : EV X ρ ω a (fun x ω1 => EV X ρ ω1 b (fun y ω2 => OD X (compareOp op) x y ω2 Ψ ε) ε) ε) (hm : behindInMarks op b = false := by with_unfolding_all rfl) : EV X ρ ω (.Compare a [op] [b] pos) Ψ ε := fun σ P H as Q w en xk q => by
  have z : sE X a σ H fun x H1 => sE X b σ H1 fun y H2 => sOp X (compareOp op) σ x y H2 Q :=
    two_then (f := fun x y σ H2 => sOp X (compareOp op) σ x y H2 Q) h w en xk fun vx vy x y ω' P' H' as' w' g' ax ay xk' o =>
      o σ vx vy P' H' as' Q w' ax ay xk' fun v d ω2 P2 H2 as2 w2 g2 a2 p => q v d ω2 P2 H2 as2 w2 (g'.trans g2) a2 p
  exact .mk fun pins s I => wpAny_Compare1 (binT pE pE I z fun v u s2 x y H2 I2 rx ry q => q.run pins s2 v u I2 rx ry) hm
theorem et_cmp {Ψ : Bool → Om → Prop} {op : CmpOp} (h : EV X ρ ω a (fun x ω1 => EV X ρ ω1 b (fun y ω2 => OD X (compareOp op) x y ω2 (fun d ω3 => ∃ k, d = .bl k ∧ Ψ k ω3) ε) ε) ε) (hm : behindInMarks op b = false := by with_unfolding_all rfl) : ET X ρ ω (.Compare a [op] [b] pos) Ψ ε := fun σ P H as Q w en xk q => by
  have z : sE X a σ H fun x H1 => sE X b σ H1 fun y H2 => sOp X (compareOp op) σ x y H2 (fun v H3 => ∃ k, v = .bl k ∧ Q k H3) :=
    two_then (f := fun x y σ H2 => sOp X (compareOp op) σ x y H2 (fun v H3 => ∃ k, v = .bl k ∧ Q k H3)) h w en xk fun vx vy x y ω' P' H' as' w' g' ax ay xk' o =>
      o σ vx vy P' H' as' _ w' ax ay xk' fun v d ω2 P2 H2 as2 w2 g2 a2 p => by
        obtain ⟨k, rfl, p⟩ := p
        cases a2
        exact ⟨k, rfl, q k ω2 P2 H2 as2 w2 (g'.trans g2) p⟩
  refine .mk fun pins s I => wpAny_isTrue_Compare1 (thn (z.run pins s I) fun v s1 ⟨x, H1, I1, r1, q1⟩ => thn (q1.run pins s1 I1) fun u s2 ⟨y, H2, I2, r2, q2⟩ =>
    thn (q2.run pins s2 v u I2 r1 r2) fun c s3 ⟨z, H3, I3, r3, k, e, q3⟩ => ?_) hm
  subst e
  cases r3
  exact wpAny_truthy_bool ⟨H3, I3, q3⟩
/-- a op b op c -/
theorem ev_chain {op op' : CmpOp} (h : EV X ρ ω a (fun x ω1 => EV X ρ ω1 b (fun y ω2 => OD X (compareOp op) x y ω2 (fun d ω3 => ∃ k, d = .bl k ∧ if k = true then EV X ρ ω3 c (fun z ω4 => OD X (compareOp op') y z ω4 Ψ ε) ε else Ψ (.bl false) ω3) ε) ε) ε)
    (hm : lastMarks [op, op'] [b, c] = false := by with_unfolding_all rfl) : EV X ρ ω (.Compare a [op, op'] [b, c] pos) Ψ ε := fun σ P H as Q w en xk q => by
  have z : sE X a σ H fun x H1 => sE X b σ H1 fun y H2 => sOp X (compareOp op) σ x y H2 (fun v H3 => ∃ k, v = .bl k ∧ if k = true then sE X c σ H3 fun w' H4 => sOp X (compareOp op') σ y w' H4 Q else Q (.bl false) H3) :=
    two_then (f := fun x y σ H2 => sOp X (compareOp op) σ x y H2 (fun v H3 => ∃ k, v = .bl k ∧ if k = true then sE X c σ H3 fun w' H4 => sOp X (compareOp op') σ y w' H4 Q else Q (.bl false) H3)) h w en xk fun vx vy x y ω' P' H' as' w' g' ax ay xk' o =>
      o σ vx vy P' H' as' _ w' ax ay xk' fun v d ω2 P2 H2 as2 w2 g2 a2 p => by
        obtain ⟨k, rfl, p⟩ := p
        cases a2
        refine ⟨k, rfl, ?_⟩
        cases k with
        | false => exact iteF (q _ _ ω2 P2 H2 as2 w2 (g'.trans g2) (.bl false) (by simpa using p))
        | true =>
          have p' : EV X ρ ω2 c (fun z ω4 => OD X (compareOp op') y z ω4 Ψ ε) ε := by simpa using p
          refine iteT (p' σ P2 H2 as2 _ w2 ((en.mono g'.p g'.a).mono g2.p g2.a) (xk'.later g2) fun v3 d3 ω3 P3 H3 as3 w3 g3 a3 o3 => ?_)
          exact o3 σ vy v3 P3 H3 as3 Q w3 (ay.mono (g2.trans g3).p (g2.trans g3).a) a3 (xk'.later (g2.trans g3)) fun v4 d4 ω4 P4 H4 as4 w4 g4 a4 p4 => q v4 d4 ω4 P4 H4 as4 w4 (((g'.trans g2).trans g3).trans g4) a4 p4
  refine .mk fun pins s I => Compare_chain (thn (z.run pins s I) fun v s1 ⟨x, H1, I1, r1, q1⟩ => chain_link (thn (q1.run pins s1 I1) fun u s2 ⟨y, H2, I2, r2, q2⟩ =>
    thn (q2.run pins s2 v u I2 r1 r2) fun d s3 ⟨z, H3, I3, r3, k, e, q3⟩ => ?_)) hm
  subst e
  cases r3
  refine wpAny_truthy_bool ?_
  cases k with
  | false => exact ite_ff ⟨.bl false, H3, I3, rfl, by simpa using q3⟩
  | true =>
    have q3' : sE X c σ H3 fun w' H4 => sOp X (compareOp op') σ y w' H4 Q := by simpa using q3
    exact ite_tt (chain_last (thn (q3'.run pins s3 I3) fun w' s4 ⟨z', H4, I4, r4, q4⟩ => q4.run pins s4 u w' I4 r2 r4))
theorem et_chain {Ψ : Bool → Om → Prop} {op op' : CmpOp} (h : EV X ρ ω a (fun x ω1 => EV X ρ ω1 b (fun y ω2 => OD X (compareOp op) x y ω2 (fun d ω3 => ∃ k, d = .bl k ∧ if k = true then EV X ρ ω3 c (fun z ω4 => OD X (compareOp op') y z ω4 (fun d ω5 => ∃ k, d = .bl k ∧ Ψ k ω5) ε) ε else Ψ false ω3) ε) ε) ε)
    (hm : lastMarks [op, op'] [b, c] = false := by with_unfolding_all rfl) : ET X ρ ω (.Compare a [op, op'] [b, c] pos) Ψ ε := fun σ P H as Q w en xk q => by
  have z : sE X a σ H fun x H1 => sE X b σ H1 fun y H2 => sOp X (compareOp op) σ x y H2 (fun v H3 => ∃ k, v = .bl k ∧ if k = true then sE X c σ H3 fun w' H4 => sOp X (compareOp op') σ y w' H4 (fun v H5 => ∃ k, v = .bl k ∧ Q k H5) else Q false H3) :=
    two_then (f := fun x y σ H2 => sOp X (compareOp op) σ x y H2 (fun v H3 => ∃ k, v = .bl k ∧ if k = true then sE X c σ H3 fun w' H4 => sOp X (compareOp op') σ y w' H4 (fun v H5 => ∃ k, v = .bl k ∧ Q k H5) else Q false H3)) h w en xk fun vx vy x y ω' P' H' as' w' g' ax ay xk' o =>
      o σ vx vy P' H' as' _ w' ax ay xk' fun v d ω2 P2 H2 as2 w2 g2 a2 p => by
        obtain ⟨k, rfl, p⟩ := p
        cases a2
        refine ⟨k, rfl, ?_⟩
        cases k with
        | false => exact iteF (q _ ω2 P2 H2 as2 w2 (g'.trans g2) (by simpa using p))
        | true =>
          have p' : EV X ρ ω2 c (fun z ω4 => OD X (compareOp op') y z ω4 (fun d ω5 => ∃ k, d = .bl k ∧ Ψ k ω5) ε) ε := by simpa using p
          refine iteT (p' σ P2 H2 as2 _ w2 ((en.mono g'.p g'.a).mono g2.p g2.a) (xk'.later g2) fun v3 d3 ω3 P3 H3 as3 w3 g3 a3 o3 => ?_)
          refine o3 σ vy v3 P3 H3 as3 _ w3 (ay.mono (g2.trans g3).p (g2.trans g3).a) a3 (xk'.later (g2.trans g3)) fun v4 d4 ω4 P4 H4 as4 w4 g4 a4 p4 => ?_
          obtain ⟨k, rfl, p4⟩ := p4
          cases a4
          exact ⟨k, rfl, q k ω4 P4 H4 as4 w4 (((g'.trans g2).trans g3).trans g4) p4⟩
  refine .mk fun pins s I => isTrue_chain (thn (z.run pins s I) fun v s1 ⟨x, H1, I1, r1, q1⟩ => test_link (thn (q1.run pins s1 I1) fun u s2 ⟨y, H2, I2, r2, q2⟩ =>
    thn (q2.run pins s2 v u I2 r1 r2) fun d s3 ⟨z, H3, I3, r3, k, e, q3⟩ => ?_)) hm
  subst e
  cases r3
  refine wpAny_truthy_bool ?_
  cases k with
  | false => exact ite_ff ⟨H3, I3, by simpa using q3⟩
  | true =>
    have q3' : sE X c σ H3 fun w' H4 => sOp X (compareOp op') σ y w' H4 (fun v H5 => ∃ k, v = .bl k ∧ Q k H5) := by simpa using q3
    refine ite_tt (test_last (thn (q3'.run pins s3 I3) fun w' s4 ⟨z', H4, I4, r4, q4⟩ => thn (q4.run pins s4 u w' I4 r2 r4) fun d' s5 ⟨z2, H5, I5, r5, k2, e2, q5⟩ => ?_))
    subst e2
    cases r5
    exact wpAny_truthy_bool ⟨H5, I5, q5⟩

theorem ev_and1 {op : PySem.BoolOp} (h : EV X ρ ω a Ψ ε) : EV X ρ ω (.BoolOp op [a] pos) Ψ ε := fun σ P H as Q w en xk q => sE_of (pe_one pE) (h σ P H as Q w en xk q)
theorem ev_and {rest : List Expr} (h : EV X ρ ω a (fun x ω1 => ∃ c, x = .bl c ∧ if c = true then EV X ρ ω1 (.BoolOp .And (b :: rest) pos) Ψ ε else Ψ (.bl false) ω1) ε) : EV X ρ ω (.BoolOp .And (a :: b :: rest) pos) Ψ ε := fun σ P H as Q w en xk q => by
  refine sE_of (pe_and pE pE) (h σ P H as _ w en xk fun v d ω1 P1 H1 as1 w1 g1 a1 p => ?_)
  obtain ⟨c, rfl, p⟩ := p
  cases a1
  refine ⟨c, rfl, ?_⟩
  cases c with
  | false => exact iteF (q _ _ ω1 P1 H1 as1 w1 g1 (.bl false) (by simpa using p))
  | true =>
    have p' : EV X ρ ω1 (.BoolOp .And (b :: rest) pos) Ψ ε := by simpa using p
    exact iteT (p' σ P1 H1 as1 Q w1 (en.mono g1.p g1.a) (xk.later g1) fun v d ω' P' H' as' w' g' a' p => q v d ω' P' H' as' w' (g1.trans g') a' p)
theorem ev_or {rest : List Expr} (h : EV X ρ ω a (fun x ω1 => ∃ c, x = .bl c ∧ if c = true then Ψ (.bl true) ω1 else EV X ρ ω1 (.BoolOp .Or (b :: rest) pos) Ψ ε) ε) : EV X ρ ω (.BoolOp .Or (a :: b :: rest) pos) Ψ ε := fun σ P H as Q w en xk q => by
  refine sE_of (pe_or pE pE) (h σ P H as _ w en xk fun v d ω1 P1 H1 as1 w1 g1 a1 p => ?_)
  obtain ⟨c, rfl, p⟩ := p
  cases a1
  refine ⟨c, rfl, ?_⟩
  cases c with
  | true => exact iteT (q _ _ ω1 P1 H1 as1 w1 g1 (.bl true) (by simpa using p))
  | false =>
    have p' : EV X ρ ω1 (.BoolOp .Or (b :: rest) pos) Ψ ε := by simpa using p
    exact iteF (p' σ P1 H1 as1 Q w1 (en.mono g1.p g1.a) (xk.later g1) fun v d ω' P' H' as' w' g' a' p => q v d ω' P' H' as' w' (g1.trans g') a' p)
theorem ev_not (h : EV X ρ ω a (fun x ω1 => ∃ c, x = .bl c ∧ Ψ (.bl (!c)) ω1) ε) : EV X ρ ω (.UnaryOp .Not a pos) Ψ ε := fun σ P H as Q w en xk q => by
  refine sE_of (pe_not pE) (h σ P H as _ w en xk fun v d ω1 P1 H1 as1 w1 g1 a1 p => ?_)
  obtain ⟨c, rfl, p⟩ := p
  cases a1
  exact ⟨c, rfl, q _ _ ω1 P1 H1 as1 w1 g1 (.bl _) p⟩
theorem ev_neg (h : EV X ρ ω a (fun x ω1 => ∃ i, x = .int i ∧ Ψ (.int (-i)) ω1) ε) : EV X ρ ω (.UnaryOp .USub a pos) Ψ ε := fun σ P H as Q w en xk q => by
  refine sE_of (pe_un un_neg pE) (h σ P H as _ w en xk fun v d ω1 P1 H1 as1 w1 g1 a1 p => ?_)
  obtain ⟨c, rfl, p⟩ := p
  cases a1
  exact ⟨c, rfl, q _ _ ω1 P1 H1 as1 w1 g1 (.int _) p⟩
theorem ev_if (h : ET X ρ ω c (fun k ω1 => if k = true then EV X ρ ω1 a Ψ ε else EV X ρ ω1 b Ψ ε) ε) : EV X ρ ω (.IfExp c a b pos) Ψ ε := fun σ P H as Q w en xk q => by
  refine sE_of (pe_ifExp pT pE pE) (h σ P H as _ w en xk fun k ω1 P1 H1 as1 w1 g1 p => ?_)
  cases k with
  | true =>
    have p' : EV X ρ ω1 a Ψ ε := by simpa using p
    exact iteT (p' σ P1 H1 as1 Q w1 (en.mono g1.p g1.a) (xk.later g1) fun v d ω' P' H' as' w' g' a' p => q v d ω' P' H' as' w' (g1.trans g') a' p)
  | false =>
    have p' : EV X ρ ω1 b Ψ ε := by simpa using p
    exact iteF (p' σ P1 H1 as1 Q w1 (en.mono g1.p g1.a) (xk.later g1) fun v d ω' P' H' as' w' g' a' p => q v d ω' P' H' as' w' (g1.trans g') a' p)

theorem et_w {Ψ : Bool → Om → Prop} (h : EW X ρ ω e Ψ ε) : ET X ρ ω e Ψ ε := fun σ P H as Q w en xk q => sT_of pW.pt (h σ P H as Q w en xk q)
theorem ew_and1 {Ψ : Bool → Om → Prop} (h : ET X ρ ω a Ψ ε) : EW X ρ ω (.BoolOp .And [a] pos) Ψ ε := fun σ P H as Q w en xk q => sW_of (pw_and1 pT) (h σ P H as Q w en xk q)
theorem ew_or1 {Ψ : Bool → Om → Prop} (h : ET X ρ ω a Ψ ε) : EW X ρ ω (.BoolOp .Or [a] pos) Ψ ε := fun σ P H as Q w en xk q => sW_of (pw_or1 pT) (h σ P H as Q w en xk q)
theorem ew_and {Ψ : Bool → Om → Prop} {rest : List Expr} (h : ET X ρ ω a (fun k ω1 => if k = true then EW X ρ ω1 (.BoolOp .And (b :: rest) pos) Ψ ε else Ψ false ω1) ε) : EW X ρ ω (.BoolOp .And (a :: b :: rest) pos) Ψ ε := fun σ P H as Q w en xk q => by
  refine sW_of (pw_and pT pW) (h σ P H as _ w en xk fun k ω1 P1 H1 as1 w1 g1 p => ?_)
  cases k with
  | true =>
    have p' : EW X ρ ω1 (.BoolOp .And (b :: rest) pos) Ψ ε := by simpa using p
    exact iteT (p' σ P1 H1 as1 Q w1 (en.mono g1.p g1.a) (xk.later g1) fun d ω' P' H' as' w' g' p => q d ω' P' H' as' w' (g1.trans g') p)
  | false => exact iteF (q _ ω1 P1 H1 as1 w1 g1 (by simpa using p))
theorem ew_or {Ψ : Bool → Om → Prop} {rest : List Expr} (h : ET X ρ ω a (fun k ω1 => if k = true then Ψ true ω1 else EW X ρ ω1 (.BoolOp .Or (b :: rest) pos) Ψ ε) ε) : EW X ρ ω (.BoolOp .Or (a :: b :: rest) pos) Ψ ε := fun σ P H as Q w en xk q => by
  refine sW_of (pw_or pT pW) (h σ P H as _ w en xk fun k ω1 P1 H1 as1 w1 g1 p => ?_)
  cases k with
  | false =>
    have p' : EW X ρ ω1 (.BoolOp .Or (b :: rest) pos) Ψ ε := by simpa using p
    exact iteF (p' σ P1 H1 as1 Q w1 (en.mono g1.p g1.a) (xk.later g1) fun d ω' P' H' as' w' g' p => q d ω' P' H' as' w' (g1.trans g') p)
  | true => exact iteT (q _ ω1 P1 H1 as1 w1 g1 (by simpa using p))
theorem et_not {Ψ : Bool → Om → Prop} (h : ET X ρ ω a (fun k ω1 => Ψ (!k) ω1) ε) : ET X ρ ω (.UnaryOp .Not a pos) Ψ ε := fun σ P H as Q w en xk q =>
  sT_of (pt_not pT) (h σ P H as _ w en xk fun k ω1 P1 H1 as1 w1 g1 p => q (!k) ω1 P1 H1 as1 w1 g1 p)
/-- a value's truth -/
def Tru (ω : Om) : Dt → Bool → Prop
  | .non, k => k = false
  | .bl b, k => k = b
  | .int i, k => k = (i != 0)
  | .str z, k => z.length ≤ sizeLine ∧ k = ((z.length : Int) != 0)
  | .tup ds, k => k = !ds.isEmpty
  | .lst ds, k => k = !ds.isEmpty
  | .own n, k => ∃ ds, ω[n]? = some (.lst ds) ∧ k = !ds.isEmpty
  | _, _ => False
theorem AtL.isEmpty {K : Fg} {P : Hp} {as : List Addr} {vs : List V} {ds : List Dt} (h : AtL K P as vs ds) : vs.isEmpty = ds.isEmpty := by cases h <;> rfl
theorem tru_at {K : Fg} {ω : Om} {P H : Hp} {as : List Addr} {v : V} {d : Dt} {k : Bool} (w : Ws K ω P H as) (h : At K P as v d) (t : Tru ω d k) : TruV K v H k := by
  cases h with
  | non => exact t
  | bl b => exact t
  | int b => exact t
  | str b => exact t
  | ty b => exact t.elim
  | ref b => exact t.elim
  | @own n a h =>
    obtain ⟨ds, e, rfl⟩ := t
    obtain ⟨_, vs, e1, r⟩ := w.own n _ a e h
    exact .inl ⟨vs, .of e1, by rw [r.isEmpty]⟩
  | @tup a vs ds h r => exact .inr (.inl ⟨vs, same_t w.sub h, by rw [r.isEmpty]; exact t⟩)
  | @lst a vs ds h r => exact .inl ⟨vs, same_l w.sub h, by rw [r.isEmpty]; exact t⟩
  | obj => exact t.elim
  | dic => exact t.elim
theorem et_tru {Ψ : Bool → Om → Prop} (h : EV X ρ ω e (fun d ω1 => ∃ k, Tru ω1 d k ∧ Ψ k ω1) ε) (he : ∀ whole, isTrue e X.env whole = (do let v ← whole; standAt e.pos; holding [v] (truthy v)) := by intro _; rfl) : ET X ρ ω e Ψ ε := fun σ P H as Q w en xk q => by
  refine sT_of (pt_truth pE he) (h σ P H as _ w en xk fun v d ω1 P1 H1 as1 w1 g1 a1 p => ?_)
  obtain ⟨k, t, p⟩ := p
  exact ⟨k, tru_at w1 a1 t, q k ω1 P1 H1 as1 w1 g1 p⟩
/-- a test that gives a bool -/
theorem et_bool {Ψ : Bool → Om → Prop} (h : EV X ρ ω e (fun d ω1 => ∃ k, d = .bl k ∧ Ψ k ω1) ε) (he : ∀ whole, isTrue e X.env whole = (do let v ← whole; standAt e.pos; holding [v] (truthy v)) := by intro _; rfl) : ET X ρ ω e Ψ ε :=
  et_tru (h.imp fun d ω' ⟨k, e, p⟩ => ⟨k, by subst e; rfl, p⟩) he

theorem ea_nil {Ψ : List Dt → Om → Prop} (h : Ψ [] ω) : EA X ρ ω [] Ψ ε := fun σ P H as Q w en xk q => sA_of pa_nil (q [] [] ω P H as w .refl .nil h)
theorem ea_cons {Ψ : List Dt → Om → Prop} {es : List Expr} (h : EV X ρ ω e (fun d ω1 => EA X ρ ω1 es (fun ds ω2 => Ψ (d :: ds) ω2) ε) ε) (hs : starEach (e :: es) X.env = (false, eval e X.env) :: starEach es X.env := by rfl) : EA X ρ ω (e :: es) Ψ ε := fun σ P H as Q w en xk q => by
  refine sA_of (pa_cons pE pA hs) (h σ P H as _ w en xk fun v d ω1 P1 H1 as1 w1 g1 a1 p => ?_)
  exact p σ P1 H1 as1 _ w1 (en.mono g1.p g1.a) (xk.later g1) fun vs ds ω2 P2 H2 as2 w2 g2 a2 p2 => q (v :: vs) (d :: ds) ω2 P2 H2 as2 w2 (g1.trans g2) (.cons (a1.mono g2.p g2.a) a2) p2
theorem ev_tup {es : List Expr} {k : Nat} (h : EA X ρ ω es (fun ds ω1 => ds.length ≤ sizeLine ∧ Ψ (.tup ds) ω1) ε) (hp : PE X (.Tuple es k pos) (tTup (sA X es)) := by exact pe_tup pA) : EV X ρ ω (.Tuple es k pos) Ψ ε := fun σ P H as Q w en xk q => by
  refine sE_of hp (h σ P H as _ w en xk fun vs ds ω1 P1 H1 as1 w1 g1 a1 p => ?_)
  refine ⟨by rw [a1.length]; exact p.1, fun pp hpp => ?_⟩
  obtain ⟨w2, g2⟩ := w1.newP (o := .tup vs) hpp
  exact q _ _ ω1 _ _ as1 w2 (g1.trans g2) (.tup (.of upd_same) (a1.mono g2.p g2.a)) p.2
theorem ev_lst {es : List Expr} (h : EA X ρ ω es (fun ds ω1 => ds.length ≤ sizeLine ∧ Ψ (.lst ds) ω1) ε) (hp : PE X (.List es pos) (tLst (sA X es)) := by exact pe_lst pA) : EV X ρ ω (.List es pos) Ψ ε := fun σ P H as Q w en xk q => by
  refine sE_of hp (h σ P H as _ w en xk fun vs ds ω1 P1 H1 as1 w1 g1 a1 p => ?_)
  refine ⟨by rw [a1.length]; exact p.1, fun pp hpp => ?_⟩
  obtain ⟨w2, g2⟩ := w1.newP (o := .lst vs) hpp
  exact q _ _ ω1 _ _ as1 w2 (g1.trans g2) (.lst (.of upd_same) (a1.mono g2.p g2.a)) p.2
/-- a list that will be changed -/
theorem ev_lstO {es : List Expr} (h : EA X ρ ω es (fun ds ω1 => ds.length ≤ sizeLine ∧ Ψ (.own ω1.length) (ω1 ++ [.lst ds])) ε) (hp : PE X (.List es pos) (tLst (sA X es)) := by exact pe_lst pA) : EV X ρ ω (.List es pos) Ψ ε := fun σ P H as Q w en xk q => by
  refine sE_of hp (h σ P H as _ w en xk fun vs ds ω1 P1 H1 as1 w1 g1 a1 p => ?_)
  refine ⟨by rw [a1.length]; exact p.1, fun pp hpp => ?_⟩
  obtain ⟨w2, g2⟩ := w1.newO (o := .lst vs) (u := .lst ds) hpp ⟨(w1.fresh hpp).2, vs, upd_same, a1.mono (Same.refl _) (List.prefix_append _ _)⟩
  exact q _ _ _ _ _ _ w2 (g1.trans g2) (.own (by rw [← w1.len]; simp)) p.2
end
end NM
namespace NM
open PySem L2 PySem.Spec PyProof.Rows
abbrev Fin4 (X : Cx) (P H : Hp) (as : List Addr) (Ψ : PsiE) (Q : VK) : Prop := ∀ v d ω' P' H' as', Ws X.K ω' P' H' as' → Gr P H as P' H' as' → At X.K P' as' v d → Ψ d ω' → Q v H'
section
variable {X : Cx} {ρ : Rho} {ω : Om} {Ψ : PsiE} {ε : PsiX} {e a b c : Expr} {pos : Pos}
theorem od_of {f : Value → Value → Sem Value} {r : R2} {x y : Dt} (ho : OpR X f r) (h : ∀ vx vy P H as Q, Ws X.K ω P H as → At X.K P as vx x → At X.K P as vy y → Fin4 X P H as Ψ Q → r vx vy H Q) : OD X f x y ω Ψ ε :=
  fun σ vx vy P H as Q w ax ay _ q => sOp_of ho (h vx vy P H as Q w ax ay q)
theorem od_I0 {f : Value → Value → Sem Value} {g : Int → Int → V} {i j : Int} {d : Dt} (ho : OpR X f (rI0 g)) (hd : ∀ P as, At X.K P as (g i j) d) (h : Ψ d ω) : OD X f (.int i) (.int j) ω Ψ ε := od_of ho fun vx vy P H as Q w ax ay q => by
  cases ax; cases ay
  exact ⟨i, j, rfl, rfl, q _ _ ω P H as w .refl (hd P as) h⟩
theorem od_I {f : Value → Value → Sem Value} {C : Int → Int → Prop} {g : Int → Int → V} {i j : Int} {d : Dt} (ho : OpR X f (rI C g)) (hc : C i j) (hd : ∀ P as, At X.K P as (g i j) d) (h : Ψ d ω) : OD X f (.int i) (.int j) ω Ψ ε := od_of ho fun vx vy P H as Q w ax ay q => by
  cases ax; cases ay
  exact ⟨i, j, rfl, rfl, hc, q _ _ ω P H as w .refl (hd P as) h⟩
section
variable {i j : Int}
theorem od_add (h : Ψ (.int (i + j)) ω) : OD X (binaryOp .Add) (.int i) (.int j) ω Ψ ε := od_I0 op_add (fun _ _ => .int _) h
theorem od_sub (h : Ψ (.int (i - j)) ω) : OD X (binaryOp .Sub) (.int i) (.int j) ω Ψ ε := od_I0 op_sub (fun _ _ => .int _) h
theorem od_mul (hc : CMul i j) (h : Ψ (.int (i * j)) ω) : OD X (binaryOp .Mult) (.int i) (.int j) ω Ψ ε := od_I op_mul hc (fun _ _ => .int _) h
theorem od_mod (hc : 0 < j) (h : Ψ (.int (i % j)) ω) : OD X (binaryOp .Mod) (.int i) (.int j) ω Ψ ε := od_I op_mod hc (fun _ _ => .int _) h
theorem od_fdiv (hc : CDiv i j) (h : Ψ (.int (i / j)) ω) : OD X (binaryOp .FloorDiv) (.int i) (.int j) ω Ψ ε := od_I op_fdiv hc (fun _ _ => .int _) h
theorem od_pow (hc : CPow i j) (h : Ψ (.int (i ^ j.toNat)) ω) : OD X (binaryOp .Pow) (.int i) (.int j) ω Ψ ε := od_I op_pow hc (fun _ _ => .int _) h
theorem od_lt (h : Ψ (.bl (decide (i < j))) ω) : OD X (compareOp .Lt) (.int i) (.int j) ω Ψ ε := od_I0 op_lt (fun _ _ => .bl _) h
theorem od_le (h : Ψ (.bl (decide (i ≤ j))) ω) : OD X (compareOp .LtE) (.int i) (.int j) ω Ψ ε := od_I0 op_le (fun _ _ => .bl _) h
theorem od_gt (h : Ψ (.bl (decide (j < i))) ω) : OD X (compareOp .Gt) (.int i) (.int j) ω Ψ ε := od_I0 op_gt (fun _ _ => .bl _) h
theorem od_ge (h : Ψ (.bl (decide (j ≤ i))) ω) : OD X (compareOp .GtE) (.int i) (.int j) ω Ψ ε := od_I0 op_ge (fun _ _ => .bl _) h
end
theorem od_add_str {x y : Str} (hz : x.length + y.length ≤ sizeLine) (h : Ψ (.str (x ++ y)) ω) : OD X (binaryOp .Add) (.str x) (.str y) ω Ψ ε := od_of op_add_str fun vx vy P H as Q w ax ay q => by
  cases ax; cases ay
  exact ⟨x, y, rfl, rfl, hz, q _ _ ω P H as w .refl (.str _) h⟩
def isNon : Dt → Bool
  | .non => true
  | _ => false
theorem at_non {K : Fg} {P : Hp} {as : List Addr} {v : V} {d : Dt} (h : At K P as v d) : decide (v = .non) = isNon d := by
  cases h <;> first | rfl | simp [isNon]
theorem od_is {x : Dt} (h : Ψ (.bl (isNon x)) ω) : OD X (compareOp .Is) x .non ω Ψ ε := od_of op_isN fun vx vy P H as Q w ax ay q => by
  cases ay
  refine ⟨rfl, ?_⟩
  rw [at_non ax]
  exact q _ _ ω P H as w .refl (.bl _) h
theorem od_isnot {x : Dt} (h : Ψ (.bl (!isNon x)) ω) : OD X (compareOp .IsNot) x .non ω Ψ ε := od_of op_notN fun vx vy P H as Q w ax ay q => by
  cases ay
  refine ⟨rfl, ?_⟩
  rw [at_non ax]
  exact q _ _ ω P H as w .refl (.bl _) h
mutual
inductive Py (ω : Om) : Dt → PyData → Prop
  | non : Py ω .non .none
  | bl (b : Bool) : Py ω (.bl b) (.bool b)
  | int (i : Int) : Py ω (.int i) (.int i)
  | str (x : Str) : Py ω (.str x) (.str x)
  | tup {ds : List Dt} {ps : List PyData} (r : PyL ω ds ps) : Py ω (.tup ds) (.tuple ps)
  | lst {ds : List Dt} {ps : List PyData} (r : PyL ω ds ps) : Py ω (.lst ds) (.list ps)
  | own {n : Nat} {ds : List Dt} {ps : List PyData} (h : ω[n]? = some (.lst ds)) (r : PyL ω ds ps) : Py ω (.own n) (.list ps)
inductive PyL (ω : Om) : List Dt → List PyData → Prop
  | nil : PyL ω [] []
  | cons {d : Dt} {p : PyData} {ds : List Dt} {ps : List PyData} (h : Py ω d p) (r : PyL ω ds ps) : PyL ω (d :: ds) (p :: ps)
end
mutual
theorem Py.dp {K : Fg} {ω : Om} {P H : Hp} {as : List Addr} (w : Ws K ω P H as) : ∀ {v : V} {d : Dt} {p : PyData}, Py ω d p → At K P as v d → Dp K H v p
  | _, _, _, .non, h => by cases h; exact .non
  | _, _, _, .bl b, h => by cases h; exact .bl b
  | _, _, _, .int b, h => by cases h; exact .int b
  | _, _, _, .str b, h => by cases h; exact .str b
  | _, _, _, .tup r, h => by
    cases h with
    | tup h1 r1 => exact .tup (same_t w.sub h1) (PyL.dp w r r1)
  | _, _, _, .lst r, h => by
    cases h with
    | lst h1 r1 => exact .lst (same_l w.sub h1) (PyL.dp w r r1)
  | _, _, _, .own (n := n) e r, h => by
    cases h with
    | own h1 =>
      obtain ⟨_, vs, e1, r1⟩ := w.own n _ _ e h1
      exact .lst (.of e1) (PyL.dp w r r1)
theorem PyL.dp {K : Fg} {ω : Om} {P H : Hp} {as : List Addr} (w : Ws K ω P H as) : ∀ {vs : List V} {ds : List Dt} {ps : List PyData}, PyL ω ds ps → AtL K P as vs ds → DpAll K H vs ps
  | _, _, _, .nil, h => by cases h; exact .nil
  | _, _, _, .cons p r, h => by
    cases h with
    | cons h1 r1 => exact .cons (Py.dp w p h1) (PyL.dp w r r1)
end
theorem od_eq {x y : Dt} {p q : PyData} (hx : Py ω x p) (hy : Py ω y q) (sx : SeqAt.shaped p = true) (sy : SeqAt.shaped q = true) (hu : X.A.units + 64 < cLine) (h : Ψ (.bl (PyData.eqv p q)) ω) : OD X (compareOp .Eq) x y ω Ψ ε := od_of (op_eqD hu) fun vx vy P H as Q w ax ay k =>
  ⟨p, q, hx.dp w ax, hy.dp w ay, sx, sy, k _ _ ω P H as w .refl (.bl _) h⟩
theorem od_ne {x y : Dt} {p q : PyData} (hx : Py ω x p) (hy : Py ω y q) (sx : SeqAt.shaped p = true) (sy : SeqAt.shaped q = true) (hu : X.A.units + 64 < cLine) (h : Ψ (.bl (!PyData.eqv p q)) ω) : OD X (compareOp .NotEq) x y ω Ψ ε := od_of (op_neD hu) fun vx vy P H as Q w ax ay k =>
  ⟨p, q, hx.dp w ax, hy.dp w ay, sx, sy, k _ _ ω P H as w .refl (.bl _) h⟩
/-- scalars -/
theorem od_eq_int {i j : Int} (h : Ψ (.bl (decide (i = j))) ω) : OD X (compareOp .Eq) (.int i) (.int j) ω Ψ ε := od_of op_eq fun vx vy P H as Q w ax ay k => by
  cases ax; cases ay
  refine ⟨rfl, ?_⟩
  have e : decide (V.int i = V.int j) = decide (i = j) := by simp
  rw [e]; exact k _ _ ω P H as w .refl (.bl _) h
theorem od_ne_int {i j : Int} (h : Ψ (.bl (!decide (i = j))) ω) : OD X (compareOp .NotEq) (.int i) (.int j) ω Ψ ε := od_of op_ne fun vx vy P H as Q w ax ay k => by
  cases ax; cases ay
  refine ⟨rfl, ?_⟩
  have e : decide (V.int i = V.int j) = decide (i = j) := by simp
  rw [e]; exact k _ _ ω P H as w .refl (.bl _) h
theorem od_eq_str {i j : Str} (h : Ψ (.bl (decide (i = j))) ω) : OD X (compareOp .Eq) (.str i) (.str j) ω Ψ ε := od_of op_eq fun vx vy P H as Q w ax ay k => by
  cases ax; cases ay
  refine ⟨rfl, ?_⟩
  have e : decide (V.str i = V.str j) = decide (i = j) := by simp
  rw [e]; exact k _ _ ω P H as w .refl (.bl _) h
theorem od_ne_str {i j : Str} (h : Ψ (.bl (!decide (i = j))) ω) : OD X (compareOp .NotEq) (.str i) (.str j) ω Ψ ε := od_of op_ne fun vx vy P H as Q w ax ay k => by
  cases ax; cases ay
  refine ⟨rfl, ?_⟩
  have e : decide (V.str i = V.str j) = decide (i = j) := by simp
  rw [e]; exact k _ _ ω P H as w .refl (.bl _) h
theorem od_eq_bl {i j : Bool} (h : Ψ (.bl (decide (i = j))) ω) : OD X (compareOp .Eq) (.bl i) (.bl j) ω Ψ ε := od_of op_eq fun vx vy P H as Q w ax ay k => by
  cases ax; cases ay
  refine ⟨rfl, ?_⟩
  have e : decide (V.bl i = V.bl j) = decide (i = j) := by simp
  rw [e]; exact k _ _ ω P H as w .refl (.bl _) h
theorem od_ne_bl {i j : Bool} (h : Ψ (.bl (!decide (i = j))) ω) : OD X (compareOp .NotEq) (.bl i) (.bl j) ω Ψ ε := od_of op_ne fun vx vy P H as Q w ax ay k => by
  cases ax; cases ay
  refine ⟨rfl, ?_⟩
  have e : decide (V.bl i = V.bl j) = decide (i = j) := by simp
  rw [e]; exact k _ _ ω P H as w .refl (.bl _) h
def flatD : Dt → Bool
  | .non => true | .bl _ => true | .int _ => true | .str _ => true
  | _ => false
def eqF : Dt → Dt → Bool
  | .non, .non => true
  | .bl a, .bl b => a == b
  | .bl a, .int b => (if a then 1 else 0) == b
  | .int a, .bl b => a == (if b then 1 else 0)
  | .int a, .int b => a == b
  | .str a, .str b => a == b
  | _, _ => false
def inF (x : Dt) (ds : List Dt) : Bool := ds.any fun y => eqF y x
section
variable {K : Fg} {P H : Hp} {as : List Addr}
theorem at_flat {v : V} {d : Dt} (h : At K P as v d) (f : flatD d = true) : flatV v = true := by cases h <;> first | rfl | cases f
theorem at_flats : ∀ {vs : List V} {ds : List Dt}, AtL K P as vs ds → ds.all flatD = true → vs.all flatV = true
  | _, _, .nil, _ => rfl
  | _, _, .cons h r, f => by
    rw [List.all_cons, Bool.and_eq_true] at f
    rw [List.all_cons, at_flat h f.1, at_flats r f.2]; rfl
theorem at_eqF {v u : V} {d x : Dt} (h : At K P as v d) (g : At K P as u x) (f : flatD d = true) (f' : flatD x = true) : eqV v u = eqF d x := by
  cases h <;> first | (cases g <;> first | rfl | cases f') | cases f
theorem at_inF {u : V} {x : Dt} (g : At K P as u x) (f' : flatD x = true) : ∀ {vs : List V} {ds : List Dt}, AtL K P as vs ds → ds.all flatD = true → inV u vs = inF x ds
  | _, _, .nil, _ => rfl
  | _, _, .cons h r, f => by
    rw [List.all_cons, Bool.and_eq_true] at f
    unfold inV inF
    rw [List.any_cons, List.any_cons, at_eqF h g f.1 f']
    have q := at_inF g f' r f.2
    unfold inV inF at q
    rw [q]
end
theorem od_in_tup {x : Dt} {ds : List Dt} (hx : flatD x = true) (hd : ds.all flatD = true) (h : Ψ (.bl (inF x ds)) ω) : OD X (compareOp .In) x (.tup ds) ω Ψ ε := od_of op_in_seq fun vx vy P H as Q w ax ay k => by
  cases ay with
  | tup h1 r1 =>
    refine ⟨_, _, rfl, .inr (same_t w.sub h1), at_flat ax hx, at_flats r1 hd, ?_⟩
    rw [at_inF ax hx r1 hd]
    exact k _ _ ω P H as w .refl (.bl _) h
theorem od_in_lst {x : Dt} {ds : List Dt} (hx : flatD x = true) (hd : ds.all flatD = true) (h : Ψ (.bl (inF x ds)) ω) : OD X (compareOp .In) x (.lst ds) ω Ψ ε := od_of op_in_seq fun vx vy P H as Q w ax ay k => by
  cases ay with
  | lst h1 r1 =>
    refine ⟨_, _, rfl, .inl (same_l w.sub h1), at_flat ax hx, at_flats r1 hd, ?_⟩
    rw [at_inF ax hx r1 hd]
    exact k _ _ ω P H as w .refl (.bl _) h
theorem od_notin_tup {x : Dt} {ds : List Dt} (hx : flatD x = true) (hd : ds.all flatD = true) (h : Ψ (.bl (!inF x ds)) ω) : OD X (compareOp .NotIn) x (.tup ds) ω Ψ ε := od_of op_notIn_seq fun vx vy P H as Q w ax ay k => by
  cases ay with
  | tup h1 r1 =>
    refine ⟨_, _, rfl, .inr (same_t w.sub h1), at_flat ax hx, at_flats r1 hd, ?_⟩
    rw [at_inF ax hx r1 hd]
    exact k _ _ ω P H as w .refl (.bl _) h
theorem od_in_str {x y : Str} (h : Ψ (.bl (!(Builtin.Str.occurrences y x 0 y.length 1).isEmpty)) ω) : OD X (compareOp .In) (.str x) (.str y) ω Ψ ε := od_of op_in_str fun vx vy P H as Q w ax ay k => by
  cases ax; cases ay
  exact ⟨x, y, rfl, rfl, k _ _ ω P H as w .refl (.bl _) h⟩
theorem od_in_sign {c : Nat} {y : Str} (h : Ψ (.bl (decide (c ∈ y.cps.toList))) ω) : OD X (compareOp .In) (.str ⟨#[c]⟩) (.str y) ω Ψ ε := od_of op_in_sign fun vx vy P H as Q w ax ay k => by
  cases ax; cases ay
  exact ⟨c, y, rfl, rfl, k _ _ ω P H as w .refl (.bl _) h⟩
theorem od_add_tup {xs ys : List Dt} (hn : xs ≠ []) (hz : xs.length + ys.length ≤ sizeLine) (h : Ψ (.tup (xs ++ ys)) ω) : OD X (binaryOp .Add) (.tup xs) (.tup ys) ω Ψ ε := od_of op_catT fun vx vy P H as Q w ax ay k => by
  cases ax with
  | tup h1 r1 =>
    cases ay with
    | tup h2 r2 =>
      refine ⟨_, _, _, _, rfl, rfl, same_t w.sub h1, same_t w.sub h2, ?_, by rw [r1.length, r2.length]; exact hz, fun e => ?_, fun e p hp => ?_⟩
      · intro z; subst z; cases r1; exact hn rfl
      · subst e
        cases r2
        exact k _ _ ω P H as w .refl (by rw [List.append_nil]; exact .tup h1 r1) h
      · obtain ⟨w2, g2⟩ := w.newP (o := .tup _) hp
        exact k _ _ ω _ _ as w2 g2 (.tup (.of upd_same) ((r1.append r2).mono g2.p g2.a)) h
/-- the list at a value -/
theorem seqL {K : Fg} {ω : Om} {P H : Hp} {as : List Addr} (w : Ws K ω P H as) {v : V} {ds : List Dt} (h : At K P as v (.lst ds)) : ∃ a vs, v = .ref a ∧ SqL K H a vs ∧ AtL K P as vs ds := by
  cases h with
  | lst h r => exact ⟨_, _, rfl, same_l w.sub h, r⟩
theorem seqT {K : Fg} {ω : Om} {P H : Hp} {as : List Addr} (w : Ws K ω P H as) {v : V} {ds : List Dt} (h : At K P as v (.tup ds)) : ∃ a vs, v = .ref a ∧ SqT K H a vs ∧ AtL K P as vs ds := by
  cases h with
  | tup h r => exact ⟨_, _, rfl, same_t w.sub h, r⟩
theorem seqO {K : Fg} {ω : Om} {P H : Hp} {as : List Addr} (w : Ws K ω P H as) {v : V} {n : Nat} {ds : List Dt} (h : At K P as v (.own n)) (e : ω[n]? = some (.lst ds)) : ∃ a vs, v = .ref a ∧ as[n]? = some a ∧ P a = none ∧ H a = some (.lst vs) ∧ AtL K P as vs ds := by
  cases h with
  | own h1 =>
    obtain ⟨h2, vs, h3, h4⟩ := w.own n _ _ e h1
    exact ⟨_, _, rfl, h1, h2, h3, h4⟩
/-- what a value is as a list or tuple that is read -/
inductive Sq (ω : Om) : Dt → List Dt → Prop
  | tup (ds : List Dt) : Sq ω (.tup ds) ds
  | lst (ds : List Dt) : Sq ω (.lst ds) ds
  | own {n : Nat} {ds : List Dt} (h : ω[n]? = some (.lst ds)) : Sq ω (.own n) ds
inductive SqLst (ω : Om) : Dt → List Dt → Prop
  | lst (ds : List Dt) : SqLst ω (.lst ds) ds
  | own {n : Nat} {ds : List Dt} (h : ω[n]? = some (.lst ds)) : SqLst ω (.own n) ds
theorem SqLst.sq {ω : Om} {d : Dt} {ds : List Dt} (h : SqLst ω d ds) : Sq ω d ds := by cases h <;> constructor; assumption
theorem sqR {K : Fg} {ω : Om} {P H : Hp} {as : List Addr} (w : Ws K ω P H as) {v : V} {d : Dt} {ds : List Dt} (s : Sq ω d ds) (h : At K P as v d) : ∃ a vs, v = .ref a ∧ (SqL K H a vs ∨ SqT K H a vs) ∧ AtL K P as vs ds := by
  cases s with
  | tup => obtain ⟨a, vs, e, h1, r⟩ := seqT w h; exact ⟨a, vs, e, .inr h1, r⟩
  | lst => obtain ⟨a, vs, e, h1, r⟩ := seqL w h; exact ⟨a, vs, e, .inl h1, r⟩
  | own q => obtain ⟨a, vs, e, _, _, h1, r⟩ := seqO w h q; exact ⟨a, vs, e, .inl (.of h1), r⟩
theorem sqRL {K : Fg} {ω : Om} {P H : Hp} {as : List Addr} (w : Ws K ω P H as) {v : V} {d : Dt} {ds : List Dt} (s : SqLst ω d ds) (h : At K P as v d) : ∃ a vs, v = .ref a ∧ SqL K H a vs ∧ AtL K P as vs ds := by
  cases s with
  | lst => exact seqL w h
  | own q => obtain ⟨a, vs, e, _, _, h1, r⟩ := seqO w h q; exact ⟨a, vs, e, .of h1, r⟩
structure sC (X : Cx) (f : Value) (σ : L2.St) (xs : List V) (H : Hp) (Q : VK) : Prop where
  run : ∀ pins s us, Inv X pins σ H s → Vals xs us → wpAny (model X.prog X.w) X.A (call f us) (EP X pins σ Q) X.xe s
def CD (X : Cx) (f : Value) (ds : List Dt) (ω : Om) (Ψ : PsiE) (ε : PsiX) : Prop :=
  ∀ σ vs P H as Q, Ws X.K ω P H as → AtL X.K P as vs ds → Xk X ω P H as σ ε → Fin4 X P H as Ψ Q → sC X f σ vs H Q
theorem cd_of {f : Value} {r : List V → Hp → VK → Prop} {ds : List Dt} (ho : CallR X f r) (h : ∀ vs P H as Q, Ws X.K ω P H as → AtL X.K P as vs ds → Fin4 X P H as Ψ Q → r vs H Q) : CD X f ds ω Ψ ε :=
  fun σ vs P H as Q w ax _ q => ⟨fun pins s us I r => ho pins s σ H vs us Q I r (h vs P H as Q w ax q)⟩
theorem ev_callB {x : Str} {p : Pos} {id : String} {es : List Expr} (hm : X.mg x = none) (h : EA X ρ ω (e :: es) (fun ds ω1 => CD X (.builtin id) ds ω1 Ψ ε) ε) (hg : Gl X x := by rfl) (hv : bootBuiltins x = some (.builtin id) := by decide +kernel) (hn : x ≠ "__name__" := by decide) (hdb : (x == ("__debug__" : Str)) = false := by decide)
    (he : starEach (e :: es) X.env = (false, eval e X.env) :: starEach es X.env := by rfl) (hpl : (backTo pos (starEach es X.env)).any (·.1) = false := by rfl) : EV X ρ ω (.Call (.Name x p) (e :: es) [] pos) Ψ ε := fun σ P H as Q w en xk q => by
  have z : sA X (e :: es) σ H (fun vs H1 => sC X (.builtin id) σ vs H1 Q) := h σ P H as _ w en xk fun vs ds ω1 P1 H1 as1 w1 g1 a1 p => p σ vs P1 H1 as1 Q w1 a1 (xk.later g1) fun v d ω' P' H' as' w' g' a' k => q v d ω' P' H' as' w' (g1.trans g') a' k
  exact .mk fun pins s I => wpAny_Call_Name_kw (ld_blt I hg hm hv (PyProof.Rows.callWith_builtin1 (thn (z.run pos pins s I) fun us s1 ⟨vs, H1, I1, r1, q1⟩ => q1.run pins s1 us I1 r1) he hpl) hn hdb)
theorem ev_callTy {x : Str} {p : Pos} {T : String} {es : List Expr} (hm : X.mg x = none) (h : EA X ρ ω (e :: es) (fun ds ω1 => CD X (.type T) ds ω1 Ψ ε) ε) (hg : Gl X x := by rfl) (hv : bootBuiltins x = some (.type T) := by decide +kernel) (hn : x ≠ "__name__" := by decide) (hdb : (x == ("__debug__" : Str)) = false := by decide)
    (he : starEach (e :: es) X.env = (false, eval e X.env) :: starEach es X.env := by rfl) (hpl : (backTo pos (starEach es X.env)).any (·.1) = false := by rfl) : EV X ρ ω (.Call (.Name x p) (e :: es) [] pos) Ψ ε := fun σ P H as Q w en xk q => by
  have z : sA X (e :: es) σ H (fun vs H1 => sC X (.type T) σ vs H1 Q) := h σ P H as _ w en xk fun vs ds ω1 P1 H1 as1 w1 g1 a1 p => p σ vs P1 H1 as1 Q w1 a1 (xk.later g1) fun v d ω' P' H' as' w' g' a' k => q v d ω' P' H' as' w' (g1.trans g') a' k
  exact .mk fun pins s I => wpAny_Call_Name_kw (ld_blt I hg hm hv (PyProof.Rows.callWith_type1 (thn (z.run pos pins s I) fun us s1 ⟨vs, H1, I1, r1, q1⟩ => q1.run pins s1 us I1 r1) he hpl) hn hdb)
theorem one_of {K : Fg} {P : Hp} {as : List Addr} {vs : List V} {d : Dt} (h : AtL K P as vs [d]) : ∃ v, vs = [v] ∧ At K P as v d := by
  cases h with
  | cons h r => cases r; exact ⟨_, rfl, h⟩
theorem two_of {K : Fg} {P : Hp} {as : List Addr} {vs : List V} {d c : Dt} (h : AtL K P as vs [d, c]) : ∃ v u, vs = [v, u] ∧ At K P as v d ∧ At K P as u c := by
  cases h with
  | cons h r => obtain ⟨u, rfl, g⟩ := one_of r; exact ⟨_, _, rfl, h, g⟩
theorem cd_len {d : Dt} {ds : List Dt} (s : Sq ω d ds) (h : Ψ (.int ds.length) ω) : CD X (.builtin "len") [d] ω Ψ ε := cd_of call_len_seq fun vs P H as Q w al k => by
  obtain ⟨v, rfl, av⟩ := one_of al
  obtain ⟨a, us, rfl, hs, r⟩ := sqR w s av
  refine ⟨a, us, rfl, hs, ?_⟩
  rw [r.length]
  exact k _ _ ω P H as w .refl (.int _) h
theorem cd_len_str {x : Str} (hz : x.length ≤ sizeLine) (h : Ψ (.int x.length) ω) : CD X (.builtin "len") [.str x] ω Ψ ε := cd_of call_len_str fun vs P H as Q w al k => by
  obtain ⟨v, rfl, av⟩ := one_of al
  cases av
  exact ⟨x, rfl, hz, k _ _ ω P H as w .refl (.int _) h⟩
theorem cd_abs {i : Int} (h : Ψ (.int (if i < 0 then -i else i)) ω) : CD X (.builtin "abs") [.int i] ω Ψ ε := cd_of call_abs fun vs P H as Q w al k => by
  obtain ⟨v, rfl, av⟩ := one_of al
  cases av
  exact ⟨i, rfl, k _ _ ω P H as w .refl (.int _) h⟩
theorem cd_int {i : Int} (h : Ψ (.int i) ω) : CD X (.type "int") [.int i] ω Ψ ε := cd_of call_int1 fun vs P H as Q w al k => by
  obtain ⟨v, rfl, av⟩ := one_of al
  cases av
  exact .inl ⟨i, rfl, k _ _ ω P H as w .refl (.int _) h⟩
theorem cd_int_str {x : Str} {i : Int} (e : PySem.intText? x = some i) (hz : x.length ≤ 640) (h : Ψ (.int i) ω) : CD X (.type "int") [.str x] ω Ψ ε := cd_of call_int_str fun vs P H as Q w al k => by
  obtain ⟨v, rfl, av⟩ := one_of al
  cases av
  exact ⟨x, i, rfl, e, hz, k _ _ ω P H as w .refl (.int _) h⟩
theorem cd_min {i j : Int} (hc : X.calm = true) (h : Ψ (.int (if j < i then j else i)) ω) : CD X (.builtin "min") [.int i, .int j] ω Ψ ε := cd_of (call_min2 hc) fun vs P H as Q w al k => by
  obtain ⟨v, u, rfl, av, au⟩ := two_of al
  cases av; cases au
  exact ⟨i, j, rfl, k _ _ ω P H as w .refl (.int _) h⟩
theorem cd_max {i j : Int} (hc : X.calm = true) (h : Ψ (.int (if j > i then j else i)) ω) : CD X (.builtin "max") [.int i, .int j] ω Ψ ε := cd_of (call_max2 hc) fun vs P H as Q w al k => by
  obtain ⟨v, u, rfl, av, au⟩ := two_of al
  cases av; cases au
  exact ⟨i, j, rfl, k _ _ ω P H as w .refl (.int _) h⟩
theorem cd_str_int {i : Int} (hz : i.natAbs.log2 < 1920) (h : Ψ (.str (toString i)) ω) : CD X (.type "str") [.int i] ω Ψ ε := cd_of call_str_int fun vs P H as Q w al k => by
  obtain ⟨v, rfl, av⟩ := one_of al
  cases av
  exact ⟨i, rfl, hz, k _ _ ω P H as w .refl (.str _) h⟩
/-- list(xs): a new one, to be read alone, or to be changed -/
theorem cd_list {d : Dt} {ds : List Dt} (s : Sq ω d ds) (h : Ψ (.lst ds) ω) : CD X (.type "list") [d] ω Ψ ε := cd_of call_list_of fun vs P H as Q w al k => by
  obtain ⟨v, rfl, av⟩ := one_of al
  obtain ⟨a, us, rfl, hs, r⟩ := sqR w s av
  refine ⟨a, us, rfl, hs, fun l hl => ?_⟩
  obtain ⟨w2, g2⟩ := w.newP (o := .lst us) hl
  exact k _ _ ω _ _ as w2 g2 (.lst (.of upd_same) (r.mono g2.p g2.a)) h
theorem cd_listO {d : Dt} {ds : List Dt} (s : Sq ω d ds) (h : Ψ (.own ω.length) (ω ++ [.lst ds])) : CD X (.type "list") [d] ω Ψ ε := cd_of call_list_of fun vs P H as Q w al k => by
  obtain ⟨v, rfl, av⟩ := one_of al
  obtain ⟨a, us, rfl, hs, r⟩ := sqR w s av
  refine ⟨a, us, rfl, hs, fun l hl => ?_⟩
  obtain ⟨w2, g2⟩ := w.newO (o := .lst us) (u := .lst ds) hl ⟨(w.fresh hl).2, us, upd_same, r.mono (Same.refl _) (List.prefix_append _ _)⟩
  exact k _ _ _ _ _ _ w2 g2 (.own (by rw [← w.len]; simp)) h
theorem cd_tuple {d : Dt} {ds : List Dt} (s : Sq ω d ds) (h : Ψ (.tup ds) ω) : CD X (.type "tuple") [d] ω Ψ ε := cd_of call_tuple_of fun vs P H as Q w al k => by
  obtain ⟨v, rfl, av⟩ := one_of al
  cases s with
  | tup =>
    cases av with
    | tup h1 r1 => exact ⟨_, _, rfl, .inr ⟨same_t w.sub h1, k _ _ ω P H as w .refl (.tup h1 r1) h⟩⟩
  | lst =>
    obtain ⟨a, us, rfl, hs, r⟩ := seqL w av
    refine ⟨a, us, rfl, .inl ⟨hs, fun l hl => ?_⟩⟩
    obtain ⟨w2, g2⟩ := w.newP (o := .tup us) hl
    exact k _ _ ω _ _ as w2 g2 (.tup (.of upd_same) (r.mono g2.p g2.a)) h
  | own q =>
    obtain ⟨a, us, rfl, _, _, hs, r⟩ := seqO w av q
    refine ⟨a, us, rfl, .inl ⟨.of hs, fun l hl => ?_⟩⟩
    obtain ⟨w2, g2⟩ := w.newP (o := .tup us) hl
    exact k _ _ ω _ _ as w2 g2 (.tup (.of upd_same) (r.mono g2.p g2.a)) h
theorem bools_at {K : Fg} {P : Hp} {as : List Addr} : ∀ {bs : List Bool} {vs : List V}, AtL K P as vs (bs.map Dt.bl) → vs = bs.map V.bl
  | [], _, h => by cases h; rfl
  | b :: bs, _, h => by
    cases h with
    | cons h r => cases h; rw [bools_at r]; rfl
theorem cd_all {d : Dt} {bs : List Bool} (s : SqLst ω d (bs.map Dt.bl)) (h : Ψ (.bl (bs.all id)) ω) (ho : CallR X (.builtin "all") (rAll X.K)) : CD X (.builtin "all") [d] ω Ψ ε := cd_of ho fun vs P H as Q w al k => by
  obtain ⟨v, rfl, av⟩ := one_of al
  obtain ⟨a, us, rfl, hs, r⟩ := sqRL w s av
  rw [bools_at r] at hs
  exact ⟨a, bs, rfl, hs, k _ _ ω P H as w .refl (.bl _) h⟩
theorem cd_any {d : Dt} {bs : List Bool} (s : SqLst ω d (bs.map Dt.bl)) (h : Ψ (.bl (bs.any id)) ω) (ho : CallR X (.builtin "any") (rAny X.K)) : CD X (.builtin "any") [d] ω Ψ ε := cd_of ho fun vs P H as Q w al k => by
  obtain ⟨v, rfl, av⟩ := one_of al
  obtain ⟨a, us, rfl, hs, r⟩ := sqRL w s av
  rw [bools_at r] at hs
  exact ⟨a, bs, rfl, hs, k _ _ ω P H as w .refl (.bl _) h⟩
end
end NM
namespace NM
open PySem L2 PySem.Spec PyProof.Rows
/-- what a body's context has -/
structure Cok (X : Cx) : Prop where
  calm : X.calm = true
  pass : PassesOwn (model X.prog X.w) X.A X.env X.xe
  nd : X.N.Nodup
  units : X.A.units + 64 < cLine
section
variable {X : Cx} {ρ : Rho} {ω : Om} {Ψ : PsiE} {ε : PsiX} {Φ : Post} {e a b c : Expr} {pos : Pos}
structure sIx (X : Cx) (σ : L2.St) (x y : V) (H : Hp) (Q : VK) : Prop where
  run : ∀ (value slice : Expr) pins s v u, Inv X pins σ H s → RelV x v → RelV y u → subscripted slice false v u = operate [v, u] (getItem v u) → wpAny (model X.prog X.w) X.A (subscriptTail value slice v u) (EP X pins σ Q) X.xe s
def ID (X : Cx) (x y : Dt) (ω : Om) (Ψ : PsiE) (ε : PsiX) : Prop :=
  ∀ σ vx vy P H as Q, Ws X.K ω P H as → At X.K P as vx x → At X.K P as vy y → Xk X ω P H as σ ε → Fin4 X P H as Ψ Q → sIx X σ vx vy H Q
theorem id_of {r : R2} {x y : Dt} (ho : IxR X r) (h : ∀ vx vy P H as Q, Ws X.K ω P H as → At X.K P as vx x → At X.K P as vy y → Fin4 X P H as Ψ Q → r vx vy H Q) : ID X x y ω Ψ ε :=
  fun σ vx vy P H as Q w ax ay _ q => ⟨fun value slice pins s v u I rx ry hs => ho value slice pins s σ H vx vy v u Q I rx ry (h vx vy P H as Q w ax ay q) hs⟩
theorem ev_ix (h : EV X ρ ω a (fun x ω1 => EV X ρ ω1 b (fun y ω2 => ID X x y ω2 Ψ ε) ε) ε) (hs : PlainIx b := by intro _ _; rfl) : EV X ρ ω (.Subscript a b pos) Ψ ε := fun σ P H as Q w en xk q => by
  have z : sE X a σ H fun x H1 => sE X b σ H1 fun y H2 => sIx X σ x y H2 Q :=
    two_then (f := fun x y σ H2 => sIx X σ x y H2 Q) h w en xk fun vx vy x y ω' P' H' as' w' g' ax ay xk' o =>
      o σ vx vy P' H' as' Q w' ax ay xk' fun v d ω2 P2 H2 as2 w2 g2 a2 p => q v d ω2 P2 H2 as2 w2 (g'.trans g2) a2 p
  exact .mk fun pins s I => Subscript_ (binT pE pE I z fun v u s2 x y H2 I2 rx ry q => q.run a b pins s2 v u I2 rx ry (hs _ _))
theorem atI_at {K : Fg} {P : Hp} {as : List Addr} {vs : List V} {ds : List Dt} {i : Int} {d : Dt} (r : AtL K P as vs ds) (h : atI ds i = some d) : ∃ v, atI vs i = some v ∧ At K P as v d := by
  unfold atI at h ⊢
  rw [r.length]
  cases e : ixN ds.length i with
  | none => rw [e] at h; cases h
  | some j =>
    rw [e] at h
    exact r.get h
theorem id_seq {x : Dt} {ds : List Dt} {i : Int} {d : Dt} (s : Sq ω x ds) (hd : atI ds i = some d) (h : Ψ d ω) : ID X x (.int i) ω Ψ ε := id_of ix_seq fun vx vy P H as Q w ax ay k => by
  cases ay
  obtain ⟨a, vs, rfl, hs, r⟩ := sqR w s ax
  obtain ⟨v, hv, av⟩ := atI_at r hd
  rcases hs with hs | hs
  · exact .inl ⟨a, vs, i, v, rfl, rfl, hs, hv, k _ _ ω P H as w .refl av h⟩
  · exact .inr (.inl ⟨a, vs, i, v, rfl, rfl, hs, hv, k _ _ ω P H as w .refl av h⟩)
theorem id_str {x : Str} {i : Int} {c : Nat} (hz : x.length ≤ sizeLine) (hc : atI x.cps.toList i = some c) (h : Ψ (.str ⟨#[c]⟩) ω) : ID X (.str x) (.int i) ω Ψ ε := id_of ix_seq fun vx vy P H as Q w ax ay k => by
  cases ay; cases ax
  exact .inr (.inr ⟨x, i, c, rfl, rfl, hz, hc, k _ _ ω P H as w .refl (.str _) h⟩)
def EO (X : Cx) (ρ : Rho) (ω : Om) (e : Option Expr) (Ψ : Option Int → Om → Prop) (ε : PsiX) : Prop := match e with
  | none => Ψ none ω
  | some e => EV X ρ ω e (fun d ω1 => ∃ i, d = .int i ∧ Ψ (some i) ω1) ε
def sO (X : Cx) : Option Expr → TO
  | none => tNoPart
  | some e => tPart (sE X e)
theorem pO {e : Option Expr} : PO X e (sO X e) := by
  cases e with
  | none => exact po_none
  | some e => exact po_some pE
def SD (X : Cx) (x : Dt) (lo hi : Option Int) (ω : Om) (Ψ : PsiE) (ε : PsiX) : Prop :=
  ∃ r, SlR X r ∧ ∀ vx P H as Q, Ws X.K ω P H as → At X.K P as vx x → Fin4 X P H as Ψ Q → r vx lo hi H Q
def rSl3 (X : Cx) : V → Option Int → Option Int → Hp → VK → Prop := fun x lo hi H Q => ∀ (pins : List (Addr × Obj)) (s : Shared) (σ : L2.St) (v vl vu : Value) (sl : Addr), Inv X pins σ H s → RelV x v → s.heap.IsSliceOf sl vl vu .none → IsPart vl lo → IsPart vu hi →
    ∃ T id, typeLookup (.type T) "__getitem__" = pure (some (.builtin id)) ∧ s.TypeIs v T ∧ wpAny (model X.prog X.w) X.A (getItem v (.ref sl)) (EP X pins σ Q) X.xe s
theorem slr3 : SlR X (rSl3 X) := fun pins s σ H x v vl vu lo hi sl Q I rx hs pl pu h => h pins s σ v vl vu sl I rx hs pl pu
theorem eo_run {eo : Option Expr} {Ψo : Option Int → Om → Prop} (h : EO X ρ ω eo Ψo ε) {σ : L2.St} {P H : Hp} {as : List Addr} {Q : Option Int → Hp → Prop} (w : Ws X.K ω P H as) (en : Env X.K P as σ ρ) (xk : Xk X ω P H as σ ε)
    (q : ∀ o ω' P' H' as', Ws X.K ω' P' H' as' → Gr P H as P' H' as' → Ψo o ω' → Q o H') : sO X eo σ H Q := by
  cases eo with
  | none => exact q none ω P H as w .refl h
  | some e =>
    refine (show EV X ρ ω e (fun d ω1 => ∃ i, d = .int i ∧ Ψo (some i) ω1) ε from h) σ P H as _ w en xk fun v d ω1 P1 H1 as1 w1 g1 a1 p => ?_
    obtain ⟨i, rfl, p⟩ := p
    cases a1
    exact ⟨i, rfl, q (some i) ω1 P1 H1 as1 w1 g1 p⟩
theorem ev_slice {lo hi : Option Expr} {p2 : Pos} (h : EV X ρ ω a (fun x ω1 => EO X ρ ω1 lo (fun l ω2 => EO X ρ ω2 hi (fun u ω3 => SD X x l u ω3 Ψ ε) ε) ε) ε) : EV X ρ ω (.Subscript a (.Slice lo hi none p2) pos) Ψ ε := fun σ P H as Q w en xk q => by
  refine sE_of (pe_slice slr3 pE pO pO) (h σ P H as _ w en xk fun v d ω1 P1 H1 as1 w1 g1 a1 p => ?_)
  refine eo_run p w1 (en.mono g1.p g1.a) (xk.later g1) fun l ω2 P2 H2 as2 w2 g2 p2 => ?_
  have g12 := g1.trans g2
  refine eo_run p2 w2 (en.mono g12.p g12.a) (xk.later g12) fun u ω3 P3 H3 as3 w3 g3 p3 => ?_
  obtain ⟨r, hr, p3⟩ := p3
  have g23 := g2.trans g3
  intro pins s σ' v' vl vu sl I rx hs pl pu
  exact hr pins s σ' H3 v v' vl vu l u sl Q I rx hs pl pu (p3 v P3 H3 as3 Q w3 (a1.mono g23.p g23.a) fun v4 d4 ω4 P4 H4 as4 w4 g4 a4 p4 => q v4 d4 ω4 P4 H4 as4 w4 ((g12.trans g3).trans g4) a4 p4)
def cutD (xs : List Dt) (lo hi : Option Int) : List Dt := (xs.drop (HT.sIx xs.length 0 lo)).take (HT.sIx xs.length xs.length hi - HT.sIx xs.length 0 lo)
theorem cut_at {K : Fg} {P : Hp} {as : List Addr} {vs : List V} {ds : List Dt} (r : AtL K P as vs ds) (lo hi : Option Int) : AtL K P as (cutV vs lo hi) (cutD ds lo hi) := by
  unfold cutV cutD
  rw [r.length]
  exact (r.drop _).take _
theorem sd_lst {x : Dt} {ds : List Dt} {lo hi : Option Int} (s : SqLst ω x ds) (h : Ψ (.lst (cutD ds lo hi)) ω) : SD X x lo hi ω Ψ ε := ⟨_, sl_list, fun vx P H as Q w ax k => by
  obtain ⟨a, vs, rfl, hs, r⟩ := sqRL w s ax
  refine ⟨a, vs, rfl, hs, fun p hp => ?_⟩
  obtain ⟨w2, g2⟩ := w.newP (o := .lst (cutV vs lo hi)) hp
  exact k _ _ ω _ _ as w2 g2 (.lst (.of upd_same) ((cut_at r lo hi).mono g2.p g2.a)) h⟩
theorem sd_tup {ds : List Dt} {lo hi : Option Int} (hw : ¬ (HT.sIx ds.length 0 lo = 0 ∧ HT.sIx ds.length ds.length hi = ds.length)) (h : Ψ (.tup (cutD ds lo hi)) ω) : SD X (.tup ds) lo hi ω Ψ ε := ⟨_, sl_tup, fun vx P H as Q w ax k => by
  obtain ⟨a, vs, rfl, hs, r⟩ := seqT w ax
  refine ⟨a, vs, rfl, hs, by rw [r.length]; exact hw, fun p hp => ?_⟩
  obtain ⟨w2, g2⟩ := w.newP (o := .tup (cutV vs lo hi)) hp
  exact k _ _ ω _ _ as w2 g2 (.tup (.of upd_same) ((cut_at r lo hi).mono g2.p g2.a)) h⟩
/-- what a class must have for its instances' attributes -/
structure Cl (K : Fg) (C : Addr) (fs : List Str) : Prop where
  cl : Cls K C
  no : ∀ f ∈ fs, NoAttr K C f
def lookD : List Str → List Dt → Str → Option Dt
  | n :: ns, d :: ds, f => if n = f then some d else lookD ns ds f
  | _, _, _ => none
theorem look_at {K : Fg} {P : Hp} {as : List Addr} {f : Str} {d : Dt} : ∀ {fs : List (Str × V)} {ns : List Str} {ds : List Dt}, fs.map (·.1) = ns → AtL K P as (fs.map (·.2)) ds → lookD ns ds f = some d → ∃ v, fs.lookup f = some v ∧ At K P as v d
  | [], _, _, e, r, h => by subst e; cases r; cases h
  | (n, v) :: fs, _, _, e, r, h => by
    subst e
    cases r with
    | cons h1 r1 =>
      by_cases q : n = f
      · subst q
        have h2 : lookD (n :: fs.map (·.1)) _ n = some d := h
        unfold lookD at h2
        rw [if_pos rfl] at h2
        cases h2
        refine ⟨v, ?_, h1⟩
        rw [List.lookup_cons]; simp
      · have h2 : lookD (n :: fs.map (·.1)) _ f = some d := h
        unfold lookD at h2
        rw [if_neg q] at h2
        obtain ⟨u, l, au⟩ := look_at rfl r1 h2
        refine ⟨u, ?_, au⟩
        rw [List.lookup_cons]
        have : (f == n) = false := by simp [Ne.symm q]
        rw [this]; exact l
/-- an object's class and attributes -/
inductive Ob (ω : Om) : Dt → Addr → List Str → List Dt → Prop
  | obj (C : Addr) (ns : List Str) (ds : List Dt) : Ob ω (.obj C ns ds) C ns ds
  | own {n : Nat} {C : Addr} {ns : List Str} {ds : List Dt} (h : ω[n]? = some (.ins C ns ds)) : Ob ω (.own n) C ns ds
theorem ob_at {K : Fg} {ω : Om} {P H : Hp} {as : List Addr} (w : Ws K ω P H as) {v : V} {d : Dt} {C : Addr} {ns : List Str} {ds : List Dt} (o : Ob ω d C ns ds) (h : At K P as v d) : ∃ a dx fs, v = .ref a ∧ H a = some (.ins C dx fs) ∧ fs.map (·.1) = ns ∧ AtL K P as (fs.map (·.2)) ds := by
  cases o with
  | obj =>
    cases h with
    | obj h1 e r => exact ⟨_, _, _, rfl, w.sub _ _ h1, e, r⟩
  | own q =>
    cases h with
    | own h1 =>
      obtain ⟨_, dx, fs, h2, e, r⟩ := w.own _ _ _ q h1
      exact ⟨_, _, _, rfl, h2, e, r⟩
theorem ev_attr {f : Str} (h : EV X ρ ω e (fun d ω1 => ∃ C ns ds v, Ob ω1 d C ns ds ∧ Cls X.K C ∧ NoAttr X.K C f ∧ lookD ns ds f = some v ∧ Ψ v ω1) ε) (hb : attributeBase e f X.env (eval e X.env) = eval e X.env := by rfl) : EV X ρ ω (.Attribute e f pos) Ψ ε := fun σ P H as Q w en xk q => by
  refine sE_of (pe_fld pE hb) (h σ P H as _ w en xk fun v d ω1 P1 H1 as1 w1 g1 a1 p => ?_)
  obtain ⟨C, ns, ds, y, o, cl, no, l, p⟩ := p
  obtain ⟨a, dx, fs, rfl, h1, e1, r1⟩ := ob_at w1 o a1
  obtain ⟨u, hu, au⟩ := look_at e1 r1 l
  exact ⟨a, C, dx, fs, u, rfl, h1, cl, no, hu, q u y ω1 P1 H1 as1 w1 g1 au p⟩
def sM (X : Cx) (id : String) (σ : L2.St) : V → List V → Hp → VK → Prop := fun x xs H Q => ∀ pins s v us, Inv X pins σ H s → RelV x v → Vals xs us → wpAny (model X.prog X.w) X.A (call (.builtin id) (v :: us)) (EP X pins σ Q) X.xe s
def MD (X : Cx) (id : String) (x : Dt) (ds : List Dt) (ω : Om) (Ψ : PsiE) : Prop :=
  ∃ r, MtR X id r ∧ ∀ vx vs P H as Q, Ws X.K ω P H as → At X.K P as vx x → AtL X.K P as vs ds → Fin4 X P H as Ψ Q → r vx vs H Q
def tyD (ω : Om) (T : String) : Dt → Prop
  | .str _ => T = "str"
  | .int _ => T = "int"
  | .lst _ => T = "list"
  | .own n => (T = "list" ∧ ∃ ds, ω[n]? = some (.lst ds)) ∨ (T = "dict" ∧ ∃ kvs, ω[n]? = some (.dct kvs))
  | _ => False
theorem ty_at {K : Fg} {ω : Om} {P H : Hp} {as : List Addr} (w : Ws K ω P H as) {v : V} {d : Dt} {T : String} (t : tyD ω T d) (h : At K P as v d) : tyV K T v H := by
  cases h with
  | str => exact t
  | int => exact t
  | lst h1 r => exact .inl ⟨t, _, same_l w.sub h1⟩
  | own h1 =>
    rcases t with ⟨t, ds, e⟩ | ⟨t, kvs, e⟩
    · obtain ⟨_, vs, h2, _⟩ := w.own _ _ _ e h1
      exact .inl ⟨t, vs, .of h2⟩
    · obtain ⟨_, vs, h2, _⟩ := w.own _ _ _ e h1
      exact .inr (.inr (.inl ⟨t, .inl ⟨vs, h2⟩⟩))
  | _ => exact t.elim
theorem ev_bm {o : Expr} {es : List Expr} {name : Str} {apos cpos : Pos} {T id : String} (pa : PlainAttrs T) (slot : Slot T name id) (hty : typeOf (.builtin id) = pure (.type "method_descriptor"))
    (h : EV X ρ ω o (fun x ω1 => tyD ω1 T x ∧ EA X ρ ω1 (e :: es) (fun ds ω2 => MD X id x ds ω2 Ψ) ε) ε)
    (hbase : attributeBase o name X.env (eval o X.env) = eval o X.env := by rfl)
    (hfew : ((backTo cpos (starEach (e :: es) X.env)).all (fun x => !x.1) && (backToKw cpos (keywordEach [] X.env)).all (fun x => x.1.isSome)
      && decide ((e :: es).length + ([] : List Keyword).length + (if ([] : List Keyword).isEmpty then 0 else 1) < 30)) = true := by rfl)
    (hline : (apos.endLine == cpos.line) = true := by rfl) (hs : starEach (e :: es) X.env = (false, eval e X.env) :: starEach es X.env := by rfl) (hplain : (backTo cpos (starEach es X.env)).any (·.1) = false := by rfl) :
    EV X ρ ω (.Call (.Attribute o name apos) (e :: es) [] cpos) Ψ ε := fun σ P H as Q w en xk q => by
  have mt : MtR X id (fun x xs H Q => ∃ r, MtR X id r ∧ r x xs H Q) := fun pins s σ H x xs v us Q I rx rs ⟨r, hr, h⟩ => hr pins s σ H x xs v us Q I rx rs h
  refine sE_of (pe_bm pa slot hty mt pE pA hbase hfew hline hs hplain) (h σ P H as _ w en xk fun v d ω1 P1 H1 as1 w1 g1 a1 p => ⟨ty_at w1 p.1 a1, ?_⟩)
  refine p.2 σ P1 H1 as1 _ w1 (en.mono g1.p g1.a) (xk.later g1) fun vs ds ω2 P2 H2 as2 w2 g2 a2 p2 => ?_
  obtain ⟨r, hr, p2⟩ := p2
  exact ⟨r, hr, p2 v vs P2 H2 as2 Q w2 (a1.mono g2.p g2.a) a2 fun v3 d3 ω3 P3 H3 as3 w3 g3 a3 p3 => q v3 d3 ω3 P3 H3 as3 w3 ((g1.trans g2).trans g3) a3 p3⟩
theorem ev_bm0 {o : Expr} {name : Str} {apos cpos : Pos} {T id : String} (pa : PlainAttrs T) (slot : Slot T name id) (hty : typeOf (.builtin id) = pure (.type "method_descriptor"))
    (h : EV X ρ ω o (fun x ω1 => tyD ω1 T x ∧ MD X id x [] ω1 Ψ) ε)
    (hbase : attributeBase o name X.env (eval o X.env) = eval o X.env := by rfl) (hline : (apos.endLine == cpos.line) = true := by rfl) : EV X ρ ω (.Call (.Attribute o name apos) [] [] cpos) Ψ ε := fun σ P H as Q w en xk q => by
  have mt : MtR X id (fun x xs H Q => ∃ r, MtR X id r ∧ r x xs H Q) := fun pins s σ H x xs v us Q I rx rs ⟨r, hr, h⟩ => hr pins s σ H x xs v us Q I rx rs h
  refine sE_of (pe_bm0 pa slot hty mt pE hbase hline) (h σ P H as _ w en xk fun v d ω1 P1 H1 as1 w1 g1 a1 p => ⟨ty_at w1 p.1 a1, ?_⟩)
  obtain ⟨r, hr, p2⟩ := p.2
  exact ⟨r, hr, p2 v [] P1 H1 as1 Q w1 a1 .nil fun v3 d3 ω3 P3 H3 as3 w3 g3 a3 p3 => q v3 d3 ω3 P3 H3 as3 w3 (g1.trans g3) a3 p3⟩
theorem md_append {n : Nat} {ds : List Dt} {d : Dt} (hn : ω[n]? = some (.lst ds)) (hz : ds.length < sizeLine) (h : Ψ .non (ω.set n (.lst (ds ++ [d])))) : MD X "list.append" (.own n) [d] ω Ψ := ⟨_, mt_append, fun vx vs P H as Q w ax al k => by
  obtain ⟨a, us, rfl, ha, hp, hh, r⟩ := seqO w ax hn
  obtain ⟨v, rfl, av⟩ := one_of al
  refine ⟨a, us, v, rfl, rfl, hh, by rw [r.length]; exact hz, ?_⟩
  obtain ⟨w2, g2⟩ := w.turn (ho := .lst (us ++ [v])) (u := .lst (ds ++ [d])) hn ha hp ⟨hp, _, upd_same, r.snoc av⟩
  exact k _ _ _ _ _ _ w2 g2 .non h⟩
theorem md_clear {n : Nat} {ds : List Dt} (hn : ω[n]? = some (.lst ds)) (h : Ψ .non (ω.set n (.lst []))) : MD X "list.clear" (.own n) [] ω Ψ := ⟨_, mt_clear, fun vx vs P H as Q w ax al k => by
  obtain ⟨a, us, rfl, ha, hp, hh, r⟩ := seqO w ax hn
  cases al
  refine ⟨a, us, rfl, rfl, hh, ?_⟩
  obtain ⟨w2, g2⟩ := w.turn (ho := .lst []) (u := .lst []) hn ha hp ⟨hp, _, upd_same, .nil⟩
  exact k _ _ _ _ _ _ w2 g2 .non h⟩
theorem ess_nil (h : Φ.nx ρ ω) : ESs X ρ ω [] Φ := fun σ P H as D w en x => sSs_of pss_nil (x.nx σ ρ ω P H as w .refl en h)
theorem ess_cons {st : Stmt} {rest : List Stmt} (h : ES X ρ ω st { Φ with nx := fun ρ1 ω1 => ESs X ρ1 ω1 rest Φ }) : ESs X ρ ω (st :: rest) Φ := fun σ P H as D w en x => by
  refine sSs_of (pss_cons pS pSs) (h σ P H as _ w en ⟨fun σ' ρ' ω' P' H' as' w' g' en' k => ?_, x.rt, x.bk, x.ct, x.xc⟩)
  exact k σ' P' H' as' D w' en' (x.later g')
theorem es_ret (h : EV X ρ ω e Φ.rt (fun y ω' => Φ.xc y ρ ω')) : ES X ρ ω (.Return (some e) pos) Φ := fun σ P H as D w en x =>
  sS_of (ps_ret pE) (h σ P H as _ w en (x.xk en) fun v d ω1 P1 H1 as1 w1 g1 a1 p => x.rt v d ω1 P1 H1 as1 w1 g1 a1 p)
theorem es_retN (h : Φ.rt .non ω) : ES X ρ ω (.Return none pos) Φ := fun σ P H as D w en x => sS_of ps_retN (x.rt .non .non ω P H as w .refl .non h)
theorem es_if {p q : List Stmt} (h : ET X ρ ω c (fun k ω1 => if k = true then ESs X ρ ω1 p Φ else ESs X ρ ω1 q Φ) (fun y ω' => Φ.xc y ρ ω')) : ES X ρ ω (.If c p q pos) Φ := fun σ P H as D w en x => by
  refine sS_of (ps_if pT pSs pSs) (h σ P H as _ w en (x.xk en) fun k ω1 P1 H1 as1 w1 g1 pp => ?_)
  cases k with
  | true =>
    have pp' : ESs X ρ ω1 p Φ := by simpa using pp
    exact iteT (pp' σ P1 H1 as1 D w1 (en.mono g1.p g1.a) (x.later g1))
  | false =>
    have pp' : ESs X ρ ω1 q Φ := by simpa using pp
    exact iteF (pp' σ P1 H1 as1 D w1 (en.mono g1.p g1.a) (x.later g1))
theorem es_expr (h : EV X ρ ω e (fun _ ω1 => Φ.nx ρ ω1) (fun y ω' => Φ.xc y ρ ω')) (hs : swapsWith e none pos.line X.env = pure false := by rfl) : ES X ρ ω (.Expr e pos) Φ := fun σ P H as D w en x =>
  sS_of (ps_expr pE hs) (h σ P H as _ w en (x.xk en) fun v d ω1 P1 H1 as1 w1 g1 a1 p => x.nx σ ρ ω1 P1 H1 as1 w1 g1 (en.mono g1.p g1.a) p)
theorem es_pass (h : Φ.nx ρ ω) : ES X ρ ω (.Pass pos) Φ := fun σ P H as D w en x => sS_of ps_pass (x.nx σ ρ ω P H as w .refl en h)
theorem es_cont (h : Φ.ct ρ ω) : ES X ρ ω (.Continue pos) Φ := fun σ P H as D w en x => sS_of ps_continue (x.ct σ ρ ω P H as w .refl en h)
theorem es_brk (h : Φ.bk ρ ω) : ES X ρ ω (.Break pos) Φ := fun σ P H as D w en x => sS_of ps_break (x.bk σ ρ ω P H as w .refl en h)
structure sG (X : Cx) (tg : Expr) (v : V) (σ : L2.St) (H : Hp) (R : L2.St → Hp → Prop) : Prop where
  run : ∀ pins s u, Inv X pins σ H s → RelV v u → wpAny (model X.prog X.w) X.A (assign tg X.env u) (fun _ s' => ∃ σ' H', Inv X pins σ' H' s' ∧ R σ' H') X.xe s
theorem pG {tg : Expr} : PG X tg (sG X tg) := ⟨fun pins s σ H v u Q I r h => h.run pins s u I r⟩
theorem sG_of {tg : Expr} {g : TG} (h : PG X tg g) {v : V} {σ : L2.St} {H : Hp} {R : L2.St → Hp → Prop} (q : g v σ H R) : sG X tg v σ H R := ⟨fun pins s u I r => h.run pins s σ H v u R I r q⟩
def EG (X : Cx) (tg : Expr) (d : Dt) (ρ : Rho) (ω : Om) (Θ : Rho → Om → Prop) (ε : PsiX) : Prop :=
  ∀ σ P H as v R, Ws X.K ω P H as → Env X.K P as σ ρ → At X.K P as v d → Xk X ω P H as σ ε → (∀ σ' ρ' ω' P' H' as', Ws X.K ω' P' H' as' → Gr P H as P' H' as' → Env X.K P' as' σ' ρ' → Θ ρ' ω' → R σ' H') → sG X tg v σ H R
theorem eg_name (i : Nat) {x : Str} {d : Dt} {Θ : Rho → Om → Prop} (hN : X.N.Nodup) (h : Θ (ρ.set i (some d)) ω) (hi : X.N[i]? = some x := by rfl) (hx : Loc X.env.scope x := by first | exact Or.inl rfl | exact Or.inr rfl)
    (hf : X.fn x = true ∨ X.env.scope.names.lookup x = some .local := by first | exact .inl rfl | exact .inr rfl | assumption) : EG X (.Name x pos) d ρ ω Θ ε := fun σ P H as v R w en av _ q =>
  sG_of (pg_name hN hi hx hf) (q _ _ ω P H as w .refl (en.set i av) h)
structure sGs (X : Cx) (ts : List Expr) (vs : List V) (σ : L2.St) (H : Hp) (R : L2.St → Hp → Prop) : Prop where
  run : ∀ pins s us, Inv X pins σ H s → Vals vs us → wpAny (model X.prog X.w) X.A (assignInOrder ((assignEach ts X.env).map (·.2)) us) (fun _ s' => ∃ σ' H', Inv X pins σ' H' s' ∧ R σ' H') X.xe s
theorem pGs {ts : List Expr} : PGs X ts (sGs X ts) := ⟨fun pins s σ H vs us Q I r h => h.run pins s us I r⟩
theorem sGs_of {ts : List Expr} {g : TGs} (h : PGs X ts g) {vs : List V} {σ : L2.St} {H : Hp} {R : L2.St → Hp → Prop} (q : g vs σ H R) : sGs X ts vs σ H R := ⟨fun pins s us I r => h.run pins s σ H vs us R I r q⟩
def EGs (X : Cx) (ts : List Expr) (ds : List Dt) (ρ : Rho) (ω : Om) (Θ : Rho → Om → Prop) (ε : PsiX) : Prop :=
  ∀ σ P H as vs R, Ws X.K ω P H as → Env X.K P as σ ρ → AtL X.K P as vs ds → (∀ σ' P' H' as' ω', Ws X.K ω' P' H' as' → Gr P H as P' H' as' → Xk X ω' P' H' as' σ' ε) → (∀ σ' ρ' ω' P' H' as', Ws X.K ω' P' H' as' → Gr P H as P' H' as' → Env X.K P' as' σ' ρ' → Θ ρ' ω' → R σ' H') → sGs X ts vs σ H R
theorem egs_nil {Θ : Rho → Om → Prop} (h : Θ ρ ω) : EGs X [] [] ρ ω Θ ε := fun σ P H as vs R w en av _ q => by
  cases av
  exact sGs_of pgs_nil ⟨rfl, q σ ρ ω P H as w .refl en h⟩
theorem egs_cons {t : Expr} {ts : List Expr} {d : Dt} {ds : List Dt} {Θ : Rho → Om → Prop} (h : EG X t d ρ ω (fun ρ1 ω1 => EGs X ts ds ρ1 ω1 Θ ε) ε)
    (hs : (assignEach (t :: ts) X.env).map (·.2) = assign t X.env :: (assignEach ts X.env).map (·.2) := by rfl) : EGs X (t :: ts) (d :: ds) ρ ω Θ ε := fun σ P H as vs R w en av xk q => by
  cases av with
  | cons a1 r1 =>
    refine sGs_of (pgs_cons pG pGs hs) ⟨_, _, rfl, ?_⟩
    refine h σ P H as _ _ w en a1 (xk σ P H as ω w .refl) fun σ1 ρ1 ω1 P1 H1 as1 w1 g1 en1 k => ?_
    exact k σ1 P1 H1 as1 _ R w1 en1 (r1.mono g1.p g1.a) (fun σ2 P2 H2 as2 ω2 w2 g2 => xk σ2 P2 H2 as2 ω2 w2 (g1.trans g2)) fun σ2 ρ2 ω2 P2 H2 as2 w2 g2 en2 p => q σ2 ρ2 ω2 P2 H2 as2 w2 (g1.trans g2) en2 p
theorem eg_tup {ts : List Expr} {k : Nat} {ds : List Dt} {Θ : Rho → Om → Prop} (hc : X.calm = true) (h : EGs X ts ds ρ ω Θ (fun _ _ => False)) (hl : ds.length = ts.length)
    (hn : (assignEach ts X.env).length = ts.length := by rfl) (hst : (assignEach ts X.env).findIdx? (·.1) = none := by rfl) : EG X (.Tuple ts k pos) (.tup ds) ρ ω Θ ε := fun σ P H as v R w en av xk q => by
  obtain ⟨a, vs, rfl, hs, r⟩ := seqT w av
  obtain ⟨W, tk, _⟩ := xk
  refine sG_of (pg_tup hc pGs hn hst) ⟨a, vs, rfl, hs, by rw [r.length]; exact hl, ?_⟩
  exact h σ P H as vs R w en r (fun σ' P' H' as' ω' w' g' => ⟨W, tk, fun _ _ _ _ _ _ _ _ _ _ z => z.elim⟩) fun σ1 ρ1 ω1 P1 H1 as1 w1 g1 en1 p => q σ1 ρ1 ω1 P1 H1 as1 w1 g1 en1 p
theorem es_asg {tg : Expr} (h : EV X ρ ω e (fun d ω1 => EG X tg d ρ ω1 Φ.nx (fun y ω' => Φ.xc y ρ ω')) (fun y ω' => Φ.xc y ρ ω')) (hs : swapsWithSole [tg] e pos.line X.env = pure false := by rfl) (hw : swappedStores [tg] e X.env = pure none := by rfl)
    (h1 : (assignEach [tg] X.env).map (·.2) = [assign tg X.env] := by rfl) : ES X ρ ω (.Assign [tg] e pos) Φ := fun σ P H as D w en x => by
  refine sS_of (ps_asg pE pG hs hw h1) (h σ P H as _ w en (x.xk en) fun v d ω1 P1 H1 as1 w1 g1 a1 p => ?_)
  exact p σ P1 H1 as1 v D.nx w1 (en.mono g1.p g1.a) a1 ((x.later g1).xk (en.mono g1.p g1.a)) fun σ2 ρ2 ω2 P2 H2 as2 w2 g2 en2 k => x.nx σ2 ρ2 ω2 P2 H2 as2 w2 (g1.trans g2) en2 k
/-- name = e -/
theorem es_set (i : Nat) {x : Str} {pos' : Pos} (hN : X.N.Nodup) (h : EV X ρ ω e (fun d ω1 => Φ.nx (ρ.set i (some d)) ω1) (fun y ω' => Φ.xc y ρ ω')) (hi : X.N[i]? = some x := by rfl) (hx : Loc X.env.scope x := by first | exact Or.inl rfl | exact Or.inr rfl)
    (hs : swapsWith e (some (.Name x pos')) pos.line X.env = pure false := by rfl) (hf : X.fn x = true ∨ X.env.scope.names.lookup x = some .local := by first | exact .inl rfl | exact .inr rfl | assumption) : ES X ρ ω (.Assign [.Name x pos'] e pos) Φ := fun σ P H as D w en z =>
  sS_of (ps_set hN hi hx pE hs hf) (h σ P H as _ w en (z.xk en) fun v d ω1 P1 H1 as1 w1 g1 a1 p => z.nx _ _ ω1 P1 H1 as1 w1 g1 ((en.mono g1.p g1.a).set i a1) p)
/-- a, b = e1, e2 -/
theorem es_par (i j : Nat) {x y : Str} {px py pt : Pos} {kt k2 : Nat} {pt2 : Pos} (ok : Cok X) (h : EA X ρ ω [a, b] (fun ds ω1 => ∃ d1 d2, ds = [d1, d2] ∧ Φ.nx ((ρ.set i (some d1)).set j (some d2)) ω1) (fun y ω' => Φ.xc y ρ ω')) (hij : i ≠ j := by decide)
    (hp : PS X (.Assign [.Tuple [.Name x px, .Name y py] kt pt] (.Tuple [a, b] k2 pt2) pos) (tPar i j (sA X [a, b]))) : ES X ρ ω (.Assign [.Tuple [.Name x px, .Name y py] kt pt] (.Tuple [a, b] k2 pt2) pos) Φ := fun σ P H as D w en z => by
  refine sS_of hp (h σ P H as _ w en (z.xk en) fun vs ds ω1 P1 H1 as1 w1 g1 al p => ?_)
  obtain ⟨d1, d2, rfl, p⟩ := p
  obtain ⟨v, u, rfl, av, au⟩ := two_of al
  exact ⟨v, u, rfl, z.nx _ _ ω1 P1 H1 as1 w1 g1 (((en.mono g1.p g1.a).set i av).set j au) p⟩
/-- o[i] = v of a list of ours -/
def sSet (X : Cx) (σ : L2.St) : TSet := fun o i v H R => ∀ pins s ov iv u, Inv X pins σ H s → RelV o ov → RelV i iv → RelV v u → wpAny (model X.prog X.w) X.A (setItem ov iv u) (fun _ s' => ∃ H', Inv X pins σ H' s' ∧ R H') X.xe s
theorem eg_item {o i : Expr} {d : Dt} {Θ : Rho → Om → Prop} (h : EV X ρ ω o (fun x ω1 => EV X ρ ω1 i (fun y ω2 => ∃ n ds k j, x = .own n ∧ y = .int k ∧ ω2[n]? = some (.lst ds) ∧ ixN ds.length k = some j ∧ Θ ρ (ω2.set n (.lst (ds.set j d)))) ε) ε)
    (ha : ∀ v, assign (.Subscript o i pos) X.env v = (do
      let ov ← holding [v] (eval o X.env)
      let iv ← holding [v, ov] (eval i X.env)
      standAt pos
      holding [v, ov, iv] (setItem ov iv v)
      release [v, ov, iv] []) := by intro _; rfl) : EG X (.Subscript o i pos) d ρ ω Θ ε := fun σ P H as v R w en av xk q => by
  refine sG_of (pg_sub pE pE set_list ha) ?_
  refine h σ P H as _ w en xk fun v1 d1 ω1 P1 H1 as1 w1 g1 a1 hb => ?_
  refine hb σ P1 H1 as1 _ w1 (en.mono g1.p g1.a) (xk.later g1) fun v2 d2 ω2 P2 H2 as2 w2 g2 a2 p => ?_
  obtain ⟨n, ds, k, j, rfl, rfl, hn, hj, p⟩ := p
  cases a2
  have g12 := g1.trans g2
  obtain ⟨a, us, rfl, ha, hp, hh, r⟩ := seqO w2 (a1.mono g2.p g2.a) hn
  refine ⟨a, us, k, j, rfl, rfl, hh, by rw [r.length]; exact hj, ?_⟩
  obtain ⟨w3, g3⟩ := w2.turn (ho := .lst (us.set j v)) (u := .lst (ds.set j d)) hn ha hp ⟨hp, _, upd_same, r.set j (av.mono g12.p g12.a)⟩
  exact q σ ρ _ _ _ _ w3 (g12.trans g3) ((en.mono g12.p g12.a).mono g3.p g3.a) p
/-- o.f = v -/
def putD (f : Str) (d : Dt) : List Str → List Dt → List Str × List Dt
  | n :: ns, e :: ds => if n = f then (n :: ns, d :: ds) else ((n :: (putD f d ns ds).1), (e :: (putD f d ns ds).2))
  | _, _ => ([f], [d])
theorem put_at {K : Fg} {P : Hp} {as : List Addr} {f : Str} {d : Dt} {v : V} (h : At K P as v d) : ∀ {fs : List (Str × V)} {ds : List Dt}, AtL K P as (fs.map (·.2)) ds →
    (putF f v fs).map (·.1) = (putD f d (fs.map (·.1)) ds).1 ∧ AtL K P as ((putF f v fs).map (·.2)) (putD f d (fs.map (·.1)) ds).2
  | [], _, r => by cases r; exact ⟨rfl, .cons h .nil⟩
  | (n, u) :: fs, _, r => by
    cases r with
    | cons h1 r1 =>
      obtain ⟨e1, e2⟩ := put_at (f := f) h (fs := fs) r1
      by_cases q : n = f
      · show (putF f v ((n, u) :: fs)).map (·.1) = (putD f d (n :: fs.map (·.1)) _).1 ∧ AtL K P as ((putF f v ((n, u) :: fs)).map (·.2)) (putD f d (n :: fs.map (·.1)) _).2
        unfold putF putD
        rw [if_pos q, if_pos q]
        subst q
        exact ⟨rfl, .cons h r1⟩
      · show (putF f v ((n, u) :: fs)).map (·.1) = (putD f d (n :: fs.map (·.1)) _).1 ∧ AtL K P as ((putF f v ((n, u) :: fs)).map (·.2)) (putD f d (n :: fs.map (·.1)) _).2
        unfold putF putD
        rw [if_neg q, if_neg q]
        exact ⟨by rw [List.map_cons, e1], .cons h1 e2⟩
theorem es_fld {o : Expr} {f : Str} {pos' : Pos} (h : EV X ρ ω e (fun d ω1 => EV X ρ ω1 o (fun x ω2 => ∃ n C ns ds, x = .own n ∧ ω2[n]? = some (.ins C ns ds) ∧ Cls X.K C ∧ NoAttr X.K C f ∧ ds.length < 1000 ∧ Φ.nx ρ (ω2.set n (.ins C (putD f d ns ds).1 (putD f d ns ds).2))) (fun y ω' => Φ.xc y ρ ω')) (fun y ω' => Φ.xc y ρ ω'))
    (hs : swapsWith e (some (.Attribute o f pos')) pos.line X.env = pure false := by rfl) : ES X ρ ω (.Assign [.Attribute o f pos'] e pos) Φ := fun σ P H as D w en z => by
  refine sS_of (ps_fld pE pE hs) (h σ P H as _ w en (z.xk en) fun v1 d1 ω1 P1 H1 as1 w1 g1 a1 hb => ?_)
  refine hb σ P1 H1 as1 _ w1 (en.mono g1.p g1.a) ((z.later g1).xk (en.mono g1.p g1.a)) fun v2 d2 ω2 P2 H2 as2 w2 g2 a2 p => ?_
  obtain ⟨n, C, ns, ds, rfl, hn, cl, no, hl, p⟩ := p
  have g12 := g1.trans g2
  cases a2 with
  | own h1 =>
    obtain ⟨hp, dx, fs, h2, e1, r⟩ := w2.own _ _ _ hn h1
    refine ⟨_, C, dx, fs, rfl, h2, cl, no, by rw [← List.length_map (f := (·.2)), r.length]; exact hl, ?_⟩
    subst e1
    obtain ⟨e3, r3⟩ := put_at (f := f) (a1.mono g2.p g2.a) r
    obtain ⟨w3, g3⟩ := w2.turn (ho := .ins C dx (putF f v1 fs)) (u := .ins C (putD f d1 (fs.map (·.1)) ds).1 (putD f d1 (fs.map (·.1)) ds).2) hn h1 hp ⟨hp, dx, _, upd_same, e3, r3⟩
    exact z.nx σ ρ _ _ _ _ w3 (g12.trans g3) ((en.mono g12.p g12.a).mono g3.p g3.a) p
def ItD (K : Fg) (J : It) (P : Hp) (as : List Addr) (dv : Om → Prop) (items : List Dt) : Prop :=
  ∀ (i : Nat) ω' P' H' as', Same P P' → as <+: as' → Ws K ω' P' H' as' → dv ω' →
    (∀ d, items[i]? = some d → J.go i H' ∧ ∀ x H2, J.yld i H' x H2 → ∃ P2, Ws K ω' P2 H2 as' ∧ Gr P' H' as' P2 H2 as' ∧ At K P2 as' x d) ∧ (items.length ≤ i → J.stop i H')
structure sI (X : Cx) (tg iter : Expr) (σ : L2.St) (H : Hp) (R : It → Hp → Prop) : Prop where
  run : ∀ pins s, Inv X pins σ H s → wpAny (model X.prog X.w) X.A (eval iter X.env) (fun v s1 => wpAny (model X.prog X.w) X.A (pyIter v) (PIE X pins σ tg R) X.xe s1) X.xe s
theorem pI {tg iter : Expr} : PI X tg iter (sI X tg iter) := ⟨fun pins s σ H R I h => h.run pins s I⟩
theorem sI_of {tg iter : Expr} {wi : TI} (h : PI X tg iter wi) {σ : L2.St} {H : Hp} {R : It → Hp → Prop} (q : wi σ H R) : sI X tg iter σ H R := ⟨fun pins s I => h.run pins s σ H R I q⟩
def EI (X : Cx) (ρ : Rho) (ω : Om) (tg iter : Expr) (Θ : List Dt → (Om → Prop) → Om → Prop) (ε : PsiX) : Prop :=
  ∀ σ P H as R, Ws X.K ω P H as → Env X.K P as σ ρ → Xk X ω P H as σ ε → (∀ J items dv ω' P' H' as', Ws X.K ω' P' H' as' → Gr P H as P' H' as' → ItD X.K J P' as' dv items → dv ω' → Θ items dv ω' → R J H') → sI X tg iter σ H R
def iSeq (K : Fg) (tl : TE) : TI := fun σ H R => tl σ H fun x H1 => ∃ a, x = .ref a ∧ (((∃ xs, SqL K H1 a xs) ∧ R (Itl K a) H1) ∨ ((∃ xs, SqT K H1 a xs) ∧ R (Itt K a) H1))
theorem pi_seq {tg l : Expr} {tl : TE} (hl : PE X l tl) : PI X tg l (iSeq X.K tl) := by
  refine ⟨fun pins s σ H R I h => ?_⟩
  refine thn (hl.run pins s σ H _ I h) fun v s1 ⟨x, H1, I1, r1, q1⟩ => ?_
  obtain ⟨a, e, q1⟩ := q1
  subst e
  cases r1
  rcases q1 with ⟨⟨xs, hq⟩, q⟩ | ⟨⟨xs, hq⟩, q⟩
  · obtain ⟨its, rv, p, hz⟩ := I1.list hq
    refine wpAny_pyIter_list p.isList ?_
    refine ⟨s1.heap.objs.size, [s1.heap.objs.size], _, _, H1, rfl, I1.kept (t' := s1.toks) fun b o e => Heap.get?_push_of_some _ e, turn_list a _, ⟨_, Heap.get?_push_size _ rfl, rfl, rfl⟩, fun b hb => ?_, q⟩
    have e : b = s1.heap.objs.size := by simpa using hb
    subst e
    exact I1.fpOk (Nat.le_refl _) (I1.hok.fresh (Nat.le_refl _))
  · obtain ⟨its, rv, p, hz⟩ := I1.tuple hq
    refine wpAny_pyIter_tuple (show s1.heap.IsTuple a its.toArray from p) ?_
    refine ⟨s1.heap.objs.size, [s1.heap.objs.size], _, _, H1, rfl, I1.kept (t' := s1.toks) fun b o e => Heap.get?_push_of_some _ e, turn_tuple a _, ⟨_, Heap.get?_push_size _ rfl, rfl, rfl⟩, fun b hb => ?_, q⟩
    have e : b = s1.heap.objs.size := by simpa using hb
    subst e
    exact I1.fpOk (Nat.le_refl _) (I1.hok.fresh (Nat.le_refl _))
theorem itd_l {K : Fg} {P : Hp} {as : List Addr} {a : Addr} {d : Dt} {ds : List Dt} (ha : At K P as (.ref a) d) (hl : ∀ ω', SqLst ω' d ds → True) : ItD K (Itl K a) P as (fun ω' => SqLst ω' d ds) ds := by
  intro i ω' P' H' as' e p w s
  obtain ⟨b, vs, eb, hs, r⟩ := sqRL w s (ha.mono e p)
  cases eb
  refine ⟨fun x hx => ?_, fun hlen => ⟨vs, hs, by rw [r.length]; exact hlen⟩⟩
  obtain ⟨v, hv, av⟩ := r.get hx
  refine ⟨⟨vs, v, hs, hv⟩, fun y H2 hy => ?_⟩
  obtain ⟨rfl, hy⟩ := hy
  have q := hy vs hs
  rw [hv] at q
  cases q
  exact ⟨P', w, .refl, av⟩
theorem itd_t {K : Fg} {P : Hp} {as : List Addr} {a : Addr} {ds : List Dt} (ha : At K P as (.ref a) (.tup ds)) : ItD K (Itt K a) P as (fun _ => True) ds := by
  intro i ω' P' H' as' e p w _
  obtain ⟨b, vs, eb, hs, r⟩ := seqT w (ha.mono e p)
  cases eb
  refine ⟨fun x hx => ?_, fun hlen => ⟨vs, hs, by rw [r.length]; exact hlen⟩⟩
  obtain ⟨v, hv, av⟩ := r.get hx
  refine ⟨⟨vs, v, hs, hv⟩, fun y H2 hy => ?_⟩
  obtain ⟨rfl, hy⟩ := hy
  have q := hy vs hs
  rw [hv] at q
  cases q
  exact ⟨P', w, .refl, av⟩
theorem ei_seq {tg iter : Expr} {Θ : List Dt → (Om → Prop) → Om → Prop} (h : EV X ρ ω iter (fun d ω1 => ∃ ds, Sq ω1 d ds ∧ Θ ds (fun ω' => Sq ω' d ds) ω1) ε) : EI X ρ ω tg iter Θ ε := fun σ P H as R w en xk q => by
  refine sI_of (pi_seq pE) (h σ P H as _ w en xk fun v d ω1 P1 H1 as1 w1 g1 a1 p => ?_)
  obtain ⟨ds, s, p⟩ := p
  cases s with
  | tup =>
    obtain ⟨a, vs, rfl, hs, r⟩ := seqT w1 a1
    exact ⟨a, rfl, .inr ⟨⟨vs, hs⟩, q (Itt X.K a) ds _ ω1 P1 H1 as1 w1 g1 (fun i ω' P' H' as' e pp w' _ => itd_t a1 i ω' P' H' as' e pp w' trivial) (.tup _) p⟩⟩
  | lst =>
    obtain ⟨a, vs, rfl, hs, r⟩ := seqL w1 a1
    exact ⟨a, rfl, .inl ⟨⟨vs, hs⟩, q (Itl X.K a) ds _ ω1 P1 H1 as1 w1 g1 (fun i ω' P' H' as' e pp w' _ => itd_l a1 (fun _ _ => trivial) i ω' P' H' as' e pp w' (.lst _)) (.lst _) p⟩⟩
  | own hn =>
    obtain ⟨a, vs, rfl, _, _, hs, r⟩ := seqO w1 a1 hn
    exact ⟨a, rfl, .inl ⟨⟨vs, .of hs⟩, q (Itl X.K a) ds _ ω1 P1 H1 as1 w1 g1 (fun i ω' P' H' as' e pp w' z => itd_l a1 (fun _ _ => trivial) i ω' P' H' as' e pp w' (by cases z with | own z => exact .own z)) (.own hn) p⟩⟩
def rngD (lo : Int) (n : Nat) : List Dt := (List.range n).map fun i => .int (lo + (i : Nat))
theorem itd_r {K : Fg} {P : Hp} {as : List Addr} (lo : Int) (n : Nat) : ItD K (Itr lo n) P as (fun _ => True) (rngD lo n) := by
  intro i ω' P' H' as' e p w _
  refine ⟨fun x hx => ?_, fun hl => by show n ≤ i; simpa [rngD] using hl⟩
  unfold rngD at hx
  rw [List.getElem?_map] at hx
  have hi : i < n := by
    rcases Nat.lt_or_ge i n with h | h
    · exact h
    · rw [List.getElem?_eq_none (by simpa using h)] at hx; cases hx
  rw [List.getElem?_range hi] at hx
  cases hx
  refine ⟨hi, fun y H2 hy => ?_⟩
  obtain ⟨rfl, rfl⟩ := hy
  exact ⟨P', w, .refl, .int _⟩
theorem ei_range1 {tg : Expr} {p : Pos} {Θ : List Dt → (Om → Prop) → Om → Prop} (hm : X.mg "range" = none) (h : EA X ρ ω [e] (fun ds ω1 => ∃ j : Int, ds = [.int j] ∧ -(2 ^ 62) ≤ j ∧ j < 2 ^ 62 ∧ Θ (rngD 0 j.toNat) (fun _ => True) ω1) ε)
    (hg : Gl X "range" := by rfl) (hp : PI X tg (.Call (.Name "range" p) [e] [] pos) (iRng1 (sA X [e])) := by exact pi_range1 (by assumption) (by assumption) pA) : EI X ρ ω tg (.Call (.Name "range" p) [e] [] pos) Θ ε := fun σ P H as R w en xk q => by
  refine sI_of hp (h σ P H as _ w en xk fun vs ds ω1 P1 H1 as1 w1 g1 al k => ?_)
  obtain ⟨j, rfl, h1, h2, k⟩ := k
  obtain ⟨v, rfl, av⟩ := one_of al
  cases av
  exact ⟨j, rfl, h1, h2, q _ _ _ ω1 P1 H1 as1 w1 g1 (itd_r 0 j.toNat) trivial k⟩
theorem ei_range2 {tg e2 : Expr} {p : Pos} {Θ : List Dt → (Om → Prop) → Om → Prop} (hm : X.mg "range" = none) (h : EA X ρ ω [e, e2] (fun ds ω1 => ∃ i j : Int, ds = [.int i, .int j] ∧ (-(2 ^ 62) ≤ i ∧ i < 2 ^ 62 ∧ -(2 ^ 62) ≤ j ∧ j < 2 ^ 62) ∧ Θ (rngD i (j - i).toNat) (fun _ => True) ω1) ε)
    (hg : Gl X "range" := by rfl) (hp : PI X tg (.Call (.Name "range" p) [e, e2] [] pos) (iRng2 (sA X [e, e2])) := by exact pi_range2 (by assumption) (by assumption) pA) : EI X ρ ω tg (.Call (.Name "range" p) [e, e2] [] pos) Θ ε := fun σ P H as R w en xk q => by
  refine sI_of hp (h σ P H as _ w en xk fun vs ds ω1 P1 H1 as1 w1 g1 al k => ?_)
  obtain ⟨i, j, rfl, h1, k⟩ := k
  obtain ⟨v, u, rfl, av, au⟩ := two_of al
  cases av; cases au
  exact ⟨i, j, rfl, h1, q _ _ _ ω1 P1 H1 as1 w1 g1 (itd_r i (j - i).toNat) trivial k⟩
def strD (x : Str) : List Dt := x.cps.toList.map fun c => .str ⟨#[c]⟩
theorem ei_str {tg : Expr} {Θ : List Dt → (Om → Prop) → Om → Prop} (h : EV X ρ ω e (fun d ω1 => ∃ x, d = .str x ∧ Θ (strD x) (fun _ => True) ω1) ε) : EI X ρ ω tg e Θ ε := fun σ P H as R w en xk q => by
  refine sI_of (pi_str pE) (h σ P H as _ w en xk fun v d ω1 P1 H1 as1 w1 g1 av k => ?_)
  obtain ⟨x, rfl, k⟩ := k
  cases av
  refine ⟨x, rfl, q _ _ _ ω1 P1 H1 as1 w1 g1 (fun i ω' P' H' as' e pp w' _ => ⟨fun d hd => ?_, fun hl => ?_⟩) trivial k⟩
  · unfold strD at hd
    rw [List.getElem?_map] at hd
    cases hc : x.cps.toList[i]? with
    | none => rw [hc] at hd; cases hd
    | some c =>
      rw [hc] at hd
      cases hd
      have hc' : x.cps[i]? = some c := by simpa using hc
      refine ⟨?_, fun y H2 hy => ?_⟩
      · have := (List.getElem?_eq_some_iff.mp hc).1
        show i < x.cps.size
        simpa using this
      · obtain ⟨rfl, c', h1, rfl⟩ := hy
        rw [hc'] at h1
        cases h1
        exact ⟨P', w', .refl, .str _⟩
  · unfold strD at hl
    show x.cps.size ≤ i
    simpa using hl
/-- THE LOOP -/
theorem es_for {tg iter : Expr} {body : List Stmt} (ok : Cok X) (h : EI X ρ ω tg iter (fun items dv ω1 => ∃ I : Nat → Rho → Om → Prop, I 0 ρ ω1 ∧ (∀ i ρ' ω', I i ρ' ω' → dv ω') ∧
      (∀ (i : Nat) d ρ' ω', items[i]? = some d → I i ρ' ω' → EG X tg d ρ' ω' (fun ρ2 ω2 => ESs X ρ2 ω2 body { Φ with nx := I (i + 1), ct := I (i + 1), bk := Φ.nx }) (fun _ _ => False)) ∧ (∀ ρ' ω', I items.length ρ' ω' → Φ.nx ρ' ω')) (fun y ω' => Φ.xc y ρ ω'))
    (hs : ∀ x, foldedSetIterable iter X.env x = pure x := by intro _; rfl) : ES X ρ ω (.For tg iter body [] pos) Φ := fun σ P H as D w en z => by
  refine sS_of (ps_for ok.pass ok.calm pI pG pSs hs) (h σ P H as _ w en (z.xk en) fun J items dv ω1 P1 H1 as1 w1 g1 it d1 k => ?_)
  obtain ⟨I, h0, hd, turn, fin⟩ := k
  refine ⟨fun i m σ' H' => m + i = items.length ∧ ∃ ρ' ω' P' as', Ws X.K ω' P' H' as' ∧ Gr P1 H1 as1 P' H' as' ∧ Env X.K P' as' σ' ρ' ∧ I i ρ' ω', ⟨items.length, by simp, ρ, ω1, P1, as1, w1, .refl, en.mono g1.p g1.a, h0⟩, ?_⟩
  rintro i m σ' H' ⟨hm, ρ', ω', P', as', w', g', en', hi⟩
  obtain ⟨go, stop⟩ := it i ω' P' H' as' g'.p g'.a w' (hd i ρ' ω' hi)
  by_cases hlt : i < items.length
  · obtain ⟨go1, yl⟩ := go items[i] (List.getElem?_eq_getElem hlt)
    refine .inr ⟨go1, fun σ2 H2 => ∃ ρ2 ω2 P2 as2, Ws X.K ω2 P2 H2 as2 ∧ Gr P1 H1 as1 P2 H2 as2 ∧ Env X.K P2 as2 σ2 ρ2 ∧ I (i + 1) ρ2 ω2, fun σ2 H2 q2 => ⟨m - 1, by omega, by omega, q2⟩, fun x H2 hy => ?_⟩
    obtain ⟨P2, w2, g2, a2⟩ := yl x H2 hy
    have g12 := g'.trans g2
    have xk : Xk X ω' P2 H2 as' σ' (fun _ _ => False) := by
      obtain ⟨_, _, _, _, W, tk, _⟩ := z
      exact ⟨W, tk, fun _ _ _ _ _ _ _ _ _ _ f => f.elim⟩
    refine turn i items[i] ρ' ω' (List.getElem?_eq_getElem hlt) hi σ' P2 H2 as' x _ w2 (en'.mono g2.p g2.a) a2 xk fun σ3 ρ3 ω3 P3 H3 as3 w3 g3 en3 b3 => ?_
    have g13 := g12.trans g3
    refine b3 σ3 P3 H3 as3 _ w3 en3 ?_
    obtain ⟨zn, zr, zb, zc, W, tk, zx⟩ := z
    have g03 := g1.trans g13
    refine ⟨fun σ4 ρ4 ω4 P4 H4 as4 w4 g4 en4 i4 => ⟨ρ4, ω4, P4, as4, w4, g13.trans g4, en4, i4⟩, fun v d ω4 P4 H4 as4 w4 g4 a4 r4 => zr v d ω4 P4 H4 as4 w4 (g03.trans g4) a4 r4,
      fun σ4 ρ4 ω4 P4 H4 as4 w4 g4 en4 i4 => zn σ4 ρ4 ω4 P4 H4 as4 w4 (g03.trans g4) en4 i4, fun σ4 ρ4 ω4 P4 H4 as4 w4 g4 en4 i4 => ⟨ρ4, ω4, P4, as4, w4, g13.trans g4, en4, i4⟩,
      W, tk, fun cls dx x σ4 ρ4 ω4 P4 H4 as4 w4 g4 en4 a4 e4 => zx cls dx x σ4 ρ4 ω4 P4 H4 as4 w4 (g03.trans g4) en4 (a4.back g03 g4.a) e4⟩
  · have e : i = items.length := by omega
    subst e
    exact .inl ⟨stop (Nat.le_refl _), z.nx σ' ρ' ω' P' H' as' w' (g1.trans g') en' (fin ρ' ω' hi)⟩
end
end NM
namespace NM
open PySem L2 PySem.Spec PyProof.Rows
mutual
inductive Frz (ω : Om) (m : Nat) : Dt → Dt → Prop
  | non : Frz ω m .non .non
  | bl (b : Bool) : Frz ω m (.bl b) (.bl b)
  | int (i : Int) : Frz ω m (.int i) (.int i)
  | str (x : Str) : Frz ω m (.str x) (.str x)
  | ty (n : String) : Frz ω m (.ty n) (.ty n)
  | ref (a : Addr) : Frz ω m (.ref a) (.ref a)
  | old {n : Nat} (h : n < m) : Frz ω m (.own n) (.own n)
  | lstO {n : Nat} {ds es : List Dt} (h : m ≤ n) (e : ω[n]? = some (.lst ds)) (r : FrzL ω m ds es) : Frz ω m (.own n) (.lst es)
  | insO {n : Nat} {C : Addr} {ns : List Str} {ds es : List Dt} (h : m ≤ n) (e : ω[n]? = some (.ins C ns ds)) (r : FrzL ω m ds es) : Frz ω m (.own n) (.obj C ns es)
  | tup {ds es : List Dt} (r : FrzL ω m ds es) : Frz ω m (.tup ds) (.tup es)
  | lst {ds es : List Dt} (r : FrzL ω m ds es) : Frz ω m (.lst ds) (.lst es)
  | obj {C : Addr} {ns : List Str} {ds es : List Dt} (r : FrzL ω m ds es) : Frz ω m (.obj C ns ds) (.obj C ns es)
  | dic {pr : Program} {w : World} {ks vs vs' : List Dt} (rk : FrzL ω m ks ks) (rv : FrzL ω m vs vs') : Frz ω m (.dic pr w ks vs) (.dic pr w ks vs')
  | dknO {n : Nat} {pr : Program} {w : World} {ks vs vs' : List Dt} (h : m ≤ n) (e : ω[n]? = some (.dkn pr w ks vs)) (rk : FrzL ω m ks ks) (rv : FrzL ω m vs vs') : Frz ω m (.own n) (.dic pr w ks vs')
inductive FrzL (ω : Om) (m : Nat) : List Dt → List Dt → Prop
  | nil : FrzL ω m [] []
  | cons {d d' : Dt} {ds es : List Dt} (h : Frz ω m d d') (r : FrzL ω m ds es) : FrzL ω m (d :: ds) (d' :: es)
end
/- no mutable thing from m on -/
mutual
def Dt.lt (m : Nat) : Dt → Bool
  | .own n => decide (n < m)
  | .tup ds => ltL m ds
  | .lst ds => ltL m ds
  | .obj _ _ ds => ltL m ds
  | .dic _ _ ks vs => ltL m ks && ltL m vs
  | _ => true
def ltL (m : Nat) : List Dt → Bool
  | [] => true
  | d :: ds => d.lt m && ltL m ds
end
mutual
theorem frz_lt {ω : Om} {m : Nat} : ∀ {d : Dt}, d.lt m = true → Frz ω m d d
  | .non, _ => .non
  | .bl b, _ => .bl b
  | .int b, _ => .int b
  | .str b, _ => .str b
  | .ty b, _ => .ty b
  | .ref b, _ => .ref b
  | .own n, h => .old (by simpa [Dt.lt] using h)
  | .tup ds, h => .tup (frzL_lt (by simpa [Dt.lt] using h))
  | .lst ds, h => .lst (frzL_lt (by simpa [Dt.lt] using h))
  | .obj C ns ds, h => .obj (frzL_lt (by simpa [Dt.lt] using h))
  | .dic pr w ks vs, h => .dic (frzL_lt (by have h2 : ltL m ks = true ∧ ltL m vs = true := by simpa [Dt.lt] using h
                                            exact h2.1)) (frzL_lt (by have h2 : ltL m ks = true ∧ ltL m vs = true := by simpa [Dt.lt] using h
                                                                      exact h2.2))
theorem frzL_lt {ω : Om} {m : Nat} : ∀ {ds : List Dt}, ltL m ds = true → FrzL ω m ds ds
  | [], _ => .nil
  | d :: ds, h => by
    have h' : d.lt m = true ∧ ltL m ds = true := by simpa [ltL] using h
    exact .cons (frz_lt h'.1) (frzL_lt h'.2)
end
mutual
theorem at_lt {K : Fg} {P : Hp} {as : List Addr} : ∀ {v : V} {d : Dt}, At K P as v d → d.lt as.length = true
  | _, _, .non => rfl
  | _, _, .bl _ => rfl
  | _, _, .int _ => rfl
  | _, _, .str _ => rfl
  | _, _, .ty _ => rfl
  | _, _, .ref _ => rfl
  | _, _, .own h => by simp only [Dt.lt, decide_eq_true_eq]; exact (List.getElem?_eq_some_iff.mp h).1
  | _, _, .tup _ r => by simp only [Dt.lt]; exact atL_lt r
  | _, _, .lst _ r => by simp only [Dt.lt]; exact atL_lt r
  | _, _, .obj _ _ r => by simp only [Dt.lt]; exact atL_lt r
  | _, _, .dic _ _ rk rv => by simp only [Dt.lt, Bool.and_eq_true]; exact ⟨atL_lt rk, atL_lt rv⟩
theorem atL_lt {K : Fg} {P : Hp} {as : List Addr} : ∀ {vs : List V} {ds : List Dt}, AtL K P as vs ds → ltL as.length ds = true
  | _, _, .nil => rfl
  | _, _, .cons h r => by simp only [ltL, Bool.and_eq_true]; exact ⟨at_lt h, atL_lt r⟩
end
def Ow.lt (m : Nat) : Ow → Bool
  | .dead => true
  | .lst ds => ltL m ds
  | .ins _ _ ds => ltL m ds
  | .dct kvs => ltL m (kvs.map (·.2))
  | .lkd _ _ kvs => ltL m (kvs.map (·.2))
  | .xd _ fs => ltL m (fs.map (·.2))
  | .dkn _ _ ks vs => ltL m ks && ltL m vs
  | .lkn _ _ _ _ _ ks vs => ltL m ks && ltL m vs
  | .tbl _ _ => true
  | .any _ => true
  | .lam _ _ _ _ _ ρ => ρ.all fun o => match o with | none => true | some d => d.lt m
def OmLt (m : Nat) (ω : Om) : Prop := ∀ (i : Nat) o, ω[i]? = some o → o.lt m = true
theorem Ws.lt {K : Fg} {ω : Om} {P H : Hp} {as : List Addr} (w : Ws K ω P H as) : OmLt ω.length ω := fun i o hi => by
  have hl : i < as.length := by rw [w.len]; exact (List.getElem?_eq_some_iff.mp hi).1
  have q := w.own i o as[i] hi (List.getElem?_eq_getElem hl)
  rw [← w.len]
  cases o with
  | dead => rfl
  | lst ds => obtain ⟨_, vs, _, r⟩ := q; exact atL_lt r
  | ins C ns ds => obtain ⟨_, dx, fs, _, _, r⟩ := q; exact atL_lt r
  | dct kvs => obtain ⟨_, kus, _, _, r⟩ := q; exact atL_lt r
  | lkd o kus kvs => obtain ⟨_, _, _, r⟩ := q; exact atL_lt r
  | xd d fs => obtain ⟨_, _, _, _, _, r⟩ := q; exact atL_lt r
  | dkn pr w kds vds => obtain ⟨_, ks, vs, _, _, rk, rv⟩ := q; simp only [Ow.lt, Bool.and_eq_true]; exact ⟨atL_lt rk, atL_lt rv⟩
  | lkn pr w ob ks vs kds vds => obtain ⟨_, _, _, rk, rv⟩ := q; simp only [Ow.lt, Bool.and_eq_true]; exact ⟨atL_lt rk, atL_lt rv⟩
  | tbl Pa qn => rfl
  | any o => rfl
  | lam f ob cc qn σ ρ =>
    obtain ⟨_, _, _, _, r⟩ := q
    simp only [Ow.lt]
    refine List.all_eq_true.mpr fun z hz => ?_
    cases z with
    | none => rfl
    | some d =>
      obtain ⟨j, hj⟩ := List.getElem?_of_mem hz
      obtain ⟨v, _, av⟩ := r.get j d hj
      exact at_lt av
/-- the heap of what is given up -/
def PF (P H : Hp) (as : List Addr) (m : Nat) : Hp := fun a => if a ∈ as.drop m then H a else P a
section
variable {K : Fg} {ω : Om} {P H : Hp} {as : List Addr} {m : Nat}
theorem pf_same (w : Ws K ω P H as) : Same P (PF P H as m) := fun b o e => by
  unfold PF
  by_cases h : b ∈ as.drop m
  · rw [if_pos h]; exact w.sub b o e
  · rw [if_neg h]; exact e
theorem pf_in {i : Nat} {a : Addr} (hm : m ≤ i) (ha : as[i]? = some a) : PF P H as m a = H a := by
  unfold PF
  have : a ∈ as.drop m := by
    refine List.mem_of_getElem? (i := i - m) ?_
    rw [List.getElem?_drop]
    rw [show m + (i - m) = i by omega]; exact ha
  rw [if_pos this]
theorem pf_out (w : Ws K ω P H as) {i : Nat} {a : Addr} (hm : i < m) (ha : as[i]? = some a) : PF P H as m a = P a := by
  unfold PF
  rw [if_neg]
  intro z
  obtain ⟨j, hj⟩ := List.getElem?_of_mem z
  rw [List.getElem?_drop] at hj
  obtain ⟨p1, e1⟩ := List.getElem?_eq_some_iff.mp ha
  obtain ⟨p2, e2⟩ := List.getElem?_eq_some_iff.mp hj
  have := (List.getElem_inj w.nd).mp (e1.trans e2.symm)
  omega
mutual
theorem frz_at (w : Ws K ω P H as) : ∀ {v : V} {d d' : Dt}, Frz ω m d d' → At K P as v d → At K (PF P H as m) (as.take m) v d'
  | _, _, _, .non, h => by cases h; exact .non
  | _, _, _, .bl b, h => by cases h; exact .bl b
  | _, _, _, .int b, h => by cases h; exact .int b
  | _, _, _, .str b, h => by cases h; exact .str b
  | _, _, _, .ty b, h => by cases h; exact .ty b
  | _, _, _, .ref b, h => by cases h; exact .ref b
  | _, _, _, .old hn, h => by
    cases h with
    | own h1 => exact .own (by rw [List.getElem?_take_of_lt hn]; exact h1)
  | _, _, _, .lstO hn e r, h => by
    cases h with
    | own h1 =>
      obtain ⟨_, vs, h2, r2⟩ := w.own _ _ _ e h1
      exact .lst (.of (by rw [pf_in hn h1]; exact h2)) (frzL_at w r r2)
  | _, _, _, .insO hn e r, h => by
    cases h with
    | own h1 =>
      obtain ⟨_, dx, fs, h2, e2, r2⟩ := w.own _ _ _ e h1
      exact .obj (by rw [pf_in hn h1]; exact h2) e2 (frzL_at w r r2)
  | _, _, _, .tup r, h => by
    cases h with
    | tup h1 r1 => exact .tup (same_t (pf_same w) h1) (frzL_at w r r1)
  | _, _, _, .lst r, h => by
    cases h with
    | lst h1 r1 => exact .lst (same_l (pf_same w) h1) (frzL_at w r r1)
  | _, _, _, .obj r, h => by
    cases h with
    | obj h1 e1 r1 => exact .obj (pf_same w _ _ h1) e1 (frzL_at w r r1)
  | _, _, _, .dic rk rv, h => by
    cases h with
    | dic h1 n1 k1 v1 => exact .dic (pf_same w _ _ h1) n1 (frzL_at w rk k1) (frzL_at w rv v1)
  | _, _, _, .dknO hn e rk rv, h => by
    cases h with
    | own h1 =>
      obtain ⟨_, ks, vs, h2, e2, k2, v2⟩ := w.own _ _ _ e h1
      exact .dic (by rw [pf_in hn h1]; exact h2) e2 (frzL_at w rk k2) (frzL_at w rv v2)
theorem frzL_at (w : Ws K ω P H as) : ∀ {vs : List V} {ds es : List Dt}, FrzL ω m ds es → AtL K P as vs ds → AtL K (PF P H as m) (as.take m) vs es
  | _, _, _, .nil, h => by cases h; exact .nil
  | _, _, _, .cons f r, h => by
    cases h with
    | cons h1 r1 => exact .cons (frz_at w f h1) (frzL_at w r r1)
end
theorem Ws.give (w : Ws K ω P H as) (hl : OmLt m (ω.take m)) : Ws K (ω.take m) (PF P H as m) H (as.take m) := by
  refine ⟨fun b o e => ?_, w.nd.sublist (List.take_sublist _ _), by rw [List.length_take, List.length_take, w.len], fun i o a h1 h2 => ?_⟩
  · unfold PF at e
    by_cases h : b ∈ as.drop m
    · rw [if_pos h] at e; exact e
    · rw [if_neg h] at e; exact w.sub b o e
  · have him : i < m := by
      rcases Nat.lt_or_ge i m with h | h
      · exact h
      · rw [List.getElem?_take_eq_none h] at h1; cases h1
    have hlt := hl i o h1
    rw [List.getElem?_take_of_lt him] at h1 h2
    have q := w.own i o a h1 h2
    have po := pf_out (H := H) (m := m) w him h2
    cases o with
    | dead => exact q
    | lst ds => obtain ⟨n, vs, e, r⟩ := q; exact ⟨po.trans n, vs, e, frzL_at w (frzL_lt hlt) r⟩
    | ins C ns ds => obtain ⟨n, dx, fs, e, e2, r⟩ := q; exact ⟨po.trans n, dx, fs, e, e2, frzL_at w (frzL_lt hlt) r⟩
    | dct kvs => obtain ⟨n, kus, e, e2, r⟩ := q; exact ⟨po.trans n, kus, e, e2, frzL_at w (frzL_lt hlt) r⟩
    | lkd o kus kvs => obtain ⟨n, e, e2, r⟩ := q; exact ⟨po.trans n, e, e2, frzL_at w (frzL_lt hlt) r⟩
    | xd d fs => obtain ⟨n0, n, vs, e, e2, r⟩ := q; exact ⟨n0, po.trans n, vs, e, e2, frzL_at w (frzL_lt hlt) r⟩
    | dkn pr w1 kds vds =>
      obtain ⟨n, ks, vs, e, e2, rk, rv⟩ := q
      have hl2 : ltL m kds = true ∧ ltL m vds = true := by simpa [Ow.lt] using hlt
      exact ⟨po.trans n, ks, vs, e, e2, frzL_at w (frzL_lt hl2.1) rk, frzL_at w (frzL_lt hl2.2) rv⟩
    | tbl Pa qn => obtain ⟨n0, n, ps, e, t, r⟩ := q; exact ⟨n0, po.trans n, ps, e, t, fun pos cv hc => let ⟨c, e1, e2⟩ := r pos cv hc; ⟨c, e1, pf_same w _ _ e2⟩⟩
    | any o => obtain ⟨n, e⟩ := q; exact ⟨po.trans n, e⟩
    | lam f ob cc qn σ ρ =>
      obtain ⟨n0, n, e, k, r⟩ := q
      simp only [Ow.lt] at hlt
      refine ⟨n0, po.trans n, e, pf_same w _ _ k, r.len, fun j d hj => ?_⟩
      obtain ⟨v, hv, av⟩ := r.get j d hj
      exact ⟨v, hv, frz_at w (frz_lt (List.all_eq_true.mp hlt (some d) (List.mem_of_getElem? hj))) av⟩
    | lkn pr w1 ob ks vs kds vds =>
      obtain ⟨n, e, e2, rk, rv⟩ := q
      have hl2 : ltL m kds = true ∧ ltL m vds = true := by simpa [Ow.lt] using hlt
      exact ⟨po.trans n, e, e2, frzL_at w (frzL_lt hl2.1) rk, frzL_at w (frzL_lt hl2.2) rv⟩
theorem Gr.give {P0 H0 : Hp} {as0 : List Addr} (w : Ws K ω P H as) (g : Gr P0 H0 as0 P H as) (hm : as0.length ≤ m) : Gr P0 H0 as0 (PF P H as m) H (as.take m) := by
  refine ⟨g.p.trans (pf_same w), ?_, g.h, fun b o e hp hn => ?_, fun b hb hn => g.na b (List.mem_of_mem_take hb) hn⟩
  · have := List.prefix_take_iff.mpr ⟨g.a, hm⟩
    exact this
  · unfold PF
    rw [if_neg]
    · exact g.n b o e hp hn
    · intro z
      have := g.na b (List.mem_of_mem_drop z) hn
      rw [e] at this; cases this
end
/-- what a function gives back: everything from m on is given up -/
def Giv (n0 : Nat) (Ψ : PsiE) : PsiE := fun d ω' => ∃ m d', n0 ≤ m ∧ OmLt m (ω'.take m) ∧ Frz ω' m d d' ∧ Ψ d' (ω'.take m)
def GivX (n0 : Nat) (ε : PsiX) : PsiX := fun x ω' => ∃ m x', n0 ≤ m ∧ OmLt m (ω'.take m) ∧ x'.cls = x.cls ∧ (match x.fs, x'.fs with
  | none, none => True
  | some fs, some gs => fs.map (·.1) = gs.map (·.1) ∧ FrzL ω' m (fs.map (·.2)) (gs.map (·.2))
  | _, _ => False) ∧ ε x' (ω'.take m)
section
variable {X : Cx} {ρ : Rho} {ω : Om} {Ψ : PsiE} {ε : PsiX} {Φ : Post} {e a b c : Expr} {pos : Pos}
theorem giv_at {K : Fg} {P0 H0 P H : Hp} {as0 as : List Addr} {v : V} {d : Dt} {Q : VK} {n0 : Nat} (w : Ws K ω P H as) (g : Gr P0 H0 as0 P H as) (av : At K P as v d) (hn : as0.length = n0) (h : Giv n0 Ψ d ω)
    (q : ∀ v d ω' P' H' as', Ws K ω' P' H' as' → Gr P0 H0 as0 P' H' as' → At K P' as' v d → Ψ d ω' → Q v H') : Q v H := by
  obtain ⟨m, d', hm, hl, f, p⟩ := h
  exact q v d' _ _ _ _ (w.give hl) (g.give w (by omega)) (frz_at w f av) p
/-- an expression's value, given up at once -/
theorem ev_frz (h : EV X ρ ω e (Giv ω.length Ψ) ε) : EV X ρ ω e Ψ ε := fun σ P H as Q w en xk q =>
  h σ P H as Q w en xk fun v d ω1 P1 H1 as1 w1 g1 a1 p => giv_at w1 g1 a1 w.len p q
abbrev DSp := List Dt → Om → PsiE → PsiX → Prop
def lift (K : Fg) (sp : DSp) : Sp := fun vs H Q E => ∃ ds ω P as Ψ ε, Ws K ω P H as ∧ AtL K P as vs ds ∧ sp ds ω Ψ ε ∧
  (∀ v d ω' P' H' as', Ws K ω' P' H' as' → Gr P H as P' H' as' → At K P' as' v d → Ψ d ω' → Q v H') ∧
  (∀ cls dx x ω' P' H' as', Ws K ω' P' H' as' → Gr P H as P' H' as' → EcAt K H P' H' as' cls dx x → ε x ω' → E cls dx H')
/-- room, and nothing is being shown -/
structure Rm (k : Nat) (A : Around) : Prop where
  r : Room k A
  g : A.guards = some []
theorem Rm.mono {j k : Nat} {A : Around} (x : Rm k A) (h : j ≤ k) : Rm j A := ⟨x.r.mono h, x.g⟩
theorem guards_make {A : Around} {C : Addr} {us : List Value} {kw : List (Str × Value)} : (A.under (.builtin "type.__call__" ⟨.ref C :: us, kw⟩)).guards = A.guards := by
  have : (Code.builtin "type.__call__" ⟨.ref C :: us, kw⟩).isGuard = false := by
    show guardIds.contains "type.__call__" = false
    decide +kernel
  simp [Around.under, Code.guards, this, pushGuards]
theorem Rm.make {k : Nat} {A : Around} (x : Rm (k + 1) A) (C : Addr) (us : List Value) (kw : List (Str × Value)) : Rm k (A.under (.builtin "type.__call__" ⟨.ref C :: us, kw⟩)) := ⟨x.r.make C us kw, guards_make.trans x.g⟩
structure FnG (P : Program) (w : World) (K : Fg) (mg : Str → Option Value) (base : Heap) (k : Nat) (f : Addr) (fd : FuncData) (ps : List Str) (sp : Sp) : Prop where
  len : ∀ vs H Q E, sp vs H Q E → vs.length = ps.length
  run : ∀ (A : Around) (outer : List PySem.Env) (s : Shared) (H : Hp) (args : Args) (us : List Value) (vs : List V) (Q : VK) (E : XK), Rm k A → Env0 P w K mg base A outer s H → BindsTo s fd args (ps.zip us) → Vals vs us → sp vs H Q E →
    codeAny (model P w) A (.call (.ref f) args) (CR (L2.CX P w) outer P w H s Q E) s
theorem FnG.mono {P : Program} {w : World} {K : Fg} {mg : Str → Option Value} {base : Heap} {j k : Nat} {f : Addr} {fd : FuncData} {ps : List Str} {sp : Sp} (F : FnG P w K mg base j f fd ps sp) (h : j ≤ k) : FnG P w K mg base k f fd ps sp :=
  ⟨F.len, fun A outer s H args us vs Q E hr => F.run A outer s H args us vs Q E (hr.mono h)⟩
/-- a def keeps its promise -/
structure FnP (P : Program) (w : World) (K : Fg) (mg : Str → Option Value) (base : Heap) (k : Nat) (f : Addr) (fd : FuncData) (ps : List Str) (sp : DSp) : Prop where
  ok : FnG P w K mg base k f fd ps (lift K sp)
  kp : PySem.W.keepIn K (.ref f) = true
theorem FnP.mono {P : Program} {w : World} {K : Fg} {mg : Str → Option Value} {base : Heap} {j k : Nat} {f : Addr} {fd : FuncData} {ps : List Str} {sp : DSp} (F : FnP P w K mg base j f fd ps sp) (h : j ≤ k) : FnP P w K mg base k f fd ps sp :=
  ⟨F.ok.mono h, F.kp⟩
/-- how n values and the keywords ks come to the parameters -/
structure KB (K : Fg) (fd : FuncData) (ps : List Str) (n : Nat) (ks : List Str) (gD : List Dt → List Dt → List Dt) : Prop where
  ex : ∃ g gV, KBn K fd ps n ks g gV ∧ ∀ {P : Hp} {as : List Addr} {vs zs : List V} {ds es : List Dt}, AtL K P as vs ds → AtL K P as zs es → AtL K P as (gV vs zs) (gD ds es)
/-- all are written -/
abbrev gAll : List Dt → List Dt → List Dt := fun ds _ => ds
theorem kb_all {K : Fg} {fd : FuncData} {ps : List Str} {n : Nat} (hb : Binds K fd ps []) (hn : ps.length = n) : KB K fd ps n [] gAll :=
  ⟨fun us _ => us, fun vs _ => vs, ⟨fun s us ws X l1 l2 => by
    have : ws = [] := List.length_eq_zero_iff.mp l2
    subst this
    have q := hb s us X (by simp [l1, hn])
    simpa using q, fun r _ => r⟩, fun r _ => r⟩
theorem run_fnD {f : Addr} {fd : FuncData} {ps ks : List Str} {n k : Nat} {sp : Sp} {g : List Value → List Value → List Value} {gV : List V → List V → List V} {pins : List (Addr × Obj)} {σ : L2.St} {H : Hp} {s : Shared} {Q : VK} {us ws : List Value} {vs zs : List V} {W : WX} (F : FnG X.prog X.w X.K X.mg X.base k f fd ps sp) (hr : Rm k X.A) (hb : KBn X.K fd ps n ks g gV)
    (I : Inv X pins σ H s) (tk : Takes X W) (r : Vals vs us) (rz : Vals zs ws) (l1 : vs.length = n) (l2 : zs.length = ks.length) (h : sp (gV vs zs) H Q (fun cls dx H' => W cls dx σ H')) : wpAny (model X.prog X.w) X.A (call (.ref f) us (ks.zip ws)) (EP X pins σ Q) X.xe s := by
  have r2 := hb.rel r rz
  refine wpAny_call (codeAny_mono (F.run X.A X.stack s H ⟨us, ks.zip ws⟩ (g us ws) (gV vs zs) Q _ hr I.env0 (hb.to s us ws I.kIn (r.length.symm.trans l1) (rz.length.symm.trans l2)) r2 h) fun r s' hq => ?_)
  cases r with
  | error e => exact tk _ _ (XE.of_call I (fun _ _ _ h => h) hq)
  | ok fl =>
    cases fl with
    | ret u => exact I.after hq
    | next => exact False.elim hq
    | brk => exact False.elim hq
    | cont => exact False.elim hq
theorem run_fnD0 {f : Addr} {fd : FuncData} {ps : List Str} {n k : Nat} {sp : Sp} {g : List Value → List Value → List Value} {gV : List V → List V → List V} {pins : List (Addr × Obj)} {σ : L2.St} {H : Hp} {s : Shared} {Q : VK} {us : List Value} {vs : List V} {W : WX} (F : FnG X.prog X.w X.K X.mg X.base k f fd ps sp) (hr : Rm k X.A) (hb : KBn X.K fd ps n [] g gV)
    (I : Inv X pins σ H s) (tk : Takes X W) (r : Vals vs us) (l1 : vs.length = n) (h : sp (gV vs []) H Q (fun cls dx H' => W cls dx σ H')) : wpAny (model X.prog X.w) X.A (call (.ref f) us) (EP X pins σ Q) X.xe s :=
  run_fnD (ws := []) F hr hb I tk r .nil l1 rfl h
/-- a call by values -/
theorem lift_of {sp : DSp} {vs : List V} {ds : List Dt} {P H : Hp} {as : List Addr} {Q : VK} {σ : L2.St} (w : Ws X.K ω P H as) (al : AtL X.K P as vs ds) (xk : Xk X ω P H as σ ε) (hs : sp ds ω Ψ ε) (q : Fin4 X P H as Ψ Q) :
    ∃ W, Takes X W ∧ lift X.K sp vs H Q (fun cls dx H' => W cls dx σ H') := by
  obtain ⟨W, tk, hW⟩ := xk
  exact ⟨W, tk, ds, ω, P, as, Ψ, ε, w, al, hs, q, fun cls dx x ω' P' H' as' w' g' a' e' => hW cls dx x ω' P' H' as' w' g' a' e'⟩
theorem ev_call {x : Str} {p : Pos} {es : List Expr} {n k : Nat} {f : Addr} {fd : FuncData} {ps : List Str} {sp : DSp} {gD : List Dt → List Dt → List Dt} (F : FnP X.prog X.w X.K X.mg X.base k f fd ps sp) (hb : KB X.K fd ps n [] gD) (hm : X.mg x = some (.ref f)) (hr : Rm k X.A)
    (h : EA X ρ ω (e :: es) (fun ds ω1 => ds.length = n ∧ sp (gD ds []) ω1 Ψ ε) ε) (hg : Gl X x := by rfl)
    (hdb : (x == ("__debug__" : Str)) = false := by decide) (he : starEach (e :: es) X.env = (false, eval e X.env) :: starEach es X.env := by rfl) (hpl : (backTo pos (starEach es X.env)).any (·.1) = false := by rfl) : EV X ρ ω (.Call (.Name x p) (e :: es) [] pos) Ψ ε := fun σ P H as Q w en xk q => by
  obtain ⟨g, gV, hb1, hb2⟩ := hb.ex
  have z : sA X (e :: es) σ H (fun vs H1 => vs.length = n ∧ ∃ W, Takes X W ∧ lift X.K sp (gV vs []) H1 Q (fun cls dx H' => W cls dx σ H')) := h σ P H as _ w en xk fun vs ds ω1 P1 H1 as1 w1 g1 a1 p =>
    ⟨a1.length.trans p.1, lift_of w1 (hb2 a1 .nil) (xk.later g1) p.2 fun v d ω' P' H' as' w' g' a' k => q v d ω' P' H' as' w' (g1.trans g') a' k⟩
  refine .mk fun pins s I => wpAny_Call_Name_kw (ld_glob I hg hm ?_ hdb)
  refine PySem.W.callWith_K (h₀ := X.base) I.ok.mod.kin F.kp (thn (z.run pos pins s I) fun us s1 ⟨vs, H1, I1, r, l1, W, tk, q⟩ => ⟨I1.kIn, ?_⟩) he hpl
  exact run_fnD0 F.ok hr hb1 I1 tk r l1 q
theorem ev_call0 {x : Str} {p : Pos} {k : Nat} {f : Addr} {fd : FuncData} {ps : List Str} {sp : DSp} {gD : List Dt → List Dt → List Dt} (F : FnP X.prog X.w X.K X.mg X.base k f fd ps sp) (hb : KB X.K fd ps 0 [] gD) (hm : X.mg x = some (.ref f)) (hr : Rm k X.A) (h : sp (gD [] []) ω Ψ ε) (hg : Gl X x := by rfl)
    (hdb : (x == ("__debug__" : Str)) = false := by decide) : EV X ρ ω (.Call (.Name x p) [] [] pos) Ψ ε := fun σ P H as Q w en xk q => by
  obtain ⟨g, gV, hb1, hb2⟩ := hb.ex
  obtain ⟨W, tk, z⟩ := lift_of (vs := gV [] []) w (hb2 .nil .nil) xk h q
  exact .mk fun pins s I => wpAny_Call_Name_kw (ld_glob I hg hm (PySem.W.callWith_K0 I.kIn F.kp (run_fnD0 (us := []) F.ok hr hb1 I tk .nil rfl z)) hdb)
structure sK (X : Cx) (kws : List Keyword) (σ : L2.St) (H : Hp) (Q : List V → Hp → Prop) : Prop where
  run : ∀ pos pins s, Inv X pins σ H s → wpAny (model X.prog X.w) X.A (evalAll ((backToKw pos (keywordEach kws X.env)).map (·.2))) (AP X pins σ Q) X.xe s
theorem pK {kws : List Keyword} : PK X kws (sK X kws) := ⟨fun pos pins s σ H Q I h => h.run pos pins s I⟩
theorem sK_of {kws : List Keyword} {t : TA} (h : PK X kws t) {σ : L2.St} {H : Hp} {Q : List V → Hp → Prop} (q : t σ H Q) : sK X kws σ H Q := ⟨fun pos pins s I => h.run pos pins s σ H Q I q⟩
def EK (X : Cx) (ρ : Rho) (ω : Om) (kws : List Keyword) (Ψ : List Dt → Om → Prop) (ε : PsiX) : Prop :=
  ∀ σ P H as Q, Ws X.K ω P H as → Env X.K P as σ ρ → Xk X ω P H as σ ε →
    (∀ vs ds ω' P' H' as', Ws X.K ω' P' H' as' → Gr P H as P' H' as' → AtL X.K P' as' vs ds → Ψ ds ω' → Q vs H') → sK X kws σ H Q
theorem ek_nil {Ψ : List Dt → Om → Prop} (h : Ψ [] ω) : EK X ρ ω [] Ψ ε := fun σ P H as Q w en xk q => sK_of pk_nil (q [] [] ω P H as w .refl .nil h)
theorem ek_cons {Ψ : List Dt → Om → Prop} {nm : Option Str} {kpos : Pos} {kws : List Keyword} (h : EV X ρ ω e (fun d ω1 => EK X ρ ω1 kws (fun ds ω2 => Ψ (d :: ds) ω2) ε) ε) : EK X ρ ω (⟨nm, e, kpos⟩ :: kws) Ψ ε := fun σ P H as Q w en xk q => by
  refine sK_of (pk_cons pE pK) (h σ P H as _ w en xk fun v d ω1 P1 H1 as1 w1 g1 a1 p => ?_)
  exact p σ P1 H1 as1 _ w1 (en.mono g1.p g1.a) (xk.later g1) fun vs ds ω2 P2 H2 as2 w2 g2 a2 p2 => q (v :: vs) (d :: ds) ω2 P2 H2 as2 w2 (g1.trans g2) (.cons (a1.mono g2.p g2.a) a2) p2
theorem ev_callK {x : Str} {p : Pos} {es : List Expr} {kws : List Keyword} {n k : Nat} {f : Addr} {fd : FuncData} {ps ks : List Str} {sp : DSp} {gD : List Dt → List Dt → List Dt} (F : FnP X.prog X.w X.K X.mg X.base k f fd ps sp) (hb : KB X.K fd ps n ks gD) (hm : X.mg x = some (.ref f)) (hr : Rm k X.A)
    (h : EA X ρ ω (e :: es) (fun ds ω1 => EK X ρ ω1 kws (fun zs ω2 => ds.length = n ∧ zs.length = ks.length ∧ sp (gD ds zs) ω2 Ψ ε) ε) ε) (hg : Gl X x := by rfl)
    (hall : (backToKw pos (keywordEach kws X.env)).all (·.1.isSome) = true := by rfl) (hks : (backToKw pos (keywordEach kws X.env)).filterMap (·.1) = ks := by rfl)
    (hdb : (x == ("__debug__" : Str)) = false := by decide) (he : starEach (e :: es) X.env = (false, eval e X.env) :: starEach es X.env := by rfl)
    (hpl : ((backTo pos (starEach (e :: es) X.env)).any (·.1) || (backToKw pos (keywordEach kws X.env)).any (·.1.isNone)) = false := by rfl) : EV X ρ ω (.Call (.Name x p) (e :: es) kws pos) Ψ ε := fun σ P H as Q w en xk q => by
  obtain ⟨g, gV, hb1, hb2⟩ := hb.ex
  have z : sA X (e :: es) σ H (fun vs H1 => sK X kws σ H1 (fun zs H2 => vs.length = n ∧ zs.length = ks.length ∧ ∃ W, Takes X W ∧ lift X.K sp (gV vs zs) H2 Q (fun cls dx H' => W cls dx σ H'))) := h σ P H as _ w en xk fun vs ds ω1 P1 H1 as1 w1 g1 a1 p =>
    p σ P1 H1 as1 _ w1 (en.mono g1.p g1.a) (xk.later g1) fun zs es ω2 P2 H2 as2 w2 g2 a2 p2 =>
    ⟨a1.length.trans p2.1, a2.length.trans p2.2.1, lift_of w2 (hb2 (a1.mono g2.p g2.a) a2) (xk.later (g1.trans g2)) p2.2.2 fun v d ω' P' H' as' w' g' a' k => q v d ω' P' H' as' w' ((g1.trans g2).trans g') a' k⟩
  refine .mk fun pins s I => wpAny_Call_Name_kw (ld_glob I hg hm ?_ hdb)
  refine PySem.W.callWith_KW (h₀ := X.base) I.ok.mod.kin F.kp hall (thn (z.run pos pins s I) fun us s1 ⟨vs, H1, I1, r, q⟩ => ?_) hpl he
  refine thn (q.run pos pins s1 I1) fun ws s2 ⟨zs, H2, I2, rz, l1, l2, W, tk, q2⟩ => ⟨I2.kIn, ?_⟩
  rw [hks]
  exact run_fnD F.ok hr hb1 I2 tk r rz l1 l2 q2
/-- what a method's receiver has -/
structure MtD (X : Cx) (C : Addr) (m : Str) (n : Nat) (gD : List Dt → List Dt → List Dt) (sp : DSp) : Prop where
  ex : ∃ f fd k ps, Cls X.K C ∧ Meth X.K C m f ∧ FnP X.prog X.w X.K X.mg X.base k f fd ps sp ∧ KB X.K fd ps n [] gD ∧ Rm k X.A
/-- o.m(e, ..), an own class's method -/
theorem sm_call {o : Expr} {m : Str} {apos : Pos} {es : List Expr} {pl : Sem Bool} (h : EV X ρ ω o (fun x ω1 => ∃ C ns ds n gD sp, Ob ω1 x C ns ds ∧ m ∉ ns ∧ MtD X C m n gD sp ∧ EA X ρ ω1 (e :: es) (fun ds ω2 => ds.length + 1 = n ∧ sp (gD (x :: ds) []) ω2 Ψ ε) ε) ε)
    (hst : starEach (e :: es) X.env = (false, eval e X.env) :: starEach es X.env := by rfl) (hpl : (backTo pos (starEach es X.env)).any (·.1) = false := by rfl)
    (ht : eval (.Call (.Attribute o m apos) (e :: es) [] pos) X.env = (do
      let ov ← eval o X.env
      standAt apos.atName
      let (f, first) ← holding [ov] (getMethod ov m pl)
      callWith pos f first (backTo pos (starEach (e :: es) X.env)) (backToKw pos (keywordEach [] X.env))) := by rfl) : EV X ρ ω (.Call (.Attribute o m apos) (e :: es) [] pos) Ψ ε := fun σ P H as Q w en xk q => by
  have z : sE X o σ H (fun x H1 => ∃ a dx C fs n gV sp, x = .ref a ∧ H1 a = some (.ins C dx fs) ∧ fs.lookup m = none ∧ (∃ f fd k ps g, Cls X.K C ∧ Meth X.K C m f ∧ FnP X.prog X.w X.K X.mg X.base k f fd ps sp ∧ KBn X.K fd ps n [] g gV ∧ Rm k X.A) ∧ sA X (e :: es) σ H1 (fun vs H2 => vs.length + 1 = n ∧ ∃ W, Takes X W ∧ lift X.K sp (gV (x :: vs) []) H2 Q (fun cls dx H' => W cls dx σ H'))) :=
    h σ P H as _ w en xk fun v d ω1 P1 H1 as1 w1 g1 a1 p => by
      obtain ⟨C, ns, ds, n, gD, sp, ob, nm, ⟨f, fd, k, ps, cl, mt, F, hb, hr⟩, p⟩ := p
      obtain ⟨g, gV, hb1, hb2⟩ := hb.ex
      obtain ⟨a, dx, fs, rfl, h1, e1, r1⟩ := ob_at w1 ob a1
      refine ⟨a, dx, C, fs, n, gV, sp, rfl, h1, ?_, ⟨f, fd, k, ps, g, cl, mt, F, hb1, hr⟩, ?_⟩
      · cases hl : fs.lookup m with
        | none => rfl
        | some u => exact absurd (e1 ▸ List.mem_map.mpr ⟨(m, u), PySem.mem_of_lookup hl, rfl⟩) nm
      · exact p σ P1 H1 as1 _ w1 (en.mono g1.p g1.a) (xk.later g1) fun vs ds ω2 P2 H2 as2 w2 g2 a2 p2 =>
          ⟨by rw [a2.length]; exact p2.1, lift_of w2 (hb2 (.cons (a1.mono g2.p g2.a) a2) .nil) (xk.later (g1.trans g2)) p2.2 fun v d ω' P' H' as' w' g' a' k => q v d ω' P' H' as' w' ((g1.trans g2).trans g') a' k⟩
  refine .mk fun pins s I => PySem.W.methodCall_KW (pl := pl) (thn (z.run pins s I) fun u s1 ⟨x, H1, I1, rx, a, dx, C, fs, n, gV, sp, ex, ea, l, ⟨f, fd, k, ps, g, cl, mt, F, hb1, hr⟩, q⟩ => ?_) ht
  subst ex
  obtain rfl : u = Value.ref a := rx
  refine getmeth_ok I1 ea cl mt l ?_
  refine PySem.W.callWith_K (first := [.ref a]) (h₀ := X.base) I.ok.mod.kin mt.kp (thn (q.run pos pins s1 I1) fun us s2 ⟨vs, H2, I2, r, l1, W, tk, q2⟩ => ⟨I2.kIn, ?_⟩) hst hpl
  exact run_fnD0 (us := .ref a :: us) (vs := .ref a :: vs) F.ok hr hb1 I2 tk (.cons rfl r) l1 q2
theorem sm_call0 {o : Expr} {m : Str} {apos : Pos} {pl : Sem Bool} (h : EV X ρ ω o (fun x ω1 => ∃ C ns ds gD sp, Ob ω1 x C ns ds ∧ m ∉ ns ∧ MtD X C m 1 gD sp ∧ sp (gD [x] []) ω1 Ψ ε) ε)
    (ht : eval (.Call (.Attribute o m apos) [] [] pos) X.env = (do
      let ov ← eval o X.env
      standAt apos.atName
      let (f, first) ← holding [ov] (getMethod ov m pl)
      callWith pos f first (backTo pos (starEach [] X.env)) (backToKw pos (keywordEach [] X.env))) := by rfl) : EV X ρ ω (.Call (.Attribute o m apos) [] [] pos) Ψ ε := fun σ P H as Q w en xk q => by
  have z : sE X o σ H (fun x H1 => ∃ a dx C fs gV sp, x = .ref a ∧ H1 a = some (.ins C dx fs) ∧ fs.lookup m = none ∧ (∃ f fd k ps g, Cls X.K C ∧ Meth X.K C m f ∧ FnP X.prog X.w X.K X.mg X.base k f fd ps sp ∧ KBn X.K fd ps 1 [] g gV ∧ Rm k X.A) ∧ (∃ W, Takes X W ∧ lift X.K sp (gV [x] []) H1 Q (fun cls dx H' => W cls dx σ H'))) :=
    h σ P H as _ w en xk fun v d ω1 P1 H1 as1 w1 g1 a1 p => by
      obtain ⟨C, ns, ds, gD, sp, ob, nm, ⟨f, fd, k, ps, cl, mt, F, hb, hr⟩, p⟩ := p
      obtain ⟨g, gV, hb1, hb2⟩ := hb.ex
      obtain ⟨a, dx, fs, rfl, h1, e1, r1⟩ := ob_at w1 ob a1
      refine ⟨a, dx, C, fs, gV, sp, rfl, h1, ?_, ⟨f, fd, k, ps, g, cl, mt, F, hb1, hr⟩, ?_⟩
      · cases hl : fs.lookup m with
        | none => rfl
        | some u => exact absurd (e1 ▸ List.mem_map.mpr ⟨(m, u), PySem.mem_of_lookup hl, rfl⟩) nm
      · exact lift_of w1 (hb2 (.cons a1 .nil) .nil) (xk.later g1) p fun v d ω' P' H' as' w' g' a' k => q v d ω' P' H' as' w' (g1.trans g') a' k
  refine .mk fun pins s I => PySem.W.methodCall_KW (pl := pl) (thn (z.run pins s I) fun u s1 ⟨x, H1, I1, rx, a, dx, C, fs, gV, sp, ex, ea, l, ⟨f, fd, k, ps, g, cl, mt, F, hb1, hr⟩, W, tk, q⟩ => ?_) ht
  subst ex
  obtain rfl : u = Value.ref a := rx
  refine getmeth_ok I1 ea cl mt l ?_
  exact PySem.W.callWith_K0 (first := [.ref a]) I1.kIn mt.kp (run_fnD0 (us := [.ref a]) (vs := [.ref a]) F.ok hr hb1 I1 tk (.cons rfl .nil) rfl q)
/-- what a class has that is called -/
structure MkD (X : Cx) (C : Addr) (n : Nat) (ks : List Str) (gD : List Dt → List Dt → List Dt) (sp : DSp) : Prop where
  ex : ∃ f fd k ps, Mk X.K C f ∧ FnP X.prog X.w X.K X.mg X.base k f fd ps sp ∧ KB X.K fd ps (n + 1) ks gD ∧ Rm (k + 1) X.A
/-- C(..) by values: __init__ at the new thing -/
theorem run_mk {C : Addr} {n : Nat} {ks : List Str} {gD : List Dt → List Dt → List Dt} {sp : DSp} {ds es : List Dt} {vs zs : List V} {us ws : List Value} {P H : Hp} {as : List Addr} {Q : VK} {σ : L2.St} {pins : List (Addr × Obj)} {s : Shared} (M : MkD X C n ks gD sp)
    (w : Ws X.K ω P H as) (al : AtL X.K P as vs ds) (az : AtL X.K P as zs es) (l1 : ds.length = n) (l2 : es.length = ks.length) (xk : Xk X ω P H as σ ε) (h : sp (gD (.own ω.length :: ds) es) (ω ++ [.ins C [] []]) (fun d ω' => d = .non ∧ Ψ (.own ω.length) ω') ε) (q : Fin4 X P H as Ψ Q) (I : Inv X pins σ H s) (r : Vals vs us) (rz : Vals zs ws) :
    wpAny (model X.prog X.w) X.A (call (.ref C) us (ks.zip ws)) (EP X pins σ Q) X.xe s := by
  obtain ⟨f, fd, k, ps, M, F, hb, hr⟩ := M.ex
  obtain ⟨g, gV, hb1, hb2⟩ := hb.ex
  obtain ⟨W, tk, hW⟩ := xk
  have nx : H (s.heap.objs.size + 1) = none := I.hok.fresh (Nat.le_succ _)
  have nd : H s.heap.objs.size = none := I.hok.fresh (Nat.le_refl _)
  have ne : s.heap.objs.size + 1 ≠ s.heap.objs.size := Nat.ne_of_gt (Nat.lt_succ_self _)
  obtain ⟨w1, g1⟩ := w.newH (o := .own (s.heap.objs.size + 1)) nd
  have nx1 : upd H s.heap.objs.size (.own (s.heap.objs.size + 1)) (s.heap.objs.size + 1) = none := by rw [upd_ne ne]; exact nx
  obtain ⟨w2, g2⟩ := w1.newO (o := .ins C s.heap.objs.size []) (u := .ins C [] []) nx1 ⟨(w1.fresh nx1).2, s.heap.objs.size, [], upd_same, rfl, .nil⟩
  have g12 := g1.trans g2
  have hi : (as ++ [s.heap.objs.size + 1])[ω.length]? = some (s.heap.objs.size + 1) := by rw [← w.len]; simp
  have hsp : lift X.K sp (gV (.ref (s.heap.objs.size + 1) :: vs) zs) (upd (upd H s.heap.objs.size (.own (s.heap.objs.size + 1))) (s.heap.objs.size + 1) (.ins C s.heap.objs.size [])) (fun v H2 => v = .non ∧ Q (.ref (s.heap.objs.size + 1)) H2) (fun cls dx H' => W cls dx σ H') := by
    refine ⟨_, _, _, _, _, ε, w2, hb2 (.cons (.own hi) (al.mono g12.p g12.a)) (az.mono g12.p g12.a), h, fun v d ω' P' H' as' w' g' a' p => ?_, fun cls dx x ω' P' H' as' w' g' a' e' => hW cls dx x ω' P' H' as' w' (g12.trans g') (a'.back g12 g'.a) e'⟩
    obtain ⟨rfl, p⟩ := p
    cases a'
    refine ⟨rfl, q _ _ ω' P' H' as' w' (g12.trans g') (.own ?_) p⟩
    obtain ⟨t, ht⟩ := g'.a
    rw [← ht, List.getElem?_append_left (by rw [List.length_append, w.len]; simp)]
    exact hi
  have I2 := Inv.made (C := C) I
  have r2 : Vals (V.ref (s.heap.objs.size + 1) :: vs) (Value.ref (s.heap.objs.size + 1) :: us) := .cons rfl r
  have k1 : (Value.ref (s.heap.objs.size + 1) :: us).length = n + 1 := by rw [List.length_cons, ← r.length, al.length, l1]
  refine wpAny_call (make_map (f := f) I.kIn M.makes M.init (beq_iff_eq.mp M.fn) (codeAny_mono (F.ok.run _ X.stack _ _ ⟨Value.ref (s.heap.objs.size + 1) :: us, ks.zip ws⟩ _ _ _ _ (hr.make C us (ks.zip ws))
    (I2.env0.make C us (ks.zip ws)) (hb1.to _ _ ws I2.kIn k1 (by rw [← rz.length, az.length, l2])) (hb1.rel r2 rz) hsp) fun r s' hq' => ?_))
  cases r with
  | error e => exact tk _ _ (XE.of_call I2 (fun _ _ _ h => h) hq')
  | ok fl =>
    cases fl with
    | ret u =>
      obtain ⟨v, H', I3, rv, ev, q3⟩ := I2.after hq'
      subst ev
      exact ⟨rv, ⟨V.ref (s.heap.objs.size + 1), H', I3, rfl, q3⟩⟩
    | next => exact False.elim hq'
    | brk => exact False.elim hq'
    | cont => exact False.elim hq'
theorem ev_make {x : Str} {p : Pos} {es : List Expr} {C : Addr} {n : Nat} {gD : List Dt → List Dt → List Dt} {sp : DSp} (M : MkD X C n [] gD sp) (hm : X.mg x = some (.ref C))
    (h : EA X ρ ω (e :: es) (fun ds ω1 => ds.length = n ∧ sp (gD (.own ω1.length :: ds) []) (ω1 ++ [.ins C [] []]) (fun d ω' => d = .non ∧ Ψ (.own ω1.length) ω') ε) ε) (hg : Gl X x := by rfl)
    (hdb : (x == ("__debug__" : Str)) = false := by decide) (he : starEach (e :: es) X.env = (false, eval e X.env) :: starEach es X.env := by rfl) (hpl : (backTo pos (starEach es X.env)).any (·.1) = false := by rfl) : EV X ρ ω (.Call (.Name x p) (e :: es) [] pos) Ψ ε := fun σ P H as Q w en xk q => by
  have z : sA X (e :: es) σ H (fun vs H1 => ∀ pins s us, Inv X pins σ H1 s → Vals vs us → wpAny (model X.prog X.w) X.A (call (.ref C) us) (EP X pins σ Q) X.xe s) := h σ P H as _ w en xk fun vs ds ω1 P1 H1 as1 w1 g1 a1 p pins s us I r =>
    run_mk (ws := []) M w1 a1 .nil p.1 rfl (xk.later g1) p.2 (fun v d ω' P' H' as' w' g' a' k => q v d ω' P' H' as' w' (g1.trans g') a' k) I r .nil
  obtain ⟨f, fd, k, ps, M1, _⟩ := M.ex
  refine .mk fun pins s I => wpAny_Call_Name_kw (ld_glob I hg hm ?_ hdb)
  exact PySem.W.callWith_K (h₀ := X.base) I.ok.mod.kin M1.kp (thn (z.run pos pins s I) fun us s1 ⟨vs, H1, I1, r, q⟩ => ⟨I1.kIn, q pins s1 us I1 r⟩) he hpl
theorem ev_make0 {x : Str} {p : Pos} {C : Addr} {gD : List Dt → List Dt → List Dt} {sp : DSp} (M : MkD X C 0 [] gD sp) (hm : X.mg x = some (.ref C))
    (h : sp (gD [.own ω.length] []) (ω ++ [.ins C [] []]) (fun d ω' => d = .non ∧ Ψ (.own ω.length) ω') ε) (hg : Gl X x := by rfl)
    (hdb : (x == ("__debug__" : Str)) = false := by decide) : EV X ρ ω (.Call (.Name x p) [] [] pos) Ψ ε := fun σ P H as Q w en xk q => .mk fun pins s I => by
  obtain ⟨f, fd, k, ps, M1, _⟩ := id M.ex
  exact wpAny_Call_Name_kw (ld_glob I hg hm (PySem.W.callWith_K0 I.kIn M1.kp (run_mk (us := []) (ws := []) M w .nil .nil rfl rfl xk h q I .nil .nil)) hdb)
end
def startD (N : List Str) (ds : List Dt) : Rho := ds.map some ++ List.replicate (N.length - ds.length) none
theorem env_start {K : Fg} {P : Hp} {as : List Addr} {vs : List V} {ds : List Dt} (N : List Str) (h : AtL K P as vs ds) : Env K P as (L2.start N vs) (startD N ds) := by
  unfold L2.start startD
  refine ⟨by simp [h.length], fun i d hi => ?_⟩
  by_cases hl : i < ds.length
  · rw [List.getElem?_append_left (by simpa using hl), List.getElem?_map] at hi
    cases e : ds[i]? with
    | none => rw [e] at hi; cases hi
    | some d' =>
      rw [e] at hi
      cases hi
      obtain ⟨v, hv, av⟩ := h.get e
      refine ⟨v, ?_, av⟩
      rw [List.getElem?_append_left (by simpa [h.length] using hl), List.getElem?_map, hv]; rfl
  · rw [List.getElem?_append_right (by simpa using hl), List.getElem?_replicate] at hi
    split at hi <;> cases hi
/-- what a body knows of its context -/
structure Ctx (P : Program) (w : World) (K : Fg) (mg : Str → Option Value) (base : Heap) (k : Nat) (X : Cx) : Prop where
  ok : Cok X
  room : Rm k X.A
/-- the ends of a def's body -/
def fnPost (n0 : Nat) (Ψ : PsiE) (ε : PsiX) : Post := { nx := fun _ ω' => Giv n0 Ψ .non ω', rt := Giv n0 Ψ, xc := fun x _ ω' => GivX n0 ε x ω' }
theorem fnG_of {P : Program} {w : World} {K : Fg} {mg : Str → Option Value} {base : Heap} {k : Nat} {f : Addr} {name qual : Str} {params : Arguments} {body : List Stmt} {scope : Scope} {dV kV doc pm cdv ct oc : Value} {an od : Option Addr}
    {osl : Array (Option Value)} {N ps : List Str} {sp : Sp} (lk : K.lookup f = some ⟨oc, od, .func (PySem.W.fnOf name qual params body scope dV kV doc pm an cdv ct), osl⟩) (hcd : PySem.W.codeIn K cdv qual = true) (S : FnScope N ps scope)
    (len : ∀ vs H Q E, sp vs H Q E → vs.length = ps.length)
    (hbody : ∀ (A : Around) (outer : List PySem.Env) (s : Shared) (H : Hp) (vs : List V) (Q : VK) (E : XK), Rm k (A.deeper (envOfC qual scope s.heap.objs.size f cdv)) → sp vs H Q E →
      ∃ t, PSs (cxOf (L2.CX P w) P w K mg base N qual scope f cdv A outer s H E) body t ∧ t { nx := fun _ H' => Q .non H', rt := Q } (L2.start N vs) H) :
    FnG P w K mg base (k + 1) f (PySem.W.fnOf name qual params body scope dV kV doc pm an cdv ct) ps sp := by
  refine ⟨len, fun A outer s H args us vs Q E hr e0 hb r hsp => ?_⟩
  have hl := len _ _ _ _ hsp
  have KX : K.In s.heap := e0.mod.kin.keeps fun b o e => (e0.bs b o e).1
  have lim : s.heap.NoLimit := e0.mod.nolimit.keeps fun b o e => (e0.bs b o e).1
  have hkind : ∀ y ∈ ps.zip us, scope.names.lookup y.1 = some .local ∨ (scope.names.lookup y.1 = some .cell ∧ ((cellsFrom (s.heap.objs.size + 1) scope.names []).lookup y.1).isSome = true) := fun ⟨n, v⟩ hy => by
    rcases S.par n (List.of_mem_zip hy).1 with q | q
    · exact .inl q
    · exact .inr ⟨q, PySem.W.cellsFrom_some _ _ _ (.inl q)⟩
  refine codeAny_call_function hr.r.depth (KX _ _ lk) rfl S.co S.gen rfl (PySem.W.codeRec_of KX hcd) (hb _ _ _ _ ?_)
  refine wpAny_newFunctionEnv_cells S.kind hkind fun env he s1 x => ?_
  subst he
  refine ⟨lim.keeps x.toInCall.keep, codeAny_func ?_⟩
  obtain ⟨t, ht, hq⟩ := hbody A outer s H vs Q E ⟨hr.r.deeper _, by first | exact hr.g | (simpa [Around.deeper] using hr.g)⟩ hsp
  have I : Inv (cxOf (L2.CX P w) P w K mg base N qual scope f cdv A outer s H E) [] (L2.start N vs) H s1 := inv_start S hr.r.hd e0 hl r x
  refine wpAny_mono (ht.run [] s1 (L2.start N vs) H _ I hq) (fun fl s' hs => ?_) fun e s' hs => hs
  have fin : ∀ {σ' : L2.St} {H' : Hp} {v : V} {u : Value}, Inv (cxOf (L2.CX P w) P w K mg base N qual scope f cdv A outer s H E) [] σ' H' s' → RelV v u → Q v H' → CE outer P w H s Q u s' :=
    fun {σ' H' v u} J rv q => ⟨v, H', J.os, J.bare, J.base, J.hok, rv, q⟩
  cases fl with
  | ret u =>
    obtain ⟨v, σ', H', J, rv, q⟩ := hs
    exact fin J rv q
  | next =>
    obtain ⟨σ', H', J, q⟩ := hs
    exact fin (v := V.non) (u := Value.none) J rfl q
  | brk =>
    obtain ⟨_, _, _, q⟩ := hs
    exact False.elim q
  | cont =>
    obtain ⟨_, _, _, q⟩ := hs
    exact False.elim q
theorem fn_ok {P : Program} {w : World} {K : Fg} {mg : Str → Option Value} {base : Heap} {x qual : Str} {params : Arguments} {bd : List Stmt} {scope : Scope} {dvs : List V} {f : Addr} {fd : FuncData} {N ps : List Str} {k : Nat} {sp : DSp} (F : FunD K x qual params bd scope dvs [] f fd) (S : FnScope N ps scope) (hl : ∀ ds ω Ψ ε, sp ds ω Ψ ε → ds.length = ps.length)
    (body : ∀ (cdv : Value) (A : Around) (outer : List PySem.Env) (s : Shared) (H : Hp) (E : XK), Ctx P w K mg base k (cxOf (L2.CX P w) P w K mg base N qual scope f cdv A outer s H E) → ∀ ds ω Ψ ε, OmLt ω.length ω → sp ds ω Ψ ε →
      ESs (cxOf (L2.CX P w) P w K mg base N qual scope f cdv A outer s H E) (startD N ds) ω bd (fnPost ω.length Ψ ε)) : FnP P w K mg base (k + 1) f fd ps sp := by
  have kp := F.kp
  obtain ⟨oc, od, dV, kV, doc, pm, an, cdv, ct, osl, rfl, lk, hcd, _, _⟩ := F.ex
  refine ⟨fnG_of lk hcd S (fun vs H Q E ⟨ds, ω, PP, as, Ψ, ε, w', al, hs, _⟩ => al.length.trans (hl ds ω Ψ ε hs)) (fun A outer s H vs Q E hr h => ?_), kp⟩
  obtain ⟨ds, ω, PP, as, Ψ, ε, w', al, hs, hq, hE⟩ := h
  refine ⟨_, pSs, ?_⟩
  have ct : Ctx P w K mg base k (cxOf (L2.CX P w) P w K mg base N qual scope f cdv A outer s H E) := ⟨⟨rfl, passes_of rfl, S.nd, hr.r.units⟩, hr⟩
  refine body cdv A outer s H E ct ds ω Ψ ε w'.lt hs (L2.start N vs) PP H as _ w' (env_start N al) ⟨fun σ' ρ' ω' P' H' as' w1 g1 en1 p => ?_, fun v d ω' P' H' as' w1 g1 a1 p => ?_, fun _ _ _ _ _ _ _ _ _ z => z.elim, fun _ _ _ _ _ _ _ _ _ z => z.elim, _, takes_of rfl rfl rfl rfl, fun cls dx y σ' ρ' ω' P' H' as' w1 g1 en1 a1 p => ?_⟩
  · exact giv_at (v := V.non) w1 g1 .non w'.len p hq
  · exact giv_at w1 g1 a1 w'.len p hq
  · obtain ⟨m, x', hm, hlt, hc, hf, p⟩ := p
    have hasl := w'.len
    refine hE cls dx x' _ _ _ _ (w1.give hlt) (g1.give w1 (by omega)) ?_ p
    obtain ⟨ec, ef⟩ := a1
    refine ⟨ec.trans hc.symm, ?_⟩
    cases h1 : y.fs with
    | none =>
      cases h2 : x'.fs with
      | none => rw [h1] at ef; exact ef
      | some gs => rw [h1, h2] at hf; exact hf.elim
    | some fs =>
      cases h2 : x'.fs with
      | none => rw [h1, h2] at hf; exact hf.elim
      | some gs =>
        rw [h1, h2] at hf
        rw [h1] at ef
        obtain ⟨d, fvs, e1, e2, e3, e4, e5, e6⟩ := ef
        refine ⟨d, fvs, e1, e2, e3.trans hf.1, frzL_at w1 hf.2 e4, fun z => e5 (List.mem_of_mem_take z), ?_⟩
        unfold PF
        rw [if_neg (fun z => e5 (List.mem_of_mem_drop z))]
        exact e6
end NM
namespace NM
open PySem L2 PySem.Spec PyProof.Rows
section
variable {X : Cx} {ρ : Rho} {ω : Om} {Ψ : PsiE} {ε : PsiX} {Φ : Post} {e a b c : Expr} {pos : Pos}
theorem ev_makeK0 {x : Str} {p : Pos} {kws : List Keyword} {C : Addr} {ks : List Str} {gD : List Dt → List Dt → List Dt} {sp : DSp} (M : MkD X C 0 ks gD sp) (hm : X.mg x = some (.ref C))
    (h : EK X ρ ω kws (fun zs ω1 => zs.length = ks.length ∧ sp (gD [.own ω1.length] zs) (ω1 ++ [.ins C [] []]) (fun d ω' => d = .non ∧ Ψ (.own ω1.length) ω') ε) ε) (hg : Gl X x := by rfl)
    (hall : (backToKw pos (keywordEach kws X.env)).all (·.1.isSome) = true := by rfl) (hks : (backToKw pos (keywordEach kws X.env)).filterMap (·.1) = ks := by rfl) (hdb : (x == ("__debug__" : Str)) = false := by decide)
    (hpl : ((backTo pos (starEach [] X.env)).any (·.1) || (backToKw pos (keywordEach kws X.env)).any (·.1.isNone)) = false := by rfl) : EV X ρ ω (.Call (.Name x p) [] kws pos) Ψ ε := fun σ P H as Q w en xk q => by
  have z : sK X kws σ H (fun vs H1 => ∀ pins s us, Inv X pins σ H1 s → Vals vs us → wpAny (model X.prog X.w) X.A (call (.ref C) [] (ks.zip us)) (EP X pins σ Q) X.xe s) := h σ P H as _ w en xk fun vs ds ω1 P1 H1 as1 w1 g1 a1 p pins s us I r =>
    run_mk (us := []) M w1 .nil a1 rfl p.1 (xk.later g1) p.2 (fun v d ω' P' H' as' w' g' a' k => q v d ω' P' H' as' w' (g1.trans g') a' k) I .nil r
  obtain ⟨f, fd, k, ps, M1, _⟩ := M.ex
  refine .mk fun pins s I => wpAny_Call_Name_kw (ld_glob I hg hm ?_ hdb)
  refine PySem.W.callWith_KW0 (h₀ := X.base) I.ok.mod.kin M1.kp hall (thn (z.run pos pins s I) fun us s1 ⟨vs, H1, I1, r, q⟩ => ⟨I1.kIn, ?_⟩) hpl
  rw [hks]
  exact q pins s1 us I1 r
structure InsTy (K : Fg) (C : Addr) : Prop where
  cl : Cls K C
  ha : PySem.W.findIn K (.ref C) "__class__" = some (some (.builtin "object.__class__"))
  hn : PySem.W.specialIn K (.builtin "object.__class__") "__get__" = some (some (.builtin "getset_descriptor.__get__"))
  htk : PySem.W.takesIn K (.builtin "object.__class__") = some true
  hm : PySem.W.mroIn K C (.type "object") = some true
inductive TyD (K : Fg) (ω : Om) : Dt → Value → Prop
  | non : TyD K ω .non (.type "NoneType")
  | bl (x : Bool) : TyD K ω (.bl x) (.type "bool")
  | int (i : Int) : TyD K ω (.int i) (.type "int")
  | str (x : Str) : TyD K ω (.str x) (.type "str")
  | tup (ds : List Dt) : TyD K ω (.tup ds) (.type "tuple")
  | lst (ds : List Dt) : TyD K ω (.lst ds) (.type "list")
  | ownL {n : Nat} {ds : List Dt} (h : ω[n]? = some (.lst ds)) : TyD K ω (.own n) (.type "list")
  | obj {C : Addr} {ns : List Str} {ds : List Dt} (h : InsTy K C) : TyD K ω (.obj C ns ds) (.ref C)
  | ownI {n : Nat} {C : Addr} {ns : List Str} {ds : List Dt} (h : InsTy K C) (e : ω[n]? = some (.ins C ns ds)) : TyD K ω (.own n) (.ref C)
theorem tyx_at {K : Fg} {P H : Hp} {as : List Addr} (w : Ws K ω P H as) {v : V} {d : Dt} {t : Value} (ty : TyD K ω d t) (h : At K P as v d) : TyX K H v t := by
  cases ty with
  | non => cases h; exact .base .non
  | bl x => cases h; exact .base (.bl x)
  | int x => cases h; exact .base (.int x)
  | str x => cases h; exact .base (.str x)
  | tup ds =>
    cases h with
    | tup h1 r =>
      rcases same_t w.sub h1 with (y | ⟨o, y⟩) | ⟨o, its, n, y1, y2, _⟩
      · exact .base (.tup y)
      · exact .fTuple y
      · exact .kTuple y1 y2
  | lst ds =>
    cases h with
    | lst h1 r =>
      rcases same_l w.sub h1 with (y | ⟨o, y⟩) | ⟨o, its, n, y1, y2, _⟩
      · exact .base (.lst y)
      · exact .base (.frz y)
      · exact .kList y1 y2
  | ownL e =>
    obtain ⟨a, vs, rfl, _, _, h1, _⟩ := seqO w h e
    exact .base (.lst h1)
  | obj i =>
    obtain ⟨a, dx, fs, rfl, h1, _⟩ := ob_at w (.obj _ _ _) h
    exact .base (.ins h1 i.cl i.ha i.hn i.htk i.hm)
  | ownI i e =>
    obtain ⟨a, dx, fs, rfl, h1, _⟩ := ob_at w (.own e) h
    exact .base (.ins h1 i.cl i.ha i.hn i.htk i.hm)
inductive ClsD : Dt → Value → Prop
  | ty (n : String) : ClsD (.ty n) (.type n)
  | own (C : Addr) : ClsD (.ref C) (.ref C)
theorem cls_at {K : Fg} {P : Hp} {as : List Addr} {v : V} {d : Dt} {u : Value} (c : ClsD d u) (h : At K P as v d) : ClsV v u := by
  cases c with
  | ty n => cases h; exact .ty n
  | own C => cases h; exact .own C
theorem cd_isi {x c : Dt} {t u : Value} {k : Bool} (hx : TyD X.K ω x t) (hc : ClsD c u) (hk : PySem.W.kitOne X.K t u = some k) (h : Ψ (.bl k) ω) : CD X (.builtin "isinstance") [x, c] ω Ψ ε := cd_of call_isi fun vs P H as Q w al q => by
  obtain ⟨v, y, rfl, av, ay⟩ := two_of al
  exact ⟨v, y, t, u, k, rfl, cls_at hc ay, tyx_at w hx av, hk, q _ _ ω P H as w .refl (.bl _) h⟩
/-- isinstance(x, (c, ..)) -/
def rIsiS (K : Fg) : List V → Hp → VK → Prop := fun xs H Q => ∃ (x : V) (tp : Addr) (cs : List V) (t : Value) (us : List Value) (b : Bool), xs = [x, .ref tp] ∧ SqT K H tp cs ∧ Paired ClsV cs us ∧ TyX K H x t ∧ PySem.W.kitAny K t us = some b ∧ Q (.bl b) H
theorem call_isiS : CallR X (.builtin "isinstance") (rIsiS X.K) := by
  intro pins s σ H xs us Q I r h
  obtain ⟨x, tp, cs, t, ws, b, rfl, hT, k, ty, e, q⟩ := h
  obtain ⟨u1, u2, rfl, r1, r2⟩ := vals2 r
  cases (show u2 = Value.ref tp from r2)
  obtain ⟨P, Z, p, hx⟩ := kit_of I r1 ty
  obtain ⟨its, rv, pl, hz⟩ := I.tuple hT
  obtain ⟨o, h1, h2, n, h3⟩ := (show IsTup s.heap tp its.toArray from pl)
  have e3 := ClsV.all k rv
  subst e3
  obtain ⟨oc, od, dt, sl⟩ := o
  simp only at h2 h3
  subst h2 h3
  exact PySem.W.kia_tup Z I.kIn p h1 e hx fun tk => ⟨.bl b, H, I.tok tk, rfl, q⟩
inductive ClsDs : List Dt → List Value → Prop
  | nil : ClsDs [] []
  | cons {d : Dt} {u : Value} {ds : List Dt} {us : List Value} (h : ClsD d u) (r : ClsDs ds us) : ClsDs (d :: ds) (u :: us)
theorem clss_at {K : Fg} {P : Hp} {as : List Addr} : ∀ {vs : List V} {ds : List Dt} {us : List Value}, ClsDs ds us → AtL K P as vs ds → Paired ClsV vs us
  | _, _, _, .nil, h => by cases h; exact .nil
  | _, _, _, .cons c r, h => by
    cases h with
    | cons h1 r1 => exact .cons (cls_at c h1) (clss_at r r1)
theorem cd_isiT {x : Dt} {cs : List Dt} {t : Value} {us : List Value} {k : Bool} (hx : TyD X.K ω x t) (hc : ClsDs cs us) (hk : PySem.W.kitAny X.K t us = some k) (h : Ψ (.bl k) ω) : CD X (.builtin "isinstance") [x, .tup cs] ω Ψ ε := cd_of call_isiS fun vs P H as Q w al q => by
  obtain ⟨v, y, rfl, av, ay⟩ := two_of al
  obtain ⟨a, us, rfl, h1, r1⟩ := seqT w ay
  exact ⟨v, a, us, t, _, k, rfl, h1, clss_at hc r1, tyx_at w hx av, hk, q _ _ ω P H as w .refl (.bl _) h⟩
def EJ (X : Cx) (ρ : Rho) (ω : Om) (es : List Expr) (acc : Str) (Ψ : Str → Om → Prop) (ε : PsiX) : Prop := match es with
  | [] => Ψ acc ω
  | e :: es => EV X ρ ω e (fun d ω1 => ∃ y, d = .str y ∧ (acc ++ y).length ≤ sizeLine ∧ EJ X ρ ω1 es (acc ++ y) Ψ ε) ε
theorem pjs : ∀ es : List Expr, PJ X es (es.map (sE X))
  | [] => .nil
  | e :: es => .cons pE (pjs es)
theorem ej_run : ∀ {es : List Expr} {acc : Str} {ω : Om} {Ψ : Str → Om → Prop} (h : EJ X ρ ω es acc Ψ ε) {σ : L2.St} {P H : Hp} {as : List Addr} {Q : Str → Hp → Prop} (w : Ws X.K ω P H as) (en : Env X.K P as σ ρ) (xk : Xk X ω P H as σ ε)
    (q : ∀ o ω' P' H' as', Ws X.K ω' P' H' as' → Gr P H as P' H' as' → Ψ o ω' → Q o H'), tJs (es.map (sE X)) acc σ H Q
  | [], acc, ω, Ψ, h, σ, P, H, as, Q, w, en, xk, q => q acc ω P H as w .refl h
  | e :: es, acc, ω, Ψ, h, σ, P, H, as, Q, w, en, xk, q => by
    refine (show EV X ρ ω e (fun d ω1 => ∃ y, d = .str y ∧ (acc ++ y).length ≤ sizeLine ∧ EJ X ρ ω1 es (acc ++ y) Ψ ε) ε from h) σ P H as _ w en xk fun v d ω1 P1 H1 as1 w1 g1 a1 p => ?_
    obtain ⟨y, rfl, hz, p⟩ := p
    cases a1
    exact ⟨y, rfl, hz, ej_run p w1 (en.mono g1.p g1.a) (xk.later g1) fun o ω' P' H' as' w' g' k => q o ω' P' H' as' w' (g1.trans g') k⟩
theorem ev_fstr {v1 v2 : Expr} {rest : List Expr} (h : EJ X ρ ω (v1 :: v2 :: rest) Str.empty (fun y ω' => Ψ (.str y) ω') ε) : EV X ρ ω (.JoinedStr (v1 :: v2 :: rest) pos) Ψ ε := fun σ P H as Q w en xk q =>
  sE_of (pe_joined (pjs _)) (ej_run h w en xk fun o ω' P' H' as' w' g' k => q _ _ ω' P' H' as' w' g' (.str o) k)
theorem ev_fmt (h : EV X ρ ω e (fun d ω1 => (∃ y, d = .str y ∧ y.length ≤ sizeLine ∧ Ψ (.str y) ω1) ∨ ∃ i, d = .int i ∧ i.natAbs.log2 < 1920 ∧ Ψ (.str (toString i)) ω1) ε) : EV X ρ ω (.FormattedValue e (-1) none pos) Ψ ε := fun σ P H as Q w en xk q => by
  refine sE_of (pe_fmt pE) (h σ P H as _ w en xk fun v d ω1 P1 H1 as1 w1 g1 a1 p => ?_)
  rcases p with ⟨y, rfl, hz, p⟩ | ⟨i, rfl, hz, p⟩
  · cases a1; exact .inl ⟨y, rfl, hz, q _ _ ω1 P1 H1 as1 w1 g1 (.str y) p⟩
  · cases a1; exact .inr ⟨i, rfl, hz, q _ _ ω1 P1 H1 as1 w1 g1 (.str _) p⟩
def wipeR (ρ : Rho) : List Nat → Rho
  | [] => ρ
  | v :: vs => (wipeR ρ vs).set v none
theorem env_wipe {K : Fg} {P : Hp} {as : List Addr} {σ : L2.St} (en : Env K P as σ ρ) : ∀ vs : List Nat, Env K P as (wipe σ vs) (wipeR ρ vs)
  | [] => en
  | v :: vs => (env_wipe en vs).unset v
theorem wipe_at (σ : L2.St) : ∀ (vs : List Nat) (i : Nat), (wipe σ vs)[i]? = if i ∈ vs ∧ i < σ.length then some none else σ[i]?
  | [], i => by simp [wipe]
  | v :: vs, i => by
    unfold wipe
    by_cases e : v = i
    · subst e
      by_cases hl : v < σ.length
      · rw [List.getElem?_set_self (by rw [wipe_length]; exact hl)]; simp [hl]
      · rw [List.getElem?_eq_none (by rw [List.length_set, wipe_length]; omega)]
        simp [hl]
    · rw [List.getElem?_set_ne e, wipe_at σ vs i]
      have e' : ¬ i = v := fun z => e z.symm
      simp [e']
theorem wipe_set {σ : L2.St} {vs : List Nat} {j : Nat} {x : Option V} (hj : j ∈ vs) : wipe (σ.set j x) vs = wipe σ vs := by
  apply List.ext_getElem?
  intro i
  rw [wipe_at, wipe_at, List.length_set]
  by_cases e : j = i
  · subst e
    by_cases hl : j < σ.length
    · simp [hj, hl]
    · have : σ[j]? = none := List.getElem?_eq_none (by omega)
      simp [hl, this]
  · rw [List.getElem?_set_ne e]
theorem wipe_wipe {σ : L2.St} {vs : List Nat} : wipe (wipe σ vs) vs = wipe σ vs := by
  apply List.ext_getElem?
  intro i
  rw [wipe_at, wipe_length]
  by_cases h : i ∈ vs ∧ i < σ.length
  · rw [if_pos h, wipe_at, if_pos h]
  · rw [if_neg h]
abbrev Blk (X : Cx) (scope : Scope) (s : Shared) (H : Hp) (C : Addr) (cl : List (Str × Addr)) (fp : List Addr) : Cx := X.blk s H scope (compEnvC scope cl C X.env) fp
def F0 : PsiX := fun _ _ => False
theorem xk0 {scope : Scope} {s : Shared} {H' : Hp} {C : Addr} {cl : List (Str × Addr)} {fp : List Addr} {P H : Hp} {as : List Addr} {σ : L2.St} : Xk (Blk X scope s H' C cl fp) ω P H as σ F0 := ⟨fun _ _ _ _ => False, takes0, fun _ _ _ _ _ _ _ _ _ _ z => z.elim⟩
/-- the tests of a comprehension -/
def sTs (X : Cx) (scope : Scope) (ifs : List Expr) : TT := match ifs with
  | [] => tYes
  | c :: _ => fun σ H Q => ∀ s H0 C cl fp, sT (Blk X scope s H0 C cl fp) c σ H Q
theorem pTs {scope : Scope} {ifs : List Expr} (hi : ifs = [] ∨ ∃ c, ifs = [c]) (s : Shared) (H : Hp) (C : Addr) (cl : List (Str × Addr)) (fp : List Addr) : PTs (Blk X scope s H C cl fp) ifs (sTs X scope ifs) := by
  rcases hi with rfl | ⟨c, rfl⟩
  · exact pts_nil
  · exact pts_one ⟨fun pins s' σ H' Q I h => (h s H C cl fp).run pins s' I⟩
def ETs (X : Cx) (scope : Scope) (ρ : Rho) (ω : Om) (ifs : List Expr) (k : Bool → Om → Prop) : Prop := match ifs with
  | [] => k true ω
  | c :: _ => ∃ Θ : Bool → Om → Prop, (∀ s H C cl fp, ET (Blk X scope s H C cl fp) ρ ω c Θ F0) ∧ ∀ b ω', Θ b ω' → k b ω'
theorem ets_run {scope : Scope} {ifs : List Expr} {k : Bool → Om → Prop} (h : ETs X scope ρ ω ifs k) {σ : L2.St} {P H : Hp} {as : List Addr} {Q : Bool → Hp → Prop} (w : Ws X.K ω P H as) (en : Env X.K P as σ ρ)
    (q : ∀ b ω' P' H' as', Ws X.K ω' P' H' as' → Gr P H as P' H' as' → k b ω' → Q b H') : sTs X scope ifs σ H Q := by
  cases ifs with
  | nil => exact q true ω P H as w .refl h
  | cons c r =>
    obtain ⟨Θ, h1, h2⟩ := h
    intro s H0 C cl fp
    exact h1 s H0 C cl fp σ P H as Q w en xk0 fun b ω' P' H' as' w' g' t => q b ω' P' H' as' w' g' (h2 b ω' t)
/-- one turn of the element -/
def Elt (X : Cx) (scope : Scope) (ρ : Rho) (ω : Om) (elt : Expr) (ifs : List Expr) (I : List Dt → Om → Prop) (acc : List Dt) : Prop :=
  ETs X scope ρ ω ifs (fun k ω1 => if k = true then ∀ s H C cl fp, EV (Blk X scope s H C cl fp) ρ ω1 elt (fun y ω2 => acc.length < sizeLine ∧ I (acc ++ [y]) ω2) F0 else I acc ω1)
/-- the state within a comprehension: D is the new list -/
structure LcS (K : Fg) (P1 H1 : Hp) (as1 : List Addr) (D : Addr) (acc : List Dt) (ω' : Om) (P' H' : Hp) (as' : List Addr) : Prop where
  w : Ws K ω' P' H' as'
  g : Gr P1 H1 as1 P' H' as'
  d : ∃ vs, H' D = some (.lst vs) ∧ AtL K P' as' vs acc
  na : D ∉ as'
  np : P' D = none
theorem LcS.later {K : Fg} {P1 H1 : Hp} {as1 : List Addr} {D : Addr} {acc : List Dt} {ω' ω2 : Om} {P' H' P2 H2 : Hp} {as' as2 : List Addr} (x : LcS K P1 H1 as1 D acc ω' P' H' as') (w2 : Ws K ω2 P2 H2 as2) (g2 : Gr P' H' as' P2 H2 as2) : LcS K P1 H1 as1 D acc ω2 P2 H2 as2 := by
  obtain ⟨vs, hd, r⟩ := x.d
  refine ⟨w2, x.g.trans g2, ⟨vs, g2.h D _ hd x.na, r.mono g2.p g2.a⟩, fun z => ?_, g2.n D _ hd x.np x.na⟩
  have := g2.na D z x.na
  rw [hd] at this; cases this
theorem LcS.put {K : Fg} {P1 H1 : Hp} {as1 : List Addr} {D : Addr} {acc : List Dt} {ω' : Om} {P' H' : Hp} {as' : List Addr} {vs : List V} {v : V} {y : Dt} (x : LcS K P1 H1 as1 D acc ω' P' H' as') (hn : H1 D = none) (hd : H' D = some (.lst vs)) (av : At K P' as' v y) : LcS K P1 H1 as1 D (acc ++ [y]) ω' P' (upd H' D (.lst (vs ++ [v]))) as' := by
  obtain ⟨us, hd', r⟩ := x.d
  rw [hd] at hd'; cases hd'
  refine ⟨⟨fun b o e => ?_, x.w.nd, x.w.len, fun i o a h1 h2 => ?_⟩, ⟨x.g.p, x.g.a, fun b o e hb => ?_, x.g.n, x.g.na⟩, ⟨_, upd_same, r.snoc av⟩, x.na, x.np⟩
  · have ne : b ≠ D := fun z => by subst z; rw [x.np] at e; cases e
    rw [upd_ne ne]; exact x.w.sub b o e
  · have ne : a ≠ D := fun z => x.na (z ▸ List.mem_of_getElem? h2)
    exact (x.w.own i o a h1 h2).mono (Same.refl _) (List.prefix_refl _) id (fun u q => by rw [upd_ne ne]; exact q)
  · have ne : b ≠ D := fun z => by subst z; rw [hn] at e; cases e
    rw [upd_ne ne]; exact x.g.h b o e hb
theorem LcS.fin {K : Fg} {P1 H1 : Hp} {as1 : List Addr} {D : Addr} {acc : List Dt} {ω' : Om} {P' H' : Hp} {as' : List Addr} (x : LcS K P1 H1 as1 D acc ω' P' H' as') (hn : H1 D = none) : ∃ P2, Ws K ω' P2 H' as' ∧ Gr P1 H1 as1 P2 H' as' ∧ At K P2 as' (.ref D) (.lst acc) := by
  obtain ⟨vs, hd, r⟩ := x.d
  have s1 : Same P' (upd P' D (.lst vs)) := same_upd x.np
  refine ⟨upd P' D (.lst vs), ⟨fun b o e => ?_, x.w.nd, x.w.len, fun i o a h1 h2 => ?_⟩, ⟨x.g.p.trans s1, x.g.a, x.g.h, fun b o e hp hb => ?_, x.g.na⟩, .lst (.of upd_same) (r.mono s1 (List.prefix_refl _))⟩
  · by_cases z : b = D
    · subst z; rw [upd_same] at e; cases e; exact hd
    · rw [upd_ne z] at e; exact x.w.sub b o e
  · have ne : a ≠ D := fun z => x.na (z ▸ List.mem_of_getElem? h2)
    exact (x.w.own i o a h1 h2).mono s1 (List.prefix_refl _) (fun q => by rw [upd_ne ne]; exact q) (fun u q => q)
  · have ne : b ≠ D := fun z => by subst z; rw [hn] at e; cases e
    rw [upd_ne ne]; exact x.g.n b o e hp hb
/-- and as a list that will be changed -/
theorem LcS.finO {K : Fg} {P1 H1 : Hp} {as1 : List Addr} {D : Addr} {acc : List Dt} {ω' : Om} {P' H' : Hp} {as' : List Addr} (x : LcS K P1 H1 as1 D acc ω' P' H' as') (hn : H1 D = none) : Ws K (ω' ++ [.lst acc]) P' H' (as' ++ [D]) ∧ Gr P1 H1 as1 P' H' (as' ++ [D]) ∧ At K P' (as' ++ [D]) (.ref D) (.own ω'.length) := by
  obtain ⟨vs, hd, r⟩ := x.d
  have pr := List.prefix_append as' [D]
  refine ⟨⟨x.w.sub, ?_, by rw [List.length_append, List.length_append, x.w.len]; rfl, fun i o a h1 h2 => ?_⟩, ⟨x.g.p, x.g.a.trans pr, x.g.h, x.g.n, fun b hb hb' => ?_⟩, .own (by rw [← x.w.len]; simp)⟩
  · rw [List.nodup_append]
    exact ⟨x.w.nd, by simp, fun a ha b hb => by
      have e : b = D := by simpa using hb
      subst e
      intro z; subst z; exact x.na ha⟩
  · by_cases hi : i < as'.length
    · rw [List.getElem?_append_left hi] at h2
      rw [List.getElem?_append_left (by rw [← x.w.len]; exact hi)] at h1
      exact (x.w.own i o a h1 h2).mono (Same.refl _) pr id (fun v q => q)
    · rw [List.getElem?_append_right (by omega)] at h2
      rw [List.getElem?_append_right (by rw [← x.w.len]; omega), ← x.w.len] at h1
      cases hj : i - as'.length with
      | zero =>
        rw [hj] at h1 h2
        simp at h1 h2
        subst h1; subst h2
        exact ⟨x.np, vs, hd, r.mono (Same.refl _) pr⟩
      | succ j => rw [hj] at h2; simp at h2
  · rcases List.mem_append.mp hb with z | z
    · exact x.g.na b z hb'
    · have e : b = D := by simpa using z
      subst e; exact hn
/-- the loop of a comprehension, by its target's reading -/
theorem lc_run {elt tg iter : Expr} {ifs : List Expr} {scope : Scope} {vs : List Nat} {g : TG} {σ : L2.St} {P H : Hp} {as : List Addr} {Q : VK} {R : List Dt → Om → Prop} (tgt : Dt → Rho)
    (hgt : ∀ d ω' P' H' as' v K2, Ws X.K ω' P' H' as' → Env X.K P' as' (wipe σ vs) (wipeR ρ vs) → At X.K P' as' v d → (∀ σ2, wipe σ2 vs = wipe σ vs → Env X.K P' as' σ2 (tgt d) → K2 σ2 H') → g v (wipe σ vs) H' K2)
    (h : EI X ρ ω tg iter (fun items dv ω1 => ∃ I : Nat → List Dt → Om → Prop, I 0 [] ω1 ∧ (∀ i acc ω', I i acc ω' → dv ω') ∧ (∀ (i : Nat) d acc ω', items[i]? = some d → I i acc ω' → Elt X scope (tgt d) ω' elt ifs (I (i + 1)) acc) ∧ (∀ acc ω', I items.length acc ω' → R acc ω')) ε)
    (w : Ws X.K ω P H as) (en : Env X.K P as σ ρ) (xk : Xk X ω P H as σ ε) (q : ∀ D acc ω' P' H' as' P1 H1 as1, H1 D = none → Gr P H as P1 H1 as1 → LcS X.K P1 H1 as1 D acc ω' P' H' as' → R acc ω' → Q (.ref D) H') :
    tLc (sI X tg iter) g (sTs X scope ifs) (fun σ H Q => ∀ s H0 C cl fp, sE (Blk X scope s H0 C cl fp) elt σ H Q) vs σ H Q := by
  refine h σ P H as _ w en xk fun J items dv ω1 P1 H1 as1 w1 g1 it d1 k => ?_
  obtain ⟨I, h0, hd, turn, fin⟩ := k
  intro D hD
  obtain ⟨w1', g1'⟩ := w1.newH (o := .lst []) hD
  have nD := w1.fresh hD
  refine ⟨fun i m H' => m + i = items.length ∧ ∃ acc ω' P' as', LcS X.K P1 H1 as1 D acc ω' P' H' as' ∧ I i acc ω', ⟨items.length, by simp, [], ω1, P1, as1, ⟨w1', g1', ⟨[], upd_same, .nil⟩, nD.1, nD.2⟩, h0⟩, ?_⟩
  rintro i m H' ⟨hm, acc, ω', P', as', x, hi⟩
  obtain ⟨go, stop⟩ := it i ω' P' H' as' x.g.p x.g.a x.w (hd i acc ω' hi)
  by_cases hlt : i < items.length
  · obtain ⟨go1, yl⟩ := go items[i] (List.getElem?_eq_getElem hlt)
    refine .inr ⟨go1, fun H2 => ∃ acc2 ω2 P2 as2, LcS X.K P1 H1 as1 D acc2 ω2 P2 H2 as2 ∧ I (i + 1) acc2 ω2, fun H2 q2 => ⟨m - 1, by omega, by omega, q2⟩, fun v H2 hy => ?_⟩
    obtain ⟨P2, w2, g2, a2⟩ := yl v H2 hy
    have x2 := x.later w2 g2
    have g12 := g1.trans x2.g
    refine hgt items[i] ω' P2 H2 as' v _ w2 (env_wipe (en.mono g12.p g12.a) vs) a2 fun σ2 hw2 en2 => ⟨hw2, ?_⟩
    refine ets_run (turn i items[i] acc ω' (List.getElem?_eq_getElem hlt) hi) w2 en2 fun b ω3 P3 H3 as3 w3 g3 kk => ?_
    have x3 := x2.later w3 g3
    cases b with
    | false => exact iteF ⟨acc, ω3, P3, as3, x3, by simpa using kk⟩
    | true =>
      refine iteT fun s0 H0 C cl fp => ?_
      have kk' : ∀ s H C cl fp, EV (Blk X scope s H C cl fp) (tgt items[i]) ω3 elt (fun y ω2 => acc.length < sizeLine ∧ I (i + 1) (acc ++ [y]) ω2) F0 := by simpa using kk
      refine kk' s0 H0 C cl fp σ2 P3 H3 as3 _ w3 (en2.mono g3.p g3.a) xk0 fun y dy ω4 P4 H4 as4 w4 g4 a4 p4 => ?_
      have x4 := x3.later w4 g4
      obtain ⟨us, hus, rus⟩ := x4.d
      exact ⟨us, hus, by rw [rus.length]; exact p4.1, acc ++ [dy], ω4, P4, as4, x4.put hD hus a4, p4.2⟩
  · have e : i = items.length := by omega
    subst e
    exact .inl ⟨stop (Nat.le_refl _), q D acc ω' P' H' as' P1 H1 as1 hD g1 x (fin acc ω' hi)⟩
theorem tgt_name {vs : List Nat} {σ : L2.St} (j : Nat) (hj : j ∈ vs) : ∀ d ω' P' H' as' v K2, Ws X.K ω' P' H' as' → Env X.K P' as' (wipe σ vs) (wipeR ρ vs) → At X.K P' as' v d → (∀ σ2, wipe σ2 vs = wipe σ vs → Env X.K P' as' σ2 ((wipeR ρ vs).set j (some d)) → K2 σ2 H') → gName j v (wipe σ vs) H' K2 :=
  fun d ω' P' H' as' v K2 _ en av k => k _ (by rw [wipe_set hj, wipe_wipe]) (en.set j av)
theorem tgt_pair {vs : List Nat} {σ : L2.St} (j1 j2 : Nat) (h1 : j1 ∈ vs) (h2 : j2 ∈ vs) : ∀ d1 d2 ω' P' H' as' v K2, Ws X.K ω' P' H' as' → Env X.K P' as' (wipe σ vs) (wipeR ρ vs) → At X.K P' as' v (.tup [d1, d2]) →
    (∀ σ2, wipe σ2 vs = wipe σ vs → Env X.K P' as' σ2 (((wipeR ρ vs).set j1 (some d1)).set j2 (some d2)) → K2 σ2 H') → gTup X.K 2 (gCons (gName j1) (gCons (gName j2) gNil)) v (wipe σ vs) H' K2 :=
  fun d1 d2 ω' P' H' as' v K2 w en av k => by
    obtain ⟨a, us, rfl, hs, r⟩ := seqT w av
    obtain ⟨u1, u2, rfl, a1, a2⟩ := two_of r
    exact ⟨a, _, rfl, hs, rfl, _, _, rfl, _, _, rfl, rfl, k _ (by rw [wipe_set h2, wipe_set h1, wipe_wipe]) ((en.set j1 a1).set j2 a2)⟩
/-- [elt for x in iter (if ..)] -/
theorem ev_lc (j : Nat) {x : Str} {elt iter : Expr} {ifs : List Expr} {scope : Scope} {own : List (Str × Nat)} {tp : Pos} (ok : Cok X) (bo : BlkOk X.N X.env.scope scope own) (hj : j ∈ own.map (·.2)) (hif : ifs = [] ∨ ∃ c, ifs = [c])
    (h : EI X ρ ω (.Name x tp) iter (fun items dv ω1 => ∃ I : Nat → List Dt → Om → Prop, I 0 [] ω1 ∧ (∀ i acc ω', I i acc ω' → dv ω') ∧
      (∀ (i : Nat) d acc ω', items[i]? = some d → I i acc ω' → Elt X scope ((wipeR ρ (own.map (·.2))).set j (some d)) ω' elt ifs (I (i + 1)) acc) ∧ (∀ acc ω', I items.length acc ω' → Ψ (.lst acc) ω')) ε)
    (hg : ∀ (s : Shared) (H : Hp) (C : Addr) (cl : List (Str × Addr)) (fp : List Addr), PG (Blk X scope s H C cl fp) (.Name x tp) (gName j)) (hs : ∀ x, foldedSetIterable iter X.env x = pure x := by intro _; rfl) :
    EV X ρ ω (.ListComp elt [⟨.Name x tp, iter, ifs, 0⟩] scope pos) Ψ ε := fun σ P H as Q w en xk q => by
  refine sE_of (pe_lc (te := fun σ H Q => ∀ s H0 C cl fp, sE (Blk X scope s H0 C cl fp) elt σ H Q) ok.calm ok.nd pI bo hg (pTs hif) (fun s H C cl fp => ⟨fun pins s' σ' H' Q' I h => (h s H C cl fp).run pins s' I⟩) hs) ?_
  refine lc_run (R := fun acc ω' => Ψ (.lst acc) ω') (fun d => (wipeR ρ (own.map (·.2))).set j (some d)) (tgt_name j hj) h w en xk fun D acc ω' P' H' as' P1 H1 as1 hD g1 x p => ?_
  obtain ⟨P2, w2, g2, a2⟩ := x.fin hD
  exact q _ _ ω' P2 H' as' w2 (g1.trans g2) a2 p
/-- y = [elt for x in iter (if ..)], the statement -/
theorem es_setLc (i j : Nat) {x y : Str} {elt iter : Expr} {ifs : List Expr} {scope : Scope} {own : List (Str × Nat)} {tp py spos : Pos} (ok : Cok X) (bo : BlkOk X.N X.env.scope scope own) (hj : j ∈ own.map (·.2)) (hif : ifs = [] ∨ ∃ c, ifs = [c])
    (hsw : swapsWith (.ListComp elt [⟨.Name x tp, iter, ifs, 0⟩] scope pos) (some (.Name y py)) spos.line X.env = pure true)
    (h : EI X ρ ω (.Name x tp) iter (fun items dv ω1 => ∃ I : Nat → List Dt → Om → Prop, I 0 [] ω1 ∧ (∀ i acc ω', I i acc ω' → dv ω') ∧
      (∀ (i : Nat) d acc ω', items[i]? = some d → I i acc ω' → Elt X scope ((wipeR ρ (own.map (·.2))).set j (some d)) ω' elt ifs (I (i + 1)) acc) ∧ (∀ acc ω', I items.length acc ω' → Φ.nx (ρ.set i (some (.lst acc))) ω')) (fun y ω' => Φ.xc y ρ ω'))
    (hg : ∀ (s : Shared) (H : Hp) (C : Addr) (cl : List (Str × Addr)) (fp : List Addr), PG (Blk X scope s H C cl fp) (.Name x tp) (gName j)) (hy : X.N[i]? = some y := by rfl) (hyl : X.env.scope.names.lookup y = some .local := by rfl) (hs : ∀ x, foldedSetIterable iter X.env x = pure x := by intro _; rfl) :
    ES X ρ ω (.Assign [.Name y py] (.ListComp elt [⟨.Name x tp, iter, ifs, 0⟩] scope pos) spos) Φ := fun σ P H as D0 w en z => by
  refine sS_of (ps_setLc (te := fun σ H Q => ∀ s H0 C cl fp, sE (Blk X scope s H0 C cl fp) elt σ H Q) ok.calm ok.nd hy hyl hsw pI bo hg (pTs hif) (fun s H C cl fp => ⟨fun pins s' σ' H' Q' I h => (h s H C cl fp).run pins s' I⟩) hs) ?_
  refine lc_run (R := fun acc ω' => Φ.nx (ρ.set i (some (.lst acc))) ω') (fun d => (wipeR ρ (own.map (·.2))).set j (some d)) (tgt_name j hj) h w en (z.xk en) fun D acc ω' P' H' as' P1 H1 as1 hD g1 x p => ?_
  obtain ⟨P2, w2, g2, a2⟩ := x.fin hD
  exact z.nx _ _ ω' P2 H' as' w2 (g1.trans g2) ((en.mono (g1.trans g2).p (g1.trans g2).a).set i a2) p
end
end NM
namespace PySem.W
open PySem
theorem nm_ifBoundB {M : Model} {A : Around} {E : Value → Shared → Prop} {s : Shared} {K : Frag} {x C : Addr} {ox : Obj} {od : Option Obj} {name : Str} {id : String} {args : List Value} {Q : Option Value → Shared → Prop} (X : K.In s.heap) (I : InstAt s.heap x ox C od) (hs : findIn K (.ref C) name = some (some (.builtin id)))
    (hb : ∀ self, bindSpecial (.builtin id) self = pure (.builtin id, [self]))
    (h : wpAny M A (call (.builtin id) (.ref x :: args)) (fun v => Q (some v)) E s) : wpAny M A (callSpecialIfBound? (.ref x) name args) Q E s := by
  simp only [callSpecialIfBound?, bindSpecialIfBound?]
  refine wpAny_holding (wpAny_bind (wpAny_bind (wpAny_bind (I.type.here ((looks_findIn X hs).here ?_)))))
  refine wpAny_bind (wpAny_askSetting (wpAny_ite ?_))
  have fin : wpAny M A (call (.builtin id) ([.ref x] ++ args) >>= fun v => pure (some v)) Q E s := wpAny_bind (wpAny_mono h (fun v s' h' => wpAny_pure h') fun _ _ h' => h')
  split
  · exact wpAny_bind ((Looks.of_pure (hb _)).here (wpAny_pure (by exact fin)))
  · exact wpAny_tryCatch (wpAny_bind ((Looks.of_pure (hb _)).here (wpAny_pure (by exact fin))))
theorem nm_ne {prog : Program} {w : World} {A : Around} {E : Value → Shared → Prop} {s : Shared} {K : Frag} {x C f : Addr} {ox : Obj} {od : Option Obj} {b : Value} {Q : Value → Shared → Prop} (hu : A.in1.units < cLine) (X : K.In s.heap) (I : InstAt s.heap x ox C od) (hm : mroIn K C (.type "object") = some true)
    (he : findIn K (.ref C) "__eq__" = some (some (.ref f))) (hf : isFn K (.ref f) = true) (h : wpAny (model prog w) A.in1 (call (.ref f) [.ref x, b]) (fun v s' => ∃ k, v = .bool k ∧ Q (.bool (!k)) s') E s) :
    wpAny (model prog w) A (call (.builtin "object.__ne__") [.ref x, b]) Q E s := by
  refine wpAny_call (codeAny_call_builtin PySem.F.cmp_object.ne.plain PySem.F.cmpEntry_ne (check_slot (i := "object.__ne__") (owner := "object") (n := "__ne__") (by decide +kernel) (by decide +kernel) (I.type.andThen (looks_mroIn X hm)) (PySem.F.cmpArgs_ne _ _) ?_))
  unfold Builtin.«object.__ne__»
  refine wpAny_bind (m := slotArgs "__ne__" 1 _) (wpAny_pure ?_)
  refine wpAny_bind (m := cRoomFor _ _) (wpAny_cRoomFor hu ?_)
  refine wpAny_bind (m := callSpecialIfBound? (.ref x) (Str.ofString "__eq__") _) (ifBound_K X I he hf (wpAny_mono h (fun r s' hq => ?_) fun _ _ y => y))
  obtain ⟨k, rfl, hq⟩ := hq
  refine wpAny_bind (m := truthy (.bool k)) (wpAny_truthy_bool ?_)
  exact wpAny_pure hq
theorem nm_neCmp {prog : Program} {w : World} {A : Around} {E : Value → Shared → Prop} {s : Shared} {K : Frag} {x C f : Addr} {ox : Obj} {od : Option Obj} {b tb : Value} {Q : Value → Shared → Prop} (hu : A.in1.units < cLine) (X : K.In s.heap) (I : InstAt s.heap x ox C od) (hm : mroIn K C (.type "object") = some true)
    (hb : Looks (model prog w) s.heap (typeOf b) tb) (hn : notFirst K C tb = true) (hne : findIn K (.ref C) "__ne__" = some (some (.builtin "object.__ne__")))
    (he : findIn K (.ref C) "__eq__" = some (some (.ref f))) (hf : isFn K (.ref f) = true) (h : wpAny (model prog w) A.in1 (call (.ref f) [.ref x, b]) (fun v s' => ∃ k, v = .bool k ∧ Q (.bool (!k)) s') E s) :
    wpAny (model prog w) A (richCompare .NotEq (.ref x) b) Q E s := by
  have one : wpAny (model prog w) A (tryCompare (.ref x) (cmpInfo .NotEq).2.1 b) (fun r s' => ∃ v, r = some v ∧ Q v s') E s := by
    unfold tryCompare
    refine wpAny_bind (nm_ifBoundB X I hne PySem.F.cmp_object.ne.bind (nm_ne hu X I hm he hf (wpAny_mono h (fun v s' hv => ?_) fun _ _ e => e)))
    obtain ⟨k, rfl, hq⟩ := hv
    exact ⟨k, rfl, wpAny_pure ⟨_, rfl, hq⟩⟩
  unfold richCompare
  simp only [oneThing_ref]
  refine wpAny_holding (wpAny_bind (wpAny_cRoomFor (Nat.lt_of_succ_lt hu) ?_))
  refine wpAny_bind (I.type.here (wpAny_bind (hb.here ?_)))
  split
  · rename_i q
    have e : subIn K tb (.ref C) = some false := by
      rcases Bool.or_eq_true_iff.mp hn with e | e
      · rw [beq_iff_eq.mp e] at q; simp at q
      · exact beq_iff_eq.mp e
    refine wpAny_bind ((looks_subIn X e).here ?_)
    simp only [Bool.false_eq_true, if_false]
    refine wpAny_bind (wpAny_mono one (fun r s' z => ?_) fun _ _ e => e)
    obtain ⟨v, rfl, hq⟩ := z
    exact wpAny_pure hq
  · refine wpAny_bind (wpAny_pure ?_)
    simp only [Bool.false_eq_true, if_false]
    refine wpAny_bind (wpAny_mono one (fun r s' z => ?_) fun _ _ e => e)
    obtain ⟨v, rfl, hq⟩ := z
    exact wpAny_pure hq
end PySem.W
namespace NM
open PySem L2 PySem.Spec PyProof.Rows
section
variable {X : Cx} {ρ : Rho} {ω : Om} {Ψ : PsiE} {ε : PsiX} {Φ : Post} {e a b c : Expr} {pos : Pos}
/-- a value's type as the machine looks it up -/
theorem looks_ty {pins : List (Addr × Obj)} {σ : L2.St} {H : Hp} {s : Shared} {v : V} {u t : Value} (I : Inv X pins σ H s) (r : RelV v u) (ty : TyX X.K H v t) : PySem.W.Looks (model X.prog X.w) s.heap (typeOf u) t := by
  cases ty with
  | base b =>
    cases b with
    | non => cases r; exact PySem.W.Looks.of_pure rfl
    | bl y => cases r; exact PySem.W.Looks.of_pure rfl
    | int i => obtain ⟨tk, rfl⟩ := r; exact PySem.W.Looks.of_pure rfl
    | str y => obtain ⟨tk, rfl⟩ := r; exact PySem.W.Looks.of_pure rfl
    | flt y => obtain ⟨tk, rfl⟩ := r; exact PySem.W.Looks.of_pure rfl
    | lst ea => cases r; obtain ⟨_, _, n, _, h1⟩ := I.hok _ _ ea; exact fun A Q E s k q => wpAny_typeOf_ref (k _ _ h1) q
    | frz ea => cases r; obtain ⟨_, _, _, n, _, h1⟩ := I.hok _ _ ea; exact fun A Q E s k q => wpAny_typeOf_ref (k _ _ h1) q
    | tup ea => cases r; obtain ⟨_, _, _, o, h1, h2, _⟩ := I.hok _ _ ea; exact fun A Q E s k q => wpAny_typeOf_ref (k _ _ h1) (by rw [h2]; exact q)
    | dK ea => cases r; obtain ⟨_, _, vs, _, o, es, ep, h1, h2, _⟩ := I.hok _ _ ea; exact fun A Q E s k q => wpAny_typeOf_ref (k _ _ h1) (by rw [h2.1]; exact q)
    | dT ea => cases r; obtain ⟨_, _, vs, _, o, es, ep, h1, h2, _⟩ := I.hok _ _ ea; exact fun A Q E s k q => wpAny_typeOf_ref (k _ _ h1) (by rw [h2.1]; exact q)
    | ins ea cl ha hn htk hm =>
      cases r
      obtain ⟨mA, O, _⟩ := ins_get I.hok ea
      obtain ⟨od, J, _⟩ := O.look
      exact J.type
  | byt y => obtain ⟨tk, rfl⟩ := r; exact PySem.W.Looks.of_pure rfl
  | set ea => cases r; obtain ⟨o, _, _, _, h1, h2, _⟩ := I.hok _ _ ea; exact fun A Q E s k q => wpAny_typeOf_ref (k _ _ h1) (by rw [h2.1]; exact q)
  | kList e c => cases r; exact fun A Q E s k q => wpAny_typeOf_ref (k _ _ (I.kIn _ _ e)) (by rw [c]; exact q)
  | kTuple e c => cases r; exact fun A Q E s k q => wpAny_typeOf_ref (k _ _ (I.kIn _ _ e)) (by rw [c]; exact q)
  | kDict e c => cases r; exact fun A Q E s k q => wpAny_typeOf_ref (k _ _ (I.kIn _ _ e)) (by rw [c]; exact q)
  | fTuple ea => cases r; obtain ⟨_, _, _, _, o, h1, h2, _⟩ := I.hok _ _ ea; exact fun A Q E s k q => wpAny_typeOf_ref (k _ _ h1) (by rw [h2]; exact q)
  | fDict ea => cases r; obtain ⟨_, _, _, vs, _, o, es, ep, h1, h2, _⟩ := I.hok _ _ ea; exact fun A Q E s k q => wpAny_typeOf_ref (k _ _ h1) (by rw [h2.1]; exact q)
/-- an own class's method called by values, below an operation -/
theorem run_at {f : Addr} {fd : FuncData} {ps : List Str} {n k : Nat} {sp : Sp} {g : List Value → List Value → List Value} {gV : List V → List V → List V} {pins : List (Addr × Obj)} {σ : L2.St} {H : Hp} {s : Shared} {Q : VK} {us : List Value} {vs : List V} {W : WX} {A : Around} (F : FnG X.prog X.w X.K X.mg X.base k f fd ps sp) (hr : Rm k A) (hA : A.frames = X.A.frames) (hb : KBn X.K fd ps n [] g gV)
    (I : Inv X pins σ H s) (tk : Takes X W) (r : Vals vs us) (l1 : vs.length = n) (h : sp (gV vs []) H Q (fun cls dx H' => W cls dx σ H')) : wpAny (model X.prog X.w) A (call (.ref f) us) (EP X pins σ Q) X.xe s := by
  have r2 := hb.rel r (Paired.nil : Vals [] [])
  have e0 : Env0 X.prog X.w X.K X.mg X.base A X.stack s H := by
    have e := I.env0
    exact ⟨by rw [hA]; exact e.frames, e.mod, e.bs, e.bsz, e.funs, e.frf, e.hok, e.bare⟩
  refine wpAny_call (codeAny_mono (F.run A X.stack s H ⟨us, []⟩ (g us []) (gV vs []) Q _ hr e0 (hb.to s us [] I.kIn (r.length.symm.trans l1) rfl) r2 h) fun r s' hq => ?_)
  cases r with
  | error e => exact tk _ _ (XE.of_call I (fun _ _ _ h => h) hq)
  | ok fl =>
    cases fl with
    | ret u => exact I.after hq
    | next => exact False.elim hq
    | brk => exact False.elim hq
    | cont => exact False.elim hq
/-- a class with an own special method -/
structure SpD (X : Cx) (C : Addr) (m : Str) (n : Nat) (gD : List Dt → List Dt → List Dt) (sp : DSp) : Prop where
  ex : ∃ f fd k ps, PySem.W.findIn X.K (.ref C) m = some (some (.ref f)) ∧ PySem.W.isFn X.K (.ref f) = true ∧ FnP X.prog X.w X.K X.mg X.base k f fd ps sp ∧ KB X.K fd ps n [] gD ∧ Rm (k + 3) X.A
theorem Rm.in1 {k : Nat} {A : Around} (x : Rm (k + 1) A) : Rm k A.in1 := ⟨x.r.in1, x.g⟩
/-- x == y by an own __eq__ of x's class -/
theorem od_eqO {x y : Dt} {C : Addr} {ns : List Str} {ds : List Dt} {ty : Value} {gD : List Dt → List Dt → List Dt} {sp : DSp} (ob : Ob ω x C ns ds) (S : SpD X C "__eq__" 2 gD sp) (hy : TyD X.K ω y ty) (hn : PySem.W.notFirst X.K C ty = true)
    (h : sp (gD [x, y] []) ω (fun d ω' => ∃ k, d = .bl k ∧ Ψ d ω') ε) : OD X (compareOp .Eq) x y ω Ψ ε := fun σ vx vy P H as Q w ax ay xk q => .mk fun pins s v u I rx ry => by
  obtain ⟨f, fd, k, ps, hs, hf, F, hb, hr⟩ := S.ex
  obtain ⟨g, gV, hb1, hb2⟩ := hb.ex
  obtain ⟨a, dx, fs, rfl, h1, e1, r1⟩ := ob_at w ob ax
  cases rx
  obtain ⟨mA, J, _⟩ := ins_get I.hok h1
  obtain ⟨od, J, _⟩ := J.look
  obtain ⟨m, hF⟩ := I.fr
  obtain ⟨W, tk, z⟩ := lift_of (σ := σ) (Q := fun v H' => (∃ k, v = .bl k) ∧ Q v H') w (hb2 (.cons ax (.cons ay .nil)) .nil) xk h fun v d ω' P' H' as' w' g' a' p => by
    obtain ⟨k, rfl, p⟩ := p
    cases a'
    exact ⟨⟨k, rfl⟩, q _ _ ω' P' H' as' w' g' (.bl k) p⟩
  refine PySem.W.cmp_K (op := .Eq) (tb := ty) hr.r.units0 hF I.ok.mod.kin J (looks_ty I ry (tyx_at w hy ay)) hn hs hf ?_
  refine wpAny_mono (run_at (us := [.ref a, u]) (vs := [.ref a, vy]) F.ok (hr.mono (by omega)) rfl hb1 I tk (.cons rfl (.cons ry .nil)) rfl z) (fun v s' hv => ?_) fun _ _ x => x
  obtain ⟨v', H', I', rv, ⟨k, rfl⟩, qq⟩ := hv
  cases rv
  exact ⟨.bl k, H', I', rfl, qq⟩
/-- x != y where the class has an own __eq__ alone -/
theorem od_neO {x y : Dt} {C : Addr} {ns : List Str} {ds : List Dt} {ty : Value} {gD : List Dt → List Dt → List Dt} {sp : DSp} (ob : Ob ω x C ns ds) (S : SpD X C "__eq__" 2 gD sp) (hne : PySem.W.findIn X.K (.ref C) "__ne__" = some (some (.builtin "object.__ne__"))) (hm : PySem.W.mroIn X.K C (.type "object") = some true)
    (hy : TyD X.K ω y ty) (hn : PySem.W.notFirst X.K C ty = true)
    (h : sp (gD [x, y] []) ω (fun d ω' => ∃ k, d = .bl k ∧ Ψ (.bl (!k)) ω') ε) : OD X (compareOp .NotEq) x y ω Ψ ε := fun σ vx vy P H as Q w ax ay xk q => .mk fun pins s v u I rx ry => by
  obtain ⟨f, fd, k, ps, hs, hf, F, hb, hr⟩ := S.ex
  obtain ⟨g, gV, hb1, hb2⟩ := hb.ex
  obtain ⟨a, dx, fs, rfl, h1, e1, r1⟩ := ob_at w ob ax
  cases rx
  obtain ⟨mA, J, _⟩ := ins_get I.hok h1
  obtain ⟨od, J, _⟩ := J.look
  obtain ⟨W, tk, z⟩ := lift_of (σ := σ) (Q := fun v H' => ∃ k, v = .bl k ∧ Q (.bl (!k)) H') w (hb2 (.cons ax (.cons ay .nil)) .nil) xk h fun v d ω' P' H' as' w' g' a' p => by
    obtain ⟨k, rfl, p⟩ := p
    cases a'
    exact ⟨k, rfl, q _ _ ω' P' H' as' w' g' (.bl _) p⟩
  refine PySem.W.nm_neCmp (tb := ty) hr.in1.r.units0 I.kIn J hm (looks_ty I ry (tyx_at w hy ay)) hn hne hs hf ?_
  refine wpAny_mono (run_at (us := [.ref a, u]) (vs := [.ref a, vy]) F.ok (hr.in1.mono (by omega)) rfl hb1 I tk (.cons rfl (.cons ry .nil)) rfl z) (fun v s' hv => ?_) fun _ _ x => x
  obtain ⟨v', H', I', rv, k, rfl, qq⟩ := hv
  cases rv
  exact ⟨k, rfl, .bl (!k), H', I', rfl, qq⟩
/-- str(x) by an own __str__ -/
theorem cd_strO {x : Dt} {C : Addr} {ns : List Str} {ds : List Dt} {gD : List Dt → List Dt → List Dt} {sp : DSp} (ob : Ob ω x C ns ds) (S : SpD X C "__str__" 1 gD sp)
    (h : sp (gD [x] []) ω (fun d ω' => ∃ t, d = .str t ∧ Ψ d ω') ε) : CD X (.type "str") [x] ω Ψ ε := fun σ vs P H as Q w al xk q => .mk fun pins s us I r => by
  obtain ⟨f, fd, k, ps, hs, hf, F, hb, hr⟩ := S.ex
  obtain ⟨g, gV, hb1, hb2⟩ := hb.ex
  obtain ⟨v, rfl, av⟩ := one_of al
  obtain ⟨a, dx, fs, rfl, h1, e1, r1⟩ := ob_at w ob av
  obtain ⟨u, rfl, ru⟩ := Vals.one r
  cases ru
  obtain ⟨mA, J, _⟩ := ins_get I.hok h1
  obtain ⟨od, J, _⟩ := J.look
  obtain ⟨W, tk, z⟩ := lift_of (σ := σ) (Q := fun v H' => (∃ k, v = .str k) ∧ Q v H') w (hb2 (.cons av .nil) .nil) xk h fun v d ω' P' H' as' w' g' a' p => by
    obtain ⟨k, rfl, p⟩ := p
    cases a'
    exact ⟨⟨k, rfl⟩, q _ _ ω' P' H' as' w' g' (.str k) p⟩
  refine PySem.W.kso_call hr.in1.in1.r.units0 I.kIn J hs hf ?_
  refine wpAny_mono (run_at (us := [.ref a]) (vs := [.ref a]) F.ok (hr.in1.in1.mono (by omega)) rfl hb1 I tk (.cons rfl .nil) rfl z) (fun v s' hv => ?_) fun _ _ x => x
  obtain ⟨v', H', I', rv, ⟨k, rfl⟩, qq⟩ := hv
  obtain ⟨t, rfl⟩ := rv
  exact ⟨.str k, H', I', ⟨t, rfl⟩, qq⟩
/-- str(text) -/
theorem cd_str_str {x : Str} (h : Ψ (.str x) ω) : CD X (.type "str") [.str x] ω Ψ ε := cd_of SkE.call_str_str fun vs P H as Q w al k => by
  obtain ⟨v, rfl, av⟩ := one_of al
  cases av
  exact ⟨x, rfl, k _ _ ω P H as w .refl (.str _) h⟩
theorem reads_repr {pins : List (Addr × Obj)} {σ : L2.St} {H : Hp} {s : Shared} {v : V} {u : Value} {p : PyData} {Q : VK} (hg : X.A.guards = some []) (hu : X.A.units + 64 < cLine) (I : Inv X pins σ H s) (r : RelV v u) (d : Dp X.K H v p) (hs : p.showable = true) (hd : p.hasDict = false) (hdp : p.depth ≤ 60) (hz : p.shown.length ≤ sizeLine)
    (q : Q (.str p.shown) H) : wpAny (model X.prog X.w) X.A (call (.builtin "repr") [u]) (EP X pins σ Q) X.xe s := by
  obtain ⟨as, rd⟩ := Dp.reads I p v u d r
  cases rd with
  | none => exact PySem.P.repr_of_none ⟨.str _, H, I.tok _, ⟨_, rfl⟩, q⟩
  | bool b => exact PySem.P.repr_of_bool ⟨.str _, H, I.tok _, ⟨_, rfl⟩, q⟩
  | int i t => exact PySem.P.repr_of_int (by simpa [PyData.showable] using hs) ⟨.str _, H, I.tok _, ⟨_, rfl⟩, q⟩
  | str x t => exact PySem.P.repr_of_str ⟨.str _, H, I.tok _, ⟨_, rfl⟩, q⟩ hz
  | list h1 h2 h3 h4 => exact repr_of_reads' (.list h1 h2 h3 h4) hs (PyData.noDict_hsm hd) hg (by omega) (fun _ _ e => e) (fun h' u tk hk => ⟨.str _, H, I.kept hk, ⟨_, rfl⟩, q⟩) hz
  | tuple h1 h2 h3 h4 => exact repr_of_reads' (.tuple h1 h2 h3 h4) hs (PyData.noDict_hsm hd) hg (by omega) (fun _ _ e => e) (fun h' u tk hk => ⟨.str _, H, I.kept hk, ⟨_, rfl⟩, q⟩) hz
  | dict => cases d
theorem cd_repr {x : Dt} {p : PyData} (hg : X.A.guards = some []) (hu : X.A.units + 64 < cLine) (hp : Py ω x p) (hs : p.showable = true) (hd : p.hasDict = false) (hdp : p.depth ≤ 60) (hz : p.shown.length ≤ sizeLine) (h : Ψ (.str p.shown) ω) : CD X (.builtin "repr") [x] ω Ψ ε := fun σ vs P H as Q w al xk q => .mk fun pins s us I r => by
  obtain ⟨v, rfl, av⟩ := one_of al
  obtain ⟨u, rfl, ru⟩ := Vals.one r
  exact reads_repr hg hu I ru (hp.dp w av) hs hd hdp hz (q _ _ ω P H as w .refl (.str _) h)
end
end NM
namespace NM
open PySem L2 PySem.Spec PyProof.Rows
/-- what is asked of the law's def: the script's ints in, True out -/
def spLaw (n : Nat) : DSp := fun ds ω Ψ _ => ∃ ns : List Int, ds = [.lst (ns.map Dt.int)] ∧ ns.length ≤ n ∧ ω = [] ∧ ∀ ω', Ψ (.bl true) ω'
theorem ints_at {K : Fg} {P : Hp} {as : List Addr} : ∀ ns : List Int, AtL K P as (ns.map V.int) (ns.map Dt.int)
  | [] => .nil
  | n :: ns => .cons (.int n) (ints_at ns)
/-- the abstract heap that tracks the script alone, or nothing -/
def scriptH (a : Addr) (vs : List Value) (ns : List Int) : Hp := fun b => if b = a then some (.frz { cls := .type "list", data := .seq vs.toArray } (.lst (ns.map V.int))) else none
section
variable {P : Program} {w : World} {K : Fg} {mg mb : Str → Option Value} {k : Nat} {fa a : Addr} {fd : FuncData} {x : Str} {s₁ : Shared} {vs : List Value} {ns : List Int} {n : Nat}
/-- from an abstract heap that tracks at most the script -/
theorem law_core (KX : K.In s₁.heap) (hns : s₁.heap.Ns mainGlobals mg) (hb : s₁.heap.Ns builtinsNs mb) (hbb : ∀ x : Str, x ≠ "__name__" → mb x = bootBuiltins x) (hlim : s₁.heap.NoLimit) (hg : s₁.gens = #[])
    (ha : s₁.heap.get? a = some { cls := .type "list", data := .seq vs.toArray }) (hr : Rm k callerA) (hn : ns.length ≤ n)
    (F : ∀ base : Heap, K.In base → base.Ns mainGlobals mg → FnG P w K mg base k fa fd [x] (lift K (spLaw n))) (hbind : ∀ (s : Shared) (u : Value), BindsTo s fd ⟨[u], []⟩ [(x, u)])
    (H : Hp) (hO : ∀ b o, H b = some o → b = a ∧ ∃ u, o = .frz { cls := .type "list", data := .seq vs.toArray } u) (hS : SqL K H a (ns.map V.int)) (hok : HOk P w H s₁.heap) (hK : H a ≠ none → K.lookup a = none) :
    codeAny (model P w) callerA (.call (.ref fa) ⟨[.ref a], []⟩) (fun r s' => r = .ok (.ret (.bool true)) ∧ OldK s₁.heap s'.heap ∧ s'.os = s₁.os ∧ AllBare s'.gens) s₁ := by
  have off : ∀ {b : Addr} {o : Obj} {es : Array DictEntry} {ep : Nat}, s₁.heap.get? b = some o → o.data = .dict es ep → H b = none := fun {b o es ep} e d => by
    cases q : H b with
    | none => rfl
    | some u =>
      obtain ⟨rfl, _⟩ := hO b u q
      rw [ha] at e
      cases e
      have d' : Data.seq vs.toArray _ = Data.dict es ep := d
      cases d'
  have nsK : ∀ {b : Addr} {m : Str → Option Value}, s₁.heap.Ns b m → (hidT s₁.heap H).Ns b m := fun {b m} z => let ⟨o, es, ep, e, d, r⟩ := z; ⟨o, es, ep, hidT_get e (off e d), d, r⟩
  have hKb : K.In (hidT s₁.heap H) := fun b o e => hidT_get (KX b o e) (by
    cases q : H b with
    | none => rfl
    | some u =>
      obtain ⟨rfl, _⟩ := hO b u q
      rw [hK (by rw [q]; simp)] at e
      cases e)
  have hM : Mod K mg (hidT s₁.heap H) := ⟨hKb, nsK hns, ⟨mb, nsK hb, hbb⟩, let ⟨mc, h1, h2⟩ := hlim; ⟨mc, nsK h1, h2⟩⟩
  have e0 : Env0 P w K mg (hidT s₁.heap H) callerA [] s₁ H := ⟨rfl, hM, fun b o e => of_hidT e, Nat.le_of_eq (hidT_size _ _), trivial, (fun b z => absurd (show b ∈ ([] : List Addr) from z) (by simp)), hok, .of_eq hg⟩
  have w0 : Ws K [] H H [] := ⟨Same.refl _, List.nodup_nil, rfl, fun i o a h => by simp at h⟩
  have hl : lift K (spLaw n) [.ref a] H (fun v _ => v = .bl true) (fun _ _ _ => False) :=
    ⟨[.lst (ns.map Dt.int)], [], H, [], (fun d _ => d = .bl true), (fun _ _ => False), w0, .cons (.lst hS (ints_at ns)) .nil, ⟨ns, rfl, hn, rfl, fun _ => rfl⟩,
      (fun v d ω' P' H' as' _ _ a' e => by subst e; cases a'; rfl), fun _ _ _ _ _ _ _ _ _ _ z => z⟩
  refine codeAny_mono ((F _ hKb (nsK hns)).run callerA [] s₁ H ⟨[.ref a], []⟩ [.ref a] [.ref a] _ _ hr e0 (hbind s₁ (.ref a)) (.cons rfl .nil) hl) fun r s' h => ?_
  cases r with
  | error e =>
    obtain ⟨_, _, _, _, _, _, _, _, _, _, _, _, z⟩ := h
    exact z.elim
  | ok fl =>
    cases fl with
    | ret u =>
      obtain ⟨v, H', os, bare, un, hok', r', q⟩ := h
      have q' : v = .bl true := q
      subst q'
      obtain rfl : u = Value.bool true := r'
      refine ⟨rfl, OldK.of_keep fun b o e => ?_, os, bare⟩
      cases q : H b with
      | none => exact un.keep b o e q (fun z => absurd (show b ∈ ([] : List Addr) from z) (by simp)) (by simp)
      | some u =>
        obtain ⟨rfl, y, rfl⟩ := hO b u q
        obtain ⟨e1, _⟩ := hok _ _ q
        obtain ⟨e2, _⟩ := hok' _ _ (un.frzs _ _ _ q)
        rw [e] at e1
        cases e1
        exact e2
    | _ => exact False.elim h
theorem law_callG (KX : K.In s₁.heap) (hns : s₁.heap.Ns mainGlobals mg) (hb : s₁.heap.Ns builtinsNs mb) (hbb : ∀ x : Str, x ≠ "__name__" → mb x = bootBuiltins x) (hlim : s₁.heap.NoLimit) (hg : s₁.gens = #[])
    (ha : s₁.heap.get? a = some { cls := .type "list", data := .seq vs.toArray }) (hi : IntsAre vs ns) (hl : ns.length ≤ sizeLine) (hr : Rm k callerA) (hn : ns.length ≤ n)
    (F : ∀ base : Heap, K.In base → base.Ns mainGlobals mg → FnG P w K mg base k fa fd [x] (lift K (spLaw n))) (hbind : ∀ (s : Shared) (u : Value), BindsTo s fd ⟨[u], []⟩ [(x, u)]) :
    codeAny (model P w) callerA (.call (.ref fa) ⟨[.ref a], []⟩) (fun r s' => r = .ok (.ret (.bool true)) ∧ OldK s₁.heap s'.heap ∧ s'.os = s₁.os ∧ AllBare s'.gens) s₁ := by
  have rv := vals_ints hi
  cases hk : K.lookup a with
  | some o =>
    have e := KX a o hk
    rw [ha] at e
    cases e
    exact law_core KX hns hb hbb hlim hg ha hr hn F hbind (fun _ => none) (fun b o z => nomatch z) (.inr ⟨_, vs.toArray, _, hk, rfl, rfl, rfl, by rw [List.size_toArray, hi.length]; exact hl, by simpa using rv⟩) (fun b o z => nomatch z) (fun z => absurd rfl z)
  | none =>
    refine law_core KX hns hb hbb hlim hg ha hr hn F hbind (scriptH a vs ns) (fun b o z => ?_) (.inl (.inr ⟨{ cls := .type "list", data := .seq vs.toArray }, if_pos rfl⟩)) (fun b o z => ?_) (fun _ => hk)
    · unfold scriptH at z
      split at z
      · rename_i q
        cases z
        exact ⟨q, _, rfl⟩
      · cases z
    · unfold scriptH at z
      split at z
      · rename_i q
        cases z
        subst q
        exact ⟨ha, by rw [List.length_map]; exact hl, vs, _, rv, ha⟩
      · cases z
end
/-- the goal that k_head leaves -/
theorem walkG {l : PySem.W.OpenLaw} {n k : Nat} {q : Program} {loose : List Str} {XP : (Str → Option Value) → Heap → Prop} {YP : World → Heap → Prop} {d : DefRec} {K : Params → Fg} {x : Str}
    (hn : l.most = some n) (hn2 : n ≤ sizeLine) (hdf : d.params.defaults = []) (hr : Rm k callerA)
    (hY : ∀ (w : World) (h : Heap), YP w h → (K w.params).In h)
    (F : ∀ (w : World) (mg : Str → Option Value) (fa : Addr) (h : Heap), (K w.params).In h → h.Ns mainGlobals mg → mg d.name = some (.ref fa) →
      ∃ fd : FuncData, (∀ (s : Shared) (u : Value), BindsTo s fd ⟨[u], []⟩ [(x, u)]) ∧
        ∀ base : Heap, (K w.params).In base → base.Ns mainGlobals mg → FnG l.prog w (K w.params) mg base k fa fd [x] (lift (K w.params) (spLaw n))) :
    PySem.W.WalkO q loose XP YP l.row.toRowW d [] (fun f vs => PySem.call f vs) := by
  refine Att.attach_call hn hdf fun w s₀ s₁ mg mb fa o pm cd doc a vs ns G Y ho hd hcd hmg hobj hints hlen hg => ?_
  obtain ⟨fd, hb, hF⟩ := F w mg fa _ (hY w _ Y) G.T.g hmg
  exact law_callG (hY w _ Y) G.T.g G.T.b G.T.builtins G.T.nolimit hg hobj hints (Nat.le_trans hlen hn2) hr hlen hF hb
end NM
namespace NM
open PySem L2 PySem.Spec PyProof.Rows
/-- a function of the module, by its name -/
structure GF (P : Program) (w : World) (K : Fg) (mg : Str → Option Value) (base : Heap) (x : Str) (k n : Nat) (sp : DSp) : Prop where
  ex : ∃ f fd ps, mg x = some (.ref f) ∧ FnP P w K mg base k f fd ps sp ∧ KB K fd ps n [] gAll
theorem ev_fn {X : Cx} {ρ : Rho} {ω : Om} {Ψ : PsiE} {ε : PsiX} {pos : Pos} {e : Expr} {x : Str} {p : Pos} {es : List Expr} {n k : Nat} {sp : DSp} (G : GF X.prog X.w X.K X.mg X.base x k n sp) (hr : Rm k X.A)
    (h : EA X ρ ω (e :: es) (fun ds ω1 => ds.length = n ∧ sp ds ω1 Ψ ε) ε) (hg : Gl X x := by rfl)
    (hdb : (x == ("__debug__" : Str)) = false := by decide) (he : starEach (e :: es) X.env = (false, eval e X.env) :: starEach es X.env := by rfl) (hpl : (backTo pos (starEach es X.env)).any (·.1) = false := by rfl) : EV X ρ ω (.Call (.Name x p) (e :: es) [] pos) Ψ ε :=
  let ⟨_, _, _, hm, F, hb⟩ := G.ex
  ev_call F hb hm hr h hg hdb he hpl
end NM
namespace NM
open PySem L2
abbrev FunT (K : Fg) (x q : Str) (st : Stmt) (dvs : List V) (f : Addr) (fd : FuncData) : Prop := FunD K x q (defArgs st) (defBody st) (defScope st) dvs [] f fd
abbrev box (g s c : Int) : Ow := .lst [.int g, .int s, .int c]
theorem omlt_set {m : Nat} {ω : Om} {i : Nat} {o : Ow} (h : OmLt m ω) (ho : o.lt m = true) : OmLt m (ω.set i o) := fun j p hj => by
  by_cases e : i = j
  · subst e
    by_cases hl : i < ω.length
    · rw [List.getElem?_set_self hl] at hj; cases hj; exact ho
    · rw [List.getElem?_eq_none (by simpa using hl)] at hj; cases hj
  · rw [List.getElem?_set_ne e] at hj; exact h j p hj
theorem omlt_app {m : Nat} {ω : Om} {o : Ow} (h : OmLt m ω) (ho : o.lt m = true) : OmLt m (ω ++ [o]) := fun j p hj => by
  by_cases e : j < ω.length
  · rw [List.getElem?_append_left e] at hj; exact h j p hj
  · rw [List.getElem?_append_right (by omega)] at hj
    cases q : j - ω.length with
    | zero => rw [q] at hj; simp at hj; subst hj; exact ho
    | succ i => rw [q] at hj; simp at hj
mutual
theorem dt_lt_mono {m n : Nat} (h : m ≤ n) : ∀ {d : Dt}, d.lt m = true → d.lt n = true
  | .own i, e => by simp only [Dt.lt, decide_eq_true_eq] at e ⊢; omega
  | .tup ds, e => by simp only [Dt.lt] at e ⊢; exact ltL_mono h e
  | .lst ds, e => by simp only [Dt.lt] at e ⊢; exact ltL_mono h e
  | .obj _ _ ds, e => by simp only [Dt.lt] at e ⊢; exact ltL_mono h e
  | .dic _ _ ks vs, e => by simp only [Dt.lt, Bool.and_eq_true] at e ⊢; exact ⟨ltL_mono h e.1, ltL_mono h e.2⟩
  | .non, _ => rfl
  | .bl _, _ => rfl
  | .int _, _ => rfl
  | .str _, _ => rfl
  | .ty _, _ => rfl
  | .ref _, _ => rfl
theorem ltL_mono {m n : Nat} (h : m ≤ n) : ∀ {ds : List Dt}, ltL m ds = true → ltL n ds = true
  | [], _ => rfl
  | d :: ds, e => by
    simp only [ltL, Bool.and_eq_true] at e ⊢
    exact ⟨dt_lt_mono h e.1, ltL_mono h e.2⟩
end
theorem omlt_mono {m n : Nat} (h : m ≤ n) {ω : Om} (x : OmLt m ω) : OmLt n ω := fun i o hi => by
  have q := x i o hi
  cases o with
  | dead => rfl
  | lst ds => exact ltL_mono h q
  | ins C ns ds => exact ltL_mono h q
  | dct kvs => exact ltL_mono h q
  | lkd o kus kvs => exact ltL_mono h q
  | xd d fs => exact ltL_mono h q
  | dkn pr w ks vs =>
    have q2 : ltL m ks = true ∧ ltL m vs = true := by simpa [Ow.lt] using q
    simp only [Ow.lt, Bool.and_eq_true]
    exact ⟨ltL_mono h q2.1, ltL_mono h q2.2⟩
  | tbl Pa qn => rfl
  | any o => rfl
  | lam f ob cc qn σ ρ =>
    simp only [Ow.lt] at q ⊢
    refine List.all_eq_true.mpr fun z hz => ?_
    have z2 := List.all_eq_true.mp q z hz
    cases z with
    | none => rfl
    | some d => exact dt_lt_mono h z2
  | lkn pr w ob ns us ks vs =>
    have q2 : ltL m ks = true ∧ ltL m vs = true := by simpa [Ow.lt] using q
    simp only [Ow.lt, Bool.and_eq_true]
    exact ⟨ltL_mono h q2.1, ltL_mono h q2.2⟩
/-- nothing is given up -/
theorem giv_all {n0 : Nat} {Ψ : PsiE} {d : Dt} {ω : Om} (hn : n0 ≤ ω.length) (hl : OmLt ω.length ω) (hd : d.lt ω.length = true) (h : Ψ d ω) : Giv n0 Ψ d ω := ⟨ω.length, d, hn, by rw [List.take_length]; exact hl, frz_lt hd, by rw [List.take_length]; exact h⟩
/-- a flat value, the rest as at the beginning -/
theorem giv_flat {Ψ : PsiE} {d : Dt} {ω : Om} (hl : OmLt ω.length ω) (hd : flatD d = true) (h : Ψ d ω) : Giv ω.length Ψ d ω := giv_all (Nat.le_refl _) hl (by cases d <;> first | rfl | cases hd) h
section
variable {X : Cx} {ρ : Rho} {ω : Om} {Ψ : PsiE} {ε : PsiX} {Φ : Post} {e c : Expr} {pos : Pos}
theorem es_ifB (b : Bool) {p q : List Stmt} (h : ET X ρ ω c (fun k ω1 => k = b ∧ ω1 = ω) (fun y ω' => Φ.xc y ρ ω')) (h1 : b = true → ESs X ρ ω p Φ) (h2 : b = false → ESs X ρ ω q Φ) : ES X ρ ω (.If c p q pos) Φ := by
  refine es_if fun σ P H as Q w en xk k => h σ P H as Q w en xk fun v ω' P' H' as' w' g' z => k v ω' P' H' as' w' g' ?_
  obtain ⟨rfl, rfl⟩ := z
  cases v with
  | true => exact iteT (h1 rfl)
  | false => exact iteF (h2 rfl)
/-- a value that is known -/
theorem ev_pure {d : Dt} (h : EV X ρ ω e (fun d' ω' => d' = d ∧ ω' = ω) ε) (k : Ψ d ω) : EV X ρ ω e Ψ ε := h.imp fun d' ω' ⟨e1, e2⟩ => by subst e1; subst e2; exact k
theorem et_pure {b : Bool} {Ψ : Bool → Om → Prop} (h : ET X ρ ω e (fun d' ω' => d' = b ∧ ω' = ω) ε) (k : Ψ b ω) : ET X ρ ω e Ψ ε := fun σ P H as Q w en xk q => h σ P H as Q w en xk fun v ω' P' H' as' w' g' z => by
  obtain ⟨rfl, rfl⟩ := z
  exact q v ω' P' H' as' w' g' k
theorem elt0 {scope : Scope} {elt : Expr} {I : List Dt → Om → Prop} {acc : List Dt} (h : ∀ s H C cl fp, EV (Blk X scope s H C cl fp) ρ ω elt (fun y ω2 => acc.length < sizeLine ∧ I (acc ++ [y]) ω2) F0) : Elt X scope ρ ω elt [] I acc := by
  unfold Elt ETs
  exact iteT (B := I acc ω) h
theorem elt1 {scope : Scope} {elt c : Expr} {I : List Dt → Om → Prop} {acc : List Dt} (b : Bool) (ht : ∀ s H C cl fp, ET (Blk X scope s H C cl fp) ρ ω c (fun k ω' => k = b ∧ ω' = ω) F0)
    (h : b = true → ∀ s H C cl fp, EV (Blk X scope s H C cl fp) ρ ω elt (fun y ω2 => acc.length < sizeLine ∧ I (acc ++ [y]) ω2) F0) (h0 : b = false → I acc ω) : Elt X scope ρ ω elt [c] I acc := by
  unfold Elt ETs
  refine ⟨_, ht, fun k ω' z => ?_⟩
  obtain ⟨rfl, rfl⟩ := z
  cases k with
  | true => exact iteT (h rfl)
  | false => exact iteF (h0 rfl)
/-- [f(x) for x in iter] -/
theorem ev_map (j : Nat) (f : Dt → Dt) {x : Str} {elt iter : Expr} {scope : Scope} {own : List (Str × Nat)} {tp : Pos} (ok : Cok X) (bo : BlkOk X.N X.env.scope scope own) (hj : j ∈ own.map (·.2))
    (h : EI X ρ ω (.Name x tp) iter (fun items dv ω1 => dv ω1 ∧ (∀ d ∈ items, ∀ s H C cl fp, EV (Blk X scope s H C cl fp) ((wipeR ρ (own.map (·.2))).set j (some d)) ω1 elt (fun y ω2 => y = f d ∧ ω2 = ω1) F0) ∧ items.length < sizeLine ∧ Ψ (.lst (items.map f)) ω1) ε)
    (hg : ∀ (s : Shared) (H : Hp) (C : Addr) (cl : List (Str × Addr)) (fp : List Addr), PG (Blk X scope s H C cl fp) (.Name x tp) (gName j)) (hs : ∀ x, foldedSetIterable iter X.env x = pure x := by intro _; rfl) :
    EV X ρ ω (.ListComp elt [⟨.Name x tp, iter, [], 0⟩] scope pos) Ψ ε := by
  refine ev_lc j ok bo hj (.inl rfl) (fun σ P H as R w en xk q => h σ P H as R w en xk fun J items dv ω' P' H' as' w' g' it d1 k => q J items dv ω' P' H' as' w' g' it d1 ?_) hg hs
  obtain ⟨k0, k1, k2, k3⟩ := k
  refine ⟨fun i acc o => o = ω' ∧ acc = (items.take i).map f, ⟨rfl, rfl⟩, fun i acc o z => z.1 ▸ k0, fun i d acc o hd z => ?_, fun acc o z => ?_⟩
  · obtain ⟨rfl, rfl⟩ := z
    refine elt0 fun s H C cl fp => (k1 d (List.mem_of_getElem? hd) s H C cl fp).imp fun y o2 z => ⟨?_, z.2, ?_⟩
    · rw [List.length_map, List.length_take]; omega
    · obtain ⟨hl, e⟩ := List.getElem?_eq_some_iff.mp hd
      rw [z.1, ← e, List.take_succ_eq_append_getElem hl, List.map_append]; rfl
  · obtain ⟨rfl, rfl⟩ := z
    rw [List.take_length]; exact k3
end
theorem iteB {b : Bool} {A B : Prop} (h1 : b = true → A) (h2 : b = false → B) : if b = true then A else B := by
  cases b with
  | true => exact iteT (h1 rfl)
  | false => exact iteF (h2 rfl)
def spTake : DSp := fun ds ω Ψ _ => ∃ b m g s c, ds = [.own b, .int m] ∧ ω[b]? = some (box g s c) ∧ 0 < m ∧ m < 1000 ∧ ∀ r g' s' c', 0 ≤ r → r < m → Ψ (.int r) (ω.set b (box g' s' c'))
def spPick : DSp := fun ds ω Ψ _ => ∃ b its g s c, ds = [.own b, .lst its] ∧ ω[b]? = some (box g s c) ∧ 0 < its.length ∧ its.length < 1000 ∧ ltL ω.length its = true ∧ ∀ d g' s' c', d ∈ its → Ψ d (ω.set b (box g' s' c'))
def spFeed : DSp := fun ds ω Ψ _ => ∃ (ns : List Int) (k : Int), ds = [.lst (ns.map Dt.int), .int k] ∧ 0 ≤ k ∧ k < 1000 ∧ ∀ g s, Ψ (.own ω.length) (ω ++ [box g s 0])
theorem ints_get {ns : List Int} {i : Int} (h0 : 0 ≤ i) (h : i < (ns.length : Int)) : ∃ n : Int, atI (ns.map Dt.int) i = some (.int n) := by
  have hi : i.toNat < ns.length := by omega
  refine ⟨ns[i.toNat], ?_⟩
  unfold atI ixN
  rw [List.length_map, if_pos h0, if_pos h]
  simp [hi]
theorem ltL_mem {m : Nat} {d : Dt} : ∀ {ds : List Dt}, ltL m ds = true → d ∈ ds → d.lt m = true
  | e :: ds, h, hm => by
    simp only [ltL, Bool.and_eq_true] at h
    cases hm with
    | head => exact h.1
    | tail _ q => exact ltL_mem h.2 q
def isTy : Dt → String → Bool
  | .non, n => n == "NoneType"
  | .bl _, n => n == "bool" || n == "int"
  | .int _, n => n == "int"
  | .str _, n => n == "str"
  | .tup _, n => n == "tuple"
  | .lst _, n => n == "list"
  | _, _ => false
def tyNames : List String := ["str", "int", "bool", "list", "tuple"]
/-- a value whose kind is known -/
structure Kn (K : Fg) (ω : Om) (d : Dt) : Prop where
  ex : ∃ t, TyD K ω d t ∧ ∀ n ∈ tyNames, PySem.W.kitOne K t (.type n) = some (isTy d n)
  sz : ∀ x, d = .str x → x.length ≤ 100000
section
variable {K : Fg} {ω : Om}
theorem kn_ty {d : Dt} {T : String} (h : TyD K ω d (.type T)) (hk : ∀ n ∈ tyNames, kitB T n = some (isTy d n)) (hs : ∀ x, d = .str x → x.length ≤ 100000) : Kn K ω d := ⟨⟨_, h, fun n hn => kit_ty (hk n hn)⟩, hs⟩
theorem kn_non : Kn K ω .non := kn_ty .non (by decide +kernel) (fun x e => nomatch e)
theorem kn_bl (b : Bool) : Kn K ω (.bl b) := kn_ty (.bl b) (show ∀ n ∈ tyNames, kitB "bool" n = some (n == "bool" || n == "int") by decide +kernel) (fun x e => nomatch e)
theorem kn_int (i : Int) : Kn K ω (.int i) := kn_ty (.int i) (show ∀ n ∈ tyNames, kitB "int" n = some (n == "int") by decide +kernel) (fun x e => nomatch e)
theorem kn_str (x : Str) (h : x.length ≤ 100000) : Kn K ω (.str x) := kn_ty (.str x) (show ∀ n ∈ tyNames, kitB "str" n = some (n == "str") by decide +kernel) (fun y e => by cases e; exact h)
theorem kn_tup (ds : List Dt) : Kn K ω (.tup ds) := kn_ty (.tup ds) (show ∀ n ∈ tyNames, kitB "tuple" n = some (n == "tuple") by decide +kernel) (fun x e => nomatch e)
theorem kn_lst (ds : List Dt) : Kn K ω (.lst ds) := kn_ty (.lst ds) (show ∀ n ∈ tyNames, kitB "list" n = some (n == "list") by decide +kernel) (fun x e => nomatch e)
theorem kn_obj {C : Addr} {ns : List Str} {ds : List Dt} (h : InsTy K C) (hk : ∀ n ∈ tyNames, PySem.W.kitOne K (.ref C) (.type n) = some false) : Kn K ω (.obj C ns ds) := ⟨⟨_, .obj h, hk⟩, fun x e => nomatch e⟩
end
theorem cd_isK {X : Cx} {ω : Om} {Ψ : PsiE} {ε : PsiX} {d : Dt} {n : String} (k : Kn X.K ω d) (hn : n ∈ tyNames) (h : Ψ (.bl (isTy d n)) ω) : CD X (.builtin "isinstance") [d, .ty n] ω Ψ ε := by
  obtain ⟨t, ht, hk⟩ := k.ex
  exact cd_isi ht (.ty n) (hk n hn) h
theorem ev_isK {X : Cx} {ρ : Rho} {ω : Om} {Ψ : PsiE} {ε : PsiX} {e : Expr} {x : Str} {n : String} {p p2 pos : Pos} (hm : X.mg "isinstance" = none) (hx : X.mg x = none) (h : EV X ρ ω e (fun d ω1 => Kn X.K ω1 d ∧ n ∈ tyNames ∧ Ψ (.bl (isTy d n)) ω1) ε)
    (hg : Gl X "isinstance" := by rfl) (hgx : Gl X x := by rfl) (hv : bootBuiltins x = some (.type n) := by decide +kernel) (hn : x ≠ "__name__" := by decide) (hd : (x == ("__debug__" : Str)) = false := by decide)
    (he : starEach [e, .Name x p2] X.env = (false, eval e X.env) :: starEach [.Name x p2] X.env := by rfl) (hpl : (backTo pos (starEach [.Name x p2] X.env)).any (·.1) = false := by rfl) : EV X ρ ω (.Call (.Name "isinstance" p) [e, .Name x p2] [] pos) Ψ ε :=
  ev_callB (id := "isinstance") hm (ea_cons (h.imp fun d ω1 ⟨k, hn2, q⟩ => ea_cons (ev_bltn hx (ea_nil (cd_isK k hn2 q)) hgx hv hn hd)) he) hg (by decide +kernel) (by decide) (by decide) he hpl
end NM
namespace NM
open PySem L2 PySem.Spec PyProof.Rows
section
variable {X : Cx} {ρ : Rho} {ω : Om} {Ψ : PsiE} {ε : PsiX} {Φ : Post} {e : Expr} {pos : Pos}
/-- a key as data -/
def kD : Key → Dt
  | .inl i => .int i
  | .inr x => .str x
theorem kd_at {K : Fg} {P : Hp} {as : List Addr} {v : V} : ∀ {k : Key}, At K P as v (kD k) → v = kV k
  | .inl i, h => by cases h; rfl
  | .inr x, h => by cases h; rfl
theorem at_kd {K : Fg} {P : Hp} {as : List Addr} : ∀ k : Key, At K P as (kV k) (kD k)
  | .inl i => .int i
  | .inr x => .str x
def putKD (kvs : List (Key × Dt)) (k : Key) (v : Dt) : List (Key × Dt) :=
  if (kvs.any fun kv => decide (kv.1 = k)) = true then kvs.map (fun kv => if kv.1 = k then (kv.1, v) else kv) else kvs ++ [(k, v)]
def mergeKD (kvs more : List (Key × Dt)) : List (Key × Dt) := more.foldl (fun acc kv => putKD acc kv.1 kv.2) kvs
/-- a dict's pairs as they stand -/
def KvAt (K : Fg) (P : Hp) (as : List Addr) (kus : List (Key × V)) (kvs : List (Key × Dt)) : Prop := kus.map (·.1) = kvs.map (·.1) ∧ AtL K P as (kus.map (·.2)) (kvs.map (·.2))
theorem kvAt_cons {K : Fg} {P : Hp} {as : List Addr} {p : Key × V} {kus : List (Key × V)} {q : Key × Dt} {kvs : List (Key × Dt)} (h : KvAt K P as (p :: kus) (q :: kvs)) : p.1 = q.1 ∧ At K P as p.2 q.2 ∧ KvAt K P as kus kvs := by
  obtain ⟨h1, h2⟩ := h
  rw [List.map_cons, List.map_cons] at h1 h2
  cases h2 with
  | cons a r => injection h1 with e1 e2; exact ⟨e1, a, e2, r⟩
theorem kvAt_of {K : Fg} {P : Hp} {as : List Addr} {p : Key × V} {kus : List (Key × V)} {q : Key × Dt} {kvs : List (Key × Dt)} (h1 : p.1 = q.1) (h2 : At K P as p.2 q.2) (h3 : KvAt K P as kus kvs) : KvAt K P as (p :: kus) (q :: kvs) :=
  ⟨by rw [List.map_cons, List.map_cons, h1, h3.1], by rw [List.map_cons, List.map_cons]; exact .cons h2 h3.2⟩
theorem kvAt_any {K : Fg} {P : Hp} {as : List Addr} {k : Key} : ∀ {kus : List (Key × V)} {kvs : List (Key × Dt)}, KvAt K P as kus kvs → (kus.any fun kv => decide (kv.1 = k)) = (kvs.any fun kv => decide (kv.1 = k))
  | [], [], _ => rfl
  | [], _ :: _, h => by cases h.1
  | _ :: _, [], h => by cases h.1
  | p :: kus, q :: kvs, h => by
    obtain ⟨e, _, r⟩ := kvAt_cons h
    rw [List.any_cons, List.any_cons, kvAt_any r, e]
theorem kvAt_repl {K : Fg} {P : Hp} {as : List Addr} {k : Key} {v : V} {d : Dt} (hv : At K P as v d) : ∀ {kus : List (Key × V)} {kvs : List (Key × Dt)}, KvAt K P as kus kvs → KvAt K P as (kus.map fun kv => if kv.1 = k then (kv.1, v) else kv) (kvs.map fun kv => if kv.1 = k then (kv.1, d) else kv)
  | [], [], h => h
  | [], _ :: _, h => by cases h.1
  | _ :: _, [], h => by cases h.1
  | p :: kus, q :: kvs, h => by
    obtain ⟨e, a, r⟩ := kvAt_cons h
    rw [List.map_cons, List.map_cons]
    by_cases c : q.1 = k
    · rw [if_pos (e.trans c), if_pos c]; exact kvAt_of e hv (kvAt_repl hv r)
    · rw [if_neg (fun z => c (e.symm.trans z)), if_neg c]; exact kvAt_of e a (kvAt_repl hv r)
theorem kvAt_snoc {K : Fg} {P : Hp} {as : List Addr} {k : Key} {v : V} {d : Dt} (hv : At K P as v d) {kus : List (Key × V)} {kvs : List (Key × Dt)} (h : KvAt K P as kus kvs) : KvAt K P as (kus ++ [(k, v)]) (kvs ++ [(k, d)]) :=
  ⟨by rw [List.map_append, List.map_append, h.1]; rfl, by rw [List.map_append, List.map_append]; exact h.2.append (.cons hv .nil)⟩
theorem kvAt_put {K : Fg} {P : Hp} {as : List Addr} {k : Key} {v : V} {d : Dt} (hv : At K P as v d) {kus : List (Key × V)} {kvs : List (Key × Dt)} (h : KvAt K P as kus kvs) : KvAt K P as (putK kus k v) (putKD kvs k d) := by
  unfold putK putKD
  rw [kvAt_any h]
  cases (kvs.any fun kv => decide (kv.1 = k)) with
  | true => exact kvAt_repl hv h
  | false => exact kvAt_snoc hv h
theorem kvAt_merge {K : Fg} {P : Hp} {as : List Addr} : ∀ {mus : List (Key × V)} {mvs : List (Key × Dt)} {kus : List (Key × V)} {kvs : List (Key × Dt)}, KvAt K P as mus mvs → KvAt K P as kus kvs → KvAt K P as (mergeK kus mus) (mergeKD kvs mvs)
  | [], [], _, _, _, h => h
  | [], _ :: _, _, _, h, _ => by cases h.1
  | _ :: _, [], _, _, h, _ => by cases h.1
  | p :: mus, q :: mvs, kus, kvs, h, r => by
    obtain ⟨e, a, t⟩ := kvAt_cons h
    have z := kvAt_merge t (kvAt_put (k := q.1) a r)
    show KvAt K P as (mergeK (putK kus p.1 p.2) mus) (mergeKD (putKD kvs q.1 q.2) mvs)
    rw [e]; exact z
theorem KvAt.mono {K : Fg} {P P' : Hp} {as as' : List Addr} {kus : List (Key × V)} {kvs : List (Key × Dt)} (h : KvAt K P as kus kvs) (e : Same P P') (p : as <+: as') : KvAt K P' as' kus kvs := ⟨h.1, h.2.mono e p⟩
def EPs (X : Cx) (ρ : Rho) : Om → List (Expr × Expr) → (List (Dt × Dt) → Om → Prop) → PsiX → Prop
  | ω, [], Ψ, _ => Ψ [] ω
  | ω, (k, v) :: r, Ψ, ε => EV X ρ ω k (fun kd ω1 => EV X ρ ω1 v (fun vd ω2 => EPs X ρ ω2 r (fun ps ω3 => Ψ ((kd, vd) :: ps) ω3) ε) ε) ε
inductive AtP (K : Fg) (P : Hp) (as : List Addr) : List (V × V) → List (Dt × Dt) → Prop
  | nil : AtP K P as [] []
  | cons {a b : V} {x y : Dt} {r : List (V × V)} {s : List (Dt × Dt)} (h1 : At K P as a x) (h2 : At K P as b y) (h : AtP K P as r s) : AtP K P as ((a, b) :: r) ((x, y) :: s)
theorem eps_pairs : ∀ {ps : List (Expr × Expr)} {ω : Om} {Ψ : List (Dt × Dt) → Om → Prop} {σ : L2.St} {P H : Hp} {as : List Addr} {Q : List (V × V) → Hp → Prop}, EPs X ρ ω ps Ψ ε → Ws X.K ω P H as → Env X.K P as σ ρ → Xk X ω P H as σ ε →
    (∀ vs ds ω' P' H' as', Ws X.K ω' P' H' as' → Gr P H as P' H' as' → AtP X.K P' as' vs ds → Ψ ds ω' → Q vs H') → tPairs (ps.map fun p => (sE X p.1, sE X p.2)) σ H Q
  | [], ω, Ψ, σ, P, H, as, Q, h, w, en, xk, q => q [] [] ω P H as w .refl .nil h
  | (k, v) :: r, ω, Ψ, σ, P, H, as, Q, h, w, en, xk, q => by
    refine h σ P H as _ w en xk fun u1 d1 ω1 P1 H1 as1 w1 g1 a1 h1 => ?_
    refine h1 σ P1 H1 as1 _ w1 (en.mono g1.p g1.a) (xk.later g1) fun u2 d2 ω2 P2 H2 as2 w2 g2 a2 h2 => ?_
    have g12 := g1.trans g2
    refine eps_pairs h2 w2 (en.mono g12.p g12.a) (xk.later g12) fun vs ds ω3 P3 H3 as3 w3 g3 a3 h3 => ?_
    exact q _ _ ω3 P3 H3 as3 w3 (g12.trans g3) (.cons (a1.mono (g2.trans g3).p (g2.trans g3).a) (a2.mono g3.p g3.a) a3) h3
theorem pps_all : ∀ (ps : List (Expr × Expr)), PPs X pos (ps.map fun p => some p.1) (ps.map (·.2)) (ps.map fun p => (sE X p.1, sE X p.2))
  | [] => pps_nil
  | (k, v) :: r => pps_cons pE pE (pps_all r)
theorem atP_kv {K : Fg} {P : Hp} {as : List Addr} : ∀ {vs : List (V × V)} {kvs : List (Key × Dt)}, AtP K P as vs (kvs.map fun kv => (kD kv.1, kv.2)) → ∃ kus : List (Key × V), vs = kus.map (fun kv => (kV kv.1, kv.2)) ∧ KvAt K P as kus kvs
  | _, [], h => by cases h; exact ⟨[], rfl, rfl, .nil⟩
  | _, q :: kvs, h => by
    rw [List.map_cons] at h
    cases h with
    | @cons a b x y r s h1 h2 h =>
      obtain ⟨kus, rfl, k⟩ := atP_kv h
      have e := kd_at h1
      subst e
      exact ⟨(q.1, b) :: kus, rfl, kvAt_of rfl h2 k⟩
/-- {k: v, ..} -/
theorem ev_disp {ps : List (Expr × Expr)} (h : EPs X ρ (ω ++ [.dct []]) ps (fun ds ω1 => ω1[ω.length]? = some (.dct []) ∧ ∃ kvs : List (Key × Dt), ds = kvs.map (fun kv => (kD kv.1, kv.2)) ∧ kvs.length ≤ 15 ∧ Ψ (.own ω.length) (ω1.set ω.length (.dct (mergeKD [] kvs)))) ε)
    (h0 : ps ≠ []) (h15 : ps.length ≤ 15) : EV X ρ ω (.Dict (ps.map fun p => some p.1) (ps.map (·.2)) pos) Ψ ε := fun σ P H as Q w en xk q => by
  refine sE_of (pe_disp (pps_all ps) (by simp) (by simp) (by simpa using h0) (by simpa using h15)) fun p hp => ?_
  obtain ⟨w1, g1⟩ := w.newO (o := .dK []) (u := .dct []) hp ⟨(w.fresh hp).2, [], upd_same, rfl, .nil⟩
  refine eps_pairs h w1 (en.mono g1.p g1.a) (xk.later g1) fun vs ds ω2 P2 H2 as2 w2 g2 a2 z => ?_
  obtain ⟨hn, kvs, rfl, hl, z⟩ := z
  obtain ⟨kus, rfl, ka⟩ := atP_kv a2
  have hi : (as ++ [p])[ω.length]? = some p := by rw [← w.len]; simp
  have hi2 : as2[ω.length]? = some p := by
    obtain ⟨t, ht⟩ := g2.a
    rw [← ht, List.getElem?_append_left (by rw [List.length_append, w.len]; simp)]
    exact hi
  obtain ⟨pn, kus0, hh, e0, _⟩ := w2.own _ _ _ hn hi2
  have : kus0 = [] := by cases kus0 with | nil => rfl | cons a b => cases e0
  subst this
  have hk : kus.length = kvs.length := by have := congrArg List.length ka.1; simpa using this
  refine ⟨hh, kus, rfl, by rw [hk]; exact hl, ?_⟩
  have km := kvAt_merge ka (⟨rfl, .nil⟩ : KvAt X.K P2 as2 [] [])
  obtain ⟨w3, g3⟩ := w2.turn (ho := .dK (mergeK [] kus)) (u := .dct (mergeKD [] kvs)) hn hi2 pn ⟨pn, _, upd_same, km.1, km.2⟩
  exact q _ _ _ P2 _ as2 w3 ((g1.trans g2).trans g3) (.own hi2) z
theorem ev_lock {n : Nat} {kvs : List (Key × Dt)} (hn : ω[n]? = some (.dct kvs)) (h : ∀ o kus, EV X ρ (ω.set n (.lkd o kus kvs)) e (fun d ω' => ω'[n]? = some (.lkd o kus kvs) ∧ Ψ d (ω'.set n (.dct kvs))) ε) : EV X ρ ω e Ψ ε := fun σ P H as Q w en xk q => by
  have hl : n < as.length := by rw [w.len]; exact (List.getElem?_eq_some_iff.mp hn).1
  have ha : as[n]? = some as[n] := List.getElem?_eq_getElem hl
  obtain ⟨pn, kus, hh, e1, r1⟩ := w.own n _ _ hn ha
  refine sE_of (pe_lock pE) ⟨as[n], .dK kus, hh, trivial, fun od => ?_⟩
  obtain ⟨w1, g1⟩ := w.turn (ho := .frz od (.dK kus)) (u := .lkd od kus kvs) hn ha pn ⟨pn, upd_same, e1, r1⟩
  refine h od kus σ P _ as _ w1 (en.mono g1.p g1.a) (xk.later g1) fun v d ω2 P2 H2 as2 w2 g2 a2 z => ?_
  obtain ⟨z1, z2⟩ := z
  have ha2 : as2[n]? = some as[n] := by
    obtain ⟨t, ht⟩ := g2.a
    rw [← ht, List.getElem?_append_left hl]; exact ha
  obtain ⟨pn2, hh2, e2, r2⟩ := w2.own n _ _ z1 ha2
  refine ⟨hh2, ?_⟩
  obtain ⟨w3, g3⟩ := w2.turn (ho := .dK kus) (u := .dct kvs) z1 ha2 pn2 ⟨pn2, kus, upd_same, e2, r2⟩
  exact q v d _ P2 _ as2 w3 ((g1.trans g2).trans g3) (a2.mono g3.p g3.a) z2
theorem itd_k {K : Fg} {P : Hp} {as : List Addr} {n : Nat} {a : Addr} {o : Obj} {kus : List (Key × V)} {kvs : List (Key × Dt)} (ha : as[n]? = some a) : ItD K (Itk a o kus) P as (fun ω' => ω'[n]? = some (.lkd o kus kvs)) (kvs.map fun kv => kD kv.1) := by
  intro i ω' P' H' as' e p w hv
  have ha2 : as'[n]? = some a := by
    obtain ⟨t, ht⟩ := p
    rw [← ht, List.getElem?_append_left (List.getElem?_eq_some_iff.mp ha).1]; exact ha
  obtain ⟨pn, hh, e1, r1⟩ := w.own n _ _ hv ha2
  have hlen : kus.length = kvs.length := by have := congrArg List.length e1; simpa using this
  refine ⟨fun d hd => ?_, fun hl => ⟨hh, by rw [List.length_map] at hl; omega⟩⟩
  have hi : i < kvs.length := by have := (List.getElem?_eq_some_iff.mp hd).1; simpa using this
  refine ⟨⟨hh, by omega⟩, fun x H2 hy => ?_⟩
  obtain ⟨rfl, k, v, hk, rfl⟩ := hy
  refine ⟨P', w, .refl, ?_⟩
  have h1 : (kus.map (·.1))[i]? = some k := by rw [List.getElem?_map, hk]; rfl
  rw [e1, List.getElem?_map] at h1
  rw [List.getElem?_map] at hd
  cases q : kvs[i]? with
  | none => rw [q] at hd; cases hd
  | some kv =>
    rw [q] at hd h1
    cases hd; cases h1
    exact at_kd _
/-- for k in d, the dict being locked -/
theorem ei_keys {tg iter : Expr} {Θ : List Dt → (Om → Prop) → Om → Prop} (h : EV X ρ ω iter (fun d ω1 => ∃ n o kus kvs, d = .own n ∧ ω1[n]? = some (.lkd o kus kvs) ∧ Θ (kvs.map fun kv => kD kv.1) (fun ω' => ω'[n]? = some (.lkd o kus kvs)) ω1) ε) : EI X ρ ω tg iter Θ ε := fun σ P H as R w en xk q => by
  refine sI_of (pi_keys pE) (h σ P H as _ w en xk fun v d ω1 P1 H1 as1 w1 g1 a1 p => ?_)
  obtain ⟨n, o, kus, kvs, rfl, hn, p⟩ := p
  cases a1 with
  | own ha =>
    obtain ⟨pn, hh, e1, r1⟩ := w1.own n _ _ hn ha
    exact ⟨_, o, rfl, .inl ⟨kus, hh, q _ _ _ ω1 P1 H1 as1 w1 g1 (itd_k ha) hn p⟩⟩
theorem strs_of {K : Fg} {P : Hp} {as : List Addr} : ∀ {vs : List V} {xs : List Str}, AtL K P as vs (xs.map Dt.str) → vs = xs.map V.str
  | _, [], h => by cases h; rfl
  | _, x :: xs, h => by
    rw [List.map_cons] at h
    cases h with
    | cons a r => cases a; rw [strs_of r]; rfl
theorem strs_at {K : Fg} {P : Hp} {as : List Addr} : ∀ xs : List Str, AtL K P as (xs.map V.str) (xs.map Dt.str)
  | [] => .nil
  | x :: xs => .cons (.str x) (strs_at xs)
theorem cd_sortedS {d : Dt} {xs : List Str} (s : SqLst ω d (xs.map Dt.str)) (h64 : xs.length < 64) (h : ∀ ys : List Str, ys.Perm xs → sortedS ys = true → Ψ (.lst (ys.map Dt.str)) ω) : CD X (.builtin "sorted") [d] ω Ψ ε := cd_of cr_sortedS fun vs P H as Q w al k => by
  obtain ⟨v, rfl, av⟩ := one_of al
  obtain ⟨a, us, rfl, hs, r⟩ := sqRL w s av
  have e := strs_of r
  subst e
  refine ⟨a, xs, rfl, hs, h64, fun ys p h1 h2 hp => ?_⟩
  obtain ⟨w2, g2⟩ := w.newP (o := .lst (ys.map V.str)) hp
  exact k _ _ ω _ _ as w2 g2 (.lst (.of upd_same) (strs_at ys)) (h ys h1 h2)
end
end NM
namespace NM
open PySem L2 PySem.Spec PyProof.Rows
/-- an own special method -/
structure SpG (P : Program) (w : World) (K : Fg) (mg : Str → Option Value) (base : Heap) (C : Addr) (m : Str) (k n : Nat) (sp : DSp) : Prop where
  ex : ∃ f fd ps, PySem.W.findIn K (.ref C) m = some (some (.ref f)) ∧ PySem.W.isFn K (.ref f) = true ∧ FnP P w K mg base k f fd ps sp ∧ KB K fd ps n [] gAll
theorem SpG.d {X : Cx} {C : Addr} {m : Str} {k n : Nat} {sp : DSp} (S : SpG X.prog X.w X.K X.mg X.base C m k n sp) (hr : Rm (k + 3) X.A) : SpD X C m n gAll sp :=
  let ⟨f, fd, ps, h1, h2, h3, h4⟩ := S.ex; ⟨f, fd, k, ps, h1, h2, h3, h4, hr⟩
/-- a class that is called -/
structure MkG (P : Program) (w : World) (K : Fg) (mg : Str → Option Value) (base : Heap) (C : Addr) (k n : Nat) (ks : List Str) (gD : List Dt → List Dt → List Dt) (sp : DSp) : Prop where
  ex : ∃ f fd ps, Mk K C f ∧ FnP P w K mg base k f fd ps sp ∧ KB K fd ps (n + 1) ks gD
theorem MkG.d {X : Cx} {C : Addr} {k n : Nat} {ks : List Str} {gD : List Dt → List Dt → List Dt} {sp : DSp} (S : MkG X.prog X.w X.K X.mg X.base C k n ks gD sp) (hr : Rm (k + 1) X.A) : MkD X C n ks gD sp :=
  let ⟨f, fd, ps, h1, h2, h3⟩ := S.ex; ⟨f, fd, k, ps, h1, h2, h3, hr⟩
/-- an own method -/
structure MtG (P : Program) (w : World) (K : Fg) (mg : Str → Option Value) (base : Heap) (C : Addr) (m : Str) (k n : Nat) (gD : List Dt → List Dt → List Dt) (sp : DSp) : Prop where
  ex : ∃ f fd ps, Cls K C ∧ Meth K C m f ∧ FnP P w K mg base k f fd ps sp ∧ KB K fd ps n [] gD
theorem MtG.d {X : Cx} {C : Addr} {m : Str} {k n : Nat} {gD : List Dt → List Dt → List Dt} {sp : DSp} (S : MtG X.prog X.w X.K X.mg X.base C m k n gD sp) (hr : Rm k X.A) : MtD X C m n gD sp :=
  let ⟨f, fd, ps, h0, h1, h2, h3⟩ := S.ex; ⟨f, fd, k, ps, h0, h1, h2, h3, hr⟩
theorem kb_d {K : Fg} {x qual : Str} {params : Arguments} {body : List Stmt} {scope : Scope} {dvs : List V} {kws : List (Str × V)} {f : Addr} {fd : FuncData} {ps : List Str} (F : FunD K x qual params body scope dvs kws f fd) (n : Nat) (ks : List Str) (g : {α : Type} → List α → List α → List α → List α) (gD : List Dt → List Dt → List Dt) (hd : dvs ≠ [])
    (hrel : ∀ {vs ds zs : List V} {us its ws : List Value}, Vals vs us → Vals ds its → Vals zs ws → Vals (g vs ds zs) (g us its ws))
    (h : ∀ (T : Addr) (kV doc pm : Value) (an : Option Addr) (cdv ct : Value) (us its ws : List Value), us.length = n → its.length = dvs.length → ws.length = ks.length →
      ∃ k, bindArgs (PySem.W.fnOf x qual params body scope (.ref T) kV doc pm an cdv ct) ⟨us, ks.zip ws⟩ = seqItems? (.ref T) >>= k ∧ k (some its.toArray) = pure (ps.zip (g us its ws)))
    (hD : ∀ {P : Hp} {as : List Addr} {vs zs : List V} {ds es : List Dt}, AtL K P as vs ds → AtL K P as zs es → AtL K P as (g vs dvs zs) (gD ds es)) : KB K fd ps n ks gD := by
  obtain ⟨its, k⟩ := F.kbindsD n ks g hd hrel h
  exact ⟨_, _, k, hD⟩
section
variable {Ψ : PsiE} {ω : Om} {d : Dt}
/-- one thing is otherwise -/
theorem giv_set {i : Nat} {o : Ow} (hl : OmLt ω.length ω) (ho : o.lt ω.length = true) (hd : flatD d = true) (h : Ψ d (ω.set i o)) : Giv ω.length Ψ d (ω.set i o) := by
  have e : (ω.set i o).length = ω.length := List.length_set
  exact giv_all (Nat.le_of_eq e.symm) (by rw [e]; exact omlt_set hl ho) (by cases d <;> first | rfl | cases hd) h
end
/-- what is behind is given up -/
theorem giv_cut {Ψ : PsiE} {ω ω1 rest : Om} {d : Dt} (hl : ω1.length = ω.length) (h1 : OmLt ω.length ω1) (hd : flatD d = true) (h : Ψ d ω1) : Giv ω.length Ψ d (ω1 ++ rest) := by
  have e : (ω1 ++ rest).take ω.length = ω1 := List.take_left' hl
  refine ⟨ω.length, d, Nat.le_refl _, by rw [e]; exact h1, ?_, by rw [e]; exact h⟩
  cases d <;> first | exact .non | exact .bl _ | exact .int _ | exact .str _ | exact .ty _ | exact .ref _ | cases hd
theorem set_same {ω : Om} {n : Nat} {o : Ow} (h : ω[n]? = some o) : ω.set n o = ω := by
  obtain ⟨hl, e⟩ := List.getElem?_eq_some_iff.mp h
  rw [← e]; exact List.set_getElem_self hl
/-- a new object that is given up at once -/
theorem giv_new {Ψ : PsiE} {ω : Om} {C : Addr} {ns : List Str} {ds : List Dt} (hl : OmLt ω.length ω) (hd : ltL ω.length ds = true) (h : Ψ (.obj C ns ds) ω) : Giv ω.length Ψ (.own ω.length) (ω ++ [.ins C ns ds]) := by
  refine ⟨ω.length, .obj C ns ds, Nat.le_refl _, by rw [List.take_left' rfl]; exact hl, ?_, by rw [List.take_left' rfl]; exact h⟩
  exact .insO (Nat.le_refl _) (by simp) (frzL_lt hd)
section
variable {X : Cx} {ρ : Rho} {ω : Om} {Ψ : PsiE} {ε : PsiX} {Φ : Post} {e : Expr} {pos : Pos}
/-- o.f = e, the fields told -/
theorem es_fldE {o : Expr} {f : Str} {pos' : Pos} (ns' : List Str) (ds' : List Dt) (h : EV X ρ ω e (fun d ω1 => EV X ρ ω1 o (fun x ω2 => ∃ n C ns ds, x = .own n ∧ ω2[n]? = some (.ins C ns ds) ∧ Cls X.K C ∧ NoAttr X.K C f ∧ ds.length < 1000 ∧ putD f d ns ds = (ns', ds') ∧ Φ.nx ρ (ω2.set n (.ins C ns' ds'))) (fun y ω' => Φ.xc y ρ ω')) (fun y ω' => Φ.xc y ρ ω'))
    (hs : swapsWith e (some (.Attribute o f pos')) pos.line X.env = pure false := by rfl) : ES X ρ ω (.Assign [.Attribute o f pos'] e pos) Φ :=
  es_fld (h.imp fun d ω1 z => z.imp fun x ω2 ⟨n, C, ns, ds, h1, h2, h3, h4, h5, h6, h7⟩ => ⟨n, C, ns, ds, h1, h2, h3, h4, h5, by rw [h6]; exact h7⟩) hs
theorem ev_lt (h : OmLt ω.length ω → EV X ρ ω e Ψ ε) : EV X ρ ω e Ψ ε := fun σ P H as Q w => h w.lt σ P H as Q w
theorem es_lt {st : Stmt} (h : OmLt ω.length ω → ES X ρ ω st Φ) : ES X ρ ω st Φ := fun σ P H as Q w => h w.lt σ P H as Q w
theorem set_last (ω : Om) (o u : Ow) : (ω ++ [o]).set ω.length u = ω ++ [u] := by
  rw [List.set_append_right _ _ (Nat.le_refl _), Nat.sub_self]; rfl
theorem get_last (ω : Om) (o : Ow) : (ω ++ [o])[ω.length]? = some o := by simp
theorem EA.imp {es : List Expr} {Ψ Ψ' : List Dt → Om → Prop} (h : EA X ρ ω es Ψ ε) (k : ∀ ds ω', Ψ ds ω' → Ψ' ds ω') : EA X ρ ω es Ψ' ε := fun σ P H as Q w en xk q => h σ P H as Q w en xk fun vs ds ω' P' H' as' w' g' a' p => q vs ds ω' P' H' as' w' g' a' (k ds ω' p)
theorem EK.imp {es : List Keyword} {Ψ Ψ' : List Dt → Om → Prop} (h : EK X ρ ω es Ψ ε) (k : ∀ ds ω', Ψ ds ω' → Ψ' ds ω') : EK X ρ ω es Ψ' ε := fun σ P H as Q w en xk q => h σ P H as Q w en xk fun vs ds ω' P' H' as' w' g' a' p => q vs ds ω' P' H' as' w' g' a' (k ds ω' p)
end
end NM
namespace NM
open PySem L2 PySem.Spec PyProof.Rows
theorem valsRev : ∀ {vs : List V} {us : List Value}, Vals vs us → Vals vs.reverse us.reverse
  | _, _, .nil => .nil
  | _, _, .cons h r => by rw [List.reverse_cons, List.reverse_cons]; exact (valsRev r).append (.cons h .nil)
theorem atLRev {K : Fg} {P : Hp} {as : List Addr} : ∀ {vs : List V} {ds : List Dt}, AtL K P as vs ds → AtL K P as vs.reverse ds.reverse
  | _, _, .nil => .nil
  | _, _, .cons h r => by rw [List.reverse_cons, List.reverse_cons]; exact (atLRev r).append (.cons h .nil)
end NM
namespace NM
open PySem L2 PySem.Spec PyProof.Rows
theorem kit_self {K : Fg} {C : Addr} : PySem.W.kitOne K (.ref C) (.ref C) = some true := by
  unfold PySem.W.kitOne
  rw [if_pos (by simp)]
theorem kit_ref {K : Fg} {t : Value} {C : Addr} {b : Bool} (h1 : PySem.W.isClsIn K C = true) (h2 : PySem.W.typeIn K (.ref C) = some (.type "type")) (h3 : PySem.W.subIn K t (.ref C) = some b) (hne : (t == .ref C) = false) : PySem.W.kitOne K t (.ref C) = some b := by
  unfold PySem.W.kitOne
  rw [hne]
  show PySem.W.kitCls K t (.ref C) = some b
  have e : ((PySem.W.clsIn K C).isSome && PySem.W.typeIn K (.ref C) == some (.type "type")) = true := by
    have h1' : (PySem.W.clsIn K C).isSome = true := h1
    rw [h1', h2]; rfl
  show (if ((PySem.W.clsIn K C).isSome && PySem.W.typeIn K (.ref C) == some (.type "type")) = true then PySem.W.subIn K t (.ref C) else none) = some b
  rw [if_pos e]; exact h3
end NM
namespace NM
open PySem L2 PySem.Spec PyProof.Rows TL
def sepOf (k : List Nat) : List Nat := 32 :: (k ++ [32])
abbrev jw (ws : List (List Nat)) : List Nat := joinL [32] ws
theorem spl_scan {S : List Nat} : ∀ {w acc l : List Nat}, 32 ∉ w → spl (32 :: S) 0 acc (w ++ l) = spl (32 :: S) 0 (acc ++ w) l
  | [], acc, l, _ => by rw [List.append_nil]; rfl
  | c :: w, acc, l, h => by
    have hc : c ≠ 32 := fun e => h (e ▸ List.mem_cons_self)
    have hp : pre (32 :: S) (c :: (w ++ l)) = false := by
      unfold pre
      rw [List.length_cons, List.take_succ_cons]
      apply Bool.eq_false_iff.mpr
      intro e
      have := (List.cons.inj (eq_of_beq e)).1
      exact hc this
    show spl (32 :: S) 0 acc (c :: (w ++ l)) = _
    rw [spl.eq_2, if_neg (by rw [hp]; decide), spl_scan (fun z => h (List.mem_cons_of_mem _ z)), List.append_assoc]; rfl
theorem word_pre : ∀ {k w r : List Nat}, 32 ∉ k → 32 ∉ w → (w ++ 32 :: r).take (k.length + 1) = k ++ [32] → w = k
  | [], [], _, _, _, _ => rfl
  | [], c :: w, r, _, h2, e => by
    simp at e
    exact absurd (e ▸ List.mem_cons_self) h2
  | d :: k, [], r, h1, _, e => by
    simp at e
    exact absurd (e.1 ▸ List.mem_cons_self) h1
  | d :: k, c :: w, r, h1, h2, e => by
    rw [List.cons_append, List.length_cons, List.take_succ_cons, List.cons_append] at e
    injection e with e1 e2
    rw [e1, word_pre (fun z => h1 (List.mem_cons_of_mem _ z)) (fun z => h2 (List.mem_cons_of_mem _ z)) e2]
theorem jw_cons {w : List Nat} {ws : List (List Nat)} (h : ws ≠ []) : jw (w :: ws) = w ++ 32 :: jw ws := by
  cases ws with
  | nil => exact absurd rfl h
  | cons v r => rfl
/-- the next word is not k -/
theorem miss {k w : List Nat} {ws : List (List Nat)} (hk : 32 ∉ k) (hw : 32 ∉ w) (h : w ≠ k ∨ ws = []) : pre (sepOf k) (32 :: jw (w :: ws)) = false := by
  unfold pre sepOf
  rw [List.length_cons, List.take_succ_cons]
  apply Bool.eq_false_iff.mpr
  intro e
  have e2 := (List.cons.inj (eq_of_beq e)).2
  rw [List.length_append] at e2
  cases ws with
  | nil =>
    have : (32 : Nat) ∈ k ++ [32] := by simp
    rw [← e2] at this
    exact hw (List.mem_of_mem_take this)
  | cons v r =>
    rcases h with h | h
    · exact h (word_pre hk hw e2)
    · cases h
theorem spl_words {k : List Nat} (hk : 32 ∉ k) : ∀ {ws : List (List Nat)} {acc : List Nat}, ws ≠ [] → (∀ w ∈ ws, 32 ∉ w) → (∀ w ∈ ws.tail, w ≠ k) → spl (sepOf k) 0 acc (jw ws) = [acc ++ jw ws]
  | [w], acc, _, h, _ => by
    have := spl_scan (S := k ++ [32]) (acc := acc) (l := []) (h w (by simp))
    rw [List.append_nil] at this
    show spl (sepOf k) 0 acc w = [acc ++ w]
    unfold sepOf
    rw [this, spl_nil]
  | w :: v :: r, acc, _, h, ht => by
    have e1 : jw (w :: v :: r) = w ++ 32 :: jw (v :: r) := rfl
    have m := miss (k := k) (w := v) (ws := r) hk (h v (by simp)) (.inl (ht v (by simp)))
    rw [e1]
    have sc := spl_scan (S := k ++ [32]) (acc := acc) (l := 32 :: jw (v :: r)) (h w (by simp))
    show spl (32 :: (k ++ [32])) 0 acc (w ++ 32 :: jw (v :: r)) = _
    rw [sc]
    show spl (sepOf k) 0 (acc ++ w) (32 :: jw (v :: r)) = _
    rw [spl.eq_2, if_neg (by rw [m]; decide), spl_words hk (by simp) (fun z hz => h z (List.mem_cons_of_mem _ hz)) (fun z hz => ht z (List.mem_cons_of_mem _ hz))]
    simp [List.append_assoc]
theorem spl_skip {S : List Nat} : ∀ {n : Nat} {acc a l : List Nat}, a.length = n → spl S n acc (a ++ l) = spl S 0 acc l
  | 0, acc, a, l, h => by
    have : a = [] := List.length_eq_zero_iff.mp h
    subst this; rfl
  | n + 1, acc, [], l, h => by simp at h
  | n + 1, acc, c :: a, l, h => by
    show spl S n acc (a ++ l) = _
    exact spl_skip (by simpa using h)
theorem spl_hit_word {k : List Nat} (hk : 32 ∉ k) {ws : List (List Nat)} {acc : List Nat} (hr : ws ≠ []) : spl (sepOf k) 0 acc (32 :: jw (k :: ws)) = acc :: spl (sepOf k) 0 [] (jw ws) := by
  have e : jw (k :: ws) = (k ++ [32]) ++ jw ws := by rw [jw_cons hr]; simp
  have hp : pre (sepOf k) (32 :: jw (k :: ws)) = true := by
    unfold pre sepOf
    rw [e, List.length_cons, List.take_succ_cons, List.take_left' rfl]
    exact beq_self_eq_true _
  rw [spl.eq_2, if_pos hp, e]
  have : (sepOf k).length - 1 = (k ++ [32]).length := by unfold sepOf; simp
  rw [this, spl_skip rfl]
theorem spl_cut {k : List Nat} (hk : 32 ∉ k) {rest : List (List Nat)} (hr : rest ≠ []) : ∀ {ws : List (List Nat)} {acc : List Nat}, ws ≠ [] → (∀ w ∈ ws, 32 ∉ w) → (∀ w ∈ ws.tail, w ≠ k) → spl (sepOf k) 0 acc (jw (ws ++ k :: rest)) = (acc ++ jw ws) :: spl (sepOf k) 0 [] (jw rest)
  | [w], acc, _, h, _ => by
    have e1 : jw ([w] ++ k :: rest) = w ++ 32 :: jw (k :: rest) := jw_cons (by simp)
    have sc := spl_scan (S := k ++ [32]) (acc := acc) (l := 32 :: jw (k :: rest)) (h w (by simp))
    rw [e1]
    show spl (32 :: (k ++ [32])) 0 acc (w ++ 32 :: jw (k :: rest)) = _
    rw [sc]
    exact spl_hit_word hk hr
  | w :: v :: r, acc, _, h, ht => by
    have e1 : jw (w :: v :: r ++ k :: rest) = w ++ 32 :: jw (v :: r ++ k :: rest) := rfl
    have m := miss (k := k) (w := v) (ws := r ++ k :: rest) hk (h v (by simp)) (.inl (ht v (by simp)))
    have sc := spl_scan (S := k ++ [32]) (acc := acc) (l := 32 :: jw (v :: r ++ k :: rest)) (h w (by simp))
    rw [e1]
    show spl (32 :: (k ++ [32])) 0 acc (w ++ 32 :: jw (v :: r ++ k :: rest)) = _
    rw [sc]
    show spl (sepOf k) 0 (acc ++ w) (32 :: jw (v :: (r ++ k :: rest))) = _
    rw [spl.eq_2, if_neg (by rw [m]; decide)]
    have ih := spl_cut hk hr (ws := v :: r) (acc := acc ++ w ++ [32]) (by simp) (fun z hz => h z (List.mem_cons_of_mem _ hz)) (fun z hz => ht z (List.mem_cons_of_mem _ hz))
    show spl (sepOf k) 0 (acc ++ w ++ [32]) (jw (v :: r ++ k :: rest)) = _
    rw [ih]
    congr 1
    show (acc ++ w ++ [32]) ++ jw (v :: r) = acc ++ (w ++ 32 :: jw (v :: r))
    simp [List.append_assoc]
/-- words with one blank between them -/
def W (ws : List Str) : Str := Str.join " " ws
theorem tl_W (ws : List Str) : tl (W ws) = jw (ws.map tl) := by unfold W; rw [tl_join]; rfl
/-- the separator of a word -/
def sepS (k : Str) : Str := (" " ++ k) ++ " "
theorem tl_sep (k : Str) : tl (sepS k) = sepOf (tl k) := by
  unfold sepS sepOf
  rw [tl_append, tl_append]; rfl
/-- a word -/
def Wd (x : Str) : Prop := 32 ∉ tl x
theorem tl_ne {x y : Str} (h : x ≠ y) : tl x ≠ tl y := fun e => h (ext_tl e)
theorem split_none {k y : Str} {ws : List Str} (hy : y = sepS k) (hc : y.cps.all (· < 256) = true) (hk : Wd k) (h0 : ws ≠ []) (hw : ∀ w ∈ ws, Wd w) (hn : ∀ w ∈ ws.tail, w ≠ k) : Txt.split (W ws) y = [W ws] := by
  subst hy
  refine map_tl_inj ?_
  rw [split_spl _ _ (by rw [tl_sep]; unfold sepOf; simp) (kind_ok hc), tl_sep, tl_W]
  rw [spl_words hk (by simpa using h0) (fun w h => by obtain ⟨z, hz, rfl⟩ := List.mem_map.mp h; exact hw z hz) (fun w h => by
    rw [← List.map_tail] at h
    obtain ⟨z, hz, rfl⟩ := List.mem_map.mp h
    exact tl_ne (hn z hz))]
  simp [tl_W]
theorem split_cut {k y : Str} {ws rest : List Str} (hy : y = sepS k) (hc : y.cps.all (· < 256) = true) (hk : Wd k) (h0 : ws ≠ []) (hr : rest ≠ []) (hw : ∀ w ∈ ws, Wd w) (hn : ∀ w ∈ ws.tail, w ≠ k) : Txt.split (W (ws ++ k :: rest)) y = W ws :: Txt.split (W rest) y := by
  subst hy
  refine map_tl_inj ?_
  rw [split_spl _ _ (by rw [tl_sep]; unfold sepOf; simp) (kind_ok hc), tl_sep, tl_W, List.map_append, List.map_cons]
  rw [spl_cut hk (by simpa using hr) (by simpa using h0) (fun w h => by obtain ⟨z, hz, rfl⟩ := List.mem_map.mp h; exact hw z hz) (fun w h => by
    rw [← List.map_tail] at h
    obtain ⟨z, hz, rfl⟩ := List.mem_map.mp h
    exact tl_ne (hn z hz))]
  rw [List.map_cons, split_spl _ _ (by rw [tl_sep]; unfold sepOf; simp) (kind_ok hc), tl_sep, tl_W, tl_W]
  rfl
/-- parts joined by " k " are the words joined -/
theorem jw_app {a b : List (List Nat)} (ha : a ≠ []) (hb : b ≠ []) : jw (a ++ b) = jw a ++ 32 :: jw b := by
  induction a with
  | nil => exact absurd rfl ha
  | cons w r ih =>
    cases r with
    | nil => exact jw_cons hb
    | cons v r =>
      show w ++ 32 :: jw (v :: r ++ b) = (w ++ 32 :: jw (v :: r)) ++ 32 :: jw b
      rw [ih (by simp)]
      simp [List.append_assoc]
theorem W_app {a b : List Str} (ha : a ≠ []) (hb : b ≠ []) : W (a ++ b) = (W a ++ " ") ++ W b := by
  refine ext_tl ?_
  rw [tl_W, List.map_append, jw_app (by simpa using ha) (by simpa using hb), tl_append, tl_append, tl_W, tl_W]
  simp [List.append_assoc]
  rfl
/-- segments with the word k between them -/
def segs (k : Str) : List (List Str) → List Str
  | [] => []
  | [a] => a
  | a :: b :: r => a ++ k :: segs k (b :: r)
theorem segs_ne {k : Str} : ∀ {l : List (List Str)}, l ≠ [] → (∀ a ∈ l, a ≠ []) → segs k l ≠ []
  | [a], _, h => h a (by simp)
  | a :: b :: r, _, _ => by unfold segs; simp
theorem join_segs {k y : Str} (hy : y = sepS k) : ∀ {l : List (List Str)}, l ≠ [] → (∀ a ∈ l, a ≠ []) → Txt.join y (l.map W) = W (segs k l)
  | [a], _, _ => rfl
  | a :: b :: r, _, h => by
    rw [join_eq]
    show (W a ++ y) ++ Str.join y ((b :: r).map W) = W (a ++ k :: segs k (b :: r))
    rw [← join_eq, join_segs hy (by simp) (fun z hz => h z (List.mem_cons_of_mem _ hz)), W_app (h a (by simp)) (by simp)]
    rw [show k :: segs k (b :: r) = [k] ++ segs k (b :: r) from rfl, W_app (by simp) (segs_ne (by simp) (fun z hz => h z (List.mem_cons_of_mem _ hz)))]
    subst hy
    refine ext_tl ?_
    unfold sepS
    simp only [tl_append]
    rw [show tl (W [k]) = tl k from rfl]
    simp [List.append_assoc]
theorem split_segs {k y : Str} (hy : y = sepS k) (hc : y.cps.all (· < 256) = true) (hk : Wd k) : ∀ {l : List (List Str)}, l ≠ [] → (∀ a ∈ l, a ≠ [] ∧ (∀ w ∈ a, Wd w) ∧ ∀ w ∈ a, w ≠ k) → Txt.split (W (segs k l)) y = l.map W
  | [a], _, h => by
    obtain ⟨h1, h2, h3⟩ := h a (by simp)
    exact split_none hy hc hk h1 h2 (fun w hw => h3 w (List.mem_of_mem_tail hw))
  | a :: b :: r, _, h => by
    obtain ⟨h1, h2, h3⟩ := h a (by simp)
    have hne := segs_ne (k := k) (l := b :: r) (by simp) (fun z hz => (h z (List.mem_cons_of_mem _ hz)).1)
    show Txt.split (W (a ++ k :: segs k (b :: r))) y = _
    rw [split_cut hy hc hk h1 hne h2 (fun w hw => h3 w (List.mem_of_mem_tail hw)), split_segs hy hc hk (by simp) (fun z hz => h z (List.mem_cons_of_mem _ hz))]
    rfl
end NM
namespace NM
open PySem L2 PySem.Spec PyProof.Rows TL
def letters : Str := "abcdefghijklmnopqrstuvwxyz"
def kept : List Dt := [.str "if", .str "and", .str "do", .str "then", .str "to", .str "not", .str "first", .str "wait"]
def keptS : List Str := ["if", "and", "do", "then", "to", "not", "first", "wait"]
def nameOk (x : Str) : Bool := (decide (1 ≤ (x.length : Int)) && decide ((x.length : Int) ≤ 6)) && (!inF (.str x) kept && (x.cps.toList.map fun c => decide (c ∈ letters.cps.toList)).all id)
def baseT : List Str := ["due", "free", "mine", "old", "now"]
def tests10 : List Str := ["due", "free", "mine", "old", "now", "not due", "not free", "not mine", "not old", "not now"]
def deeds6 : List Str := ["note", "mark", "clear", "work", "done", "close"]
def tw (t : Str) : List Str := if t ∈ baseT then [t] else ["not", ⟨((tl t).drop 4).toArray⟩]
/-- the words that part a rule's text -/
def keysR : List Str := ["if", "and", "do", "then", "to"]
theorem all10 {p : Str → Prop} (h : ∀ i : Fin 10, p (tests10[i])) : ∀ t ∈ tests10, p t := fun t ht => by
  obtain ⟨i, hi, e⟩ := List.getElem_of_mem ht
  rw [← e]; exact h ⟨i, hi⟩
theorem tw_ok : ∀ t ∈ tests10, W (tw t) = t ∧ tw t ≠ [] ∧ ∀ w ∈ tw t, (32 ∉ tl w) ∧ ∀ k ∈ keysR, w ≠ k := by
  intro t ht
  have : t = "due" ∨ t = "free" ∨ t = "mine" ∨ t = "old" ∨ t = "now" ∨ t = "not due" ∨ t = "not free" ∨ t = "not mine" ∨ t = "not old" ∨ t = "not now" := by simpa [tests10] using ht
  rcases this with rfl | rfl | rfl | rfl | rfl | rfl | rfl | rfl | rfl | rfl <;> decide +kernel
theorem deed_ok : ∀ t ∈ deeds6, (32 ∉ tl t) ∧ ∀ k ∈ keysR, t ≠ k := by decide +kernel
theorem name_wd {x : Str} (h : nameOk x = true) : Wd x ∧ (∀ k ∈ keptS, x ≠ k) ∧ 1 ≤ x.length ∧ x.length ≤ 6 := by
  unfold nameOk at h
  simp only [Bool.and_eq_true, decide_eq_true_eq, Bool.not_eq_true'] at h
  obtain ⟨⟨h1, h2⟩, h3, h4⟩ := h
  refine ⟨fun hm => ?_, fun k hk e => ?_, by omega, by omega⟩
  · have h5 : ∀ c ∈ x.cps.toList, decide (c ∈ letters.cps.toList) = true := fun c hc => List.all_eq_true.mp h4 _ (List.mem_map.mpr ⟨c, hc, rfl⟩)
    have := h5 32 hm
    exact absurd this (by decide +kernel)
  · subst e
    have hq : ∀ k ∈ keptS, inF (.str k) kept = true := by decide +kernel
    rw [hq x hk] at h3; cases h3
/-- what a rule is made of -/
structure RuleOk (s : Str) (ts ds : List Str) (t : Str) : Prop where
  hs : nameOk s = true
  hts : ∀ x ∈ ts, x ∈ tests10
  hds : ∀ x ∈ ds, x ∈ deeds6
  ht : nameOk t = true
  htl : ts.length ≤ 1000
  hdl : ds.length ≤ 1000
def wT1 (ts : List Str) : List Str := if ts = [] then [] else ("if" : Str) :: segs "and" (ts.map tw)
def wD1 (ds : List Str) : List Str := if ds = [] then [] else ("do" : Str) :: segs "then" (ds.map fun d => [d])
def rWords (s : Str) (ts ds : List Str) (t : Str) : List Str := (s :: (wT1 ts ++ wD1 ds)) ++ (["to", t] : List Str)
def rText (s : Str) (ts ds : List Str) (t : Str) : Str := W (rWords s ts ds t)
theorem segs_mem {k : Str} {x : Str} : ∀ {l : List (List Str)}, x ∈ segs k l → x = k ∨ ∃ a ∈ l, x ∈ a
  | [], h => by cases h
  | [a], h => .inr ⟨a, by simp, h⟩
  | a :: b :: r, h => by
    unfold segs at h
    rcases List.mem_append.mp h with q | q
    · exact .inr ⟨a, by simp, q⟩
    · rcases List.mem_cons.mp q with q | q
      · exact .inl q
      · rcases segs_mem q with q | ⟨c, hc, q⟩
        · exact .inl q
        · exact .inr ⟨c, List.mem_cons_of_mem _ hc, q⟩
section
variable {s t : Str} {ts ds : List Str}
theorem map_W_tw (h : ∀ x ∈ ts, x ∈ tests10) : (ts.map tw).map W = ts := by
  rw [List.map_map]
  conv => rhs; rw [← List.map_id ts]
  exact List.map_congr_left fun x hx => (tw_ok x (h x hx)).1
theorem map_W_one : (ds.map fun d => [d]).map W = ds := by
  rw [List.map_map]
  conv => rhs; rw [← List.map_id ds]
  exact List.map_congr_left fun x hx => rfl
theorem tseg (h : ∀ x ∈ ts, x ∈ tests10) : ∀ a ∈ ts.map tw, a ≠ [] ∧ (∀ w ∈ a, Wd w) ∧ ∀ k ∈ keysR, ∀ w ∈ a, w ≠ k := fun a ha => by
  obtain ⟨x, hx, rfl⟩ := List.mem_map.mp ha
  obtain ⟨_, h1, h2⟩ := tw_ok x (h x hx)
  exact ⟨h1, fun w hw => (h2 w hw).1, fun k hk w hw => (h2 w hw).2 k hk⟩
theorem dseg (h : ∀ x ∈ ds, x ∈ deeds6) : ∀ a ∈ ds.map (fun d => [d]), a ≠ [] ∧ (∀ w ∈ a, Wd w) ∧ ∀ k ∈ keysR, ∀ w ∈ a, w ≠ k := fun a ha => by
  obtain ⟨x, hx, rfl⟩ := List.mem_map.mp ha
  obtain ⟨h1, h2⟩ := deed_ok x (h x hx)
  exact ⟨by simp, fun w hw => by rw [List.mem_singleton.mp hw]; exact h1, fun k hk w hw => by rw [List.mem_singleton.mp hw]; exact h2 k hk⟩
theorem wd_keys : ∀ k ∈ keysR, Wd k := by
  have : ∀ k ∈ keysR, 32 ∉ tl k := by decide +kernel
  exact this
theorem wT1_mem (h : ∀ x ∈ ts, x ∈ tests10) {x : Str} (hx : x ∈ wT1 ts) : Wd x ∧ x ≠ "do" ∧ x ≠ "to" := by
  unfold wT1 at hx
  split at hx
  · cases hx
  · rcases List.mem_cons.mp hx with rfl | hx
    · exact ⟨wd_keys _ (by decide), by decide, by decide⟩
    · rcases segs_mem hx with rfl | ⟨a, ha, hx⟩
      · exact ⟨wd_keys _ (by decide), by decide, by decide⟩
      · obtain ⟨_, h1, h2⟩ := tseg h a ha
        exact ⟨h1 x hx, h2 _ (by decide) x hx, h2 _ (by decide) x hx⟩
theorem wD1_mem (h : ∀ x ∈ ds, x ∈ deeds6) {x : Str} (hx : x ∈ wD1 ds) : Wd x ∧ x ≠ "to" := by
  unfold wD1 at hx
  split at hx
  · cases hx
  · rcases List.mem_cons.mp hx with rfl | hx
    · exact ⟨wd_keys _ (by decide), by decide⟩
    · rcases segs_mem hx with rfl | ⟨a, ha, hx⟩
      · exact ⟨wd_keys _ (by decide), by decide⟩
      · obtain ⟨_, h1, h2⟩ := dseg h a ha
        exact ⟨h1 x hx, h2 _ (by decide) x hx⟩
/-- the first cut -/
theorem cut_to (R : RuleOk s ts ds t) : Txt.split (rText s ts ds t) " to " = [W (s :: (wT1 ts ++ wD1 ds)), t] := by
  unfold rText rWords
  rw [show (["to", t] : List Str) = ("to" : Str) :: [t] from rfl, split_cut (k := "to") (by decide +kernel) (by decide +kernel) (wd_keys _ (by decide)) (by simp) (by simp) (fun w hw => ?_) (fun w hw => ?_)]
  · rw [split_none (k := "to") (by decide +kernel) (by decide +kernel) (wd_keys _ (by decide)) (by simp) (fun w hw => by rw [List.mem_singleton.mp hw]; exact (name_wd R.ht).1) (fun w hw => by cases hw)]
    rfl
  · rcases List.mem_cons.mp hw with rfl | hw
    · exact (name_wd R.hs).1
    · rcases List.mem_append.mp hw with hw | hw
      · exact (wT1_mem R.hts hw).1
      · exact (wD1_mem R.hds hw).1
  · rw [List.tail_cons] at hw
    rcases List.mem_append.mp hw with hw | hw
    · exact (wT1_mem R.hts hw).2.2
    · exact (wD1_mem R.hds hw).2
theorem cut_do (R : RuleOk s ts ds t) : Txt.split (W (s :: (wT1 ts ++ wD1 ds))) " do " = if ds = [] then [W (s :: wT1 ts)] else [W (s :: wT1 ts), W (segs "then" (ds.map fun d => [d]))] := by
  have hw : ∀ w ∈ s :: wT1 ts, Wd w := fun w hw => by
    rcases List.mem_cons.mp hw with rfl | hw
    · exact (name_wd R.hs).1
    · exact (wT1_mem R.hts hw).1
  have hn : ∀ w ∈ (s :: wT1 ts).tail, w ≠ "do" := fun w hw => (wT1_mem R.hts hw).2.1
  by_cases e : ds = []
  · rw [if_pos e]
    have : wD1 ds = [] := by unfold wD1; rw [if_pos e]
    rw [this, List.append_nil]
    exact split_none (k := "do") (by decide +kernel) (by decide +kernel) (wd_keys _ (by decide)) (by simp) hw hn
  · rw [if_neg e]
    have : wD1 ds = ("do" : Str) :: segs "then" (ds.map fun d => [d]) := by unfold wD1; rw [if_neg e]
    have hne : segs "then" (ds.map fun d => [d]) ≠ [] := segs_ne (by simpa using e) (fun a ha => (dseg R.hds a ha).1)
    rw [this, show s :: (wT1 ts ++ ("do" : Str) :: segs "then" (ds.map fun d => [d])) = (s :: wT1 ts) ++ ("do" : Str) :: segs "then" (ds.map fun d => [d]) from rfl,
      split_cut (k := "do") (by decide +kernel) (by decide +kernel) (wd_keys _ (by decide)) (by simp) hne hw hn,
      split_none (k := "do") (by decide +kernel) (by decide +kernel) (wd_keys _ (by decide)) hne (fun w hw => ?_) (fun w hw => ?_)]
    · rcases segs_mem hw with rfl | ⟨a, ha, hx⟩
      · exact wd_keys _ (by decide)
      · exact (dseg R.hds a ha).2.1 w hx
    · rcases segs_mem (List.mem_of_mem_tail hw) with rfl | ⟨a, ha, hx⟩
      · decide
      · exact (dseg R.hds a ha).2.2 _ (by decide) w hx
theorem cut_then (R : RuleOk s ts ds t) (h : ds ≠ []) : Txt.split (W (segs "then" (ds.map fun d => [d]))) " then " = ds := by
  rw [split_segs (k := "then") (by decide +kernel) (by decide +kernel) (wd_keys _ (by decide)) (by simpa using h) (fun a ha => ⟨(dseg R.hds a ha).1, (dseg R.hds a ha).2.1, (dseg R.hds a ha).2.2 _ (by decide)⟩), map_W_one]
theorem cut_if (R : RuleOk s ts ds t) : Txt.split (W (s :: wT1 ts)) " if " = if ts = [] then [s] else [s, W (segs "and" (ts.map tw))] := by
  have hs : ∀ w ∈ [s], Wd w := fun w hw => by rw [List.mem_singleton.mp hw]; exact (name_wd R.hs).1
  by_cases e : ts = []
  · rw [if_pos e]
    have : wT1 ts = [] := by unfold wT1; rw [if_pos e]
    rw [this]
    exact split_none (k := "if") (by decide +kernel) (by decide +kernel) (wd_keys _ (by decide)) (by simp) hs (fun w hw => by cases hw)
  · rw [if_neg e]
    have : wT1 ts = ("if" : Str) :: segs "and" (ts.map tw) := by unfold wT1; rw [if_neg e]
    have hne : segs "and" (ts.map tw) ≠ [] := segs_ne (by simpa using e) (fun a ha => (tseg R.hts a ha).1)
    rw [this, show s :: ("if" : Str) :: segs "and" (ts.map tw) = [s] ++ ("if" : Str) :: segs "and" (ts.map tw) from rfl,
      split_cut (k := "if") (by decide +kernel) (by decide +kernel) (wd_keys _ (by decide)) (by simp) hne hs (fun w hw => by cases hw),
      split_none (k := "if") (by decide +kernel) (by decide +kernel) (wd_keys _ (by decide)) hne (fun w hw => ?_) (fun w hw => ?_)]
    · rfl
    · rcases segs_mem hw with rfl | ⟨a, ha, hx⟩
      · exact wd_keys _ (by decide)
      · exact (tseg R.hts a ha).2.1 w hx
    · rcases segs_mem (List.mem_of_mem_tail hw) with rfl | ⟨a, ha, hx⟩
      · decide
      · exact (tseg R.hts a ha).2.2 _ (by decide) w hx
theorem cut_and (R : RuleOk s ts ds t) (h : ts ≠ []) : Txt.split (W (segs "and" (ts.map tw))) " and " = ts := by
  rw [split_segs (k := "and") (by decide +kernel) (by decide +kernel) (wd_keys _ (by decide)) (by simpa using h) (fun a ha => ⟨(tseg R.hts a ha).1, (tseg R.hts a ha).2.1, (tseg R.hts a ha).2.2 _ (by decide)⟩), map_W_tw R.hts]
/-- the text tells the rule -/
theorem rText_inj {s' t' : Str} {ts' ds' : List Str} (R : RuleOk s ts ds t) (R' : RuleOk s' ts' ds' t') (h : rText s ts ds t = rText s' ts' ds' t') : s = s' ∧ ts = ts' ∧ ds = ds' ∧ t = t' := by
  have h1 := cut_to R
  rw [h, cut_to R'] at h1
  injection h1 with h1 h2
  injection h2 with h2 _
  have h3 := cut_do R
  rw [← h1, cut_do R'] at h3
  have key : W (s' :: wT1 ts') = W (s :: wT1 ts) ∧ ds' = ds := by
    by_cases e : ds = []
    · by_cases e' : ds' = []
      · rw [if_pos e, if_pos e'] at h3
        injection h3 with h3
        exact ⟨h3, by rw [e, e']⟩
      · rw [if_pos e, if_neg e'] at h3
        injection h3 with _ h4
        cases h4
    · by_cases e' : ds' = []
      · rw [if_neg e, if_pos e'] at h3
        injection h3 with _ h4
        cases h4
      · rw [if_neg e, if_neg e'] at h3
        injection h3 with h3 h4
        injection h4 with h4 _
        have h5 := cut_then R e
        rw [← h4, cut_then R' e'] at h5
        exact ⟨h3, h5⟩
  obtain ⟨k1, k2⟩ := key
  have h6 := cut_if R
  rw [← k1, cut_if R'] at h6
  by_cases e : ts = []
  · by_cases e' : ts' = []
    · rw [if_pos e, if_pos e'] at h6
      injection h6 with h6
      exact ⟨h6.symm, by rw [e, e'], k2.symm, h2.symm⟩
    · rw [if_pos e, if_neg e'] at h6
      injection h6 with _ h7
      cases h7
  · by_cases e' : ts' = []
    · rw [if_neg e, if_pos e'] at h6
      injection h6 with _ h7
      cases h7
    · rw [if_neg e, if_neg e'] at h6
      injection h6 with h6 h7
      injection h7 with h7 _
      have h8 := cut_and R e
      rw [← h7, cut_and R' e'] at h8
      exact ⟨h6.symm, h8.symm, k2.symm, h2.symm⟩
end
end NM
namespace NM
open PySem L2 PySem.Spec PyProof.Rows
section
variable {X : Cx} {ρ : Rho} {ω : Om} {Ψ : PsiE} {ε : PsiX} {Φ : Post} {e : Expr} {pos : Pos}
theorem md_split {a b : Str} (hb : (b.length == 0) = false) (hz : a.length + 2 ≤ sizeLine) (h : Ψ (.lst ((Txt.split a b).map Dt.str)) ω) : MD X "str.split" (.str a) [.str b] ω Ψ := ⟨_, mt_split, fun vx vs P H as Q w ax al k => by
  obtain ⟨v, rfl, av⟩ := one_of al
  cases ax; cases av
  refine ⟨a, b, rfl, rfl, hb, hz, fun p hp => ?_⟩
  obtain ⟨w2, g2⟩ := w.newP (o := .lst ((Txt.split a b).map V.str)) hp
  exact k _ _ ω _ _ as w2 g2 (.lst (.of upd_same) (strs_at _)) h⟩
theorem md_join {a : Str} {d : Dt} {ys : List Str} (s : Sq ω d (ys.map Dt.str)) (hz : (ys.map (·.length)).sum + ys.length * a.length ≤ 16777216) (h : Ψ (.str (Txt.join a ys)) ω) : MD X "str.join" (.str a) [d] ω Ψ := ⟨_, mt_join, fun vx vs P H as Q w ax al k => by
  obtain ⟨v, rfl, av⟩ := one_of al
  cases ax
  have fin : Q (.str (Txt.join a ys)) H := k _ _ ω P H as w .refl (.str _) h
  generalize hd : ys.map Dt.str = dd at s
  cases s with
  | tup =>
    obtain ⟨b, us, rfl, hs, r⟩ := seqT w av
    rw [← hd] at r
    rw [strs_of r] at hs
    exact ⟨a, b, ys, rfl, rfl, .inr hs, hz, fin⟩
  | lst =>
    obtain ⟨b, us, rfl, hs, r⟩ := seqL w av
    rw [← hd] at r
    rw [strs_of r] at hs
    exact ⟨a, b, ys, rfl, rfl, .inl hs, hz, fin⟩
  | own hn =>
    obtain ⟨b, us, rfl, _, _, hs, r⟩ := seqO w av hn
    rw [← hd] at r
    rw [strs_of r] at hs
    exact ⟨a, b, ys, rfl, rfl, .inl (.of hs), hz, fin⟩⟩
theorem sd_str {z : Str} {lo hi : Option Int} (hz : z.length ≤ sizeLine) (h : Ψ (.str (cutS z lo hi)) ω) : SD X (.str z) lo hi ω Ψ ε := ⟨_, sl_str, fun vx P H as Q w ax k => by
  cases ax
  exact ⟨z, rfl, hz, k _ _ ω P H as w .refl (.str _) h⟩⟩
/-- lists put together -/
theorem od_cat {n m : Nat} {xs ys : List Dt} (h1 : ω[n]? = some (.lst xs)) (h2 : ω[m]? = some (.lst ys)) (hz : xs.length + ys.length ≤ sizeLine) (h : Ψ (.lst (xs ++ ys)) ω) : OD X (binaryOp .Add) (.own n) (.own m) ω Ψ ε := od_of op_cat fun vx vy P H as Q w ax ay k => by
  obtain ⟨a, us, rfl, _, _, ha, ra⟩ := seqO w ax h1
  obtain ⟨b, vs, rfl, _, _, hb, rb⟩ := seqO w ay h2
  refine ⟨a, b, us, vs, rfl, rfl, ha, hb, by rw [ra.length, rb.length]; exact hz, fun p hp => ?_⟩
  obtain ⟨w2, g2⟩ := w.newP (o := .lst (us ++ vs)) hp
  exact k _ _ ω _ _ as w2 g2 (.lst (.of upd_same) ((ra.append rb).mono g2.p g2.a)) h
theorem od_catO {n m : Nat} {xs ys : List Dt} (h1 : ω[n]? = some (.lst xs)) (h2 : ω[m]? = some (.lst ys)) (hz : xs.length + ys.length ≤ sizeLine) (h : Ψ (.own ω.length) (ω ++ [.lst (xs ++ ys)])) : OD X (binaryOp .Add) (.own n) (.own m) ω Ψ ε := od_of op_cat fun vx vy P H as Q w ax ay k => by
  obtain ⟨a, us, rfl, _, _, ha, ra⟩ := seqO w ax h1
  obtain ⟨b, vs, rfl, _, _, hb, rb⟩ := seqO w ay h2
  refine ⟨a, b, us, vs, rfl, rfl, ha, hb, by rw [ra.length, rb.length]; exact hz, fun p hp => ?_⟩
  obtain ⟨w2, g2⟩ := w.newO (o := .lst (us ++ vs)) (u := .lst (xs ++ ys)) hp ⟨(w.fresh hp).2, us ++ vs, upd_same, (ra.append rb).mono (Same.refl _) (List.prefix_append _ _)⟩
  exact k _ _ _ _ _ _ w2 g2 (.own (by rw [← w.len]; simp)) h
/-- a comprehension whose list will be changed -/
theorem ev_lcO (j : Nat) {x : Str} {elt iter : Expr} {ifs : List Expr} {scope : Scope} {own : List (Str × Nat)} {tp : Pos} (ok : Cok X) (bo : BlkOk X.N X.env.scope scope own) (hj : j ∈ own.map (·.2)) (hif : ifs = [] ∨ ∃ c, ifs = [c])
    (h : EI X ρ ω (.Name x tp) iter (fun items dv ω1 => ∃ I : Nat → List Dt → Om → Prop, I 0 [] ω1 ∧ (∀ i acc ω', I i acc ω' → dv ω') ∧
      (∀ (i : Nat) d acc ω', items[i]? = some d → I i acc ω' → Elt X scope ((wipeR ρ (own.map (·.2))).set j (some d)) ω' elt ifs (I (i + 1)) acc) ∧ (∀ acc ω', I items.length acc ω' → Ψ (.own ω'.length) (ω' ++ [.lst acc]))) ε)
    (hg : ∀ (s : Shared) (H : Hp) (C : Addr) (cl : List (Str × Addr)) (fp : List Addr), PG (Blk X scope s H C cl fp) (.Name x tp) (gName j)) (hs : ∀ x, foldedSetIterable iter X.env x = pure x := by intro _; rfl) :
    EV X ρ ω (.ListComp elt [⟨.Name x tp, iter, ifs, 0⟩] scope pos) Ψ ε := fun σ P H as Q w en xk q => by
  refine sE_of (pe_lc (te := fun σ H Q => ∀ s H0 C cl fp, sE (Blk X scope s H0 C cl fp) elt σ H Q) ok.calm ok.nd pI bo hg (pTs hif) (fun s H C cl fp => ⟨fun pins s' σ' H' Q' I h => (h s H C cl fp).run pins s' I⟩) hs) ?_
  refine lc_run (R := fun acc ω' => Ψ (.own ω'.length) (ω' ++ [.lst acc])) (fun d => (wipeR ρ (own.map (·.2))).set j (some d)) (tgt_name j hj) h w en xk fun D acc ω' P' H' as' P1 H1 as1 hD g1 x p => ?_
  obtain ⟨w2, g2, a2⟩ := x.finO hD
  exact q _ _ _ _ _ _ w2 (g1.trans g2) a2 p
structure CmG (P : Program) (w : World) (K : Fg) (mg : Str → Option Value) (base : Heap) (C : Addr) (m : Str) (k n : Nat) (sp : DSp) : Prop where
  ex : ∃ p g mc fd ps, ClX.CRead K C mc ∧ ClX.CMet K C mc m p g ∧ FnP P w K mg base k g fd ps sp ∧ KB K fd ps n [] gAll
/-- a def called, as the code of a call -/
theorem run_codeD {f : Addr} {fd : FuncData} {ps : List Str} {n k : Nat} {sp : Sp} {g : List Value → List Value → List Value} {gV : List V → List V → List V} {pins : List (Addr × Obj)} {σ : L2.St} {H : Hp} {s : Shared} {Q : VK} {us : List Value} {vs : List V} {W : WX} (F : FnG X.prog X.w X.K X.mg X.base k f fd ps sp) (hr : Rm k X.A) (hb : KBn X.K fd ps n [] g gV)
    (I : Inv X pins σ H s) (tk : Takes X W) (r : Vals vs us) (l1 : vs.length = n) (h : sp (gV vs []) H Q (fun cls dx H' => W cls dx σ H')) :
    codeAny (model X.prog X.w) X.A (.call (.ref f) ⟨us, []⟩) (fun r s' => match r with | .ok (.ret v) => EP X pins σ Q v s' | .ok _ => False | .error e => X.xe e s') s := by
  have r2 := hb.rel r (Paired.nil : Vals [] [])
  refine codeAny_mono (F.run X.A X.stack s H ⟨us, []⟩ (g us []) (gV vs []) Q _ hr I.env0 (hb.to s us [] I.kIn (r.length.symm.trans l1) rfl) r2 h) fun r s' hq => ?_
  cases r with
  | error e => exact tk _ _ (XE.of_call I (fun _ _ _ h => h) hq)
  | ok fl =>
    cases fl with
    | ret u => exact I.after hq
    | next => exact False.elim hq
    | brk => exact False.elim hq
    | cont => exact False.elim hq
theorem ev_cmeth {x m : Str} {p apos : Pos} {es : List Expr} {C : Addr} {k n : Nat} {sp : DSp} {pl : Sem Bool} (S : CmG X.prog X.w X.K X.mg X.base C m k n sp) (hm : X.mg x = some (.ref C)) (hr : Rm k X.A)
    (h : EA X ρ ω (e :: es) (fun ds ω1 => ds.length + 1 = n ∧ sp (.ref C :: ds) ω1 Ψ ε) ε) (hg : Gl X x := by rfl) (hdb : (x == ("__debug__" : Str)) = false := by decide)
    (hst : starEach (e :: es) X.env = (false, eval e X.env) :: starEach es X.env := by rfl) (hpl : (backTo pos (starEach es X.env)).any (·.1) = false := by rfl)
    (ht : eval (.Call (.Attribute (.Name x p) m apos) (e :: es) [] pos) X.env = (do
      let ov ← eval (.Name x p) X.env
      standAt apos.atName
      let (f, first) ← holding [ov] (getMethod ov m pl)
      callWith pos f first (backTo pos (starEach (e :: es) X.env)) (backToKw pos (keywordEach [] X.env))) := by rfl) : EV X ρ ω (.Call (.Attribute (.Name x p) m apos) (e :: es) [] pos) Ψ ε := fun σ P H as Q w en xk q => by
  obtain ⟨pa, g, mc, fd, ps, rd, cm, F, hb⟩ := S.ex
  obtain ⟨g1, gV, hb1, hb2⟩ := hb.ex
  have z : sA X (e :: es) σ H (fun vs H1 => vs.length + 1 = n ∧ ∃ W, Takes X W ∧ lift X.K sp (gV (.ref C :: vs) []) H1 Q (fun cls dx H' => W cls dx σ H')) := h σ P H as _ w en xk fun vs ds ω1 P1 H1 as1 w1 g1 a1 p =>
    ⟨by rw [a1.length]; exact p.1, lift_of w1 (hb2 (.cons (.ref C) a1) .nil) (xk.later g1) p.2 fun v d ω' P' H' as' w' g' a' k => q v d ω' P' H' as' w' (g1.trans g') a' k⟩
  have GC : GlD X.K X.mg x (.ref C) := ⟨_, .ref C, hm, rfl, fun P as => .ref C⟩
  have zn : sE X (.Name x p) σ H (fun v H1 => v = .ref C ∧ H1 = H) := by
    refine sE_of (pe_glob (v := V.ref C) hg hm rfl hdb) ?_
    exact ⟨rfl, rfl⟩
  refine .mk fun pins s I => PySem.W.methodCall_KW (pl := pl) (thn (zn.run pins s I) fun u s1 ⟨v, H1, I1, rx, ex, eh⟩ => ?_) ht
  subst ex eh
  obtain rfl : u = Value.ref C := rx
  refine ClX.getmethcm_ok I1 rd cm fun s2 I2 => ?_
  refine ClX.callwith_cm I2 (ClX.base_none I1 (Nat.le_refl _)) cm.fi (thn (z.run pos _ s2 I2) fun us s3 ⟨vs, H2, I3, rv, l1, W, tk, q2⟩ => ⟨⟨ClX.pin_at I3, I3.kIn⟩, ?_⟩) hst hpl
  have zz : wpAny (model X.prog X.w) X.A (call (.ref s1.heap.objs.size) us) (EP X ((s1.heap.objs.size, PySem.W.methodObj (.ref g) (.ref C)) :: pins) σ Q) X.xe s3 :=
    wpAny_call (PySem.W.method_call (ClX.pin_at I3) (run_codeD (us := .ref C :: us) (vs := .ref C :: vs) F.ok hr hb1 I3 tk (.cons rfl rv) l1 q2))
  exact thn zz fun _ _ y => ClX.unpinE y
/-- b: the value is a list or a tuple -/
def SeqK (K : Fg) (ω : Om) (d : Dt) (b : Bool) : Prop := ∃ t l u, TyD K ω d t ∧ PySem.W.kitOne K t (.type "list") = some l ∧ PySem.W.kitOne K t (.type "tuple") = some u ∧ b = (l || u)
theorem seqK_kn {K : Fg} {d : Dt} (h : Kn K ω d) : SeqK K ω d (isTy d "list" || isTy d "tuple") := by
  obtain ⟨t, ht, hk⟩ := h.ex
  exact ⟨t, _, _, ht, hk "list" (by decide), hk "tuple" (by decide), rfl⟩
theorem seqK_own {K : Fg} {n : Nat} {ds : List Dt} (h : ω[n]? = some (.lst ds)) : SeqK K ω (.own n) true := ⟨_, true, false, .ownL h, kit_ty (by decide +kernel), kit_ty (by decide +kernel), rfl⟩
end
end NM
namespace NM
open PySem L2 PySem.Spec PyProof.Rows TL
/-- the part of the tests, of the deeds, as the program writes them -/
def tsT (ts : List Str) : Str := if ts = [] then "" else (Str.empty ++ " if ") ++ Txt.join " and " ts
def dsT (ds : List Str) : Str := if ds = [] then "" else (Str.empty ++ " do ") ++ Txt.join " then " ds
def pyText (s : Str) (ts ds : List Str) (t : Str) : Str := ((((Str.empty ++ s) ++ tsT ts) ++ dsT ds) ++ " to ") ++ t
/-- .. as the laws do -/
def lwT (ts : List Str) : List Str := if ts = [] then [] else ["if " ++ Txt.join " and " ts]
def lwD (ds : List Str) : List Str := if ds = [] then [] else ["do " ++ Txt.join " then " ds]
def lwText (s : Str) (ts ds : List Str) (t : Str) : Str := Txt.join " " (((s :: lwT ts) ++ lwD ds) ++ (["to " ++ t] : List Str))
section
variable {s t : Str} {ts ds : List Str}
theorem tl_empty : tl Str.empty = [] := rfl
theorem jT (h : ∀ x ∈ ts, x ∈ tests10) (hn : ts ≠ []) : Txt.join " and " ts = W (segs "and" (ts.map tw)) := by
  have := join_segs (k := "and") (y := " and ") (by decide +kernel) (l := ts.map tw) (by simpa using hn) (fun a ha => (tseg h a ha).1)
  rw [map_W_tw h] at this; exact this
theorem jD (h : ∀ x ∈ ds, x ∈ deeds6) (hn : ds ≠ []) : Txt.join " then " ds = W (segs "then" (ds.map fun d => [d])) := by
  have := join_segs (k := "then") (y := " then ") (by decide +kernel) (l := ds.map fun d => [d]) (by simpa using hn) (fun a ha => (dseg h a ha).1)
  rw [map_W_one] at this; exact this
theorem tl_tsT (h : ∀ x ∈ ts, x ∈ tests10) {r : List Str} (hr : r ≠ []) : tl (tsT ts) ++ 32 :: jw (r.map tl) = 32 :: jw ((wT1 ts ++ r).map tl) := by
  unfold tsT wT1
  by_cases e : ts = []
  · rw [if_pos e, if_pos e]; rfl
  · rw [if_neg e, if_neg e, jT h e]
    have hne : segs "and" (ts.map tw) ≠ [] := segs_ne (by simpa using e) (fun a ha => (tseg h a ha).1)
    rw [List.map_append, List.map_cons, List.cons_append, ← List.map_append, jw_cons (by simpa using fun z => absurd z hne), List.map_append, jw_app (by simpa using hne) (by simpa using hr)]
    rw [tl_append, tl_append, tl_empty, tl_W]
    rw [show tl (" if " : Str) = 32 :: (tl ("if" : Str) ++ [32]) by decide +kernel]
    simp [List.append_assoc]
theorem tl_dsT (h : ∀ x ∈ ds, x ∈ deeds6) {r : List Str} (hr : r ≠ []) : tl (dsT ds) ++ 32 :: jw (r.map tl) = 32 :: jw ((wD1 ds ++ r).map tl) := by
  unfold dsT wD1
  by_cases e : ds = []
  · rw [if_pos e, if_pos e]; rfl
  · rw [if_neg e, if_neg e, jD h e]
    have hne : segs "then" (ds.map fun d => [d]) ≠ [] := segs_ne (by simpa using e) (fun a ha => (dseg h a ha).1)
    rw [List.map_append, List.map_cons, List.cons_append, ← List.map_append, jw_cons (by simpa using fun z => absurd z hne), List.map_append, jw_app (by simpa using hne) (by simpa using hr)]
    rw [tl_append, tl_append, tl_empty, tl_W]
    rw [show tl (" do " : Str) = 32 :: (tl ("do" : Str) ++ [32]) by decide +kernel]
    simp [List.append_assoc]
theorem pyText_ok (R : RuleOk s ts ds t) : pyText s ts ds t = rText s ts ds t := by
  refine ext_tl ?_
  unfold pyText rText rWords
  have e1 := tl_dsT R.hds (r := ["to", t]) (by simp)
  have e2 := tl_tsT R.hts (r := wD1 ds ++ (["to", t] : List Str)) (by simp)
  have e3 : jw ((["to", t] : List Str).map tl) = tl ("to" : Str) ++ 32 :: tl t := rfl
  rw [tl_W, show (s :: (wT1 ts ++ wD1 ds)) ++ (["to", t] : List Str) = s :: (wT1 ts ++ (wD1 ds ++ (["to", t] : List Str))) by simp, List.map_cons, jw_cons (by simp), ← e2, ← e1, e3]
  simp only [tl_append, tl_empty]
  rw [show tl (" to " : Str) = 32 :: (tl ("to" : Str) ++ [32]) by decide +kernel]
  simp [List.append_assoc]
theorem lw_join : ∀ {ws : List Str} {r : Str}, Txt.join " " (ws ++ [r]) = W (ws ++ [r]) := by
  intro ws r
  unfold W
  rw [join_eq]
theorem lwText_ok (R : RuleOk s ts ds t) : lwText s ts ds t = rText s ts ds t := by
  rw [← pyText_ok R]
  refine ext_tl ?_
  unfold lwText pyText
  rw [lw_join, tl_W]
  have e3 : tl ("to " ++ t : Str) = tl ("to" : Str) ++ 32 :: tl t := by rw [tl_append, show tl ("to " : Str) = tl ("to" : Str) ++ [32] by decide +kernel]; simp
  have eD : jw ((lwD ds ++ (["to " ++ t] : List Str)).map tl) = (tl (dsT ds)).drop 1 ++ (if ds = [] then [] else [32]) ++ tl ("to " ++ t : Str) := by
    unfold lwD dsT
    by_cases e : ds = []
    · rw [if_pos e, if_pos e, if_pos e]; rfl
    · rw [if_neg e, if_neg e, if_neg e]
      show tl ("do " ++ Txt.join " then " ds : Str) ++ 32 :: tl ("to " ++ t : Str) = _
      simp only [tl_append, tl_empty]
      rw [show tl (" do " : Str) = 32 :: tl ("do " : Str) by decide +kernel]
      simp
  have hD : 32 :: ((tl (dsT ds)).drop 1 ++ (if ds = [] then [] else [32]) ++ tl ("to " ++ t : Str)) = tl (dsT ds) ++ 32 :: tl ("to " ++ t : Str) := by
    unfold dsT
    by_cases e : ds = []
    · rw [if_pos e, if_pos e]; rfl
    · rw [if_neg e, if_neg e, tl_append, tl_append, tl_empty, show tl (" do " : Str) = 32 :: tl ("do " : Str) by decide +kernel]
      simp
  have eT : 32 :: jw ((lwT ts ++ (lwD ds ++ (["to " ++ t] : List Str))).map tl) = tl (tsT ts) ++ 32 :: jw ((lwD ds ++ (["to " ++ t] : List Str)).map tl) := by
    unfold lwT tsT
    by_cases e : ts = []
    · rw [if_pos e, if_pos e]; rfl
    · rw [if_neg e, if_neg e]
      rw [List.map_append, List.map_cons, List.map_nil, jw_app (by simp) (by simp)]
      show 32 :: ((tl ("if " ++ Txt.join " and " ts : Str)) ++ 32 :: _) = _
      simp only [tl_append, tl_empty]
      rw [show tl (" if " : Str) = 32 :: tl ("if " : Str) by decide +kernel]
      simp
  rw [show ((s :: lwT ts) ++ lwD ds) ++ (["to " ++ t] : List Str) = s :: (lwT ts ++ (lwD ds ++ (["to " ++ t] : List Str))) by simp, List.map_cons, jw_cons (by simp), eT, eD, hD, e3]
  simp only [tl_append, tl_empty]
  rw [show tl (" to " : Str) = 32 :: (tl ("to" : Str) ++ [32]) by decide +kernel]
  simp [List.append_assoc]
end
end NM
namespace NM
open PySem L2 PySem.Spec PyProof.Rows
structure Nice (n m : Nat) (p : PyData) : Prop where
  sh : p.showable = true
  nd : p.hasDict = false
  dep : p.depth ≤ n
  lay : p.canLay0 = true
  short : p.leavesShort 13 = true
  wt : p.weight ≤ m
structure NiceL (n m : Nat) (ps : List PyData) : Prop where
  sh : PyData.showableAll ps = true
  nd : PyData.hasDictAll ps = false
  dep : PyData.depthAll ps ≤ n
  lay : PyData.canLayAll0 ps = true
  short : PyData.leavesShortAll 13 ps = true
  wt : PyData.weightAll ps ≤ m
/-- plain signs -/
def Asc (x : Str) : Prop := ∀ c ∈ x.cps.toList, c < 128
theorem Nice.mono {n m n' m' : Nat} {p : PyData} (h : Nice n m p) (h1 : n ≤ n') (h2 : m ≤ m') : Nice n' m' p := ⟨h.sh, h.nd, Nat.le_trans h.dep h1, h.lay, h.short, Nat.le_trans h.wt h2⟩
theorem NiceL.mono {n m n' m' : Nat} {p : List PyData} (h : NiceL n m p) (h1 : n ≤ n') (h2 : m ≤ m') : NiceL n' m' p := ⟨h.sh, h.nd, Nat.le_trans h.dep h1, h.lay, h.short, Nat.le_trans h.wt h2⟩
theorem NiceL.nil {n m : Nat} : NiceL n m [] := ⟨by simp only [PyData.showableAll], by simp only [PyData.hasDictAll], by simp only [PyData.depthAll]; omega, by simp only [PyData.canLayAll0], by simp only [PyData.leavesShortAll], by simp only [PyData.weightAll]; omega⟩
theorem NiceL.cons {n a b m : Nat} {p : PyData} {ps : List PyData} (h : Nice n a p) (r : NiceL n b ps) (hm : a + 1 + b ≤ m) : NiceL n m (p :: ps) :=
  ⟨by simp only [PyData.showableAll, h.sh, r.sh, Bool.and_self], by simp only [PyData.hasDictAll, h.nd, r.nd, Bool.or_self], by have := h.dep; have := r.dep; simp only [PyData.depthAll]; omega, by simp only [PyData.canLayAll0, h.lay, r.lay, Bool.and_self],
    by simp only [PyData.leavesShortAll, h.short, r.short, Bool.and_self], by have := h.wt; have := r.wt; simp only [PyData.weightAll]; omega⟩
theorem Nice.tup {n m : Nat} {ps : List PyData} (h : NiceL n m ps) : Nice (n + 1) m (.tuple ps) :=
  ⟨by simp only [PyData.showable, h.sh], by simp only [PyData.hasDict, h.nd], by have := h.dep; simp only [PyData.depth]; omega, by simp only [PyData.canLay0, h.lay], by simp only [PyData.leavesShort, h.short], by have := h.wt; simp only [PyData.weight]; omega⟩
theorem Nice.lst {n m : Nat} {ps : List PyData} (h : NiceL n m ps) : Nice (n + 1) m (.list ps) :=
  ⟨by simp only [PyData.showable, h.sh], by simp only [PyData.hasDict, h.nd], by have := h.dep; simp only [PyData.depth]; omega, by simp only [PyData.canLay0, h.lay], by simp only [PyData.leavesShort, h.short], by have := h.wt; simp only [PyData.weight]; omega⟩
theorem Nice.bl {n m : Nat} (b : Bool) : Nice n m (.bool b) := ⟨by simp only [PyData.showable], by simp only [PyData.hasDict], by simp only [PyData.depth]; omega, by simp only [PyData.canLay0], by simp only [PyData.leavesShort], by simp only [PyData.weight]; omega⟩
theorem Nice.non {n m : Nat} : Nice n m .none := ⟨by simp only [PyData.showable], by simp only [PyData.hasDict], by simp only [PyData.depth]; omega, by simp only [PyData.canLay0], by simp only [PyData.leavesShort], by simp only [PyData.weight]; omega⟩
theorem asc_ok {x : Str} (h : Asc x) : PyData.canLay0 (.str x) = true ∧ PyData.leavesShort 13 (.str x) = true := by
  constructor
  · simp only [PyData.canLay0]
    unfold PyData.strOk
    rw [← Array.all_toList]
    refine List.all_eq_true.mpr fun c hc => decide_eq_true ?_
    have := h c hc
    omega
  · simp only [PyData.leavesShort]
    refine List.all_eq_true.mpr fun c hc => decide_eq_true ?_
    have := h c hc
    omega
theorem Nice.str {n m : Nat} {x : Str} (h : Asc x) (hl : x.length ≤ m) : Nice n m (.str x) :=
  ⟨by simp only [PyData.showable], by simp only [PyData.hasDict], by simp only [PyData.depth]; omega, (asc_ok h).1, (asc_ok h).2, by simp only [PyData.weight]; exact hl⟩
theorem Nice.int {n m : Nat} {i : Int} (h : i.natAbs < 10 ^ 12) (hm : 41 ≤ m) : Nice n m (.int i) := by
  have hl : i.natAbs.log2 ≤ 40 := by
    rcases Nat.eq_zero_or_pos i.natAbs with e | e
    · rw [e]; decide
    · have h2 : (10:Nat) ^ 12 ≤ 2 ^ (40 + 1) := by decide
      have h3 : i.natAbs.log2 < 40 + 1 := (Nat.log2_lt (by omega)).mpr (Nat.lt_of_lt_of_le h h2)
      omega
  refine ⟨?_, by simp only [PyData.hasDict], by simp only [PyData.depth]; omega, by simp only [PyData.canLay0], ?_, ?_⟩
  · simp only [PyData.showable]; exact decide_eq_true (by omega)
  · simp only [PyData.leavesShort]; exact decide_eq_true (PyData.shown_int_le h)
  · simp only [PyData.weight]
    split <;> omega
theorem nice_strs {b : Nat} : ∀ {xs : List Str}, (∀ x ∈ xs, Asc x ∧ x.length ≤ b) → NiceL 0 (xs.length * (b + 1)) (xs.map PyData.str)
  | [], _ => .nil
  | x :: xs, h => by
    have h1 := h x (by simp)
    refine NiceL.cons (a := b) (b := xs.length * (b + 1)) (.str h1.1 h1.2) (nice_strs fun y hy => h y (List.mem_cons_of_mem _ hy)) ?_
    rw [List.length_cons, Nat.add_mul]
    omega
theorem py_strs {ω : Om} : ∀ xs : List Str, PyL ω (xs.map Dt.str) (xs.map PyData.str)
  | [] => .nil
  | x :: xs => .cons (.str x) (py_strs xs)
theorem eqv_strs : ∀ xs ys : List Str, PyData.eqvAll (xs.map PyData.str) (ys.map PyData.str) = decide (xs = ys)
  | [], [] => rfl
  | [], y :: ys => rfl
  | x :: xs, [] => rfl
  | x :: xs, y :: ys => by
    rw [List.map_cons, List.map_cons]
    simp only [PyData.eqvAll, PyData.eqv, eqv_strs xs ys]
    by_cases e : x = y
    · subst e; simp
    · simp [e]
section
variable {X : Cx} {ω : Om} {Ψ : PsiE} {ε : PsiX}
theorem Nice.shaped {m : Nat} {p : PyData} (h : Nice 60 m p) : SeqAt.shaped p = true := by
  unfold SeqAt.shaped
  rw [h.lay]
  exact decide_eq_true (Nat.le_trans h.dep (by decide))
theorem cd_reprN {x : Dt} {p : PyData} (hg : X.A.guards = some []) (hu : X.A.units + 64 < cLine) (hp : Py ω x p) (h1 : Nice 60 (2 ^ 20) p) (h : Ψ (.str p.shown) ω) : CD X (.builtin "repr") [x] ω Ψ ε :=
  cd_repr hg hu hp h1.sh h1.nd h1.dep (PyData.shown_fits (B := 13) (by decide) (by decide) h1.short h1.wt) h
theorem od_eqN {x y : Dt} {p q : PyData} {m m' : Nat} (hx : Py ω x p) (hy : Py ω y q) (sx : Nice 60 m p) (sy : Nice 60 m' q) (hu : X.A.units + 64 < cLine) (h : Ψ (.bl (PyData.eqv p q)) ω) : OD X (compareOp .Eq) x y ω Ψ ε := od_eq hx hy sx.shaped sy.shaped hu h
theorem od_neN {x y : Dt} {p q : PyData} {m m' : Nat} (hx : Py ω x p) (hy : Py ω y q) (sx : Nice 60 m p) (sy : Nice 60 m' q) (hu : X.A.units + 64 < cLine) (h : Ψ (.bl (!PyData.eqv p q)) ω) : OD X (compareOp .NotEq) x y ω Ψ ε := od_ne hx hy sx.shaped sy.shaped hu h
theorem eqv_self {n m : Nat} {p : PyData} (h : Nice n m p) : PyData.eqv p p = true := SeqAt.eqv_refl p h.lay
end
end NM
namespace NM
open PySem L2 PySem.Spec PyProof.Rows
inductive CStr : List Expr → List Str → Prop
  | nil : CStr [] []
  | cons {k : Nat} {p : Pos} {x : Str} {es : List Expr} {ws : List Str} (h : CStr es ws) : CStr (.Constant (.str x) k p :: es) (x :: ws)
section
variable {X : Cx} {ρ : Rho} {ω : Om} {Ψ : PsiE} {ε : PsiX} {pos : Pos}
theorem ea_strs : ∀ {es : List Expr} {ws : List Str} {Ψ : List Dt → Om → Prop}, CStr es ws → Ψ (ws.map Dt.str) ω → EA X ρ ω es Ψ ε
  | _, _, _, .nil, k => ea_nil k
  | _, _, _, .cons h, k => ea_cons (ev_str (ea_strs h k))
theorem ev_lstS {es : List Expr} {ws : List Str} (h : CStr es ws) (hz : ws.length ≤ 1000) (k : Ψ (.lst (ws.map Dt.str)) ω) : EV X ρ ω (.List es pos) Ψ ε :=
  ev_lst (ea_strs h ⟨by rw [List.length_map]; exact Nat.le_trans hz (by decide), k⟩)
theorem ev_lstSO {es : List Expr} {ws : List Str} (h : CStr es ws) (hz : ws.length ≤ 1000) (k : Ψ (.own ω.length) (ω ++ [.lst (ws.map Dt.str)])) : EV X ρ ω (.List es pos) Ψ ε :=
  ev_lstO (ea_strs h ⟨by rw [List.length_map]; exact Nat.le_trans hz (by decide), k⟩)
end
end NM
namespace NM
open PySem L2
section
variable {X : Cx} {ρ : Rho} {ω : Om} {Ψ : PsiE} {ε : PsiX} {Φ : Post} {e : Expr} {pos : Pos}
/-- a statement with one end -/
theorem es_to {st : Stmt} (ρ1 : Rho) (ω1 : Om) (h : ES X ρ ω st { nx := fun ρ' ω' => ρ' = ρ1 ∧ ω' = ω1, rt := fun _ _ => False }) (k : Φ.nx ρ1 ω1) : ES X ρ ω st Φ := fun σ P H as D w en z => by
  obtain ⟨zn, zr, zb, zc, W, tk, zx⟩ := z
  refine h σ P H as D w en ⟨fun σ' ρ' ω' P' H' as' w' g' en' q => ?_, fun _ _ _ _ _ _ _ _ _ f => f.elim, fun _ _ _ _ _ _ _ _ _ f => f.elim, fun _ _ _ _ _ _ _ _ _ f => f.elim, W, tk, fun _ _ _ _ _ _ _ _ _ _ _ _ _ f => f.elim⟩
  obtain ⟨rfl, rfl⟩ := q
  exact zn σ' _ _ P' H' as' w' g' en' k
end
theorem giv_cutL {Ψ : PsiE} {ω ω1 rest : Om} {d : Dt} (hl : ω1.length = ω.length) (h1 : OmLt ω.length ω1) (hd : d.lt ω.length = true) (h : Ψ d ω1) : Giv ω.length Ψ d (ω1 ++ rest) := by
  have e : (ω1 ++ rest).take ω.length = ω1 := by rw [← hl]; exact List.take_left
  exact ⟨ω.length, d, Nat.le_refl _, by rw [e]; exact h1, frz_lt hd, by rw [e]; exact h⟩
theorem bx_get {ω : Om} {b : Nat} {o : Ow} (h : b < ω.length) (r : Om) : (ω.set b o ++ r)[b]? = some o := by
  rw [List.getElem?_append_left (by rw [List.length_set]; exact h), List.getElem?_set_self h]
theorem bx_set {ω : Om} {b : Nat} {o u : Ow} (h : b < ω.length) (r : Om) : (ω.set b o ++ r).set b u = ω.set b u ++ r := by
  rw [List.set_append_left _ _ (by rw [List.length_set]; exact h), List.set_set]
theorem bx_new {ω : Om} {b : Nat} {u : Ow} (h : b < ω.length) (r : Om) : (ω ++ r).set b u = ω.set b u ++ r := List.set_append_left _ _ h
theorem bx_last {ω : Om} {b : Nat} {o u : Ow} : (ω.set b o ++ [u])[ω.length]? = some u := by
  have := get_last (ω.set b o) u; rwa [List.length_set] at this
theorem bx_put {ω : Om} {b : Nat} {o u v : Ow} : (ω.set b o ++ [u]).set ω.length v = ω.set b o ++ [v] := by
  have := set_last (ω.set b o) u v; rwa [List.length_set] at this
end NM
namespace NM
open PySem L2 PySem.Spec PyProof.Rows
section
variable {X : Cx} {ρ : Rho} {ω : Om} {Ψ : PsiE} {ε : PsiX} {Φ : Post} {e a b : Expr} {pos : Pos}
theorem od_addT {xs ys : List Dt} (hz : xs.length + ys.length ≤ sizeLine) (h : Ψ (.tup (xs ++ ys)) ω) : OD X (binaryOp .Add) (.tup xs) (.tup ys) ω Ψ ε := od_of op_catA fun vx vy P H as Q w ax ay k => by
  obtain ⟨p, us, rfl, hp, rp⟩ := seqT w ax
  obtain ⟨q, ws, rfl, hq, rq⟩ := seqT w ay
  refine ⟨p, q, us, ws, rfl, rfl, hp, hq, by rw [rp.length, rq.length]; exact hz, fun z => ?_, fun z1 z2 => ?_, fun z1 z2 r hr => ?_⟩
  · subst z; cases rp
    exact k _ _ ω P H as w .refl ay h
  · subst z2; cases rq
    rw [List.append_nil] at h
    exact k _ _ ω P H as w .refl ax h
  · obtain ⟨w2, g2⟩ := w.newP (o := .tup _) hr
    exact k _ _ ω _ _ as w2 g2 (.tup (.of upd_same) ((rp.append rq).mono g2.p g2.a)) h
theorem sd_tupA {ds : List Dt} {lo hi : Option Int} (h : Ψ (.tup (cutD ds lo hi)) ω) : SD X (.tup ds) lo hi ω Ψ ε := ⟨_, sl_tupA, fun vx P H as Q w ax k => by
  obtain ⟨p, us, rfl, hp, rp⟩ := seqT w ax
  refine ⟨p, us, rfl, hp, fun z => ?_, fun z r hr => ?_⟩
  · have el := rp.length
    rw [el] at z
    have ec : cutD ds lo hi = ds := by
      unfold cutD
      rw [z.1, z.2]; simp
    rw [ec] at h
    exact k _ _ ω P H as w .refl ax h
  · obtain ⟨w2, g2⟩ := w.newP (o := .tup _) hr
    exact k _ _ ω _ _ as w2 g2 (.tup (.of upd_same) ((cut_at rp lo hi).mono g2.p g2.a)) h⟩
theorem ea_star {Ψ : List Dt → Om → Prop} {es : List Expr} {p : Pos} (h : EV X ρ ω e (fun d ω1 => ∃ xs, Sq ω1 d xs ∧ EA X ρ ω1 es (fun ds ω2 => Ψ (xs ++ ds) ω2) ε) ε) (hs : starEach (.Starred e p :: es) X.env = (true, eval e X.env) :: starEach es X.env := by rfl) : EA X ρ ω (.Starred e p :: es) Ψ ε := fun σ P H as Q w en xk q => by
  refine sA_of (StX.pa_star pE pA hs) (h σ P H as _ w en xk fun v d ω1 P1 H1 as1 w1 g1 a1 p => ?_)
  obtain ⟨xs, sq, p⟩ := p
  obtain ⟨c, vs, rfl, hc, rc⟩ := sqR w1 sq a1
  refine ⟨c, vs, rfl, hc.symm, ?_⟩
  exact p σ P1 H1 as1 _ w1 (en.mono g1.p g1.a) (xk.later g1) fun us ds ω2 P2 H2 as2 w2 g2 a2 p2 => q (vs ++ us) (xs ++ ds) ω2 P2 H2 as2 w2 (g1.trans g2) ((rc.mono g2.p g2.a).append a2) p2
/-- len(x) by an own __len__ -/
theorem cd_lenO {x : Dt} {C : Addr} {ns : List Str} {ds : List Dt} {gD : List Dt → List Dt → List Dt} {sp : DSp} (ob : Ob ω x C ns ds) (S : SpD X C "__len__" 1 gD sp)
    (h : sp (gD [x] []) ω (fun d ω' => ∃ n : Int, d = .int n ∧ 0 ≤ n ∧ n < 2 ^ 63 ∧ Ψ d ω') ε) : CD X (.builtin "len") [x] ω Ψ ε := fun σ vs P H as Q w al xk q => .mk fun pins s us I r => by
  obtain ⟨f, fd, k, ps, hs, hf, F, hb, hr⟩ := S.ex
  obtain ⟨g, gV, hb1, hb2⟩ := hb.ex
  obtain ⟨v, rfl, av⟩ := one_of al
  obtain ⟨c, dx, fs, rfl, h1, e1, r1⟩ := ob_at w ob av
  obtain ⟨u, rfl, ru⟩ := Vals.one r
  cases ru
  obtain ⟨mA, J, _⟩ := ins_get I.hok h1
  obtain ⟨od, J, _⟩ := J.look
  obtain ⟨m, hF⟩ := I.fr
  obtain ⟨W, tk, z⟩ := lift_of (σ := σ) (Q := fun v H' => (∃ n : Int, v = .int n ∧ 0 ≤ n ∧ n < 2 ^ 63) ∧ Q v H') w (hb2 (.cons av .nil) .nil) xk h fun v d ω' P' H' as' w' g' a' p => by
    obtain ⟨n, rfl, p0, p1, p⟩ := p
    cases a'
    exact ⟨⟨n, rfl, p0, p1⟩, q _ _ ω' P' H' as' w' g' (.int n) p⟩
  refine PySem.W.len_K hF I.ok.mod.kin J hs hf ?_
  refine wpAny_mono (run_at (us := [.ref c]) (vs := [.ref c]) F.ok (hr.in1.mono (by omega)) rfl hb1 I tk (.cons rfl .nil) rfl z) (fun v s' hv => ?_) fun _ _ x => x
  obtain ⟨v', H', I', rv, ⟨n, rfl, p0, p1⟩, qq⟩ := hv
  obtain ⟨t, rfl⟩ := rv
  exact ⟨⟨p0, p1⟩, .int n, H', I'.tok _, ⟨_, rfl⟩, qq⟩
/-- x op y by an own method of x's class, both of this class; the answer is a thing of an own class -/
theorem od_binO {op : Operator} {x y : Dt} {C : Addr} {ns : List Str} {ds : List Dt} {gD : List Dt → List Dt → List Dt} {sp : DSp} (ob : Ob ω x C ns ds) (S : SpD X C (PySem.dunder op.info.2) 2 gD sp) (hy : TyD X.K ω y (.ref C)) (hc : PySem.W.selfFirst X.K C = true)
    (h : sp (gD [x, y] []) ω (fun d ω' => (∃ C ns ds, d = .obj C ns ds) ∧ Ψ d ω') ε) : OD X (binaryOp op) x y ω Ψ ε := fun σ vx vy P H as Q w ax ay xk q => .mk fun pins s v u I rx ry => by
  obtain ⟨f, fd, k, ps, hs, hf, F, hb, hr⟩ := S.ex
  obtain ⟨g, gV, hb1, hb2⟩ := hb.ex
  obtain ⟨c, dx, fs, rfl, h1, e1, r1⟩ := ob_at w ob ax
  cases rx
  obtain ⟨mA, J, _⟩ := ins_get I.hok h1
  obtain ⟨od, J, _⟩ := J.look
  obtain ⟨m, hF⟩ := I.fr
  obtain ⟨W, tk, z⟩ := lift_of (σ := σ) (Q := fun v H' => (∃ k, v = .ref k) ∧ Q v H') w (hb2 (.cons ax (.cons ay .nil)) .nil) xk h fun v d ω' P' H' as' w' g' a' p => by
    obtain ⟨⟨C', ns', ds', rfl⟩, p⟩ := p
    refine ⟨?_, q _ _ ω' P' H' as' w' g' a' p⟩
    cases a'
    exact ⟨_, rfl⟩
  refine PySem.W.binop_K hF I.ok.mod.kin J (looks_ty I ry (tyx_at w hy ay)) hc hs hf ?_
  refine wpAny_mono (run_at (us := [.ref c, u]) (vs := [.ref c, vy]) F.ok (hr.mono (by omega)) rfl hb1 I tk (.cons rfl (.cons ry .nil)) rfl z) (fun v s' hv => ?_) fun _ _ x => x
  obtain ⟨v', H', I', rv, ⟨k, rfl⟩, qq⟩ := hv
  cases rv
  exact ⟨.ref k, H', I', rfl, qq⟩
/-- x[y] by an own __getitem__ -/
theorem ev_ixO {C : Addr} {gD : List Dt → List Dt → List Dt} {sp : DSp} (h : EV X ρ ω a (fun x ω1 => EV X ρ ω1 b (fun y ω2 => ∃ ns ds f, Ob ω2 x C ns ds ∧ SpD X C "__getitem__" 2 gD sp ∧ PySem.W.findIn X.K (.ref C) "__getitem__" = some (some (.ref f)) ∧ PySem.W.fnIn X.K f = true ∧ sp (gD [x, y] []) ω2 Ψ ε) ε) ε)
    (hsl : ∀ o i, subscripted b true o i = runValue (.builtin "lifetime.subscript" ⟨[o, i], []⟩) := by intro _ _; rfl) : EV X ρ ω (.Subscript a b pos) Ψ ε := fun σ P H as Q w en xk q => by
  have z : sE X a σ H fun x H1 => sE X b σ H1 fun y H2 => ∃ c dx fs f fd k ps n g gV sp W, x = .ref c ∧ H2 c = some (.ins C dx fs) ∧ PySem.W.findIn X.K (.ref C) "__getitem__" = some (some (.ref f)) ∧ PySem.W.isFn X.K (.ref f) = true ∧ PySem.W.fnIn X.K f = true ∧ FnG X.prog X.w X.K X.mg X.base k f fd ps sp ∧ KBn X.K fd ps n [] g gV ∧ n = 2 ∧ Rm (k + 3) X.A ∧ Takes X W ∧ sp (gV [.ref c, y] []) H2 Q (fun cls dx H' => W cls dx σ H') :=
    two_then (f := fun x y σ H2 => ∃ c dx fs f fd k ps n g gV sp W, x = .ref c ∧ H2 c = some (.ins C dx fs) ∧ PySem.W.findIn X.K (.ref C) "__getitem__" = some (some (.ref f)) ∧ PySem.W.isFn X.K (.ref f) = true ∧ PySem.W.fnIn X.K f = true ∧ FnG X.prog X.w X.K X.mg X.base k f fd ps sp ∧ KBn X.K fd ps n [] g gV ∧ n = 2 ∧ Rm (k + 3) X.A ∧ Takes X W ∧ sp (gV [.ref c, y] []) H2 Q (fun cls dx H' => W cls dx σ H')) h w en xk fun vx vy x y ω' P' H' as' w' g' ax ay xk' o => by
      obtain ⟨ns, ds, f0, ob, S, hf0, hfi, hsp⟩ := o
      obtain ⟨f, fd, k, ps, hs, hf, F, hb, hr⟩ := S.ex
      obtain rfl : f = f0 := by rw [hs] at hf0; exact Value.ref.inj (Option.some.inj (Option.some.inj hf0))
      obtain ⟨g, gV, hb1, hb2⟩ := hb.ex
      obtain ⟨c, dx, fs, rfl, h1, e1, r1⟩ := ob_at w' ob ax
      obtain ⟨W, tk, z⟩ := lift_of (σ := σ) (Q := Q) w' (hb2 (.cons ax (.cons ay .nil)) .nil) xk' hsp fun v d ω2 P2 H2 as2 w2 g2 a2 p => q v d ω2 P2 H2 as2 w2 (g'.trans g2) a2 p
      exact ⟨c, dx, fs, f, fd, k, ps, 2, g, gV, _, W, rfl, h1, hs, hf, hfi, F.ok, hb1, rfl, hr, tk, z⟩
  exact .mk fun pins s I => Subscript_ (binT pE pE I z fun v u s2 x y H2 I2 rx ry q => by
    obtain ⟨c, dx, fs, f, fd, k, ps, n, g, gV, sp, W, rfl, h1, hs, hf, hfi, F, hb1, rfl, hr, tk, z⟩ := q
    cases rx
    obtain ⟨mA, J, _⟩ := ins_get I2.hok h1
    obtain ⟨od, J, _⟩ := J.look
    obtain ⟨m, hF⟩ := I2.fr
    exact PySem.W.sub_K hF I2.ok.mod.kin J hs hfi hf (run_at (us := [.ref c, u]) (vs := [.ref c, y]) F (hr.in1.mono (by omega)) rfl hb1 I2 tk (.cons rfl (.cons ry .nil)) rfl z) (hsl _ _))
/-- d.update(d2), both here -/
def rUpd : V → List V → Hp → VK → Prop := fun x xs H Q => ∃ a b kvs more, x = .ref a ∧ xs = [.ref b] ∧ a ≠ b ∧ H a = some (.dK kvs) ∧ H b = some (.dK more) ∧ kvs.length + more.length ≤ sizeLine ∧ Q .non (upd H a (.dK (mergeK kvs more)))
theorem mt_update : MtR X "dict.update" rUpd := by
  intro pins s σ H x xs v us Q I rx rs h
  obtain ⟨a, b, kvs, more, rfl, rfl, hab, ha, hb, hz, q⟩ := h
  cases rx
  obtain ⟨u, rfl, ru⟩ := Vals.one rs
  cases ru
  obtain ⟨z1, n1, vs, rel, dd⟩ := dk_of I.hok ha
  obtain ⟨z2, n2, ms, rel2, dd2⟩ := dk_of I.hok hb
  refine call_meetsIn PySem.F.slot_dict_update dd.typeIs PySem.F.entry_dict_update (PySem.F.args_dict_update_2 _ _) (meets_dict_update (mixKind X.prog X.w) a b hab n2) ⟨vs, ms, dd, dd2, by rw [← rel.length, ← rel2.length]; exact hz, fun h' dd' dd2' hs => ?_⟩
  have he : ∃ q, h'.get? a = some q := let ⟨q, _, _, hq, _⟩ := dd'; ⟨q, hq⟩
  exact ⟨.non, _, d_write (t' := s.toks) I (by rw [ha]; exact True.intro) hs he (dk_new (Nat.le_trans (length_mergeK more kvs) hz) n1 (KV.merge rel2 rel) dd'), rfl, q⟩
theorem md_update {n m : Nat} {kvs more : List (Key × Dt)} (hn : ω[n]? = some (.dct kvs)) (hm : ω[m]? = some (.dct more)) (hne : n ≠ m) (hz : kvs.length + more.length ≤ sizeLine) (h : Ψ .non (ω.set n (.dct (mergeKD kvs more)))) : MD X "dict.update" (.own n) [.own m] ω Ψ := ⟨_, mt_update, fun vx vs P H as Q w ax al k => by
  obtain ⟨u, rfl, au⟩ := one_of al
  cases ax with
  | @own _ a ha =>
    cases au with
    | @own _ b hb =>
      obtain ⟨pn, kus, hh, e0, r0⟩ := w.own _ _ _ hn ha
      obtain ⟨pm, mus, hh2, e2, r2⟩ := w.own _ _ _ hm hb
      have hab : a ≠ b := fun z => by
        subst z
        have i1 := List.getElem?_eq_some_iff.mp ha
        have i2 := List.getElem?_eq_some_iff.mp hb
        obtain ⟨l1, q1⟩ := i1
        obtain ⟨l2, q2⟩ := i2
        exact hne ((List.getElem_inj w.nd).mp (q1.trans q2.symm))
      have lk : kus.length = kvs.length := by have := congrArg List.length e0; simpa using this
      have lm : mus.length = more.length := by have := congrArg List.length e2; simpa using this
      refine ⟨a, b, kus, mus, rfl, rfl, hab, hh, hh2, by rw [lk, lm]; exact hz, ?_⟩
      have km := kvAt_merge (K := X.K) (P := P) (as := as) ⟨e2, r2⟩ ⟨e0, r0⟩
      obtain ⟨w3, g3⟩ := w.turn (ho := .dK (mergeK kus mus)) (u := .dct (mergeKD kvs more)) hn ha pn ⟨pn, _, upd_same, km.1, km.2⟩
      exact k _ _ _ _ _ _ w3 g3 .non h⟩
end
end NM
namespace NM
open PySem L2 PySem.Spec PyProof.Rows
open AutoSeq1 (wpAny_loadPart')
section
variable {P : Program} {w : World}
/-- what stays over the pairs: J -/
theorem tup_eqS (p q : Addr) (xs ys : Array Value) (m n : Nat) (d1 d2 : Option Addr) (s1 s2 : Array (Option Value)) (J : Nat → Shared → Prop) :
    MeetsIn P w (Builtin.«tuple.__eq__» ⟨[.ref p, .ref q], []⟩) (fun A R t => t.heap.get? p = some ⟨.type "tuple", d1, .seq xs m, s1⟩ ∧ t.heap.get? q = some ⟨.type "tuple", d2, .seq ys n, s2⟩ ∧ J 0 t ∧
      (∀ i (h1 : i < xs.size) (h2 : i < ys.size) t1, J i t1 → wpAny (model P w) A.in1 (eqBool xs[i] ys[i]) (fun c t2 => if c = true then J (i + 1) t2 else R (.ok (.ret (.bool false))) t2) (fun e t2 => R (.error e) t2) t1) ∧
      (∀ t1, J (min xs.size ys.size) t1 → R (.ok (.ret (.bool (xs.size == ys.size)))) t1)) :=
  .of_wp fun A R t hh => by
    obtain ⟨hp, g, d, tk, os⟩ := t
    obtain ⟨e1, e2, j0, turn, fin⟩ := hh
    have sub := AutoSeq1.sub_tuple_tuple
    have hZ : (xs.toList.zip ys.toList).length = min xs.size ys.size := by simp
    wp_walk using wpAny_loadPart' e1, wpAny_loadPart' e2, wpAny_forIn_list _ (fun rest b t' => b.1 = none ∧ ∃ i, rest = (xs.toList.zip ys.toList).drop i ∧ i ≤ min xs.size ys.size ∧ J i t') _
    case turn =>
      rintro ⟨y, x⟩ rest b t' ⟨b0, i, hz, hi, j⟩
      have lt : i < (xs.toList.zip ys.toList).length := by
        rcases Nat.lt_or_ge i (xs.toList.zip ys.toList).length with c | c
        · exact c
        · rw [List.drop_of_length_le c] at hz; cases hz
      have lm : i < min xs.size ys.size := hZ ▸ lt
      have l1 : i < xs.size := Nat.lt_of_lt_of_le lm (Nat.min_le_left _ _)
      have l2 : i < ys.size := Nat.lt_of_lt_of_le lm (Nat.min_le_right _ _)
      rw [List.drop_eq_getElem_cons lt] at hz
      injection hz with hyx hrest
      obtain rfl : y = xs[i] := by have := congrArg Prod.fst hyx; simpa using this
      obtain rfl : x = ys[i] := by have := congrArg Prod.snd hyx; simpa using this
      refine wpAny_bind (wpAny_mono (turn i l1 l2 t' j) (fun c t2 hc => ?_) fun _ _ z => z)
      cases c with
      | true =>
        have hc' : J (i + 1) t2 := by simpa using hc
        obtain ⟨hp2, g2, dw2, tk2, os2⟩ := t2
        wp_walk
        exact ⟨rfl, i + 1, hrest, by omega, hc'⟩
      | false =>
        have hc' : R (.ok (.ret (.bool false))) t2 := by simpa using hc
        obtain ⟨hp2, g2, dw2, tk2, os2⟩ := t2
        wp_walk
        exact ⟨_, rfl, hc'⟩
    case fin =>
      rintro ⟨b1, b2⟩ t' ⟨b0, i, hz, hi, j⟩
      simp only at b0
      subst b0
      have ge : min xs.size ys.size ≤ i := by
        rcases Nat.lt_or_ge i (xs.toList.zip ys.toList).length with c | c
        · rw [List.drop_eq_getElem_cons c] at hz; cases hz
        · exact hZ ▸ c
      obtain rfl : i = min xs.size ys.size := by omega
      have := fin t' j
      obtain ⟨hp2, g2, dw2, tk2, os2⟩ := t'
      wp_walk
      exact ⟨_, rfl, by simpa [Builtin.Tuple.tupleCompareSizes] using this⟩
    case h => exact ⟨rfl, 0, rfl, Nat.zero_le _, j0⟩
theorem tup_neS (p q : Addr) (xs ys : Array Value) (m n : Nat) (d1 d2 : Option Addr) (s1 s2 : Array (Option Value)) (J : Nat → Shared → Prop) :
    MeetsIn P w (Builtin.«tuple.__ne__» ⟨[.ref p, .ref q], []⟩) (fun A R t => t.heap.get? p = some ⟨.type "tuple", d1, .seq xs m, s1⟩ ∧ t.heap.get? q = some ⟨.type "tuple", d2, .seq ys n, s2⟩ ∧ J 0 t ∧
      (∀ i (h1 : i < xs.size) (h2 : i < ys.size) t1, J i t1 → wpAny (model P w) A.in1 (eqBool xs[i] ys[i]) (fun c t2 => if c = true then J (i + 1) t2 else R (.ok (.ret (.bool true))) t2) (fun e t2 => R (.error e) t2) t1) ∧
      (∀ t1, J (min xs.size ys.size) t1 → R (.ok (.ret (.bool (xs.size != ys.size)))) t1)) :=
  .of_wp fun A R t hh => by
    obtain ⟨hp, g, d, tk, os⟩ := t
    obtain ⟨e1, e2, j0, turn, fin⟩ := hh
    have sub := AutoSeq1.sub_tuple_tuple
    have hZ : (xs.toList.zip ys.toList).length = min xs.size ys.size := by simp
    wp_walk using wpAny_loadPart' e1, wpAny_loadPart' e2, wpAny_forIn_list _ (fun rest b t' => b.1 = none ∧ ∃ i, rest = (xs.toList.zip ys.toList).drop i ∧ i ≤ min xs.size ys.size ∧ J i t') _
    case turn =>
      rintro ⟨y, x⟩ rest b t' ⟨b0, i, hz, hi, j⟩
      have lt : i < (xs.toList.zip ys.toList).length := by
        rcases Nat.lt_or_ge i (xs.toList.zip ys.toList).length with c | c
        · exact c
        · rw [List.drop_of_length_le c] at hz; cases hz
      have lm : i < min xs.size ys.size := hZ ▸ lt
      have l1 : i < xs.size := Nat.lt_of_lt_of_le lm (Nat.min_le_left _ _)
      have l2 : i < ys.size := Nat.lt_of_lt_of_le lm (Nat.min_le_right _ _)
      rw [List.drop_eq_getElem_cons lt] at hz
      injection hz with hyx hrest
      obtain rfl : y = xs[i] := by have := congrArg Prod.fst hyx; simpa using this
      obtain rfl : x = ys[i] := by have := congrArg Prod.snd hyx; simpa using this
      refine wpAny_bind (wpAny_mono (turn i l1 l2 t' j) (fun c t2 hc => ?_) fun _ _ z => z)
      cases c with
      | true =>
        have hc' : J (i + 1) t2 := by simpa using hc
        obtain ⟨hp2, g2, dw2, tk2, os2⟩ := t2
        wp_walk
        exact ⟨rfl, i + 1, hrest, by omega, hc'⟩
      | false =>
        have hc' : R (.ok (.ret (.bool true))) t2 := by simpa using hc
        obtain ⟨hp2, g2, dw2, tk2, os2⟩ := t2
        wp_walk
        exact ⟨_, rfl, hc'⟩
    case fin =>
      rintro ⟨b1, b2⟩ t' ⟨b0, i, hz, hi, j⟩
      simp only at b0
      subst b0
      have ge : min xs.size ys.size ≤ i := by
        rcases Nat.lt_or_ge i (xs.toList.zip ys.toList).length with c | c
        · rw [List.drop_eq_getElem_cons c] at hz; cases hz
        · exact hZ ▸ c
      obtain rfl : i = min xs.size ys.size := by omega
      have := fin t' j
      obtain ⟨hp2, g2, dw2, tk2, os2⟩ := t'
      wp_walk
      exact ⟨_, rfl, by simpa [Builtin.Tuple.tupleCompareSizes] using this⟩
    case h => exact ⟨rfl, 0, rfl, Nat.zero_le _, j0⟩
end
end NM
namespace NM
open PySem L2 PySem.Spec PyProof.Rows
/-- two items: what their own __eq__ answers -/
structure EqPair (X : Cx) (ω : Om) (ε : PsiX) (C : Addr) (gD : List Dt → List Dt → List Dt) (sp : DSp) (x y : Dt) (k : Bool) : Prop where
  ob : ∃ ns ds, Ob ω x C ns ds
  oy : ∃ ns ds, Ob ω y C ns ds
  ty : TyD X.K ω y (.ref C)
  an : sp (gD [x, y] []) ω (fun d ω' => d = .bl k ∧ ω' = ω) ε
  uq : ∀ pins σ H P as s a, Inv X pins σ H s → Ws X.K ω P H as → At X.K P as (.ref a) x → At X.K P as (.ref a) y → k = true
section
variable {X : Cx} {ω : Om} {Ψ : PsiE} {ε : PsiX}
/-- the items compared as a test -/
theorem eqB_own {A : Around} {x y : Dt} {k : Bool} {C : Addr} {gD : List Dt → List Dt → List Dt} {sp : DSp} {pins : List (Addr × Obj)} {σ : L2.St} {P H : Hp} {as : List Addr} {t : Shared} {v u : V} {a b : Value} {R : Bool → Shared → Prop} (S : SpD X C "__eq__" 2 gD sp) (hn : PySem.W.notFirst X.K C (.ref C) = true) (ep : EqPair X ω ε C gD sp x y k)
    (hA : A = X.A.in1) (I : Inv X pins σ H t) (w : Ws X.K ω P H as) (xk : Xk X ω P H as σ ε) (av : At X.K P as v x) (au : At X.K P as u y) (ra : RelV v a) (rb : RelV u b)
    (h : ∀ P' H' as' t', Inv X pins σ H' t' → Ws X.K ω P' H' as' → Gr P H as P' H' as' → R k t') : wpAny (model X.prog X.w) A (eqBool a b) R X.xe t := by
  obtain ⟨⟨ns, ds, ob⟩, ⟨ns2, ds2, oy⟩, ty, an, uq⟩ := ep
  obtain ⟨c, dx, fs, rfl, h1, e1, r1⟩ := ob_at w ob av
  obtain ⟨c2, dx2, fs2, rfl, h2, e2, r2⟩ := ob_at w oy au
  cases ra
  cases rb
  unfold eqBool
  refine wpAny_holding ?_
  refine wpAny_ite_split (fun hab => ?_) (fun _ => ?_)
  · have ec : c = c2 := by have := eq_of_beq hab; injection this
    subst ec
    have ek := uq pins σ H P as t c I w av au
    subst ek
    exact wpAny_bind (wpAny_rule (wpAny_pure (h P H as t I w .refl)))
  · subst hA
    obtain ⟨f, fd, l, ps, hs, hf, F, hb, hr⟩ := S.ex
    obtain ⟨g, gV, hb1, hb2⟩ := hb.ex
    obtain ⟨mA, J, _⟩ := ins_get I.hok h1
    obtain ⟨od, J, _⟩ := J.look
    obtain ⟨m, hF⟩ := I.fr
    obtain ⟨W, tk, z⟩ := lift_of (σ := σ) (Q := fun v H' => v = .bl k ∧ ∃ P' as', Ws X.K ω P' H' as' ∧ Gr P H as P' H' as') w (hb2 (.cons av (.cons au .nil)) .nil) xk an fun v d ω' P' H' as' w' g' a' p => by
      obtain ⟨rfl, rfl⟩ := p
      cases a'
      exact ⟨rfl, P', as', w', g'⟩
    refine wpAny_bind (PySem.W.cmp_K (op := .Eq) (tb := .ref C) hr.in1.r.units0 hF I.ok.mod.kin J (looks_ty (v := .ref c2) I rfl (tyx_at w ty au)) hn hs hf ?_)
    refine wpAny_mono (run_at (us := [.ref c, .ref c2]) (vs := [.ref c, .ref c2]) F.ok (hr.in1.mono (by omega)) rfl hb1 I tk (.cons rfl (.cons rfl .nil)) rfl z) (fun v s' hv => ?_) fun _ _ x => x
    obtain ⟨v', H', I', rv, rfl, P', as', w', g'⟩ := hv
    cases rv
    exact wpAny_truthy_bool (h P' H' as' s' I' w' g')
theorem od_eqTO {xs ys : List Dt} {e : Nat → Bool} {C : Addr} {gD : List Dt → List Dt → List Dt} {sp : DSp} (S : SpD X C "__eq__" 2 gD sp) (hn : PySem.W.notFirst X.K C (.ref C) = true) (hp : ∀ i x y, xs[i]? = some x → ys[i]? = some y → EqPair X ω ε C gD sp x y (e i))
    (h : Ψ (.bl (((List.range (min xs.length ys.length)).all e && xs.length == ys.length))) ω) : OD X (compareOp .Eq) (.tup xs) (.tup ys) ω Ψ ε := fun σ vx vy P H as Q w ax ay xk q => .mk fun pins s v u I rx ry => by
  obtain ⟨a, us, rfl, ha, ra⟩ := seqT w ax
  obtain ⟨b, zs, rfl, hb, rb⟩ := seqT w ay
  cases rx
  cases ry
  obtain ⟨its, r1, ⟨⟨k1, d1, da1, l1⟩, g1, c1, n1, e1⟩, z1⟩ := I.tuple ha
  obtain ⟨jts, r2, ⟨⟨k2, d2, da2, l2⟩, g2, c2, n2, e2⟩, z2⟩ := I.tuple hb
  simp only at c1 e1 c2 e2
  subst c1 e1 c2 e2
  have s1 : its.toArray.size = xs.length := by rw [List.size_toArray, ← r1.length, ra.length]
  have s2 : jts.toArray.size = ys.length := by rw [List.size_toArray, ← r2.length, rb.length]
  have hu : X.A.units < cLine := by
    obtain ⟨_, _, _, _, _, _, _, _, hr⟩ := S.ex
    exact hr.r.units0
  refine wpAny_richCompare_same_room (T := "tuple") (op := .Eq) ⟨_, g1, rfl⟩ ⟨_, g2, rfl⟩ F.slot_tuple_eq (call_meetsIn F.slot_tuple_eq ⟨_, g1, rfl⟩ F.entry_tuple_eq (F.args_tuple_eq_2 _ _)
    (tup_eqS a b its.toArray jts.toArray n1 n2 _ _ _ _ (fun i t => ∃ P' H' as', Inv X pins σ H' t ∧ Ws X.K ω P' H' as' ∧ Gr P H as P' H' as' ∧ (List.range i).all e = true)) ⟨g1, g2, ⟨P, H, as, I, w, .refl, rfl⟩, fun i h1 h2 t1 hJ => ?_, fun t1 hJ => ?_⟩) hu
  · obtain ⟨P', H', as', I', w', g', al⟩ := hJ
    rw [s1] at h1
    rw [s2] at h2
    obtain ⟨v1, ev1, av1⟩ := ra.get (List.getElem?_eq_getElem h1)
    obtain ⟨v2, ev2, av2⟩ := rb.get (List.getElem?_eq_getElem h2)
    obtain ⟨u1, eu1, ru1⟩ := r1.get ev1
    obtain ⟨u2, eu2, ru2⟩ := r2.get ev2
    have f1 : its.toArray[i] = u1 := by obtain ⟨hx, ex⟩ := List.getElem?_eq_some_iff.mp eu1; simpa using ex
    have f2 : jts.toArray[i] = u2 := by obtain ⟨hx, ex⟩ := List.getElem?_eq_some_iff.mp eu2; simpa using ex
    rw [f1, f2]
    refine eqB_own S hn (hp i _ _ (List.getElem?_eq_getElem h1) (List.getElem?_eq_getElem h2)) rfl I' w' (xk.later g') (av1.mono g'.p g'.a) (av2.mono g'.p g'.a) ru1 ru2 fun P2 H2 as2 t2 I2 w2 g2 => ?_
    cases ei : e i with
    | true => exact iteT ⟨P2, H2, as2, I2, w2, g'.trans g2, by rw [List.range_succ, List.all_append, al]; simp [ei]⟩
    | false =>
      have er : ((List.range (min xs.length ys.length)).all e && xs.length == ys.length) = false := by
        have : (List.range (min xs.length ys.length)).all e = false := by
          rw [List.all_eq_false]
          exact ⟨i, List.mem_range.mpr (by omega), by rw [ei]; decide⟩
        rw [this]; rfl
      rw [er] at h
      exact iteF ⟨(fun z => nomatch z), .bl false, H2, I2, rfl, q _ _ ω P2 H2 as2 w2 (g'.trans g2) (.bl _) h⟩
  · obtain ⟨P', H', as', I', w', g', al⟩ := hJ
    rw [s1, s2] at al
    rw [al, Bool.true_and] at h
    rw [s1, s2]
    exact ⟨(fun z => nomatch z), .bl (xs.length == ys.length), H', I', rfl, q _ _ ω P' H' as' w' g' (.bl _) h⟩
theorem od_neTO {xs ys : List Dt} {e : Nat → Bool} {C : Addr} {gD : List Dt → List Dt → List Dt} {sp : DSp} (S : SpD X C "__eq__" 2 gD sp) (hn : PySem.W.notFirst X.K C (.ref C) = true) (hp : ∀ i x y, xs[i]? = some x → ys[i]? = some y → EqPair X ω ε C gD sp x y (e i))
    (h : Ψ (.bl (!((List.range (min xs.length ys.length)).all e && xs.length == ys.length))) ω) : OD X (compareOp .NotEq) (.tup xs) (.tup ys) ω Ψ ε := fun σ vx vy P H as Q w ax ay xk q => .mk fun pins s v u I rx ry => by
  obtain ⟨a, us, rfl, ha, ra⟩ := seqT w ax
  obtain ⟨b, zs, rfl, hb, rb⟩ := seqT w ay
  cases rx
  cases ry
  obtain ⟨its, r1, ⟨⟨k1, d1, da1, l1⟩, g1, c1, n1, e1⟩, z1⟩ := I.tuple ha
  obtain ⟨jts, r2, ⟨⟨k2, d2, da2, l2⟩, g2, c2, n2, e2⟩, z2⟩ := I.tuple hb
  simp only at c1 e1 c2 e2
  subst c1 e1 c2 e2
  have s1 : its.toArray.size = xs.length := by rw [List.size_toArray, ← r1.length, ra.length]
  have s2 : jts.toArray.size = ys.length := by rw [List.size_toArray, ← r2.length, rb.length]
  have hu : X.A.units < cLine := by
    obtain ⟨_, _, _, _, _, _, _, _, hr⟩ := S.ex
    exact hr.r.units0
  refine wpAny_richCompare_same_room (T := "tuple") (op := .NotEq) ⟨_, g1, rfl⟩ ⟨_, g2, rfl⟩ F.slot_tuple_ne (call_meetsIn F.slot_tuple_ne ⟨_, g1, rfl⟩ F.entry_tuple_ne (F.args_tuple_ne_2 _ _)
    (tup_neS a b its.toArray jts.toArray n1 n2 _ _ _ _ (fun i t => ∃ P' H' as', Inv X pins σ H' t ∧ Ws X.K ω P' H' as' ∧ Gr P H as P' H' as' ∧ (List.range i).all e = true)) ⟨g1, g2, ⟨P, H, as, I, w, .refl, rfl⟩, fun i h1 h2 t1 hJ => ?_, fun t1 hJ => ?_⟩) hu
  · obtain ⟨P', H', as', I', w', g', al⟩ := hJ
    rw [s1] at h1
    rw [s2] at h2
    obtain ⟨v1, ev1, av1⟩ := ra.get (List.getElem?_eq_getElem h1)
    obtain ⟨v2, ev2, av2⟩ := rb.get (List.getElem?_eq_getElem h2)
    obtain ⟨u1, eu1, ru1⟩ := r1.get ev1
    obtain ⟨u2, eu2, ru2⟩ := r2.get ev2
    have f1 : its.toArray[i] = u1 := by obtain ⟨hx, ex⟩ := List.getElem?_eq_some_iff.mp eu1; simpa using ex
    have f2 : jts.toArray[i] = u2 := by obtain ⟨hx, ex⟩ := List.getElem?_eq_some_iff.mp eu2; simpa using ex
    rw [f1, f2]
    refine eqB_own S hn (hp i _ _ (List.getElem?_eq_getElem h1) (List.getElem?_eq_getElem h2)) rfl I' w' (xk.later g') (av1.mono g'.p g'.a) (av2.mono g'.p g'.a) ru1 ru2 fun P2 H2 as2 t2 I2 w2 g2 => ?_
    cases ei : e i with
    | true => exact iteT ⟨P2, H2, as2, I2, w2, g'.trans g2, by rw [List.range_succ, List.all_append, al]; simp [ei]⟩
    | false =>
      have er : ((List.range (min xs.length ys.length)).all e && xs.length == ys.length) = false := by
        have : (List.range (min xs.length ys.length)).all e = false := by
          rw [List.all_eq_false]
          exact ⟨i, List.mem_range.mpr (by omega), by rw [ei]; decide⟩
        rw [this]; rfl
      rw [er] at h
      exact iteF ⟨(fun z => nomatch z), .bl true, H2, I2, rfl, q _ _ ω P2 H2 as2 w2 (g'.trans g2) (.bl _) h⟩
  · obtain ⟨P', H', as', I', w', g', al⟩ := hJ
    rw [s1, s2] at al
    rw [al, Bool.true_and] at h
    rw [s1, s2]
    exact ⟨(fun z => nomatch z), .bl (xs.length != ys.length), H', I', rfl, q _ _ ω P' H' as' w' g' (.bl _) h⟩
end
end NM
namespace NM
open PySem L2 PySem.Spec PyProof.Rows
section
variable {X : Cx} {ρ : Rho} {ω : Om} {Ψ : PsiE} {ε : PsiX} {Φ : Post} {e : Expr} {pos : Pos}
/-- the pairs of enumerate -/
def enumD : Nat → List Dt → List Dt
  | _, [] => []
  | n, d :: ds => .tup [.int (n : Nat), d] :: enumD (n + 1) ds
theorem enum_len : ∀ (ds : List Dt) (n : Nat), (enumD n ds).length = ds.length
  | [], _ => rfl
  | d :: ds, n => by show (enumD (n + 1) ds).length + 1 = ds.length + 1; rw [enum_len ds]
theorem enum_get : ∀ {ds : List Dt} {n i : Nat} {x : Dt}, (enumD n ds)[i]? = some x → ∃ d, ds[i]? = some d ∧ x = .tup [.int ((n + i : Nat) : Int), d]
  | [], n, i, x, h => by cases h
  | d :: ds, n, 0, x, h => by cases h; exact ⟨d, rfl, rfl⟩
  | d :: ds, n, i + 1, x, h => by
    obtain ⟨d', h1, h2⟩ := enum_get (ds := ds) (n := n + 1) (i := i) (x := x) h
    exact ⟨d', h1, by rw [h2, show n + 1 + i = n + (i + 1) by omega]⟩
theorem itd_e {K : Fg} {P : Hp} {as : List Addr} {a : Addr} {d : Dt} {ds : List Dt} (ha : At K P as (.ref a) d) : ItD K (Ite K a) P as (fun ω' => SqLst ω' d ds) (enumD 0 ds) := by
  intro i ω' P' H' as' ep pp w s
  obtain ⟨b, vs, eb, hs, r⟩ := sqRL w s (ha.mono ep pp)
  cases eb
  refine ⟨fun x hx => ?_, fun hlen => ⟨vs, hs, by rw [r.length, ← enum_len ds 0]; exact hlen⟩⟩
  obtain ⟨d', hx', rfl⟩ := enum_get hx
  obtain ⟨v, hv, av⟩ := r.get hx'
  refine ⟨⟨vs, v, hs, hv⟩, fun y H2 hy => ?_⟩
  obtain ⟨T, z, rfl, hT, rfl, hz⟩ := hy
  have q := hz vs hs
  rw [hv] at q
  cases q
  obtain ⟨w2, g2⟩ := w.newP (o := .tup _) hT
  refine ⟨_, w2, g2, .tup (.of upd_same) (.cons ?_ (.cons (av.mono g2.p g2.a) .nil))⟩
  rw [Nat.zero_add]; exact .int _
theorem ei_enum {elts : List Expr} {kk : Nat} {tpos p : Pos} {Θ : List Dt → (Om → Prop) → Om → Prop} (hm : X.mg "enumerate" = none) (h : EA X ρ ω [e] (fun dd ω1 => ∃ d ds, dd = [d] ∧ SqLst ω1 d ds ∧ Θ (enumD 0 ds) (fun ω' => SqLst ω' d ds) ω1) ε)
    (hg : Gl X "enumerate" := by rfl) (hs : starEach [e] X.env = [(false, eval e X.env)] := by rfl) : EI X ρ ω (.Tuple elts kk tpos) (.Call (.Name "enumerate" p) [e] [] pos) Θ ε := fun σ P H as R w en xk q => by
  refine sI_of (pi_enum hg hm pA hs) (h σ P H as _ w en xk fun vs dd ω1 P1 H1 as1 w1 g1 al k => ?_)
  obtain ⟨d, ds, rfl, s, k⟩ := k
  obtain ⟨v, rfl, av⟩ := one_of al
  obtain ⟨a, us, rfl, hl, r⟩ := sqRL w1 s av
  exact ⟨a, us, rfl, hl, q (Ite X.K a) _ _ ω1 P1 H1 as1 w1 g1 (itd_e av) s k⟩
/-- x(..), x a local name that holds a class -/
theorem ev_makeV (i : Nat) {x : Str} {p : Pos} {es : List Expr} {C : Addr} {n : Nat} {gD : List Dt → List Dt → List Dt} {sp : DSp} (M : MkD X C n [] gD sp) (hi : ρ[i]? = some (some (.ref C)))
    (h : EA X ρ ω (e :: es) (fun ds ω1 => ds.length = n ∧ sp (gD (.own ω1.length :: ds) []) (ω1 ++ [.ins C [] []]) (fun d ω' => d = .non ∧ Ψ (.own ω1.length) ω') ε) ε) (hN : X.N[i]? = some x := by rfl) (hv : Vis X.env.scope x := by first | exact Or.inl rfl | exact Or.inr (Or.inl rfl) | exact Or.inr (Or.inr rfl))
    (hdb : (x == ("__debug__" : Str)) = false := by decide) (hcd : (x == ("__classdict__" : Str)) = false := by decide) (he : starEach (e :: es) X.env = (false, eval e X.env) :: starEach es X.env := by rfl) (hpl : (backTo pos (starEach es X.env)).any (·.1) = false := by rfl) : EV X ρ ω (.Call (.Name x p) (e :: es) [] pos) Ψ ε := fun σ P H as Q w en xk q => by
  have z : sA X (e :: es) σ H (fun vs H1 => ∀ pins s us, Inv X pins σ H1 s → Vals vs us → wpAny (model X.prog X.w) X.A (call (.ref C) us) (EP X pins σ Q) X.xe s) := h σ P H as _ w en xk fun vs ds ω1 P1 H1 as1 w1 g1 a1 p pins s us I r =>
    run_mk (ws := []) M w1 a1 .nil p.1 rfl (xk.later g1) p.2 (fun v d ω' P' H' as' w' g' a' k => q v d ω' P' H' as' w' (g1.trans g') a' k) I r .nil
  obtain ⟨f, fd, k, ps, M1, _⟩ := M.ex
  obtain ⟨v, hv1, hv2⟩ := en.get i _ hi
  cases hv2
  refine .mk fun pins s I => wpAny_Call_Name_kw (thn ((pe_var (pos := p) hN hv hdb hcd).run pins s σ H (fun v H1 => v = .ref C ∧ H1 = H) I ⟨.ref C, hv1, rfl, rfl⟩) fun u s1 ⟨v, H1, I1, r1, q1⟩ => ?_)
  obtain ⟨rfl, rfl⟩ := q1
  cases r1
  exact PySem.W.callWith_K (h₀ := X.base) I.ok.mod.kin M1.kp (thn (z.run pos pins s1 I1) fun us s2 ⟨vs, H2, I2, r, q⟩ => ⟨I2.kIn, q pins s2 us I2 r⟩) he hpl
end
end NM
namespace NM
open PySem L2 PySem.Spec PyProof.Rows TL
/-- the parts of a rule -/
structure RP where
  s : Str
  ts : List Str
  ds : List Str
  t : Str
abbrev RP.ok (r : RP) : Prop := RuleOk r.s r.ts r.ds r.t
abbrev RP.tx (r : RP) : Str := rText r.s r.ts r.ds r.t
def addK (l : List Str) (x : Str) : List Str := if x ∈ l then l else l ++ [x]
def keysS (f : Str) (rs : List RP) : List Str := rs.foldl (fun l r => addK (addK l r.s) r.t) [f]
def kvS (l : List Str) : List (Key × Dt) := l.map fun x => (.inr x, .bl true)
theorem kvS_any (l : List Str) (x : Str) : ((kvS l).any fun kv => decide (kv.1 = Sum.inr x)) = decide (x ∈ l) := by
  induction l with
  | nil => rfl
  | cons a l ih =>
    show (decide ((Sum.inr a : Key) = Sum.inr x) || (kvS l).any fun kv => decide (kv.1 = Sum.inr x)) = _
    rw [ih]
    by_cases e : a = x
    · subst e; simp
    · have e1 : ¬ (Sum.inr a : Key) = Sum.inr x := fun z => e (Sum.inr.inj z)
      have e2 : ¬ x = a := fun z => e z.symm
      simp [e1, e2]
theorem put_kvS (l : List Str) (x : Str) : putKD (kvS l) (.inr x) (.bl true) = kvS (addK l x) := by
  unfold putKD addK
  rw [kvS_any]
  by_cases e : x ∈ l
  · rw [if_pos (decide_eq_true e), if_pos e]
    unfold kvS
    rw [List.map_map]
    refine List.map_congr_left fun a _ => ?_
    show (if (Sum.inr a : Key) = Sum.inr x then ((Sum.inr a : Key), Dt.bl true) else (Sum.inr a, Dt.bl true)) = _
    split <;> rfl
  · rw [if_neg (by simpa using e), if_neg e]
    unfold kvS
    rw [List.map_append]; rfl
theorem merge_kvS : ∀ (m l : List Str), mergeKD (kvS l) (kvS m) = kvS (m.foldl addK l)
  | [], l => rfl
  | x :: m, l => by
    show mergeKD (putKD (kvS l) (.inr x) (.bl true)) (kvS m) = kvS (m.foldl addK (addK l x))
    rw [put_kvS, merge_kvS m]
theorem mem_addK (l : List Str) (x : Str) : x ∈ addK l x := by
  unfold addK
  split
  · assumption
  · simp
theorem sub_addK {l : List Str} {x y : Str} (h : y ∈ l) : y ∈ addK l x := by
  unfold addK
  split
  · exact h
  · exact List.mem_append_left _ h
theorem addK_in {l : List Str} {x : Str} (h : x ∈ l) : addK l x = l := if_pos h
theorem merge_two (l : List Str) (a b : Str) : mergeKD (kvS l) (mergeKD [] [(.inr a, .bl true), (.inr b, .bl true)]) = kvS (addK (addK l a) b) := by
  have e : mergeKD [] [((.inr a : Key), Dt.bl true), (.inr b, .bl true)] = kvS (addK (addK [] a) b) := by
    rw [← put_kvS, ← put_kvS]; rfl
  rw [e, merge_kvS]
  have e1 : addK [] a = [a] := if_neg (by simp)
  rw [e1]
  by_cases q : b = a
  · subst q
    rw [addK_in (l := [b]) (by simp), addK_in (mem_addK l b)]; rfl
  · have e2 : addK [a] b = [a, b] := if_neg (by simpa using q)
    rw [e2]; rfl
theorem keys_len (rs : List RP) : ∀ l : List Str, (rs.foldl (fun l r => addK (addK l r.s) r.t) l).length ≤ l.length + 2 * rs.length := by
  have h : ∀ (l : List Str) (x : Str), (addK l x).length ≤ l.length + 1 := fun l x => by unfold addK; split <;> simp
  induction rs with
  | nil => intro l; simp
  | cons r rs ih =>
    intro l
    have h1 := ih (addK (addK l r.s) r.t)
    have h2 := h (addK l r.s) r.t
    have h3 := h l r.s
    rw [List.foldl_cons, List.length_cons]
    omega
theorem keys_sub {rs : List RP} : ∀ {l : List Str} {y : Str}, y ∈ l → y ∈ rs.foldl (fun l r => addK (addK l r.s) r.t) l := by
  induction rs with
  | nil => intro l y h; exact h
  | cons r rs ih => intro l y h; exact ih (sub_addK (sub_addK h))
theorem keys_mem {rs : List RP} : ∀ {l : List Str} {r : RP}, r ∈ rs → r.s ∈ rs.foldl (fun l r => addK (addK l r.s) r.t) l ∧ r.t ∈ rs.foldl (fun l r => addK (addK l r.s) r.t) l := by
  induction rs with
  | nil => intro l r h; cases h
  | cons a rs ih =>
    intro l r h
    rw [List.foldl_cons]
    rcases List.mem_cons.mp h with rfl | h
    · exact ⟨keys_sub (rs := rs) (sub_addK (mem_addK l _)), keys_sub (rs := rs) (mem_addK _ _)⟩
    · exact ih h
theorem keys_stay {rs : List RP} : ∀ {l : List Str}, (∀ r ∈ rs, r.s ∈ l ∧ r.t ∈ l) → rs.foldl (fun l r => addK (addK l r.s) r.t) l = l := by
  induction rs with
  | nil => intro l h; rfl
  | cons r rs ih =>
    intro l h
    obtain ⟨h1, h2⟩ := h r (by simp)
    rw [List.foldl_cons, addK_in h1, addK_in h2]
    exact ih fun x hx => h x (List.mem_cons_of_mem _ hx)
theorem keys_twice (f : Str) (rs : List RP) : keysS f (rs ++ rs) = keysS f rs := by
  unfold keysS
  rw [List.foldl_append]
  exact keys_stay fun r h => keys_mem h
theorem keys_snoc (f : Str) (rs : List RP) (r : RP) : keysS f (rs ++ [r]) = addK (addK (keysS f rs) r.s) r.t := by
  unfold keysS
  rw [List.foldl_append]; rfl
def leS (a b : Str) : Prop := tl a ≤ tl b
theorem leS_of {a b : Str} (h : ltCps b.cps.toList a.cps.toList = false) : leS a b := by
  rw [ltCps_eq] at h
  exact List.not_lt.mp (of_decide_eq_false h)
theorem rising_pw : ∀ {xs : List Str} {p : Str}, risingS p xs = true → (∀ x ∈ xs, leS p x) ∧ xs.Pairwise leS
  | [], p, _ => ⟨(fun x h => nomatch h), .nil⟩
  | x :: xs, p, h => by
    rw [risingS, Bool.and_eq_true] at h
    obtain ⟨h1, h2⟩ := h
    have e : leS p x := leS_of (by simpa using h1)
    obtain ⟨q1, q2⟩ := rising_pw h2
    refine ⟨fun y hy => ?_, .cons q1 q2⟩
    rcases List.mem_cons.mp hy with rfl | hy
    · exact e
    · exact List.le_trans e (q1 y hy)
theorem sorted_pw {xs : List Str} (h : sortedS xs = true) : xs.Pairwise leS := by
  cases xs with
  | nil => exact .nil
  | cons x xs =>
    obtain ⟨q1, q2⟩ := rising_pw h
    exact .cons q1 q2
theorem sorted_uniq {xs ys : List Str} (p : xs.Perm ys) (h1 : sortedS xs = true) (h2 : sortedS ys = true) : xs = ys :=
  List.Perm.eq_of_pairwise (fun a b _ _ q1 q2 => ext_tl (List.le_antisymm q1 q2)) (sorted_pw h1) (sorted_pw h2) p
open Classical in
noncomputable def stOf (xs : List Str) : List Str := if h : ∃ ys : List Str, ys.Perm xs ∧ sortedS ys = true then h.choose else []
theorem stOf_eq {xs ys : List Str} (p : ys.Perm xs) (h : sortedS ys = true) : ys = stOf xs := by
  have hx : ∃ zs : List Str, zs.Perm xs ∧ sortedS zs = true := ⟨ys, p, h⟩
  unfold stOf
  rw [dif_pos hx]
  exact sorted_uniq (p.trans hx.choose_spec.1.symm) h hx.choose_spec.2
theorem stOf_perm {xs ys : List Str} (p : ys.Perm xs) : stOf ys = stOf xs := by
  unfold stOf
  by_cases hx : ∃ zs : List Str, zs.Perm xs ∧ sortedS zs = true
  · have hy : ∃ zs : List Str, zs.Perm ys ∧ sortedS zs = true := let ⟨z, h1, h2⟩ := hx; ⟨z, h1.trans p.symm, h2⟩
    rw [dif_pos hx, dif_pos hy]
    exact sorted_uniq (hy.choose_spec.1.trans (p.trans hx.choose_spec.1.symm)) hy.choose_spec.2 hx.choose_spec.2
  · have hy : ¬ ∃ zs : List Str, zs.Perm ys ∧ sortedS zs = true := fun ⟨z, h1, h2⟩ => hx ⟨z, h1.trans p, h2⟩
    rw [dif_neg hx, dif_neg hy]
theorem emp_app (x : Str) : Str.empty ++ x = x := ext_tl (by rw [tl_append]; rfl)
def W4 : List Int := [0, 1, 2, 3]
def pls (f : Str) (w : Int) (rs : List RP) : List Str := ("first " ++ f) :: ("wait " ++ ((toString w : String) : Str)) :: rs.map RP.tx
def ptx (f : Str) (w : Int) (rs : List RP) : Str := Txt.join "\n" (pls f w rs)
theorem jw_mem {c : Nat} : ∀ {l : List (List Nat)}, c ∈ jw l → c = 32 ∨ ∃ w ∈ l, c ∈ w
  | [], h => by cases h
  | [w], h => .inr ⟨w, by simp, by
      have e : jw [w] = w := rfl
      rw [e] at h; exact h⟩
  | w :: v :: r, h => by
    rw [jw_cons (by simp)] at h
    rcases List.mem_append.mp h with q | q
    · exact .inr ⟨w, by simp, q⟩
    · rcases List.mem_cons.mp q with q | q
      · exact .inl q
      · rcases jw_mem q with q | ⟨x, hx, q⟩
        · exact .inl q
        · exact .inr ⟨x, List.mem_cons_of_mem _ hx, q⟩
/-- of small letters alone -/
def Lett (x : Str) : Prop := ∀ c ∈ tl x, c ∈ letters.cps.toList
instance (x : Str) : Decidable (Lett x) := inferInstanceAs (Decidable (∀ c ∈ tl x, c ∈ letters.cps.toList))
theorem name_lett {x : Str} (h : nameOk x = true) : Lett x := by
  unfold nameOk at h
  simp only [Bool.and_eq_true] at h
  obtain ⟨_, _, h⟩ := h
  rw [List.all_map] at h
  intro c hc
  exact of_decide_eq_true (List.all_eq_true.mp h c hc)
theorem tw_lett : ∀ t ∈ tests10, ∀ w ∈ tw t, Lett w := by
  intro t ht
  have : t = "due" ∨ t = "free" ∨ t = "mine" ∨ t = "old" ∨ t = "now" ∨ t = "not due" ∨ t = "not free" ∨ t = "not mine" ∨ t = "not old" ∨ t = "not now" := by simpa [tests10] using ht
  rcases this with rfl | rfl | rfl | rfl | rfl | rfl | rfl | rfl | rfl | rfl <;> decide +kernel
theorem deed_lett : ∀ t ∈ deeds6, Lett t := by decide +kernel
theorem key_lett : ∀ t ∈ keysR, Lett t := by decide +kernel
theorem words_lett {s t : Str} {ts ds : List Str} (R : RuleOk s ts ds t) : ∀ w ∈ rWords s ts ds t, Lett w := fun w hw => by
  unfold rWords at hw
  rcases List.mem_append.mp hw with q | q
  · rcases List.mem_cons.mp q with rfl | q
    · exact name_lett R.hs
    · rcases List.mem_append.mp q with q | q
      · unfold wT1 at q
        split at q
        · cases q
        · rcases List.mem_cons.mp q with rfl | q
          · exact key_lett _ (by decide)
          · rcases segs_mem q with rfl | ⟨a, ha, q⟩
            · exact key_lett _ (by decide)
            · obtain ⟨x, hx, rfl⟩ := List.mem_map.mp ha
              exact tw_lett x (R.hts x hx) w q
      · unfold wD1 at q
        split at q
        · cases q
        · rcases List.mem_cons.mp q with rfl | q
          · exact key_lett _ (by decide)
          · rcases segs_mem q with rfl | ⟨a, ha, q⟩
            · exact key_lett _ (by decide)
            · obtain ⟨x, hx, rfl⟩ := List.mem_map.mp ha
              rw [List.mem_singleton.mp q]
              exact deed_lett x (R.hds x hx)
  · rcases List.mem_cons.mp q with rfl | q
    · exact key_lett _ (by decide)
    · rw [List.mem_singleton.mp q]
      exact name_lett R.ht
theorem rText_codes {s t : Str} {ts ds : List Str} (R : RuleOk s ts ds t) : ∀ c ∈ tl (rText s ts ds t), c = 32 ∨ c ∈ letters.cps.toList := fun c hc => by
  have e : tl (rText s ts ds t) = jw ((rWords s ts ds t).map tl) := tl_W _
  rw [e] at hc
  rcases jw_mem hc with q | ⟨x, hx, q⟩
  · exact .inl q
  · obtain ⟨w, hw, rfl⟩ := List.mem_map.mp hx
    exact .inr (words_lett R w hw c q)
theorem lett_no10 : 10 ∉ letters.cps.toList := by decide +kernel
theorem lett_no32 : 32 ∉ letters.cps.toList := by decide +kernel
theorem tx_no10 {r : RP} (h : r.ok) : 10 ∉ tl r.tx := fun z => by
  rcases rText_codes h 10 z with q | q
  · cases q
  · exact lett_no10 q
theorem wait_no : ∀ w ∈ W4, 10 ∉ tl ("wait " ++ ((toString w : String) : Str)) ∧ 32 ∉ tl (((toString w : String) : Str)) := by decide +kernel
theorem first_no {f : Str} (h : nameOk f = true) : 10 ∉ tl ("first " ++ f) := fun z => by
  rw [tl_append] at z
  rcases List.mem_append.mp z with q | q
  · exact absurd q (by decide +kernel)
  · exact lett_no10 (name_lett h 10 q)
theorem pls_no {f : Str} {w : Int} {rs : List RP} (hf : nameOk f = true) (hw : w ∈ W4) (hr : ∀ r ∈ rs, r.ok) : ∀ p ∈ pls f w rs, 10 ∉ tl p := fun p hp => by
  unfold pls at hp
  rcases List.mem_cons.mp hp with rfl | hp
  · exact first_no hf
  · rcases List.mem_cons.mp hp with rfl | hp
    · exact (wait_no w hw).1
    · obtain ⟨r, h1, rfl⟩ := List.mem_map.mp hp
      exact tx_no10 (hr r h1)
theorem ptx_split {f : Str} {w : Int} {rs : List RP} (hf : nameOk f = true) (hw : w ∈ W4) (hr : ∀ r ∈ rs, r.ok) : Txt.split (ptx f w rs) "\n" = pls f w rs := by
  unfold ptx
  exact TL.split_join (y := "\n") (s := 10) (S := []) (by decide +kernel) (by decide +kernel) (by unfold pls; simp) (pls_no hf hw hr)
theorem ptx_inj {f f' : Str} {w w' : Int} {rs rs' : List RP} (hf : nameOk f = true) (hw : w ∈ W4) (hr : ∀ r ∈ rs, r.ok) (hf' : nameOk f' = true) (hw' : w' ∈ W4) (hr' : ∀ r ∈ rs', r.ok) : ptx f w rs = ptx f' w' rs' ↔ pls f w rs = pls f' w' rs' := by
  refine ⟨fun e => ?_, fun e => by unfold ptx; rw [e]⟩
  rw [← ptx_split hf hw hr, ← ptx_split hf' hw' hr', e]
theorem first_split {f : Str} (h : nameOk f = true) : Txt.split ("first " ++ f) " " = (["first", f] : List Str) := by
  have e : ("first " ++ f : Str) = Txt.join " " (["first", f] : List Str) := ext_tl (by
    rw [TL.join_eq, tl_append, tl_join, show tl ("first " : Str) = tl ("first" : Str) ++ [32] by decide +kernel]
    show _ = tl ("first" : Str) ++ (tl (" " : Str) ++ tl f)
    rw [show tl (" " : Str) = [32] by decide +kernel, List.append_assoc])
  rw [e]
  refine TL.split_join (y := " ") (s := 32) (S := []) (by decide +kernel) (by decide +kernel) (by simp) fun p hp => ?_
  rcases List.mem_cons.mp hp with rfl | hp
  · decide +kernel
  · rw [List.mem_singleton.mp hp]
    exact fun z => lett_no32 (name_lett h 32 z)
theorem wait_split : ∀ w ∈ W4, Txt.split ("wait " ++ ((toString w : String) : Str)) " " = (["wait", ((toString w : String) : Str)] : List Str) := by decide +kernel
end NM
namespace NM
open PySem L2
section
variable {X : Cx} {ρ : Rho} {ω : Om} {Ψ : PsiE} {ε : PsiX} {pos : Pos}
theorem ev_mapL (j : Nat) (ys : List Dt) {x : Str} {elt iter : Expr} {scope : Scope} {own : List (Str × Nat)} {tp : Pos} (ok : Cok X) (bo : BlkOk X.N X.env.scope scope own) (hj : j ∈ own.map (·.2))
    (h : EI X ρ ω (.Name x tp) iter (fun items dv ω1 => dv ω1 ∧ items.length = ys.length ∧ (∀ (i : Nat) d y, items[i]? = some d → ys[i]? = some y → ∀ s H C cl fp, EV (Blk X scope s H C cl fp) ((wipeR ρ (own.map (·.2))).set j (some d)) ω1 elt (fun z ω2 => z = y ∧ ω2 = ω1) F0) ∧ ys.length < sizeLine ∧ Ψ (.lst ys) ω1) ε)
    (hg : ∀ (s : Shared) (H : Hp) (C : Addr) (cl : List (Str × Addr)) (fp : List Addr), PG (Blk X scope s H C cl fp) (.Name x tp) (gName j)) (hs : ∀ x, foldedSetIterable iter X.env x = pure x := by intro _; rfl) :
    EV X ρ ω (.ListComp elt [⟨.Name x tp, iter, [], 0⟩] scope pos) Ψ ε := by
  refine ev_lc j ok bo hj (.inl rfl) (fun σ P H as R w en xk q => h σ P H as R w en xk fun J items dv ω' P' H' as' w' g' it d1 k => q J items dv ω' P' H' as' w' g' it d1 ?_) hg hs
  obtain ⟨k0, kl, k1, k2, k3⟩ := k
  refine ⟨fun i acc o => o = ω' ∧ acc = ys.take i, ⟨rfl, rfl⟩, fun i acc o z => z.1 ▸ k0, fun i d acc o hd z => ?_, fun acc o z => ?_⟩
  · obtain ⟨rfl, rfl⟩ := z
    have hi : i < ys.length := by rw [← kl]; exact (List.getElem?_eq_some_iff.mp hd).1
    refine elt0 fun s H C cl fp => (k1 i d ys[i] hd (List.getElem?_eq_getElem hi) s H C cl fp).imp fun y o2 z => ⟨?_, z.2, ?_⟩
    · rw [List.length_take]; omega
    · rw [z.1, List.take_succ_eq_append_getElem hi]
  · obtain ⟨rfl, rfl⟩ := z
    rw [kl, List.take_length]; exact k3
end
theorem cut_to_nat (xs : List Dt) {a : Nat} (h : a ≤ xs.length) : cutD xs none (some (a : Int)) = xs.take a := by
  unfold cutD
  have e1 : HT.sIx xs.length 0 none = 0 := rfl
  have e2 : HT.sIx xs.length xs.length (some (a : Int)) = a := by
    rw [HT.sIx_nat]
    exact Nat.min_eq_left h
  rw [e1, e2]; simp
theorem cut_from_nat (xs : List Dt) {a : Nat} (h : a ≤ xs.length) : cutD xs (some (a : Int)) none = xs.drop a := by
  unfold cutD
  have e1 : HT.sIx xs.length 0 (some (a : Int)) = a := by
    rw [HT.sIx_nat]
    exact Nat.min_eq_left h
  have e2 : HT.sIx xs.length xs.length none = xs.length := rfl
  rw [e1, e2]
  exact List.take_of_length_le (by rw [List.length_drop]; omega)
theorem sq_app {ω : Om} {d : Dt} {xs : List Dt} {u : Ow} (h : Sq ω d xs) : Sq (ω ++ [u]) d xs := by
  have ag : ∀ {n : Nat} {o : Ow}, ω[n]? = some o → (ω ++ [u])[n]? = some o := fun h => by
    rw [List.getElem?_append_left (List.getElem?_eq_some_iff.mp h).1]; exact h
  cases h with
  | tup => exact .tup _
  | lst => exact .lst _
  | own hn => exact .own (ag hn)
theorem seqK_app {K : Fg} {ω : Om} {d : Dt} {b : Bool} {u : Ow} (h : SeqK K ω d b) : SeqK K (ω ++ [u]) d b := by
  have ag : ∀ {n : Nat} {o : Ow}, ω[n]? = some o → (ω ++ [u])[n]? = some o := fun h => by
    rw [List.getElem?_append_left (List.getElem?_eq_some_iff.mp h).1]; exact h
  obtain ⟨t, l, v, h2, h3⟩ := h
  refine ⟨t, l, v, ?_, h3⟩
  cases h2 with
  | non => exact .non
  | bl x => exact .bl x
  | int x => exact .int x
  | str x => exact .str x
  | tup x => exact .tup x
  | lst x => exact .lst x
  | ownL hn => exact .ownL (ag hn)
  | obj i => exact .obj i
  | ownI i hn => exact .ownI i (ag hn)
end NM
namespace NM
open PySem L2 PySem.Spec PyProof.Rows
/-- the two statements of such an __init__ -/
structure ErBody (st : Stmt) (fld : Str) : Prop where
  ex : ∃ p0 p1 p2 p3 p4 p5 p6 p7 p8 p9 j txt, defBody st = [.Expr (.Call (.Attribute (.Call (.Name "super" p0) [] [] p1) "__init__" p2) [.Constant (.str txt) j p3] [] p4) p5, .Assign [.Attribute (.Name "self" p6) fld p7] (.Name fld p8) p9] ∧
    (∃ pl : Sem Bool, ∀ env : PySem.Env, eval (.Call (.Attribute (.Call (.Name "super" p0) [] [] p1) "__init__" p2) [.Constant (.str txt) j p3] [] p4) env = (do
      let ov ← attributeBase (.Call (.Name "super" p0) [] [] p1) "__init__" env (eval (.Call (.Name "super" p0) [] [] p1) env)
      standAt p2.atName
      let (f, first) ← holding [ov] (getMethod ov "__init__" pl)
      callWith p4 f first (backTo p4 (starEach [.Constant (.str txt) j p3] env)) [])) ∧
    (∀ env : PySem.Env, swapsWith (.Call (.Attribute (.Call (.Name "super" p0) [] [] p1) "__init__" p2) [.Constant (.str txt) j p3] [] p4) none p5.line env = pure false) ∧
    (∀ env : PySem.Env, swapsWith (.Name fld p8) (some (.Attribute (.Name "self" p6) fld p7)) p9.line env = pure false)
/-- what the written part says of the class at C, its __init__ at f -/
structure ErK (P : Program) (K : Fg) (st : Stmt) (qual fld : Str) (C f : Addr) (fd : FuncData) : Prop where
  oex : OexC K C
  fn : ∃ oc od dV kV doc pm an cda ct cc osl, fd = PySem.W.ksFn "__init__" qual (defArgs st) (defBody st) (defScope st) dV kV doc pm an (.ref cda) ct cc ∧ K.lookup f = some ⟨oc, od, .func fd, osl⟩ ∧ PySem.W.codeIn K (.ref cda) qual = true ∧
    (∃ ccl cdd vs ccs file tf, K.lookup cda = some ⟨ccl, cdd, .fields vs, ccs⟩ ∧ vs[2]? = some (.str file tf) ∧ ((P.main.file : Str) == file) = true) ∧ ∃ cl cld csl, K.lookup cc = some ⟨cl, cld, .cell (some (.ref C)), csl⟩
  init : PySem.W.findIn K (.ref C) "__init__" = some (some (.ref f))
  ty : PySem.W.typeIn K (.ref f) = some (.type "function")
  sup : PySem.W.ks_superIn K C C "__init__" = some (some (.builtin "ValueError.__init__"))
  sub : PySem.W.subIn K (.ref C) (.type "ValueError") = some true
  mro : PySem.W.mroIn K C (.ref C) = some true
  opq : PySem.W.nsIn K cStatics "thirdparty.any" = some none
  fno : PySem.W.findIn K (.ref C) fld = some none
/-- the scope of such an __init__ -/
structure ErSc (st : Stmt) (fld : Str) : Prop where
  cell : ∀ x ∈ (defScope st).names, x.2 ≠ .cell
  self : (defScope st).names.lookup ("self" : Str) = some .local
  fl : (defScope st).names.lookup fld = some .local
  sup : (defScope st).names.lookup ("super" : Str) = some .globalImplicit
  cls : (defScope st).names.lookup ("__class__" : Str) = some .free
  co : (defScope st).isCoroutine = false
  gen : (defScope st).isGenerator = false
  kind : (defScope st).kind = .function
  par : ∃ ar, ((defArgs st).posonlyargs ++ (defArgs st).args).head? = some ar ∧ ar.arg = "self"
  ne : fld ≠ "self"
  nd : (fld == ("__debug__" : Str)) = false
def spEr (C : Addr) (fld : Str) : Sp := fun vs H Q _ => ∃ a y, vs = [.ref a, y] ∧ H a = some (exo a C none) ∧ ∀ d, H d = none → d ≠ a → Q .non (upd (upd H d (exd d [(fld, y)])) a (exo a C (some d)))
theorem er_fn {P : Program} {w : World} {K : Fg} {mg : Str → Option Value} {base : Heap} {CX : CXT} {st : Stmt} {qual fld : Str} {C f : Addr} {fd : FuncData} (T : ErK P K st qual fld C f fd) (B : ErBody st fld) (S : ErSc st fld) (g0 : mg "super" = none) (ht : (P.main.scope.names.lookup ("super" : Str)).isSome = false) :
    FnOk P w K mg base CX 1 f fd ["self", fld] (spEr C fld) := by
  refine ⟨fun vs H Q E h => ?_, fun A outer s H args us vs Q E hr e0 hb r hsp => ?_⟩
  · obtain ⟨a, y, rfl, _⟩ := h; rfl
  obtain ⟨a, y, rfl, ha, hq⟩ := hsp
  obtain ⟨u0, u, rfl, r0, ry⟩ : ∃ u0 u, us = [u0, u] ∧ RelV (.ref a) u0 ∧ RelV y u := by
    cases r with
    | cons h1 r => cases r with
      | cons h2 r => cases r; exact ⟨_, _, rfl, h1, h2⟩
  cases r0
  obtain ⟨oc, od, dV, kV, doc, pm, an, cda, ct, cc, osl, rfl, lk, hcd, ⟨ccl, cdd, vs0, ccs, file, tf, hco, hvs, hfile⟩, cl, cld, csl, hcl⟩ := T.fn
  obtain ⟨nm, q, N, bs, bm, sn, sub, ab, col, dd, k0, k1, k2, k3, k5, hC, hbm⟩ := T.oex.cls
  obtain ⟨p0, p1, p2, p3, p4, p5, p6, p7, p8, p9, j, txt, hbody, ⟨pl, hev⟩, hsw1, hsw2⟩ := B.ex
  obtain ⟨ar, hpar, har⟩ := S.par
  obtain ⟨hp, g, dr, t0, os⟩ := s
  have KX : K.In hp := e0.mod.kin.keeps fun b o e => (e0.bs b o e).1
  have lim : hp.NoLimit := e0.mod.nolimit.keeps fun b o e => (e0.bs b o e).1
  obtain ⟨mb, hmb, hbb⟩ := e0.mod.blt
  obtain ⟨t1, hoa⟩ := exo_at e0.hok ha
  have haC : a ≠ C := fun z => by
    have h1 := KX _ _ hC
    rw [← z, hoa] at h1
    cases h1
  refine PySem.ks_codeAny_call_defAt (fd := PySem.W.ksFn "__init__" qual (defArgs st) (defBody st) (defScope st) dV kV doc pm an (.ref cda) ct cc) (body := defBody st) (binds := [(("self" : Str), Value.ref a), (fld, u)]) hr.depth (KX _ _ lk) rfl lim (PySem.W.codeRec_of KX hcd) rfl hb S.cell (fun x hx => ?_) (fun h0 hns hk0 => ?_) S.co S.gen S.kind
  · rcases List.mem_cons.mp hx with rfl | hx
    · exact S.self
    · rw [List.mem_singleton.mp hx]; exact S.fl
  have X0 : K.In h0 := KX.keeps hk0
  have g1 : h0.Ns mainGlobals mg := e0.mod.glob.keeps fun b o e => hk0 b o (e0.bs b o e).1
  have b1 : h0.Ns builtinsNs mb := hmb.keeps fun b o e => hk0 b o (e0.bs b o e).1
  have hcl2 : PySem.W.clsIn K C = some { name := nm, bases := bs, mro := .ref C :: bm, ns := N, qualname := q, hasDict := true, slotNames := sn, subclasses := sub, abstract := ab, collection := col, hasDel := false } := by unfold PySem.W.clsIn; rw [hC] <;> rfl
  have hin : interactive (callEnv (PySem.W.ksFn "__init__" qual (defArgs st) (defBody st) (defScope st) dV kV doc pm an (.ref cda) ct cc) hp.objs.size f) = false := by
    unfold interactive
    rw [show (callEnv (PySem.W.ksFn "__init__" qual (defArgs st) (defBody st) (defScope st) dV kV doc pm an (.ref cda) ct cc) hp.objs.size f).scope.kind = .function from S.kind]; rfl
  generalize henv : callEnv (PySem.W.ksFn "__init__" qual (defArgs st) (defBody st) (defScope st) dV kV doc pm an (.ref cda) ct cc) hp.objs.size f = env at hin ⊢
  have es : env.scope = defScope st := by subst henv; rfl
  have ek : ∀ x, env.kindOf x = (defScope st).names.lookup x := fun x => by subst henv; rfl
  have eg : env.globals = mainGlobals := by subst henv; rfl
  have eb : env.builtins = builtinsNs := by subst henv; rfl
  have ef : env.func = some f := by subst henv; rfl
  have ec : env.code = .ref cda := by subst henv; rfl
  have el : env.locals = hp.objs.size := by subst henv; rfl
  have ecl : env.cells.lookup ("__class__" : Str) = some cc := by subst henv; rfl
  rw [hbody]
  refine PySem.ks_wpAt_execs_cons (PySem.ks_wpAt_Expr_any (PySem.ks_wpAt_MethodCall (pl := pl) ?_ (hev env)) hin (hsw1 env))
  refine PySem.ks_wpAt_super_base ((ek _).trans S.sup) ((ek _).trans S.cls) (by decide) ef (X0 _ _ lk) rfl hpar ec (X0 _ _ hco) rfl hvs hfile ht ?_
  refine PySem.W.ks_loadName_global (by rw [es]; exact S.kind) ((ek _).trans S.sup) (PySem.Calls.loadGlobal_builtin (by rw [eg]; exact g1) g0 (by rw [eb]; exact b1) ((hbb _ (by decide)).trans PyProof.Rows.Boot.«super») ⟨rfl, ?_⟩)
  have vS : ([(("self" : Str), Value.ref a), (fld, u)].reverse).lookup ("self" : Str) = some (.ref a) := by
    show List.lookup ("self" : Str) [(fld, u), (("self" : Str), Value.ref a)] = _
    have hb : (("self" : Str) == fld) = false := beq_eq_false_iff_ne.mpr fun z => S.ne z.symm
    rw [List.lookup_cons, hb]; rfl
  have vF : ([(("self" : Str), Value.ref a), (fld, u)].reverse).lookup fld = some u := by
    show List.lookup fld [(fld, u), (("self" : Str), Value.ref a)] = _
    rw [List.lookup_cons, beq_self_eq_true]
  have kf : env.scope.kind = .function := by rw [es]; exact S.kind
  have hns1 : h0.Ns env.locals (fun x => ([(("self" : Str), Value.ref a), (fld, u)].reverse).lookup x) := by rw [el]; exact hns
  refine wpAny_loadName_free kf ((ek _).trans S.cls) ecl ⟨_, X0 _ _ hcl, rfl⟩ ?_
  rw [har]
  refine wpAny_loadName_local kf ((ek _).trans S.self) hns1 vS ?_
  refine PySem.ks_wpAny_isType_cls (X0 _ _ hC) rfl ⟨rfl, ?_⟩
  refine PySem.ks_wpAny_call_super (X0 _ _ hC) rfl (hk0 _ _ hoa) rfl (fun c z => by cases z) (PySem.W.looks_mroIn X0 T.mro) (fun h1 e1 k1 => ?_)
  have X1 : K.In h1 := X0.keeps k1
  have oa1 := k1 _ _ (hk0 _ _ hoa)
  have along : PySem.W.alongIn K "__init__" ((((Value.ref C) :: bm).dropWhile (· != .ref C)).drop 1) = some (some (.builtin "ValueError.__init__")) := by
    have z := T.sup
    unfold PySem.W.ks_superIn at z
    rw [hcl2] at z
    exact z
  have isa : PySem.W.Looks (model P w) h1 (isInstance (.ref a) (.type "ValueError")) true := (PySem.W.InstAt.type (x := a) (C := C) (od := none) ⟨oa1, rfl, rfl, trivial⟩).andThen (PySem.W.looks_subIn X1 T.sub)
  refine PySem.W.kxs_getMethod PySem.W.kxs_ValueError e1 (PySem.W.looks_opaque X1 T.opq) (l₀ := .ref C :: bm) (fun A Q E s k q => wpAny_bind ((PySem.W.looks_clsIn X1 hcl2) A _ E s k (wpAny_pure q))) rfl X1 along isa haC (by decide) ?_
  refine PySem.W.kxs_callWith (i := "ValueError.__init__") (x := a) rfl (PySem.Calls.evalArgs_plain (PySem.Calls.spliced_cons (PySem.Calls.Constant_str (k := j) (pos := p3) (PySem.Calls.spliced_nil ⟨?_, ?_⟩))))
  · show (h1.push _).get? h1.objs.size = some _
    exact Heap.get?_push_size _ rfl
  have k2 : ∀ b o, h1.get? b = some o → (h1.push (PySem.W.kxs_mw "ValueError.__init__" a)).get? b = some o := fun b o e => Heap.get?_push_of_some _ e
  have oa2 := k2 _ _ oa1
  have mw2 : (h1.push (PySem.W.kxs_mw "ValueError.__init__" a)).get? h1.objs.size = some (PySem.W.kxs_mw "ValueError.__init__" a) := Heap.get?_push_size _ rfl
  have X2 : K.In (h1.push (PySem.W.kxs_mw "ValueError.__init__" a)) := X1.keeps k2
  have ns2 : (h1.push (PySem.W.kxs_mw "ValueError.__init__" a)).Ns env.locals (fun x => ([(("self" : Str), Value.ref a), (fld, u)].reverse).lookup x) := hns1.keeps fun b o e => k2 b o (k1 b o e)
  have kk2 : ∀ b o, hp.get? b = some o → (h1.push (PySem.W.kxs_mw "ValueError.__init__" a)).get? b = some o := fun b o e => k2 b o (k1 b o (hk0 b o e))
  generalize h1.push (PySem.W.kxs_mw "ValueError.__init__" a) = h2 at oa2 mw2 X2 ns2 kk2 ⊢
  refine wpAny_call (codeAny_of_tree ?_)
  show wpAny (model P w) _ (callAny (Value.ref h1.objs.size) _) _ _ _
  unfold callAny
  refine wpAny_bind (wpAny_load mw2 ?_)
  have fb := PySem.F.excBase_ValueError
  dsimp only [PySem.W.kxs_mw]
  rw [if_pos (show (Value.type "method-wrapper" == Value.type "method" || Value.type "method-wrapper" == Value.type "builtin_function_or_method" || Value.type "method-wrapper" == Value.type "method-wrapper") = true by decide)]
  refine PySem.W.KFB.if_so (show (Value.type "method-wrapper" != Value.type "method") = true by decide) ?_
  refine wpAny_bind (PySem.W.check_bound_init fb.toExcCallFacts (X2 _ _ hC) oa2 rfl ?_)
  refine wpAny_bind (wpAny_pure (wpAny_pure ⟨plainId_quiet fb.init.plain _, codeAny_builtin fb.initEntry ?_⟩))
  refine PySem.W.exc_init_tree (cls := .ref C) (t0 := t1) (dv := none) (c2 := .none) (c3 := .none) (b4 := .bool false) oa2 (show 1 ≤ sizeLine by decide) fun h3 k3 oa3 ot3 => ?_
  have nK : ∀ b o, K.lookup b = some o → b ≠ a := fun b o e z => by
    have q1 := (e0.bs b o (e0.mod.kin b o e)).2
    rw [z, ha] at q1
    cases q1
  have aL : env.locals ≠ a := by rw [el]; exact Nat.ne_of_gt (Heap.lt_size hoa)
  have X3 : K.In h3 := fun b o e => k3 b o (nK b o e) (X2 b o e)
  have ns3 : h3.Ns env.locals (fun x => ([(("self" : Str), Value.ref a), (fld, u)].reverse).lookup x) := by
    obtain ⟨o, es, ep, z1, z2⟩ := ns2
    exact ⟨o, es, ep, k3 _ _ aL z1, z2⟩
  show PySem.wpAt (model P w) _ _ (execs [_] env) _ _ _
  refine PySem.ks_wpAt_execs_cons (PySem.ks_wpAt_Assign_Attr (PySem.wpAt_of_wpAny (wpAny_Name (wpAny_loadName_local kf ((ek _).trans S.fl) ns3 vF (wpAny_Name (wpAny_loadName_local kf ((ek _).trans S.self) ns3 vS ?_) (by decide))) S.nd)) (hsw2 env))
  refine PySem.W.set_plain X3 (ox := { cls := .ref C, dict := none, data := .fields #[.ref h2.objs.size, .none, .none, .none, .bool false, .none] }) (od := none) ⟨oa3, rfl, rfl, trivial⟩ T.oex.sa ?_
  refine PySem.HandSPX.exc_osa X3 oa3 hcl2 (show PySem.HandSPX.refsVE (.ref C :: bm) = true from hbm) rfl T.fno (fun h4 tk4 dx k4 dn dne oa4 nd4 => ?_)
  refine PySem.wpAt_of_wpAny (wpAny_execs_nil ?_)
  have kk : ∀ b o, b ≠ a → hp.get? b = some o → h4.get? b = some o := fun b o z e => k4 b o z (k3 b o z (kk2 b o e))
  have dx0 : hp.get? dx = none := by
    cases z : hp.get? dx with
    | none => rfl
    | some o => exact absurd (Heap.lt_size (k3 dx o dne (kk2 dx o z))) (Nat.not_lt.mpr dn)
  have Hdx : H dx = none := e0.hok.gone dx0
  have nea : ∀ {b : Addr}, H b = none → b ≠ a := fun {b} n z => by rw [z, ha] at n; cases n
  have ned : ∀ {b : Addr} {o : Obj}, hp.get? b = some o → b ≠ dx := fun {b o} e z => by rw [z, dx0] at e; cases e
  have neH : ∀ {b : Addr} {o : HO}, H b = some o → b ≠ dx := fun {b o} e z => by rw [z, Hdx] at e; cases e
  have at2 : ∀ {b : Addr}, b ≠ a → b ≠ dx → upd (upd H dx (exd dx [(fld, y)])) a (exo a C (some dx)) b = H b := fun {b} z1 z2 => by rw [upd_ne z1, upd_ne z2]
  refine ⟨.non, upd (upd H dx (exd dx [(fld, y)])) a (exo a C (some dx)), rfl, e0.bare, ⟨fun b o e n _ _ => kk b o (nea n) e, fun b o e n _ _ => ⟨o.slots, kk b o (nea n) e⟩, fun b o e n _ => (at2 (nea n) (ned e)).trans n, fun b o e _ => ?_, fun b xs e => (at2 (at_ne ha e exo_tup) (neH e)).trans e, fun b o v e => (at2 (at_ne ha e exo_frz) (neH e)).trans e, fun b ps e => ⟨#[], by rw [at2 (at_ne ha e exo_tbl) (neH e), e, Array.append_empty]⟩⟩, fun b o e => ?_, rfl, hq dx Hdx dne⟩
  · by_cases z : b = a
    · exact ⟨_, by rw [z]; exact oa4⟩
    · exact ⟨o, kk b o z e⟩
  · by_cases z : b = a
    · subst z
      rw [upd_same] at e
      cases e
      exact exo_ok oa4
    · by_cases z2 : b = dx
      · subst z2
        rw [upd_ne z, upd_same] at e
        cases e
        exact exd_ok nd4 (relO_put (fs := []) ry fun _ => trivial)
      · rw [at2 z z2] at e
        refine (e0.hok b o e).stay (fun c v hc e2 => kk c v ?_ e2) (fun c hc => (at2 (at_ne ha hc exo_own) (neH hc)).trans hc) (fun c xs hc => (at2 (at_ne ha hc exo_tup) (neH hc)).trans hc)
        rcases hc with hc | hc
        · rw [hc]; exact z
        · exact at_ne ha hc exo_own
end NM
namespace NM
open PySem L2 PySem.Spec PyProof.Rows
/-- an own error that can be made: its class at C, its field fld -/
structure ErG (P : Program) (w : World) (K : Fg) (mg : Str → Option Value) (base : Heap) (x : Str) (C : Addr) (fld : Str) : Prop where
  ex : ∃ f fd, OexC K C ∧ PySem.W.findIn K (.ref C) "__init__" = some (some (.ref f)) ∧ PySem.W.typeIn K (.ref f) = some (.type "function") ∧ FnOk P w K mg base (fun _ _ _ _ _ _ => False) 1 f fd ["self", fld] (spEr C fld) ∧ Binds K fd ["self", fld] [] ∧ mg x = some (.ref C)
section
variable {X : Cx} {ρ : Rho} {ω : Om} {Ψ : PsiE} {ε : PsiX} {Φ : Post} {e : Expr} {pos : Pos}
theorem es_raise {x fld : Str} {C : Addr} {p pos2 : Pos} (ok : Cok X) (G : ErG X.prog X.w X.K X.mg X.base x C fld) (hr : Rm 2 X.A) (h : EV X ρ ω e (fun d ω1 => Φ.xc ⟨.ref C, some [(fld, d)]⟩ ρ ω1) (fun y ω' => Φ.xc y ρ ω'))
    (hg : Gl X x := by rfl) (hdb : (x == ("__debug__" : Str)) = false := by decide) (he : starEach [e] X.env = (false, eval e X.env) :: starEach [] X.env := by rfl) (hpl : (backTo pos (starEach [] X.env)).any (·.1) = false := by rfl) :
    ES X ρ ω (.Raise (some (.Call (.Name x p) [e] [] pos)) none pos2) Φ := fun σ P H as D w en z => by
  obtain ⟨f, fd, T, iC, tI, F, hb, hm⟩ := G.ex
  obtain ⟨W, tk, hW⟩ := z.xc
  refine sS_of (ps_raise ok.calm tk (pmk_oex T iC tI F hr.r hb .nil (fun _ _ _ _ _ _ _ q => q.elim) hg hm pA hdb he hpl)) ?_
  refine (ea_cons (Ψ := fun ds ω1 => ∃ d, ds = [d] ∧ Φ.xc ⟨.ref C, some [(fld, d)]⟩ ρ ω1) (h.imp fun d ω1 q => ea_nil ⟨d, rfl, q⟩) he) σ P H as _ w en (z.xk en) fun vs ds ω1 P1 H1 as1 w1 g1 al q => ?_
  obtain ⟨d, rfl, q⟩ := q
  obtain ⟨v, rfl, av⟩ := one_of al
  refine ⟨show 1 ≤ 1000 by decide, fun a ha => ⟨a, v, rfl, upd_same, fun dx hdx hne => ⟨rfl, dx, [(fld, v)], upd_same, by rw [upd_ne hne, upd_same], ?_, ?_⟩⟩⟩
  · rw [upd_ne hne] at hdx; exact hdx
  have hd1 : H1 dx = none := by rw [upd_ne hne] at hdx; exact hdx
  have eH : upd (del (upd (upd (upd H1 a (exo a C none)) dx (exd dx [(fld, v)])) a (exo a C (some dx))) a) dx (.xd [(fld, v)]) = upd H1 dx (.xd [(fld, v)]) := by
    funext b
    by_cases b1 : b = dx
    · rw [b1, upd_same, upd_same]
    · rw [upd_ne b1, upd_ne b1]
      by_cases b2 : b = a
      · rw [b2, del_same, ha]
      · rw [del_ne b2, upd_ne b2, upd_ne b1, upd_ne b2]
  rw [eH]
  obtain ⟨w2, g2⟩ := w1.newH (o := .xd [(fld, v)]) hd1
  obtain ⟨n1, n2⟩ := w1.fresh hd1
  have g12 := g1.trans g2
  refine hW _ _ ⟨.ref C, some [(fld, d)]⟩ σ ρ ω1 P1 _ as1 w2 g12 (en.mono g12.p g12.a) ⟨rfl, dx, [(fld, v)], rfl, upd_same, rfl, .cons av .nil, n1, n2, ?_⟩ q
  cases hz : H dx with
  | none => rfl
  | some o =>
    rw [g1.h dx o hz fun m => n1 (g1.a.subset m)] at hd1
    cases hd1
/-- an error's dict is held from now on -/
theorem Ws.hold {K : Fg} {ω : Om} {P H : Hp} {as : List Addr} {d : Addr} {fs : List (Str × Dt)} {fvs : List (Str × V)} (w : Ws K ω P H as) (hn : d ∉ as) (hp : P d = none) (hd : H d = some (.xd fvs)) (e : fvs.map (·.1) = fs.map (·.1)) (r : AtL K P as (fvs.map (·.2)) (fs.map (·.2))) : Ws K (ω ++ [.xd d fs]) P H (as ++ [d]) := by
  have pf : as <+: as ++ [d] := List.prefix_append _ _
  refine ⟨w.sub, ?_, by rw [List.length_append, List.length_append, w.len]; rfl, fun i o b h1 h2 => ?_⟩
  · rw [List.nodup_append]
    exact ⟨w.nd, by simp, fun x hx y hy z => hn (by rw [List.mem_singleton.mp hy] at z; rw [← z]; exact hx)⟩
  · by_cases c : i < ω.length
    · rw [List.getElem?_append_left c] at h1
      rw [List.getElem?_append_left (by rw [w.len]; exact c)] at h2
      exact (w.own i o b h1 h2).mono (Same.refl _) pf (fun z => z) (fun _ z => z)
    · have ei : i = ω.length := by
        have := (List.getElem?_eq_some_iff.mp h1).1
        rw [List.length_append] at this
        simp only [List.length_cons, List.length_nil] at this
        omega
      subst ei
      rw [get_last] at h1
      cases h1
      rw [← w.len] at h2
      have h3 : b = d := by simpa using h2.symm
      subst h3
      exact ⟨rfl, hp, fvs, hd, e, r.mono (Same.refl _) pf⟩
theorem es_tryAs (i : Nat) {x n : Str} {c : Value} {body suite : List Stmt} {b₀ : Stmt} {np pos' : Pos} (hN : X.N.Nodup) (hc : Names X x c)
    (hb : ∀ pn xe, ESs (X.tr pn xe) ρ ω body { nx := Φ.nx, rt := Φ.rt, bk := Φ.bk, ct := Φ.ct, xc := fun y ρ1 ω1 => ∃ b, PySem.W.exmOne X.K y.cls c = some b ∧ (b = true → ∃ fs, y.fs = some fs ∧ ∀ (a d : Addr) (oe : Obj) (pn2 : List (Addr × Obj)), Zc y.cls (some d) oe → (∃ vs, oe.data = .fields vs) → ESs (X.suite a ((a, oe) :: pn2)) (ρ1.set i (some (.ref a))) (ω1 ++ [.xd d fs]) (b₀ :: suite) { nx := fun ρ' ω' => Φ.nx (ρ'.set i none) ω', rt := Φ.rt, bk := fun ρ' ω' => Φ.bk (ρ'.set i none) ω', ct := fun ρ' ω' => Φ.ct (ρ'.set i none) ω' }) ∧ (b = false → Φ.xc y ρ1 ω1) })
    (hs : X.stack = X.env :: X.outer := by rfl) (hf : X.env.frame = some X.env.locals := by rfl) (hi : X.N[i]? = some n := by rfl) (hln : X.env.kindOf n = some .local := by rfl) : ES X ρ ω (.Try body [.ExceptHandler (some (.Name x np)) (some n) (b₀ :: suite) pos'] [] [] pos) Φ := fun σ P H as D w en z => by
  obtain ⟨zn, zr, zb, zc, Wo, tko, zx⟩ := z
  refine sS_of (ps_try_as (i := i) (tb := fun W D σ H => ∀ pn xe, Takes (X.tr pn xe) W → sSs (X.tr pn xe) body D σ H) (ts := fun a cls d D σ H => ∀ oe pn, Zc cls d oe → (∃ vs, oe.data = .fields vs) → sSs (X.suite a ((a, oe) :: pn)) (b₀ :: suite) D σ H) hs hf hN hi hln hc tko
    (fun W pn xe tk _ => ⟨fun pins s σ H D I h => (h pn xe tk).run pins s I⟩) (fun a oe cls d pn hz hd => ⟨fun pins s σ H D I h => (h oe pn hz hd).run pins s I⟩)) ?_
  intro pn xe tk
  refine hb pn xe σ P H as D w en ⟨zn, zr, zb, zc, _, tk, fun cls dx y σ' ρ' ω' P' H' as' w' g' en' ec q => ?_⟩
  obtain ⟨e1, ec2⟩ := id ec
  subst e1
  obtain ⟨b, hx, yes, no⟩ := q
  refine ⟨b, hx, fun hb1 a ha oe pn2 hz hd => ?_, fun hb0 => zx _ dx y σ' ρ' ω' P' H' as' w' g' en' ec (no hb0)⟩
  obtain ⟨fs, hfs, su⟩ := yes hb1
  rw [hfs] at ec2
  obtain ⟨d, fvs, rfl, hHd, e2, r2, nas, nP, nH0⟩ := ec2
  have w2 := w'.hold nas nP hHd e2 r2
  have pf : as' <+: as' ++ [d] := List.prefix_append _ _
  have g2 : Gr P H as P' H' (as' ++ [d]) := ⟨g'.p, g'.a.trans pf, g'.h, g'.n, fun b hb hn => by
    rcases List.mem_append.mp hb with m | m
    · exact g'.na b m hn
    · rw [List.mem_singleton.mp m]; exact nH0⟩
  refine su a d oe pn2 hz hd (σ'.set i (some (.ref a))) P' H' (as' ++ [d]) _ w2 ((en'.mono (Same.refl _) pf).set i (.ref a)) ⟨fun σ3 ρ3 ω3 P3 H3 as3 w3 g3 en3 q3 => zn _ _ ω3 P3 H3 as3 w3 (g2.trans g3) (en3.unset i) q3, fun v d3 ω3 P3 H3 as3 w3 g3 a3 q3 => zr v d3 ω3 P3 H3 as3 w3 (g2.trans g3) a3 q3,
    fun σ3 ρ3 ω3 P3 H3 as3 w3 g3 en3 q3 => zb _ _ ω3 P3 H3 as3 w3 (g2.trans g3) (en3.unset i) q3, fun σ3 ρ3 ω3 P3 H3 as3 w3 g3 en3 q3 => zc _ _ ω3 P3 H3 as3 w3 (g2.trans g3) (en3.unset i) q3, fun _ _ _ _ => False, takes0, fun _ _ _ _ _ _ _ _ _ _ _ _ _ q3 => q3.elim⟩
end
end NM
namespace NM
open PySem L2 PySem.Spec PyProof.Rows
theorem lookup_at {K : Fg} {P : Hp} {as : List Addr} {f : Str} {d : Dt} : ∀ {fvs : List (Str × V)} {fs : List (Str × Dt)}, fvs.map (·.1) = fs.map (·.1) → AtL K P as (fvs.map (·.2)) (fs.map (·.2)) → fs.lookup f = some d → ∃ v, fvs.lookup f = some v ∧ At K P as v d
  | [], [], _, _, h => by cases h
  | [], _ :: _, h, _, _ => by cases h
  | _ :: _, [], h, _, _ => by cases h
  | p :: fvs, q :: fs, h1, h2, h => by
    rw [List.map_cons, List.map_cons] at h1 h2
    injection h1 with e1 e2
    cases h2 with
    | cons a r =>
      obtain ⟨p1, p2⟩ := p
      obtain ⟨q1, q2⟩ := q
      simp only at e1 a
      subst e1
      rw [List.lookup_cons] at h ⊢
      cases c : (f == p1) with
      | true => rw [c] at h; cases h; exact ⟨_, rfl, a⟩
      | false => rw [c] at h; exact lookup_at e2 r h
theorem held_at {K : Fg} {ω : Om} {P H : Hp} {as : List Addr} {n : Nat} {d : Addr} {fs : List (Str × Dt)} (w : Ws K ω P H as) (hn : ω[n]? = some (.xd d fs)) : ∃ fvs, H d = some (.xd fvs) ∧ fvs.map (·.1) = fs.map (·.1) ∧ AtL K P as (fvs.map (·.2)) (fs.map (·.2)) := by
  have hl : n < as.length := by rw [w.len]; exact (List.getElem?_eq_some_iff.mp hn).1
  obtain ⟨e, _, fvs, h1, h2, h3⟩ := w.own n _ _ hn (List.getElem?_eq_getElem hl)
  rw [e] at h1
  exact ⟨fvs, h1, h2, h3⟩
section
variable {X : Cx} {ρ : Rho} {ω : Om} {Ψ : PsiE} {ε : PsiX} {e : Expr} {pos : Pos} {a C d : Addr} {oe : Obj} {pn : List (Addr × Obj)}
theorem ev_xf {f : Str} (T : XfC X.K C) (hno : PySem.W.findIn X.K (.ref C) f = some none) (hz : Zc (.ref C) (some d) oe) (hf : ∃ vs, oe.data = .fields vs)
    (h : EV (X.suite a ((a, oe) :: pn)) ρ ω e (fun x ω1 => x = .ref a ∧ ∃ (n : Nat) (fs : List (Str × Dt)) (v : Dt), ω1[n]? = some (Ow.xd d fs) ∧ List.lookup f fs = some v ∧ Ψ v ω1) ε) (hb : attributeBase e f X.env (eval e X.env) = eval e X.env := by rfl) :
    EV (X.suite a ((a, oe) :: pn)) ρ ω (.Attribute e f pos) Ψ ε := fun σ P H as Q w en xk q => by
  refine sE_of (pe_xf T hno hz hf pE hb) (h σ P H as _ w en xk fun v x ω1 P1 H1 as1 w1 g1 a1 p => ?_)
  obtain ⟨rfl, n, fs, y, hn, hl, p⟩ := p
  cases a1
  obtain ⟨fvs, h1, h2, h3⟩ := held_at w1 hn
  obtain ⟨u, hu, au⟩ := lookup_at h2 h3 hl
  exact ⟨rfl, rfl, d, fvs, u, rfl, h1, hu, q u y ω1 P1 H1 as1 w1 g1 au p⟩
theorem kit_held {K : Fg} {x D : Addr} {ox : Obj} {od : Option Obj} (T : ExcC K D) : PySem.W.KitX K (.ref x) (.ref D) (fun h => PySem.W.InstAt h x ox D od) :=
  PySem.W.kitx_exc (by
    obtain ⟨cd, z, _⟩ := PySem.W.any_some T.hd
    rw [z]; rfl) T.hg T.hk T.hs T.ha T.hn T.ht T.hm
def rIsH (K : Fg) (D a d : Addr) : List V → Hp → VK → Prop := fun xs H Q => ∃ (c : V) (cv : Value) (b : Bool) (fvs : List (Str × V)), xs = [.ref a, c] ∧ (∀ u, RelV c u → u = cv) ∧ H d = some (.xd fvs) ∧ PySem.W.kitOne K (.ref D) cv = some b ∧ Q (.bl b) H
theorem held_inst {pins : List (Addr × Obj)} {σ : L2.St} {H : Hp} {s : Shared} {fvs : List (Str × V)} (hz : Zc (.ref C) (some d) oe) (hf : ∃ vs, oe.data = .fields vs) (I : Inv (X.suite a ((a, oe) :: pn)) pins σ H s) (hd : H d = some (.xd fvs)) : ∃ od, PySem.W.InstAt s.heap a oe C (some od) := by
  obtain ⟨ha, _⟩ := I.pin (a, oe) (List.mem_append_left _ List.mem_cons_self)
  obtain ⟨vs, hv⟩ := hf
  have hx : ObjOk X.prog X.w H s.heap d (.xd fvs) := I.hok d _ hd
  obtain ⟨mA, hns, _⟩ := hx
  obtain ⟨od, ho, _⟩ := lookIn_ns hns
  exact ⟨od, ha, hz.1, by unfold PySem.W.notCls; rw [hv] <;> rfl, by rw [hz.2]; exact ho⟩
theorem call_isH (T : ExcC X.K C) (hz : Zc (.ref C) (some d) oe) (hf : ∃ vs, oe.data = .fields vs) : CallR (X.suite a ((a, oe) :: pn)) (.builtin "isinstance") (rIsH X.K C a d) := by
  intro pins s σ H xs us Q I r h
  obtain ⟨c, cv, b, fvs, rfl, hcv, hd, k, q⟩ := h
  obtain ⟨u1, u2, rfl, r1, r2⟩ := vals2 r
  cases (show u1 = Value.ref a from r1)
  have e2 := hcv _ r2
  subst e2
  obtain ⟨od, J⟩ := held_inst hz hf I hd
  exact PySem.W.kia_one (kit_held T) I.kIn J k (fun z => nomatch z) fun tk => ⟨.bl b, H, I.kept (t' := tk) fun _ _ z => z, rfl, q⟩
theorem cd_isH {n : Nat} {fs : List (Str × Dt)} {c : Dt} {u : Value} {k : Bool} (T : ExcC X.K C) (hz : Zc (.ref C) (some d) oe) (hf : ∃ vs, oe.data = .fields vs) (hn : ω[n]? = some (.xd d fs)) (hc : ClsD c u) (hk : PySem.W.kitOne X.K (.ref C) u = some k) (h : Ψ (.bl k) ω) :
    CD (X.suite a ((a, oe) :: pn)) (.builtin "isinstance") [.ref a, c] ω Ψ ε := cd_of (call_isH T hz hf) fun vs P H as Q w al q => by
  obtain ⟨v1, v2, rfl, a1, a2⟩ := two_of al
  cases a1
  obtain ⟨fvs, h1, _, _⟩ := held_at w hn
  refine ⟨v2, u, k, fvs, rfl, fun z hz => ?_, h1, hk, q _ _ ω P H as w .refl (.bl k) h⟩
  cases cls_at hc a2 with
  | ty n => exact hz
  | own D => exact hz
def rIsHT (K : Fg) (D a d : Addr) : List V → Hp → VK → Prop := fun xs H Q => ∃ (tp : Addr) (cs : List V) (us : List Value) (b : Bool) (fvs : List (Str × V)), xs = [.ref a, .ref tp] ∧ SqT K H tp cs ∧ Paired ClsV cs us ∧ H d = some (.xd fvs) ∧ PySem.W.kitAny K (.ref D) us = some b ∧ Q (.bl b) H
theorem call_isHT (T : ExcC X.K C) (hz : Zc (.ref C) (some d) oe) (hf : ∃ vs, oe.data = .fields vs) : CallR (X.suite a ((a, oe) :: pn)) (.builtin "isinstance") (rIsHT X.K C a d) := by
  intro pins s σ H xs us Q I r h
  obtain ⟨tp, cs, ws, b, fvs, rfl, hT, k, hd, e, q⟩ := h
  obtain ⟨u1, u2, rfl, r1, r2⟩ := vals2 r
  cases (show u1 = Value.ref a from r1)
  cases (show u2 = Value.ref tp from r2)
  obtain ⟨od, J⟩ := held_inst hz hf I hd
  obtain ⟨its, rv, pl, hz⟩ := I.tuple hT
  obtain ⟨⟨oc, o2, dt, sl⟩, h1, h2, n, h3⟩ := (show IsTup s.heap tp its.toArray from pl)
  have e3 := ClsV.all k rv
  subst e3
  simp only at h2 h3
  subst h2 h3
  exact PySem.W.kia_tup (kit_held T) I.kIn J h1 e (fun z => nomatch z) fun tk => ⟨.bl b, H, I.tok tk, rfl, q⟩
theorem cd_isHT {n : Nat} {fs : List (Str × Dt)} {cs : List Dt} {us : List Value} {k : Bool} (T : ExcC X.K C) (hz : Zc (.ref C) (some d) oe) (hf : ∃ vs, oe.data = .fields vs) (hn : ω[n]? = some (.xd d fs)) (hc : ClsDs cs us) (hk : PySem.W.kitAny X.K (.ref C) us = some k) (h : Ψ (.bl k) ω) :
    CD (X.suite a ((a, oe) :: pn)) (.builtin "isinstance") [.ref a, .tup cs] ω Ψ ε := cd_of (call_isHT T hz hf) fun vs P H as Q w al q => by
  obtain ⟨v1, v2, rfl, a1, a2⟩ := two_of al
  cases a1
  obtain ⟨fvs, h1, _, _⟩ := held_at w hn
  obtain ⟨tp, zs, rfl, hs, r⟩ := seqT w a2
  exact ⟨tp, zs, us, k, fvs, rfl, hs, clss_at hc r, h1, hk, q _ _ ω P H as w .refl (.bl k) h⟩
end
end NM
namespace NM
open PySem L2 PySem.Spec PyProof.Rows
section
variable {X : Cx} {ρ : Rho} {ω : Om} {Ψ : PsiE} {ε : PsiX} {pos : Pos}
theorem od_notin_sign {c : Nat} {y : Str} (h : Ψ (.bl (!decide (c ∈ y.cps.toList))) ω) : OD X (compareOp .NotIn) (.str ⟨#[c]⟩) (.str y) ω Ψ ε := od_of op_notIn_sign fun vx vy P H as Q w ax ay k => by
  cases ax; cases ay
  exact ⟨c, y, rfl, rfl, k _ _ ω P H as w .refl (.bl _) h⟩
theorem od_notin_lst {x : Dt} {ds : List Dt} (hx : flatD x = true) (hd : ds.all flatD = true) (h : Ψ (.bl (!inF x ds)) ω) : OD X (compareOp .NotIn) x (.lst ds) ω Ψ ε := od_of op_notIn_seq fun vx vy P H as Q w ax ay k => by
  obtain ⟨a, vs, rfl, hs, r⟩ := seqL w ay
  refine ⟨a, vs, rfl, .inl hs, at_flat ax hx, at_flats r hd, ?_⟩
  rw [at_inF ax hx r hd]
  exact k _ _ ω P H as w .refl (.bl _) h
theorem md_insert {n : Nat} {ds : List Dt} {i : Int} {d : Dt} (hn : ω[n]? = some (.lst ds)) (hz : ds.length < sizeLine) (h0 : 0 ≤ i) (h1 : i < 2 ^ 63) (h : Ψ .non (ω.set n (.lst (ds.take i.toNat ++ [d] ++ ds.drop i.toNat)))) : MD X "list.insert" (.own n) [.int i, d] ω Ψ := ⟨_, mt_insert, fun vx vs P H as Q w ax al k => by
  obtain ⟨a, us, rfl, ha, hp, hh, r⟩ := seqO w ax hn
  obtain ⟨v1, v2, rfl, a1, a2⟩ := two_of al
  cases a1
  refine ⟨a, us, i, v2, rfl, rfl, hh, by rw [r.length]; exact hz, h0, h1, ?_⟩
  obtain ⟨w2, g2⟩ := w.turn (ho := .lst (us.take i.toNat ++ [v2] ++ us.drop i.toNat)) (u := .lst (ds.take i.toNat ++ [d] ++ ds.drop i.toNat)) hn ha hp ⟨hp, _, upd_same, ((r.take _).append (.cons a2 .nil)).append (r.drop _)⟩
  exact k _ _ _ _ _ _ w2 g2 .non h⟩
/-- [x for x in iter if c] -/
theorem ev_filter (j : Nat) (p : Dt → Bool) {x : Str} {elt iter c : Expr} {scope : Scope} {own : List (Str × Nat)} {tp : Pos} (ok : Cok X) (bo : BlkOk X.N X.env.scope scope own) (hj : j ∈ own.map (·.2))
    (h : EI X ρ ω (.Name x tp) iter (fun items dv ω1 => dv ω1 ∧ (∀ d ∈ items, ∀ s H C cl fp, ET (Blk X scope s H C cl fp) ((wipeR ρ (own.map (·.2))).set j (some d)) ω1 c (fun k ω2 => k = p d ∧ ω2 = ω1) F0) ∧ (∀ d ∈ items, ∀ s H C cl fp, EV (Blk X scope s H C cl fp) ((wipeR ρ (own.map (·.2))).set j (some d)) ω1 elt (fun y ω2 => y = d ∧ ω2 = ω1) F0) ∧ items.length < sizeLine ∧ Ψ (.lst (items.filter p)) ω1) ε)
    (hg : ∀ (s : Shared) (H : Hp) (C : Addr) (cl : List (Str × Addr)) (fp : List Addr), PG (Blk X scope s H C cl fp) (.Name x tp) (gName j)) (hs : ∀ x, foldedSetIterable iter X.env x = pure x := by intro _; rfl) :
    EV X ρ ω (.ListComp elt [⟨.Name x tp, iter, [c], 0⟩] scope pos) Ψ ε := by
  refine ev_lc j ok bo hj (.inr ⟨c, rfl⟩) (fun σ P H as R w en xk q => h σ P H as R w en xk fun J items dv ω' P' H' as' w' g' it d1 k => q J items dv ω' P' H' as' w' g' it d1 ?_) hg hs
  obtain ⟨k0, k1, k2, k3, k4⟩ := k
  refine ⟨fun i acc o => o = ω' ∧ acc = (items.take i).filter p, ⟨rfl, rfl⟩, fun i acc o z => z.1 ▸ k0, fun i d acc o hd z => ?_, fun acc o z => ?_⟩
  · obtain ⟨rfl, rfl⟩ := z
    obtain ⟨hl, e⟩ := List.getElem?_eq_some_iff.mp hd
    have et : items.take (i + 1) = items.take i ++ [d] := by rw [List.take_succ_eq_append_getElem hl, e]
    have hm := List.mem_of_getElem? hd
    refine elt1 (p d) (fun s H C cl fp => k1 d hm s H C cl fp) (fun hp s H C cl fp => (k2 d hm s H C cl fp).imp fun y o2 z => ⟨?_, z.2, ?_⟩) (fun hp => ⟨rfl, ?_⟩)
    · have := List.length_filter_le p (items.take i)
      rw [List.length_take] at this
      omega
    · rw [z.1, et, List.filter_append, List.filter_cons_of_pos hp]; rfl
    · rw [et, List.filter_append, List.filter_cons_of_neg (by rw [hp]; decide), List.filter_nil, List.append_nil]
  · obtain ⟨rfl, rfl⟩ := z
    rw [List.take_length]; exact k4
end
theorem givX_str {ε : PsiX} {ω : Om} {c : Value} {f x : Str} (hl : OmLt ω.length ω) (h : ε ⟨c, some [(f, .str x)]⟩ ω) : GivX ω.length ε ⟨c, some [(f, .str x)]⟩ ω :=
  ⟨ω.length, ⟨c, some [(f, .str x)]⟩, Nat.le_refl _, by rw [List.take_length]; exact hl, rfl, ⟨rfl, .cons (.str x) .nil⟩, by rw [List.take_length]; exact h⟩
end NM
namespace NM
open PySem L2 PySem.Spec PyProof.Rows
section
variable {X : Cx} {ρ : Rho} {ω : Om} {Ψ : PsiE} {ε : PsiX} {pos : Pos}
def rCatL (K : Fg) : R2 := fun x y H Q => ∃ l b xs zs, x = .ref l ∧ y = .ref b ∧ SqL K H l xs ∧ SqL K H b zs ∧ xs.length + zs.length ≤ sizeLine ∧ ∀ p, H p = none → Q (.ref p) (upd H p (.lst (xs ++ zs)))
theorem op_catL : OpR X (binaryOp .Add) (rCatL X.K) := by
  intro pins s σ H x y v u Q I rx ry h
  obtain ⟨l, b, xs, zs, rfl, rfl, hH, hB, hz, q⟩ := h
  cases rx
  cases ry
  obtain ⟨its, r, ⟨⟨c1, d1, t1, s1⟩, n1, e, hc1, hd1, hs1⟩, _⟩ := I.list hH
  obtain ⟨its2, r2, ⟨⟨c2, d2, t2, s2⟩, n2, e2, hc2, hd2, hs2⟩, _⟩ := I.list hB
  simp only at hc1 hd1 hs1 hc2 hd2 hs2
  subst hc1 hs1 hc2 hs2
  have l1 := r.length
  have l2 := r2.length
  have ea : its.toArray ++ its2.toArray = (its ++ its2).toArray := by simp
  refine concat_meets ⟨_, e, rfl⟩ ⟨_, e2, rfl⟩ noFill_list_add seq_list_add PySem.F.slot_list_add PySem.F.entry_list_add (PySem.F.args_list_add_2 _ _) (list_addW l b its.toArray its2.toArray n1 n2 d1 d2 s1 s2 (by rw [List.size_toArray, List.size_toArray]; omega)) ⟨e, e2, ?_⟩
  rw [ea]
  exact ⟨.ref _, _, I.lnew (t' := s.toks) (r.append r2) (by rw [List.length_append]; omega), rfl, q _ I.fresh⟩
theorem od_catL {x y : Dt} {xs ys : List Dt} (h1 : SqLst ω x xs) (h2 : SqLst ω y ys) (hz : xs.length + ys.length ≤ sizeLine) (h : Ψ (.lst (xs ++ ys)) ω) : OD X (binaryOp .Add) x y ω Ψ ε := od_of op_catL fun vx vy P H as Q w ax ay k => by
  obtain ⟨a, us, rfl, ha, ra⟩ := sqRL w h1 ax
  obtain ⟨b, vs, rfl, hb, rb⟩ := sqRL w h2 ay
  refine ⟨a, b, us, vs, rfl, rfl, ha, hb, by rw [ra.length, rb.length]; exact hz, fun p hp => ?_⟩
  obtain ⟨w2, g2⟩ := w.newP (o := .lst (us ++ vs)) hp
  exact k _ _ ω _ _ as w2 g2 (.lst (.of upd_same) ((ra.append rb).mono g2.p g2.a)) h
theorem app_get {n : Nat} {o u : Ow} (h : ω[n]? = some o) : (ω ++ [u])[n]? = some o := by
  rw [List.getElem?_append_left (List.getElem?_eq_some_iff.mp h).1]; exact h
theorem tyD_app {K : Fg} {d : Dt} {t : Value} {u : Ow} (h : TyD K ω d t) : TyD K (ω ++ [u]) d t := by
  cases h with
  | non => exact .non
  | bl x => exact .bl x
  | int x => exact .int x
  | str x => exact .str x
  | tup x => exact .tup x
  | lst x => exact .lst x
  | ownL hn => exact .ownL (app_get hn)
  | obj i => exact .obj i
  | ownI i hn => exact .ownI i (app_get hn)
theorem kn_app {K : Fg} {d : Dt} {u : Ow} (h : Kn K ω d) : Kn K (ω ++ [u]) d := by
  obtain ⟨⟨t, h1, h2⟩, h3⟩ := h
  exact ⟨⟨t, tyD_app h1, h2⟩, h3⟩
theorem exm_cls {K : Fg} {C D : Addr} {b : Bool} (h0 : PySem.W.subIn K (.ref D) (.type "BaseException") = some true) (h1 : PySem.W.isClsIn K D = true) (h2 : PySem.W.typeIn K (.ref D) = some (.type "type")) (h3 : PySem.W.subIn K (.ref C) (.ref D) = some b) : PySem.W.exmOne K (.ref C) (.ref D) = some b := by
  have h1' : (PySem.W.clsIn K D).isSome = true := h1
  have e : ((PySem.W.clsIn K D).isSome && PySem.W.typeIn K (.ref D) == some (.type "type")) = true := by rw [h1', h2]; rfl
  unfold PySem.W.exmOne
  rw [h0, if_pos (by decide)]
  show (if ((PySem.W.clsIn K D).isSome && PySem.W.typeIn K (.ref D) == some (.type "type")) = true then PySem.W.subIn K (.ref C) (.ref D) else none) = some b
  rw [if_pos e]; exact h3
theorem kit_rty {K : Fg} {C : Addr} {n : String} {b : Bool} (h : PySem.W.subIn K (.ref C) (.type n) = some b) (hm : PySem.W.kitMeta n = true := by decide +kernel) : PySem.W.kitOne K (.ref C) (.type n) = some b := by
  show (if PySem.W.kitMeta n = true then PySem.W.subIn K (.ref C) (.type n) else none) = some b
  rw [if_pos hm]; exact h
theorem kit_names {K : Fg} {C : Addr} (h1 : PySem.W.subIn K (.ref C) (.type "str") = some false) (h2 : PySem.W.subIn K (.ref C) (.type "int") = some false) (h3 : PySem.W.subIn K (.ref C) (.type "bool") = some false) (h4 : PySem.W.subIn K (.ref C) (.type "list") = some false) (h5 : PySem.W.subIn K (.ref C) (.type "tuple") = some false) : ∀ n ∈ tyNames, PySem.W.kitOne K (.ref C) (.type n) = some false := fun n hn => by
  unfold tyNames at hn
  simp only [List.mem_cons, List.not_mem_nil, or_false] at hn
  rcases hn with rfl | rfl | rfl | rfl | rfl
  · exact kit_rty h1
  · exact kit_rty h2
  · exact kit_rty h3
  · exact kit_rty h4
  · exact kit_rty h5
/-- equal just if both are none or the same text -/
def oD : Option Str → Dt
  | none => .non
  | some x => .str x
def oP : Option Str → PyData
  | none => .none
  | some x => .str x
theorem py_o : ∀ o : Option Str, Py ω (oD o) (oP o)
  | none => .non
  | some x => .str x
theorem nice_o {n m : Nat} : ∀ {o : Option Str}, (∀ x, o = some x → Asc x ∧ x.length ≤ m) → Nice n m (oP o)
  | none, _ => .non
  | some x, h => .str (h x rfl).1 (h x rfl).2
theorem flat_o : ∀ o : Option Str, flatD (oD o) = true
  | none => rfl
  | some _ => rfl
end
end NM
namespace NM
open PySem L2 TL PySem.Spec PyProof.Rows
theorem spl_ne (S : List Nat) : ∀ (l : List Nat) (k : Nat) (acc : List Nat), spl S k acc l ≠ []
  | [], k, acc => by rw [spl_nil]; simp
  | c :: r, 0, acc => by
    unfold spl
    split
    · simp
    · exact spl_ne S r 0 _
  | c :: r, k + 1, acc => by unfold spl; exact spl_ne S r k acc
theorem joinL_cons {S a : List Nat} : ∀ {l : List (List Nat)}, l ≠ [] → joinL S (a :: l) = a ++ (S ++ joinL S l)
  | [], h => absurd rfl h
  | _ :: _, _ => rfl
theorem join_spl {S : List Nat} (hS : S ≠ []) : ∀ (l : List Nat) (k : Nat) (acc : List Nat), joinL S (spl S k acc l) = acc ++ l.drop k
  | [], k, acc => by rw [spl_nil]; simp [joinL]
  | c :: r, 0, acc => by
    unfold spl
    split
    · rename_i h
      rw [joinL_cons (spl_ne S r _ _), join_spl hS r]
      have h1 : (c :: r).take S.length = S := by unfold pre at h; exact eq_of_beq h
      have h2 := List.take_append_drop S.length (c :: r)
      rw [h1] at h2
      obtain ⟨n, hn⟩ : ∃ n, S.length = n + 1 := ⟨S.length - 1, by
        have : S.length ≠ 0 := fun e => hS (List.length_eq_zero_iff.mp e)
        omega⟩
      rw [hn, List.drop_succ_cons] at h2
      rw [hn, Nat.add_sub_cancel, List.nil_append, h2]; rfl
    · rw [join_spl hS r]; simp
  | c :: r, k + 1, acc => by unfold spl; rw [join_spl hS r k acc, List.drop_succ_cons]
theorem spl_len (S : List Nat) : ∀ (l : List Nat) (k : Nat) (acc : List Nat), (spl S k acc l).length ≤ l.length + 1
  | [], k, acc => by rw [spl_nil]; simp
  | c :: r, 0, acc => by
    unfold spl
    split
    · have := spl_len S r (S.length - 1) []
      simp only [List.length_cons]; omega
    · have := spl_len S r 0 (acc ++ [c])
      simp only [List.length_cons]; omega
  | c :: r, k + 1, acc => by
    unfold spl
    have := spl_len S r k acc
    simp only [List.length_cons]; omega
theorem tl_length (x : Str) : (tl x).length = x.length := by unfold tl; simp [Str.length]
section
variable {x y : Str}
theorem join_split (hy : tl y ≠ []) (hc : y.cps.all (· < 256) = true) : Txt.join y (Txt.split x y) = x := by
  refine ext_tl ?_
  rw [join_eq, tl_join, split_spl x y hy (kind_ok hc), join_spl hy]; simp
theorem split_ne (hy : tl y ≠ []) (hc : y.cps.all (· < 256) = true) : Txt.split x y ≠ [] := fun e => by
  have h := split_spl x y hy (kind_ok hc)
  rw [e] at h
  exact spl_ne _ _ _ _ h.symm
theorem split_len (hy : tl y ≠ []) (hc : y.cps.all (· < 256) = true) : (Txt.split x y).length ≤ x.length + 1 := by
  have h := congrArg List.length (split_spl x y hy (kind_ok hc))
  rw [List.length_map] at h
  have h2 := spl_len (tl y) (tl x) 0 []
  rw [tl_length] at h2
  omega
end
theorem joinL_mem_len {S a : List Nat} : ∀ {l : List (List Nat)}, a ∈ l → a.length ≤ (joinL S l).length
  | [b], h => by rw [List.mem_singleton.mp h]; exact Nat.le_refl _
  | b :: c :: r, h => by
    rw [joinL_cons (by simp)]
    simp only [List.length_append]
    rcases List.mem_cons.mp h with rfl | h
    · omega
    · have := joinL_mem_len (S := S) h
      omega
theorem split_mem_len {x y z : Str} (hy : tl y ≠ []) (hc : y.cps.all (· < 256) = true) (h : z ∈ Txt.split x y) : z.length ≤ x.length := by
  have h1 := join_split (x := x) hy hc
  have h2 := congrArg tl h1
  rw [join_eq, tl_join] at h2
  have h3 := joinL_mem_len (S := tl y) (List.mem_map.mpr ⟨z, h, rfl⟩ : tl z ∈ (Txt.split x y).map tl)
  rw [h2, tl_length, tl_length] at h3
  exact h3
theorem FnP.of2 {P : Program} {w : World} {K : Fg} {mg : Str → Option Value} {base : Heap} {k : Nat} {f : Addr} {fd : FuncData} {ps : List Str} {sp sp1 sp2 : DSp} (F1 : FnP P w K mg base k f fd ps sp1) (F2 : FnP P w K mg base k f fd ps sp2) (h : ∀ dd ω Ψ ε, sp dd ω Ψ ε → sp1 dd ω Ψ ε ∨ sp2 dd ω Ψ ε) : FnP P w K mg base k f fd ps sp := by
  have two : ∀ vs H Q E, lift K sp vs H Q E → lift K sp1 vs H Q E ∨ lift K sp2 vs H Q E := fun vs H Q E z => by
    obtain ⟨ds, ω, P0, as, Ψ, ε, h1, h2, h3, h4, h5⟩ := z
    rcases h ds ω Ψ ε h3 with q | q
    · exact .inl ⟨ds, ω, P0, as, Ψ, ε, h1, h2, q, h4, h5⟩
    · exact .inr ⟨ds, ω, P0, as, Ψ, ε, h1, h2, q, h4, h5⟩
  refine ⟨⟨fun vs H Q E z => ?_, fun A outer s H args us vs Q E hr e0 hb r z => ?_⟩, F1.kp⟩
  · rcases two vs H Q E z with q | q
    · exact F1.ok.len vs H Q E q
    · exact F2.ok.len vs H Q E q
  · rcases two vs H Q E z with q | q
    · exact F1.ok.run A outer s H args us vs Q E hr e0 hb r q
    · exact F2.ok.run A outer s H args us vs Q E hr e0 hb r q
end NM
namespace NM
open PySem L2 PySem.Spec PyProof.Rows
section
variable {X : Cx} {ρ : Rho} {ω : Om} {Ψ : PsiE} {ε : PsiX} {Φ : Post} {e c : Expr} {pos : Pos}
theorem es_while {body : List Stmt} (ok : Cok X) (W : Nat → Rho → Om → Prop) (h0 : ∃ m, W m ρ ω)
    (turn : ∀ m ρ' ω', W m ρ' ω' → ET X ρ' ω' c (fun k ω1 => if k = true then ESs X ρ' ω1 body { Φ with nx := fun ρ2 ω2 => ∃ m', m' < m ∧ W m' ρ2 ω2, ct := fun ρ2 ω2 => ∃ m', m' < m ∧ W m' ρ2 ω2, bk := Φ.nx } else Φ.nx ρ' ω1) (fun y ω' => Φ.xc y ρ' ω')) : ES X ρ ω (.While c body [] pos) Φ := fun σ P H as D w en z => by
  refine sS_of (ps_while ok.pass pT pSs) ?_
  obtain ⟨m0, hm0⟩ := h0
  refine ⟨fun m σ' H' => ∃ ρ' ω' P' as', Ws X.K ω' P' H' as' ∧ Gr P H as P' H' as' ∧ Env X.K P' as' σ' ρ' ∧ W m ρ' ω', ⟨m0, ρ, ω, P, as, w, .refl, en, hm0⟩, ?_⟩
  rintro m σ' H' ⟨ρ', ω', P', as', w', g', en', hi⟩
  have z' := z.later g'
  refine turn m ρ' ω' hi σ' P' H' as' _ w' en' (z'.xk en') fun k ω1 P1 H1 as1 w1 g1 pp => ?_
  cases k with
  | false =>
    have pp' : Φ.nx ρ' ω1 := by simpa using pp
    exact iteF (z'.nx σ' ρ' ω1 P1 H1 as1 w1 g1 (en'.mono g1.p g1.a) pp')
  | true =>
    have pp' : ESs X ρ' ω1 body { Φ with nx := fun ρ2 ω2 => ∃ m', m' < m ∧ W m' ρ2 ω2, ct := fun ρ2 ω2 => ∃ m', m' < m ∧ W m' ρ2 ω2, bk := Φ.nx } := by simpa using pp
    have g01 := g'.trans g1
    refine iteT ⟨fun σ2 H2 => ∃ m', m' < m ∧ ∃ ρ2 ω2 P2 as2, Ws X.K ω2 P2 H2 as2 ∧ Gr P H as P2 H2 as2 ∧ Env X.K P2 as2 σ2 ρ2 ∧ W m' ρ2 ω2, fun σ2 H2 q => q, ?_⟩
    refine pp' σ' P1 H1 as1 _ w1 (en'.mono g1.p g1.a) ?_
    obtain ⟨zn, zr, zb, zc, Wx, tk, zx⟩ := z
    refine ⟨fun σ4 ρ4 ω4 P4 H4 as4 w4 g4 en4 i4 => ?_, fun v d ω4 P4 H4 as4 w4 g4 a4 r4 => zr v d ω4 P4 H4 as4 w4 (g01.trans g4) a4 r4, fun σ4 ρ4 ω4 P4 H4 as4 w4 g4 en4 i4 => zn σ4 ρ4 ω4 P4 H4 as4 w4 (g01.trans g4) en4 i4, fun σ4 ρ4 ω4 P4 H4 as4 w4 g4 en4 i4 => ?_,
      Wx, tk, fun cls dx x σ4 ρ4 ω4 P4 H4 as4 w4 g4 en4 a4 e4 => zx cls dx x σ4 ρ4 ω4 P4 H4 as4 w4 (g01.trans g4) en4 (a4.back g01 g4.a) e4⟩
    · obtain ⟨m', hl, hw⟩ := i4
      exact ⟨m', hl, ρ4, ω4, P4, as4, w4, g01.trans g4, en4, hw⟩
    · obtain ⟨m', hl, hw⟩ := i4
      exact ⟨m', hl, ρ4, ω4, P4, as4, w4, g01.trans g4, en4, hw⟩
/-- e[::-1] -/
theorem ev_back {k : Nat} {p1 p2 p3 : Pos} (h : EV X ρ ω e (fun d ω1 => ∃ ds, SqLst ω1 d ds ∧ Ψ (.lst ds.reverse) ω1) ε) : EV X ρ ω (.Subscript e (.Slice none none (some (.UnaryOp .USub (.Constant (.int 1) k p1) p2)) p3) pos) Ψ ε := fun σ P H as Q w en xk q => by
  refine sE_of (pe_revL pE) (h σ P H as _ w en xk fun v d ω1 P1 H1 as1 w1 g1 a1 p => ?_)
  obtain ⟨ds, s, p⟩ := p
  obtain ⟨a, xs, rfl, hs, r⟩ := sqRL w1 s a1
  refine ⟨a, xs, rfl, hs, fun z hz => ?_⟩
  obtain ⟨w2, g2⟩ := w1.newP (o := .lst xs.reverse) hz
  exact q _ _ ω1 _ _ as1 w2 (g1.trans g2) (.lst (.of upd_same) ((atLRev r).mono g2.p g2.a)) p
theorem md_count {a b : Str} (h : Ψ (.int (Txt.count a b)) ω) : MD X "str.count" (.str a) [.str b] ω Ψ := ⟨_, mt_count, fun vx vs P H as Q w ax al k => by
  obtain ⟨v, rfl, av⟩ := one_of al
  cases ax; cases av
  exact ⟨a, b, rfl, rfl, k _ _ ω P H as w .refl (.int _) h⟩⟩
end
end NM
namespace NM
open PySem L2 TL
def oneTest : List Str → Option (List Str)
  | [] => none
  | w :: r => if w = "not" then (match r with | [] => none | v :: q => if v ∈ baseT then some q else none) else if w ∈ baseT then some r else none
def mTests : Nat → List Str → Option (List Str)
  | 0, l => some l
  | n + 1, l => if l.head? = some ("and" : Str) then (match oneTest l.tail with | none => none | some r => mTests n r) else some l
def mDeeds : Nat → List Str → Option (List Str)
  | 0, _ => none
  | n + 1, l => match l.tail with
    | [] => none
    | d :: r => if d ∈ deeds6 then (if r.head? = some ("then" : Str) then mDeeds n r else some r) else none
def endB : List Str → Bool
  | [a, t] => decide (a = "to") && nameOk t
  | _ => false
def partT (n : Nat) (r : List Str) : Option (List Str) := if r.head? = some ("if" : Str) then (match oneTest r.tail with | none => none | some q => mTests n q) else some r
def partD (n : Nat) (r : List Str) : Option (List Str) := if r.head? = some ("do" : Str) then mDeeds n r else some r
def readB (n : Nat) (ws : List Str) : Bool := match ws with
  | [] => false
  | s :: r => nameOk s && (match partT n r with | none => false | some q => match partD n q with | none => false | some z => endB z)
theorem tw_form : ∀ t ∈ tests10, (∃ b ∈ baseT, tw t = [b]) ∨ (∃ b ∈ baseT, tw t = (["not", b] : List Str)) := by decide +kernel
theorem tw_base : ∀ b ∈ baseT, b ∈ tests10 ∧ tw b = [b] := by decide +kernel
theorem tw_not : ∀ b ∈ baseT, ∃ t ∈ tests10, tw t = (["not", b] : List Str) := by decide +kernel
theorem not_base : ∀ b ∈ baseT, b ≠ "not" := by decide +kernel
theorem oneTest_ok {l r : List Str} (h : oneTest l = some r) : ∃ t ∈ tests10, l = tw t ++ r := by
  rcases l with _ | ⟨w, l⟩
  · cases h
  · by_cases e : w = "not"
    · rcases l with _ | ⟨v, q⟩
      · have h : (if w = "not" then none else _) = some r := h
        rw [if_pos e] at h; cases h
      · have h : (if w = "not" then (if v ∈ baseT then some q else none) else _) = some r := h
        rw [if_pos e] at h
        by_cases hv : v ∈ baseT
        · rw [if_pos hv] at h
          cases h
          obtain ⟨t, ht, e2⟩ := tw_not v hv
          exact ⟨t, ht, by rw [e2, e]; rfl⟩
        · rw [if_neg hv] at h; cases h
    · have h : (if w = "not" then _ else if w ∈ baseT then some l else none) = some r := h
      rw [if_neg e] at h
      by_cases hv : w ∈ baseT
      · rw [if_pos hv] at h
        cases h
        obtain ⟨h1, h2⟩ := tw_base w hv
        exact ⟨w, h1, by rw [h2]; rfl⟩
      · rw [if_neg hv] at h; cases h
theorem oneTest_of {t : Str} (ht : t ∈ tests10) (r : List Str) : oneTest (tw t ++ r) = some r := by
  rcases tw_form t ht with ⟨b, hb, e⟩ | ⟨b, hb, e⟩
  · rw [e]
    show (if b = "not" then _ else if b ∈ baseT then some r else none) = some r
    rw [if_neg (not_base b hb), if_pos hb]
  · rw [e]
    show (if ("not" : Str) = "not" then (if b ∈ baseT then some r else none) else (if ("not" : Str) ∈ baseT then some (b :: r) else none)) = some r
    rw [if_pos rfl, if_pos hb]
theorem segs_chain (k : Str) (a : List Str) : ∀ l : List (List Str), segs k (a :: l) = a ++ l.flatMap (fun b => k :: b)
  | [] => by simp [segs]
  | b :: l => by
    have e : segs k (a :: b :: l) = a ++ k :: segs k (b :: l) := rfl
    rw [e, segs_chain k b l]
    simp
theorem mTests_ok : ∀ {n : Nat} {l r : List Str}, mTests n l = some r → ∃ ts : List Str, (∀ t ∈ ts, t ∈ tests10) ∧ l = ts.flatMap (fun t => ("and" : Str) :: tw t) ++ r
  | 0, l, r, h => ⟨[], by simp, by cases h; rfl⟩
  | n + 1, l, r, h => by
    unfold mTests at h
    split at h
    · rename_i e
      rcases l with _ | ⟨a, l⟩
      · cases e
      · have ea : a = "and" := by simpa using e
        simp only [List.tail_cons] at h
        cases h1 : oneTest l with
        | none => rw [h1] at h; cases h
        | some q =>
          rw [h1] at h
          obtain ⟨t, ht, e2⟩ := oneTest_ok h1
          obtain ⟨ts, hts, e3⟩ := mTests_ok h
          refine ⟨t :: ts, fun x hx => ?_, ?_⟩
          · rcases List.mem_cons.mp hx with rfl | hx
            · exact ht
            · exact hts x hx
          · rw [ea, e2, e3]; simp
    · cases h
      exact ⟨[], by simp, rfl⟩
theorem mTests_of : ∀ {n : Nat} {ts : List Str} {r : List Str}, r.head? ≠ some ("and" : Str) → ts.length ≤ n → (∀ t ∈ ts, t ∈ tests10) → mTests n (ts.flatMap (fun t => ("and" : Str) :: tw t) ++ r) = some r
  | 0, ts, r, hr, hn, h => by
    have e : ts = [] := List.length_eq_zero_iff.mp (by omega)
    subst e; rfl
  | n + 1, [], r, hr, hn, h => by
    show mTests (n + 1) r = some r
    unfold mTests
    rw [if_neg hr]
  | n + 1, t :: ts, r, hr, hn, h => by
    have e : (t :: ts).flatMap (fun t => ("and" : Str) :: tw t) ++ r = ("and" : Str) :: (tw t ++ (ts.flatMap (fun t => ("and" : Str) :: tw t) ++ r)) := by simp
    rw [e]
    unfold mTests
    rw [if_pos (by rfl), List.tail_cons, oneTest_of (h t (by simp))]
    exact mTests_of hr (by simp only [List.length_cons] at hn; omega) fun x hx => h x (List.mem_cons_of_mem _ hx)
theorem mDeeds_ok : ∀ {n : Nat} {l r : List Str}, mDeeds n l = some r → ∃ (h d0 : Str) (ds : List Str), (∀ d ∈ d0 :: ds, d ∈ deeds6) ∧ l = h :: d0 :: (ds.flatMap (fun d => (["then", d] : List Str)) ++ r)
  | 0, l, r, h => by cases h
  | n + 1, l, r, h => by
    unfold mDeeds at h
    rcases l with _ | ⟨a, _ | ⟨d, l⟩⟩
    · cases h
    · cases h
    · simp only [List.tail_cons] at h
      split at h
      · rename_i hd
        split at h
        · rename_i e
          obtain ⟨b, d1, ds, hds, e2⟩ := mDeeds_ok h
          rw [e2] at e
          have eb : b = "then" := by simpa using e
          refine ⟨a, d, d1 :: ds, fun x hx => ?_, ?_⟩
          · rcases List.mem_cons.mp hx with rfl | hx
            · exact hd
            · exact hds x hx
          · rw [e2, eb]; simp
        · cases h
          exact ⟨a, d, [], fun x hx => by rw [List.mem_singleton.mp hx]; exact hd, rfl⟩
      · cases h
theorem mDeeds_of : ∀ {n : Nat} {a d : Str} {ds : List Str} {r : List Str}, r.head? ≠ some ("then" : Str) → ds.length < n → (∀ x ∈ d :: ds, x ∈ deeds6) → mDeeds n (a :: d :: (ds.flatMap (fun d => (["then", d] : List Str)) ++ r)) = some r
  | 0, a, d, ds, r, hr, hn, h => by omega
  | n + 1, a, d, [], r, hr, hn, h => by
    unfold mDeeds
    show (if d ∈ deeds6 then (if r.head? = some ("then" : Str) then mDeeds n r else some r) else none) = some r
    rw [if_pos (h d (by simp)), if_neg hr]
  | n + 1, a, d, d1 :: ds, r, hr, hn, h => by
    unfold mDeeds
    show (if d ∈ deeds6 then (if (some ("then" : Str)) = some ("then" : Str) then mDeeds n (("then" : Str) :: d1 :: (ds.flatMap (fun d => (["then", d] : List Str)) ++ r)) else some (("then" : Str) :: d1 :: (ds.flatMap (fun d => (["then", d] : List Str)) ++ r))) else none) = some r
    rw [if_pos (h d (by simp)), if_pos rfl]
    exact mDeeds_of hr (by simp only [List.length_cons] at hn; omega) fun x hx => h x (List.mem_cons_of_mem _ hx)
theorem tw_len : ∀ t ∈ tests10, 1 ≤ (tw t).length := by decide +kernel
theorem chain_len {ts : List Str} (h : ∀ t ∈ ts, t ∈ tests10) : ts.length ≤ (ts.flatMap (fun t => ("and" : Str) :: tw t)).length := by
  induction ts with
  | nil => simp
  | cons t ts ih =>
    have := ih fun x hx => h x (List.mem_cons_of_mem _ hx)
    simp only [List.flatMap_cons, List.length_append, List.length_cons]
    omega
theorem dchain_len (ds : List Str) : ds.length ≤ (ds.flatMap (fun d => (["then", d] : List Str))).length := by
  induction ds with
  | nil => simp
  | cons t ts ih =>
    simp only [List.flatMap_cons, List.length_append, List.length_cons]
    omega
theorem wT1_cons (t : Str) (ts : List Str) : wT1 (t :: ts) = ("if" : Str) :: (tw t ++ ts.flatMap (fun t => ("and" : Str) :: tw t)) := by
  unfold wT1
  rw [if_neg (by simp), List.map_cons, segs_chain, List.flatMap_map]
theorem wD1_cons (t : Str) (ts : List Str) : wD1 (t :: ts) = ("do" : Str) :: t :: ts.flatMap (fun d => (["then", d] : List Str)) := by
  unfold wD1
  rw [if_neg (by simp), List.map_cons, segs_chain, List.flatMap_map]; rfl
theorem partT_ok {n : Nat} {l r : List Str} (h : partT n l = some r) : ∃ ts, (∀ t ∈ ts, t ∈ tests10) ∧ l = wT1 ts ++ r ∧ ts.length ≤ l.length := by
  unfold partT at h
  split at h
  · rename_i e
    rcases l with _ | ⟨a, l⟩
    · cases e
    · have ea : a = "if" := by simpa using e
      simp only [List.tail_cons] at h
      cases h1 : oneTest l with
      | none => rw [h1] at h; cases h
      | some q =>
        rw [h1] at h
        obtain ⟨t, ht, e2⟩ := oneTest_ok h1
        obtain ⟨ts, hts, e3⟩ := mTests_ok h
        have hl := chain_len hts
        have hl2 := tw_len t ht
        refine ⟨t :: ts, fun x hx => ?_, ?_, ?_⟩
        · rcases List.mem_cons.mp hx with rfl | hx
          · exact ht
          · exact hts x hx
        · rw [wT1_cons, ea, e2, e3]; simp
        · rw [e2, e3]
          simp only [List.length_cons, List.length_append]
          omega
  · cases h
    exact ⟨[], by simp, rfl, by simp⟩
theorem partD_ok {n : Nat} {l r : List Str} (h : partD n l = some r) : ∃ ds, (∀ t ∈ ds, t ∈ deeds6) ∧ l = wD1 ds ++ r ∧ ds.length ≤ l.length := by
  unfold partD at h
  split at h
  · rename_i e
    obtain ⟨a, d, ds, hds, e2⟩ := mDeeds_ok h
    rw [e2] at e
    have ea : a = "do" := by simpa using e
    have hl := dchain_len ds
    refine ⟨d :: ds, hds, by rw [wD1_cons, e2, ea]; simp, ?_⟩
    rw [e2]
    simp only [List.length_cons, List.length_append]
    omega
  · cases h
    exact ⟨[], by simp, rfl, by simp⟩
theorem partT_of {n : Nat} {ts r : List Str} (hr : r.head? ≠ some ("and" : Str)) (hr2 : r.head? ≠ some ("if" : Str)) (hn : ts.length ≤ n) (h : ∀ t ∈ ts, t ∈ tests10) : partT n (wT1 ts ++ r) = some r := by
  rcases ts with _ | ⟨t, ts⟩
  · show partT n r = some r
    unfold partT
    rw [if_neg hr2]
  · rw [wT1_cons]
    unfold partT
    rw [if_pos (by rfl)]
    show (match oneTest (tw t ++ ts.flatMap (fun t => ("and" : Str) :: tw t) ++ r) with | none => none | some q => mTests n q) = some r
    rw [List.append_assoc, oneTest_of (h t (by simp))]
    exact mTests_of hr (by simp only [List.length_cons] at hn; omega) fun x hx => h x (List.mem_cons_of_mem _ hx)
theorem partD_of {n : Nat} {ds r : List Str} (hr : r.head? ≠ some ("then" : Str)) (hr2 : r.head? ≠ some ("do" : Str)) (hn : ds.length ≤ n) (h : ∀ t ∈ ds, t ∈ deeds6) : partD n (wD1 ds ++ r) = some r := by
  rcases ds with _ | ⟨t, ts⟩
  · show partD n r = some r
    unfold partD
    rw [if_neg hr2]
  · rw [wD1_cons]
    unfold partD
    rw [if_pos (by rfl)]
    exact mDeeds_of hr (by simp only [List.length_cons] at hn; omega) h
theorem endB_ok {l : List Str} (h : endB l = true) : ∃ t, l = (["to", t] : List Str) ∧ nameOk t = true := by
  rcases l with _ | ⟨a, _ | ⟨t, _ | ⟨b, l⟩⟩⟩
  · cases h
  · cases h
  · have h : (decide (a = "to") && nameOk t) = true := h
    rw [Bool.and_eq_true, decide_eq_true_eq] at h
    exact ⟨t, by rw [h.1], h.2⟩
  · cases h
theorem read_ok {n : Nat} {ws : List Str} (hl : ws.length ≤ 1000) (h : readB n ws = true) : ∃ s ts ds t, RuleOk s ts ds t ∧ ws = rWords s ts ds t := by
  rcases ws with _ | ⟨s, r⟩
  · cases h
  · have h : (nameOk s && (match partT n r with | none => false | some q => match partD n q with | none => false | some z => endB z)) = true := h
    rw [Bool.and_eq_true] at h
    obtain ⟨h1, h⟩ := h
    cases hT : partT n r with
    | none => rw [hT] at h; cases h
    | some q =>
      rw [hT] at h
      simp only at h
      cases hD : partD n q with
      | none => rw [hD] at h; cases h
      | some z =>
        rw [hD] at h
        simp only at h
        obtain ⟨ts, hts, e1, l1⟩ := partT_ok hT
        obtain ⟨ds, hds, e2, l2⟩ := partD_ok hD
        obtain ⟨t, e3, h4⟩ := endB_ok h
        simp only [List.length_cons] at hl
        have l3 : q.length ≤ r.length := by rw [e1, List.length_append]; omega
        refine ⟨s, ts, ds, t, ⟨h1, hts, hds, h4, by omega, by omega⟩, ?_⟩
        unfold rWords
        rw [e1, e2, e3]; simp
theorem wD1_head {ds : List Str} {t : Str} : (wD1 ds ++ (["to", t] : List Str)).head? = some ("do" : Str) ∨ (wD1 ds ++ (["to", t] : List Str)).head? = some ("to" : Str) := by
  rcases ds with _ | ⟨d, ds⟩
  · exact .inr rfl
  · rw [wD1_cons]; exact .inl rfl
theorem read_of {n : Nat} {s t : Str} {ts ds : List Str} (R : RuleOk s ts ds t) (hn : (rWords s ts ds t).length ≤ n) : readB n (rWords s ts ds t) = true := by
  have hw : rWords s ts ds t = s :: (wT1 ts ++ (wD1 ds ++ (["to", t] : List Str))) := by unfold rWords; simp
  have l1 : ts.length ≤ (wT1 ts).length := by
    rcases ts with _ | ⟨a, ts⟩
    · simp
    · rw [wT1_cons]
      have := chain_len fun x hx => R.hts x (List.mem_cons_of_mem _ hx)
      simp only [List.length_cons, List.length_append]; omega
  have l2 : ds.length ≤ (wD1 ds).length := by
    rcases ds with _ | ⟨a, ds⟩
    · simp
    · rw [wD1_cons]
      have := dchain_len ds
      simp only [List.length_cons]; omega
  rw [hw] at hn ⊢
  simp only [List.length_cons, List.length_append] at hn
  have e1 : partT n (wT1 ts ++ (wD1 ds ++ (["to", t] : List Str))) = some (wD1 ds ++ (["to", t] : List Str)) := by
    refine partT_of (fun e => ?_) (fun e => ?_) (by omega) R.hts
    · rcases wD1_head (ds := ds) (t := t) with q | q <;> rw [q] at e <;> exact absurd e (by decide +kernel)
    · rcases wD1_head (ds := ds) (t := t) with q | q <;> rw [q] at e <;> exact absurd e (by decide +kernel)
  have e2 : partD n (wD1 ds ++ (["to", t] : List Str)) = some (["to", t] : List Str) := partD_of (fun e => absurd (show some ("to" : Str) = some ("then" : Str) from e) (by decide +kernel)) (fun e => absurd (show some ("to" : Str) = some ("do" : Str) from e) (by decide +kernel)) (by omega) R.hds
  show (nameOk s && (match partT n (wT1 ts ++ (wD1 ds ++ (["to", t] : List Str))) with | none => false | some q => match partD n q with | none => false | some z => endB z)) = true
  rw [R.hs, e1]
  simp only [e2]
  show (true && (decide (("to" : Str) = "to") && nameOk t)) = true
  rw [R.ht]; rfl
theorem rWords_wd {s t : Str} {ts ds : List Str} (R : RuleOk s ts ds t) : ∀ x ∈ rWords s ts ds t, Wd x := fun x hx => by
  unfold rWords at hx
  rcases List.mem_append.mp hx with q | q
  · rcases List.mem_cons.mp q with rfl | q
    · exact (name_wd R.hs).1
    · rcases List.mem_append.mp q with q | q
      · exact (wT1_mem R.hts q).1
      · exact (wD1_mem R.hds q).1
  · rcases List.mem_cons.mp q with rfl | q
    · exact wd_keys _ (by decide)
    · rw [List.mem_singleton.mp q]; exact (name_wd R.ht).1
theorem split_W {ws : List Str} (h : ws ≠ []) (hw : ∀ x ∈ ws, Wd x) : Txt.split (W ws) " " = ws := by
  have e := split_join (y := " ") (s := 32) (S := []) (by rfl) (by decide +kernel) h hw
  rw [join_eq] at e
  exact e
theorem W_split (x : Str) : W (Txt.split x " ") = x := by
  have e := join_split (x := x) (y := " ") (by decide +kernel) (by decide +kernel)
  rw [join_eq] at e
  exact e
/-- read just if the reader reads the words -/
theorem text_read {n : Nat} {x : Str} (hl : (Txt.split x " ").length ≤ 1000) (hn : (Txt.split x " ").length ≤ n) (h : readB n (Txt.split x " ") = true) : ∃ s ts ds t, RuleOk s ts ds t ∧ x = rText s ts ds t := by
  obtain ⟨s, ts, ds, t, R, e⟩ := read_ok hl h
  refine ⟨s, ts, ds, t, R, ?_⟩
  have := W_split x
  rw [e] at this
  exact this.symm
theorem text_none {n : Nat} {x : Str} (hn : (Txt.split x " ").length ≤ n) (h : readB n (Txt.split x " ") = false) : ∀ s ts ds t, RuleOk s ts ds t → x ≠ rText s ts ds t := fun s ts ds t R e => by
  subst e
  have e2 : Txt.split (rText s ts ds t) " " = rWords s ts ds t := split_W (by unfold rWords; simp) (rWords_wd R)
  rw [e2] at h hn
  rw [read_of R hn] at h
  cases h
end NM
namespace NM
open PySem L2 TL
theorem cells_le (n : Nat) : (if (if (n : Int) < 4 then (n : Int) else 4) > 1 then (if (n : Int) < 4 then (n : Int) else 4) else 1) ≤ 1000 := by
  repeat' split
  all_goals omega
theorem set_get {ω : Om} {i j : Nat} {o u : Ow} (h : ω[j]? = some u) (hn : i ≠ j) : (ω.set i o)[j]? = some u := by rw [List.getElem?_set_ne hn]; exact h
theorem et_imp {X : Cx} {ρ : Rho} {ω : Om} {ε : PsiX} {c : Expr} (Ψ : Bool → Om → Prop) {Ψ' : Bool → Om → Prop} (h : ET X ρ ω c Ψ ε) (k : ∀ b ω', Ψ b ω' → Ψ' b ω') : ET X ρ ω c Ψ' ε := fun σ P H as Q w en xk q => h σ P H as Q w en xk fun v ω' P' H' as' w' g' z => q v ω' P' H' as' w' g' (k v ω' z)
theorem cd_listA {X : Cx} {ω : Om} {Ψ : PsiE} {ε : PsiX} {d : Dt} {ds : List Dt} (s : Sq ω d ds) (h : ∀ (m : Nat) (ω' : Om), ω'[m]? = some (.lst ds) → (∀ (i : Nat) o, ω[i]? = some o → i ≠ m ∧ ω'[i]? = some o) → Ψ (.own m) ω') : CD X (.type "list") [d] ω Ψ ε :=
  cd_listO s (h _ _ (get_last _ _) fun i o hi => ⟨Nat.ne_of_lt (List.getElem?_eq_some_iff.mp hi).1, app_get hi⟩)
/-- what is behind a body, held as one thing -/
theorem ess_ab {X : Cx} {ρ : Rho} {ω : Om} {st : List Stmt} {Φ : Post} (h : ∀ Φ1 : Post, (∀ ρ' ω', Φ.nx ρ' ω' → Φ1.nx ρ' ω') → (∀ ρ' ω', Φ.ct ρ' ω' → Φ1.ct ρ' ω') → ESs X ρ ω st Φ1) : ESs X ρ ω st Φ := h Φ (fun _ _ z => z) (fun _ _ z => z)
theorem ltL_app {m : Nat} : ∀ {xs ys : List Dt}, ltL m xs = true → ltL m ys = true → ltL m (xs ++ ys) = true
  | [], _, _, h => h
  | x :: xs, ys, h1, h2 => by
    simp only [ltL, Bool.and_eq_true] at h1
    simp only [List.cons_append, ltL, h1.1, ltL_app h1.2 h2, Bool.and_self]
theorem lts_all {m : Nat} {xs : List Dt} (h : ∀ x ∈ xs, x.lt m = true) : ltL m xs = true := by
  induction xs with
  | nil => rfl
  | cons x xs ih => simp only [ltL, h x (by simp), ih fun y hy => h y (List.mem_cons_of_mem _ hy), Bool.and_self]
theorem gl_ref {K : Fg} {mg : Str → Option Value} {x : Str} {C : Addr} (h : mg x = some (.ref C)) : GlD K mg x (.ref C) := ⟨_, .ref C, h, rfl, fun _ _ => .ref C⟩
theorem givX_int {ε : PsiX} {ω : Om} {c : Value} {f : Str} {i : Int} (hl : OmLt ω.length ω) (h : ε ⟨c, some [(f, .int i)]⟩ ω) : GivX ω.length ε ⟨c, some [(f, .int i)]⟩ ω :=
  ⟨ω.length, ⟨c, some [(f, .int i)]⟩, Nat.le_refl _, by rw [List.take_length]; exact hl, rfl, ⟨rfl, .cons (.int i) .nil⟩, by rw [List.take_length]; exact h⟩
theorem cut_nat (xs : List Dt) (a b : Nat) : cutD xs (some (a : Int)) (some (b : Int)) = (xs.drop a).take (b - a) := by
  unfold cutD
  rw [HT.sIx_nat, HT.sIx_nat]
  by_cases h : a ≤ xs.length
  · rw [Nat.min_eq_left h]
    by_cases h2 : b ≤ xs.length
    · rw [Nat.min_eq_left h2]
    · rw [Nat.min_eq_right (by omega)]
      rw [List.take_of_length_le (by rw [List.length_drop]; omega), List.take_of_length_le (by rw [List.length_drop]; omega)]
  · rw [Nat.min_eq_right (show xs.length ≤ a by omega), List.drop_eq_nil_of_le (Nat.le_refl _), List.drop_eq_nil_of_le (show xs.length ≤ a by omega), List.take_nil, List.take_nil]
theorem cut_from (xs : List Dt) (a : Nat) : cutD xs (some (a : Int)) none = xs.drop a := by
  unfold cutD
  rw [HT.sIx_nat, HT.sIx_none]
  by_cases h : a ≤ xs.length
  · rw [Nat.min_eq_left h, List.take_of_length_le (by rw [List.length_drop]; omega)]
  · rw [Nat.min_eq_right (by omega), List.drop_eq_nil_of_le (Nat.le_refl _), List.drop_eq_nil_of_le (by omega), List.take_nil]
theorem cut_to_n (xs : List Dt) (a : Nat) : cutD xs none (some (a : Int)) = xs.take a := by
  unfold cutD
  rw [HT.sIx_nat, HT.sIx_none, List.drop_zero, Nat.sub_zero]
  by_cases h : a ≤ xs.length
  · rw [Nat.min_eq_left h]
  · rw [Nat.min_eq_right (by omega), List.take_of_length_le (Nat.le_refl _), List.take_of_length_le (by omega)]
theorem eqv_lst (xs ys : List Str) : PyData.eqv (.list (xs.map PyData.str)) (.list (ys.map PyData.str)) = decide (xs = ys) := by
  have := eqv_strs xs ys
  simp only [PyData.eqv]
  exact this
/-- e[a] is k, asked by e[a:a+1] == [k] -/
theorem head1 (ws : List Str) (a : Nat) (k : Str) : decide ((ws.drop a).take 1 = [k]) = decide (ws[a]? = some k) := by
  rw [← List.head?_drop]
  cases ws.drop a with
  | nil => simp
  | cons x xs => simp
theorem od_eqL {X : Cx} {ω : Om} {Ψ : PsiE} {ε : PsiX} {d e : Dt} {xs ys : List Str} (h1 : d = .lst (xs.map Dt.str)) (h2 : e = .lst (ys.map Dt.str)) (hx : ∀ x ∈ xs, Asc x ∧ x.length ≤ 900) (hy : ∀ x ∈ ys, Asc x ∧ x.length ≤ 900) (hu : X.A.units + 64 < cLine) (h : Ψ (.bl (decide (xs = ys))) ω) : OD X (compareOp .Eq) d e ω Ψ ε := by
  subst h1 h2
  exact od_eqN (.lst (py_strs xs)) (.lst (py_strs ys)) (Nice.lst (n := 59) ((nice_strs (b := 900) hx).mono (by decide) (Nat.le_refl _))) (Nice.lst (n := 59) ((nice_strs (b := 900) hy).mono (by decide) (Nat.le_refl _))) hu (by rw [eqv_lst]; exact h)
theorem od_neL {X : Cx} {ω : Om} {Ψ : PsiE} {ε : PsiX} {d e : Dt} {xs ys : List Str} (h1 : d = .lst (xs.map Dt.str)) (h2 : e = .lst (ys.map Dt.str)) (hx : ∀ x ∈ xs, Asc x ∧ x.length ≤ 900) (hy : ∀ x ∈ ys, Asc x ∧ x.length ≤ 900) (hu : X.A.units + 64 < cLine) (h : Ψ (.bl (!decide (xs = ys))) ω) : OD X (compareOp .NotEq) d e ω Ψ ε := by
  subst h1 h2
  exact od_neN (.lst (py_strs xs)) (.lst (py_strs ys)) (Nice.lst (n := 59) ((nice_strs (b := 900) hx).mono (by decide) (Nat.le_refl _))) (Nice.lst (n := 59) ((nice_strs (b := 900) hy).mono (by decide) (Nat.le_refl _))) hu (by rw [eqv_lst]; exact h)
theorem joinL_mem {S a : List Nat} {c : Nat} : ∀ {l : List (List Nat)}, a ∈ l → c ∈ a → c ∈ joinL S l
  | [], h, _ => nomatch h
  | b :: l, h, hc => by
    by_cases hl : l = []
    · subst hl
      have := List.mem_singleton.mp h
      subst this
      simpa [joinL] using hc
    · rw [joinL_cons hl]
      rcases List.mem_cons.mp h with rfl | h
      · exact List.mem_append_left _ hc
      · exact List.mem_append_right _ (List.mem_append_right _ (joinL_mem h hc))
theorem split_asc {x y z : Str} (hy : tl y ≠ []) (hc : y.cps.all (· < 256) = true) (h : z ∈ Txt.split x y) (ha : Asc x) : Asc z := fun c hcz => by
  have J := join_split (x := x) hy hc
  refine ha c ?_
  have e : x.cps.toList = tl x := rfl
  rw [e, ← J, TL.join_eq]
  have t := tl_join y (Txt.split x y)
  rw [t]
  exact joinL_mem (List.mem_map.mpr ⟨z, h, rfl⟩) hcz
theorem asc_W {ws : List Str} (h : ∀ w ∈ ws, Asc w) : Asc (W ws) := fun c hc => by
  have hc : c ∈ tl (W ws) := hc
  rw [tl_W] at hc
  rcases jw_mem hc with rfl | ⟨w, hw, hcw⟩
  · decide
  · obtain ⟨x, hx, rfl⟩ := List.mem_map.mp hw
    exact h x hx c hcw
theorem rText_asc {s t : Str} {ts ds : List Str} (R : RuleOk s ts ds t) : Asc (rText s ts ds t) := fun c hc => by
  rcases rText_codes R c hc with rfl | h
  · decide
  · have : ∀ c ∈ letters.cps.toList, c < 128 := by decide +kernel
    exact this c h
def sz (ws : List Str) : Nat := (ws.map fun w => w.length + 1).sum
theorem sz_app (a b : List Str) : sz (a ++ b) = sz a + sz b := by unfold sz; rw [List.map_append, List.sum_append]
theorem sz_cons (a : Str) (b : List Str) : sz (a :: b) = a.length + 1 + sz b := by unfold sz; rw [List.map_cons, List.sum_cons]
theorem sz_cut (ws : List Str) (k : Nat) : sz (ws.take k) + sz (ws.drop k) = sz ws := by rw [← sz_app, List.take_append_drop]
theorem sz_rev (ws : List Str) : sz ws.reverse = sz ws := by
  induction ws with
  | nil => rfl
  | cons a b ih => rw [List.reverse_cons, sz_app, ih, sz_cons, sz_cons]; have : sz [] = 0 := rfl; omega
theorem sz_sum (ws : List Str) : sz ws = (ws.map (·.length)).sum + ws.length := by
  induction ws with
  | nil => rfl
  | cons a b ih => rw [sz_cons, ih, List.map_cons, List.sum_cons, List.length_cons]; omega
theorem W_sz (ws : List Str) : (W ws).length ≤ sz ws := by
  have h2 : (Str.join " " ws).length ≤ (ws.map (·.length)).sum + ws.length * (" " : Str).length := StrLaws.join_length_le _ _
  have h3 : (" " : Str).length = 1 := by decide +kernel
  rw [h3] at h2
  rw [sz_sum]; unfold W; omega
theorem joinL_len1 : ∀ {l : List (List Nat)}, l ≠ [] → (joinL [32] l).length + 1 = (l.map fun w => w.length + 1).sum
  | [], h => absurd rfl h
  | a :: l, _ => by
    by_cases hl : l = []
    · subst hl; simp [joinL]
    · rw [joinL_cons hl]
      have := joinL_len1 hl
      rw [List.map_cons, List.sum_cons, ← this]
      simp only [List.length_append, List.length_cons, List.length_nil]; omega
theorem sz_split (x : Str) : sz (Txt.split x " ") = x.length + 1 := by
  have h := W_split x
  have h1 : (tl (W (Txt.split x " "))).length = x.length := by rw [h, tl_length]
  rw [tl_W] at h1
  have h2 := joinL_len1 (l := (Txt.split x " ").map tl) (by simp only [ne_eq, List.map_eq_nil_iff]; exact split_ne (by decide +kernel) (by decide +kernel))
  rw [h1] at h2
  rw [h2]; unfold sz
  rw [List.map_map]
  congr 1
theorem sz_le {ws : List Str} {m : Nat} (h : ∀ w ∈ ws, w.length ≤ m) : sz ws ≤ ws.length * (m + 1) := by
  induction ws with
  | nil => exact Nat.zero_le _
  | cons a b ih =>
    have h1 := h a (by simp)
    have h2 := ih fun w hw => h w (List.mem_cons_of_mem _ hw)
    rw [sz_cons, List.length_cons, Nat.add_mul]; omega
theorem tw_size : ∀ t ∈ tests10, (tw t).length ≤ 2 ∧ ∀ w ∈ tw t, w.length ≤ 6 := by
  decide +kernel
theorem deed_size : ∀ t ∈ deeds6, t.length ≤ 6 := by decide +kernel
theorem rWords_size {s t : Str} {ts ds : List Str} (R : RuleOk s ts ds t) (h4 : ts.length ≤ 4) (h5 : ds.length ≤ 4) : (rText s ts ds t).length ≤ 200 := by
  have hw : ∀ w ∈ rWords s ts ds t, w.length ≤ 6 := fun w hw => by
    unfold rWords at hw
    have k1 : ∀ k ∈ (["if", "and", "do", "then", "to"] : List Str), k.length ≤ 6 := by decide +kernel
    rcases List.mem_append.mp hw with hw | hw
    · rcases List.mem_cons.mp hw with rfl | hw
      · exact (name_wd R.hs).2.2.2
      · rcases List.mem_append.mp hw with hw | hw
        · unfold wT1 at hw
          split at hw
          · cases hw
          · rcases List.mem_cons.mp hw with rfl | hw
            · exact k1 _ (by decide)
            · rcases segs_mem hw with rfl | ⟨a, ha, hw⟩
              · exact k1 _ (by decide)
              · obtain ⟨u, hu, rfl⟩ := List.mem_map.mp ha
                exact (tw_size u (R.hts u hu)).2 w hw
        · unfold wD1 at hw
          split at hw
          · cases hw
          · rcases List.mem_cons.mp hw with rfl | hw
            · exact k1 _ (by decide)
            · rcases segs_mem hw with rfl | ⟨a, ha, hw⟩
              · exact k1 _ (by decide)
              · obtain ⟨u, hu, rfl⟩ := List.mem_map.mp ha
                rw [List.mem_singleton.mp hw]
                exact deed_size u (R.hds u hu)
    · rcases List.mem_cons.mp hw with rfl | hw
      · exact k1 _ (by decide)
      · rw [List.mem_singleton.mp hw]; exact (name_wd R.ht).2.2.2
  have l1 : ∀ ts : List Str, (∀ x ∈ ts, x ∈ tests10) → (ts.flatMap (fun t => ("and" : Str) :: tw t)).length ≤ 3 * ts.length := fun ts => by
    induction ts with
    | nil => intro _; exact Nat.zero_le _
    | cons a b ih =>
      intro h
      have h1 := (tw_size a (h a (by simp))).1
      have h2 := ih fun x hx => h x (List.mem_cons_of_mem _ hx)
      rw [List.flatMap_cons, List.length_append, List.length_cons, List.length_cons]; omega
  have l2 : ∀ ds : List Str, (ds.flatMap (fun d => (["then", d] : List Str))).length = 2 * ds.length := fun ds => by
    induction ds with
    | nil => rfl
    | cons a b ih => rw [List.flatMap_cons, List.length_append, ih, List.length_cons, List.length_cons, List.length_cons, List.length_nil]; omega
  have n1 : (wT1 ts).length ≤ 12 := by
    cases ts with
    | nil => exact Nat.zero_le _
    | cons a b =>
      have h1 := (tw_size a (R.hts a (by simp))).1
      have h2 := l1 b fun x hx => R.hts x (List.mem_cons_of_mem _ hx)
      rw [List.length_cons] at h4
      rw [wT1_cons, List.length_cons, List.length_append]; omega
  have n2 : (wD1 ds).length ≤ 8 := by
    cases ds with
    | nil => exact Nat.zero_le _
    | cons a b =>
      have h2 := l2 b
      rw [List.length_cons] at h5
      rw [wD1_cons, List.length_cons, List.length_cons, h2]; omega
  have n3 : (rWords s ts ds t).length ≤ 23 := by
    unfold rWords
    rw [List.length_append, List.length_cons, List.length_append, List.length_cons, List.length_cons, List.length_nil]; omega
  have h1 := W_sz (rWords s ts ds t)
  have h2 := sz_le hw
  unfold rText
  omega
end NM
namespace NM
open PySem PySem.Spec PyProof.Rows L2
def kOf (e : Int × Value) : Key := match e.2 with
  | .int k _ => .inl k
  | .str x _ => .inr x
  | _ => .inl 0
def GdE (w : World) (e : Int × Value) : Prop := keyIs (kOf e) e.2 = true ∧ e.1 = keyH w (kOf e)
theorem kOf_is {k : Key} {v : Value} {z : Int} (q : keyIs k v = true) : kOf (z, v) = k := by
  rcases keyIs_shape q with ⟨i, t, rfl, rfl⟩ | ⟨x, t, rfl, rfl⟩ <;> rfl
theorem gd_is {w : World} {e : Int × Value} (g : GdE w e) (k : Key) : keyIs k e.2 = true ↔ kOf e = k := by
  constructor
  · intro q; exact kOf_is (z := e.1) q
  · intro q; rw [← q]; exact g.1
/-- the entries of the members S -/
structure EsOk (w : World) (S : Key → Bool) (es : Array (Int × Value)) : Prop where
  gd : ∀ e ∈ es.toList, GdE w e
  nd : (es.toList.map kOf).Nodup
  mem : ∀ k, S k = true ↔ k ∈ es.toList.map kOf
  few : es.size < scanBound
/-- a table that can be walked -/
structure TbOk (w : World) (t : SetTable) (n : Nat) : Prop where
  fit : t.fits n = true
  ris : Ris t.place.toList
  led : w.params.followText "set-order" = true ∨ t.led = true
structure SetM (w : World) (h : Heap) (a : Addr) (S : Key → Bool) (n : Nat) : Prop where
  ex : ∃ o es ep t, h.get? a = some o ∧ o.ExactSet ∧ o.data = .set es ep t ∧ EsOk w S es ∧ es.size = n ∧ TbOk w t n
theorem SetM.at {w : World} {h h' : Heap} {a : Addr} {S : Key → Bool} {n : Nat} (R : SetM w h a S n) (z : ∀ o, h.get? a = some o → h'.get? a = some o) : SetM w h' a S n := by
  obtain ⟨o, es, ep, t, q, r⟩ := R.ex
  exact ⟨o, es, ep, t, z o q, r⟩
theorem SetM.same {w : World} {h : Heap} {a : Addr} {S S' : Key → Bool} {n : Nat} (R : SetM w h a S n) (z : ∀ k, S' k = S k) : SetM w h a S' n := by
  have q : S' = S := funext z
  rw [q]; exact R
theorem gd_elems {P : Program} {w : World} {l : List (Int × Value)} (g : ∀ e ∈ l, GdE w e) : ElemsOf (mixKind P w) l := fun e he => by
  obtain ⟨h1, h2⟩ := g e he
  refine ⟨⟨kOf e, h1, h2⟩, ?_⟩
  rcases keyIs_shape h1 with ⟨i, t, _, q⟩ | ⟨x, t, _, q⟩ <;> rw [q] <;> rfl
section
variable {P : Program} {w : World} {A : Around} {E : Value → Shared → Prop} {s : Shared} {a : Addr} {S : Key → Bool} {n : Nat}
theorem setM_tail {g : Bool → Sem Unit} (hg : ∀ (b : Bool) (s1 : Shared) (Q1 : Unit → Shared → Prop), Q1 () s1 → wpAny (model P w) A (g b) Q1 E s1)
    {o : Obj} {es : Array (Int × Value)} {ep : Nat} {t : SetTable} (zo : s.heap.get? a = some o) (zx : o.ExactSet) (zd : o.data = .set es ep t)
    {fs : Array (Int × Value)} {u : SetTable} {S1 : Key → Bool} (ok : EsOk w S1 fs) (tb : TbOk w u fs.size) {wasD : Bool} {R : Option Bool → Shared → Prop}
    (fin : ∀ h1, Heap.SameBut a s.heap h1 → SetM w h1 a S1 fs.size → R (some true) { s with heap := h1 }) :
    wpAny (model P w) A (do
        storeSet a fs u
        if (!wasD && u.tooFull) = true then do
            g (relayAll u fs (SetTable.grown fs.size)).2.2
            storeSet a (relayAll u fs (SetTable.grown fs.size)).1 (relayAll u fs (SetTable.grown fs.size)).2.1
            pure (some true)
          else pure (some true)) R E s := by
  refine wpAny_bind (wpAny_storeSet_of zo zd ?_ (fits_of_scanBound ok.few))
  have z1 := store_at (es' := fs) (t' := u) zo zd
  have y1 := Heap.SameBut.update s.heap a (Obj.putSet fs u)
  split
  · have p1 := relayAll_perm u fs (SetTable.grown fs.size)
    have p2 := relayAll_fits u fs (SetTable.grown fs.size)
    have p3 := relayAll_ris u fs (SetTable.grown fs.size)
    have p4 := relayAll_led u fs (SetTable.grown fs.size)
    generalize relayAll u fs (SetTable.grown fs.size) = Z at p1 p2 p3 p4 ⊢
    obtain ⟨gs, v, gave⟩ := Z
    dsimp only at p1 p2 p3 p4 ⊢
    have q1 : gs.size = fs.size := by rw [← Array.length_toList, p1.length_eq, Array.length_toList]
    have q2 : gs.size < scanBound := by rw [q1]; exact ok.few
    refine wpAny_bind (hg _ _ _ ?_)
    refine wpAny_bind (wpAny_storeSet_of z1 rfl ?_ (fits_of_scanBound q2))
    have z2 := store_at (es' := gs) (t' := v) z1 rfl
    refine wpAny_pure (fin _ (y1.trans (Heap.SameBut.update _ a _)) ⟨_, gs, _, v, z2, zx, rfl, ⟨fun e he => ok.gd e (p1.mem_iff.mp he), (p1.map kOf).nodup_iff.mpr ok.nd, fun k => (ok.mem k).trans (p1.map kOf).mem_iff.symm, q2⟩, q1, ⟨by rw [← q1]; exact p2, p3, tb.led.imp id fun z => by rw [p4]; exact z⟩⟩)
  · exact wpAny_pure (fin _ y1 ⟨_, fs, _, u, z1, zx, rfl, ok, rfl, tb⟩)
theorem setM_put {k : Key} {v : Value} {Q : Bool → Shared → Prop} (R : SetM w s.heap a S n) (hk : keyIs k v = true) (room : n + 1 < scanBound)
    (fin : ∀ h1, Heap.SameBut a s.heap h1 → SetM w h1 a (fun j => S j || decide (j = k)) (if S k = true then n else n + 1) → Q (!S k) { s with heap := h1 }) :
    wpAny (model P w) A (setAddHashed a v ((mixKind P w).hash k)) Q E s := by
  obtain ⟨o, es, ep, t, zo, zx, zd, ok, zn, tb⟩ := R.ex
  have hsc : v.scannable = true := by rcases keyIs_shape hk with ⟨i, t, _, rfl⟩ | ⟨x, t, _, rfl⟩ <;> rfl
  have el : ElemsOf (mixKind P w) es.toList := gd_elems ok.gd
  have mm : ∀ j, j ∈ es.toList.map kOf ↔ ∃ e ∈ es.toList, keyIs j e.2 = true := fun j => by
    rw [List.mem_map]
    constructor
    · rintro ⟨e, he, q⟩; exact ⟨e, he, (gd_is (ok.gd e he) j).2 q⟩
    · rintro ⟨e, he, q⟩; exact ⟨e, he, (gd_is (ok.gd e he) j).1 q⟩
  unfold setAddHashed setAddHashedIn
  refine wpAny_holding (wpAny_bind (wpAny_setState_of zo zd (by rw [zn]; exact tb.fit) ?_))
  dsimp only
  rw [byScan_of hsc ok.few el]
  simp only [↓reduceIte]
  unfold setAddByScan
  refine wpAny_bind (wpAny_bind (wpAny_rule ?_))
  refine wpAny_bind (wpAny_setScan_of (knd := mixKind P w) hk zo zd (by rw [zn]; exact tb.fit) el ?_)
  cases hf : List.findIdx? (fun e => (mixKind P w).is k e.2) es.toList with
  | some j =>
    dsimp only
    obtain ⟨hj, pj, _⟩ := List.findIdx?_eq_some_iff_getElem.mp hf
    have sk : S k = true := (ok.mem k).2 ((mm k).2 ⟨es.toList[j], List.getElem_mem hj, pj⟩)
    refine wpAny_pure (wpAny_pure ?_)
    have q := fin s.heap (Heap.SameBut.refl a s.heap) ⟨o, es, ep, t, zo, zx, zd, ⟨ok.gd, ok.nd, fun i => by
      rw [Bool.or_eq_true, decide_eq_true_eq, ← ok.mem i]
      exact ⟨fun z => z.elim id (fun e => e ▸ sk), .inl⟩, ok.few⟩, by rw [if_pos sk]; exact zn, by rw [if_pos sk]; exact tb⟩
    rw [sk] at q
    exact q
  | none =>
    dsimp only
    have nk : k ∉ es.toList.map kOf := fun z => by
      obtain ⟨e, he, q⟩ := (mm k).1 z
      have c := List.findIdx?_eq_none_iff.mp hf e he
      have c2 : keyIs k e.2 = false := by simpa [mixKind_is] using c
      rw [q] at c2; cases c2
    have sk : S k = false := by
      cases q : S k with
      | false => rfl
      | true => exact absurd ((ok.mem k).1 q) nk
    have gw : ∀ (b : Bool) {s1 : Shared} {Q1 : Unit → Shared → Prop}, Q1 () s1 → wpAny (model P w) A (match b with | true => rule "set.scan.the-table-gave-way" | false => pure ()) Q1 E s1 :=
      fun b s1 Q1 q => by cases b <;> first | exact wpAny_pure q | exact wpAny_rule q
    have p1 := layNew_perm t es ((mixKind P w).hash k) v
    have p2 := layNew_fits t es ((mixKind P w).hash k) v
    have p3 := layNew_ris t es ((mixKind P w).hash k) v tb.ris
    have p4 := layNew_led t es ((mixKind P w).hash k) v
    generalize layNew t es ((mixKind P w).hash k) v = Z at p1 p2 p3 p4 ⊢
    obtain ⟨fs, u, wasD, gave⟩ := Z
    dsimp only at p1 p2 p3 p4 ⊢
    rw [Array.toList_push] at p1
    have c1 : fs.toList.Perm (((mixKind P w).hash k, v) :: es.toList) := p1.trans (List.perm_append_singleton _ _)
    have c2 : (fs.toList.map kOf).Perm (k :: es.toList.map kOf) := by
      have := c1.map kOf
      rw [List.map_cons, kOf_is hk] at this
      exact this
    have gn : GdE w ((mixKind P w).hash k, v) := by
      unfold GdE
      rw [kOf_is hk]; exact ⟨hk, rfl⟩
    have sz : fs.size = n + 1 := by rw [← Array.length_toList, c1.length_eq, List.length_cons, Array.length_toList, zn]
    have ok1 : EsOk w (fun j => S j || decide (j = k)) fs := ⟨fun e he => by
        rcases List.mem_cons.mp (c1.mem_iff.mp he) with z | z
        · rw [z]; exact gn
        · exact ok.gd e z, c2.nodup_iff.mpr (List.nodup_cons.mpr ⟨nk, ok.nd⟩), fun i => by
        rw [Bool.or_eq_true, decide_eq_true_eq, ok.mem i, c2.mem_iff, List.mem_cons]; exact Or.comm, by rw [sz]; exact room⟩
    have ld : w.params.followText "set-order" = true ∨ u.led = true := tb.led.imp id fun z => by rw [p4]; exact z
    have end1 : ∀ h1, Heap.SameBut a s.heap h1 → SetM w h1 a (fun j => S j || decide (j = k)) fs.size → Q true { s with heap := h1 } := fun h1 sb r => by
      have q := fin h1 sb
      rw [sk] at q
      rw [sz] at r
      exact q r
    refine wpAny_bind (gw _ ?_)
    split
    · refine wpAny_bind ?_
      rw [hashByValue_scannable 8 hsc]
      refine wpAny_pure ?_
      refine setM_tail ?_ zo zx zd ok1 ?_ ?_
      · intro b s1 Q1 q; cases b <;> first | exact wpAny_pure q | exact wpAny_rule q
      · refine ⟨?_, ?_, ?_⟩
        · first | (split <;> first | exact p2 | exact SetTable.fits_plain_off p2) | exact p2
        · first | (split <;> exact p3) | exact p3
        · first | (split <;> exact ld) | exact ld
      · intro h1 sb r; dsimp only; exact wpAny_pure (end1 h1 sb r)
    · refine wpAny_bind (wpAny_pure ?_)
      simp only [↓reduceIte]
      refine setM_tail ?_ zo zx zd ok1 ⟨p2, p3, ld⟩ ?_
      · intro b s1 Q1 q; cases b <;> first | exact wpAny_pure q | exact wpAny_rule q
      · intro h1 sb r; dsimp only; exact wpAny_pure (end1 h1 sb r)
end
def inK (ks : List Key) (k : Key) : Bool := ks.any fun x => decide (x = k)
theorem inK_iff {ks : List Key} {k : Key} : inK ks k = true ↔ k ∈ ks := by
  unfold inK
  rw [List.any_eq_true]
  constructor
  · rintro ⟨x, hx, e⟩; rw [← of_decide_eq_true e]; exact hx
  · intro h; exact ⟨k, h, decide_eq_true rfl⟩
theorem setM_new {w : World} {h : Heap} {a : Addr} (zo : h.get? a = some { cls := .type "set", dict := none, data := .set #[] 0 (.fresh 0 0 (!w.params.followText "set-order")) }) : SetM w h a (fun _ => false) 0 :=
  ⟨_, #[], 0, _, zo, ⟨rfl, rfl, rfl⟩, rfl, ⟨fun e he => by simp at he, by simp, fun k => by simp, by decide⟩, rfl, by rfl, List.Pairwise.nil, by
    show _ ∨ (!w.params.followText "set-order") = true
    cases w.params.followText "set-order" <;> first | exact .inr rfl | exact .inl rfl⟩
section
variable {P : Program} {w : World} {A : Around} {E : Value → Shared → Prop} {s : Shared}
theorem setM_fill {I : Addr} {fp wr : List Addr} {G : Array GenState → Array GenState → Prop} {n : Nat} {Pv : Nat → Value → Prop} {St : Nat → Shared → Prop} {R : Result → Shared → Prop}
    (W : WalksS P w A.in1 I fp wr G n Pv St) (D : Addr) (nf : D ∉ fp) (ks : List Key) (hn : n = ks.length) (hb : ks.length + 1 < scanBound) (vl : ∀ i v, Pv i v → ∃ k, ks[i]? = some k ∧ keyIs k v = true) :
    ∀ (m i : Nat) (s : Shared), n - i = m → i ≤ n → St i s → (∃ c, c ≤ i ∧ SetM w s.heap D (inK (ks.take i)) c) →
      (∀ s1 c, Moved (D :: wr) G s s1 → c ≤ n → SetM w s1.heap D (inK ks) c → R (.ok (.ret .none)) s1) →
      codeAny (model P w) A (.builtin "set.update.loop" ⟨[.ref D, .ref I], []⟩) R s := by
  have nw : D ∉ wr := fun h => nf (W.sub _ h)
  have up : ∀ b ∈ wr, b ∈ D :: wr := fun b hb => List.mem_cons_of_mem _ hb
  intro m
  induction m with
  | zero =>
    intro i s em hi st ⟨c, hc, hS⟩ fin
    have ei : i = n := by omega
    subst ei
    refine codeAny_builtin PyProof.Rows.F.entry_set_update_loop ?_
    rw [Around.under_plainId PyProof.Rows.F.plain_set_update_loop _]
    show wpAny _ A.in1 (pyNext (.ref I) >>= _) _ _ s
    refine wpAny_bind (W.done s _ _ st fun s1 mv => ?_)
    show wpAny _ A.in1 (ret Value.none) _ _ s1
    rw [List.take_of_length_le (show ks.length ≤ i by omega)] at hS
    exact wpAny_pure (fin s1 c (mv.mono up) hc (hS.at fun o e => mv.heap D o nw e))
  | succ m ih =>
    intro i s em hi st ⟨c, hc, hS⟩ fin
    have lt : i < n := by omega
    refine codeAny_builtin PyProof.Rows.F.entry_set_update_loop ?_
    rw [Around.under_plainId PyProof.Rows.F.plain_set_update_loop _]
    show wpAny _ A.in1 (pyNext (.ref I) >>= _) _ _ s
    refine wpAny_bind (W.item i s _ _ lt st fun v s1 hP st1 mv => ?_)
    obtain ⟨z, hz, kz⟩ := vl i v hP
    have hS1 : SetM w s1.heap D (inK (ks.take i)) c := hS.at fun o e => mv.heap D o nw e
    show wpAny _ A.in1 (holding [v] (setAdd D v) >>= _) _ _ s1
    refine wpAny_bind (wpAny_holding ?_)
    unfold setAdd
    refine wpAny_holding (wpAny_bind ((mixKind P w).pyHash (k := z) kz ?_))
    refine setM_put (s := { s1 with toks := s1.toks + 1 }) hS1 kz (by omega) fun h1 sb hS2 => ?_
    have hS3 : SetM w h1 D (inK (ks.take (i + 1))) (if inK (ks.take i) z = true then c else c + 1) := hS2.same fun j => by
      rw [List.take_add_one, hz]
      show inK (ks.take i ++ [z]) j = (inK (ks.take i) j || decide (j = z))
      unfold inK
      rw [List.any_append, List.any_cons, List.any_nil, Bool.or_false]
      congr 1
      by_cases e : j = z
      · rw [e]
      · rw [decide_eq_false e, decide_eq_false (fun q => e q.symm)]
    have c3 : (if inK (ks.take i) z = true then c else c + 1) ≤ i + 1 := by split <;> omega
    refine wpAny_pure ⟨plainId_quiet PyProof.Rows.F.plain_set_update_loop _, ih (i + 1) _ (by omega) lt (W.frame _ s1 _ _ st1 (Nat.le_succ _) fun b hb o e => ?_) ⟨_, c3, hS3⟩ fun s2 c2 mv2 hc2 hSz => ?_⟩
    · rw [sb.2 b (fun h : b = D => nf (by rw [← h]; exact hb))]; exact e
    · refine fin s2 c2 (Moved.trans W.gtrans ((mv.mono up).then_heap (Nat.le_succ _) fun b o hb e => ?_) mv2) hc2 hSz
      rw [sb.2 b (fun h : b = D => hb (by rw [h]; exact List.mem_cons_self))]; exact e
end
end NM
namespace NM
open PySem PySem.Spec PyProof.Rows L2
/-- the values of some keys -/
inductive KeysAre : List Value → List Key → Prop
  | nil : KeysAre [] []
  | cons {v : Value} {k : Key} {vs : List Value} {ks : List Key} (h : keyIs k v = true) (r : KeysAre vs ks) : KeysAre (v :: vs) (k :: ks)
theorem KeysAre.len : ∀ {vs : List Value} {ks : List Key}, KeysAre vs ks → vs.length = ks.length
  | _, _, .nil => rfl
  | _, _, .cons _ r => by rw [List.length_cons, List.length_cons, r.len]
theorem KeysAre.get : ∀ {vs : List Value} {ks : List Key} {i : Nat} {v : Value}, KeysAre vs ks → vs[i]? = some v → ∃ k, ks[i]? = some k ∧ keyIs k v = true
  | _, _, _, _, .nil, e => by simp at e
  | _, _, 0, _, .cons h _, e => by simp at e; subst e; exact ⟨_, rfl, h⟩
  | _, _, i + 1, v, .cons _ r, e => by
    obtain ⟨k, h1, h2⟩ := KeysAre.get (i := i) (v := v) r (by simpa using e)
    exact ⟨k, by simpa using h1, h2⟩
abbrev setObj (w : World) : Obj := { cls := .type "set", dict := none, data := .set #[] 0 (.fresh 0 0 (!w.params.followText "set-order")) }
section
variable {P : Program} {w : World} {A : Around} {E : Value → Shared → Prop} {s : Shared}
theorem set_list_call {l : Addr} {its : Array Value} (ks : List Key) {Q : Value → Shared → Prop} (nh : A.handled = none) (zl : s.heap.IsList l its) (zk : KeysAre its.toList ks) (few : ks.length + 1 < scanBound)
    (fin : ∀ (h1 : Heap) (tk c : Nat), SetM w h1 s.heap.objs.size (inK ks) c → c ≤ ks.length → (∀ b o, s.heap.get? b = some o → h1.get? b = some o) → Q (.ref s.heap.objs.size) { s with heap := h1, toks := tk }) :
    wpAny (model P w) A (call (.type "set") [.ref l]) Q E s := by
  have zs : its.size = ks.length := by rw [← zk.len, Array.length_toList]
  obtain ⟨c, tl, hmro⟩ := PySem.F.called_set.mro
  have f1 := PySem.F.called_set.made
  have f2 := PySem.F.called_set.sub
  refine wpAny_call (codeAny_of_tree (wpAny_pure ⟨Code.quiet_builtin _ (by decide +kernel), codeAny_builtin PySem.F.entry_type_call ?_⟩))
  rw [Around.under_plain (weight_type_call_type "set" [.ref l] []) rfl]
  have f3 := PySem.F.called_set.notType
  have f4 := PySem.F.called_set.canCreate
  have f5 := PySem.F.typeCall_set_1 (.ref l)
  repeat (any_goals (first | assumption | wp_step))
  refine codeAny_mono (code_set_led1 (.ref l) (E := E) (Q₁ := fun x s1 => x = .ref s.heap.objs.size ∧ s1 = { s with heap := s.heap.push (setObj w) }) ⟨rfl, rfl⟩) fun r s1 hr => ?_
  cases r with
  | error e => exact hr
  | ok fl =>
    cases fl with
    | ret x =>
      obtain ⟨rfl, rfl⟩ := hr
      have g1 : (s.heap.push (setObj w)).get? s.heap.objs.size = some (setObj w) := Heap.get?_push_size _ rfl
      have g2 : Shared.TypeIs { s with heap := s.heap.push (setObj w) } (.ref s.heap.objs.size) "set" := ⟨_, g1, rfl⟩
      have g3 := PySem.F.called_set.init.lookup
      have g4 := PySem.F.called_set.init.bind (.ref s.heap.objs.size)
      repeat (any_goals (first | assumption | wp_step))
      refine codeAny_mono (codeAny_call_builtin (R := wants (fun r s2 => r = .none ∧ ∃ h1 tk c, s2 = { s with heap := h1, toks := tk } ∧ SetM w h1 s.heap.objs.size (inK ks) c ∧ c ≤ ks.length ∧
          (∀ b o, s.heap.get? b = some o → h1.get? b = some o)) E) PySem.F.called_set.init.plain PySem.F.entry_set_init (check_set_init_1 g2 ?_)) fun r2 s2 hr2 => ?_
      · obtain ⟨ol, zo, z1, nl, z2⟩ := zl
        obtain ⟨ocls, odict, odata, oslots⟩ := ol
        simp only at z1 z2
        subst z1; subst z2
        have zo1 : (s.heap.push (setObj w)).get? l = some { cls := .type "list", dict := odict, data := .seq its nl, slots := oslots } := Heap.get?_push_of_some _ zo
        have f6 := PySem.F.sub_list_set
        have f7 := PySem.F.sub_list_frozenset
        have f8 : (Value.type "list" == Value.type "dict") = false := by decide
        have zl1 : (s.heap.push (setObj w)).IsList l its := ⟨_, zo1, rfl, nl, rfl⟩
        unfold Builtin.«set.__init__» noKeywords Builtin.Frozenset.updateFrom
        generalize ePI : pyIter = PI
        wp_walk
        subst ePI
        refine wpAny_pyIter_list zl1 (wpAny_bind (wpAny_runValue ?_))
        have ll : l < s.heap.objs.size := Heap.lt_size zo
        have nh3 : A.in1.in1.in1.handled = none := by simp [nh]
        have nl1 : l ≠ (s.heap.push (setObj w)).objs.size := by rw [Heap.size_push]; exact Nat.ne_of_lt (Nat.lt_succ_of_lt ll)
        have nl2 : s.heap.objs.size ∉ [(s.heap.push (setObj w)).objs.size, l] := by
          rw [Heap.size_push]; simp only [List.mem_cons, List.mem_singleton, List.not_mem_nil, or_false, not_or]; exact ⟨Nat.ne_of_lt (Nat.lt_succ_self _), Nat.ne_of_gt ll⟩
        refine setM_fill ((Walks.list nh3 _ l nl1 its).toS) s.heap.objs.size nl2 ks zs few (fun i v hv => zk.get (by rw [Array.getElem?_toList]; exact hv)) (its.size - 0) 0 _ (by omega) (Nat.zero_le _)
          ⟨⟨_, Heap.get?_push_size _ rfl, rfl, rfl⟩, (zl1.push _)⟩ ⟨0, Nat.le_refl 0, ?_⟩ ?_
        · have hg : ((s.heap.push (setObj w)).push { cls := .type "list_iterator", data := .fields #[.ref l, .int 0 0] }).get? s.heap.objs.size = some (setObj w) := Heap.get?_push_of_some _ g1
          exact (setM_new hg).same fun k => by simp [inK]
        · intro s3 c3 mv hc3 hS3
          obtain ⟨h3, g3, d3, tk3, os3⟩ := s3
          have eg : g3 = s.gens := mv.gens
          have ed : d3 = s.drawn := mv.drawn
          have eo : os3 = s.os := mv.os
          subst eg; subst ed; subst eo
          show wpAny _ _ _ _ _ _
          refine wpAny_pure ?_
          show wpAny _ _ (ret Value.none) _ _ _
          rw [zs] at hc3
          refine wpAny_pure ⟨rfl, h3, tk3, c3, rfl, hS3, hc3, fun b o e => ?_⟩
          have b0 : b < s.heap.objs.size := Heap.lt_size e
          refine mv.heap b o ?_ (Heap.get?_push_of_some _ (Heap.get?_push_of_some _ e))
          rw [Heap.size_push]; simp only [List.mem_cons, List.mem_singleton, List.not_mem_nil, or_false, not_or]; exact ⟨Nat.ne_of_lt b0, Nat.ne_of_lt (Nat.lt_succ_of_lt b0)⟩
      · cases r2 with
        | error e => exact hr2
        | ok fl2 =>
          cases fl2 with
          | ret r =>
            obtain ⟨rfl, h3, tk, c3, rfl, hS3, hc3, hk3⟩ := hr2
            repeat (any_goals (first | assumption | wp_step))
            exact fin _ _ _ hS3 hc3 hk3
          | _ => exact hr2.elim
    | _ => exact hr.elim
/-- the members of a set, by the values that are walked -/
theorem vals_keys {es : Array (Int × Value)} {S : Key → Bool} (ok : EsOk w S es) : ∀ (vs : List Value), (∀ v ∈ vs, v ∈ es.toList.map (·.2)) → KeysAre vs (vs.map fun v => kOf (0, v))
  | [], _ => .nil
  | v :: vs, h => by
    refine .cons ?_ (vals_keys ok vs fun u hu => h u (List.mem_cons_of_mem _ hu))
    obtain ⟨e, he, rfl⟩ := List.mem_map.mp (h v (by simp))
    exact (ok.gd e he).1
theorem keys_strs : ∀ {vs : List Value} {ks : List Key}, KeysAre vs ks → (∀ k ∈ ks, ∃ x, k = .inr x) → ∃ xs : List Str, ks = xs.map Sum.inr ∧ StrsAre vs xs
  | _, _, .nil, _ => ⟨[], rfl, .nil⟩
  | v :: vs, k :: ks, .cons h r, hs => by
    obtain ⟨x, rfl⟩ := hs k (by simp)
    obtain ⟨xs, e, q⟩ := keys_strs r fun j hj => hs j (List.mem_cons_of_mem _ hj)
    rcases keyIs_shape h with ⟨i, t, z, _⟩ | ⟨y, t, z, rfl⟩
    · cases z
    · cases z
      exact ⟨x :: xs, by rw [e, List.map_cons], .cons _ _ q⟩
theorem keys_ints : ∀ {vs : List Value} {ks : List Key}, KeysAre vs ks → (∀ k ∈ ks, ∃ x, k = .inl x) → ∃ xs : List Int, ks = xs.map Sum.inl ∧ IntsAre vs xs
  | _, _, .nil, _ => ⟨[], rfl, .nil⟩
  | v :: vs, k :: ks, .cons h r, hs => by
    obtain ⟨x, rfl⟩ := hs k (by simp)
    obtain ⟨xs, e, q⟩ := keys_ints r fun j hj => hs j (List.mem_cons_of_mem _ hj)
    rcases keyIs_shape h with ⟨i, t, z, rfl⟩ | ⟨y, t, z, _⟩
    · cases z
      exact ⟨x :: xs, by rw [e, List.map_cons], .cons _ _ q⟩
    · cases z
theorem keys_kOf : ∀ (vs : List Value) (es : List (Int × Value)), vs = es.map (·.2) → (vs.map fun v => kOf (0, v)) = es.map kOf := fun vs es e => by
  subst e
  rw [List.map_map]; rfl
theorem sorted_setM {Q : Value → Shared → Prop} {a : Addr} {S : Key → Bool} {n : Nat} (R : SetM w s.heap a S n) (nh : A.handled = none) (h64 : n < 64) (hs : ∀ k, S k = true → ∃ x, k = .inr x)
    (fin : ∀ s1 p (out : Array Value) (c : Nat) (ys : List Str), (∀ b o, s.heap.get? b = some o → s1.heap.get? b = some o) → s1.gens = s.gens → s1.os = s.os → s.heap.objs.size ≤ p →
      s1.heap.get? p = some (seqObj "list" out c) → StrsAre out.toList ys → sortedS ys = true → ys.Nodup → (∀ x, x ∈ ys ↔ S (.inr x) = true) → ys.length = n → Q (.ref p) s1) :
    wpAny (model P w) A (call (.builtin "sorted") [.ref a]) Q E s := by
  obtain ⟨o, es, ep, t, zo, zx, zd, ok, zn, tb⟩ := R.ex
  refine Calls.call_function_entry kind_sorted plain_sorted entry_sorted (args_sorted1 _) ?_
  unfold Builtin.«sorted»
  refine wpAny_bind (m := checkCount "sorted" 1 1 _) (wpAny_pure (wpAny_bind (collect_set (A := A.in1) nh ⟨o, zo, zx.1, zd⟩ (by rw [zn]; exact tb.fit) ok.few tb.ris tb.led fun s1 vs k1 z1 g1 o1 pm => ?_)))
  have vl : vs.length = n := by rw [pm.length_eq, List.length_map, Array.length_toList]; exact zn
  have pk : (vs.map fun v => kOf (0, v)).Perm (es.toList.map kOf) := by
    have q := pm.map fun v => kOf (0, v)
    rw [keys_kOf _ _ rfl] at q
    exact q
  obtain ⟨xs, ex, sx⟩ := keys_strs (vals_keys ok vs fun v hv => pm.mem_iff.mp hv) fun k hk => hs k ((ok.mem k).2 (pk.mem_iff.mp hk))
  have xl : xs.length = n := by rw [← vl, ← List.length_map (f := fun v => kOf (0, v)) (as := vs), ex, List.length_map]
  refine wpAny_bind (wpAny_newList ?_ (by rw [vl, sizeLine_eq]; omega))
  have hL : (s1.heap.push (seqObj "list" vs.toArray 0)).get? s1.heap.objs.size = some (seqObj "list" vs.toArray 0) := Heap.get?_push_size _ rfl
  refine wpAny_bind (wpAny_holding (wpAny_call_entry slot_list_sort ⟨_, hL, rfl⟩ entry_list_sort (list_sort_treeK strKind_oneLt hL sx.keysOf (fun v1 v2 rest e => keyKind_strs (by rw [← e]; exact sx)) (by rw [vl]; exact h64) fun st1 hp hst => ⟨_, rfl, ?_⟩) (args_list_sort _)))
  obtain ⟨ys, y1, y2, y3⟩ := sorted_out_str sx hp hst
  obtain ⟨c, hc⟩ := sortedHeap_at (vs := vs) (out := (arrOf st1).map (·.2)) hL
  have nd : xs.Nodup := by
    have : (xs.map (Sum.inr : Str → Key)).Nodup := by rw [← ex]; exact pk.nodup_iff.mpr ok.nd
    exact List.Pairwise.of_map _ (fun _ _ hne e => hne (congrArg _ e)) this
  refine wpAny_pure ⟨_, rfl, fin _ s1.heap.objs.size _ c ys (fun b u e => ?_) g1 o1 z1 hc y1 y3 (y2.nodup_iff.mpr nd) (fun x => ?_) (by rw [y2.length_eq, xl])⟩
  · have q := k1 b u e
    have lt := Heap.lt_size q
    show (sortedHeap (s1.heap.push (seqObj "list" vs.toArray 0)) s1.heap.objs.size vs _).get? b = some u
    rw [sortedHeap_old (Nat.ne_of_lt lt) (by rw [size_push']; exact Nat.lt_succ_of_lt lt)]
    exact Heap.get?_push_of_some _ q
  · rw [y2.mem_iff, ok.mem, ← pk.mem_iff, ex, List.mem_map]
    constructor
    · intro h; exact ⟨x, h, rfl⟩
    · rintro ⟨z, hz, e⟩; rw [← Sum.inr.inj e]; exact hz
theorem sorted_setI {Q : Value → Shared → Prop} {a : Addr} {S : Key → Bool} {n : Nat} (R : SetM w s.heap a S n) (nh : A.handled = none) (h64 : n < 64) (hs : ∀ k, S k = true → ∃ x, k = .inl x)
    (fin : ∀ s1 p (out : Array Value) (c : Nat) (ys : List Int), (∀ b o, s.heap.get? b = some o → s1.heap.get? b = some o) → s1.gens = s.gens → s1.os = s.os → s.heap.objs.size ≤ p →
      s1.heap.get? p = some (seqObj "list" out c) → IntsAre out.toList ys → ys.Pairwise (· < ·) → (∀ x, x ∈ ys ↔ S (.inl x) = true) → ys.length = n → Q (.ref p) s1) :
    wpAny (model P w) A (call (.builtin "sorted") [.ref a]) Q E s := by
  obtain ⟨o, es, ep, t, zo, zx, zd, ok, zn, tb⟩ := R.ex
  refine Calls.call_function_entry kind_sorted plain_sorted entry_sorted (args_sorted1 _) ?_
  unfold Builtin.«sorted»
  refine wpAny_bind (m := checkCount "sorted" 1 1 _) (wpAny_pure (wpAny_bind (collect_set (A := A.in1) nh ⟨o, zo, zx.1, zd⟩ (by rw [zn]; exact tb.fit) ok.few tb.ris tb.led fun s1 vs k1 z1 g1 o1 pm => ?_)))
  have vl : vs.length = n := by rw [pm.length_eq, List.length_map, Array.length_toList]; exact zn
  have pk : (vs.map fun v => kOf (0, v)).Perm (es.toList.map kOf) := by
    have q := pm.map fun v => kOf (0, v)
    rw [keys_kOf _ _ rfl] at q
    exact q
  obtain ⟨xs, ex, sx⟩ := keys_ints (vals_keys ok vs fun v hv => pm.mem_iff.mp hv) fun k hk => hs k ((ok.mem k).2 (pk.mem_iff.mp hk))
  have xl : xs.length = n := by rw [← vl, ← List.length_map (f := fun v => kOf (0, v)) (as := vs), ex, List.length_map]
  refine wpAny_bind (wpAny_newList ?_ (by rw [vl, sizeLine_eq]; omega))
  have hL : (s1.heap.push (seqObj "list" vs.toArray 0)).get? s1.heap.objs.size = some (seqObj "list" vs.toArray 0) := Heap.get?_push_size _ rfl
  refine wpAny_bind (wpAny_holding (wpAny_call_entry slot_list_sort ⟨_, hL, rfl⟩ entry_list_sort (list_sort_tree hL sx (by rw [vl]; exact h64) fun out ys y1 y2 y3 => ⟨_, rfl, ?_⟩) (args_list_sort _)))
  obtain ⟨c, hc⟩ := sortedHeap_at (vs := vs) (out := out) hL
  have nd : xs.Nodup := by
    have : (xs.map (Sum.inl : Int → Key)).Nodup := by rw [← ex]; exact pk.nodup_iff.mpr ok.nd
    exact List.Pairwise.of_map _ (fun _ _ hne e => hne (congrArg _ e)) this
  refine wpAny_pure ⟨_, rfl, fin _ s1.heap.objs.size _ c ys (fun b u e => ?_) g1 o1 z1 hc y1 (lt_of_le_nodup ys y3 (y2.nodup_iff.mpr nd)) (fun x => ?_) (by rw [y2.length_eq, xl])⟩
  · have q := k1 b u e
    have lt := Heap.lt_size q
    show (sortedHeap (s1.heap.push (seqObj "list" vs.toArray 0)) s1.heap.objs.size vs _).get? b = some u
    rw [sortedHeap_old (Nat.ne_of_lt lt) (by rw [size_push']; exact Nat.lt_succ_of_lt lt)]
    exact Heap.get?_push_of_some _ q
  · rw [y2.mem_iff, ok.mem, ← pk.mem_iff, ex, List.mem_map]
    constructor
    · intro h; exact ⟨x, h, rfl⟩
    · rintro ⟨z, hz, e⟩; rw [← Sum.inl.inj e]; exact hz
end
end NM
namespace NM
open PySem PySem.Spec PyProof.Rows L2
def SetMO (w : World) (a : Addr) (S : Key → Bool) (n : Nat) : HO := .ext fun h => SetM w h a S n
theorem setMO_new {w : World} {P : Program} {H : Hp} {h : Heap} {a : Addr} {S : Key → Bool} {n : Nat} (R : SetM w h a S n) : ObjOk P w H h a (SetMO w a S n) :=
  ⟨R, (by obtain ⟨o, _, _, _, z, _⟩ := R.ex; exact ⟨o, z⟩), fun h1 h2 r z => SetM.at r z⟩
section
variable {X : Cx}
theorem setMO_get {pins : List (Addr × Obj)} {σ : L2.St} {H : Hp} {s : Shared} {a : Addr} {S : Key → Bool} {n : Nat} (I : Inv X pins σ H s) (z : H a = some (SetMO X.w a S n)) : SetM X.w s.heap a S n := (I.hok a _ z).1
theorem keys_vals : ∀ {ks : List Key} {us : List Value}, Vals (ks.map kV) us → KeysAre us ks
  | [], _, .nil => .nil
  | k :: ks, _, .cons h r => by
    refine .cons ?_ (keys_vals r)
    cases k with
    | inl i => obtain ⟨t, rfl⟩ := h; exact keyIs_int i t
    | inr x => obtain ⟨t, rfl⟩ := h; exact keyIs_str x t
def rSetM (K : Fg) (w : World) : List V → Hp → VK → Prop := fun xs H Q => ∃ (l : Addr) (ks : List Key), xs = [.ref l] ∧ SqL K H l (ks.map kV) ∧ ks.length + 1 < scanBound ∧ ∀ p c, H p = none → c ≤ ks.length → Q (.ref p) (upd H p (SetMO w p (inK ks) c))
theorem cr_setM (hc : X.calm = true) : CallR X (.type "set") (rSetM X.K X.w) := by
  intro pins s σ H vs us Q I r h
  obtain ⟨a, ks, rfl, hs, few, q⟩ := h
  obtain ⟨its, rv, hl, _⟩ := I.list hs
  rw [Vals.ref1 r]
  refine set_list_call ks (I.ok.hd hc) hl.isList (keys_vals rv) few fun h1 tk c R lc kp => ?_
  have hn : H s.heap.objs.size = none := I.hok.fresh (Nat.le_refl _)
  exact ⟨.ref _, _, I.laid kp (Nat.le_refl _) (setMO_new R), rfl, q _ c hn lc⟩
def rSortM (w : World) : List V → Hp → VK → Prop := fun vs H Q => ∃ (a : Addr) (S : Key → Bool) (n : Nat), vs = [.ref a] ∧ H a = some (SetMO w a S n) ∧ n < 64 ∧ (∀ k, S k = true → ∃ x, k = .inr x) ∧
  ∀ (ys : List Str) (p : Addr), sortedS ys = true → ys.Nodup → (∀ x, x ∈ ys ↔ S (.inr x) = true) → H p = none → Q (.ref p) (upd H p (.lst (ys.map V.str)))
theorem cr_sortM (hc : X.calm = true) : CallR X (.builtin "sorted") (rSortM X.w) := by
  intro pins s σ H vs us Q I r h
  obtain ⟨a, S, n, rfl, ha, h64, hs, q⟩ := h
  rw [Vals.ref1 r]
  refine sorted_setM (setMO_get I ha) (I.ok.hd hc) h64 hs fun s1 p out c ys k g o hp hg hi so nd hm hl => ?_
  have lz : (ys.map V.str).length ≤ sizeLine := by rw [List.length_map, hl, sizeLine_eq]; omega
  have hn : H p = none := I.hok.fresh hp
  have J : Inv X pins σ (upd H p (.lst (ys.map V.str))) { s with heap := s1.heap, gens := s1.gens, drawn := s1.drawn, toks := s1.toks } :=
    I.call (ch := []) (Un.laid k hp hn) (I.hok.laid k hp ⟨lz, out.toList, c, vals_of_strs hi, hg⟩) (by rw [g]; exact I.bare) (fun _ z => nomatch z)
  have e : s1 = { s with heap := s1.heap, gens := s1.gens, drawn := s1.drawn, toks := s1.toks } := by
    cases s1; cases s; cases o; rfl
  rw [e]
  exact ⟨.ref p, _, J, rfl, q ys p so nd hm hn⟩
def rSortN (w : World) : List V → Hp → VK → Prop := fun vs H Q => ∃ (a : Addr) (S : Key → Bool) (n : Nat), vs = [.ref a] ∧ H a = some (SetMO w a S n) ∧ n < 64 ∧ (∀ k, S k = true → ∃ x, k = .inl x) ∧
  ∀ (ys : List Int) (p : Addr), ys.Pairwise (· < ·) → (∀ x, x ∈ ys ↔ S (.inl x) = true) → H p = none → Q (.ref p) (upd H p (.lst (ys.map V.int)))
theorem cr_sortN (hc : X.calm = true) : CallR X (.builtin "sorted") (rSortN X.w) := by
  intro pins s σ H vs us Q I r h
  obtain ⟨a, S, n, rfl, ha, h64, hs, q⟩ := h
  rw [Vals.ref1 r]
  refine sorted_setI (setMO_get I ha) (I.ok.hd hc) h64 hs fun s1 p out c ys k g o hp hg hi so hm hl => ?_
  have lz : (ys.map V.int).length ≤ sizeLine := by rw [List.length_map, hl, sizeLine_eq]; omega
  have hn : H p = none := I.hok.fresh hp
  have J : Inv X pins σ (upd H p (.lst (ys.map V.int))) { s with heap := s1.heap, gens := s1.gens, drawn := s1.drawn, toks := s1.toks } :=
    I.call (ch := []) (Un.laid k hp hn) (I.hok.laid k hp ⟨lz, out.toList, c, vals_of_ints hi, hg⟩) (by rw [g]; exact I.bare) (fun _ z => nomatch z)
  have e : s1 = { s with heap := s1.heap, gens := s1.gens, drawn := s1.drawn, toks := s1.toks } := by
    cases s1; cases s; cases o; rfl
  rw [e]
  exact ⟨.ref p, _, J, rfl, q ys p so hm hn⟩
variable {ρ : Rho} {ω : Om} {Ψ : PsiE} {ε : PsiX} {e : Expr} {p1 p2 q1 q2 : Pos}
theorem strs_keys (xs : List Str) : xs.map V.str = (xs.map (Sum.inr : Str → Key)).map kV := by rw [List.map_map]; rfl
theorem ints_keys (xs : List Int) : xs.map V.int = (xs.map (Sum.inl : Int → Key)).map kV := by rw [List.map_map]; rfl
theorem ints_of_at {K : Fg} {P : Hp} {as : List Addr} : ∀ {vs : List V} {xs : List Int}, AtL K P as vs (xs.map Dt.int) → vs = xs.map V.int
  | [], [], _ => rfl
  | [], _ :: _, h => nomatch h
  | _ :: _, [], h => nomatch h
  | _ :: _, _ :: _, .cons h r => by cases h; rw [ints_of_at r, List.map_cons]
/-- sorted(set(e)), texts -/
theorem ev_sset (hc : X.calm = true) (m1 : X.mg "sorted" = none) (m2 : X.mg "set" = none)
    (h : EV X ρ ω e (fun d ω1 => ∃ xs : List Str, SqLst ω1 d (xs.map Dt.str) ∧ xs.length < 64 ∧ ∀ ys : List Str, sortedS ys = true → ys.Nodup → (∀ x, x ∈ ys ↔ x ∈ xs) → Ψ (.lst (ys.map Dt.str)) ω1) ε)
    (hg1 : Gl X "sorted" := by rfl) (hg2 : Gl X "set" := by rfl) (he : starEach [e] X.env = (false, eval e X.env) :: starEach [] X.env := by rfl) (hl : (backTo q2 (starEach [] X.env)).any (·.1) = false := by rfl)
    (he2 : starEach [Expr.Call (.Name "set" p2) [e] [] q2] X.env = (false, eval (Expr.Call (.Name "set" p2) [e] [] q2) X.env) :: starEach [] X.env := by rfl) (hl2 : (backTo q1 (starEach [] X.env)).any (·.1) = false := by rfl) :
    EV X ρ ω (.Call (.Name "sorted" p1) [.Call (.Name "set" p2) [e] [] q2] [] q1) Ψ ε := fun σ P H as Q w en xk q => by
  refine sE_of (pe_callB (cr_sortM hc) hg1 m1 (by decide +kernel) (pa_cons (pe_callTy (cr_setM hc) hg2 m2 (by decide +kernel) (pa_cons pE pa_nil he) (by decide) (by decide) he hl) pa_nil he2) (by decide) (by decide) he2 hl2) ?_
  refine h σ P H as _ w en xk fun v d ω1 P1 H1 as1 w1 g1 a1 z => ?_
  obtain ⟨xs, sq, few, z⟩ := z
  obtain ⟨a, vs, rfl, hs, r⟩ := sqRL w1 sq a1
  rw [strs_of r, strs_keys] at hs
  refine ⟨a, _, rfl, hs, by rw [List.length_map]; exact Nat.lt_trans (Nat.succ_lt_succ few) (by decide), fun p c hp lc => ?_⟩
  rw [List.length_map] at lc
  obtain ⟨w2, g2⟩ := w1.newH (o := SetMO X.w p (inK (xs.map Sum.inr)) c) hp
  refine ⟨p, _, c, rfl, upd_same, by omega, fun k hk => ?_, fun ys p3 so nd hm hp3 => ?_⟩
  · obtain ⟨x, _, e⟩ := List.mem_map.mp (inK_iff.mp hk)
    exact ⟨x, e.symm⟩
  obtain ⟨w3, g3⟩ := w2.newP (o := .lst (ys.map V.str)) hp3
  refine q _ _ ω1 _ _ as1 w3 ((g1.trans g2).trans g3) (.lst (.of upd_same) (strs_at ys)) (z ys so nd fun x => ?_)
  rw [hm x, inK_iff, List.mem_map]
  constructor
  · rintro ⟨y, hy, e⟩; rw [← Sum.inr.inj e]; exact hy
  · intro h; exact ⟨x, h, rfl⟩
/-- sorted(set(e)), ints -/
theorem ev_ssetI (hc : X.calm = true) (m1 : X.mg "sorted" = none) (m2 : X.mg "set" = none)
    (h : EV X ρ ω e (fun d ω1 => ∃ xs : List Int, SqLst ω1 d (xs.map Dt.int) ∧ xs.length < 64 ∧ ∀ ys : List Int, ys.Pairwise (· < ·) → (∀ x, x ∈ ys ↔ x ∈ xs) → Ψ (.lst (ys.map Dt.int)) ω1) ε)
    (hg1 : Gl X "sorted" := by rfl) (hg2 : Gl X "set" := by rfl) (he : starEach [e] X.env = (false, eval e X.env) :: starEach [] X.env := by rfl) (hl : (backTo q2 (starEach [] X.env)).any (·.1) = false := by rfl)
    (he2 : starEach [Expr.Call (.Name "set" p2) [e] [] q2] X.env = (false, eval (Expr.Call (.Name "set" p2) [e] [] q2) X.env) :: starEach [] X.env := by rfl) (hl2 : (backTo q1 (starEach [] X.env)).any (·.1) = false := by rfl) :
    EV X ρ ω (.Call (.Name "sorted" p1) [.Call (.Name "set" p2) [e] [] q2] [] q1) Ψ ε := fun σ P H as Q w en xk q => by
  refine sE_of (pe_callB (cr_sortN hc) hg1 m1 (by decide +kernel) (pa_cons (pe_callTy (cr_setM hc) hg2 m2 (by decide +kernel) (pa_cons pE pa_nil he) (by decide) (by decide) he hl) pa_nil he2) (by decide) (by decide) he2 hl2) ?_
  refine h σ P H as _ w en xk fun v d ω1 P1 H1 as1 w1 g1 a1 z => ?_
  obtain ⟨xs, sq, few, z⟩ := z
  obtain ⟨a, vs, rfl, hs, r⟩ := sqRL w1 sq a1
  have ev : vs = xs.map V.int := ints_of_at r
  rw [ev, ints_keys] at hs
  refine ⟨a, _, rfl, hs, by rw [List.length_map]; exact Nat.lt_trans (Nat.succ_lt_succ few) (by decide), fun p c hp lc => ?_⟩
  rw [List.length_map] at lc
  obtain ⟨w2, g2⟩ := w1.newH (o := SetMO X.w p (inK (xs.map Sum.inl)) c) hp
  refine ⟨p, _, c, rfl, upd_same, by omega, fun k hk => ?_, fun ys p3 so hm hp3 => ?_⟩
  · obtain ⟨x, _, e⟩ := List.mem_map.mp (inK_iff.mp hk)
    exact ⟨x, e.symm⟩
  obtain ⟨w3, g3⟩ := w2.newP (o := .lst (ys.map V.int)) hp3
  refine q _ _ ω1 _ _ as1 w3 ((g1.trans g2).trans g3) (.lst (.of upd_same) (ints_at ys)) (z ys so fun x => ?_)
  rw [hm x, inK_iff, List.mem_map]
  constructor
  · rintro ⟨y, hy, e⟩; rw [← Sum.inl.inj e]; exact hy
  · intro h; exact ⟨x, h, rfl⟩
end
end NM
namespace NM
open PySem PySem.Spec PyProof.Rows L2
section
variable {X : Cx} {ρ : Rho} {ω : Om} {Ψ : PsiE} {ε : PsiX} {Φ : Post} {e a b c : Expr} {pos : Pos}
/-- a method by keywords -/
structure MtK (X : Cx) (C : Addr) (m : Str) (ks : List Str) (gD : List Dt → List Dt → List Dt) (sp : DSp) : Prop where
  ex : ∃ f fd k ps, Cls X.K C ∧ Meth X.K C m f ∧ FnP X.prog X.w X.K X.mg X.base k f fd ps sp ∧ KB X.K fd ps 1 ks gD ∧ Rm k X.A
theorem sm_callK {o : Expr} {m : Str} {apos : Pos} {kws : List Keyword} {ks : List Str} {pl : Sem Bool} (h : EV X ρ ω o (fun x ω1 => ∃ C ns ds gD sp, Ob ω1 x C ns ds ∧ m ∉ ns ∧ MtK X C m ks gD sp ∧ EK X ρ ω1 kws (fun zs ω2 => zs.length = ks.length ∧ sp (gD [x] zs) ω2 Ψ ε) ε) ε)
    (hall : (backToKw pos (keywordEach kws X.env)).all (·.1.isSome) = true := by rfl) (hks : (backToKw pos (keywordEach kws X.env)).filterMap (·.1) = ks := by rfl)
    (hpl : ((backTo pos (starEach [] X.env)).any (·.1) || (backToKw pos (keywordEach kws X.env)).any (·.1.isNone)) = false := by rfl)
    (ht : eval (.Call (.Attribute o m apos) [] kws pos) X.env = (do
      let ov ← eval o X.env
      standAt apos.atName
      let (f, first) ← holding [ov] (getMethod ov m pl)
      callWith pos f first (backTo pos (starEach [] X.env)) (backToKw pos (keywordEach kws X.env))) := by rfl) : EV X ρ ω (.Call (.Attribute o m apos) [] kws pos) Ψ ε := fun σ P H as Q w en xk q => by
  have z : sE X o σ H (fun x H1 => ∃ a dx C fs gV sp, x = .ref a ∧ H1 a = some (.ins C dx fs) ∧ fs.lookup m = none ∧ (∃ f fd k ps g, Cls X.K C ∧ Meth X.K C m f ∧ FnP X.prog X.w X.K X.mg X.base k f fd ps sp ∧ KBn X.K fd ps 1 ks g gV ∧ Rm k X.A) ∧ sK X kws σ H1 (fun zs H2 => zs.length = ks.length ∧ ∃ W, Takes X W ∧ lift X.K sp (gV [x] zs) H2 Q (fun cls dx H' => W cls dx σ H'))) :=
    h σ P H as _ w en xk fun v d ω1 P1 H1 as1 w1 g1 a1 p => by
      obtain ⟨C, ns, ds, gD, sp, ob, nm, ⟨f, fd, k, ps, cl, mt, F, hb, hr⟩, p⟩ := p
      obtain ⟨g, gV, hb1, hb2⟩ := hb.ex
      obtain ⟨a, dx, fs, rfl, h1, e1, r1⟩ := ob_at w1 ob a1
      refine ⟨a, dx, C, fs, gV, sp, rfl, h1, ?_, ⟨f, fd, k, ps, g, cl, mt, F, hb1, hr⟩, ?_⟩
      · cases hl : fs.lookup m with
        | none => rfl
        | some u => exact absurd (e1 ▸ List.mem_map.mpr ⟨(m, u), PySem.mem_of_lookup hl, rfl⟩) nm
      · exact p σ P1 H1 as1 _ w1 (en.mono g1.p g1.a) (xk.later g1) fun vs ds ω2 P2 H2 as2 w2 g2 a2 p2 =>
          ⟨by rw [a2.length]; exact p2.1, lift_of w2 (hb2 (.cons (a1.mono g2.p g2.a) .nil) a2) (xk.later (g1.trans g2)) p2.2 fun v d ω' P' H' as' w' g' a' k => q v d ω' P' H' as' w' ((g1.trans g2).trans g') a' k⟩
  refine .mk fun pins s I => PySem.W.methodCall_KW (pl := pl) (thn (z.run pins s I) fun u s1 ⟨x, H1, I1, rx, a, dx, C, fs, gV, sp, ex, ea, l, ⟨f, fd, k, ps, g, cl, mt, F, hb1, hr⟩, q⟩ => ?_) ht
  subst ex
  obtain rfl : u = Value.ref a := rx
  refine getmeth_ok I1 ea cl mt l ?_
  refine PySem.W.callWith_KW0 (first := [.ref a]) (h₀ := X.base) I.ok.mod.kin mt.kp hall (thn (q.run pos pins s1 I1) fun us s2 ⟨vs, H2, I2, r, l1, W, tk, q2⟩ => ⟨I2.kIn, ?_⟩) hpl
  rw [hks]
  exact run_fnD (us := [.ref a]) (vs := [.ref a]) F.ok hr hb1 I2 tk (.cons rfl .nil) r rfl l1 q2
theorem es_par3 (i j l : Nat) {x y z : Str} {px py pz pt : Pos} {kt k2 : Nat} {pt2 : Pos} (h : EA X ρ ω [a, b, c] (fun ds ω1 => ∃ d1 d2 d3, ds = [d1, d2, d3] ∧ Φ.nx (((ρ.set i (some d1)).set j (some d2)).set l (some d3)) ω1) (fun y ω' => Φ.xc y ρ ω'))
    (hp : PS X (.Assign [.Tuple [.Name x px, .Name y py, .Name z pz] kt pt] (.Tuple [a, b, c] k2 pt2) pos) (tPar3 i j l (sA X [a, b, c]))) : ES X ρ ω (.Assign [.Tuple [.Name x px, .Name y py, .Name z pz] kt pt] (.Tuple [a, b, c] k2 pt2) pos) Φ := fun σ P H as D w en z => by
  refine sS_of hp (h σ P H as _ w en (z.xk en) fun vs ds ω1 P1 H1 as1 w1 g1 al p => ?_)
  obtain ⟨d1, d2, d3, rfl, p⟩ := p
  cases al with
  | cons h1 r =>
    obtain ⟨v2, v3, rfl, a2, a3⟩ := two_of r
    exact ⟨_, _, _, rfl, z.nx _ _ ω1 P1 H1 as1 w1 g1 ((((en.mono g1.p g1.a).set i h1).set j a2).set l a3) p⟩
theorem xkF {P H : Hp} {as : List Addr} {σ : L2.St} : Xk X ω P H as σ F0 := ⟨fun _ _ _ _ => False, takes0, fun _ _ _ _ _ _ _ _ _ _ z => z.elim⟩
/-- x op= e -/
theorem es_aug (i : Nat) {x : Str} {pos' : Pos} {op : Operator} {d : Dt} (hN : X.N.Nodup) (hr : ρ[i]? = some (some d)) (h : EV X ρ ω e (fun y ω1 => OD X (inplaceOp op) d y ω1 (fun z ω2 => Φ.nx (ρ.set i (some z)) ω2) F0) (fun y ω' => Φ.xc y ρ ω')) (hi : X.N[i]? = some x := by rfl) (hx : Loc X.env.scope x := by first | exact Or.inl rfl | exact Or.inr rfl)
    (hf : X.fn x = true ∨ X.env.scope.names.lookup x = some .local := by first | exact .inl rfl | exact .inr rfl) : ES X ρ ω (.AugAssign (.Name x pos') op e pos) Φ := fun σ P H as D w en z => by
  obtain ⟨v, hv, av⟩ := en.get i d hr
  refine sS_of (ps_aug hN hi hx pE (ti := fun x y H Q => ∀ pins s σ v u, Inv X pins σ H s → RelV x v → RelV y u → wpAny (model X.prog X.w) X.A (inplaceOp op v u) (EP X pins σ Q) X.xe s) (fun pins s σ H x y v u Q I rx ry t => t pins s σ v u I rx ry) hf) ⟨v, hv, ?_⟩
  refine h σ P H as _ w en (z.xk en) fun vy y ω1 P1 H1 as1 w1 g1 a1 o => ?_
  intro pins s σ1 v1 u I rx ry
  refine (o σ1 v vy P1 H1 as1 _ w1 (av.mono g1.p g1.a) a1 xkF fun vz dz ω2 P2 H2 as2 w2 g2 a2 k => ?_).run pins s v1 u I rx ry
  exact z.nx _ _ ω2 P2 H2 as2 w2 (g1.trans g2) ((en.mono (g1.trans g2).p (g1.trans g2).a).set i a2) k
end
section
open PySem.W
theorem fillsI_K {K : Frag} {M : Model} {h : Heap} {C : Addr} {nm : String} {add : Bool} {cd : ClassData} (X : K.In h) (hc : clsIn K C = some cd) (hm : cd.mro = [.ref C, .type "object"]) (hs : findIn K (.ref C) (dunderI nm) = some none) (hob : typeLookup (.type "object") (dunderI nm) = pure none) : Looks M h (fillsInplaceSlot (.ref C) nm add) false := by
  intro A Q E s k q
  unfold fillsInplaceSlot
  refine wpAny_bind ((looks_clsIn X hc).andThen (f := fun cd => pure cd.mro) .now A _ E s k ?_)
  rw [hm, List.anyM_cons]
  refine wpAny_bind (wpAny_bind (looks_findIn X hs A _ E s k (wpAny_pure ?_)))
  rw [if_neg (by decide), List.anyM_cons]
  refine wpAny_bind (wpAny_bind ?_)
  rw [hob]
  refine wpAny_pure (wpAny_pure ?_)
  rw [if_neg (by decide)]
  exact wpAny_pure q
theorem inop_K {prog : Program} {w : World} {A : Around} {E : Value → Shared → Prop} {s : Shared} {K : Frag} {x C L f : Addr} {h0 : Heap} {m : Str → Option Value} {ox : Obj} {od : Option Obj} {op : Operator} {b : Value} {cd : ClassData} {Q : Value → Shared → Prop} (F : Fr h0 L s.heap m) (X0 : K.In h0) (I : InstAt s.heap x ox C od) (hb : Looks (model prog w) s.heap (typeOf b) (.ref C))
    (hc : clsIn K C = some cd) (hm : cd.mro = [.ref C, .type "object"]) (hi : findIn K (.ref C) (dunderI op.info.2) = some none) (hob : typeLookup (.type "object") (dunderI op.info.2) = pure none)
    (hs : findIn K (.ref C) (PySem.dunder op.info.2) = some (some (.ref f))) (hf : isFn K (.ref f) = true)
    (h : wpAny (model prog w) A (call (.ref f) [.ref x, b]) (PySem.W.CmpBack Q) E s) : wpAny (model prog w) A (inplaceOp op (.ref x) b) Q E s := by
  have X := X0.keeps F.keep
  unfold inplaceOp
  refine wpAny_holding (wpAny_bind (I.type.here (wpAny_bind ((fillsI_K X hc hm hi hob).here ?_))))
  rw [if_neg (by decide)]
  refine wpAny_bind ?_
  unfold binaryOp1
  refine wpAny_bind (I.type.here (wpAny_bind (hb.here (wpAny_bind ((fills_K X hc hm hs).here ?_)))))
  simp only [beq_self_eq_true, if_true]
  refine wpAny_bind (wpAny_pure ?_)
  simp only [Bool.and_false, Bool.false_eq_true, if_false, Bool.false_and]
  refine wpAny_bind (wpAny_pure ?_)
  simp only [Bool.false_eq_true, if_false]
  refine wpAny_bind (m := tryMethod (.ref x) _ b) ?_
  unfold tryMethod
  refine wpAny_bind (special_fn X I hs (beq_iff_eq.mp hf) (wpAny_mono h (fun v s1 hv => ?_) fun _ _ e => e))
  cases v <;> first | exact hv.elim | exact wpAny_pure (wpAny_pure (wpAny_pure hv))
end
section
variable {X : Cx} {ρ : Rho} {ω : Om} {Ψ : PsiE} {ε : PsiX}
/-- what a class that stands below object alone has for op= -/
structure InC (K : Fg) (C : Addr) (op : Operator) : Prop where
  ex : ∃ cd, PySem.W.clsIn K C = some cd ∧ cd.mro = [.ref C, .type "object"]
  no : PySem.W.findIn K (.ref C) (dunderI op.info.2) = some none
  ob : typeLookup (.type "object") (dunderI op.info.2) = pure none
theorem od_inO {op : Operator} {x y : Dt} {C : Addr} {ns : List Str} {ds : List Dt} {gD : List Dt → List Dt → List Dt} {sp : DSp} (ob : Ob ω x C ns ds) (S : SpD X C (PySem.dunder op.info.2) 2 gD sp) (hy : TyD X.K ω y (.ref C)) (hc : InC X.K C op)
    (h : sp (gD [x, y] []) ω (fun d ω' => (∃ C ns ds, d = .obj C ns ds) ∧ Ψ d ω') ε) : OD X (inplaceOp op) x y ω Ψ ε := fun σ vx vy P H as Q w ax ay xk q => .mk fun pins s v u I rx ry => by
  obtain ⟨f, fd, k, ps, hs, hf, F, hb, hr⟩ := S.ex
  obtain ⟨g, gV, hb1, hb2⟩ := hb.ex
  obtain ⟨c, dx, fs, rfl, h1, e1, r1⟩ := ob_at w ob ax
  cases rx
  obtain ⟨mA, J, _⟩ := ins_get I.hok h1
  obtain ⟨od, J, _⟩ := J.look
  obtain ⟨m, hF⟩ := I.fr
  obtain ⟨cd, c1, c2⟩ := hc.ex
  obtain ⟨W, tk, z⟩ := lift_of (σ := σ) (Q := fun v H' => (∃ k, v = .ref k) ∧ Q v H') w (hb2 (.cons ax (.cons ay .nil)) .nil) xk h fun v d ω' P' H' as' w' g' a' p => by
    obtain ⟨⟨C', ns', ds', rfl⟩, p⟩ := p
    refine ⟨?_, q _ _ ω' P' H' as' w' g' a' p⟩
    cases a'
    exact ⟨_, rfl⟩
  refine inop_K hF I.ok.mod.kin J (looks_ty I ry (tyx_at w hy ay)) c1 c2 hc.no hc.ob hs hf ?_
  refine wpAny_mono (run_at (us := [.ref c, u]) (vs := [.ref c, vy]) F.ok (hr.mono (by omega)) rfl hb1 I tk (.cons rfl (.cons ry .nil)) rfl z) (fun v s' hv => ?_) fun _ _ x => x
  obtain ⟨v', H', I', rv, ⟨k, rfl⟩, qq⟩ := hv
  cases rv
  exact ⟨.ref k, H', I', rfl, qq⟩
theorem md_extend {n m : Nat} {ds es : List Dt} (hn : ω[n]? = some (.lst ds)) (hm : ω[m]? = some (.lst es)) (hz : ds.length + es.length ≤ sizeLine) (h : Ψ .non (ω.set n (.lst (ds ++ es)))) : MD X "list.extend" (.own n) [.own m] ω Ψ := ⟨_, mt_extend, fun vx vs P H as Q w ax al k => by
  obtain ⟨v, rfl, av⟩ := one_of al
  obtain ⟨a, us, rfl, ha, hp, hh, r⟩ := seqO w ax hn
  obtain ⟨b, ts, rfl, hb, hp2, hh2, r2⟩ := seqO w av hm
  refine ⟨a, b, us, ts, rfl, rfl, hh, hh2, by rw [r.length, r2.length]; exact hz, ?_⟩
  obtain ⟨w2, g2⟩ := w.turn (u := .lst (ds ++ es)) (ho := .lst (us ++ ts)) hn ha hp ⟨hp, _, upd_same, r.append r2⟩
  exact k _ _ _ _ _ _ w2 g2 .non h⟩
theorem eqv_tup (xs ys : List Str) : PyData.eqv (.tuple (xs.map PyData.str)) (.tuple (ys.map PyData.str)) = decide (xs = ys) := by
  have := eqv_strs xs ys
  simp only [PyData.eqv]
  exact this
theorem od_neLb (b1 b2 : Nat) {d e : Dt} {xs ys : List Str} (h1 : d = .lst (xs.map Dt.str)) (h2 : e = .lst (ys.map Dt.str)) (hx : ∀ x ∈ xs, Asc x ∧ x.length ≤ b1) (hy : ∀ x ∈ ys, Asc x ∧ x.length ≤ b2) (hu : X.A.units + 64 < cLine) (h : Ψ (.bl (!decide (xs = ys))) ω) : OD X (compareOp .NotEq) d e ω Ψ ε := by
  subst h1 h2
  exact od_neN (.lst (py_strs xs)) (.lst (py_strs ys)) (Nice.lst (n := 59) ((nice_strs (b := b1) hx).mono (by decide) (Nat.le_refl _))) (Nice.lst (n := 59) ((nice_strs (b := b2) hy).mono (by decide) (Nat.le_refl _))) hu (by rw [eqv_lst]; exact h)
theorem od_neTb (b1 b2 : Nat) {d e : Dt} {xs ys : List Str} (h1 : d = .tup (xs.map Dt.str)) (h2 : e = .tup (ys.map Dt.str)) (hx : ∀ x ∈ xs, Asc x ∧ x.length ≤ b1) (hy : ∀ x ∈ ys, Asc x ∧ x.length ≤ b2) (hu : X.A.units + 64 < cLine) (h : Ψ (.bl (!decide (xs = ys))) ω) : OD X (compareOp .NotEq) d e ω Ψ ε := by
  subst h1 h2
  exact od_neN (.tup (py_strs xs)) (.tup (py_strs ys)) (Nice.tup (n := 59) ((nice_strs (b := b1) hx).mono (by decide) (Nat.le_refl _))) (Nice.tup (n := 59) ((nice_strs (b := b2) hy).mono (by decide) (Nat.le_refl _))) hu (by rw [eqv_tup]; exact h)
end
theorem kb_n {K : Fg} {x qual : Str} {params : Arguments} {body : List Stmt} {scope : Scope} {kws : List (Str × V)} {f : Addr} {fd : FuncData} {ps : List Str} (F : FunD K x qual params body scope [] kws f fd) (n : Nat) (ks : List Str) (g : {α : Type} → List α → List α → List α) (gD : List Dt → List Dt → List Dt)
    (hrel : ∀ {vs zs : List V} {us ws : List Value}, Vals vs us → Vals zs ws → Vals (g vs zs) (g us ws))
    (h : ∀ (kV doc pm : Value) (an : Option Addr) (cdv ct : Value) (us ws : List Value), us.length = n → ws.length = ks.length → bindArgs (PySem.W.fnOf x qual params body scope .none kV doc pm an cdv ct) ⟨us, ks.zip ws⟩ = pure (ps.zip (g us ws)))
    (hD : ∀ {P : Hp} {as : List Addr} {vs zs : List V} {ds es : List Dt}, AtL K P as vs ds → AtL K P as zs es → AtL K P as (g vs zs) (gD ds es)) : KB K fd ps n ks gD := by
  obtain ⟨oc, od, dV, kV, doc, pm, an, cdv, ct, osl, rfl, lk, hcd, hd, hk⟩ := F.ex
  rcases hd with ⟨_, rfl⟩ | ⟨e, _⟩
  · exact ⟨g, g, ⟨fun s us ws _ l1 l2 => BindsTo.of_eq (h kV doc pm an cdv ct us ws l1 l2), hrel⟩, hD⟩
  · exact absurd rfl e
/-- methods by keywords, over any place -/
structure MtKG (P : Program) (w : World) (K : Fg) (mg : Str → Option Value) (base : Heap) (C : Addr) (m : Str) (k : Nat) (ks : List Str) (gD : List Dt → List Dt → List Dt) (sp : DSp) : Prop where
  ex : ∃ f fd ps, Cls K C ∧ Meth K C m f ∧ FnP P w K mg base k f fd ps sp ∧ KB K fd ps 1 ks gD
theorem MtKG.d {X : Cx} {C : Addr} {m : Str} {k : Nat} {ks : List Str} {gD : List Dt → List Dt → List Dt} {sp : DSp} (S : MtKG X.prog X.w X.K X.mg X.base C m k ks gD sp) (hr : Rm k X.A) : MtK X C m ks gD sp :=
  let ⟨f, fd, ps, h0, h1, h2, h3⟩ := S.ex; ⟨f, fd, k, ps, h0, h1, h2, h3, hr⟩
theorem dun_iadd : dunderI (Operator.info .Add).2 = ("__iadd__" : Str) := by decide +kernel
theorem dun_ior : dunderI (Operator.info .BitOr).2 = ("__ior__" : Str) := by decide +kernel
theorem dun_iand : dunderI (Operator.info .BitAnd).2 = ("__iand__" : Str) := by decide +kernel
theorem ob_iadd : typeLookup (.type "object") "__iadd__" = pure none := by rw [typeLookup_type, builtinLookup_eq_fast]; kernel_rfl
theorem ob_ior : typeLookup (.type "object") "__ior__" = pure none := by rw [typeLookup_type, builtinLookup_eq_fast]; kernel_rfl
theorem ob_iand : typeLookup (.type "object") "__iand__" = pure none := by rw [typeLookup_type, builtinLookup_eq_fast]; kernel_rfl
theorem inc_add {K : Fg} {C : Addr} {cd : ClassData} (h1 : PySem.W.clsIn K C = some cd) (h2 : cd.mro = [.ref C, .type "object"]) (h3 : PySem.W.findIn K (.ref C) "__iadd__" = some none) : InC K C .Add := ⟨⟨cd, h1, h2⟩, by rw [dun_iadd]; exact h3, by rw [dun_iadd]; exact ob_iadd⟩
theorem inc_or {K : Fg} {C : Addr} {cd : ClassData} (h1 : PySem.W.clsIn K C = some cd) (h2 : cd.mro = [.ref C, .type "object"]) (h3 : PySem.W.findIn K (.ref C) "__ior__" = some none) : InC K C .BitOr := ⟨⟨cd, h1, h2⟩, by rw [dun_ior]; exact h3, by rw [dun_ior]; exact ob_ior⟩
theorem inc_and {K : Fg} {C : Addr} {cd : ClassData} (h1 : PySem.W.clsIn K C = some cd) (h2 : cd.mro = [.ref C, .type "object"]) (h3 : PySem.W.findIn K (.ref C) "__iand__" = some none) : InC K C .BitAnd := ⟨⟨cd, h1, h2⟩, by rw [dun_iand]; exact h3, by rw [dun_iand]; exact ob_iand⟩
end NM
namespace NM
open PySem PySem.Spec PyProof.Rows L2
theorem nk_tup {ds : List Dt} {k : NestedKey} (h : nkO (.tup ds) = some k) : ∃ ks, k = .tup ks ∧ nkO.nkL ds = some ks := by
  unfold nkO at h
  obtain ⟨ks, e, rfl⟩ := Option.map_eq_some_iff.mp h
  exact ⟨ks, rfl, e⟩
theorem nk_cons {d : Dt} {ds : List Dt} {ks : List NestedKey} (h : nkO.nkL (d :: ds) = some ks) : ∃ k r, ks = k :: r ∧ nkO d = some k ∧ nkO.nkL ds = some r := by
  unfold nkO.nkL at h
  split at h
  · rename_i k r h1 h2
    cases h
    exact ⟨k, r, rfl, h1, h2⟩
  · cases h
section
variable {X : Cx} {pins : List (Addr × Obj)} {σ : L2.St} {H P : Hp} {as : List Addr} {s : Shared}
mutual
/-- a thing that is a key, in the heap -/
theorem nested_at (I : Inv X pins σ H s) (sub : Same P H) : ∀ {v : V} {d : Dt} {u : Value} {k : NestedKey}, At X.K P as v d → RelV v u → nkO d = some k → NestedIs s.heap k u
  | _, _, u, k, .non, r, h => by
    cases (show u = Value.none from r); unfold nkO at h; cases h; exact .none
  | _, _, u, k, .bl b, r, h => by
    cases (show u = Value.bool b from r); unfold nkO at h; cases h; exact .bool rfl
  | _, _, u, k, .int i, r, h => by
    obtain ⟨t, rfl⟩ := r; unfold nkO at h; cases h; exact .int i t
  | _, _, u, k, .str x, r, h => by
    obtain ⟨t, rfl⟩ := r; unfold nkO at h; cases h; exact .text x t
  | _, _, u, k, .tup q rl, r, h => by
    obtain ⟨ks, rfl, h2⟩ := nk_tup h
    obtain ⟨its, rv, ⟨o, ho, hc, n, hd⟩, _⟩ := I.tuple (same_t sub q)
    cases r
    exact .tup ho hc hd (by simpa using nested_all I sub rl rv h2)
  | _, _, u, k, .ty n, r, h => by unfold nkO at h; cases h
  | _, _, u, k, .ref n, r, h => by unfold nkO at h; cases h
  | _, _, u, k, .own n, r, h => by unfold nkO at h; cases h
  | _, _, u, k, .lst _ _, r, h => by unfold nkO at h; cases h
  | _, _, u, k, .obj _ _ _, r, h => by unfold nkO at h; cases h
  | _, _, u, k, .dic _ _ _ _, r, h => by unfold nkO at h; cases h
theorem nested_all (I : Inv X pins σ H s) (sub : Same P H) : ∀ {vs : List V} {ds : List Dt} {us : List Value} {ks : List NestedKey}, AtL X.K P as vs ds → Vals vs us → nkO.nkL ds = some ks → NestedAll s.heap ks us
  | _, _, _, _, .nil, .nil, h => by unfold nkO.nkL at h; cases h; exact .nil
  | _, _, _, _, .cons a r, .cons b q, h => by
    obtain ⟨k, ks, rfl, h1, h2⟩ := nk_cons h
    exact .cons (nested_at I sub a b h1) (nested_all I sub r q h2)
end
/-- keys, places and values side by side -/
def zip3 (ks : List (NestedKey × Addr)) (us : List Value) : List (NestedKey × Addr × Value) := (ks.zip us).map fun x => (x.1.1, x.1.2, x.2)
theorem zip3_keys : ∀ {ks : List (NestedKey × Addr)} {us : List Value}, ks.length = us.length → (zip3 ks us).map (·.1) = ks.map (·.1)
  | [], [], _ => rfl
  | [], _ :: _, h => by simp at h
  | _ :: _, [], h => by simp at h
  | k :: ks, u :: us, h => by
    have := zip3_keys (ks := ks) (us := us) (by simpa using h)
    unfold zip3 at this ⊢
    simp only [List.zip_cons_cons, List.map_cons, this]
theorem zip3_mem {ks : List (NestedKey × Addr)} {us : List Value} {x : NestedKey × Addr × Value} (h : x ∈ zip3 ks us) : (x.1, x.2.1) ∈ ks := by
  unfold zip3 at h
  obtain ⟨y, hy, rfl⟩ := List.mem_map.mp h
  exact (List.of_mem_zip hy).1
theorem keys_nested (I : Inv X pins σ H s) (sub : Same P H) : ∀ {ks : List (NestedKey × Addr)} {kds : List Dt}, kds.map nkO = (ks.map fun k => some k.1) → AtL X.K P as (ks.map fun k => V.ref k.2) kds → ∀ k ∈ ks, NestedIs s.heap k.1 (.ref k.2)
  | [], _, _, _, k, hk => nomatch hk
  | k :: ks, [], h, _, _, _ => by simp at h
  | k :: ks, d :: kds, h, .cons a r, j, hj => by
    rw [List.map_cons, List.map_cons] at h
    injection h with h1 h2
    rcases List.mem_cons.mp hj with rfl | hj
    · exact nested_at I sub a rfl h1
    · exact keys_nested I sub h2 r j hj
/-- what a dict of ours is in the heap -/
theorem dn_at (I : Inv X pins σ H s) (sub : Same P H) {a : Addr} {ks : List (NestedKey × Addr)} {vs : List V} {kds : List Dt} (h : H a = some (DN X.prog X.w a ks vs)) (n : kds.map nkO = (ks.map fun k => some k.1)) (rk : AtL X.K P as (ks.map fun k => V.ref k.2) kds) :
    ∃ us, Vals vs us ∧ s.heap.DictOfH (nestedKind X.prog X.w) a (zip3 ks us) ∧ (a == sysModules) = false ∧ ks.length = us.length ∧ (∀ k ∈ ks, k.1.depth ≤ 8) ∧ ks.length ≤ sizeLine := by
  obtain ⟨us, o, es, ep, rv, ho, hx, hd, he, hl, nd, sm, dp, sz⟩ := (I.hok a _ h).1
  have hlu : ks.length = us.length := by rw [hl, rv.length]
  refine ⟨us, rv, ⟨o, es, ep, ho, hx, hd, by rw [he]; unfold zip3; rw [List.map_map]; rfl, fun x hx2 => ?_, by rw [zip3_keys hlu]; exact nd⟩, sm, hlu, dp, sz⟩
  have m := zip3_mem hx2
  exact ⟨keys_nested I sub n rk _ m, dp _ m⟩
end
/-- d[k], by data -/
def dGet (k : NestedKey) : List Dt → List Dt → Option Dt
  | kd :: kds, vd :: vds => if nkO kd = some k then some vd else dGet k kds vds
  | _, _ => none
theorem dGet_at {K : Fg} {P : Hp} {as : List Addr} {k : NestedKey} : ∀ {ks : List (NestedKey × Addr)} {vs : List V} {us : List Value} {kds vds : List Dt}, kds.map nkO = (ks.map fun k => some k.1) → Vals vs us → AtL K P as vs vds → ks.length = us.length →
    (dGet k kds vds = none ∧ atKey (zip3 ks us) k = none) ∨ ∃ vd b u v, dGet k kds vds = some vd ∧ atKey (zip3 ks us) k = some (b, u) ∧ RelV v u ∧ At K P as v vd
  | [], _, us, [], vds, _, _, _, _ => .inl ⟨by unfold dGet; rfl, by unfold zip3; simp [atKey]⟩
  | [], _, _, _ :: _, _, h, _, _, _ => by simp at h
  | _ :: _, _, _, [], _, h, _, _, _ => by simp at h
  | k0 :: ks, [], us, _ :: _, _, _, rv, _, hl => by cases rv; simp at hl
  | k0 :: ks, v :: vs, _, kd :: kds, _, h, .cons r rv, .cons a rl, hl => by
    rename_i u us vd vds
    rw [List.map_cons, List.map_cons] at h
    injection h with h1 h2
    have hz : zip3 (k0 :: ks) (u :: us) = (k0.1, k0.2, u) :: zip3 ks us := by unfold zip3; rw [List.zip_cons_cons, List.map_cons]
    rw [hz]
    by_cases e : k0.1 = k
    · refine .inr ⟨vd, k0.2, u, v, ?_, ?_, r, a⟩
      · unfold dGet; rw [if_pos (by rw [h1, e])]
      · unfold atKey; rw [List.find?_cons_of_pos (by simpa using e)]; rfl
    · have e1 : ¬ nkO kd = some k := fun q => e (by rw [h1] at q; exact Option.some.inj q)
      have e2 : atKey ((k0.1, k0.2, u) :: zip3 ks us) k = atKey (zip3 ks us) k := by unfold atKey; rw [List.find?_cons_of_neg (by simpa using e)]
      have e3 : dGet k (kd :: kds) (vd :: vds) = dGet k kds vds := by
        show (if nkO kd = some k then some vd else dGet k kds vds) = _
        rw [if_neg e1]
      rw [e2, e3]
      exact dGet_at h2 rv rl (by simpa using hl)
end NM
namespace NM
open PySem PySem.Spec PyProof.Rows L2
/-- a dict, ours or data -/
inductive DnD (ω : Om) : Dt → Program → World → List Dt → List Dt → Prop
  | own {n : Nat} {pr : Program} {w : World} {ks vs : List Dt} (h : ω[n]? = some (.dkn pr w ks vs)) : DnD ω (.own n) pr w ks vs
  | dic (pr : Program) (w : World) (ks vs : List Dt) : DnD ω (.dic pr w ks vs) pr w ks vs
/-- one of some values otherwise -/
def rep {α : Type} (x : α) : List Bool → List α → List α
  | b :: bs, y :: ys => (if b = true then x else y) :: rep x bs ys
  | _, ys => ys
theorem rep_len {α : Type} {x : α} : ∀ {bs : List Bool} {ys : List α}, (rep x bs ys).length = ys.length
  | [], ys => by unfold rep; rfl
  | _ :: _, [] => by unfold rep; rfl
  | b :: bs, y :: ys => by unfold rep; rw [List.length_cons, List.length_cons, rep_len]
theorem rep_vals {v : V} {u : Value} (r : RelV v u) : ∀ {bs : List Bool} {vs : List V} {us : List Value}, Vals vs us → Vals (rep v bs vs) (rep u bs us)
  | [], _, _, h => by unfold rep; exact h
  | _ :: _, _, _, .nil => by unfold rep; exact .nil
  | b :: bs, _, _, .cons h q => by
    unfold rep
    cases b
    · exact .cons h (rep_vals r q)
    · exact .cons r (rep_vals r q)
theorem rep_at {K : Fg} {P : Hp} {as : List Addr} {v : V} {d : Dt} (r : At K P as v d) : ∀ {bs : List Bool} {vs : List V} {ds : List Dt}, AtL K P as vs ds → AtL K P as (rep v bs vs) (rep d bs ds)
  | [], _, _, h => by unfold rep; exact h
  | _ :: _, _, _, .nil => by unfold rep; exact .nil
  | b :: bs, _, _, .cons h q => by
    unfold rep
    cases b
    · exact .cons h (rep_at r q)
    · exact .cons r (rep_at r q)
def hasB (k : NestedKey) (kds : List Dt) : List Bool := kds.map fun d => decide (nkO d = some k)
/-- d[k] = v, by data -/
def dPut (k : NestedKey) (kd vd : Dt) (kds vds : List Dt) : List Dt × List Dt := if (hasB k kds).any id = true then (kds, rep vd (hasB k kds) vds) else (kds ++ [kd], vds ++ [vd])
theorem has_keys {k : NestedKey} : ∀ {kds : List Dt} {ks : List (NestedKey × Addr)}, kds.map nkO = (ks.map fun k => some k.1) → hasB k kds = ks.map fun j => decide (j.1 = k)
  | [], [], _ => rfl
  | [], _ :: _, h => by simp at h
  | _ :: _, [], h => by simp at h
  | d :: kds, j :: ks, h => by
    rw [List.map_cons, List.map_cons] at h
    injection h with h1 h2
    have ih := has_keys (k := k) h2
    unfold hasB at ih ⊢
    rw [List.map_cons, List.map_cons, ih, h1]
    congr 1
    by_cases e : j.1 = k
    · rw [decide_eq_true e, decide_eq_true (by rw [e])]
    · rw [decide_eq_false e, decide_eq_false (fun q => e (Option.some.inj q))]
theorem zip3_rep {k : NestedKey} {u : Value} : ∀ {ks : List (NestedKey × Addr)} {us : List Value}, ks.length = us.length → zip3 ks (rep u (ks.map fun j => decide (j.1 = k)) us) = (zip3 ks us).map (putAt k u)
  | [], [], _ => rfl
  | [], _ :: _, h => by simp at h
  | _ :: _, [], h => by simp at h
  | j :: ks, x :: us, h => by
    have ih := zip3_rep (k := k) (u := u) (ks := ks) (us := us) (by simpa using h)
    have z : ∀ y ys, zip3 (j :: ks) (y :: ys) = (j.1, j.2, y) :: zip3 ks ys := fun y ys => by unfold zip3; rw [List.zip_cons_cons, List.map_cons]
    rw [List.map_cons]
    unfold rep
    rw [z, z, ih, List.map_cons]
    congr 1
    unfold putAt
    by_cases e : j.1 = k
    · simp [e]
    · simp [e]
theorem atKey_has {k : NestedKey} : ∀ {ks : List (NestedKey × Addr)} {us : List Value}, ks.length = us.length → (atKey (zip3 ks us) k).isSome = (ks.map fun j => decide (j.1 = k)).any id
  | [], [], _ => rfl
  | [], _ :: _, h => by simp at h
  | _ :: _, [], h => by simp at h
  | j :: ks, x :: us, h => by
    have ih := atKey_has (k := k) (ks := ks) (us := us) (by simpa using h)
    have z : zip3 (j :: ks) (x :: us) = (j.1, j.2, x) :: zip3 ks us := by unfold zip3; rw [List.zip_cons_cons, List.map_cons]
    rw [z, List.map_cons, List.any_cons]
    unfold atKey at ih ⊢
    by_cases e : j.1 = k
    · rw [List.find?_cons_of_pos (by simpa using e)]; simp [e]
    · rw [List.find?_cons_of_neg (by simpa using e), ih]; simp [e]
theorem zip3_snoc {ks : List (NestedKey × Addr)} {us : List Value} (h : ks.length = us.length) (k : NestedKey) (b : Addr) (u : Value) : zip3 (ks ++ [(k, b)]) (us ++ [u]) = zip3 ks us ++ [(k, b, u)] := by
  unfold zip3
  rw [List.zip_append h, List.map_append]; rfl
theorem dn_new {P : Program} {w : World} {H : Hp} {h : Heap} {a : Addr} {ks : List (NestedKey × Addr)} {vs : List V} {us : List Value} (rv : Vals vs us) (dd : h.DictOfH (nestedKind P w) a (zip3 ks us)) (hl : ks.length = us.length) (sm : (a == sysModules) = false) (dp : ∀ k ∈ ks, k.1.depth ≤ 8) (sz : ks.length ≤ sizeLine) : ObjOk P w H h a (DN P w a ks vs) := by
  obtain ⟨o, es, ep, h1, h2, h3, h4, _, h5⟩ := dd
  have hlv : ks.length = vs.length := by rw [hl, rv.length]
  refine ⟨⟨us, o, es, ep, rv, h1, h2, h3, by rw [h4]; unfold zip3; rw [List.map_map]; rfl, hlv, by rw [← zip3_keys hl]; exact h5, sm, dp, sz⟩, ⟨o, h1⟩, fun g1 g2 r z => ?_⟩
  obtain ⟨us, o, es, ep, rv, h1, r⟩ := r
  exact ⟨us, o, es, ep, rv, z o h1, r⟩
section
variable {X : Cx} {ρ : Rho} {ω : Om} {Ψ : PsiE} {ε : PsiX} {Φ : Post} {e f o i : Expr} {pos : Pos}
/-- {} -/
theorem ev_dn0 (h : Ψ (.own ω.length) (ω ++ [.dkn X.prog X.w [] []])) : EV X ρ ω (.Dict [] [] pos) Ψ ε := fun σ P H as Q w en xk q => .mk fun pins s I => by
  have hn := I.hok.fresh (Nat.le_refl s.heap.objs.size)
  have new : ObjOk X.prog X.w (upd H s.heap.objs.size (DN X.prog X.w s.heap.objs.size [] [])) (s.heap.push { cls := .type "dict", data := .dict #[] }) s.heap.objs.size (DN X.prog X.w s.heap.objs.size [] []) :=
    dn_new .nil (Heap.DictOfH.new s.heap) rfl (beq_eq_false_iff_ne.mpr (Ne.symm (Nat.ne_of_lt I.big))) (fun k hk => nomatch hk) (Nat.zero_le _)
  have J := I.laid (a := s.heap.objs.size) (t' := s.toks) (fun _ _ q => Heap.get?_push_of_some _ q) (Nat.le_refl _) new
  obtain ⟨w2, g2⟩ := w.newO (o := DN X.prog X.w s.heap.objs.size [] []) (u := .dkn X.prog X.w [] []) hn ⟨(w.fresh hn).2, [], [], upd_same, rfl, .nil, .nil⟩
  exact wpAny_Dict_empty ⟨.ref s.heap.objs.size, _, J, rfl, q _ _ _ _ _ _ w2 g2 (.own (by rw [← w.len]; simp)) h⟩
/-- what is read of a dict -/
theorem dn_read {pins : List (Addr × Obj)} {σ : L2.St} {H P : Hp} {as : List Addr} {s : Shared} (I : Inv X pins σ H s) (w : Ws X.K ω P H as) {d : Dt} {v : V} {kds vds : List Dt} (dd : DnD ω d X.prog X.w kds vds) (av : At X.K P as v d) :
    ∃ a ks vs us, v = .ref a ∧ H a = some (DN X.prog X.w a ks vs) ∧ kds.map nkO = (ks.map fun k => some k.1) ∧ AtL X.K P as (ks.map fun k => V.ref k.2) kds ∧ AtL X.K P as vs vds ∧ Vals vs us ∧ s.heap.DictOfH (nestedKind X.prog X.w) a (zip3 ks us) ∧ (a == sysModules) = false ∧ ks.length = us.length ∧ (∀ k ∈ ks, k.1.depth ≤ 8) ∧ ks.length ≤ sizeLine := by
  cases dd with
  | own h =>
    cases av with
    | own h1 =>
      obtain ⟨_, ks, vs, h2, n, rk, rv⟩ := w.own _ _ _ h h1
      obtain ⟨us, q⟩ := dn_at I w.sub h2 n rk
      exact ⟨_, ks, vs, us, rfl, h2, n, rk, rv, q.1, q.2⟩
  | dic =>
    cases av with
    | dic h n rk rv =>
      have h2 := w.sub _ _ h
      obtain ⟨us, q⟩ := dn_at I w.sub h2 n rk
      exact ⟨_, _, _, us, rfl, h2, n, rk, rv, q.1, q.2⟩
theorem key_ref {K : Fg} {P : Hp} {as : List Addr} {v : V} {ds : List Dt} (h : At K P as v (.tup ds)) : ∃ b, v = .ref b := by cases h; exact ⟨_, rfl⟩
/-- y in d -/
theorem od_in_dn {d : Dt} {ys kds vds : List Dt} {k : NestedKey} (dd : DnD ω d X.prog X.w kds vds) (hk : nkO (.tup ys) = some k) (h8 : k.depth ≤ 8) (hu : X.A.units + 64 < cLine) (h : Ψ (.bl (dGet k kds vds).isSome) ω) : OD X (compareOp .In) (.tup ys) d ω Ψ ε := fun σ vx vy P H as Q w ax ay xk q => .mk fun pins s v u I rx ry => by
  obtain ⟨a, ks, vs, us, rfl, hH, n, rk, rv, rvs, D, sm, hl, dp, sz⟩ := dn_read I w dd ay
  obtain ⟨b, rfl⟩ := key_ref ax
  cases ry
  have kx := nested_at I w.sub ax rx hk
  cases rx
  refine wpAny_in_heap (knd := nestedKind X.prog X.w) (show X.A.in1.units + 8 < cLine from by have : X.A.in1.units = X.A.units + 1 := rfl; omega) ⟨kx, h8⟩ sm D ?_
  have e : (atKey (zip3 ks us) k).isSome = (dGet k kds vds).isSome := by
    rcases dGet_at (k := k) n rvs rv hl with ⟨h1, h2⟩ | ⟨vd, b, u, v, h1, h2, _, _⟩
    · rw [h1, h2]; rfl
    · rw [h1, h2]; rfl
  rw [e]
  exact ⟨.bl _, H, I.tok _, rfl, q _ _ ω P H as w .refl (.bl _) h⟩
/-- d.get(y, z) -/
theorem ev_dgetN {apos cpos : Pos} (hu : X.A.units + 64 < cLine) (m : M2 X o "get" apos e f cpos) (h : EV X ρ ω o (fun d ω1 => (∃ k1 v1, DnD ω1 d X.prog X.w k1 v1) ∧ EV X ρ ω1 e (fun y ω2 => EV X ρ ω2 f (fun z ω3 => ∃ kds vds ys k, DnD ω3 d X.prog X.w kds vds ∧ y = .tup ys ∧ nkO y = some k ∧ k.depth ≤ 8 ∧ Ψ ((dGet k kds vds).getD z) ω3) ε) ε) ε) :
    EV X ρ ω (.Call (.Attribute o "get" apos) [e, f] [] cpos) Ψ ε := fun σ P H as Q w en xk q => by
  have z : sE X o σ H (fun x H1 => ∃ d ω1 P1 as1, Ws X.K ω1 P1 H1 as1 ∧ Gr P H as P1 H1 as1 ∧ At X.K P1 as1 x d ∧ (∃ k1 v1, DnD ω1 d X.prog X.w k1 v1) ∧ sE X e σ H1 (fun y H2 => sE X f σ H2 (fun zz H3 => ∃ P3 as3 ω3 dy dz kds vds ys k, Ws X.K ω3 P3 H3 as3 ∧ Gr P H as P3 H3 as3 ∧ At X.K P3 as3 x d ∧ At X.K P3 as3 y dy ∧ At X.K P3 as3 zz dz ∧ DnD ω3 d X.prog X.w kds vds ∧ dy = .tup ys ∧ nkO dy = some k ∧ k.depth ≤ 8 ∧ Ψ ((dGet k kds vds).getD dz) ω3))) :=
    h σ P H as _ w en xk fun v d ω1 P1 H1 as1 w1 g1 a1 p => by
      obtain ⟨dd, p⟩ := p
      refine ⟨d, ω1, P1, as1, w1, g1, a1, dd, ?_⟩
      refine p σ P1 H1 as1 _ w1 (en.mono g1.p g1.a) (xk.later g1) fun v2 d2 ω2 P2 H2 as2 w2 g2 a2 p2 => ?_
      have g12 := g1.trans g2
      refine p2 σ P2 H2 as2 _ w2 (en.mono g12.p g12.a) (xk.later g12) fun v3 d3 ω3 P3 H3 as3 w3 g3 a3 p3 => ?_
      obtain ⟨kds, vds, ys, k, q1, q2, q3, q4, q5⟩ := p3
      exact ⟨P3, as3, ω3, d2, d3, kds, vds, ys, k, w3, g12.trans g3, a1.mono (g2.trans g3).p (g2.trans g3).a, a2.mono g3.p g3.a, a3, q1, q2, q3, q4, q5⟩
  refine .mk fun pins s I => ?_
  refine wpAny_Call_method m.base m.few m.line PySem.F.plainAttrs_dict PySem.F.slot_dict_get PySem.F.type_dict_get (thn (z.run pins s I) fun u s1 ⟨x, H1, I1, rx, d, ω1, P1, as1, w1, g1, a1, ⟨k1, v1, dd⟩, q1⟩ => ?_)
  obtain ⟨a, ks0, vs0, us0, rfl, _, _, _, _, _, D0, _⟩ := dn_read I1 w1 dd a1
  obtain rfl : u = Value.ref a := rx
  refine ⟨D0.typeIs, fun b q => ?_, ?_⟩
  · cases q
    obtain ⟨ob, _, _, h1, h2, _⟩ := D0
    exact ⟨ob, h1, h2.2.1⟩
  rw [m.trees]
  refine Calls.callWith_builtin rfl (Calls.evalArgs_plain (Calls.spliced_cons (thn (q1.run pins s1 I1) fun iv s2 ⟨y, H2, I2, ry, q2⟩ => Calls.spliced_cons (thn (q2.run pins s2 I2) fun fv s3 ⟨zz, H3, I3, rz, P3, as3, ω3, dy, dz, kds, vds, ys, k, w3, g3, ax, ay, az, dd3, ey, hk, h8, p⟩ => Calls.spliced_nil ?_))))
  subst ey
  obtain ⟨a', ks, vs, us, ea, hH, n, rk, rv, rvs, D, sm, hl, dp, sz⟩ := dn_read I3 w3 dd3 ax
  cases ea
  obtain ⟨b, rfl⟩ := key_ref ay
  have kx := nested_at I3 w3.sub ay ry hk
  cases ry
  refine call_meetsIn PySem.F.slot_dict_get D.typeIs PySem.F.entry_dict_get (PySem.F.args_dict_get_3 _ _ _) (meetsH_dict_get_default (nestedKind X.prog X.w) a b sm fv) ⟨show X.A.in1.units + 8 < cLine from by have : X.A.in1.units = X.A.units + 1 := rfl; omega, k, zip3 ks us, ⟨kx, h8⟩, D, ?_⟩
  rcases dGet_at (k := k) n rvs rv hl with ⟨h1, h2⟩ | ⟨vd, b2, u2, v2, h1, h2, r2, a2⟩
  · rw [h2]
    rw [h1] at p
    exact ⟨zz, H3, I3.tok _, rz, q _ _ ω3 P3 H3 as3 w3 g3 az p⟩
  · rw [h2]
    rw [h1] at p
    exact ⟨v2, H3, I3.tok _, r2, q _ _ ω3 P3 H3 as3 w3 g3 a2 p⟩
end
end NM
namespace NM
open PySem PySem.Spec PyProof.Rows L2
section
variable {X : Cx} {ρ : Rho} {ω : Om} {Ψ : PsiE} {ε : PsiX} {Φ : Post} {e f o i : Expr} {pos : Pos}
def rSetN (X : Cx) : TSet := fun o i v H R => ∀ pins s σ ov iv u, Inv X pins σ H s → RelV o ov → RelV i iv → RelV v u → wpAny (model X.prog X.w) X.A (setItem ov iv u) (fun _ s' => ∃ H', Inv X pins σ H' s' ∧ R H') X.xe s
theorem set_n : PSet X (rSetN X) := fun pins s σ H o i v ov iv u Q I ro ri rv h => h pins s σ ov iv u I ro ri rv
theorem put_stored {k : NestedKey} {b : Addr} {u : Value} {ks : List (NestedKey × Addr)} {us : List Value} {kds : List Dt} (n : kds.map nkO = (ks.map fun k => some k.1)) (hl : ks.length = us.length) :
    storedH (zip3 ks us) k b u = if (hasB k kds).any id = true then zip3 ks (rep u (hasB k kds) us) else zip3 (ks ++ [(k, b)]) (us ++ [u]) := by
  rw [has_keys n, ← atKey_has hl]
  unfold storedH
  by_cases h : (atKey (zip3 ks us) k).isSome = true
  · rw [if_pos h, if_pos h, ← has_keys n, has_keys n, zip3_rep hl]
  · rw [if_neg h, if_neg h, zip3_snoc hl]
/-- d[k] = v -/
theorem eg_itemN {d : Dt} {Θ : Rho → Om → Prop} (hu : X.A.units + 64 < cLine) (h : EV X ρ ω o (fun x ω1 => EV X ρ ω1 i (fun y ω2 => ∃ n ys k kds vds, x = .own n ∧ y = .tup ys ∧ nkO y = some k ∧ k.depth ≤ 8 ∧ ω2[n]? = some (.dkn X.prog X.w kds vds) ∧ kds.length < sizeLine ∧ Θ ρ (ω2.set n (.dkn X.prog X.w (dPut k y d kds vds).1 (dPut k y d kds vds).2))) ε) ε)
    (ha : ∀ v, assign (.Subscript o i pos) X.env v = (do
      let ov ← holding [v] (eval o X.env)
      let iv ← holding [v, ov] (eval i X.env)
      standAt pos
      holding [v, ov, iv] (setItem ov iv v)
      release [v, ov, iv] []) := by intro _; rfl) : EG X (.Subscript o i pos) d ρ ω Θ ε := fun σ P H as v R w en av xk q => by
  refine sG_of (pg_sub pE pE set_n ha) ?_
  refine h σ P H as _ w en xk fun v1 d1 ω1 P1 H1 as1 w1 g1 a1 hb => ?_
  refine hb σ P1 H1 as1 _ w1 (en.mono g1.p g1.a) (xk.later g1) fun v2 d2 ω2 P2 H2 as2 w2 g2 a2 p => ?_
  obtain ⟨n, ys, k, kds, vds, rfl, rfl, hk, h8, hn, hz, p⟩ := p
  have g12 := g1.trans g2
  have a1' := a1.mono g2.p g2.a
  have av' := av.mono g12.p g12.a
  cases a1' with
  | own hn1 =>
  rename_i a
  obtain ⟨hp, ks, vs, hH, nn, rk, rv⟩ := w2.own _ _ _ hn hn1
  obtain ⟨b, rfl⟩ := key_ref a2
  intro pins s σ ov iv u I ro ri rx
  obtain ⟨us, rvs, D, sm, hl, dp, sz⟩ := dn_at I w2.sub hH nn rk
  have kx := nested_at I w2.sub a2 ri hk
  cases (show ov = Value.ref a from ro)
  cases (show iv = Value.ref b from ri)
  have hlk : kds.length = ks.length := by have := congrArg List.length nn; simpa using this
  have mu : Mut (H2 a) := by rw [hH]; trivial
  refine wpAny_setItem_heap (knd := nestedKind X.prog X.w) (show X.A.in1.units + 8 < cLine from by have : X.A.in1.units = X.A.units + 1 := rfl; omega) ⟨kx, h8⟩ D (fun h' D' sb => ?_) (by unfold zip3; rw [List.length_map, List.length_zip, ← hl, Nat.min_self]; exact sz)
  rw [put_stored nn hl] at D'
  have he : ∃ q, h'.get? a = some q := by obtain ⟨o, _, _, h1, _⟩ := D'; exact ⟨o, h1⟩
  by_cases hbs : (hasB k kds).any id = true
  · rw [if_pos hbs] at D'
    have ed : dPut k (.tup ys) d kds vds = (kds, rep d (hasB k kds) vds) := by unfold dPut; rw [if_pos hbs]
    rw [ed] at p
    have new := dn_new (H := upd H2 a (DN X.prog X.w a ks (rep v (hasB k kds) vs))) (rep_vals rx rvs) D' (by rw [rep_len]; exact hl) sm dp sz
    have J := d_write (t' := s.toks + (nestedKind X.prog X.w).draws k) I mu sb he new
    obtain ⟨w3, g3⟩ := w2.turn (ho := DN X.prog X.w a ks (rep v (hasB k kds) vs)) (u := .dkn X.prog X.w kds (rep d (hasB k kds) vds)) hn hn1 hp ⟨hp, ks, _, upd_same, nn, rk, rep_at av' rv⟩
    exact ⟨_, J, q _ ρ _ _ _ _ w3 (g12.trans g3) ((en.mono g12.p g12.a).mono g3.p g3.a) p⟩
  · rw [if_neg hbs] at D'
    have ed : dPut k (.tup ys) d kds vds = (kds ++ [.tup ys], vds ++ [d]) := by unfold dPut; rw [if_neg hbs]
    rw [ed] at p
    have new := dn_new (H := upd H2 a (DN X.prog X.w a (ks ++ [(k, b)]) (vs ++ [v]))) (rvs.append (.cons rx .nil)) D' (by simp [hl]) sm (fun j hj => by
      rcases List.mem_append.mp hj with z | z
      · exact dp j z
      · have e : j = (k, b) := by simpa using z
        rw [e]; exact h8) (by rw [List.length_append, ← hlk]; exact hz)
    have J := d_write (t' := s.toks + (nestedKind X.prog X.w).draws k) I mu sb he new
    obtain ⟨w3, g3⟩ := w2.turn (ho := DN X.prog X.w a (ks ++ [(k, b)]) (vs ++ [v])) (u := .dkn X.prog X.w (kds ++ [.tup ys]) (vds ++ [d])) hn hn1 hp ⟨hp, _, _, upd_same, by rw [List.map_append, List.map_append, nn]; simp [hk], by rw [List.map_append]; exact rk.append (.cons a2 .nil), rv.append (.cons av' .nil)⟩
    exact ⟨_, J, q _ ρ _ _ _ _ w3 (g12.trans g3) ((en.mono g12.p g12.a).mono g3.p g3.a) p⟩
end
end NM
namespace NM
open PySem PySem.Spec PyProof.Rows L2
/-- a locked dict, as it lies -/
theorem frzN {X : Cx} {pins : List (Addr × Obj)} {σ : L2.St} {H : Hp} {s : Shared} {d : Addr} {o : Obj} {pr : Program} {w : World} {ks : List (NestedKey × Addr)} {vs : List V} (I : Inv X pins σ H s) (h : H d = some (.frz o (DN pr w d ks vs))) :
    (d == sysModules) = false ∧ ∃ es ep, s.heap.get? d = some o ∧ o.data = .dict es ep ∧ s.heap.DictRaw d es ep ∧ es.size = ks.length ∧ ks.length = vs.length ∧ ∀ i (hi : i < es.size), ∃ k b v, ks[i]? = some (k, b) ∧ vs[i]? = some v ∧ es[i].key = .ref b ∧ RelV v es[i].val := by
  obtain ⟨hd, ⟨us, o', es, ep, rv, h1, h2, h3, h4, h5, _, h7, _⟩, _⟩ := I.hok d _ h
  rw [hd] at h1
  cases h1
  have hlu : vs.length = us.length := rv.length
  have hz : es.size = ks.length := by
    rw [← Array.length_toList, h4, List.length_map, List.length_zip]; omega
  refine ⟨h7, es, ep, hd, h3, ⟨o, hd, h2, h3⟩, hz, h5, fun i hi => ?_⟩
  have i1 : i < ks.length := by omega
  have i2 : i < us.length := by omega
  have i3 : i < vs.length := by omega
  have e : es.toList[i]? = some (entryOfKey (nestedKind pr w) (ks[i].1, ks[i].2, us[i])) := by
    rw [h4, List.getElem?_map, List.getElem?_zip_eq_some (z := (ks[i], us[i])) |>.mpr ⟨List.getElem?_eq_getElem i1, List.getElem?_eq_getElem i2⟩]
    rfl
  have e2 : es[i] = entryOfKey (nestedKind pr w) (ks[i].1, ks[i].2, us[i]) := by
    rw [Array.getElem?_toList, Array.getElem?_eq_getElem hi] at e
    exact Option.some.inj e
  refine ⟨ks[i].1, ks[i].2, vs[i], List.getElem?_eq_getElem i1, List.getElem?_eq_getElem i3, by rw [e2]; rfl, ?_⟩
  rw [e2]
  obtain ⟨u, q1, q2⟩ := rv.get (List.getElem?_eq_getElem i3)
  rw [List.getElem?_eq_getElem i2] at q1
  cases q1
  exact q2
/-- the pairs one by one -/
def Itn (pr : Program) (w : World) (d : Addr) (o : Obj) (ks : List (NestedKey × Addr)) (vs : List V) : It :=
  ⟨fun i H => H d = some (.frz o (DN pr w d ks vs)) ∧ i < ks.length, fun i H x H' => ∃ T k b v, ks[i]? = some (k, b) ∧ vs[i]? = some v ∧ x = .ref T ∧ H T = none ∧ H' = upd H T (.tup [.ref b, v]), fun i H => H d = some (.frz o (DN pr w d ks vs)) ∧ ks.length ≤ i⟩
/-- the keys one by one -/
def Itn1 (pr : Program) (w : World) (d : Addr) (o : Obj) (ks : List (NestedKey × Addr)) (vs : List V) : It :=
  ⟨fun i H => H d = some (.frz o (DN pr w d ks vs)) ∧ i < ks.length, fun i H x H' => H' = H ∧ ∃ k b, ks[i]? = some (k, b) ∧ x = .ref b, fun i H => H d = some (.frz o (DN pr w d ks vs)) ∧ ks.length ≤ i⟩
/-- the values one by one -/
def Itn2 (pr : Program) (w : World) (d : Addr) (o : Obj) (ks : List (NestedKey × Addr)) (vs : List V) : It :=
  ⟨fun i H => H d = some (.frz o (DN pr w d ks vs)) ∧ i < ks.length, fun i H x H' => H' = H ∧ ∃ v, vs[i]? = some v ∧ x = v, fun i H => H d = some (.frz o (DN pr w d ks vs)) ∧ ks.length ≤ i⟩
section
variable {P : Program} {w : World} {K : PySem.W.Frag} {d : Addr} {o : Obj} {es : Array DictEntry} {ep : Nat} {ks : List (NestedKey × Addr)} {vs : List V} {pr : Program} {w' : World}
theorem same_ep {o : Obj} {a b : Array DictEntry} {x y : Nat} (h : o.data = .dict a x) (q : o.data = .dict b y) : b = a ∧ y = x := by
  rw [h] at q; cases q; exact ⟨rfl, rfl⟩
theorem turn_n {elts : List Expr} {kk : Nat} {tpos : Pos} (it : Addr) (hod : o.data = .dict es ep) :
    Turn P w K (.Tuple elts kk tpos) (Itn pr w' d o ks vs) [it] it (fun i h => ∃ x y, IsItemIter h it d i es.size ep x y) := by
  refine ⟨by simp, fun i h q b hb => ?_, fun i h h' q k => ?_, ?_, ?_, fun A i s Q E q h => ?_⟩
  · rw [List.mem_singleton] at hb
    obtain ⟨x, y, q⟩ := q
    subst hb
    exact ⟨_, q, fun v z => nomatch z⟩
  · obtain ⟨x, y, q⟩ := q
    exact ⟨x, y, k it (by simp) _ q⟩
  · intro X e1 e2 e3 _ i pins s σ H E I fr q go
    subst e1 e2 e3
    obtain ⟨x, y, q⟩ := q
    obtain ⟨hsys, es2, ep2, hget, hdat, raw, hz, hlv, pt⟩ := frzN I go.1
    obtain ⟨rfl, rfl⟩ := same_ep hod hdat
    have hi : i < es2.size := by rw [hz]; exact go.2
    have below : it < s.heap.objs.size := Heap.lt_size q
    obtain ⟨k, b, v, hk, hv, ek, ev⟩ := pt i hi
    refine wpAny_pyNext_items_item_raw q raw hi fun h1 out at1 big keep1 => ⟨_, rfl, wpAny_letOwnedTupleGo_items (s := { s with heap := h1 }) out fun h2 in2 sb => ?_⟩
    have at2 := (sb.2 _ (Nat.ne_of_gt below)).trans at1
    rw [ek] at at2
    have ok : ObjOk X.prog X.w (upd H s.heap.objs.size (.tup [.ref b, v])) h2 s.heap.objs.size (.tup [.ref b, v]) :=
      ⟨by show 2 ≤ sizeLine; decide, [.ref b, es2[i].val], .cons rfl (.cons ev .nil), ⟨_, at2, rfl, _, rfl⟩⟩
    have J := I.turnedNew (t' := s.toks) (ch := [it]) (h' := h2) (fun c u hc e => by
      have ne : c ≠ it := by simpa using hc
      exact (sb.2 c ne).trans (keep1 c u ne e)) fr (Nat.le_refl _) ok
    refine ⟨.ref s.heap.objs.size, _, J, rfl, ⟨_, k, b, v, hk, hv, rfl, I.hok.fresh (Nat.le_refl _), rfl⟩, ⟨_, _, in2⟩, fun c hc => ?_⟩
    rw [List.mem_singleton] at hc
    rw [hc, upd_ne (Nat.ne_of_lt below)]
    exact (fr it (by simp)).1
  · intro X e1 e2 e3 calm i pins s σ H E I fr q go
    subst e1 e2 e3
    obtain ⟨x, y, q⟩ := q
    obtain ⟨a0, a1, a2, a3, a4, a5⟩ := fr it (by simp)
    obtain ⟨hsys, es2, ep2, hget, hdat, raw, hz, hlv, pt⟩ := frzN I go.1
    obtain ⟨rfl, rfl⟩ := same_ep hod hdat
    exact wpAny_pyNext_items_end_raw (I.ok.hd calm) q raw (by rw [hz]; exact go.2) fun h1 eb => ⟨rfl, I.turned (t' := s.toks) (fun c u hc e => eb c u hc e) a0 a1 a3 a4 a5⟩
  · obtain ⟨x, y, q⟩ := q
    exact PySem.W.kcp_self q h
end
end NM
namespace NM
open PySem PySem.Spec PyProof.Rows L2
section
variable {P : Program} {w : World} {K : PySem.W.Frag} {d : Addr} {o : Obj} {es : Array DictEntry} {ep : Nat} {ks : List (NestedKey × Addr)} {vs : List V} {pr : Program} {w' : World}
theorem turn_n1 {tg : Expr} (it : Addr) (hod : o.data = .dict es ep) : Turn P w K tg (Itn1 pr w' d o ks vs) [it] it (fun i h => h.IsKeyIter it d i es.size ep) := by
  refine ⟨by simp, fun i h q b hb => ?_, fun i h h' q k => ?_, ?_, ?_, fun A i s Q E q h => ?_⟩
  · rw [List.mem_singleton] at hb
    subst hb
    obtain ⟨u, q1, q2, q3⟩ := q
    exact ⟨u, q1, fun v z => by rw [q3] at z; exact nomatch z⟩
  · exact q.at fun u e => k it (by simp) u e
  · intro X e1 e2 e3 _ i pins s σ H E I fr q go
    subst e1 e2 e3
    obtain ⟨a0, a1, a2, a3, a4, a5⟩ := fr it (by simp)
    obtain ⟨hsys, es2, ep2, hget, hdat, raw, hz, hlv, pt⟩ := frzN I go.1
    obtain ⟨rfl, rfl⟩ := same_ep hod hdat
    have hi : i < es2.size := by rw [hz]; exact go.2
    obtain ⟨k, b, v, hk, hv, ek, ev⟩ := pt i hi
    refine wpAny_pyNext_keys_item_raw q raw hi fun h1 q1 sb => ?_
    have J : Inv X pins σ H { s with heap := h1 } := I.turned (t' := s.toks) (fun c u hc e => (sb.2 c hc).trans e) a0 a1 a3 a4 a5
    obtain ⟨u, z1, z2, z3⟩ := id q1
    exact ⟨_, rfl, go_of (s := { s with heap := h1 }) z1 z2 z3 (by decide) ⟨.ref b, H, J, by rw [ek]; rfl, ⟨rfl, k, b, hk, rfl⟩, q1, fun c hc => (fr c hc).1⟩⟩
  · intro X e1 e2 e3 calm i pins s σ H E I fr q go
    subst e1 e2 e3
    obtain ⟨a0, a1, a2, a3, a4, a5⟩ := fr it (by simp)
    obtain ⟨hsys, es2, ep2, hget, hdat, raw, hz, hlv, pt⟩ := frzN I go.1
    obtain ⟨rfl, rfl⟩ := same_ep hod hdat
    exact wpAny_pyNext_keys_end_raw (I.ok.hd calm) q raw (by rw [hz]; exact go.2) fun h1 eb => ⟨rfl, I.turned (t' := s.toks) (fun c u hc e => eb c u hc e) a0 a1 a3 a4 a5⟩
  · exact wpAny_pyIter_keyiter q h
theorem turn_n2 {tg : Expr} (it : Addr) (hod : o.data = .dict es ep) : Turn P w K tg (Itn2 pr w' d o ks vs) [it] it (fun i h => h.IsValIter it d i es.size ep) := by
  refine ⟨by simp, fun i h q b hb => ?_, fun i h h' q k => ?_, ?_, ?_, fun A i s Q E q h => ?_⟩
  · rw [List.mem_singleton] at hb
    subst hb
    obtain ⟨u, q1, q2, q3⟩ := q
    exact ⟨u, q1, fun v z => by rw [q3] at z; exact nomatch z⟩
  · exact q.at fun u e => k it (by simp) u e
  · intro X e1 e2 e3 _ i pins s σ H E I fr q go
    subst e1 e2 e3
    obtain ⟨a0, a1, a2, a3, a4, a5⟩ := fr it (by simp)
    obtain ⟨hsys, es2, ep2, hget, hdat, raw, hz, hlv, pt⟩ := frzN I go.1
    obtain ⟨rfl, rfl⟩ := same_ep hod hdat
    have hi : i < es2.size := by rw [hz]; exact go.2
    obtain ⟨k, b, v, hk, hv, ek, ev⟩ := pt i hi
    refine wpAny_pyNext_values_item_raw q raw hi fun h1 q1 sb => ?_
    have J : Inv X pins σ H { s with heap := h1 } := I.turned (t' := s.toks) (fun c u hc e => (sb.2 c hc).trans e) a0 a1 a3 a4 a5
    obtain ⟨u, z1, z2, z3⟩ := id q1
    exact ⟨_, rfl, go_of (s := { s with heap := h1 }) z1 z2 z3 (by decide) ⟨v, H, J, ev, ⟨rfl, v, hv, rfl⟩, q1, fun c hc => (fr c hc).1⟩⟩
  · intro X e1 e2 e3 calm i pins s σ H E I fr q go
    subst e1 e2 e3
    obtain ⟨a0, a1, a2, a3, a4, a5⟩ := fr it (by simp)
    obtain ⟨hsys, es2, ep2, hget, hdat, raw, hz, hlv, pt⟩ := frzN I go.1
    obtain ⟨rfl, rfl⟩ := same_ep hod hdat
    exact wpAny_pyNext_values_end_raw (I.ok.hd calm) q raw (by rw [hz]; exact go.2) fun h1 eb => ⟨rfl, I.turned (t' := s.toks) (fun c u hc e => eb c u hc e) a0 a1 a3 a4 a5⟩
  · exact wpAny_pyIter_valiter q h
end
/-- the pairs, as data -/
def pairD : List Dt → List Dt → List Dt
  | k :: ks, v :: vs => .tup [k, v] :: pairD ks vs
  | _, _ => []
theorem pair_get {ks vs : List Dt} : ∀ {kds vds : List Dt} {i : Nat} {d : Dt}, (pairD kds vds)[i]? = some d → ∃ k v, kds[i]? = some k ∧ vds[i]? = some v ∧ d = .tup [k, v]
  | [], _, i, d, h => by unfold pairD at h; simp at h
  | _ :: _, [], i, d, h => by unfold pairD at h; simp at h
  | k :: kds, v :: vds, 0, d, h => by unfold pairD at h; cases h; exact ⟨k, v, rfl, rfl, rfl⟩
  | k :: kds, v :: vds, i + 1, d, h => by
    unfold pairD at h
    exact pair_get (ks := ks) (vs := vs) (kds := kds) (vds := vds) h
theorem pair_len : ∀ {kds vds : List Dt}, kds.length = vds.length → (pairD kds vds).length = kds.length
  | [], _, _ => by unfold pairD; rfl
  | _ :: _, [], h => by simp at h
  | k :: kds, v :: vds, h => by unfold pairD; rw [List.length_cons, List.length_cons, pair_len (by simpa using h)]
section
variable {X : Cx} {ρ : Rho} {ω : Om} {Ψ : PsiE} {ε : PsiX} {Φ : Post} {e f o i : Expr} {pos : Pos}
theorem pre_get {as as' : List Addr} {n : Nat} {a : Addr} (p : as <+: as') (h : as[n]? = some a) : as'[n]? = some a := by
  obtain ⟨t, ht⟩ := p
  rw [← ht, List.getElem?_append_left (List.getElem?_eq_some_iff.mp h).1]; exact h
/-- frozen dicts of one address are the same -/
theorem dn_inj {pr : Program} {w : World} {H : Hp} {a : Addr} {o : Obj} {u u' : HO} (h : H a = some (.frz o u)) (q : H a = some (.frz o u')) : u = u' := by
  rw [h] at q; cases q; rfl
end
end NM
namespace NM
open PySem PySem.Spec PyProof.Rows L2
section
variable {X : Cx} {ρ : Rho} {ω : Om} {Ψ : PsiE} {ε : PsiX} {Φ : Post} {e f i : Expr} {pos : Pos}
theorem itd_n {K : Fg} {P : Hp} {as : List Addr} {n : Nat} {a : Addr} {o : Obj} {pr : Program} {wo : World} {ks : List (NestedKey × Addr)} {vs : List V} {kds vds : List Dt} (ha : as[n]? = some a) (hl : ks.length = vs.length) :
    ItD K (Itn pr wo a o ks vs) P as (fun ω' => ω'[n]? = some (.lkn pr wo o ks vs kds vds)) (pairD kds vds) := by
  intro i ω' P' H' as' e p w hv
  obtain ⟨pn, hh, nn, rk, rv⟩ := w.own n _ _ hv (pre_get p ha)
  have l1 : kds.length = ks.length := by have := congrArg List.length nn; simpa using this
  have l2 : vds.length = vs.length := rv.length.symm
  refine ⟨fun d hd => ?_, fun hi => ⟨hh, by rw [pair_len (by omega)] at hi; omega⟩⟩
  obtain ⟨k, v, hk, hv2, rfl⟩ := pair_get (ks := []) (vs := []) hd
  have i1 : i < ks.length := by rw [← l1]; exact (List.getElem?_eq_some_iff.mp hk).1
  refine ⟨⟨hh, i1⟩, fun x H2 hy => ?_⟩
  obtain ⟨T, kk, b, u, e1, e2, rfl, hT, rfl⟩ := hy
  obtain ⟨w2, g2⟩ := w.newP (o := .tup [.ref b, u]) hT
  obtain ⟨v1, z1, z2⟩ := rk.get hk
  rw [List.getElem?_map, e1] at z1
  cases z1
  obtain ⟨v2, y1, y2⟩ := rv.get hv2
  rw [e2] at y1
  cases y1
  exact ⟨_, w2, g2, .tup (.of upd_same) (.cons (z2.mono g2.p g2.a) (.cons (y2.mono g2.p g2.a) .nil))⟩
theorem itd_n1 {K : Fg} {P : Hp} {as : List Addr} {n : Nat} {a : Addr} {o : Obj} {pr : Program} {wo : World} {ks : List (NestedKey × Addr)} {vs : List V} {kds vds : List Dt} (ha : as[n]? = some a) :
    ItD K (Itn1 pr wo a o ks vs) P as (fun ω' => ω'[n]? = some (.lkn pr wo o ks vs kds vds)) kds := by
  intro i ω' P' H' as' e p w hv
  obtain ⟨pn, hh, nn, rk, rv⟩ := w.own n _ _ hv (pre_get p ha)
  have l1 : kds.length = ks.length := by have := congrArg List.length nn; simpa using this
  refine ⟨fun d hd => ?_, fun hi => ⟨hh, by omega⟩⟩
  refine ⟨⟨hh, by rw [← l1]; exact (List.getElem?_eq_some_iff.mp hd).1⟩, fun x H2 hy => ?_⟩
  obtain ⟨rfl, k, b, e1, rfl⟩ := hy
  obtain ⟨v1, z1, z2⟩ := rk.get hd
  rw [List.getElem?_map, e1] at z1
  cases z1
  exact ⟨P', w, .refl, z2⟩
/-- a dict of ours is locked -/
theorem lock_n {pins : List (Addr × Obj)} {σ : L2.St} {H P : Hp} {as : List Addr} {s : Shared} (I : Inv X pins σ H s) (w : Ws X.K ω P H as) {n : Nat} {v : V} {kds vds : List Dt} (hn : ω[n]? = some (.dkn X.prog X.w kds vds)) (av : At X.K P as v (.own n)) :
    ∃ a o ks vs, v = .ref a ∧ as[n]? = some a ∧ Inv X pins σ (upd H a (.frz o (DN X.prog X.w a ks vs))) s ∧ Ws X.K (ω.set n (.lkn X.prog X.w o ks vs kds vds)) P (upd H a (.frz o (DN X.prog X.w a ks vs))) as ∧ Gr P H as P (upd H a (.frz o (DN X.prog X.w a ks vs))) as := by
  cases av with
  | own h1 =>
    rename_i a
    obtain ⟨pn, ks, vs, h2, nn, rk, rv⟩ := w.own _ _ _ hn h1
    obtain ⟨o, J⟩ := I.lock h2 trivial
    obtain ⟨w2, g2⟩ := w.turn (ho := .frz o (DN X.prog X.w a ks vs)) (u := .lkn X.prog X.w o ks vs kds vds) hn h1 pn ⟨pn, upd_same, nn, rk, rv⟩
    exact ⟨a, o, ks, vs, rfl, h1, J, w2, g2⟩
/-- for .. in e.items() -/
theorem ei_itemsN {elts : List Expr} {kk : Nat} {tpos apos cpos : Pos} {Θ : List Dt → (Om → Prop) → Om → Prop} (h : EV X ρ ω e (fun d ω1 => ∃ n kds vds, d = .own n ∧ ω1[n]? = some (.dkn X.prog X.w kds vds) ∧ ∀ o ks vs, Θ (pairD kds vds) (fun ω' => ω'[n]? = some (.lkn X.prog X.w o ks vs kds vds)) (ω1.set n (.lkn X.prog X.w o ks vs kds vds))) ε)
    (hbase : attributeBase e "items" X.env (eval e X.env) = eval e X.env := by rfl) (hline : (apos.endLine == cpos.line) = true := by rfl) : EI X ρ ω (.Tuple elts kk tpos) (.Call (.Attribute e "items" apos) [] [] cpos) Θ ε := fun σ P H as R w en xk q => .mk fun pins s I => by
  have z : sE X e σ H (fun v H1 => ∃ n kds vds ω1 P1 as1, Ws X.K ω1 P1 H1 as1 ∧ Gr P H as P1 H1 as1 ∧ At X.K P1 as1 v (.own n) ∧ ω1[n]? = some (.dkn X.prog X.w kds vds) ∧ ∀ o ks vs, Θ (pairD kds vds) (fun ω' => ω'[n]? = some (.lkn X.prog X.w o ks vs kds vds)) (ω1.set n (.lkn X.prog X.w o ks vs kds vds))) :=
    h σ P H as _ w en xk fun v d ω1 P1 H1 as1 w1 g1 a1 p => by
      obtain ⟨n, kds, vds, rfl, hn, p⟩ := p
      exact ⟨n, kds, vds, ω1, P1, as1, w1, g1, a1, hn, p⟩
  refine wpAny_Call_method (T := "dict") (id := "dict.items") hbase rfl hline PySem.F.plainAttrs_dict PySem.F.slot_dict_items PySem.F.type_dict_items (thn (z.run pins s I) fun u s1 ⟨x, H1, I1, rx, n, kds, vds, ω1, P1, as1, w1, g1, a1, hn, p⟩ => ?_)
  obtain ⟨a, o, ks, vs, rfl, han, J, w2, g2⟩ := lock_n I1 w1 hn a1
  cases (show u = Value.ref a from rx)
  obtain ⟨hsys, es, ep, hget, hdat, raw, hz, hlv, pt⟩ := frzN J upd_same
  refine ⟨raw.typeIs, fun b qb => ?_, ?_⟩
  · cases qb
    obtain ⟨ob, e1, e2, _⟩ := raw
    exact ⟨ob, e1, e2.2.1⟩
  have I2 := J.kept (h' := s1.heap.push { cls := .type "dict_items", data := .fields #[.ref a] }) (t' := s1.toks) fun b ob e => Heap.get?_push_of_some _ e
  show wpAny _ _ (callWith cpos (.builtin "dict.items") [.ref a] [] []) _ X.xe s1
  refine method_meetsIn PySem.F.slot_dict_items PySem.F.entry_dict_items rfl (PySem.evalArgs_none ⟨rfl, raw.typeIs, PySem.F.args_dict_items_1 _, _, meets_dict_items_raw a hsys, ⟨es, ep, raw⟩, ?_⟩)
  refine wpAny_pyIter_items_raw (d := a) ⟨_, Heap.get?_push_size _ rfl, rfl, rfl⟩ (raw.at fun _ e => Heap.get?_push_of_some _ e) (pi_one (tk := s1.toks) I2 _ (turn_n (pr := X.prog) (w' := X.w) (ks := ks) (vs := vs) _ hdat) ⟨.none, .none, Heap.get?_push_size _ rfl⟩ ?_)
  exact q _ _ _ _ P1 _ as1 w2 (g1.trans g2) (itd_n han hlv) (by rw [List.getElem?_set_self (List.getElem?_eq_some_iff.mp hn).1]) (p o ks vs)
/-- for .. in e -/
theorem ei_keysN {tg : Expr} {Θ : List Dt → (Om → Prop) → Om → Prop} (h : EV X ρ ω e (fun d ω1 => ∃ n kds vds, d = .own n ∧ ω1[n]? = some (.dkn X.prog X.w kds vds) ∧ ∀ o ks vs, Θ kds (fun ω' => ω'[n]? = some (.lkn X.prog X.w o ks vs kds vds)) (ω1.set n (.lkn X.prog X.w o ks vs kds vds))) ε) : EI X ρ ω tg e Θ ε := fun σ P H as R w en xk q => .mk fun pins s I => by
  have z : sE X e σ H (fun v H1 => ∃ n kds vds ω1 P1 as1, Ws X.K ω1 P1 H1 as1 ∧ Gr P H as P1 H1 as1 ∧ At X.K P1 as1 v (.own n) ∧ ω1[n]? = some (.dkn X.prog X.w kds vds) ∧ ∀ o ks vs, Θ kds (fun ω' => ω'[n]? = some (.lkn X.prog X.w o ks vs kds vds)) (ω1.set n (.lkn X.prog X.w o ks vs kds vds))) :=
    h σ P H as _ w en xk fun v d ω1 P1 H1 as1 w1 g1 a1 p => by
      obtain ⟨n, kds, vds, rfl, hn, p⟩ := p
      exact ⟨n, kds, vds, ω1, P1, as1, w1, g1, a1, hn, p⟩
  refine thn (z.run pins s I) fun u s1 ⟨x, H1, I1, rx, n, kds, vds, ω1, P1, as1, w1, g1, a1, hn, p⟩ => ?_
  obtain ⟨a, o, ks, vs, rfl, han, J, w2, g2⟩ := lock_n I1 w1 hn a1
  cases (show u = Value.ref a from rx)
  obtain ⟨hsys, es, ep, hget, hdat, raw, hz, hlv, pt⟩ := frzN J upd_same
  refine wpAny_pyIter_dict_raw (d := a) hsys raw (pi_one (tk := s1.toks) J _ (turn_n1 (pr := X.prog) (w' := X.w) (ks := ks) (vs := vs) _ hdat) ⟨_, Heap.get?_push_size _ rfl, rfl, rfl⟩ ?_)
  exact q _ _ _ _ P1 _ as1 w2 (g1.trans g2) (itd_n1 han) (by rw [List.getElem?_set_self (List.getElem?_eq_some_iff.mp hn).1]) (p o ks vs)
end
end NM
namespace NM
open PySem PySem.Spec PyProof.Rows L2
section
variable {X : Cx} {ρ : Rho} {ω : Om} {Ψ : PsiE} {ε : PsiX} {Φ : Post} {e f i : Expr} {pos : Pos}
/-- x < y -/
theorem od_ltA {x y : Dt} {p q : PyData} (hx : Py ω x p) (hy : Py ω y q) (al : PySem.W.alike p q = true) (nn : p ≠ .none) (hd : p.depth ≤ 60) (hu : X.A.units + 64 < cLine) (h : Ψ (.bl (PySem.W.dataLt p q)) ω) : OD X (compareOp .Lt) x y ω Ψ ε := fun σ vx vy P H as Q w ax ay xk k => .mk fun pins s v u I rx ry => by
  obtain ⟨l1, r1⟩ := Dp.reads I p vx v (hx.dp w ax) rx
  obtain ⟨l2, r2⟩ := Dp.reads I q vy u (hy.dp w ay) ry
  have hm : X.A.units + min p.depth q.depth < cLine := by have := Nat.min_le_left p.depth q.depth; omega
  exact PySem.W.rcLt_alike p q _ s v u _ _ r1 r2 al nn hm _ _ _ _ ⟨.bl _, H, I, rfl, k _ _ ω P H as w .refl (.bl _) h⟩
end
end NM
namespace NM
open PySem PySem.Spec PyProof.Rows L2
section
variable {X : Cx} {ρ : Rho} {ω : Om} {Ψ : PsiE} {ε : PsiX} {Φ : Post} {e f i : Expr} {pos : Pos}
def rCntN (K : Fg) : V → List V → Hp → VK → Prop := fun x xs H Q => ∃ (l : Addr) (y : V) (p : PyData) (ps : List PyData), x = .ref l ∧ xs = [y] ∧ Dp K H (.ref l) (.list ps) ∧ Dp K H y p ∧
  SeqAt.shaped (.list ps) = true ∧ SeqAt.shaped p = true ∧ Q (.int (ps.countP fun z => PyData.eqv z p : Nat)) H
theorem mt_countN (hu : X.A.units + 65 < cLine) : MtR X "list.count" (rCntN X.K) := fun pins s σ H x xs v us Q I rx rxs h => by
  obtain ⟨l, y, p, ps, rfl, rfl, dl, dy, sl, sp, q⟩ := h
  obtain ⟨uy, rfl, ry⟩ := Vals.one rxs
  cases (show v = Value.ref l from rx)
  obtain ⟨bs, r1⟩ := Dp.reads I p y uy dy ry
  have lay : PyData.canLayAll0 ps = true := SeqAt.canLay_of_shaped sl
  cases dl with
  | lst hs ha =>
    obtain ⟨its, rv, ⟨⟨c, dd, dt, sls⟩, n, ho, hc, _, hdt⟩, _⟩ := I.list hs
    dsimp only at hc hdt
    subst hc hdt
    obtain ⟨cs, r2⟩ := Dp.readsAll I ps _ its ha rv
    have em : its.map (SeqAt.readOf s.heap) = ps := SeqAt.readsAll_map ps its cs lay r2
    have ec : its.toArray.toList.countP (fun u => PyData.eqv (SeqAt.readOf s.heap u) p) = ps.countP fun z => PyData.eqv z p := by
      rw [← em, List.countP_map]; rfl
    refine call_meets PySem.F.slot_list_count ⟨_, ho, rfl⟩ PySem.F.entry_list_count (PySem.F.args_list_count_2 _ _) (SeqAt.list_countAt l its.toArray n dd sls uy fun u => PyData.eqv (SeqAt.readOf s.heap u) p)
      ⟨ho, SeqAt.items_eqAt (vs := its.toArray) (show ReadsAll s.heap its.toArray.toList ps cs from r2) r1 lay (SeqAt.canLay_of_shaped sp) (room_in_shaped sp hu), ?_⟩
    rw [ec]
    exact ⟨.int _, H, I.tok _, ⟨_, rfl⟩, q⟩
/-- l.count(x) -/
theorem md_countN {x y : Dt} {p : PyData} {ps : List PyData} (hx : Py ω x (.list ps)) (hy : Py ω y p) (sl : SeqAt.shaped (.list ps) = true) (sp : SeqAt.shaped p = true) (hu : X.A.units + 65 < cLine) (h : Ψ (.int (ps.countP fun z => PyData.eqv z p : Nat)) ω) : MD X "list.count" x [y] ω Ψ := ⟨_, mt_countN hu, fun vx vs P H as Q w ax al k => by
  obtain ⟨v, rfl, av⟩ := one_of al
  have d1 := hx.dp w ax
  obtain ⟨l, rfl⟩ : ∃ l, vx = .ref l := by cases d1; exact ⟨_, rfl⟩
  exact ⟨l, v, p, ps, rfl, rfl, d1, hy.dp w av, sl, sp, k _ _ ω P H as w .refl (.int _) h⟩⟩
end
end NM
namespace NM
open PySem PySem.Spec PyProof.Rows L2
section
variable {X : Cx} {ρ : Rho} {ω : Om} {Ψ : PsiE} {ε : PsiX} {Φ : Post} {e f : Expr} {pos : Pos}
/-- the loop of a comprehension whose items are of one kind -/
theorem lc_runP {elt tg iter : Expr} {ifs : List Expr} {scope : Scope} {vs : List Nat} {g : TG} {σ : L2.St} {P H : Hp} {as : List Addr} {Q : VK} {R : List Dt → Om → Prop} (tgt : Dt → Rho) (T : Dt → Prop)
    (hgt : ∀ d ω' P' H' as' v K2, T d → Ws X.K ω' P' H' as' → Env X.K P' as' (wipe σ vs) (wipeR ρ vs) → At X.K P' as' v d → (∀ σ2, wipe σ2 vs = wipe σ vs → Env X.K P' as' σ2 (tgt d) → K2 σ2 H') → g v (wipe σ vs) H' K2)
    (h : EI X ρ ω tg iter (fun items dv ω1 => (∀ d ∈ items, T d) ∧ ∃ I : Nat → List Dt → Om → Prop, I 0 [] ω1 ∧ (∀ i acc ω', I i acc ω' → dv ω') ∧ (∀ (i : Nat) d acc ω', items[i]? = some d → I i acc ω' → Elt X scope (tgt d) ω' elt ifs (I (i + 1)) acc) ∧ (∀ acc ω', I items.length acc ω' → R acc ω')) ε)
    (w : Ws X.K ω P H as) (en : Env X.K P as σ ρ) (xk : Xk X ω P H as σ ε) (q : ∀ D acc ω' P' H' as' P1 H1 as1, H1 D = none → Gr P H as P1 H1 as1 → LcS X.K P1 H1 as1 D acc ω' P' H' as' → R acc ω' → Q (.ref D) H') :
    tLc (sI X tg iter) g (sTs X scope ifs) (fun σ H Q => ∀ s H0 C cl fp, sE (Blk X scope s H0 C cl fp) elt σ H Q) vs σ H Q := by
  refine h σ P H as _ w en xk fun J items dv ω1 P1 H1 as1 w1 g1 it d1 k => ?_
  obtain ⟨hT, I, h0, hd, turn, fin⟩ := k
  intro D hD
  obtain ⟨w1', g1'⟩ := w1.newH (o := .lst []) hD
  have nD := w1.fresh hD
  refine ⟨fun i m H' => m + i = items.length ∧ ∃ acc ω' P' as', LcS X.K P1 H1 as1 D acc ω' P' H' as' ∧ I i acc ω', ⟨items.length, by simp, [], ω1, P1, as1, ⟨w1', g1', ⟨[], upd_same, .nil⟩, nD.1, nD.2⟩, h0⟩, ?_⟩
  rintro i m H' ⟨hm, acc, ω', P', as', x, hi⟩
  obtain ⟨go, stop⟩ := it i ω' P' H' as' x.g.p x.g.a x.w (hd i acc ω' hi)
  by_cases hlt : i < items.length
  · obtain ⟨go1, yl⟩ := go items[i] (List.getElem?_eq_getElem hlt)
    refine .inr ⟨go1, fun H2 => ∃ acc2 ω2 P2 as2, LcS X.K P1 H1 as1 D acc2 ω2 P2 H2 as2 ∧ I (i + 1) acc2 ω2, fun H2 q2 => ⟨m - 1, by omega, by omega, q2⟩, fun v H2 hy => ?_⟩
    obtain ⟨P2, w2, g2, a2⟩ := yl v H2 hy
    have x2 := x.later w2 g2
    have g12 := g1.trans x2.g
    refine hgt items[i] ω' P2 H2 as' v _ (hT _ (List.getElem_mem hlt)) w2 (env_wipe (en.mono g12.p g12.a) vs) a2 fun σ2 hw2 en2 => ⟨hw2, ?_⟩
    refine ets_run (turn i items[i] acc ω' (List.getElem?_eq_getElem hlt) hi) w2 en2 fun b ω3 P3 H3 as3 w3 g3 kk => ?_
    have x3 := x2.later w3 g3
    cases b with
    | false => exact iteF ⟨acc, ω3, P3, as3, x3, by simpa using kk⟩
    | true =>
      refine iteT fun s0 H0 C cl fp => ?_
      have kk' : ∀ s H C cl fp, EV (Blk X scope s H C cl fp) (tgt items[i]) ω3 elt (fun y ω2 => acc.length < sizeLine ∧ I (i + 1) (acc ++ [y]) ω2) F0 := by simpa using kk
      refine kk' s0 H0 C cl fp σ2 P3 H3 as3 _ w3 (en2.mono g3.p g3.a) xk0 fun y dy ω4 P4 H4 as4 w4 g4 a4 p4 => ?_
      have x4 := x3.later w4 g4
      obtain ⟨us, hus, rus⟩ := x4.d
      exact ⟨us, hus, by rw [rus.length]; exact p4.1, acc ++ [dy], ω4, P4, as4, x4.put hD hus a4, p4.2⟩
  · have e : i = items.length := by omega
    subst e
    exact .inl ⟨stop (Nat.le_refl _), q D acc ω' P' H' as' P1 H1 as1 hD g1 x (fin acc ω' hi)⟩
/-- the two parts of a pair -/
def p1D : Dt → Dt
  | .tup [a, _] => a
  | _ => .non
def p2D : Dt → Dt
  | .tup [_, b] => b
  | _ => .non
def IsPr (d : Dt) : Prop := ∃ a b, d = .tup [a, b]
theorem tgt_pairP {vs : List Nat} {σ : L2.St} (j1 j2 : Nat) (h1 : j1 ∈ vs) (h2 : j2 ∈ vs) : ∀ d ω' P' H' as' v K2, IsPr d → Ws X.K ω' P' H' as' → Env X.K P' as' (wipe σ vs) (wipeR ρ vs) → At X.K P' as' v d →
    (∀ σ2, wipe σ2 vs = wipe σ vs → Env X.K P' as' σ2 (((wipeR ρ vs).set j1 (some (p1D d))).set j2 (some (p2D d))) → K2 σ2 H') → gTup X.K 2 (gCons (gName j1) (gCons (gName j2) gNil)) v (wipe σ vs) H' K2 :=
  fun d ω' P' H' as' v K2 hp w en av k => by
    obtain ⟨a, b, rfl⟩ := hp
    exact tgt_pair j1 j2 h1 h2 a b ω' P' H' as' v K2 w en av k
/-- [elt for x, y in iter (if ..)] -/
theorem ev_lcP (j1 j2 : Nat) {x y : Str} {elt iter : Expr} {ifs : List Expr} {scope : Scope} {own : List (Str × Nat)} {tp px py : Pos} {kk : Nat} (ok : Cok X) (bo : BlkOk X.N X.env.scope scope own) (h1 : j1 ∈ own.map (·.2)) (h2 : j2 ∈ own.map (·.2)) (hif : ifs = [] ∨ ∃ c, ifs = [c])
    (h : EI X ρ ω (.Tuple [.Name x px, .Name y py] kk tp) iter (fun items dv ω1 => (∀ d ∈ items, IsPr d) ∧ ∃ I : Nat → List Dt → Om → Prop, I 0 [] ω1 ∧ (∀ i acc ω', I i acc ω' → dv ω') ∧
      (∀ (i : Nat) d acc ω', items[i]? = some d → I i acc ω' → Elt X scope (((wipeR ρ (own.map (·.2))).set j1 (some (p1D d))).set j2 (some (p2D d))) ω' elt ifs (I (i + 1)) acc) ∧ (∀ acc ω', I items.length acc ω' → Ψ (.lst acc) ω')) ε)
    (hg : ∀ (s : Shared) (H : Hp) (C : Addr) (cl : List (Str × Addr)) (fp : List Addr), PG (Blk X scope s H C cl fp) (.Tuple [.Name x px, .Name y py] kk tp) (gTup X.K 2 (gCons (gName j1) (gCons (gName j2) gNil)))) (hs : ∀ x, foldedSetIterable iter X.env x = pure x := by intro _; rfl) :
    EV X ρ ω (.ListComp elt [⟨.Tuple [.Name x px, .Name y py] kk tp, iter, ifs, 0⟩] scope pos) Ψ ε := fun σ P H as Q w en xk q => by
  refine sE_of (pe_lc (te := fun σ H Q => ∀ s H0 C cl fp, sE (Blk X scope s H0 C cl fp) elt σ H Q) ok.calm ok.nd pI bo hg (pTs hif) (fun s H C cl fp => ⟨fun pins s' σ' H' Q' I h => (h s H C cl fp).run pins s' I⟩) hs) ?_
  refine lc_runP (R := fun acc ω' => Ψ (.lst acc) ω') (fun d => ((wipeR ρ (own.map (·.2))).set j1 (some (p1D d))).set j2 (some (p2D d))) IsPr (tgt_pairP j1 j2 h1 h2) h w en xk fun D acc ω' P' H' as' P1 H1 as1 hD g1 x p => ?_
  obtain ⟨P2, w2, g2, a2⟩ := x.fin hD
  exact q _ _ ω' P2 H' as' w2 (g1.trans g2) a2 p
theorem pair_is : ∀ {ks vs : List Dt}, ∀ d ∈ pairD ks vs, IsPr d
  | [], _, d, h => by unfold pairD at h; simp at h
  | _ :: _, [], d, h => by unfold pairD at h; simp at h
  | k :: ks, v :: vs, d, h => by
    unfold pairD at h
    rcases List.mem_cons.mp h with z | z
    · exact ⟨k, v, z⟩
    · exact pair_is d z
end
end NM
namespace NM
open PySem PySem.Spec PyProof.Rows L2
section
variable {X : Cx} {ρ : Rho} {ω : Om} {Ψ : PsiE} {ε : PsiX} {Φ : Post} {e f : Expr} {pos : Pos}
theorem es_setFilter (i j : Nat) (p : Dt → Bool) {x y : Str} {elt iter c : Expr} {scope : Scope} {own : List (Str × Nat)} {tp py spos : Pos} (ok : Cok X) (bo : BlkOk X.N X.env.scope scope own) (hj : j ∈ own.map (·.2))
    (hsw : swapsWith (.ListComp elt [⟨.Name x tp, iter, [c], 0⟩] scope pos) (some (.Name y py)) spos.line X.env = pure true)
    (h : EI X ρ ω (.Name x tp) iter (fun items dv ω1 => dv ω1 ∧ (∀ d ∈ items, ∀ s H C cl fp, ET (Blk X scope s H C cl fp) ((wipeR ρ (own.map (·.2))).set j (some d)) ω1 c (fun k ω2 => k = p d ∧ ω2 = ω1) F0) ∧ (∀ d ∈ items, ∀ s H C cl fp, EV (Blk X scope s H C cl fp) ((wipeR ρ (own.map (·.2))).set j (some d)) ω1 elt (fun y ω2 => y = d ∧ ω2 = ω1) F0) ∧ items.length < sizeLine ∧ Φ.nx (ρ.set i (some (.lst (items.filter p)))) ω1) (fun y ω' => Φ.xc y ρ ω'))
    (hg : ∀ (s : Shared) (H : Hp) (C : Addr) (cl : List (Str × Addr)) (fp : List Addr), PG (Blk X scope s H C cl fp) (.Name x tp) (gName j)) (hy : X.N[i]? = some y := by rfl) (hyl : X.env.scope.names.lookup y = some .local := by rfl) (hs : ∀ x, foldedSetIterable iter X.env x = pure x := by intro _; rfl) :
    ES X ρ ω (.Assign [.Name y py] (.ListComp elt [⟨.Name x tp, iter, [c], 0⟩] scope pos) spos) Φ := by
  refine es_setLc i j ok bo hj (.inr ⟨c, rfl⟩) hsw (fun σ P H as R w en xk q => h σ P H as R w en xk fun J items dv ω' P' H' as' w' g' it d1 k => q J items dv ω' P' H' as' w' g' it d1 ?_) hg hy hyl hs
  obtain ⟨k0, k1, k2, k3, k4⟩ := k
  refine ⟨fun i acc o => o = ω' ∧ acc = (items.take i).filter p, ⟨rfl, rfl⟩, fun i acc o z => z.1 ▸ k0, fun i d acc o hd z => ?_, fun acc o z => ?_⟩
  · obtain ⟨rfl, rfl⟩ := z
    obtain ⟨hl, e⟩ := List.getElem?_eq_some_iff.mp hd
    have et : items.take (i + 1) = items.take i ++ [d] := by rw [List.take_succ_eq_append_getElem hl, e]
    have hm := List.mem_of_getElem? hd
    refine elt1 (p d) (fun s H C cl fp => k1 d hm s H C cl fp) (fun hp s H C cl fp => (k2 d hm s H C cl fp).imp fun y o2 z => ⟨?_, z.2, ?_⟩) (fun hp => ⟨rfl, ?_⟩)
    · have := List.length_filter_le p (items.take i)
      rw [List.length_take] at this
      omega
    · rw [z.1, et, List.filter_append, List.filter_cons_of_pos hp]; rfl
    · rw [et, List.filter_append, List.filter_cons_of_neg (by rw [hp]; decide), List.filter_nil, List.append_nil]
  · obtain ⟨rfl, rfl⟩ := z
    rw [List.take_length]; exact k4
end
end NM
namespace NM
open PySem L2
structure Hs where
  s : Str
  m : Str
  o : Bool
  n : Nat
  deriving DecidableEq
structure Tb where
  a : Option Int
  d : Bool
  w : Bool
  deriving DecidableEq
def aD : Option Int → Dt
  | none => .non
  | some i => .int i
def aP : Option Int → PyData
  | none => .none
  | some i => .int i
abbrev hD (h : Hs) : Dt := .tup [.str h.s, .str h.m, .bl h.o, .int (h.n : Nat)]
abbrev tD (t : Tb) : Dt := .tup [aD t.a, .bl t.d, .bl t.w]
def hP (h : Hs) : PyData := .tuple [.str h.s, .str h.m, .bool h.o, .int (h.n : Nat)]
def tP (t : Tb) : PyData := .tuple [aP t.a, .bool t.d, .bool t.w]
def hN (h : Hs) : NestedKey := .tup [.text h.s, .text h.m, .num (if h.o = true then 1 else 0), .num (h.n : Nat)]
theorem nk_hD (h : Hs) : nkO (hD h) = some (hN h) := by
  simp only [nkO, nkO.nkL, Option.map_some, hN]
theorem hN_inj {a b : Hs} (e : hN a = hN b) : a = b := by
  unfold hN at e
  simp only [NestedKey.tup.injEq, List.cons.injEq, NestedKey.text.injEq, NestedKey.num.injEq] at e
  obtain ⟨e1, e2, e3, e4, _⟩ := e
  cases a with
  | mk s m o n =>
    cases b with
    | mk s' m' o' n' =>
      dsimp only at e1 e2 e3 e4
      subst e1 e2
      have : n = n' := by omega
      subst this
      cases o <;> cases o' <;> simp_all
theorem hN_deep (h : Hs) : (hN h).depth ≤ 8 := by
  unfold hN
  simp [NestedKey.depth, NestedKey.depthAll]
theorem py_a {ω : Om} : ∀ a : Option Int, Py ω (aD a) (aP a)
  | none => .non
  | some i => .int i
theorem py_h {ω : Om} (h : Hs) : Py ω (hD h) (hP h) := .tup (.cons (.str _) (.cons (.str _) (.cons (.bl _) (.cons (.int _) .nil))))
theorem py_t {ω : Om} (t : Tb) : Py ω (tD t) (tP t) := .tup (.cons (py_a _) (.cons (.bl _) (.cons (.bl _) .nil)))
theorem py_hs {ω : Om} : ∀ l : List Hs, PyL ω (l.map hD) (l.map hP)
  | [] => .nil
  | h :: l => .cons (py_h h) (py_hs l)
theorem eqv_h (a b : Hs) : PyData.eqv (hP a) (hP b) = decide (a = b) := by
  unfold hP
  simp only [PyData.eqv, PyData.eqvAll]
  cases a with
  | mk s m o n =>
    cases b with
    | mk s' m' o' n' =>
      simp only [Hs.mk.injEq]
      by_cases e1 : s = s' <;> by_cases e2 : m = m' <;> by_cases e3 : o = o' <;> by_cases e4 : n = n' <;> simp [e1, e2, e3, e4] <;> omega
theorem eqv_hs : ∀ l k : List Hs, PyData.eqvAll (l.map hP) (k.map hP) = decide (l = k)
  | [], [] => rfl
  | [], _ :: _ => rfl
  | _ :: _, [] => rfl
  | a :: l, b :: k => by
    rw [List.map_cons, List.map_cons]
    simp only [PyData.eqvAll, eqv_h, eqv_hs l k]
    by_cases e1 : a = b <;> by_cases e2 : l = k <;> simp [e1, e2]
theorem eqv_t (a b : Tb) : PyData.eqv (tP a) (tP b) = decide (a = b) := by
  unfold tP
  simp only [PyData.eqv, PyData.eqvAll]
  cases a with
  | mk a d w =>
    cases b with
    | mk a' d' w' =>
      simp only [Tb.mk.injEq]
      cases a with
      | none => cases a' with
        | none => by_cases e2 : d = d' <;> by_cases e3 : w = w' <;> simp [aP, PyData.eqv, e2, e3]
        | some j => simp [aP, PyData.eqv]
      | some i => cases a' with
        | none => simp [aP, PyData.eqv]
        | some j => by_cases e1 : i = j <;> by_cases e2 : d = d' <;> by_cases e3 : w = w' <;> simp [aP, PyData.eqv, e1, e2, e3]
def hK (h : Hs) : List (Int ⊕ List Nat) := PySem.W.keyToks (hP h)
def hLt (a b : Hs) : Bool := PySem.W.dataLt (hP a) (hP b)
theorem hK_inj {a b : Hs} (e : hK a = hK b) : a = b := by
  unfold hK hP at e
  simp only [PySem.W.keyToks, PySem.W.keyToksAll, List.cons_append, List.nil_append, List.cons.injEq, Sum.inr.injEq, Sum.inl.injEq, true_and, and_true] at e
  obtain ⟨e1, e2, e3, e4⟩ := e
  have s1 := PySem.W.str_of_cps e1
  have s2 := PySem.W.str_of_cps e2
  cases a with
  | mk s m o n =>
    cases b with
    | mk s' m' o' n' =>
      dsimp only at s1 s2 e3 e4
      subst s1 s2
      have : n = n' := by omega
      subst this
      cases o <;> cases o' <;> simp_all
theorem alike_h (a b : Hs) : PySem.W.alike (hP a) (hP b) = true := rfl
theorem alike_hs : ∀ l k : List Hs, PySem.W.alikeAll (l.map hP) (k.map hP) = true
  | [], _ => by simp only [List.map_nil, PySem.W.alikeAll]
  | _ :: _, [] => by simp only [List.map_cons, List.map_nil, PySem.W.alikeAll]
  | a :: l, b :: k => by
    rw [List.map_cons, List.map_cons]
    simp only [PySem.W.alikeAll, alike_h, alike_hs l k, Bool.and_self]
theorem hLt_irr (a : Hs) : hLt a a = false := PyProof.Rows.lex_irrefl _
theorem hLt_tr {a b c : Hs} (h1 : hLt a b = true) (h2 : hLt b c = true) : hLt a c = true := PyProof.Rows.lex_trans _ _ _ h1 h2
theorem hLt_tot {a b : Hs} (h1 : hLt a b = false) (h2 : hLt b a = false) : a = b := hK_inj (PyProof.Rows.lex_total _ _ h1 h2)
theorem hLt_neg {a b c : Hs} (h1 : hLt a c = true) : hLt a b = true ∨ hLt b c = true := PyProof.Rows.lex_negTrans _ _ _ h1
theorem hLt_asym {a b : Hs} (h1 : hLt a b = true) : hLt b a = false := by
  cases h : hLt b a with
  | false => rfl
  | true => have := hLt_tr h1 h; rw [hLt_irr] at this; cases this
/-- a ≤ b -/
def hLe (a b : Hs) : Prop := hLt b a = false
theorem hLe_tr {a b c : Hs} (h1 : hLe a b) (h2 : hLe b c) : hLe a c := by
  unfold hLe at *
  cases h : hLt c a with
  | false => rfl
  | true =>
    rcases hLt_neg (b := b) h with q | q
    · rw [h2] at q; cases q
    · rw [h1] at q; cases q
abbrev Srt (l : List Hs) : Prop := l.Pairwise hLe
theorem srt_uniq : ∀ {l k : List Hs}, l.Perm k → Srt l → Srt k → l = k
  | [], k, p, _, _ => (List.Perm.nil_eq p)
  | a :: l, [], p, _, _ => absurd p.length_eq (by simp)
  | a :: l, b :: k, p, h1, h2 => by
    obtain ⟨a1, a2⟩ := List.pairwise_cons.mp h1
    obtain ⟨b1, b2⟩ := List.pairwise_cons.mp h2
    have e : a = b := by
      have m1 : a ∈ b :: k := p.subset List.mem_cons_self
      have m2 : b ∈ a :: l := p.symm.subset List.mem_cons_self
      rcases List.mem_cons.mp m1 with q | q
      · exact q
      · rcases List.mem_cons.mp m2 with r | r
        · exact r.symm
        · exact hLt_tot (b1 _ q) (a1 _ r)
    subst e
    rw [srt_uniq (p.cons_inv) a2 b2]
/-- the place behind all that are at most h -/
def putAt (l : List Hs) (h : Hs) : Nat := (l.filter fun o => !hLt h o).length
def insH (l : List Hs) (h : Hs) : List Hs := l.take (putAt l h) ++ [h] ++ l.drop (putAt l h)
def inOrd (l : List Hs) : List Hs := l.foldl insH []
theorem put_split (h : Hs) : ∀ {l : List Hs}, Srt l → (∀ x ∈ l.take (putAt l h), hLe x h) ∧ ∀ x ∈ l.drop (putAt l h), hLe h x
  | [], _ => ⟨(fun x q => by simp at q), (fun x q => by simp at q)⟩
  | a :: l, hs => by
    obtain ⟨a1, a2⟩ := List.pairwise_cons.mp hs
    cases q : hLt h a with
    | false =>
      have e : putAt (a :: l) h = putAt l h + 1 := by unfold putAt; rw [List.filter_cons_of_pos (by rw [q]; rfl)]; rfl
      obtain ⟨p1, p2⟩ := put_split h a2
      rw [e]
      refine ⟨fun x hx => ?_, fun x hx => p2 x (by simpa using hx)⟩
      rw [List.take_succ_cons] at hx
      rcases List.mem_cons.mp hx with rfl | r
      · exact q
      · exact p1 x r
    | true =>
      have no : ∀ x ∈ l, hLt h x = true := fun x hx => by
        rcases hLt_neg (b := x) q with r | r
        · exact r
        · have := a1 x hx; unfold hLe at this; rw [this] at r; cases r
      have e : putAt (a :: l) h = 0 := by
        unfold putAt
        rw [List.filter_cons_of_neg (by rw [q]; simp), List.filter_eq_nil_iff.mpr (fun x hx => by rw [no x hx]; simp)]
        rfl
      rw [e]
      refine ⟨fun x hx => by simp at hx, fun x hx => ?_⟩
      rw [List.drop_zero] at hx
      rcases List.mem_cons.mp hx with rfl | r
      · exact hLt_asym q
      · exact hLt_asym (no x r)
theorem ins_srt {l : List Hs} (h : Hs) (hs : Srt l) : Srt (insH l h) := by
  obtain ⟨p1, p2⟩ := put_split h hs
  unfold insH
  refine List.pairwise_append.mpr ⟨List.pairwise_append.mpr ⟨hs.sublist (List.take_sublist _ _), List.pairwise_singleton _ _, fun x hx y hy => ?_⟩, hs.sublist (List.drop_sublist _ _), fun x hx y hy => ?_⟩
  · rw [List.mem_singleton.mp hy]; exact p1 x hx
  · rcases List.mem_append.mp hx with q | q
    · exact hLe_tr (p1 x q) (p2 y hy)
    · rw [List.mem_singleton.mp q]; exact p2 y hy
theorem ins_perm (l : List Hs) (h : Hs) : (insH l h).Perm (l ++ [h]) := by
  unfold insH
  have e : l ++ [h] = (l.take (putAt l h) ++ l.drop (putAt l h)) ++ [h] := by rw [List.take_append_drop]
  rw [e, List.append_assoc, List.append_assoc]
  exact List.Perm.append_left _ List.perm_append_comm
theorem fold_ins : ∀ (l acc : List Hs), Srt acc → Srt (l.foldl insH acc) ∧ (l.foldl insH acc).Perm (acc ++ l)
  | [], acc, h => ⟨h, by rw [List.append_nil]; exact .refl _⟩
  | a :: l, acc, h => by
    obtain ⟨h1, h2⟩ := fold_ins l (insH acc a) (ins_srt a h)
    refine ⟨h1, h2.trans ?_⟩
    have := (ins_perm acc a).append_right l
    rw [List.append_assoc] at this
    exact this
theorem ord_srt (l : List Hs) : Srt (inOrd l) := (fold_ins l [] .nil).1
theorem ord_perm (l : List Hs) : (inOrd l).Perm l := by unfold inOrd; simpa using (fold_ins l [] .nil).2
theorem ord_uniq {l k : List Hs} (p : k.Perm l) (h : Srt k) : k = inOrd l := srt_uniq (p.trans (ord_perm l).symm) h (ord_srt l)
theorem ord_of_perm {l k : List Hs} (p : l.Perm k) : inOrd l = inOrd k := ord_uniq ((ord_perm l).trans p) (ord_srt l)
theorem ord_len (l : List Hs) : (inOrd l).length = l.length := (ord_perm l).length_eq
theorem ord_ord {l : List Hs} (h : Srt l) : inOrd l = l := (ord_uniq (.refl l) h).symm
def subB (a b : List Hs) : Bool := a.all fun h => decide (a.count h ≤ b.count h)
theorem subB_iff {a b : List Hs} : subB a b = true ↔ ∀ h, a.count h ≤ b.count h := by
  unfold subB
  rw [List.all_eq_true]
  refine ⟨fun q h => ?_, fun q h _ => decide_eq_true (q h)⟩
  by_cases m : h ∈ a
  · exact of_decide_eq_true (q h m)
  · rw [List.count_eq_zero.mpr m]; exact Nat.zero_le _
theorem sub_len : ∀ {a b : List Hs}, (∀ h, a.count h ≤ b.count h) → a.length ≤ b.length
  | [], b, _ => Nat.zero_le _
  | x :: a, b, h => by
    have m : x ∈ b := by
      have := h x
      rw [List.count_cons_self] at this
      exact List.count_pos_iff.mp (by omega)
    have p := List.perm_cons_erase m
    have := sub_len (a := a) (b := b.erase x) (fun y => by
      have q := h y
      rw [p.count_eq, List.count_cons, List.count_cons] at q
      omega)
    rw [p.length_eq, List.length_cons, List.length_cons]; omega
theorem perm_of_counts : ∀ {a b : List Hs}, (∀ h, a.count h = b.count h) → a.Perm b := fun h => List.perm_iff_count.mpr h
theorem sub_perm {a a' b b' : List Hs} (p : a.Perm a') (q : b.Perm b') : subB a b = subB a' b' := by
  rw [Bool.eq_iff_iff, subB_iff, subB_iff]
  exact ⟨fun z h => by rw [← p.count_eq, ← q.count_eq]; exact z h, fun z h => by rw [p.count_eq, q.count_eq]; exact z h⟩
theorem sub_both {a b : List Hs} (h1 : subB a b = true) (h2 : subB b a = true) : a.Perm b := perm_of_counts fun h => Nat.le_antisymm (subB_iff.mp h1 h) (subB_iff.mp h2 h)
theorem sub_refl (a : List Hs) : subB a a = true := subB_iff.mpr fun _ => Nat.le_refl _
theorem sub_trans {a b c : List Hs} (h1 : subB a b = true) (h2 : subB b c = true) : subB a c = true := subB_iff.mpr fun h => Nat.le_trans (subB_iff.mp h1 h) (subB_iff.mp h2 h)
theorem sub_app (a b : List Hs) : subB a (a ++ b) = true := subB_iff.mpr fun h => by rw [List.count_append]; exact Nat.le_add_right _ _
theorem sub_le {a b : List Hs} (h : subB a b = true) : a.length ≤ b.length := sub_len (subB_iff.mp h)
/-- the standings in the order of their first coming -/
def addH (k : List Hs) (h : Hs) : List Hs := if h ∈ k then k else k ++ [h]
def kH (l : List Hs) : List Hs := l.foldl addH []
theorem kH_snoc (l : List Hs) (h : Hs) : kH (l ++ [h]) = addH (kH l) h := by unfold kH; rw [List.foldl_append]; rfl
theorem addH_mem {k : List Hs} {h x : Hs} : x ∈ addH k h ↔ x ∈ k ∨ x = h := by
  unfold addH
  by_cases m : h ∈ k
  · rw [if_pos m]
    exact ⟨.inl, fun q => q.elim id fun e => e ▸ m⟩
  · rw [if_neg m, List.mem_append, List.mem_singleton]
theorem fold_mem {x : Hs} : ∀ {l k : List Hs}, x ∈ l.foldl addH k ↔ x ∈ k ∨ x ∈ l
  | [], k => by simp
  | a :: l, k => by
    rw [List.foldl_cons, fold_mem (l := l), addH_mem, List.mem_cons, or_assoc]
theorem kH_mem {x : Hs} {l : List Hs} : x ∈ kH l ↔ x ∈ l := by unfold kH; rw [fold_mem]; simp
theorem addH_len (k : List Hs) (h : Hs) : (addH k h).length ≤ k.length + 1 := by unfold addH; split <;> simp
theorem addH_nd {k : List Hs} {h : Hs} (n : k.Nodup) : (addH k h).Nodup := by
  unfold addH
  split
  · exact n
  · rename_i m
    exact List.nodup_append.mpr ⟨n, by simp, fun x hx y hy => by rw [List.mem_singleton.mp hy]; exact fun e => m (e ▸ hx)⟩
theorem fold_nd : ∀ {l k : List Hs}, k.Nodup → (l.foldl addH k).Nodup
  | [], k, n => n
  | a :: l, k, n => fold_nd (l := l) (addH_nd n)
theorem kH_nd (l : List Hs) : (kH l).Nodup := fold_nd .nil
theorem fold_klen : ∀ (l k : List Hs), (l.foldl addH k).length ≤ k.length + l.length
  | [], k => by simp
  | a :: l, k => by
    have h1 := fold_klen l (addH k a)
    have h2 := addH_len k a
    rw [List.foldl_cons, List.length_cons]
    omega
theorem kH_len (l : List Hs) : (kH l).length ≤ l.length := by unfold kH; simpa using fold_klen l []
theorem kH_all {l : List Hs} {p : Hs → Bool} : (kH l).all p = l.all p := by
  rw [Bool.eq_iff_iff, List.all_eq_true, List.all_eq_true]
  exact ⟨fun q x hx => q x (kH_mem.mpr hx), fun q x hx => q x (kH_mem.mp hx)⟩
theorem dGet_h {f : Hs → Dt} {h : Hs} : ∀ (ks : List Hs), dGet (hN h) (ks.map hD) (ks.map f) = if h ∈ ks then some (f h) else none
  | [] => by unfold dGet; simp
  | a :: ks => by
    rw [List.map_cons, List.map_cons]
    unfold dGet
    rw [nk_hD]
    by_cases e : a = h
    · subst e; simp
    · rw [if_neg (fun q => e (hN_inj (Option.some.inj q))), dGet_h ks]
      have : (h ∈ a :: ks) ↔ h ∈ ks := by rw [List.mem_cons]; exact ⟨fun q => q.resolve_left fun z => e z.symm, .inr⟩
      simp only [this]
theorem has_h {h : Hs} (ks : List Hs) : hasB (hN h) (ks.map hD) = ks.map fun k => decide (k = h) := by
  unfold hasB
  rw [List.map_map]
  refine List.map_congr_left fun k _ => ?_
  show decide (nkO (hD k) = some (hN h)) = decide (k = h)
  rw [nk_hD]
  by_cases e : k = h
  · subst e; simp
  · rw [decide_eq_false e, decide_eq_false fun q => e (hN_inj (Option.some.inj q))]
theorem rep_h {f : Hs → Dt} {h : Hs} {d : Dt} : ∀ ks : List Hs, rep d (ks.map fun k => decide (k = h)) (ks.map f) = ks.map fun k => if k = h then d else f k
  | [] => by simp [rep]
  | a :: ks => by
    rw [List.map_cons, List.map_cons, List.map_cons]
    unfold rep
    rw [rep_h ks]
    by_cases e : a = h <;> simp [e]
theorem dPut_h {f : Hs → Dt} {h : Hs} {d : Dt} (ks : List Hs) : dPut (hN h) (hD h) d (ks.map hD) (ks.map f) = ((addH ks h).map hD, (addH ks h).map fun k => if k = h then d else f k) := by
  unfold dPut addH
  rw [has_h]
  by_cases m : h ∈ ks
  · rw [if_pos (by rw [List.any_eq_true]; exact ⟨true, List.mem_map.mpr ⟨h, m, by simp⟩, rfl⟩), if_pos m, rep_h]
  · rw [if_neg (by rw [List.any_eq_true]; rintro ⟨b, hb, e⟩; obtain ⟨k, hk, rfl⟩ := List.mem_map.mp hb; exact m ((of_decide_eq_true (show decide (k = h) = true from e)) ▸ hk)), if_neg m]
    rw [List.map_append, List.map_append]
    refine Prod.ext rfl ?_
    dsimp only
    congr 1
    · refine List.map_congr_left fun k hk => ?_
      rw [if_neg (fun (e : k = h) => m (e ▸ hk))]
    · simp
def cntD (l : List Hs) (h : Hs) : Dt := .int (l.count h : Nat)
theorem cnt_get (l : List Hs) (h : Hs) : (dGet (hN h) ((kH l).map hD) ((kH l).map (cntD l))).getD (.int 0) = .int (l.count h : Nat) := by
  rw [dGet_h]
  by_cases m : h ∈ l
  · rw [if_pos (kH_mem.mpr m)]; rfl
  · rw [if_neg (fun q => m (kH_mem.mp q)), List.count_eq_zero.mpr m]; rfl
theorem cnt_put (l : List Hs) (h : Hs) : dPut (hN h) (hD h) (.int ((l.count h : Nat) + 1)) ((kH l).map hD) ((kH l).map (cntD l)) = ((kH (l ++ [h])).map hD, (kH (l ++ [h])).map (cntD (l ++ [h]))) := by
  rw [dPut_h, kH_snoc]
  refine Prod.ext rfl ?_
  dsimp only
  refine List.map_congr_left fun k hk => ?_
  unfold cntD
  rw [List.count_append]
  by_cases e : k = h
  · subst e; simp
  · rw [if_neg e, List.count_singleton]
    have : (h == k) = false := by simpa using fun z => e z.symm
    rw [this]; simp
end NM
namespace NM
open PySem PySem.Spec PyProof.Rows L2
theorem AtL.eraseIdx {K : Fg} {P : Hp} {as : List Addr} : ∀ {vs : List V} {ds : List Dt} (i : Nat), AtL K P as vs ds → AtL K P as (vs.eraseIdx i) (ds.eraseIdx i)
  | _, _, _, .nil => .nil
  | _, _, 0, .cons h r => r
  | _, _, i + 1, .cons h r => .cons h (AtL.eraseIdx i r)
section
variable {X : Cx} {ρ : Rho} {ω : Om} {Ψ : PsiE} {ε : PsiX} {Φ : Post} {e f i : Expr} {pos : Pos}
/-- l.pop(i) -/
theorem md_popAt {n : Nat} {ds : List Dt} {k : Nat} {d : Dt} (hn : ω[n]? = some (.lst ds)) (hk : (k : Int) < 2 ^ 63) (hd : ds[k]? = some d) (h : Ψ d (ω.set n (.lst (ds.eraseIdx k)))) : MD X "list.pop" (.own n) [.int (k : Nat)] ω Ψ := ⟨_, mt_popAt, fun vx vs P H as Q w ax al q => by
  obtain ⟨a, us, rfl, ha, hp, hh, r⟩ := seqO w ax hn
  obtain ⟨v1, rfl, a1⟩ := one_of al
  cases a1
  obtain ⟨y, hy, ay⟩ := r.get hd
  have hl : k < us.length := (List.getElem?_eq_some_iff.mp hy).1
  refine ⟨a, us, _, k, y, rfl, rfl, hh, by omega, hk, by unfold seqIndex?; simp; omega, hy, ?_⟩
  obtain ⟨w2, g2⟩ := w.turn (ho := .lst (us.eraseIdx k)) (u := .lst (ds.eraseIdx k)) hn ha hp ⟨hp, _, upd_same, r.eraseIdx k⟩
  exact q _ _ _ _ _ _ w2 g2 (ay.mono g2.p g2.a) h⟩
/-- x <= y, x >= y by an own def -/
theorem od_cmpO {op : CmpOp} (hop : ∀ a b, compareOp op a b = richCompare op a b) {m : Str} (hm : (cmpInfo op).2.1 = m) {x y : Dt} {C : Addr} {ns : List Str} {ds : List Dt} {ty : Value} {gD : List Dt → List Dt → List Dt} {sp : DSp} (ob : Ob ω x C ns ds) (S : SpD X C m 2 gD sp) (hy : TyD X.K ω y ty) (hn : PySem.W.notFirst X.K C ty = true)
    (h : sp (gD [x, y] []) ω (fun d ω' => ∃ k, d = .bl k ∧ Ψ d ω') ε) : OD X (compareOp op) x y ω Ψ ε := fun σ vx vy P H as Q w ax ay xk q => .mk fun pins s v u I rx ry => by
  obtain ⟨f, fd, k, ps, hs, hf, F, hb, hr⟩ := S.ex
  obtain ⟨g, gV, hb1, hb2⟩ := hb.ex
  obtain ⟨a, dx, fs, rfl, h1, e1, r1⟩ := ob_at w ob ax
  cases rx
  obtain ⟨mA, J, _⟩ := ins_get I.hok h1
  obtain ⟨od, J, _⟩ := J.look
  obtain ⟨m, hF⟩ := I.fr
  obtain ⟨W, tk, z⟩ := lift_of (σ := σ) (Q := fun v H' => (∃ k, v = .bl k) ∧ Q v H') w (hb2 (.cons ax (.cons ay .nil)) .nil) xk h fun v d ω' P' H' as' w' g' a' p => by
    obtain ⟨k, rfl, p⟩ := p
    cases a'
    exact ⟨⟨k, rfl⟩, q _ _ ω' P' H' as' w' g' (.bl k) p⟩
  rw [hop]
  subst hm
  refine PySem.W.cmp_K (op := op) (tb := ty) hr.r.units0 hF I.ok.mod.kin J (looks_ty I ry (tyx_at w hy ay)) hn hs hf ?_
  refine wpAny_mono (run_at (us := [.ref a, u]) (vs := [.ref a, vy]) F.ok (hr.mono (by omega)) rfl hb1 I tk (.cons rfl (.cons ry .nil)) rfl z) (fun v s' hv => ?_) fun _ _ x => x
  obtain ⟨v', H', I', rv, ⟨k, rfl⟩, qq⟩ := hv
  cases rv
  exact ⟨.bl k, H', I', rfl, qq⟩
theorem od_leO {x y : Dt} {C : Addr} {ns : List Str} {ds : List Dt} {ty : Value} {gD : List Dt → List Dt → List Dt} {sp : DSp} (ob : Ob ω x C ns ds) (S : SpD X C "__le__" 2 gD sp) (hy : TyD X.K ω y ty) (hn : PySem.W.notFirst X.K C ty = true)
    (h : sp (gD [x, y] []) ω (fun d ω' => ∃ k, d = .bl k ∧ Ψ d ω') ε) : OD X (compareOp .LtE) x y ω Ψ ε := od_cmpO (fun _ _ => rfl) (by decide +kernel) ob S hy hn h
theorem od_geO {x y : Dt} {C : Addr} {ns : List Str} {ds : List Dt} {ty : Value} {gD : List Dt → List Dt → List Dt} {sp : DSp} (ob : Ob ω x C ns ds) (S : SpD X C "__ge__" 2 gD sp) (hy : TyD X.K ω y ty) (hn : PySem.W.notFirst X.K C ty = true)
    (h : sp (gD [x, y] []) ω (fun d ω' => ∃ k, d = .bl k ∧ Ψ d ω') ε) : OD X (compareOp .GtE) x y ω Ψ ε := od_cmpO (fun _ _ => rfl) (by decide +kernel) ob S hy hn h
end
section
open PySem.W
/-- a built-in type whose + is not a number's -/
def NoAdd (T : String) : Prop := ∀ (M : Model) (h : Heap), Looks M h (fillsNumberSlot (.type T) "add") false
theorem noAdd_of {T : String} {o r : Option Value} (h1 : typeLookup (.type T) (PySem.dunder "add") = pure o) (h2 : typeLookup (.type T) (dunderR "add") = pure r) (h3 : ((o.isSome && !isSeqSlot o) || (r.isSome && !isSeqSlot r)) = false) : NoAdd T := by
  intro M h A Q E s k q
  unfold fillsNumberSlot
  dsimp only
  rw [h1, h2]
  refine wpAny_bind (wpAny_bind (wpAny_pure (wpAny_bind (wpAny_pure (wpAny_pure ?_)))))
  exact wpAny_pure (by rw [h3]; exact q)
theorem noAdd_tup : NoAdd "tuple" := noAdd_of (o := some (.builtin "tuple.__add__")) (r := none) (by rw [typeLookup_type, builtinLookup_eq_fast]; kernel_rfl) (by rw [typeLookup_type, builtinLookup_eq_fast]; kernel_rfl) (by decide +kernel)
theorem noAdd_lst : NoAdd "list" := noAdd_of (o := some (.builtin "list.__add__")) (r := none) (by rw [typeLookup_type, builtinLookup_eq_fast]; kernel_rfl) (by rw [typeLookup_type, builtinLookup_eq_fast]; kernel_rfl) (by decide +kernel)
theorem noAdd_str : NoAdd "str" := noAdd_of (o := some (.builtin "str.__add__")) (r := none) (by rw [typeLookup_type, builtinLookup_eq_fast]; kernel_rfl) (by rw [typeLookup_type, builtinLookup_eq_fast]; kernel_rfl) (by decide +kernel)
theorem noAdd_non : NoAdd "NoneType" := noAdd_of (o := none) (r := none) (by rw [typeLookup_type, builtinLookup_eq_fast]; kernel_rfl) (by rw [typeLookup_type, builtinLookup_eq_fast]; kernel_rfl) (by decide +kernel)
theorem binop1_KT {prog : Program} {w : World} {A : Around} {E : Value → Shared → Prop} {s : Shared} {K : Frag} {x C f : Addr} {T : String} {ox : Obj} {od : Option Obj} {b : Value} {cd : ClassData} {rest : List Value} {Q : Option Value → Shared → Prop} (nT : NoAdd T) (X : K.In s.heap) (I : InstAt s.heap x ox C od) (hb : Looks (model prog w) s.heap (typeOf b) (.type T))
    (hc : clsIn K C = some cd) (hm : cd.mro = .ref C :: rest) (hs : findIn K (.ref C) (PySem.dunder "add") = some (some (.ref f))) (hf : isFn K (.ref f) = true)
    (h : wpAny (model prog w) A (call (.ref f) [.ref x, b]) (PySem.W.CmpBack fun v => Q (some v)) E s) : wpAny (model prog w) A (binaryOp1 "add" (.ref x) b) Q E s := by
  unfold binaryOp1
  refine wpAny_bind (I.type.here (wpAny_bind (hb.here (wpAny_bind ((fills_K X hc hm hs).here ?_)))))
  rw [show ((Value.ref C == Value.type T) = false) from rfl]
  simp only [Bool.false_eq_true, if_false]
  refine wpAny_bind ((nT _ _).here ?_)
  simp only [Bool.and_false, Bool.false_eq_true, if_false, Bool.false_and]
  refine wpAny_bind (wpAny_pure ?_)
  simp only [Bool.false_eq_true, if_false]
  refine wpAny_bind (m := tryMethod (.ref x) _ b) ?_
  unfold tryMethod
  refine wpAny_bind (special_fn X I hs (beq_iff_eq.mp hf) (wpAny_mono h (fun v s1 hv => ?_) fun _ _ e => e))
  cases v <;> first | exact hv.elim | exact wpAny_pure (wpAny_pure hv)
theorem cmpBack_mono {Q R : Value → Shared → Prop} {v : Value} {s : Shared} (h : PySem.W.CmpBack Q v s) (k : ∀ v s, Q v s → R v s) : PySem.W.CmpBack R v s := by
  cases v <;> first | exact h.elim | exact k _ _ h
theorem binop_KT {prog : Program} {w : World} {A : Around} {E : Value → Shared → Prop} {s : Shared} {K : Frag} {x C f L : Addr} {h0 : Heap} {m : Str → Option Value} {T : String} {ox : Obj} {od : Option Obj} {b : Value} {Q : Value → Shared → Prop} (nT : NoAdd T) (F : Fr h0 L s.heap m) (X0 : K.In h0) (I : InstAt s.heap x ox C od) (hb : Looks (model prog w) s.heap (typeOf b) (.type T))
    (hc : selfFirst K C = true) (hs : findIn K (.ref C) (PySem.dunder "add") = some (some (.ref f))) (hf : isFn K (.ref f) = true)
    (h : wpAny (model prog w) A (call (.ref f) [.ref x, b]) (PySem.W.CmpBack Q) E s) : wpAny (model prog w) A (binaryOp .Add (.ref x) b) Q E s := by
  have X := X0.keeps F.keep
  obtain ⟨cd, hcd, hm⟩ := any_some hc
  obtain ⟨rest, hm⟩ : ∃ rest, cd.mro = .ref C :: rest := by
    cases q : cd.mro with
    | nil => rw [q] at hm; cases hm
    | cons a r => rw [q] at hm; exact ⟨r, by rw [List.head?_cons] at hm; cases (beq_iff_eq.mp hm); rfl⟩
  unfold binaryOp
  refine wpAny_holding (wpAny_bind ?_)
  show wpAny _ _ (binaryOp1 "add" (.ref x) b) _ _ _
  exact binop1_KT nT X I hb hcd hm hs hf (wpAny_mono h (fun v s1 hv => cmpBack_mono hv fun v s1 q => wpAny_pure q) fun _ _ e => e)
theorem inop_KT {prog : Program} {w : World} {A : Around} {E : Value → Shared → Prop} {s : Shared} {K : Frag} {x C f L : Addr} {h0 : Heap} {m : Str → Option Value} {T : String} {ox : Obj} {od : Option Obj} {b : Value} {cd : ClassData} {Q : Value → Shared → Prop} (nT : NoAdd T) (F : Fr h0 L s.heap m) (X0 : K.In h0) (I : InstAt s.heap x ox C od) (hb : Looks (model prog w) s.heap (typeOf b) (.type T))
    (hc : clsIn K C = some cd) (hm : cd.mro = [.ref C, .type "object"]) (hi : findIn K (.ref C) (dunderI "add") = some none) (hob : typeLookup (.type "object") (dunderI "add") = pure none)
    (hs : findIn K (.ref C) (PySem.dunder "add") = some (some (.ref f))) (hf : isFn K (.ref f) = true)
    (h : wpAny (model prog w) A (call (.ref f) [.ref x, b]) (PySem.W.CmpBack Q) E s) : wpAny (model prog w) A (inplaceOp .Add (.ref x) b) Q E s := by
  have X := X0.keeps F.keep
  unfold inplaceOp
  refine wpAny_holding (wpAny_bind (I.type.here (wpAny_bind ((fillsI_K X hc hm hi hob).here ?_))))
  rw [if_neg (by decide)]
  refine wpAny_bind ?_
  show wpAny _ _ (binaryOp1 "add" (.ref x) b) _ _ _
  exact binop1_KT nT X I hb hc hm hs hf (wpAny_mono h (fun v s1 hv => cmpBack_mono hv fun v s1 q => wpAny_pure q) fun _ _ e => e)
end
section
variable {X : Cx} {ρ : Rho} {ω : Om} {Ψ : PsiE} {ε : PsiX} {Φ : Post} {e f i : Expr} {pos : Pos}
/-- x + y, an own def, y of a built-in type -/
theorem od_addKT {x y : Dt} {T : String} {C : Addr} {ns : List Str} {ds : List Dt} {gD : List Dt → List Dt → List Dt} {sp : DSp} (nT : NoAdd T) (ob : Ob ω x C ns ds) (S : SpD X C (PySem.dunder "add") 2 gD sp) (hy : TyD X.K ω y (.type T)) (hc : PySem.W.selfFirst X.K C = true)
    (h : sp (gD [x, y] []) ω (fun d ω' => (∃ C ns ds, d = .obj C ns ds) ∧ Ψ d ω') ε) : OD X (binaryOp .Add) x y ω Ψ ε := fun σ vx vy P H as Q w ax ay xk q => .mk fun pins s v u I rx ry => by
  obtain ⟨f, fd, k, ps, hs, hf, F, hb, hr⟩ := S.ex
  obtain ⟨g, gV, hb1, hb2⟩ := hb.ex
  obtain ⟨c, dx, fs, rfl, h1, e1, r1⟩ := ob_at w ob ax
  cases rx
  obtain ⟨mA, J, _⟩ := ins_get I.hok h1
  obtain ⟨od, J, _⟩ := J.look
  obtain ⟨m, hF⟩ := I.fr
  obtain ⟨W, tk, z⟩ := lift_of (σ := σ) (Q := fun v H' => (∃ k, v = .ref k) ∧ Q v H') w (hb2 (.cons ax (.cons ay .nil)) .nil) xk h fun v d ω' P' H' as' w' g' a' p => by
    obtain ⟨⟨C', ns', ds', rfl⟩, p⟩ := p
    refine ⟨?_, q _ _ ω' P' H' as' w' g' a' p⟩
    cases a'
    exact ⟨_, rfl⟩
  refine binop_KT nT hF I.ok.mod.kin J (looks_ty I ry (tyx_at w hy ay)) hc hs hf ?_
  refine wpAny_mono (run_at (us := [.ref c, u]) (vs := [.ref c, vy]) F.ok (hr.mono (by omega)) rfl hb1 I tk (.cons rfl (.cons ry .nil)) rfl z) (fun v s' hv => ?_) fun _ _ x => x
  obtain ⟨v', H', I', rv, ⟨k, rfl⟩, qq⟩ := hv
  cases rv
  exact ⟨.ref k, H', I', rfl, qq⟩
/-- x += y likewise -/
theorem od_iaddKT {x y : Dt} {T : String} {C : Addr} {ns : List Str} {ds : List Dt} {gD : List Dt → List Dt → List Dt} {sp : DSp} (nT : NoAdd T) (ob : Ob ω x C ns ds) (S : SpD X C (PySem.dunder "add") 2 gD sp) (hy : TyD X.K ω y (.type T)) (hc : InC X.K C .Add)
    (h : sp (gD [x, y] []) ω (fun d ω' => (∃ C ns ds, d = .obj C ns ds) ∧ Ψ d ω') ε) : OD X (inplaceOp .Add) x y ω Ψ ε := fun σ vx vy P H as Q w ax ay xk q => .mk fun pins s v u I rx ry => by
  obtain ⟨f, fd, k, ps, hs, hf, F, hb, hr⟩ := S.ex
  obtain ⟨g, gV, hb1, hb2⟩ := hb.ex
  obtain ⟨c, dx, fs, rfl, h1, e1, r1⟩ := ob_at w ob ax
  cases rx
  obtain ⟨mA, J, _⟩ := ins_get I.hok h1
  obtain ⟨od, J, _⟩ := J.look
  obtain ⟨m, hF⟩ := I.fr
  obtain ⟨cd, c1, c2⟩ := hc.ex
  obtain ⟨W, tk, z⟩ := lift_of (σ := σ) (Q := fun v H' => (∃ k, v = .ref k) ∧ Q v H') w (hb2 (.cons ax (.cons ay .nil)) .nil) xk h fun v d ω' P' H' as' w' g' a' p => by
    obtain ⟨⟨C', ns', ds', rfl⟩, p⟩ := p
    refine ⟨?_, q _ _ ω' P' H' as' w' g' a' p⟩
    cases a'
    exact ⟨_, rfl⟩
  refine inop_KT nT hF I.ok.mod.kin J (looks_ty I ry (tyx_at w hy ay)) c1 c2 hc.no hc.ob hs hf ?_
  refine wpAny_mono (run_at (us := [.ref c, u]) (vs := [.ref c, vy]) F.ok (hr.mono (by omega)) rfl hb1 I tk (.cons rfl (.cons ry .nil)) rfl z) (fun v s' hv => ?_) fun _ _ x => x
  obtain ⟨v', H', I', rv, ⟨k, rfl⟩, qq⟩ := hv
  cases rv
  exact ⟨.ref k, H', I', rfl, qq⟩
end
end NM
namespace NM
open PySem PySem.Spec PyProof.Rows L2
theorem kdl_valuesR {prog : Program} {w : World} {r d : Addr} {es : Array DictEntry} {ep : Nat} : PySem.W.KdlSrc prog w "dict_values" r d es.size (fun i v => ∃ hi : i < es.size, v = es[i].val) (fun h => h.IsValuesView r d ∧ h.DictRaw d es ep) where
  type := fun _ hm => hm.1.typeIs
  there := fun _ hm => ⟨let ⟨_, ho, _⟩ := hm.1; Heap.lt_size ho, let ⟨_, ho, _⟩ := hm.2; Heap.lt_size ho⟩
  keep := fun _ _ hm hk => ⟨let ⟨o, ho, x⟩ := hm.1; ⟨o, hk r (.inl rfl) o ho, x⟩, hm.2.at fun o e => hk d (.inr rfl) o e⟩
  notList := by decide
  notTuple := by decide
  hint := fun _ _ _ _ hm hq => PySem.W.kdl_hint_values hm.1.typeIs hq
  iter := fun _ s hh hm => ⟨_, _, (fun _ _ hq => wpAny_pyIter_values_raw hm.1 hm.2 hq), Walks.rawValues hh _ d (by obtain ⟨_, ho, _⟩ := hm.2; exact Nat.ne_of_lt (Heap.lt_size ho)) es ep, ⟨⟨_, Heap.get?_push_size _ rfl, rfl, rfl⟩, hm.2.at fun _ e => Heap.get?_push_of_some _ e⟩⟩
theorem zip3_get {ks : List (NestedKey × Addr)} {us : List Value} {i : Nat} {y : NestedKey × Addr × Value} (h : (zip3 ks us)[i]? = some y) : us[i]? = some y.2.2 := by
  unfold zip3 at h
  rw [List.getElem?_map] at h
  obtain ⟨p, hp, rfl⟩ := Option.map_eq_some_iff.mp h
  exact (List.getElem?_zip_eq_some.mp hp).2
section
variable {X : Cx} {ρ : Rho} {ω : Om} {Ψ : PsiE} {ε : PsiX} {Φ : Post} {e f o : Expr} {pos : Pos}
/-- list(o.values()) -/
theorem ev_listVals {p apos mpos : Pos} (hc : X.calm = true) (m1 : X.mg "list" = none) (h : EV X ρ ω o (fun d ω1 => ∃ kds vds, DnD ω1 d X.prog X.w kds vds ∧ Ψ (.lst vds) ω1) ε)
    (hg : Gl X "list" := by rfl) (hbase : attributeBase o "values" X.env (eval o X.env) = eval o X.env := by rfl) (hline : (apos.endLine == mpos.line) = true := by rfl)
    (hse : starEach [Expr.Call (.Attribute o "values" apos) [] [] mpos] X.env = [(false, eval (Expr.Call (.Attribute o "values" apos) [] [] mpos) X.env)] := by rfl) :
    EV X ρ ω (.Call (.Name "list" p) [.Call (.Attribute o "values" apos) [] [] mpos] [] pos) Ψ ε := fun σ P H as Q w en xk q => .mk fun pins s I => by
  have z : sE X o σ H (fun v H1 => ∃ d kds vds ω1 P1 as1, Ws X.K ω1 P1 H1 as1 ∧ Gr P H as P1 H1 as1 ∧ At X.K P1 as1 v d ∧ DnD ω1 d X.prog X.w kds vds ∧ Ψ (.lst vds) ω1) :=
    h σ P H as _ w en xk fun v d ω1 P1 H1 as1 w1 g1 a1 p => by
      obtain ⟨kds, vds, dn, p⟩ := p
      exact ⟨d, kds, vds, ω1, P1, as1, w1, g1, a1, dn, p⟩
  refine wpAny_Call_Name_kw (ld_blt I hg m1 (u := .type "list") (by first | rfl | decide +kernel) ?_ (by first | decide +kernel | decide) (by first | decide +kernel | decide))
  rw [hse]
  refine PySem.callWith_type1 (wpAny_Call_method0_late hbase hline (thn (z.run pins s I) fun u s1 ⟨x, H1, I1, rx, d, kds, vds, ω1, P1, as1, w1, g1, a1, dn, p⟩ => ?_))
  obtain ⟨a, ks, vs, us, rfl, ha, nn, rk, rv, ru, dof, hsys, hl, _, hz⟩ := dn_read I1 w1 dn a1
  cases (show u = Value.ref a from rx)
  obtain ⟨es, ep, raw, hsz, pt⟩ := dof.raw
  obtain ⟨ob, ho, ex, hdat⟩ := id raw
  have hlz : (zip3 ks us).length = us.length := by unfold zip3; rw [List.length_map, List.length_zip]; omega
  refine ⟨"dict", "dict.values", PySem.F.plainAttrs_dict, PySem.F.slot_dict_values, PySem.F.type_dict_values, ⟨ob, ho, ex.1⟩, fun b e => ?_, Calls.callWith_builtin rfl (PySem.evalArgs_none ?_)⟩
  · cases e
    exact ⟨ob, ho, ex.2.1⟩
  refine call_meetsIn PySem.F.slot_dict_values ⟨ob, ho, ex.1⟩ PySem.F.entry_dict_values (PySem.F.args_dict_values_1 _) (meets_dict_values_raw a hsys) ⟨⟨es, ep, raw⟩, ?_⟩
  have k1 : ∀ b u, s1.heap.get? b = some u → (s1.heap.push { cls := .type "dict_values", data := .fields #[.ref a] }).get? b = some u := fun b u e => Heap.get?_push_of_some _ e
  have I2 : Inv X pins σ H1 { s1 with heap := s1.heap.push { cls := .type "dict_values", data := .fields #[.ref a] } } := I1.kept (t' := s1.toks) k1
  refine PySem.W.kdl_call (kdl_valuesR (es := es) (ep := ep) (r := s1.heap.objs.size) (d := a)) (I2.ok.hd hc) ⟨⟨_, Heap.get?_push_size _ rfl, rfl, rfl⟩, raw.at fun _ e => k1 _ _ e⟩ (by rw [hsz, hlz, ← hl]; exact hz) fun h' tk acc c' kk hget it => ?_
  have eu : acc.toList = us := by
    apply List.ext_getElem?
    intro j
    by_cases hj : j < es.size
    · have hj' : j < acc.size := by rw [it.1]; exact hj
      obtain ⟨y, y1, _, y2, _⟩ := pt j hj
      obtain ⟨_, e1⟩ := it.2 j acc[j] (Array.getElem?_eq_getElem hj')
      rw [Array.getElem?_toList, Array.getElem?_eq_getElem hj', e1, y2]
      exact (zip3_get y1).symm
    · rw [List.getElem?_eq_none (by rw [Array.length_toList, it.1]; omega), List.getElem?_eq_none (by omega)]
  have lv := ru.length
  have hp : H1 (s1.heap.push { cls := .type "dict_values", data := .fields #[.ref a] }).objs.size = none := I2.hok.fresh (Nat.le_refl _)
  have lz : vs.length ≤ sizeLine := by rw [lv, ← hl]; exact hz
  have hok := I2.hok.laid (o := HO.lst vs) kk (Nat.le_refl _) ⟨lz, us, c', ru, by rw [← eu]; exact hget⟩
  have J := I2.call (h' := h') (t' := tk) (g' := s1.gens) (d' := s1.drawn) (ch := []) (Un.laid kk (Nat.le_refl _) hp) hok I2.bare (fun _ z => nomatch z)
  obtain ⟨w2, g2⟩ := w1.newP (o := .lst vs) hp
  exact ⟨.ref _, _, J, rfl, q _ _ ω1 _ _ as1 w2 (g1.trans g2) (.lst (.of upd_same) (rv.mono g2.p g2.a)) p⟩
end
end NM
namespace NM
open PySem PySem.Spec PyProof.Rows L2
theorem tuple_mul0 (l : Addr) (items : Array Value) (n : Nat) (dd : Option Addr) (sl : Array (Option Value)) (u : Tok) (c1 : items.isEmpty = false) :
    Meets (Builtin.«tuple.__mul__» ⟨[.ref l, .int 0 u], []⟩) (fun _ R s => s.heap.get? l = some { cls := .type "tuple", dict := dd, data := .seq items n, slots := sl } ∧
      R (.ok (.ret (Value.ref s.heap.objs.size))) { s with heap := s.heap.push { cls := Value.type "tuple", data := Data.seq #[] } }) :=
  .of_wp fun prog w A R s h => by
    obtain ⟨hp, g, d, tk, os⟩ := s
    obtain ⟨hl, h⟩ := h
    have f1 := AutoSeq1.idx_int
    wp_walk using wpAny_loadPart' hl
    repeat (first
      | (refine wpAny_ite_false (decide_eq_false (by rw [c1]; decide)) ?_; wp_walk using wpAny_loadPart' hl)
      | (refine wpAny_ite_true (decide_eq_true (by decide)) ?_; wp_walk using wpAny_loadPart' hl))
    exact ⟨_, rfl, h⟩
theorem tuple_mul1 (l : Addr) (items : Array Value) (n : Nat) (dd : Option Addr) (sl : Array (Option Value)) (u : Tok) :
    Meets (Builtin.«tuple.__mul__» ⟨[.ref l, .int 1 u], []⟩) (fun _ R s => s.heap.get? l = some { cls := .type "tuple", dict := dd, data := .seq items n, slots := sl } ∧
      R (.ok (.ret (Value.ref l))) s) :=
  .of_wp fun prog w A R s h => by
    obtain ⟨hp, g, d, tk, os⟩ := s
    obtain ⟨hl, h⟩ := h
    have f1 := AutoSeq1.idx_int
    wp_walk using wpAny_loadPart' hl
    repeat (first
      | (refine wpAny_ite_true (by simp) ?_; wp_walk using wpAny_loadPart' hl))
    exact ⟨_, rfl, h⟩
def rRep01 (K : PySem.W.Frag) : R2 := fun x y H Q => ∃ l xs, x = .ref l ∧ SqT K H l xs ∧ xs ≠ [] ∧ ((y = .int 0 ∧ ∀ p, H p = none → Q (.ref p) (upd H p (.tup []))) ∨ (y = .int 1 ∧ Q (.ref l) H))
section
variable {X : Cx}
theorem op_rep01 : OpR X (binaryOp .Mult) (rRep01 X.K) := by
  intro pins s σ H x y v u Q I rx ry h
  obtain ⟨l, xs, rfl, hT, hne, h⟩ := h
  cases rx
  obtain ⟨its, r, ⟨⟨cls, dd, data, sl⟩, ho, hc, n, hd⟩, hs⟩ := I.tuple hT
  simp only at hc hd
  subst hc hd
  have hle : its.length = xs.length := r.length.symm
  have hi : its.toArray.isEmpty = false := by
    cases its with
    | nil =>
      cases xs with
      | nil => exact absurd rfl hne
      | cons a b => cases hle
    | cons a b => rfl
  rcases h with ⟨rfl, q⟩ | ⟨rfl, q⟩
  · obtain ⟨t, rfl⟩ := ry
    refine wpAny_binaryOp_repeat_ref (T := "tuple") (U := "int") (by decide) ⟨_, ho, rfl⟩ (fun s' => typeIs_int s' 0 t) noFill_tuple_mul PySem.F.fills_int_mul PySem.F.slot_int_rmul repeat_tuple PySem.F.slot_int_index.lookup
      (call_meets PySem.F.slot_int_rmul (typeIs_int s 0 t) PySem.F.entry_int_rmul (PySem.F.args_int_rmul_2 _ _) (int_rmul_tuple 0 t l its.toArray n dd sl)
        ⟨ho, rfl, ⟨_, ho, rfl⟩, call_meets PySem.F.slot_tuple_mul ⟨_, ho, rfl⟩ PySem.F.entry_tuple_mul (PySem.F.args_tuple_mul_2 _ _) (tuple_mul0 l its.toArray n dd sl t hi) ⟨ho, ?_⟩⟩)
    refine ⟨.ref s.heap.objs.size, _, I.laid (t' := s.toks) (o := .tup []) (fun b ob q => Heap.get?_push_of_some _ q) (Nat.le_refl _) ?_, rfl, q _ (I.hok.fresh (Nat.le_refl _))⟩
    exact ⟨by show 0 ≤ sizeLine; exact Nat.zero_le _, _, .nil, IsTup.new _ _⟩
  · obtain ⟨t, rfl⟩ := ry
    refine wpAny_binaryOp_repeat_ref (T := "tuple") (U := "int") (by decide) ⟨_, ho, rfl⟩ (fun s' => typeIs_int s' 1 t) noFill_tuple_mul PySem.F.fills_int_mul PySem.F.slot_int_rmul repeat_tuple PySem.F.slot_int_index.lookup
      (call_meets PySem.F.slot_int_rmul (typeIs_int s 1 t) PySem.F.entry_int_rmul (PySem.F.args_int_rmul_2 _ _) (int_rmul_tuple 1 t l its.toArray n dd sl)
        ⟨ho, rfl, ⟨_, ho, rfl⟩, call_meets PySem.F.slot_tuple_mul ⟨_, ho, rfl⟩ PySem.F.entry_tuple_mul (PySem.F.args_tuple_mul_2 _ _) (tuple_mul1 l its.toArray n dd sl t) ⟨ho, ?_⟩⟩)
    exact ⟨.ref l, H, I, rfl, q⟩
end
theorem atL_flat {K : Fg} {P : Hp} {as : List Addr} {vs : List V} {ds : List Dt} (r : AtL K P as vs ds) : ∀ n : Nat, AtL K P as (List.replicate n vs).flatten (List.replicate n ds).flatten
  | 0 => .nil
  | n + 1 => by rw [List.replicate_succ, List.replicate_succ, List.flatten_cons, List.flatten_cons]; exact r.append (atL_flat r n)
section
variable {X : Cx} {ρ : Rho} {ω : Om} {Ψ : PsiE} {ε : PsiX} {Φ : Post} {e f o : Expr} {pos : Pos}
/-- t * n -/
theorem od_repT {ds : List Dt} {k : Nat} (hn : ds ≠ []) (hk : k ≤ 1000) (hz : ds.length ≤ 1000) (h : Ψ (.tup (List.replicate k ds).flatten) ω) : OD X (binaryOp .Mult) (.tup ds) (.int (k : Nat)) ω Ψ ε := by
  by_cases h2 : 2 ≤ k
  · refine od_of op_repT fun vx vy P H as Q w ax ay q => ?_
    obtain ⟨a, vs, rfl, hs, r⟩ := seqT w ax
    cases ay
    have lv := r.length
    refine ⟨a, _, vs, rfl, rfl, hs, fun z => hn (by subst z; cases r; rfl), by omega, by omega, by omega, fun p hp => ?_⟩
    obtain ⟨w2, g2⟩ := w.newP (o := .tup (List.replicate (Int.toNat (k : Nat)) vs).flatten) hp
    refine q _ _ ω _ _ as w2 g2 (.tup (.of upd_same) ((atL_flat r _).mono g2.p g2.a)) ?_
    rw [Int.toNat_natCast]; exact h
  · refine od_of op_rep01 fun vx vy P H as Q w ax ay q => ?_
    obtain ⟨a, vs, rfl, hs, r⟩ := seqT w ax
    cases ay
    have hv : vs ≠ [] := fun z => hn (by subst z; cases r; rfl)
    refine ⟨a, vs, rfl, hs, hv, ?_⟩
    by_cases h0 : k = 0
    · subst h0
      refine .inl ⟨rfl, fun p hp => ?_⟩
      obtain ⟨w2, g2⟩ := w.newP (o := .tup []) hp
      exact q _ _ ω _ _ as w2 g2 (.tup (.of upd_same) .nil) h
    · have h1 : k = 1 := by omega
      subst h1
      refine .inr ⟨rfl, q _ _ ω P H as w .refl ax ?_⟩
      have e : (List.replicate 1 ds).flatten = ds := by simp
      rw [e] at h; exact h
theorem lc2_run {elt iter iter1 : Expr} {x y : Str} {px py : Pos} {scope : Scope} {vs : List Nat} {σ : L2.St} {P H : Hp} {as : List Addr} {Q : VK} {R : List Dt → Om → Prop} (j j1 : Nat) (hj : j ∈ vs) (items1 : Dt → List Dt) (f : Dt → Dt → Dt)
    (h : EI X ρ ω (.Name x px) iter (fun items dv ω1 => dv ω1 ∧ (∀ d ∈ items, ∀ s H C cl fp, EI (Blk X scope s H C cl fp) ((wipeR ρ vs).set j (some d)) ω1 (.Name y py) iter1 (fun it1 dv1 ω2 => ω2 = ω1 ∧ dv1 ω1 ∧ it1 = items1 d) F0) ∧
      (∀ d ∈ items, ∀ d1 ∈ items1 d, ∀ s H C cl fp, EV (Blk X scope s H C cl fp) ((wipeR ((wipeR ρ vs).set j (some d)) [j1]).set j1 (some d1)) ω1 elt (fun z ω2 => z = f d d1 ∧ ω2 = ω1) F0) ∧ (items.flatMap fun d => (items1 d).map (f d)).length < sizeLine ∧ R (items.flatMap fun d => (items1 d).map (f d)) ω1) ε)
    (w : Ws X.K ω P H as) (en : Env X.K P as σ ρ) (xk : Xk X ω P H as σ ε) (q : ∀ D acc ω' P' H' as' P1 H1 as1, H1 D = none → Gr P H as P1 H1 as1 → LcS X.K P1 H1 as1 D acc ω' P' H' as' → R acc ω' → Q (.ref D) H') :
    tLc2 (sI X (.Name x px) iter) (gName j) tYes (fun σ H R => ∀ s H0 C cl fp, sI (Blk X scope s H0 C cl fp) (.Name y py) iter1 σ H R) (gName j1) tYes (fun σ H Q => ∀ s H0 C cl fp, sE (Blk X scope s H0 C cl fp) elt σ H Q) vs [j1] σ H Q := by
  refine h σ P H as _ w en xk fun J items dv ω1 P1 H1 as1 w1 g1 it d1 k => ?_
  obtain ⟨k0, k1, k2, kz, k3⟩ := k
  intro D hD
  obtain ⟨w1', g1'⟩ := w1.newH (o := .lst []) hD
  have nD := w1.fresh hD
  have split : ∀ i (hi : i < items.length), (items.take (i + 1)).flatMap (fun d => (items1 d).map (f d)) = (items.take i).flatMap (fun d => (items1 d).map (f d)) ++ (items1 items[i]).map (f items[i]) := fun i hi => by
    rw [List.take_succ_eq_append_getElem hi, List.flatMap_append]; simp
  have whole : ∀ i (hi : i < items.length), ((items.take i).flatMap (fun d => (items1 d).map (f d))).length + ((items1 items[i]).map (f items[i])).length ≤ (items.flatMap fun d => (items1 d).map (f d)).length := fun i hi => by
    rw [← List.length_append, ← split i hi]
    have e : items.flatMap (fun d => (items1 d).map (f d)) = (items.take (i + 1)).flatMap (fun d => (items1 d).map (f d)) ++ (items.drop (i + 1)).flatMap (fun d => (items1 d).map (f d)) := by rw [← List.flatMap_append, List.take_append_drop]
    rw [e, List.length_append]; omega
  refine ⟨fun i m H' => m + i = items.length ∧ ∃ P' as', LcS X.K P1 H1 as1 D ((items.take i).flatMap fun d => (items1 d).map (f d)) ω1 P' H' as', ⟨items.length, by simp, P1, as1, ⟨w1', g1', ⟨[], upd_same, .nil⟩, nD.1, nD.2⟩⟩, ?_⟩
  rintro i m H' ⟨hm, P', as', x0⟩
  obtain ⟨go, stop⟩ := it i ω1 P' H' as' x0.g.p x0.g.a x0.w k0
  by_cases hlt : i < items.length
  · obtain ⟨go1, yl⟩ := go items[i] (List.getElem?_eq_getElem hlt)
    refine .inr ⟨go1, fun H2 => ∃ P2 as2, LcS X.K P1 H1 as1 D ((items.take (i + 1)).flatMap fun d => (items1 d).map (f d)) ω1 P2 H2 as2, fun H2 q2 => ⟨m - 1, by omega, by omega, q2⟩, fun v H2 hy => ?_⟩
    obtain ⟨P2, w2, g2, a2⟩ := yl v H2 hy
    have x2 := x0.later w2 g2
    have g12 := g1.trans x2.g
    refine tgt_name j hj items[i] ω1 P2 H2 as' v _ w2 (env_wipe (en.mono g12.p g12.a) vs) a2 fun σ2 hw2 en2 => ⟨hw2, ?_⟩
    unfold tYes
    refine iteT fun s0 H0 C cl fp => ?_
    refine k1 items[i] (List.getElem_mem hlt) s0 H0 C cl fp σ2 P2 H2 as' _ w2 en2 xk0 fun J1 it1 dv1 ω4 P4 H4 as4 w4 g4 itd4 d4 k4 => ?_
    obtain ⟨rfl, k41, rfl⟩ := k4
    have x4 := x2.later w4 g4
    refine ⟨fun jj m1 H' => m1 + jj = (items1 items[i]).length ∧ ∃ P' as', Same P4 P' ∧ as4 <+: as' ∧ LcS X.K P1 H1 as1 D (((items.take i).flatMap fun d => (items1 d).map (f d)) ++ ((items1 items[i]).take jj).map (f items[i])) ω4 P' H' as', ⟨(items1 items[i]).length, by simp, P4, as4, Same.refl _, List.prefix_refl _, by simpa using x4⟩, ?_⟩
    rintro jj m1 H5 ⟨hm1, P5, as5, sm5, pr5, x5⟩
    obtain ⟨goj, stopj⟩ := itd4 jj ω4 P5 H5 as5 sm5 pr5 x5.w k41
    by_cases hlj : jj < (items1 items[i]).length
    · obtain ⟨goj1, ylj⟩ := goj (items1 items[i])[jj] (List.getElem?_eq_getElem hlj)
      refine .inr ⟨goj1, fun H6 => ∃ P6 as6, Same P4 P6 ∧ as4 <+: as6 ∧ LcS X.K P1 H1 as1 D (((items.take i).flatMap fun d => (items1 d).map (f d)) ++ ((items1 items[i]).take (jj + 1)).map (f items[i])) ω4 P6 H6 as6, fun H6 q6 => ⟨m1 - 1, by omega, by omega, q6⟩, fun v6 H6 hy6 => ?_⟩
      obtain ⟨P6, w6, g6, a6⟩ := ylj v6 H6 hy6
      have x6 := x5.later w6 g6
      have en6 : Env X.K P6 as5 σ2 ((wipeR ρ vs).set j (some items[i])) := en2.mono ((g4.p.trans sm5).trans g6.p) ((g4.a.trans pr5).trans g6.a)
      refine tgt_name j1 (List.mem_singleton.mpr rfl) (items1 items[i])[jj] ω4 P6 H6 as5 v6 _ w6 (env_wipe en6 [j1]) a6 fun σ3 hw3 en3 => ⟨hw3, ?_⟩
      refine iteT fun s0 H0 C cl fp => ?_
      refine k2 items[i] (List.getElem_mem hlt) (items1 items[i])[jj] (List.getElem_mem hlj) s0 H0 C cl fp σ3 P6 H6 as5 _ w6 en3 xk0 fun y7 dy ω7 P7 H7 as7 w7 g7 a7 p7 => ?_
      obtain ⟨rfl, rfl⟩ := p7
      have x7 := x6.later w7 g7
      obtain ⟨us, hus, rus⟩ := x7.d
      have wl := whole i hlt
      rw [List.length_map] at wl
      refine ⟨us, hus, ?_, P7, as7, (sm5.trans g6.p).trans g7.p, (pr5.trans g6.a).trans g7.a, ?_⟩
      · rw [rus.length, List.length_append, List.length_map, List.length_take]; omega
      · have := x7.put hD hus a7
        rw [List.append_assoc] at this
        rw [List.take_succ_eq_append_getElem hlj, List.map_append]
        exact this
    · refine .inl ⟨stopj (by omega), P5, as5, ?_⟩
      have e : (items1 items[i]).take jj = items1 items[i] := List.take_of_length_le (by omega)
      rw [e] at x5
      rw [split i hlt]; exact x5
  · have e : i = items.length := by omega
    subst e
    rw [List.take_length] at x0
    exact .inl ⟨stop (Nat.le_refl _), q D _ ω1 P' H' as' P1 H1 as1 hD g1 x0 k3⟩
/-- [elt for x in iter for y in iter1] -/
theorem ev_lc2 (j j1 : Nat) (items1 : Dt → List Dt) (f : Dt → Dt → Dt) {x y : Str} {elt iter iter1 : Expr} {scope : Scope} {own : List (Str × Nat)} {px py : Pos} (ok : Cok X) (bo : BlkOk X.N X.env.scope scope own) (hj : j ∈ own.map (·.2)) (hj1 : j1 ∈ own.map (·.2))
    (h : EI X ρ ω (.Name x px) iter (fun items dv ω1 => dv ω1 ∧ (∀ d ∈ items, ∀ s H C cl fp, EI (Blk X scope s H C cl fp) ((wipeR ρ (own.map (·.2))).set j (some d)) ω1 (.Name y py) iter1 (fun it1 dv1 ω2 => ω2 = ω1 ∧ dv1 ω1 ∧ it1 = items1 d) F0) ∧
      (∀ d ∈ items, ∀ d1 ∈ items1 d, ∀ s H C cl fp, EV (Blk X scope s H C cl fp) ((wipeR ((wipeR ρ (own.map (·.2))).set j (some d)) [j1]).set j1 (some d1)) ω1 elt (fun z ω2 => z = f d d1 ∧ ω2 = ω1) F0) ∧ (items.flatMap fun d => (items1 d).map (f d)).length < sizeLine ∧ Ψ (.lst (items.flatMap fun d => (items1 d).map (f d))) ω1) ε)
    (hg : ∀ (s : Shared) (H : Hp) (C : Addr) (cl : List (Str × Addr)) (fp : List Addr), PG (Blk X scope s H C cl fp) (.Name x px) (gName j)) (hg1 : ∀ (s : Shared) (H : Hp) (C : Addr) (cl : List (Str × Addr)) (fp : List Addr), PG (Blk X scope s H C cl fp) (.Name y py) (gName j1))
    (hs : ∀ x, foldedSetIterable iter X.env x = pure x := by intro _; rfl) (hs1 : ∀ env x, foldedSetIterable iter1 env x = pure x := by intro _ _; rfl) :
    EV X ρ ω (.ListComp elt [⟨.Name x px, iter, [], 0⟩, ⟨.Name y py, iter1, [], 0⟩] scope pos) Ψ ε := fun σ P H as Q w en xk q => by
  refine sE_of (pe_lc2 (vs1 := [j1]) (wi1 := fun σ H R => ∀ s H0 C cl fp, sI (Blk X scope s H0 C cl fp) (.Name y py) iter1 σ H R) (te := fun σ H Q => ∀ s H0 C cl fp, sE (Blk X scope s H0 C cl fp) elt σ H Q) ok.calm ok.nd pI bo (fun i hi => by rw [List.mem_singleton.mp hi]; exact hj1) hg (fun s H C cl fp => pts_nil) (fun s H C cl fp => ⟨fun pins s' σ' H' R' I h => (h s H C cl fp).run pins s' I⟩) hg1 (fun s H C cl fp => pts_nil) (fun s H C cl fp => ⟨fun pins s' σ' H' Q' I h => (h s H C cl fp).run pins s' I⟩) hs hs1) ?_
  refine lc2_run (R := fun acc ω' => Ψ (.lst acc) ω') j j1 hj items1 f h w en xk fun D acc ω' P' H' as' P1 H1 as1 hD g1 x p => ?_
  obtain ⟨P2, w2, g2, a2⟩ := x.fin hD
  exact q _ _ ω' P2 H' as' w2 (g1.trans g2) a2 p
/-- y = [..], the statement -/
theorem es_setLc2 (i j j1 : Nat) (items1 : Dt → List Dt) (f : Dt → Dt → Dt) {x y z : Str} {elt iter iter1 : Expr} {scope : Scope} {own : List (Str × Nat)} {px py pz spos : Pos} (ok : Cok X) (bo : BlkOk X.N X.env.scope scope own) (hj : j ∈ own.map (·.2)) (hj1 : j1 ∈ own.map (·.2))
    (hsw : swapsWith (.ListComp elt [⟨.Name x px, iter, [], 0⟩, ⟨.Name y py, iter1, [], 0⟩] scope pos) (some (.Name z pz)) spos.line X.env = pure true)
    (h : EI X ρ ω (.Name x px) iter (fun items dv ω1 => dv ω1 ∧ (∀ d ∈ items, ∀ s H C cl fp, EI (Blk X scope s H C cl fp) ((wipeR ρ (own.map (·.2))).set j (some d)) ω1 (.Name y py) iter1 (fun it1 dv1 ω2 => ω2 = ω1 ∧ dv1 ω1 ∧ it1 = items1 d) F0) ∧
      (∀ d ∈ items, ∀ d1 ∈ items1 d, ∀ s H C cl fp, EV (Blk X scope s H C cl fp) ((wipeR ((wipeR ρ (own.map (·.2))).set j (some d)) [j1]).set j1 (some d1)) ω1 elt (fun z ω2 => z = f d d1 ∧ ω2 = ω1) F0) ∧ (items.flatMap fun d => (items1 d).map (f d)).length < sizeLine ∧ Φ.nx (ρ.set i (some (.lst (items.flatMap fun d => (items1 d).map (f d))))) ω1) (fun y ω' => Φ.xc y ρ ω'))
    (hg : ∀ (s : Shared) (H : Hp) (C : Addr) (cl : List (Str × Addr)) (fp : List Addr), PG (Blk X scope s H C cl fp) (.Name x px) (gName j)) (hg1 : ∀ (s : Shared) (H : Hp) (C : Addr) (cl : List (Str × Addr)) (fp : List Addr), PG (Blk X scope s H C cl fp) (.Name y py) (gName j1))
    (hy : X.N[i]? = some z := by rfl) (hyl : X.env.scope.names.lookup z = some .local := by rfl) (hs : ∀ x, foldedSetIterable iter X.env x = pure x := by intro _; rfl) (hs1 : ∀ env x, foldedSetIterable iter1 env x = pure x := by intro _ _; rfl) :
    ES X ρ ω (.Assign [.Name z pz] (.ListComp elt [⟨.Name x px, iter, [], 0⟩, ⟨.Name y py, iter1, [], 0⟩] scope pos) spos) Φ := fun σ P H as D0 w en zz => by
  refine sS_of (ps_setLc2 (vs1 := [j1]) (wi1 := fun σ H R => ∀ s H0 C cl fp, sI (Blk X scope s H0 C cl fp) (.Name y py) iter1 σ H R) (te := fun σ H Q => ∀ s H0 C cl fp, sE (Blk X scope s H0 C cl fp) elt σ H Q) ok.calm ok.nd hy hyl hsw pI bo (fun i hi => by rw [List.mem_singleton.mp hi]; exact hj1) hg (fun s H C cl fp => pts_nil) (fun s H C cl fp => ⟨fun pins s' σ' H' R' I h => (h s H C cl fp).run pins s' I⟩) hg1 (fun s H C cl fp => pts_nil) (fun s H C cl fp => ⟨fun pins s' σ' H' Q' I h => (h s H C cl fp).run pins s' I⟩) hs hs1) ?_
  refine lc2_run (R := fun acc ω' => Φ.nx (ρ.set i (some (.lst acc))) ω') j j1 hj items1 f h w en (zz.xk en) fun D acc ω' P' H' as' P1 H1 as1 hD g1 x p => ?_
  obtain ⟨P2, w2, g2, a2⟩ := x.fin hD
  exact zz.nx _ _ ω' P2 H' as' w2 (g1.trans g2) ((en.mono (g1.trans g2).p (g1.trans g2).a).set i a2) p
end
end NM
namespace NM
open PySem L2
abbrev Cr := Tb × List Hs
def aN : Option Int → NestedKey
  | none => .none
  | some i => .num i
def b2n (b : Bool) : NestedKey := .num (if b = true then 1 else 0)
abbrev kcD (c : Cr) : Dt := .tup [tD c.1, .tup (c.2.map hD)]
def cN (c : Cr) : NestedKey := .tup [.tup [aN c.1.a, b2n c.1.d, b2n c.1.w], .tup (c.2.map hN)]
theorem nkL_hs : ∀ l : List Hs, nkO.nkL (l.map hD) = some (l.map hN)
  | [] => by simp [nkO.nkL]
  | h :: l => by rw [List.map_cons, List.map_cons]; unfold nkO.nkL; rw [nk_hD, nkL_hs l]
theorem nk_aD (a : Option Int) : nkO (aD a) = some (aN a) := by cases a <;> simp [aD, aN, nkO]
theorem nk_tD (t : Tb) : nkO (tD t) = some (.tup [aN t.a, b2n t.d, b2n t.w]) := by
  unfold nkO nkO.nkL
  rw [nk_aD]
  simp [nkO, nkO.nkL, b2n]
theorem nk_kc (c : Cr) : nkO (kcD c) = some (cN c) := by
  have e : nkO (.tup (c.2.map hD)) = some (.tup (c.2.map hN)) := by unfold nkO; rw [nkL_hs]; rfl
  have e2 : nkO.nkL [.tup (c.2.map hD)] = some [.tup (c.2.map hN)] := by unfold nkO.nkL; rw [e]; simp [nkO.nkL]
  unfold nkO nkO.nkL
  rw [nk_tD, e2]; rfl
theorem b2n_inj {a b : Bool} (e : b2n a = b2n b) : a = b := by
  unfold b2n at e
  injection e with e
  cases a <;> cases b <;> simp_all
theorem aN_inj : ∀ {a b : Option Int}, aN a = aN b → a = b
  | none, none, _ => rfl
  | none, some _, h => by cases h
  | some _, none, h => by cases h
  | some _, some _, h => by cases h; rfl
theorem hNs_inj : ∀ {a b : List Hs}, a.map hN = b.map hN → a = b
  | [], [], _ => rfl
  | [], _ :: _, h => by cases h
  | _ :: _, [], h => by cases h
  | x :: a, y :: b, h => by
    rw [List.map_cons, List.map_cons] at h
    injection h with h1 h2
    rw [hN_inj h1, hNs_inj h2]
theorem cN_inj {a b : Cr} (e : cN a = cN b) : a = b := by
  unfold cN at e
  injection e with e
  injection e with e1 e2
  injection e1 with e1
  injection e2 with e2 _
  injection e2 with e2
  injection e1 with e3 e4
  injection e4 with e4 e5
  injection e5 with e5 _
  obtain ⟨⟨x, y, z⟩, hs⟩ := a
  obtain ⟨⟨x', y', z'⟩, hs'⟩ := b
  have f1 := aN_inj e3
  have f2 := b2n_inj e4
  have f3 := b2n_inj e5
  have f4 := hNs_inj e2
  dsimp only at f1 f2 f3 f4
  subst f1 f2 f3 f4
  rfl
theorem depthAll_hs : ∀ l : List Hs, NestedKey.depthAll (l.map hN) ≤ 1
  | [] => by simp [NestedKey.depthAll]
  | h :: l => by
    have := depthAll_hs l
    rw [List.map_cons]
    simp only [NestedKey.depthAll, hN, NestedKey.depth]
    omega
theorem cN_deep (c : Cr) : (cN c).depth ≤ 8 := by
  have h := depthAll_hs c.2
  unfold cN
  simp only [NestedKey.depth, NestedKey.depthAll, b2n]
  cases c.1.a <;> simp only [aN, NestedKey.depth] <;> omega
section
variable {α : Type} [DecidableEq α] {kD : α → Dt} {kN : α → NestedKey}
theorem dGet_g (hk : ∀ a, nkO (kD a) = some (kN a)) (inj : ∀ a b, kN a = kN b → a = b) {f : α → Dt} {h : α} : ∀ (ks : List α), dGet (kN h) (ks.map kD) (ks.map f) = if h ∈ ks then some (f h) else none
  | [] => by unfold dGet; simp
  | a :: ks => by
    rw [List.map_cons, List.map_cons]
    unfold dGet
    rw [hk]
    by_cases e : a = h
    · subst e; simp
    · rw [if_neg (fun q => e (inj _ _ (Option.some.inj q))), dGet_g hk inj ks]
      have : (h ∈ a :: ks) ↔ h ∈ ks := by rw [List.mem_cons]; exact ⟨fun q => q.resolve_left fun z => e z.symm, .inr⟩
      simp only [this]
theorem dPut_new (hk : ∀ a, nkO (kD a) = some (kN a)) (inj : ∀ a b, kN a = kN b → a = b) {vds : List Dt} {h : α} {d : Dt} {ks : List α} (m : h ∉ ks) : dPut (kN h) (kD h) d (ks.map kD) vds = ((ks ++ [h]).map kD, vds ++ [d]) := by
  unfold dPut hasB
  rw [List.map_map, if_neg, List.map_append]
  · rfl
  · rw [List.any_eq_true]
    rintro ⟨b, hb, e⟩
    obtain ⟨k, hk', rfl⟩ := List.mem_map.mp hb
    have e' : nkO (kD k) = some (kN h) := of_decide_eq_true e
    rw [hk] at e'
    exact m ((inj _ _ (Option.some.inj e')) ▸ hk')
end
def stepP (c : Hs → Nat) (found : List (List Hs)) (h : Hs) : List (List Hs) := found.flatMap fun p => (List.range (c h + 1)).map fun n => p ++ List.replicate n h
def partsBy (c : Hs → Nat) (ks : List Hs) : List (List Hs) := ks.foldl (stepP c) [[]]
def partsOf (hs : List Hs) : List (List Hs) := partsBy (fun h => hs.count h) (kH hs)
inductive PartOf (c : Hs → Nat) : List Hs → List Hs → Prop
  | nil : PartOf c [] []
  | cons {k : Hs} {ks p : List Hs} {n : Nat} (h : n ≤ c k) (r : PartOf c ks p) : PartOf c (k :: ks) (List.replicate n k ++ p)
theorem fold_part {c : Hs → Nat} {p : List Hs} : ∀ {ks : List Hs} {found : List (List Hs)}, p ∈ ks.foldl (stepP c) found ↔ ∃ q ∈ found, ∃ r, PartOf c ks r ∧ p = q ++ r
  | [], found => by
    rw [List.foldl_nil]
    exact ⟨fun h => ⟨p, h, [], .nil, by simp⟩, fun ⟨q, hq, r, hr, e⟩ => by cases hr; rw [List.append_nil] at e; rw [e]; exact hq⟩
  | k :: ks, found => by
    rw [List.foldl_cons, fold_part (ks := ks)]
    constructor
    · rintro ⟨q, hq, r, hr, rfl⟩
      unfold stepP at hq
      obtain ⟨q0, hq0, hq1⟩ := List.mem_flatMap.mp hq
      obtain ⟨n, hn, rfl⟩ := List.mem_map.mp hq1
      exact ⟨q0, hq0, _, .cons (n := n) (by have := List.mem_range.mp hn; omega) hr, by rw [List.append_assoc]⟩
    · rintro ⟨q, hq, r, hr, rfl⟩
      cases hr with
      | @cons _ _ p n h r =>
        refine ⟨q ++ List.replicate n k, ?_, p, r, by rw [List.append_assoc]⟩
        unfold stepP
        exact List.mem_flatMap.mpr ⟨q, hq, List.mem_map.mpr ⟨n, List.mem_range.mpr (by omega), rfl⟩⟩
theorem part_iff {c : Hs → Nat} {p ks : List Hs} : p ∈ partsBy c ks ↔ PartOf c ks p := by
  unfold partsBy
  rw [fold_part]
  exact ⟨fun ⟨q, hq, r, hr, e⟩ => by rw [List.mem_singleton.mp hq, List.nil_append] at e; rw [e]; exact hr, fun h => ⟨[], List.mem_singleton.mpr rfl, p, h, rfl⟩⟩
abbrev Strict (l : List Hs) : Prop := l.Pairwise fun a b => hLt a b = true
theorem part_mem {c : Hs → Nat} : ∀ {ks p : List Hs}, PartOf c ks p → ∀ x ∈ p, x ∈ ks
  | _, _, .nil, x, hx => nomatch hx
  | _, _, .cons h r, x, hx => by
    rcases List.mem_append.mp hx with q | q
    · rw [(List.mem_replicate.mp q).2]; exact List.mem_cons_self
    · exact List.mem_cons_of_mem _ (part_mem r x q)
theorem hLe_of_lt {a b : Hs} (h : hLt a b = true) : hLe a b := hLt_asym h
theorem rep_srt (n : Nat) (k : Hs) : Srt (List.replicate n k) := List.pairwise_replicate.mpr (.inr (hLt_irr k))
theorem part_srt {c : Hs → Nat} : ∀ {ks p : List Hs}, Strict ks → PartOf c ks p → Srt p ∧ ∀ k ∈ ks, p.count k ≤ c k
  | _, _, _, .nil => ⟨.nil, fun k hk => nomatch hk⟩
  | k :: ks, _, hs, .cons (p := p) (n := n) h r => by
    obtain ⟨s1, s2⟩ := List.pairwise_cons.mp hs
    obtain ⟨p1, p2⟩ := part_srt s2 r
    have nk : k ∉ ks := fun m => by have := s1 k m; rw [hLt_irr] at this; cases this
    refine ⟨List.pairwise_append.mpr ⟨rep_srt n k, p1, fun x hx y hy => ?_⟩, fun x hx => ?_⟩
    · rw [(List.mem_replicate.mp hx).2]
      exact hLe_of_lt (s1 y (part_mem r y hy))
    · rw [List.count_append, List.count_replicate]
      by_cases e : x = k
      · subst e
        have : p.count x = 0 := List.count_eq_zero.mpr fun m => nk (part_mem r x m)
        rw [this]; simpa using h
      · have hm : x ∈ ks := (List.mem_cons.mp hx).resolve_left e
        have e2 : (k == x) = false := by simpa using fun z => e z.symm
        rw [e2]
        simpa using p2 x hm
theorem cut_first {k : Hs} {r : List Hs} (hs : Srt r) (h : ∀ x ∈ r, hLe k x) : r = List.replicate (r.count k) k ++ r.filter (fun x => !decide (x = k)) := by
  refine srt_uniq (perm_of_counts fun x => ?_) hs (List.pairwise_append.mpr ⟨rep_srt _ _, hs.sublist List.filter_sublist, fun x hx y hy => ?_⟩)
  · rw [List.count_append, List.count_replicate]
    by_cases e : x = k
    · subst e
      have : (r.filter fun y => !decide (y = x)).count x = 0 := List.count_eq_zero.mpr fun m => by have := (List.mem_filter.mp m).2; simp at this
      rw [this]; simp
    · have e2 : (k == x) = false := by simpa using fun z => e z.symm
      rw [e2, List.count_filter (by simpa using e)]; simp
  · rw [(List.mem_replicate.mp hx).2]
    exact h y (List.mem_filter.mp hy).1
theorem part_of {c : Hs → Nat} : ∀ {ks r : List Hs}, Strict ks → Srt r → (∀ x ∈ r, x ∈ ks) → (∀ k ∈ ks, r.count k ≤ c k) → PartOf c ks r
  | [], r, _, _, h, _ => by
    cases r with
    | nil => exact .nil
    | cons x r => exact nomatch h x List.mem_cons_self
  | k :: ks, r, hs, sr, h, hc => by
    obtain ⟨s1, s2⟩ := List.pairwise_cons.mp hs
    have nk : k ∉ ks := fun m => by have := s1 k m; rw [hLt_irr] at this; cases this
    rw [cut_first sr (k := k) fun x hx => by
      rcases List.mem_cons.mp (h x hx) with rfl | q
      · exact hLt_irr x
      · exact hLe_of_lt (s1 x q)]
    refine .cons (hc k List.mem_cons_self) (part_of s2 (sr.sublist List.filter_sublist) (fun x hx => ?_) fun x hx => ?_)
    · obtain ⟨m1, m2⟩ := List.mem_filter.mp hx
      have : x ≠ k := by simpa using m2
      exact (List.mem_cons.mp (h x m1)).resolve_left this
    · have ne : x ≠ k := fun e => nk (e ▸ hx)
      rw [List.count_filter (by simpa using ne)]
      exact hc x (List.mem_cons_of_mem _ hx)
theorem addH_sub {k l : List Hs} {h : Hs} (s : k.Sublist l) : (addH k h).Sublist (l ++ [h]) := by
  unfold addH
  split
  · exact s.trans (List.sublist_append_left _ _)
  · exact s.append (List.Sublist.refl _)
theorem fold_sub : ∀ (l k m : List Hs), k.Sublist m → (l.foldl addH k).Sublist (m ++ l)
  | [], k, m, h => by rw [List.append_nil]; exact h
  | a :: l, k, m, h => by
    have := fold_sub l (addH k a) (m ++ [a]) (addH_sub h)
    rw [List.append_assoc] at this
    exact this
theorem kH_sub (l : List Hs) : (kH l).Sublist l := by
  have := fold_sub l [] [] (List.Sublist.refl _)
  rw [List.nil_append] at this
  exact this
theorem strict_of {l : List Hs} (n : l.Nodup) (h : Srt l) : Strict l := by
  refine List.Pairwise.imp ?_ (n.and h)
  rintro a b ⟨ne, le⟩
  cases q : hLt a b with
  | true => rfl
  | false => exact absurd (hLt_tot q le) ne
theorem kH_strict {l : List Hs} (h : Srt l) : Strict (kH l) := strict_of (kH_nd l) (h.sublist (kH_sub l))
theorem parts_iff {hs p : List Hs} (h : Srt hs) : p ∈ partsOf hs ↔ Srt p ∧ subB p hs = true := by
  unfold partsOf
  rw [part_iff, subB_iff]
  constructor
  · intro r
    obtain ⟨a, b⟩ := part_srt (kH_strict h) r
    refine ⟨a, fun x => ?_⟩
    by_cases m : x ∈ p
    · exact b x (part_mem r x m)
    · rw [List.count_eq_zero.mpr m]; exact Nat.zero_le _
  · rintro ⟨a, b⟩
    refine part_of (kH_strict h) a (fun x hx => kH_mem.mpr (List.count_pos_iff.mp ?_)) fun k _ => b k
    have := b x
    have := List.count_pos_iff.mpr hx
    omega
theorem flat_len (found : List (List Hs)) (m : Nat) (h : Hs) : (found.flatMap fun p => (List.range m).map fun n => p ++ List.replicate n h).length = found.length * m := by
  induction found with
  | nil => simp
  | cons p found ih => rw [List.flatMap_cons, List.length_append, List.length_map, List.length_range, ih, List.length_cons, Nat.succ_mul]; omega
theorem succ_le_two (n : Nat) : n + 1 ≤ 2 ^ n := by
  induction n with
  | zero => decide
  | succ n ih => rw [Nat.pow_succ]; omega
theorem fold_plen (c : Hs → Nat) : ∀ (ks : List Hs) (found : List (List Hs)), (ks.foldl (stepP c) found).length ≤ found.length * 2 ^ (ks.map c).sum
  | [], found => by simp
  | k :: ks, found => by
    rw [List.foldl_cons, List.map_cons, List.sum_cons]
    refine Nat.le_trans (fold_plen c ks _) ?_
    unfold stepP
    rw [flat_len, Nat.pow_add, ← Nat.mul_assoc]
    exact Nat.mul_le_mul_right _ (Nat.mul_le_mul_left _ (succ_le_two _))
theorem sum_ind {x : Hs} : ∀ {ks : List Hs}, ks.Nodup → (ks.map fun k => if x == k then 1 else 0).sum ≤ 1
  | [], _ => by simp
  | k :: ks, n => by
    obtain ⟨n1, n2⟩ := List.nodup_cons.mp n
    rw [List.map_cons, List.sum_cons]
    by_cases e : x = k
    · subst e
      have : (ks.map fun k => if x == k then 1 else 0).sum = 0 := by
        have : ∀ l : List Hs, x ∉ l → (l.map fun k => if x == k then 1 else 0).sum = 0 := fun l => by
          induction l with
          | nil => intro _; rfl
          | cons a l ih =>
            intro m
            rw [List.mem_cons, not_or] at m
            rw [List.map_cons, List.sum_cons, ih m.2]
            simp [m.1]
        exact this ks n1
      rw [this]; simp
    · have := sum_ind n2 (x := x)
      have e2 : (x == k) = false := by simpa using e
      rw [e2]; simpa using this
theorem sum_cnt {ks : List Hs} (n : ks.Nodup) : ∀ hs : List Hs, (ks.map fun k => hs.count k).sum ≤ hs.length
  | [] => by
    have : ∀ l : List Hs, (l.map fun k => List.count k ([] : List Hs)).sum = 0 := fun l => by induction l with | nil => rfl | cons a l ih => rw [List.map_cons, List.sum_cons, ih]; rfl
    rw [this]; exact Nat.le_refl _
  | x :: hs => by
    have h1 := sum_cnt n hs
    have h2 := sum_ind n (x := x)
    have e : ∀ l : List Hs, (l.map fun k => List.count k (x :: hs)).sum = (l.map fun k => hs.count k).sum + (l.map fun k => if x == k then 1 else 0).sum := fun l => by
      induction l with
      | nil => rfl
      | cons a l ih => rw [List.map_cons, List.sum_cons, ih, List.map_cons, List.sum_cons, List.map_cons, List.sum_cons, List.count_cons]; omega
    rw [e, List.length_cons]; omega
theorem parts_len {hs ks : List Hs} (n : ks.Nodup) : (partsBy (fun h => hs.count h) ks).length ≤ 2 ^ hs.length := by
  have := fold_plen (fun h => hs.count h) ks [[]]
  rw [List.length_singleton, Nat.one_mul] at this
  exact Nat.le_trans this (Nat.pow_le_pow_right (by decide) (sum_cnt n hs))
theorem parts_mem_len {hs p : List Hs} {ks : List Hs} (n : ks.Nodup) (h : PartOf (fun h => hs.count h) ks p) : p.length ≤ (ks.map fun k => hs.count k).sum := by
  induction h with
  | nil => simp
  | @cons k ks p m h r ih =>
    have := ih (List.nodup_cons.mp n).2
    rw [List.length_append, List.length_replicate, List.map_cons, List.sum_cons]
    omega
def leC (a b : Cr) : Bool := decide (a.1 = b.1) && subB a.2 b.2
def cov (ks : List Cr) (c : Cr) : Bool := ks.any fun k => leC k c
theorem leC_refl (a : Cr) : leC a a = true := by unfold leC; rw [sub_refl]; simp
theorem leC_trans {a b c : Cr} (h1 : leC a b = true) (h2 : leC b c = true) : leC a c = true := by
  unfold leC at *
  rw [Bool.and_eq_true, decide_eq_true_eq] at *
  exact ⟨h1.1.trans h2.1, sub_trans h1.2 h2.2⟩
theorem leC_anti {a b : Cr} (sa : Srt a.2) (sb : Srt b.2) (h1 : leC a b = true) (h2 : leC b a = true) : a = b := by
  unfold leC at *
  rw [Bool.and_eq_true, decide_eq_true_eq] at *
  exact Prod.ext h1.1 (srt_uniq (sub_both h1.2 h2.2) sa sb)
theorem leC_len {a b : Cr} (h : leC a b = true) : a.2.length ≤ b.2.length := by
  unfold leC at h
  rw [Bool.and_eq_true] at h
  exact sub_le h.2
structure IsLeast (cs R : List Cr) : Prop where
  sub : ∀ k ∈ R, k ∈ cs
  cv : ∀ c ∈ cs, cov R c = true
  anti : ∀ a ∈ R, ∀ b ∈ R, leC a b = true → a = b
  nd : R.Nodup
theorem cov_iff {ks : List Cr} {c : Cr} : cov ks c = true ↔ ∃ k ∈ ks, leC k c = true := by unfold cov; rw [List.any_eq_true]
theorem cov_mono {R cs : List Cr} (L : IsLeast cs R) {c : Cr} : cov R c = cov cs c := by
  rw [Bool.eq_iff_iff, cov_iff, cov_iff]
  refine ⟨fun ⟨k, hk, e⟩ => ⟨k, L.sub k hk, e⟩, fun ⟨k, hk, e⟩ => ?_⟩
  obtain ⟨r, hr, q⟩ := cov_iff.mp (L.cv k hk)
  exact ⟨r, hr, leC_trans q e⟩
theorem least_perm {cs cs' R R' : List Cr} (L : IsLeast cs R) (L' : IsLeast cs' R') (s : ∀ c ∈ cs, Srt c.2) (s' : ∀ c ∈ cs', Srt c.2) (h : ∀ c ∈ cs, cov cs' c = true) (h' : ∀ c ∈ cs', cov cs c = true) : R.Perm R' := by
  have one : ∀ {A B RA RB : List Cr}, IsLeast A RA → IsLeast B RB → (∀ c ∈ A, Srt c.2) → (∀ c ∈ B, Srt c.2) → (∀ c ∈ A, cov B c = true) → (∀ c ∈ B, cov A c = true) → ∀ a ∈ RA, a ∈ RB := fun {A B RA RB} LA LB sA sB hA hB a ha => by
    have h1 := hA a (LA.sub a ha)
    rw [← cov_mono LB] at h1
    obtain ⟨b, hb, e⟩ := cov_iff.mp h1
    have h2 := hB b (LB.sub b hb)
    rw [← cov_mono LA] at h2
    obtain ⟨a', ha', e'⟩ := cov_iff.mp h2
    have ea := LA.anti a' ha' a ha (leC_trans e' e)
    subst ea
    rw [leC_anti (sA _ (LA.sub _ ha)) (sB _ (LB.sub _ hb)) e' e]; exact hb
  exact (List.perm_ext_iff_of_nodup L.nd L'.nd).mpr fun a => ⟨one L L' s s' h h' a, one L' L s' s h' h a⟩
def cP0 (c : Cr) : PyData := .tuple [.tuple [.int (c.1.a.getD 0), .bool c.1.d, .bool c.1.w], .tuple (c.2.map hP)]
def cK2 (c : Cr) : List (Int ⊕ List Nat) := .inl (if c.1.a.isNone then 0 else 1) :: PySem.W.keyToks (cP0 c)
def crLt (a b : Cr) : Bool := PyProof.Rows.lexLt PyProof.Rows.itemOrd (cK2 a) (cK2 b)
theorem hKs_inj : ∀ {a b : List Hs}, PySem.W.keyToksAll (a.map hP) = PySem.W.keyToksAll (b.map hP) → a = b := fun {a b} e => by
  have al := alike_hs a b
  cases q : PyData.eqvAll (a.map hP) (b.map hP) with
  | true => rw [eqv_hs] at q; exact of_decide_eq_true q
  | false =>
    have h := (PySem.W.toksAll_eqv _ _ al).2 q [] [.inl 0]
    rw [e] at h
    have h2 := PySem.W.lex_pre (PySem.W.keyToksAll (b.map hP)) [] [.inl 0]
    rw [h2, PyProof.Rows.lex_irrefl] at h
    exact absurd h (by decide)
theorem cK2_inj {a b : Cr} (e : cK2 a = cK2 b) : a = b := by
  unfold cK2 cP0 at e
  simp only [PySem.W.keyToks, PySem.W.keyToksAll, List.cons_append, List.nil_append, List.append_assoc, List.cons.injEq, Sum.inl.injEq, true_and] at e
  obtain ⟨e0, e1, e2, e3, e4⟩ := e
  have e5 := List.append_cancel_right e4
  obtain ⟨⟨x, y, z⟩, hs⟩ := a
  obtain ⟨⟨x', y', z'⟩, hs'⟩ := b
  have f4 := hKs_inj e5
  dsimp only at e0 e1 e2 e3 f4
  subst f4
  have f2 : y = y' := by cases y <;> cases y' <;> simp_all
  have f3 : z = z' := by cases z <;> cases z' <;> simp_all
  subst f2 f3
  have f1 : x = x' := by
    cases x with
    | none => cases x' with
      | none => rfl
      | some j => simp at e0
    | some i => cases x' with
      | none => simp at e0
      | some j => simp at e1; rw [e1]
  subst f1
  rfl
theorem crLt_irr (a : Cr) : crLt a a = false := PyProof.Rows.lex_irrefl _
theorem crLt_tr {a b c : Cr} (h1 : crLt a b = true) (h2 : crLt b c = true) : crLt a c = true := PyProof.Rows.lex_trans _ _ _ h1 h2
theorem crLt_tot {a b : Cr} (h1 : crLt a b = false) (h2 : crLt b a = false) : a = b := cK2_inj (PyProof.Rows.lex_total _ _ h1 h2)
theorem crLt_neg {a b c : Cr} (h1 : crLt a c = true) : crLt a b = true ∨ crLt b c = true := PyProof.Rows.lex_negTrans _ _ _ h1
theorem crLt_asym {a b : Cr} (h1 : crLt a b = true) : crLt b a = false := by
  cases h : crLt b a with
  | false => rfl
  | true => have := crLt_tr h1 h; rw [crLt_irr] at this; cases this
def crLe (a b : Cr) : Prop := crLt b a = false
theorem crLe_tr {a b c : Cr} (h1 : crLe a b) (h2 : crLe b c) : crLe a c := by
  unfold crLe at *
  cases h : crLt c a with
  | false => rfl
  | true =>
    rcases crLt_neg (b := b) h with q | q
    · rw [h2] at q; cases q
    · rw [h1] at q; cases q
abbrev SrtC (l : List Cr) : Prop := l.Pairwise crLe
theorem srtC_uniq : ∀ {l k : List Cr}, l.Perm k → SrtC l → SrtC k → l = k
  | [], k, p, _, _ => (List.Perm.nil_eq p)
  | a :: l, [], p, _, _ => absurd p.length_eq (by simp)
  | a :: l, b :: k, p, h1, h2 => by
    obtain ⟨a1, a2⟩ := List.pairwise_cons.mp h1
    obtain ⟨b1, b2⟩ := List.pairwise_cons.mp h2
    have e : a = b := by
      have m1 : a ∈ b :: k := p.subset List.mem_cons_self
      have m2 : b ∈ a :: l := p.symm.subset List.mem_cons_self
      rcases List.mem_cons.mp m1 with q | q
      · exact q
      · rcases List.mem_cons.mp m2 with r | r
        · exact r.symm
        · exact crLt_tot (b1 _ q) (a1 _ r)
    subst e
    rw [srtC_uniq (p.cons_inv) a2 b2]
theorem crLt_diff {a b : Cr} (h : a.1.a.isNone ≠ b.1.a.isNone) : crLt a b = a.1.a.isNone := by
  unfold crLt cK2
  cases q : a.1.a.isNone with
  | true =>
    have q2 : b.1.a.isNone = false := by cases z : b.1.a.isNone with | false => rfl | true => exact absurd (q.trans z.symm) h
    rw [q2, PyProof.Rows.lex_diff (by simp)]; rfl
  | false =>
    have q2 : b.1.a.isNone = true := by cases z : b.1.a.isNone with | true => rfl | false => exact absurd (q.trans z.symm) h
    rw [q2, PyProof.Rows.lex_diff (by simp)]; rfl
theorem crLt_same {a b : Cr} (h : a.1.a.isNone = b.1.a.isNone) : crLt a b = PySem.W.dataLt (cP0 a) (cP0 b) := by
  unfold crLt cK2
  rw [h, PyProof.Rows.lex_self]; rfl
end NM
namespace NM
open PySem PySem.Spec PyProof.Rows L2
section
variable {X : Cx} {ρ : Rho} {ω : Om} {Ψ : PsiE} {ε : PsiX} {Φ : Post} {e f : Expr} {pos : Pos}
theorem od_iadd {i j : Int} (h : Ψ (.int (i + j)) ω) : OD X (inplaceOp .Add) (.int i) (.int j) ω Ψ ε := od_I0 iop_add (fun _ _ => .int _) h
theorem od_inC {x y : Dt} {C : Addr} {ns : List Str} {ds : List Dt} {gD : List Dt → List Dt → List Dt} {sp : DSp} (ob : Ob ω x C ns ds) (S : SpD X C "__contains__" 2 gD sp)
    (h : sp (gD [x, y] []) ω (fun d ω' => ∃ k, d = .bl k ∧ Ψ d ω') ε) : OD X (compareOp .In) y x ω Ψ ε := fun σ vy vx P H as Q w ay ax xk q => .mk fun pins s u v I ry rx => by
  obtain ⟨f, fd, k, ps, hs, hf, F, hb, hr⟩ := S.ex
  obtain ⟨g, gV, hb1, hb2⟩ := hb.ex
  obtain ⟨a, dx, fs, rfl, h1, e1, r1⟩ := ob_at w ob ax
  cases rx
  obtain ⟨mA, J, _⟩ := ins_get I.hok h1
  obtain ⟨od, J, _⟩ := J.look
  obtain ⟨m, hF⟩ := I.fr
  obtain ⟨W, tk, z⟩ := lift_of (σ := σ) (Q := fun v H' => (∃ k, v = .bl k) ∧ Q v H') w (hb2 (.cons ax (.cons ay .nil)) .nil) xk h fun v d ω' P' H' as' w' g' a' p => by
    obtain ⟨k, rfl, p⟩ := p
    cases a'
    exact ⟨⟨k, rfl⟩, q _ _ ω' P' H' as' w' g' (.bl k) p⟩
  refine PySem.W.in_K hF I.ok.mod.kin J hs hf ?_
  refine wpAny_mono (run_at (us := [.ref a, u]) (vs := [.ref a, vy]) F.ok (hr.mono (by omega)) rfl hb1 I tk (.cons rfl (.cons ry .nil)) rfl z) (fun v s' hv => ?_) fun _ _ x => x
  obtain ⟨v', H', I', rv, ⟨k, rfl⟩, qq⟩ := hv
  cases rv
  exact wpAny_pure ⟨.bl k, H', I', rfl, qq⟩
theorem od_notinC {x y : Dt} {C : Addr} {ns : List Str} {ds : List Dt} {gD : List Dt → List Dt → List Dt} {sp : DSp} (ob : Ob ω x C ns ds) (S : SpD X C "__contains__" 2 gD sp)
    (h : sp (gD [x, y] []) ω (fun d ω' => ∃ k, d = .bl k ∧ Ψ (.bl (!k)) ω') ε) : OD X (compareOp .NotIn) y x ω Ψ ε := fun σ vy vx P H as Q w ay ax xk q => .mk fun pins s u v I ry rx => by
  obtain ⟨f, fd, k, ps, hs, hf, F, hb, hr⟩ := S.ex
  obtain ⟨g, gV, hb1, hb2⟩ := hb.ex
  obtain ⟨a, dx, fs, rfl, h1, e1, r1⟩ := ob_at w ob ax
  cases rx
  obtain ⟨mA, J, _⟩ := ins_get I.hok h1
  obtain ⟨od, J, _⟩ := J.look
  obtain ⟨m, hF⟩ := I.fr
  obtain ⟨W, tk, z⟩ := lift_of (σ := σ) (Q := fun v H' => ∃ k, v = .bl k ∧ Q (.bl (!k)) H') w (hb2 (.cons ax (.cons ay .nil)) .nil) xk h fun v d ω' P' H' as' w' g' a' p => by
    obtain ⟨k, rfl, p⟩ := p
    cases a'
    exact ⟨k, rfl, q _ _ ω' P' H' as' w' g' (.bl (!k)) p⟩
  refine PySem.W.notIn_K hF I.ok.mod.kin J hs hf ?_
  refine wpAny_mono (run_at (us := [.ref a, u]) (vs := [.ref a, vy]) F.ok (hr.mono (by omega)) rfl hb1 I tk (.cons rfl (.cons ry .nil)) rfl z) (fun v s' hv => ?_) fun _ _ x => x
  obtain ⟨v', H', I', rv, k, rfl, qq⟩ := hv
  cases rv
  exact wpAny_pure ⟨.bl (!k), H', I', rfl, qq⟩
end
end NM
namespace NM
open PySem PySem.Spec PyProof.Rows L2
section
variable {X : Cx} {ρ : Rho} {ω : Om} {Ψ : PsiE} {ε : PsiX} {Φ : Post} {e f : Expr} {pos : Pos}
theorem es_setLcO (i j : Nat) {x y : Str} {elt iter : Expr} {ifs : List Expr} {scope : Scope} {own : List (Str × Nat)} {tp py spos : Pos} (ok : Cok X) (bo : BlkOk X.N X.env.scope scope own) (hj : j ∈ own.map (·.2)) (hif : ifs = [] ∨ ∃ c, ifs = [c])
    (hsw : swapsWith (.ListComp elt [⟨.Name x tp, iter, ifs, 0⟩] scope pos) (some (.Name y py)) spos.line X.env = pure true)
    (h : EI X ρ ω (.Name x tp) iter (fun items dv ω1 => ∃ I : Nat → List Dt → Om → Prop, I 0 [] ω1 ∧ (∀ i acc ω', I i acc ω' → dv ω') ∧
      (∀ (i : Nat) d acc ω', items[i]? = some d → I i acc ω' → Elt X scope ((wipeR ρ (own.map (·.2))).set j (some d)) ω' elt ifs (I (i + 1)) acc) ∧ (∀ acc ω', I items.length acc ω' → Φ.nx (ρ.set i (some (.own ω'.length))) (ω' ++ [.lst acc]))) (fun y ω' => Φ.xc y ρ ω'))
    (hg : ∀ (s : Shared) (H : Hp) (C : Addr) (cl : List (Str × Addr)) (fp : List Addr), PG (Blk X scope s H C cl fp) (.Name x tp) (gName j)) (hy : X.N[i]? = some y := by rfl) (hyl : X.env.scope.names.lookup y = some .local := by rfl) (hs : ∀ x, foldedSetIterable iter X.env x = pure x := by intro _; rfl) :
    ES X ρ ω (.Assign [.Name y py] (.ListComp elt [⟨.Name x tp, iter, ifs, 0⟩] scope pos) spos) Φ := fun σ P H as D0 w en z => by
  refine sS_of (ps_setLc (te := fun σ H Q => ∀ s H0 C cl fp, sE (Blk X scope s H0 C cl fp) elt σ H Q) ok.calm ok.nd hy hyl hsw pI bo hg (pTs hif) (fun s H C cl fp => ⟨fun pins s' σ' H' Q' I h => (h s H C cl fp).run pins s' I⟩) hs) ?_
  refine lc_run (R := fun acc ω' => Φ.nx (ρ.set i (some (.own ω'.length))) (ω' ++ [.lst acc])) (fun d => (wipeR ρ (own.map (·.2))).set j (some d)) (tgt_name j hj) h w en (z.xk en) fun D acc ω' P' H' as' P1 H1 as1 hD g1 x p => ?_
  obtain ⟨w2, g2, a2⟩ := x.finO hD
  exact z.nx _ _ _ P' H' _ w2 (g1.trans g2) ((en.mono (g1.trans g2).p (g1.trans g2).a).set i a2) p
end
end NM
namespace NM
open PySem PySem.Spec PyProof.Rows L2
section
variable {X : Cx} {ρ : Rho} {ω : Om} {Ψ : PsiE} {ε : PsiX} {Φ : Post} {e f : Expr} {pos : Pos}
theorem mf_turns {J : Nat → List Dt → Om → Prop} (p : Dt → Bool) (g : Dt → Dt) {scope : Scope} {elt c : Expr} {vs : List Nat} {j : Nat} {items : List Dt} {ω1 : Om} (hz : items.length < sizeLine)
    (h1 : ∀ d ∈ items, ∀ s H C cl fp, ET (Blk X scope s H C cl fp) ((wipeR ρ vs).set j (some d)) ω1 c (fun k ω2 => k = p d ∧ ω2 = ω1) F0) (h2 : ∀ d ∈ items, p d = true → ∀ s H C cl fp, EV (Blk X scope s H C cl fp) ((wipeR ρ vs).set j (some d)) ω1 elt (fun y ω2 => y = g d ∧ ω2 = ω1) F0) :
    ∀ (i : Nat) d acc ω', items[i]? = some d → (ω' = ω1 ∧ acc = ((items.take i).filter p).map g) → Elt X scope ((wipeR ρ vs).set j (some d)) ω' elt [c] (fun acc ω' => ω' = ω1 ∧ acc = ((items.take (i + 1)).filter p).map g) acc := by
  intro i d acc o hd z
  obtain ⟨rfl, rfl⟩ := z
  obtain ⟨hl, e⟩ := List.getElem?_eq_some_iff.mp hd
  have et : items.take (i + 1) = items.take i ++ [d] := by rw [List.take_succ_eq_append_getElem hl, e]
  have hm := List.mem_of_getElem? hd
  refine elt1 (p d) (fun s H C cl fp => h1 d hm s H C cl fp) (fun hp s H C cl fp => (h2 d hm hp s H C cl fp).imp fun y o2 z => ⟨?_, z.2, ?_⟩) (fun hp => ⟨rfl, ?_⟩)
  · have := List.length_filter_le p (items.take i)
    rw [List.length_take] at this
    rw [List.length_map]; omega
  · rw [z.1, et, List.filter_append, List.filter_cons_of_pos hp, List.map_append]; rfl
  · rw [et, List.filter_append, List.filter_cons_of_neg (by rw [hp]; decide), List.filter_nil, List.append_nil]
/-- [f x for x in iter if p x] -/
theorem ev_mf (j : Nat) (p : Dt → Bool) (g : Dt → Dt) {x : Str} {elt iter c : Expr} {scope : Scope} {own : List (Str × Nat)} {tp : Pos} (ok : Cok X) (bo : BlkOk X.N X.env.scope scope own) (hj : j ∈ own.map (·.2))
    (h : EI X ρ ω (.Name x tp) iter (fun items dv ω1 => dv ω1 ∧ (∀ d ∈ items, ∀ s H C cl fp, ET (Blk X scope s H C cl fp) ((wipeR ρ (own.map (·.2))).set j (some d)) ω1 c (fun k ω2 => k = p d ∧ ω2 = ω1) F0) ∧ (∀ d ∈ items, p d = true → ∀ s H C cl fp, EV (Blk X scope s H C cl fp) ((wipeR ρ (own.map (·.2))).set j (some d)) ω1 elt (fun y ω2 => y = g d ∧ ω2 = ω1) F0) ∧ items.length < sizeLine ∧ Ψ (.lst ((items.filter p).map g)) ω1) ε)
    (hg : ∀ (s : Shared) (H : Hp) (C : Addr) (cl : List (Str × Addr)) (fp : List Addr), PG (Blk X scope s H C cl fp) (.Name x tp) (gName j)) (hs : ∀ x, foldedSetIterable iter X.env x = pure x := by intro _; rfl) :
    EV X ρ ω (.ListComp elt [⟨.Name x tp, iter, [c], 0⟩] scope pos) Ψ ε := by
  refine ev_lc j ok bo hj (.inr ⟨c, rfl⟩) (fun σ P H as R w en xk q => h σ P H as R w en xk fun J items dv ω' P' H' as' w' g' it d1 k => q J items dv ω' P' H' as' w' g' it d1 ?_) hg hs
  obtain ⟨k0, k1, k2, k3, k4⟩ := k
  refine ⟨fun i acc o => o = ω' ∧ acc = ((items.take i).filter p).map g, ⟨rfl, rfl⟩, fun i acc o z => z.1 ▸ k0, mf_turns (J := fun _ _ _ => True) p g k3 k1 k2, fun acc o z => ?_⟩
  obtain ⟨rfl, rfl⟩ := z
  rw [List.take_length]; exact k4
/-- y = .., the statement -/
theorem es_setMf (i j : Nat) (p : Dt → Bool) (g : Dt → Dt) {x y : Str} {elt iter c : Expr} {scope : Scope} {own : List (Str × Nat)} {tp py spos : Pos} (ok : Cok X) (bo : BlkOk X.N X.env.scope scope own) (hj : j ∈ own.map (·.2))
    (hsw : swapsWith (.ListComp elt [⟨.Name x tp, iter, [c], 0⟩] scope pos) (some (.Name y py)) spos.line X.env = pure true)
    (h : EI X ρ ω (.Name x tp) iter (fun items dv ω1 => dv ω1 ∧ (∀ d ∈ items, ∀ s H C cl fp, ET (Blk X scope s H C cl fp) ((wipeR ρ (own.map (·.2))).set j (some d)) ω1 c (fun k ω2 => k = p d ∧ ω2 = ω1) F0) ∧ (∀ d ∈ items, p d = true → ∀ s H C cl fp, EV (Blk X scope s H C cl fp) ((wipeR ρ (own.map (·.2))).set j (some d)) ω1 elt (fun y ω2 => y = g d ∧ ω2 = ω1) F0) ∧ items.length < sizeLine ∧ Φ.nx (ρ.set i (some (.lst ((items.filter p).map g)))) ω1) (fun y ω' => Φ.xc y ρ ω'))
    (hg : ∀ (s : Shared) (H : Hp) (C : Addr) (cl : List (Str × Addr)) (fp : List Addr), PG (Blk X scope s H C cl fp) (.Name x tp) (gName j)) (hy : X.N[i]? = some y := by rfl) (hyl : X.env.scope.names.lookup y = some .local := by rfl) (hs : ∀ x, foldedSetIterable iter X.env x = pure x := by intro _; rfl) :
    ES X ρ ω (.Assign [.Name y py] (.ListComp elt [⟨.Name x tp, iter, [c], 0⟩] scope pos) spos) Φ := by
  refine es_setLc i j ok bo hj (.inr ⟨c, rfl⟩) hsw (fun σ P H as R w en xk q => h σ P H as R w en xk fun J items dv ω' P' H' as' w' g' it d1 k => q J items dv ω' P' H' as' w' g' it d1 ?_) hg hy hyl hs
  obtain ⟨k0, k1, k2, k3, k4⟩ := k
  refine ⟨fun i acc o => o = ω' ∧ acc = ((items.take i).filter p).map g, ⟨rfl, rfl⟩, fun i acc o z => z.1 ▸ k0, mf_turns (J := fun _ _ _ => True) p g k3 k1 k2, fun acc o z => ?_⟩
  obtain ⟨rfl, rfl⟩ := z
  rw [List.take_length]; exact k4
theorem eqv_nilL : ∀ l : List PyData, PyData.eqv (.list l) (.list []) = l.isEmpty
  | [] => rfl
  | _ :: _ => rfl
theorem pyL_reps {ω : Om} : ∀ n : Nat, PyL ω (List.replicate n (.int 1)) (List.replicate n (.int 1))
  | 0 => .nil
  | n + 1 => by rw [List.replicate_succ, List.replicate_succ]; exact .cons (.int 1) (pyL_reps n)
theorem nice_reps : ∀ n : Nat, NiceL 0 (n * 42) (List.replicate n (.int 1))
  | 0 => .nil
  | n + 1 => by rw [List.replicate_succ]; exact .cons (a := 41) (.int (by decide) (by decide)) (nice_reps n) (by omega)
theorem map_one (l : List Dt) : l.map (fun _ => Dt.int 1) = List.replicate l.length (.int 1) := List.eq_replicate_iff.mpr ⟨by rw [List.length_map], fun b hb => by obtain ⟨_, _, rfl⟩ := List.mem_map.mp hb; rfl⟩
/-- [1 for ..] == [], [1 for ..] != [] -/
theorem od_onesEq {l : List Dt} (hu : X.A.units + 64 < cLine) (h : Ψ (.bl l.isEmpty) ω) : OD X (compareOp .Eq) (.lst (l.map fun _ => Dt.int 1)) (.lst []) ω Ψ ε := by
  rw [map_one]
  refine od_eqN (.lst (pyL_reps _)) (.lst .nil) ((Nice.lst (nice_reps _)).mono (by decide) (Nat.le_refl _)) ((Nice.lst (n := 0) (m := 0) .nil).mono (by decide) (Nat.le_refl _)) hu ?_
  rw [eqv_nilL]
  cases l <;> exact h
theorem od_onesNe {l : List Dt} (hu : X.A.units + 64 < cLine) (h : Ψ (.bl (!l.isEmpty)) ω) : OD X (compareOp .NotEq) (.lst (l.map fun _ => Dt.int 1)) (.lst []) ω Ψ ε := by
  rw [map_one]
  refine od_neN (.lst (pyL_reps _)) (.lst .nil) ((Nice.lst (nice_reps _)).mono (by decide) (Nat.le_refl _)) ((Nice.lst (n := 0) (m := 0) .nil).mono (by decide) (Nat.le_refl _)) hu ?_
  rw [eqv_nilL]
  cases l <;> exact h
end
/-- a list of ours is given away -/
theorem giv_ownL {Ψ : PsiE} {ω ω1 rest : Om} {n : Nat} {ds : List Dt} (hl : ω1.length = ω.length) (h1 : OmLt ω.length ω1) (hn : ω.length ≤ n) (e : (ω1 ++ rest)[n]? = some (.lst ds)) (hd : ltL ω.length ds = true) (h : Ψ (.lst ds) ω1) : Giv ω.length Ψ (.own n) (ω1 ++ rest) := by
  refine ⟨ω.length, .lst ds, Nat.le_refl _, ?_, .lstO hn e (frzL_lt hd), ?_⟩
  · rw [← hl, List.take_left, hl]; exact h1
  · rw [← hl, List.take_left]; exact h
end NM
namespace PySem.W
open PySem PyProof.Rows
section
variable {prog : Program} {w : World} {A : Around} {E : Value → Shared → Prop} {s : Shared}
theorem nm_dec_list {l y : Addr} {Q : Value → Shared → Prop} (ht : s.TypeIs (.ref l) "list") (hy : Looks (model prog w) s.heap (isInstance (.ref y) (.type "list")) false) (h : Q .notImplemented s) : wpAny (model prog w) A (call (.builtin "list.__eq__") [.ref l, .ref y]) Q E s := by
  refine wpAny_call_entry F.slot_list_eq ht F.entry_list_eq ?_ (F.args_list_eq_2 _ _)
  have f1 := fun A Q E => hy A Q E s (fun _ _ h => h)
  obtain ⟨hp, g, d, tk, os⟩ := s
  wp_walk using f1 _ _ _
  exact ⟨_, rfl, h⟩
theorem nm_dec_tuple {l y : Addr} {Q : Value → Shared → Prop} (ht : s.TypeIs (.ref l) "tuple") (hy : Looks (model prog w) s.heap (isInstance (.ref y) (.type "tuple")) false) (h : Q .notImplemented s) : wpAny (model prog w) A (call (.builtin "tuple.__eq__") [.ref l, .ref y]) Q E s := by
  refine wpAny_call_entry F.slot_tuple_eq ht F.entry_tuple_eq ?_ (F.args_tuple_eq_2 _ _)
  have f1 := fun A Q E => hy A Q E s (fun _ _ h => h)
  obtain ⟨hp, g, d, tk, os⟩ := s
  wp_walk using f1 _ _ _
  exact ⟨_, rfl, h⟩
theorem nm_dec_none {y : Addr} {Q : Value → Shared → Prop} (h : Q .notImplemented s) : wpAny (model prog w) A (call (.builtin "NoneType.__eq__") [.none, .ref y]) Q E s :=
  call_gives F.slot_NoneType_eq rfl F.entry_NoneType_eq (F.args_NoneType_eq_2 _ _) (SeqAt.NoneType___eq___none_ref_0 y) h
theorem nm_m_int (b : Int) (u : Tok) (l C dx : Addr) :
    Meets (Builtin.«int.__eq__» ⟨[.int b u, .ref l], []⟩) (fun _ R s => s.heap.get? l = some (instObj C dx) ∧ R (.ok (.ret .notImplemented)) s) :=
  .of_wp fun prog w A R s h => by obtain ⟨hp, g, d, tk, os⟩ := s; obtain ⟨hl, h⟩ := h; wp_walk using wpAny_load hl; exact ⟨_, rfl, h⟩
theorem nm_m_bool (b : Bool) (l C dx : Addr) :
    Meets (Builtin.«int.__eq__» ⟨[.bool b, .ref l], []⟩) (fun _ R s => s.heap.get? l = some (instObj C dx) ∧ R (.ok (.ret .notImplemented)) s) :=
  .of_wp fun prog w A R s h => by obtain ⟨hp, g, d, tk, os⟩ := s; obtain ⟨hl, h⟩ := h; wp_walk using wpAny_load hl; exact ⟨_, rfl, h⟩
theorem nm_m_str (b : Str) (u : Tok) (l C dx : Addr) :
    Meets (Builtin.«str.__eq__» ⟨[.str b u, .ref l], []⟩) (fun _ R s => s.heap.get? l = some (instObj C dx) ∧ R (.ok (.ret .notImplemented)) s) :=
  .of_wp fun prog w A R s h => by obtain ⟨hp, g, d, tk, os⟩ := s; obtain ⟨hl, h⟩ := h; wp_walk using wpAny_load hl; exact ⟨_, rfl, h⟩
theorem nm_eqR {K : Frag} {a : Value} {y C f : Addr} {oy : Obj} {od : Option Obj} {T id : String} {Q : Value → Shared → Prop} (hu : A.units < cLine) (X : K.In s.heap) (hta : s.TypeIs a T) (h1 : Slot T (cmpInfo .Eq).2.1 id) (I : InstAt s.heap y oy C od) (hsub : subIn K (.ref C) (.type T) = some false)
    (hs : findIn K (.ref C) (cmpInfo .Eq).2.2 = some (some (.ref f))) (hf : isFn K (.ref f) = true) (hdec : ∀ Q' : Value → Shared → Prop, Q' .notImplemented s → wpAny (model prog w) A (call (.builtin id) [a, .ref y]) Q' E s)
    (h : wpAny (model prog w) A (call (.ref f) [.ref y, a]) (CmpBack Q) E s) : wpAny (model prog w) A (richCompare .Eq a (.ref y)) Q E s := by
  have one : wpAny (model prog w) A (tryCompare (.ref y) (cmpInfo .Eq).2.2 a) (fun r s' => ∃ v, r = some v ∧ Q v s') E s := by
    unfold tryCompare
    refine wpAny_bind (ifBound_K X I hs hf (wpAny_mono h (fun v s' hv => ?_) fun _ _ e => e))
    cases v <;> first | exact hv.elim | exact wpAny_pure ⟨_, rfl, hv⟩
  rcases hi : cmpInfo CmpOp.Eq with ⟨sym, f', r⟩
  rw [hi] at h1 one
  simp only [richCompare, hi, hta.oneThing_none]
  refine wpAny_holding (wpAny_bind (wpAny_cRoomFor hu ?_))
  refine wpAny_bind (wpAny_typeOf hta (wpAny_bind (I.type.here ?_)))
  have ne : (Value.type T != Value.ref C) = true := rfl
  simp only [ne, if_true]
  refine wpAny_bind ((looks_subIn X hsub).here ?_)
  simp only [Bool.false_eq_true, if_false, Bool.not_false, if_true]
  refine wpAny_bind (m := tryCompare a _ _) (wpAny_tryCompare_declines hta h1 (hdec _ ⟨rfl, ?_⟩))
  refine wpAny_bind (m := tryCompare _ _ a) (wpAny_mono one (fun r s' z => ?_) fun _ _ e => e)
  obtain ⟨v, rfl, hq⟩ := z
  exact wpAny_pure hq
end
end PySem.W
namespace NM
open PySem PySem.Spec PyProof.Rows L2
/-- what stands left of == may be of these types -/
inductive L6 (ω : Om) : Dt → String → String → Prop
  | non : L6 ω .non "NoneType" "NoneType.__eq__"
  | bl (b : Bool) : L6 ω (.bl b) "bool" "int.__eq__"
  | int (i : Int) : L6 ω (.int i) "int" "int.__eq__"
  | str (x : Str) : L6 ω (.str x) "str" "str.__eq__"
  | lst (ds : List Dt) : L6 ω (.lst ds) "list" "list.__eq__"
  | own {n : Nat} {ds : List Dt} (h : ω[n]? = some (.lst ds)) : L6 ω (.own n) "list" "list.__eq__"
  | tup (ds : List Dt) : L6 ω (.tup ds) "tuple" "tuple.__eq__"
theorem l6_slot {ω : Om} {x : Dt} {T id : String} (h : L6 ω x T id) : Slot T (cmpInfo .Eq).2.1 id := by
  cases h
  · exact F.slot_NoneType_eq
  · exact F.slot_bool_eq
  · exact F.slot_int_eq
  · exact F.slot_str_eq
  · exact F.slot_list_eq
  · exact F.slot_list_eq
  · exact F.slot_tuple_eq
theorem l6_ty {K : Fg} {ω : Om} {x : Dt} {T id : String} (h : L6 ω x T id) : TyD K ω x (.type T) := by
  cases h with
  | non => exact .non
  | bl b => exact .bl b
  | int i => exact .int i
  | str x => exact .str x
  | lst ds => exact .lst ds
  | own h => exact .ownL h
  | tup ds => exact .tup ds
section
variable {X : Cx} {ρ : Rho} {ω : Om} {Ψ : PsiE} {ε : PsiX}
theorem typeIs_ty {pins : List (Addr × Obj)} {σ : L2.St} {H : Hp} {s : Shared} {v : V} {u t : Value} {T : String} (I : Inv X pins σ H s) (r : RelV v u) (ty : TyX X.K H v t) (h : t = .type T) : s.TypeIs u T := by
  cases ty with
  | base b =>
    cases b with
    | non => cases r; cases h; exact rfl
    | bl y => cases r; cases h; exact rfl
    | int i => obtain ⟨tk, rfl⟩ := r; cases h; exact rfl
    | str y => obtain ⟨tk, rfl⟩ := r; cases h; exact rfl
    | flt y => obtain ⟨tk, rfl⟩ := r; cases h; exact rfl
    | lst ea => cases r; obtain ⟨_, _, n, _, h1⟩ := I.hok _ _ ea; cases h; exact ⟨_, h1, rfl⟩
    | frz ea => cases r; obtain ⟨_, _, _, n, _, h1⟩ := I.hok _ _ ea; cases h; exact ⟨_, h1, rfl⟩
    | tup ea => cases r; obtain ⟨_, _, _, o, h1, h2, _⟩ := I.hok _ _ ea; cases h; exact ⟨_, h1, h2⟩
    | dK ea => cases r; obtain ⟨_, _, vs, _, o, es, ep, h1, h2, _⟩ := I.hok _ _ ea; cases h; exact ⟨_, h1, h2.1⟩
    | dT ea => cases r; obtain ⟨_, _, vs, _, o, es, ep, h1, h2, _⟩ := I.hok _ _ ea; cases h; exact ⟨_, h1, h2.1⟩
    | ins ea cl ha hn htk hm => cases h
  | byt y => obtain ⟨tk, rfl⟩ := r; cases h; exact rfl
  | set ea => cases r; obtain ⟨o, _, _, _, h1, h2, _⟩ := I.hok _ _ ea; cases h; exact ⟨_, h1, h2.1⟩
  | kList e c => cases r; cases h; exact ⟨_, I.kIn _ _ e, c⟩
  | kTuple e c => cases r; cases h; exact ⟨_, I.kIn _ _ e, c⟩
  | kDict e c => cases r; cases h; exact ⟨_, I.kIn _ _ e, c⟩
  | fTuple ea => cases r; obtain ⟨_, _, _, _, o, h1, h2, _⟩ := I.hok _ _ ea; cases h; exact ⟨_, h1, h2⟩
  | fDict ea => cases r; obtain ⟨_, _, _, vs, _, o, es, ep, h1, h2, _⟩ := I.hok _ _ ea; cases h; exact ⟨_, h1, h2.1⟩
/-- x == y by the own __eq__ of y's class, x of a built-in type -/
theorem od_eqR {x y : Dt} {C : Addr} {ns : List Str} {ds : List Dt} {T id : String} {gD : List Dt → List Dt → List Dt} {sp : DSp} (ob : Ob ω y C ns ds) (S : SpD X C "__eq__" 2 gD sp) (h6 : L6 ω x T id) (hsub : PySem.W.subIn X.K (.ref C) (.type T) = some false)
    (h : sp (gD [y, x] []) ω (fun d ω' => ∃ k, d = .bl k ∧ Ψ d ω') ε) : OD X (compareOp .Eq) x y ω Ψ ε := fun σ vx vy P H as Q w ax ay xk q => .mk fun pins s u v I rx ry => by
  obtain ⟨f, fd, k, ps, hs, hf, F, hb, hr⟩ := S.ex
  obtain ⟨g, gV, hb1, hb2⟩ := hb.ex
  obtain ⟨a, dx, fs, rfl, h1, e1, r1⟩ := ob_at w ob ay
  cases ry
  obtain ⟨mA, J0, _⟩ := ins_get I.hok h1
  obtain ⟨od, J, _⟩ := J0.look
  obtain ⟨m, hF⟩ := I.fr
  obtain ⟨W, tk, z⟩ := lift_of (σ := σ) (Q := fun v H' => (∃ k, v = .bl k) ∧ Q v H') w (hb2 (.cons ay (.cons ax .nil)) .nil) xk h fun v d ω' P' H' as' w' g' a' p => by
    obtain ⟨k, rfl, p⟩ := p
    cases a'
    exact ⟨⟨k, rfl⟩, q _ _ ω' P' H' as' w' g' (.bl k) p⟩
  have tyx := tyx_at w (l6_ty (K := X.K) h6) ax
  have ti := typeIs_ty I rx tyx rfl
  have ni : PySem.W.Looks (model X.prog X.w) s.heap (isInstance (.ref a) (.type T)) false := J.type.andThen (PySem.W.looks_subIn I.kIn hsub)
  have obj := J0.obj
  refine PySem.W.nm_eqR hr.r.units0 I.kIn ti (l6_slot h6) J hsub hs hf (fun Q' hq' => ?_) ?_
  · cases h6 with
    | non => cases ax; cases rx; exact PySem.W.nm_dec_none hq'
    | bl b => cases ax; cases rx; exact call_meets PySem.F.slot_bool_eq rfl PySem.F.entry_int_eq (PySem.F.args_int_eq_2 _ _) (PySem.W.nm_m_bool _ a C dx) ⟨obj, hq'⟩
    | int i => cases ax; obtain ⟨tk, rfl⟩ := rx; exact call_meets PySem.F.slot_int_eq rfl PySem.F.entry_int_eq (PySem.F.args_int_eq_2 _ _) (PySem.W.nm_m_int _ _ a C dx) ⟨obj, hq'⟩
    | str x => cases ax; obtain ⟨tk, rfl⟩ := rx; exact call_meets PySem.F.slot_str_eq rfl PySem.F.entry_str_eq (PySem.F.args_str_eq_2 _ _) (PySem.W.nm_m_str _ _ a C dx) ⟨obj, hq'⟩
    | lst ds => cases ax; cases rx; exact PySem.W.nm_dec_list ti ni hq'
    | own e => obtain ⟨b, vs, rfl, _⟩ := seqO w ax e; cases rx; exact PySem.W.nm_dec_list ti ni hq'
    | tup ds => cases ax; cases rx; exact PySem.W.nm_dec_tuple ti ni hq'
  refine wpAny_mono (run_at (us := [.ref a, u]) (vs := [.ref a, vx]) F.ok (hr.mono (by omega)) rfl hb1 I tk (.cons rfl (.cons rx .nil)) rfl z) (fun v s' hv => ?_) fun _ _ x => x
  obtain ⟨v', H', I', rv, ⟨k, rfl⟩, qq⟩ := hv
  cases rv
  exact ⟨.bl k, H', I', rfl, qq⟩
end
end NM
namespace NM
open PySem PySem.Spec PyProof.Rows L2
def repS (i : Str) (n : Nat) : Str := if n = 0 then Str.empty else if n = 1 then i else ⟨(List.replicate n i.cps).foldl (· ++ ·) #[]⟩
def rRepS : R2 := fun x y H Q => ∃ (i : Str) (n : Nat), x = .str i ∧ y = .int (n : Nat) ∧ 0 < i.length ∧ i.length ≤ 1000 ∧ n ≤ 1000 ∧ (repS i n).length ≤ sizeLine ∧ Q (.str (repS i n)) H
section
variable {X : Cx} {ρ : Rho} {ω : Om} {Ψ : PsiE} {ε : PsiX}
theorem op_repS : OpR X (binaryOp .Mult) rRepS := by
  intro pins s σ H x y v u Q I rx ry h
  obtain ⟨i, n, rfl, rfl, h0, hi, hn, hz, q⟩ := h
  obtain ⟨t, rfl⟩ := rx
  obtain ⟨t', rfl⟩ := ry
  have h1 : ¬ (n : Int) < -(2 ^ 63 : Int) := by omega
  have h2 : ¬ (n : Int) ≥ 2 ^ 63 := by omega
  have hm : i.length * n ≤ 1000 * 1000 := Nat.mul_le_mul hi hn
  refine PySem.P.mul_str (by rw [decide_eq_false h1, decide_eq_false h2]; rfl) (fun a b => ?_) (fun a b => ?_) ?_
  · have hn1 : (1 : Int) ≤ n := by omega
    have : (1000 : Int) ≤ (2 ^ 63 - 1) / n := by
      refine (Int.le_ediv_iff_mul_le (by omega)).mpr ?_
      have : (1000 : Int) * n ≤ 1000 * 1000 := by omega
      omega
    omega
  · unfold PySem.Builtin.Str.tooLong
    rw [Int.toNat_natCast]
    simp only [sizeLine_eq]
    first | exact decide_eq_false (by omega) | (simp; omega)
  · unfold repS at q hz
    by_cases e0 : n = 0
    · subst e0
      rw [if_pos rfl] at q hz
      rw [if_pos (by decide)]
      exact ⟨hz, ⟨.str _, H, I.tok _, ⟨_, rfl⟩, q⟩⟩
    · rw [if_neg e0] at q hz
      rw [if_neg (by omega)]
      by_cases e1 : n = 1
      · subst e1
        rw [if_pos rfl] at q hz
        rw [if_pos (by rfl)]
        exact ⟨.str i, H, I, ⟨_, rfl⟩, q⟩
      · rw [if_neg e1] at q hz
        have ne : ((n : Int) == 1 || i.length == 0) = false := by
          have a1 : ((n : Int) == 1) = false := by simp; omega
          have a2 : (i.length == 0) = false := by simp; omega
          rw [a1, a2]; rfl
        rw [if_neg (by rw [ne]; decide), Int.toNat_natCast]
        exact ⟨hz, ⟨.str _, H, I.tok _, ⟨_, rfl⟩, q⟩⟩
/-- x * n, x a str -/
theorem od_repS {i : Str} {n : Nat} (h0 : 0 < i.length) (hi : i.length ≤ 1000) (hn : n ≤ 1000) (hz : (repS i n).length ≤ sizeLine) (h : Ψ (.str (repS i n)) ω) : OD X (binaryOp .Mult) (.str i) (.int (n : Nat)) ω Ψ ε := od_of op_repS fun vx vy P H as Q w ax ay q => by
  cases ax
  cases ay
  exact ⟨i, n, rfl, rfl, h0, hi, hn, hz, q _ _ ω P H as w .refl (.str _) h⟩
theorem ints_at2 {K : Fg} {P : Hp} {as : List Addr} : ∀ {vs : List V} {ns : List Int}, AtL K P as vs (ns.map Dt.int) → vs = ns.map V.int
  | _, [], h => by cases h; rfl
  | _, n :: ns, h => by
    rw [List.map_cons] at h
    cases h with
    | cons a r => cases a; rw [ints_at2 r]; rfl
/-- sum([..]) -/
theorem cd_sum {d : Dt} {ns : List Int} (s : SqLst ω d (ns.map Dt.int)) (h : Ψ (.int ns.sum) ω) (ho : CallR X (.builtin "sum") (rSum X.K)) : CD X (.builtin "sum") [d] ω Ψ ε := cd_of ho fun vs P H as Q w al k => by
  obtain ⟨v, rfl, av⟩ := one_of al
  obtain ⟨a, us, rfl, hs, r⟩ := sqRL w s av
  rw [ints_at2 r] at hs
  exact ⟨a, ns, rfl, hs, k _ _ ω P H as w .refl (.int _) h⟩
end
end NM
namespace NM
open PySem PySem.Spec PyProof.Rows L2
theorem nm_callWith_MK {M : Model} {A : Around} {E : Value → Shared → Prop} {s : Shared} {K : PySem.W.Frag} {env : PySem.Env} {pos : Pos} {q g : Addr} {self : Value} {Q : Value → Shared → Prop} {kws : List Keyword} (hf : PySem.W.fnIn K g = true) (hall : (backToKw pos (keywordEach kws env)).all (·.1.isSome) = true)
    (h : wpAny M A (evalAll ((backToKw pos (keywordEach kws env)).map (·.2))) (fun ks s₂ => PySem.W.MethP K q g self s₂.heap ∧ wpAny M A (call (.ref q) ([] ++ []) (((backToKw pos (keywordEach kws env)).filterMap (·.1)).zip ks)) Q E s₂) E s)
    (hplain : ((backTo pos (starEach [] env)).any (·.1) || (backToKw pos (keywordEach kws env)).any (·.1.isNone)) = false := by rfl) :
    wpAny M A (callWith pos (.ref q) [] (backTo pos (starEach [] env)) (backToKw pos (keywordEach kws env))) Q E s :=
  PySem.W.callWith_of hplain (PySem.W.keeps_M hf) (evalArgs_kw2_nil hall h)
structure CmKG (P : Program) (w : World) (K : Fg) (mg : Str → Option Value) (base : Heap) (C : Addr) (m : Str) (k : Nat) (ks : List Str) (gD : List Dt → List Dt → List Dt) (sp : DSp) : Prop where
  ex : ∃ p g mc fd ps, ClX.CRead K C mc ∧ ClX.CMet K C mc m p g ∧ FnP P w K mg base k g fd ps sp ∧ KB K fd ps 1 ks gD
section
variable {X : Cx} {ρ : Rho} {ω : Om} {Ψ : PsiE} {ε : PsiX} {Φ : Post} {e f : Expr} {pos : Pos}
theorem run_codeDK {f : Addr} {fd : FuncData} {ps ks : List Str} {n k : Nat} {sp : Sp} {g : List Value → List Value → List Value} {gV : List V → List V → List V} {pins : List (Addr × Obj)} {σ : L2.St} {H : Hp} {s : Shared} {Q : VK} {us ws : List Value} {vs zs : List V} {W : WX} (F : FnG X.prog X.w X.K X.mg X.base k f fd ps sp) (hr : Rm k X.A) (hb : KBn X.K fd ps n ks g gV)
    (I : Inv X pins σ H s) (tk : Takes X W) (r : Vals vs us) (rz : Vals zs ws) (l1 : vs.length = n) (l2 : zs.length = ks.length) (h : sp (gV vs zs) H Q (fun cls dx H' => W cls dx σ H')) :
    codeAny (model X.prog X.w) X.A (.call (.ref f) ⟨us, ks.zip ws⟩) (fun r s' => match r with | .ok (.ret v) => EP X pins σ Q v s' | .ok _ => False | .error e => X.xe e s') s := by
  refine codeAny_mono (F.run X.A X.stack s H ⟨us, ks.zip ws⟩ (g us ws) (gV vs zs) Q _ hr I.env0 (hb.to s us ws I.kIn (r.length.symm.trans l1) (rz.length.symm.trans l2)) (hb.rel r rz) h) fun r s' hq => ?_
  cases r with
  | error e => exact tk _ _ (XE.of_call I (fun _ _ _ h => h) hq)
  | ok fl =>
    cases fl with
    | ret u => exact I.after hq
    | next => exact False.elim hq
    | brk => exact False.elim hq
    | cont => exact False.elim hq
theorem ev_cmethK {x m : Str} {p apos : Pos} {kws : List Keyword} {ks : List Str} {C : Addr} {k : Nat} {gD : List Dt → List Dt → List Dt} {sp : DSp} {pl : Sem Bool} (S : CmKG X.prog X.w X.K X.mg X.base C m k ks gD sp) (hm : X.mg x = some (.ref C)) (hr : Rm k X.A)
    (h : EK X ρ ω kws (fun zs ω1 => zs.length = ks.length ∧ sp (gD [.ref C] zs) ω1 Ψ ε) ε) (hg : Gl X x := by rfl) (hdb : (x == ("__debug__" : Str)) = false := by decide)
    (hall : (backToKw pos (keywordEach kws X.env)).all (·.1.isSome) = true := by rfl) (hks : (backToKw pos (keywordEach kws X.env)).filterMap (·.1) = ks := by rfl)
    (hpl : ((backTo pos (starEach [] X.env)).any (·.1) || (backToKw pos (keywordEach kws X.env)).any (·.1.isNone)) = false := by rfl)
    (ht : eval (.Call (.Attribute (.Name x p) m apos) [] kws pos) X.env = (do
      let ov ← eval (.Name x p) X.env
      standAt apos.atName
      let (f, first) ← holding [ov] (getMethod ov m pl)
      callWith pos f first (backTo pos (starEach [] X.env)) (backToKw pos (keywordEach kws X.env))) := by rfl) : EV X ρ ω (.Call (.Attribute (.Name x p) m apos) [] kws pos) Ψ ε := fun σ P H as Q w en xk q => by
  obtain ⟨pa, g, mc, fd, ps, rd, cm, F, hb⟩ := S.ex
  obtain ⟨g1, gV, hb1, hb2⟩ := hb.ex
  have z : sK X kws σ H (fun zs H1 => zs.length = ks.length ∧ ∃ W, Takes X W ∧ lift X.K sp (gV [.ref C] zs) H1 Q (fun cls dx H' => W cls dx σ H')) := h σ P H as _ w en xk fun zs ds ω1 P1 H1 as1 w1 g1 a1 p =>
    ⟨by rw [a1.length]; exact p.1, lift_of w1 (hb2 (.cons (.ref C) .nil) a1) (xk.later g1) p.2 fun v d ω' P' H' as' w' g' a' k => q v d ω' P' H' as' w' (g1.trans g') a' k⟩
  have zn : sE X (.Name x p) σ H (fun v H1 => v = .ref C ∧ H1 = H) := by
    refine sE_of (pe_glob (v := V.ref C) hg hm rfl hdb) ?_
    exact ⟨rfl, rfl⟩
  refine .mk fun pins s I => PySem.W.methodCall_KW (pl := pl) (thn (zn.run pins s I) fun u s1 ⟨v, H1, I1, rx, ex, eh⟩ => ?_) ht
  subst ex eh
  obtain rfl : u = Value.ref C := rx
  refine ClX.getmethcm_ok I1 rd cm fun s2 I2 => ?_
  refine nm_callWith_MK (K := X.K) (self := .ref C) cm.fi hall (thn (z.run pos _ s2 I2) fun us s3 ⟨zs, H2, I3, rv, l1, W, tk, q2⟩ => ⟨⟨ClX.pin_at I3, I3.kIn⟩, ?_⟩) hpl
  rw [hks]
  have zz : wpAny (model X.prog X.w) X.A (call (.ref s1.heap.objs.size) [] (ks.zip us)) (EP X ((s1.heap.objs.size, PySem.W.methodObj (.ref g) (.ref C)) :: pins) σ Q) X.xe s3 :=
    wpAny_call (PySem.W.method_call (ClX.pin_at I3) (run_codeDK (us := [.ref C]) (vs := [.ref C]) F.ok hr hb1 I3 tk (.cons rfl .nil) rv rfl l1 q2))
  exact thn zz fun _ _ y => ClX.unpinE y
end
end NM
namespace NM
open PySem L2 PySem.Spec PyProof.Rows
abbrev ieTail : List PySem.Value := [PySem.Value.type "IndexError", PySem.Value.type "LookupError", PySem.Value.type "Exception", PySem.Value.type "BaseException", PySem.Value.type "object"]
structure OexI (K : Fg) (C : Addr) : Prop where
  cls : ∃ nm q N bs bm sn sub ab col dd k0 k1 k2 k3 k5, K.lookup C = some (excClassObj nm q C N bs bm true sn sub ab col dd k0 k1 k2 k3 k5 "IndexError.__new__") ∧ bm = ieTail
  sa : PySem.W.findIn K (.ref C) "__setattr__" = some (some (.builtin "object.__setattr__"))
  exC : PySem.W.subIn K (.ref C) (.type "BaseException") = some true
  tyC : PySem.W.typeIn K (.ref C) = some (.type "type")
  kC : PySem.W.keepIn K (.ref C) = true
theorem refuse_ie (self : Value) {C : Addr} : refuseLoop self "__setattr__" (.ref C :: ieTail) = pure () := by
  rw [refuseLoop_ref]; exact PySem.F.store_IndexError.passes self
open PySem.Builtin PySem.Builtin.ObjectAttr in
/-- the first attribute of an own error -/
theorem nm_osa {prog : Program} {w : World} {A : Around} {R : Result → Shared → Prop} {hp : Heap} {g : Array GenState} {d : Drawn} {t : Nat} {os : OsState} {K : PySem.W.Frag} {name : Str} {tk : Tok} {v : Value} {x C : Addr} {fv : Array Value} {cd : ClassData}
    (X : K.In hp) (hx : hp.get? x = some { cls := .ref C, data := .fields fv }) (hcd : PySem.W.clsIn K C = some cd) (hpass : refuseLoop (.ref x) "__setattr__" cd.mro = pure ()) (hob : cd.mro.contains (.type "object") = true) (ne : cd.mro.isEmpty = false) (hh : cd.hasDict = true) (ha : PySem.W.findIn K (.ref C) name = some none)
    (hq : ∀ h' tk' dx, (∀ b o, b ≠ x → hp.get? b = some o → h'.get? b = some o) → hp.objs.size ≤ dx → dx ≠ x → h'.get? x = some { cls := .ref C, dict := some dx, data := .fields fv } →
      h'.Ns1 dx (fun y => if y = name then some v else none) → R (.ok (.ret .none)) ⟨h', g, d, tk', os⟩) :
    codeAny (model prog w) A (.call (.builtin "object.__setattr__") ⟨[.ref x, .str name tk, v], []⟩) R ⟨hp, g, d, t, os⟩ := by
  have at0 : PySem.W.InstAt hp x { cls := .ref C, data := .fields fv } C none := ⟨hx, rfl, rfl, trivial⟩
  have so := PySem.F.store_object
  have far : x ≠ hp.objs.size := Nat.ne_of_lt (Heap.lt_size hx)
  have isobj : PySem.W.Looks (model prog w) hp (isInstance (.ref x) (.type "object")) true :=
    at0.type.andThen (PySem.W.looks_mroIn X (by unfold PySem.W.mroIn; rw [hcd, Option.bind_some, if_neg (by rw [ne]; decide), hob]))
  have lcd : PySem.W.Looks (model prog w) hp (classData C) cd := PySem.W.looks_clsIn X hcd
  have lmro : PySem.W.Looks (model prog w) hp (mroOf (.ref C)) cd.mro := lcd.andThen .now
  have ltk : PySem.W.Looks (model prog w) hp (storeTaker? none) none := .now
  refine codeAny_call_builtin so.slot.plain so.entry (@PySem.W.check_slot (model prog w) _ _ ⟨hp, g, d, t, os⟩ "object.__setattr__" "object" "__setattr__" (.ref x) [.str name tk, v] [] _ so.kind so.split isobj (so.args (.ref x) (.str name tk) v) ?_)
  rw [PySem.W.osa_eq, refuse_eq]
  refine wpAny_bind (wpAny_bind (at0.type.at (wpAny_bind (lmro.at ?_))))
  rw [hpass]
  refine wpAny_pure (wpAny_bind (at0.type.at (wpAny_bind ((PySem.W.looks_findIn X ha).at (wpAny_bind (ltk.at ?_))))))
  show wpAny _ _ (storeInOwnDict (.ref x) (.ref C) (.str name tk) name v false) _ _ _
  cases cd
  dsimp only at hh
  subst hh
  unfold storeInOwnDict ownDictForStores
  repeat (first | with_reducible refine PySem.HandSPX.store_in_new ?_ ?_ | with_reducible refine wpAny_loadPart_at hx ?_ | with_reducible refine lcd.at ?_ | wp_step)
  · exact ⟨_, #[], _, (Heap.get?_update_ne _ _ _ _ far.symm).trans (Heap.get?_push_at rfl rfl), rfl, fun e he => absurd he (by simp), fun _ => rfl⟩
  · intro h' tk' hn' hs
    have up : (hp.push { cls := .type "dict", data := .dict #[] }).get? x = some { cls := .ref C, data := .fields fv } := Heap.get?_push_of_some _ hx
    exact hq h' tk' hp.objs.size (fun b o hb ho => (hs.2 b (Nat.ne_of_lt (Heap.lt_size ho))).trans ((Heap.get?_update_ne _ _ _ _ hb).trans (Heap.get?_push_of_some _ ho))) (Nat.le_refl _) far.symm ((hs.2 x far).trans (Heap.get?_update_self _ up rfl)) hn'
/-- what the written part says of the class at C, its __init__ at f -/
structure ErKI (P : Program) (K : Fg) (st : Stmt) (qual fld : Str) (C f : Addr) (fd : FuncData) : Prop where
  oex : OexI K C
  fn : ∃ oc od dV kV doc pm an cda ct cc osl, fd = PySem.W.ksFn "__init__" qual (defArgs st) (defBody st) (defScope st) dV kV doc pm an (.ref cda) ct cc ∧ K.lookup f = some ⟨oc, od, .func fd, osl⟩ ∧ PySem.W.codeIn K (.ref cda) qual = true ∧
    (∃ ccl cdd vs ccs file tf, K.lookup cda = some ⟨ccl, cdd, .fields vs, ccs⟩ ∧ vs[2]? = some (.str file tf) ∧ ((P.main.file : Str) == file) = true) ∧ ∃ cl cld csl, K.lookup cc = some ⟨cl, cld, .cell (some (.ref C)), csl⟩
  init : PySem.W.findIn K (.ref C) "__init__" = some (some (.ref f))
  ty : PySem.W.typeIn K (.ref f) = some (.type "function")
  sup : PySem.W.ks_superIn K C C "__init__" = some (some (.builtin "IndexError.__init__"))
  sub : PySem.W.subIn K (.ref C) (.type "IndexError") = some true
  mro : PySem.W.mroIn K C (.ref C) = some true
  opq : PySem.W.nsIn K cStatics "thirdparty.any" = some none
  fno : PySem.W.findIn K (.ref C) fld = some none
theorem er_fnI {P : Program} {w : World} {K : Fg} {mg : Str → Option Value} {base : Heap} {CX : CXT} {st : Stmt} {qual fld : Str} {C f : Addr} {fd : FuncData} (T : ErKI P K st qual fld C f fd) (B : ErBody st fld) (S : ErSc st fld) (g0 : mg "super" = none) (ht : (P.main.scope.names.lookup ("super" : Str)).isSome = false) :
    FnOk P w K mg base CX 1 f fd ["self", fld] (spEr C fld) := by
  refine ⟨fun vs H Q E h => ?_, fun A outer s H args us vs Q E hr e0 hb r hsp => ?_⟩
  · obtain ⟨a, y, rfl, _⟩ := h; rfl
  obtain ⟨a, y, rfl, ha, hq⟩ := hsp
  obtain ⟨u0, u, rfl, r0, ry⟩ : ∃ u0 u, us = [u0, u] ∧ RelV (.ref a) u0 ∧ RelV y u := by
    cases r with
    | cons h1 r => cases r with
      | cons h2 r => cases r; exact ⟨_, _, rfl, h1, h2⟩
  cases r0
  obtain ⟨oc, od, dV, kV, doc, pm, an, cda, ct, cc, osl, rfl, lk, hcd, ⟨ccl, cdd, vs0, ccs, file, tf, hco, hvs, hfile⟩, cl, cld, csl, hcl⟩ := T.fn
  obtain ⟨nm, q, N, bs, bm, sn, sub, ab, col, dd, k0, k1, k2, k3, k5, hC, hbm⟩ := T.oex.cls
  obtain ⟨p0, p1, p2, p3, p4, p5, p6, p7, p8, p9, j, txt, hbody, ⟨pl, hev⟩, hsw1, hsw2⟩ := B.ex
  obtain ⟨ar, hpar, har⟩ := S.par
  obtain ⟨hp, g, dr, t0, os⟩ := s
  have KX : K.In hp := e0.mod.kin.keeps fun b o e => (e0.bs b o e).1
  have lim : hp.NoLimit := e0.mod.nolimit.keeps fun b o e => (e0.bs b o e).1
  obtain ⟨mb, hmb, hbb⟩ := e0.mod.blt
  obtain ⟨t1, hoa⟩ := exo_at e0.hok ha
  have haC : a ≠ C := fun z => by
    have h1 := KX _ _ hC
    rw [← z, hoa] at h1
    cases h1
  refine PySem.ks_codeAny_call_defAt (fd := PySem.W.ksFn "__init__" qual (defArgs st) (defBody st) (defScope st) dV kV doc pm an (.ref cda) ct cc) (body := defBody st) (binds := [(("self" : Str), Value.ref a), (fld, u)]) hr.depth (KX _ _ lk) rfl lim (PySem.W.codeRec_of KX hcd) rfl hb S.cell (fun x hx => ?_) (fun h0 hns hk0 => ?_) S.co S.gen S.kind
  · rcases List.mem_cons.mp hx with rfl | hx
    · exact S.self
    · rw [List.mem_singleton.mp hx]; exact S.fl
  have X0 : K.In h0 := KX.keeps hk0
  have g1 : h0.Ns mainGlobals mg := e0.mod.glob.keeps fun b o e => hk0 b o (e0.bs b o e).1
  have b1 : h0.Ns builtinsNs mb := hmb.keeps fun b o e => hk0 b o (e0.bs b o e).1
  have hcl2 : PySem.W.clsIn K C = some { name := nm, bases := bs, mro := .ref C :: bm, ns := N, qualname := q, hasDict := true, slotNames := sn, subclasses := sub, abstract := ab, collection := col, hasDel := false } := by unfold PySem.W.clsIn; rw [hC] <;> rfl
  have hin : interactive (callEnv (PySem.W.ksFn "__init__" qual (defArgs st) (defBody st) (defScope st) dV kV doc pm an (.ref cda) ct cc) hp.objs.size f) = false := by
    unfold interactive
    rw [show (callEnv (PySem.W.ksFn "__init__" qual (defArgs st) (defBody st) (defScope st) dV kV doc pm an (.ref cda) ct cc) hp.objs.size f).scope.kind = .function from S.kind]; rfl
  generalize henv : callEnv (PySem.W.ksFn "__init__" qual (defArgs st) (defBody st) (defScope st) dV kV doc pm an (.ref cda) ct cc) hp.objs.size f = env at hin ⊢
  have es : env.scope = defScope st := by subst henv; rfl
  have ek : ∀ x, env.kindOf x = (defScope st).names.lookup x := fun x => by subst henv; rfl
  have eg : env.globals = mainGlobals := by subst henv; rfl
  have eb : env.builtins = builtinsNs := by subst henv; rfl
  have ef : env.func = some f := by subst henv; rfl
  have ec : env.code = .ref cda := by subst henv; rfl
  have el : env.locals = hp.objs.size := by subst henv; rfl
  have ecl : env.cells.lookup ("__class__" : Str) = some cc := by subst henv; rfl
  rw [hbody]
  refine PySem.ks_wpAt_execs_cons (PySem.ks_wpAt_Expr_any (PySem.ks_wpAt_MethodCall (pl := pl) ?_ (hev env)) hin (hsw1 env))
  refine PySem.ks_wpAt_super_base ((ek _).trans S.sup) ((ek _).trans S.cls) (by decide) ef (X0 _ _ lk) rfl hpar ec (X0 _ _ hco) rfl hvs hfile ht ?_
  refine PySem.W.ks_loadName_global (by rw [es]; exact S.kind) ((ek _).trans S.sup) (PySem.Calls.loadGlobal_builtin (by rw [eg]; exact g1) g0 (by rw [eb]; exact b1) ((hbb _ (by decide)).trans PyProof.Rows.Boot.«super») ⟨rfl, ?_⟩)
  have vS : ([(("self" : Str), Value.ref a), (fld, u)].reverse).lookup ("self" : Str) = some (.ref a) := by
    show List.lookup ("self" : Str) [(fld, u), (("self" : Str), Value.ref a)] = _
    have hb : (("self" : Str) == fld) = false := beq_eq_false_iff_ne.mpr fun z => S.ne z.symm
    rw [List.lookup_cons, hb]; rfl
  have vF : ([(("self" : Str), Value.ref a), (fld, u)].reverse).lookup fld = some u := by
    show List.lookup fld [(fld, u), (("self" : Str), Value.ref a)] = _
    rw [List.lookup_cons, beq_self_eq_true]
  have kf : env.scope.kind = .function := by rw [es]; exact S.kind
  have hns1 : h0.Ns env.locals (fun x => ([(("self" : Str), Value.ref a), (fld, u)].reverse).lookup x) := by rw [el]; exact hns
  refine wpAny_loadName_free kf ((ek _).trans S.cls) ecl ⟨_, X0 _ _ hcl, rfl⟩ ?_
  rw [har]
  refine wpAny_loadName_local kf ((ek _).trans S.self) hns1 vS ?_
  refine PySem.ks_wpAny_isType_cls (X0 _ _ hC) rfl ⟨rfl, ?_⟩
  refine PySem.ks_wpAny_call_super (X0 _ _ hC) rfl (hk0 _ _ hoa) rfl (fun c z => by cases z) (PySem.W.looks_mroIn X0 T.mro) (fun h1 e1 k1 => ?_)
  have X1 : K.In h1 := X0.keeps k1
  have oa1 := k1 _ _ (hk0 _ _ hoa)
  have along : PySem.W.alongIn K "__init__" ((((Value.ref C) :: bm).dropWhile (· != .ref C)).drop 1) = some (some (.builtin "IndexError.__init__")) := by
    have z := T.sup
    unfold PySem.W.ks_superIn at z
    rw [hcl2] at z
    exact z
  have isa : PySem.W.Looks (model P w) h1 (isInstance (.ref a) (.type "IndexError")) true := (PySem.W.InstAt.type (x := a) (C := C) (od := none) ⟨oa1, rfl, rfl, trivial⟩).andThen (PySem.W.looks_subIn X1 T.sub)
  refine PySem.W.kxs_getMethod PySem.W.kxs_IndexError e1 (PySem.W.looks_opaque X1 T.opq) (l₀ := .ref C :: bm) (fun A Q E s k q => wpAny_bind ((PySem.W.looks_clsIn X1 hcl2) A _ E s k (wpAny_pure q))) rfl X1 along isa haC (by decide) ?_
  refine PySem.W.kxs_callWith (i := "IndexError.__init__") (x := a) rfl (PySem.Calls.evalArgs_plain (PySem.Calls.spliced_cons (PySem.Calls.Constant_str (k := j) (pos := p3) (PySem.Calls.spliced_nil ⟨?_, ?_⟩))))
  · show (h1.push _).get? h1.objs.size = some _
    exact Heap.get?_push_size _ rfl
  have k2 : ∀ b o, h1.get? b = some o → (h1.push (PySem.W.kxs_mw "IndexError.__init__" a)).get? b = some o := fun b o e => Heap.get?_push_of_some _ e
  have oa2 := k2 _ _ oa1
  have mw2 : (h1.push (PySem.W.kxs_mw "IndexError.__init__" a)).get? h1.objs.size = some (PySem.W.kxs_mw "IndexError.__init__" a) := Heap.get?_push_size _ rfl
  have X2 : K.In (h1.push (PySem.W.kxs_mw "IndexError.__init__" a)) := X1.keeps k2
  have ns2 : (h1.push (PySem.W.kxs_mw "IndexError.__init__" a)).Ns env.locals (fun x => ([(("self" : Str), Value.ref a), (fld, u)].reverse).lookup x) := hns1.keeps fun b o e => k2 b o (k1 b o e)
  have kk2 : ∀ b o, hp.get? b = some o → (h1.push (PySem.W.kxs_mw "IndexError.__init__" a)).get? b = some o := fun b o e => k2 b o (k1 b o (hk0 b o e))
  generalize h1.push (PySem.W.kxs_mw "IndexError.__init__" a) = h2 at oa2 mw2 X2 ns2 kk2 ⊢
  refine wpAny_call (codeAny_of_tree ?_)
  show wpAny (model P w) _ (callAny (Value.ref h1.objs.size) _) _ _ _
  unfold callAny
  refine wpAny_bind (wpAny_load mw2 ?_)
  have fb := PySem.F.excBase_IndexError
  dsimp only [PySem.W.kxs_mw]
  rw [if_pos (show (Value.type "method-wrapper" == Value.type "method" || Value.type "method-wrapper" == Value.type "builtin_function_or_method" || Value.type "method-wrapper" == Value.type "method-wrapper") = true by decide)]
  refine PySem.W.KFB.if_so (show (Value.type "method-wrapper" != Value.type "method") = true by decide) ?_
  refine wpAny_bind (PySem.W.check_bound_init fb.toExcCallFacts (X2 _ _ hC) oa2 rfl ?_)
  refine wpAny_bind (wpAny_pure (wpAny_pure ⟨plainId_quiet fb.init.plain _, codeAny_builtin fb.initEntry ?_⟩))
  refine PySem.W.exc_init_tree (cls := .ref C) (t0 := t1) (dv := none) (c2 := .none) (c3 := .none) (b4 := .bool false) oa2 (show 1 ≤ sizeLine by decide) fun h3 k3 oa3 ot3 => ?_
  have nK : ∀ b o, K.lookup b = some o → b ≠ a := fun b o e z => by
    have q1 := (e0.bs b o (e0.mod.kin b o e)).2
    rw [z, ha] at q1
    cases q1
  have aL : env.locals ≠ a := by rw [el]; exact Nat.ne_of_gt (Heap.lt_size hoa)
  have X3 : K.In h3 := fun b o e => k3 b o (nK b o e) (X2 b o e)
  have ns3 : h3.Ns env.locals (fun x => ([(("self" : Str), Value.ref a), (fld, u)].reverse).lookup x) := by
    obtain ⟨o, es, ep, z1, z2⟩ := ns2
    exact ⟨o, es, ep, k3 _ _ aL z1, z2⟩
  show PySem.wpAt (model P w) _ _ (execs [_] env) _ _ _
  refine PySem.ks_wpAt_execs_cons (PySem.ks_wpAt_Assign_Attr (PySem.wpAt_of_wpAny (wpAny_Name (wpAny_loadName_local kf ((ek _).trans S.fl) ns3 vF (wpAny_Name (wpAny_loadName_local kf ((ek _).trans S.self) ns3 vS ?_) (by decide))) S.nd)) (hsw2 env))
  refine PySem.W.set_plain X3 (ox := { cls := .ref C, dict := none, data := .fields #[.ref h2.objs.size, .none, .none, .none, .bool false, .none] }) (od := none) ⟨oa3, rfl, rfl, trivial⟩ T.oex.sa ?_
  refine nm_osa X3 oa3 hcl2 (by rw [hbm]; exact refuse_ie (.ref a)) (by rw [hbm]; rfl) (by rw [hbm]; rfl) rfl T.fno (fun h4 tk4 dx k4 dn dne oa4 nd4 => ?_)
  refine PySem.wpAt_of_wpAny (wpAny_execs_nil ?_)
  have kk : ∀ b o, b ≠ a → hp.get? b = some o → h4.get? b = some o := fun b o z e => k4 b o z (k3 b o z (kk2 b o e))
  have dx0 : hp.get? dx = none := by
    cases z : hp.get? dx with
    | none => rfl
    | some o => exact absurd (Heap.lt_size (k3 dx o dne (kk2 dx o z))) (Nat.not_lt.mpr dn)
  have Hdx : H dx = none := e0.hok.gone dx0
  have nea : ∀ {b : Addr}, H b = none → b ≠ a := fun {b} n z => by rw [z, ha] at n; cases n
  have ned : ∀ {b : Addr} {o : Obj}, hp.get? b = some o → b ≠ dx := fun {b o} e z => by rw [z, dx0] at e; cases e
  have neH : ∀ {b : Addr} {o : HO}, H b = some o → b ≠ dx := fun {b o} e z => by rw [z, Hdx] at e; cases e
  have at2 : ∀ {b : Addr}, b ≠ a → b ≠ dx → upd (upd H dx (exd dx [(fld, y)])) a (exo a C (some dx)) b = H b := fun {b} z1 z2 => by rw [upd_ne z1, upd_ne z2]
  refine ⟨.non, upd (upd H dx (exd dx [(fld, y)])) a (exo a C (some dx)), rfl, e0.bare, ⟨fun b o e n _ _ => kk b o (nea n) e, fun b o e n _ _ => ⟨o.slots, kk b o (nea n) e⟩, fun b o e n _ => (at2 (nea n) (ned e)).trans n, fun b o e _ => ?_, fun b xs e => (at2 (at_ne ha e exo_tup) (neH e)).trans e, fun b o v e => (at2 (at_ne ha e exo_frz) (neH e)).trans e, fun b ps e => ⟨#[], by rw [at2 (at_ne ha e exo_tbl) (neH e), e, Array.append_empty]⟩⟩, fun b o e => ?_, rfl, hq dx Hdx dne⟩
  · by_cases z : b = a
    · exact ⟨_, by rw [z]; exact oa4⟩
    · exact ⟨o, kk b o z e⟩
  · by_cases z : b = a
    · subst z
      rw [upd_same] at e
      cases e
      exact exo_ok oa4
    · by_cases z2 : b = dx
      · subst z2
        rw [upd_ne z, upd_same] at e
        cases e
        exact exd_ok nd4 (relO_put (fs := []) ry fun _ => trivial)
      · rw [at2 z z2] at e
        refine (e0.hok b o e).stay (fun c v hc e2 => kk c v ?_ e2) (fun c hc => (at2 (at_ne ha hc exo_own) (neH hc)).trans hc) (fun c xs hc => (at2 (at_ne ha hc exo_tup) (neH hc)).trans hc)
        rcases hc with hc | hc
        · rw [hc]; exact z
        · exact at_ne ha hc exo_own
/-- C(e, ..), an own error over IndexError is made -/
theorem pmk_oexI {X : Cx} {CX : CXT} {x : Str} {C fI : Addr} {k : Nat} {fd : FuncData} {ps : List Str} {sp : Sp} {ds : List Value} {dvs : List V} {e : Expr} {es : List Expr} {p pos : Pos} {ta : TA} (T : OexI X.K C) (iC : PySem.W.findIn X.K (.ref C) "__init__" = some (some (.ref fI))) (tI : PySem.W.typeIn X.K (.ref fI) = some (.type "function"))
    (F1 : FnOk X.prog X.w X.K X.mg X.base CX k fI fd ps sp) (hr : Room (k + 1) X.A) (hb : Binds X.K fd ps ds) (hd : Vals dvs ds) (hx : Passes CX X (fun _ _ _ => False)) (hg : Gl X x) (hm : X.mg x = some (.ref C)) (ha : PA X (e :: es) ta)
    (hdb : (x == ("__debug__" : Str)) = false := by decide) (he : starEach (e :: es) X.env = (false, eval e X.env) :: starEach es X.env := by rfl) (hpl : (backTo pos (starEach es X.env)).any (·.1) = false := by rfl) :
    PMk X (.Call (.Name x p) (e :: es) [] pos) (tMkO C sp dvs ta) := fun pins s σ H Q I h => by
  obtain ⟨nm, q, N, bs, bm, sn, sub, ab, col, dd, k0, k1, k2, k3, k5, hC, hbm⟩ := T.cls
  refine wpAny_Call_Name_kw (ld_glob I hg hm (PySem.W.callWith_K (h₀ := X.base) I.ok.mod.kin T.kC (thn (ha.run pos pins s σ H _ I h) fun us s1 ⟨vs, H1, I1, r1, hz, q1⟩ => ⟨I1.kIn, ?_⟩) he hpl) hdb)
  show wpAny _ _ (call (.ref C) us) _ _ _
  obtain ⟨hp, g, dr, tk, os⟩ := s1
  have up : hp.objs.size ≤ hp.objs.size + 1 := Nat.le_succ _
  have hq := q1 (hp.objs.size + 1) (I1.hok.fresh up)
  generalize hh2 : (hp.push (PySem.W.kdv_tup us)).push (PySem.HandSPX.excO C hp.objs.size) = hp2
  have stay : ∀ b o, hp.get? b = some o → hp2.get? b = some o := fun b o e => by rw [← hh2]; exact Heap.get?_push_of_some _ (Heap.get?_push_of_some _ e)
  have there : hp2.get? (hp.objs.size + 1) = some (PySem.HandSPX.excO C hp.objs.size) := by rw [← hh2]; heap_get
  have I2 : Inv X pins σ (upd H1 (hp.objs.size + 1) (exo (hp.objs.size + 1) C none)) ⟨hp2, g, dr, tk, os⟩ :=
    I1.laid (t' := tk) (a := hp.objs.size + 1) (o := exo (hp.objs.size + 1) C none) (h' := hp2) stay up (exo_ok there)
  have r2 : Vals (V.ref (hp.objs.size + 1) :: (vs ++ dvs)) (Value.ref (hp.objs.size + 1) :: (us ++ ds)) := .cons rfl (r1.append hd)
  have hl : (Value.ref (hp.objs.size + 1) :: us ++ ds).length = ps.length := by
    have e := r2.length
    rw [F1.len _ _ _ _ hq] at e
    exact e.symm
  have body := F1.run (A := (X.A.under (Code.builtin "type.__call__" { pos := Value.ref C :: us }))) X.stack _ _ ⟨Value.ref (hp.objs.size + 1) :: us, []⟩ (Value.ref (hp.objs.size + 1) :: (us ++ ds)) _ _ (fun _ _ _ => False) (hr.make C us []) (I2.env0.make C us []) (hb _ (Value.ref (hp.objs.size + 1) :: us) I2.kIn hl) r2 hq
  refine wpAny_call (PySem.HandSPX.call_own PySem.F.excBase_IndexError (fun Y => by rw [hbm]) (I1.kIn _ _ hC) (PySem.W.looks_findIn I1.kIn iC) (fun self => PySem.W.bind_fn I1.kIn self tI) (by rw [← Paired.length r1, sizeLine_eq]; omega) ?_)
  rw [hh2]
  refine codeAny_mono body fun r s' hq' => ?_
  cases r with
  | error er => exact hx pins σ _ _ er s' I2 hq'
  | ok fl =>
    cases fl with
    | next => exact False.elim hq'
    | brk => exact False.elim hq'
    | cont => exact False.elim hq'
    | ret u =>
      obtain ⟨v, H2, os2, bare2, un2, hok2, rv, ev, d, fs, ea, ed, hd1, q2⟩ := hq'
      obtain ⟨h2, g2, d2, t2, os'⟩ := s'
      subst ev
      exact ⟨rv, mk_end (raises_own T.exC T.tyC) I1 up stay un2 hok2 os2 bare2 ea ed hd1 q2⟩
/-- an own error that can be made: its class at C, its field fld -/
structure ErGI (P : Program) (w : World) (K : Fg) (mg : Str → Option Value) (base : Heap) (x : Str) (C : Addr) (fld : Str) : Prop where
  ex : ∃ f fd, OexI K C ∧ PySem.W.findIn K (.ref C) "__init__" = some (some (.ref f)) ∧ PySem.W.typeIn K (.ref f) = some (.type "function") ∧ FnOk P w K mg base (fun _ _ _ _ _ _ => False) 1 f fd ["self", fld] (spEr C fld) ∧ Binds K fd ["self", fld] [] ∧ mg x = some (.ref C)
section
variable {X : Cx} {ρ : Rho} {ω : Om} {Ψ : PsiE} {ε : PsiX} {Φ : Post} {e : Expr} {pos : Pos}
theorem es_raiseI {x fld : Str} {C : Addr} {p pos2 : Pos} (ok : Cok X) (G : ErGI X.prog X.w X.K X.mg X.base x C fld) (hr : Rm 2 X.A) (h : EV X ρ ω e (fun d ω1 => Φ.xc ⟨.ref C, some [(fld, d)]⟩ ρ ω1) (fun y ω' => Φ.xc y ρ ω'))
    (hg : Gl X x := by rfl) (hdb : (x == ("__debug__" : Str)) = false := by decide) (he : starEach [e] X.env = (false, eval e X.env) :: starEach [] X.env := by rfl) (hpl : (backTo pos (starEach [] X.env)).any (·.1) = false := by rfl) :
    ES X ρ ω (.Raise (some (.Call (.Name x p) [e] [] pos)) none pos2) Φ := fun σ P H as D w en z => by
  obtain ⟨f, fd, T, iC, tI, F, hb, hm⟩ := G.ex
  obtain ⟨W, tk, hW⟩ := z.xc
  refine sS_of (ps_raise ok.calm tk (pmk_oexI T iC tI F hr.r hb .nil (fun _ _ _ _ _ _ _ q => q.elim) hg hm pA hdb he hpl)) ?_
  refine (ea_cons (Ψ := fun ds ω1 => ∃ d, ds = [d] ∧ Φ.xc ⟨.ref C, some [(fld, d)]⟩ ρ ω1) (h.imp fun d ω1 q => ea_nil ⟨d, rfl, q⟩) he) σ P H as _ w en (z.xk en) fun vs ds ω1 P1 H1 as1 w1 g1 al q => ?_
  obtain ⟨d, rfl, q⟩ := q
  obtain ⟨v, rfl, av⟩ := one_of al
  refine ⟨show 1 ≤ 1000 by decide, fun a ha => ⟨a, v, rfl, upd_same, fun dx hdx hne => ⟨rfl, dx, [(fld, v)], upd_same, by rw [upd_ne hne, upd_same], ?_, ?_⟩⟩⟩
  · rw [upd_ne hne] at hdx; exact hdx
  have hd1 : H1 dx = none := by rw [upd_ne hne] at hdx; exact hdx
  have eH : upd (del (upd (upd (upd H1 a (exo a C none)) dx (exd dx [(fld, v)])) a (exo a C (some dx))) a) dx (.xd [(fld, v)]) = upd H1 dx (.xd [(fld, v)]) := by
    funext b
    by_cases b1 : b = dx
    · rw [b1, upd_same, upd_same]
    · rw [upd_ne b1, upd_ne b1]
      by_cases b2 : b = a
      · rw [b2, del_same, ha]
      · rw [del_ne b2, upd_ne b2, upd_ne b1, upd_ne b2]
  rw [eH]
  obtain ⟨w2, g2⟩ := w1.newH (o := .xd [(fld, v)]) hd1
  obtain ⟨n1, n2⟩ := w1.fresh hd1
  have g12 := g1.trans g2
  refine hW _ _ ⟨.ref C, some [(fld, d)]⟩ σ ρ ω1 P1 _ as1 w2 g12 (en.mono g12.p g12.a) ⟨rfl, dx, [(fld, v)], rfl, upd_same, rfl, .cons av .nil, n1, n2, ?_⟩ q
  cases hz : H dx with
  | none => rfl
  | some o =>
    rw [g1.h dx o hz fun m => n1 (g1.a.subset m)] at hd1
    cases hd1
end
end NM
namespace NM
open PySem L2 PySem.Spec PyProof.Rows
section
open PySem.SeqAt MeetsSeq MeetsSeq2 MeetsSeq3 SeqRoads2 GQ
open AutoSeq1 (wpAny_loadPart')
variable {prog : Program} {w : World} {A : Around} {R : Result → Shared → Prop}
/-- at each turn both lists lie there, N items each, and the i-th items are found equal -/
def LikeAt (prog : Program) (w : World) (A : Around) (E : Value → Shared → Prop) (l b : Addr) (N : Nat) (J : Nat → Shared → Prop) : Prop :=
  ∀ i s, J i s → ∃ (xs ys : Array Value) (n m : Nat) (d1 d2 : Option Addr) (s1 s2 : Array (Option Value)), s.heap.get? l = some { cls := .type "list", dict := d1, data := .seq xs n, slots := s1 } ∧ s.heap.get? b = some { cls := .type "list", dict := d2, data := .seq ys m, slots := s2 } ∧ xs.size = N ∧ ys.size = N ∧
    ∀ (h1 : i < xs.size) (h2 : i < ys.size), wpAny (model prog w) A.in1 (eqBool xs[i] ys[i]) (fun r t => r = true ∧ J (i + 1) t) E s
theorem nm_ne_turn {l b : Addr} {N : Nat} {J : Nat → Shared → Prop} (like : LikeAt prog w A (fun e t => R (.error e) t) l b N J) (fin : ∀ s, J N s → R (.ok (.ret (.bool false))) s) :
    ∀ (k i : Nat), i + k = N → ∀ s, J i s → wpAny (model prog w) A.in1 (Builtin.«list.__eq__.loop» ⟨[.ref l, .ref b, rawInt i, rawInt 3], []⟩) (FinOf prog w A R) (fun e t => R (.error e) t) s
  | 0, i, hk, s, h => by
    obtain ⟨xs, ys, n, m, d1, d2, s1, s2, o1, o2, z1, z2, _⟩ := like _ _ h
    obtain rfl : i = N := by omega
    have last := fin s h
    obtain ⟨hp, g, dr, tk, os⟩ := s
    wp_walk using wpAny_loadPart' o1, wpAny_loadPart' o2
    rw [show xs[((i : Nat) : Int).toNat]? = none by simp; omega, show ys[((i : Nat) : Int).toNat]? = none by simp; omega]
    wp_walk using wpAny_loadPart' o1, wpAny_loadPart' o2
    show R (.ok (.ret (.bool (xs.size != ys.size)))) _
    rw [z1, z2]
    simpa using last
  | k + 1, i, hk, s, h => by
    obtain ⟨xs, ys, n, m, d1, d2, s1, s2, o1, o2, z1, z2, turn⟩ := like _ _ h
    have l1 : i < xs.size := by omega
    have l2 : i < ys.size := by omega
    have step := turn l1 l2
    obtain ⟨hp, g, dr, tk, os⟩ := s
    wp_walk using wpAny_loadPart' o1, wpAny_loadPart' o2
    rw [show xs[((i : Nat) : Int).toNat]? = some xs[i] by simp [l1], show ys[((i : Nat) : Int).toNat]? = some ys[i] by simp [l2]]
    refine wpAny_bind (wpAny_mono step (fun r t ⟨hr, ht⟩ => ?_) fun _ _ x => x)
    subst hr
    have more := nm_ne_turn like fin k (i + 1) (by omega) t ht
    obtain ⟨hp2, g2, dr2, tk2, os2⟩ := t
    wp_walk
    rw [show ((i : Int) + 1) = ((i + 1 : Nat) : Int) by omega]
    exact ⟨plainId_quiet plain_eq_loop _, codeAny_builtin entry_eq_loop (by rw [Around.under_plainId plain_eq_loop _]; exact more)⟩
theorem nm_ne_lists {E : Value → Shared → Prop} {s : Shared} {l b : Addr} {N : Nat} {Q : Value → Shared → Prop} (hu : A.units < cLine) (J : Nat → Shared → Prop) (like : LikeAt prog w A E l b N J) (fin : ∀ s, J N s → Q (.bool false) s) (h : J 0 s) : wpAny (model prog w) A (richCompare .NotEq (.ref l) (.ref b)) Q E s := by
  obtain ⟨xs, ys, n, m, d1, d2, s1, s2, o1, o2, z1, z2, _⟩ := like _ _ h
  refine wpAny_richCompare_same_room (op := .NotEq) ⟨_, o1, rfl⟩ ⟨_, o2, rfl⟩ F.slot_list_ne (call_here F.slot_list_ne ⟨_, o1, rfl⟩ F.entry_list_ne (F.args_list_ne_2 _ _) ?_) hu
  have run := nm_ne_turn (R := wants (fun v t => v ≠ .notImplemented ∧ Q v t) E) like (fun t q => ⟨(fun x => nomatch x), fin t q⟩) N 0 (by omega) s h
  have both := AutoSeq1.sub_list_list
  have same : ¬ (xs.size != ys.size) = true := by simp [z1, z2]
  obtain ⟨hp, g, dr, tk, os⟩ := s
  wp_walk using wpAny_loadPart' o1, wpAny_loadPart' o2
  exact ⟨plainId_quiet plain_eq_loop _, codeAny_builtin entry_eq_loop (by rw [Around.under_plainId plain_eq_loop _]; exact run)⟩
end
section
variable {X : Cx} {ω : Om} {Ψ : PsiE} {ε : PsiX}
theorem od_neLO {x y : Dt} {xs ys : List Dt} {C : Addr} {gD : List Dt → List Dt → List Dt} {sp : DSp} (S : SpD X C "__eq__" 2 gD sp) (hn : PySem.W.notFirst X.K C (.ref C) = true) (sx : SqLst ω x xs) (sy : SqLst ω y ys) (hl : xs.length = ys.length) (hp : ∀ (i : Nat) (x y : Dt), xs[i]? = some x → ys[i]? = some y → EqPair X ω ε C gD sp x y true)
    (h : Ψ (.bl false) ω) : OD X (compareOp .NotEq) x y ω Ψ ε := fun σ vx vy P H as Q w ax ay xk q => .mk fun pins s v u I rx ry => by
  obtain ⟨a, us, rfl, ha, ra⟩ := sqRL w sx ax
  obtain ⟨b, zs, rfl, hb, rb⟩ := sqRL w sy ay
  cases rx
  cases ry
  have hu : X.A.units < cLine := by
    obtain ⟨_, _, _, _, _, _, _, _, hr⟩ := S.ex
    exact hr.r.units0
  refine nm_ne_lists (A := X.A) (N := xs.length) hu (fun i t => ∃ P' H' as', Inv X pins σ H' t ∧ Ws X.K ω P' H' as' ∧ Gr P H as P' H' as') (fun i t hJ => ?_) (fun t hJ => ?_) ⟨P, H, as, I, w, .refl⟩
  · obtain ⟨P', H', as', I', w', g'⟩ := hJ
    obtain ⟨a2, us2, ea, ha2, ra2⟩ := sqRL w' sx (ax.mono g'.p g'.a)
    obtain ⟨b2, zs2, eb, hb2, rb2⟩ := sqRL w' sy (ay.mono g'.p g'.a)
    cases ea
    cases eb
    obtain ⟨its, r1, ⟨⟨k1, d1, da1, l1⟩, n1, g1, c1, e1, f1⟩, _⟩ := I'.list ha2
    obtain ⟨jts, r2, ⟨⟨k2, d2, da2, l2⟩, n2, g2, c2, e2, f2⟩, _⟩ := I'.list hb2
    simp only at c1 e1 f1 c2 e2 f2
    subst c1 e1 f1 c2 e2 f2
    have q1 : its.toArray.size = xs.length := by rw [List.size_toArray, ← r1.length, ra2.length]
    have q2 : jts.toArray.size = ys.length := by rw [List.size_toArray, ← r2.length, rb2.length]
    refine ⟨its.toArray, jts.toArray, n1, n2, _, _, _, _, g1, g2, q1, by rw [q2, hl], fun h1 h2 => ?_⟩
    rw [q1] at h1
    rw [q2] at h2
    obtain ⟨v1, ev1, av1⟩ := ra2.get (List.getElem?_eq_getElem h1)
    obtain ⟨v2, ev2, av2⟩ := rb2.get (List.getElem?_eq_getElem h2)
    obtain ⟨u1, eu1, ru1⟩ := r1.get ev1
    obtain ⟨u2, eu2, ru2⟩ := r2.get ev2
    have f1 : its.toArray[i] = u1 := by obtain ⟨hx, ex⟩ := List.getElem?_eq_some_iff.mp eu1; simpa using ex
    have f2 : jts.toArray[i] = u2 := by obtain ⟨hx, ex⟩ := List.getElem?_eq_some_iff.mp eu2; simpa using ex
    rw [f1, f2]
    exact eqB_own S hn (hp i _ _ (List.getElem?_eq_getElem h1) (List.getElem?_eq_getElem h2)) rfl I' w' (xk.later g') av1 av2 ru1 ru2 fun P2 H2 as2 t2 I2 w2 g2 => ⟨rfl, P2, H2, as2, I2, w2, g'.trans g2⟩
  · obtain ⟨P', H', as', I', w', g'⟩ := hJ
    exact ⟨.bl false, H', I', rfl, q _ _ ω P' H' as' w' g' (.bl _) h⟩
end
end NM
namespace NM
open PySem PySem.Spec PyProof.Rows L2 LamX
theorem lamO_new {P : Program} {w : World} {H : Hp} {h : Heap} {f : Addr} {ob : Obj} (e : h.get? f = some ob) : ObjOk P w H h f (LamO f ob) :=
  ⟨e, ⟨ob, e⟩, fun _ _ r st => st _ r⟩
section
variable {X : Cx} {ρ : Rho} {ω : Om} {Ψ : PsiE} {ε : PsiX} {Φ : Post} {e : Expr} {pos : Pos}
abbrev lamQ (X : Cx) : Str := X.env.qual ++ "<lambda>"
abbrev lamOb (X : Cx) (params : Arguments) (body : Expr) (scope : Scope) (c' : Addr) (pm ctv : Value) : Obj :=
  PySem.W.kla_obj "<lambda>" (lamQ X) params body scope (cloFrom X.env.cells scope.names []) pm c' ctv
/-- the function is made and tracked: its code stood in the table, or stands there now -/
theorem lam_new {pins : List (Addr × Obj)} {σ : L2.St} {H : Hp} {s : Shared} {c Pt : Addr} {params : Arguments} {body : Expr} {scope : Scope} {ps : Array Value} {Er Q : Value → Shared → Prop}
    (I : Inv X pins σ H s) (TB : TabB X.base X.mg c Pt) (hcode : X.env.code = .ref c) (hP : H Pt = some (.tbl ps)) (ht : TriplesOk ps.toList)
    (ha : ∀ (p : Pos) (cv : Value), codeAmong p ps.toList = some cv → ∃ c', cv = .ref c' ∧ H c' = some (CodeO c' (lamQ X)))
    (hdef : defaultsOf params X.env = ([], [])) (hfree : ∀ y ∈ scope.names, y.2 = .free → ∃ c, X.env.cells.lookup y.1 = some c)
    (h : ∀ (f c' : Addr) (pm ctv : Value) (H1 : Hp) (s' : Shared), Inv X pins σ (upd H1 f (LamO f (lamOb X params body scope c' pm ctv))) s' → H1 f = none →
      ((H1 = H ∧ H c' = some (CodeO c' (lamQ X)) ∧ codeAmong pos ps.toList = some (.ref c')) ∨ (H c' = none ∧ H1 = upd (upd H Pt (.tbl (ps ++ #[rawInt pos.line, rawInt pos.col, .ref c']))) c' (CodeO c' (lamQ X)))) → Q (.ref f) s') :
    wpAny (model X.prog X.w) X.A (eval (.Lambda params body scope pos) X.env) Q Er s := by
  refine PySem.W.kla_eval hdef ?_
  have bP := TB.bm.keeps I.bk
  have hP' : s.heap.get? Pt = some { cls := .none, data := .fields ps } := I.hok Pt _ hP
  cases hc : codeAmong pos ps.toList with
  | some cv =>
    obtain ⟨c', rfl, hco⟩ := ha pos cv hc
    refine PySem.W.kla_makeFunctionHit (c := c) (P := Pt) (ps := ps) (closure_ok hfree) I.ok.glob (I.mod.glob.keeps I.bk) hcode (TB.code.keeps I.bk) hP' ht hc bP fun ctv h' tk kx hsz => ?_
    have nF : H h'.objs.size = none := I.hok.fresh hsz
    refine h h'.objs.size c' _ ctv H _ (I.laid (t' := tk) (fun b u z => Heap.get?_push_of_some _ (kx b u z)) hsz (lamO_new (Heap.get?_push_size _ rfl))) nF (.inl ⟨rfl, hco, hc⟩)
  | none =>
    refine PySem.W.kla_makeFunction (c := c) (P := Pt) (ps := ps) (closure_ok hfree) I.ok.glob (I.mod.glob.keeps I.bk) hcode (TB.code.keeps I.bk) hP' ht hc TB.gP bP fun c' ctv h' tk kx hge hlt hrec htb => ?_
    obtain ⟨c2, oc, vs, t, e2, hoc, hd, hv⟩ := hrec
    cases e2
    have nC : H c' = none := I.hok.fresh hge
    have hsz : s.heap.objs.size ≤ h'.objs.size := Nat.le_trans hge (Nat.le_of_lt hlt)
    have J := inv_table (t' := tk) (q := lamQ X) (more := #[rawInt pos.line, rawInt pos.col, .ref c']) I hP kx htb hge ⟨oc, vs, t, hoc, hd, hv⟩
    have nF : upd (upd H Pt (.tbl (ps ++ #[rawInt pos.line, rawInt pos.col, .ref c']))) c' (CodeO c' (lamQ X)) h'.objs.size = none := J.hok.fresh (Nat.le_refl _)
    refine h h'.objs.size c' _ ctv _ _ (J.laid (t' := tk) (fun b u z => Heap.get?_push_of_some _ z) (Nat.le_refl _) (lamO_new (Heap.get?_push_size _ rfl))) nF (.inr ⟨nC, rfl⟩)
/-- the call of the lambda in the body of the def that got it -/
theorem lam_act {CXg : CXT} {Eg : XK} {Ng : List Str} {qg a : Str} {sg scope : Scope} {g f c' : Addr} {cdg pm ctv : Value} {params : Arguments} {body : Expr} {k i : Nat} {pn : List (Addr × Obj)} {xe : Value → Shared → Prop} {W : WX} {p1 p2 : Pos}
    {pins : List (Addr × Obj)} {σ σZ : L2.St} {H HZ : Hp} {s : Shared} {Q : VK}
    (I : Inv X pins σ H s) (L : LamS X.env.scope scope) (hbind : bindArgs (PySem.W.kla_fn "<lambda>" (lamQ X) params body scope (cloFrom X.env.cells scope.names []) pm (.ref c') ctv) ⟨[], []⟩ = pure [])
    (tk : Takes ((cxOf CXg X.prog X.w X.K X.mg X.base Ng qg sg g cdg X.A X.stack s H Eg).tr pn xe) W) (hr : Rm (k + 1) (X.A.deeper (envOfC qg sg s.heap.objs.size g cdg)))
    (hσ : σZ[i]? = some (some (.ref f))) (hc : HZ c' = some (CodeO c' (lamQ X))) (hf : HZ f = some (LamO f (lamOb X params body scope c' pm ctv)))
    (h : ∀ (A : Around) (outer : List PySem.Env) (s1 : Shared), Rm k (A.deeper (lamEnv X scope s1.heap.objs.size f c')) → sE (lamCx X A outer s1 HZ (fun cls dx H' => W cls dx σZ H') scope f c') body σ HZ Q)
    (hN : Ng[i]? = some a) (hv : Vis sg a) (hd : (a == ("__debug__" : Str)) = false) (hcd : (a == ("__classdict__" : Str)) = false) :
    sE ((cxOf CXg X.prog X.w X.K X.mg X.base Ng qg sg g cdg X.A X.stack s H Eg).tr pn xe) (.Call (.Name a p1) [] [] p2) σZ HZ Q := .mk fun pinsZ sZ IZ => by
  refine wpAny_Call_Name_kw (thn ((pe_var (pos := p1) (i := i) hN hv hd hcd).run pinsZ sZ σZ HZ (fun v H1 => v = .ref f ∧ H1 = HZ) IZ ⟨.ref f, hσ, rfl, rfl⟩) fun u s1 ⟨v, H1, I1, r1, ev, eH⟩ => ?_)
  subst ev
  subst eH
  obtain rfl : u = Value.ref f := r1
  have of1 : s1.heap.get? f = some (lamOb X params body scope c' pm ctv) := (I1.hok f _ hf).1
  refine PySem.W.callWith_F0 ⟨_, _, _, _, of1⟩ ?_
  obtain ⟨⟨oc, vs, t, hoc, hdc, hvc⟩, _, _⟩ := I1.hok c' _ hc
  refine wpAny_call (codeAny_mono (R := CR (L2.CX X.prog X.w) (envOfC qg sg s.heap.objs.size g cdg :: X.stack) X.prog X.w H1 s1 Q (fun cls dx H' => W cls dx σZ H')) ?_ fun r s' hq => ?_)
  · refine PySem.W.kla_callFunE hr.r.depth of1 rfl L.co L.gen rfl ⟨c', oc, vs, t, rfl, hoc, hdc, hvc⟩ ?_
    refine (show wpAny (model X.prog X.w) _ (bindArgs (PySem.W.kla_fn "<lambda>" (lamQ X) params body scope (cloFrom X.env.cells scope.names []) pm (.ref c') ctv) ⟨[], []⟩) _ _ _ from ?_)
    rw [hbind]
    refine wpAny_pure (wpAny_newFunctionEnv (fun y hy => (L.own y hy).2) (fun y hy => absurd hy (by simp)) (fun h₁ hns hsb => ⟨I1.nolimit.fresh _ hsb, ?_⟩) L.kind)
    show codeAny _ _ (.expr body (lamEnv X scope s1.heap.objs.size f c')) _ _
    have kp : ∀ b o, s1.heap.get? b = some o → h₁.get? b = some o := fun b o z => hsb.extBut b o (Nat.ne_of_lt (Heap.lt_size z)) (Heap.get?_push_of_some _ z)
    have J := lam_start2 (E := fun cls dx H' => W cls dx σZ H') (f := f) (c' := c') (tk := s1.toks + ([] : List (Str × Value)).length) I L I1.env0 hr.r.hd I1.base hns kp
    refine PySem.W.kla_codeExpr (wpAny_mono ((h _ _ s1 ⟨hr.r.deeper _, by first | exact hr.g | (simpa [Around.deeper] using hr.g)⟩).run [] _ J) (fun v s' hq => ?_) fun e s' hq => hq)
    obtain ⟨w', H', J', rv, q⟩ := hq
    exact ⟨w', H', J'.os, J'.bare, J'.base, J'.hok, rv, q⟩
  · cases r with
    | error e => exact tk _ _ (XE.of_call I1 (fun _ _ _ h => h) hq)
    | ok fl =>
      cases fl with
      | ret u => exact I1.after hq
      | next => exact False.elim hq
      | brk => exact False.elim hq
      | cont => exact False.elim hq
end
/-- what the call of a lambda comes to, from a state -/
abbrev LSp := Om → PsiE → PsiX → Prop
/-- in the def's body, within a try: its first name is called; n: the lambda's number, lw: the lambda -/
def CallsL (Z : Cx) (a : Str) (n : Nat) (lw : Ow) (ls : LSp) : Prop :=
  ∀ pn xe ρ ω Ψ ε p1 p2, ρ[0]? = some (some (.own n)) → ω[n]? = some lw → ls ω Ψ ε → EV (Z.tr pn xe) ρ ω (.Call (.Name a p1) [] [] p2) Ψ ε
/-- a def of one name, which calls what it gets -/
structure LamG (P : Program) (w : World) (K : Fg) (mg : Str → Option Value) (base : Heap) (x : Str) (k : Nat) (sp : Nat → Ow → LSp → Om → PsiE → Prop) : Prop where
  ex : ∃ (f : Addr) (oc : Value) (od : Option Addr) (params : Arguments) (bd : List Stmt) (scope : Scope) (dV kV doc pm cdv ct : Value) (an : Option Addr) (osl : Array (Option Value)) (N : List Str) (a : Str),
    mg x = some (.ref f) ∧ PySem.W.keepIn K (.ref f) = true ∧ K.lookup f = some ⟨oc, od, .func (PySem.W.fnOf x x params bd scope dV kV doc pm an cdv ct), osl⟩ ∧ PySem.W.codeIn K cdv x = true ∧ FnScope N [a] scope ∧ Binds K (PySem.W.fnOf x x params bd scope dV kV doc pm an cdv ct) [a] [] ∧
    N[0]? = some a ∧ Vis scope a ∧ (a == ("__debug__" : Str)) = false ∧ (a == ("__classdict__" : Str)) = false ∧
    ∀ (A : Around) (outer : List PySem.Env) (s : Shared) (H : Hp) (E : XK), Ctx P w K mg base k (cxOf (L2.CX P w) P w K mg base N x scope f cdv A outer s H E) → ∀ n lw ls ω Ψ, CallsL (cxOf (L2.CX P w) P w K mg base N x scope f cdv A outer s H E) a n lw ls → OmLt ω.length ω → ω[n]? = some lw → sp n lw ls ω Ψ →
      ESs (cxOf (L2.CX P w) P w K mg base N x scope f cdv A outer s H E) (startD N [.own n]) ω bd (fnPost ω.length Ψ F0)
section
variable {X : Cx} {ρ : Rho} {ω : Om} {Ψ : PsiE} {ε : PsiX} {Φ : Post} {e : Expr} {pos : Pos}
/-- x(lambda: body) -/
theorem ev_lam {x : Str} {c Pt : Addr} {it k : Nat} {params : Arguments} {body : Expr} {scope : Scope} {lpos p : Pos} {gsp : Nat → Ow → LSp → Om → PsiE → Prop} (G : LamG X.prog X.w X.K X.mg X.base x k gsp) (TB : TabB X.base X.mg c Pt) (hcode : X.env.code = .ref c) (ht : ω[it]? = some (.tbl Pt (lamQ X)))
    (hr : Rm (k + 1) X.A) (hk : ∃ j, k = j + 1) (L : LamS X.env.scope scope)
    (h : ∀ lw : Ow, lw.lt ω.length = true → gsp ω.length lw (fun ω' Ψ' ε' => ∀ (A : Around) (outer : List PySem.Env) (s : Shared) (H : Hp) (E : XK) (f c' : Addr), Rm (k - 1) (lamCx X A outer s H E scope f c').A → Cok (lamCx X A outer s H E scope f c') → EV (lamCx X A outer s H E scope f c') ρ ω' body Ψ' ε') (ω ++ [lw]) (Giv ω.length Ψ))
    (hdef : defaultsOf params X.env = ([], []) := by rfl) (hbind : ∀ (q : Str) (cl : List (Str × Addr)) (pm cv ctv : Value), bindArgs (PySem.W.kla_fn "<lambda>" q params body scope cl pm cv ctv) ⟨[], []⟩ = pure [] := by intros; rfl)
    (hnd : X.N.Nodup) (hg : Gl X x := by rfl) (hdb : (x == ("__debug__" : Str)) = false := by decide) : EV X ρ ω (.Call (.Name x p) [.Lambda params body scope lpos] [] pos) Ψ ε := fun σ P H as Q w en xk q => .mk fun pins s I => by
  obtain ⟨g, oc, od, pg, bd, sg, dV, kV, doc, pm0, cdv, ct, an, osl, N, a, hm, kp, lk, hcd, S, hb, hN, hv, hd1, hd2, hbody⟩ := G.ex
  obtain ⟨j, rfl⟩ := hk
  refine wpAny_Call_Name_kw (ld_glob I hg hm ?_ hdb)
  refine PySem.W.callWith_K (h₀ := X.base) I.ok.mod.kin kp ?_ (by rfl) (by rfl)
  show wpAny _ _ (spliced ((false, eval (.Lambda params body scope lpos) X.env) :: backTo pos (starEach [] X.env))) _ _ s
  have hl : it < as.length := by rw [w.len]; exact (List.getElem?_eq_some_iff.mp ht).1
  have hia := List.getElem?_eq_getElem hl
  obtain ⟨eP, nP, ps, hP, hT, hA⟩ := w.own it _ _ ht hia
  rw [eP] at nP hP hia
  refine Calls.spliced_cons (lam_new I TB hcode hP hT (fun p cv hc => let ⟨c', e1, e2⟩ := hA p cv hc; ⟨c', e1, w.sub _ _ e2⟩) hdef (L.has I.ok) fun f c' pm ctv H1 s' I2 nF alt => ?_)
  have stp : ∃ P1, Ws X.K ω P1 H1 as ∧ Gr P H as P1 H1 as ∧ P1 c' = some (CodeO c' (lamQ X)) := by
    rcases alt with ⟨rfl, _, hc⟩ | ⟨nC, rfl⟩
    · obtain ⟨c2, e1, e2⟩ := hA _ _ hc
      cases e1
      exact ⟨P, w, .refl, e2⟩
    · obtain ⟨w1, g1⟩ := w.newP (o := CodeO c' (lamQ X)) nC
      have neq : Pt ≠ c' := ne_of_none hP nC
      have eH : upd (upd H Pt (.tbl (ps ++ #[rawInt lpos.line, rawInt lpos.col, .ref c']))) c' (CodeO c' (lamQ X)) = upd (upd H c' (CodeO c' (lamQ X))) Pt (.tbl (ps ++ #[rawInt lpos.line, rawInt lpos.col, .ref c'])) := by
        funext b
        by_cases b1 : b = c'
        · rw [b1, upd_same, upd_ne (Ne.symm neq), upd_same]
        · rw [upd_ne b1]
          by_cases b2 : b = Pt
          · rw [b2, upd_same, upd_same]
          · rw [upd_ne b2, upd_ne b2, upd_ne b1]
      have eL : (ps ++ #[rawInt lpos.line, rawInt lpos.col, .ref c']).toList = ps.toList ++ [rawInt lpos.line, rawInt lpos.col, .ref c'] := by simp
      have nP1 : upd P c' (CodeO c' (lamQ X)) Pt = none := by rw [upd_ne neq]; exact nP
      obtain ⟨w2, g2⟩ := w1.turn (ho := .tbl (ps ++ #[rawInt lpos.line, rawInt lpos.col, .ref c'])) (u := .tbl Pt (lamQ X)) ht hia nP1 ⟨rfl, nP1, _, upd_same, by rw [eL]; exact PySem.TriplesOk_snoc _ _ _ _ hT, fun p cv hc => by
        rw [eL] at hc
        rcases among_app _ hT hc with z | z
        · obtain ⟨c0, e1, e2⟩ := hA p cv z
          exact ⟨c0, e1, g1.p _ _ e2⟩
        · exact ⟨c', z, upd_same⟩⟩
      rw [set_same ht] at w2
      rw [eH]
      exact ⟨_, w2, g1.trans g2, upd_same⟩
  obtain ⟨P1, w1, g1, hc1⟩ := stp
  have en1 := en.mono g1.p g1.a
  obtain ⟨w2, g2⟩ := w1.newO (o := LamO f (lamOb X params body scope c' pm ctv)) (u := .lam f (lamOb X params body scope c' pm ctv) c' (lamQ X) σ ρ) nF ⟨rfl, (w1.fresh nF).2, upd_same, hc1, en1.mono (Same.refl _) (List.prefix_append _ _)⟩
  have hlw : Ow.lt ω.length (.lam f (lamOb X params body scope c' pm ctv) c' (lamQ X) σ ρ) = true := by
    simp only [Ow.lt]
    refine List.all_eq_true.mpr fun z hz => ?_
    cases z with
    | none => rfl
    | some d =>
      obtain ⟨i, hi⟩ := List.getElem?_of_mem hz
      obtain ⟨v, _, av⟩ := en1.get i d hi
      rw [← w1.len]
      exact at_lt av
  have hi : (as ++ [f])[ω.length]? = some f := by rw [← w1.len]; simp
  refine Calls.spliced_nil ⟨I2.kIn, ?_⟩
  have rc : codeAny (model X.prog X.w) X.A (.call (.ref g) ⟨[.ref f], []⟩) (CR (L2.CX X.prog X.w) X.stack X.prog X.w (upd H1 f (LamO f (lamOb X params body scope c' pm ctv))) s' Q (fun _ _ _ => False)) s' := by
    refine run_ofS (CX := L2.CX X.prog X.w) (ps := [a]) (us := [.ref f]) (vs := [.ref f]) lk hcd S hr.r I2.env0 (hb s' [.ref f] I2.kIn rfl) (.cons rfl .nil) rfl fun hr' => ⟨_, pSs, ?_⟩
    have rm' : Rm (j + 1) (X.A.deeper (envOfC x sg s'.heap.objs.size g cdv)) := ⟨hr', by first | exact hr.g | (simpa [Around.deeper] using hr.g)⟩
    have ct : Ctx X.prog X.w X.K X.mg X.base (j + 1) (cxOf (L2.CX X.prog X.w) X.prog X.w X.K X.mg X.base N x sg g cdv X.A X.stack s' (upd H1 f (LamO f (lamOb X params body scope c' pm ctv))) (fun _ _ _ => False)) := ⟨⟨rfl, passes_of rfl, S.nd, hr'.units⟩, rm'⟩
    have hcall : CallsL (cxOf (L2.CX X.prog X.w) X.prog X.w X.K X.mg X.base N x sg g cdv X.A X.stack s' (upd H1 f (LamO f (lamOb X params body scope c' pm ctv))) (fun _ _ _ => False)) a ω.length (.lam f (lamOb X params body scope c' pm ctv) c' (lamQ X) σ ρ)
        (fun ω' Ψ' ε' => ∀ (A : Around) (outer : List PySem.Env) (s : Shared) (H : Hp) (E : XK) (f c' : Addr), Rm (j + 1 - 1) (lamCx X A outer s H E scope f c').A → Cok (lamCx X A outer s H E scope f c') → EV (lamCx X A outer s H E scope f c') ρ ω' body Ψ' ε') := by
      intro pn xe ρ' ω' Ψ' ε' p1 p2 hρ hω hls σZ PZ HZ asZ QZ wZ enZ xkZ qZ
      obtain ⟨W, tk, hW⟩ := xkZ
      obtain ⟨v, hv0, av⟩ := enZ.get 0 _ hρ
      have av' := av
      cases av' with
      | own hz =>
        obtain ⟨ef, _, hfZ, hcZ, enO⟩ := wZ.own _ _ _ hω hz
        subst ef
        refine lam_act (i := 0) I2 L (hbind _ _ _ _ _) tk rm' hv0 (wZ.sub _ _ hcZ) hfZ (fun A outer s1 rm1 => ?_) hN hv hd1 hd2
        have ok1 : Cok (lamCx X A outer s1 HZ (fun cls dx H' => W cls dx σZ H') scope _ c') := ⟨rfl, passes_of rfl, hnd, rm1.r.units⟩
        refine hls A outer s1 HZ _ _ c' rm1 ok1 σ PZ HZ asZ QZ wZ enO ⟨_, takes_of rfl rfl rfl rfl, fun cls dx y ω2 P2 H2 as2 w2 g2 ec q2 => ?_⟩ qZ
        exact hW cls dx y ω2 P2 H2 as2 w2 g2 ec q2
    have hse := hbody X.A X.stack s' _ (fun _ _ _ => False) ct ω.length _ _ (ω ++ [.lam f (lamOb X params body scope c' pm ctv) c' (lamQ X) σ ρ]) (Giv ω.length Ψ) hcall w2.lt (get_last _ _) (h _ hlw)
    refine hse (L2.start N [.ref f]) P1 _ _ _ w2 (env_start N (.cons (.own hi) .nil)) ⟨fun σ3 ρ3 ω3 P3 H3 as3 w3 g3 en3 p3 => ?_, fun v d ω3 P3 H3 as3 w3 g3 a3 p3 => ?_, fun _ _ _ _ _ _ _ _ _ z => z.elim, fun _ _ _ _ _ _ _ _ _ z => z.elim, _, takes_of rfl rfl rfl rfl, fun cls dx y σ3 ρ3 ω3 P3 H3 as3 w3 g3 en3 a3 p3 => ?_⟩
    · exact giv_at (v := V.non) w3 g3 .non w2.len p3 fun v d ω4 P4 H4 as4 w4 g4 a4 p4 => giv_at w4 ((g1.trans g2).trans g4) a4 w.len p4 q
    · exact giv_at w3 g3 a3 w2.len p3 fun v d ω4 P4 H4 as4 w4 g4 a4 p4 => giv_at w4 ((g1.trans g2).trans g4) a4 w.len p4 q
    · obtain ⟨_, _, _, _, _, _, z⟩ := p3
      exact z.elim
  refine wpAny_call (codeAny_mono rc fun r s2 hq => ?_)
  cases r with
  | error e =>
    obtain ⟨_, _, _, _, _, _, _, _, _, _, _, _, z⟩ := hq
    exact z.elim
  | ok fl =>
    cases fl with
    | ret u => exact I2.after hq
    | next => exact False.elim hq
    | brk => exact False.elim hq
    | cont => exact False.elim hq
end
end NM
namespace NM
open PySem L2 PySem.Spec PyProof.Rows LamX
/-- what is asked of the law's def: the script's ints in, True out; the table is the first thing of ours -/
def spLawT (n : Nat) (Pt : Addr) (q : Str) : DSp := fun ds ω Ψ _ => ∃ ns : List Int, ds = [.lst (ns.map Dt.int)] ∧ ns.length ≤ n ∧ ω = [.tbl Pt q] ∧ ∀ ω', Ψ (.bl true) ω'
/-- the heap with the table added -/
def withT (P : Hp) (Pt : Addr) : Hp := upd P Pt (.tbl #[])
section
variable {P : Program} {w : World} {K : Fg} {mg mb : Str → Option Value} {k : Nat} {fa a c Pt : Addr} {fd : FuncData} {x q : Str} {s₁ : Shared} {vs : List Value} {ns : List Int} {n : Nat}
/-- P tracks at most the script; the table beside it -/
theorem law_coreT (KX : K.In s₁.heap) (hns : s₁.heap.Ns mainGlobals mg) (hb : s₁.heap.Ns builtinsNs mb) (hbb : ∀ x : Str, x ≠ "__name__" → mb x = bootBuiltins x) (hlim : s₁.heap.NoLimit) (hg : s₁.gens = #[])
    (CT : PySem.W.CodeHd s₁.heap c Pt ∧ s₁.heap.get? Pt = some (PySem.W.tabObj #[])) (nT : K.lookup Pt = none) (bm0 : ∃ (bm : Addr) (ob : Obj), mg "__builtins__" = some (.ref bm) ∧ bm ≠ builtinsNs ∧ s₁.heap.get? bm = some ob ∧ ob.cls = .type "module" ∧ ob.dict = some builtinsNs ∧ ob.data = .plain)
    (ha : s₁.heap.get? a = some { cls := .type "list", data := .seq vs.toArray }) (hr : Rm k callerA) (hn : ns.length ≤ n)
    (F : ∀ base : Heap, K.In base → base.Ns mainGlobals mg → TabB base mg c Pt → FnG P w K mg base k fa fd [x] (lift K (spLawT n Pt q))) (hbind : ∀ (s : Shared) (u : Value), BindsTo s fd ⟨[u], []⟩ [(x, u)])
    (PS : Hp) (hO : ∀ b o, PS b = some o → b = a ∧ ∃ u, o = .frz { cls := .type "list", data := .seq vs.toArray } u) (hS : SqL K PS a (ns.map V.int)) (hok : HOk P w PS s₁.heap) (hK : PS a ≠ none → K.lookup a = none) :
    codeAny (model P w) callerA (.call (.ref fa) ⟨[.ref a], []⟩) (fun r s' => r = .ok (.ret (.bool true)) ∧ OldK s₁.heap s'.heap ∧ s'.os = s₁.os ∧ AllBare s'.gens) s₁ := by
  obtain ⟨C, hT⟩ := CT
  have naT : Pt ≠ a := fun z => by
    rw [z, ha] at hT
    cases congrArg Obj.data (Option.some.inj hT)
  have PT : PS Pt = none := by
    cases z : PS Pt with
    | none => rfl
    | some o => exact absurd (hO _ _ z).1 naT
  have atT : withT PS Pt Pt = some (.tbl #[]) := upd_same
  have at_ : ∀ {b : Addr}, b ≠ Pt → withT PS Pt b = PS b := fun h => upd_ne h
  have sm : Same PS (withT PS Pt) := same_upd PT
  have hokT : HOk P w (withT PS Pt) s₁.heap := fun b o z => by
    by_cases e : b = Pt
    · rw [e, atT] at z
      cases z
      rw [e]
      exact hT
    · rw [at_ e] at z
      exact (hok b o z).stay (fun d v _ y => y) (fun d y => sm _ _ y) fun d xs y => sm _ _ y
  have nothing : ∀ {b : Addr} {o : Obj}, s₁.heap.get? b = some o → b ≠ Pt → b ≠ a → withT PS Pt b = none := fun {b o} e h1 h2 => by
    rw [at_ h1]
    cases z : PS b with
    | none => rfl
    | some u => exact absurd (hO b u z).1 h2
  have dicts : ∀ {b : Addr} {o : Obj} {es : Array DictEntry} {ep : Nat}, s₁.heap.get? b = some o → o.data = .dict es ep → withT PS Pt b = none := fun {b o es ep} e d => by
    refine nothing e (fun z => ?_) fun z => ?_
    · rw [z, hT] at e
      cases e
      cases d
    · rw [z, ha] at e
      cases e
      cases d
  have hid : ∀ {b : Addr} {m : Str → Option Value}, s₁.heap.Ns b m → (hidT s₁.heap (withT PS Pt)).Ns b m := fun ⟨o, es, ep, e, d, r⟩ => ⟨o, es, ep, hidT_get e (dicts e d), d, r⟩
  have hKb : K.In (hidT s₁.heap (withT PS Pt)) := fun b o e => hidT_get (KX b o e) (by
    by_cases z : b = Pt
    · rw [z, nT] at e; cases e
    · rw [at_ z]
      cases y : PS b with
      | none => rfl
      | some u =>
        obtain ⟨rfl, _⟩ := hO b u y
        rw [hK (by rw [y]; simp)] at e
        cases e)
  have TB : TabB (hidT s₁.heap (withT PS Pt)) mg c Pt := by
    refine ⟨?_, ?_, fun z => ?_⟩
    · obtain ⟨o, us, file, tf, flags, tg, inF, text, tt, e1, r1, r2, rest⟩ := C
      refine ⟨o, us, file, tf, flags, tg, inF, text, tt, hidT_get e1 (nothing e1 (fun z => ?_) fun z => ?_), r1, r2, rest⟩
      · rw [z, hT] at e1
        cases e1
        cases r1
      · rw [z, ha] at e1
        cases e1
        cases r2
    · obtain ⟨bm, ob, b1, b2, b3, b4, b5, b6⟩ := bm0
      refine ⟨bm, ob, b1, b2, fun z => ?_, fun z => ?_, hidT_get b3 (nothing b3 (fun z => ?_) fun z => ?_), b4, b5, b6⟩
      · obtain ⟨o, es, ep, e, d, _⟩ := hns
        rw [z, e] at b3
        cases b3
        rw [d] at b6
        cases b6
      · rw [z, hT] at b3
        cases b3
        cases b4
      · rw [z, hT] at b3
        cases b3
        cases b4
      · rw [z, ha] at b3
        cases b3
        cases b6
    · obtain ⟨o, es, ep, e, d, _⟩ := hns
      rw [z, hT] at e
      cases e
      cases d
  have e0 : Env0 P w K mg (hidT s₁.heap (withT PS Pt)) callerA [] s₁ (withT PS Pt) :=
    ⟨rfl, ⟨hKb, hid hns, ⟨mb, hid hb, hbb⟩, let ⟨mc, h1, h2⟩ := hlim; ⟨mc, hid h1, h2⟩⟩, fun b o e => of_hidT e, Nat.le_of_eq (hidT_size _ _), trivial, (fun b z => nomatch (show b ∈ ([] : List Addr) from z)), hokT, .of_eq hg⟩
  have w0 : Ws K [.tbl Pt q] PS (withT PS Pt) [Pt] := ⟨sm, by simp, rfl, fun i o b h1 h2 => by
    cases i with
    | succ i => cases h1
    | zero =>
      cases h1
      cases h2
      exact ⟨rfl, PT, #[], atT, trivial, fun p cv hc => by simp [codeAmong] at hc⟩⟩
  have hl : lift K (spLawT n Pt q) [.ref a] (withT PS Pt) (fun v _ => v = .bl true) (fun _ _ _ => False) :=
    ⟨[.lst (ns.map Dt.int)], [.tbl Pt q], PS, [Pt], (fun d _ => d = .bl true), (fun _ _ => False), w0, .cons (.lst hS (ints_at ns)) .nil, ⟨ns, rfl, hn, rfl, fun _ => rfl⟩,
      (fun v d ω' P' H' as' _ _ a' e => by subst e; cases a'; rfl), fun _ _ _ _ _ _ _ _ _ _ z => z⟩
  refine codeAny_mono ((F _ hKb (hid hns) TB).run callerA [] s₁ _ ⟨[.ref a], []⟩ [.ref a] [.ref a] _ _ hr e0 (hbind s₁ (.ref a)) (.cons rfl .nil) hl) fun r s' h => ?_
  cases r with
  | error e =>
    obtain ⟨_, _, _, _, _, _, _, _, _, _, _, _, z⟩ := h
    exact z.elim
  | ok fl =>
    cases fl with
    | ret u =>
      obtain ⟨v, H', os, bare, un, hok', r', z0⟩ := h
      obtain rfl : v = .bl true := z0
      obtain rfl : u = Value.bool true := r'
      obtain ⟨more, grown⟩ := un.tbls Pt #[] atT
      have hm : s'.heap.get? Pt = some (PySem.W.tabObj (#[] ++ more)) := hok' Pt _ grown
      have rest : ∀ b o, b ≠ Pt → s₁.heap.get? b = some o → s'.heap.get? b = some o := fun b o hne e => by
        cases z : PS b with
        | none => exact un.keep b o e (by rw [at_ hne]; exact z) (fun y => nomatch (show b ∈ ([] : List Addr) from y)) (fun y => nomatch y)
        | some u =>
          obtain ⟨_, y, rfl⟩ := hO b u z
          have z1 : withT PS Pt b = _ := (at_ hne).trans z
          obtain ⟨e1, _⟩ := hok _ _ z
          obtain ⟨e2, _⟩ := hok' _ _ (un.frzs _ _ _ z1)
          rw [e] at e1
          cases e1
          exact e2
      refine ⟨rfl, ⟨fun b o e => ?_, fun b o e => ?_⟩, os, bare⟩
      · by_cases z : b = Pt
        · rw [z] at e ⊢
          rw [hT] at e
          cases e
          exact .inr (.inl ⟨(C.tab hT).isCodeTable, rfl, #[], more, rfl, by rw [hm, Array.empty_append]⟩)
        · exact .inl (rest b o z e)
      · by_cases z : b = Pt
        · rw [z]; exact ⟨_, hm⟩
        · exact ⟨o, rest b o z e⟩
    | _ => exact False.elim h
theorem law_callT (KX : K.In s₁.heap) (hns : s₁.heap.Ns mainGlobals mg) (hb : s₁.heap.Ns builtinsNs mb) (hbb : ∀ x : Str, x ≠ "__name__" → mb x = bootBuiltins x) (hlim : s₁.heap.NoLimit) (hg : s₁.gens = #[])
    (CT : PySem.W.CodeHd s₁.heap c Pt ∧ s₁.heap.get? Pt = some (PySem.W.tabObj #[])) (nT : K.lookup Pt = none) (bm0 : ∃ (bm : Addr) (ob : Obj), mg "__builtins__" = some (.ref bm) ∧ bm ≠ builtinsNs ∧ s₁.heap.get? bm = some ob ∧ ob.cls = .type "module" ∧ ob.dict = some builtinsNs ∧ ob.data = .plain)
    (ha : s₁.heap.get? a = some { cls := .type "list", data := .seq vs.toArray }) (hi : IntsAre vs ns) (hl : ns.length ≤ sizeLine) (hr : Rm k callerA) (hn : ns.length ≤ n)
    (F : ∀ base : Heap, K.In base → base.Ns mainGlobals mg → TabB base mg c Pt → FnG P w K mg base k fa fd [x] (lift K (spLawT n Pt q))) (hbind : ∀ (s : Shared) (u : Value), BindsTo s fd ⟨[u], []⟩ [(x, u)]) :
    codeAny (model P w) callerA (.call (.ref fa) ⟨[.ref a], []⟩) (fun r s' => r = .ok (.ret (.bool true)) ∧ OldK s₁.heap s'.heap ∧ s'.os = s₁.os ∧ AllBare s'.gens) s₁ := by
  have rv := vals_ints hi
  cases hk : K.lookup a with
  | some o =>
    have e := KX a o hk
    rw [ha] at e
    cases e
    exact law_coreT KX hns hb hbb hlim hg CT nT bm0 ha hr hn F hbind (fun _ => none) (fun b o z => nomatch z) (.inr ⟨_, vs.toArray, _, hk, rfl, rfl, rfl, by rw [List.size_toArray, hi.length]; exact hl, by simpa using rv⟩) (fun b o z => nomatch z) (fun z => absurd rfl z)
  | none =>
    refine law_coreT KX hns hb hbb hlim hg CT nT bm0 ha hr hn F hbind (scriptH a vs ns) (fun b o z => ?_) (.inl (.inr ⟨{ cls := .type "list", data := .seq vs.toArray }, if_pos rfl⟩)) (fun b o z => ?_) (fun _ => hk)
    · unfold scriptH at z
      split at z
      · rename_i q
        cases z
        exact ⟨q, _, rfl⟩
      · cases z
    · unfold scriptH at z
      split at z
      · rename_i q
        cases z
        subst q
        exact ⟨ha, by rw [List.length_map]; exact hl, vs, _, rv, ha⟩
      · cases z
end
/-- the goal that k_head leaves; y: the def that makes lambdas -/
theorem walkT {l : PySem.W.OpenLaw} {n k : Nat} {q : Program} {loose : List Str} {XP : (Str → Option Value) → Heap → Prop} {YP : World → Heap → Prop} {d : DefRec} {K : Params → Fg} {x y : Str}
    (hn : l.most = some n) (hn2 : n ≤ sizeLine) (hdf : d.params.defaults = []) (hr : Rm k callerA)
    (hY : ∀ (w : World) (h : Heap), YP w h → (K w.params).In h) (hrec : ((recsOf q).find? fun e => e.name == y).isSome = true)
    (F : ∀ (w : World) (mg : Str → Option Value) (fa : Addr) (h : Heap), (K w.params).In h → h.Ns mainGlobals mg → mg d.name = some (.ref fa) →
      ∃ (fd : FuncData) (c Pt : Addr) (qn : Str), PySem.W.tabIn (K w.params) y = some (c, Pt) ∧ (K w.params).lookup Pt = none ∧ (∀ (s : Shared) (u : Value), BindsTo s fd ⟨[u], []⟩ [(x, u)]) ∧
        ∀ base : Heap, (K w.params).In base → base.Ns mainGlobals mg → TabB base mg c Pt → FnG l.prog w (K w.params) mg base k fa fd [x] (lift (K w.params) (spLawT n Pt qn))) :
    PySem.W.WalkO q loose XP YP l.row.toRowW d [] (fun f vs => PySem.call f vs) := by
  refine Att.attach_call hn hdf fun w s₀ s₁ mg mb fa o pm cd doc a vs ns G Y ho hd hcd hmg hobj hints hlen hg => ?_
  obtain ⟨fd, c, Pt, qn, ht, nT, hb, hF⟩ := F w mg fa _ (hY w _ Y) G.T.g hmg
  obtain ⟨dr, hdr⟩ := Option.isSome_iff_exists.mp hrec
  exact law_callT (hY w _ Y) G.T.g G.T.b G.T.builtins G.T.nolimit hg (PySem.W.tab_of G.T (hY w _ Y) hdr ht) nT G.T.bmain hobj hints (Nat.le_trans hlen hn2) hr hlen hF hb
/-- a def whose code object is known -/
theorem fn_okT {P : Program} {w : World} {K : Fg} {mg : Str → Option Value} {base : Heap} {x qual : Str} {params : Arguments} {bd : List Stmt} {scope : Scope} {dV kV doc pm ct oc : Value} {an od : Option Addr} {osl : Array (Option Value)} {f c : Addr} {N ps : List Str} {k : Nat} {sp : DSp}
    (lk : K.lookup f = some ⟨oc, od, .func (PySem.W.fnOf x qual params bd scope dV kV doc pm an (.ref c) ct), osl⟩) (hcd : PySem.W.codeIn K (.ref c) qual = true) (kp : PySem.W.keepIn K (.ref f) = true) (S : FnScope N ps scope) (hl : ∀ ds ω Ψ ε, sp ds ω Ψ ε → ds.length = ps.length)
    (body : ∀ (A : Around) (outer : List PySem.Env) (s : Shared) (H : Hp) (E : XK), Ctx P w K mg base k (cxOf (L2.CX P w) P w K mg base N qual scope f (.ref c) A outer s H E) → ∀ ds ω Ψ ε, OmLt ω.length ω → sp ds ω Ψ ε →
      ESs (cxOf (L2.CX P w) P w K mg base N qual scope f (.ref c) A outer s H E) (startD N ds) ω bd (fnPost ω.length Ψ ε)) : FnP P w K mg base (k + 1) f (PySem.W.fnOf x qual params bd scope dV kV doc pm an (.ref c) ct) ps sp := by
  refine ⟨fnG_of lk hcd S (fun vs H Q E ⟨ds, ω, PP, as, Ψ, ε, w', al, hs, _⟩ => al.length.trans (hl ds ω Ψ ε hs)) (fun A outer s H vs Q E hr h => ?_), kp⟩
  obtain ⟨ds, ω, PP, as, Ψ, ε, w', al, hs, hq, hE⟩ := h
  refine ⟨_, pSs, ?_⟩
  have cx : Ctx P w K mg base k (cxOf (L2.CX P w) P w K mg base N qual scope f (.ref c) A outer s H E) := ⟨⟨rfl, passes_of rfl, S.nd, hr.r.units⟩, hr⟩
  refine body A outer s H E cx ds ω Ψ ε w'.lt hs (L2.start N vs) PP H as _ w' (env_start N al) ⟨fun σ' ρ' ω' P' H' as' w1 g1 en1 p => ?_, fun v d ω' P' H' as' w1 g1 a1 p => ?_, fun _ _ _ _ _ _ _ _ _ z => z.elim, fun _ _ _ _ _ _ _ _ _ z => z.elim, _, takes_of rfl rfl rfl rfl, fun cls dx y σ' ρ' ω' P' H' as' w1 g1 en1 a1 p => ?_⟩
  · exact giv_at (v := V.non) w1 g1 .non w'.len p hq
  · exact giv_at w1 g1 a1 w'.len p hq
  · obtain ⟨m, x', hm, hlt, hc, hf, p⟩ := p
    have hasl := w'.len
    refine hE cls dx x' _ _ _ _ (w1.give hlt) (g1.give w1 (by omega)) ?_ p
    obtain ⟨ec, ef⟩ := a1
    refine ⟨ec.trans hc.symm, ?_⟩
    cases h1 : y.fs with
    | none =>
      cases h2 : x'.fs with
      | none => rw [h1] at ef; exact ef
      | some gs => rw [h1, h2] at hf; exact hf.elim
    | some fs =>
      cases h2 : x'.fs with
      | none => rw [h1, h2] at hf; exact hf.elim
      | some gs =>
        rw [h1, h2] at hf
        rw [h1] at ef
        obtain ⟨d, fvs, e1, e2, e3, e4, e5, e6⟩ := ef
        refine ⟨d, fvs, e1, e2, e3.trans hf.1, frzL_at w1 hf.2 e4, fun z => e5 (List.mem_of_mem_take z), ?_⟩
        unfold PF
        rw [if_neg (fun z => e5 (List.mem_of_mem_drop z))]
        exact e6
end NM
namespace NM
open PySem L2 PySem.Spec PyProof.Rows
section
variable {X : Cx} {ρ : Rho} {ω : Om} {Ψ : PsiE} {ε : PsiX} {Φ : Post} {e : Expr} {pos : Pos}
theorem es_tryO {x : Str} {c : Value} {body suite : List Stmt} {b₀ : Stmt} {np pos' : Pos} (hc : Names X x c)
    (hb : ∀ pn xe, ESs (X.tr pn xe) ρ ω body { nx := Φ.nx, rt := Φ.rt, bk := Φ.bk, ct := Φ.ct, xc := fun y ρ1 ω1 => ∃ b, PySem.W.exmOne X.K y.cls c = some b ∧ (b = true → ∀ (a : Addr) (oe : Obj) (pn2 : List (Addr × Obj)), ESs (X.suite a ((a, oe) :: pn2)) ρ1 ω1 (b₀ :: suite) { nx := Φ.nx, rt := Φ.rt, bk := Φ.bk, ct := Φ.ct }) ∧ (b = false → Φ.xc y ρ1 ω1) })
    (hs : X.stack = X.env :: X.outer := by rfl) (hf : X.env.frame = some X.env.locals := by rfl) : ES X ρ ω (.Try body [.ExceptHandler (some (.Name x np)) none (b₀ :: suite) pos'] [] [] pos) Φ := fun σ P H as D w en z => by
  obtain ⟨zn, zr, zb, zc, Wo, tko, zx⟩ := z
  refine sS_of (ps_try_only (tb := fun W D σ H => ∀ pn xe, Takes (X.tr pn xe) W → sSs (X.tr pn xe) body D σ H) (ts := fun a cls d D σ H => ∀ oe pn, sSs (X.suite a ((a, oe) :: pn)) (b₀ :: suite) D σ H) hs hf hc tko
    (fun W pn xe tk _ => ⟨fun pins s σ H D I h => (h pn xe tk).run pins s I⟩) (fun a oe cls d pn hz hd => ⟨fun pins s σ H D I h => (h oe pn).run pins s I⟩)) ?_
  intro pn xe tk
  refine hb pn xe σ P H as D w en ⟨zn, zr, zb, zc, _, tk, fun cls dx y σ' ρ' ω' P' H' as' w' g' en' ec q => ?_⟩
  obtain ⟨e1, _⟩ := id ec
  subst e1
  obtain ⟨b, hx, yes, no⟩ := q
  refine ⟨b, hx, fun hb1 a ha oe pn2 => ?_, fun hb0 => zx _ dx y σ' ρ' ω' P' H' as' w' g' en' ec (no hb0)⟩
  refine yes hb1 a oe pn2 σ' P' H' as' _ w' en' ⟨fun σ3 ρ3 ω3 P3 H3 as3 w3 g3 en3 q3 => zn _ _ ω3 P3 H3 as3 w3 (g'.trans g3) en3 q3, fun v d3 ω3 P3 H3 as3 w3 g3 a3 q3 => zr v d3 ω3 P3 H3 as3 w3 (g'.trans g3) a3 q3,
    fun σ3 ρ3 ω3 P3 H3 as3 w3 g3 en3 q3 => zb _ _ ω3 P3 H3 as3 w3 (g'.trans g3) en3 q3, fun σ3 ρ3 ω3 P3 H3 as3 w3 g3 en3 q3 => zc _ _ ω3 P3 H3 as3 w3 (g'.trans g3) en3 q3, fun _ _ _ _ => False, takes0, fun _ _ _ _ _ _ _ _ _ _ _ _ _ q3 => q3.elim⟩
end
end NM
namespace NM
open PySem L2 PySem.Spec PyProof.Rows
section
variable {X : Cx} {ω : Om} {Ψ : PsiE} {ε : PsiX}
/-- a list of ours times a number -/
theorem od_repL {n : Nat} {ds : List Dt} {k : Nat} (hn : ω[n]? = some (.lst ds)) (hk : k ≤ 1000) (hz : ds.length * k ≤ sizeLine) (h : Ψ (.lst (List.replicate k ds).flatten) ω) : OD X (binaryOp .Mult) (.own n) (.int (k : Nat)) ω Ψ ε := od_of op_rep fun vx vy P H as Q w ax ay q => by
  cases ay
  obtain ⟨a, us, rfl, ha, hp, hh, r⟩ := seqO w ax hn
  refine ⟨a, _, us, rfl, rfl, hh, by omega, by omega, by rw [r.length, Int.toNat_natCast]; exact hz, fun p hp2 => ?_⟩
  rw [Int.toNat_natCast]
  obtain ⟨w2, g2⟩ := w.newP (o := .lst (List.replicate k us).flatten) hp2
  exact q _ _ ω _ _ as w2 g2 (.lst (.of upd_same) ((atL_flat r k).mono g2.p g2.a)) h
end
/-- an error's text stays where what is behind is given up -/
theorem givX_cut {ε : PsiX} {ω r : Om} {c : Value} {f x : Str} (hl : OmLt ω.length ω) (h : ε ⟨c, some [(f, .str x)]⟩ ω) : GivX ω.length ε ⟨c, some [(f, .str x)]⟩ (ω ++ r) :=
  ⟨ω.length, ⟨c, some [(f, .str x)]⟩, Nat.le_refl _, by rw [List.take_left]; exact hl, rfl, ⟨rfl, .cons (.str x) .nil⟩, by rw [List.take_left]; exact h⟩
/-- plain things -/
def plB : Dt → Bool
  | .non | .bl _ | .int _ => true
  | .str x => decide (x.length ≤ 1000)
  | .lst _ => true
  | _ => false
def kdB : Dt → Bool
  | .tup ds => decide (ds.length ≤ 1000) && ds.all plB
  | d => plB d
/-- a value whose kind is known, and the kinds of a tuple's items -/
structure KnT (K : Fg) (ω : Om) (d : Dt) : Prop where
  k : Kn K ω d
  it : ∀ ds, d = .tup ds → ds.length ≤ 1000 ∧ ∀ x ∈ ds, Kn K ω x
theorem kn_pl {K : Fg} {ω : Om} {d : Dt} (h : plB d = true) : Kn K ω d := by
  cases d with
  | non => exact kn_non
  | bl b => exact kn_bl b
  | int i => exact kn_int i
  | str x => exact kn_str x (Nat.le_trans (of_decide_eq_true h) (by decide))
  | lst ds => exact kn_lst ds
  | _ => cases h
theorem knT_kd {K : Fg} {ω : Om} {d : Dt} (h : kdB d = true) : KnT K ω d := by
  cases d with
  | tup ds =>
    unfold kdB at h
    rw [Bool.and_eq_true, decide_eq_true_eq] at h
    refine ⟨kn_tup ds, fun es e => ?_⟩
    cases e
    exact ⟨h.1, fun x hx => kn_pl (List.all_eq_true.mp h.2 x hx)⟩
  | non => exact ⟨kn_non, fun es e => nomatch e⟩
  | bl b => exact ⟨kn_bl b, fun es e => nomatch e⟩
  | int i => exact ⟨kn_int i, fun es e => nomatch e⟩
  | str x => exact ⟨kn_pl h, fun es e => nomatch e⟩
  | lst ds => exact ⟨kn_lst ds, fun es e => nomatch e⟩
  | _ => cases h
theorem KnT.app {K : Fg} {ω : Om} {d : Dt} {u : Ow} (h : KnT K ω d) : KnT K (ω ++ [u]) d := ⟨kn_app h.k, fun ds e => ⟨(h.it ds e).1, fun x hx => kn_app ((h.it ds e).2 x hx)⟩⟩
theorem lt_any {m : Nat} {d : Dt} (h : d.lt 0 = true) : d.lt m = true := dt_lt_mono (Nat.zero_le _) h
theorem ltL_any {m : Nat} {ds : List Dt} (h : ltL 0 ds = true) : ltL m ds = true := ltL_mono (Nat.zero_le _) h
end NM
namespace NM
open PySem L2 PySem.Spec PyProof.Rows
/-- the ends of a suite whose name (the slot i) is unbound behind it -/
abbrev offEnds (D : Ends) (i : Nat) : Ends := { nx := fun τ G => D.nx (τ.set i none) G, rt := D.rt, bk := fun τ G => D.bk (τ.set i none) G, ct := fun τ G => D.ct (τ.set i none) G }
abbrev Sut := Addr → Value → Option Addr → TS
/-- what the clauses wish, one behind the other -/
def wN (K : Fg) (i : Nat) (Wo : WX) (D : Ends) : List (Value × Sut) → WX
  | [] => Wo
  | p :: r => fun C dd τ G => ∃ b, PySem.W.exmOne K C p.1 = some b ∧ (b = true → ∀ x, G x = none → p.2 x C dd (offEnds D i) (τ.set i (some (.ref x))) G) ∧ (b = false → wN K i Wo D r C dd τ G)
inductive Cls2 (X : Cx) (n : Str) : List ExceptHandler → List (Value × Sut) → Prop
  | nil : Cls2 X n [] []
  | cons {x : Str} {c : Value} {ts : Sut} {st : Stmt} {sts : List Stmt} {q1 q2 : Pos} {es : List ExceptHandler} {l : List (Value × Sut)} (nm : Names X x c)
      (su : ∀ (x : Addr) (o : Obj) (C : Value) (dd : Option Addr) (pn : List (Addr × Obj)), Zc C dd o → (∃ vs, o.data = .fields vs) → PSs (X.suite x ((x, o) :: pn)) (st :: sts) (ts x C dd)) (r : Cls2 X n es l) :
      Cls2 X n (.ExceptHandler (some (.Name x q1)) (some n) (st :: sts) q2 :: es) ((c, ts) :: l)
section
variable {X : Cx} {n : Str} {i : Nat} {body : List Stmt} {e₁ : ExceptHandler} {es : List ExceptHandler} {l : List (Value × Sut)} {pos : Pos} {tb : WX → TS} {Wo : WX}
theorem ps_tryN (stk : X.stack = X.env :: X.outer) (frm : X.env.frame = some X.env.locals) (nd : X.N.Nodup) (at_i : X.N[i]? = some n) (loc : X.env.kindOf n = some .local) (tk : Takes X Wo)
    (bd : ∀ (W : WX) (pn : List (Addr × Obj)) (xe : Value → Shared → Prop), Takes (X.tr pn xe) W → PassesOwn (model X.prog X.w) X.A X.env xe → PSs (X.tr pn xe) body (tb W))
    (cl : Cls2 X n (e₁ :: es) l) : PS X (.Try body (e₁ :: es) [] [] pos) (fun D σ H => tb (wN X.K i Wo D l) D σ H) := by
  refine ⟨fun pins s σ H D I0 h0 => ?_⟩
  have okX := I0.ok
  have frA : X.A.frames = some (X.env :: X.outer) := by rw [okX.frames, stk]
  refine wpAny_Try_except ?_
  have run := (bd (wN X.K i Wo D l) (X.pn ++ pins) (fun u z1 => wpAny (model X.prog X.w) X.A (noteFrame u X.env) (fun _ z2 => wpAny (model X.prog X.w) X.A (setFlight u none) (fun _ z3 =>
    wpAny (model X.prog X.w) X.A (handleBy u X.env (e₁ :: es)) (SP X pins D) X.xe z3) X.xe z2) X.xe z1) ?caught PassesOwn.looking).run [] s σ H D (I0.toTry _) h0
  case caught =>
    rintro u z ⟨x, B, sI, pins', τ, G, C, dd, rfl, Jt, gr, up, sky, xn, os, ag, wish⟩
    have J : Inv X pins τ G sI := Jt.ofTry okX
    have skyE : Sky B (X.env :: X.outer) x (Zc C dd) X.env.locals z.heap := stk ▸ sky
    show wpAny (model X.prog X.w) X.A (noteFrame (.ref x) X.env) _ _ _
    refine Sky.land Zc.steady frA frm skyE fun k3 fly3 up3 => ?_
    have I3 : Inv X pins τ G { z with heap := k3 } := J.landed gr fly3.1 (up.trans up3) os ag
    obtain ⟨o3, us3, at3, zc3, da3⟩ := fly3.there
    have off : x ∉ frs (X.env :: X.outer) := fun m => by
      obtain ⟨_, o', at', bare⟩ := fly3.2.2.1.mem m
      rw [at3] at at'
      cases at'
      exact bare _ da3
    have xL : x ≠ X.env.locals := fun e => off (List.mem_filterMap.mpr ⟨X.env, List.mem_cons_self, by rw [frm, e]⟩)
    have xF : x ∉ X.fs := fun m => by
      obtain ⟨e, me, q⟩ := List.mem_filterMap.mp m
      exact off (List.mem_filterMap.mpr ⟨e, List.mem_cons_of_mem _ me, q⟩)
    have Su3 := I3.suite at3 da3 xn xL xF
    have go : ∀ {fs : List ExceptHandler} {m : List (Value × Sut)}, Cls2 X n fs m → wN X.K i Wo D m C dd τ G → wpAny (model X.prog X.w) X.A (handleBy (.ref x) X.env fs) (SP X pins D) X.xe { z with heap := k3 } := by
      intro fs m ok2
      induction ok2 with
      | nil =>
        intro wo
        refine wpAny_handleBy_nil ?_
        obtain ⟨_, _, _, o, us, T, oT, ts', at0, zc0, da0, one, _⟩ := id fly3
        unfold PySem.passOn
        refine wpAny_bind (wpAny_field at0 da0 one ?_)
        rw [if_neg (show ¬ ((Value.ref T == Value.none) = true) by simp)]
        have fin : wpAny (model X.prog X.w) X.A (setFlight (.ref x) X.env.frame) (fun _ z4 => wpAny (model X.prog X.w) X.A (throw (.ref x) : Sem Flow) (SP X pins D) X.xe z4) X.xe { z with heap := k3 } := by
          rw [frm]
          refine HandSPX.setFlight_upZ fly3 fun k4 held4 up4 => wpAny_throw (tk _ _ ?_)
          exact ⟨x, B, sI, pins, τ, G, C, dd, rfl, J, gr, (up.trans up3).trans up4, .inr (.inr (stk ▸ held4)), xn, os, ag, wo⟩
        first
          | exact wpAny_bind (wpAny_pure (wpAny_bind fin))
          | exact wpAny_bind fin
      | @cons y c ts st sts q1 q2 fs2 m2 nm su r ih =>
        rintro ⟨b, isb, yes, no⟩
        refine wpAny_handleBy_cons (codeAny_handlers_test ?_) (fun q => by cases q)
        have ty : PySem.W.Looks (model X.prog X.w) k3 (typeOf (.ref x)) C := fun A Q E s kp q => wpAny_typeOf_ref (kp _ _ at3) (by rw [zc3.1]; exact q)
        have LM := PySem.W.exm_one (M := model X.prog X.w) I3.kIn ty isb
        have name : ∀ {Q E : Value → Shared → Prop}, Q c { z with heap := k3 } → wpAny (model X.prog X.w) (X.A.mark (some (.ref x))) (eval (.Name y q1) X.env) Q E { z with heap := k3 } := fun {Q E} q => by
          obtain ⟨gl, db, g | ⟨g, bo, nn⟩⟩ := nm
          · exact ld_glob (X := X.suite x ((x, o3) :: (X.pn ++ pins))) Su3 gl g q db
          · exact ld_blt (X := X.suite x ((x, o3) :: (X.pn ++ pins))) Su3 gl g bo q nn db
        refine name (LM.here ?_)
        cases b with
        | false =>
          show wpAny _ X.A (handleBy (.ref x) X.env fs2) _ _ _
          exact ih (no rfl)
        | true =>
          refine codeAny_handlers_suite_as ?_
          refine HandSPX.lands_againZ fly3 fun k4 fly4 up4 => ?_
          have I4 : Inv X pins τ G { z with heap := k4 } := J.landed gr fly4.1 ((up.trans up3).trans up4) os ag
          obtain ⟨o4, us4, at4, zc4, da4⟩ := fly4.there
          have Su4 := I4.suite at4 da4 xn xL xF
          refine store_ok (X := X.suite x ((x, o4) :: (X.pn ++ pins))) (v := .ref x) Su4 nd at_i (.inl loc) rfl (fun z5 Su5 => ?_) (.inr loc)
          refine wpAny_mono ((su x o4 C dd (X.pn ++ pins) zc4 ⟨_, da4⟩).run [] z5 _ G _ Su5 (yes rfl x xn)) (fun fl z6 ended => ?_) (fun _ _ w => False.elim w)
          have gone : ∀ {τ6 : L2.St} {G6 : Hp} {Q : Shared → Prop}, Inv (X.suite x ((x, o4) :: (X.pn ++ pins))) [] τ6 G6 z6 → (∀ z7, Inv X pins (τ6.set i none) G6 z7 → Q z7) →
              wpAny (model X.prog X.w) X.A (do bindName X.env n .none; unbindBehindTheSuite X.env n q2) (fun _ z7 => Q z7) X.xe z6 := fun {τ6 G6 Q} Su6 q => gone_ok (Su6.unsuite okX) nd at_i loc q
          cases fl with
          | ret u =>
            obtain ⟨v6, τ6, G6, Su6, rv6, q6⟩ := ended
            exact gone Su6 fun z7 I7 => ⟨_, _, _, I7, rv6, q6⟩
          | next =>
            obtain ⟨τ6, G6, Su6, q6⟩ := ended
            exact gone Su6 fun z7 I7 => ⟨_, _, I7, q6⟩
          | brk =>
            obtain ⟨τ6, G6, Su6, q6⟩ := ended
            exact gone Su6 fun z7 I7 => ⟨_, _, I7, q6⟩
          | cont =>
            obtain ⟨τ6, G6, Su6, q6⟩ := ended
            exact gone Su6 fun z7 I7 => ⟨_, _, I7, q6⟩
    exact go cl wish
  refine wpAny_mono run (fun fl z1 ended => ?_) fun u z1 w => w
  cases fl with
  | ret u =>
    obtain ⟨v, τ, G, Jt, rv, q⟩ := ended
    exact ⟨v, τ, G, Jt.ofTry okX, rv, q⟩
  | next =>
    obtain ⟨τ, G, Jt, q⟩ := ended
    exact wpAny_execs_nil ⟨τ, G, Jt.ofTry okX, q⟩
  | brk =>
    obtain ⟨τ, G, Jt, q⟩ := ended
    exact ⟨τ, G, Jt.ofTry okX, q⟩
  | cont =>
    obtain ⟨τ, G, Jt, q⟩ := ended
    exact ⟨τ, G, Jt.ofTry okX, q⟩
end
section
variable {X : Cx} {ρ : Rho} {ω : Om} {Φ : Post} {pos : Pos}
/-- what one clause asks of an error -/
def HeldS (X : Cx) (i : Nat) (Φ : Post) (y : Ec) (ρ1 : Rho) (ω1 : Om) (sts : List Stmt) : Prop :=
  ∃ fs, y.fs = some fs ∧ ∀ (a d : Addr) (oe : Obj) (pn2 : List (Addr × Obj)), Zc y.cls (some d) oe → (∃ vs, oe.data = .fields vs) → ESs (X.suite a ((a, oe) :: pn2)) (ρ1.set i (some (.ref a))) (ω1 ++ [.xd d fs]) sts { nx := fun ρ' ω' => Φ.nx (ρ'.set i none) ω', rt := Φ.rt, bk := fun ρ' ω' => Φ.bk (ρ'.set i none) ω', ct := fun ρ' ω' => Φ.ct (ρ'.set i none) ω' }
/-- try .. except x as n .. except y as n .. -/
theorem es_try2 (i : Nat) {x x' n : Str} {c c' : Value} {body sts sts' : List Stmt} {st st' : Stmt} {q1 q2 q3 q4 : Pos} (hN : X.N.Nodup) (hc : Names X x c) (hc' : Names X x' c')
    (hb : ∀ pn xe, ESs (X.tr pn xe) ρ ω body { nx := Φ.nx, rt := Φ.rt, bk := Φ.bk, ct := Φ.ct, xc := fun y ρ1 ω1 => ∃ b, PySem.W.exmOne X.K y.cls c = some b ∧ (b = true → HeldS X i Φ y ρ1 ω1 (st :: sts)) ∧ (b = false → ∃ b', PySem.W.exmOne X.K y.cls c' = some b' ∧ (b' = true → HeldS X i Φ y ρ1 ω1 (st' :: sts')) ∧ (b' = false → Φ.xc y ρ1 ω1)) })
    (hs : X.stack = X.env :: X.outer := by rfl) (hf : X.env.frame = some X.env.locals := by rfl) (hi : X.N[i]? = some n := by rfl) (hln : X.env.kindOf n = some .local := by rfl) :
    ES X ρ ω (.Try body [.ExceptHandler (some (.Name x q1)) (some n) (st :: sts) q2, .ExceptHandler (some (.Name x' q3)) (some n) (st' :: sts') q4] [] [] pos) Φ := fun σ P H as D w en z => by
  obtain ⟨zn, zr, zb, zc, Wo, tko, zx⟩ := z
  refine sS_of (ps_tryN (i := i) (n := n) (l := [(c, fun a cls d D σ H => ∀ oe pn, Zc cls d oe → (∃ vs, oe.data = .fields vs) → sSs (X.suite a ((a, oe) :: pn)) (st :: sts) D σ H), (c', fun a cls d D σ H => ∀ oe pn, Zc cls d oe → (∃ vs, oe.data = .fields vs) → sSs (X.suite a ((a, oe) :: pn)) (st' :: sts') D σ H)])
    (tb := fun W D σ H => ∀ pn xe, Takes (X.tr pn xe) W → sSs (X.tr pn xe) body D σ H) hs hf hN hi hln tko (fun W pn xe tk _ => ⟨fun pins s σ H D I h => (h pn xe tk).run pins s I⟩)
    (.cons hc (fun a oe cls d pn hz hd => ⟨fun pins s σ H D I h => (h oe pn hz hd).run pins s I⟩) (.cons hc' (fun a oe cls d pn hz hd => ⟨fun pins s σ H D I h => (h oe pn hz hd).run pins s I⟩) .nil))) ?_
  intro pn xe tk
  refine hb pn xe σ P H as D w en ⟨zn, zr, zb, zc, _, tk, fun cls dx y σ' ρ' ω' P' H' as' w' g' en' ec q => ?_⟩
  obtain ⟨e1, ec2⟩ := id ec
  subst e1
  have su : ∀ {ss : List Stmt}, HeldS X i Φ y ρ' ω' ss → ∀ a, H' a = none → ∀ oe pn2, Zc y.cls dx oe → (∃ vs, oe.data = .fields vs) → sSs (X.suite a ((a, oe) :: pn2)) ss (offEnds D i) (σ'.set i (some (.ref a))) H' := by
    intro ss hh a ha oe pn2 hz hd
    obtain ⟨fs, hfs, su⟩ := hh
    rw [hfs] at ec2
    obtain ⟨d, fvs, rfl, hHd, e2, r2, nas, nP, nH0⟩ := ec2
    have w2 := w'.hold nas nP hHd e2 r2
    have pf : as' <+: as' ++ [d] := List.prefix_append _ _
    have g2 : Gr P H as P' H' (as' ++ [d]) := ⟨g'.p, g'.a.trans pf, g'.h, g'.n, fun b hb hn => by
      rcases List.mem_append.mp hb with m | m
      · exact g'.na b m hn
      · rw [List.mem_singleton.mp m]; exact nH0⟩
    refine su a d oe pn2 hz hd (σ'.set i (some (.ref a))) P' H' (as' ++ [d]) _ w2 ((en'.mono (Same.refl _) pf).set i (.ref a)) ⟨fun σ3 ρ3 ω3 P3 H3 as3 w3 g3 en3 q3 => zn _ _ ω3 P3 H3 as3 w3 (g2.trans g3) (en3.unset i) q3, fun v d3 ω3 P3 H3 as3 w3 g3 a3 q3 => zr v d3 ω3 P3 H3 as3 w3 (g2.trans g3) a3 q3,
      fun σ3 ρ3 ω3 P3 H3 as3 w3 g3 en3 q3 => zb _ _ ω3 P3 H3 as3 w3 (g2.trans g3) (en3.unset i) q3, fun σ3 ρ3 ω3 P3 H3 as3 w3 g3 en3 q3 => zc _ _ ω3 P3 H3 as3 w3 (g2.trans g3) (en3.unset i) q3, fun _ _ _ _ => False, takes0, fun _ _ _ _ _ _ _ _ _ _ _ _ _ q3 => q3.elim⟩
  obtain ⟨b, hx, yes, no⟩ := q
  refine ⟨b, hx, fun hb1 a ha oe pn2 hz hd => su (yes hb1) a ha oe pn2 hz hd, fun hb0 => ?_⟩
  obtain ⟨b', hx', yes', no'⟩ := no hb0
  exact ⟨b', hx', fun hb1 a ha oe pn2 hz hd => su (yes' hb1) a ha oe pn2 hz hd, fun hb0' => zx _ dx y σ' ρ' ω' P' H' as' w' g' en' ec (no' hb0')⟩
end
end NM
namespace PySem
namespace HandSPX
open Builtin Builtin.ObjectAttr
section
variable {M : Model} {A : Around} {E : Value → Shared → Prop} {h : Heap} {g : Array GenState} {d : Drawn} {t : Nat} {os : OsState}
variable {nm q : Str} {C N : Addr} {bs bm bmB : List Value} {hdct : Bool} {sn : List Str} {sub : List Value} {ab : Bool} {col : Option Bool} {dd : Option Addr} {k0 k1 k2 k3 k5 : Option Value} {B newId initId : String}
theorem check_new_kw (F : ExcBaseFacts B newId initId bmB) (hT : ∀ X : String, bm.contains (.type X) = bmB.contains (.type X)) {x : Str} {v : Value} {Q : Unit → Shared → Prop}
    (hC : h.get? C = some (excClassObj nm q C N bs bm hdct sn sub ab col dd k0 k1 k2 k3 k5 newId)) (hq : Q () ⟨h, g, d, t, os⟩) : wpAny M A (checkBuiltinCall newId ⟨[.ref C], [(x, v)]⟩) Q E ⟨h, g, d, t, os⟩ := by
  have hcont : (Value.ref C :: bm).contains (.type B) = true := by rw [List.contains_cons, hT, F.hasB, Bool.or_true]
  have hstar := F.noStar
  simp only [checkBuiltinCall, F.newKind, F.newSplit, F.newRow]
  repeat (first | refine wpAny_loadPart_at hC ?_ | (refine wpAny_isSubtype_exc hC ?_; rw [hcont]) | refine wpAny_staticBase_exc hC ?_ | refine wpAny_madeBy_exc hC ?_ | simp only [bne_self_eq_false, Bool.false_eq_true, if_false] | wp_step)
  exact hq
end
section
variable {prog : Program} {w : World} {A : Around} {E : Value → Shared → Prop} {R : Result → Shared → Prop} {h : Heap} {g : Array GenState} {d : Drawn} {t : Nat} {os : OsState}
variable {nm q : Str} {C N : Addr} {bs bm bmB : List Value} {hdct : Bool} {sn : List Str} {sub : List Value} {ab : Bool} {col : Option Bool} {dd : Option Addr} {k0 k1 k2 k3 k5 : Option Value} {B newId initId : String}
theorem new_kw (F : ExcBaseFacts B newId initId bmB) (hT : ∀ X : String, bm.contains (.type X) = bmB.contains (.type X)) {x : Str} {v : Value}
    (hC : h.get? C = some (excClassObj nm q C N bs bm hdct sn sub ab col dd k0 k1 k2 k3 k5 newId))
    (hq : R (.ok (.ret (.ref (h.objs.size + 1)))) ⟨(h.push { cls := .type "tuple", data := .seq #[] }).push
      { cls := .ref C, data := .fields #[.ref h.objs.size, .none, .none, .none, .bool false, .none] }, g, d, t, os⟩) :
    codeAny (model prog w) A (.builtin newId ⟨[.ref C], [(x, v)]⟩) R ⟨h, g, d, t, os⟩ := by
  have hends := F.ends
  have hcB : (Value.ref C :: bm).contains (.type B) = true := by rw [List.contains_cons, hT, F.hasB, Bool.or_true]
  have hcA : (Value.ref C :: bm).contains (.type "AttributeError") = false := by rw [List.contains_cons, hT, F.noAttr]; rfl
  have hcN : (Value.ref C :: bm).contains (.type "NameError") = false := by rw [List.contains_cons, hT, F.noName]; rfl
  refine codeAny_builtinAt F.entry ?_
  unfold Builtin.«BaseException.__new__»
  refine wpAt_bind ?_
  show wpAt _ _ _ (stack >>= _) _ _ _
  refine wpAt_bind (wpAt_stack fun p below => wpAt_of_wpAny ?_)
  wp_walk
  refine wpAt_of_wpAny ?_
  rw [F.owner]
  repeat (first | with_reducible refine wpAny_madeHere_exc F.canon hC ?_ | with_reducible refine wpAny_loadPart_at hC ?_ | (with_reducible refine wpAny_isSubtype_exc hC ?_; first | rw [hcB] | rw [hcA] | rw [hcN]) | wp_step)
  show R _ _
  rw [Heap.size_push]
  exact hq
theorem type_call_kw (F : ExcBaseFacts B newId initId bmB) (hT : ∀ X : String, bm.contains (.type X) = bmB.contains (.type X)) {x : Str} {y : Value} {fI : Addr} {Q : Fin → Shared → Prop}
    (hC : h.get? C = some (excClassObj nm q C N bs bm hdct sn sub ab col dd k0 k1 k2 k3 k5 newId))
    (hi : W.Looks (model prog w) h (typeLookup (.ref C) "__init__") (some (.ref fI))) (hb : ∀ self, W.Looks (model prog w) h (bindSpecial (.ref fI) self) (.ref fI, [self]))
    (hq : codeAny (model prog w) A (.call (.ref fI) ⟨[.ref (h.objs.size + 1)], [(x, y)]⟩)
      (fun r s' => match r with | .ok (.ret v) => v = .none ∧ Q (.done (.ret (.ref (h.objs.size + 1)))) s' | .ok _ => False | .error e => E e s')
      ⟨(h.push (W.kdv_tup [])).push (excO C h.objs.size), g, d, t, os⟩) :
    wpAny (model prog w) A (Builtin.«type.__call__» ⟨[.ref C], [(x, y)]⟩) Q E ⟨h, g, d, t, os⟩ := by
  repeat (first | with_reducible refine wpAny_loadPart_at hC ?_ | with_reducible refine wpAny_madeBy_exc hC ?_ | wp_step)
  refine codeAny_call_builtin_code (Code.quiet_builtin _ F.quiet) (check_new_kw F hT hC ?_)
  refine new_kw F hT hC ?_
  show wpAny _ _ _ _ _ _
  have k : ∀ b o, h.get? b = some o → ((h.push (W.kdv_tup [])).push (excO C h.objs.size)).get? b = some o := fun b o e => Heap.get?_push_of_some _ (Heap.get?_push_of_some _ e)
  have hC₁ := k _ _ hC
  have hget : ((h.push (W.kdv_tup [])).push (excO C h.objs.size)).get? (h.objs.size + 1) = some (excO C h.objs.size) := by heap_get
  have hcC : (Value.ref C :: bm).contains (.ref C) = true := by simp
  have i1 := hi.keeps k
  have b1 := (hb (.ref (h.objs.size + 1))).keeps k
  unfold isInstance
  repeat (first | with_reducible refine wpAny_loadPart_at hget ?_ | (with_reducible refine wpAny_isSubtype_exc hC₁ ?_; rw [hcC]) | wp_step)
  show wpAny _ _ (typeLookup (.ref C) _) _ _ _
  refine i1.at ?_
  refine wpAny_holding (wpAny_bind (b1.at ?_))
  refine wpAny_bind (wpAny_call (codeAny_mono hq fun r s' z => ?_))
  rcases r with e | (v | _ | _ | _) <;> first | exact z | exact z.elim | skip
  obtain ⟨rfl, z⟩ := z
  first
    | exact wpAny_pure (wpAny_pure z)
    | (wp_walk; exact z)
theorem check_type_call_kw {M : Model} {x : Str} {y : Value} {Q : Unit → Shared → Prop} (hC : h.get? C = some (excClassObj nm q C N bs bm hdct sn sub ab col dd k0 k1 k2 k3 k5 newId))
    (hq : Q () ⟨h, g, d, t, os⟩) : wpAny M A (checkBuiltinCall "type.__call__" ⟨[.ref C], [(x, y)]⟩) Q E ⟨h, g, d, t, os⟩ := by
  have f3 := tc_sub
  have hT : (⟨h, g, d, t, os⟩ : Shared).TypeIs (.ref C) "type" := ⟨_, hC, rfl⟩
  simp only [checkBuiltinCall, tc_kind, tc_split]
  repeat (any_goals (first | assumption | with_reducible refine wpAny_loadPart_at hC ?_ | with_reducible refine wpAny_onRaise ?_ | with_reducible refine wpAny_map ?_ | wp_step))
theorem call_kw (F : ExcBaseFacts B newId initId bmB) (hT : ∀ X : String, bm.contains (.type X) = bmB.contains (.type X)) {x : Str} {y : Value} {fI : Addr}
    (hC : h.get? C = some (excClassObj nm q C N bs bm hdct sn sub ab col dd k0 k1 k2 k3 k5 newId))
    (hi : W.Looks (model prog w) h (typeLookup (.ref C) "__init__") (some (.ref fI))) (hb : ∀ self, W.Looks (model prog w) h (bindSpecial (.ref fI) self) (.ref fI, [self]))
    (hq : codeAny (model prog w) (A.under (.builtin "type.__call__" ⟨[.ref C], [(x, y)]⟩)) (.call (.ref fI) ⟨[.ref (h.objs.size + 1)], [(x, y)]⟩) (W.InitBack (h.objs.size + 1) R)
      ⟨(h.push (W.kdv_tup [])).push (excO C h.objs.size), g, d, t, os⟩) :
    codeAny (model prog w) A (.call (.ref C) ⟨[], [(x, y)]⟩) R ⟨h, g, d, t, os⟩ := by
  have f1 := tc_lookup
  have f2 := tc_bind (.ref C)
  have hTy : (⟨h, g, d, t, os⟩ : Shared).TypeIs (.ref C) "type" := ⟨_, hC, rfl⟩
  refine codeAny_of_tree ?_
  show wpAny _ _ (callAny (.ref C) _) _ _ _
  repeat (any_goals (first | assumption | with_reducible refine wpAny_loadPart_at hC ?_ | wp_step))
  refine ⟨rfl, ?_⟩
  refine codeAny_call_builtin_at (Code.quiet_builtin _ (by decide +kernel)) entry_typeCall (check_type_call_kw hC (type_call_kw F hT hC hi hb ?_))
  refine codeAny_mono hq fun r s' z => ?_
  rcases r with e | (v | _ | _ | _) <;> exact z
end
end HandSPX
end PySem

namespace NM
open PySem L2 PySem.Spec PyProof.Rows
/-- what the written part says of an own error with one field -/
structure OexA (K : Fg) (C : Addr) : Prop where
  cls : ∃ nm q N bs bm sn sub ab col dd k0 k1 k2 k3 k5 B newId initId bmB, K.lookup C = some (excClassObj nm q C N bs bm true sn sub ab col dd k0 k1 k2 k3 k5 newId) ∧ ExcBaseFacts B newId initId bmB ∧ ∀ Y : String, bm.contains (.type Y) = bmB.contains (.type Y)
  kC : PySem.W.keepIn K (.ref C) = true
theorem oexA {K : Fg} {C : Addr} (T : OexC K C) : OexA K C := by
  obtain ⟨nm, q, N, bs, bm, sn, sub, ab, col, dd, k0, k1, k2, k3, k5, hC, hbm⟩ := T.cls
  exact ⟨⟨_, _, _, _, _, _, _, _, _, _, _, _, _, _, _, _, _, _, _, hC, F.excBase_ValueError, fun Y => PySem.HandSPX.refsVE_contains Y bm hbm⟩, T.kC⟩
theorem oexI {K : Fg} {C : Addr} (T : OexI K C) : OexA K C := by
  obtain ⟨nm, q, N, bs, bm, sn, sub, ab, col, dd, k0, k1, k2, k3, k5, hC, hbm⟩ := T.cls
  exact ⟨⟨_, _, _, _, _, _, _, _, _, _, _, _, _, _, _, _, _, _, _, hC, F.excBase_IndexError, fun Y => by rw [hbm]⟩, T.kC⟩
section
variable {X : Cx}
/-- the end of C(e) as a value: its dict stands as an exception's dict -/
theorem mk_endV {pins : List (Addr × Obj)} {σ : L2.St} {H1 H2 : Hp} {hp hp2 h2 : Heap} {g1 g2 : Array GenState} {d1 d2 : Drawn} {t1 t2 : Nat} {os1 os2 : OsState} {a C d : Addr} {fs : List (Str × V)} (I1 : Inv X pins σ H1 ⟨hp, g1, d1, t1, os1⟩)
    (ha : hp.objs.size ≤ a) (k : ∀ b o, hp.get? b = some o → hp2.get? b = some o) (un : Un (frs X.stack) [] (upd H1 a (exo a C none)) H2 hp2 h2) (hok : HOk X.prog X.w H2 h2) (ho : os2 = os1) (hb : AllBare g2)
    (ed : H2 d = some (exd d fs)) (hd1 : H1 d = none) : Inv X pins σ (upd H2 d (.xd fs)) ⟨h2, g2, d2, t2, os2⟩ := by
  obtain ⟨mA, hns, rel⟩ := exd_at hok ed
  have hn : H1 a = none := I1.hok.fresh ha
  have nha : ∀ {b : Addr} {o : Obj}, hp.get? b = some o → b ≠ a := fun {b o} z => Nat.ne_of_lt (Nat.lt_of_lt_of_le (Heap.lt_size z) ha)
  have up : ∀ {b : Addr}, b ≠ a → H1 b = none → upd H1 a (exo a C none) b = none := fun {b} hb n => by rw [upd_ne hb]; exact n
  have nd : ∀ {b : Addr} {o : Obj}, hp.get? b = some o → H1 b = none → b ≠ d := fun {b o} z n e => by
    have y := un.free b o (k b o z) (up (nha z) n) (by simp)
    rw [e, ed] at y
    cases y
  have U : Un (frs X.stack) [] H1 (upd H2 d (.xd fs)) hp h2 := {
    keep := fun b o z n hf hx => un.keep b o (k b o z) (up (nha z) n) hf hx
    slot := fun b o z n hf hx => un.slot b o (k b o z) (up (nha z) n) hf hx
    free := fun b o z n hx => by
      rw [upd_ne (nd z n)]
      exact un.free b o (k b o z) (up (nha z) n) hx
    there := fun b o z hx => un.there b o (k b o z) hx
    tups := fun b xs z => by
      rw [upd_ne (ne_of_none z hd1)]
      exact un.tups b xs (by rw [upd_ne (ne_of_none z hn)]; exact z)
    frzs := fun b o v z => by
      rw [upd_ne (ne_of_none z hd1)]
      exact un.frzs b o v (by rw [upd_ne (ne_of_none z hn)]; exact z)
    tbls := fun b ps z => by
      rw [upd_ne (ne_of_none z hd1)]
      exact un.tbls b ps (by rw [upd_ne (ne_of_none z hn)]; exact z) }
  have hok3 : HOk X.prog X.w (upd H2 d (.xd fs)) h2 := fun b o z => by
    by_cases hbd : b = d
    · subst hbd
      rw [upd_same] at z
      cases z
      exact ⟨mA, hns, rel⟩
    · rw [upd_ne hbd] at z
      exact (hok b o z).stay (fun c v hc y => y) (fun c hc => by rw [upd_ne (at_ne ed hc exd_own)]; exact hc) (fun c xs hc => by rw [upd_ne (at_ne ed hc exd_tup)]; exact hc)
  exact I1.call' (ch := []) ho U hok3 hb (fun b z => absurd z (by simp))
theorem exc_run {pins : List (Addr × Obj)} {σ : L2.St} {H : Hp} {s : Shared} {Q : VK} {C fI : Addr} {fd : FuncData} {fld : Str} {u : Value} {v : V} (T : OexA X.K C) (iC : PySem.W.findIn X.K (.ref C) "__init__" = some (some (.ref fI))) (tI : PySem.W.typeIn X.K (.ref fI) = some (.type "function"))
    (F1 : FnOk X.prog X.w X.K X.mg X.base (fun _ _ _ _ _ _ => False) 1 fI fd ["self", fld] (spEr C fld)) (hr : Room 2 X.A) (hb : Binds X.K fd ["self", fld] []) (I : Inv X pins σ H s) (r : RelV v u)
    (h : ∀ a d, H a = none → H d = none → d ≠ a → Q (.ref a) (upd (upd H a (exo a C (some d))) d (.xd [(fld, v)]))) :
    wpAny (model X.prog X.w) X.A (call (.ref C) [u]) (EP X pins σ Q) X.xe s := by
  obtain ⟨nm, q, N, bs, bm, sn, sub, ab, col, dd, k0, k1, k2, k3, k5, B, newId, initId, bmB, hC, FB, hT⟩ := T.cls
  obtain ⟨hp, g, dr, tk, os⟩ := s
  have up : hp.objs.size ≤ hp.objs.size + 1 := Nat.le_succ _
  have hn := I.hok.fresh up
  have hq : spEr C fld [.ref (hp.objs.size + 1), v] (upd H (hp.objs.size + 1) (exo (hp.objs.size + 1) C none)) (fun w H2 => w = .non ∧ ∃ d, H d = none ∧ d ≠ hp.objs.size + 1 ∧ H2 = upd (upd (upd H (hp.objs.size + 1) (exo (hp.objs.size + 1) C none)) d (exd d [(fld, v)])) (hp.objs.size + 1) (exo (hp.objs.size + 1) C (some d))) (fun _ _ _ => False) :=
    ⟨_, _, rfl, upd_same, fun d hd hne => ⟨rfl, d, by rw [upd_ne hne] at hd; exact hd, hne, rfl⟩⟩
  generalize hh2 : (hp.push (PySem.W.kdv_tup [u])).push (PySem.HandSPX.excO C hp.objs.size) = hp2
  have stay : ∀ b o, hp.get? b = some o → hp2.get? b = some o := fun b o e => by rw [← hh2]; exact Heap.get?_push_of_some _ (Heap.get?_push_of_some _ e)
  have there : hp2.get? (hp.objs.size + 1) = some (PySem.HandSPX.excO C hp.objs.size) := by rw [← hh2]; heap_get
  have I2 : Inv X pins σ (upd H (hp.objs.size + 1) (exo (hp.objs.size + 1) C none)) ⟨hp2, g, dr, tk, os⟩ :=
    I.laid (t' := tk) (a := hp.objs.size + 1) (o := exo (hp.objs.size + 1) C none) (h' := hp2) stay up (exo_ok there)
  have r2 : Vals [V.ref (hp.objs.size + 1), v] [Value.ref (hp.objs.size + 1), u] := .cons rfl (.cons r .nil)
  have body := F1.run (A := (X.A.under (Code.builtin "type.__call__" ⟨.ref C :: [u], []⟩))) X.stack _ _ ⟨Value.ref (hp.objs.size + 1) :: [u], []⟩ [Value.ref (hp.objs.size + 1), u] _ _ (fun _ _ _ => False) (hr.make C [u] []) (I2.env0.make C [u] []) (hb _ [Value.ref (hp.objs.size + 1), u] I2.kIn rfl) r2 hq
  refine wpAny_call (PySem.HandSPX.call_own FB hT (I.kIn _ _ hC) (PySem.W.looks_findIn I.kIn iC) (fun self => PySem.W.bind_fn I.kIn self tI) (show 1 ≤ sizeLine by decide) ?_)
  rw [hh2]
  refine codeAny_mono body fun r s' hq' => ?_
  cases r with
  | error er => exact hq'.elim
  | ok fl =>
    cases fl with
    | next => exact False.elim hq'
    | brk => exact False.elim hq'
    | cont => exact False.elim hq'
    | ret u' =>
      obtain ⟨v', H2, os2, bare2, un2, hok2, rv, ev, d, hd1, hne, rfl⟩ := hq'
      obtain ⟨h2, g2, d2, t2, os'⟩ := s'
      subst ev
      have e3 : upd (upd (upd (upd H (hp.objs.size + 1) (exo (hp.objs.size + 1) C none)) d (exd d [(fld, v)])) (hp.objs.size + 1) (exo (hp.objs.size + 1) C (some d))) d (.xd [(fld, v)]) = upd (upd H (hp.objs.size + 1) (exo (hp.objs.size + 1) C (some d))) d (.xd [(fld, v)]) := by
        funext b
        by_cases b1 : b = d
        · rw [b1, upd_same, upd_same]
        · rw [upd_ne b1, upd_ne b1]
          by_cases b2 : b = hp.objs.size + 1
          · rw [b2, upd_same, upd_same]
          · rw [upd_ne b2, upd_ne b1, upd_ne b2, upd_ne b2]
      have J := mk_endV (d2 := d2) (t2 := t2) I up stay un2 hok2 os2 bare2 (d := d) (fs := [(fld, v)]) (by rw [upd_ne hne, upd_same]) hd1
      rw [e3] at J
      exact ⟨rv, .ref (hp.objs.size + 1), _, J, rfl, h _ _ hn hd1 hne⟩
theorem exc_runK {pins : List (Addr × Obj)} {σ : L2.St} {H : Hp} {s : Shared} {Q : VK} {C fI : Addr} {fd : FuncData} {fld : Str} {u : Value} {v : V} (T : OexA X.K C) (iC : PySem.W.findIn X.K (.ref C) "__init__" = some (some (.ref fI))) (tI : PySem.W.typeIn X.K (.ref fI) = some (.type "function"))
    (F1 : FnOk X.prog X.w X.K X.mg X.base (fun _ _ _ _ _ _ => False) 1 fI fd ["self", fld] (spEr C fld)) (hr : Room 2 X.A) (hb : ∀ (s : Shared) (a u : Value), BindsTo s fd ⟨[a], [(fld, u)]⟩ [("self", a), (fld, u)]) (I : Inv X pins σ H s) (r : RelV v u)
    (h : ∀ a d, H a = none → H d = none → d ≠ a → Q (.ref a) (upd (upd H a (exo a C (some d))) d (.xd [(fld, v)]))) :
    wpAny (model X.prog X.w) X.A (call (.ref C) [] [(fld, u)]) (EP X pins σ Q) X.xe s := by
  obtain ⟨nm, q, N, bs, bm, sn, sub, ab, col, dd, k0, k1, k2, k3, k5, B, newId, initId, bmB, hC, FB, hT⟩ := T.cls
  obtain ⟨hp, g, dr, tk, os⟩ := s
  have up : hp.objs.size ≤ hp.objs.size + 1 := Nat.le_succ _
  have hn := I.hok.fresh up
  have hq : spEr C fld [.ref (hp.objs.size + 1), v] (upd H (hp.objs.size + 1) (exo (hp.objs.size + 1) C none)) (fun w H2 => w = .non ∧ ∃ d, H d = none ∧ d ≠ hp.objs.size + 1 ∧ H2 = upd (upd (upd H (hp.objs.size + 1) (exo (hp.objs.size + 1) C none)) d (exd d [(fld, v)])) (hp.objs.size + 1) (exo (hp.objs.size + 1) C (some d))) (fun _ _ _ => False) :=
    ⟨_, _, rfl, upd_same, fun d hd hne => ⟨rfl, d, by rw [upd_ne hne] at hd; exact hd, hne, rfl⟩⟩
  generalize hh2 : (hp.push (PySem.W.kdv_tup [])).push (PySem.HandSPX.excO C hp.objs.size) = hp2
  have stay : ∀ b o, hp.get? b = some o → hp2.get? b = some o := fun b o e => by rw [← hh2]; exact Heap.get?_push_of_some _ (Heap.get?_push_of_some _ e)
  have there : hp2.get? (hp.objs.size + 1) = some (PySem.HandSPX.excO C hp.objs.size) := by rw [← hh2]; heap_get
  have I2 : Inv X pins σ (upd H (hp.objs.size + 1) (exo (hp.objs.size + 1) C none)) ⟨hp2, g, dr, tk, os⟩ :=
    I.laid (t' := tk) (a := hp.objs.size + 1) (o := exo (hp.objs.size + 1) C none) (h' := hp2) stay up (exo_ok there)
  have r2 : Vals [V.ref (hp.objs.size + 1), v] [Value.ref (hp.objs.size + 1), u] := .cons rfl (.cons r .nil)
  have body := F1.run (A := (X.A.under (Code.builtin "type.__call__" ⟨.ref C :: [], [(fld, u)]⟩))) X.stack _ _ ⟨Value.ref (hp.objs.size + 1) :: [], [(fld, u)]⟩ [Value.ref (hp.objs.size + 1), u] _ _ (fun _ _ _ => False) (hr.make C [] [(fld, u)]) (I2.env0.make C [] [(fld, u)]) (hb _ _ _) r2 hq
  refine wpAny_call (PySem.HandSPX.call_kw FB hT (I.kIn _ _ hC) (PySem.W.looks_findIn I.kIn iC) (fun self => PySem.W.bind_fn I.kIn self tI) ?_)
  rw [hh2]
  refine codeAny_mono body fun r s' hq' => ?_
  cases r with
  | error er => exact hq'.elim
  | ok fl =>
    cases fl with
    | next => exact False.elim hq'
    | brk => exact False.elim hq'
    | cont => exact False.elim hq'
    | ret u' =>
      obtain ⟨v', H2, os2, bare2, un2, hok2, rv, ev, d, hd1, hne, rfl⟩ := hq'
      obtain ⟨h2, g2, d2, t2, os'⟩ := s'
      subst ev
      have e3 : upd (upd (upd (upd H (hp.objs.size + 1) (exo (hp.objs.size + 1) C none)) d (exd d [(fld, v)])) (hp.objs.size + 1) (exo (hp.objs.size + 1) C (some d))) d (.xd [(fld, v)]) = upd (upd H (hp.objs.size + 1) (exo (hp.objs.size + 1) C (some d))) d (.xd [(fld, v)]) := by
        funext b
        by_cases b1 : b = d
        · rw [b1, upd_same, upd_same]
        · rw [upd_ne b1, upd_ne b1]
          by_cases b2 : b = hp.objs.size + 1
          · rw [b2, upd_same, upd_same]
          · rw [upd_ne b2, upd_ne b1, upd_ne b2, upd_ne b2]
      have J := mk_endV (d2 := d2) (t2 := t2) I up stay un2 hok2 os2 bare2 (d := d) (fs := [(fld, v)]) (by rw [upd_ne hne, upd_same]) hd1
      rw [e3] at J
      exact ⟨rv, .ref (hp.objs.size + 1), _, J, rfl, h _ _ hn hd1 hne⟩
end
end NM
namespace PySem
namespace HandSPX
open Builtin Builtin.ObjectAttr
section
variable {prog : Program} {w : World} {A : Around} {E : Value → Shared → Prop} {R : Result → Shared → Prop} {h : Heap} {g : Array GenState} {d : Drawn} {t : Nat} {os : OsState}
variable {nm q : Str} {C N : Addr} {bs bm bmB : List Value} {hdct : Bool} {sn : List Str} {sub : List Value} {ab : Bool} {col : Option Bool} {dd : Option Addr} {k0 k1 k2 k3 k5 : Option Value} {B newId initId : String}
theorem type_call_base0 (F : ExcBaseFacts B newId initId bmB) (hT : ∀ X : String, bm.contains (.type X) = bmB.contains (.type X)) {Q : Fin → Shared → Prop}
    (hC : h.get? C = some (excClassObj nm q C N bs bm hdct sn sub ab col dd k0 k1 k2 k3 k5 newId))
    (hi : W.Looks (model prog w) h (typeLookup (.ref C) "__init__") (some (.builtin initId)))
    (hq : ∀ h', (∀ b o, h.get? b = some o → h'.get? b = some o) → (∃ t1, h'.get? (h.objs.size + 1) = some (excO C t1)) → Q (.done (.ret (.ref (h.objs.size + 1)))) ⟨h', g, d, t, os⟩) :
    wpAny (model prog w) A (Builtin.«type.__call__» ⟨[.ref C], []⟩) Q E ⟨h, g, d, t, os⟩ := by
  repeat (first | with_reducible refine wpAny_loadPart_at hC ?_ | with_reducible refine wpAny_madeBy_exc hC ?_ | wp_step)
  refine codeAny_call_builtin_code (Code.quiet_builtin _ F.quiet) (check_new_own F hT hC ?_)
  refine new_own F hT hC ?_ (Nat.zero_le _)
  show wpAny _ _ _ _ _ _
  have k : ∀ b o, h.get? b = some o → ((h.push (W.kdv_tup [])).push (excO C h.objs.size)).get? b = some o := fun b o e => Heap.get?_push_of_some _ (Heap.get?_push_of_some _ e)
  have hC₁ := k _ _ hC
  have hget : ((h.push (W.kdv_tup [])).push (excO C h.objs.size)).get? (h.objs.size + 1) = some (excO C h.objs.size) := by heap_get
  have hcC : (Value.ref C :: bm).contains (.ref C) = true := by simp
  have i1 := hi.keeps k
  unfold isInstance
  repeat (first | with_reducible refine wpAny_loadPart_at hget ?_ | (with_reducible refine wpAny_isSubtype_exc hC₁ ?_; rw [hcC]) | wp_step)
  show wpAny _ _ (typeLookup (.ref C) _) _ _ _
  refine i1.at ?_
  refine wpAny_holding (wpAny_bind (wpAny_of_eq (F.init.bind _) ?_))
  refine wpAny_bind (wpAny_call (init_base F hT hC₁ hget (Nat.zero_le _) fun h' t1 kk ge => ?_))
  have hne : ∀ {b : Addr} {o : Obj}, h.get? b = some o → b ≠ h.objs.size + 1 := fun {b o} e => Nat.ne_of_lt (Nat.lt_succ_of_lt (Heap.lt_size e))
  have fin := hq h' (fun b o e => kk b o (hne e) (k b o e)) ⟨t1, ge⟩
  first
    | exact wpAny_pure (wpAny_pure fin)
    | (wp_walk; exact fin)
theorem call_base0 (F : ExcBaseFacts B newId initId bmB) (hT : ∀ X : String, bm.contains (.type X) = bmB.contains (.type X)) {Q : Value → Shared → Prop}
    (hC : h.get? C = some (excClassObj nm q C N bs bm hdct sn sub ab col dd k0 k1 k2 k3 k5 newId))
    (hi : W.Looks (model prog w) h (typeLookup (.ref C) "__init__") (some (.builtin initId)))
    (hq : ∀ h', (∀ b o, h.get? b = some o → h'.get? b = some o) → (∃ t1, h'.get? (h.objs.size + 1) = some (excO C t1)) → Q (.ref (h.objs.size + 1)) ⟨h', g, d, t, os⟩) :
    wpAny (model prog w) A (call (.ref C) []) Q E ⟨h, g, d, t, os⟩ := by
  have f1 := tc_lookup
  have f2 := tc_bind (.ref C)
  have hT' : (⟨h, g, d, t, os⟩ : Shared).TypeIs (.ref C) "type" := ⟨_, hC, rfl⟩
  refine wpAny_call (codeAny_of_tree ?_)
  show wpAny _ _ (callAny (.ref C) _) _ _ _
  repeat (any_goals (first | assumption | with_reducible refine wpAny_loadPart_at hC ?_ | wp_step))
  refine ⟨rfl, ?_⟩
  refine codeAny_call_builtin_at (Code.quiet_builtin _ (by decide +kernel)) entry_typeCall (wpAny_check_type_call_sub hC (type_call_base0 F hT hC hi fun h' k e => ?_))
  exact hq h' k e
end
end HandSPX
end PySem
namespace NM
open PySem L2 PySem.Spec PyProof.Rows
/-- at a: an error of the class at C, its dict at d -/
abbrev exA (C : Addr) (d : Option Addr) : Addr → HO := fun a => exo a C d
/-- an own error that can be made: its class at C, its field fld -/
structure ErA (P : Program) (w : World) (K : Fg) (mg : Str → Option Value) (base : Heap) (x : Str) (C : Addr) (fld : Str) : Prop where
  ex : ∃ f fd, OexA K C ∧ PySem.W.findIn K (.ref C) "__init__" = some (some (.ref f)) ∧ PySem.W.typeIn K (.ref f) = some (.type "function") ∧ FnOk P w K mg base (fun _ _ _ _ _ _ => False) 1 f fd ["self", fld] (spEr C fld) ∧ Binds K fd ["self", fld] [] ∧ (∀ (s : Shared) (a u : Value), BindsTo s fd ⟨[a], [(fld, u)]⟩ [("self", a), (fld, u)]) ∧ mg x = some (.ref C)
theorem exc_ws {K : Fg} {ω : Om} {P H : Hp} {as : List Addr} {a C d : Addr} {fld : Str} {v : V} {x : Dt} (w : Ws K ω P H as) (ha : H a = none) (hd : H d = none) (hne : d ≠ a) (av : At K P as v x) :
    Ws K (ω ++ [.any (exA C (some d)), .xd d [(fld, x)]]) P (upd (upd H a (exo a C (some d))) d (.xd [(fld, v)])) (as ++ [a] ++ [d]) ∧ Gr P H as P (upd (upd H a (exo a C (some d))) d (.xd [(fld, v)])) (as ++ [a] ++ [d]) ∧ (as ++ [a] ++ [d])[ω.length]? = some a := by
  obtain ⟨w1, g1⟩ := w.newO (o := exo a C (some d)) (u := .any (exA C (some d))) ha ⟨(w.fresh ha).2, upd_same⟩
  have hd1 : upd H a (exo a C (some d)) d = none := by rw [upd_ne hne]; exact hd
  have av2 : At K P (as ++ [a] ++ [d]) v x := av.mono (Same.refl _) ((List.prefix_append _ _).trans (List.prefix_append _ _))
  obtain ⟨w2, g2⟩ := w1.newO (o := .xd [(fld, v)]) (u := .xd d [(fld, x)]) hd1 ⟨rfl, (w1.fresh hd1).2, _, upd_same, rfl, .cons av2 .nil⟩
  refine ⟨by rw [List.append_assoc] at w2; exact w2, g1.trans g2, ?_⟩
  rw [← w.len, List.append_assoc]
  simp
section
variable {X : Cx} {ρ : Rho} {ω : Om} {Ψ : PsiE} {ε : PsiX} {e e2 : Expr} {pos : Pos}
/-- C(e), an own error as a value -/
theorem ev_exc {x fld : Str} {C : Addr} {p : Pos} (G : ErA X.prog X.w X.K X.mg X.base x C fld) (hr : Rm 2 X.A) (h : EA X ρ ω [e] (fun ds ω1 => ∃ d, ds = [d] ∧ ∀ dA, Ψ (.own ω1.length) (ω1 ++ [.any (exA C (some dA)), .xd dA [(fld, d)]])) ε)
    (hg : Gl X x := by rfl) (hdb : (x == ("__debug__" : Str)) = false := by decide) (he : starEach [e] X.env = (false, eval e X.env) :: starEach [] X.env := by rfl) (hpl : (backTo pos (starEach [] X.env)).any (·.1) = false := by rfl) :
    EV X ρ ω (.Call (.Name x p) [e] [] pos) Ψ ε := fun σ P H as Q w en xk q => by
  obtain ⟨f, fd, T, iC, tI, F, hb, hk, hm⟩ := G.ex
  have z : sA X [e] σ H (fun vs H1 => ∀ pins s us, Inv X pins σ H1 s → Vals vs us → wpAny (model X.prog X.w) X.A (call (.ref C) us) (EP X pins σ Q) X.xe s) := h σ P H as _ w en xk fun vs ds ω1 P1 H1 as1 w1 g1 al k pins s us I r => by
    obtain ⟨d, rfl, k⟩ := k
    obtain ⟨v, rfl, av⟩ := one_of al
    obtain ⟨u, rfl, ru⟩ := vals1 r
    refine exc_run T iC tI F hr.r hb I ru fun a dx ha hd hne => ?_
    obtain ⟨w2, g2, h2⟩ := exc_ws w1 ha hd hne av
    exact q _ _ _ _ _ _ w2 (g1.trans g2) (.own h2) (k dx)
  refine .mk fun pins s I => wpAny_Call_Name_kw (ld_glob I hg hm ?_ hdb)
  refine PySem.W.callWith_K (h₀ := X.base) I.ok.mod.kin T.kC (thn (z.run pos pins s I) fun us s1 ⟨vs, H1, I1, r, q⟩ => ⟨I1.kIn, ?_⟩) he hpl
  exact q pins s1 us I1 r
/-- C(fld = e), an own error as a value -/
theorem ev_excK {x fld : Str} {C : Addr} {p : Pos} {kws : List Keyword} (G : ErA X.prog X.w X.K X.mg X.base x C fld) (hr : Rm 2 X.A) (h : EK X ρ ω kws (fun ds ω1 => ∃ d, ds = [d] ∧ ∀ dA, Ψ (.own ω1.length) (ω1 ++ [.any (exA C (some dA)), .xd dA [(fld, d)]])) ε)
    (hg : Gl X x := by rfl) (hall : (backToKw pos (keywordEach kws X.env)).all (·.1.isSome) = true := by rfl) (hks : (backToKw pos (keywordEach kws X.env)).filterMap (·.1) = [fld] := by rfl) (hdb : (x == ("__debug__" : Str)) = false := by decide)
    (hpl : ((backTo pos (starEach [] X.env)).any (·.1) || (backToKw pos (keywordEach kws X.env)).any (·.1.isNone)) = false := by rfl) :
    EV X ρ ω (.Call (.Name x p) [] kws pos) Ψ ε := fun σ P H as Q w en xk q => by
  obtain ⟨f, fd, T, iC, tI, F, hb, hk, hm⟩ := G.ex
  have z : sK X kws σ H (fun vs H1 => ∀ pins s us, Inv X pins σ H1 s → Vals vs us → wpAny (model X.prog X.w) X.A (call (.ref C) [] ([fld].zip us)) (EP X pins σ Q) X.xe s) := h σ P H as _ w en xk fun vs ds ω1 P1 H1 as1 w1 g1 al k pins s us I r => by
    obtain ⟨d, rfl, k⟩ := k
    obtain ⟨v, rfl, av⟩ := one_of al
    obtain ⟨u, rfl, ru⟩ := vals1 r
    refine exc_runK T iC tI F hr.r hk I ru fun a dx ha hd hne => ?_
    obtain ⟨w2, g2, h2⟩ := exc_ws w1 ha hd hne av
    exact q _ _ _ _ _ _ w2 (g1.trans g2) (.own h2) (k dx)
  refine .mk fun pins s I => wpAny_Call_Name_kw (ld_glob I hg hm ?_ hdb)
  refine PySem.W.callWith_KW0 (h₀ := X.base) I.ok.mod.kin T.kC hall (thn (z.run pos pins s I) fun us s1 ⟨vs, H1, I1, r, q⟩ => ⟨I1.kIn, ?_⟩) hpl
  rw [hks]
  exact q pins s1 us I1 r
/-- what the written part says of an own error without an __init__ -/
structure Ex0 (K : Fg) (C : Addr) : Prop where
  cls : ∃ nm q N bs bm sn sub ab col dd k0 k1 k2 k3 k5, K.lookup C = some (excClassObj nm q C N bs bm true sn sub ab col dd k0 k1 k2 k3 k5 "ValueError.__new__") ∧ PySem.HandSPX.refsVE bm = true
  init : PySem.W.findIn K (.ref C) "__init__" = some (some (.builtin "ValueError.__init__"))
  kC : PySem.W.keepIn K (.ref C) = true
/-- C(), an own error without a field -/
theorem ev_exc0 {x : Str} {C : Addr} {p : Pos} (T : Ex0 X.K C) (hm : X.mg x = some (.ref C)) (h : Ψ (.own ω.length) (ω ++ [.any (exA C none)])) (hg : Gl X x := by rfl)
    (hdb : (x == ("__debug__" : Str)) = false := by decide) : EV X ρ ω (.Call (.Name x p) [] [] pos) Ψ ε := fun σ P H as Q w en xk q => .mk fun pins s I => by
  obtain ⟨nm, qn, N, bs, bm, sn, sub, ab, col, dd, k0, k1, k2, k3, k5, hC, hbm⟩ := T.cls
  refine wpAny_Call_Name_kw (ld_glob I hg hm (PySem.W.callWith_K0 I.kIn T.kC ?_) hdb)
  show wpAny _ _ (call (.ref C) []) _ _ _
  obtain ⟨hp, g, dr, tk, os⟩ := s
  refine PySem.HandSPX.call_base0 F.excBase_ValueError (fun Y => PySem.HandSPX.refsVE_contains Y bm hbm) (I.kIn _ _ hC) (PySem.W.looks_findIn I.kIn T.init) (fun h' kk ⟨t1, ge⟩ => ?_)
  have up : hp.objs.size ≤ hp.objs.size + 1 := Nat.le_succ _
  have hn : H (hp.objs.size + 1) = none := I.hok.fresh up
  obtain ⟨w1, g1⟩ := w.newO (o := exo (hp.objs.size + 1) C none) (u := .any (exA C none)) hn ⟨(w.fresh hn).2, upd_same⟩
  exact ⟨.ref (hp.objs.size + 1), upd H (hp.objs.size + 1) (exo (hp.objs.size + 1) C none), I.laid (t' := tk) (a := hp.objs.size + 1) (o := exo (hp.objs.size + 1) C none) (h' := h') kk up (exo_ok ge), rfl, q _ _ _ _ _ _ w1 g1 (.own (by rw [← w.len]; simp)) h⟩
/-- an own error that is held -/
inductive ExD (ω : Om) (C : Addr) : Dt → Prop
  | f {n m : Nat} {dA : Addr} {fs : List (Str × Dt)} (h : ω[n]? = some (.any (exA C (some dA)))) (g : ω[m]? = some (.xd dA fs)) : ExD ω C (.own n)
  | o {n : Nat} (h : ω[n]? = some (.any (exA C none))) : ExD ω C (.own n)
theorem any_at {K : Fg} {P H : Hp} {as : List Addr} {n : Nat} {o : Addr → HO} {a : Addr} (w : Ws K ω P H as) (hn : ω[n]? = some (.any o)) (ha : as[n]? = some a) : H a = some (o a) := (w.own n _ _ hn ha).2
def rIsX (K : Fg) (C : Addr) : List V → Hp → VK → Prop := fun xs H Q => ∃ (a : Addr) (dO : Option Addr) (c : V) (cv : Value) (b : Bool), xs = [.ref a, c] ∧ (∀ u, RelV c u → u = cv) ∧ H a = some (exo a C dO) ∧ (∀ d, dO = some d → ∃ fvs, H d = some (.xd fvs)) ∧ PySem.W.kitOne K (.ref C) cv = some b ∧ Q (.bl b) H
theorem call_isX {C : Addr} (T : ExcC X.K C) : CallR X (.builtin "isinstance") (rIsX X.K C) := by
  intro pins s σ H xs us Q I r h
  obtain ⟨a, dO, c, cv, b, rfl, hcv, hea, hd, k, q⟩ := h
  obtain ⟨u1, u2, rfl, r1, r2⟩ := vals2 r
  cases (show u1 = Value.ref a from r1)
  have e2 := hcv _ r2
  subst e2
  obtain ⟨t0, ha⟩ := exo_at I.hok hea
  have J : ∃ oe od, PySem.W.InstAt s.heap a oe C od := by
    cases dO with
    | none => exact ⟨_, none, ha, rfl, rfl, trivial⟩
    | some d =>
      obtain ⟨fvs, hd⟩ := hd d rfl
      have hx : ObjOk X.prog X.w H s.heap d (.xd fvs) := I.hok d _ hd
      obtain ⟨mA, hns, _⟩ := hx
      obtain ⟨od, ho, _⟩ := lookIn_ns hns
      exact ⟨_, some od, ha, rfl, rfl, ho⟩
  obtain ⟨oe, od, J⟩ := J
  exact PySem.W.kia_one (kit_held T) I.kIn J k (fun z => nomatch z) fun tk => ⟨.bl b, H, I.kept (t' := tk) fun _ _ z => z, rfl, q⟩
theorem cd_isX {C : Addr} {x c : Dt} {u : Value} {k : Bool} (T : ExcC X.K C) (hx : ExD ω C x) (hc : ClsD c u) (hk : PySem.W.kitOne X.K (.ref C) u = some k) (h : Ψ (.bl k) ω) :
    CD X (.builtin "isinstance") [x, c] ω Ψ ε := cd_of (call_isX T) fun vs P H as Q w al q => by
  obtain ⟨v1, v2, rfl, a1, a2⟩ := two_of al
  have hv : ∀ z, RelV v2 z → z = u := fun z hz => by
    cases cls_at hc a2 with
    | ty n => exact hz
    | own D => exact hz
  cases hx with
  | f hn hm =>
    cases a1 with
    | own ha =>
      obtain ⟨fvs, h1, _, _⟩ := held_at w hm
      exact ⟨_, _, v2, u, k, rfl, hv, any_at w hn ha, fun d e => by cases e; exact ⟨fvs, h1⟩, hk, q _ _ ω P H as w .refl (.bl k) h⟩
  | o hn =>
    cases a1 with
    | own ha => exact ⟨_, _, v2, u, k, rfl, hv, any_at w hn ha, (fun d e => nomatch e), hk, q _ _ ω P H as w .refl (.bl k) h⟩
/-- the field of an error that is held -/
def tXo (C : Addr) (f : Str) (te : TE) : TE := fun σ H Q => te σ H fun x H1 => ∃ (a dd : Addr) (fs : List (Str × V)) (v : V), x = .ref a ∧ H1 a = some (exo a C (some dd)) ∧ H1 dd = some (.xd fs) ∧ fs.lookup f = some v ∧ Q v H1
theorem pe_xo {C : Addr} {te : TE} {n : Str} (T : XfC X.K C) (hno : PySem.W.findIn X.K (.ref C) n = some none) (he : PE X e te) (hb : attributeBase e n X.env (eval e X.env) = eval e X.env := by rfl) :
    PE X (.Attribute e n pos) (tXo C n te) := by
  refine ⟨fun pins s σ H Q I h => ?_⟩
  refine attr_of hb (thn (he.run pins s σ H _ I h) fun u s1 hh => ?_)
  obtain ⟨x, H1, I1, rx, a, dd, fs, v, ex, hea, ea, l, q⟩ := hh
  subst ex
  obtain rfl : u = Value.ref a := rx
  obtain ⟨t0, ha⟩ := exo_at I1.hok hea
  have hx : ObjOk X.prog X.w H1 s1.heap dd (.xd fs) := I1.hok dd _ ea
  obtain ⟨mA, hns, hr⟩ := hx
  obtain ⟨od, ho, hl⟩ := lookIn_ns hns
  obtain ⟨u, hu, ru⟩ := RelO.some_of (v := v) (o := mA n) (by rw [← l]; exact hr n)
  have J : PySem.W.InstAt s1.heap a _ C (some od) := ⟨ha, rfl, rfl, ho⟩
  exact HandSPX.exc_get I1.kIn J T.ga T.gg T.exC (PySem.W.findObj_own T.hdC hno rfl (by rw [hl, hu])) (handed_of ru) ⟨v, H1, I1.tok _, ru, q⟩
theorem ev_xo {C : Addr} {f : Str} (T : XfC X.K C) (hno : PySem.W.findIn X.K (.ref C) f = some none)
    (h : EV X ρ ω e (fun x ω1 => ∃ (n m : Nat) (dA : Addr) (fs : List (Str × Dt)) (v : Dt), x = .own n ∧ ω1[n]? = some (.any (exA C (some dA))) ∧ ω1[m]? = some (.xd dA fs) ∧ List.lookup f fs = some v ∧ Ψ v ω1) ε) (hb : attributeBase e f X.env (eval e X.env) = eval e X.env := by rfl) :
    EV X ρ ω (.Attribute e f pos) Ψ ε := fun σ P H as Q w en xk q => by
  refine sE_of (pe_xo T hno pE hb) (h σ P H as _ w en xk fun v x ω1 P1 H1 as1 w1 g1 a1 p => ?_)
  obtain ⟨n, m, dA, fs, y, rfl, hn, hm, hl, p⟩ := p
  cases a1 with
  | own ha =>
    obtain ⟨fvs, h1, h2, h3⟩ := held_at w1 hm
    obtain ⟨u, hu, au⟩ := lookup_at h2 h3 hl
    exact ⟨_, dA, fvs, u, rfl, any_at w1 hn ha, h1, hu, q u y ω1 P1 H1 as1 w1 g1 au p⟩
def zipD (ds es : List Dt) : List Dt := List.zipWith (fun x y => Dt.tup [x, y]) ds es
theorem itd_z {K : Fg} {P : Hp} {as : List Addr} {a b : Addr} {d e : Dt} {ds es : List Dt} (ha : At K P as (.ref a) d) (hb : At K P as (.ref b) e) : ItD K (Itz K a b) P as (fun ω' => SqLst ω' d ds ∧ SqLst ω' e es) (zipD ds es) := by
  intro i ω' P' H' as' ep pp w s
  obtain ⟨a', vs, ea, hs, r⟩ := sqRL w s.1 (ha.mono ep pp)
  cases ea
  obtain ⟨b', us, eb, ht, rb⟩ := sqRL w s.2 (hb.mono ep pp)
  cases eb
  refine ⟨fun x hx => ?_, fun hlen => ⟨vs, us, hs, ht, ?_⟩⟩
  · unfold zipD at hx
    rw [List.getElem?_zipWith] at hx
    cases q1 : ds[i]? with
    | none => rw [q1] at hx; cases hx
    | some d1 =>
      cases q2 : es[i]? with
      | none => rw [q1, q2] at hx; cases hx
      | some e1 =>
        rw [q1, q2] at hx
        cases hx
        obtain ⟨v, hv, av⟩ := r.get q1
        obtain ⟨u, hu, au⟩ := rb.get q2
        refine ⟨⟨vs, us, v, u, hs, ht, hv, hu⟩, fun y H2 hy => ?_⟩
        obtain ⟨T, z1, z2, rfl, hT, rfl, hz1, hz2⟩ := hy
        have p1 := hz1 vs hs
        rw [hv] at p1
        cases p1
        have p2 := hz2 us ht
        rw [hu] at p2
        cases p2
        obtain ⟨w2, g2⟩ := w.newP (o := .tup _) hT
        exact ⟨_, w2, g2, .tup (.of upd_same) (.cons (av.mono g2.p g2.a) (.cons (au.mono g2.p g2.a) .nil))⟩
  · unfold zipD at hlen
    rw [List.length_zipWith] at hlen
    rw [r.length, rb.length]
    omega
theorem ei_zip {elts : List Expr} {kk : Nat} {tpos p : Pos} {Θ : List Dt → (Om → Prop) → Om → Prop} (hm : X.mg "zip" = none) (h : EA X ρ ω [e, e2] (fun dd ω1 => ∃ d ds d' ds', dd = [d, d'] ∧ SqLst ω1 d ds ∧ SqLst ω1 d' ds' ∧ Θ (zipD ds ds') (fun ω' => SqLst ω' d ds ∧ SqLst ω' d' ds') ω1) ε)
    (hg : Gl X "zip" := by rfl) (hs : starEach [e, e2] X.env = (false, eval e X.env) :: starEach [e2] X.env := by rfl) (hpl : (backTo pos (starEach [e2] X.env)).any (·.1) = false := by rfl) : EI X ρ ω (.Tuple elts kk tpos) (.Call (.Name "zip" p) [e, e2] [] pos) Θ ε := fun σ P H as R w en xk q => by
  refine sI_of (RZ.pi_zipA hg hm pA hs hpl) (h σ P H as _ w en xk fun vs dd ω1 P1 H1 as1 w1 g1 al k => ?_)
  obtain ⟨d, ds, d', ds', rfl, s, s', k⟩ := k
  obtain ⟨v, v', rfl, av, av'⟩ := two_of al
  obtain ⟨a, us, rfl, hl, r⟩ := sqRL w1 s av
  obtain ⟨a', us', rfl, hl', r'⟩ := sqRL w1 s' av'
  exact ⟨a, a', us, us', rfl, .inl ⟨hl, hl', q (Itz X.K a a') _ _ ω1 P1 H1 as1 w1 g1 (itd_z av av') ⟨s, s'⟩ k⟩⟩
end
end NM
namespace K01
open PySem L2 NM
local macro_rules | `(tactic| walk_at "var") => `(tactic| first | refine ev_var 0 rfl ?_ | refine ev_var 1 rfl ?_ | refine ev_var 2 rfl ?_ | refine ev_var 3 rfl ?_ | refine ev_var 4 rfl ?_ | refine ev_var 5 rfl ?_ | refine ev_var 6 rfl ?_ | refine ev_var 7 rfl ?_ | refine ev_var 8 rfl ?_ | refine ev_var 9 rfl ?_ | refine ev_var 10 rfl ?_ | refine ev_var 11 rfl ?_ | refine ev_var 12 rfl ?_ | refine ev_var 13 rfl ?_ | refine ev_var 14 rfl ?_ | refine ev_var 15 rfl ?_)
local macro_rules | `(tactic| walk_at "own") => `(tactic| first | assumption | rfl | (rw [List.getElem?_set_self (by first | assumption | (simp only [List.length_set]; assumption))]) | (simp; done))
local macro_rules | `(tactic| walk_at "od") => `(tactic| first
  | ((with_reducible show OD _ (binaryOp Operator.Add) _ _ _ _ _); first | refine od_add ?_ | refine od_add_str ?_ ?_)
  | ((with_reducible show OD _ (binaryOp Operator.Sub) _ _ _ _ _); refine od_sub ?_)
  | ((with_reducible show OD _ (binaryOp Operator.Mult) _ _ _ _ _); first | refine od_mul (.inr ⟨by decide, by decide⟩) ?_ | refine od_mul (.inl ⟨by decide, by decide⟩) ?_)
  | ((with_reducible show OD _ (binaryOp Operator.Mod) _ _ _ _ _); refine od_mod (by first | decide | omega) ?_)
  | ((with_reducible show OD _ (binaryOp Operator.FloorDiv) _ _ _ _ _); refine od_fdiv (by first | decide | (constructor <;> omega)) ?_)
  | ((with_reducible show OD _ (binaryOp Operator.Pow) _ _ _ _ _); refine od_pow ⟨by decide, by decide, by decide⟩ ?_)
  | ((with_reducible show OD _ (compareOp CmpOp.Lt) _ _ _ _ _); refine od_lt ?_)
  | ((with_reducible show OD _ (compareOp CmpOp.LtE) _ _ _ _ _); refine od_le ?_)
  | ((with_reducible show OD _ (compareOp CmpOp.Gt) _ _ _ _ _); refine od_gt ?_)
  | ((with_reducible show OD _ (compareOp CmpOp.GtE) _ _ _ _ _); refine od_ge ?_)
  | ((with_reducible show OD _ (compareOp CmpOp.Eq) _ _ _ _ _); first | refine od_eq_int ?_ | refine od_eq_str ?_ | refine od_eq_bl ?_)
  | ((with_reducible show OD _ (compareOp CmpOp.NotEq) _ _ _ _ _); first | refine od_ne_int ?_ | refine od_ne_str ?_ | refine od_ne_bl ?_)
  | ((with_reducible show OD _ (compareOp CmpOp.Is) _ _ _ _ _); refine od_is ?_)
  | ((with_reducible show OD _ (compareOp CmpOp.IsNot) _ _ _ _ _); refine od_isnot ?_))
local macro_rules | `(tactic| walk_at "id") => `(tactic| first | refine id_seq (.tup _) rfl ?_ | refine id_seq (.lst _) rfl ?_ | refine id_seq (.own (by walk_at "own")) rfl ?_)
local macro_rules | `(tactic| walk_at "cd") => `(tactic| first
  | ((with_reducible show CD _ (Value.type "int") _ _ _ _); refine cd_int ?_)
  | ((with_reducible show CD _ (Value.builtin "abs") _ _ _ _); refine cd_abs ?_)
  | ((with_reducible show CD _ (Value.builtin "len") _ _ _ _); first | refine cd_len (.lst _) ?_ | refine cd_len (.tup _) ?_ | refine cd_len (.own (by walk_at "own")) ?_)
  | ((with_reducible show CD _ (Value.builtin "min") _ _ _ _); refine cd_min rfl ?_)
  | ((with_reducible show CD _ (Value.builtin "max") _ _ _ _); refine cd_max rfl ?_))
local macro_rules | `(tactic| walk_at "expr") => `(tactic| first
  | ((with_reducible show EV _ _ _ (Expr.Name _ _) _ _); walk_at "var")
  | ((with_reducible show EV _ _ _ (Expr.Constant _ _ _) _ _); first | refine ev_int ?_ | refine ev_str ?_ | refine ev_bl ?_ | refine ev_non ?_)
  | ((with_reducible show EV _ _ _ (Expr.BinOp _ _ _ _) _ _); refine ev_bin ?_)
  | ((with_reducible show EV _ _ _ (Expr.Compare _ _ _ _) _ _); first | refine ev_cmp ?_ | refine ev_chain ?_)
  | ((with_reducible show EV _ _ _ (Expr.Subscript _ (Expr.Slice _ _ _ _) _) _ _); refine ev_slice ?_)
  | ((with_reducible show EV _ _ _ (Expr.Subscript _ _ _) _ _); refine ev_ix ?_)
  | ((with_reducible show EV _ _ _ (Expr.UnaryOp _ _ _) _ _); first | refine ev_not ?_ | refine ev_neg ?_)
  | ((with_reducible show EV _ _ _ (Expr.BoolOp _ _ _) _ _); first | refine ev_and ?_ | refine ev_or ?_ | refine ev_and1 ?_)
  | ((with_reducible show EV _ _ _ (Expr.IfExp _ _ _ _) _ _); refine ev_if ?_)
  | ((with_reducible show EV _ _ _ (Expr.Call (Expr.Name "int" _) _ _ _) _ _); refine ev_callTy (T := "int") (by assumption) ?_)
  | ((with_reducible show EV _ _ _ (Expr.Call (Expr.Name "len" _) _ _ _) _ _); refine ev_callB (id := "len") (by assumption) ?_)
  | ((with_reducible show EV _ _ _ (Expr.Call (Expr.Name "abs" _) _ _ _) _ _); refine ev_callB (id := "abs") (by assumption) ?_)
  | ((with_reducible show EV _ _ _ (Expr.Call (Expr.Name "min" _) _ _ _) _ _); refine ev_callB (id := "min") (by assumption) ?_)
  | ((with_reducible show EV _ _ _ (Expr.Call (Expr.Name "max" _) _ _ _) _ _); refine ev_callB (id := "max") (by assumption) ?_))
local macro_rules | `(tactic| walk_at "test") => `(tactic| first
  | ((with_reducible show ET _ _ _ (Expr.Compare _ _ _ _) _ _); first | refine et_cmp ?_ | refine et_chain ?_)
  | ((with_reducible show ET _ _ _ (Expr.UnaryOp UnaryOp.Not _ _) _ _); refine et_not ?_)
  | ((with_reducible show ET _ _ _ (Expr.BoolOp _ _ _) _ _); refine et_w ?_)
  | ((with_reducible show ET _ _ _ (Expr.Call _ _ _ _) _ _); refine et_bool ?_))
local macro_rules | `(tactic| walk_at "ev") => `(tactic| first
  | ((with_reducible show EV _ _ _ _ _ _); walk_at "expr")
  | ((with_reducible show OD _ _ _ _ _ _ _); walk_at "od")
  | ((with_reducible show ID _ _ _ _ _ _); walk_at "id")
  | ((with_reducible show EA _ _ _ _ _ _); first | refine ea_cons ?_ | refine ea_nil ?_)
  | ((with_reducible show CD _ _ _ _ _ _); walk_at "cd")
  | ((with_reducible show ET _ _ _ _ _ _); walk_at "test")
  | ((with_reducible show EW _ _ _ _ _ _); first | refine ew_and ?_ | refine ew_or ?_ | refine ew_and1 ?_ | refine ew_or1 ?_))
def top (i : Nat) : Stmt := PySem.Challenge.pw_nightmark_k01_errors_and_what_they_keep.main.body.getD i (.Pass ⟨0, 0, 0, 0⟩)
abbrev s_InvalidRule_init : Stmt := inClass (top 2) 0
abbrev n_InvalidRule_init : List Str := ["self", "word"]
abbrev p_InvalidRule_init : List Str := ["self", "word"]
abbrev s_InvalidPlan_init : Stmt := inClass (top 3) 0
abbrev n_InvalidPlan_init : List Str := ["self", "word"]
abbrev p_InvalidPlan_init : List Str := ["self", "word"]
abbrev s_InvalidWorld_init : Stmt := inClass (top 4) 0
abbrev n_InvalidWorld_init : List Str := ["self", "word"]
abbrev p_InvalidWorld_init : List Str := ["self", "word"]
abbrev s_InvalidCrowd_init : Stmt := inClass (top 5) 0
abbrev n_InvalidCrowd_init : List Str := ["self", "word"]
abbrev p_InvalidCrowd_init : List Str := ["self", "word"]
abbrev s_InvalidText_init : Stmt := inClass (top 6) 0
abbrev n_InvalidText_init : List Str := ["self", "at"]
abbrev p_InvalidText_init : List Str := ["self", "at"]
abbrev s_InvalidEvent_init : Stmt := inClass (top 7) 0
abbrev n_InvalidEvent_init : List Str := ["self", "at"]
abbrev p_InvalidEvent_init : List Str := ["self", "at"]
abbrev s_Refused_init : Stmt := inClass (top 10) 0
abbrev n_Refused_init : List Str := ["self", "at"]
abbrev p_Refused_init : List Str := ["self", "at"]
abbrev s_NoRule_init : Stmt := inClass (top 11) 0
abbrev n_NoRule_init : List Str := ["self", "at"]
abbrev p_NoRule_init : List Str := ["self", "at"]
abbrev s_l_feed : Stmt := top 13
abbrev n_l_feed : List Str := ["_law_script", "_law_k", "_law_great", "_law_seed"]
abbrev p_l_feed : List Str := ["_law_script", "_law_k"]
theorem sc_l_feed : FnScope n_l_feed p_l_feed (defScope s_l_feed) := ⟨rfl, rfl, rfl, by decide +kernel, rfl, by decide +kernel, by decide +kernel⟩
abbrev s_l_take : Stmt := top 14
abbrev n_l_take : List Str := ["_law_box", "_law_many", "_law_digit", "_law_near"]
abbrev p_l_take : List Str := ["_law_box", "_law_many"]
theorem sc_l_take : FnScope n_l_take p_l_take (defScope s_l_take) := ⟨rfl, rfl, rfl, by decide +kernel, rfl, by decide +kernel, by decide +kernel⟩
abbrev s_l_pick : Stmt := top 15
abbrev n_l_pick : List Str := ["_law_box", "_law_items"]
abbrev p_l_pick : List Str := ["_law_box", "_law_items"]
theorem sc_l_pick : FnScope n_l_pick p_l_pick (defScope s_l_pick) := ⟨rfl, rfl, rfl, by decide +kernel, rfl, by decide +kernel, by decide +kernel⟩
abbrev s_l_made : Stmt := top 16
abbrev n_l_made : List Str := ["_law_things", "_law_found"]
abbrev p_l_made : List Str := ["_law_things"]
theorem sc_l_made : FnScope n_l_made p_l_made (defScope s_l_made) := ⟨rfl, rfl, rfl, by decide +kernel, rfl, by decide +kernel, by decide +kernel⟩
abbrev s_l_by_name : Stmt := top 17
abbrev n_l_by_name : List Str := ["_law_things", "_law_found"]
abbrev p_l_by_name : List Str := ["_law_things"]
theorem sc_l_by_name : FnScope n_l_by_name p_l_by_name (defScope s_l_by_name) := ⟨rfl, rfl, rfl, by decide +kernel, rfl, by decide +kernel, by decide +kernel⟩
abbrev s_l_sorts : Stmt := top 18
abbrev n_l_sorts : List Str := ["_law_one", "_law_found"]
abbrev p_l_sorts : List Str := ["_law_one"]
theorem sc_l_sorts : FnScope n_l_sorts p_l_sorts (defScope s_l_sorts) := ⟨rfl, rfl, rfl, by decide +kernel, rfl, by decide +kernel, by decide +kernel⟩
abbrev s_l_held : Stmt := top 19
abbrev n_l_held : List Str := ["_law_made_here", "_law_one"]
abbrev p_l_held : List Str := ["_law_made_here"]
theorem sc_l_held : FnScope n_l_held p_l_held (defScope s_l_held) := ⟨rfl, rfl, rfl, by decide +kernel, rfl, by decide +kernel, by decide +kernel⟩
abbrev s_law : Stmt := top 20
abbrev n_law : List Str := ["_law_script", "_law_k", "_law_box", "_law_open_list", "_law_pool", "_law_things", "_law_turn", "_law_made_here", "_law_named", "_law_one", "_law_other", "_law_held_here", "_law_thing", "_law_every", "_law_spot", "_law_is_night"]
abbrev p_law : List Str := ["_law_script"]
theorem sc_law : FnScope n_law p_law (defScope s_law) := ⟨rfl, rfl, rfl, by decide +kernel, rfl, by decide +kernel, by decide +kernel⟩

/-! ### draws -/
structure TD (mg : Str → Option Value) : Prop where
  g_int : mg "int" = none
  g_len : mg "len" = none
  g_abs : mg "abs" = none
section
variable {P : Program} {w : World} {K : Fg} {mg : Str → Option Value} {base : Heap}
theorem ok_take {f : Addr} {fd : FuncData} (T : TD mg) (F : FunT K "_law_take" "_law_take" s_l_take [] f fd) : FnP P w K mg base 1 f fd p_l_take spTake := by
  refine fn_ok F sc_l_take (fun ds ω Ψ ε h => ?_) (fun cdv A outer s H E ct ds ω Ψ ε hlt h => ?_)
  · obtain ⟨b, m, g, s, c, rfl, _⟩ := h; rfl
  · obtain ⟨b, m, g, sd, c, rfl, hb, hm, hm2, k⟩ := h
    have g1 := T.g_int
    have hbl : b < ω.length := (List.getElem?_eq_some_iff.mp hb).1
    have fin : ∀ r g' s' c', 0 ≤ r → r < m → Giv ω.length Ψ (.int r) (ω.set b (box g' s' c')) := fun r g' s' c' h1 h2 => by
      have e : (ω.set b (box g' s' c')).length = ω.length := List.length_set
      exact giv_all (by rw [e]; exact Nat.le_refl _) (by rw [e]; exact omlt_set hlt rfl) rfl (k r g' s' c' h1 h2)
    refine ess_cons (es_if ?_)
    repeat walk_at "ev"
    refine ⟨_, rfl, ?_⟩
    cases decide (0 < g) with
    | true =>
      refine iteT ?_
      refine ess_cons (es_set 2 ct.ok.nd ?_)
      repeat walk_at "ev"
      refine ess_cons (es_asg ?_)
      repeat walk_at "ev"
      refine eg_item ?_
      repeat walk_at "ev"
      refine ⟨b, _, _, _, rfl, rfl, hb, rfl, ?_⟩
      refine ess_cons (es_ret ?_)
      repeat walk_at "ev"
      exact fin _ _ _ _ (Int.emod_nonneg _ (by omega)) (Int.emod_lt_of_pos _ hm)
    | false =>
      refine iteF (ess_nil ?_)
      refine ess_cons (es_asg ?_)
      repeat walk_at "ev"
      refine eg_item ?_
      repeat walk_at "ev"
      refine ⟨b, _, _, _, rfl, rfl, hb, rfl, ?_⟩
      refine ess_cons (es_set 3 ct.ok.nd ?_)
      repeat walk_at "ev"
      refine ess_cons (es_asg ?_)
      repeat walk_at "ev"
      refine eg_item ?_
      repeat walk_at "ev"
      refine ⟨b, _, _, _, rfl, rfl, by walk_at "own", rfl, ?_⟩
      refine ess_cons (es_ret ?_)
      repeat walk_at "ev"
      rw [List.set_set]
      exact fin _ _ _ _ (Int.emod_nonneg _ (by omega)) (Int.emod_lt_of_pos _ hm)
theorem ok_pick {f : Addr} {fd : FuncData} (T : TD mg) (G : GF P w K mg base "_law_take" 1 2 spTake) (F : FunT K "_law_pick" "_law_pick" s_l_pick [] f fd) : FnP P w K mg base 2 f fd p_l_pick spPick := by
  refine fn_ok F sc_l_pick (fun ds ω Ψ ε h => ?_) (fun cdv A outer s H E ct ds ω Ψ ε hlt h => ?_)
  · obtain ⟨b, its, g, s, c, rfl, _⟩ := h; rfl
  · obtain ⟨b, its, g, sd, c, rfl, hb, hm, hm2, hl, k⟩ := h
    have g1 := T.g_len
    refine ess_cons (es_ret (ev_ix (ev_var 1 rfl (ev_fn G ct.room (ea_cons (ev_var 0 rfl (ea_cons (ev_callB (id := "len") g1 (ea_cons (ev_var 1 rfl (ea_nil (cd_len (.lst _) (ea_nil ⟨rfl, b, _, _, _, _, rfl, hb, ?_, ?_, fun r g' s' c' h1 h2 => ?_⟩)))))))))))))
    · omega
    · omega
    · have e : (ω.set b (box g' s' c')).length = ω.length := List.length_set
      obtain ⟨d, hd, hm⟩ : ∃ d, atI its r = some d ∧ d ∈ its := by
        have hi : r.toNat < its.length := by omega
        refine ⟨its[r.toNat], ?_, List.getElem_mem hi⟩
        unfold atI ixN
        rw [if_pos h1, if_pos h2]
        simp [hi]
      exact id_seq (.lst _) hd (giv_all (by rw [e]; exact Nat.le_refl _) (by rw [e]; exact omlt_set hlt rfl) (by rw [e]; exact ltL_mem hl hm) (k d g' s' c' hm))
theorem ok_feed {f : Addr} {fd : FuncData} (T : TD mg) (F : FunT K "_law_feed" "_law_feed" s_l_feed [] f fd) : FnP P w K mg base 1 f fd p_l_feed spFeed := by
  refine fn_ok F sc_l_feed (fun ds ω Ψ ε h => ?_) (fun cdv A outer s H E ct ds ω Ψ ε hlt h => ?_)
  · obtain ⟨ns, k, rfl, _⟩ := h; rfl
  · obtain ⟨ns, n, rfl, h0, h1, k⟩ := h
    have g1 := T.g_int
    have g2 := T.g_len
    have g3 := T.g_abs
    have hlen : ((List.map Dt.int ns).length : Int) = (ns.length : Int) := by rw [List.length_map]
    have fin : ∀ a : Int, ESs (cxOf (CX P w) P w K mg base n_l_feed "_law_feed" (defScope s_l_feed) f cdv A outer s H E) [some (.lst (ns.map Dt.int)), some (.int n), some (.int a), none] ω ((defBody s_l_feed).drop 2) (fnPost ω.length Ψ ε) := fun a => by
      refine ess_cons (es_set 3 ct.ok.nd ?_)
      repeat walk_at "ev"
      refine ess_cons (es_ret (ev_lstO (ea_cons (ev_if ?_))))
      repeat walk_at "ev"
      refine ⟨_, rfl, ?_⟩
      have last : ∀ g s : Int, Giv ω.length Ψ (.own ω.length) (ω ++ [box g s 0]) := fun g s => by
        have e : (ω ++ [box g s 0]).length = ω.length + 1 := by rw [List.length_append]; rfl
        exact giv_all (by rw [e]; omega) (by rw [e]; exact omlt_app (omlt_mono (by omega) hlt) rfl) (by rw [e]; simp [Dt.lt]) (k g s)
      refine iteB (fun _ => ?_) (fun _ => ?_)
      · repeat walk_at "ev"
        exact ⟨show 3 ≤ sizeLine by decide, last _ _⟩
      · repeat walk_at "ev"
        exact ⟨show 3 ≤ sizeLine by decide, last _ _⟩
    refine ess_cons (es_set 2 ct.ok.nd ?_)
    repeat walk_at "ev"
    refine ess_cons (es_if ?_)
    repeat walk_at "ev"
    refine ⟨_, rfl, ?_⟩
    cases e1 : decide (n < ((List.map Dt.int ns).length : Int)) with
    | true =>
      refine iteT (ess_cons (es_set 2 ct.ok.nd ?_))
      obtain ⟨x, hx⟩ := ints_get (ns := ns) h0 (by have := of_decide_eq_true e1; omega)
      refine ev_callB (id := "abs") g3 (ea_cons (ev_callTy (T := "int") g1 (ea_cons (ev_ix (ev_var 0 rfl (ev_var 1 rfl (id_seq (.lst _) hx (ea_nil (cd_int ?_)))))))))
      repeat walk_at "ev"
      exact ess_nil (fin _)
    | false =>
      refine iteF (ess_cons (es_if ?_))
      repeat walk_at "ev"
      refine ⟨_, rfl, ?_⟩
      cases e2 : decide ((0:Int) < ((List.map Dt.int ns).length : Int)) with
      | false => exact iteF (ess_nil (ess_nil (fin _)))
      | true =>
        have hp : (0:Int) < ns.length := by have := of_decide_eq_true e2; omega
        obtain ⟨x, hx⟩ := ints_get (ns := ns) (i := n % (ns.length : Int)) (Int.emod_nonneg _ (by omega)) (Int.emod_lt_of_pos _ hp)
        have hp2 := of_decide_eq_true e2
        refine iteT (ess_cons (es_set 2 ct.ok.nd ?_))
        repeat walk_at "ev"
        refine id_seq (.lst _) (by rw [hlen]; exact hx) ?_
        repeat walk_at "ev"
        exact ess_nil (ess_nil (fin _))
end
/-! ### own errors, held in lists -/
/-- x is an error of the class at C that keeps t -/
structure Hd (ω : Om) (C : Addr) (f : Str) (x t : Dt) : Prop where
  ex : ∃ (n m : Nat) (dA : Addr), x = .own n ∧ ω[n]? = some (.any (exA C (some dA))) ∧ ω[m]? = some (.xd dA [(f, t)])
theorem Hd.app {ω r : Om} {C : Addr} {f : Str} {x t : Dt} (h : Hd ω C f x t) : Hd (ω ++ r) C f x t := by
  obtain ⟨n, m, dA, e, h1, h2⟩ := h.ex
  exact ⟨n, m, dA, e, by rw [List.getElem?_append_left (List.getElem?_eq_some_iff.mp h1).1]; exact h1, by rw [List.getElem?_append_left (List.getElem?_eq_some_iff.mp h2).1]; exact h2⟩
theorem Hd.set {ω : Om} {C : Addr} {f : Str} {x t : Dt} {k : Nat} {ds : List Dt} {u : Ow} (h : Hd ω C f x t) (hk : ω[k]? = some (.lst ds)) : Hd (ω.set k u) C f x t := by
  obtain ⟨n, m, dA, e, h1, h2⟩ := h.ex
  exact ⟨n, m, dA, e, set_get h1 (fun z => by subst z; rw [hk] at h1; cases h1), set_get h2 (fun z => by subst z; rw [hk] at h2; cases h2)⟩
theorem Hd.exD {ω : Om} {C : Addr} {f : Str} {x t : Dt} (h : Hd ω C f x t) : ExD ω C x := by
  obtain ⟨n, m, dA, rfl, h1, h2⟩ := h.ex
  exact .f h1 h2
def fl8 (i : Nat) : Str := if i < 4 then "word" else "at"
structure Held8 (ω : Om) (Cs : List Addr) (xs ts : List Dt) : Prop where
  lx : xs.length = 8
  lt : ts.length = 8
  hd : ∀ i C x t, Cs[i]? = some C → xs[i]? = some x → ts[i]? = some t → Hd ω C (fl8 i) x t
theorem Held8.app {ω r : Om} {Cs : List Addr} {xs ts : List Dt} (h : Held8 ω Cs xs ts) : Held8 (ω ++ r) Cs xs ts := ⟨h.lx, h.lt, fun i C x t a b c => (h.hd i C x t a b c).app⟩
theorem Held8.set {ω : Om} {Cs : List Addr} {xs ts : List Dt} {k : Nat} {ds : List Dt} {u : Ow} (h : Held8 ω Cs xs ts) (hk : ω[k]? = some (.lst ds)) : Held8 (ω.set k u) Cs xs ts := ⟨h.lx, h.lt, fun i C x t a b c => (h.hd i C x t a b c).set hk⟩
theorem held8 {ω : Om} {c0 c1 c2 c3 c4 c5 c6 c7 : Addr} {cs : List Addr} {x0 x1 x2 x3 x4 x5 x6 x7 t0 t1 t2 t3 t4 t5 t6 t7 : Dt} (h0 : Hd ω c0 "word" x0 t0) (h1 : Hd ω c1 "word" x1 t1) (h2 : Hd ω c2 "word" x2 t2) (h3 : Hd ω c3 "word" x3 t3) (h4 : Hd ω c4 "at" x4 t4) (h5 : Hd ω c5 "at" x5 t5) (h6 : Hd ω c6 "at" x6 t6) (h7 : Hd ω c7 "at" x7 t7) :
    Held8 ω (c0 :: c1 :: c2 :: c3 :: c4 :: c5 :: c6 :: c7 :: cs) [x0, x1, x2, x3, x4, x5, x6, x7] [t0, t1, t2, t3, t4, t5, t6, t7] := by
  refine ⟨rfl, rfl, fun i C x t a b c => ?_⟩
  match i, a, b, c with
  | 0, rfl, rfl, rfl => exact h0
  | 1, rfl, rfl, rfl => exact h1
  | 2, rfl, rfl, rfl => exact h2
  | 3, rfl, rfl, rfl => exact h3
  | 4, rfl, rfl, rfl => exact h4
  | 5, rfl, rfl, rfl => exact h5
  | 6, rfl, rfl, rfl => exact h6
  | 7, rfl, rfl, rfl => exact h7
  | n + 8, _, b, _ => cases b
theorem len8 {α : Type} {l : List α} (h : l.length = 8) : ∃ a0 a1 a2 a3 a4 a5 a6 a7, l = [a0, a1, a2, a3, a4, a5, a6, a7] :=
  match l, h with
  | [a0, a1, a2, a3, a4, a5, a6, a7], _ => ⟨_, _, _, _, _, _, _, _, rfl⟩
section
variable {X : Cx} {ρ : Rho} {ω : Om} {Ψ : PsiE} {ε : PsiX} {e : Expr} {pos : Pos}
theorem ev_excH {x fld : Str} {C : Addr} {p : Pos} (G : ErA X.prog X.w X.K X.mg X.base x C fld) (hr : Rm 2 X.A) (h : EA X ρ ω [e] (fun ds ω1 => ∃ d, ds = [d] ∧ ∀ y ω2, (∃ r, ω2 = ω1 ++ r) → Hd ω2 C fld y d → Ψ y ω2) ε)
    (hg : Gl X x := by rfl) (hdb : (x == ("__debug__" : Str)) = false := by decide) (he : starEach [e] X.env = (false, eval e X.env) :: starEach [] X.env := by rfl) (hpl : (backTo pos (starEach [] X.env)).any (·.1) = false := by rfl) :
    EV X ρ ω (.Call (.Name x p) [e] [] pos) Ψ ε :=
  ev_exc G hr (h.imp fun ds ω1 ⟨d, e1, k⟩ => ⟨d, e1, fun dA => k _ _ ⟨_, rfl⟩ ⟨ω1.length, ω1.length + 1, dA, rfl, by simp, by simp⟩⟩) hg hdb he hpl
theorem ev_excHK {x fld : Str} {C : Addr} {p : Pos} {kws : List Keyword} (G : ErA X.prog X.w X.K X.mg X.base x C fld) (hr : Rm 2 X.A) (h : EK X ρ ω kws (fun ds ω1 => ∃ d, ds = [d] ∧ ∀ y ω2, (∃ r, ω2 = ω1 ++ r) → Hd ω2 C fld y d → Ψ y ω2) ε)
    (hg : Gl X x := by rfl) (hall : (backToKw pos (keywordEach kws X.env)).all (·.1.isSome) = true := by rfl) (hks : (backToKw pos (keywordEach kws X.env)).filterMap (·.1) = [fld] := by rfl) (hdb : (x == ("__debug__" : Str)) = false := by decide)
    (hpl : ((backTo pos (starEach [] X.env)).any (·.1) || (backToKw pos (keywordEach kws X.env)).any (·.1.isNone)) = false := by rfl) :
    EV X ρ ω (.Call (.Name x p) [] kws pos) Ψ ε :=
  ev_excK G hr (h.imp fun ds ω1 ⟨d, e1, k⟩ => ⟨d, e1, fun dA => k _ _ ⟨_, rfl⟩ ⟨ω1.length, ω1.length + 1, dA, rfl, by simp, by simp⟩⟩) hg hall hks hdb hpl
/-- what is given is as old as the state -/
theorem ev_ltp (h : EV X ρ ω e (fun d ω1 => OmLt ω1.length ω1 → d.lt ω1.length = true → Ψ d ω1) ε) : EV X ρ ω e Ψ ε := fun σ P H as Q w en xk q => h σ P H as Q w en xk fun v d ω1 P1 H1 as1 w1 g1 a1 k => q v d ω1 P1 H1 as1 w1 g1 a1 (k w1.lt (by have := at_lt a1; rwa [w1.len] at this))
end
/-! ### the law's makings -/
def spMade (Cs : List Addr) : DSp := fun dd ω Ψ _ => ∃ ts, dd = [.lst ts] ∧ ts.length = 8 ∧ ∀ xs ω', (∃ r, ω' = ω ++ r) → Held8 ω' Cs xs ts → Ψ (.lst xs) ω'
section
variable {P : Program} {w : World} {K : Fg} {mg : Str → Option Value} {base : Heap} {C0 C1 C2 C3 C4 C5 C6 C7 : Addr} {cs : List Addr}
theorem made_end {ω w7 : Om} {Ψ : PsiE} {xs ts : List Dt} (hr : ∃ r, w7 = ω ++ r) (hH : Held8 w7 (C0 :: C1 :: C2 :: C3 :: C4 :: C5 :: C6 :: C7 :: cs) xs ts) (k : ∀ xs ω', (∃ r, ω' = ω ++ r) → Held8 ω' (C0 :: C1 :: C2 :: C3 :: C4 :: C5 :: C6 :: C7 :: cs) xs ts → Ψ (.lst xs) ω') (hl : OmLt w7.length w7) (hd : (Dt.lst xs).lt w7.length = true) : Giv ω.length Ψ (.lst xs) w7 := by
  refine giv_all ?_ hl hd (k xs w7 hr hH)
  obtain ⟨r, rfl⟩ := hr
  rw [List.length_append]; omega
theorem ok_l_made {f : Addr} {fd : FuncData} (G0 : ErA P w K mg base "InvalidRule" C0 "word") (G1 : ErA P w K mg base "InvalidPlan" C1 "word") (G2 : ErA P w K mg base "InvalidWorld" C2 "word") (G3 : ErA P w K mg base "InvalidCrowd" C3 "word") (G4 : ErA P w K mg base "InvalidText" C4 "at") (G5 : ErA P w K mg base "InvalidEvent" C5 "at") (G6 : ErA P w K mg base "Refused" C6 "at") (G7 : ErA P w K mg base "NoRule" C7 "at") (F : FunT K "_law_made" "_law_made" s_l_made [] f fd) : FnP P w K mg base 3 f fd p_l_made (spMade (C0 :: C1 :: C2 :: C3 :: C4 :: C5 :: C6 :: C7 :: cs)) := by
  refine fn_ok F sc_l_made (fun ds ω Ψ ε h => ?_) (fun cdv A outer s H E ct dd ω Ψ ε hlt h => ?_)
  · obtain ⟨ts, rfl, _⟩ := h; rfl
  · obtain ⟨ts, rfl, hl, k⟩ := h
    obtain ⟨t0, t1, t2, t3, t4, t5, t6, t7, rfl⟩ := len8 hl
    have hr2 := ct.room
    refine ess_cons <| es_set 1 ct.ok.nd <| ev_lst <| ea_cons <| ev_excH G0 hr2 <| ea_cons <| ev_ix <| ev_var 0 rfl <| ev_int <| id_seq (.lst _) rfl <| ea_nil ⟨_, rfl, fun x0 w0 ⟨r0, e0⟩ h0 => ?_⟩
    have q0 : ∃ r, w0 = ω ++ r := ⟨_, e0⟩
    clear e0
    refine ea_cons <| ev_excH G1 hr2 <| ea_cons <| ev_ix <| ev_var 0 rfl <| ev_int <| id_seq (.lst _) rfl <| ea_nil ⟨_, rfl, fun x1 w1 ⟨r1, e1⟩ h1 => ?_⟩
    have h0 : Hd w1 C0 "word" x0 t0 := by rw [e1]; exact h0.app
    have q1 : ∃ r, w1 = ω ++ r := by obtain ⟨r, z⟩ := q0; exact ⟨r ++ r1, by rw [e1, z, List.append_assoc]⟩
    clear q0
    clear e1
    refine ea_cons <| ev_excH G2 hr2 <| ea_cons <| ev_ix <| ev_var 0 rfl <| ev_int <| id_seq (.lst _) rfl <| ea_nil ⟨_, rfl, fun x2 w2 ⟨r2, e2⟩ h2 => ?_⟩
    have h0 : Hd w2 C0 "word" x0 t0 := by rw [e2]; exact h0.app
    have h1 : Hd w2 C1 "word" x1 t1 := by rw [e2]; exact h1.app
    have q2 : ∃ r, w2 = ω ++ r := by obtain ⟨r, z⟩ := q1; exact ⟨r ++ r2, by rw [e2, z, List.append_assoc]⟩
    clear q1
    clear e2
    refine ea_cons <| ev_excH G3 hr2 <| ea_cons <| ev_ix <| ev_var 0 rfl <| ev_int <| id_seq (.lst _) rfl <| ea_nil ⟨_, rfl, fun x3 w3 ⟨r3, e3⟩ h3 => ?_⟩
    have h0 : Hd w3 C0 "word" x0 t0 := by rw [e3]; exact h0.app
    have h1 : Hd w3 C1 "word" x1 t1 := by rw [e3]; exact h1.app
    have h2 : Hd w3 C2 "word" x2 t2 := by rw [e3]; exact h2.app
    have q3 : ∃ r, w3 = ω ++ r := by obtain ⟨r, z⟩ := q2; exact ⟨r ++ r3, by rw [e3, z, List.append_assoc]⟩
    clear q2
    clear e3
    refine ea_nil ⟨show 4 ≤ sizeLine by decide, ?_⟩
    refine ess_cons <| es_ret <| ev_ltp <| ev_bin <| ev_var 1 rfl <| ev_lst <| ea_cons <| ev_excH G4 hr2 <| ea_cons <| ev_ix <| ev_var 0 rfl <| ev_int <| id_seq (.lst _) rfl <| ea_nil ⟨_, rfl, fun x4 w4 ⟨r4, e4⟩ h4 => ?_⟩
    have h0 : Hd w4 C0 "word" x0 t0 := by rw [e4]; exact h0.app
    have h1 : Hd w4 C1 "word" x1 t1 := by rw [e4]; exact h1.app
    have h2 : Hd w4 C2 "word" x2 t2 := by rw [e4]; exact h2.app
    have h3 : Hd w4 C3 "word" x3 t3 := by rw [e4]; exact h3.app
    have q4 : ∃ r, w4 = ω ++ r := by obtain ⟨r, z⟩ := q3; exact ⟨r ++ r4, by rw [e4, z, List.append_assoc]⟩
    clear q3
    clear e4
    refine ea_cons <| ev_excH G5 hr2 <| ea_cons <| ev_ix <| ev_var 0 rfl <| ev_int <| id_seq (.lst _) rfl <| ea_nil ⟨_, rfl, fun x5 w5 ⟨r5, e5⟩ h5 => ?_⟩
    have h0 : Hd w5 C0 "word" x0 t0 := by rw [e5]; exact h0.app
    have h1 : Hd w5 C1 "word" x1 t1 := by rw [e5]; exact h1.app
    have h2 : Hd w5 C2 "word" x2 t2 := by rw [e5]; exact h2.app
    have h3 : Hd w5 C3 "word" x3 t3 := by rw [e5]; exact h3.app
    have h4 : Hd w5 C4 "at" x4 t4 := by rw [e5]; exact h4.app
    have q5 : ∃ r, w5 = ω ++ r := by obtain ⟨r, z⟩ := q4; exact ⟨r ++ r5, by rw [e5, z, List.append_assoc]⟩
    clear q4
    clear e5
    refine ea_cons <| ev_excH G6 hr2 <| ea_cons <| ev_ix <| ev_var 0 rfl <| ev_int <| id_seq (.lst _) rfl <| ea_nil ⟨_, rfl, fun x6 w6 ⟨r6, e6⟩ h6 => ?_⟩
    have h0 : Hd w6 C0 "word" x0 t0 := by rw [e6]; exact h0.app
    have h1 : Hd w6 C1 "word" x1 t1 := by rw [e6]; exact h1.app
    have h2 : Hd w6 C2 "word" x2 t2 := by rw [e6]; exact h2.app
    have h3 : Hd w6 C3 "word" x3 t3 := by rw [e6]; exact h3.app
    have h4 : Hd w6 C4 "at" x4 t4 := by rw [e6]; exact h4.app
    have h5 : Hd w6 C5 "at" x5 t5 := by rw [e6]; exact h5.app
    have q6 : ∃ r, w6 = ω ++ r := by obtain ⟨r, z⟩ := q5; exact ⟨r ++ r6, by rw [e6, z, List.append_assoc]⟩
    clear q5
    clear e6
    refine ea_cons <| ev_excH G7 hr2 <| ea_cons <| ev_ix <| ev_var 0 rfl <| ev_int <| id_seq (.lst _) rfl <| ea_nil ⟨_, rfl, fun x7 w7 ⟨r7, e7⟩ h7 => ?_⟩
    have h0 : Hd w7 C0 "word" x0 t0 := by rw [e7]; exact h0.app
    have h1 : Hd w7 C1 "word" x1 t1 := by rw [e7]; exact h1.app
    have h2 : Hd w7 C2 "word" x2 t2 := by rw [e7]; exact h2.app
    have h3 : Hd w7 C3 "word" x3 t3 := by rw [e7]; exact h3.app
    have h4 : Hd w7 C4 "at" x4 t4 := by rw [e7]; exact h4.app
    have h5 : Hd w7 C5 "at" x5 t5 := by rw [e7]; exact h5.app
    have h6 : Hd w7 C6 "at" x6 t6 := by rw [e7]; exact h6.app
    have q7 : ∃ r, w7 = ω ++ r := by obtain ⟨r, z⟩ := q6; exact ⟨r ++ r7, by rw [e7, z, List.append_assoc]⟩
    clear q6
    clear e7
    refine ea_nil ⟨show 4 ≤ sizeLine by decide, ?_⟩
    refine od_catL (.lst _) (.lst _) (show 4 + 4 ≤ sizeLine by decide) ?_
    exact fun z1 z2 => made_end q7 (held8 h0 h1 h2 h3 h4 h5 h6 h7) k z1 z2
theorem ok_l_by_name {f : Addr} {fd : FuncData} (G0 : ErA P w K mg base "InvalidRule" C0 "word") (G1 : ErA P w K mg base "InvalidPlan" C1 "word") (G2 : ErA P w K mg base "InvalidWorld" C2 "word") (G3 : ErA P w K mg base "InvalidCrowd" C3 "word") (G4 : ErA P w K mg base "InvalidText" C4 "at") (G5 : ErA P w K mg base "InvalidEvent" C5 "at") (G6 : ErA P w K mg base "Refused" C6 "at") (G7 : ErA P w K mg base "NoRule" C7 "at") (F : FunT K "_law_by_name" "_law_by_name" s_l_by_name [] f fd) : FnP P w K mg base 3 f fd p_l_by_name (spMade (C0 :: C1 :: C2 :: C3 :: C4 :: C5 :: C6 :: C7 :: cs)) := by
  refine fn_ok F sc_l_by_name (fun ds ω Ψ ε h => ?_) (fun cdv A outer s H E ct dd ω Ψ ε hlt h => ?_)
  · obtain ⟨ts, rfl, _⟩ := h; rfl
  · obtain ⟨ts, rfl, hl, k⟩ := h
    obtain ⟨t0, t1, t2, t3, t4, t5, t6, t7, rfl⟩ := len8 hl
    have hr2 := ct.room
    refine ess_cons <| es_set 1 ct.ok.nd <| ev_lst <| ea_cons <| ev_excHK G0 hr2 <| ek_cons <| ev_ix <| ev_var 0 rfl <| ev_int <| id_seq (.lst _) rfl <| ek_nil ⟨_, rfl, fun x0 w0 ⟨r0, e0⟩ h0 => ?_⟩
    have q0 : ∃ r, w0 = ω ++ r := ⟨_, e0⟩
    clear e0
    refine ea_cons <| ev_excHK G1 hr2 <| ek_cons <| ev_ix <| ev_var 0 rfl <| ev_int <| id_seq (.lst _) rfl <| ek_nil ⟨_, rfl, fun x1 w1 ⟨r1, e1⟩ h1 => ?_⟩
    have h0 : Hd w1 C0 "word" x0 t0 := by rw [e1]; exact h0.app
    have q1 : ∃ r, w1 = ω ++ r := by obtain ⟨r, z⟩ := q0; exact ⟨r ++ r1, by rw [e1, z, List.append_assoc]⟩
    clear q0
    clear e1
    refine ea_cons <| ev_excHK G2 hr2 <| ek_cons <| ev_ix <| ev_var 0 rfl <| ev_int <| id_seq (.lst _) rfl <| ek_nil ⟨_, rfl, fun x2 w2 ⟨r2, e2⟩ h2 => ?_⟩
    have h0 : Hd w2 C0 "word" x0 t0 := by rw [e2]; exact h0.app
    have h1 : Hd w2 C1 "word" x1 t1 := by rw [e2]; exact h1.app
    have q2 : ∃ r, w2 = ω ++ r := by obtain ⟨r, z⟩ := q1; exact ⟨r ++ r2, by rw [e2, z, List.append_assoc]⟩
    clear q1
    clear e2
    refine ea_nil ⟨show 3 ≤ sizeLine by decide, ?_⟩
    refine ess_cons <| es_set 1 ct.ok.nd <| ev_bin <| ev_var 1 rfl <| ev_lst <| ea_cons <| ev_excHK G3 hr2 <| ek_cons <| ev_ix <| ev_var 0 rfl <| ev_int <| id_seq (.lst _) rfl <| ek_nil ⟨_, rfl, fun x3 w3 ⟨r3, e3⟩ h3 => ?_⟩
    have h0 : Hd w3 C0 "word" x0 t0 := by rw [e3]; exact h0.app
    have h1 : Hd w3 C1 "word" x1 t1 := by rw [e3]; exact h1.app
    have h2 : Hd w3 C2 "word" x2 t2 := by rw [e3]; exact h2.app
    have q3 : ∃ r, w3 = ω ++ r := by obtain ⟨r, z⟩ := q2; exact ⟨r ++ r3, by rw [e3, z, List.append_assoc]⟩
    clear q2
    clear e3
    refine ea_cons <| ev_excHK G4 hr2 <| ek_cons <| ev_ix <| ev_var 0 rfl <| ev_int <| id_seq (.lst _) rfl <| ek_nil ⟨_, rfl, fun x4 w4 ⟨r4, e4⟩ h4 => ?_⟩
    have h0 : Hd w4 C0 "word" x0 t0 := by rw [e4]; exact h0.app
    have h1 : Hd w4 C1 "word" x1 t1 := by rw [e4]; exact h1.app
    have h2 : Hd w4 C2 "word" x2 t2 := by rw [e4]; exact h2.app
    have h3 : Hd w4 C3 "word" x3 t3 := by rw [e4]; exact h3.app
    have q4 : ∃ r, w4 = ω ++ r := by obtain ⟨r, z⟩ := q3; exact ⟨r ++ r4, by rw [e4, z, List.append_assoc]⟩
    clear q3
    clear e4
    refine ea_cons <| ev_excHK G5 hr2 <| ek_cons <| ev_ix <| ev_var 0 rfl <| ev_int <| id_seq (.lst _) rfl <| ek_nil ⟨_, rfl, fun x5 w5 ⟨r5, e5⟩ h5 => ?_⟩
    have h0 : Hd w5 C0 "word" x0 t0 := by rw [e5]; exact h0.app
    have h1 : Hd w5 C1 "word" x1 t1 := by rw [e5]; exact h1.app
    have h2 : Hd w5 C2 "word" x2 t2 := by rw [e5]; exact h2.app
    have h3 : Hd w5 C3 "word" x3 t3 := by rw [e5]; exact h3.app
    have h4 : Hd w5 C4 "at" x4 t4 := by rw [e5]; exact h4.app
    have q5 : ∃ r, w5 = ω ++ r := by obtain ⟨r, z⟩ := q4; exact ⟨r ++ r5, by rw [e5, z, List.append_assoc]⟩
    clear q4
    clear e5
    refine ea_nil ⟨show 3 ≤ sizeLine by decide, ?_⟩
    refine od_catL (.lst _) (.lst _) (show 3 + 3 ≤ sizeLine by decide) ?_
    refine ess_cons <| es_ret <| ev_ltp <| ev_bin <| ev_var 1 rfl <| ev_lst <| ea_cons <| ev_excHK G6 hr2 <| ek_cons <| ev_ix <| ev_var 0 rfl <| ev_int <| id_seq (.lst _) rfl <| ek_nil ⟨_, rfl, fun x6 w6 ⟨r6, e6⟩ h6 => ?_⟩
    have h0 : Hd w6 C0 "word" x0 t0 := by rw [e6]; exact h0.app
    have h1 : Hd w6 C1 "word" x1 t1 := by rw [e6]; exact h1.app
    have h2 : Hd w6 C2 "word" x2 t2 := by rw [e6]; exact h2.app
    have h3 : Hd w6 C3 "word" x3 t3 := by rw [e6]; exact h3.app
    have h4 : Hd w6 C4 "at" x4 t4 := by rw [e6]; exact h4.app
    have h5 : Hd w6 C5 "at" x5 t5 := by rw [e6]; exact h5.app
    have q6 : ∃ r, w6 = ω ++ r := by obtain ⟨r, z⟩ := q5; exact ⟨r ++ r6, by rw [e6, z, List.append_assoc]⟩
    clear q5
    clear e6
    refine ea_cons <| ev_excHK G7 hr2 <| ek_cons <| ev_ix <| ev_var 0 rfl <| ev_int <| id_seq (.lst _) rfl <| ek_nil ⟨_, rfl, fun x7 w7 ⟨r7, e7⟩ h7 => ?_⟩
    have h0 : Hd w7 C0 "word" x0 t0 := by rw [e7]; exact h0.app
    have h1 : Hd w7 C1 "word" x1 t1 := by rw [e7]; exact h1.app
    have h2 : Hd w7 C2 "word" x2 t2 := by rw [e7]; exact h2.app
    have h3 : Hd w7 C3 "word" x3 t3 := by rw [e7]; exact h3.app
    have h4 : Hd w7 C4 "at" x4 t4 := by rw [e7]; exact h4.app
    have h5 : Hd w7 C5 "at" x5 t5 := by rw [e7]; exact h5.app
    have h6 : Hd w7 C6 "at" x6 t6 := by rw [e7]; exact h6.app
    have q7 : ∃ r, w7 = ω ++ r := by obtain ⟨r, z⟩ := q6; exact ⟨r ++ r7, by rw [e7, z, List.append_assoc]⟩
    clear q6
    clear e7
    refine ea_nil ⟨show 2 ≤ sizeLine by decide, ?_⟩
    refine od_catL (.lst _) (.lst _) (show 6 + 2 ≤ sizeLine by decide) ?_
    exact fun z1 z2 => made_end q7 (held8 h0 h1 h2 h3 h4 h5 h6 h7) k z1 z2
end
/-! ### ranges, lists of texts -/
theorem rng_len (n : Nat) : (rngD 0 n).length = n := by unfold rngD; simp
theorem rng_mem {m : Int} {d : Dt} (h : d ∈ rngD 0 m.toNat) (hm : m ≤ 1000) : ∃ j : Int, d = .int j ∧ 0 ≤ j ∧ j < 1000 := by
  unfold rngD at h
  obtain ⟨i, hi, rfl⟩ := List.mem_map.mp h
  have := List.mem_range.mp hi
  exact ⟨_, rfl, by omega, by omega⟩
theorem rng_lt {n i : Nat} {d : Dt} (h : (rngD 0 n)[i]? = some d) : i < n := by
  have := (List.getElem?_eq_some_iff.mp h).1
  rwa [rng_len] at this
theorem mem_strs {d : Dt} {xs : List Str} (h : d ∈ xs.map Dt.str) : ∃ x ∈ xs, d = .str x := by
  obtain ⟨x, hx, rfl⟩ := List.mem_map.mp h
  exact ⟨x, hx, rfl⟩
/-! ### which of the sorts an error is of, and what it keeps -/
structure KT1 (K : Fg) (Cs : List Addr) (CN : Addr) : Prop where
  s : ∀ (i j : Nat) (C D : Addr), Cs[i]? = some C → Cs[j]? = some D → PySem.W.kitOne K (.ref C) (.ref D) = some (decide (j = i))
  n : ∀ (i : Nat) (C : Addr), Cs[i]? = some C → PySem.W.kitOne K (.ref C) (.ref CN) = some (!decide (i = 7))
  v : ∀ (i : Nat) (C : Addr), Cs[i]? = some C → PySem.W.kitOne K (.ref C) (.type "ValueError") = some (!decide (i = 7))
  x : ∀ (i : Nat) (C : Addr), Cs[i]? = some C → PySem.W.kitOne K (.ref C) (.type "IndexError") = some (decide (i = 7))
  e : ∀ (i : Nat) (C : Addr), Cs[i]? = some C → ExcC K C
  f : ∀ (i : Nat) (C : Addr), Cs[i]? = some C → i < 8 → XfC K C ∧ PySem.W.findIn K (.ref C) (fl8 i) = some none
def sortsD (i : Nat) : List Dt := [.bl (decide (0 = i)), .bl (decide (1 = i)), .bl (decide (2 = i)), .bl (decide (3 = i)), .bl (decide (4 = i)), .bl (decide (5 = i)), .bl (decide (6 = i)), .bl (decide (7 = i)), .bl (decide (8 = i)), .bl (decide (9 = i))]
def spSorts (Cs : List Addr) : DSp := fun dd ω Ψ _ => ∃ x i C, dd = [x] ∧ Cs[i]? = some C ∧ ExD ω C x ∧ Ψ (.lst (sortsD i)) ω
def spHeldL (Cs : List Addr) : DSp := fun dd ω Ψ _ => ∃ xs ts, dd = [.lst xs] ∧ Held8 ω Cs xs ts ∧ Ψ (.lst ts) ω
section
variable {P : Program} {w : World} {K : Fg} {mg : Str → Option Value} {base : Heap} {C0 C1 C2 C3 C4 C5 C6 C7 C8 C9 CN : Addr}
theorem ok_l_sorts {f : Addr} {fd : FuncData} (gi : mg "isinstance" = none) (g0 : mg "InvalidRule" = some (.ref C0)) (g1 : mg "InvalidPlan" = some (.ref C1)) (g2 : mg "InvalidWorld" = some (.ref C2)) (g3 : mg "InvalidCrowd" = some (.ref C3)) (g4 : mg "InvalidText" = some (.ref C4)) (g5 : mg "InvalidEvent" = some (.ref C5)) (g6 : mg "Refused" = some (.ref C6)) (g7 : mg "NoRule" = some (.ref C7)) (g8 : mg "InvalidGoal" = some (.ref C8)) (g9 : mg "InvalidCommand" = some (.ref C9)) (T : KT1 K [C0, C1, C2, C3, C4, C5, C6, C7, C8, C9] CN) (F : FunT K "_law_sorts" "_law_sorts" s_l_sorts [] f fd) : FnP P w K mg base 2 f fd p_l_sorts (spSorts [C0, C1, C2, C3, C4, C5, C6, C7, C8, C9]) := by
  refine fn_ok F sc_l_sorts (fun ds ω Ψ ε h => ?_) (fun cdv A outer s H E ct dd ω Ψ ε hlt h => ?_)
  · obtain ⟨x, i, C, rfl, _⟩ := h; rfl
  · obtain ⟨x, i, C, rfl, hC, hx, k⟩ := h
    have TE := T.e i C hC
    have S := fun j D hD => T.s i j C D hC hD
    refine ess_cons <| es_set 1 ct.ok.nd <| ev_lst <| ea_cons <| ev_callB (id := "isinstance") gi <| ea_cons <| ev_var 0 rfl <| ea_cons <| ev_glob (gl_ref g0) <| ea_nil <| cd_isX TE hx (.own C0) (S 0 C0 rfl) <| ea_cons <| ev_callB (id := "isinstance") gi <| ea_cons <| ev_var 0 rfl <| ea_cons <| ev_glob (gl_ref g1) <| ea_nil <| cd_isX TE hx (.own C1) (S 1 C1 rfl) <| ea_cons <| ev_callB (id := "isinstance") gi <| ea_cons <| ev_var 0 rfl <| ea_cons <| ev_glob (gl_ref g2) <| ea_nil <| cd_isX TE hx (.own C2) (S 2 C2 rfl) <| ea_nil ⟨show 3 ≤ sizeLine by decide, ?_⟩
    refine ess_cons <| es_set 1 ct.ok.nd <| ev_bin <| ev_var 1 rfl <| ev_lst <| ea_cons <| ev_callB (id := "isinstance") gi <| ea_cons <| ev_var 0 rfl <| ea_cons <| ev_glob (gl_ref g3) <| ea_nil <| cd_isX TE hx (.own C3) (S 3 C3 rfl) <| ea_cons <| ev_callB (id := "isinstance") gi <| ea_cons <| ev_var 0 rfl <| ea_cons <| ev_glob (gl_ref g4) <| ea_nil <| cd_isX TE hx (.own C4) (S 4 C4 rfl) <| ea_cons <| ev_callB (id := "isinstance") gi <| ea_cons <| ev_var 0 rfl <| ea_cons <| ev_glob (gl_ref g5) <| ea_nil <| cd_isX TE hx (.own C5) (S 5 C5 rfl) <| ea_nil ⟨show 3 ≤ sizeLine by decide, ?_⟩
    refine od_catL (.lst _) (.lst _) (show 3 + 3 ≤ sizeLine by decide) ?_
    refine ess_cons <| es_set 1 ct.ok.nd <| ev_bin <| ev_var 1 rfl <| ev_lst <| ea_cons <| ev_callB (id := "isinstance") gi <| ea_cons <| ev_var 0 rfl <| ea_cons <| ev_glob (gl_ref g6) <| ea_nil <| cd_isX TE hx (.own C6) (S 6 C6 rfl) <| ea_cons <| ev_callB (id := "isinstance") gi <| ea_cons <| ev_var 0 rfl <| ea_cons <| ev_glob (gl_ref g7) <| ea_nil <| cd_isX TE hx (.own C7) (S 7 C7 rfl) <| ea_cons <| ev_callB (id := "isinstance") gi <| ea_cons <| ev_var 0 rfl <| ea_cons <| ev_glob (gl_ref g8) <| ea_nil <| cd_isX TE hx (.own C8) (S 8 C8 rfl) <| ea_nil ⟨show 3 ≤ sizeLine by decide, ?_⟩
    refine od_catL (.lst _) (.lst _) (show 6 + 3 ≤ sizeLine by decide) ?_
    refine ess_cons <| es_ret <| ev_bin <| ev_var 1 rfl <| ev_lst <| ea_cons <| ev_callB (id := "isinstance") gi <| ea_cons <| ev_var 0 rfl <| ea_cons <| ev_glob (gl_ref g9) <| ea_nil <| cd_isX TE hx (.own C9) (S 9 C9 rfl) <| ea_nil ⟨show 1 ≤ sizeLine by decide, ?_⟩
    refine od_catL (.lst _) (.lst _) (show 9 + 1 ≤ sizeLine by decide) ?_
    exact giv_all (Nat.le_refl _) hlt rfl k
theorem ok_l_held {f : Addr} {fd : FuncData} (T : KT1 K [C0, C1, C2, C3, C4, C5, C6, C7, C8, C9] CN) (F : FunT K "_law_held" "_law_held" s_l_held [] f fd) : FnP P w K mg base 1 f fd p_l_held (spHeldL [C0, C1, C2, C3, C4, C5, C6, C7, C8, C9]) := by
  refine fn_ok F sc_l_held (fun ds ω Ψ ε h => ?_) (fun cdv A outer s H E ct dd ω Ψ ε hlt h => ?_)
  · obtain ⟨xs, ts, rfl, _⟩ := h; rfl
  · obtain ⟨xs, ts, rfl, hh, k⟩ := h
    obtain ⟨x0, x1, x2, x3, x4, x5, x6, x7, rfl⟩ := len8 hh.lx
    obtain ⟨t0, t1, t2, t3, t4, t5, t6, t7, rfl⟩ := len8 hh.lt
    have rd : ∀ (i : Nat) (C : Addr) (x t : Dt), [C0, C1, C2, C3, C4, C5, C6, C7, C8, C9][i]? = some C → [x0, x1, x2, x3, x4, x5, x6, x7][i]? = some x → [t0, t1, t2, t3, t4, t5, t6, t7][i]? = some t → i < 8 → XfC K C ∧ PySem.W.findIn K (.ref C) (fl8 i) = some none ∧ ∃ (n m : Nat) (dA : Addr) (fs : List (Str × Dt)) (v : Dt), x = .own n ∧ ω[n]? = some (.any (exA C (some dA))) ∧ ω[m]? = some (.xd dA fs) ∧ List.lookup (fl8 i) fs = some v ∧ v = t ∧ ω = ω := fun i C x t a b c h8 => by
      obtain ⟨n, m, dA, e, h1, h2⟩ := (hh.hd i C x t a b c).ex
      exact ⟨(T.f i C a h8).1, (T.f i C a h8).2, n, m, dA, _, t, e, h1, h2, by simp [List.lookup], rfl, rfl⟩
    refine ess_cons <| es_ret <| ev_ltp <| ev_bin <| ev_mapL 1 [t0, t1, t2, t3] (own := [("_law_one", 1)]) ct.ok (blkOk_by (N := n_l_held) (sc := defScope s_l_held) (by decide +kernel)) (by decide) (ei_seq <| ev_slice <| ev_var 0 rfl <| ev_int ⟨_, rfl, sd_lst (ε := F0) (.lst _) ⟨[x0, x1, x2, x3], .lst _, .lst _, rfl, ?_, show 4 < sizeLine by decide, ?_⟩⟩) (fun s H C cl fp => pg_name ct.ok.nd rfl (Or.inl rfl))
    · intro i d y hd hy s1 H1 C1 cl fp
      match i, hd, hy with
      | 0, rfl, rfl => obtain ⟨a, b, c⟩ := rd 0 _ _ _ rfl rfl rfl (by decide); exact ev_xo a b <| ev_var 1 rfl c
      | 1, rfl, rfl => obtain ⟨a, b, c⟩ := rd 1 _ _ _ rfl rfl rfl (by decide); exact ev_xo a b <| ev_var 1 rfl c
      | 2, rfl, rfl => obtain ⟨a, b, c⟩ := rd 2 _ _ _ rfl rfl rfl (by decide); exact ev_xo a b <| ev_var 1 rfl c
      | 3, rfl, rfl => obtain ⟨a, b, c⟩ := rd 3 _ _ _ rfl rfl rfl (by decide); exact ev_xo a b <| ev_var 1 rfl c
    refine ev_mapL 1 [t4, t5, t6, t7] (own := [("_law_one", 1)]) ct.ok (blkOk_by (N := n_l_held) (sc := defScope s_l_held) (by decide +kernel)) (by decide) (ei_seq <| ev_slice <| ev_var 0 rfl <| ev_int ⟨_, rfl, ev_int ⟨_, rfl, sd_lst (ε := F0) (.lst _) ⟨[x4, x5, x6, x7], .lst _, .lst _, rfl, ?_, show 4 < sizeLine by decide, ?_⟩⟩⟩) (fun s H C cl fp => pg_name ct.ok.nd rfl (Or.inl rfl))
    · intro i d y hd hy s1 H1 C1 cl fp
      match i, hd, hy with
      | 0, rfl, rfl => obtain ⟨a, b, c⟩ := rd 4 _ _ _ rfl rfl rfl (by decide); exact ev_xo a b <| ev_var 1 rfl c
      | 1, rfl, rfl => obtain ⟨a, b, c⟩ := rd 5 _ _ _ rfl rfl rfl (by decide); exact ev_xo a b <| ev_var 1 rfl c
      | 2, rfl, rfl => obtain ⟨a, b, c⟩ := rd 6 _ _ _ rfl rfl rfl (by decide); exact ev_xo a b <| ev_var 1 rfl c
      | 3, rfl, rfl => obtain ⟨a, b, c⟩ := rd 7 _ _ _ rfl rfl rfl (by decide); exact ev_xo a b <| ev_var 1 rfl c
    refine od_catL (.lst _) (.lst _) (show 4 + 4 ≤ sizeLine by decide) ?_
    exact fun z1 z2 => giv_all (Nat.le_refl _) z1 z2 k
end
local macro_rules | `(tactic| walk_at "dat") => `(tactic| first
  | ((with_reducible show EA _ _ _ (_ :: _) _ _); refine ea_cons ?_)
  | ((with_reducible show EA _ _ _ [] _ _); refine ea_nil ?_; refine ⟨Nat.le_trans (Nat.le_of_ble_eq_true (m := 20) rfl) (by decide), ?_⟩)
  | ((with_reducible show EV _ _ _ (Expr.Tuple _ _ _) _ _); refine ev_tup ?_)
  | ((with_reducible show EV _ _ _ (Expr.List _ _) _ _); refine ev_lst ?_)
  | walk_at "ev")
theorem ess_rho {X : Cx} {ρ ρ' : Rho} {ω : Om} {sts : List Stmt} {Φ : Post} (e : ρ = ρ') (h : ESs X ρ' ω sts Φ) : ESs X ρ ω sts Φ := e ▸ h
theorem cells3 (n : Nat) : (if (if (n : Int) < 3 then (n : Int) else 3) > 1 then (if (n : Int) < 3 then (n : Int) else 3) else 1) ≤ 1000 := by
  repeat' split
  all_goals omega
/-! ### what is kept, and its signs -/
def poolD (on : Nat) : List Dt := [.int 0, .int (0 - 7), .int (10 ^ 20), .str "", .str "idle", .non, .bl true, .tup [.str "a", .int 1], .lst [], .own on, .tup [], .str "hosts"]
def poolP : List PyData := [.int 0, .int (0 - 7), .int (10 ^ 20), .str "", .str "idle", .none, .bool true, .tuple [.str "a", .int 1], .list [], .list [.int 1, .int 2], .tuple [], .str "hosts"]
def RpOk (p : PyData) : Prop := p.showable = true ∧ p.hasDict = false ∧ p.depth ≤ 60 ∧ p.shown.length ≤ sizeLine
theorem rp_all : ∀ p ∈ poolP, p.showable = true ∧ p.hasDict = false ∧ p.depth ≤ 60 ∧ p.shown.length ≤ 1000 := by decide +kernel
theorem pool_py {ω : Om} {on : Nat} {t : Dt} (h : ω[on]? = some (.lst [.int 1, .int 2])) (ht : t ∈ poolD on) : ∃ p, Py ω t p ∧ p.showable = true ∧ p.hasDict = false ∧ p.depth ≤ 60 ∧ p.shown.length ≤ sizeLine := by
  have fin : ∀ p, p ∈ poolP → Py ω t p → ∃ p, Py ω t p ∧ p.showable = true ∧ p.hasDict = false ∧ p.depth ≤ 60 ∧ p.shown.length ≤ sizeLine := fun p hp hy => by
    obtain ⟨a, b, c, d⟩ := rp_all p hp
    exact ⟨p, hy, a, b, c, Nat.le_trans d (by decide)⟩
  simp only [poolD, List.mem_cons, List.not_mem_nil, or_false] at ht
  rcases ht with rfl | rfl | rfl | rfl | rfl | rfl | rfl | rfl | rfl | rfl | rfl | rfl
  · exact fin (.int 0) (by simp [poolP]) (.int _)
  · exact fin (.int (0 - 7)) (by simp [poolP]) (.int _)
  · exact fin (.int (10 ^ 20)) (by simp [poolP]) (.int _)
  · exact fin (.str "") (by simp [poolP]) (.str _)
  · exact fin (.str "idle") (by simp [poolP]) (.str _)
  · exact fin .none (by simp [poolP]) .non
  · exact fin (.bool true) (by simp [poolP]) (.bl _)
  · exact fin (.tuple [.str "a", .int 1]) (by simp [poolP]) (.tup (.cons (.str _) (.cons (.int _) .nil)))
  · exact fin (.list []) (by simp [poolP]) (.lst .nil)
  · exact fin (.list [.int 1, .int 2]) (by simp [poolP]) (.own h (.cons (.int _) (.cons (.int _) .nil)))
  · exact fin (.tuple []) (by simp [poolP]) (.tup .nil)
  · exact fin (.str "hosts") (by simp [poolP]) (.str _)
theorem zip_is (ts : List Dt) : ∀ d ∈ zipD ts ts, IsPr d := fun d hd => by
  unfold zipD at hd
  obtain ⟨i, hi⟩ := List.getElem?_of_mem hd
  rw [List.getElem?_zipWith] at hi
  cases q : ts[i]? with
  | none => rw [q] at hi; cases hi
  | some t => rw [q] at hi; cases hi; exact ⟨_, _, rfl⟩
theorem zip_get {ts : List Dt} {i : Nat} {d : Dt} (hi : (zipD ts ts)[i]? = some d) : ∃ t ∈ ts, d = .tup [t, t] := by
  unfold zipD at hi
  rw [List.getElem?_zipWith] at hi
  cases q : ts[i]? with
  | none => rw [q] at hi; cases hi
  | some t => rw [q] at hi; cases hi; exact ⟨t, List.mem_of_getElem? q, rfl⟩
def eqB (i : Nat) : Dt → Dt
  | .int j => .bl (decide (j = (i : Int)))
  | _ => .non
theorem row_eq {i : Nat} (hi : i < 10) : (rngD 0 10).map (eqB i) = sortsD i := by
  match i, hi with
  | 0, _ => rfl
  | 1, _ => rfl
  | 2, _ => rfl
  | 3, _ => rfl
  | 4, _ => rfl
  | 5, _ => rfl
  | 6, _ => rfl
  | 7, _ => rfl
  | 8, _ => rfl
  | 9, _ => rfl
def sortsP (i : Nat) : List PyData := [.bool (decide (0 = i)), .bool (decide (1 = i)), .bool (decide (2 = i)), .bool (decide (3 = i)), .bool (decide (4 = i)), .bool (decide (5 = i)), .bool (decide (6 = i)), .bool (decide (7 = i)), .bool (decide (8 = i)), .bool (decide (9 = i))]
theorem py_sorts {ω : Om} (i : Nat) : Py ω (.lst (sortsD i)) (.list (sortsP i)) := .lst (.cons (.bl _) (.cons (.bl _) (.cons (.bl _) (.cons (.bl _) (.cons (.bl _) (.cons (.bl _) (.cons (.bl _) (.cons (.bl _) (.cons (.bl _) (.cons (.bl _) .nil))))))))))
theorem bools_nice : ∀ bs : List Bool, NiceL 0 (bs.length * 42) (bs.map PyData.bool)
  | [] => .nil
  | b :: bs => .cons (a := 41) (b := bs.length * 42) (.bl b) (bools_nice bs) (by rw [List.length_cons]; omega)
theorem nice_sorts (i : Nat) : Nice 60 420 (.list (sortsP i)) := (Nice.lst (bools_nice [decide (0 = i), decide (1 = i), decide (2 = i), decide (3 = i), decide (4 = i), decide (5 = i), decide (6 = i), decide (7 = i), decide (8 = i), decide (9 = i)])).mono (by decide) (by show 10 * 42 ≤ 420; decide)
structure L1W (P : Program) (w : World) (K : Fg) (mg : Str → Option Value) (base : Heap) (Cs : List Addr) (CN : Addr) : Prop where
  T : KT1 K Cs CN
  feed : GF P w K mg base "_law_feed" 1 2 spFeed
  pick : GF P w K mg base "_law_pick" 2 2 spPick
  made : GF P w K mg base "_law_made" 3 1 (spMade Cs)
  byName : GF P w K mg base "_law_by_name" 3 1 (spMade Cs)
  sorts : GF P w K mg base "_law_sorts" 2 1 (spSorts Cs)
  held : GF P w K mg base "_law_held" 1 1 (spHeldL Cs)
  gN : mg "NightError" = some (.ref CN)
  g_range : mg "range" = none
  g_max : mg "max" = none
  g_min : mg "min" = none
  g_len : mg "len" = none
  g_zip : mg "zip" = none
  g_repr : mg "repr" = none
  g_enum : mg "enumerate" = none
  g_isi : mg "isinstance" = none
  g_VE : mg "ValueError" = none
  g_IE : mg "IndexError" = none
structure Goal0 (K : Fg) (mg : Str → Option Value) (x : Str) (C : Addr) : Prop where
  ex : Ex0 K C
  g : mg x = some (.ref C)
section
variable {P : Program} {w : World} {K : Fg} {mg : Str → Option Value} {base : Heap} {C0 C1 C2 C3 C4 C5 C6 C7 C8 C9 CN : Addr}
theorem every_exD {ω : Om} {xs : List Dt} {ts : List Dt} {n m : Nat} {i : Nat} {x : Dt} (hh : Held8 ω [C0, C1, C2, C3, C4, C5, C6, C7, C8, C9] xs ts) (hn : ω[n]? = some (.any (exA C8 none))) (hm : ω[m]? = some (.any (exA C9 none))) (hx : (xs ++ [.own n, .own m])[i]? = some x) : i < 10 ∧ ∃ C, [C0, C1, C2, C3, C4, C5, C6, C7, C8, C9][i]? = some C ∧ ExD ω C x := by
  have hi : i < 10 := by
    have := (List.getElem?_eq_some_iff.mp hx).1
    rw [List.length_append, hh.lx] at this
    exact this
  refine ⟨hi, ?_⟩
  by_cases h8 : i < 8
  · rw [List.getElem?_append_left (by rw [hh.lx]; exact h8)] at hx
    obtain ⟨C, hC⟩ : ∃ C, [C0, C1, C2, C3, C4, C5, C6, C7, C8, C9][i]? = some C := ⟨_, List.getElem?_eq_getElem (by show i < 10; exact hi)⟩
    obtain ⟨t, ht⟩ : ∃ t, ts[i]? = some t := ⟨_, List.getElem?_eq_getElem (by rw [hh.lt]; exact h8)⟩
    exact ⟨C, hC, (hh.hd i C x t hC hx ht).exD⟩
  · rw [List.getElem?_append_right (by rw [hh.lx]; omega), hh.lx] at hx
    have : i = 8 ∨ i = 9 := by omega
    rcases this with rfl | rfl
    · cases hx; exact ⟨C8, rfl, .o hn⟩
    · cases hx; exact ⟨C9, rfl, .o hm⟩
theorem ok_law {f : Addr} {fd : FuncData} {n : Nat} (L : L1W P w K mg base [C0, C1, C2, C3, C4, C5, C6, C7, C8, C9] CN) (E8 : Goal0 K mg "InvalidGoal" C8) (E9 : Goal0 K mg "InvalidCommand" C9) (Fd : FunT K "law" "law" s_law [] f fd) : FnP P w K mg base 5 f fd p_law (spLaw n) := by
  refine fn_ok Fd sc_law (fun ds ω Ψ ε h => ?_) (fun cdv A outer s H E ct ds ω Ψ ε hlt h => ?_)
  · obtain ⟨ns, rfl, _⟩ := h; rfl
  · obtain ⟨ns, rfl, hns, rfl, k⟩ := h
    have g1 := L.g_max
    have g2 := L.g_min
    have g3 := L.g_len
    have hu := ct.room.r.units
    have hg := ct.room.g
    have hr1 := ct.room.mono (show 1 ≤ 4 by decide)
    have hr2 := ct.room.mono (show 2 ≤ 4 by decide)
    have hr3 := ct.room.mono (show 3 ≤ 4 by decide)
    have slz : (9000000 : Nat) ≤ sizeLine := by decide
    refine ess_cons (es_for ct.ok (ei_range1 L.g_range ?_ (hp := pi_range1 (by rfl) L.g_range pA)))
    repeat walk_at "ev"
    refine ⟨_, rfl, ?_, ?_, fun i ρ' ω' => ∃ r1 r2 r3 r4 r5 r6 r7 r8 r9 r10 r11 r12 r13 r14 r15, ρ' = [some (.lst (ns.map Dt.int)), r1, r2, r3, r4, r5, r6, r7, r8, r9, r10, r11, r12, r13, r14, r15], ⟨_, _, _, _, _, _, _, _, _, _, _, _, _, _, _, rfl⟩, fun _ _ _ _ => trivial, ?_, ?_⟩
    · split <;> omega
    · split
      · split <;> omega
      · omega
    · intro i d ρ' ω' hd hI
      obtain ⟨r1, r2, r3, r4, r5, r6, r7, r8, r9, r10, r11, r12, r13, r14, r15, rfl⟩ := hI
      obtain ⟨j, rfl, hj0, hj1⟩ := rng_mem (List.mem_of_getElem? hd) (cells3 _)
      refine eg_name 1 ct.ok.nd ?_
      refine ess_ab fun Φ0 nxt0 cnt0 => ?_
      refine ess_cons <| es_set 2 ct.ok.nd <| ev_fn L.feed hr1 <| ea_cons <| ev_var 0 rfl <| ea_cons <| ev_var 1 rfl <| ea_nil ⟨rfl, ns, j, rfl, hj0, hj1, fun g sd => ?_⟩
      have hb : (ω' ++ [box g sd 0])[ω'.length]? = some (box g sd 0) := get_last _ _
      generalize ω' ++ [box g sd 0] = ω0 at hb ⊢
      generalize ω'.length = b at hb ⊢
      refine ess_cons <| es_set 3 ct.ok.nd <| ev_lstO <| ea_cons <| ev_int <| ea_nil ⟨show 1 ≤ sizeLine by decide, ?_⟩
      have hbl : b < ω0.length := (List.getElem?_eq_some_iff.mp hb).1
      have hb1 : (ω0 ++ [Ow.lst [.int 1]])[b]? = some (box g sd 0) := app_get hb
      have ho1 : (ω0 ++ [Ow.lst [.int 1]])[ω0.length]? = some (Ow.lst [.int 1]) := get_last _ _
      have hbo : b ≠ ω0.length := by omega
      have hol : ω0.length < (ω0 ++ [Ow.lst [.int 1]]).length := by simp
      generalize ω0 ++ [Ow.lst [.int 1]] = ω1 at hb1 ho1 hol ⊢
      generalize ω0.length = on at ho1 hbo hol hbl ⊢
      clear hb
      refine ess_cons <| es_set 4 ct.ok.nd ?_
      repeat walk_at "dat"
      refine ess_rho (ρ' := [some (.lst (ns.map Dt.int)), some (.int j), some (.own b), some (.own on), some (.lst (poolD on)), r5, r6, r7, r8, r9, r10, r11, r12, r13, r14, r15]) rfl ?_
      refine ess_cons <| es_setLc 5 6 (own := [("_law_turn", 6)]) ct.ok (blkOk_by (N := n_law) (sc := defScope s_law) (by decide +kernel)) (by decide) (.inl rfl) (by rfl) (ei_range1 L.g_range (ea_cons <| ev_int <| ea_nil ⟨8, rfl, by decide, by decide, fun i acc ω' => acc.length = i ∧ i ≤ 8 ∧ (∀ t ∈ acc, t ∈ poolD on) ∧ (∃ g s c, ω'[b]? = some (box g s c)) ∧ ω'[on]? = some (.lst [.int 1]) ∧ on < ω'.length, ⟨rfl, by decide, (fun t ht => nomatch ht), ⟨_, _, _, hb1⟩, ho1, hol⟩, fun _ _ _ _ => trivial, ?_, ?_⟩) (hp := pi_range1 (by rfl) L.g_range pA)) (fun s H C cl fp => pg_name ct.ok.nd rfl (Or.inl rfl))
      · intro i d acc ω' hd z
        obtain ⟨hl, _, hin, ⟨g, s, c, hb⟩, ho, hol⟩ := z
        have hi : i < 8 := by have := rng_lt hd; exact this
        refine elt0 fun s1 H1 C cl fp => ev_fn L.pick hr2 <| ea_cons <| ev_var 2 rfl <| ea_cons <| ev_var 4 rfl <| ea_nil ⟨rfl, b, poolD on, g, s, c, rfl, hb, show 0 < 12 by decide, show 12 < 1000 by decide, ?_, fun d g' s' c' hd => ⟨by rw [hl]; exact Nat.lt_trans hi (by decide), ?_⟩⟩
        · simp only [poolD, ltL, Dt.lt, Bool.and_true, decide_eq_true hol]
        · refine ⟨by rw [List.length_append, hl]; rfl, hi, fun t ht => ?_, ⟨g', s', c', List.getElem?_set_self (List.getElem?_eq_some_iff.mp hb).1⟩, ?_, by rw [List.length_set]; exact hol⟩
          · rcases List.mem_append.mp ht with q | q
            · exact hin t q
            · rw [List.mem_singleton.mp q]; exact hd
          · rw [List.getElem?_set_ne hbo]; exact ho
      intro ts ω2 z
      obtain ⟨hl, _, hin, _, ho2, _⟩ := z
      clear hb1 ho1 hol
      have hl : ts.length = 8 := hl
      refine ess_rho (ρ' := [some (.lst (ns.map Dt.int)), some (.int j), some (.own b), some (.own on), some (.lst (poolD on)), some (.lst ts), r6, r7, r8, r9, r10, r11, r12, r13, r14, r15]) rfl ?_
      refine ess_cons (es_par 7 8 ct.ok ?_ (hp := ps_par rfl ct.ok.nd rfl rfl (by decide) rfl rfl pA rfl))
      refine ea_cons <| ev_fn L.made hr3 <| ea_cons <| ev_var 5 rfl <| ea_nil ⟨rfl, ts, rfl, hl, fun xs ω3 hr h3 => ?_⟩
      obtain ⟨r, rfl⟩ := hr
      have ho3 : (ω2 ++ r)[on]? = some (.lst [.int 1]) := by rw [List.getElem?_append_left (List.getElem?_eq_some_iff.mp ho2).1]; exact ho2
      generalize ω2 ++ r = ω3 at h3 ho3 ⊢
      refine ea_cons <| ev_fn L.byName hr3 <| ea_cons <| ev_var 5 rfl <| ea_nil ⟨rfl, ts, rfl, hl, fun ys ω4 hr h4 => ?_⟩
      obtain ⟨r2, rfl⟩ := hr
      have h34 := h3.app (r := r2)
      have ho4 : (ω3 ++ r2)[on]? = some (.lst [.int 1]) := by rw [List.getElem?_append_left (List.getElem?_eq_some_iff.mp ho3).1]; exact ho3
      clear h3 ho3
      generalize ω3 ++ r2 = ω4 at h34 h4 ho4 ⊢
      refine ea_nil ⟨_, _, rfl, ?_⟩
      refine ess_rho (ρ' := [some (.lst (ns.map Dt.int)), some (.int j), some (.own b), some (.own on), some (.lst (poolD on)), some (.lst ts), r6, some (.lst xs), some (.lst ys), r9, r10, r11, r12, r13, r14, r15]) rfl ?_
      refine ess_cons <| es_expr <| ev_bm PySem.F.plainAttrs_list PySem.F.slot_list_append PySem.F.type_list_append <| ev_var 3 rfl ⟨.inl ⟨rfl, _, ho4⟩, ea_cons <| ev_int <| ea_nil <| md_append ho4 (show 1 < sizeLine by decide) ?_⟩
      have h5 := h34.set (u := .lst [.int 1, .int 2]) ho4
      have h6 := h4.set (u := .lst [.int 1, .int 2]) ho4
      have ho5 : (ω4.set on (Ow.lst [.int 1, .int 2]))[on]? = some (Ow.lst [.int 1, .int 2]) := List.getElem?_set_self (List.getElem?_eq_some_iff.mp ho4).1
      show ESs _ _ (ω4.set on (Ow.lst [.int 1, .int 2])) _ _
      generalize ω4.set on (Ow.lst [.int 1, .int 2]) = ω5 at h5 h6 ho5 ⊢
      clear h34 h4 ho4
      refine ess_cons (es_for ct.ok <| ei_seq <| ev_tup <| ea_cons <| ev_tup <| ea_cons <| ev_var 7 rfl <| ea_cons <| ev_var 5 rfl <| ea_nil ⟨show 2 ≤ sizeLine by decide, ea_cons <| ev_tup <| ea_cons <| ev_var 8 rfl <| ea_cons <| ev_var 5 rfl <| ea_nil ⟨show 2 ≤ sizeLine by decide, ea_nil ⟨show 2 ≤ sizeLine by decide, ?_⟩⟩⟩)
      refine ⟨[.tup [.lst xs, .lst ts], .tup [.lst ys, .lst ts]], .tup _, fun i ρ1 ω1 => ω1 = ω5 ∧ ∃ r6 r9 r10 r11 r12 r13 r14 r15, ρ1 = [some (.lst (ns.map Dt.int)), some (.int j), some (.own b), some (.own on), some (.lst (poolD on)), some (.lst ts), r6, some (.lst xs), some (.lst ys), r9, r10, r11, r12, r13, r14, r15], ⟨rfl, _, _, _, _, _, _, _, _, rfl⟩, fun _ _ _ _ => .tup _, ?_, ?_⟩
      · intro i x ρ1 ω1 hx hI
        obtain ⟨rfl, r6, r9, r10, r11, r12, r13, r14, r15, rfl⟩ := hI
        obtain ⟨zs, rfl, hz⟩ : ∃ zs, x = .tup [.lst zs, .lst ts] ∧ Held8 ω1 [C0, C1, C2, C3, C4, C5, C6, C7, C8, C9] zs ts := by
          match i, hx with
          | 0, rfl => exact ⟨_, rfl, h5⟩
          | 1, rfl => exact ⟨_, rfl, h6⟩
        refine eg_tup rfl (egs_cons (eg_name 9 ct.ok.nd (egs_cons (eg_name 10 ct.ok.nd (egs_nil ?_))))) rfl
        refine ess_cons (es_ifB false ?_ (fun z => nomatch z) (fun _ => ess_nil (ess_nil ⟨rfl, _, _, _, _, _, _, _, _, rfl⟩)))
        refine et_cmp <| ev_lcP 11 12 (own := [("_law_held_here", 11), ("_law_thing", 12)]) ct.ok (blkOk_by (N := n_law) (sc := defScope s_law) (by decide +kernel)) (by decide) (by decide) (.inr ⟨_, rfl⟩) (ei_zip L.g_zip <| ea_cons <| ev_fn L.held hr1 <| ea_cons <| ev_var 9 rfl <| ea_nil ⟨rfl, _, _, rfl, hz, ea_cons <| ev_var 10 rfl <| ea_nil ⟨_, _, _, _, rfl, .lst _, .lst _, zip_is ts, fun i acc ω' => acc = [] ∧ ω' = ω1, ⟨rfl, rfl⟩, fun _ _ _ _ => ⟨.lst _, .lst _⟩, ?_, ?_⟩⟩) (fun s H C cl fp => pg_tup rfl (pgs_cons (pg_name ct.ok.nd rfl (Or.inl rfl)) (pgs_cons (pg_name ct.ok.nd rfl (Or.inl rfl)) pgs_nil)))
        · intro i1 d acc ω' hd z
          obtain ⟨rfl, rfl⟩ := z
          obtain ⟨t, ht, rfl⟩ := zip_get hd
          obtain ⟨p, hp, p1, p2, p3, p4⟩ := pool_py ho5 (hin t ht)
          refine elt1 false (fun s1 H1 C cl fp => ?_) (fun z => nomatch z) (fun _ => ⟨rfl, rfl⟩)
          refine et_cmp <| ev_callB (id := "repr") L.g_repr <| ea_cons <| ev_var 11 rfl <| ea_nil <| cd_repr hg hu hp p1 p2 p3 p4 <| ev_callB (id := "repr") L.g_repr <| ea_cons <| ev_var 12 rfl <| ea_nil <| cd_repr hg hu hp p1 p2 p3 p4 <| od_ne_str ⟨_, rfl, ?_, rfl⟩
          rw [decide_eq_true rfl]; rfl
        · intro acc ω' z
          obtain ⟨rfl, rfl⟩ := z
          refine ev_lst <| ea_nil ⟨Nat.zero_le _, od_neN (m := 0) (m' := 0) (.lst .nil) (.lst .nil) ((Nice.lst (n := 0) .nil).mono (by decide) (Nat.le_refl _)) ((Nice.lst (n := 0) .nil).mono (by decide) (Nat.le_refl _)) hu ⟨_, rfl, ?_, rfl⟩⟩
          rw [eqv_self (Nice.lst (n := 0) (m := 0) .nil)]; rfl
      · intro ρ1 ω1 hI
        obtain ⟨rfl, r6, r9, r10, r11, r12, r13, r14, r15, rfl⟩ := hI
        refine ess_cons <| es_set 13 ct.ok.nd <| ev_bin <| ev_var 7 rfl <| ev_lst <| ea_cons <| ev_exc0 E8.ex E8.g <| ea_cons <| ev_exc0 E9.ex E9.g <| ea_nil ⟨show 2 ≤ sizeLine by decide, od_catL (.lst _) (.lst _) ?_ ?_⟩
        · rw [h5.lx]; show 8 + 2 ≤ sizeLine; decide
        have h7 := (h5.app (r := [Ow.any (exA C8 none)])).app (r := [Ow.any (exA C9 none)])
        have n8 : ((ω1 ++ [Ow.any (exA C8 none)]) ++ [Ow.any (exA C9 none)])[ω1.length]? = some (Ow.any (exA C8 none)) := app_get (get_last _ _)
        have n9 : ((ω1 ++ [Ow.any (exA C8 none)]) ++ [Ow.any (exA C9 none)])[(ω1 ++ [Ow.any (exA C8 none)]).length]? = some (Ow.any (exA C9 none)) := get_last _ _
        have ev := fun i x (hx : (xs ++ [Dt.own ω1.length, Dt.own (ω1 ++ [Ow.any (exA C8 none)]).length])[i]? = some x) => every_exD h7 n8 n9 hx
        clear h5 h6 ho5 h7 n8 n9
        generalize xs ++ [Dt.own ω1.length, Dt.own (ω1 ++ [Ow.any (exA C8 none)]).length] = evs at ev ⊢
        generalize (ω1 ++ [Ow.any (exA C8 none)]) ++ [Ow.any (exA C9 none)] = ω6 at ev ⊢
        refine ess_rho (ρ' := [some (.lst (ns.map Dt.int)), some (.int j), some (.own b), some (.own on), some (.lst (poolD on)), some (.lst ts), r6, some (.lst xs), some (.lst ys), r9, r10, r11, r12, some (.lst evs), r14, r15]) rfl ?_
        refine ess_cons (es_for ct.ok <| ei_enum L.g_enum <| ea_cons <| ev_var 13 rfl <| ea_nil ⟨_, _, rfl, .lst _, fun i ρ1 ω1 => ω1 = ω6 ∧ ∃ r6 r9 r14 r15, ρ1 = [some (.lst (ns.map Dt.int)), some (.int j), some (.own b), some (.own on), some (.lst (poolD on)), some (.lst ts), r6, some (.lst xs), some (.lst ys), r9, r10, r11, r12, some (.lst evs), r14, r15], ⟨rfl, _, _, _, _, rfl⟩, fun _ _ _ _ => .lst _, ?_, ?_⟩)
        · intro i0 x ρ2 ω2 hx hI
          obtain ⟨rfl, r6, r9, r14, r15, rfl⟩ := hI
          obtain ⟨one, h1, rfl⟩ := enum_get hx
          obtain ⟨hi, C, hC, hX⟩ := ev i0 one h1
          rw [Nat.zero_add]
          refine eg_tup rfl (egs_cons (eg_name 14 ct.ok.nd (egs_cons (eg_name 9 ct.ok.nd (egs_nil ?_))))) rfl
          refine ess_cons (es_ifB false ?_ (fun z => nomatch z) (fun _ => ess_nil ?_))
          · refine et_cmp <| ev_fn L.sorts hr2 <| ea_cons <| ev_var 9 rfl <| ea_nil ⟨rfl, _, i0, C, rfl, hC, hX, ?_⟩
            refine ev_map 6 (own := [("_law_turn", 6)]) (eqB i0) ct.ok (blkOk_by (N := n_law) (sc := defScope s_law) (by decide +kernel)) (by decide) (ei_range1 L.g_range (ea_cons <| ev_int <| ea_nil ⟨10, rfl, by decide, by decide, trivial, ?_, ?_, ?_⟩) (hp := pi_range1 (by rfl) L.g_range pA)) (fun s H C cl fp => pg_name ct.ok.nd rfl (Or.inl rfl))
            · intro d hd s1 H1 C1 cl fp
              obtain ⟨jj, rfl, _, _⟩ := rng_mem (m := 10) hd (by decide)
              exact ev_cmp <| ev_var 6 rfl <| ev_var 14 rfl <| od_eq_int ⟨rfl, rfl⟩
            · rw [rng_len]; decide
            · show OD _ _ _ (.lst ((rngD 0 10).map (eqB i0))) _ _ _
              rw [row_eq hi]
              refine od_neN (py_sorts i0) (py_sorts i0) (nice_sorts i0) (nice_sorts i0) hu ⟨_, rfl, ?_, rfl⟩
              rw [eqv_self (nice_sorts i0)]; rfl
          have ec : decide (((i0 : Nat) : Int) = 7) = decide (i0 = 7) := by
            by_cases q : i0 = 7
            · subst q; rfl
            · rw [decide_eq_false q, decide_eq_false (by omega)]
          refine ess_cons <| es_set 15 ct.ok.nd <| ev_callB (id := "isinstance") L.g_isi <| ea_cons <| ev_var 9 rfl <| ea_cons <| ev_glob (gl_ref L.gN) <| ea_nil <| cd_isX (L.T.e i0 C hC) hX (.own CN) (L.T.n i0 C hC) ?_
          refine ess_cons (es_ifB false ?_ (fun z => nomatch z) (fun _ => ess_nil ?_))
          · refine et_w <| ew_or <| et_cmp <| ev_var 15 rfl <| ev_cmp <| ev_var 14 rfl <| ev_int <| od_ne_int <| od_ne_bl ⟨_, rfl, ?_⟩
            rw [ec, decide_eq_true rfl]
            refine iteF <| ew_or1 <| et_cmp ?_
            refine ev_callB (id := "isinstance") L.g_isi <| ea_cons <| ev_var 9 rfl <| ea_cons <| ev_bltn (n := "ValueError") L.g_VE <| ea_nil <| cd_isX (L.T.e i0 C hC) hX (.ty "ValueError") (L.T.v i0 C hC) <| ev_var 15 rfl <| od_ne_bl ⟨_, rfl, ?_, rfl⟩
            rw [decide_eq_true rfl]; rfl
          refine ess_cons (es_ifB false ?_ (fun z => nomatch z) (fun _ => ess_nil (ess_nil ⟨rfl, _, _, _, _, rfl⟩)))
          refine et_cmp <| ev_callB (id := "isinstance") L.g_isi <| ea_cons <| ev_var 9 rfl <| ea_cons <| ev_bltn (n := "IndexError") L.g_IE <| ea_nil <| cd_isX (L.T.e i0 C hC) hX (.ty "IndexError") (L.T.x i0 C hC) <| ev_cmp <| ev_var 14 rfl <| ev_int <| od_eq_int <| od_ne_bl ⟨_, rfl, ?_, rfl⟩
          rw [ec, decide_eq_true rfl]; rfl
        · intro ρ2 ω2 hI
          obtain ⟨rfl, r6, r9, r14, r15, rfl⟩ := hI
          exact ess_nil (nxt0 _ _ ⟨_, _, _, _, _, _, _, _, _, _, _, _, _, _, _, rfl⟩)
    · intro ρ' ω' hI
      exact ess_cons (es_lt fun hl => es_ret (ev_bl (giv_all (Nat.zero_le _) hl rfl (k _))))
end
theorem eb_InvalidRule : ErBody s_InvalidRule_init "word" := ⟨_, _, _, _, _, _, _, _, _, _, _, _, rfl, ⟨_, fun env => rfl⟩, fun env => rfl, fun env => rfl⟩
theorem esc_InvalidRule : ErSc s_InvalidRule_init "word" := ⟨by decide +kernel, rfl, rfl, rfl, rfl, rfl, rfl, rfl, ⟨_, rfl, rfl⟩, by decide, by decide⟩
theorem kd_InvalidRule {kV doc pm cdv ct : Value} {an : Option Addr} {cc : Addr} (s : Shared) (a u : Value) : BindsTo s (PySem.W.ksFn "__init__" "InvalidRule.__init__" (defArgs s_InvalidRule_init) (defBody s_InvalidRule_init) (defScope s_InvalidRule_init) .none kV doc pm an cdv ct cc) ⟨[a], [("word", u)]⟩ [("self", a), ("word", u)] := .of_eq rfl
theorem bd_InvalidRule {K : Fg} {kV doc pm cdv ct : Value} {an : Option Addr} {cc : Addr} : Binds K (PySem.W.ksFn "__init__" "InvalidRule.__init__" (defArgs s_InvalidRule_init) (defBody s_InvalidRule_init) (defScope s_InvalidRule_init) .none kV doc pm an cdv ct cc) ["self", "word"] [] := .all fun us hl => match us, hl with | [_, _], _ => rfl
theorem eb_InvalidPlan : ErBody s_InvalidPlan_init "word" := ⟨_, _, _, _, _, _, _, _, _, _, _, _, rfl, ⟨_, fun env => rfl⟩, fun env => rfl, fun env => rfl⟩
theorem esc_InvalidPlan : ErSc s_InvalidPlan_init "word" := ⟨by decide +kernel, rfl, rfl, rfl, rfl, rfl, rfl, rfl, ⟨_, rfl, rfl⟩, by decide, by decide⟩
theorem kd_InvalidPlan {kV doc pm cdv ct : Value} {an : Option Addr} {cc : Addr} (s : Shared) (a u : Value) : BindsTo s (PySem.W.ksFn "__init__" "InvalidPlan.__init__" (defArgs s_InvalidPlan_init) (defBody s_InvalidPlan_init) (defScope s_InvalidPlan_init) .none kV doc pm an cdv ct cc) ⟨[a], [("word", u)]⟩ [("self", a), ("word", u)] := .of_eq rfl
theorem bd_InvalidPlan {K : Fg} {kV doc pm cdv ct : Value} {an : Option Addr} {cc : Addr} : Binds K (PySem.W.ksFn "__init__" "InvalidPlan.__init__" (defArgs s_InvalidPlan_init) (defBody s_InvalidPlan_init) (defScope s_InvalidPlan_init) .none kV doc pm an cdv ct cc) ["self", "word"] [] := .all fun us hl => match us, hl with | [_, _], _ => rfl
theorem eb_InvalidWorld : ErBody s_InvalidWorld_init "word" := ⟨_, _, _, _, _, _, _, _, _, _, _, _, rfl, ⟨_, fun env => rfl⟩, fun env => rfl, fun env => rfl⟩
theorem esc_InvalidWorld : ErSc s_InvalidWorld_init "word" := ⟨by decide +kernel, rfl, rfl, rfl, rfl, rfl, rfl, rfl, ⟨_, rfl, rfl⟩, by decide, by decide⟩
theorem kd_InvalidWorld {kV doc pm cdv ct : Value} {an : Option Addr} {cc : Addr} (s : Shared) (a u : Value) : BindsTo s (PySem.W.ksFn "__init__" "InvalidWorld.__init__" (defArgs s_InvalidWorld_init) (defBody s_InvalidWorld_init) (defScope s_InvalidWorld_init) .none kV doc pm an cdv ct cc) ⟨[a], [("word", u)]⟩ [("self", a), ("word", u)] := .of_eq rfl
theorem bd_InvalidWorld {K : Fg} {kV doc pm cdv ct : Value} {an : Option Addr} {cc : Addr} : Binds K (PySem.W.ksFn "__init__" "InvalidWorld.__init__" (defArgs s_InvalidWorld_init) (defBody s_InvalidWorld_init) (defScope s_InvalidWorld_init) .none kV doc pm an cdv ct cc) ["self", "word"] [] := .all fun us hl => match us, hl with | [_, _], _ => rfl
theorem eb_InvalidCrowd : ErBody s_InvalidCrowd_init "word" := ⟨_, _, _, _, _, _, _, _, _, _, _, _, rfl, ⟨_, fun env => rfl⟩, fun env => rfl, fun env => rfl⟩
theorem esc_InvalidCrowd : ErSc s_InvalidCrowd_init "word" := ⟨by decide +kernel, rfl, rfl, rfl, rfl, rfl, rfl, rfl, ⟨_, rfl, rfl⟩, by decide, by decide⟩
theorem kd_InvalidCrowd {kV doc pm cdv ct : Value} {an : Option Addr} {cc : Addr} (s : Shared) (a u : Value) : BindsTo s (PySem.W.ksFn "__init__" "InvalidCrowd.__init__" (defArgs s_InvalidCrowd_init) (defBody s_InvalidCrowd_init) (defScope s_InvalidCrowd_init) .none kV doc pm an cdv ct cc) ⟨[a], [("word", u)]⟩ [("self", a), ("word", u)] := .of_eq rfl
theorem bd_InvalidCrowd {K : Fg} {kV doc pm cdv ct : Value} {an : Option Addr} {cc : Addr} : Binds K (PySem.W.ksFn "__init__" "InvalidCrowd.__init__" (defArgs s_InvalidCrowd_init) (defBody s_InvalidCrowd_init) (defScope s_InvalidCrowd_init) .none kV doc pm an cdv ct cc) ["self", "word"] [] := .all fun us hl => match us, hl with | [_, _], _ => rfl
theorem eb_InvalidText : ErBody s_InvalidText_init "at" := ⟨_, _, _, _, _, _, _, _, _, _, _, _, rfl, ⟨_, fun env => rfl⟩, fun env => rfl, fun env => rfl⟩
theorem esc_InvalidText : ErSc s_InvalidText_init "at" := ⟨by decide +kernel, rfl, rfl, rfl, rfl, rfl, rfl, rfl, ⟨_, rfl, rfl⟩, by decide, by decide⟩
theorem kd_InvalidText {kV doc pm cdv ct : Value} {an : Option Addr} {cc : Addr} (s : Shared) (a u : Value) : BindsTo s (PySem.W.ksFn "__init__" "InvalidText.__init__" (defArgs s_InvalidText_init) (defBody s_InvalidText_init) (defScope s_InvalidText_init) .none kV doc pm an cdv ct cc) ⟨[a], [("at", u)]⟩ [("self", a), ("at", u)] := .of_eq rfl
theorem bd_InvalidText {K : Fg} {kV doc pm cdv ct : Value} {an : Option Addr} {cc : Addr} : Binds K (PySem.W.ksFn "__init__" "InvalidText.__init__" (defArgs s_InvalidText_init) (defBody s_InvalidText_init) (defScope s_InvalidText_init) .none kV doc pm an cdv ct cc) ["self", "at"] [] := .all fun us hl => match us, hl with | [_, _], _ => rfl
theorem eb_InvalidEvent : ErBody s_InvalidEvent_init "at" := ⟨_, _, _, _, _, _, _, _, _, _, _, _, rfl, ⟨_, fun env => rfl⟩, fun env => rfl, fun env => rfl⟩
theorem esc_InvalidEvent : ErSc s_InvalidEvent_init "at" := ⟨by decide +kernel, rfl, rfl, rfl, rfl, rfl, rfl, rfl, ⟨_, rfl, rfl⟩, by decide, by decide⟩
theorem kd_InvalidEvent {kV doc pm cdv ct : Value} {an : Option Addr} {cc : Addr} (s : Shared) (a u : Value) : BindsTo s (PySem.W.ksFn "__init__" "InvalidEvent.__init__" (defArgs s_InvalidEvent_init) (defBody s_InvalidEvent_init) (defScope s_InvalidEvent_init) .none kV doc pm an cdv ct cc) ⟨[a], [("at", u)]⟩ [("self", a), ("at", u)] := .of_eq rfl
theorem bd_InvalidEvent {K : Fg} {kV doc pm cdv ct : Value} {an : Option Addr} {cc : Addr} : Binds K (PySem.W.ksFn "__init__" "InvalidEvent.__init__" (defArgs s_InvalidEvent_init) (defBody s_InvalidEvent_init) (defScope s_InvalidEvent_init) .none kV doc pm an cdv ct cc) ["self", "at"] [] := .all fun us hl => match us, hl with | [_, _], _ => rfl
theorem eb_Refused : ErBody s_Refused_init "at" := ⟨_, _, _, _, _, _, _, _, _, _, _, _, rfl, ⟨_, fun env => rfl⟩, fun env => rfl, fun env => rfl⟩
theorem esc_Refused : ErSc s_Refused_init "at" := ⟨by decide +kernel, rfl, rfl, rfl, rfl, rfl, rfl, rfl, ⟨_, rfl, rfl⟩, by decide, by decide⟩
theorem kd_Refused {kV doc pm cdv ct : Value} {an : Option Addr} {cc : Addr} (s : Shared) (a u : Value) : BindsTo s (PySem.W.ksFn "__init__" "Refused.__init__" (defArgs s_Refused_init) (defBody s_Refused_init) (defScope s_Refused_init) .none kV doc pm an cdv ct cc) ⟨[a], [("at", u)]⟩ [("self", a), ("at", u)] := .of_eq rfl
theorem bd_Refused {K : Fg} {kV doc pm cdv ct : Value} {an : Option Addr} {cc : Addr} : Binds K (PySem.W.ksFn "__init__" "Refused.__init__" (defArgs s_Refused_init) (defBody s_Refused_init) (defScope s_Refused_init) .none kV doc pm an cdv ct cc) ["self", "at"] [] := .all fun us hl => match us, hl with | [_, _], _ => rfl
theorem eb_NoRule : ErBody s_NoRule_init "at" := ⟨_, _, _, _, _, _, _, _, _, _, _, _, rfl, ⟨_, fun env => rfl⟩, fun env => rfl, fun env => rfl⟩
theorem esc_NoRule : ErSc s_NoRule_init "at" := ⟨by decide +kernel, rfl, rfl, rfl, rfl, rfl, rfl, rfl, ⟨_, rfl, rfl⟩, by decide, by decide⟩
theorem kd_NoRule {kV doc pm cdv ct : Value} {an : Option Addr} {cc : Addr} (s : Shared) (a u : Value) : BindsTo s (PySem.W.ksFn "__init__" "NoRule.__init__" (defArgs s_NoRule_init) (defBody s_NoRule_init) (defScope s_NoRule_init) .none kV doc pm an cdv ct cc) ⟨[a], [("at", u)]⟩ [("self", a), ("at", u)] := .of_eq rfl
theorem bd_NoRule {K : Fg} {kV doc pm cdv ct : Value} {an : Option Addr} {cc : Addr} : Binds K (PySem.W.ksFn "__init__" "NoRule.__init__" (defArgs s_NoRule_init) (defBody s_NoRule_init) (defScope s_NoRule_init) .none kV doc pm an cdv ct cc) ["self", "at"] [] := .all fun us hl => match us, hl with | [_, _], _ => rfl
theorem all_mk {P : Program} {w : World} {K : Fg} {h : Heap} {mg : Str → Option Value} {fa : Addr} (X : K.In h) (G : h.Ns mainGlobals mg) (hfa : mg "law" = some (.ref fa))
    {f_l_feed : Addr} {od_l_feed an_l_feed : Option Addr} {sl_l_feed : Array (Option Value)} {oc_l_feed kV_l_feed dc_l_feed pm_l_feed cd_l_feed ct_l_feed : Value}
    {f_l_take : Addr} {od_l_take an_l_take : Option Addr} {sl_l_take : Array (Option Value)} {oc_l_take kV_l_take dc_l_take pm_l_take cd_l_take ct_l_take : Value}
    {f_l_pick : Addr} {od_l_pick an_l_pick : Option Addr} {sl_l_pick : Array (Option Value)} {oc_l_pick kV_l_pick dc_l_pick pm_l_pick cd_l_pick ct_l_pick : Value}
    {f_l_made : Addr} {od_l_made an_l_made : Option Addr} {sl_l_made : Array (Option Value)} {oc_l_made kV_l_made dc_l_made pm_l_made cd_l_made ct_l_made : Value}
    {f_l_by_name : Addr} {od_l_by_name an_l_by_name : Option Addr} {sl_l_by_name : Array (Option Value)} {oc_l_by_name kV_l_by_name dc_l_by_name pm_l_by_name cd_l_by_name ct_l_by_name : Value}
    {f_l_sorts : Addr} {od_l_sorts an_l_sorts : Option Addr} {sl_l_sorts : Array (Option Value)} {oc_l_sorts kV_l_sorts dc_l_sorts pm_l_sorts cd_l_sorts ct_l_sorts : Value}
    {f_l_held : Addr} {od_l_held an_l_held : Option Addr} {sl_l_held : Array (Option Value)} {oc_l_held kV_l_held dc_l_held pm_l_held cd_l_held ct_l_held : Value}
    {f_law : Addr} {od_law an_law : Option Addr} {sl_law : Array (Option Value)} {oc_law kV_law dc_law pm_law cd_law ct_law : Value}
    {C_InvalidRule : Addr}
    {nm_InvalidRule q_InvalidRule : Str} {N_InvalidRule : Addr} {bs_InvalidRule bm_InvalidRule : List Value} {sn_InvalidRule : List Str} {sub_InvalidRule : List Value} {ab_InvalidRule : Bool} {col_InvalidRule : Option Bool} {dd_InvalidRule : Option Addr} {k0_InvalidRule k1_InvalidRule k2_InvalidRule k3_InvalidRule k5_InvalidRule : Option Value}
    {f_InvalidRule_init cda_InvalidRule_init cc_InvalidRule_init : Addr} {od_InvalidRule_init an_InvalidRule_init : Option Addr} {sl_InvalidRule_init : Array (Option Value)} {oc_InvalidRule_init kV_InvalidRule_init dc_InvalidRule_init pm_InvalidRule_init ct_InvalidRule_init : Value}
    {ccl_InvalidRule_init : Value} {cdd_InvalidRule_init : Option Addr} {vs_InvalidRule_init : Array Value} {ccs_InvalidRule_init : Array (Option Value)} {file_InvalidRule_init : Str} {tf_InvalidRule_init : Nat} {cl_InvalidRule_init : Value} {cld_InvalidRule_init : Option Addr} {csl_InvalidRule_init : Array (Option Value)}
    {C_InvalidPlan : Addr}
    {nm_InvalidPlan q_InvalidPlan : Str} {N_InvalidPlan : Addr} {bs_InvalidPlan bm_InvalidPlan : List Value} {sn_InvalidPlan : List Str} {sub_InvalidPlan : List Value} {ab_InvalidPlan : Bool} {col_InvalidPlan : Option Bool} {dd_InvalidPlan : Option Addr} {k0_InvalidPlan k1_InvalidPlan k2_InvalidPlan k3_InvalidPlan k5_InvalidPlan : Option Value}
    {f_InvalidPlan_init cda_InvalidPlan_init cc_InvalidPlan_init : Addr} {od_InvalidPlan_init an_InvalidPlan_init : Option Addr} {sl_InvalidPlan_init : Array (Option Value)} {oc_InvalidPlan_init kV_InvalidPlan_init dc_InvalidPlan_init pm_InvalidPlan_init ct_InvalidPlan_init : Value}
    {ccl_InvalidPlan_init : Value} {cdd_InvalidPlan_init : Option Addr} {vs_InvalidPlan_init : Array Value} {ccs_InvalidPlan_init : Array (Option Value)} {file_InvalidPlan_init : Str} {tf_InvalidPlan_init : Nat} {cl_InvalidPlan_init : Value} {cld_InvalidPlan_init : Option Addr} {csl_InvalidPlan_init : Array (Option Value)}
    {C_InvalidWorld : Addr}
    {nm_InvalidWorld q_InvalidWorld : Str} {N_InvalidWorld : Addr} {bs_InvalidWorld bm_InvalidWorld : List Value} {sn_InvalidWorld : List Str} {sub_InvalidWorld : List Value} {ab_InvalidWorld : Bool} {col_InvalidWorld : Option Bool} {dd_InvalidWorld : Option Addr} {k0_InvalidWorld k1_InvalidWorld k2_InvalidWorld k3_InvalidWorld k5_InvalidWorld : Option Value}
    {f_InvalidWorld_init cda_InvalidWorld_init cc_InvalidWorld_init : Addr} {od_InvalidWorld_init an_InvalidWorld_init : Option Addr} {sl_InvalidWorld_init : Array (Option Value)} {oc_InvalidWorld_init kV_InvalidWorld_init dc_InvalidWorld_init pm_InvalidWorld_init ct_InvalidWorld_init : Value}
    {ccl_InvalidWorld_init : Value} {cdd_InvalidWorld_init : Option Addr} {vs_InvalidWorld_init : Array Value} {ccs_InvalidWorld_init : Array (Option Value)} {file_InvalidWorld_init : Str} {tf_InvalidWorld_init : Nat} {cl_InvalidWorld_init : Value} {cld_InvalidWorld_init : Option Addr} {csl_InvalidWorld_init : Array (Option Value)}
    {C_InvalidCrowd : Addr}
    {nm_InvalidCrowd q_InvalidCrowd : Str} {N_InvalidCrowd : Addr} {bs_InvalidCrowd bm_InvalidCrowd : List Value} {sn_InvalidCrowd : List Str} {sub_InvalidCrowd : List Value} {ab_InvalidCrowd : Bool} {col_InvalidCrowd : Option Bool} {dd_InvalidCrowd : Option Addr} {k0_InvalidCrowd k1_InvalidCrowd k2_InvalidCrowd k3_InvalidCrowd k5_InvalidCrowd : Option Value}
    {f_InvalidCrowd_init cda_InvalidCrowd_init cc_InvalidCrowd_init : Addr} {od_InvalidCrowd_init an_InvalidCrowd_init : Option Addr} {sl_InvalidCrowd_init : Array (Option Value)} {oc_InvalidCrowd_init kV_InvalidCrowd_init dc_InvalidCrowd_init pm_InvalidCrowd_init ct_InvalidCrowd_init : Value}
    {ccl_InvalidCrowd_init : Value} {cdd_InvalidCrowd_init : Option Addr} {vs_InvalidCrowd_init : Array Value} {ccs_InvalidCrowd_init : Array (Option Value)} {file_InvalidCrowd_init : Str} {tf_InvalidCrowd_init : Nat} {cl_InvalidCrowd_init : Value} {cld_InvalidCrowd_init : Option Addr} {csl_InvalidCrowd_init : Array (Option Value)}
    {C_InvalidText : Addr}
    {nm_InvalidText q_InvalidText : Str} {N_InvalidText : Addr} {bs_InvalidText bm_InvalidText : List Value} {sn_InvalidText : List Str} {sub_InvalidText : List Value} {ab_InvalidText : Bool} {col_InvalidText : Option Bool} {dd_InvalidText : Option Addr} {k0_InvalidText k1_InvalidText k2_InvalidText k3_InvalidText k5_InvalidText : Option Value}
    {f_InvalidText_init cda_InvalidText_init cc_InvalidText_init : Addr} {od_InvalidText_init an_InvalidText_init : Option Addr} {sl_InvalidText_init : Array (Option Value)} {oc_InvalidText_init kV_InvalidText_init dc_InvalidText_init pm_InvalidText_init ct_InvalidText_init : Value}
    {ccl_InvalidText_init : Value} {cdd_InvalidText_init : Option Addr} {vs_InvalidText_init : Array Value} {ccs_InvalidText_init : Array (Option Value)} {file_InvalidText_init : Str} {tf_InvalidText_init : Nat} {cl_InvalidText_init : Value} {cld_InvalidText_init : Option Addr} {csl_InvalidText_init : Array (Option Value)}
    {C_InvalidEvent : Addr}
    {nm_InvalidEvent q_InvalidEvent : Str} {N_InvalidEvent : Addr} {bs_InvalidEvent bm_InvalidEvent : List Value} {sn_InvalidEvent : List Str} {sub_InvalidEvent : List Value} {ab_InvalidEvent : Bool} {col_InvalidEvent : Option Bool} {dd_InvalidEvent : Option Addr} {k0_InvalidEvent k1_InvalidEvent k2_InvalidEvent k3_InvalidEvent k5_InvalidEvent : Option Value}
    {f_InvalidEvent_init cda_InvalidEvent_init cc_InvalidEvent_init : Addr} {od_InvalidEvent_init an_InvalidEvent_init : Option Addr} {sl_InvalidEvent_init : Array (Option Value)} {oc_InvalidEvent_init kV_InvalidEvent_init dc_InvalidEvent_init pm_InvalidEvent_init ct_InvalidEvent_init : Value}
    {ccl_InvalidEvent_init : Value} {cdd_InvalidEvent_init : Option Addr} {vs_InvalidEvent_init : Array Value} {ccs_InvalidEvent_init : Array (Option Value)} {file_InvalidEvent_init : Str} {tf_InvalidEvent_init : Nat} {cl_InvalidEvent_init : Value} {cld_InvalidEvent_init : Option Addr} {csl_InvalidEvent_init : Array (Option Value)}
    {C_Refused : Addr}
    {nm_Refused q_Refused : Str} {N_Refused : Addr} {bs_Refused bm_Refused : List Value} {sn_Refused : List Str} {sub_Refused : List Value} {ab_Refused : Bool} {col_Refused : Option Bool} {dd_Refused : Option Addr} {k0_Refused k1_Refused k2_Refused k3_Refused k5_Refused : Option Value}
    {f_Refused_init cda_Refused_init cc_Refused_init : Addr} {od_Refused_init an_Refused_init : Option Addr} {sl_Refused_init : Array (Option Value)} {oc_Refused_init kV_Refused_init dc_Refused_init pm_Refused_init ct_Refused_init : Value}
    {ccl_Refused_init : Value} {cdd_Refused_init : Option Addr} {vs_Refused_init : Array Value} {ccs_Refused_init : Array (Option Value)} {file_Refused_init : Str} {tf_Refused_init : Nat} {cl_Refused_init : Value} {cld_Refused_init : Option Addr} {csl_Refused_init : Array (Option Value)}
    {C_NoRule : Addr}
    {nm_NoRule q_NoRule : Str} {N_NoRule : Addr} {bs_NoRule bm_NoRule : List Value} {sn_NoRule : List Str} {sub_NoRule : List Value} {ab_NoRule : Bool} {col_NoRule : Option Bool} {dd_NoRule : Option Addr} {k0_NoRule k1_NoRule k2_NoRule k3_NoRule k5_NoRule : Option Value}
    {f_NoRule_init cda_NoRule_init cc_NoRule_init : Addr} {od_NoRule_init an_NoRule_init : Option Addr} {sl_NoRule_init : Array (Option Value)} {oc_NoRule_init kV_NoRule_init dc_NoRule_init pm_NoRule_init ct_NoRule_init : Value}
    {ccl_NoRule_init : Value} {cdd_NoRule_init : Option Addr} {vs_NoRule_init : Array Value} {ccs_NoRule_init : Array (Option Value)} {file_NoRule_init : Str} {tf_NoRule_init : Nat} {cl_NoRule_init : Value} {cld_NoRule_init : Option Addr} {csl_NoRule_init : Array (Option Value)}
    {C_InvalidGoal : Addr}
    {nm_InvalidGoal q_InvalidGoal : Str} {N_InvalidGoal : Addr} {bs_InvalidGoal bm_InvalidGoal : List Value} {sn_InvalidGoal : List Str} {sub_InvalidGoal : List Value} {ab_InvalidGoal : Bool} {col_InvalidGoal : Option Bool} {dd_InvalidGoal : Option Addr} {k0_InvalidGoal k1_InvalidGoal k2_InvalidGoal k3_InvalidGoal k5_InvalidGoal : Option Value}
    {C_InvalidCommand : Addr}
    {nm_InvalidCommand q_InvalidCommand : Str} {N_InvalidCommand : Addr} {bs_InvalidCommand bm_InvalidCommand : List Value} {sn_InvalidCommand : List Str} {sub_InvalidCommand : List Value} {ab_InvalidCommand : Bool} {col_InvalidCommand : Option Bool} {dd_InvalidCommand : Option Addr} {k0_InvalidCommand k1_InvalidCommand k2_InvalidCommand k3_InvalidCommand k5_InvalidCommand : Option Value}
    {C_NightError : Addr}
    (a_l_feed : PySem.W.nsIn K mainGlobals "_law_feed" = some (some (.ref f_l_feed)))
    (l_l_feed : K.lookup f_l_feed = some ⟨oc_l_feed, od_l_feed, .func (PySem.W.fnOf "_law_feed" "_law_feed" (defArgs s_l_feed) (defBody s_l_feed) (defScope s_l_feed) .none kV_l_feed dc_l_feed pm_l_feed an_l_feed cd_l_feed ct_l_feed), sl_l_feed⟩)
    (c_l_feed : PySem.W.codeIn K cd_l_feed "_law_feed" = true)
    (k_l_feed : PySem.W.keepIn K (.ref f_l_feed) = true)
    (a_l_take : PySem.W.nsIn K mainGlobals "_law_take" = some (some (.ref f_l_take)))
    (l_l_take : K.lookup f_l_take = some ⟨oc_l_take, od_l_take, .func (PySem.W.fnOf "_law_take" "_law_take" (defArgs s_l_take) (defBody s_l_take) (defScope s_l_take) .none kV_l_take dc_l_take pm_l_take an_l_take cd_l_take ct_l_take), sl_l_take⟩)
    (c_l_take : PySem.W.codeIn K cd_l_take "_law_take" = true)
    (k_l_take : PySem.W.keepIn K (.ref f_l_take) = true)
    (a_l_pick : PySem.W.nsIn K mainGlobals "_law_pick" = some (some (.ref f_l_pick)))
    (l_l_pick : K.lookup f_l_pick = some ⟨oc_l_pick, od_l_pick, .func (PySem.W.fnOf "_law_pick" "_law_pick" (defArgs s_l_pick) (defBody s_l_pick) (defScope s_l_pick) .none kV_l_pick dc_l_pick pm_l_pick an_l_pick cd_l_pick ct_l_pick), sl_l_pick⟩)
    (c_l_pick : PySem.W.codeIn K cd_l_pick "_law_pick" = true)
    (k_l_pick : PySem.W.keepIn K (.ref f_l_pick) = true)
    (a_l_made : PySem.W.nsIn K mainGlobals "_law_made" = some (some (.ref f_l_made)))
    (l_l_made : K.lookup f_l_made = some ⟨oc_l_made, od_l_made, .func (PySem.W.fnOf "_law_made" "_law_made" (defArgs s_l_made) (defBody s_l_made) (defScope s_l_made) .none kV_l_made dc_l_made pm_l_made an_l_made cd_l_made ct_l_made), sl_l_made⟩)
    (c_l_made : PySem.W.codeIn K cd_l_made "_law_made" = true)
    (k_l_made : PySem.W.keepIn K (.ref f_l_made) = true)
    (a_l_by_name : PySem.W.nsIn K mainGlobals "_law_by_name" = some (some (.ref f_l_by_name)))
    (l_l_by_name : K.lookup f_l_by_name = some ⟨oc_l_by_name, od_l_by_name, .func (PySem.W.fnOf "_law_by_name" "_law_by_name" (defArgs s_l_by_name) (defBody s_l_by_name) (defScope s_l_by_name) .none kV_l_by_name dc_l_by_name pm_l_by_name an_l_by_name cd_l_by_name ct_l_by_name), sl_l_by_name⟩)
    (c_l_by_name : PySem.W.codeIn K cd_l_by_name "_law_by_name" = true)
    (k_l_by_name : PySem.W.keepIn K (.ref f_l_by_name) = true)
    (a_l_sorts : PySem.W.nsIn K mainGlobals "_law_sorts" = some (some (.ref f_l_sorts)))
    (l_l_sorts : K.lookup f_l_sorts = some ⟨oc_l_sorts, od_l_sorts, .func (PySem.W.fnOf "_law_sorts" "_law_sorts" (defArgs s_l_sorts) (defBody s_l_sorts) (defScope s_l_sorts) .none kV_l_sorts dc_l_sorts pm_l_sorts an_l_sorts cd_l_sorts ct_l_sorts), sl_l_sorts⟩)
    (c_l_sorts : PySem.W.codeIn K cd_l_sorts "_law_sorts" = true)
    (k_l_sorts : PySem.W.keepIn K (.ref f_l_sorts) = true)
    (a_l_held : PySem.W.nsIn K mainGlobals "_law_held" = some (some (.ref f_l_held)))
    (l_l_held : K.lookup f_l_held = some ⟨oc_l_held, od_l_held, .func (PySem.W.fnOf "_law_held" "_law_held" (defArgs s_l_held) (defBody s_l_held) (defScope s_l_held) .none kV_l_held dc_l_held pm_l_held an_l_held cd_l_held ct_l_held), sl_l_held⟩)
    (c_l_held : PySem.W.codeIn K cd_l_held "_law_held" = true)
    (k_l_held : PySem.W.keepIn K (.ref f_l_held) = true)
    (a_law : PySem.W.nsIn K mainGlobals "law" = some (some (.ref f_law)))
    (l_law : K.lookup f_law = some ⟨oc_law, od_law, .func (PySem.W.fnOf "law" "law" (defArgs s_law) (defBody s_law) (defScope s_law) .none kV_law dc_law pm_law an_law cd_law ct_law), sl_law⟩)
    (c_law : PySem.W.codeIn K cd_law "law" = true)
    (k_law : PySem.W.keepIn K (.ref f_law) = true)
    (hsup : (P.main.scope.names.lookup ("super" : Str)).isSome = false)
    (opq : PySem.W.nsIn K cStatics "thirdparty.any" = some none)
    (zz_super : PySem.W.nsIn K mainGlobals "super" = some none)
    (hnI : PySem.W.specialIn K (.builtin "object.__class__") "__get__" = some (some (.builtin "getset_descriptor.__get__")))
    (htI : PySem.W.takesIn K (.builtin "object.__class__") = some true)
    (a_InvalidRule : PySem.W.nsIn K mainGlobals "InvalidRule" = some (some (.ref C_InvalidRule)))
    (ic_InvalidRule : PySem.W.isClsIn K C_InvalidRule = true)
    (ty_InvalidRule : PySem.W.typeIn K (.ref C_InvalidRule) = some (.type "type"))
    (lk_InvalidRule : K.lookup C_InvalidRule = some (excClassObj nm_InvalidRule q_InvalidRule C_InvalidRule N_InvalidRule bs_InvalidRule bm_InvalidRule true sn_InvalidRule sub_InvalidRule ab_InvalidRule col_InvalidRule dd_InvalidRule k0_InvalidRule k1_InvalidRule k2_InvalidRule k3_InvalidRule k5_InvalidRule "ValueError.__new__"))
    (re_InvalidRule : PySem.HandSPX.refsVE bm_InvalidRule = true)
    (sa_InvalidRule : PySem.W.findIn K (.ref C_InvalidRule) "__setattr__" = some (some (.builtin "object.__setattr__")))
    (ex_InvalidRule : PySem.W.subIn K (.ref C_InvalidRule) (.type "BaseException") = some true)
    (kc_InvalidRule : PySem.W.keepIn K (.ref C_InvalidRule) = true)
    (in_InvalidRule : PySem.W.findIn K (.ref C_InvalidRule) "__init__" = some (some (.ref f_InvalidRule_init)))
    (fl_InvalidRule : K.lookup f_InvalidRule_init = some ⟨oc_InvalidRule_init, od_InvalidRule_init, .func (PySem.W.ksFn "__init__" "InvalidRule.__init__" (defArgs s_InvalidRule_init) (defBody s_InvalidRule_init) (defScope s_InvalidRule_init) .none kV_InvalidRule_init dc_InvalidRule_init pm_InvalidRule_init an_InvalidRule_init (.ref cda_InvalidRule_init) ct_InvalidRule_init cc_InvalidRule_init), sl_InvalidRule_init⟩)
    (fc_InvalidRule : PySem.W.codeIn K (.ref cda_InvalidRule_init) "InvalidRule.__init__" = true)
    (co_InvalidRule : K.lookup cda_InvalidRule_init = some ⟨ccl_InvalidRule_init, cdd_InvalidRule_init, .fields vs_InvalidRule_init, ccs_InvalidRule_init⟩)
    (fv_InvalidRule : vs_InvalidRule_init[2]? = some (.str file_InvalidRule_init tf_InvalidRule_init))
    (ff_InvalidRule : ((P.main.file : Str) == file_InvalidRule_init) = true)
    (ce_InvalidRule : K.lookup cc_InvalidRule_init = some ⟨cl_InvalidRule_init, cld_InvalidRule_init, .cell (some (.ref C_InvalidRule)), csl_InvalidRule_init⟩)
    (tf_InvalidRule : PySem.W.typeIn K (.ref f_InvalidRule_init) = some (.type "function"))
    (ks_InvalidRule : PySem.W.ks_superIn K C_InvalidRule C_InvalidRule "__init__" = some (some (.builtin "ValueError.__init__")))
    (sb_InvalidRule : PySem.W.subIn K (.ref C_InvalidRule) (.type "ValueError") = some true)
    (mr_InvalidRule : PySem.W.mroIn K C_InvalidRule (.ref C_InvalidRule) = some true)
    (fno_InvalidRule : PySem.W.findIn K (.ref C_InvalidRule) "word" = some none)
    (ga_InvalidRule : PySem.W.findIn K (.ref C_InvalidRule) "__getattribute__" = some (some (.builtin "BaseException.__getattribute__")))
    (gg_InvalidRule : PySem.W.findIn K (.ref C_InvalidRule) "__getattr__" = some none)
    (hd_InvalidRule : PySem.W.hasDictIn K C_InvalidRule = true)
    (ha_InvalidRule : PySem.W.findIn K (.ref C_InvalidRule) "__class__" = some (some (.builtin "object.__class__")))
    (mo_InvalidRule : PySem.W.mroIn K C_InvalidRule (.type "object") = some true)
    (ss_InvalidRule : PySem.W.subIn K (.ref C_InvalidRule) (.ref C_InvalidRule) = some true)
    (a_InvalidPlan : PySem.W.nsIn K mainGlobals "InvalidPlan" = some (some (.ref C_InvalidPlan)))
    (ic_InvalidPlan : PySem.W.isClsIn K C_InvalidPlan = true)
    (ty_InvalidPlan : PySem.W.typeIn K (.ref C_InvalidPlan) = some (.type "type"))
    (lk_InvalidPlan : K.lookup C_InvalidPlan = some (excClassObj nm_InvalidPlan q_InvalidPlan C_InvalidPlan N_InvalidPlan bs_InvalidPlan bm_InvalidPlan true sn_InvalidPlan sub_InvalidPlan ab_InvalidPlan col_InvalidPlan dd_InvalidPlan k0_InvalidPlan k1_InvalidPlan k2_InvalidPlan k3_InvalidPlan k5_InvalidPlan "ValueError.__new__"))
    (re_InvalidPlan : PySem.HandSPX.refsVE bm_InvalidPlan = true)
    (sa_InvalidPlan : PySem.W.findIn K (.ref C_InvalidPlan) "__setattr__" = some (some (.builtin "object.__setattr__")))
    (ex_InvalidPlan : PySem.W.subIn K (.ref C_InvalidPlan) (.type "BaseException") = some true)
    (kc_InvalidPlan : PySem.W.keepIn K (.ref C_InvalidPlan) = true)
    (in_InvalidPlan : PySem.W.findIn K (.ref C_InvalidPlan) "__init__" = some (some (.ref f_InvalidPlan_init)))
    (fl_InvalidPlan : K.lookup f_InvalidPlan_init = some ⟨oc_InvalidPlan_init, od_InvalidPlan_init, .func (PySem.W.ksFn "__init__" "InvalidPlan.__init__" (defArgs s_InvalidPlan_init) (defBody s_InvalidPlan_init) (defScope s_InvalidPlan_init) .none kV_InvalidPlan_init dc_InvalidPlan_init pm_InvalidPlan_init an_InvalidPlan_init (.ref cda_InvalidPlan_init) ct_InvalidPlan_init cc_InvalidPlan_init), sl_InvalidPlan_init⟩)
    (fc_InvalidPlan : PySem.W.codeIn K (.ref cda_InvalidPlan_init) "InvalidPlan.__init__" = true)
    (co_InvalidPlan : K.lookup cda_InvalidPlan_init = some ⟨ccl_InvalidPlan_init, cdd_InvalidPlan_init, .fields vs_InvalidPlan_init, ccs_InvalidPlan_init⟩)
    (fv_InvalidPlan : vs_InvalidPlan_init[2]? = some (.str file_InvalidPlan_init tf_InvalidPlan_init))
    (ff_InvalidPlan : ((P.main.file : Str) == file_InvalidPlan_init) = true)
    (ce_InvalidPlan : K.lookup cc_InvalidPlan_init = some ⟨cl_InvalidPlan_init, cld_InvalidPlan_init, .cell (some (.ref C_InvalidPlan)), csl_InvalidPlan_init⟩)
    (tf_InvalidPlan : PySem.W.typeIn K (.ref f_InvalidPlan_init) = some (.type "function"))
    (ks_InvalidPlan : PySem.W.ks_superIn K C_InvalidPlan C_InvalidPlan "__init__" = some (some (.builtin "ValueError.__init__")))
    (sb_InvalidPlan : PySem.W.subIn K (.ref C_InvalidPlan) (.type "ValueError") = some true)
    (mr_InvalidPlan : PySem.W.mroIn K C_InvalidPlan (.ref C_InvalidPlan) = some true)
    (fno_InvalidPlan : PySem.W.findIn K (.ref C_InvalidPlan) "word" = some none)
    (ga_InvalidPlan : PySem.W.findIn K (.ref C_InvalidPlan) "__getattribute__" = some (some (.builtin "BaseException.__getattribute__")))
    (gg_InvalidPlan : PySem.W.findIn K (.ref C_InvalidPlan) "__getattr__" = some none)
    (hd_InvalidPlan : PySem.W.hasDictIn K C_InvalidPlan = true)
    (ha_InvalidPlan : PySem.W.findIn K (.ref C_InvalidPlan) "__class__" = some (some (.builtin "object.__class__")))
    (mo_InvalidPlan : PySem.W.mroIn K C_InvalidPlan (.type "object") = some true)
    (ss_InvalidPlan : PySem.W.subIn K (.ref C_InvalidPlan) (.ref C_InvalidPlan) = some true)
    (a_InvalidWorld : PySem.W.nsIn K mainGlobals "InvalidWorld" = some (some (.ref C_InvalidWorld)))
    (ic_InvalidWorld : PySem.W.isClsIn K C_InvalidWorld = true)
    (ty_InvalidWorld : PySem.W.typeIn K (.ref C_InvalidWorld) = some (.type "type"))
    (lk_InvalidWorld : K.lookup C_InvalidWorld = some (excClassObj nm_InvalidWorld q_InvalidWorld C_InvalidWorld N_InvalidWorld bs_InvalidWorld bm_InvalidWorld true sn_InvalidWorld sub_InvalidWorld ab_InvalidWorld col_InvalidWorld dd_InvalidWorld k0_InvalidWorld k1_InvalidWorld k2_InvalidWorld k3_InvalidWorld k5_InvalidWorld "ValueError.__new__"))
    (re_InvalidWorld : PySem.HandSPX.refsVE bm_InvalidWorld = true)
    (sa_InvalidWorld : PySem.W.findIn K (.ref C_InvalidWorld) "__setattr__" = some (some (.builtin "object.__setattr__")))
    (ex_InvalidWorld : PySem.W.subIn K (.ref C_InvalidWorld) (.type "BaseException") = some true)
    (kc_InvalidWorld : PySem.W.keepIn K (.ref C_InvalidWorld) = true)
    (in_InvalidWorld : PySem.W.findIn K (.ref C_InvalidWorld) "__init__" = some (some (.ref f_InvalidWorld_init)))
    (fl_InvalidWorld : K.lookup f_InvalidWorld_init = some ⟨oc_InvalidWorld_init, od_InvalidWorld_init, .func (PySem.W.ksFn "__init__" "InvalidWorld.__init__" (defArgs s_InvalidWorld_init) (defBody s_InvalidWorld_init) (defScope s_InvalidWorld_init) .none kV_InvalidWorld_init dc_InvalidWorld_init pm_InvalidWorld_init an_InvalidWorld_init (.ref cda_InvalidWorld_init) ct_InvalidWorld_init cc_InvalidWorld_init), sl_InvalidWorld_init⟩)
    (fc_InvalidWorld : PySem.W.codeIn K (.ref cda_InvalidWorld_init) "InvalidWorld.__init__" = true)
    (co_InvalidWorld : K.lookup cda_InvalidWorld_init = some ⟨ccl_InvalidWorld_init, cdd_InvalidWorld_init, .fields vs_InvalidWorld_init, ccs_InvalidWorld_init⟩)
    (fv_InvalidWorld : vs_InvalidWorld_init[2]? = some (.str file_InvalidWorld_init tf_InvalidWorld_init))
    (ff_InvalidWorld : ((P.main.file : Str) == file_InvalidWorld_init) = true)
    (ce_InvalidWorld : K.lookup cc_InvalidWorld_init = some ⟨cl_InvalidWorld_init, cld_InvalidWorld_init, .cell (some (.ref C_InvalidWorld)), csl_InvalidWorld_init⟩)
    (tf_InvalidWorld : PySem.W.typeIn K (.ref f_InvalidWorld_init) = some (.type "function"))
    (ks_InvalidWorld : PySem.W.ks_superIn K C_InvalidWorld C_InvalidWorld "__init__" = some (some (.builtin "ValueError.__init__")))
    (sb_InvalidWorld : PySem.W.subIn K (.ref C_InvalidWorld) (.type "ValueError") = some true)
    (mr_InvalidWorld : PySem.W.mroIn K C_InvalidWorld (.ref C_InvalidWorld) = some true)
    (fno_InvalidWorld : PySem.W.findIn K (.ref C_InvalidWorld) "word" = some none)
    (ga_InvalidWorld : PySem.W.findIn K (.ref C_InvalidWorld) "__getattribute__" = some (some (.builtin "BaseException.__getattribute__")))
    (gg_InvalidWorld : PySem.W.findIn K (.ref C_InvalidWorld) "__getattr__" = some none)
    (hd_InvalidWorld : PySem.W.hasDictIn K C_InvalidWorld = true)
    (ha_InvalidWorld : PySem.W.findIn K (.ref C_InvalidWorld) "__class__" = some (some (.builtin "object.__class__")))
    (mo_InvalidWorld : PySem.W.mroIn K C_InvalidWorld (.type "object") = some true)
    (ss_InvalidWorld : PySem.W.subIn K (.ref C_InvalidWorld) (.ref C_InvalidWorld) = some true)
    (a_InvalidCrowd : PySem.W.nsIn K mainGlobals "InvalidCrowd" = some (some (.ref C_InvalidCrowd)))
    (ic_InvalidCrowd : PySem.W.isClsIn K C_InvalidCrowd = true)
    (ty_InvalidCrowd : PySem.W.typeIn K (.ref C_InvalidCrowd) = some (.type "type"))
    (lk_InvalidCrowd : K.lookup C_InvalidCrowd = some (excClassObj nm_InvalidCrowd q_InvalidCrowd C_InvalidCrowd N_InvalidCrowd bs_InvalidCrowd bm_InvalidCrowd true sn_InvalidCrowd sub_InvalidCrowd ab_InvalidCrowd col_InvalidCrowd dd_InvalidCrowd k0_InvalidCrowd k1_InvalidCrowd k2_InvalidCrowd k3_InvalidCrowd k5_InvalidCrowd "ValueError.__new__"))
    (re_InvalidCrowd : PySem.HandSPX.refsVE bm_InvalidCrowd = true)
    (sa_InvalidCrowd : PySem.W.findIn K (.ref C_InvalidCrowd) "__setattr__" = some (some (.builtin "object.__setattr__")))
    (ex_InvalidCrowd : PySem.W.subIn K (.ref C_InvalidCrowd) (.type "BaseException") = some true)
    (kc_InvalidCrowd : PySem.W.keepIn K (.ref C_InvalidCrowd) = true)
    (in_InvalidCrowd : PySem.W.findIn K (.ref C_InvalidCrowd) "__init__" = some (some (.ref f_InvalidCrowd_init)))
    (fl_InvalidCrowd : K.lookup f_InvalidCrowd_init = some ⟨oc_InvalidCrowd_init, od_InvalidCrowd_init, .func (PySem.W.ksFn "__init__" "InvalidCrowd.__init__" (defArgs s_InvalidCrowd_init) (defBody s_InvalidCrowd_init) (defScope s_InvalidCrowd_init) .none kV_InvalidCrowd_init dc_InvalidCrowd_init pm_InvalidCrowd_init an_InvalidCrowd_init (.ref cda_InvalidCrowd_init) ct_InvalidCrowd_init cc_InvalidCrowd_init), sl_InvalidCrowd_init⟩)
    (fc_InvalidCrowd : PySem.W.codeIn K (.ref cda_InvalidCrowd_init) "InvalidCrowd.__init__" = true)
    (co_InvalidCrowd : K.lookup cda_InvalidCrowd_init = some ⟨ccl_InvalidCrowd_init, cdd_InvalidCrowd_init, .fields vs_InvalidCrowd_init, ccs_InvalidCrowd_init⟩)
    (fv_InvalidCrowd : vs_InvalidCrowd_init[2]? = some (.str file_InvalidCrowd_init tf_InvalidCrowd_init))
    (ff_InvalidCrowd : ((P.main.file : Str) == file_InvalidCrowd_init) = true)
    (ce_InvalidCrowd : K.lookup cc_InvalidCrowd_init = some ⟨cl_InvalidCrowd_init, cld_InvalidCrowd_init, .cell (some (.ref C_InvalidCrowd)), csl_InvalidCrowd_init⟩)
    (tf_InvalidCrowd : PySem.W.typeIn K (.ref f_InvalidCrowd_init) = some (.type "function"))
    (ks_InvalidCrowd : PySem.W.ks_superIn K C_InvalidCrowd C_InvalidCrowd "__init__" = some (some (.builtin "ValueError.__init__")))
    (sb_InvalidCrowd : PySem.W.subIn K (.ref C_InvalidCrowd) (.type "ValueError") = some true)
    (mr_InvalidCrowd : PySem.W.mroIn K C_InvalidCrowd (.ref C_InvalidCrowd) = some true)
    (fno_InvalidCrowd : PySem.W.findIn K (.ref C_InvalidCrowd) "word" = some none)
    (ga_InvalidCrowd : PySem.W.findIn K (.ref C_InvalidCrowd) "__getattribute__" = some (some (.builtin "BaseException.__getattribute__")))
    (gg_InvalidCrowd : PySem.W.findIn K (.ref C_InvalidCrowd) "__getattr__" = some none)
    (hd_InvalidCrowd : PySem.W.hasDictIn K C_InvalidCrowd = true)
    (ha_InvalidCrowd : PySem.W.findIn K (.ref C_InvalidCrowd) "__class__" = some (some (.builtin "object.__class__")))
    (mo_InvalidCrowd : PySem.W.mroIn K C_InvalidCrowd (.type "object") = some true)
    (ss_InvalidCrowd : PySem.W.subIn K (.ref C_InvalidCrowd) (.ref C_InvalidCrowd) = some true)
    (a_InvalidText : PySem.W.nsIn K mainGlobals "InvalidText" = some (some (.ref C_InvalidText)))
    (ic_InvalidText : PySem.W.isClsIn K C_InvalidText = true)
    (ty_InvalidText : PySem.W.typeIn K (.ref C_InvalidText) = some (.type "type"))
    (lk_InvalidText : K.lookup C_InvalidText = some (excClassObj nm_InvalidText q_InvalidText C_InvalidText N_InvalidText bs_InvalidText bm_InvalidText true sn_InvalidText sub_InvalidText ab_InvalidText col_InvalidText dd_InvalidText k0_InvalidText k1_InvalidText k2_InvalidText k3_InvalidText k5_InvalidText "ValueError.__new__"))
    (re_InvalidText : PySem.HandSPX.refsVE bm_InvalidText = true)
    (sa_InvalidText : PySem.W.findIn K (.ref C_InvalidText) "__setattr__" = some (some (.builtin "object.__setattr__")))
    (ex_InvalidText : PySem.W.subIn K (.ref C_InvalidText) (.type "BaseException") = some true)
    (kc_InvalidText : PySem.W.keepIn K (.ref C_InvalidText) = true)
    (in_InvalidText : PySem.W.findIn K (.ref C_InvalidText) "__init__" = some (some (.ref f_InvalidText_init)))
    (fl_InvalidText : K.lookup f_InvalidText_init = some ⟨oc_InvalidText_init, od_InvalidText_init, .func (PySem.W.ksFn "__init__" "InvalidText.__init__" (defArgs s_InvalidText_init) (defBody s_InvalidText_init) (defScope s_InvalidText_init) .none kV_InvalidText_init dc_InvalidText_init pm_InvalidText_init an_InvalidText_init (.ref cda_InvalidText_init) ct_InvalidText_init cc_InvalidText_init), sl_InvalidText_init⟩)
    (fc_InvalidText : PySem.W.codeIn K (.ref cda_InvalidText_init) "InvalidText.__init__" = true)
    (co_InvalidText : K.lookup cda_InvalidText_init = some ⟨ccl_InvalidText_init, cdd_InvalidText_init, .fields vs_InvalidText_init, ccs_InvalidText_init⟩)
    (fv_InvalidText : vs_InvalidText_init[2]? = some (.str file_InvalidText_init tf_InvalidText_init))
    (ff_InvalidText : ((P.main.file : Str) == file_InvalidText_init) = true)
    (ce_InvalidText : K.lookup cc_InvalidText_init = some ⟨cl_InvalidText_init, cld_InvalidText_init, .cell (some (.ref C_InvalidText)), csl_InvalidText_init⟩)
    (tf_InvalidText : PySem.W.typeIn K (.ref f_InvalidText_init) = some (.type "function"))
    (ks_InvalidText : PySem.W.ks_superIn K C_InvalidText C_InvalidText "__init__" = some (some (.builtin "ValueError.__init__")))
    (sb_InvalidText : PySem.W.subIn K (.ref C_InvalidText) (.type "ValueError") = some true)
    (mr_InvalidText : PySem.W.mroIn K C_InvalidText (.ref C_InvalidText) = some true)
    (fno_InvalidText : PySem.W.findIn K (.ref C_InvalidText) "at" = some none)
    (ga_InvalidText : PySem.W.findIn K (.ref C_InvalidText) "__getattribute__" = some (some (.builtin "BaseException.__getattribute__")))
    (gg_InvalidText : PySem.W.findIn K (.ref C_InvalidText) "__getattr__" = some none)
    (hd_InvalidText : PySem.W.hasDictIn K C_InvalidText = true)
    (ha_InvalidText : PySem.W.findIn K (.ref C_InvalidText) "__class__" = some (some (.builtin "object.__class__")))
    (mo_InvalidText : PySem.W.mroIn K C_InvalidText (.type "object") = some true)
    (ss_InvalidText : PySem.W.subIn K (.ref C_InvalidText) (.ref C_InvalidText) = some true)
    (a_InvalidEvent : PySem.W.nsIn K mainGlobals "InvalidEvent" = some (some (.ref C_InvalidEvent)))
    (ic_InvalidEvent : PySem.W.isClsIn K C_InvalidEvent = true)
    (ty_InvalidEvent : PySem.W.typeIn K (.ref C_InvalidEvent) = some (.type "type"))
    (lk_InvalidEvent : K.lookup C_InvalidEvent = some (excClassObj nm_InvalidEvent q_InvalidEvent C_InvalidEvent N_InvalidEvent bs_InvalidEvent bm_InvalidEvent true sn_InvalidEvent sub_InvalidEvent ab_InvalidEvent col_InvalidEvent dd_InvalidEvent k0_InvalidEvent k1_InvalidEvent k2_InvalidEvent k3_InvalidEvent k5_InvalidEvent "ValueError.__new__"))
    (re_InvalidEvent : PySem.HandSPX.refsVE bm_InvalidEvent = true)
    (sa_InvalidEvent : PySem.W.findIn K (.ref C_InvalidEvent) "__setattr__" = some (some (.builtin "object.__setattr__")))
    (ex_InvalidEvent : PySem.W.subIn K (.ref C_InvalidEvent) (.type "BaseException") = some true)
    (kc_InvalidEvent : PySem.W.keepIn K (.ref C_InvalidEvent) = true)
    (in_InvalidEvent : PySem.W.findIn K (.ref C_InvalidEvent) "__init__" = some (some (.ref f_InvalidEvent_init)))
    (fl_InvalidEvent : K.lookup f_InvalidEvent_init = some ⟨oc_InvalidEvent_init, od_InvalidEvent_init, .func (PySem.W.ksFn "__init__" "InvalidEvent.__init__" (defArgs s_InvalidEvent_init) (defBody s_InvalidEvent_init) (defScope s_InvalidEvent_init) .none kV_InvalidEvent_init dc_InvalidEvent_init pm_InvalidEvent_init an_InvalidEvent_init (.ref cda_InvalidEvent_init) ct_InvalidEvent_init cc_InvalidEvent_init), sl_InvalidEvent_init⟩)
    (fc_InvalidEvent : PySem.W.codeIn K (.ref cda_InvalidEvent_init) "InvalidEvent.__init__" = true)
    (co_InvalidEvent : K.lookup cda_InvalidEvent_init = some ⟨ccl_InvalidEvent_init, cdd_InvalidEvent_init, .fields vs_InvalidEvent_init, ccs_InvalidEvent_init⟩)
    (fv_InvalidEvent : vs_InvalidEvent_init[2]? = some (.str file_InvalidEvent_init tf_InvalidEvent_init))
    (ff_InvalidEvent : ((P.main.file : Str) == file_InvalidEvent_init) = true)
    (ce_InvalidEvent : K.lookup cc_InvalidEvent_init = some ⟨cl_InvalidEvent_init, cld_InvalidEvent_init, .cell (some (.ref C_InvalidEvent)), csl_InvalidEvent_init⟩)
    (tf_InvalidEvent : PySem.W.typeIn K (.ref f_InvalidEvent_init) = some (.type "function"))
    (ks_InvalidEvent : PySem.W.ks_superIn K C_InvalidEvent C_InvalidEvent "__init__" = some (some (.builtin "ValueError.__init__")))
    (sb_InvalidEvent : PySem.W.subIn K (.ref C_InvalidEvent) (.type "ValueError") = some true)
    (mr_InvalidEvent : PySem.W.mroIn K C_InvalidEvent (.ref C_InvalidEvent) = some true)
    (fno_InvalidEvent : PySem.W.findIn K (.ref C_InvalidEvent) "at" = some none)
    (ga_InvalidEvent : PySem.W.findIn K (.ref C_InvalidEvent) "__getattribute__" = some (some (.builtin "BaseException.__getattribute__")))
    (gg_InvalidEvent : PySem.W.findIn K (.ref C_InvalidEvent) "__getattr__" = some none)
    (hd_InvalidEvent : PySem.W.hasDictIn K C_InvalidEvent = true)
    (ha_InvalidEvent : PySem.W.findIn K (.ref C_InvalidEvent) "__class__" = some (some (.builtin "object.__class__")))
    (mo_InvalidEvent : PySem.W.mroIn K C_InvalidEvent (.type "object") = some true)
    (ss_InvalidEvent : PySem.W.subIn K (.ref C_InvalidEvent) (.ref C_InvalidEvent) = some true)
    (a_Refused : PySem.W.nsIn K mainGlobals "Refused" = some (some (.ref C_Refused)))
    (ic_Refused : PySem.W.isClsIn K C_Refused = true)
    (ty_Refused : PySem.W.typeIn K (.ref C_Refused) = some (.type "type"))
    (lk_Refused : K.lookup C_Refused = some (excClassObj nm_Refused q_Refused C_Refused N_Refused bs_Refused bm_Refused true sn_Refused sub_Refused ab_Refused col_Refused dd_Refused k0_Refused k1_Refused k2_Refused k3_Refused k5_Refused "ValueError.__new__"))
    (re_Refused : PySem.HandSPX.refsVE bm_Refused = true)
    (sa_Refused : PySem.W.findIn K (.ref C_Refused) "__setattr__" = some (some (.builtin "object.__setattr__")))
    (ex_Refused : PySem.W.subIn K (.ref C_Refused) (.type "BaseException") = some true)
    (kc_Refused : PySem.W.keepIn K (.ref C_Refused) = true)
    (in_Refused : PySem.W.findIn K (.ref C_Refused) "__init__" = some (some (.ref f_Refused_init)))
    (fl_Refused : K.lookup f_Refused_init = some ⟨oc_Refused_init, od_Refused_init, .func (PySem.W.ksFn "__init__" "Refused.__init__" (defArgs s_Refused_init) (defBody s_Refused_init) (defScope s_Refused_init) .none kV_Refused_init dc_Refused_init pm_Refused_init an_Refused_init (.ref cda_Refused_init) ct_Refused_init cc_Refused_init), sl_Refused_init⟩)
    (fc_Refused : PySem.W.codeIn K (.ref cda_Refused_init) "Refused.__init__" = true)
    (co_Refused : K.lookup cda_Refused_init = some ⟨ccl_Refused_init, cdd_Refused_init, .fields vs_Refused_init, ccs_Refused_init⟩)
    (fv_Refused : vs_Refused_init[2]? = some (.str file_Refused_init tf_Refused_init))
    (ff_Refused : ((P.main.file : Str) == file_Refused_init) = true)
    (ce_Refused : K.lookup cc_Refused_init = some ⟨cl_Refused_init, cld_Refused_init, .cell (some (.ref C_Refused)), csl_Refused_init⟩)
    (tf_Refused : PySem.W.typeIn K (.ref f_Refused_init) = some (.type "function"))
    (ks_Refused : PySem.W.ks_superIn K C_Refused C_Refused "__init__" = some (some (.builtin "ValueError.__init__")))
    (sb_Refused : PySem.W.subIn K (.ref C_Refused) (.type "ValueError") = some true)
    (mr_Refused : PySem.W.mroIn K C_Refused (.ref C_Refused) = some true)
    (fno_Refused : PySem.W.findIn K (.ref C_Refused) "at" = some none)
    (ga_Refused : PySem.W.findIn K (.ref C_Refused) "__getattribute__" = some (some (.builtin "BaseException.__getattribute__")))
    (gg_Refused : PySem.W.findIn K (.ref C_Refused) "__getattr__" = some none)
    (hd_Refused : PySem.W.hasDictIn K C_Refused = true)
    (ha_Refused : PySem.W.findIn K (.ref C_Refused) "__class__" = some (some (.builtin "object.__class__")))
    (mo_Refused : PySem.W.mroIn K C_Refused (.type "object") = some true)
    (ss_Refused : PySem.W.subIn K (.ref C_Refused) (.ref C_Refused) = some true)
    (a_NoRule : PySem.W.nsIn K mainGlobals "NoRule" = some (some (.ref C_NoRule)))
    (ic_NoRule : PySem.W.isClsIn K C_NoRule = true)
    (ty_NoRule : PySem.W.typeIn K (.ref C_NoRule) = some (.type "type"))
    (lk_NoRule : K.lookup C_NoRule = some (excClassObj nm_NoRule q_NoRule C_NoRule N_NoRule bs_NoRule bm_NoRule true sn_NoRule sub_NoRule ab_NoRule col_NoRule dd_NoRule k0_NoRule k1_NoRule k2_NoRule k3_NoRule k5_NoRule "IndexError.__new__"))
    (re_NoRule : bm_NoRule = NM.ieTail)
    (sa_NoRule : PySem.W.findIn K (.ref C_NoRule) "__setattr__" = some (some (.builtin "object.__setattr__")))
    (ex_NoRule : PySem.W.subIn K (.ref C_NoRule) (.type "BaseException") = some true)
    (kc_NoRule : PySem.W.keepIn K (.ref C_NoRule) = true)
    (in_NoRule : PySem.W.findIn K (.ref C_NoRule) "__init__" = some (some (.ref f_NoRule_init)))
    (fl_NoRule : K.lookup f_NoRule_init = some ⟨oc_NoRule_init, od_NoRule_init, .func (PySem.W.ksFn "__init__" "NoRule.__init__" (defArgs s_NoRule_init) (defBody s_NoRule_init) (defScope s_NoRule_init) .none kV_NoRule_init dc_NoRule_init pm_NoRule_init an_NoRule_init (.ref cda_NoRule_init) ct_NoRule_init cc_NoRule_init), sl_NoRule_init⟩)
    (fc_NoRule : PySem.W.codeIn K (.ref cda_NoRule_init) "NoRule.__init__" = true)
    (co_NoRule : K.lookup cda_NoRule_init = some ⟨ccl_NoRule_init, cdd_NoRule_init, .fields vs_NoRule_init, ccs_NoRule_init⟩)
    (fv_NoRule : vs_NoRule_init[2]? = some (.str file_NoRule_init tf_NoRule_init))
    (ff_NoRule : ((P.main.file : Str) == file_NoRule_init) = true)
    (ce_NoRule : K.lookup cc_NoRule_init = some ⟨cl_NoRule_init, cld_NoRule_init, .cell (some (.ref C_NoRule)), csl_NoRule_init⟩)
    (tf_NoRule : PySem.W.typeIn K (.ref f_NoRule_init) = some (.type "function"))
    (ks_NoRule : PySem.W.ks_superIn K C_NoRule C_NoRule "__init__" = some (some (.builtin "IndexError.__init__")))
    (sb_NoRule : PySem.W.subIn K (.ref C_NoRule) (.type "IndexError") = some true)
    (mr_NoRule : PySem.W.mroIn K C_NoRule (.ref C_NoRule) = some true)
    (fno_NoRule : PySem.W.findIn K (.ref C_NoRule) "at" = some none)
    (ga_NoRule : PySem.W.findIn K (.ref C_NoRule) "__getattribute__" = some (some (.builtin "BaseException.__getattribute__")))
    (gg_NoRule : PySem.W.findIn K (.ref C_NoRule) "__getattr__" = some none)
    (hd_NoRule : PySem.W.hasDictIn K C_NoRule = true)
    (ha_NoRule : PySem.W.findIn K (.ref C_NoRule) "__class__" = some (some (.builtin "object.__class__")))
    (mo_NoRule : PySem.W.mroIn K C_NoRule (.type "object") = some true)
    (ss_NoRule : PySem.W.subIn K (.ref C_NoRule) (.ref C_NoRule) = some true)
    (a_InvalidGoal : PySem.W.nsIn K mainGlobals "InvalidGoal" = some (some (.ref C_InvalidGoal)))
    (ic_InvalidGoal : PySem.W.isClsIn K C_InvalidGoal = true)
    (ty_InvalidGoal : PySem.W.typeIn K (.ref C_InvalidGoal) = some (.type "type"))
    (lk_InvalidGoal : K.lookup C_InvalidGoal = some (excClassObj nm_InvalidGoal q_InvalidGoal C_InvalidGoal N_InvalidGoal bs_InvalidGoal bm_InvalidGoal true sn_InvalidGoal sub_InvalidGoal ab_InvalidGoal col_InvalidGoal dd_InvalidGoal k0_InvalidGoal k1_InvalidGoal k2_InvalidGoal k3_InvalidGoal k5_InvalidGoal "ValueError.__new__"))
    (re_InvalidGoal : PySem.HandSPX.refsVE bm_InvalidGoal = true)
    (in_InvalidGoal : PySem.W.findIn K (.ref C_InvalidGoal) "__init__" = some (some (.builtin "ValueError.__init__")))
    (kc_InvalidGoal : PySem.W.keepIn K (.ref C_InvalidGoal) = true)
    (ex_InvalidGoal : PySem.W.subIn K (.ref C_InvalidGoal) (.type "BaseException") = some true)
    (ga_InvalidGoal : PySem.W.findIn K (.ref C_InvalidGoal) "__getattribute__" = some (some (.builtin "BaseException.__getattribute__")))
    (gg_InvalidGoal : PySem.W.findIn K (.ref C_InvalidGoal) "__getattr__" = some none)
    (hd_InvalidGoal : PySem.W.hasDictIn K C_InvalidGoal = true)
    (ha_InvalidGoal : PySem.W.findIn K (.ref C_InvalidGoal) "__class__" = some (some (.builtin "object.__class__")))
    (mo_InvalidGoal : PySem.W.mroIn K C_InvalidGoal (.type "object") = some true)
    (a_InvalidCommand : PySem.W.nsIn K mainGlobals "InvalidCommand" = some (some (.ref C_InvalidCommand)))
    (ic_InvalidCommand : PySem.W.isClsIn K C_InvalidCommand = true)
    (ty_InvalidCommand : PySem.W.typeIn K (.ref C_InvalidCommand) = some (.type "type"))
    (lk_InvalidCommand : K.lookup C_InvalidCommand = some (excClassObj nm_InvalidCommand q_InvalidCommand C_InvalidCommand N_InvalidCommand bs_InvalidCommand bm_InvalidCommand true sn_InvalidCommand sub_InvalidCommand ab_InvalidCommand col_InvalidCommand dd_InvalidCommand k0_InvalidCommand k1_InvalidCommand k2_InvalidCommand k3_InvalidCommand k5_InvalidCommand "ValueError.__new__"))
    (re_InvalidCommand : PySem.HandSPX.refsVE bm_InvalidCommand = true)
    (in_InvalidCommand : PySem.W.findIn K (.ref C_InvalidCommand) "__init__" = some (some (.builtin "ValueError.__init__")))
    (kc_InvalidCommand : PySem.W.keepIn K (.ref C_InvalidCommand) = true)
    (ex_InvalidCommand : PySem.W.subIn K (.ref C_InvalidCommand) (.type "BaseException") = some true)
    (ga_InvalidCommand : PySem.W.findIn K (.ref C_InvalidCommand) "__getattribute__" = some (some (.builtin "BaseException.__getattribute__")))
    (gg_InvalidCommand : PySem.W.findIn K (.ref C_InvalidCommand) "__getattr__" = some none)
    (hd_InvalidCommand : PySem.W.hasDictIn K C_InvalidCommand = true)
    (ha_InvalidCommand : PySem.W.findIn K (.ref C_InvalidCommand) "__class__" = some (some (.builtin "object.__class__")))
    (mo_InvalidCommand : PySem.W.mroIn K C_InvalidCommand (.type "object") = some true)
    (a_NightError : PySem.W.nsIn K mainGlobals "NightError" = some (some (.ref C_NightError)))
    (ic_NightError : PySem.W.isClsIn K C_NightError = true)
    (ty_NightError : PySem.W.typeIn K (.ref C_NightError) = some (.type "type"))
    (zz_int : PySem.W.nsIn K mainGlobals "int" = some none)
    (zz_len : PySem.W.nsIn K mainGlobals "len" = some none)
    (zz_abs : PySem.W.nsIn K mainGlobals "abs" = some none)
    (zz_isinstance : PySem.W.nsIn K mainGlobals "isinstance" = some none)
    (zz_range : PySem.W.nsIn K mainGlobals "range" = some none)
    (zz_max : PySem.W.nsIn K mainGlobals "max" = some none)
    (zz_min : PySem.W.nsIn K mainGlobals "min" = some none)
    (zz_zip : PySem.W.nsIn K mainGlobals "zip" = some none)
    (zz_repr : PySem.W.nsIn K mainGlobals "repr" = some none)
    (zz_enumerate : PySem.W.nsIn K mainGlobals "enumerate" = some none)
    (zz_ValueError : PySem.W.nsIn K mainGlobals "ValueError" = some none)
    (zz_IndexError : PySem.W.nsIn K mainGlobals "IndexError" = some none)
    (su_k0_1 : PySem.W.subIn K (.ref C_InvalidRule) (.ref C_InvalidPlan) = some false)
    (nq_k0_1 : ((Value.ref C_InvalidRule) == Value.ref C_InvalidPlan) = false)
    (su_k0_2 : PySem.W.subIn K (.ref C_InvalidRule) (.ref C_InvalidWorld) = some false)
    (nq_k0_2 : ((Value.ref C_InvalidRule) == Value.ref C_InvalidWorld) = false)
    (su_k0_3 : PySem.W.subIn K (.ref C_InvalidRule) (.ref C_InvalidCrowd) = some false)
    (nq_k0_3 : ((Value.ref C_InvalidRule) == Value.ref C_InvalidCrowd) = false)
    (su_k0_4 : PySem.W.subIn K (.ref C_InvalidRule) (.ref C_InvalidText) = some false)
    (nq_k0_4 : ((Value.ref C_InvalidRule) == Value.ref C_InvalidText) = false)
    (su_k0_5 : PySem.W.subIn K (.ref C_InvalidRule) (.ref C_InvalidEvent) = some false)
    (nq_k0_5 : ((Value.ref C_InvalidRule) == Value.ref C_InvalidEvent) = false)
    (su_k0_6 : PySem.W.subIn K (.ref C_InvalidRule) (.ref C_Refused) = some false)
    (nq_k0_6 : ((Value.ref C_InvalidRule) == Value.ref C_Refused) = false)
    (su_k0_7 : PySem.W.subIn K (.ref C_InvalidRule) (.ref C_NoRule) = some false)
    (nq_k0_7 : ((Value.ref C_InvalidRule) == Value.ref C_NoRule) = false)
    (su_k0_8 : PySem.W.subIn K (.ref C_InvalidRule) (.ref C_InvalidGoal) = some false)
    (nq_k0_8 : ((Value.ref C_InvalidRule) == Value.ref C_InvalidGoal) = false)
    (su_k0_9 : PySem.W.subIn K (.ref C_InvalidRule) (.ref C_InvalidCommand) = some false)
    (nq_k0_9 : ((Value.ref C_InvalidRule) == Value.ref C_InvalidCommand) = false)
    (su_kn0 : PySem.W.subIn K (.ref C_InvalidRule) (.ref C_NightError) = some true)
    (nq_kn0 : ((Value.ref C_InvalidRule) == Value.ref C_NightError) = false)
    (kv0 : PySem.W.subIn K (.ref C_InvalidRule) (.type "ValueError") = some true)
    (kx0 : PySem.W.subIn K (.ref C_InvalidRule) (.type "IndexError") = some false)
    (su_k1_0 : PySem.W.subIn K (.ref C_InvalidPlan) (.ref C_InvalidRule) = some false)
    (nq_k1_0 : ((Value.ref C_InvalidPlan) == Value.ref C_InvalidRule) = false)
    (su_k1_2 : PySem.W.subIn K (.ref C_InvalidPlan) (.ref C_InvalidWorld) = some false)
    (nq_k1_2 : ((Value.ref C_InvalidPlan) == Value.ref C_InvalidWorld) = false)
    (su_k1_3 : PySem.W.subIn K (.ref C_InvalidPlan) (.ref C_InvalidCrowd) = some false)
    (nq_k1_3 : ((Value.ref C_InvalidPlan) == Value.ref C_InvalidCrowd) = false)
    (su_k1_4 : PySem.W.subIn K (.ref C_InvalidPlan) (.ref C_InvalidText) = some false)
    (nq_k1_4 : ((Value.ref C_InvalidPlan) == Value.ref C_InvalidText) = false)
    (su_k1_5 : PySem.W.subIn K (.ref C_InvalidPlan) (.ref C_InvalidEvent) = some false)
    (nq_k1_5 : ((Value.ref C_InvalidPlan) == Value.ref C_InvalidEvent) = false)
    (su_k1_6 : PySem.W.subIn K (.ref C_InvalidPlan) (.ref C_Refused) = some false)
    (nq_k1_6 : ((Value.ref C_InvalidPlan) == Value.ref C_Refused) = false)
    (su_k1_7 : PySem.W.subIn K (.ref C_InvalidPlan) (.ref C_NoRule) = some false)
    (nq_k1_7 : ((Value.ref C_InvalidPlan) == Value.ref C_NoRule) = false)
    (su_k1_8 : PySem.W.subIn K (.ref C_InvalidPlan) (.ref C_InvalidGoal) = some false)
    (nq_k1_8 : ((Value.ref C_InvalidPlan) == Value.ref C_InvalidGoal) = false)
    (su_k1_9 : PySem.W.subIn K (.ref C_InvalidPlan) (.ref C_InvalidCommand) = some false)
    (nq_k1_9 : ((Value.ref C_InvalidPlan) == Value.ref C_InvalidCommand) = false)
    (su_kn1 : PySem.W.subIn K (.ref C_InvalidPlan) (.ref C_NightError) = some true)
    (nq_kn1 : ((Value.ref C_InvalidPlan) == Value.ref C_NightError) = false)
    (kv1 : PySem.W.subIn K (.ref C_InvalidPlan) (.type "ValueError") = some true)
    (kx1 : PySem.W.subIn K (.ref C_InvalidPlan) (.type "IndexError") = some false)
    (su_k2_0 : PySem.W.subIn K (.ref C_InvalidWorld) (.ref C_InvalidRule) = some false)
    (nq_k2_0 : ((Value.ref C_InvalidWorld) == Value.ref C_InvalidRule) = false)
    (su_k2_1 : PySem.W.subIn K (.ref C_InvalidWorld) (.ref C_InvalidPlan) = some false)
    (nq_k2_1 : ((Value.ref C_InvalidWorld) == Value.ref C_InvalidPlan) = false)
    (su_k2_3 : PySem.W.subIn K (.ref C_InvalidWorld) (.ref C_InvalidCrowd) = some false)
    (nq_k2_3 : ((Value.ref C_InvalidWorld) == Value.ref C_InvalidCrowd) = false)
    (su_k2_4 : PySem.W.subIn K (.ref C_InvalidWorld) (.ref C_InvalidText) = some false)
    (nq_k2_4 : ((Value.ref C_InvalidWorld) == Value.ref C_InvalidText) = false)
    (su_k2_5 : PySem.W.subIn K (.ref C_InvalidWorld) (.ref C_InvalidEvent) = some false)
    (nq_k2_5 : ((Value.ref C_InvalidWorld) == Value.ref C_InvalidEvent) = false)
    (su_k2_6 : PySem.W.subIn K (.ref C_InvalidWorld) (.ref C_Refused) = some false)
    (nq_k2_6 : ((Value.ref C_InvalidWorld) == Value.ref C_Refused) = false)
    (su_k2_7 : PySem.W.subIn K (.ref C_InvalidWorld) (.ref C_NoRule) = some false)
    (nq_k2_7 : ((Value.ref C_InvalidWorld) == Value.ref C_NoRule) = false)
    (su_k2_8 : PySem.W.subIn K (.ref C_InvalidWorld) (.ref C_InvalidGoal) = some false)
    (nq_k2_8 : ((Value.ref C_InvalidWorld) == Value.ref C_InvalidGoal) = false)
    (su_k2_9 : PySem.W.subIn K (.ref C_InvalidWorld) (.ref C_InvalidCommand) = some false)
    (nq_k2_9 : ((Value.ref C_InvalidWorld) == Value.ref C_InvalidCommand) = false)
    (su_kn2 : PySem.W.subIn K (.ref C_InvalidWorld) (.ref C_NightError) = some true)
    (nq_kn2 : ((Value.ref C_InvalidWorld) == Value.ref C_NightError) = false)
    (kv2 : PySem.W.subIn K (.ref C_InvalidWorld) (.type "ValueError") = some true)
    (kx2 : PySem.W.subIn K (.ref C_InvalidWorld) (.type "IndexError") = some false)
    (su_k3_0 : PySem.W.subIn K (.ref C_InvalidCrowd) (.ref C_InvalidRule) = some false)
    (nq_k3_0 : ((Value.ref C_InvalidCrowd) == Value.ref C_InvalidRule) = false)
    (su_k3_1 : PySem.W.subIn K (.ref C_InvalidCrowd) (.ref C_InvalidPlan) = some false)
    (nq_k3_1 : ((Value.ref C_InvalidCrowd) == Value.ref C_InvalidPlan) = false)
    (su_k3_2 : PySem.W.subIn K (.ref C_InvalidCrowd) (.ref C_InvalidWorld) = some false)
    (nq_k3_2 : ((Value.ref C_InvalidCrowd) == Value.ref C_InvalidWorld) = false)
    (su_k3_4 : PySem.W.subIn K (.ref C_InvalidCrowd) (.ref C_InvalidText) = some false)
    (nq_k3_4 : ((Value.ref C_InvalidCrowd) == Value.ref C_InvalidText) = false)
    (su_k3_5 : PySem.W.subIn K (.ref C_InvalidCrowd) (.ref C_InvalidEvent) = some false)
    (nq_k3_5 : ((Value.ref C_InvalidCrowd) == Value.ref C_InvalidEvent) = false)
    (su_k3_6 : PySem.W.subIn K (.ref C_InvalidCrowd) (.ref C_Refused) = some false)
    (nq_k3_6 : ((Value.ref C_InvalidCrowd) == Value.ref C_Refused) = false)
    (su_k3_7 : PySem.W.subIn K (.ref C_InvalidCrowd) (.ref C_NoRule) = some false)
    (nq_k3_7 : ((Value.ref C_InvalidCrowd) == Value.ref C_NoRule) = false)
    (su_k3_8 : PySem.W.subIn K (.ref C_InvalidCrowd) (.ref C_InvalidGoal) = some false)
    (nq_k3_8 : ((Value.ref C_InvalidCrowd) == Value.ref C_InvalidGoal) = false)
    (su_k3_9 : PySem.W.subIn K (.ref C_InvalidCrowd) (.ref C_InvalidCommand) = some false)
    (nq_k3_9 : ((Value.ref C_InvalidCrowd) == Value.ref C_InvalidCommand) = false)
    (su_kn3 : PySem.W.subIn K (.ref C_InvalidCrowd) (.ref C_NightError) = some true)
    (nq_kn3 : ((Value.ref C_InvalidCrowd) == Value.ref C_NightError) = false)
    (kv3 : PySem.W.subIn K (.ref C_InvalidCrowd) (.type "ValueError") = some true)
    (kx3 : PySem.W.subIn K (.ref C_InvalidCrowd) (.type "IndexError") = some false)
    (su_k4_0 : PySem.W.subIn K (.ref C_InvalidText) (.ref C_InvalidRule) = some false)
    (nq_k4_0 : ((Value.ref C_InvalidText) == Value.ref C_InvalidRule) = false)
    (su_k4_1 : PySem.W.subIn K (.ref C_InvalidText) (.ref C_InvalidPlan) = some false)
    (nq_k4_1 : ((Value.ref C_InvalidText) == Value.ref C_InvalidPlan) = false)
    (su_k4_2 : PySem.W.subIn K (.ref C_InvalidText) (.ref C_InvalidWorld) = some false)
    (nq_k4_2 : ((Value.ref C_InvalidText) == Value.ref C_InvalidWorld) = false)
    (su_k4_3 : PySem.W.subIn K (.ref C_InvalidText) (.ref C_InvalidCrowd) = some false)
    (nq_k4_3 : ((Value.ref C_InvalidText) == Value.ref C_InvalidCrowd) = false)
    (su_k4_5 : PySem.W.subIn K (.ref C_InvalidText) (.ref C_InvalidEvent) = some false)
    (nq_k4_5 : ((Value.ref C_InvalidText) == Value.ref C_InvalidEvent) = false)
    (su_k4_6 : PySem.W.subIn K (.ref C_InvalidText) (.ref C_Refused) = some false)
    (nq_k4_6 : ((Value.ref C_InvalidText) == Value.ref C_Refused) = false)
    (su_k4_7 : PySem.W.subIn K (.ref C_InvalidText) (.ref C_NoRule) = some false)
    (nq_k4_7 : ((Value.ref C_InvalidText) == Value.ref C_NoRule) = false)
    (su_k4_8 : PySem.W.subIn K (.ref C_InvalidText) (.ref C_InvalidGoal) = some false)
    (nq_k4_8 : ((Value.ref C_InvalidText) == Value.ref C_InvalidGoal) = false)
    (su_k4_9 : PySem.W.subIn K (.ref C_InvalidText) (.ref C_InvalidCommand) = some false)
    (nq_k4_9 : ((Value.ref C_InvalidText) == Value.ref C_InvalidCommand) = false)
    (su_kn4 : PySem.W.subIn K (.ref C_InvalidText) (.ref C_NightError) = some true)
    (nq_kn4 : ((Value.ref C_InvalidText) == Value.ref C_NightError) = false)
    (kv4 : PySem.W.subIn K (.ref C_InvalidText) (.type "ValueError") = some true)
    (kx4 : PySem.W.subIn K (.ref C_InvalidText) (.type "IndexError") = some false)
    (su_k5_0 : PySem.W.subIn K (.ref C_InvalidEvent) (.ref C_InvalidRule) = some false)
    (nq_k5_0 : ((Value.ref C_InvalidEvent) == Value.ref C_InvalidRule) = false)
    (su_k5_1 : PySem.W.subIn K (.ref C_InvalidEvent) (.ref C_InvalidPlan) = some false)
    (nq_k5_1 : ((Value.ref C_InvalidEvent) == Value.ref C_InvalidPlan) = false)
    (su_k5_2 : PySem.W.subIn K (.ref C_InvalidEvent) (.ref C_InvalidWorld) = some false)
    (nq_k5_2 : ((Value.ref C_InvalidEvent) == Value.ref C_InvalidWorld) = false)
    (su_k5_3 : PySem.W.subIn K (.ref C_InvalidEvent) (.ref C_InvalidCrowd) = some false)
    (nq_k5_3 : ((Value.ref C_InvalidEvent) == Value.ref C_InvalidCrowd) = false)
    (su_k5_4 : PySem.W.subIn K (.ref C_InvalidEvent) (.ref C_InvalidText) = some false)
    (nq_k5_4 : ((Value.ref C_InvalidEvent) == Value.ref C_InvalidText) = false)
    (su_k5_6 : PySem.W.subIn K (.ref C_InvalidEvent) (.ref C_Refused) = some false)
    (nq_k5_6 : ((Value.ref C_InvalidEvent) == Value.ref C_Refused) = false)
    (su_k5_7 : PySem.W.subIn K (.ref C_InvalidEvent) (.ref C_NoRule) = some false)
    (nq_k5_7 : ((Value.ref C_InvalidEvent) == Value.ref C_NoRule) = false)
    (su_k5_8 : PySem.W.subIn K (.ref C_InvalidEvent) (.ref C_InvalidGoal) = some false)
    (nq_k5_8 : ((Value.ref C_InvalidEvent) == Value.ref C_InvalidGoal) = false)
    (su_k5_9 : PySem.W.subIn K (.ref C_InvalidEvent) (.ref C_InvalidCommand) = some false)
    (nq_k5_9 : ((Value.ref C_InvalidEvent) == Value.ref C_InvalidCommand) = false)
    (su_kn5 : PySem.W.subIn K (.ref C_InvalidEvent) (.ref C_NightError) = some true)
    (nq_kn5 : ((Value.ref C_InvalidEvent) == Value.ref C_NightError) = false)
    (kv5 : PySem.W.subIn K (.ref C_InvalidEvent) (.type "ValueError") = some true)
    (kx5 : PySem.W.subIn K (.ref C_InvalidEvent) (.type "IndexError") = some false)
    (su_k6_0 : PySem.W.subIn K (.ref C_Refused) (.ref C_InvalidRule) = some false)
    (nq_k6_0 : ((Value.ref C_Refused) == Value.ref C_InvalidRule) = false)
    (su_k6_1 : PySem.W.subIn K (.ref C_Refused) (.ref C_InvalidPlan) = some false)
    (nq_k6_1 : ((Value.ref C_Refused) == Value.ref C_InvalidPlan) = false)
    (su_k6_2 : PySem.W.subIn K (.ref C_Refused) (.ref C_InvalidWorld) = some false)
    (nq_k6_2 : ((Value.ref C_Refused) == Value.ref C_InvalidWorld) = false)
    (su_k6_3 : PySem.W.subIn K (.ref C_Refused) (.ref C_InvalidCrowd) = some false)
    (nq_k6_3 : ((Value.ref C_Refused) == Value.ref C_InvalidCrowd) = false)
    (su_k6_4 : PySem.W.subIn K (.ref C_Refused) (.ref C_InvalidText) = some false)
    (nq_k6_4 : ((Value.ref C_Refused) == Value.ref C_InvalidText) = false)
    (su_k6_5 : PySem.W.subIn K (.ref C_Refused) (.ref C_InvalidEvent) = some false)
    (nq_k6_5 : ((Value.ref C_Refused) == Value.ref C_InvalidEvent) = false)
    (su_k6_7 : PySem.W.subIn K (.ref C_Refused) (.ref C_NoRule) = some false)
    (nq_k6_7 : ((Value.ref C_Refused) == Value.ref C_NoRule) = false)
    (su_k6_8 : PySem.W.subIn K (.ref C_Refused) (.ref C_InvalidGoal) = some false)
    (nq_k6_8 : ((Value.ref C_Refused) == Value.ref C_InvalidGoal) = false)
    (su_k6_9 : PySem.W.subIn K (.ref C_Refused) (.ref C_InvalidCommand) = some false)
    (nq_k6_9 : ((Value.ref C_Refused) == Value.ref C_InvalidCommand) = false)
    (su_kn6 : PySem.W.subIn K (.ref C_Refused) (.ref C_NightError) = some true)
    (nq_kn6 : ((Value.ref C_Refused) == Value.ref C_NightError) = false)
    (kv6 : PySem.W.subIn K (.ref C_Refused) (.type "ValueError") = some true)
    (kx6 : PySem.W.subIn K (.ref C_Refused) (.type "IndexError") = some false)
    (su_k7_0 : PySem.W.subIn K (.ref C_NoRule) (.ref C_InvalidRule) = some false)
    (nq_k7_0 : ((Value.ref C_NoRule) == Value.ref C_InvalidRule) = false)
    (su_k7_1 : PySem.W.subIn K (.ref C_NoRule) (.ref C_InvalidPlan) = some false)
    (nq_k7_1 : ((Value.ref C_NoRule) == Value.ref C_InvalidPlan) = false)
    (su_k7_2 : PySem.W.subIn K (.ref C_NoRule) (.ref C_InvalidWorld) = some false)
    (nq_k7_2 : ((Value.ref C_NoRule) == Value.ref C_InvalidWorld) = false)
    (su_k7_3 : PySem.W.subIn K (.ref C_NoRule) (.ref C_InvalidCrowd) = some false)
    (nq_k7_3 : ((Value.ref C_NoRule) == Value.ref C_InvalidCrowd) = false)
    (su_k7_4 : PySem.W.subIn K (.ref C_NoRule) (.ref C_InvalidText) = some false)
    (nq_k7_4 : ((Value.ref C_NoRule) == Value.ref C_InvalidText) = false)
    (su_k7_5 : PySem.W.subIn K (.ref C_NoRule) (.ref C_InvalidEvent) = some false)
    (nq_k7_5 : ((Value.ref C_NoRule) == Value.ref C_InvalidEvent) = false)
    (su_k7_6 : PySem.W.subIn K (.ref C_NoRule) (.ref C_Refused) = some false)
    (nq_k7_6 : ((Value.ref C_NoRule) == Value.ref C_Refused) = false)
    (su_k7_8 : PySem.W.subIn K (.ref C_NoRule) (.ref C_InvalidGoal) = some false)
    (nq_k7_8 : ((Value.ref C_NoRule) == Value.ref C_InvalidGoal) = false)
    (su_k7_9 : PySem.W.subIn K (.ref C_NoRule) (.ref C_InvalidCommand) = some false)
    (nq_k7_9 : ((Value.ref C_NoRule) == Value.ref C_InvalidCommand) = false)
    (su_kn7 : PySem.W.subIn K (.ref C_NoRule) (.ref C_NightError) = some false)
    (nq_kn7 : ((Value.ref C_NoRule) == Value.ref C_NightError) = false)
    (kv7 : PySem.W.subIn K (.ref C_NoRule) (.type "ValueError") = some false)
    (kx7 : PySem.W.subIn K (.ref C_NoRule) (.type "IndexError") = some true)
    (su_k8_0 : PySem.W.subIn K (.ref C_InvalidGoal) (.ref C_InvalidRule) = some false)
    (nq_k8_0 : ((Value.ref C_InvalidGoal) == Value.ref C_InvalidRule) = false)
    (su_k8_1 : PySem.W.subIn K (.ref C_InvalidGoal) (.ref C_InvalidPlan) = some false)
    (nq_k8_1 : ((Value.ref C_InvalidGoal) == Value.ref C_InvalidPlan) = false)
    (su_k8_2 : PySem.W.subIn K (.ref C_InvalidGoal) (.ref C_InvalidWorld) = some false)
    (nq_k8_2 : ((Value.ref C_InvalidGoal) == Value.ref C_InvalidWorld) = false)
    (su_k8_3 : PySem.W.subIn K (.ref C_InvalidGoal) (.ref C_InvalidCrowd) = some false)
    (nq_k8_3 : ((Value.ref C_InvalidGoal) == Value.ref C_InvalidCrowd) = false)
    (su_k8_4 : PySem.W.subIn K (.ref C_InvalidGoal) (.ref C_InvalidText) = some false)
    (nq_k8_4 : ((Value.ref C_InvalidGoal) == Value.ref C_InvalidText) = false)
    (su_k8_5 : PySem.W.subIn K (.ref C_InvalidGoal) (.ref C_InvalidEvent) = some false)
    (nq_k8_5 : ((Value.ref C_InvalidGoal) == Value.ref C_InvalidEvent) = false)
    (su_k8_6 : PySem.W.subIn K (.ref C_InvalidGoal) (.ref C_Refused) = some false)
    (nq_k8_6 : ((Value.ref C_InvalidGoal) == Value.ref C_Refused) = false)
    (su_k8_7 : PySem.W.subIn K (.ref C_InvalidGoal) (.ref C_NoRule) = some false)
    (nq_k8_7 : ((Value.ref C_InvalidGoal) == Value.ref C_NoRule) = false)
    (su_k8_9 : PySem.W.subIn K (.ref C_InvalidGoal) (.ref C_InvalidCommand) = some false)
    (nq_k8_9 : ((Value.ref C_InvalidGoal) == Value.ref C_InvalidCommand) = false)
    (su_kn8 : PySem.W.subIn K (.ref C_InvalidGoal) (.ref C_NightError) = some true)
    (nq_kn8 : ((Value.ref C_InvalidGoal) == Value.ref C_NightError) = false)
    (kv8 : PySem.W.subIn K (.ref C_InvalidGoal) (.type "ValueError") = some true)
    (kx8 : PySem.W.subIn K (.ref C_InvalidGoal) (.type "IndexError") = some false)
    (su_k9_0 : PySem.W.subIn K (.ref C_InvalidCommand) (.ref C_InvalidRule) = some false)
    (nq_k9_0 : ((Value.ref C_InvalidCommand) == Value.ref C_InvalidRule) = false)
    (su_k9_1 : PySem.W.subIn K (.ref C_InvalidCommand) (.ref C_InvalidPlan) = some false)
    (nq_k9_1 : ((Value.ref C_InvalidCommand) == Value.ref C_InvalidPlan) = false)
    (su_k9_2 : PySem.W.subIn K (.ref C_InvalidCommand) (.ref C_InvalidWorld) = some false)
    (nq_k9_2 : ((Value.ref C_InvalidCommand) == Value.ref C_InvalidWorld) = false)
    (su_k9_3 : PySem.W.subIn K (.ref C_InvalidCommand) (.ref C_InvalidCrowd) = some false)
    (nq_k9_3 : ((Value.ref C_InvalidCommand) == Value.ref C_InvalidCrowd) = false)
    (su_k9_4 : PySem.W.subIn K (.ref C_InvalidCommand) (.ref C_InvalidText) = some false)
    (nq_k9_4 : ((Value.ref C_InvalidCommand) == Value.ref C_InvalidText) = false)
    (su_k9_5 : PySem.W.subIn K (.ref C_InvalidCommand) (.ref C_InvalidEvent) = some false)
    (nq_k9_5 : ((Value.ref C_InvalidCommand) == Value.ref C_InvalidEvent) = false)
    (su_k9_6 : PySem.W.subIn K (.ref C_InvalidCommand) (.ref C_Refused) = some false)
    (nq_k9_6 : ((Value.ref C_InvalidCommand) == Value.ref C_Refused) = false)
    (su_k9_7 : PySem.W.subIn K (.ref C_InvalidCommand) (.ref C_NoRule) = some false)
    (nq_k9_7 : ((Value.ref C_InvalidCommand) == Value.ref C_NoRule) = false)
    (su_k9_8 : PySem.W.subIn K (.ref C_InvalidCommand) (.ref C_InvalidGoal) = some false)
    (nq_k9_8 : ((Value.ref C_InvalidCommand) == Value.ref C_InvalidGoal) = false)
    (su_kn9 : PySem.W.subIn K (.ref C_InvalidCommand) (.ref C_NightError) = some true)
    (nq_kn9 : ((Value.ref C_InvalidCommand) == Value.ref C_NightError) = false)
    (kv9 : PySem.W.subIn K (.ref C_InvalidCommand) (.type "ValueError") = some true)
    (kx9 : PySem.W.subIn K (.ref C_InvalidCommand) (.type "IndexError") = some false) :
    ∃ fd : FuncData, (∀ (s : Shared) (u : Value), BindsTo s fd ⟨[u], []⟩ [("_law_script", u)]) ∧ ∀ base : Heap, K.In base → base.Ns mainGlobals mg → FnG P w K mg base 5 fa fd ["_law_script"] (lift K (spLaw 63)) := by
  have F_l_feed : FunT K "_law_feed" "_law_feed" s_l_feed [] f_l_feed _ := ⟨⟨_, _, _, _, _, _, _, _, _, _, rfl, l_l_feed, c_l_feed, .inl ⟨rfl, rfl⟩, .inl rfl⟩, k_l_feed⟩
  have m_l_feed := PySem.W.mg_of X G a_l_feed
  have F_l_take : FunT K "_law_take" "_law_take" s_l_take [] f_l_take _ := ⟨⟨_, _, _, _, _, _, _, _, _, _, rfl, l_l_take, c_l_take, .inl ⟨rfl, rfl⟩, .inl rfl⟩, k_l_take⟩
  have m_l_take := PySem.W.mg_of X G a_l_take
  have F_l_pick : FunT K "_law_pick" "_law_pick" s_l_pick [] f_l_pick _ := ⟨⟨_, _, _, _, _, _, _, _, _, _, rfl, l_l_pick, c_l_pick, .inl ⟨rfl, rfl⟩, .inl rfl⟩, k_l_pick⟩
  have m_l_pick := PySem.W.mg_of X G a_l_pick
  have F_l_made : FunT K "_law_made" "_law_made" s_l_made [] f_l_made _ := ⟨⟨_, _, _, _, _, _, _, _, _, _, rfl, l_l_made, c_l_made, .inl ⟨rfl, rfl⟩, .inl rfl⟩, k_l_made⟩
  have m_l_made := PySem.W.mg_of X G a_l_made
  have F_l_by_name : FunT K "_law_by_name" "_law_by_name" s_l_by_name [] f_l_by_name _ := ⟨⟨_, _, _, _, _, _, _, _, _, _, rfl, l_l_by_name, c_l_by_name, .inl ⟨rfl, rfl⟩, .inl rfl⟩, k_l_by_name⟩
  have m_l_by_name := PySem.W.mg_of X G a_l_by_name
  have F_l_sorts : FunT K "_law_sorts" "_law_sorts" s_l_sorts [] f_l_sorts _ := ⟨⟨_, _, _, _, _, _, _, _, _, _, rfl, l_l_sorts, c_l_sorts, .inl ⟨rfl, rfl⟩, .inl rfl⟩, k_l_sorts⟩
  have m_l_sorts := PySem.W.mg_of X G a_l_sorts
  have F_l_held : FunT K "_law_held" "_law_held" s_l_held [] f_l_held _ := ⟨⟨_, _, _, _, _, _, _, _, _, _, rfl, l_l_held, c_l_held, .inl ⟨rfl, rfl⟩, .inl rfl⟩, k_l_held⟩
  have m_l_held := PySem.W.mg_of X G a_l_held
  have F_law : FunT K "law" "law" s_law [] f_law _ := ⟨⟨_, _, _, _, _, _, _, _, _, _, rfl, l_law, c_law, .inl ⟨rfl, rfl⟩, .inl rfl⟩, k_law⟩
  have m_law := PySem.W.mg_of X G a_law
  have z_super := PySem.W.mg_none_of X G zz_super
  have g_InvalidRule := PySem.W.mg_of X G a_InvalidRule
  have eo_InvalidRule := exm_cls ex_InvalidRule ic_InvalidRule ty_InvalidRule ss_InvalidRule
  have oex_InvalidRule : OexC K C_InvalidRule := ⟨⟨_, _, _, _, _, _, _, _, _, _, _, _, _, _, _, lk_InvalidRule, re_InvalidRule⟩, sa_InvalidRule, ex_InvalidRule, ty_InvalidRule, kc_InvalidRule⟩
  have erk_InvalidRule : ErK P K s_InvalidRule_init "InvalidRule.__init__" "word" C_InvalidRule f_InvalidRule_init _ := ⟨oex_InvalidRule, ⟨_, _, _, _, _, _, _, _, _, _, _, rfl, fl_InvalidRule, fc_InvalidRule, ⟨_, _, _, _, _, _, co_InvalidRule, fv_InvalidRule, ff_InvalidRule⟩, _, _, _, ce_InvalidRule⟩, in_InvalidRule, tf_InvalidRule, ks_InvalidRule, sb_InvalidRule, mr_InvalidRule, opq, fno_InvalidRule⟩
  have exc_InvalidRule : ExcC K C_InvalidRule := ⟨ga_InvalidRule, gg_InvalidRule, ex_InvalidRule, hd_InvalidRule, ha_InvalidRule, hnI, htI, mo_InvalidRule⟩
  have xf_InvalidRule : XfC K C_InvalidRule := ⟨ga_InvalidRule, gg_InvalidRule, ex_InvalidRule, hd_InvalidRule⟩
  have g_InvalidPlan := PySem.W.mg_of X G a_InvalidPlan
  have eo_InvalidPlan := exm_cls ex_InvalidPlan ic_InvalidPlan ty_InvalidPlan ss_InvalidPlan
  have oex_InvalidPlan : OexC K C_InvalidPlan := ⟨⟨_, _, _, _, _, _, _, _, _, _, _, _, _, _, _, lk_InvalidPlan, re_InvalidPlan⟩, sa_InvalidPlan, ex_InvalidPlan, ty_InvalidPlan, kc_InvalidPlan⟩
  have erk_InvalidPlan : ErK P K s_InvalidPlan_init "InvalidPlan.__init__" "word" C_InvalidPlan f_InvalidPlan_init _ := ⟨oex_InvalidPlan, ⟨_, _, _, _, _, _, _, _, _, _, _, rfl, fl_InvalidPlan, fc_InvalidPlan, ⟨_, _, _, _, _, _, co_InvalidPlan, fv_InvalidPlan, ff_InvalidPlan⟩, _, _, _, ce_InvalidPlan⟩, in_InvalidPlan, tf_InvalidPlan, ks_InvalidPlan, sb_InvalidPlan, mr_InvalidPlan, opq, fno_InvalidPlan⟩
  have exc_InvalidPlan : ExcC K C_InvalidPlan := ⟨ga_InvalidPlan, gg_InvalidPlan, ex_InvalidPlan, hd_InvalidPlan, ha_InvalidPlan, hnI, htI, mo_InvalidPlan⟩
  have xf_InvalidPlan : XfC K C_InvalidPlan := ⟨ga_InvalidPlan, gg_InvalidPlan, ex_InvalidPlan, hd_InvalidPlan⟩
  have g_InvalidWorld := PySem.W.mg_of X G a_InvalidWorld
  have eo_InvalidWorld := exm_cls ex_InvalidWorld ic_InvalidWorld ty_InvalidWorld ss_InvalidWorld
  have oex_InvalidWorld : OexC K C_InvalidWorld := ⟨⟨_, _, _, _, _, _, _, _, _, _, _, _, _, _, _, lk_InvalidWorld, re_InvalidWorld⟩, sa_InvalidWorld, ex_InvalidWorld, ty_InvalidWorld, kc_InvalidWorld⟩
  have erk_InvalidWorld : ErK P K s_InvalidWorld_init "InvalidWorld.__init__" "word" C_InvalidWorld f_InvalidWorld_init _ := ⟨oex_InvalidWorld, ⟨_, _, _, _, _, _, _, _, _, _, _, rfl, fl_InvalidWorld, fc_InvalidWorld, ⟨_, _, _, _, _, _, co_InvalidWorld, fv_InvalidWorld, ff_InvalidWorld⟩, _, _, _, ce_InvalidWorld⟩, in_InvalidWorld, tf_InvalidWorld, ks_InvalidWorld, sb_InvalidWorld, mr_InvalidWorld, opq, fno_InvalidWorld⟩
  have exc_InvalidWorld : ExcC K C_InvalidWorld := ⟨ga_InvalidWorld, gg_InvalidWorld, ex_InvalidWorld, hd_InvalidWorld, ha_InvalidWorld, hnI, htI, mo_InvalidWorld⟩
  have xf_InvalidWorld : XfC K C_InvalidWorld := ⟨ga_InvalidWorld, gg_InvalidWorld, ex_InvalidWorld, hd_InvalidWorld⟩
  have g_InvalidCrowd := PySem.W.mg_of X G a_InvalidCrowd
  have eo_InvalidCrowd := exm_cls ex_InvalidCrowd ic_InvalidCrowd ty_InvalidCrowd ss_InvalidCrowd
  have oex_InvalidCrowd : OexC K C_InvalidCrowd := ⟨⟨_, _, _, _, _, _, _, _, _, _, _, _, _, _, _, lk_InvalidCrowd, re_InvalidCrowd⟩, sa_InvalidCrowd, ex_InvalidCrowd, ty_InvalidCrowd, kc_InvalidCrowd⟩
  have erk_InvalidCrowd : ErK P K s_InvalidCrowd_init "InvalidCrowd.__init__" "word" C_InvalidCrowd f_InvalidCrowd_init _ := ⟨oex_InvalidCrowd, ⟨_, _, _, _, _, _, _, _, _, _, _, rfl, fl_InvalidCrowd, fc_InvalidCrowd, ⟨_, _, _, _, _, _, co_InvalidCrowd, fv_InvalidCrowd, ff_InvalidCrowd⟩, _, _, _, ce_InvalidCrowd⟩, in_InvalidCrowd, tf_InvalidCrowd, ks_InvalidCrowd, sb_InvalidCrowd, mr_InvalidCrowd, opq, fno_InvalidCrowd⟩
  have exc_InvalidCrowd : ExcC K C_InvalidCrowd := ⟨ga_InvalidCrowd, gg_InvalidCrowd, ex_InvalidCrowd, hd_InvalidCrowd, ha_InvalidCrowd, hnI, htI, mo_InvalidCrowd⟩
  have xf_InvalidCrowd : XfC K C_InvalidCrowd := ⟨ga_InvalidCrowd, gg_InvalidCrowd, ex_InvalidCrowd, hd_InvalidCrowd⟩
  have g_InvalidText := PySem.W.mg_of X G a_InvalidText
  have eo_InvalidText := exm_cls ex_InvalidText ic_InvalidText ty_InvalidText ss_InvalidText
  have oex_InvalidText : OexC K C_InvalidText := ⟨⟨_, _, _, _, _, _, _, _, _, _, _, _, _, _, _, lk_InvalidText, re_InvalidText⟩, sa_InvalidText, ex_InvalidText, ty_InvalidText, kc_InvalidText⟩
  have erk_InvalidText : ErK P K s_InvalidText_init "InvalidText.__init__" "at" C_InvalidText f_InvalidText_init _ := ⟨oex_InvalidText, ⟨_, _, _, _, _, _, _, _, _, _, _, rfl, fl_InvalidText, fc_InvalidText, ⟨_, _, _, _, _, _, co_InvalidText, fv_InvalidText, ff_InvalidText⟩, _, _, _, ce_InvalidText⟩, in_InvalidText, tf_InvalidText, ks_InvalidText, sb_InvalidText, mr_InvalidText, opq, fno_InvalidText⟩
  have exc_InvalidText : ExcC K C_InvalidText := ⟨ga_InvalidText, gg_InvalidText, ex_InvalidText, hd_InvalidText, ha_InvalidText, hnI, htI, mo_InvalidText⟩
  have xf_InvalidText : XfC K C_InvalidText := ⟨ga_InvalidText, gg_InvalidText, ex_InvalidText, hd_InvalidText⟩
  have g_InvalidEvent := PySem.W.mg_of X G a_InvalidEvent
  have eo_InvalidEvent := exm_cls ex_InvalidEvent ic_InvalidEvent ty_InvalidEvent ss_InvalidEvent
  have oex_InvalidEvent : OexC K C_InvalidEvent := ⟨⟨_, _, _, _, _, _, _, _, _, _, _, _, _, _, _, lk_InvalidEvent, re_InvalidEvent⟩, sa_InvalidEvent, ex_InvalidEvent, ty_InvalidEvent, kc_InvalidEvent⟩
  have erk_InvalidEvent : ErK P K s_InvalidEvent_init "InvalidEvent.__init__" "at" C_InvalidEvent f_InvalidEvent_init _ := ⟨oex_InvalidEvent, ⟨_, _, _, _, _, _, _, _, _, _, _, rfl, fl_InvalidEvent, fc_InvalidEvent, ⟨_, _, _, _, _, _, co_InvalidEvent, fv_InvalidEvent, ff_InvalidEvent⟩, _, _, _, ce_InvalidEvent⟩, in_InvalidEvent, tf_InvalidEvent, ks_InvalidEvent, sb_InvalidEvent, mr_InvalidEvent, opq, fno_InvalidEvent⟩
  have exc_InvalidEvent : ExcC K C_InvalidEvent := ⟨ga_InvalidEvent, gg_InvalidEvent, ex_InvalidEvent, hd_InvalidEvent, ha_InvalidEvent, hnI, htI, mo_InvalidEvent⟩
  have xf_InvalidEvent : XfC K C_InvalidEvent := ⟨ga_InvalidEvent, gg_InvalidEvent, ex_InvalidEvent, hd_InvalidEvent⟩
  have g_Refused := PySem.W.mg_of X G a_Refused
  have eo_Refused := exm_cls ex_Refused ic_Refused ty_Refused ss_Refused
  have oex_Refused : OexC K C_Refused := ⟨⟨_, _, _, _, _, _, _, _, _, _, _, _, _, _, _, lk_Refused, re_Refused⟩, sa_Refused, ex_Refused, ty_Refused, kc_Refused⟩
  have erk_Refused : ErK P K s_Refused_init "Refused.__init__" "at" C_Refused f_Refused_init _ := ⟨oex_Refused, ⟨_, _, _, _, _, _, _, _, _, _, _, rfl, fl_Refused, fc_Refused, ⟨_, _, _, _, _, _, co_Refused, fv_Refused, ff_Refused⟩, _, _, _, ce_Refused⟩, in_Refused, tf_Refused, ks_Refused, sb_Refused, mr_Refused, opq, fno_Refused⟩
  have exc_Refused : ExcC K C_Refused := ⟨ga_Refused, gg_Refused, ex_Refused, hd_Refused, ha_Refused, hnI, htI, mo_Refused⟩
  have xf_Refused : XfC K C_Refused := ⟨ga_Refused, gg_Refused, ex_Refused, hd_Refused⟩
  have g_NoRule := PySem.W.mg_of X G a_NoRule
  have eo_NoRule := exm_cls ex_NoRule ic_NoRule ty_NoRule ss_NoRule
  have oex_NoRule : OexI K C_NoRule := ⟨⟨_, _, _, _, _, _, _, _, _, _, _, _, _, _, _, lk_NoRule, re_NoRule⟩, sa_NoRule, ex_NoRule, ty_NoRule, kc_NoRule⟩
  have erk_NoRule : ErKI P K s_NoRule_init "NoRule.__init__" "at" C_NoRule f_NoRule_init _ := ⟨oex_NoRule, ⟨_, _, _, _, _, _, _, _, _, _, _, rfl, fl_NoRule, fc_NoRule, ⟨_, _, _, _, _, _, co_NoRule, fv_NoRule, ff_NoRule⟩, _, _, _, ce_NoRule⟩, in_NoRule, tf_NoRule, ks_NoRule, sb_NoRule, mr_NoRule, opq, fno_NoRule⟩
  have exc_NoRule : ExcC K C_NoRule := ⟨ga_NoRule, gg_NoRule, ex_NoRule, hd_NoRule, ha_NoRule, hnI, htI, mo_NoRule⟩
  have xf_NoRule : XfC K C_NoRule := ⟨ga_NoRule, gg_NoRule, ex_NoRule, hd_NoRule⟩
  have g_InvalidGoal := PySem.W.mg_of X G a_InvalidGoal
  have ex0_InvalidGoal : Ex0 K C_InvalidGoal := ⟨⟨_, _, _, _, _, _, _, _, _, _, _, _, _, _, _, lk_InvalidGoal, re_InvalidGoal⟩, in_InvalidGoal, kc_InvalidGoal⟩
  have exc_InvalidGoal : ExcC K C_InvalidGoal := ⟨ga_InvalidGoal, gg_InvalidGoal, ex_InvalidGoal, hd_InvalidGoal, ha_InvalidGoal, hnI, htI, mo_InvalidGoal⟩
  have g_InvalidCommand := PySem.W.mg_of X G a_InvalidCommand
  have ex0_InvalidCommand : Ex0 K C_InvalidCommand := ⟨⟨_, _, _, _, _, _, _, _, _, _, _, _, _, _, _, lk_InvalidCommand, re_InvalidCommand⟩, in_InvalidCommand, kc_InvalidCommand⟩
  have exc_InvalidCommand : ExcC K C_InvalidCommand := ⟨ga_InvalidCommand, gg_InvalidCommand, ex_InvalidCommand, hd_InvalidCommand, ha_InvalidCommand, hnI, htI, mo_InvalidCommand⟩
  have g_NightError := PySem.W.mg_of X G a_NightError
  have z_int := PySem.W.mg_none_of X G zz_int
  have z_len := PySem.W.mg_none_of X G zz_len
  have z_abs := PySem.W.mg_none_of X G zz_abs
  have z_isinstance := PySem.W.mg_none_of X G zz_isinstance
  have z_range := PySem.W.mg_none_of X G zz_range
  have z_max := PySem.W.mg_none_of X G zz_max
  have z_min := PySem.W.mg_none_of X G zz_min
  have z_zip := PySem.W.mg_none_of X G zz_zip
  have z_repr := PySem.W.mg_none_of X G zz_repr
  have z_enumerate := PySem.W.mg_none_of X G zz_enumerate
  have z_ValueError := PySem.W.mg_none_of X G zz_ValueError
  have z_IndexError := PySem.W.mg_none_of X G zz_IndexError
  have k0_1 : PySem.W.kitOne K (.ref C_InvalidRule) (.ref C_InvalidPlan) = some false := kit_ref ic_InvalidPlan ty_InvalidPlan su_k0_1 nq_k0_1
  have k0_2 : PySem.W.kitOne K (.ref C_InvalidRule) (.ref C_InvalidWorld) = some false := kit_ref ic_InvalidWorld ty_InvalidWorld su_k0_2 nq_k0_2
  have k0_3 : PySem.W.kitOne K (.ref C_InvalidRule) (.ref C_InvalidCrowd) = some false := kit_ref ic_InvalidCrowd ty_InvalidCrowd su_k0_3 nq_k0_3
  have k0_4 : PySem.W.kitOne K (.ref C_InvalidRule) (.ref C_InvalidText) = some false := kit_ref ic_InvalidText ty_InvalidText su_k0_4 nq_k0_4
  have k0_5 : PySem.W.kitOne K (.ref C_InvalidRule) (.ref C_InvalidEvent) = some false := kit_ref ic_InvalidEvent ty_InvalidEvent su_k0_5 nq_k0_5
  have k0_6 : PySem.W.kitOne K (.ref C_InvalidRule) (.ref C_Refused) = some false := kit_ref ic_Refused ty_Refused su_k0_6 nq_k0_6
  have k0_7 : PySem.W.kitOne K (.ref C_InvalidRule) (.ref C_NoRule) = some false := kit_ref ic_NoRule ty_NoRule su_k0_7 nq_k0_7
  have k0_8 : PySem.W.kitOne K (.ref C_InvalidRule) (.ref C_InvalidGoal) = some false := kit_ref ic_InvalidGoal ty_InvalidGoal su_k0_8 nq_k0_8
  have k0_9 : PySem.W.kitOne K (.ref C_InvalidRule) (.ref C_InvalidCommand) = some false := kit_ref ic_InvalidCommand ty_InvalidCommand su_k0_9 nq_k0_9
  have kn0 : PySem.W.kitOne K (.ref C_InvalidRule) (.ref C_NightError) = some true := kit_ref ic_NightError ty_NightError su_kn0 nq_kn0
  have k1_0 : PySem.W.kitOne K (.ref C_InvalidPlan) (.ref C_InvalidRule) = some false := kit_ref ic_InvalidRule ty_InvalidRule su_k1_0 nq_k1_0
  have k1_2 : PySem.W.kitOne K (.ref C_InvalidPlan) (.ref C_InvalidWorld) = some false := kit_ref ic_InvalidWorld ty_InvalidWorld su_k1_2 nq_k1_2
  have k1_3 : PySem.W.kitOne K (.ref C_InvalidPlan) (.ref C_InvalidCrowd) = some false := kit_ref ic_InvalidCrowd ty_InvalidCrowd su_k1_3 nq_k1_3
  have k1_4 : PySem.W.kitOne K (.ref C_InvalidPlan) (.ref C_InvalidText) = some false := kit_ref ic_InvalidText ty_InvalidText su_k1_4 nq_k1_4
  have k1_5 : PySem.W.kitOne K (.ref C_InvalidPlan) (.ref C_InvalidEvent) = some false := kit_ref ic_InvalidEvent ty_InvalidEvent su_k1_5 nq_k1_5
  have k1_6 : PySem.W.kitOne K (.ref C_InvalidPlan) (.ref C_Refused) = some false := kit_ref ic_Refused ty_Refused su_k1_6 nq_k1_6
  have k1_7 : PySem.W.kitOne K (.ref C_InvalidPlan) (.ref C_NoRule) = some false := kit_ref ic_NoRule ty_NoRule su_k1_7 nq_k1_7
  have k1_8 : PySem.W.kitOne K (.ref C_InvalidPlan) (.ref C_InvalidGoal) = some false := kit_ref ic_InvalidGoal ty_InvalidGoal su_k1_8 nq_k1_8
  have k1_9 : PySem.W.kitOne K (.ref C_InvalidPlan) (.ref C_InvalidCommand) = some false := kit_ref ic_InvalidCommand ty_InvalidCommand su_k1_9 nq_k1_9
  have kn1 : PySem.W.kitOne K (.ref C_InvalidPlan) (.ref C_NightError) = some true := kit_ref ic_NightError ty_NightError su_kn1 nq_kn1
  have k2_0 : PySem.W.kitOne K (.ref C_InvalidWorld) (.ref C_InvalidRule) = some false := kit_ref ic_InvalidRule ty_InvalidRule su_k2_0 nq_k2_0
  have k2_1 : PySem.W.kitOne K (.ref C_InvalidWorld) (.ref C_InvalidPlan) = some false := kit_ref ic_InvalidPlan ty_InvalidPlan su_k2_1 nq_k2_1
  have k2_3 : PySem.W.kitOne K (.ref C_InvalidWorld) (.ref C_InvalidCrowd) = some false := kit_ref ic_InvalidCrowd ty_InvalidCrowd su_k2_3 nq_k2_3
  have k2_4 : PySem.W.kitOne K (.ref C_InvalidWorld) (.ref C_InvalidText) = some false := kit_ref ic_InvalidText ty_InvalidText su_k2_4 nq_k2_4
  have k2_5 : PySem.W.kitOne K (.ref C_InvalidWorld) (.ref C_InvalidEvent) = some false := kit_ref ic_InvalidEvent ty_InvalidEvent su_k2_5 nq_k2_5
  have k2_6 : PySem.W.kitOne K (.ref C_InvalidWorld) (.ref C_Refused) = some false := kit_ref ic_Refused ty_Refused su_k2_6 nq_k2_6
  have k2_7 : PySem.W.kitOne K (.ref C_InvalidWorld) (.ref C_NoRule) = some false := kit_ref ic_NoRule ty_NoRule su_k2_7 nq_k2_7
  have k2_8 : PySem.W.kitOne K (.ref C_InvalidWorld) (.ref C_InvalidGoal) = some false := kit_ref ic_InvalidGoal ty_InvalidGoal su_k2_8 nq_k2_8
  have k2_9 : PySem.W.kitOne K (.ref C_InvalidWorld) (.ref C_InvalidCommand) = some false := kit_ref ic_InvalidCommand ty_InvalidCommand su_k2_9 nq_k2_9
  have kn2 : PySem.W.kitOne K (.ref C_InvalidWorld) (.ref C_NightError) = some true := kit_ref ic_NightError ty_NightError su_kn2 nq_kn2
  have k3_0 : PySem.W.kitOne K (.ref C_InvalidCrowd) (.ref C_InvalidRule) = some false := kit_ref ic_InvalidRule ty_InvalidRule su_k3_0 nq_k3_0
  have k3_1 : PySem.W.kitOne K (.ref C_InvalidCrowd) (.ref C_InvalidPlan) = some false := kit_ref ic_InvalidPlan ty_InvalidPlan su_k3_1 nq_k3_1
  have k3_2 : PySem.W.kitOne K (.ref C_InvalidCrowd) (.ref C_InvalidWorld) = some false := kit_ref ic_InvalidWorld ty_InvalidWorld su_k3_2 nq_k3_2
  have k3_4 : PySem.W.kitOne K (.ref C_InvalidCrowd) (.ref C_InvalidText) = some false := kit_ref ic_InvalidText ty_InvalidText su_k3_4 nq_k3_4
  have k3_5 : PySem.W.kitOne K (.ref C_InvalidCrowd) (.ref C_InvalidEvent) = some false := kit_ref ic_InvalidEvent ty_InvalidEvent su_k3_5 nq_k3_5
  have k3_6 : PySem.W.kitOne K (.ref C_InvalidCrowd) (.ref C_Refused) = some false := kit_ref ic_Refused ty_Refused su_k3_6 nq_k3_6
  have k3_7 : PySem.W.kitOne K (.ref C_InvalidCrowd) (.ref C_NoRule) = some false := kit_ref ic_NoRule ty_NoRule su_k3_7 nq_k3_7
  have k3_8 : PySem.W.kitOne K (.ref C_InvalidCrowd) (.ref C_InvalidGoal) = some false := kit_ref ic_InvalidGoal ty_InvalidGoal su_k3_8 nq_k3_8
  have k3_9 : PySem.W.kitOne K (.ref C_InvalidCrowd) (.ref C_InvalidCommand) = some false := kit_ref ic_InvalidCommand ty_InvalidCommand su_k3_9 nq_k3_9
  have kn3 : PySem.W.kitOne K (.ref C_InvalidCrowd) (.ref C_NightError) = some true := kit_ref ic_NightError ty_NightError su_kn3 nq_kn3
  have k4_0 : PySem.W.kitOne K (.ref C_InvalidText) (.ref C_InvalidRule) = some false := kit_ref ic_InvalidRule ty_InvalidRule su_k4_0 nq_k4_0
  have k4_1 : PySem.W.kitOne K (.ref C_InvalidText) (.ref C_InvalidPlan) = some false := kit_ref ic_InvalidPlan ty_InvalidPlan su_k4_1 nq_k4_1
  have k4_2 : PySem.W.kitOne K (.ref C_InvalidText) (.ref C_InvalidWorld) = some false := kit_ref ic_InvalidWorld ty_InvalidWorld su_k4_2 nq_k4_2
  have k4_3 : PySem.W.kitOne K (.ref C_InvalidText) (.ref C_InvalidCrowd) = some false := kit_ref ic_InvalidCrowd ty_InvalidCrowd su_k4_3 nq_k4_3
  have k4_5 : PySem.W.kitOne K (.ref C_InvalidText) (.ref C_InvalidEvent) = some false := kit_ref ic_InvalidEvent ty_InvalidEvent su_k4_5 nq_k4_5
  have k4_6 : PySem.W.kitOne K (.ref C_InvalidText) (.ref C_Refused) = some false := kit_ref ic_Refused ty_Refused su_k4_6 nq_k4_6
  have k4_7 : PySem.W.kitOne K (.ref C_InvalidText) (.ref C_NoRule) = some false := kit_ref ic_NoRule ty_NoRule su_k4_7 nq_k4_7
  have k4_8 : PySem.W.kitOne K (.ref C_InvalidText) (.ref C_InvalidGoal) = some false := kit_ref ic_InvalidGoal ty_InvalidGoal su_k4_8 nq_k4_8
  have k4_9 : PySem.W.kitOne K (.ref C_InvalidText) (.ref C_InvalidCommand) = some false := kit_ref ic_InvalidCommand ty_InvalidCommand su_k4_9 nq_k4_9
  have kn4 : PySem.W.kitOne K (.ref C_InvalidText) (.ref C_NightError) = some true := kit_ref ic_NightError ty_NightError su_kn4 nq_kn4
  have k5_0 : PySem.W.kitOne K (.ref C_InvalidEvent) (.ref C_InvalidRule) = some false := kit_ref ic_InvalidRule ty_InvalidRule su_k5_0 nq_k5_0
  have k5_1 : PySem.W.kitOne K (.ref C_InvalidEvent) (.ref C_InvalidPlan) = some false := kit_ref ic_InvalidPlan ty_InvalidPlan su_k5_1 nq_k5_1
  have k5_2 : PySem.W.kitOne K (.ref C_InvalidEvent) (.ref C_InvalidWorld) = some false := kit_ref ic_InvalidWorld ty_InvalidWorld su_k5_2 nq_k5_2
  have k5_3 : PySem.W.kitOne K (.ref C_InvalidEvent) (.ref C_InvalidCrowd) = some false := kit_ref ic_InvalidCrowd ty_InvalidCrowd su_k5_3 nq_k5_3
  have k5_4 : PySem.W.kitOne K (.ref C_InvalidEvent) (.ref C_InvalidText) = some false := kit_ref ic_InvalidText ty_InvalidText su_k5_4 nq_k5_4
  have k5_6 : PySem.W.kitOne K (.ref C_InvalidEvent) (.ref C_Refused) = some false := kit_ref ic_Refused ty_Refused su_k5_6 nq_k5_6
  have k5_7 : PySem.W.kitOne K (.ref C_InvalidEvent) (.ref C_NoRule) = some false := kit_ref ic_NoRule ty_NoRule su_k5_7 nq_k5_7
  have k5_8 : PySem.W.kitOne K (.ref C_InvalidEvent) (.ref C_InvalidGoal) = some false := kit_ref ic_InvalidGoal ty_InvalidGoal su_k5_8 nq_k5_8
  have k5_9 : PySem.W.kitOne K (.ref C_InvalidEvent) (.ref C_InvalidCommand) = some false := kit_ref ic_InvalidCommand ty_InvalidCommand su_k5_9 nq_k5_9
  have kn5 : PySem.W.kitOne K (.ref C_InvalidEvent) (.ref C_NightError) = some true := kit_ref ic_NightError ty_NightError su_kn5 nq_kn5
  have k6_0 : PySem.W.kitOne K (.ref C_Refused) (.ref C_InvalidRule) = some false := kit_ref ic_InvalidRule ty_InvalidRule su_k6_0 nq_k6_0
  have k6_1 : PySem.W.kitOne K (.ref C_Refused) (.ref C_InvalidPlan) = some false := kit_ref ic_InvalidPlan ty_InvalidPlan su_k6_1 nq_k6_1
  have k6_2 : PySem.W.kitOne K (.ref C_Refused) (.ref C_InvalidWorld) = some false := kit_ref ic_InvalidWorld ty_InvalidWorld su_k6_2 nq_k6_2
  have k6_3 : PySem.W.kitOne K (.ref C_Refused) (.ref C_InvalidCrowd) = some false := kit_ref ic_InvalidCrowd ty_InvalidCrowd su_k6_3 nq_k6_3
  have k6_4 : PySem.W.kitOne K (.ref C_Refused) (.ref C_InvalidText) = some false := kit_ref ic_InvalidText ty_InvalidText su_k6_4 nq_k6_4
  have k6_5 : PySem.W.kitOne K (.ref C_Refused) (.ref C_InvalidEvent) = some false := kit_ref ic_InvalidEvent ty_InvalidEvent su_k6_5 nq_k6_5
  have k6_7 : PySem.W.kitOne K (.ref C_Refused) (.ref C_NoRule) = some false := kit_ref ic_NoRule ty_NoRule su_k6_7 nq_k6_7
  have k6_8 : PySem.W.kitOne K (.ref C_Refused) (.ref C_InvalidGoal) = some false := kit_ref ic_InvalidGoal ty_InvalidGoal su_k6_8 nq_k6_8
  have k6_9 : PySem.W.kitOne K (.ref C_Refused) (.ref C_InvalidCommand) = some false := kit_ref ic_InvalidCommand ty_InvalidCommand su_k6_9 nq_k6_9
  have kn6 : PySem.W.kitOne K (.ref C_Refused) (.ref C_NightError) = some true := kit_ref ic_NightError ty_NightError su_kn6 nq_kn6
  have k7_0 : PySem.W.kitOne K (.ref C_NoRule) (.ref C_InvalidRule) = some false := kit_ref ic_InvalidRule ty_InvalidRule su_k7_0 nq_k7_0
  have k7_1 : PySem.W.kitOne K (.ref C_NoRule) (.ref C_InvalidPlan) = some false := kit_ref ic_InvalidPlan ty_InvalidPlan su_k7_1 nq_k7_1
  have k7_2 : PySem.W.kitOne K (.ref C_NoRule) (.ref C_InvalidWorld) = some false := kit_ref ic_InvalidWorld ty_InvalidWorld su_k7_2 nq_k7_2
  have k7_3 : PySem.W.kitOne K (.ref C_NoRule) (.ref C_InvalidCrowd) = some false := kit_ref ic_InvalidCrowd ty_InvalidCrowd su_k7_3 nq_k7_3
  have k7_4 : PySem.W.kitOne K (.ref C_NoRule) (.ref C_InvalidText) = some false := kit_ref ic_InvalidText ty_InvalidText su_k7_4 nq_k7_4
  have k7_5 : PySem.W.kitOne K (.ref C_NoRule) (.ref C_InvalidEvent) = some false := kit_ref ic_InvalidEvent ty_InvalidEvent su_k7_5 nq_k7_5
  have k7_6 : PySem.W.kitOne K (.ref C_NoRule) (.ref C_Refused) = some false := kit_ref ic_Refused ty_Refused su_k7_6 nq_k7_6
  have k7_8 : PySem.W.kitOne K (.ref C_NoRule) (.ref C_InvalidGoal) = some false := kit_ref ic_InvalidGoal ty_InvalidGoal su_k7_8 nq_k7_8
  have k7_9 : PySem.W.kitOne K (.ref C_NoRule) (.ref C_InvalidCommand) = some false := kit_ref ic_InvalidCommand ty_InvalidCommand su_k7_9 nq_k7_9
  have kn7 : PySem.W.kitOne K (.ref C_NoRule) (.ref C_NightError) = some false := kit_ref ic_NightError ty_NightError su_kn7 nq_kn7
  have k8_0 : PySem.W.kitOne K (.ref C_InvalidGoal) (.ref C_InvalidRule) = some false := kit_ref ic_InvalidRule ty_InvalidRule su_k8_0 nq_k8_0
  have k8_1 : PySem.W.kitOne K (.ref C_InvalidGoal) (.ref C_InvalidPlan) = some false := kit_ref ic_InvalidPlan ty_InvalidPlan su_k8_1 nq_k8_1
  have k8_2 : PySem.W.kitOne K (.ref C_InvalidGoal) (.ref C_InvalidWorld) = some false := kit_ref ic_InvalidWorld ty_InvalidWorld su_k8_2 nq_k8_2
  have k8_3 : PySem.W.kitOne K (.ref C_InvalidGoal) (.ref C_InvalidCrowd) = some false := kit_ref ic_InvalidCrowd ty_InvalidCrowd su_k8_3 nq_k8_3
  have k8_4 : PySem.W.kitOne K (.ref C_InvalidGoal) (.ref C_InvalidText) = some false := kit_ref ic_InvalidText ty_InvalidText su_k8_4 nq_k8_4
  have k8_5 : PySem.W.kitOne K (.ref C_InvalidGoal) (.ref C_InvalidEvent) = some false := kit_ref ic_InvalidEvent ty_InvalidEvent su_k8_5 nq_k8_5
  have k8_6 : PySem.W.kitOne K (.ref C_InvalidGoal) (.ref C_Refused) = some false := kit_ref ic_Refused ty_Refused su_k8_6 nq_k8_6
  have k8_7 : PySem.W.kitOne K (.ref C_InvalidGoal) (.ref C_NoRule) = some false := kit_ref ic_NoRule ty_NoRule su_k8_7 nq_k8_7
  have k8_9 : PySem.W.kitOne K (.ref C_InvalidGoal) (.ref C_InvalidCommand) = some false := kit_ref ic_InvalidCommand ty_InvalidCommand su_k8_9 nq_k8_9
  have kn8 : PySem.W.kitOne K (.ref C_InvalidGoal) (.ref C_NightError) = some true := kit_ref ic_NightError ty_NightError su_kn8 nq_kn8
  have k9_0 : PySem.W.kitOne K (.ref C_InvalidCommand) (.ref C_InvalidRule) = some false := kit_ref ic_InvalidRule ty_InvalidRule su_k9_0 nq_k9_0
  have k9_1 : PySem.W.kitOne K (.ref C_InvalidCommand) (.ref C_InvalidPlan) = some false := kit_ref ic_InvalidPlan ty_InvalidPlan su_k9_1 nq_k9_1
  have k9_2 : PySem.W.kitOne K (.ref C_InvalidCommand) (.ref C_InvalidWorld) = some false := kit_ref ic_InvalidWorld ty_InvalidWorld su_k9_2 nq_k9_2
  have k9_3 : PySem.W.kitOne K (.ref C_InvalidCommand) (.ref C_InvalidCrowd) = some false := kit_ref ic_InvalidCrowd ty_InvalidCrowd su_k9_3 nq_k9_3
  have k9_4 : PySem.W.kitOne K (.ref C_InvalidCommand) (.ref C_InvalidText) = some false := kit_ref ic_InvalidText ty_InvalidText su_k9_4 nq_k9_4
  have k9_5 : PySem.W.kitOne K (.ref C_InvalidCommand) (.ref C_InvalidEvent) = some false := kit_ref ic_InvalidEvent ty_InvalidEvent su_k9_5 nq_k9_5
  have k9_6 : PySem.W.kitOne K (.ref C_InvalidCommand) (.ref C_Refused) = some false := kit_ref ic_Refused ty_Refused su_k9_6 nq_k9_6
  have k9_7 : PySem.W.kitOne K (.ref C_InvalidCommand) (.ref C_NoRule) = some false := kit_ref ic_NoRule ty_NoRule su_k9_7 nq_k9_7
  have k9_8 : PySem.W.kitOne K (.ref C_InvalidCommand) (.ref C_InvalidGoal) = some false := kit_ref ic_InvalidGoal ty_InvalidGoal su_k9_8 nq_k9_8
  have kn9 : PySem.W.kitOne K (.ref C_InvalidCommand) (.ref C_NightError) = some true := kit_ref ic_NightError ty_NightError su_kn9 nq_kn9
  have e0 := hfa.symm.trans (PySem.W.mg_of X G a_law)
  cases e0
  refine ⟨_, fun s u => F_law.bindsA (ps := ["_law_script"]) (fun _ _ _ _ _ _ us hl => match us, hl with | [_], _ => rfl) s [u] rfl, fun base _ _ => ?_⟩
  have D : TD mg := ⟨z_int, z_len, z_abs⟩
  have G_l_feed : GF P w K mg base "_law_feed" 1 2 spFeed := ⟨_, _, _, m_l_feed, ok_feed D F_l_feed, kb_all (F_l_feed.bindsN fun _ _ _ _ _ _ us hl => match us, hl with | [_, _], _ => rfl) rfl⟩
  have G_l_take : GF P w K mg base "_law_take" 1 2 spTake := ⟨_, _, _, m_l_take, ok_take D F_l_take, kb_all (F_l_take.bindsN fun _ _ _ _ _ _ us hl => match us, hl with | [_, _], _ => rfl) rfl⟩
  have G_l_pick : GF P w K mg base "_law_pick" 2 2 spPick := ⟨_, _, _, m_l_pick, ok_pick D G_l_take F_l_pick, kb_all (F_l_pick.bindsN fun _ _ _ _ _ _ us hl => match us, hl with | [_, _], _ => rfl) rfl⟩
  have A_InvalidRule : ErA P w K mg base "InvalidRule" C_InvalidRule "word" := ⟨_, _, oexA oex_InvalidRule, in_InvalidRule, tf_InvalidRule, er_fn erk_InvalidRule eb_InvalidRule esc_InvalidRule z_super hsup, bd_InvalidRule, kd_InvalidRule, g_InvalidRule⟩
  have A_InvalidPlan : ErA P w K mg base "InvalidPlan" C_InvalidPlan "word" := ⟨_, _, oexA oex_InvalidPlan, in_InvalidPlan, tf_InvalidPlan, er_fn erk_InvalidPlan eb_InvalidPlan esc_InvalidPlan z_super hsup, bd_InvalidPlan, kd_InvalidPlan, g_InvalidPlan⟩
  have A_InvalidWorld : ErA P w K mg base "InvalidWorld" C_InvalidWorld "word" := ⟨_, _, oexA oex_InvalidWorld, in_InvalidWorld, tf_InvalidWorld, er_fn erk_InvalidWorld eb_InvalidWorld esc_InvalidWorld z_super hsup, bd_InvalidWorld, kd_InvalidWorld, g_InvalidWorld⟩
  have A_InvalidCrowd : ErA P w K mg base "InvalidCrowd" C_InvalidCrowd "word" := ⟨_, _, oexA oex_InvalidCrowd, in_InvalidCrowd, tf_InvalidCrowd, er_fn erk_InvalidCrowd eb_InvalidCrowd esc_InvalidCrowd z_super hsup, bd_InvalidCrowd, kd_InvalidCrowd, g_InvalidCrowd⟩
  have A_InvalidText : ErA P w K mg base "InvalidText" C_InvalidText "at" := ⟨_, _, oexA oex_InvalidText, in_InvalidText, tf_InvalidText, er_fn erk_InvalidText eb_InvalidText esc_InvalidText z_super hsup, bd_InvalidText, kd_InvalidText, g_InvalidText⟩
  have A_InvalidEvent : ErA P w K mg base "InvalidEvent" C_InvalidEvent "at" := ⟨_, _, oexA oex_InvalidEvent, in_InvalidEvent, tf_InvalidEvent, er_fn erk_InvalidEvent eb_InvalidEvent esc_InvalidEvent z_super hsup, bd_InvalidEvent, kd_InvalidEvent, g_InvalidEvent⟩
  have A_Refused : ErA P w K mg base "Refused" C_Refused "at" := ⟨_, _, oexA oex_Refused, in_Refused, tf_Refused, er_fn erk_Refused eb_Refused esc_Refused z_super hsup, bd_Refused, kd_Refused, g_Refused⟩
  have A_NoRule : ErA P w K mg base "NoRule" C_NoRule "at" := ⟨_, _, oexI oex_NoRule, in_NoRule, tf_NoRule, er_fnI erk_NoRule eb_NoRule esc_NoRule z_super hsup, bd_NoRule, kd_NoRule, g_NoRule⟩
  have G_l_made : GF P w K mg base "_law_made" 3 1 (spMade [C_InvalidRule, C_InvalidPlan, C_InvalidWorld, C_InvalidCrowd, C_InvalidText, C_InvalidEvent, C_Refused, C_NoRule, C_InvalidGoal, C_InvalidCommand]) := ⟨_, _, _, m_l_made, ok_l_made A_InvalidRule A_InvalidPlan A_InvalidWorld A_InvalidCrowd A_InvalidText A_InvalidEvent A_Refused A_NoRule F_l_made, kb_all (F_l_made.bindsN fun _ _ _ _ _ _ us hl => match us, hl with | [_], _ => rfl) rfl⟩
  have G_l_by_name : GF P w K mg base "_law_by_name" 3 1 (spMade [C_InvalidRule, C_InvalidPlan, C_InvalidWorld, C_InvalidCrowd, C_InvalidText, C_InvalidEvent, C_Refused, C_NoRule, C_InvalidGoal, C_InvalidCommand]) := ⟨_, _, _, m_l_by_name, ok_l_by_name A_InvalidRule A_InvalidPlan A_InvalidWorld A_InvalidCrowd A_InvalidText A_InvalidEvent A_Refused A_NoRule F_l_by_name, kb_all (F_l_by_name.bindsN fun _ _ _ _ _ _ us hl => match us, hl with | [_], _ => rfl) rfl⟩
  have Ts : ∀ (i j : Nat) (C D : Addr), [C_InvalidRule, C_InvalidPlan, C_InvalidWorld, C_InvalidCrowd, C_InvalidText, C_InvalidEvent, C_Refused, C_NoRule, C_InvalidGoal, C_InvalidCommand][i]? = some C → [C_InvalidRule, C_InvalidPlan, C_InvalidWorld, C_InvalidCrowd, C_InvalidText, C_InvalidEvent, C_Refused, C_NoRule, C_InvalidGoal, C_InvalidCommand][j]? = some D → PySem.W.kitOne K (.ref C) (.ref D) = some (decide (j = i)) := fun i j C D h1 h2 => by
    match i, j, h1, h2 with
    | 0, 0, rfl, rfl => exact kit_self
    | 0, 1, rfl, rfl => exact k0_1
    | 0, 2, rfl, rfl => exact k0_2
    | 0, 3, rfl, rfl => exact k0_3
    | 0, 4, rfl, rfl => exact k0_4
    | 0, 5, rfl, rfl => exact k0_5
    | 0, 6, rfl, rfl => exact k0_6
    | 0, 7, rfl, rfl => exact k0_7
    | 0, 8, rfl, rfl => exact k0_8
    | 0, 9, rfl, rfl => exact k0_9
    | 0, n + 10, _, h => cases h
    | 1, 0, rfl, rfl => exact k1_0
    | 1, 1, rfl, rfl => exact kit_self
    | 1, 2, rfl, rfl => exact k1_2
    | 1, 3, rfl, rfl => exact k1_3
    | 1, 4, rfl, rfl => exact k1_4
    | 1, 5, rfl, rfl => exact k1_5
    | 1, 6, rfl, rfl => exact k1_6
    | 1, 7, rfl, rfl => exact k1_7
    | 1, 8, rfl, rfl => exact k1_8
    | 1, 9, rfl, rfl => exact k1_9
    | 1, n + 10, _, h => cases h
    | 2, 0, rfl, rfl => exact k2_0
    | 2, 1, rfl, rfl => exact k2_1
    | 2, 2, rfl, rfl => exact kit_self
    | 2, 3, rfl, rfl => exact k2_3
    | 2, 4, rfl, rfl => exact k2_4
    | 2, 5, rfl, rfl => exact k2_5
    | 2, 6, rfl, rfl => exact k2_6
    | 2, 7, rfl, rfl => exact k2_7
    | 2, 8, rfl, rfl => exact k2_8
    | 2, 9, rfl, rfl => exact k2_9
    | 2, n + 10, _, h => cases h
    | 3, 0, rfl, rfl => exact k3_0
    | 3, 1, rfl, rfl => exact k3_1
    | 3, 2, rfl, rfl => exact k3_2
    | 3, 3, rfl, rfl => exact kit_self
    | 3, 4, rfl, rfl => exact k3_4
    | 3, 5, rfl, rfl => exact k3_5
    | 3, 6, rfl, rfl => exact k3_6
    | 3, 7, rfl, rfl => exact k3_7
    | 3, 8, rfl, rfl => exact k3_8
    | 3, 9, rfl, rfl => exact k3_9
    | 3, n + 10, _, h => cases h
    | 4, 0, rfl, rfl => exact k4_0
    | 4, 1, rfl, rfl => exact k4_1
    | 4, 2, rfl, rfl => exact k4_2
    | 4, 3, rfl, rfl => exact k4_3
    | 4, 4, rfl, rfl => exact kit_self
    | 4, 5, rfl, rfl => exact k4_5
    | 4, 6, rfl, rfl => exact k4_6
    | 4, 7, rfl, rfl => exact k4_7
    | 4, 8, rfl, rfl => exact k4_8
    | 4, 9, rfl, rfl => exact k4_9
    | 4, n + 10, _, h => cases h
    | 5, 0, rfl, rfl => exact k5_0
    | 5, 1, rfl, rfl => exact k5_1
    | 5, 2, rfl, rfl => exact k5_2
    | 5, 3, rfl, rfl => exact k5_3
    | 5, 4, rfl, rfl => exact k5_4
    | 5, 5, rfl, rfl => exact kit_self
    | 5, 6, rfl, rfl => exact k5_6
    | 5, 7, rfl, rfl => exact k5_7
    | 5, 8, rfl, rfl => exact k5_8
    | 5, 9, rfl, rfl => exact k5_9
    | 5, n + 10, _, h => cases h
    | 6, 0, rfl, rfl => exact k6_0
    | 6, 1, rfl, rfl => exact k6_1
    | 6, 2, rfl, rfl => exact k6_2
    | 6, 3, rfl, rfl => exact k6_3
    | 6, 4, rfl, rfl => exact k6_4
    | 6, 5, rfl, rfl => exact k6_5
    | 6, 6, rfl, rfl => exact kit_self
    | 6, 7, rfl, rfl => exact k6_7
    | 6, 8, rfl, rfl => exact k6_8
    | 6, 9, rfl, rfl => exact k6_9
    | 6, n + 10, _, h => cases h
    | 7, 0, rfl, rfl => exact k7_0
    | 7, 1, rfl, rfl => exact k7_1
    | 7, 2, rfl, rfl => exact k7_2
    | 7, 3, rfl, rfl => exact k7_3
    | 7, 4, rfl, rfl => exact k7_4
    | 7, 5, rfl, rfl => exact k7_5
    | 7, 6, rfl, rfl => exact k7_6
    | 7, 7, rfl, rfl => exact kit_self
    | 7, 8, rfl, rfl => exact k7_8
    | 7, 9, rfl, rfl => exact k7_9
    | 7, n + 10, _, h => cases h
    | 8, 0, rfl, rfl => exact k8_0
    | 8, 1, rfl, rfl => exact k8_1
    | 8, 2, rfl, rfl => exact k8_2
    | 8, 3, rfl, rfl => exact k8_3
    | 8, 4, rfl, rfl => exact k8_4
    | 8, 5, rfl, rfl => exact k8_5
    | 8, 6, rfl, rfl => exact k8_6
    | 8, 7, rfl, rfl => exact k8_7
    | 8, 8, rfl, rfl => exact kit_self
    | 8, 9, rfl, rfl => exact k8_9
    | 8, n + 10, _, h => cases h
    | 9, 0, rfl, rfl => exact k9_0
    | 9, 1, rfl, rfl => exact k9_1
    | 9, 2, rfl, rfl => exact k9_2
    | 9, 3, rfl, rfl => exact k9_3
    | 9, 4, rfl, rfl => exact k9_4
    | 9, 5, rfl, rfl => exact k9_5
    | 9, 6, rfl, rfl => exact k9_6
    | 9, 7, rfl, rfl => exact k9_7
    | 9, 8, rfl, rfl => exact k9_8
    | 9, 9, rfl, rfl => exact kit_self
    | 9, n + 10, _, h => cases h
    | n + 10, _, h, _ => cases h
  have Tn : ∀ (i : Nat) (C : Addr), [C_InvalidRule, C_InvalidPlan, C_InvalidWorld, C_InvalidCrowd, C_InvalidText, C_InvalidEvent, C_Refused, C_NoRule, C_InvalidGoal, C_InvalidCommand][i]? = some C → PySem.W.kitOne K (.ref C) (.ref C_NightError) = some (!decide (i = 7)) := fun i C h => by
    match i, h with
    | 0, rfl => exact kn0
    | 1, rfl => exact kn1
    | 2, rfl => exact kn2
    | 3, rfl => exact kn3
    | 4, rfl => exact kn4
    | 5, rfl => exact kn5
    | 6, rfl => exact kn6
    | 7, rfl => exact kn7
    | 8, rfl => exact kn8
    | 9, rfl => exact kn9
    | n + 10, h => cases h
  have Tv : ∀ (i : Nat) (C : Addr), [C_InvalidRule, C_InvalidPlan, C_InvalidWorld, C_InvalidCrowd, C_InvalidText, C_InvalidEvent, C_Refused, C_NoRule, C_InvalidGoal, C_InvalidCommand][i]? = some C → PySem.W.kitOne K (.ref C) (.type "ValueError") = some (!decide (i = 7)) := fun i C h => by
    match i, h with
    | 0, rfl => exact kit_rty kv0
    | 1, rfl => exact kit_rty kv1
    | 2, rfl => exact kit_rty kv2
    | 3, rfl => exact kit_rty kv3
    | 4, rfl => exact kit_rty kv4
    | 5, rfl => exact kit_rty kv5
    | 6, rfl => exact kit_rty kv6
    | 7, rfl => exact kit_rty kv7
    | 8, rfl => exact kit_rty kv8
    | 9, rfl => exact kit_rty kv9
    | n + 10, h => cases h
  have Tx : ∀ (i : Nat) (C : Addr), [C_InvalidRule, C_InvalidPlan, C_InvalidWorld, C_InvalidCrowd, C_InvalidText, C_InvalidEvent, C_Refused, C_NoRule, C_InvalidGoal, C_InvalidCommand][i]? = some C → PySem.W.kitOne K (.ref C) (.type "IndexError") = some (decide (i = 7)) := fun i C h => by
    match i, h with
    | 0, rfl => exact kit_rty kx0
    | 1, rfl => exact kit_rty kx1
    | 2, rfl => exact kit_rty kx2
    | 3, rfl => exact kit_rty kx3
    | 4, rfl => exact kit_rty kx4
    | 5, rfl => exact kit_rty kx5
    | 6, rfl => exact kit_rty kx6
    | 7, rfl => exact kit_rty kx7
    | 8, rfl => exact kit_rty kx8
    | 9, rfl => exact kit_rty kx9
    | n + 10, h => cases h
  have Te : ∀ (i : Nat) (C : Addr), [C_InvalidRule, C_InvalidPlan, C_InvalidWorld, C_InvalidCrowd, C_InvalidText, C_InvalidEvent, C_Refused, C_NoRule, C_InvalidGoal, C_InvalidCommand][i]? = some C → ExcC K C := fun i C h => by
    match i, h with
    | 0, rfl => exact exc_InvalidRule
    | 1, rfl => exact exc_InvalidPlan
    | 2, rfl => exact exc_InvalidWorld
    | 3, rfl => exact exc_InvalidCrowd
    | 4, rfl => exact exc_InvalidText
    | 5, rfl => exact exc_InvalidEvent
    | 6, rfl => exact exc_Refused
    | 7, rfl => exact exc_NoRule
    | 8, rfl => exact exc_InvalidGoal
    | 9, rfl => exact exc_InvalidCommand
    | n + 10, h => cases h
  have Tf : ∀ (i : Nat) (C : Addr), [C_InvalidRule, C_InvalidPlan, C_InvalidWorld, C_InvalidCrowd, C_InvalidText, C_InvalidEvent, C_Refused, C_NoRule, C_InvalidGoal, C_InvalidCommand][i]? = some C → i < 8 → XfC K C ∧ PySem.W.findIn K (.ref C) (fl8 i) = some none := fun i C h h8 => by
    match i, h, h8 with
    | 0, rfl, _ => exact ⟨xf_InvalidRule, fno_InvalidRule⟩
    | 1, rfl, _ => exact ⟨xf_InvalidPlan, fno_InvalidPlan⟩
    | 2, rfl, _ => exact ⟨xf_InvalidWorld, fno_InvalidWorld⟩
    | 3, rfl, _ => exact ⟨xf_InvalidCrowd, fno_InvalidCrowd⟩
    | 4, rfl, _ => exact ⟨xf_InvalidText, fno_InvalidText⟩
    | 5, rfl, _ => exact ⟨xf_InvalidEvent, fno_InvalidEvent⟩
    | 6, rfl, _ => exact ⟨xf_Refused, fno_Refused⟩
    | 7, rfl, _ => exact ⟨xf_NoRule, fno_NoRule⟩
    | n + 8, _, h => omega
  have T : KT1 K [C_InvalidRule, C_InvalidPlan, C_InvalidWorld, C_InvalidCrowd, C_InvalidText, C_InvalidEvent, C_Refused, C_NoRule, C_InvalidGoal, C_InvalidCommand] C_NightError := ⟨Ts, Tn, Tv, Tx, Te, Tf⟩
  have G_l_sorts : GF P w K mg base "_law_sorts" 2 1 (spSorts [C_InvalidRule, C_InvalidPlan, C_InvalidWorld, C_InvalidCrowd, C_InvalidText, C_InvalidEvent, C_Refused, C_NoRule, C_InvalidGoal, C_InvalidCommand]) := ⟨_, _, _, m_l_sorts, ok_l_sorts z_isinstance g_InvalidRule g_InvalidPlan g_InvalidWorld g_InvalidCrowd g_InvalidText g_InvalidEvent g_Refused g_NoRule g_InvalidGoal g_InvalidCommand T F_l_sorts, kb_all (F_l_sorts.bindsN fun _ _ _ _ _ _ us hl => match us, hl with | [_], _ => rfl) rfl⟩
  have G_l_held : GF P w K mg base "_law_held" 1 1 (spHeldL [C_InvalidRule, C_InvalidPlan, C_InvalidWorld, C_InvalidCrowd, C_InvalidText, C_InvalidEvent, C_Refused, C_NoRule, C_InvalidGoal, C_InvalidCommand]) := ⟨_, _, _, m_l_held, ok_l_held T F_l_held, kb_all (F_l_held.bindsN fun _ _ _ _ _ _ us hl => match us, hl with | [_], _ => rfl) rfl⟩
  exact (ok_law ⟨T, G_l_feed, G_l_pick, G_l_made, G_l_by_name, G_l_sorts, G_l_held, g_NightError, z_range, z_max, z_min, z_len, z_zip, z_repr, z_enumerate, z_isinstance, z_ValueError, z_IndexError⟩ ⟨ex0_InvalidGoal, g_InvalidGoal⟩ ⟨ex0_InvalidCommand, g_InvalidCommand⟩ F_law).ok

end K01
open PySem PySem.W PyProof.Rows
set_option maxRecDepth 100000 in
set_option maxHeartbeats 0 in
theorem PySem.Challenge.cw_nightmark_k01_errors_and_what_they_keep_holds : PySem.Challenge.rw_nightmark_k01_errors_and_what_they_keep.Holds := by
  w_on; o_law; k_head; (case hw => w_witness2)
  k_fill
  refine NM.walkG (l := PySem.Challenge.rw_nightmark_k01_errors_and_what_they_keep) (n := 63) (k := 5) (x := "_law_script") rfl (by decide) rfl ⟨⟨rfl, by decide, by decide⟩, rfl⟩ (fun w h Y => PySem.W.kIn_of Y) ?F
  case F =>
    intro w mg fa h KX G hmg
    refine' K01.all_mk KX G hmg ?a_l_feed ?l_l_feed ?c_l_feed ?k_l_feed ?a_l_take ?l_l_take ?c_l_take ?k_l_take ?a_l_pick ?l_l_pick ?c_l_pick ?k_l_pick ?a_l_made ?l_l_made ?c_l_made ?k_l_made ?a_l_by_name ?l_l_by_name ?c_l_by_name ?k_l_by_name ?a_l_sorts ?l_l_sorts ?c_l_sorts ?k_l_sorts ?a_l_held ?l_l_held ?c_l_held ?k_l_held ?a_law ?l_law ?c_law ?k_law ?hsup ?opq ?zz_super ?hnI ?htI ?a_InvalidRule ?ic_InvalidRule ?ty_InvalidRule ?lk_InvalidRule ?re_InvalidRule ?sa_InvalidRule ?ex_InvalidRule ?kc_InvalidRule ?in_InvalidRule ?fl_InvalidRule ?fc_InvalidRule ?co_InvalidRule ?fv_InvalidRule ?ff_InvalidRule ?ce_InvalidRule ?tf_InvalidRule ?ks_InvalidRule ?sb_InvalidRule ?mr_InvalidRule ?fno_InvalidRule ?ga_InvalidRule ?gg_InvalidRule ?hd_InvalidRule ?ha_InvalidRule ?mo_InvalidRule ?ss_InvalidRule ?a_InvalidPlan ?ic_InvalidPlan ?ty_InvalidPlan ?lk_InvalidPlan ?re_InvalidPlan ?sa_InvalidPlan ?ex_InvalidPlan ?kc_InvalidPlan ?in_InvalidPlan ?fl_InvalidPlan ?fc_InvalidPlan ?co_InvalidPlan ?fv_InvalidPlan ?ff_InvalidPlan ?ce_InvalidPlan ?tf_InvalidPlan ?ks_InvalidPlan ?sb_InvalidPlan ?mr_InvalidPlan ?fno_InvalidPlan ?ga_InvalidPlan ?gg_InvalidPlan ?hd_InvalidPlan ?ha_InvalidPlan ?mo_InvalidPlan ?ss_InvalidPlan ?a_InvalidWorld ?ic_InvalidWorld ?ty_InvalidWorld ?lk_InvalidWorld ?re_InvalidWorld ?sa_InvalidWorld ?ex_InvalidWorld ?kc_InvalidWorld ?in_InvalidWorld ?fl_InvalidWorld ?fc_InvalidWorld ?co_InvalidWorld ?fv_InvalidWorld ?ff_InvalidWorld ?ce_InvalidWorld ?tf_InvalidWorld ?ks_InvalidWorld ?sb_InvalidWorld ?mr_InvalidWorld ?fno_InvalidWorld ?ga_InvalidWorld ?gg_InvalidWorld ?hd_InvalidWorld ?ha_InvalidWorld ?mo_InvalidWorld ?ss_InvalidWorld ?a_InvalidCrowd ?ic_InvalidCrowd ?ty_InvalidCrowd ?lk_InvalidCrowd ?re_InvalidCrowd ?sa_InvalidCrowd ?ex_InvalidCrowd ?kc_InvalidCrowd ?in_InvalidCrowd ?fl_InvalidCrowd ?fc_InvalidCrowd ?co_InvalidCrowd ?fv_InvalidCrowd ?ff_InvalidCrowd ?ce_InvalidCrowd ?tf_InvalidCrowd ?ks_InvalidCrowd ?sb_InvalidCrowd ?mr_InvalidCrowd ?fno_InvalidCrowd ?ga_InvalidCrowd ?gg_InvalidCrowd ?hd_InvalidCrowd ?ha_InvalidCrowd ?mo_InvalidCrowd ?ss_InvalidCrowd ?a_InvalidText ?ic_InvalidText ?ty_InvalidText ?lk_InvalidText ?re_InvalidText ?sa_InvalidText ?ex_InvalidText ?kc_InvalidText ?in_InvalidText ?fl_InvalidText ?fc_InvalidText ?co_InvalidText ?fv_InvalidText ?ff_InvalidText ?ce_InvalidText ?tf_InvalidText ?ks_InvalidText ?sb_InvalidText ?mr_InvalidText ?fno_InvalidText ?ga_InvalidText ?gg_InvalidText ?hd_InvalidText ?ha_InvalidText ?mo_InvalidText ?ss_InvalidText ?a_InvalidEvent ?ic_InvalidEvent ?ty_InvalidEvent ?lk_InvalidEvent ?re_InvalidEvent ?sa_InvalidEvent ?ex_InvalidEvent ?kc_InvalidEvent ?in_InvalidEvent ?fl_InvalidEvent ?fc_InvalidEvent ?co_InvalidEvent ?fv_InvalidEvent ?ff_InvalidEvent ?ce_InvalidEvent ?tf_InvalidEvent ?ks_InvalidEvent ?sb_InvalidEvent ?mr_InvalidEvent ?fno_InvalidEvent ?ga_InvalidEvent ?gg_InvalidEvent ?hd_InvalidEvent ?ha_InvalidEvent ?mo_InvalidEvent ?ss_InvalidEvent ?a_Refused ?ic_Refused ?ty_Refused ?lk_Refused ?re_Refused ?sa_Refused ?ex_Refused ?kc_Refused ?in_Refused ?fl_Refused ?fc_Refused ?co_Refused ?fv_Refused ?ff_Refused ?ce_Refused ?tf_Refused ?ks_Refused ?sb_Refused ?mr_Refused ?fno_Refused ?ga_Refused ?gg_Refused ?hd_Refused ?ha_Refused ?mo_Refused ?ss_Refused ?a_NoRule ?ic_NoRule ?ty_NoRule ?lk_NoRule ?re_NoRule ?sa_NoRule ?ex_NoRule ?kc_NoRule ?in_NoRule ?fl_NoRule ?fc_NoRule ?co_NoRule ?fv_NoRule ?ff_NoRule ?ce_NoRule ?tf_NoRule ?ks_NoRule ?sb_NoRule ?mr_NoRule ?fno_NoRule ?ga_NoRule ?gg_NoRule ?hd_NoRule ?ha_NoRule ?mo_NoRule ?ss_NoRule ?a_InvalidGoal ?ic_InvalidGoal ?ty_InvalidGoal ?lk_InvalidGoal ?re_InvalidGoal ?in_InvalidGoal ?kc_InvalidGoal ?ex_InvalidGoal ?ga_InvalidGoal ?gg_InvalidGoal ?hd_InvalidGoal ?ha_InvalidGoal ?mo_InvalidGoal ?a_InvalidCommand ?ic_InvalidCommand ?ty_InvalidCommand ?lk_InvalidCommand ?re_InvalidCommand ?in_InvalidCommand ?kc_InvalidCommand ?ex_InvalidCommand ?ga_InvalidCommand ?gg_InvalidCommand ?hd_InvalidCommand ?ha_InvalidCommand ?mo_InvalidCommand ?a_NightError ?ic_NightError ?ty_NightError ?zz_int ?zz_len ?zz_abs ?zz_isinstance ?zz_range ?zz_max ?zz_min ?zz_zip ?zz_repr ?zz_enumerate ?zz_ValueError ?zz_IndexError ?su_k0_1 ?nq_k0_1 ?su_k0_2 ?nq_k0_2 ?su_k0_3 ?nq_k0_3 ?su_k0_4 ?nq_k0_4 ?su_k0_5 ?nq_k0_5 ?su_k0_6 ?nq_k0_6 ?su_k0_7 ?nq_k0_7 ?su_k0_8 ?nq_k0_8 ?su_k0_9 ?nq_k0_9 ?su_kn0 ?nq_kn0 ?kv0 ?kx0 ?su_k1_0 ?nq_k1_0 ?su_k1_2 ?nq_k1_2 ?su_k1_3 ?nq_k1_3 ?su_k1_4 ?nq_k1_4 ?su_k1_5 ?nq_k1_5 ?su_k1_6 ?nq_k1_6 ?su_k1_7 ?nq_k1_7 ?su_k1_8 ?nq_k1_8 ?su_k1_9 ?nq_k1_9 ?su_kn1 ?nq_kn1 ?kv1 ?kx1 ?su_k2_0 ?nq_k2_0 ?su_k2_1 ?nq_k2_1 ?su_k2_3 ?nq_k2_3 ?su_k2_4 ?nq_k2_4 ?su_k2_5 ?nq_k2_5 ?su_k2_6 ?nq_k2_6 ?su_k2_7 ?nq_k2_7 ?su_k2_8 ?nq_k2_8 ?su_k2_9 ?nq_k2_9 ?su_kn2 ?nq_kn2 ?kv2 ?kx2 ?su_k3_0 ?nq_k3_0 ?su_k3_1 ?nq_k3_1 ?su_k3_2 ?nq_k3_2 ?su_k3_4 ?nq_k3_4 ?su_k3_5 ?nq_k3_5 ?su_k3_6 ?nq_k3_6 ?su_k3_7 ?nq_k3_7 ?su_k3_8 ?nq_k3_8 ?su_k3_9 ?nq_k3_9 ?su_kn3 ?nq_kn3 ?kv3 ?kx3 ?su_k4_0 ?nq_k4_0 ?su_k4_1 ?nq_k4_1 ?su_k4_2 ?nq_k4_2 ?su_k4_3 ?nq_k4_3 ?su_k4_5 ?nq_k4_5 ?su_k4_6 ?nq_k4_6 ?su_k4_7 ?nq_k4_7 ?su_k4_8 ?nq_k4_8 ?su_k4_9 ?nq_k4_9 ?su_kn4 ?nq_kn4 ?kv4 ?kx4 ?su_k5_0 ?nq_k5_0 ?su_k5_1 ?nq_k5_1 ?su_k5_2 ?nq_k5_2 ?su_k5_3 ?nq_k5_3 ?su_k5_4 ?nq_k5_4 ?su_k5_6 ?nq_k5_6 ?su_k5_7 ?nq_k5_7 ?su_k5_8 ?nq_k5_8 ?su_k5_9 ?nq_k5_9 ?su_kn5 ?nq_kn5 ?kv5 ?kx5 ?su_k6_0 ?nq_k6_0 ?su_k6_1 ?nq_k6_1 ?su_k6_2 ?nq_k6_2 ?su_k6_3 ?nq_k6_3 ?su_k6_4 ?nq_k6_4 ?su_k6_5 ?nq_k6_5 ?su_k6_7 ?nq_k6_7 ?su_k6_8 ?nq_k6_8 ?su_k6_9 ?nq_k6_9 ?su_kn6 ?nq_kn6 ?kv6 ?kx6 ?su_k7_0 ?nq_k7_0 ?su_k7_1 ?nq_k7_1 ?su_k7_2 ?nq_k7_2 ?su_k7_3 ?nq_k7_3 ?su_k7_4 ?nq_k7_4 ?su_k7_5 ?nq_k7_5 ?su_k7_6 ?nq_k7_6 ?su_k7_8 ?nq_k7_8 ?su_k7_9 ?nq_k7_9 ?su_kn7 ?nq_kn7 ?kv7 ?kx7 ?su_k8_0 ?nq_k8_0 ?su_k8_1 ?nq_k8_1 ?su_k8_2 ?nq_k8_2 ?su_k8_3 ?nq_k8_3 ?su_k8_4 ?nq_k8_4 ?su_k8_5 ?nq_k8_5 ?su_k8_6 ?nq_k8_6 ?su_k8_7 ?nq_k8_7 ?su_k8_9 ?nq_k8_9 ?su_kn8 ?nq_kn8 ?kv8 ?kx8 ?su_k9_0 ?nq_k9_0 ?su_k9_1 ?nq_k9_1 ?su_k9_2 ?nq_k9_2 ?su_k9_3 ?nq_k9_3 ?su_k9_4 ?nq_k9_4 ?su_k9_5 ?nq_k9_5 ?su_k9_6 ?nq_k9_6 ?su_k9_7 ?nq_k9_7 ?su_k9_8 ?nq_k9_8 ?su_kn9 ?nq_kn9 ?kv9 ?kx9
    (case a_l_feed => k_is)
    (case l_l_feed => k_is)
    (case c_l_feed => k_is)
    (case k_l_feed => k_is)
    (case a_l_take => k_is)
    (case l_l_take => k_is)
    (case c_l_take => k_is)
    (case k_l_take => k_is)
    (case a_l_pick => k_is)
    (case l_l_pick => k_is)
    (case c_l_pick => k_is)
    (case k_l_pick => k_is)
    (case a_l_made => k_is)
    (case l_l_made => k_is)
    (case c_l_made => k_is)
    (case k_l_made => k_is)
    (case a_l_by_name => k_is)
    (case l_l_by_name => k_is)
    (case c_l_by_name => k_is)
    (case k_l_by_name => k_is)
    (case a_l_sorts => k_is)
    (case l_l_sorts => k_is)
    (case c_l_sorts => k_is)
    (case k_l_sorts => k_is)
    (case a_l_held => k_is)
    (case l_l_held => k_is)
    (case c_l_held => k_is)
    (case k_l_held => k_is)
    (case a_law => k_is)
    (case l_law => k_is)
    (case c_law => k_is)
    (case k_law => k_is)
    (case hsup => rfl)
    (case opq => k_is)
    (case zz_super => k_is)
    (case hnI => k_is)
    (case htI => k_is)
    (case a_InvalidRule => k_is)
    (case ic_InvalidRule => k_is)
    (case ty_InvalidRule => k_is)
    (case lk_InvalidRule => k_is)
    (case re_InvalidRule => rfl)
    (case sa_InvalidRule => k_is)
    (case ex_InvalidRule => k_is)
    (case kc_InvalidRule => k_is)
    (case in_InvalidRule => k_is)
    (case fl_InvalidRule => k_is)
    (case fc_InvalidRule => k_is)
    (case co_InvalidRule => k_is)
    (case fv_InvalidRule => rfl)
    (case ff_InvalidRule => rfl)
    (case ce_InvalidRule => k_is)
    (case tf_InvalidRule => k_is)
    (case ks_InvalidRule => ks_is)
    (case sb_InvalidRule => k_is)
    (case mr_InvalidRule => k_is)
    (case fno_InvalidRule => k_is)
    (case ga_InvalidRule => k_is)
    (case gg_InvalidRule => k_is)
    (case hd_InvalidRule => k_is)
    (case ha_InvalidRule => k_is)
    (case mo_InvalidRule => k_is)
    (case ss_InvalidRule => k_is)
    (case a_InvalidPlan => k_is)
    (case ic_InvalidPlan => k_is)
    (case ty_InvalidPlan => k_is)
    (case lk_InvalidPlan => k_is)
    (case re_InvalidPlan => rfl)
    (case sa_InvalidPlan => k_is)
    (case ex_InvalidPlan => k_is)
    (case kc_InvalidPlan => k_is)
    (case in_InvalidPlan => k_is)
    (case fl_InvalidPlan => k_is)
    (case fc_InvalidPlan => k_is)
    (case co_InvalidPlan => k_is)
    (case fv_InvalidPlan => rfl)
    (case ff_InvalidPlan => rfl)
    (case ce_InvalidPlan => k_is)
    (case tf_InvalidPlan => k_is)
    (case ks_InvalidPlan => ks_is)
    (case sb_InvalidPlan => k_is)
    (case mr_InvalidPlan => k_is)
    (case fno_InvalidPlan => k_is)
    (case ga_InvalidPlan => k_is)
    (case gg_InvalidPlan => k_is)
    (case hd_InvalidPlan => k_is)
    (case ha_InvalidPlan => k_is)
    (case mo_InvalidPlan => k_is)
    (case ss_InvalidPlan => k_is)
    (case a_InvalidWorld => k_is)
    (case ic_InvalidWorld => k_is)
    (case ty_InvalidWorld => k_is)
    (case lk_InvalidWorld => k_is)
    (case re_InvalidWorld => rfl)
    (case sa_InvalidWorld => k_is)
    (case ex_InvalidWorld => k_is)
    (case kc_InvalidWorld => k_is)
    (case in_InvalidWorld => k_is)
    (case fl_InvalidWorld => k_is)
    (case fc_InvalidWorld => k_is)
    (case co_InvalidWorld => k_is)
    (case fv_InvalidWorld => rfl)
    (case ff_InvalidWorld => rfl)
    (case ce_InvalidWorld => k_is)
    (case tf_InvalidWorld => k_is)
    (case ks_InvalidWorld => ks_is)
    (case sb_InvalidWorld => k_is)
    (case mr_InvalidWorld => k_is)
    (case fno_InvalidWorld => k_is)
    (case ga_InvalidWorld => k_is)
    (case gg_InvalidWorld => k_is)
    (case hd_InvalidWorld => k_is)
    (case ha_InvalidWorld => k_is)
    (case mo_InvalidWorld => k_is)
    (case ss_InvalidWorld => k_is)
    (case a_InvalidCrowd => k_is)
    (case ic_InvalidCrowd => k_is)
    (case ty_InvalidCrowd => k_is)
    (case lk_InvalidCrowd => k_is)
    (case re_InvalidCrowd => rfl)
    (case sa_InvalidCrowd => k_is)
    (case ex_InvalidCrowd => k_is)
    (case kc_InvalidCrowd => k_is)
    (case in_InvalidCrowd => k_is)
    (case fl_InvalidCrowd => k_is)
    (case fc_InvalidCrowd => k_is)
    (case co_InvalidCrowd => k_is)
    (case fv_InvalidCrowd => rfl)
    (case ff_InvalidCrowd => rfl)
    (case ce_InvalidCrowd => k_is)
    (case tf_InvalidCrowd => k_is)
    (case ks_InvalidCrowd => ks_is)
    (case sb_InvalidCrowd => k_is)
    (case mr_InvalidCrowd => k_is)
    (case fno_InvalidCrowd => k_is)
    (case ga_InvalidCrowd => k_is)
    (case gg_InvalidCrowd => k_is)
    (case hd_InvalidCrowd => k_is)
    (case ha_InvalidCrowd => k_is)
    (case mo_InvalidCrowd => k_is)
    (case ss_InvalidCrowd => k_is)
    (case a_InvalidText => k_is)
    (case ic_InvalidText => k_is)
    (case ty_InvalidText => k_is)
    (case lk_InvalidText => k_is)
    (case re_InvalidText => rfl)
    (case sa_InvalidText => k_is)
    (case ex_InvalidText => k_is)
    (case kc_InvalidText => k_is)
    (case in_InvalidText => k_is)
    (case fl_InvalidText => k_is)
    (case fc_InvalidText => k_is)
    (case co_InvalidText => k_is)
    (case fv_InvalidText => rfl)
    (case ff_InvalidText => rfl)
    (case ce_InvalidText => k_is)
    (case tf_InvalidText => k_is)
    (case ks_InvalidText => ks_is)
    (case sb_InvalidText => k_is)
    (case mr_InvalidText => k_is)
    (case fno_InvalidText => k_is)
    (case ga_InvalidText => k_is)
    (case gg_InvalidText => k_is)
    (case hd_InvalidText => k_is)
    (case ha_InvalidText => k_is)
    (case mo_InvalidText => k_is)
    (case ss_InvalidText => k_is)
    (case a_InvalidEvent => k_is)
    (case ic_InvalidEvent => k_is)
    (case ty_InvalidEvent => k_is)
    (case lk_InvalidEvent => k_is)
    (case re_InvalidEvent => rfl)
    (case sa_InvalidEvent => k_is)
    (case ex_InvalidEvent => k_is)
    (case kc_InvalidEvent => k_is)
    (case in_InvalidEvent => k_is)
    (case fl_InvalidEvent => k_is)
    (case fc_InvalidEvent => k_is)
    (case co_InvalidEvent => k_is)
    (case fv_InvalidEvent => rfl)
    (case ff_InvalidEvent => rfl)
    (case ce_InvalidEvent => k_is)
    (case tf_InvalidEvent => k_is)
    (case ks_InvalidEvent => ks_is)
    (case sb_InvalidEvent => k_is)
    (case mr_InvalidEvent => k_is)
    (case fno_InvalidEvent => k_is)
    (case ga_InvalidEvent => k_is)
    (case gg_InvalidEvent => k_is)
    (case hd_InvalidEvent => k_is)
    (case ha_InvalidEvent => k_is)
    (case mo_InvalidEvent => k_is)
    (case ss_InvalidEvent => k_is)
    (case a_Refused => k_is)
    (case ic_Refused => k_is)
    (case ty_Refused => k_is)
    (case lk_Refused => k_is)
    (case re_Refused => rfl)
    (case sa_Refused => k_is)
    (case ex_Refused => k_is)
    (case kc_Refused => k_is)
    (case in_Refused => k_is)
    (case fl_Refused => k_is)
    (case fc_Refused => k_is)
    (case co_Refused => k_is)
    (case fv_Refused => rfl)
    (case ff_Refused => rfl)
    (case ce_Refused => k_is)
    (case tf_Refused => k_is)
    (case ks_Refused => ks_is)
    (case sb_Refused => k_is)
    (case mr_Refused => k_is)
    (case fno_Refused => k_is)
    (case ga_Refused => k_is)
    (case gg_Refused => k_is)
    (case hd_Refused => k_is)
    (case ha_Refused => k_is)
    (case mo_Refused => k_is)
    (case ss_Refused => k_is)
    (case a_NoRule => k_is)
    (case ic_NoRule => k_is)
    (case ty_NoRule => k_is)
    (case lk_NoRule => k_is)
    (case re_NoRule => rfl)
    (case sa_NoRule => k_is)
    (case ex_NoRule => k_is)
    (case kc_NoRule => k_is)
    (case in_NoRule => k_is)
    (case fl_NoRule => k_is)
    (case fc_NoRule => k_is)
    (case co_NoRule => k_is)
    (case fv_NoRule => rfl)
    (case ff_NoRule => rfl)
    (case ce_NoRule => k_is)
    (case tf_NoRule => k_is)
    (case ks_NoRule => ks_is)
    (case sb_NoRule => k_is)
    (case mr_NoRule => k_is)
    (case fno_NoRule => k_is)
    (case ga_NoRule => k_is)
    (case gg_NoRule => k_is)
    (case hd_NoRule => k_is)
    (case ha_NoRule => k_is)
    (case mo_NoRule => k_is)
    (case ss_NoRule => k_is)
    (case a_InvalidGoal => k_is)
    (case ic_InvalidGoal => k_is)
    (case ty_InvalidGoal => k_is)
    (case lk_InvalidGoal => k_is)
    (case re_InvalidGoal => rfl)
    (case in_InvalidGoal => k_is)
    (case kc_InvalidGoal => k_is)
    (case ex_InvalidGoal => k_is)
    (case ga_InvalidGoal => k_is)
    (case gg_InvalidGoal => k_is)
    (case hd_InvalidGoal => k_is)
    (case ha_InvalidGoal => k_is)
    (case mo_InvalidGoal => k_is)
    (case a_InvalidCommand => k_is)
    (case ic_InvalidCommand => k_is)
    (case ty_InvalidCommand => k_is)
    (case lk_InvalidCommand => k_is)
    (case re_InvalidCommand => rfl)
    (case in_InvalidCommand => k_is)
    (case kc_InvalidCommand => k_is)
    (case ex_InvalidCommand => k_is)
    (case ga_InvalidCommand => k_is)
    (case gg_InvalidCommand => k_is)
    (case hd_InvalidCommand => k_is)
    (case ha_InvalidCommand => k_is)
    (case mo_InvalidCommand => k_is)
    (case a_NightError => k_is)
    (case ic_NightError => k_is)
    (case ty_NightError => k_is)
    (case zz_int => k_is)
    (case zz_len => k_is)
    (case zz_abs => k_is)
    (case zz_isinstance => k_is)
    (case zz_range => k_is)
    (case zz_max => k_is)
    (case zz_min => k_is)
    (case zz_zip => k_is)
    (case zz_repr => k_is)
    (case zz_enumerate => k_is)
    (case zz_ValueError => k_is)
    (case zz_IndexError => k_is)
    (case su_k0_1 => k_is)
    (case nq_k0_1 => rfl)
    (case su_k0_2 => k_is)
    (case nq_k0_2 => rfl)
    (case su_k0_3 => k_is)
    (case nq_k0_3 => rfl)
    (case su_k0_4 => k_is)
    (case nq_k0_4 => rfl)
    (case su_k0_5 => k_is)
    (case nq_k0_5 => rfl)
    (case su_k0_6 => k_is)
    (case nq_k0_6 => rfl)
    (case su_k0_7 => k_is)
    (case nq_k0_7 => rfl)
    (case su_k0_8 => k_is)
    (case nq_k0_8 => rfl)
    (case su_k0_9 => k_is)
    (case nq_k0_9 => rfl)
    (case su_kn0 => k_is)
    (case nq_kn0 => rfl)
    (case kv0 => k_is)
    (case kx0 => k_is)
    (case su_k1_0 => k_is)
    (case nq_k1_0 => rfl)
    (case su_k1_2 => k_is)
    (case nq_k1_2 => rfl)
    (case su_k1_3 => k_is)
    (case nq_k1_3 => rfl)
    (case su_k1_4 => k_is)
    (case nq_k1_4 => rfl)
    (case su_k1_5 => k_is)
    (case nq_k1_5 => rfl)
    (case su_k1_6 => k_is)
    (case nq_k1_6 => rfl)
    (case su_k1_7 => k_is)
    (case nq_k1_7 => rfl)
    (case su_k1_8 => k_is)
    (case nq_k1_8 => rfl)
    (case su_k1_9 => k_is)
    (case nq_k1_9 => rfl)
    (case su_kn1 => k_is)
    (case nq_kn1 => rfl)
    (case kv1 => k_is)
    (case kx1 => k_is)
    (case su_k2_0 => k_is)
    (case nq_k2_0 => rfl)
    (case su_k2_1 => k_is)
    (case nq_k2_1 => rfl)
    (case su_k2_3 => k_is)
    (case nq_k2_3 => rfl)
    (case su_k2_4 => k_is)
    (case nq_k2_4 => rfl)
    (case su_k2_5 => k_is)
    (case nq_k2_5 => rfl)
    (case su_k2_6 => k_is)
    (case nq_k2_6 => rfl)
    (case su_k2_7 => k_is)
    (case nq_k2_7 => rfl)
    (case su_k2_8 => k_is)
    (case nq_k2_8 => rfl)
    (case su_k2_9 => k_is)
    (case nq_k2_9 => rfl)
    (case su_kn2 => k_is)
    (case nq_kn2 => rfl)
    (case kv2 => k_is)
    (case kx2 => k_is)
    (case su_k3_0 => k_is)
    (case nq_k3_0 => rfl)
    (case su_k3_1 => k_is)
    (case nq_k3_1 => rfl)
    (case su_k3_2 => k_is)
    (case nq_k3_2 => rfl)
    (case su_k3_4 => k_is)
    (case nq_k3_4 => rfl)
    (case su_k3_5 => k_is)
    (case nq_k3_5 => rfl)
    (case su_k3_6 => k_is)
    (case nq_k3_6 => rfl)
    (case su_k3_7 => k_is)
    (case nq_k3_7 => rfl)
    (case su_k3_8 => k_is)
    (case nq_k3_8 => rfl)
    (case su_k3_9 => k_is)
    (case nq_k3_9 => rfl)
    (case su_kn3 => k_is)
    (case nq_kn3 => rfl)
    (case kv3 => k_is)
    (case kx3 => k_is)
    (case su_k4_0 => k_is)
    (case nq_k4_0 => rfl)
    (case su_k4_1 => k_is)
    (case nq_k4_1 => rfl)
    (case su_k4_2 => k_is)
    (case nq_k4_2 => rfl)
    (case su_k4_3 => k_is)
    (case nq_k4_3 => rfl)
    (case su_k4_5 => k_is)
    (case nq_k4_5 => rfl)
    (case su_k4_6 => k_is)
    (case nq_k4_6 => rfl)
    (case su_k4_7 => k_is)
    (case nq_k4_7 => rfl)
    (case su_k4_8 => k_is)
    (case nq_k4_8 => rfl)
    (case su_k4_9 => k_is)
    (case nq_k4_9 => rfl)
    (case su_kn4 => k_is)
    (case nq_kn4 => rfl)
    (case kv4 => k_is)
    (case kx4 => k_is)
    (case su_k5_0 => k_is)
    (case nq_k5_0 => rfl)
    (case su_k5_1 => k_is)
    (case nq_k5_1 => rfl)
    (case su_k5_2 => k_is)
    (case nq_k5_2 => rfl)
    (case su_k5_3 => k_is)
    (case nq_k5_3 => rfl)
    (case su_k5_4 => k_is)
    (case nq_k5_4 => rfl)
    (case su_k5_6 => k_is)
    (case nq_k5_6 => rfl)
    (case su_k5_7 => k_is)
    (case nq_k5_7 => rfl)
    (case su_k5_8 => k_is)
    (case nq_k5_8 => rfl)
    (case su_k5_9 => k_is)
    (case nq_k5_9 => rfl)
    (case su_kn5 => k_is)
    (case nq_kn5 => rfl)
    (case kv5 => k_is)
    (case kx5 => k_is)
    (case su_k6_0 => k_is)
    (case nq_k6_0 => rfl)
    (case su_k6_1 => k_is)
    (case nq_k6_1 => rfl)
    (case su_k6_2 => k_is)
    (case nq_k6_2 => rfl)
    (case su_k6_3 => k_is)
    (case nq_k6_3 => rfl)
    (case su_k6_4 => k_is)
    (case nq_k6_4 => rfl)
    (case su_k6_5 => k_is)
    (case nq_k6_5 => rfl)
    (case su_k6_7 => k_is)
    (case nq_k6_7 => rfl)
    (case su_k6_8 => k_is)
    (case nq_k6_8 => rfl)
    (case su_k6_9 => k_is)
    (case nq_k6_9 => rfl)
    (case su_kn6 => k_is)
    (case nq_kn6 => rfl)
    (case kv6 => k_is)
    (case kx6 => k_is)
    (case su_k7_0 => k_is)
    (case nq_k7_0 => rfl)
    (case su_k7_1 => k_is)
    (case nq_k7_1 => rfl)
    (case su_k7_2 => k_is)
    (case nq_k7_2 => rfl)
    (case su_k7_3 => k_is)
    (case nq_k7_3 => rfl)
    (case su_k7_4 => k_is)
    (case nq_k7_4 => rfl)
    (case su_k7_5 => k_is)
    (case nq_k7_5 => rfl)
    (case su_k7_6 => k_is)
    (case nq_k7_6 => rfl)
    (case su_k7_8 => k_is)
    (case nq_k7_8 => rfl)
    (case su_k7_9 => k_is)
    (case nq_k7_9 => rfl)
    (case su_kn7 => k_is)
    (case nq_kn7 => rfl)
    (case kv7 => k_is)
    (case kx7 => k_is)
    (case su_k8_0 => k_is)
    (case nq_k8_0 => rfl)
    (case su_k8_1 => k_is)
    (case nq_k8_1 => rfl)
    (case su_k8_2 => k_is)
    (case nq_k8_2 => rfl)
    (case su_k8_3 => k_is)
    (case nq_k8_3 => rfl)
    (case su_k8_4 => k_is)
    (case nq_k8_4 => rfl)
    (case su_k8_5 => k_is)
    (case nq_k8_5 => rfl)
    (case su_k8_6 => k_is)
    (case nq_k8_6 => rfl)
    (case su_k8_7 => k_is)
    (case nq_k8_7 => rfl)
    (case su_k8_9 => k_is)
    (case nq_k8_9 => rfl)
    (case su_kn8 => k_is)
    (case nq_kn8 => rfl)
    (case kv8 => k_is)
    (case kx8 => k_is)
    (case su_k9_0 => k_is)
    (case nq_k9_0 => rfl)
    (case su_k9_1 => k_is)
    (case nq_k9_1 => rfl)
    (case su_k9_2 => k_is)
    (case nq_k9_2 => rfl)
    (case su_k9_3 => k_is)
    (case nq_k9_3 => rfl)
    (case su_k9_4 => k_is)
    (case nq_k9_4 => rfl)
    (case su_k9_5 => k_is)
    (case nq_k9_5 => rfl)
    (case su_k9_6 => k_is)
    (case nq_k9_6 => rfl)
    (case su_k9_7 => k_is)
    (case nq_k9_7 => rfl)
    (case su_k9_8 => k_is)
    (case nq_k9_8 => rfl)
    (case su_kn9 => k_is)
    (case nq_kn9 => rfl)
    (case kv9 => k_is)
    (case kx9 => k_is)
